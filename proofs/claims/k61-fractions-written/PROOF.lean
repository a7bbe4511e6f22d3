import PyProof.Rows.All
import Wide.All
import OpenK.AllK
import Wide.FinOn
import HandS.ForMost
import HandS.Wide
import HandS.FStr
import HandS.IsInst
import HandS.Defaults
import HandS.Codes
import HandS.TupAny
import HandS.Exc
import HandS.WordsExc
import HandS.Steps
import HandS.Walk
import HandS.Evl
import HandS.Head0
import HandS.Head1
import HandS.Head2
import HandS.HeadEnd
import HandS.HeadHook1
import HandS.HeadHook2
import PySem.Challenge.RW_dearsigns_k61_fractions_written
set_option Elab.async false
set_option linter.all false
set_option maxRecDepth 100000
set_option maxHeartbeats 4000000
/-! Zk: own reading steps over the hand layer. -/
namespace Z
open PySem PySem.Spec PyProof.Rows L2

/-! ### calls of defs, packed -/
structure Cf (P : Program) (w : World) (K : PySem.W.Frag) (mg : Str → Option Value) (base : Heap) (CX : CXT) (k : Nat) (x : Str) (sp : Sp) (dvs : List V) : Prop where
  ex : ∃ (f : Addr) (fd : FuncData) (ps : List Str) (ds : List Value), FnOk P w K mg base CX k f fd ps sp ∧ mg x = some (.ref f) ∧ PySem.W.keepIn K (.ref f) = true ∧ Binds K fd ps ds ∧ Vals dvs ds
abbrev C0 (P : Program) (w : World) (K : PySem.W.Frag) (mg : Str → Option Value) (base : Heap) (k : Nat) (x : Str) (sp : Sp) : Prop := Cf P w K mg base CX0 k x sp []
abbrev CE (P : Program) (w : World) (K : PySem.W.Frag) (mg : Str → Option Value) (base : Heap) (k : Nat) (x : Str) (sp : Sp) : Prop := Cf P w K mg base (L2.CX P w) k x sp []
theorem Cf.mono {P : Program} {w : World} {K : PySem.W.Frag} {mg : Str → Option Value} {base : Heap} {CX : CXT} {j k : Nat} {x : Str} {sp : Sp} {dvs : List V} (c : Cf P w K mg base CX j x sp dvs) (h : j ≤ k) : Cf P w K mg base CX k x sp dvs := by
  obtain ⟨f, fd, ps, ds, F, r⟩ := c.ex
  exact ⟨f, fd, ps, ds, F.mono h, r⟩
section
variable {X : Cx} {k j : Nat} {x : Str} {sp : Sp} {dvs : List V} {p pos : Pos} {e : Expr} {es : List Expr} {t : TA}
theorem pe_c0 (c : Cf X.prog X.w X.K X.mg X.base CX0 k x sp dvs) (hr : Room j X.A) (hk : k ≤ j) (hg : Gl X x) (ha : PA X (e :: es) t)
    (hdb : (x == ("__debug__" : Str)) = false := by decide) (he : starEach (e :: es) X.env = (false, eval e X.env) :: starEach es X.env := by rfl) (hpl : (backTo pos (starEach es X.env)).any (·.1) = false := by rfl) :
    PE X (.Call (.Name x p) (e :: es) [] pos) (tCall sp dvs E0 t) := by
  obtain ⟨f, fd, ps, ds, F, hm, kp, b, d⟩ := c.ex
  exact pe_call F (hr.mono hk) hg hm kp b d pass0 ha hdb he hpl
end
/-- a def as it stands behind the top -/
structure At (K : PySem.W.Frag) (mg : Str → Option Value) (g x : Str) (st : Stmt) (dvs : List V) : Prop where
  ex : ∃ (f : Addr) (fd : FuncData), FunD K x x (defArgs st) (defBody st) (defScope st) dvs [] f fd ∧ mg g = some (.ref f)
section
variable {P : Program} {w : World} {K : PySem.W.Frag} {mg : Str → Option Value} {base : Heap} {g x : Str} {st : Stmt} {dvs : List V}
/-- binding where nothing has a default; h is «fun _ _ _ _ _ _ us hl => match us, hl with | [_, _], _ => rfl» -/
theorem bd0 {ps : List Str} (h : ∀ (kV doc pm : Value) (an : Option Addr) (cdv ct : Value) (us : List Value), us.length = ps.length → bindArgs (PySem.W.fnOf x x (defArgs st) (defBody st) (defScope st) .none kV doc pm an cdv ct) ⟨us, []⟩ = pure (ps.zip us)) :
    ∀ (f : Addr) (fd : FuncData), FunD K x x (defArgs st) (defBody st) (defScope st) [] [] f fd → Binds K fd ps [] := fun f fd F => by
  obtain ⟨oc, od, dV, kV, doc, pm, an, cdv, ct, osl, rfl, _, _, hD, _⟩ := F.ex
  rcases hD with ⟨_, rfl⟩ | ⟨n, _⟩
  · exact .all (h kV doc pm an cdv ct)
  · exact absurd rfl n
/-- all given, some have defaults; h is «fun _ _ _ _ _ _ _ us its hu hi => match us, its, hu, hi with | [_, _], [_], _, _ => ⟨_, rfl, rfl⟩» -/
theorem bd1 {ps : List Str} (hd : dvs ≠ []) (h : ∀ (T : Addr) (kV doc pm : Value) (an : Option Addr) (cdv ct : Value) (us its : List Value), us.length = ps.length → its.length = dvs.length →
      ∃ k, bindArgs (PySem.W.fnOf x x (defArgs st) (defBody st) (defScope st) (.ref T) kV doc pm an cdv ct) ⟨us, []⟩ = seqItems? (.ref T) >>= k ∧ k (some its.toArray) = pure (ps.zip (us ++ its.drop dvs.length))) :
    ∀ (f : Addr) (fd : FuncData), FunD K x x (defArgs st) (defBody st) (defScope st) dvs [] f fd → Binds K fd ps [] := fun f fd F => by
  obtain ⟨ds, v, b⟩ := F.binds1 ps.length dvs.length hd (by omega) h
  rw [List.drop_length] at v
  cases v
  exact b
/-- THE RULE: h is «fun _ _ _ _ _ _ us hl => match us, hl with | [_, _], _ => rfl» -/
theorem At.c0 {N ps : List Str} {k : Nat} {sp : Sp} (F : At K mg g x st dvs) (S : FnScope N ps (defScope st)) (len : ∀ vs H Q E, sp vs H Q E → vs.length = ps.length)
    (b : ∀ (f : Addr) (fd : FuncData), FunD K x x (defArgs st) (defBody st) (defScope st) dvs [] f fd → Binds K fd ps [])
    (hbody : ∀ (f : Addr) (cdv : Value) (A : Around) (outer : List Env) (s : Shared) (H : Hp) (vs : List V) (Q : VK) (E : XK), Room k (A.deeper (envOfC x (defScope st) s.heap.objs.size f cdv)) → sp vs H Q E →
      ∃ t, PSs (cxOf CX0 P w K mg base N x (defScope st) f cdv A outer s H E).nox (defBody st) t ∧ t { nx := fun _ H' => Q .non H', rt := Q } (start N vs) H) : C0 P w K mg base (k + 1) g sp := by
  obtain ⟨f, fd, F, hm⟩ := F.ex
  have G : FnOk P w K mg base CX0 (k + 1) f fd ps sp := F.ok S len fun cdv A outer s H vs Q E hr h => by
    obtain ⟨t, h1, h2⟩ := hbody f cdv A outer s H vs Q E hr h
    exact ⟨t, h1.nox, h2⟩
  exact ⟨f, fd, ps, [], G, hm, F.kp, b f fd F, .nil⟩
theorem At.ce {N ps : List Str} {k : Nat} {sp : Sp} (F : At K mg g x st dvs) (S : FnScope N ps (defScope st)) (len : ∀ vs H Q E, sp vs H Q E → vs.length = ps.length)
    (b : ∀ (f : Addr) (fd : FuncData), FunD K x x (defArgs st) (defBody st) (defScope st) dvs [] f fd → Binds K fd ps [])
    (hbody : ∀ (f : Addr) (cdv : Value) (A : Around) (outer : List Env) (s : Shared) (H : Hp) (vs : List V) (Q : VK) (E : XK), Room k (A.deeper (envOfC x (defScope st) s.heap.objs.size f cdv)) → sp vs H Q E →
      ∃ t, PSs (cxOf (L2.CX P w) P w K mg base N x (defScope st) f cdv A outer s H E) (defBody st) t ∧ t { nx := fun _ H' => Q .non H', rt := Q } (start N vs) H) : CE P w K mg base (k + 1) g sp := by
  obtain ⟨f, fd, F, hm⟩ := F.ex
  have G : FnOk P w K mg base (L2.CX P w) (k + 1) f fd ps sp := F.ok S len fun cdv A outer s H vs Q E hr h => hbody f cdv A outer s H vs Q E hr h
  exact ⟨f, fd, ps, [], G, hm, F.kp, b f fd F, .nil⟩
end

section
variable {P : Program} {w : World} {K : PySem.W.Frag} {mg : Str → Option Value} {g x : Str} {st : Stmt} {dvs : List V}
/-- the law itself -/
theorem At.law {N : List Str} {p : Str} {k : Nat} {sp : Sp} {fa : Addr} (F : At K mg g x st []) (hmg : mg g = some (.ref fa)) (S : FnScope N [p] (defScope st)) (len : ∀ vs H Q E, sp vs H Q E → vs.length = 1)
    (b : ∀ (kV doc pm : Value) (an : Option Addr) (cdv ct : Value) (u : Value), bindArgs (PySem.W.fnOf x x (defArgs st) (defBody st) (defScope st) .none kV doc pm an cdv ct) ⟨[u], []⟩ = pure [(p, u)])
    (hbody : ∀ (base : Heap) (f : Addr) (cdv : Value) (A : Around) (outer : List Env) (s : Shared) (H : Hp) (vs : List V) (Q : VK) (E : XK), Room k (A.deeper (envOfC x (defScope st) s.heap.objs.size f cdv)) → sp vs H Q E →
      ∃ t, PSs (cxOf CX0 P w K mg base N x (defScope st) f cdv A outer s H E).nox (defBody st) t ∧ t { nx := fun _ H' => Q .non H', rt := Q } (start N vs) H) :
    ∃ fd : FuncData, (∀ (s : Shared) (u : Value), BindsTo s fd ⟨[u], []⟩ [(p, u)]) ∧ ∀ base : Heap, FnOk P w K mg base CX0 (k + 1) fa fd [p] sp := by
  obtain ⟨f, fd, F, hm⟩ := F.ex
  have e : fa = f := by
    have h := hmg.symm.trans hm
    injection h with h
    injection h
  subst e
  refine ⟨fd, ?_, fun base => F.ok S len fun cdv A outer s H vs Q E hr h => ?_⟩
  · obtain ⟨oc, od, dV, kV, doc, pm, an, cdv, ct, osl, rfl, _, _, hD, _⟩ := F.ex
    rcases hD with ⟨_, rfl⟩ | ⟨n, _⟩
    · exact fun s u => .of_eq (b kV doc pm an cdv ct u)
    · exact absurd rfl n
  · obtain ⟨t, h1, h2⟩ := hbody base fa cdv A outer s H vs Q E hr h
    exact ⟨t, h1.nox, h2⟩
end

/-! ### operations of several kinds -/
section
variable {X : Cx}
def rAddS : R2 := fun x y H Q => ∃ i j, x = .str i ∧ y = .str j ∧ i.length + j.length ≤ sizeLine ∧ Q (.str (i ++ j)) H
def rAddI : R2 := rI0 fun i j => .int (i + j)
def rAddP (K : PySem.W.Frag) : R2 := fun x y H Q => rAddI x y H Q ∨ rAddS x y H Q ∨ rCat x y H Q ∨ rCatA K x y H Q
theorem op_addP : OpR X (binaryOp .Add) (rAddP X.K) := OpR.or op_add (OpR.or op_add_str (OpR.or op_cat op_catA))
def CMulP (i j : Int) : Prop := CMul i j ∨ CMulW i j
theorem op_mulI : OpR X (binaryOp .Mult) (rI CMulP fun i j => .int (i * j)) := opI fun _ _ _ _ _ _ _ hc q => mul_int q (hc.elim CMul.ok CMulW.ok)
def rMulI : R2 := rI CMulP fun i j => .int (i * j)
def rMulP : R2 := fun x y H Q => rMulI x y H Q ∨ rRep x y H Q
theorem op_mulP : OpR X (binaryOp .Mult) rMulP := OpR.or op_mulI op_rep
def CDivP (i j : Int) : Prop := CDiv i j ∨ CDivW i j
theorem op_fdivP : OpR X (binaryOp .FloorDiv) (rI CDivP fun i j => .int (i / j)) := opI fun i j t u s Q E hc q => by
  have h1 : (0 : Int) < j := by rcases hc with h | h <;> exact h.1
  refine floordiv_int (by omega) (by rw [Int.fdiv_eq_ediv_of_nonneg i (by omega)]; exact q) (.inl ?_)
  rcases hc with h | h
  · have h2 := h.2
    exact PyProof.noPylong_small (by omega)
  · exact PyProof.noPylong_of_log2 h.2
def rDiv : R2 := rI CDivP fun i j => .int (i / j)
def rMod : R2 := rI (fun _ j => 0 < j) fun i j => .int (i % j)
def rSub : R2 := rI0 fun i j => .int (i - j)
def rPow : R2 := rI CPow fun i j => .int (i ^ j.toNat)
theorem op_div : OpR X (binaryOp .FloorDiv) rDiv := op_fdivP
theorem op_modP : OpR X (binaryOp .Mod) rMod := op_mod
theorem op_subI : OpR X (binaryOp .Sub) rSub := op_sub
theorem op_powI : OpR X (binaryOp .Pow) rPow := op_pow
def rEqP (K : PySem.W.Frag) : R2 := fun x y H Q => rEq x y H Q ∨ rEqD K x y H Q
def rNeP (K : PySem.W.Frag) : R2 := fun x y H Q => rNe x y H Q ∨ rNeD K x y H Q
theorem op_eqP (hu : X.A.units + 64 < cLine) : OpR X (compareOp .Eq) (rEqP X.K) := OpR.or op_eq (op_eqD hu)
theorem op_neP (hu : X.A.units + 64 < cLine) : OpR X (compareOp .NotEq) (rNeP X.K) := OpR.or op_ne (op_neD hu)
def rLtI : R2 := rI0 fun i j => .bl (decide (i < j))
def rLeI : R2 := rI0 fun i j => .bl (decide (i ≤ j))
def rGtI : R2 := rI0 fun i j => .bl (decide (j < i))
def rGeI : R2 := rI0 fun i j => .bl (decide (j ≤ i))
theorem op_ltI : OpR X (compareOp .Lt) rLtI := op_lt
theorem op_leI : OpR X (compareOp .LtE) rLeI := op_le
theorem op_gtI : OpR X (compareOp .Gt) rGtI := op_gt
theorem op_geI : OpR X (compareOp .GtE) rGeI := op_ge
def rIs : R2 := fun x y H Q => y = .non ∧ Q (.bl (decide (x = .non))) H
def rIsNot : R2 := fun x y H Q => y = .non ∧ Q (.bl (!decide (x = .non))) H
theorem op_isP : OpR X (compareOp .Is) rIs := op_isN
theorem op_isNotP : OpR X (compareOp .IsNot) rIsNot := op_notN
/-- one sign in a text; a flat thing in a list or tuple of flat things -/
def rInT (neg : Bool) : R2 := fun x y H Q => ∃ (c : Nat) (z : Str), x = .str ⟨#[c]⟩ ∧ y = .str z ∧ Q (.bl (if neg then !decide (c ∈ z.cps.toList) else decide (c ∈ z.cps.toList))) H
def rInP (K : PySem.W.Frag) (neg : Bool) : R2 := fun x y H Q => rInT neg x y H Q ∨ rIn K neg x y H Q
theorem op_inP : OpR X (compareOp .In) (rInP X.K false) := OpR.or op_in_sign op_in_seq
theorem op_notInP : OpR X (compareOp .NotIn) (rInP X.K true) := OpR.or op_notIn_sign op_notIn_seq
def rSlP (K : PySem.W.Frag) : V → Option Int → Option Int → Hp → VK → Prop := fun x lo hi H Q => rSlL K x lo hi H Q ∨ rSlS x lo hi H Q ∨ rSlA K x lo hi H Q
theorem sl_any : SlR X (rSlP X.K) := sl_list.or (sl_str.or sl_tupA)
/-- calls of builtins -/
def cLen (K : PySem.W.Frag) : List V → Hp → VK → Prop := fun xs H Q => ∃ x n, xs = [x] ∧ LenV K x H n ∧ Q (.int n) H
theorem call_lenP : CallR X (.builtin "len") (cLen X.K) := call_len
def cAbs : List V → Hp → VK → Prop := fun xs H Q => ∃ i, xs = [.int i] ∧ Q (.int (if i < 0 then -i else i)) H
theorem call_absP : CallR X (.builtin "abs") cAbs := call_abs
def cMax : List V → Hp → VK → Prop := fun xs H Q => ∃ i j, xs = [.int i, .int j] ∧ Q (.int (if j > i then j else i)) H
theorem call_maxP (hc : X.calm = true) : CallR X (.builtin "max") cMax := call_max2 hc
def cMin : List V → Hp → VK → Prop := fun xs H Q => ∃ i j, xs = [.int i, .int j] ∧ Q (.int (if j < i then j else i)) H
theorem call_minP (hc : X.calm = true) : CallR X (.builtin "min") cMin := call_min2 hc
def cStr : List V → Hp → VK → Prop := fun xs H Q => ∃ i, xs = [.int i] ∧ i.natAbs.log2 < 1920 ∧ Q (.str (toString i)) H
theorem call_strP : CallR X (.type "str") cStr := call_str_int
def cInt : List V → Hp → VK → Prop := fun xs H Q => ∃ a n, xs = [.str a] ∧ PySem.intText? a = some n ∧ a.length ≤ 640 ∧ Q (.int n) H
theorem call_intP : CallR X (.type "int") cInt := call_int_str
def cList (K : PySem.W.Frag) : List V → Hp → VK → Prop := fun xs H Q => ∃ p ys, xs = [.ref p] ∧ (SqL K H p ys ∨ SqT K H p ys) ∧ ∀ l, H l = none → Q (.ref l) (upd H l (.lst ys))
theorem call_listP : CallR X (.type "list") (cList X.K) := call_list_of
def mSplit : V → List V → Hp → VK → Prop := fun x xs H Q => ∃ a b, x = .str a ∧ xs = [.str b] ∧ (b.length == 0) = false ∧ a.length + 2 ≤ sizeLine ∧ rNewStrs (Txt.split a b) H Q
theorem mt_splitP : MtR X "str.split" mSplit := mt_split
def mJoin (K : PySem.W.Frag) : V → List V → Hp → VK → Prop := fun x xs H Q => ∃ a p, ∃ ys : List Str, x = .str a ∧ xs = [.ref p] ∧ (SqL K H p (ys.map V.str) ∨ SqT K H p (ys.map V.str)) ∧ (ys.map (·.length)).sum + ys.length * a.length ≤ 16777216 ∧ Q (.str (Txt.join a ys)) H
end

/-! the written part's name kept: K in place of X.K (a block's context is another one) -/
section
variable {X : Cx}
theorem k_addP (K : PySem.W.Frag) (hK : X.K = K := by rfl) : OpR X (binaryOp .Add) (rAddP K) := hK ▸ op_addP
theorem k_eqP (K : PySem.W.Frag) (hu : X.A.units + 64 < cLine) (hK : X.K = K := by rfl) : OpR X (compareOp .Eq) (rEqP K) := hK ▸ op_eqP hu
theorem k_neP (K : PySem.W.Frag) (hu : X.A.units + 64 < cLine) (hK : X.K = K := by rfl) : OpR X (compareOp .NotEq) (rNeP K) := hK ▸ op_neP hu
theorem k_inP (K : PySem.W.Frag) (hK : X.K = K := by rfl) : OpR X (compareOp .In) (rInP K false) := hK ▸ op_inP
theorem k_notInP (K : PySem.W.Frag) (hK : X.K = K := by rfl) : OpR X (compareOp .NotIn) (rInP K true) := hK ▸ op_notInP
theorem k_ix (K : PySem.W.Frag) (hK : X.K = K := by rfl) : IxR X (rIx K) := hK ▸ ix_seq
theorem k_sl (K : PySem.W.Frag) (hK : X.K = K := by rfl) : SlR X (rSlP K) := hK ▸ sl_any
theorem k_len (K : PySem.W.Frag) (hK : X.K = K := by rfl) : CallR X (.builtin "len") (cLen K) := hK ▸ call_lenP
theorem k_isi (K : PySem.W.Frag) (hK : X.K = K := by rfl) : CallR X (.builtin "isinstance") (rIsi K) := hK ▸ call_isi
theorem k_isiT (K : PySem.W.Frag) (hK : X.K = K := by rfl) : CallR X (.builtin "isinstance") (rIsiT K) := hK ▸ call_isiT
theorem k_all (K : PySem.W.Frag) (hc : X.calm = true) (hK : X.K = K := by rfl) : CallR X (.builtin "all") (rAll K) := hK ▸ cr_all hc
theorem k_any (K : PySem.W.Frag) (hc : X.calm = true) (hK : X.K = K := by rfl) : CallR X (.builtin "any") (rAny K) := hK ▸ cr_any hc
theorem k_list (K : PySem.W.Frag) (hK : X.K = K := by rfl) : CallR X (.type "list") (cList K) := hK ▸ call_listP
theorem k_join (K : PySem.W.Frag) (hK : X.K = K := by rfl) : MtR X "str.join" (mJoin K) := hK ▸ mt_join
variable {o e : Expr} {es : List Expr} {to te : TE} {t : TA} {name : Str} {id : String} {T : String} {apos cpos pos : Pos}
theorem k_bm0 (K : PySem.W.Frag) {r : V → List V → Hp → VK → Prop} (pa : PlainAttrs T) (slot : Slot T name id) (hty : typeOf (.builtin id) = pure (.type "method_descriptor")) (hm : MtR X id r) (ho : PE X o to)
    (hbase : attributeBase o name X.env (eval o X.env) = eval o X.env := by rfl) (hline : (apos.endLine == cpos.line) = true := by rfl) (hK : X.K = K := by rfl) : PE X (.Call (.Attribute o name apos) [] [] cpos) (tBM0 K T r to) := hK ▸ pe_bm0 pa slot hty hm ho hbase hline
theorem k_bm (K : PySem.W.Frag) {r : V → List V → Hp → VK → Prop} (pa : PlainAttrs T) (slot : Slot T name id) (hty : typeOf (.builtin id) = pure (.type "method_descriptor")) (hm : MtR X id r) (ho : PE X o to) (ha : PA X (e :: es) t)
    (hbase : attributeBase o name X.env (eval o X.env) = eval o X.env := by rfl)
    (hfew : ((backTo cpos (starEach (e :: es) X.env)).all (fun x => !x.1) && (backToKw cpos (keywordEach [] X.env)).all (fun x => x.1.isSome)
      && decide ((e :: es).length + ([] : List Keyword).length + (if ([] : List Keyword).isEmpty then 0 else 1) < 30)) = true := by rfl)
    (hline : (apos.endLine == cpos.line) = true := by rfl) (hs : starEach (e :: es) X.env = (false, eval e X.env) :: starEach es X.env := by rfl) (hplain : (backTo cpos (starEach es X.env)).any (·.1) = false := by rfl) (hK : X.K = K := by rfl) :
    PE X (.Call (.Attribute o name apos) (e :: es) [] cpos) (tBM K T r to t) := hK ▸ pe_bm pa slot hty hm ho ha hbase hfew hline hs hplain
theorem k_tup (K : PySem.W.Frag) {es : List Expr} {k : Nat} {t : TGs} {n : Nat} (hc : X.calm = true) (h : PGs X es t)
    (hn : (assignEach es X.env).length = n := by rfl) (hst : (assignEach es X.env).findIdx? (·.1) = none := by rfl) (hK : X.K = K := by rfl) : PG X (.Tuple es k pos) (gTup K n t) := hK ▸ pg_tup hc h hn hst
theorem k_iL (K : PySem.W.Frag) {tg l : Expr} {tl : TE} (hl : PE X l tl) (hK : X.K = K := by rfl) : PI X tg l (iList K tl) := hK ▸ pi_list hl
theorem k_iT (K : PySem.W.Frag) {tg l : Expr} {tl : TE} (hl : PE X l tl) (hK : X.K = K := by rfl) : PI X tg l (iTup K tl) := hK ▸ pi_tup hl
theorem k_iE (K : PySem.W.Frag) {ta : TA} {p pos tpos : Pos} {elts : List Expr} {kk : Nat} (hg : Gl X "enumerate") (hm : X.mg "enumerate" = none) (ha : PA X [e] ta) (hs : starEach [e] X.env = [(false, eval e X.env)] := by rfl) (hK : X.K = K := by rfl) :
    PI X (.Tuple elts kk tpos) (.Call (.Name "enumerate" p) [e] [] pos) (iEnum K ta) := hK ▸ pi_enum hg hm ha hs
theorem k_iZ (K : PySem.W.Frag) {e2 : Expr} {ta : TA} {p pos tpos : Pos} {elts : List Expr} {kk : Nat} (hg : Gl X "zip") (hm : X.mg "zip" = none) (ha : PA X [e, e2] ta)
    (hs : starEach [e, e2] X.env = (false, eval e X.env) :: starEach [e2] X.env := by rfl) (hpl : (backTo pos (starEach [e2] X.env)).any (·.1) = false := by rfl) (hK : X.K = K := by rfl) :
    PI X (.Tuple elts kk tpos) (.Call (.Name "zip" p) [e, e2] [] pos) (iZip K ta) := hK ▸ pi_zip hg hm ha hs hpl
end

/-! ### heaps -/
theorem Same.new {H : Hp} {p : Addr} {o : HO} (h : H p = none) : Same H (upd H p o) := fun b x e => by
  rw [upd_ne (ne_of_none e h)]
  exact e
/-- all but l stays -/
def But (l : Addr) (H H' : Hp) : Prop := ∀ b o, b ≠ l → H b = some o → H' b = some o
theorem But.upd {H : Hp} {l : Addr} {o : HO} : But l H (upd H l o) := fun b x n e => by
  rw [upd_ne n]
  exact e
theorem up {H H' : Hp} {a : Addr} {o : HO} (e : Same H H') (h : H a = some o) : H' a = some o := e a o h
theorem upB {H H' : Hp} {l a : Addr} {o : HO} (e : But l H H') (n : a ≠ l) (h : H a = some o) : H' a = some o := e a o n h
theorem upL {K : PySem.W.Frag} {H H' : Hp} {a : Addr} {xs : List V} (e : Same H H') (h : SqL K H a xs) : SqL K H' a xs := e.seq h
theorem upLB {K : PySem.W.Frag} {H H' : Hp} {l a : Addr} {xs : List V} (e : But l H H') (n : a ≠ l) (h : SqL K H a xs) : SqL K H' a xs := by
  rcases h with (h | ⟨o, h⟩) | h
  · exact .inl (.inl (e _ _ n h))
  · exact .inl (.inr ⟨o, e _ _ n h⟩)
  · exact .inr h
theorem upT {K : PySem.W.Frag} {H H' : Hp} {a : Addr} {xs : List V} (e : Same H H') (h : SqT K H a xs) : SqT K H' a xs := by
  rcases h with (h | ⟨o, h⟩) | h
  · exact .inl (.inl (e _ _ h))
  · exact .inl (.inr ⟨o, e _ _ h⟩)
  · exact .inr h
theorem upTB {K : PySem.W.Frag} {H H' : Hp} {l a : Addr} {xs : List V} (e : But l H H') (n : a ≠ l) (h : SqT K H a xs) : SqT K H' a xs := by
  rcases h with (h | ⟨o, h⟩) | h
  · exact .inl (.inl (e _ _ n h))
  · exact .inl (.inr ⟨o, e _ _ n h⟩)
  · exact .inr h
theorem sqL {K : PySem.W.Frag} {H : Hp} {a : Addr} {xs : List V} (h : H a = some (.lst xs)) : SqL K H a xs := .inl (.inl h)
theorem sqT {K : PySem.W.Frag} {H : Hp} {a : Addr} {xs : List V} (h : H a = some (.tup xs)) : SqT K H a xs := .inl (.inl h)
theorem Same.tr {A m B : Hp} (h2 : Same m B) (h1 : Same A m) : Same A B := h1.trans h2
/-- a new object changed: the elder heap stays -/
theorem Same.but {A m B : Hp} {l : Addr} (b : But l m B) (n : A l = none) (h1 : Same A m) : Same A B := fun a o e => b a o (ne_of_none e n) (h1 a o e)
theorem But.tr {A m B : Hp} {l : Addr} (h2 : Same m B) (h1 : But l A m) : But l A B := fun a o n e => h2 a o (h1 a o n e)
theorem But.of {A B : Hp} {l : Addr} (h : Same A B) : But l A B := fun a o _ e => h a o e
theorem But.but {A m B : Hp} {l : Addr} (h2 : But l m B) (h1 : But l A m) : But l A B := fun a o n e => h2 a o n (h1 a o n e)
theorem But.but2 {A m B : Hp} {l k : Addr} (h2 : But k m B) (n : A k = none) (h1 : But l A m) : But l A B := fun a o ne e => h2 a o (ne_of_none e n) (h1 a o ne e)
theorem fr {A B : Hp} {p : Addr} (h : B p = none) (e : Same A B) : A p = none := e.free h
theorem frB {A B : Hp} {l p : Addr} (h : B p = none) (n : p ≠ l) (e : But l A B) : A p = none := by
  cases q : A p with
  | none => rfl
  | some o =>
    rw [e p o n q] at h
    cases h
theorem ne1 {H : Hp} {a l : Addr} {o : HO} (h : H l = none) (h2 : H a = some o) : a ≠ l := ne_of_none h2 h

theorem szl {n : Nat} (h : n ≤ 16777216) : n ≤ sizeLine := by rw [sizeLine_eq]; exact h
theorem szlt {n : Nat} (h : n < 16777216) : n < sizeLine := by rw [sizeLine_eq]; exact h
theorem len_empty : Str.empty.length = 0 := rfl
theorem len_app (a b : Str) : (a ++ b).length = a.length + b.length := Str.length_append a b
/-! ### data -/
mutual
theorem dpUp {K : PySem.W.Frag} {H H' : Hp} (e : Same H H') : ∀ {v : V} {d : PyData}, Dp K H v d → Dp K H' v d
  | _, _, .non => .non
  | _, _, .bl b => .bl b
  | _, _, .int i => .int i
  | _, _, .str x => .str x
  | _, _, .lst h r => .lst (upL e h) (dpsUp e r)
  | _, _, .tup h r => .tup (upT e h) (dpsUp e r)
theorem dpsUp {K : PySem.W.Frag} {H H' : Hp} (e : Same H H') : ∀ {vs : List V} {ds : List PyData}, DpAll K H vs ds → DpAll K H' vs ds
  | _, _, .nil => .nil
  | _, _, .cons h r => .cons (dpUp e h) (dpsUp e r)
end

/-! ### readings, one step -/
section
variable {K : PySem.W.Frag} {σ : L2.St} {H : Hp} {Q : VK} {QB : Bool → Hp → Prop} {QA : List V → Hp → Prop} {ta tb tc te : TE} {tA tB' : TT} {tr : TA} {r r' : R2} {v : V} {i j : Int} {D : Ends} {t u : TS} {g : TG} {b : Bool}
theorem r_var {n : Nat} (h : σ[n]? = some (some v)) (q : Q v H) : tVar n σ H Q := ⟨v, h, q⟩
theorem r_c (q : Q v H) : tC v σ H Q := q
theorem r_op (q : ta σ H fun x H1 => tb σ H1 fun y H2 => r x y H2 Q) : tOp r ta tb σ H Q := q
theorem r_un {ru : V → Hp → VK → Prop} (q : ta σ H fun x H1 => ru x H1 Q) : tUn ru ta σ H Q := q
theorem r_I0 {f : Int → Int → V} (q : Q (f i j) H) : rI0 f (.int i) (.int j) H Q := ⟨i, j, rfl, rfl, q⟩
theorem r_I {C : Int → Int → Prop} {f : Int → Int → V} (q : Q (f i j) H) (c : C i j) : rI C f (.int i) (.int j) H Q := ⟨i, j, rfl, rfl, c, q⟩
theorem r_U {f : Int → V} (q : Q (f i) H) : rU f (.int i) H Q := ⟨i, rfl, q⟩
theorem r_addI (q : Q (.int (i + j)) H) : rAddP K (.int i) (.int j) H Q := .inl ⟨i, j, rfl, rfl, q⟩
theorem r_addS {x y : Str} (q : Q (.str (x ++ y)) H) (h : x.length + y.length ≤ sizeLine) : rAddP K (.str x) (.str y) H Q := .inr (.inl ⟨x, y, rfl, rfl, h, q⟩)
theorem r_addL {l m : Addr} {xs ys : List V} (h1 : H l = some (.lst xs)) (h2 : H m = some (.lst ys)) (q : ∀ p H', H p = none → Same H H' → H' p = some (.lst (xs ++ ys)) → Q (.ref p) H') (h : xs.length + ys.length ≤ sizeLine) : rAddP K (.ref l) (.ref m) H Q :=
  .inr (.inr (.inl ⟨l, m, xs, ys, rfl, rfl, h1, h2, h, fun p hp => q p _ hp (Same.new hp) upd_same⟩))
theorem r_mulI (q : Q (.int (i * j)) H) (c : CMulP i j) : rMulP (.int i) (.int j) H Q := .inl ⟨i, j, rfl, rfl, c, q⟩
theorem r_sub (q : Q (.int (i - j)) H) : rSub (.int i) (.int j) H Q := ⟨i, j, rfl, rfl, q⟩
theorem r_mod (q : Q (.int (i % j)) H) (c : 0 < j) : rMod (.int i) (.int j) H Q := ⟨i, j, rfl, rfl, c, q⟩
theorem r_div (q : Q (.int (i / j)) H) (c : CDivP i j) : rDiv (.int i) (.int j) H Q := ⟨i, j, rfl, rfl, c, q⟩
theorem r_pow (q : Q (.int (i ^ j.toNat)) H) (c : CPow i j) : rPow (.int i) (.int j) H Q := ⟨i, j, rfl, rfl, c, q⟩
theorem p10_6 (q : Q (.int 1000000) H) : rPow (.int 10) (.int 6) H Q := ⟨10, 6, rfl, rfl, by unfold CPow; decide, q⟩
theorem p10_8 (q : Q (.int 100000000) H) : rPow (.int 10) (.int 8) H Q := ⟨10, 8, rfl, rfl, by unfold CPow; decide, q⟩
theorem p10_9 (q : Q (.int 1000000000) H) : rPow (.int 10) (.int 9) H Q := ⟨10, 9, rfl, rfl, by unfold CPow; decide, q⟩
theorem p10_18 (q : Q (.int 1000000000000000000) H) : rPow (.int 10) (.int 18) H Q := ⟨10, 18, rfl, rfl, by unfold CPow; decide, q⟩
theorem r_eq {x y : V} (q : Q (.bl (decide (x = y))) H) (h : scal x y = true) : rEqP K x y H Q := .inl ⟨h, q⟩
theorem r_ne {x y : V} (q : Q (.bl (!decide (x = y))) H) (h : scal x y = true) : rNeP K x y H Q := .inl ⟨h, q⟩
theorem r_eqI (q : Q (.bl (decide (i = j))) H) : rEqP K (.int i) (.int j) H Q := .inl ⟨rfl, by
  rw [show decide (V.int i = V.int j) = decide (i = j) by simp]
  exact q⟩
theorem r_neI (q : Q (.bl (!decide (i = j))) H) : rNeP K (.int i) (.int j) H Q := .inl ⟨rfl, by
  rw [show decide (V.int i = V.int j) = decide (i = j) by simp]
  exact q⟩
theorem r_eqS {x y : Str} (q : Q (.bl (decide (x = y))) H) : rEqP K (.str x) (.str y) H Q := .inl ⟨rfl, by
  rw [show decide (V.str x = V.str y) = decide (x = y) by simp]
  exact q⟩
theorem r_neS {x y : Str} (q : Q (.bl (!decide (x = y))) H) : rNeP K (.str x) (.str y) H Q := .inl ⟨rfl, by
  rw [show decide (V.str x = V.str y) = decide (x = y) by simp]
  exact q⟩
theorem r_eqD {x y : V} {d e : PyData} (hd : Dp K H x d) (he : Dp K H y e) (q : Q (.bl (PyData.eqv d e)) H) (h1 : SeqAt.shaped d = true) (h2 : SeqAt.shaped e = true) : rEqP K x y H Q := .inr ⟨d, e, hd, he, h1, h2, q⟩
theorem r_neD {x y : V} {d e : PyData} (hd : Dp K H x d) (he : Dp K H y e) (q : Q (.bl (!PyData.eqv d e)) H) (h1 : SeqAt.shaped d = true) (h2 : SeqAt.shaped e = true) : rNeP K x y H Q := .inr ⟨d, e, hd, he, h1, h2, q⟩
theorem r_lt (q : Q (.bl (decide (i < j))) H) : rLtI (.int i) (.int j) H Q := ⟨i, j, rfl, rfl, q⟩
theorem r_le (q : Q (.bl (decide (i ≤ j))) H) : rLeI (.int i) (.int j) H Q := ⟨i, j, rfl, rfl, q⟩
theorem r_gt (q : Q (.bl (decide (j < i))) H) : rGtI (.int i) (.int j) H Q := ⟨i, j, rfl, rfl, q⟩
theorem r_ge (q : Q (.bl (decide (j ≤ i))) H) : rGeI (.int i) (.int j) H Q := ⟨i, j, rfl, rfl, q⟩
theorem r_isN (q : Q (.bl true) H) : rIs .non .non H Q := ⟨rfl, q⟩
theorem r_isI (q : Q (.bl false) H) : rIs (.int i) .non H Q := ⟨rfl, q⟩
theorem r_isS {x : Str} (q : Q (.bl false) H) : rIs (.str x) .non H Q := ⟨rfl, q⟩
theorem r_isR {x : Addr} (q : Q (.bl false) H) : rIs (.ref x) .non H Q := ⟨rfl, q⟩
theorem r_isB {x : Bool} (q : Q (.bl false) H) : rIs (.bl x) .non H Q := ⟨rfl, q⟩
theorem r_notN (q : Q (.bl false) H) : rIsNot .non .non H Q := ⟨rfl, q⟩
theorem r_notI (q : Q (.bl true) H) : rIsNot (.int i) .non H Q := ⟨rfl, q⟩
theorem r_notS {x : Str} (q : Q (.bl true) H) : rIsNot (.str x) .non H Q := ⟨rfl, q⟩
theorem r_notR {x : Addr} (q : Q (.bl true) H) : rIsNot (.ref x) .non H Q := ⟨rfl, q⟩
theorem r_inT {c : Nat} {z : Str} (q : Q (.bl (decide (c ∈ z.cps.toList))) H) : rInP K false (.str ⟨#[c]⟩) (.str z) H Q := .inl ⟨c, z, rfl, rfl, q⟩
theorem r_notInT {c : Nat} {z : Str} (q : Q (.bl (!decide (c ∈ z.cps.toList))) H) : rInP K true (.str ⟨#[c]⟩) (.str z) H Q := .inl ⟨c, z, rfl, rfl, q⟩
theorem r_inL {x : V} {p : Addr} {xs : List V} (hp : SqL K H p xs) (q : Q (.bl (inV x xs)) H) (fx : flatV x = true) (fs : xs.all flatV = true) : rInP K false x (.ref p) H Q := .inr ⟨p, xs, rfl, .inl hp, fx, fs, q⟩
theorem r_notInL {x : V} {p : Addr} {xs : List V} (hp : SqL K H p xs) (q : Q (.bl (!inV x xs)) H) (fx : flatV x = true) (fs : xs.all flatV = true) : rInP K true x (.ref p) H Q := .inr ⟨p, xs, rfl, .inl hp, fx, fs, q⟩
theorem r_ixL {p : Addr} {xs : List V} (h : SqL K H p xs) (a : atI xs i = some v) (q : Q v H) : rIx K (.ref p) (.int i) H Q := .inl ⟨p, xs, i, v, rfl, rfl, h, a, q⟩
theorem r_ixT {p : Addr} {xs : List V} (h : SqT K H p xs) (a : atI xs i = some v) (q : Q v H) : rIx K (.ref p) (.int i) H Q := .inr (.inl ⟨p, xs, i, v, rfl, rfl, h, a, q⟩)
theorem r_ixS {z : Str} {c : Nat} (h : z.length ≤ sizeLine) (a : atI z.cps.toList i = some c) (q : Q (.str ⟨#[c]⟩) H) : rIx K (.str z) (.int i) H Q := .inr (.inr ⟨z, i, c, rfl, rfl, h, a, q⟩)
/-- slices -/
theorem r_slL {p : Addr} {xs : List V} {lo hi : Option Int} (h : SqL K H p xs) (q : ∀ p H', H p = none → Same H H' → H' p = some (.lst (cutV xs lo hi)) → Q (.ref p) H') : rSlP K (.ref p) lo hi H Q := .inl ⟨p, xs, rfl, h, fun p hp => q p _ hp (Same.new hp) upd_same⟩
theorem r_slS {z : Str} {lo hi : Option Int} (q : Q (.str (cutS z lo hi)) H) (h : z.length ≤ sizeLine) : rSlP K (.str z) lo hi H Q := .inr (.inl ⟨z, rfl, h, q⟩)
theorem r_sl {rs : V → Option Int → Option Int → Hp → VK → Prop} {tl th : TO} (q : te σ H fun x H1 => tl σ H1 fun l H2 => th σ H2 fun u H3 => rs x l u H3 Q) : tSl rs te tl th σ H Q := q
theorem r_part {QO : Option Int → Hp → Prop} (q : te σ H fun x H1 => ∃ i, x = .int i ∧ QO (some i) H1) : tPart te σ H QO := q
theorem r_exI {QO : Int → Prop} (q : QO i) : ∃ k, V.int i = .int k ∧ QO k := ⟨i, rfl, q⟩
theorem r_noPart {QO : Option Int → Hp → Prop} (q : QO none H) : tNoPart σ H QO := q
/-- displays -/
def NewT (xs : List V) (H : Hp) (Q : VK) : Prop := xs.length ≤ sizeLine ∧ ∀ p, H p = none → Q (.ref p) (upd H p (.tup xs))
def NewL (xs : List V) (H : Hp) (Q : VK) : Prop := xs.length ≤ sizeLine ∧ ∀ p, H p = none → Q (.ref p) (upd H p (.lst xs))
theorem r_tup (q : tr σ H fun xs H1 => NewT xs H1 Q) : tTup tr σ H Q := q
theorem r_lst (q : tr σ H fun xs H1 => NewL xs H1 Q) : tLst tr σ H Q := q
theorem r_newT {xs : List V} (q : ∀ p H', H p = none → Same H H' → H' p = some (.tup xs) → Q (.ref p) H') (h : xs.length ≤ sizeLine) : NewT xs H Q := ⟨h, fun p hp => q p _ hp (Same.new hp) upd_same⟩
theorem r_newL {xs : List V} (q : ∀ p H', H p = none → Same H H' → H' p = some (.lst xs) → Q (.ref p) H') (h : xs.length ≤ sizeLine) : NewL xs H Q := ⟨h, fun p hp => q p _ hp (Same.new hp) upd_same⟩
theorem r_new {xs : List V} (q : ∀ p H', H p = none → Same H H' → H' p = some (.lst xs) → Q (.ref p) H') : ∀ p, H p = none → Q (.ref p) (upd H p (.lst xs)) := fun p hp => q p _ hp (Same.new hp) upd_same
theorem r_nil (q : QA [] H) : tNil σ H QA := q
theorem r_cons (q : ta σ H fun x H1 => tr σ H1 fun xs H2 => QA (x :: xs) H2) : tCons ta tr σ H QA := q
theorem r_CB {rc : List V → Hp → VK → Prop} (q : tr σ H fun vs H1 => rc vs H1 Q) : tCB rc tr σ H Q := q
theorem r_call {sp : Sp} {dvs : List V} {E : XK} (q : tr σ H fun vs H1 => sp (vs ++ dvs) H1 Q E) : tCall sp dvs E tr σ H Q := q
theorem r_BM {T : String} {rm : V → List V → Hp → VK → Prop} (q : te σ H fun x H1 => tyV K T x H1 ∧ tr σ H1 fun xs H2 => rm x xs H2 Q) : tBM K T rm te tr σ H Q := q
theorem r_BM0 {T : String} {rm : V → List V → Hp → VK → Prop} (q : te σ H fun x H1 => tyV K T x H1 ∧ rm x [] H1 Q) : tBM0 K T rm te σ H Q := q
theorem r_abs (q : Q (.int (i.natAbs : Nat)) H) : cAbs [.int i] H Q := ⟨i, rfl, by
  rw [show (if i < 0 then -i else i) = ((i.natAbs : Nat) : Int) by split <;> omega]
  exact q⟩
theorem r_max (q : Q (.int (if j > i then j else i)) H) : cMax [.int i, .int j] H Q := ⟨i, j, rfl, q⟩
theorem r_min (q : Q (.int (if j < i then j else i)) H) : cMin [.int i, .int j] H Q := ⟨i, j, rfl, q⟩
theorem r_lenL {p : Addr} {xs : List V} (h : SqL K H p xs) (q : Q (.int (xs.length : Nat)) H) : cLen K [.ref p] H Q := ⟨_, _, rfl, .inl ⟨xs, h, rfl⟩, q⟩
theorem r_lenT {p : Addr} {xs : List V} (h : SqT K H p xs) (q : Q (.int (xs.length : Nat)) H) : cLen K [.ref p] H Q := ⟨_, _, rfl, .inr ⟨xs, h, rfl⟩, q⟩
theorem r_lenS {z : Str} (q : Q (.int (z.length : Nat)) H) (h : z.length ≤ sizeLine) : cLen K [.str z] H Q := ⟨_, _, rfl, ⟨h, rfl⟩, q⟩
theorem r_strI (q : Q (.str (toString i)) H) (h : i.natAbs.log2 < 1920) : cStr [.int i] H Q := ⟨i, rfl, h, q⟩
theorem r_intS {z : Str} {n : Int} (h : PySem.intText? z = some n) (q : Q (.int n) H) (hl : z.length ≤ 640) : cInt [.str z] H Q := ⟨z, n, rfl, h, hl, q⟩
theorem r_listL {p : Addr} {xs : List V} (h : SqL K H p xs) (q : ∀ p H', H p = none → Same H H' → H' p = some (.lst xs) → Q (.ref p) H') : cList K [.ref p] H Q := ⟨p, xs, rfl, .inl h, fun p hp => q p _ hp (Same.new hp) upd_same⟩
theorem r_listT {p : Addr} {xs : List V} (h : SqT K H p xs) (q : ∀ p H', H p = none → Same H H' → H' p = some (.lst xs) → Q (.ref p) H') : cList K [.ref p] H Q := ⟨p, xs, rfl, .inr h, fun p hp => q p _ hp (Same.new hp) upd_same⟩
theorem r_all {p : Addr} {bs : List Bool} (h : SqL K H p (bs.map V.bl)) (q : Q (.bl (bs.all id)) H) : rAll K [.ref p] H Q := ⟨p, bs, rfl, h, q⟩
theorem r_any {p : Addr} {bs : List Bool} (h : SqL K H p (bs.map V.bl)) (q : Q (.bl (bs.any id)) H) : rAny K [.ref p] H Q := ⟨p, bs, rfl, h, q⟩
/-- isinstance(x, T), T built-in -/
theorem r_isi {x : V} {a c : String} {k : Bool} (ty : TyX K H x (.type a)) (q : Q (.bl k) H) (h : kitB a c = some k) : rIsi K [x, .ty c] H Q := ⟨x, .ty c, .type a, .type c, k, rfl, .ty c, ty, kit_ty h, q⟩
theorem ty_int : TyX K H (.int i) (.type "int") := .base (.int i)
theorem ty_bl : TyX K H (.bl b) (.type "bool") := .base (.bl b)
theorem ty_str {x : Str} : TyX K H (.str x) (.type "str") := .base (.str x)
theorem ty_non : TyX K H .non (.type "NoneType") := .base .non
theorem r_isiHd {x : V} {c : String} (q : rIsi K [x, .ty c] H Q) : rIsi K [x, .ty c] H Q := q
theorem ty_lst {p : Addr} {xs : List V} (h : H p = some (.lst xs)) : TyX K H (.ref p) (.type "list") := .base (.lst h)
theorem ty_tup {p : Addr} {xs : List V} (h : H p = some (.tup xs)) : TyX K H (.ref p) (.type "tuple") := .base (.tup h)
/-- methods -/
theorem r_append {l : Addr} {xs : List V} (h : H l = some (.lst xs)) (q : ∀ H', But l H H' → H' l = some (.lst (xs ++ [v])) → Q .non H') (hz : xs.length < sizeLine) : tyV K "list" (.ref l) H ∧ rAppend (.ref l) [v] H Q :=
  ⟨.inl ⟨rfl, _, .inl (.inl h)⟩, l, xs, v, rfl, rfl, h, hz, q _ But.upd upd_same⟩
theorem r_tyL {l : Addr} {xs : List V} (h : H l = some (.lst xs)) {A : Prop} (q : A) : tyV K "list" (.ref l) H ∧ A := ⟨.inl ⟨rfl, _, .inl (.inl h)⟩, q⟩
theorem r_appendQ {l : Addr} {xs : List V} (h : H l = some (.lst xs)) (q : ∀ H', But l H H' → H' l = some (.lst (xs ++ [v])) → Q .non H') (hz : xs.length < sizeLine) : rAppend (.ref l) [v] H Q :=
  ⟨l, xs, v, rfl, rfl, h, hz, q _ But.upd upd_same⟩
theorem r_tyS {x : Str} {A : Prop} (q : A) : tyV K "str" (.str x) H ∧ A := ⟨rfl, q⟩
theorem r_split {x y : Str} (q : ∀ p H', H p = none → Same H H' → H' p = some (.lst ((Txt.split x y).map V.str)) → Q (.ref p) H') (h : (y.length == 0) = false) (hz : x.length + 2 ≤ sizeLine) : mSplit (.str x) [.str y] H Q :=
  ⟨x, y, rfl, rfl, h, hz, fun p hp => q p _ hp (Same.new hp) upd_same⟩
/-- o[i] = v, o a list -/
theorem r_subTg {to ti : TE} {tset : TSet} {QS : L2.St → Hp → Prop} (q : to σ H fun o H1 => ti σ H1 fun k H2 => tset o k v H2 fun H3 => QS σ H3) : gSub to ti tset v σ H QS := q
theorem r_setL {l : Addr} {xs : List V} {n : Nat} {QH : Hp → Prop} (h : H l = some (.lst xs)) (hi : ixN xs.length i = some n) (q : ∀ H', But l H H' → H' l = some (.lst (xs.set n v)) → QH H') : rSetL (.ref l) (.int i) v H QH :=
  ⟨l, xs, i, n, rfl, rfl, h, hi, q _ But.upd upd_same⟩
/-- f-strings -/
def rFmt : V → Hp → VK → Prop := fun x H Q => (∃ y : Str, x = .str y ∧ y.length ≤ sizeLine ∧ Q (.str y) H) ∨ ∃ i : Int, x = .int i ∧ i.natAbs.log2 < 1920 ∧ Q (.str (toString i)) H
theorem r_fmtI (q : Q (.str (toString i)) H) (h : i.natAbs.log2 < 1920) : rFmt (.int i) H Q := .inr ⟨i, rfl, h, q⟩
theorem r_fmtS {x : Str} (q : Q (.str x) H) (h : x.length ≤ sizeLine) : rFmt (.str x) H Q := .inl ⟨x, rfl, h, q⟩
theorem r_fmt (q : te σ H fun x H1 => rFmt x H1 Q) : tFmt te σ H Q := q
theorem r_joined {ts : List TE} {acc : Str} (q : tJs ts acc σ H fun out H1 => Q (.str out) H1) : (fun σ H Q => tJs ts acc σ H fun out H1 => Q (.str out) H1) σ H Q := q
theorem r_js0 {acc : Str} {QS : Str → Hp → Prop} (q : QS acc H) : tJs [] acc σ H QS := q
theorem r_js {ts : List TE} {acc : Str} {QS : Str → Hp → Prop} (q : te σ H fun x H1 => ∃ y : Str, x = .str y ∧ (acc ++ y).length ≤ sizeLine ∧ tJs ts (acc ++ y) σ H1 QS) : tJs (te :: ts) acc σ H QS := q
theorem r_jsS {ts : List TE} {acc x : Str} {QS : Str → Hp → Prop} (q : tJs ts (acc ++ x) σ H QS) (h : (acc ++ x).length ≤ sizeLine) : ∃ y : Str, V.str x = .str y ∧ (acc ++ y).length ≤ sizeLine ∧ tJs ts (acc ++ y) σ H QS := ⟨x, rfl, h, q⟩
/-- tests -/
theorem r_test (q : te σ H fun x H' => ∃ k, x = .bl k ∧ QB k H') : tTest te σ H QB := q
theorem r_tB (q : te σ H fun x H' => ∃ k, x = .bl k ∧ QB k H') : tB te σ H QB := q
theorem r_exB {QQ : Bool → Prop} (q : QQ b) : ∃ k, V.bl b = .bl k ∧ QQ k := ⟨b, rfl, q⟩
theorem r_and (q : tA σ H fun c H1 => if c = true then tB' σ H1 QB else QB false H1) : tAnd tA tB' σ H QB := q
theorem r_or (q : tA σ H fun c H1 => if c = true then QB true H1 else tB' σ H1 QB) : tOr tA tB' σ H QB := q
theorem r_not (q : tA σ H fun c H1 => QB (!c) H1) : tNot tA σ H QB := q
theorem r_andV (q : ta σ H fun x H1 => ∃ c, x = .bl c ∧ if c = true then tb σ H1 Q else Q (.bl false) H1) : tAndV ta tb σ H Q := q
theorem r_orV (q : ta σ H fun x H1 => ∃ c, x = .bl c ∧ if c = true then Q (.bl true) H1 else tb σ H1 Q) : tOrV ta tb σ H Q := q
theorem r_notV (q : ta σ H fun x H1 => ∃ c, x = .bl c ∧ Q (.bl (!c)) H1) : tNotV ta σ H Q := q
theorem r_chain (q : ta σ H fun x H1 => tb σ H1 fun y H2 => r x y H2 fun z H3 => ∃ k, z = .bl k ∧ (if k = true then tc σ H3 fun w' H4 => r' y w' H4 Q else Q (.bl false) H3)) : tChain r r' ta tb tc σ H Q := q
theorem r_ifE (q : tA σ H fun c H1 => if c = true then ta σ H1 Q else tb σ H1 Q) : tIf tA ta tb σ H Q := q
/-- known outcomes -/
theorem r_T {A B : Prop} (h : A) : if true = true then A else B := by rw [if_pos rfl]; exact h
theorem r_F {A B : Prop} (h : B) : if false = true then A else B := by rw [if_neg Bool.false_ne_true]; exact h
theorem r_nT {A B : Prop} (h : B) : if (!true) = true then A else B := r_F h
theorem r_nF {A B : Prop} (h : A) : if (!false) = true then A else B := r_T h
theorem r_dT {p : Prop} [Decidable p] {A B : Prop} (hp : p) (h : A) : if decide p = true then A else B := by rw [decide_eq_true hp]; exact r_T h
theorem r_dF {p : Prop} [Decidable p] {A B : Prop} (hp : ¬ p) (h : B) : if decide p = true then A else B := by rw [decide_eq_false hp]; exact r_F h
theorem r_ndT {p : Prop} [Decidable p] {A B : Prop} (hp : p) (h : B) : if (!decide p) = true then A else B := by rw [decide_eq_true hp]; exact r_F h
theorem r_ndF {p : Prop} [Decidable p] {A B : Prop} (hp : ¬ p) (h : A) : if (!decide p) = true then A else B := by rw [decide_eq_false hp]; exact r_T h
theorem r_bT {c : Bool} {A B : Prop} (hc : c = true) (h : A) : if c = true then A else B := by rw [hc]; exact r_T h
theorem r_bF {c : Bool} {A B : Prop} (hc : c = false) (h : B) : if c = true then A else B := by rw [hc]; exact r_F h
theorem r_ite {p : Prop} [Decidable p] {A B : Prop} (h1 : p → A) (h2 : ¬ p → B) : if decide p = true then A else B := by
  by_cases h : p
  · exact r_dT h (h1 h)
  · exact r_dF h (h2 h)
theorem r_nite {p : Prop} [Decidable p] {A B : Prop} (h1 : ¬ p → A) (h2 : p → B) : if (!decide p) = true then A else B := by
  by_cases h : p
  · exact r_ndT h (h2 h)
  · exact r_ndF h (h1 h)
theorem r_bite {c : Bool} {A B : Prop} (h1 : c = true → A) (h2 : c = false → B) : if c = true then A else B := by
  cases c with
  | true => exact r_T (h1 rfl)
  | false => exact r_F (h2 rfl)
/-- statements -/
theorem r_seq (q : t { D with nx := u D } σ H) : tSeq t u D σ H := q
theorem r_cut (Mid : L2.St → Hp → Prop) (h1 : t { D with nx := Mid } σ H) (h2 : ∀ σ' H', Mid σ' H' → u D σ' H') : Evl.tCut t u D σ H := ⟨Mid, h1, h2⟩
theorem r_next (q : D.nx σ H) : tNext D σ H := q
theorem r_asg (q : te σ H fun x H1 => g x σ H1 D.nx) : tAsg te g D σ H := q
theorem r_par {m n : Nat} {tr : TA} (q : tr σ H fun vs H1 => ∃ v w, vs = [v, w] ∧ D.nx ((σ.set m (some v)).set n (some w)) H1) : tPar m n tr D σ H := q
theorem r_par2 {m n : Nat} {x y : V} (q : (gName m x σ H fun σ' H' => gName n y σ' H' D.nx)) : ∃ v w, [x, y] = [v, w] ∧ D.nx ((σ.set m (some v)).set n (some w)) H := ⟨x, y, rfl, q⟩
theorem r_drop (q : te σ H fun _ H1 => D.nx σ H1) : tDrop te D σ H := q
theorem r_ret (q : te σ H D.rt) : tRet te D σ H := q
theorem r_retN (q : D.rt .non H) : tRetN D σ H := q
theorem r_ifS (q : tA σ H fun b H1 => if b = true then t D σ H1 else u D σ H1) : tIfS tA t u D σ H := q
theorem r_brk (q : D.bk σ H) : tBreak D σ H := q
theorem r_cnt (q : D.ct σ H) : tCont D σ H := q
theorem r_tg {n : Nat} {ts : TGs} {a : Addr} {xs : List V} {QS : L2.St → Hp → Prop} (h : SqT K H a xs) (q : ts xs σ H QS) (hl : xs.length = n) : gTup K n ts (.ref a) σ H QS := ⟨a, xs, rfl, h, hl, q⟩
theorem r_gnil {QS : L2.St → Hp → Prop} (q : QS σ H) : gNil [] σ H QS := ⟨rfl, q⟩
theorem r_gcons {ts : TGs} {x : V} {xs : List V} {QS : L2.St → Hp → Prop} (q : g x σ H fun σ' H' => ts xs σ' H' QS) : gCons g ts (x :: xs) σ H QS := ⟨x, xs, rfl, q⟩
theorem r_aug {n : Nat} {f : Int → Int → Int} (h : σ[n]? = some (some (.int i))) (q : te σ H fun y H1 => ∃ k, y = .int k ∧ gName n (.int (f i k)) σ H1 D.nx) : tAug n te (ipI f) D σ H := by
  refine ⟨_, h, ?_⟩
  have e : (fun y H1 => ∃ k, y = V.int k ∧ gName n (.int (f i k)) σ H1 D.nx) = fun y H1 => ipI f (.int i) y H1 fun z H2 => D.nx (σ.set n (some z)) H2 := by
    funext y H1
    apply propext
    constructor
    · rintro ⟨k, rfl, h⟩
      exact ⟨i, k, rfl, rfl, h⟩
    · rintro ⟨a, k, e, rfl, h⟩
      cases e
      exact ⟨k, rfl, h⟩
  rw [← e]
  exact q
end
/-! names stored, by place -/
section
variable {H : Hp} {v : V} {QS : L2.St → Hp → Prop} {r : L2.St} {a0 a1 a2 a3 a4 a5 a6 a7 a8 a9 b0 b1 b2 b3 b4 b5 b6 b7 b8 b9 : Option V}
theorem v0 {w : V} {QV : VK} (q : QV w H) : tVar 0 (some w :: r) H QV := ⟨w, rfl, q⟩
theorem v1 {w : V} {QV : VK} (q : QV w H) : tVar 1 (a0 :: some w :: r) H QV := ⟨w, rfl, q⟩
theorem v2 {w : V} {QV : VK} (q : QV w H) : tVar 2 (a0 :: a1 :: some w :: r) H QV := ⟨w, rfl, q⟩
theorem v3 {w : V} {QV : VK} (q : QV w H) : tVar 3 (a0 :: a1 :: a2 :: some w :: r) H QV := ⟨w, rfl, q⟩
theorem v4 {w : V} {QV : VK} (q : QV w H) : tVar 4 (a0 :: a1 :: a2 :: a3 :: some w :: r) H QV := ⟨w, rfl, q⟩
theorem v5 {w : V} {QV : VK} (q : QV w H) : tVar 5 (a0 :: a1 :: a2 :: a3 :: a4 :: some w :: r) H QV := ⟨w, rfl, q⟩
theorem v6 {w : V} {QV : VK} (q : QV w H) : tVar 6 (a0 :: a1 :: a2 :: a3 :: a4 :: a5 :: some w :: r) H QV := ⟨w, rfl, q⟩
theorem v7 {w : V} {QV : VK} (q : QV w H) : tVar 7 (a0 :: a1 :: a2 :: a3 :: a4 :: a5 :: a6 :: some w :: r) H QV := ⟨w, rfl, q⟩
theorem v8 {w : V} {QV : VK} (q : QV w H) : tVar 8 (a0 :: a1 :: a2 :: a3 :: a4 :: a5 :: a6 :: a7 :: some w :: r) H QV := ⟨w, rfl, q⟩
theorem v9 {w : V} {QV : VK} (q : QV w H) : tVar 9 (a0 :: a1 :: a2 :: a3 :: a4 :: a5 :: a6 :: a7 :: a8 :: some w :: r) H QV := ⟨w, rfl, q⟩
theorem v10 {w : V} {QV : VK} (q : QV w H) : tVar 10 (a0 :: a1 :: a2 :: a3 :: a4 :: a5 :: a6 :: a7 :: a8 :: a9 :: some w :: r) H QV := ⟨w, rfl, q⟩
theorem v11 {w : V} {QV : VK} (q : QV w H) : tVar 11 (a0 :: a1 :: a2 :: a3 :: a4 :: a5 :: a6 :: a7 :: a8 :: a9 :: b0 :: some w :: r) H QV := ⟨w, rfl, q⟩
theorem v12 {w : V} {QV : VK} (q : QV w H) : tVar 12 (a0 :: a1 :: a2 :: a3 :: a4 :: a5 :: a6 :: a7 :: a8 :: a9 :: b0 :: b1 :: some w :: r) H QV := ⟨w, rfl, q⟩
theorem v13 {w : V} {QV : VK} (q : QV w H) : tVar 13 (a0 :: a1 :: a2 :: a3 :: a4 :: a5 :: a6 :: a7 :: a8 :: a9 :: b0 :: b1 :: b2 :: some w :: r) H QV := ⟨w, rfl, q⟩
theorem v14 {w : V} {QV : VK} (q : QV w H) : tVar 14 (a0 :: a1 :: a2 :: a3 :: a4 :: a5 :: a6 :: a7 :: a8 :: a9 :: b0 :: b1 :: b2 :: b3 :: some w :: r) H QV := ⟨w, rfl, q⟩
theorem n0 (q : QS (some v :: r) H) : gName 0 v (a0 :: r) H QS := q
theorem n1 (q : QS (a0 :: some v :: r) H) : gName 1 v (a0 :: a1 :: r) H QS := q
theorem n2 (q : QS (a0 :: a1 :: some v :: r) H) : gName 2 v (a0 :: a1 :: a2 :: r) H QS := q
theorem n3 (q : QS (a0 :: a1 :: a2 :: some v :: r) H) : gName 3 v (a0 :: a1 :: a2 :: a3 :: r) H QS := q
theorem n4 (q : QS (a0 :: a1 :: a2 :: a3 :: some v :: r) H) : gName 4 v (a0 :: a1 :: a2 :: a3 :: a4 :: r) H QS := q
theorem n5 (q : QS (a0 :: a1 :: a2 :: a3 :: a4 :: some v :: r) H) : gName 5 v (a0 :: a1 :: a2 :: a3 :: a4 :: a5 :: r) H QS := q
theorem n6 (q : QS (a0 :: a1 :: a2 :: a3 :: a4 :: a5 :: some v :: r) H) : gName 6 v (a0 :: a1 :: a2 :: a3 :: a4 :: a5 :: a6 :: r) H QS := q
theorem n7 (q : QS (a0 :: a1 :: a2 :: a3 :: a4 :: a5 :: a6 :: some v :: r) H) : gName 7 v (a0 :: a1 :: a2 :: a3 :: a4 :: a5 :: a6 :: a7 :: r) H QS := q
theorem n8 (q : QS (a0 :: a1 :: a2 :: a3 :: a4 :: a5 :: a6 :: a7 :: some v :: r) H) : gName 8 v (a0 :: a1 :: a2 :: a3 :: a4 :: a5 :: a6 :: a7 :: a8 :: r) H QS := q
theorem n9 (q : QS (a0 :: a1 :: a2 :: a3 :: a4 :: a5 :: a6 :: a7 :: a8 :: some v :: r) H) : gName 9 v (a0 :: a1 :: a2 :: a3 :: a4 :: a5 :: a6 :: a7 :: a8 :: a9 :: r) H QS := q
theorem n10 (q : QS (a0 :: a1 :: a2 :: a3 :: a4 :: a5 :: a6 :: a7 :: a8 :: a9 :: some v :: r) H) : gName 10 v (a0 :: a1 :: a2 :: a3 :: a4 :: a5 :: a6 :: a7 :: a8 :: a9 :: b0 :: r) H QS := q
theorem n11 (q : QS (a0 :: a1 :: a2 :: a3 :: a4 :: a5 :: a6 :: a7 :: a8 :: a9 :: b0 :: some v :: r) H) : gName 11 v (a0 :: a1 :: a2 :: a3 :: a4 :: a5 :: a6 :: a7 :: a8 :: a9 :: b0 :: b1 :: r) H QS := q
theorem n12 (q : QS (a0 :: a1 :: a2 :: a3 :: a4 :: a5 :: a6 :: a7 :: a8 :: a9 :: b0 :: b1 :: some v :: r) H) : gName 12 v (a0 :: a1 :: a2 :: a3 :: a4 :: a5 :: a6 :: a7 :: a8 :: a9 :: b0 :: b1 :: b2 :: r) H QS := q
theorem n13 (q : QS (a0 :: a1 :: a2 :: a3 :: a4 :: a5 :: a6 :: a7 :: a8 :: a9 :: b0 :: b1 :: b2 :: some v :: r) H) : gName 13 v (a0 :: a1 :: a2 :: a3 :: a4 :: a5 :: a6 :: a7 :: a8 :: a9 :: b0 :: b1 :: b2 :: b3 :: r) H QS := q
theorem n14 (q : QS (a0 :: a1 :: a2 :: a3 :: a4 :: a5 :: a6 :: a7 :: a8 :: a9 :: b0 :: b1 :: b2 :: b3 :: some v :: r) H) : gName 14 v (a0 :: a1 :: a2 :: a3 :: a4 :: a5 :: a6 :: a7 :: a8 :: a9 :: b0 :: b1 :: b2 :: b3 :: b4 :: r) H QS := q
end

/-! isinstance -/
theorem q_int_int {i : Int} {K : PySem.W.Frag} {H : Hp} {Q : VK} (q : Q (.bl true) H) : rIsi K [.int i, .ty "int"] H Q := ⟨_, .ty "int", .type "int", .type "int", true, rfl, .ty "int", .base (.int i), kit_ty (by decide +kernel), q⟩
theorem q_int_bool {i : Int} {K : PySem.W.Frag} {H : Hp} {Q : VK} (q : Q (.bl false) H) : rIsi K [.int i, .ty "bool"] H Q := ⟨_, .ty "bool", .type "int", .type "bool", false, rfl, .ty "bool", .base (.int i), kit_ty (by decide +kernel), q⟩
theorem q_int_str {i : Int} {K : PySem.W.Frag} {H : Hp} {Q : VK} (q : Q (.bl false) H) : rIsi K [.int i, .ty "str"] H Q := ⟨_, .ty "str", .type "int", .type "str", false, rfl, .ty "str", .base (.int i), kit_ty (by decide +kernel), q⟩
theorem q_int_list {i : Int} {K : PySem.W.Frag} {H : Hp} {Q : VK} (q : Q (.bl false) H) : rIsi K [.int i, .ty "list"] H Q := ⟨_, .ty "list", .type "int", .type "list", false, rfl, .ty "list", .base (.int i), kit_ty (by decide +kernel), q⟩
theorem q_int_tuple {i : Int} {K : PySem.W.Frag} {H : Hp} {Q : VK} (q : Q (.bl false) H) : rIsi K [.int i, .ty "tuple"] H Q := ⟨_, .ty "tuple", .type "int", .type "tuple", false, rfl, .ty "tuple", .base (.int i), kit_ty (by decide +kernel), q⟩
theorem q_int_dict {i : Int} {K : PySem.W.Frag} {H : Hp} {Q : VK} (q : Q (.bl false) H) : rIsi K [.int i, .ty "dict"] H Q := ⟨_, .ty "dict", .type "int", .type "dict", false, rfl, .ty "dict", .base (.int i), kit_ty (by decide +kernel), q⟩
theorem q_bool_int {b : Bool} {K : PySem.W.Frag} {H : Hp} {Q : VK} (q : Q (.bl true) H) : rIsi K [.bl b, .ty "int"] H Q := ⟨_, .ty "int", .type "bool", .type "int", true, rfl, .ty "int", .base (.bl b), kit_ty (by decide +kernel), q⟩
theorem q_bool_bool {b : Bool} {K : PySem.W.Frag} {H : Hp} {Q : VK} (q : Q (.bl true) H) : rIsi K [.bl b, .ty "bool"] H Q := ⟨_, .ty "bool", .type "bool", .type "bool", true, rfl, .ty "bool", .base (.bl b), kit_ty (by decide +kernel), q⟩
theorem q_bool_str {b : Bool} {K : PySem.W.Frag} {H : Hp} {Q : VK} (q : Q (.bl false) H) : rIsi K [.bl b, .ty "str"] H Q := ⟨_, .ty "str", .type "bool", .type "str", false, rfl, .ty "str", .base (.bl b), kit_ty (by decide +kernel), q⟩
theorem q_bool_list {b : Bool} {K : PySem.W.Frag} {H : Hp} {Q : VK} (q : Q (.bl false) H) : rIsi K [.bl b, .ty "list"] H Q := ⟨_, .ty "list", .type "bool", .type "list", false, rfl, .ty "list", .base (.bl b), kit_ty (by decide +kernel), q⟩
theorem q_bool_tuple {b : Bool} {K : PySem.W.Frag} {H : Hp} {Q : VK} (q : Q (.bl false) H) : rIsi K [.bl b, .ty "tuple"] H Q := ⟨_, .ty "tuple", .type "bool", .type "tuple", false, rfl, .ty "tuple", .base (.bl b), kit_ty (by decide +kernel), q⟩
theorem q_bool_dict {b : Bool} {K : PySem.W.Frag} {H : Hp} {Q : VK} (q : Q (.bl false) H) : rIsi K [.bl b, .ty "dict"] H Q := ⟨_, .ty "dict", .type "bool", .type "dict", false, rfl, .ty "dict", .base (.bl b), kit_ty (by decide +kernel), q⟩
theorem q_str_int {x : Str} {K : PySem.W.Frag} {H : Hp} {Q : VK} (q : Q (.bl false) H) : rIsi K [.str x, .ty "int"] H Q := ⟨_, .ty "int", .type "str", .type "int", false, rfl, .ty "int", .base (.str x), kit_ty (by decide +kernel), q⟩
theorem q_str_bool {x : Str} {K : PySem.W.Frag} {H : Hp} {Q : VK} (q : Q (.bl false) H) : rIsi K [.str x, .ty "bool"] H Q := ⟨_, .ty "bool", .type "str", .type "bool", false, rfl, .ty "bool", .base (.str x), kit_ty (by decide +kernel), q⟩
theorem q_str_str {x : Str} {K : PySem.W.Frag} {H : Hp} {Q : VK} (q : Q (.bl true) H) : rIsi K [.str x, .ty "str"] H Q := ⟨_, .ty "str", .type "str", .type "str", true, rfl, .ty "str", .base (.str x), kit_ty (by decide +kernel), q⟩
theorem q_str_list {x : Str} {K : PySem.W.Frag} {H : Hp} {Q : VK} (q : Q (.bl false) H) : rIsi K [.str x, .ty "list"] H Q := ⟨_, .ty "list", .type "str", .type "list", false, rfl, .ty "list", .base (.str x), kit_ty (by decide +kernel), q⟩
theorem q_str_tuple {x : Str} {K : PySem.W.Frag} {H : Hp} {Q : VK} (q : Q (.bl false) H) : rIsi K [.str x, .ty "tuple"] H Q := ⟨_, .ty "tuple", .type "str", .type "tuple", false, rfl, .ty "tuple", .base (.str x), kit_ty (by decide +kernel), q⟩
theorem q_str_dict {x : Str} {K : PySem.W.Frag} {H : Hp} {Q : VK} (q : Q (.bl false) H) : rIsi K [.str x, .ty "dict"] H Q := ⟨_, .ty "dict", .type "str", .type "dict", false, rfl, .ty "dict", .base (.str x), kit_ty (by decide +kernel), q⟩
theorem q_NoneType_int  {K : PySem.W.Frag} {H : Hp} {Q : VK} (q : Q (.bl false) H) : rIsi K [.non, .ty "int"] H Q := ⟨_, .ty "int", .type "NoneType", .type "int", false, rfl, .ty "int", .base .non, kit_ty (by decide +kernel), q⟩
theorem q_NoneType_bool  {K : PySem.W.Frag} {H : Hp} {Q : VK} (q : Q (.bl false) H) : rIsi K [.non, .ty "bool"] H Q := ⟨_, .ty "bool", .type "NoneType", .type "bool", false, rfl, .ty "bool", .base .non, kit_ty (by decide +kernel), q⟩
theorem q_NoneType_str  {K : PySem.W.Frag} {H : Hp} {Q : VK} (q : Q (.bl false) H) : rIsi K [.non, .ty "str"] H Q := ⟨_, .ty "str", .type "NoneType", .type "str", false, rfl, .ty "str", .base .non, kit_ty (by decide +kernel), q⟩
theorem q_NoneType_list  {K : PySem.W.Frag} {H : Hp} {Q : VK} (q : Q (.bl false) H) : rIsi K [.non, .ty "list"] H Q := ⟨_, .ty "list", .type "NoneType", .type "list", false, rfl, .ty "list", .base .non, kit_ty (by decide +kernel), q⟩
theorem q_NoneType_tuple  {K : PySem.W.Frag} {H : Hp} {Q : VK} (q : Q (.bl false) H) : rIsi K [.non, .ty "tuple"] H Q := ⟨_, .ty "tuple", .type "NoneType", .type "tuple", false, rfl, .ty "tuple", .base .non, kit_ty (by decide +kernel), q⟩
theorem q_NoneType_dict  {K : PySem.W.Frag} {H : Hp} {Q : VK} (q : Q (.bl false) H) : rIsi K [.non, .ty "dict"] H Q := ⟨_, .ty "dict", .type "NoneType", .type "dict", false, rfl, .ty "dict", .base .non, kit_ty (by decide +kernel), q⟩
theorem q_list_int {p : Addr} {xs : List V} {K : PySem.W.Frag} {H : Hp} {Q : VK} (h : H p = some (.lst xs)) (q : Q (.bl false) H) : rIsi K [.ref p, .ty "int"] H Q := ⟨_, .ty "int", .type "list", .type "int", false, rfl, .ty "int", .base (.lst h), kit_ty (by decide +kernel), q⟩
theorem q_list_bool {p : Addr} {xs : List V} {K : PySem.W.Frag} {H : Hp} {Q : VK} (h : H p = some (.lst xs)) (q : Q (.bl false) H) : rIsi K [.ref p, .ty "bool"] H Q := ⟨_, .ty "bool", .type "list", .type "bool", false, rfl, .ty "bool", .base (.lst h), kit_ty (by decide +kernel), q⟩
theorem q_list_str {p : Addr} {xs : List V} {K : PySem.W.Frag} {H : Hp} {Q : VK} (h : H p = some (.lst xs)) (q : Q (.bl false) H) : rIsi K [.ref p, .ty "str"] H Q := ⟨_, .ty "str", .type "list", .type "str", false, rfl, .ty "str", .base (.lst h), kit_ty (by decide +kernel), q⟩
theorem q_list_list {p : Addr} {xs : List V} {K : PySem.W.Frag} {H : Hp} {Q : VK} (h : H p = some (.lst xs)) (q : Q (.bl true) H) : rIsi K [.ref p, .ty "list"] H Q := ⟨_, .ty "list", .type "list", .type "list", true, rfl, .ty "list", .base (.lst h), kit_ty (by decide +kernel), q⟩
theorem q_list_tuple {p : Addr} {xs : List V} {K : PySem.W.Frag} {H : Hp} {Q : VK} (h : H p = some (.lst xs)) (q : Q (.bl false) H) : rIsi K [.ref p, .ty "tuple"] H Q := ⟨_, .ty "tuple", .type "list", .type "tuple", false, rfl, .ty "tuple", .base (.lst h), kit_ty (by decide +kernel), q⟩
theorem q_list_dict {p : Addr} {xs : List V} {K : PySem.W.Frag} {H : Hp} {Q : VK} (h : H p = some (.lst xs)) (q : Q (.bl false) H) : rIsi K [.ref p, .ty "dict"] H Q := ⟨_, .ty "dict", .type "list", .type "dict", false, rfl, .ty "dict", .base (.lst h), kit_ty (by decide +kernel), q⟩
theorem q_tuple_int {p : Addr} {xs : List V} {K : PySem.W.Frag} {H : Hp} {Q : VK} (h : H p = some (.tup xs)) (q : Q (.bl false) H) : rIsi K [.ref p, .ty "int"] H Q := ⟨_, .ty "int", .type "tuple", .type "int", false, rfl, .ty "int", .base (.tup h), kit_ty (by decide +kernel), q⟩
theorem q_tuple_bool {p : Addr} {xs : List V} {K : PySem.W.Frag} {H : Hp} {Q : VK} (h : H p = some (.tup xs)) (q : Q (.bl false) H) : rIsi K [.ref p, .ty "bool"] H Q := ⟨_, .ty "bool", .type "tuple", .type "bool", false, rfl, .ty "bool", .base (.tup h), kit_ty (by decide +kernel), q⟩
theorem q_tuple_str {p : Addr} {xs : List V} {K : PySem.W.Frag} {H : Hp} {Q : VK} (h : H p = some (.tup xs)) (q : Q (.bl false) H) : rIsi K [.ref p, .ty "str"] H Q := ⟨_, .ty "str", .type "tuple", .type "str", false, rfl, .ty "str", .base (.tup h), kit_ty (by decide +kernel), q⟩
theorem q_tuple_list {p : Addr} {xs : List V} {K : PySem.W.Frag} {H : Hp} {Q : VK} (h : H p = some (.tup xs)) (q : Q (.bl false) H) : rIsi K [.ref p, .ty "list"] H Q := ⟨_, .ty "list", .type "tuple", .type "list", false, rfl, .ty "list", .base (.tup h), kit_ty (by decide +kernel), q⟩
theorem q_tuple_tuple {p : Addr} {xs : List V} {K : PySem.W.Frag} {H : Hp} {Q : VK} (h : H p = some (.tup xs)) (q : Q (.bl true) H) : rIsi K [.ref p, .ty "tuple"] H Q := ⟨_, .ty "tuple", .type "tuple", .type "tuple", true, rfl, .ty "tuple", .base (.tup h), kit_ty (by decide +kernel), q⟩
theorem q_tuple_dict {p : Addr} {xs : List V} {K : PySem.W.Frag} {H : Hp} {Q : VK} (h : H p = some (.tup xs)) (q : Q (.bl false) H) : rIsi K [.ref p, .ty "dict"] H Q := ⟨_, .ty "dict", .type "tuple", .type "dict", false, rfl, .ty "dict", .base (.tup h), kit_ty (by decide +kernel), q⟩
theorem q_dict_int {p : Addr} {xs : List (Key × V)} {K : PySem.W.Frag} {H : Hp} {Q : VK} (h : H p = some (.dK xs)) (q : Q (.bl false) H) : rIsi K [.ref p, .ty "int"] H Q := ⟨_, .ty "int", .type "dict", .type "int", false, rfl, .ty "int", .base (.dK h), kit_ty (by decide +kernel), q⟩
theorem q_dict_bool {p : Addr} {xs : List (Key × V)} {K : PySem.W.Frag} {H : Hp} {Q : VK} (h : H p = some (.dK xs)) (q : Q (.bl false) H) : rIsi K [.ref p, .ty "bool"] H Q := ⟨_, .ty "bool", .type "dict", .type "bool", false, rfl, .ty "bool", .base (.dK h), kit_ty (by decide +kernel), q⟩
theorem q_dict_str {p : Addr} {xs : List (Key × V)} {K : PySem.W.Frag} {H : Hp} {Q : VK} (h : H p = some (.dK xs)) (q : Q (.bl false) H) : rIsi K [.ref p, .ty "str"] H Q := ⟨_, .ty "str", .type "dict", .type "str", false, rfl, .ty "str", .base (.dK h), kit_ty (by decide +kernel), q⟩
theorem q_dict_list {p : Addr} {xs : List (Key × V)} {K : PySem.W.Frag} {H : Hp} {Q : VK} (h : H p = some (.dK xs)) (q : Q (.bl false) H) : rIsi K [.ref p, .ty "list"] H Q := ⟨_, .ty "list", .type "dict", .type "list", false, rfl, .ty "list", .base (.dK h), kit_ty (by decide +kernel), q⟩
theorem q_dict_tuple {p : Addr} {xs : List (Key × V)} {K : PySem.W.Frag} {H : Hp} {Q : VK} (h : H p = some (.dK xs)) (q : Q (.bl false) H) : rIsi K [.ref p, .ty "tuple"] H Q := ⟨_, .ty "tuple", .type "dict", .type "tuple", false, rfl, .ty "tuple", .base (.dK h), kit_ty (by decide +kernel), q⟩
theorem q_dict_dict {p : Addr} {xs : List (Key × V)} {K : PySem.W.Frag} {H : Hp} {Q : VK} (h : H p = some (.dK xs)) (q : Q (.bl true) H) : rIsi K [.ref p, .ty "dict"] H Q := ⟨_, .ty "dict", .type "dict", .type "dict", true, rfl, .ty "dict", .base (.dK h), kit_ty (by decide +kernel), q⟩

/-! ### loops -/
section
variable {K : PySem.W.Frag} {σ : L2.St} {H : Hp} {D : Ends} {g : TG} {tb : TS} {te : TE} {tr : TA} {c : TT}
/-! mono of tests -/
def MonoE (te : TE) : Prop := ∀ σ H (Q Q' : VK), (∀ v H1, Q v H1 → Q' v H1) → te σ H Q → te σ H Q'
def MonoT (t : TT) : Prop := ∀ σ H (Q Q' : Bool → Hp → Prop), (∀ b H1, Q b H1 → Q' b H1) → t σ H Q → t σ H Q'
def MonoR (r : R2) : Prop := ∀ x y H (Q Q' : VK), (∀ v H1, Q v H1 → Q' v H1) → r x y H Q → r x y H Q'
theorem m_var {n : Nat} : MonoE (tVar n) := fun _ _ _ _ f ⟨v, e, q⟩ => ⟨v, e, f _ _ q⟩
theorem m_c {v : V} : MonoE (tC v) := fun _ _ _ _ f q => f _ _ q
theorem m_op {r : R2} {ta tb : TE} (ha : MonoE ta) (hb : MonoE tb) (hr : MonoR r) : MonoE (tOp r ta tb) := fun _ _ _ _ f q => ha _ _ _ _ (fun _ _ q => hb _ _ _ _ (fun _ _ q => hr _ _ _ _ _ f q) q) q
theorem m_I0 {g : Int → Int → V} : MonoR (rI0 g) := fun _ _ _ _ _ f ⟨i, j, e1, e2, q⟩ => ⟨i, j, e1, e2, f _ _ q⟩
theorem m_eq : MonoR rEq := fun _ _ _ _ _ f ⟨h, q⟩ => ⟨h, f _ _ q⟩
theorem m_ne : MonoR rNe := fun _ _ _ _ _ f ⟨h, q⟩ => ⟨h, f _ _ q⟩
theorem m_eqP {K : PySem.W.Frag} : MonoR (rEqP K) := fun _ _ _ _ _ f h => h.elim (fun ⟨h, q⟩ => .inl ⟨h, f _ _ q⟩) fun ⟨d, e, h1, h2, h3, h4, q⟩ => .inr ⟨d, e, h1, h2, h3, h4, f _ _ q⟩
theorem m_neP {K : PySem.W.Frag} : MonoR (rNeP K) := fun _ _ _ _ _ f h => h.elim (fun ⟨h, q⟩ => .inl ⟨h, f _ _ q⟩) fun ⟨d, e, h1, h2, h3, h4, q⟩ => .inr ⟨d, e, h1, h2, h3, h4, f _ _ q⟩
theorem m_gt : MonoR rGtI := m_I0
theorem m_lt : MonoR rLtI := m_I0
theorem m_ge : MonoR rGeI := m_I0
theorem m_le : MonoR rLeI := m_I0
theorem m_test {te : TE} (h : MonoE te) : MonoT (tTest te) := fun _ _ _ _ f q => h _ _ _ _ (fun _ _ ⟨k, e, q⟩ => ⟨k, e, f _ _ q⟩) q
theorem m_or {t u : TT} (h : MonoT t) (h2 : MonoT u) : MonoT (tOr t u) := fun σ H Q Q' f q => h _ _ _ _ (fun b H1 q => by
  cases b with
  | true =>
    rw [if_pos rfl] at q ⊢
    exact f _ _ q
  | false =>
    rw [if_neg Bool.false_ne_true] at q ⊢
    exact h2 _ _ _ _ f q) q
theorem m_and {t u : TT} (h : MonoT t) (h2 : MonoT u) : MonoT (tAnd t u) := fun σ H Q Q' f q => h _ _ _ _ (fun b H1 q => by
  cases b with
  | true =>
    rw [if_pos rfl] at q ⊢
    exact h2 _ _ _ _ f q
  | false =>
    rw [if_neg Bool.false_ne_true] at q ⊢
    exact f _ _ q) q
/-- while: an invariant, a measure; the test's reading must not look at what is wanted -/
theorem r_while (Pv : Nat → L2.St → Hp → Prop) (m : Nat) (mono : MonoT c) (h0 : Pv m σ H)
    (hs : ∀ m σ H, Pv m σ H → c σ H fun b H1 => if b = true then tb { D with nx := fun σ' H' => ∃ m', m' < m ∧ Pv m' σ' H', ct := fun σ' H' => ∃ m', m' < m ∧ Pv m' σ' H', bk := D.nx } σ H1 else D.nx σ H1) : tWhile c tb D σ H := by
  refine ⟨fun m σ H => Pv m σ H, ⟨m, h0⟩, fun m σ H p => ?_⟩
  refine mono σ H _ _ (fun b H1 q => ?_) (hs m σ H p)
  cases b with
  | true => exact ⟨_, fun σ' H' h => h, q⟩
  | false => exact q
end

/-! ### what is walked -/
section
variable {K : PySem.W.Frag} {σ : L2.St} {H : Hp} {te : TE} {tr : TA} {R : It → Hp → Prop}
theorem s_L {p : Addr} {xs : List V} (h : SqL K H p xs) (q : R (Itl K p) H) : ∃ a, V.ref p = .ref a ∧ (∃ xs, SqL K H a xs) ∧ R (Itl K a) H := ⟨p, rfl, ⟨xs, h⟩, q⟩
theorem s_T {p : Addr} {xs : List V} (h : SqT K H p xs) (q : R (Itt K p) H) : ∃ a, V.ref p = .ref a ∧ (∃ xs, SqT K H a xs) ∧ R (Itt K a) H := ⟨p, rfl, ⟨xs, h⟩, q⟩
theorem s_S {z : Str} (q : R (Its z) H) : ∃ x, V.str z = .str x ∧ R (Its x) H := ⟨z, rfl, q⟩
theorem s_R1 {n : Int} (q : R (Itr 0 n.toNat) H) (h : -(2 ^ 62) ≤ n ∧ n < 2 ^ 62) : ∃ j : Int, [V.int n] = [.int j] ∧ -(2 ^ 62) ≤ j ∧ j < 2 ^ 62 ∧ R (Itr 0 j.toNat) H := ⟨n, rfl, h.1, h.2, q⟩
theorem s_R2 {m n : Int} (q : R (Itr m (n - m).toNat) H) (h : -(2 ^ 62) ≤ m ∧ m < 2 ^ 62 ∧ -(2 ^ 62) ≤ n ∧ n < 2 ^ 62) : ∃ i j : Int, [V.int m, .int n] = [.int i, .int j] ∧ (-(2 ^ 62) ≤ i ∧ i < 2 ^ 62 ∧ -(2 ^ 62) ≤ j ∧ j < 2 ^ 62) ∧ R (Itr i (j - i).toNat) H := ⟨m, n, rfl, h, q⟩
theorem s_E {p : Addr} {xs : List V} (h : SqL K H p xs) (q : R (Ite K p) H) : ∃ a xs, [V.ref p] = [.ref a] ∧ SqL K H a xs ∧ R (Ite K a) H := ⟨p, xs, rfl, h, q⟩
theorem s_Z {p r : Addr} {xs ys : List V} (h : SqL K H p xs) (h2 : SqL K H r ys) (q : R (Itz K p r) H) : ∃ a b xs ys, [V.ref p, .ref r] = [.ref a, .ref b] ∧ SqL K H a xs ∧ SqL K H b ys ∧ R (Itz K a b) H := ⟨p, r, xs, ys, rfl, h, h2, q⟩
theorem i_L (q : te σ H fun x H1 => ∃ a, x = .ref a ∧ (∃ xs, SqL K H1 a xs) ∧ R (Itl K a) H1) : iList K te σ H R := q
theorem i_T (q : te σ H fun x H1 => ∃ a, x = .ref a ∧ (∃ xs, SqT K H1 a xs) ∧ R (Itt K a) H1) : iTup K te σ H R := q
theorem i_S (q : te σ H fun v H1 => ∃ x, v = .str x ∧ R (Its x) H1) : iStr te σ H R := q
theorem i_R1 (q : tr σ H fun vs H1 => ∃ j : Int, vs = [.int j] ∧ -(2 ^ 62) ≤ j ∧ j < 2 ^ 62 ∧ R (Itr 0 j.toNat) H1) : iRng1 tr σ H R := q
theorem i_R2 (q : tr σ H fun vs H1 => ∃ i j : Int, vs = [.int i, .int j] ∧ (-(2 ^ 62) ≤ i ∧ i < 2 ^ 62 ∧ -(2 ^ 62) ≤ j ∧ j < 2 ^ 62) ∧ R (Itr i (j - i).toNat) H1) : iRng2 tr σ H R := q
theorem i_E (q : tr σ H fun vs H1 => ∃ a xs, vs = [.ref a] ∧ SqL K H1 a xs ∧ R (Ite K a) H1) : iEnum K tr σ H R := q
theorem i_Z (q : tr σ H fun vs H1 => ∃ a b xs ys, vs = [.ref a, .ref b] ∧ SqL K H1 a xs ∧ SqL K H1 b ys ∧ R (Itz K a b) H1) : iZip K tr σ H R := q
end
section
variable {σ : L2.St} {H : Hp} {Q : VK} {g : TG} {te : TE} {tt : TT} {tb : TS} {wi : TI} {vs : List Nat} {D : Ends} {J : It} {n : Nat} {G : Hp → Prop} {Y : Nat → Hp → V → Hp → Prop}
theorem walk_r0 {n : Nat} : Walk (Itr 0 n) n (fun _ => True) (fun i H x H' => H' = H ∧ x = .int (i : Nat)) := walk_range.mono (fun _ h => h) fun i H x H' _ _ y => ⟨y.1, y.2.trans (congrArg V.int (Int.zero_add _))⟩
/-- what a for asks of the iterator -/
def ForQ (σ : L2.St) (g : TG) (tb : TS) (D : Ends) : It → Hp → Prop := fun J H1 => ∃ W : Nat → Nat → L2.St → Hp → Prop, (∃ m, W 0 m σ H1) ∧ ∀ i m σ H, W i m σ H →
      (J.stop i H ∧ D.nx σ H) ∨ (J.go i H ∧ ∃ N : L2.St → Hp → Prop, (∀ σ' H', N σ' H' → ∃ m', m' < m ∧ W (i + 1) m' σ' H') ∧ ∀ x H', J.yld i H x H' → g x σ H' fun σ2 H2 => tb { D with nx := N, ct := N, bk := D.nx } σ2 H2)
theorem r_for (q : wi σ H (ForQ σ g tb D)) : tFor wi g tb D σ H := q
theorem forW (w : Walk J n G Y) (Pv : Nat → L2.St → Hp → Prop) (h0 : Pv 0 σ H) (hG : ∀ i σ H, i ≤ n → Pv i σ H → G H)
    (hs : ∀ i x σ H H', i < n → Pv i σ H → Y i H x H' → g x σ H' fun σ2 H2 => tb { D with nx := Pv (i + 1), ct := Pv (i + 1), bk := D.nx } σ2 H2) (hd : ∀ σ H, Pv n σ H → D.nx σ H) : ForQ σ g tb D J H := for_it w Pv h0 hG hs hd
/-- what a comprehension asks -/
def LcQ (σ : L2.St) (g : TG) (tt : TT) (te : TE) (vs : List Nat) (Q : VK) : It → Hp → Prop := fun J H1 => ∀ D, H1 D = none → ∃ W : Nat → Nat → Hp → Prop, (∃ m, W 0 m (upd H1 D (.lst []))) ∧ ∀ i m H, W i m H →
  (J.stop i H ∧ Q (.ref D) H) ∨ (J.go i H ∧ ∃ Nx : Hp → Prop, (∀ H', Nx H' → ∃ m', m' < m ∧ W (i + 1) m' H') ∧ ∀ x H', J.yld i H x H' → g x (wipe σ vs) H' fun σ2 H2 => wipe σ2 vs = wipe σ vs ∧ tt σ2 H2 fun b H3 =>
    if b = true then te σ2 H3 fun y H4 => ∃ acc, H4 D = some (.lst acc) ∧ acc.length < sizeLine ∧ Nx (upd H4 D (.lst (acc ++ [y]))) else Nx H3)
theorem r_lc (q : wi σ H (LcQ σ g tt te vs Q)) : tLc wi g tt te vs σ H Q := q
/-- between the turns: the new list at Dl holds acc, R of it; the heap ahead stands -/
def LcI (H : Hp) (Dl : Addr) (R : Nat → List V → Hp → Prop) (i : Nat) (H' : Hp) : Prop := ∃ acc : List V, acc.length ≤ i ∧ Same H H' ∧ H' Dl = some (.lst acc) ∧ R i acc H'
/-- .. behind the element -/
def LcP (H : Hp) (Dl : Addr) (R : Nat → List V → Hp → Prop) (i : Nat) (y : V) (H4 : Hp) : Prop := ∃ acc, H4 Dl = some (.lst acc) ∧ acc.length < sizeLine ∧ LcI H Dl R i (upd H4 Dl (.lst (acc ++ [y])))
theorem lcW (w : Walk J n G Y) (R : Nat → List V → Hp → Prop) (hw : wipe σ vs = σ) (hG : ∀ H', Same H H' → G H') (h0 : ∀ H', Same H H' → R 0 [] H')
    (hs : ∀ i x acc Dl H' H'', i < n → H Dl = none → Same H H' → H' Dl = some (.lst acc) → acc.length ≤ i → R i acc H' → Y i H' x H'' → g x σ H'' fun σ2 H2 => wipe σ2 vs = σ ∧ tt σ2 H2 fun b H3 =>
      if b = true then te σ2 H3 (LcP H Dl R (i + 1)) else LcI H Dl R (i + 1) H3)
    (hd : ∀ acc Dl H', H Dl = none → Same H H' → H' Dl = some (.lst acc) → R n acc H' → Q (.ref Dl) H') : LcQ σ g tt te vs Q J H := by
  intro Dl hD
  rw [hw]
  refine Eq.mp (by rw [hw]) (lc_it (σ := σ) (vs := vs) (g := g) (tt := tt) (te := te) (H1 := H) (D := Dl) (Qd := fun H' => Q (.ref Dl) H') w (LcI H Dl R) ⟨[], Nat.le_refl _, Same.new hD, upd_same, h0 _ (Same.new hD)⟩ (fun i H' _ ⟨_, _, e, _⟩ => hG H' e) (fun i x H' H'' hi ⟨acc, hl, e, ed, r⟩ y => ?_) fun H' ⟨acc, _, e, ed, r⟩ => hd acc Dl H' hD e ed r)
  rw [hw]
  exact hs i x acc Dl H' H'' hi hD e ed hl r y
theorem lc_put {Dl : Addr} {R : Nat → List V → Hp → Prop} {i : Nat} {y : V} {acc : List V} {H4 : Hp} (hi : i < 16777216) (hD : H Dl = none) (e : Same H H4) (h : H4 Dl = some (.lst acc)) (hl : acc.length ≤ i)
    (r : ∀ H5, But Dl H4 H5 → Same H H5 → R (i + 1) (acc ++ [y]) H5) : LcP H Dl R (i + 1) y H4 :=
  ⟨acc, h, szlt (by omega), acc ++ [y], by rw [List.length_append]; exact Nat.succ_le_succ hl, Same.but But.upd hD e, upd_same, r _ But.upd (Same.but But.upd hD e)⟩
theorem lc_skip {Dl : Addr} {R : Nat → List V → Hp → Prop} {i : Nat} {acc : List V} {H4 : Hp} (e : Same H H4) (h : H4 Dl = some (.lst acc)) (hl : acc.length ≤ i) (r : R (i + 1) acc H4) : LcI H Dl R (i + 1) H4 := ⟨acc, by omega, e, h, r⟩
theorem r_yes {QB : Bool → Hp → Prop} (q : QB true H) : tYes σ H QB := q
theorem r_wipe {σ' : L2.St} {B : Prop} (h : wipe σ' vs = σ) (q : B) : wipe σ' vs = σ ∧ B := ⟨h, q⟩
end
end Z

section
end
open L2 (Same Dp DpAll)
local macro_rules | `(tactic| walk_at "szs") => `(tactic| first | (simp only [List.length_cons, List.length_nil, List.length_append, List.length_map, List.length_take, List.length_drop, List.length_set, Z.len_empty, Z.len_app] <;> omega) | omega)
local macro_rules | `(tactic| walk_at "fn") => `(tactic| first | assumption | (refine Z.fr (by assumption) ?_; walk_at "sm"))
local macro_rules | `(tactic| walk_at "sm") => `(tactic| first
  | assumption
  | exact Same.refl _
  | (refine Z.Same.tr (by assumption) ?_; walk_at "sm")
  | (refine Z.Same.but (by assumption) ?_ ?_; (walk_at "fn"); walk_at "sm"))
local macro_rules | `(tactic| walk_at "bt") => `(tactic| first
  | assumption
  | (refine Z.But.tr (by assumption) ?_; walk_at "bt")
  | (refine Z.But.but (by assumption) ?_; walk_at "bt")
  | (refine Z.But.but2 (by assumption) ?_ ?_; (walk_at "fn"); walk_at "bt")
  | (refine Z.But.of ?_; walk_at "sm"))
local macro_rules | `(tactic| walk_at "ne") => `(tactic| first
  | assumption
  | (refine Ne.symm ?_; assumption)
  | (refine Z.ne1 (o := ?o) (by assumption) ?h; (case h => walk_at "lk"))
  | (refine Ne.symm (Z.ne1 (o := ?o) (by assumption) ?h); (case h => walk_at "lk")))
local macro_rules | `(tactic| walk_at "lk") => `(tactic| first
  | assumption
  | with_reducible exact Dp.int _
  | with_reducible exact Dp.str _
  | with_reducible exact Dp.bl _
  | with_reducible exact Dp.non
  | with_reducible exact DpAll.nil
  | ((with_reducible refine Z.up (by assumption) ?_); walk_at "lk")
  | ((with_reducible refine Z.upB (by assumption) ?_ ?_); (walk_at "ne"); walk_at "lk")
  | ((with_reducible refine Z.sqL ?_); walk_at "lk")
  | ((with_reducible refine Z.sqT ?_); walk_at "lk")
  | ((with_reducible refine Z.upL (by assumption) ?_); walk_at "lk")
  | ((with_reducible refine Z.upT (by assumption) ?_); walk_at "lk")
  | ((with_reducible refine Z.upLB (by assumption) ?_ ?_); (walk_at "ne"); walk_at "lk")
  | ((with_reducible refine Z.upTB (by assumption) ?_ ?_); (walk_at "ne"); walk_at "lk")
  | ((with_reducible refine Z.dpUp (by assumption) ?_); walk_at "lk")
  | ((with_reducible refine Z.dpsUp (by assumption) ?_); walk_at "lk")
  | ((with_reducible refine DpAll.cons ?_ ?_); (walk_at "lk"); walk_at "lk")
  | ((with_reducible refine Dp.tup (xs := ?xs) ?h1 ?h2); (case h1 => walk_at "lk"); (case h2 => walk_at "lk"))
  | ((with_reducible refine Dp.lst (xs := ?xs) ?h1 ?h2); (case h1 => walk_at "lk"); (case h2 => walk_at "lk")))
local macro_rules | `(tactic| walk_at "sd") => `(tactic| first
  | rfl
  | assumption
  | omega
  | decide
  | exact Z.szl (by walk_at "szs")
  | exact Z.szlt (by walk_at "szs")
  | exact Or.inl ⟨by omega, by omega⟩
  | exact Or.inl (Or.inl ⟨by omega, by omega⟩)
  | exact Or.inl (Or.inr ⟨by omega, by omega⟩)
  | exact ⟨by omega, by omega⟩
  | exact ⟨by omega, by omega, by omega⟩)
local macro_rules | `(tactic| walk_at "isi") => `(tactic| first
  | with_reducible refine Z.q_int_int ?_
  | with_reducible refine Z.q_int_bool ?_
  | with_reducible refine Z.q_int_str ?_
  | with_reducible refine Z.q_int_list ?_
  | with_reducible refine Z.q_int_tuple ?_
  | with_reducible refine Z.q_int_dict ?_
  | with_reducible refine Z.q_bool_int ?_
  | with_reducible refine Z.q_bool_bool ?_
  | with_reducible refine Z.q_bool_str ?_
  | with_reducible refine Z.q_bool_list ?_
  | with_reducible refine Z.q_bool_tuple ?_
  | with_reducible refine Z.q_bool_dict ?_
  | with_reducible refine Z.q_str_int ?_
  | with_reducible refine Z.q_str_bool ?_
  | with_reducible refine Z.q_str_str ?_
  | with_reducible refine Z.q_str_list ?_
  | with_reducible refine Z.q_str_tuple ?_
  | with_reducible refine Z.q_str_dict ?_
  | with_reducible refine Z.q_NoneType_int ?_
  | with_reducible refine Z.q_NoneType_bool ?_
  | with_reducible refine Z.q_NoneType_str ?_
  | with_reducible refine Z.q_NoneType_list ?_
  | with_reducible refine Z.q_NoneType_tuple ?_
  | with_reducible refine Z.q_NoneType_dict ?_
  | ((with_reducible refine Z.q_list_int (xs := ?xs) ?h ?_); (case h => walk_at "lk"))
  | ((with_reducible refine Z.q_list_bool (xs := ?xs) ?h ?_); (case h => walk_at "lk"))
  | ((with_reducible refine Z.q_list_str (xs := ?xs) ?h ?_); (case h => walk_at "lk"))
  | ((with_reducible refine Z.q_list_list (xs := ?xs) ?h ?_); (case h => walk_at "lk"))
  | ((with_reducible refine Z.q_list_tuple (xs := ?xs) ?h ?_); (case h => walk_at "lk"))
  | ((with_reducible refine Z.q_list_dict (xs := ?xs) ?h ?_); (case h => walk_at "lk"))
  | ((with_reducible refine Z.q_tuple_int (xs := ?xs) ?h ?_); (case h => walk_at "lk"))
  | ((with_reducible refine Z.q_tuple_bool (xs := ?xs) ?h ?_); (case h => walk_at "lk"))
  | ((with_reducible refine Z.q_tuple_str (xs := ?xs) ?h ?_); (case h => walk_at "lk"))
  | ((with_reducible refine Z.q_tuple_list (xs := ?xs) ?h ?_); (case h => walk_at "lk"))
  | ((with_reducible refine Z.q_tuple_tuple (xs := ?xs) ?h ?_); (case h => walk_at "lk"))
  | ((with_reducible refine Z.q_tuple_dict (xs := ?xs) ?h ?_); (case h => walk_at "lk"))
  | ((with_reducible refine Z.q_dict_int (xs := ?xs) ?h ?_); (case h => walk_at "lk"))
  | ((with_reducible refine Z.q_dict_bool (xs := ?xs) ?h ?_); (case h => walk_at "lk"))
  | ((with_reducible refine Z.q_dict_str (xs := ?xs) ?h ?_); (case h => walk_at "lk"))
  | ((with_reducible refine Z.q_dict_list (xs := ?xs) ?h ?_); (case h => walk_at "lk"))
  | ((with_reducible refine Z.q_dict_tuple (xs := ?xs) ?h ?_); (case h => walk_at "lk"))
  | ((with_reducible refine Z.q_dict_dict (xs := ?xs) ?h ?_); (case h => walk_at "lk")))
local macro_rules | `(tactic| walk_at "tr") => `(tactic| (set_option pp.maxSteps 1500 in trace_state))
local macro_rules | `(tactic| walk_at "st") => `(tactic| try dsimp only [cxOf, Cx.wish])
local macro_rules | `(tactic| walk_at "rd1") => `(tactic| first
  | with_reducible refine Z.v0 ?_
  | with_reducible refine Z.v1 ?_
  | with_reducible refine Z.v2 ?_
  | with_reducible refine Z.v3 ?_
  | with_reducible refine Z.v4 ?_
  | with_reducible refine Z.v5 ?_
  | with_reducible refine Z.v6 ?_
  | with_reducible refine Z.v7 ?_
  | with_reducible refine Z.v8 ?_
  | with_reducible refine Z.v9 ?_
  | with_reducible refine Z.v10 ?_
  | with_reducible refine Z.v11 ?_
  | with_reducible refine Z.v12 ?_
  | with_reducible refine Z.v13 ?_
  | with_reducible refine Z.v14 ?_
  | with_reducible refine Z.r_c ?_
  | with_reducible refine Z.r_op ?_
  | with_reducible refine Z.r_seq ?_
  | with_reducible refine Z.r_asg ?_
  | with_reducible refine Z.n0 ?_
  | with_reducible refine Z.n1 ?_
  | with_reducible refine Z.n2 ?_
  | with_reducible refine Z.n3 ?_
  | with_reducible refine Z.n4 ?_
  | with_reducible refine Z.n5 ?_
  | with_reducible refine Z.n6 ?_
  | with_reducible refine Z.n7 ?_
  | with_reducible refine Z.n8 ?_
  | with_reducible refine Z.n9 ?_
  | with_reducible refine Z.n10 ?_
  | with_reducible refine Z.n11 ?_
  | with_reducible refine Z.n12 ?_
  | with_reducible refine Z.n13 ?_
  | with_reducible refine Z.n14 ?_
  | with_reducible refine Z.r_cons ?_
  | with_reducible refine Z.r_nil ?_
  | with_reducible refine Z.r_CB ?_
  | with_reducible refine Z.r_call ?_
  | with_reducible refine Z.r_ret ?_
  | with_reducible refine Z.r_ifS ?_
  | with_reducible refine Z.r_test ?_
  | with_reducible refine Z.r_tB ?_
  | with_reducible refine Z.r_exB ?_
  | with_reducible refine Z.r_exI ?_
  | with_reducible refine Z.r_T ?_
  | with_reducible refine Z.r_F ?_
  | with_reducible refine Z.r_nT ?_
  | with_reducible refine Z.r_nF ?_
  | with_reducible refine Z.r_addI ?_
  | with_reducible refine Z.r_sub ?_
  | ((with_reducible refine Z.r_mulI ?_ ?h); (case h => walk_at "sd"))
  | ((with_reducible refine Z.r_mod ?_ ?h); (case h => walk_at "sd"))
  | ((with_reducible refine Z.r_div ?_ ?h); (case h => walk_at "sd"))
  | with_reducible refine Z.p10_6 ?_
  | with_reducible refine Z.p10_8 ?_
  | with_reducible refine Z.p10_9 ?_
  | with_reducible refine Z.p10_18 ?_
  | ((with_reducible refine Z.r_pow ?_ ?h); (case h => walk_at "sd"))
  | ((with_reducible refine Z.r_addS ?_ ?h); (case h => walk_at "sd"))
  | ((with_reducible refine Z.r_addL (xs := ?xs) (ys := ?ys) ?h1 ?h2 ?_ ?h); (case h1 => walk_at "lk"); (case h2 => walk_at "lk"); (case h => walk_at "sd"))
  | with_reducible refine Z.r_eqI ?_
  | with_reducible refine Z.r_neI ?_
  | with_reducible refine Z.r_eqS ?_
  | with_reducible refine Z.r_neS ?_
  | ((with_reducible refine Z.r_eq ?_ ?h); (case h => rfl))
  | ((with_reducible refine Z.r_ne ?_ ?h); (case h => rfl))
  | with_reducible refine Z.r_lt ?_
  | with_reducible refine Z.r_le ?_
  | with_reducible refine Z.r_gt ?_
  | with_reducible refine Z.r_ge ?_
  | with_reducible refine Z.r_isN ?_
  | with_reducible refine Z.r_isI ?_
  | with_reducible refine Z.r_isS ?_
  | with_reducible refine Z.r_isR ?_
  | with_reducible refine Z.r_isB ?_
  | with_reducible refine Z.r_notN ?_
  | with_reducible refine Z.r_notI ?_
  | with_reducible refine Z.r_notS ?_
  | with_reducible refine Z.r_notR ?_
  | with_reducible refine Z.r_inT ?_
  | with_reducible refine Z.r_notInT ?_
  | ((with_reducible refine Z.r_inL (xs := ?xs) ?h1 ?_ ?h2 ?h3); (case h1 => walk_at "lk"); (case h2 => rfl); (case h3 => first | rfl | assumption))
  | ((with_reducible refine Z.r_notInL (xs := ?xs) ?h1 ?_ ?h2 ?h3); (case h1 => walk_at "lk"); (case h2 => rfl); (case h3 => first | rfl | assumption))
  | ((with_reducible refine Z.r_ixL (xs := ?xs) (v := ?v) ?h1 ?h2 ?_); (case h1 => walk_at "lk"); (case h2 => first | rfl | assumption))
  | ((with_reducible refine Z.r_ixT (xs := ?xs) (v := ?v) ?h1 ?h2 ?_); (case h1 => walk_at "lk"); (case h2 => first | rfl | assumption))
  | ((with_reducible refine Z.r_lenL (xs := ?xs) ?h1 ?_); (case h1 => walk_at "lk"))
  | ((with_reducible refine Z.r_lenT (xs := ?xs) ?h1 ?_); (case h1 => walk_at "lk"))
  | ((with_reducible refine Z.r_lenS ?_ ?h1); (case h1 => walk_at "sd"))
  | with_reducible refine Z.r_abs ?_
  | with_reducible refine Z.r_max ?_
  | with_reducible refine Z.r_min ?_
  | ((with_reducible refine Z.r_strI ?_ ?h1); (case h1 => walk_at "sd"))
  | ((with_reducible refine Z.r_listL (xs := ?xs) ?h1 ?_); (case h1 => walk_at "lk"))
  | ((with_reducible refine Z.r_listT (xs := ?xs) ?h1 ?_); (case h1 => walk_at "lk"))
  | ((with_reducible refine Z.r_isiHd ?_); walk_at "isi")
  | with_reducible refine Z.r_tup ?_
  | with_reducible refine Z.r_lst ?_
  | ((with_reducible refine Z.r_newT ?_ ?h); (case h => walk_at "sd"))
  | ((with_reducible refine Z.r_newL ?_ ?h); (case h => walk_at "sd"))
  | with_reducible refine Z.r_sl ?_
  | with_reducible refine Z.r_part ?_
  | with_reducible refine Z.r_noPart ?_
  | ((with_reducible refine Z.r_slL (xs := ?xs) ?h1 ?_); (case h1 => walk_at "lk"))
  | ((with_reducible refine Z.r_slS ?_ ?h1); (case h1 => walk_at "sd"))
  | with_reducible refine Z.r_un ?_
  | with_reducible refine Z.r_U ?_
  | with_reducible refine Z.r_BM ?_
  | with_reducible refine Z.r_BM0 ?_
  | with_reducible refine Z.r_tyS ?_
  | ((with_reducible refine Z.r_tyL (xs := ?xs) ?h ?_); (case h => walk_at "lk"))
  | ((with_reducible refine Z.r_appendQ (xs := ?xs) ?h ?_ ?h2); (case h => walk_at "lk"); (case h2 => walk_at "sd"))
  | ((with_reducible refine Z.r_split ?_ ?h ?h2); (case h => first | rfl | decide +kernel); (case h2 => walk_at "sd"))
  | with_reducible refine Z.r_subTg ?_
  | ((with_reducible refine Z.r_setL (xs := ?xs) (n := ?n) ?h ?h2 ?_); (case h => walk_at "lk"); (case h2 => first | rfl | assumption))
  | with_reducible refine Z.r_fmt ?_
  | ((with_reducible refine Z.r_fmtI ?_ ?h); (case h => walk_at "sd"))
  | ((with_reducible refine Z.r_fmtS ?_ ?h); (case h => walk_at "sd"))
  | with_reducible refine Z.r_js0 ?_
  | with_reducible refine Z.r_js ?_
  | ((with_reducible refine Z.r_jsS ?_ ?h); (case h => walk_at "sd"))
  | with_reducible refine Z.r_and ?_
  | with_reducible refine Z.r_or ?_
  | with_reducible refine Z.r_not ?_
  | with_reducible refine Z.r_andV ?_
  | with_reducible refine Z.r_orV ?_
  | with_reducible refine Z.r_notV ?_
  | with_reducible refine Z.r_chain ?_
  | with_reducible refine Z.r_ifE ?_
  | with_reducible refine Z.r_next ?_
  | with_reducible refine Z.r_par ?_
  | with_reducible refine Z.r_par2 ?_
  | with_reducible refine Z.r_drop ?_
  | with_reducible refine Z.r_retN ?_
  | with_reducible refine Z.r_brk ?_
  | with_reducible refine Z.r_cnt ?_
  | ((with_reducible refine Z.r_tg (xs := ?xs) ?h ?_ ?h2); (case h => walk_at "lk"); (case h2 => rfl))
  | with_reducible refine Z.r_gcons ?_
  | with_reducible refine Z.r_gnil ?_
  | ((with_reducible refine Z.r_aug (i := ?i) ?h ?_); (case h => exact rfl))
  | with_reducible refine Z.r_for ?_
  | with_reducible refine Z.r_lc ?_
  | with_reducible refine Z.i_L ?_
  | with_reducible refine Z.i_T ?_
  | with_reducible refine Z.i_S ?_
  | with_reducible refine Z.i_R1 ?_
  | with_reducible refine Z.i_R2 ?_
  | with_reducible refine Z.i_E ?_
  | with_reducible refine Z.i_Z ?_
  | ((with_reducible refine Z.s_L (xs := ?xs) ?h1 ?_); (case h1 => walk_at "lk"))
  | ((with_reducible refine Z.s_T (xs := ?xs) ?h1 ?_); (case h1 => walk_at "lk"))
  | with_reducible refine Z.s_S ?_
  | ((with_reducible refine Z.s_R1 ?_ ?h1); (case h1 => walk_at "sd"))
  | ((with_reducible refine Z.s_R2 ?_ ?h1); (case h1 => walk_at "sd"))
  | ((with_reducible refine Z.s_E (xs := ?xs) ?h1 ?_); (case h1 => walk_at "lk"))
  | ((with_reducible refine Z.s_Z (xs := ?xs) (ys := ?ys) ?h1 ?h2 ?_); (case h1 => walk_at "lk"); (case h2 => walk_at "lk"))
  | with_reducible refine Z.r_yes ?_
  | ((with_reducible refine Z.r_wipe ?h ?_); (case h => rfl)))
local macro_rules | `(tactic| walk_at "rd") => `(tactic| repeat (walk_at "rd1"))
local macro_rules | `(tactic| walk_at "mn") => `(tactic| repeat (first
  | exact Z.m_var | exact Z.m_c | exact Z.m_gt | exact Z.m_lt | exact Z.m_ge | exact Z.m_le | exact Z.m_eqP | exact Z.m_neP
  | refine Z.m_test ?_ | refine Z.m_op ?_ ?_ ?_ | refine Z.m_or ?_ ?_ | refine Z.m_and ?_ ?_))

/-! the mathematics of fractions written and read -/
namespace M
open PySem L2 TL SX

/-- the codes of a whole number -/
def intL (n : Int) : List Nat := if n < 0 then 45 :: numL n.natAbs else numL n.natAbs
theorem int_S' (n : Int) : Str.ofString (toString n) = S (intL n) := by
  unfold intL
  cases n with
  | ofNat m =>
    rw [if_neg (by have : (0 : Int) ≤ Int.ofNat m := Int.natCast_nonneg m; omega)]
    exact num_S m
  | negSucc m =>
    rw [if_pos (Int.negSucc_lt_zero m)]
    refine ext_tl ?_
    have e : toString (Int.negSucc m) = "-" ++ toString (m + 1) := rfl
    rw [e, tl_ofString]
    have h2 := tl_num (m + 1)
    have e2 : toString (((m + 1 : Nat) : Int)) = toString (m + 1) := rfl
    rw [e2, tl_ofString] at h2
    rw [String.toList_append, List.map_append, h2]
    rfl
/-- a fraction's codes -/
def fracL (n : Int) (d : Nat) : List Nat := if d = 1 then intL n else intL n ++ 47 :: numL d

def digit (c : Nat) : Bool := decide (48 ≤ c ∧ c ≤ 57)
/-- the number that codes write, at most m of them, no nought ahead -/
def wholeIn (l : List Nat) (m : Nat) : Option Nat := if 1 ≤ l.length ∧ l.length ≤ m ∧ ¬ (1 < l.length ∧ l.head? = some 48) ∧ l.all digit = true then some (NumText.digitsVal l) else none
theorem fig_mem (c : Nat) : decide (c ∈ (Str.ofString "0123456789").cps.toList) = digit c := by
  have e : (Str.ofString "0123456789").cps.toList = [48, 49, 50, 51, 52, 53, 54, 55, 56, 57] := by decide +kernel
  rw [e]
  unfold digit
  rw [decide_eq_decide]
  simp only [List.mem_cons, List.not_mem_nil, or_false]
  omega
theorem numL_head : ∀ (n : Nat), 10 ≤ n → (numL n).head? ≠ some 48 := by
  intro n
  induction n using Nat.strongRecOn with
  | _ n ih =>
    intro h
    rw [numL_step h]
    by_cases h2 : n / 10 < 10
    · rw [numL_lt h2]
      intro z
      have : 48 + n / 10 = 48 := Option.some.inj z
      omega
    · intro z
      refine ih (n / 10) (by omega) (by omega) ?_
      cases e : numL (n / 10) with
      | nil => exact absurd e (numL_ne _)
      | cons a r =>
        rw [e] at z
        exact z
theorem numL_all (n : Nat) : (numL n).all digit = true := by
  rw [List.all_eq_true]
  intro c hc
  have := numL_digits n c hc
  exact decide_eq_true this
theorem wholeIn_num {n m : Nat} (h : (numL n).length ≤ m) : wholeIn (numL n) m = some n := by
  unfold wholeIn
  rw [if_pos, numL_val]
  refine ⟨?_, h, ?_, numL_all n⟩
  · cases e : numL n with
    | nil => exact absurd e (numL_ne _)
    | cons a r => simp
  · rintro ⟨h1, h2⟩
    by_cases h3 : n < 10
    · rw [numL_lt h3] at h1
      simp at h1
    · exact numL_head n (by omega) h2
def sgn (neg : Bool) (a : Nat) : Int := if neg then -(a : Int) else a
/-- the fraction that codes write -/
def fracOf (neg : Bool) (nums : List (Option Nat)) : Option (Int × Nat) := match nums with
  | [some a] => if neg = true ∧ a = 0 then none else some (sgn neg a, 1)
  | [some a, some b] => if b < 2 ∨ neg = true ∧ a = 0 then none else if Nat.gcd b a = 1 then some (sgn neg a, b) else none
  | _ => none
def isNeg (l : List Nat) : Bool := decide (l.head? = some 45)
def figs (l : List Nat) : List Nat := if isNeg l = true then l.tail else l
def numsIn (l : List Nat) (m : Nat) : List (Option Nat) := (spl [47] 0 [] (figs l)).map fun p => wholeIn p m
def fracIn (l : List Nat) (m : Nat) : Option (Int × Nat) := fracOf (isNeg l) (numsIn l m)
theorem intL_neg (n : Int) : isNeg (intL n) = decide (n < 0) := by
  unfold isNeg intL
  rw [decide_eq_decide]
  by_cases h : n < 0
  · rw [if_pos h]
    simp [h]
  · rw [if_neg h]
    constructor
    · intro z
      have hm : 45 ∈ numL n.natAbs := by
        cases e : numL n.natAbs with
        | nil =>
          rw [e] at z
          cases z
        | cons a r =>
          rw [e] at z
          have : a = 45 := Option.some.inj z
          rw [this]
          exact List.mem_cons_self
      exact absurd hm (numL_free (by omega))
    · intro z
      exact absurd z h
theorem intL_figs (n : Int) : figs (intL n) = numL n.natAbs := by
  unfold figs
  rw [intL_neg]
  unfold intL
  by_cases h : n < 0
  · rw [if_pos (decide_eq_true h), if_pos h]
    rfl
  · rw [if_neg (by simpa using h), if_neg h]
theorem isNeg_app {l r : List Nat} (h : l ≠ []) : isNeg (l ++ r) = isNeg l := by
  cases l with
  | nil => exact absurd rfl h
  | cons a l => rfl
theorem figs_app {l r : List Nat} (h : l ≠ []) : figs (l ++ r) = figs l ++ r := by
  unfold figs
  rw [isNeg_app h]
  by_cases c : isNeg l = true
  · rw [if_pos c, if_pos c]
    cases l with
    | nil => exact absurd rfl h
    | cons a l => rfl
  · rw [if_neg c, if_neg c]
theorem intL_ne (n : Int) : intL n ≠ [] := by
  unfold intL
  split
  · simp
  · exact numL_ne _
theorem sgn_abs (n : Int) : sgn (decide (n < 0)) n.natAbs = n := by
  unfold sgn
  by_cases h : n < 0
  · rw [if_pos (decide_eq_true h)]
    omega
  · rw [if_neg (by simpa using h)]
    omega
/-- what is written is read -/
theorem frac_back {n : Int} {d m : Nat} (hn : (numL n.natAbs).length ≤ m) (hd : (numL d).length ≤ m) (h0 : 0 < d) (hg : Nat.gcd d n.natAbs = 1) : fracIn (fracL n d) m = some (n, d) := by
  unfold fracIn fracL numsIn
  by_cases h1 : d = 1
  · rw [if_pos h1, intL_neg, intL_figs, spl_last1 (numL_free (by omega))]
    show fracOf _ [wholeIn ([] ++ numL n.natAbs) m] = _
    rw [List.nil_append, wholeIn_num hn]
    show (if _ then _ else _) = _
    rw [if_neg, sgn_abs, h1]
    rintro ⟨a, b⟩
    have := of_decide_eq_true a
    omega
  · rw [if_neg h1, isNeg_app (intL_ne n), intL_neg, figs_app (intL_ne n), intL_figs]
    have e : spl [47] 0 [] (numL n.natAbs ++ 47 :: numL d) = [numL n.natAbs, numL d] := by
      have a := spl_part1 (s := 47) (S := []) (p := numL n.natAbs) (rest := numL d) (acc := []) (numL_free (by omega))
      rw [spl_last1 (numL_free (by omega))] at a
      simpa using a
    rw [e]
    show fracOf _ [wholeIn (numL n.natAbs) m, wholeIn (numL d) m] = _
    rw [wholeIn_num hn, wholeIn_num hd]
    show (if _ then _ else _) = _
    rw [if_neg, if_pos hg, sgn_abs]
    rintro (a | ⟨a, b⟩)
    · omega
    · have := of_decide_eq_true a
      omega
theorem len60 {n : Nat} (h : n < 10 ^ 60) : (numL n).length ≤ 60 := numL_len (by decide) h
/-! the greatest common divisor, by steps -/
theorem gcd_step {x y : Nat} (h : 0 < y) : Nat.gcd y (x % y) = Nat.gcd x y := by
  rw [Nat.gcd_comm x y, Nat.gcd_rec y x, Nat.gcd_comm]
theorem lowest_gcd {t b : Nat} (h : 0 < b) : Nat.gcd (b / Nat.gcd t b) (t / Nat.gcd t b) = 1 := by
  have g0 : 0 < Nat.gcd t b := Nat.gcd_pos_of_pos_right _ h
  have h2 := Nat.gcd_div (Nat.gcd_dvd_right t b) (Nat.gcd_dvd_left t b)
  rw [Nat.gcd_comm b t, Nat.div_self g0] at h2
  exact h2
/-! figures, from the end -/
theorem fig_at {d : Nat} (h : d < 10) : atI (Str.ofString "0123456789").cps.toList (d : Int) = some (48 + d) := by
  have e : (Str.ofString "0123456789").cps.toList = [48, 49, 50, 51, 52, 53, 54, 55, 56, 57] := by decide +kernel
  rw [e]
  refine atI_nat ?_
  match d, h with
  | 0, _ => rfl
  | 1, _ => rfl
  | 2, _ => rfl
  | 3, _ => rfl
  | 4, _ => rfl
  | 5, _ => rfl
  | 6, _ => rfl
  | 7, _ => rfl
  | 8, _ => rfl
  | 9, _ => rfl
/-- texts by codes -/
theorem S_app (a b : List Nat) : S a ++ S b = S (a ++ b) := ext_tl (by rw [tl_append])
theorem S_len (a : List Nat) : (S a).length = a.length := by
  show a.toArray.size = a.length
  simp
theorem S_inj {a b : List Nat} (h : S a = S b) : a = b := by
  have := congrArg tl h
  exact this
theorem S_tl (z : Str) : z = S (tl z) := (mk_tl z).symm
end M

namespace My
open PySem PySem.Spec PyProof.Rows L2 Z M SX TL
def top (i : Nat) : Stmt := PySem.Challenge.pw_dearsigns_k61_fractions_written.main.body.getD i (.Pass ⟨0, 0, 0, 0⟩)
abbrev s_is_whole : Stmt := top 5
abbrev s_divisor : Stmt := top 6
abbrev s_lowest : Stmt := top 7
abbrev s_fraction : Stmt := top 8
abbrev s_show_fraction : Stmt := top 10
abbrev s_whole_in : Stmt := top 14
abbrev s_fraction_in : Stmt := top 15
abbrev s_read_fraction : Stmt := top 16
abbrev s_law_pool : Stmt := top 18
abbrev s_law_take : Stmt := top 19
abbrev s_law_low : Stmt := top 20
abbrev s_law_great : Stmt := top 21
abbrev s_law_figures : Stmt := top 22
abbrev s_law_due : Stmt := top 23
abbrev s_law : Stmt := top 24
theorem sc_is_whole : FnScope ["thing"] ["thing"] (defScope s_is_whole) := ⟨rfl, rfl, rfl, by decide +kernel, rfl, by decide +kernel, by decide +kernel⟩
theorem sc_divisor : FnScope ["one", "other"] ["one", "other"] (defScope s_divisor) := ⟨rfl, rfl, rfl, by decide +kernel, rfl, by decide +kernel, by decide +kernel⟩
theorem sc_lowest : FnScope ["top", "bottom", "share"] ["top", "bottom"] (defScope s_lowest) := ⟨rfl, rfl, rfl, by decide +kernel, rfl, by decide +kernel, by decide +kernel⟩
theorem sc_fraction : FnScope ["top", "bottom"] ["top", "bottom"] (defScope s_fraction) := ⟨rfl, rfl, rfl, by decide +kernel, rfl, by decide +kernel, by decide +kernel⟩
theorem sc_show_fraction : FnScope ["one"] ["one"] (defScope s_show_fraction) := ⟨rfl, rfl, rfl, by decide +kernel, rfl, by decide +kernel, by decide +kernel⟩
theorem sc_whole_in : FnScope ["word", "most", "sign"] ["word", "most"] (defScope s_whole_in) := ⟨rfl, rfl, rfl, by decide +kernel, rfl, by decide +kernel, by decide +kernel⟩
theorem sc_fraction_in : FnScope ["word", "most", "figures", "numbers", "one", "part"] ["word", "most"] (defScope s_fraction_in) := ⟨rfl, rfl, rfl, by decide +kernel, rfl, by decide +kernel, by decide +kernel⟩
theorem sc_read_fraction : FnScope ["text", "one"] ["text"] (defScope s_read_fraction) := ⟨rfl, rfl, rfl, by decide +kernel, rfl, by decide +kernel, by decide +kernel⟩
theorem sc_law_pool : FnScope ["_law_script", "_law_k", "_law_cell", "_law_seed"] ["_law_script", "_law_k"] (defScope s_law_pool) := ⟨rfl, rfl, rfl, by decide +kernel, rfl, by decide +kernel, by decide +kernel⟩
theorem sc_law_take : FnScope ["_law_pool_here", "_law_many", "_law_found"] ["_law_pool_here", "_law_many"] (defScope s_law_take) := ⟨rfl, rfl, rfl, by decide +kernel, rfl, by decide +kernel, by decide +kernel⟩
theorem sc_law_low : FnScope ["_law_top", "_law_bottom", "_law_one", "_law_other"] ["_law_top", "_law_bottom"] (defScope s_law_low) := ⟨rfl, rfl, rfl, by decide +kernel, rfl, by decide +kernel, by decide +kernel⟩
theorem sc_law_great : FnScope ["_law_pool_here", "_law_found", "_law_k"] ["_law_pool_here"] (defScope s_law_great) := ⟨rfl, rfl, rfl, by decide +kernel, rfl, by decide +kernel, by decide +kernel⟩
theorem sc_law_figures : FnScope ["_law_number", "_law_found"] ["_law_number"] (defScope s_law_figures) := ⟨rfl, rfl, rfl, by decide +kernel, rfl, by decide +kernel, by decide +kernel⟩
theorem sc_law_due : FnScope ["_law_one", "_law_found"] ["_law_one"] (defScope s_law_due) := ⟨rfl, rfl, rfl, by decide +kernel, rfl, by decide +kernel, by decide +kernel⟩
theorem sc_law : FnScope ["_law_script", "_law_k", "_law_pool_here", "_law_top", "_law_bottom", "_law_one", "_law_found", "_law_told", "_law_part"] ["_law_script"] (defScope s_law) := ⟨rfl, rfl, rfl, by decide +kernel, rfl, by decide +kernel, by decide +kernel⟩
theorem st_is_whole {a0 : V} : start ["thing"] [a0] = [some a0] := rfl
theorem st_divisor {a0 a1 : V} : start ["one", "other"] [a0, a1] = [some a0, some a1] := rfl
theorem st_lowest {a0 a1 : V} : start ["top", "bottom", "share"] [a0, a1] = [some a0, some a1, none] := rfl
theorem st_fraction {a0 a1 : V} : start ["top", "bottom"] [a0, a1] = [some a0, some a1] := rfl
theorem st_show_fraction {a0 : V} : start ["one"] [a0] = [some a0] := rfl
theorem st_whole_in {a0 a1 : V} : start ["word", "most", "sign"] [a0, a1] = [some a0, some a1, none] := rfl
theorem st_fraction_in {a0 a1 : V} : start ["word", "most", "figures", "numbers", "one", "part"] [a0, a1] = [some a0, some a1, none, none, none, none] := rfl
theorem st_read_fraction {a0 : V} : start ["text", "one"] [a0] = [some a0, none] := rfl
theorem st_law_pool {a0 a1 : V} : start ["_law_script", "_law_k", "_law_cell", "_law_seed"] [a0, a1] = [some a0, some a1, none, none] := rfl
theorem st_law_take {a0 a1 : V} : start ["_law_pool_here", "_law_many", "_law_found"] [a0, a1] = [some a0, some a1, none] := rfl
theorem st_law_low {a0 a1 : V} : start ["_law_top", "_law_bottom", "_law_one", "_law_other"] [a0, a1] = [some a0, some a1, none, none] := rfl
theorem st_law_great {a0 : V} : start ["_law_pool_here", "_law_found", "_law_k"] [a0] = [some a0, none, none] := rfl
theorem st_law_figures {a0 : V} : start ["_law_number", "_law_found"] [a0] = [some a0, none] := rfl
theorem st_law_due {a0 : V} : start ["_law_one", "_law_found"] [a0] = [some a0, none] := rfl
theorem st_law {a0 : V} : start ["_law_script", "_law_k", "_law_pool_here", "_law_top", "_law_bottom", "_law_one", "_law_found", "_law_told", "_law_part"] [a0] = [some a0, none, none, none, none, none, none, none, none] := rfl
structure Txt (K : PySem.W.Frag) (mg : Str → Option Value) : Prop where
  d_is_whole : Z.At K mg "is_whole" "is_whole" s_is_whole []
  d_divisor : Z.At K mg "divisor" "divisor" s_divisor []
  d_lowest : Z.At K mg "lowest" "lowest" s_lowest []
  d_fraction : Z.At K mg "fraction" "fraction" s_fraction [.int 1]
  d_show_fraction : Z.At K mg "show_fraction" "show_fraction" s_show_fraction []
  d_whole_in : Z.At K mg "whole_in" "whole_in" s_whole_in []
  d_fraction_in : Z.At K mg "fraction_in" "fraction_in" s_fraction_in []
  d_read_fraction : Z.At K mg "read_fraction" "read_fraction" s_read_fraction []
  d_law_pool : Z.At K mg "_law_pool" "_law_pool" s_law_pool []
  d_law_take : Z.At K mg "_law_take" "_law_take" s_law_take []
  d_law_low : Z.At K mg "_law_low" "_law_low" s_law_low []
  d_law_great : Z.At K mg "_law_great" "_law_great" s_law_great []
  d_law_figures : Z.At K mg "_law_figures" "_law_figures" s_law_figures []
  d_law_due : Z.At K mg "_law_due" "_law_due" s_law_due []
  d_law : Z.At K mg "law" "law" s_law []
  b_abs : mg "abs" = none
  b_all : mg "all" = none
  b_bool : mg "bool" = none
  b_int : mg "int" = none
  b_isinstance : mg "isinstance" = none
  b_len : mg "len" = none
  b_max : mg "max" = none
  b_min : mg "min" = none
  b_range : mg "range" = none
  b_str : mg "str" = none
  b_tuple : mg "tuple" = none
  c_FIGURES : ∃ u, mg "FIGURES" = some u ∧ RelV (.str "0123456789") u
  c_MOST_FIGURES : ∃ u, mg "MOST_FIGURES" = some u ∧ RelV (.int 60) u
  k_DearError : mg "DearError" = some (.ref (He.ga K "DearError"))
  k_NoNumber : mg "NoNumber" = some (.ref (He.ga K "NoNumber"))
  k_NoText : mg "NoText" = some (.ref (He.ga K "NoText"))
section
variable {P : Program} {w : World} {K : PySem.W.Frag} {mg : Str → Option Value} {base : Heap}
/-! ### whole numbers -/
def sp_is_whole : Sp := fun vs H Q _ => ∃ i : Int, vs = [.int i] ∧ Q (.bl true) H
theorem ok_is_whole (T : Txt K mg) : Z.C0 P w K mg base 1 "is_whole" (sp_is_whole) := by
  refine T.d_is_whole.c0 sc_is_whole (fun vs H Q E h => ?_) (Z.bd0 fun _ _ _ _ _ _ us hl => match us, hl with | [_], _ => rfl) (fun f cdv A outer s H vs Q E hr h => ⟨_, (pss_one (ps_ret (pe_and (pe_callB (k_isi K) rfl T.b_isinstance (by decide +kernel) (pa_cons (pv 0) (pa_cons (pe_bltn (v := .ty "int") rfl T.b_int (by decide +kernel) rfl) pa_nil))) (pe_one (pe_not (pe_callB (k_isi K) rfl T.b_isinstance (by decide +kernel) (pa_cons (pv 0) (pa_cons (pe_bltn (v := .ty "bool") rfl T.b_bool (by decide +kernel) rfl) pa_nil)))))))), ?_⟩)
  · obtain ⟨i, rfl, _⟩ := h
    rfl
  · obtain ⟨i, rfl, q⟩ := h
    rw [st_is_whole]
    walk_at "st"
    walk_at "rd"
    exact q
/-! ### divisor -/
def sp_divisor : Sp := fun vs H Q _ => ∃ a b : Nat, vs = [.int a, .int b] ∧ Q (.int (Nat.gcd a b : Nat)) H
theorem ok_divisor (T : Txt K mg) : Z.C0 P w K mg base 1 "divisor" (sp_divisor) := by
  refine T.d_divisor.c0 sc_divisor (fun vs H Q E h => ?_) (Z.bd0 fun _ _ _ _ _ _ us hl => match us, hl with | [_, _], _ => rfl) (fun f cdv A outer s H vs Q E hr h => ⟨_, (pss_cons (ps_while PassesOwn.never (pt_cmpR op_gtI (pv 1) pe_int (nomark _))
  (pss_one (ps_par (i := 0) (j := 1) rfl sc_divisor.nd rfl rfl (by decide) rfl rfl (pa_cons (pv 1) (pa_cons (pe_op op_modP (pv 0) (pv 1)) pa_nil)) rfl)))
  (pss_one (ps_ret (pv 0)))), ?_⟩)
  · obtain ⟨a, b, rfl, _⟩ := h
    rfl
  · obtain ⟨a, b, rfl, q⟩ := h
    rw [st_divisor]
    walk_at "st"
    walk_at "rd"
    refine r_while (fun m σ H' => H' = H ∧ ∃ x y : Nat, σ = [some (.int x), some (.int y)] ∧ m = y ∧ Nat.gcd x y = Nat.gcd a b) b (by walk_at "mn") ⟨rfl, a, b, rfl, rfl, rfl⟩ ?_
    rintro m σ _ ⟨rfl, x, y, rfl, rfl, e⟩
    walk_at "rd"
    refine r_ite (fun h1 => ?_) (fun h1 => ?_)
    · walk_at "rd"
      exact ⟨x % m, Nat.mod_lt _ (by omega), rfl, m, x % m, rfl, rfl, (gcd_step (by omega)).trans e⟩
    · walk_at "rd"
      have : m = 0 := by omega
      subst this
      rw [Nat.gcd_zero_right] at e
      rw [e]
      exact q
/-! ### lowest, fraction -/
def lowV (t : Int) (b : Nat) : List V := [.int (t / (Nat.gcd b t.natAbs : Nat)), .int ((b : Int) / (Nat.gcd b t.natAbs : Nat))]
def sp_lowest : Sp := fun vs H Q _ => ∃ (t : Int) (b : Nat), vs = [.int t, .int b] ∧ 0 < b ∧ b < 10 ^ 60 ∧ ∀ p H', H p = none → Same H H' → H' p = some (.tup (lowV t b)) → Q (.ref p) H'
theorem div_ok {i : Int} {j n : Nat} (h0 : 0 < j) (h : j ≤ n) (hn : n < 10 ^ 60) : CDivP i j := by
  refine .inr (wide_div (b := 200) (by omega) ?_ (by decide) (by decide))
  have : (10 : Nat) ^ 60 < 2 ^ 200 := by decide
  show (j : Int).natAbs < 2 ^ 200
  rw [Int.natAbs_natCast]
  omega
theorem ok_lowest (T : Txt K mg) : Z.C0 P w K mg base 2 "lowest" (sp_lowest) := by
  refine T.d_lowest.c0 sc_lowest (fun vs H Q E h => ?_) (Z.bd0 fun _ _ _ _ _ _ us hl => match us, hl with | [_, _], _ => rfl) (fun f cdv A outer s H vs Q E hr h => ⟨_, (pss_cons (ps_set (i := 2) sc_lowest.nd rfl (Or.inl rfl) (pe_c0 (ok_divisor T) hr (by decide) rfl (pa_cons (pv 1) (pa_cons (pe_callB call_absP rfl T.b_abs (by decide +kernel) (pa_cons (pv 0) pa_nil)) pa_nil))))
  (pss_one (ps_ret (pe_tup (pa_cons (pe_op op_div (pv 0) (pv 2)) (pa_cons (pe_op op_div (pv 1) (pv 2)) pa_nil)))))), ?_⟩)
  · obtain ⟨t, b, rfl, _⟩ := h
    rfl
  · obtain ⟨t, b, rfl, hb, hb2, q⟩ := h
    rw [st_lowest]
    walk_at "st"
    walk_at "rd"
    refine ⟨b, t.natAbs, rfl, ?_⟩
    have g0 : 0 < Nat.gcd b t.natAbs := Nat.gcd_pos_of_pos_left _ hb
    have g1 : Nat.gcd b t.natAbs ≤ b := Nat.gcd_le_left _ hb
    walk_at "rd"
    refine r_div ?_ (div_ok g0 g1 hb2)
    walk_at "rd"
    refine r_div ?_ (div_ok g0 g1 hb2)
    walk_at "rd"
    exact q
def sp_fraction : Sp := sp_lowest
theorem ok_fraction (T : Txt K mg) : Z.C0 P w K mg base 3 "fraction" (sp_fraction) := by
  refine T.d_fraction.c0 sc_fraction (fun vs H Q E h => ?_) (Z.bd1 (by simp) fun _ _ _ _ _ _ _ us its hu hi => match us, its, hu, hi with | [_, _], [_], _, _ => ⟨_, rfl, rfl⟩) (fun f cdv A outer s H vs Q E hr h => ⟨_, (pss_cons (ps_if (PW.pt (pw_or (pt_not (pt_val (pe_c0 (ok_is_whole T) hr (by decide) rfl (pa_cons (pv 0) pa_nil)))) (pw_or (pt_not (pt_val (pe_c0 (ok_is_whole T) hr (by decide) rfl (pa_cons (pv 1) pa_nil)))) (pw_or1 (pt_cmpR (k_eqP K hr.units) (pv 1) pe_int (nomark _))))))
  (pss_one ps_never) pss_nil)
  (pss_cons (ps_if (pt_cmpR op_ltI (pv 1) pe_int (nomark _))
  (pss_one (ps_ret (pe_c0 (ok_lowest T) hr (by decide) rfl (pa_cons (pe_op op_subI pe_int (pv 0)) (pa_cons (pe_op op_subI pe_int (pv 1)) pa_nil))))) pss_nil)
  (pss_one (ps_ret (pe_c0 (ok_lowest T) hr (by decide) rfl (pa_cons (pv 0) (pa_cons (pv 1) pa_nil))))))), ?_⟩)
  · obtain ⟨t, b, rfl, _⟩ := h
    rfl
  · obtain ⟨t, b, rfl, hb, hb2, q⟩ := h
    rw [st_fraction]
    walk_at "st"
    walk_at "rd"
    refine ⟨_, rfl, ?_⟩
    walk_at "rd"
    refine ⟨_, rfl, ?_⟩
    walk_at "rd"
    refine r_dF (by omega) ?_
    walk_at "rd"
    refine r_dF (by omega) ?_
    walk_at "rd"
    exact ⟨t, b, rfl, hb, hb2, q⟩
/-! ### show_fraction -/
theorem log_of {n : Int} (h : n.natAbs < 10 ^ 60) : n.natAbs.log2 < 1920 := by
  have h2 : (10 : Nat) ^ 60 < 2 ^ 1920 := by decide
  by_cases h0 : n.natAbs = 0
  · rw [h0]
    decide
  · exact (Nat.log2_lt h0).mpr (by omega)
theorem int_len {n : Int} (h : n.natAbs < 10 ^ 60) : (S (intL n)).length ≤ 61 := by
  rw [M.S_len]
  unfold intL
  have := len60 h
  split
  · rw [List.length_cons]
    omega
  · omega
def sp_show (K : PySem.W.Frag) : Sp := fun vs H Q _ => ∃ (p : Addr) (n : Int) (d : Nat), vs = [.ref p] ∧ SqT K H p [.int n, .int d] ∧ n.natAbs < 10 ^ 60 ∧ d < 10 ^ 60 ∧ Q (.str (S (fracL n d))) H
theorem ok_show_fraction (T : Txt K mg) : Z.C0 P w K mg base 1 "show_fraction" (sp_show K) := by
  refine T.d_show_fraction.c0 sc_show_fraction (fun vs H Q E h => ?_) (Z.bd0 fun _ _ _ _ _ _ us hl => match us, hl with | [_], _ => rfl) (fun f cdv A outer s H vs Q E hr h => ⟨_, (pss_cons (ps_if (pt_cmpR (k_eqP K hr.units) (pe_ix (k_ix K) (pv 0) pe_int (fun _ _ => rfl)) pe_int (nomark _))
  (pss_one (ps_ret (pe_callTy call_strP rfl T.b_str (by decide +kernel) (pa_cons (pe_ix (k_ix K) (pv 0) pe_int (fun _ _ => rfl)) pa_nil)))) pss_nil)
  (pss_one (ps_ret (pe_joined (PJ.cons (pe_fmt (pe_ix (k_ix K) (pv 0) pe_int (fun _ _ => rfl))) (PJ.cons pe_str (PJ.cons (pe_fmt (pe_ix (k_ix K) (pv 0) pe_int (fun _ _ => rfl))) PJ.nil))))))), ?_⟩)
  · obtain ⟨p, n, d, rfl, _⟩ := h
    rfl
  · obtain ⟨p, n, d, rfl, hp, hn, hd, q⟩ := h
    rw [st_show_fraction]
    walk_at "st"
    have l1 : n.natAbs.log2 < 1920 := log_of hn
    have l2 : (d : Int).natAbs.log2 < 1920 := log_of (by rw [Int.natAbs_natCast]; exact hd)
    have m1 := int_len hn
    have m2 := int_len (n := (d : Int)) (by rw [Int.natAbs_natCast]; exact hd)
    have m3 : (Str.ofString "/").length = 1 := by decide +kernel
    rw [← int_S'] at m1 m2
    walk_at "rd"
    refine r_ite (fun h1 => ?_) (fun h1 => ?_)
    · have e : d = 1 := by omega
      subst e
      walk_at "rd"
      rw [int_S']
      exact q
    · walk_at "rd"
      have e : Str.empty ++ Str.ofString (toString n) ++ Str.ofString "/" ++ Str.ofString (toString (d : Int)) = S (fracL n d) := by
        rw [int_S', int_S', show Str.empty = S [] from rfl, show Str.ofString "/" = S [47] by decide +kernel, S_app, S_app, S_app]
        unfold fracL
        rw [if_neg (by omega)]
        have : intL (d : Int) = numL d := by
          unfold intL
          rw [if_neg (by omega), Int.natAbs_natCast]
        rw [this]
        simp
      rw [e]
      exact q
/-! ### whole_in -/
def oI : Option Nat → V
  | none => .non
  | some n => .int n
theorem all_map (l : List Nat) (p : Nat → Bool) : (l.map p).all id = l.all p := by
  rw [List.all_map]
  rfl
def sp_whole (K : PySem.W.Frag) : Sp := fun vs H Q _ => ∃ (l : List Nat) (m : Nat), vs = [.str (S l), .int m] ∧ m ≤ 640 ∧ l.length ≤ 100000 ∧ ∀ H', Same H H' → Q (oI (wholeIn l m)) H'
theorem ok_whole_in (T : Txt K mg) : Z.C0 P w K mg base 1 "whole_in" (sp_whole K) := by
  refine T.d_whole_in.c0 sc_whole_in (fun vs H Q E h => ?_) (Z.bd0 fun _ _ _ _ _ _ us hl => match us, hl with | [_, _], _ => rfl) (fun f cdv A outer s H vs Q E hr h => ⟨_, (pss_cons (ps_if (PW.pt (pw_or (pt_not (pt_chain op_leI op_leI pe_int (pe_callB (k_len K) rfl T.b_len (by decide +kernel) (pa_cons (pv 0) pa_nil)) (pv 1))) (pw_or1 (PW.pt (pw_and (pt_cmpR op_gtI (pe_callB (k_len K) rfl T.b_len (by decide +kernel) (pa_cons (pv 0) pa_nil)) pe_int (nomark _)) (pw_and1 (pt_cmpR (k_eqP K hr.units) (pe_ix (k_ix K) (pv 0) pe_int (fun _ _ => rfl)) pe_str (nomark _))))))))
  (pss_one (ps_ret pe_non)) pss_nil)
  (pss_cons (ps_if (pt_not (pt_val (pe_callB (k_all K rfl) rfl T.b_all (by decide +kernel) (pa_cons (pe_lc (own := [("sign", 2)]) rfl sc_whole_in.nd (pi_str (pv 0)) (blkOk_by (N := ["word", "most", "sign"]) (sc := defScope s_whole_in) (by decide +kernel)) (fun _ _ _ _ _ => (pg_name (i := 2) sc_whole_in.nd rfl (Or.inl rfl))) (fun _ _ _ _ _ => pts_nil) (fun _ _ _ _ _ => (pe_cmpR (k_inP K) (pv 2) (C8.pe_gc rfl T.c_FIGURES) (by rfl)))) pa_nil))))
  (pss_one (ps_ret pe_non)) pss_nil)
  (pss_one (ps_ret (pe_callTy call_intP rfl T.b_int (by decide +kernel) (pa_cons (pv 0) pa_nil)))))), ?_⟩)
  · obtain ⟨l, m, rfl, _⟩ := h
    rfl
  · obtain ⟨l, m, rfl, hm, hl, q⟩ := h
    rw [st_whole_in]
    walk_at "st"
    have el := M.S_len l
    have no : ∀ H', Same H H' → ¬ (1 ≤ l.length ∧ l.length ≤ m ∧ ¬ (1 < l.length ∧ l.head? = some 48) ∧ l.all digit = true) → Q .non H' := fun H' e h => by
      have := q H' e
      unfold wholeIn at this
      rw [if_neg h] at this
      exact this
    -- the rest, once the two first tests are passed
    have rest : ∀ (hh : 1 ≤ l.length ∧ l.length ≤ m ∧ ¬ (1 < l.length ∧ l.head? = some 48)), tSeq (tIfS (tNot (tB (tCB (rAll K) (tCons (tLc (iStr (tVar 0)) (gName 2) tYes (tOp (rInP K false) (tVar 2) (tC (V.str (Str.ofString "0123456789")))) [2]) tNil)))) (tRet (tC V.non)) tNext)
        (tRet (tCB cInt (tCons (tVar 0) tNil))) { nx := fun _ H' => Q V.non H', rt := Q } [some (V.str (S l)), some (V.int m), none] H := by
      intro hh
      walk_at "rd"
      refine lcW walk_str (fun i acc _ => acc = ((l.take i).map digit).map V.bl) rfl (fun _ _ => trivial) (fun _ _ => rfl) ?_ ?_
      · rintro i x acc Dl H1 _ hi hD e1 e2 hl2 rfl ⟨rfl, c, hc, rfl⟩
        walk_at "rd"
        rw [fig_mem]
        have hc2 : l[i]? = some c := by simpa [S] using hc
        refine lc_put (by have := (List.getElem?_eq_some_iff.mp hc2).1; omega) hD e1 e2 hl2 fun H5 _ _ => ?_
        rw [List.take_add_one, hc2]
        simp
      · rintro acc Dl H1 hD e1 e2 rfl
        have en : (S l).cps.size = l.length := by simp [S]
        rw [en, List.take_length] at e2
        walk_at "rd"
        refine r_all (sqL e2) ?_
        rw [all_map]
        walk_at "rd"
        cases hd : l.all digit with
        | false =>
          walk_at "rd"
          exact no H1 e1 (fun z => by rw [hd] at z; exact absurd z.2.2.2 (by decide))
        | true =>
          walk_at "rd"
          have en2 : PySem.intText? (S l) = some ((NumText.digitsVal l : Nat) : Int) := int_S (by
            rw [← hd]
            congr 1
            funext c
            unfold digit
            simp) (by
            intro z
            rw [z] at hh
            simp at hh) (by omega)
          refine r_intS en2 ?_ (by omega)
          have := q H1 e1
          unfold wholeIn at this
          rw [if_pos ⟨hh.1, hh.2.1, hh.2.2, hd⟩] at this
          exact this
    walk_at "rd"
    refine r_ite (fun h1 => ?_) (fun h1 => ?_)
    · walk_at "rd"
      refine r_nite (fun h2 => ?_) (fun h2 => ?_)
      · walk_at "rd"
        exact no H (Same.refl _) (by omega)
      · walk_at "rd"
        refine r_ite (fun h3 => ?_) (fun h3 => ?_)
        · walk_at "rd"
          obtain ⟨c, r, rfl⟩ : ∃ c r, l = c :: r := by
            cases l with
            | nil => simp at el; omega
            | cons c r => exact ⟨c, r, rfl⟩
          refine r_ixS (c := c) (szl (by omega)) (atI_nat (j := 0) rfl) ?_
          walk_at "rd"
          refine r_ite (fun h4 => ?_) (fun h4 => ?_)
          · walk_at "rd"
            refine no H (Same.refl _) (fun z => z.2.2.1 ⟨by omega, ?_⟩)
            have : S [c] = S [48] := h4.trans (by decide +kernel)
            exact congrArg some (List.cons.inj (SX.S_inj this)).1
          · refine rest ⟨by omega, by omega, fun z => h4 ?_⟩
            have : c = 48 := Option.some.inj z.2
            rw [this]
            decide +kernel
        · exact rest ⟨by omega, by omega, fun z => by omega⟩
    · walk_at "rd"
      exact no H (Same.refl _) (by omega)
end
end My

namespace My
open PySem PySem.Spec PyProof.Rows L2 Z M SX TL
section
variable {P : Program} {w : World} {K : PySem.W.Frag} {mg : Str → Option Value} {base : Heap}
/-! ### fraction_in -/
theorem val_fold : ∀ (l : List Nat) (a : Nat), l.all digit = true → l.foldl (fun acc c => acc * 10 + (c - 48)) a < (a + 1) * 10 ^ l.length
  | [], a, _ => by simp
  | c :: r, a, h => by
    rw [List.all_cons, Bool.and_eq_true] at h
    have hc : 48 ≤ c ∧ c ≤ 57 := of_decide_eq_true h.1
    have ih := val_fold r (a * 10 + (c - 48)) h.2
    rw [List.foldl_cons, List.length_cons, Nat.pow_succ]
    refine Nat.lt_of_lt_of_le ih ?_
    rw [Nat.mul_comm (10 ^ r.length) 10, ← Nat.mul_assoc]
    exact Nat.mul_le_mul_right _ (by omega)
theorem whole_lt {l : List Nat} {m n : Nat} (h : wholeIn l m = some n) (hm : m ≤ 60) : n < 10 ^ 60 := by
  unfold wholeIn at h
  split at h
  · rename_i c
    have e : NumText.digitsVal l = n := Option.some.inj h
    have := val_fold l 0 c.2.2.2
    rw [Nat.zero_add, Nat.one_mul] at this
    rw [← e]
    exact Nat.lt_of_lt_of_le this (Nat.pow_le_pow_right (by decide) (by omega))
  · cases h
theorem cut_1 (l : List Nat) : cutS (S l) none (some 1) = S (l.take 1) := by
  unfold cutS
  rw [show HT.sIx (S l).length (S l).length (some 1) = min 1 (S l).length from HT.sIx_nat _ _ 1, HT.sIx_none, M.S_len]
  refine ext_tl ?_
  show List.take (min 1 l.length - 0) (List.drop 0 l) = List.take 1 l
  rw [List.drop_zero]
  cases l with
  | nil => rfl
  | cons a r =>
    rw [show min 1 (a :: r).length - 0 = 1 by rw [List.length_cons]; omega]
theorem cut_2 (l : List Nat) : cutS (S l) (some 1) none = S (l.drop 1) := by
  unfold cutS
  rw [show HT.sIx (S l).length 0 (some 1) = min 1 (S l).length from HT.sIx_nat _ _ 1, HT.sIx_none, M.S_len]
  refine ext_tl ?_
  show List.take (l.length - min 1 l.length) (List.drop (min 1 l.length) l) = List.drop 1 l
  cases l with
  | nil => rfl
  | cons a r =>
    rw [show min 1 (a :: r).length = 1 by rw [List.length_cons]; omega]
    exact List.take_of_length_le (by rw [List.length_drop]; exact Nat.le_refl _)
theorem neg_test (l : List Nat) : (S (l.take 1) = Str.ofString "-") ↔ isNeg l = true := by
  rw [show Str.ofString "-" = S [45] by decide +kernel]
  unfold isNeg
  rw [decide_eq_true_eq]
  cases l with
  | nil =>
    constructor
    · intro h
      have := SX.S_inj h
      cases this
    · intro h
      cases h
  | cons a r =>
    constructor
    · intro h
      have := SX.S_inj h
      exact congrArg some (List.cons.inj this).1
    · intro h
      have : a = 45 := Option.some.inj h
      rw [this]
      rfl
theorem spl_len : ∀ (L acc : List Nat), (spl [47] 0 acc L).length ≤ L.length + 1
  | [], acc => by rw [spl_nil]; simp
  | c :: r, acc => by
    cases e : pre [47] (c :: r) with
    | true =>
      rw [spl_hit e, List.length_cons, List.length_cons]
      have := spl_len r []
      exact Nat.succ_le_succ this
    | false =>
      rw [spl_miss e, List.length_cons]
      have := spl_len r (acc ++ [c])
      omega
theorem split_S (l : List Nat) : Txt.split (S l) (Str.ofString "/") = (spl [47] 0 [] l).map S := by
  have e : tl (Str.ofString "/") = [47] := by decide +kernel
  have h := split_spl (S l) (Str.ofString "/") (by rw [e]; simp) (kind_ok (by decide +kernel))
  rw [e] at h
  refine map_tl_inj ?_
  rw [h, List.map_map]
  have : (tl ∘ S) = id := rfl
  rw [this, List.map_id]
theorem spl_part_len : ∀ (L acc : List Nat) p, p ∈ spl [47] 0 acc L → p.length ≤ acc.length + L.length
  | [], acc, p, h => by
    rw [spl_nil, List.mem_singleton] at h
    rw [h]
    omega
  | c :: r, acc, p, h => by
    cases e : pre [47] (c :: r) with
    | true =>
      rw [spl_hit e] at h
      rcases List.mem_cons.mp h with h | h
      · rw [h]
        omega
      · have := spl_part_len r [] p h
        rw [List.length_nil] at this
        rw [List.length_cons]
        omega
    | false =>
      rw [spl_miss e] at h
      have := spl_part_len r (acc ++ [c]) p h
      rw [List.length_append, List.length_singleton] at this
      rw [List.length_cons]
      omega
theorem figs_len (l : List Nat) : (figs l).length ≤ l.length := by
  unfold figs
  split
  · rw [List.length_tail]
    omega
  · exact Nat.le_refl _
def resQ (r : Option (Int × Nat)) (H : Hp) (Q : VK) : Prop := match r with
  | none => ∀ H', Same H H' → Q .non H'
  | some (n, d) => ∀ p H', H p = none → Same H H' → H' p = some (.tup [.int n, .int d]) → Q (.ref p) H'
def sp_fracin (K : PySem.W.Frag) : Sp := fun vs H Q _ => ∃ (l : List Nat) (m : Nat), vs = [.str (S l), .int m] ∧ m ≤ 60 ∧ l.length ≤ 3000 ∧ resQ (fracIn l m) H Q
theorem spl_ne : ∀ (L acc : List Nat), spl [47] 0 acc L ≠ []
  | [], acc => by rw [spl_nil]; simp
  | c :: r, acc => by
    cases e : pre [47] (c :: r) with
    | true => rw [spl_hit e]; simp
    | false =>
      rw [spl_miss e]
      exact spl_ne r _
theorem inV_non (ns : List (Option Nat)) : inV .non (ns.map oI) = ns.any (·.isNone) := by
  unfold inV
  rw [List.any_map]
  congr 1
  funext x
  cases x <;> rfl
theorem flat_oI (ns : List (Option Nat)) : (ns.map oI).all flatV = true := by
  rw [List.all_map, List.all_eq_true]
  intro x _
  cases x <;> rfl
theorem fracOf_none {neg : Bool} {ns : List (Option Nat)} (h : ns.any (·.isNone) = true) : fracOf neg ns = none := by
  match ns, h with
  | [none], _ => rfl
  | [none, none], _ => rfl
  | [none, some _], _ => rfl
  | [some _, none], _ => rfl
  | a :: b :: _ :: _, _ => cases a <;> cases b <;> rfl
theorem fracOf_long {neg : Bool} {ns : List (Option Nat)} (h : 2 < ns.length) : fracOf neg ns = none := by
  match ns, h with
  | a :: b :: _ :: _, _ => cases a <;> cases b <;> rfl
theorem eqv2 (a b c d : Int) : PyData.eqv (.tuple [.int a, .int b]) (.tuple [.int c, .int d]) = decide (a = c ∧ b = d) := by
  show (a == c && (b == d && true)) = _
  rw [Bool.eq_iff_iff]
  simp
theorem figs_eq (l : List Nat) : (S (figs l) = S l) ↔ isNeg l = false := by
  unfold figs
  cases e : isNeg l with
  | false => simp
  | true =>
    rw [if_pos rfl]
    constructor
    · intro h
      have h := SX.S_inj h
      cases l with
      | nil => cases e
      | cons a r =>
        have := congrArg List.length h
        simp at this
    · intro h
      cases h
theorem fin_frac {D : Ends} {σ0 σ1 σ2 σ3 σ5 : Option V} {p : Addr} {H : Hp} {t : Int} {b : Nat} (hp : H p = some (.tup [.int t, .int b])) (hb : 0 < b) (hb2 : b < 10 ^ 60)
    (q1 : Nat.gcd b t.natAbs = 1 → ∀ H', Same H H' → D.rt (.ref p) H') (q2 : Nat.gcd b t.natAbs ≠ 1 → ∀ H', Same H H' → D.rt .non H') :
    tSeq (tIfS (tTest (tOp (rNeP K) (tCall sp_fraction [] E0 (tCons (tOp (rIx K) (tVar 4) (tC (.int 0))) (tCons (tOp (rIx K) (tVar 4) (tC (.int 1))) tNil))) (tVar 4))) (tRet (tC .non)) tNext) (tRet (tVar 4)) D [σ0, σ1, σ2, σ3, some (.ref p), σ5] H := by
  walk_at "rd"
  refine ⟨t, b, rfl, hb, hb2, fun p3 H3 h3 e3 e4 => ?_⟩
  unfold lowV at e4
  walk_at "rd"
  refine r_neD (d := .tuple [.int (t / (Nat.gcd b t.natAbs : Nat)), .int ((b : Int) / (Nat.gcd b t.natAbs : Nat))]) (e := .tuple [.int t, .int b]) (.tup (sqT e4) (by walk_at "lk")) (by walk_at "lk") ?_ rfl rfl
  rw [eqv2]
  have g0 : 0 < Nat.gcd b t.natAbs := Nat.gcd_pos_of_pos_left _ hb
  walk_at "rd"
  by_cases hg : Nat.gcd b t.natAbs = 1
  · refine r_ndT (by rw [hg]; simp) ?_
    walk_at "rd"
    exact q1 hg H3 (by walk_at "sm")
  · refine r_ndF (fun z => hg ?_) ?_
    · have z2 := z.2
      have e : ((b / Nat.gcd b t.natAbs : Nat) : Int) = b := z2
      have e2 : b / Nat.gcd b t.natAbs = b := by omega
      rcases Nat.lt_or_ge (Nat.gcd b t.natAbs) 2 with h | h
      · omega
      · have := Nat.div_lt_self hb h
        omega
    · walk_at "rd"
      exact q2 hg H3 (by walk_at "sm")
theorem resQ_up {r : Option (Int × Nat)} {H H' : Hp} {Q : VK} (e : Same H H') (q : resQ r H Q) : resQ r H' Q := by
  cases r with
  | none => exact fun H2 e2 => q H2 (e.trans e2)
  | some x => exact fun p H2 hp e2 h => q p H2 (e.free hp) (e.trans e2) h
theorem fin2 {D : Ends} {l : List Nat} {m a b : Nat} {Dl : Addr} {xs : List V} {H : Hp} {σ3 σ5 : Option V} (e5 : H Dl = some (.lst xs)) (h0 : atI xs 0 = some (.int a)) (h1 : atI (xs ++ [.int 1]) 1 = some (.int b)) (hl : xs.length ≤ 2) (hb : 0 < b) (hb2 : b < 10 ^ 60)
    (q : resQ (if Nat.gcd b a = 1 then some (sgn (isNeg l) a, b) else none) H D.rt) :
    tSeq (tAsg (tTup (tCons (tOp (rIx K) (tVar 3) (tC (V.int 0))) (tCons (tOp (rIx K) (tOp (rAddP K) (tVar 3) (tLst (tCons (tC (V.int 1)) tNil))) (tC (V.int 1))) tNil))) (gName 4))
            (Evl.tCut (tIfS (tTest (tOp (rNeP K) (tVar 2) (tVar 0))) (tAsg (tTup (tCons (tOp Z.rSub (tC (V.int 0)) (tOp (rIx K) (tVar 4) (tC (V.int 0)))) (tCons (tOp (rIx K) (tVar 4) (tC (V.int 1))) tNil))) (gName 4)) tNext)
            (tSeq (tIfS (tTest (tOp (rNeP K) (tCall sp_fraction [] E0 (tCons (tOp (rIx K) (tVar 4) (tC (.int 0))) (tCons (tOp (rIx K) (tVar 4) (tC (.int 1))) tNil))) (tVar 4))) (tRet (tC .non)) tNext) (tRet (tVar 4))))
            D [some (V.str (S l)), some (V.int ↑m), some (V.str (S (figs l))), some (V.ref Dl), σ3, σ5] H := by
  walk_at "rd"
  intro p2 H2 hp2 e2 f2
  walk_at "rd"
  intro p3 H3 hp3 e3 f3
  walk_at "rd"
  intro p4 H4 hp4 e4 f4
  have fin : ∀ (p : Addr) (H5 : Hp), H p = none → Same H H5 → H5 p = some (.tup [.int (sgn (isNeg l) a), .int b]) → tSeq (tIfS (tTest (tOp (rNeP K) (tCall sp_fraction [] E0 (tCons (tOp (rIx K) (tVar 4) (tC (.int 0))) (tCons (tOp (rIx K) (tVar 4) (tC (.int 1))) tNil))) (tVar 4))) (tRet (tC .non)) tNext) (tRet (tVar 4))
      D [some (V.str (S l)), some (V.int ↑m), some (V.str (S (figs l))), some (V.ref Dl), some (V.ref p), σ5] H5 := fun p H5 hp e f => by
    have hn : (sgn (isNeg l) a).natAbs = a := by
      unfold sgn
      split <;> omega
    refine fin_frac f hb hb2 (fun hg H' e' => ?_) (fun hg H' e' => ?_)
    · rw [hn] at hg
      rw [if_pos hg] at q
      exact q p H' hp (by walk_at "sm") (by walk_at "lk")
    · rw [hn] at hg
      rw [if_neg hg] at q
      exact q H' (by walk_at "sm")
  walk_at "rd"
  refine r_cut (fun σ' H' => ∃ p, H p = none ∧ Same H H' ∧ H' p = some (.tup [.int (sgn (isNeg l) a), .int b]) ∧ σ' = [some (V.str (S l)), some (V.int ↑m), some (V.str (S (figs l))), some (V.ref Dl), some (V.ref p), σ5]) ?_ ?_
  · walk_at "rd"
    refine r_nite (fun h => ?_) (fun h => ?_)
    · walk_at "rd"
      intro p5 H5 hp5 e5 f5
      walk_at "rd"
      have : isNeg l = true := by
        cases e : isNeg l with
        | true => rfl
        | false => exact absurd ((figs_eq l).mpr e) h
      refine ⟨p5, by walk_at "fn", by walk_at "sm", ?_, rfl⟩
      rw [this]
      have e : sgn true a = 0 - (a : Int) := by
        show -(a : Int) = _
        omega
      rw [e]
      exact f5
    · walk_at "rd"
      have : isNeg l = false := (figs_eq l).mp h
      refine ⟨p4, by walk_at "fn", by walk_at "sm", ?_, rfl⟩
      rw [this]
      exact f4
  · rintro σ' H' ⟨p, hp, e, f, rfl⟩
    exact fin p H' hp e f
theorem ok_fraction_in (T : Txt K mg) : Z.C0 P w K mg base 4 "fraction_in" (sp_fracin K) := by
  refine T.d_fraction_in.c0 sc_fraction_in (fun vs H Q E h => ?_) (Z.bd0 fun _ _ _ _ _ _ us hl => match us, hl with | [_, _], _ => rfl) (fun f cdv A outer s H vs Q E hr h => ⟨_, (pss_cons (ps_set (i := 2) sc_fraction_in.nd rfl (Or.inl rfl) (pv 0))
  (Evl.pss_cut (ps_if (pt_cmpR (k_eqP K hr.units) (pe_slice (k_sl K) (pv 0) po_none (po_some pe_int)) pe_str (nomark _))
  (pss_one (ps_set (i := 2) sc_fraction_in.nd rfl (Or.inl rfl) (pe_slice (k_sl K) (pv 0) (po_some pe_int) po_none))) pss_nil)
  (pss_cons (ps_setLc (i := 3) (own := [("part", 5)]) rfl sc_fraction_in.nd rfl rfl (sw_true rfl rfl rfl (by decide +kernel)) (k_iL K (k_bm K PySem.F.plainAttrs_str PySem.F.slot_str_split PySem.F.type_str_split mt_splitP (pv 2) (pa_cons pe_str pa_nil))) (blkOk_by (N := ["word", "most", "figures", "numbers", "one", "part"]) (sc := defScope s_fraction_in) (by decide +kernel)) (fun _ _ _ _ _ => (pg_name (i := 5) sc_fraction_in.nd rfl (Or.inl rfl))) (fun _ _ _ _ _ => pts_nil) (fun _ _ _ _ _ => (pe_c0 (ok_whole_in T) hr (by decide) rfl (pa_cons (pv 5) (pa_cons (pv 1) pa_nil)))))
  (pss_cons (ps_if (PW.pt (pw_or (pt_cmpR (k_inP K) pe_non (pv 3) (by rfl)) (pw_or1 (pt_cmpR op_gtI (pe_callB (k_len K) rfl T.b_len (by decide +kernel) (pa_cons (pv 3) pa_nil)) pe_int (nomark _)))))
  (pss_one (ps_ret pe_non)) pss_nil)
  (pss_cons (ps_if (PW.pt (pw_or (PW.pt (pw_and (pt_cmpR (k_eqP K hr.units) (pe_callB (k_len K) rfl T.b_len (by decide +kernel) (pa_cons (pv 3) pa_nil)) pe_int (nomark _)) (pw_and1 (pt_cmpR op_ltI (pe_ix (k_ix K) (pv 3) pe_int (fun _ _ => rfl)) pe_int (nomark _))))) (pw_or1 (PW.pt (pw_and (pt_cmpR (k_neP K hr.units) (pv 2) (pv 0) (nomark _)) (pw_and1 (pt_cmpR (k_eqP K hr.units) (pe_ix (k_ix K) (pv 3) pe_int (fun _ _ => rfl)) pe_int (nomark _))))))))
  (pss_one (ps_ret pe_non)) pss_nil)
  (pss_cons (ps_set (i := 4) sc_fraction_in.nd rfl (Or.inl rfl) (pe_tup (pa_cons (pe_ix (k_ix K) (pv 3) pe_int (fun _ _ => rfl)) (pa_cons (pe_ix (k_ix K) (pe_op (k_addP K) (pv 3) (pe_lst (pa_cons pe_int pa_nil))) pe_int (fun _ _ => rfl)) pa_nil))))
  (Evl.pss_cut (ps_if (pt_cmpR (k_neP K hr.units) (pv 2) (pv 0) (nomark _))
  (pss_one (ps_set (i := 4) sc_fraction_in.nd rfl (Or.inl rfl) (pe_tup (pa_cons (pe_op op_subI pe_int (pe_ix (k_ix K) (pv 4) pe_int (fun _ _ => rfl))) (pa_cons (pe_ix (k_ix K) (pv 4) pe_int (fun _ _ => rfl)) pa_nil))))) pss_nil)
  (pss_cons (ps_if (pt_cmpR (k_neP K hr.units) (pe_c0 (ok_fraction T) hr (by decide) rfl (pa_cons (pe_ix (k_ix K) (pv 4) pe_int (fun _ _ => rfl)) (pa_cons (pe_ix (k_ix K) (pv 4) pe_int (fun _ _ => rfl)) pa_nil))) (pv 4) (nomark _))
  (pss_one (ps_ret pe_non)) pss_nil)
  (pss_one (ps_ret (pv 4))))))))))), ?_⟩)
  · obtain ⟨l, m, rfl, _⟩ := h
    rfl
  · obtain ⟨l, m, rfl, hm, hl, q⟩ := h
    rw [st_fraction_in]
    walk_at "st"
    have el := M.S_len l
    walk_at "rd"
    refine r_cut (fun σ' H' => H' = H ∧ σ' = [some (.str (S l)), some (.int m), some (.str (S (figs l))), none, none, none]) ?_ ?_
    · walk_at "rd"
      rw [cut_1]
      refine r_ite (fun h1 => ?_) (fun h1 => ?_)
      · rw [neg_test] at h1
        walk_at "rd"
        rw [cut_2]
        refine ⟨rfl, ?_⟩
        unfold figs
        rw [if_pos h1]
        simp
      · rw [neg_test] at h1
        walk_at "rd"
        refine ⟨rfl, ?_⟩
        unfold figs
        rw [if_neg h1]
    rintro σ' _ ⟨rfl, rfl⟩
    have fl := figs_len l
    have el2 := M.S_len (figs l)
    walk_at "rd"
    rintro p1 H1 hp1 e1 e2
    rw [split_S] at e2
    have sl := spl_len (figs l) []
    walk_at "rd"
    refine lcW (walk_list (xs := ((spl [47] 0 [] (figs l)).map S).map V.str)) (fun i acc _ => acc = (((spl [47] 0 [] (figs l)).take i).map fun p => oI (wholeIn p m))) rfl (fun H' e => by walk_at "lk") (fun _ _ => rfl) ?_ ?_
    · rintro i x acc Dl H2 _ hi hD e3 e4 hl2 rfl ⟨rfl, hx⟩
      obtain ⟨pt, hpt, rfl⟩ : ∃ pt, (spl [47] 0 [] (figs l))[i]? = some pt ∧ x = .str (S pt) := by
        rw [List.getElem?_map, List.getElem?_map] at hx
        cases e : (spl [47] 0 [] (figs l))[i]? with
        | none =>
          rw [e] at hx
          cases hx
        | some pt =>
          rw [e] at hx
          exact ⟨pt, rfl, (Option.some.inj hx).symm⟩
      walk_at "rd"
      have hlp := spl_part_len _ _ _ (List.mem_of_getElem? hpt)
      rw [List.length_nil] at hlp
      refine ⟨pt, m, rfl, by omega, by omega, fun H3 e5 => ?_⟩
      simp only [List.length_map] at hi
      refine lc_put (by omega) hD (by walk_at "sm") (by walk_at "lk") hl2 fun H5 _ _ => ?_
      rw [List.take_add_one, hpt]
      simp
    · rintro acc Dl H2 hD e3 e4 rfl
      rw [List.length_map, List.length_map, List.take_length] at e4
      have e5 : H2 Dl = some (.lst ((numsIn l m).map oI)) := by
        rw [e4]
        unfold numsIn
        rw [List.map_map]
        rfl
      have hne : numsIn l m ≠ [] := fun z => spl_ne _ _ (List.map_eq_nil_iff.mp z)
      have hwl : ∀ n, some n ∈ numsIn l m → n < 10 ^ 60 := fun n hn => by
        obtain ⟨pt, _, e⟩ := List.mem_map.mp hn
        exact whole_lt e hm
      unfold fracIn at q
      revert e5 q hne hwl
      generalize numsIn l m = ns
      intro q e5 hne hwl
      walk_at "rd"
      refine r_inL (sqL e5) ?_ rfl (flat_oI ns)
      rw [inV_non]
      walk_at "rd"
      refine r_bite (fun h1 => ?_) (fun h1 => ?_)
      · walk_at "rd"
        rw [fracOf_none h1] at q
        exact q H2 (by walk_at "sm")
      walk_at "rd"
      refine r_ite (fun h2 => ?_) (fun h2 => ?_)
      · walk_at "rd"
        rw [fracOf_long (by simp only [List.length_map] at h2; omega)] at q
        exact q H2 (by walk_at "sm")
      match ns, hne, h1, h2 with
      | [some a], _, _, _ =>
        have ha := hwl a (by simp)
        replace e5 : H2 Dl = some (.lst [.int a]) := e5
        walk_at "rd"
        refine r_dF (by simp) ?_
        walk_at "rd"
        have q0 : ¬ (isNeg l = true ∧ a = 0) → resQ (if Nat.gcd 1 a = 1 then some (sgn (isNeg l) a, 1) else none) H2 Q := fun z => by
          have e : fracOf (isNeg l) [some a] = some (sgn (isNeg l) a, 1) := if_neg z
          rw [if_pos (Nat.gcd_one_left a), ← e]
          exact resQ_up (by walk_at "sm") q
        refine r_nite (fun h3 => ?_) (fun h3 => ?_)
        · have hneg : isNeg l = true := by
            cases e : isNeg l with
            | true => rfl
            | false => exact absurd ((figs_eq l).mpr e) h3
          walk_at "rd"
          refine r_ite (fun h4 => ?_) (fun h4 => ?_)
          · walk_at "rd"
            have e : fracOf (isNeg l) [some a] = none := if_pos ⟨hneg, by omega⟩
            rw [e] at q
            exact q H2 (by walk_at "sm")
          · exact fin2 e5 rfl rfl (by simp) (by decide) (by decide) (q0 (by omega))
        · have hneg : isNeg l = false := (figs_eq l).mp h3
          exact fin2 e5 rfl rfl (by simp) (by decide) (by decide) (q0 (by rw [hneg]; simp))
      | [some a, some b], _, _, _ =>
        have ha := hwl a (by simp)
        have hb := hwl b (by simp)
        replace e5 : H2 Dl = some (.lst [.int a, .int b]) := e5
        walk_at "rd"
        refine r_dT (by simp) ?_
        walk_at "rd"
        refine r_ite (fun h3 => ?_) (fun h3 => ?_)
        · walk_at "rd"
          have e : fracOf (isNeg l) [some a, some b] = none := if_pos (.inl (by omega))
          rw [e] at q
          exact q H2 (by walk_at "sm")
        have q0 : ¬ (isNeg l = true ∧ a = 0) → resQ (if Nat.gcd b a = 1 then some (sgn (isNeg l) a, b) else none) H2 Q := fun z => by
          have e : fracOf (isNeg l) [some a, some b] = if Nat.gcd b a = 1 then some (sgn (isNeg l) a, b) else none := if_neg (fun z' => z'.elim (by omega) z)
          rw [← e]
          exact resQ_up (by walk_at "sm") q
        walk_at "rd"
        refine r_nite (fun h4 => ?_) (fun h4 => ?_)
        · have hneg : isNeg l = true := by
            cases e : isNeg l with
            | true => rfl
            | false => exact absurd ((figs_eq l).mpr e) h4
          walk_at "rd"
          refine r_ite (fun h5 => ?_) (fun h5 => ?_)
          · walk_at "rd"
            have e : fracOf (isNeg l) [some a, some b] = none := if_pos (.inr ⟨hneg, by omega⟩)
            rw [e] at q
            exact q H2 (by walk_at "sm")
          · exact fin2 e5 rfl rfl (by simp) (by omega) hb (q0 (by omega))
        · have hneg : isNeg l = false := (figs_eq l).mp h4
          exact fin2 e5 rfl rfl (by simp) (by omega) hb (q0 (by rw [hneg]; simp))
      | [none], _, h1, _ => cases h1
      | [none, none], _, h1, _ => cases h1
      | [none, some _], _, h1, _ => cases h1
      | [some _, none], _, h1, _ => cases h1
      | _ :: _ :: _ :: _, _, _, h2 => simp at h2; omega
end
end My

namespace My
open PySem PySem.Spec PyProof.Rows L2 Z M SX TL
section
variable {P : Program} {w : World} {K : PySem.W.Frag} {mg : Str → Option Value} {base : Heap}
/-! ### read_fraction, where there is one -/
def sp_read (K : PySem.W.Frag) : Sp := fun vs H Q _ => ∃ (l : List Nat) (n : Int) (d : Nat), vs = [.str (S l)] ∧ l.length ≤ 3000 ∧ fracIn l 60 = some (n, d) ∧ ∀ p H', H p = none → Same H H' → H' p = some (.tup [.int n, .int d]) → Q (.ref p) H'
theorem ok_read_fraction (T : Txt K mg) : Z.C0 P w K mg base 5 "read_fraction" (sp_read K) := by
  refine T.d_read_fraction.c0 sc_read_fraction (fun vs H Q E h => ?_) (Z.bd0 fun _ _ _ _ _ _ us hl => match us, hl with | [_], _ => rfl) (fun f cdv A outer s H vs Q E hr h => ⟨_, (pss_cons (ps_if (pt_not (pt_val (pe_callB (k_isi K) rfl T.b_isinstance (by decide +kernel) (pa_cons (pv 0) (pa_cons (pe_bltn (v := .ty "str") rfl T.b_str (by decide +kernel) rfl) pa_nil)))))
  (pss_one ps_never) pss_nil)
  (pss_cons (ps_set (i := 1) sc_read_fraction.nd rfl (Or.inl rfl) (pe_c0 (ok_fraction_in T) hr (by decide) rfl (pa_cons (pv 0) (pa_cons (C8.pe_gc rfl T.c_MOST_FIGURES) pa_nil))))
  (pss_cons (ps_if (pt_cmpR op_isP (pv 1) pe_non (nomark _))
  (pss_one ps_never) pss_nil)
  (pss_one (ps_ret (pv 1)))))), ?_⟩)
  · obtain ⟨l, n, d, rfl, _⟩ := h
    rfl
  · obtain ⟨l, n, d, rfl, hl, hf, q⟩ := h
    rw [st_read_fraction]
    walk_at "st"
    walk_at "rd"
    refine ⟨l, 60, rfl, by decide, hl, ?_⟩
    rw [hf]
    intro p H' hp e1 e2
    walk_at "rd"
    exact q p H' hp e1 e2
/-! ### the law's own -/
def sp_pool (K : PySem.W.Frag) : Sp := fun vs H Q _ => ∃ (a : Addr) (ns : List Int) (k : Nat), vs = [.ref a, .int k] ∧ SqL K H a (ns.map V.int) ∧ k < 100 ∧
  ∀ p x y H', H p = none → Same H H' → H' p = some (.lst [.int x, .int y]) → 0 ≤ x → 0 ≤ y → y < 2147483647 → Q (.ref p) H'
theorem ok_law_pool (T : Txt K mg) : Z.C0 P w K mg base 1 "_law_pool" (sp_pool K) := by
  refine T.d_law_pool.c0 sc_law_pool (fun vs H Q E h => ?_) (Z.bd0 fun _ _ _ _ _ _ us hl => match us, hl with | [_, _], _ => rfl) (fun f cdv A outer s H vs Q E hr h => ⟨_, (pss_cons (ps_set (i := 2) sc_law_pool.nd rfl (Or.inl rfl) pe_int)
  (Evl.pss_cut (ps_if (pt_cmpR op_ltI (pv 1) (pe_callB (k_len K) rfl T.b_len (by decide +kernel) (pa_cons (pv 0) pa_nil)) (nomark _))
  (pss_one (ps_set (i := 2) sc_law_pool.nd rfl (Or.inl rfl) (pe_ix (k_ix K) (pv 0) (pv 1) (fun _ _ => rfl)))) pss_nil)
  (pss_cons (ps_set (i := 3) sc_law_pool.nd rfl (Or.inl rfl) (pe_op op_modP (pe_op op_mulP (pe_op (k_addP K) (pe_op (k_addP K) (pe_op op_modP (pv 2) pe_int) (pe_op op_mulP (pe_op op_mulP pe_int (pv 1)) (pv 1))) pe_int) pe_int) pe_int))
  (Evl.pss_cut (ps_if (pt_cmpR op_ltI (pv 2) (pe_op op_powI pe_int pe_int) (nomark _))
  (pss_one (ps_set (i := 2) sc_law_pool.nd rfl (Or.inl rfl) pe_int)) pss_nil)
  (pss_one (ps_ret (pe_lst (pa_cons (pv 2) (pa_cons (pv 3) pa_nil))))))))), ?_⟩)
  · obtain ⟨a, ns, k, rfl, _⟩ := h
    rfl
  · obtain ⟨a, ns, k, rfl, ha, hk, q⟩ := h
    rw [st_law_pool]
    walk_at "st"
    walk_at "rd"
    refine r_cut (fun σ' H' => ∃ c : Int, H = H' ∧ σ' = [some (.ref a), some (.int k), some (.int c), none]) ?_ ?_
    · walk_at "rd"
      refine r_ite (fun h1 => ?_) (fun h1 => ?_)
      · have hk2 : k < ns.length := by simp only [List.length_map] at h1; omega
        have hx : atI (ns.map V.int) (k : Int) = some (.int ns[k]) := atI_nat (by rw [List.getElem?_map, List.getElem?_eq_getElem hk2]; rfl)
        walk_at "rd"
        exact ⟨_, rfl, rfl⟩
      · walk_at "rd"
        exact ⟨_, rfl, rfl⟩
    rintro σ' _ ⟨c, rfl, rfl⟩
    walk_at "rd"
    refine r_cut (fun σ' H' => ∃ c d : Int, 0 ≤ c ∧ 0 ≤ d ∧ d < 2147483647 ∧ H = H' ∧ σ' = [some (.ref a), some (.int k), some (.int c), some (.int d)]) ?_ ?_
    · walk_at "rd"
      refine r_ite (fun h1 => ?_) (fun h1 => ?_)
      · walk_at "rd"
        exact ⟨_, _, by decide, by omega, by omega, rfl, rfl⟩
      · walk_at "rd"
        exact ⟨_, _, by omega, by omega, by omega, rfl, rfl⟩
    rintro σ' _ ⟨c, d, hc, hd, hd2, rfl, rfl⟩
    walk_at "rd"
    intro p H' hp e1 e2
    exact q p c d H' hp e1 e2 hc hd hd2
def sp_take : Sp := fun vs H Q _ => ∃ (p : Addr) (a b m : Int), vs = [.ref p, .int m] ∧ H p = some (.lst [.int a, .int b]) ∧ 0 ≤ a ∧ 0 ≤ b ∧ b < 2147483647 ∧ 0 < m ∧ m < 1073741824 ∧
  ∀ (x a' b' : Int) H', 0 ≤ x → x < m → 0 ≤ a' → 0 ≤ b' → b' < 2147483647 → Z.But p H H' → H' p = some (.lst [.int a', .int b']) → Q (.int x) H'
theorem ok_law_take (T : Txt K mg) : Z.C0 P w K mg base 1 "_law_take" (sp_take) := by
  refine T.d_law_take.c0 sc_law_take (fun vs H Q E h => ?_) (Z.bd0 fun _ _ _ _ _ _ us hl => match us, hl with | [_, _], _ => rfl) (fun f cdv A outer s H vs Q E hr h => ⟨_, (pss_cons (ps_if (pt_cmpR op_gtI (pe_ix (k_ix K) (pv 0) pe_int (fun _ _ => rfl)) pe_int (nomark _))
  (pss_cons (ps_set (i := 2) sc_law_take.nd rfl (Or.inl rfl) (pe_op op_modP (pe_ix (k_ix K) (pv 0) pe_int (fun _ _ => rfl)) (pv 1)))
  (pss_cons (ps_asg (pe_op op_div (pe_ix (k_ix K) (pv 0) pe_int (fun _ _ => rfl)) (pv 1)) (pg_sub (pv 0) pe_int set_list))
  (pss_one (ps_ret (pv 2))))) pss_nil)
  (pss_cons (ps_asg (pe_op op_modP (pe_op (k_addP K) (pe_op op_mulP (pe_ix (k_ix K) (pv 0) pe_int (fun _ _ => rfl)) pe_int) pe_int) pe_int) (pg_sub (pv 0) pe_int set_list))
  (pss_one (ps_ret (pe_op op_modP (pe_op op_div (pe_op op_modP (pe_op op_mulP (pe_ix (k_ix K) (pv 0) pe_int (fun _ _ => rfl)) (pe_ix (k_ix K) (pv 0) pe_int (fun _ _ => rfl))) pe_int) pe_int) (pv 1)))))), ?_⟩)
  · obtain ⟨p, a, b, m, rfl, _⟩ := h
    rfl
  · obtain ⟨p, a, b, m, rfl, hp, ha, hb, hb2, hm, hm2, q⟩ := h
    rw [st_law_take]
    walk_at "st"
    walk_at "rd"
    refine r_ite (fun h1 => ?_) (fun h1 => ?_)
    · walk_at "rd"
      intro H2 b2 e2
      replace e2 : H2 p = some (.lst [.int (a / m), .int b]) := e2
      walk_at "rd"
      exact q _ _ _ _ (Int.emod_nonneg _ (by omega)) (Int.emod_lt_of_pos _ hm) (Int.ediv_nonneg ha (by omega)) hb hb2 b2 e2
    · walk_at "rd"
      intro H2 b2 e2
      replace e2 : H2 p = some (.lst [.int a, .int ((b * 48271 + 11) % 2147483647)]) := e2
      walk_at "rd"
      exact q _ _ _ _ (Int.emod_nonneg _ (by omega)) (Int.emod_lt_of_pos _ hm) ha (by omega) (by omega) b2 e2
def sp_low : Sp := fun vs H Q _ => ∃ (t b : Nat), vs = [.int t, .int b] ∧ 0 < b ∧ b < 10 ^ 60 ∧ ∀ p H', H p = none → Same H H' → H' p = some (.tup [.int (t / Nat.gcd t b : Nat), .int (b / Nat.gcd t b : Nat)]) → Q (.ref p) H'
theorem ok_law_low (T : Txt K mg) : Z.C0 P w K mg base 1 "_law_low" (sp_low) := by
  refine T.d_law_low.c0 sc_law_low (fun vs H Q E h => ?_) (Z.bd0 fun _ _ _ _ _ _ us hl => match us, hl with | [_, _], _ => rfl) (fun f cdv A outer s H vs Q E hr h => ⟨_, (pss_cons (ps_par (i := 2) (j := 3) rfl sc_law_low.nd rfl rfl (by decide) rfl rfl (pa_cons (pv 0) (pa_cons (pv 1) pa_nil)) rfl)
  (pss_cons (ps_while PassesOwn.never (pt_cmpR (k_neP K hr.units) (pv 3) pe_int (nomark _))
  (pss_one (ps_par (i := 2) (j := 3) rfl sc_law_low.nd rfl rfl (by decide) rfl rfl (pa_cons (pv 3) (pa_cons (pe_op op_modP (pv 2) (pv 3)) pa_nil)) rfl)))
  (pss_one (ps_ret (pe_tup (pa_cons (pe_op op_div (pv 0) (pv 2)) (pa_cons (pe_op op_div (pv 1) (pv 2)) pa_nil))))))), ?_⟩)
  · obtain ⟨t, b, rfl, _⟩ := h
    rfl
  · obtain ⟨t, b, rfl, hb, hb2, q⟩ := h
    rw [st_law_low]
    walk_at "st"
    walk_at "rd"
    refine r_while (fun m σ H' => H = H' ∧ ∃ x y : Nat, σ = [some (.int t), some (.int b), some (.int x), some (.int y)] ∧ m = y ∧ Nat.gcd x y = Nat.gcd t b) b (by walk_at "mn") ⟨rfl, t, b, rfl, rfl, rfl⟩ ?_
    rintro m σ _ ⟨rfl, x, y, rfl, rfl, e⟩
    walk_at "rd"
    refine r_nite (fun h1 => ?_) (fun h1 => ?_)
    · walk_at "rd"
      exact ⟨x % m, Nat.mod_lt _ (by omega), rfl, m, x % m, rfl, rfl, (gcd_step (by omega)).trans e⟩
    · have : m = 0 := by omega
      subst this
      rw [Nat.gcd_zero_right] at e
      have g0 : 0 < x := by
        rw [e]
        exact Nat.gcd_pos_of_pos_right _ hb
      have g1 : x ≤ b := by
        rw [e]
        exact Nat.gcd_le_right _ hb
      walk_at "rd"
      refine r_div ?_ (div_ok g0 g1 hb2)
      walk_at "rd"
      refine r_div ?_ (div_ok g0 g1 hb2)
      walk_at "rd"
      rw [← e] at q
      exact q
def sp_great : Sp := fun vs H Q _ => ∃ (p : Addr) (a b : Int), vs = [.ref p] ∧ H p = some (.lst [.int a, .int b]) ∧ 0 ≤ a ∧ 0 ≤ b ∧ b < 2147483647 ∧
  ∀ (x a' b' : Int) H', 0 ≤ x → x < 10 ^ 60 → 0 ≤ a' → 0 ≤ b' → b' < 2147483647 → Z.But p H H' → H' p = some (.lst [.int a', .int b']) → Q (.int x) H'
theorem ok_law_great (T : Txt K mg) : Z.C0 P w K mg base 2 "_law_great" (sp_great) := by
  refine T.d_law_great.c0 sc_law_great (fun vs H Q E h => ?_) (Z.bd0 fun _ _ _ _ _ _ us hl => match us, hl with | [_], _ => rfl) (fun f cdv A outer s H vs Q E hr h => ⟨_, (pss_cons (ps_set (i := 1) sc_law_great.nd rfl (Or.inl rfl) pe_int)
  (pss_cons (ps_for PassesOwn.never rfl (pi_range1 rfl T.b_range (pa_cons (pe_op (k_addP K) pe_int (pe_c0 (ok_law_take T) hr (by decide) rfl (pa_cons (pv 0) (pa_cons pe_int pa_nil)))) pa_nil)) (pg_name (i := 2) sc_law_great.nd rfl (Or.inl rfl))
  (pss_one (ps_set (i := 1) sc_law_great.nd rfl (Or.inl rfl) (pe_op (k_addP K) (pe_op op_mulP (pv 1) (pe_op op_powI pe_int pe_int)) (pe_c0 (ok_law_take T) hr (by decide) rfl (pa_cons (pv 0) (pa_cons (pe_op op_powI pe_int pe_int) pa_nil)))))))
  (pss_one (ps_ret (pv 1))))), ?_⟩)
  · obtain ⟨p, a, b, rfl, _⟩ := h
    rfl
  · obtain ⟨p, a, b, rfl, hp, ha, hb, hb2, q⟩ := h
    rw [st_law_great]
    walk_at "st"
    walk_at "rd"
    refine ⟨p, a, b, 10, rfl, hp, ha, hb, hb2, by decide, by decide, fun x a' b' H' h1 h2 h3 h4 h5 h6 h7 => ?_⟩
    walk_at "rd"
    refine forW walk_range (fun i σ H2 => ∃ (f a2 b2 : Int) (z : Option V), σ = [some (.ref p), some (.int f), z] ∧ 0 ≤ f ∧ f < 10 ^ (6 * i) ∧ 0 ≤ a2 ∧ 0 ≤ b2 ∧ b2 < 2147483647 ∧ But p H H2 ∧ H2 p = some (.lst [.int a2, .int b2])) ⟨0, a', b', none, rfl, by decide, by decide, h3, h4, h5, h6, h7⟩ (fun _ _ _ _ _ => trivial) ?_ ?_
    · rintro i x2 σ H2 H3 hi ⟨f, a2, b2, z, rfl, hf, hf2, ha2, hb2, hb3, bt, e2⟩ ⟨rfl, rfl⟩
      walk_at "rd"
      refine ⟨p, a2, b2, 1000000, rfl, e2, ha2, hb2, hb3, by decide, by decide, fun x3 a3 b3 H4 k1 k2 k3 k4 k5 k6 k7 => ?_⟩
      walk_at "rd"
      refine ⟨_, a3, b3, _, rfl, by omega, ?_, k3, k4, k5, by walk_at "bt", k7⟩
      have e : (10 : Int) ^ (6 * (i + 1)) = 10 ^ (6 * i) * 1000000 := by
        rw [Nat.mul_add, Int.pow_add]
        rfl
      rw [e]
      omega
    · rintro σ H2 ⟨f, a2, b2, z, rfl, hf, hf2, ha2, hb2, hb3, bt, e2⟩
      walk_at "rd"
      refine q f a2 b2 H2 hf (Int.lt_of_lt_of_le hf2 ?_) ha2 hb2 hb3 bt e2
      have hle : 6 * (1 + x).toNat ≤ 60 := by omega
      have : (10 : Nat) ^ (6 * (1 + x).toNat) ≤ 10 ^ 60 := Nat.pow_le_pow_right (by decide) hle
      have e3 : ((10 : Int) ^ (6 * (1 + x).toNat)) = ((10 ^ (6 * (1 + x).toNat) : Nat) : Int) := by
        rw [Int.natCast_pow]
        rfl
      rw [e3]
      exact Int.ofNat_le.mpr this
def sp_figures : Sp := fun vs H Q _ => ∃ (n : Nat), vs = [.int n] ∧ n < 10 ^ 60 ∧ Q (.str (S (numL n))) H
theorem ok_law_figures (T : Txt K mg) : Z.C0 P w K mg base 1 "_law_figures" (sp_figures) := by
  refine T.d_law_figures.c0 sc_law_figures (fun vs H Q E h => ?_) (Z.bd0 fun _ _ _ _ _ _ us hl => match us, hl with | [_], _ => rfl) (fun f cdv A outer s H vs Q E hr h => ⟨_, (pss_cons (ps_set (i := 1) sc_law_figures.nd rfl (Or.inl rfl) pe_str)
  (pss_cons (ps_while PassesOwn.never (PW.pt (pw_or (pt_cmpR op_gtI (pv 0) pe_int (nomark _)) (pw_or1 (pt_cmpR (k_eqP K hr.units) (pv 1) pe_str (nomark _)))))
  (pss_cons (ps_set (i := 1) sc_law_figures.nd rfl (Or.inl rfl) (pe_op (k_addP K) (pe_ix (k_ix K) pe_str (pe_op op_modP (pv 0) pe_int) (fun _ _ => rfl)) (pv 1)))
  (pss_one (ps_set (i := 0) sc_law_figures.nd rfl (Or.inl rfl) (pe_op op_div (pv 0) pe_int)))))
  (pss_one (ps_ret (pv 1))))), ?_⟩)
  · obtain ⟨n, rfl, _⟩ := h
    rfl
  · obtain ⟨n, rfl, hn, q⟩ := h
    rw [st_law_figures]
    walk_at "st"
    walk_at "rd"
    have hlen := len60 hn
    refine r_while (fun m σ H' => H = H' ∧ ∃ (k : Nat) (acc : List Nat), σ = [some (.int k), some (.str (S acc))] ∧ m = 2 * k + (if acc = [] then 1 else 0) ∧ ((acc = [] ∧ k = n) ∨ (acc ≠ [] ∧ acc.length ≤ 60 ∧ if k = 0 then acc = numL n else numL k ++ acc = numL n))) _ (by walk_at "mn") ⟨rfl, n, [], rfl, rfl, .inl ⟨rfl, rfl⟩⟩ ?_
    rintro m σ _ ⟨rfl, k, acc, rfl, rfl, hi⟩
    have step : (0 < k ∨ acc = []) → ∃ k' acc', k' = k / 10 ∧ acc' = (48 + k % 10) :: acc ∧ 2 * k' + (if acc' = [] then 1 else 0) < 2 * k + (if acc = [] then 1 else 0) ∧ acc.length ≤ 60 ∧ (acc' ≠ [] ∧ acc'.length ≤ 60 ∧ if k' = 0 then acc' = numL n else numL k' ++ acc' = numL n) := fun hk => by
      refine ⟨_, _, rfl, rfl, ?_, ?_, by simp, ?_⟩
      · rw [if_neg (by simp)]
        rcases hk with h | h
        · omega
        · rw [if_pos h]
          omega
      · rcases hi with ⟨h, _⟩ | ⟨_, h, _⟩
        · rw [h]
          simp
        · exact h
      · have key : numL k ++ acc = numL n := by
          rcases hi with ⟨h1, h2⟩ | ⟨h1, _, h2⟩
          · rw [h1, h2]
            simp
          · have hk0 : k ≠ 0 := by
              rcases hk with h | h
              · omega
              · exact absurd h h1
            rw [if_neg hk0] at h2
            exact h2
        have fin : (if k / 10 = 0 then (48 + k % 10) :: acc = numL n else numL (k / 10) ++ (48 + k % 10) :: acc = numL n) := by
          by_cases h : k < 10
          · rw [if_pos (by omega), ← key, numL_lt h, show k % 10 = k by omega]
            rfl
          · rw [if_neg (by omega), ← key, numL_step (n := k) (by omega)]
            simp
        refine ⟨?_, fin⟩
        have := congrArg List.length key
        rw [List.length_append] at this
        by_cases h : k < 10
        · rw [numL_lt h] at this
          rw [List.length_cons]
          simp at this
          omega
        · rw [numL_step (n := k) (by omega)] at this
          rw [List.length_cons]
          simp at this
          omega
    have turn : (0 < k ∨ acc = []) → tSeq (tAsg (tOp (rAddP K) (tOp (rIx K) (tC (V.str (Str.ofString "0123456789"))) (tOp Z.rMod (tVar 0) (tC (V.int 10)))) (tVar 1)) (gName 1)) (tAsg (tOp Z.rDiv (tVar 0) (tC (V.int 10))) (gName 0))
        { nx := fun σ' H' => ∃ m', m' < 2 * k + (if acc = [] then 1 else 0) ∧ H = H' ∧ ∃ (k : Nat) (acc : List Nat), σ' = [some (.int k), some (.str (S acc))] ∧ m' = 2 * k + (if acc = [] then 1 else 0) ∧ ((acc = [] ∧ k = n) ∨ (acc ≠ [] ∧ acc.length ≤ 60 ∧ if k = 0 then acc = numL n else numL k ++ acc = numL n)), rt := Q, ct := fun σ' H' => ∃ m', m' < 2 * k + (if acc = [] then 1 else 0) ∧ H = H' ∧ ∃ (k : Nat) (acc : List Nat), σ' = [some (.int k), some (.str (S acc))] ∧ m' = 2 * k + (if acc = [] then 1 else 0) ∧ ((acc = [] ∧ k = n) ∨ (acc ≠ [] ∧ acc.length ≤ 60 ∧ if k = 0 then acc = numL n else numL k ++ acc = numL n)), bk := tRet (tVar 1) { nx := fun x H' => Q V.non H', rt := Q } }
        [some (.int k), some (.str (S acc))] H := fun hk => by
      obtain ⟨k', acc', rfl, rfl, hm, hl, hinv⟩ := step hk
      walk_at "rd"
      refine r_ixS (c := 48 + k % 10) (by decide +kernel) (fig_at (d := k % 10) (Nat.mod_lt _ (by decide))) ?_
      walk_at "rd"
      refine r_addS ?_ (szl (by have := M.S_len acc; show 1 + (S acc).length ≤ _; omega))
      walk_at "rd"
      refine ⟨_, hm, rfl, k / 10, (48 + k % 10) :: acc, ?_, rfl, .inr hinv⟩
      rw [show (⟨#[48 + k % 10]⟩ : Str) = S [48 + k % 10] from rfl, S_app]
      rfl
    walk_at "rd"
    refine r_ite (fun h1 => ?_) (fun h1 => ?_)
    · walk_at "rd1"
      exact turn (.inl (by omega))
    · walk_at "rd"
      refine r_ite (fun h2 => ?_) (fun h2 => ?_)
      · refine turn (.inr ?_)
        exact SX.S_inj (h2.trans (by decide +kernel))
      · walk_at "rd"
        have hk : k = 0 := by omega
        have ha : acc ≠ [] := fun z => h2 (by rw [z]; decide +kernel)
        rcases hi with ⟨h, _⟩ | ⟨_, _, h⟩
        · exact absurd h ha
        · rw [if_pos hk] at h
          rw [h]
          exact q
end
end My

namespace My
open PySem PySem.Spec PyProof.Rows L2 Z M SX TL
section
variable {P : Program} {w : World} {K : PySem.W.Frag} {mg : Str → Option Value} {base : Heap}
theorem fracL_len {n : Int} {d : Nat} (hn : n.natAbs < 10 ^ 60) (hd : d < 10 ^ 60) : (fracL n d).length ≤ 200 := by
  have h1 : (intL n).length ≤ 61 := by
    have := int_len hn
    rw [M.S_len] at this
    exact this
  have h2 := len60 hd
  unfold fracL
  split
  · omega
  · rw [List.length_append, List.length_cons]
    omega
def sp_due (K : PySem.W.Frag) : Sp := fun vs H Q _ => ∃ (p : Addr) (n : Int) (d : Nat), vs = [.ref p] ∧ SqT K H p [.int n, .int d] ∧ n.natAbs < 10 ^ 60 ∧ 0 < d ∧ d < 10 ^ 60 ∧ Q (.str (S (fracL n d))) H
theorem ok_law_due (T : Txt K mg) : Z.C0 P w K mg base 2 "_law_due" (sp_due K) := by
  refine T.d_law_due.c0 sc_law_due (fun vs H Q E h => ?_) (Z.bd0 fun _ _ _ _ _ _ us hl => match us, hl with | [_], _ => rfl) (fun f cdv A outer s H vs Q E hr h => ⟨_, (pss_cons (ps_set (i := 1) sc_law_due.nd rfl (Or.inl rfl) (pe_c0 (ok_law_figures T) hr (by decide) rfl (pa_cons (pe_callB call_absP rfl T.b_abs (by decide +kernel) (pa_cons (pe_ix (k_ix K) (pv 0) pe_int (fun _ _ => rfl)) pa_nil)) pa_nil)))
  (Evl.pss_cut (ps_if (pt_cmpR op_ltI (pe_ix (k_ix K) (pv 0) pe_int (fun _ _ => rfl)) pe_int (nomark _))
  (pss_one (ps_set (i := 1) sc_law_due.nd rfl (Or.inl rfl) (pe_op (k_addP K) pe_str (pv 1)))) pss_nil)
  (Evl.pss_cut (ps_if (pt_cmpR op_gtI (pe_ix (k_ix K) (pv 0) pe_int (fun _ _ => rfl)) pe_int (nomark _))
  (pss_one (ps_set (i := 1) sc_law_due.nd rfl (Or.inl rfl) (pe_op (k_addP K) (pe_op (k_addP K) (pv 1) pe_str) (pe_c0 (ok_law_figures T) hr (by decide) rfl (pa_cons (pe_ix (k_ix K) (pv 0) pe_int (fun _ _ => rfl)) pa_nil))))) pss_nil)
  (pss_one (ps_ret (pv 1)))))), ?_⟩)
  · obtain ⟨p, n, d, rfl, _⟩ := h
    rfl
  · obtain ⟨p, n, d, rfl, hp, hn, hd0, hd, q⟩ := h
    rw [st_law_due]
    walk_at "st"
    have m1 := int_len hn
    have m2 := len60 hd
    have m3 := len60 hn
    walk_at "rd"
    refine ⟨n.natAbs, rfl, hn, ?_⟩
    walk_at "rd"
    refine r_cut (fun σ' H' => H = H' ∧ σ' = [some (.ref p), some (.str (S (intL n)))]) ?_ ?_
    · walk_at "rd"
      refine r_ite (fun h1 => ?_) (fun h1 => ?_)
      · walk_at "rd"
        have l1 : (Str.ofString "-").length = 1 := by decide +kernel
        have l2 := M.S_len (numL n.natAbs)
        refine r_addS ?_ (szl (by omega))
        walk_at "rd"
        refine ⟨rfl, ?_⟩
        rw [show Str.ofString "-" = S [45] by decide +kernel, S_app]
        unfold intL
        rw [if_pos h1]
        rfl
      · walk_at "rd"
        refine ⟨rfl, ?_⟩
        unfold intL
        rw [if_neg h1]
    rintro σ' _ ⟨rfl, rfl⟩
    walk_at "rd"
    refine r_cut (fun σ' H' => H = H' ∧ σ' = [some (.ref p), some (.str (S (fracL n d)))]) ?_ ?_
    · walk_at "rd"
      refine r_ite (fun h1 => ?_) (fun h1 => ?_)
      · walk_at "rd"
        have l1 : (Str.ofString "/").length = 1 := by decide +kernel
        have l2 := M.S_len (intL n)
        have l3 := M.S_len (numL d)
        refine ⟨d, rfl, hd, ?_⟩
        walk_at "rd"
        refine ⟨rfl, ?_⟩
        rw [show Str.ofString "/" = S [47] by decide +kernel, S_app, S_app]
        unfold fracL
        rw [if_neg (by omega)]
        simp
      · walk_at "rd"
        refine ⟨rfl, ?_⟩
        unfold fracL
        rw [if_pos (by omega)]
    rintro σ' _ ⟨rfl, rfl⟩
    walk_at "rd"
    exact q
theorem at_in {xs : List V} {z : Int} (h0 : 0 ≤ z) (h1 : z < xs.length) : ∃ v, atI xs z = some v ∧ v ∈ xs := by
  obtain ⟨j, rfl⟩ : ∃ j : Nat, z = j := ⟨z.toNat, by omega⟩
  have hj : j < xs.length := by omega
  exact ⟨xs[j], atI_nat (List.getElem?_eq_getElem hj), List.getElem_mem hj⟩
def sp_law (K : PySem.W.Frag) : Sp := fun vs H Q _ => ∃ (a : Addr) (ns : List Int), vs = [.ref a] ∧ SqL K H a (ns.map V.int) ∧ ns.length ≤ 63 ∧ ∀ H', Q (.bl true) H'
theorem ok_law (T : Txt K mg) {fa : Addr} (hmg : mg "law" = some (.ref fa)) : ∃ fd : FuncData, (∀ (s : Shared) (u : Value), BindsTo s fd ⟨[u], []⟩ [("_law_script", u)]) ∧ ∀ base : Heap, FnOk P w K mg base CX0 6 fa fd ["_law_script"] (sp_law K) := by
  refine T.d_law.law hmg sc_law (fun vs H Q E h => ?_) (fun _ _ _ _ _ _ _ => rfl) (fun base f cdv A outer s H vs Q E hr h => ⟨_, (pss_cons (ps_for PassesOwn.never rfl (pi_range1 rfl T.b_range (pa_cons (pe_callB (call_maxP rfl) rfl T.b_max (by decide +kernel) (pa_cons pe_int (pa_cons (pe_callB (call_minP rfl) rfl T.b_min (by decide +kernel) (pa_cons (pe_callB (k_len K) rfl T.b_len (by decide +kernel) (pa_cons (pv 0) pa_nil)) (pa_cons pe_int pa_nil))) pa_nil))) pa_nil)) (pg_name (i := 1) sc_law.nd rfl (Or.inl rfl))
  (pss_cons (ps_set (i := 2) sc_law.nd rfl (Or.inl rfl) (pe_c0 (ok_law_pool T) hr (by decide) rfl (pa_cons (pv 0) (pa_cons (pv 1) pa_nil))))
  (pss_cons (ps_set (i := 3) sc_law.nd rfl (Or.inl rfl) (pe_ix (k_ix K) (pe_lst (pa_cons (pe_c0 (ok_law_take T) hr (by decide) rfl (pa_cons (pv 2) (pa_cons pe_int pa_nil))) (pa_cons (pe_c0 (ok_law_great T) hr (by decide) rfl (pa_cons (pv 2) pa_nil)) pa_nil))) (pe_c0 (ok_law_take T) hr (by decide) rfl (pa_cons (pv 2) (pa_cons pe_int pa_nil))) (fun _ _ => rfl)))
  (pss_cons (ps_set (i := 4) sc_law.nd rfl (Or.inl rfl) (pe_ix (k_ix K) (pe_lst (pa_cons pe_int (pa_cons (pe_op (k_addP K) pe_int (pe_c0 (ok_law_take T) hr (by decide) rfl (pa_cons (pv 2) (pa_cons pe_int pa_nil)))) (pa_cons (pe_callB (call_maxP rfl) rfl T.b_max (by decide +kernel) (pa_cons pe_int (pa_cons (pe_c0 (ok_law_great T) hr (by decide) rfl (pa_cons (pv 2) pa_nil)) pa_nil))) pa_nil)))) (pe_c0 (ok_law_take T) hr (by decide) rfl (pa_cons (pv 2) (pa_cons pe_int pa_nil))) (fun _ _ => rfl)))
  (pss_cons (ps_set (i := 5) sc_law.nd rfl (Or.inl rfl) (pe_c0 (ok_law_low T) hr (by decide) rfl (pa_cons (pv 3) (pa_cons (pv 4) pa_nil))))
  (Evl.pss_cut (ps_if (pt_cmpR (k_eqP K hr.units) (pe_c0 (ok_law_take T) hr (by decide) rfl (pa_cons (pv 2) (pa_cons pe_int pa_nil))) pe_int (nomark _))
  (pss_one (ps_set (i := 5) sc_law.nd rfl (Or.inl rfl) (pe_tup (pa_cons (pe_op op_subI pe_int (pe_ix (k_ix K) (pv 5) pe_int (fun _ _ => rfl))) (pa_cons (pe_ix (k_ix K) (pv 5) pe_int (fun _ _ => rfl)) pa_nil))))) pss_nil)
  (pss_cons (ps_set (i := 6) sc_law.nd rfl (Or.inl rfl) (pe_c0 (ok_show_fraction T) hr (by decide) rfl (pa_cons (pv 5) pa_nil)))
  (pss_cons (ps_if (PW.pt (pw_or (pt_not (pt_val (pe_callB (k_isi K) rfl T.b_isinstance (by decide +kernel) (pa_cons (pv 6) (pa_cons (pe_bltn (v := .ty "str") rfl T.b_str (by decide +kernel) rfl) pa_nil))))) (pw_or1 (pt_cmpR (k_neP K hr.units) (pv 6) (pe_c0 (ok_law_due T) hr (by decide) rfl (pa_cons (pv 5) pa_nil)) (nomark _)))))
  (pss_one (ps_ret pe_bl)) pss_nil)
  (pss_cons (ps_set (i := 7) sc_law.nd rfl (Or.inl rfl) (pe_c0 (ok_read_fraction T) hr (by decide) rfl (pa_cons (pv 6) pa_nil)))
  (pss_one (ps_if (PW.pt (pw_or (pt_not (pt_val (pe_callB (k_isi K) rfl T.b_isinstance (by decide +kernel) (pa_cons (pv 7) (pa_cons (pe_bltn (v := .ty "tuple") rfl T.b_tuple (by decide +kernel) rfl) pa_nil))))) (pw_or (pt_cmpR (k_neP K hr.units) (pv 7) (pv 5) (nomark _)) (pw_or1 (pt_cmpR (k_neP K hr.units) (pe_lc (own := [("_law_part", 8)]) rfl sc_law.nd (k_iT K (pv 7)) (blkOk_by (N := ["_law_script", "_law_k", "_law_pool_here", "_law_top", "_law_bottom", "_law_one", "_law_found", "_law_told", "_law_part"]) (sc := defScope s_law) (by decide +kernel)) (fun _ _ _ _ _ => (pg_name (i := 8) sc_law.nd rfl (Or.inl rfl))) (fun _ _ _ _ _ => (pts_one (pt_val (pe_callB (k_isi K) rfl T.b_isinstance (by decide +kernel) (pa_cons (pv 8) (pa_cons (pe_bltn (v := .ty "bool") rfl T.b_bool (by decide +kernel) rfl) pa_nil)))))) (fun _ _ _ _ _ => (pv 8))) (pe_lst pa_nil) (nomark _))))))
  (pss_one (ps_ret pe_bl)) pss_nil)))))))))))
  (pss_one (ps_ret pe_bl))), ?_⟩)
  · obtain ⟨a, ns, rfl, _⟩ := h
    rfl
  · obtain ⟨a, ns, rfl, ha, hl, q⟩ := h
    rw [st_law]
    walk_at "st"
    walk_at "rd"
    refine forW walk_r0 (fun i σ H2 => ∃ z1 z2 z3 z4 z5 z6 z7 : Option V, σ = [some (.ref a), z1, z2, z3, z4, z5, z6, z7, none] ∧ Same H H2) ⟨_, _, _, _, _, _, _, rfl, Same.refl _⟩ (fun _ _ _ _ _ => trivial) ?_ ?_
    · rintro i x σ H1 H1' hi ⟨z1, z2, z3, z4, z5, z6, z7, rfl, e1⟩ ⟨rfl, rfl⟩
      have hi2 : i < 100 := by
        split at hi <;> split at hi <;> omega
      walk_at "rd"
      refine ⟨a, ns, i, rfl, by walk_at "lk", hi2, fun p x y H2 hp e2 f2 b1 b2 b3 => ?_⟩
      walk_at "rd"
      refine ⟨p, _, _, 20, rfl, f2, b1, b2, b3, by decide, by decide, fun t1 x y H3 c1 c2 b1 b2 b3 g3 f3 => ?_⟩
      walk_at "rd"
      refine ⟨p, _, _, rfl, f3, b1, b2, b3, fun t2 x y H4 c3 c4 b1 b2 b3 g4 f4 => ?_⟩
      walk_at "rd"
      intro l1 H5 hl1 e5 f5
      walk_at "rd"
      refine ⟨p, _, _, 2, rfl, by walk_at "lk", b1, b2, b3, by decide, by decide, fun w1 x y H6 c5 c6 b1 b2 b3 g6 f6 => ?_⟩
      obtain ⟨v1, hv1, hm1⟩ := at_in (xs := [V.int t1, V.int t2]) c5 c6
      obtain ⟨t, rfl, ht0, ht1⟩ : ∃ t : Nat, v1 = .int t ∧ 0 ≤ (t : Int) ∧ t < 10 ^ 60 := by
        simp only [List.mem_cons, List.not_mem_nil, or_false] at hm1
        rcases hm1 with rfl | rfl
        · exact ⟨t1.toNat, by rw [Int.toNat_of_nonneg c1], by omega, by omega⟩
        · exact ⟨t2.toNat, by rw [Int.toNat_of_nonneg c3], by omega, by omega⟩
      walk_at "rd"
      refine ⟨p, _, _, 12, rfl, by walk_at "lk", b1, b2, b3, by decide, by decide, fun t3 x y H7 c7 c8 b1 b2 b3 g7 f7 => ?_⟩
      walk_at "rd"
      refine ⟨p, _, _, rfl, f7, b1, b2, b3, fun t4 x y H8 c9 c10 b1 b2 b3 g8 f8 => ?_⟩
      walk_at "rd"
      intro l2 H9 hl2 e9 f9
      walk_at "rd"
      refine ⟨p, _, _, 3, rfl, by walk_at "lk", b1, b2, b3, by decide, by decide, fun w2 x y H10 d1 d2 b1 b2 b3 g10 f10 => ?_⟩
      obtain ⟨v2, hv2, hm2⟩ := at_in (xs := [V.int 1, V.int (1 + t3), V.int (if t4 > 1 then t4 else 1)]) d1 d2
      obtain ⟨d, rfl, hd0, hd1⟩ : ∃ d : Nat, v2 = .int d ∧ 0 < d ∧ d < 10 ^ 60 := by
        simp only [List.mem_cons, List.not_mem_nil, or_false] at hm2
        rcases hm2 with rfl | rfl | rfl
        · exact ⟨1, rfl, by decide, by decide⟩
        · exact ⟨(1 + t3).toNat, by rw [Int.toNat_of_nonneg (by omega)], by omega, by omega⟩
        · refine ⟨(if t4 > 1 then t4 else 1).toNat, by rw [Int.toNat_of_nonneg (by split <;> omega)], ?_, ?_⟩
          · split <;> omega
          · split <;> omega
      walk_at "rd"
      refine ⟨t, d, rfl, hd0, hd1, fun o1 H11 ho1 e11 f11 => ?_⟩
      have g0 : 0 < Nat.gcd t d := Nat.gcd_pos_of_pos_right _ hd0
      have hgg := lowest_gcd (t := t) hd0
      have hdd : 0 < d / Nat.gcd t d := Nat.div_pos (Nat.gcd_le_right _ hd0) g0
      have hdl : d / Nat.gcd t d < 10 ^ 60 := Nat.lt_of_le_of_lt (Nat.div_le_self _ _) hd1
      have htl : t / Nat.gcd t d < 10 ^ 60 := Nat.lt_of_le_of_lt (Nat.div_le_self _ _) ht1
      revert f11 hgg hdd hdl htl
      generalize t / Nat.gcd t d = n1
      generalize d / Nat.gcd t d = d1
      intro f11 hgg hdd hdl htl
      walk_at "rd"
      refine r_cut (fun σ' H' => ∃ (o : Addr) (n : Int), Same H H' ∧ H' o = some (.tup [.int n, .int d1]) ∧ n.natAbs = n1 ∧ ∃ y2 y3 y4, σ' = [some (.ref a), y2, y3, y4, some (.int d), some (.ref o), z6, z7, none]) ?_ ?_
      · walk_at "rd"
        refine ⟨p, _, _, 2, rfl, by walk_at "lk", b1, b2, b3, by decide, by decide, fun w3 x y H12 d3 d4 b1 b2 b3 g12 f12 => ?_⟩
        walk_at "rd"
        refine r_ite (fun h1 => ?_) (fun h1 => ?_)
        · walk_at "rd"
          intro o2 H13 ho2 e13 f13
          walk_at "rd"
          exact ⟨o2, _, by walk_at "sm", f13, by omega, _, _, _, rfl⟩
        · walk_at "rd"
          exact ⟨o1, n1, by walk_at "sm", by walk_at "lk", by omega, _, _, _, rfl⟩
      rintro σ' H14 ⟨o, n, e14, f14, hn, y2, y3, y4, rfl⟩
      clear e1 e2 f2 g3 f3 g4 f4 e5 f5 g6 f6 g7 f7 g8 f8 e9 f9 g10 f10 e11 f11
      have hn60 : n.natAbs < 10 ^ 60 := by omega
      have back : fracIn (fracL n d1) 60 = some (n, d1) := frac_back (len60 hn60) (len60 hdl) hdd (by rw [hn]; exact hgg)
      walk_at "rd"
      refine ⟨o, n, d1, rfl, sqT f14, hn60, hdl, ?_⟩
      walk_at "rd"
      refine ⟨o, n, d1, rfl, sqT f14, hn60, hdd, hdl, ?_⟩
      walk_at "rd"
      refine r_ndT rfl ?_
      walk_at "rd"
      refine ⟨_, n, d1, rfl, Nat.le_trans (fracL_len hn60 hdl) (by decide), back, fun o3 H15 ho3 e15 f15 => ?_⟩
      walk_at "rd"
      refine r_neD (d := .tuple [.int n, .int d1]) (e := .tuple [.int n, .int d1]) (by walk_at "lk") (by walk_at "lk") ?_ rfl rfl
      rw [eqv2]
      walk_at "rd"
      refine r_ndT ⟨rfl, rfl⟩ ?_
      walk_at "rd"
      refine lcW (walk_tup (xs := [V.int n, V.int d1])) (fun i acc _ => acc = []) rfl (fun H' e => by walk_at "lk") (fun _ _ => rfl) ?_ ?_
      · rintro i2 x2 acc Dl H16 _ hi3 hD e16 f16 hl3 rfl ⟨rfl, hx⟩
        obtain ⟨m, rfl⟩ : ∃ m : Int, x2 = .int m := by
          match i2, hx with
          | 0, hx => exact ⟨_, (Option.some.inj hx).symm⟩
          | 1, hx => exact ⟨_, (Option.some.inj hx).symm⟩
        walk_at "rd"
        exact lc_skip (by walk_at "sm") f16 (Nat.zero_le _) rfl
      · rintro acc Dl H16 hD e16 f16 rfl
        walk_at "rd"
        intro l4 H17 hl4 e17 f17
        walk_at "rd"
        refine r_neD (d := .list []) (e := .list []) (by walk_at "lk") (by walk_at "lk") ?_ rfl rfl
        walk_at "rd"
        refine r_bF rfl ?_
        walk_at "rd"
        exact ⟨_, _, _, _, _, _, _, rfl, by walk_at "sm"⟩
    · rintro σ H2 ⟨z1, z2, z3, z4, z5, z6, z7, rfl, e1⟩
      walk_at "rd"
      exact q H2
end
/-! ### the head: facts by names, the run -/
def dd_is_whole : He.DefD := ⟨("is_whole", none), "is_whole", "is_whole", defArgs s_is_whole, defBody s_is_whole, defScope s_is_whole, [], []⟩
def dd_divisor : He.DefD := ⟨("divisor", none), "divisor", "divisor", defArgs s_divisor, defBody s_divisor, defScope s_divisor, [], []⟩
def dd_lowest : He.DefD := ⟨("lowest", none), "lowest", "lowest", defArgs s_lowest, defBody s_lowest, defScope s_lowest, [], []⟩
def dd_fraction : He.DefD := ⟨("fraction", none), "fraction", "fraction", defArgs s_fraction, defBody s_fraction, defScope s_fraction, [.int 1], []⟩
def dd_show_fraction : He.DefD := ⟨("show_fraction", none), "show_fraction", "show_fraction", defArgs s_show_fraction, defBody s_show_fraction, defScope s_show_fraction, [], []⟩
def dd_whole_in : He.DefD := ⟨("whole_in", none), "whole_in", "whole_in", defArgs s_whole_in, defBody s_whole_in, defScope s_whole_in, [], []⟩
def dd_fraction_in : He.DefD := ⟨("fraction_in", none), "fraction_in", "fraction_in", defArgs s_fraction_in, defBody s_fraction_in, defScope s_fraction_in, [], []⟩
def dd_read_fraction : He.DefD := ⟨("read_fraction", none), "read_fraction", "read_fraction", defArgs s_read_fraction, defBody s_read_fraction, defScope s_read_fraction, [], []⟩
def dd_law_pool : He.DefD := ⟨("_law_pool", none), "_law_pool", "_law_pool", defArgs s_law_pool, defBody s_law_pool, defScope s_law_pool, [], []⟩
def dd_law_take : He.DefD := ⟨("_law_take", none), "_law_take", "_law_take", defArgs s_law_take, defBody s_law_take, defScope s_law_take, [], []⟩
def dd_law_low : He.DefD := ⟨("_law_low", none), "_law_low", "_law_low", defArgs s_law_low, defBody s_law_low, defScope s_law_low, [], []⟩
def dd_law_great : He.DefD := ⟨("_law_great", none), "_law_great", "_law_great", defArgs s_law_great, defBody s_law_great, defScope s_law_great, [], []⟩
def dd_law_figures : He.DefD := ⟨("_law_figures", none), "_law_figures", "_law_figures", defArgs s_law_figures, defBody s_law_figures, defScope s_law_figures, [], []⟩
def dd_law_due : He.DefD := ⟨("_law_due", none), "_law_due", "_law_due", defArgs s_law_due, defBody s_law_due, defScope s_law_due, [], []⟩
def dd_law : He.DefD := ⟨("law", none), "law", "law", defArgs s_law, defBody s_law, defScope s_law, [], []⟩
def fn : List He.DefD := [dd_is_whole, dd_divisor, dd_lowest, dd_fraction, dd_show_fraction, dd_whole_in, dd_fraction_in, dd_read_fraction, dd_law_pool, dd_law_take, dd_law_low, dd_law_great, dd_law_figures, dd_law_due, dd_law]
def fa : List He.Fa := [.glo "is_whole", .glo "divisor", .glo "lowest", .glo "fraction", .glo "show_fraction", .glo "whole_in", .glo "fraction_in", .glo "read_fraction", .glo "_law_pool", .glo "_law_take", .glo "_law_low", .glo "_law_great", .glo "_law_figures", .glo "_law_due", .glo "law", .free "abs", .free "all", .free "bool", .free "int", .free "isinstance", .free "len", .free "max", .free "min", .free "range", .free "str", .free "tuple", .str "FIGURES" "0123456789", .int "MOST_FIGURES" 60, .glo "DearError", .glo "NoNumber", .glo "NoText"]
abbrev R : PySem.W.OpenRow := PySem.W.OpenLaw.row PySem.Challenge.rw_dearsigns_k61_fractions_written
abbrev hk : PySem.W.Hook := He.hookD 5 fa fn
def ob (s : PySem.W.SharedT) : He.AlD := He.obsDG 5 fa fn (HandSHeadRun.getT s)
theorem ob_eq (s : PySem.W.SharedT) : ob s = hk.obs s.abs := He.obsDG_eq (HandSHeadRun.getT_eq s)
def loose0 : List Str := ["DearError", "NoNumber", "NoText", "is_whole", "divisor", "lowest", "fraction", "show_fraction", "FIGURES", "MOST_FIGURES", "whole_in", "fraction_in", "read_fraction", "_law_pool", "_law_take", "_law_low", "_law_great", "_law_figures", "_law_due"]
def loose : List Str := loose0
set_option maxHeartbeats 0 in
theorem run (w : World) : HandSHeadRun.RunEq R (PySem.W.view R.prog [24]) hk ob 2500 loose w := by
  intro os
  kernel_rfl
theorem facts {K : PySem.W.Frag} {h : Heap} {mg : Str → Option Value} (X : K.In h) (G : h.Ns mainGlobals mg) (c : He.SaysD fa fn K) : Txt K mg where
  d_is_whole := by
    obtain ⟨fd, F⟩ := c.def_ 0 (d := dd_is_whole) rfl
    exact ⟨_, fd, F, He.glo_ok X G (c.fact 0 (f := .glo "is_whole") rfl)⟩
  d_divisor := by
    obtain ⟨fd, F⟩ := c.def_ 1 (d := dd_divisor) rfl
    exact ⟨_, fd, F, He.glo_ok X G (c.fact 1 (f := .glo "divisor") rfl)⟩
  d_lowest := by
    obtain ⟨fd, F⟩ := c.def_ 2 (d := dd_lowest) rfl
    exact ⟨_, fd, F, He.glo_ok X G (c.fact 2 (f := .glo "lowest") rfl)⟩
  d_fraction := by
    obtain ⟨fd, F⟩ := c.def_ 3 (d := dd_fraction) rfl
    exact ⟨_, fd, F, He.glo_ok X G (c.fact 3 (f := .glo "fraction") rfl)⟩
  d_show_fraction := by
    obtain ⟨fd, F⟩ := c.def_ 4 (d := dd_show_fraction) rfl
    exact ⟨_, fd, F, He.glo_ok X G (c.fact 4 (f := .glo "show_fraction") rfl)⟩
  d_whole_in := by
    obtain ⟨fd, F⟩ := c.def_ 5 (d := dd_whole_in) rfl
    exact ⟨_, fd, F, He.glo_ok X G (c.fact 5 (f := .glo "whole_in") rfl)⟩
  d_fraction_in := by
    obtain ⟨fd, F⟩ := c.def_ 6 (d := dd_fraction_in) rfl
    exact ⟨_, fd, F, He.glo_ok X G (c.fact 6 (f := .glo "fraction_in") rfl)⟩
  d_read_fraction := by
    obtain ⟨fd, F⟩ := c.def_ 7 (d := dd_read_fraction) rfl
    exact ⟨_, fd, F, He.glo_ok X G (c.fact 7 (f := .glo "read_fraction") rfl)⟩
  d_law_pool := by
    obtain ⟨fd, F⟩ := c.def_ 8 (d := dd_law_pool) rfl
    exact ⟨_, fd, F, He.glo_ok X G (c.fact 8 (f := .glo "_law_pool") rfl)⟩
  d_law_take := by
    obtain ⟨fd, F⟩ := c.def_ 9 (d := dd_law_take) rfl
    exact ⟨_, fd, F, He.glo_ok X G (c.fact 9 (f := .glo "_law_take") rfl)⟩
  d_law_low := by
    obtain ⟨fd, F⟩ := c.def_ 10 (d := dd_law_low) rfl
    exact ⟨_, fd, F, He.glo_ok X G (c.fact 10 (f := .glo "_law_low") rfl)⟩
  d_law_great := by
    obtain ⟨fd, F⟩ := c.def_ 11 (d := dd_law_great) rfl
    exact ⟨_, fd, F, He.glo_ok X G (c.fact 11 (f := .glo "_law_great") rfl)⟩
  d_law_figures := by
    obtain ⟨fd, F⟩ := c.def_ 12 (d := dd_law_figures) rfl
    exact ⟨_, fd, F, He.glo_ok X G (c.fact 12 (f := .glo "_law_figures") rfl)⟩
  d_law_due := by
    obtain ⟨fd, F⟩ := c.def_ 13 (d := dd_law_due) rfl
    exact ⟨_, fd, F, He.glo_ok X G (c.fact 13 (f := .glo "_law_due") rfl)⟩
  d_law := by
    obtain ⟨fd, F⟩ := c.def_ 14 (d := dd_law) rfl
    exact ⟨_, fd, F, He.glo_ok X G (c.fact 14 (f := .glo "law") rfl)⟩
  b_abs := He.free_ok X G (c.fact 15 (f := .free "abs") rfl)
  b_all := He.free_ok X G (c.fact 16 (f := .free "all") rfl)
  b_bool := He.free_ok X G (c.fact 17 (f := .free "bool") rfl)
  b_int := He.free_ok X G (c.fact 18 (f := .free "int") rfl)
  b_isinstance := He.free_ok X G (c.fact 19 (f := .free "isinstance") rfl)
  b_len := He.free_ok X G (c.fact 20 (f := .free "len") rfl)
  b_max := He.free_ok X G (c.fact 21 (f := .free "max") rfl)
  b_min := He.free_ok X G (c.fact 22 (f := .free "min") rfl)
  b_range := He.free_ok X G (c.fact 23 (f := .free "range") rfl)
  b_str := He.free_ok X G (c.fact 24 (f := .free "str") rfl)
  b_tuple := He.free_ok X G (c.fact 25 (f := .free "tuple") rfl)
  c_FIGURES := by
    obtain ⟨t, e⟩ := He.str_ok X G (c.fact 26 (f := .str "FIGURES" "0123456789") rfl)
    exact ⟨_, e, t, rfl⟩
  c_MOST_FIGURES := by
    obtain ⟨t, e⟩ := He.int_ok X G (c.fact 27 (f := .int "MOST_FIGURES" 60) rfl)
    exact ⟨_, e, t, rfl⟩
  k_DearError := He.glo_ok X G (c.fact 28 (f := .glo "DearError") rfl)
  k_NoNumber := He.glo_ok X G (c.fact 29 (f := .glo "NoNumber") rfl)
  k_NoText := He.glo_ok X G (c.fact 30 (f := .glo "NoText") rfl)
theorem law_starts {K : PySem.W.Frag} : ∀ (H : Hp) (a : Addr) (ns : List Int), ns.length ≤ 63 → Only H → SqL K H a (ns.map V.int) → sp_law K [.ref a] H (fun v _ => v = .bl true) fun _ _ _ => False := fun H a ns hl _ hS => ⟨a, ns, rfl, hS, hl, fun _ => rfl⟩
end My
open PySem PySem.W PySem.Calls PyProof.Rows
set_option maxHeartbeats 0 in
theorem PySem.Challenge.cw_dearsigns_k61_fractions_written_holds : PySem.Challenge.rw_dearsigns_k61_fractions_written.Holds := by
  w_on; o_law
  refine HandSHeadRun.head_any (r := OpenLaw.row PySem.Challenge.rw_dearsigns_k61_fractions_written) (q := view (OpenLaw.row PySem.Challenge.rw_dearsigns_k61_fractions_written).prog [24]) (H := My.hk) (ob := My.ob) (M := 2500) (loose := My.loose) (d := HandSHeadRun.topDef (OpenLaw.row PySem.Challenge.rw_dearsigns_k61_fractions_written).prog 24) (kwd := []) My.ob_eq
    (by kernel_rfl) (fun s => by kernel_rfl) My.run (by kernel_rfl) (by kernel_rfl) (by kernel_rfl) (by rfl) (by first | assumption | decide +kernel) (by decide +kernel) ⟨rfl, rfl, rfl, rfl, rfl, by decide +kernel⟩ ?hw ?hc
  case hw => w_witness2
  case hc =>
    refine L2.walk_ofE (l := PySem.Challenge.rw_dearsigns_k61_fractions_written) (n := 63) (k := 6) (x := "_law_script") (CX := L2.CX0) rfl (by decide) (by kernel_rfl) ⟨rfl, by decide, by decide⟩ ?F (fun _ _ _ _ z => z)
    intro w mg fa h Y G hmg0
    obtain ⟨K, KX, c⟩ := Y
    have hmg : mg ("law" : PySem.Str) = some (.ref fa) := by
      have e : (HandSHeadRun.topDef (OpenLaw.row PySem.Challenge.rw_dearsigns_k61_fractions_written).prog 24).name = ("law" : PySem.Str) := by kernel_rfl
      rw [← e]
      exact hmg0
    have T : My.Txt K mg := My.facts KX G c
    obtain ⟨fd, hb, hF⟩ := My.ok_law (P := (PySem.Challenge.rw_dearsigns_k61_fractions_written).prog) (w := w) T hmg
    exact ⟨K, fd, My.sp_law K, KX, hb, My.law_starts, fun base _ _ => hF base⟩

