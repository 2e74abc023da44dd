import PyProof.Rows.All
import Wide.All
import OpenK.AllK
import Wide.FinOn
import KE.KIsAll
import KE.KExcIs
import KE.KTryMore
import KE.KStateDown
import HandS.ForMost
import HandS.ForExc
import HandS.Defaults
import HandS.Wide
import HandS.ExcInit
import HandS.ExcIs
import HandS.ExcField
import HandS.ClsMeth
import HandS.Head0
import HandS.Head1
import HandS.Head2
import HandS.HeadEnd
import HandS.HeadHook1
import HandS.HeadHook2
import HandS.Property
import HandS.MakeKw
import HandS.SlotsOwn
import KE.KCallOwn
import HandS.FStr
import HandS.Style
import PySem.Challenge.RW_jointdraws_k42_draws_for_families
import HandS.Text
import HandS.IsInst
import KE.IntTextText
import KE.IntText
import HandS.Codes
import HandS.Star
import HandS.Deep
import HandS.Strs
import HandS.Zip
import HandS.SetKeys
import HandS.SetBool
import PyProof.Rows.SortShellAny
import HandS.DictComp
import HandS.Iter
import PyProof.StrOps2
import HandS.OwnEq
import HandS.MakeKwOnly
set_option Elab.async false
set_option linter.all false
set_option maxRecDepth 100000
set_option maxHeartbeats 4000000
/-! J1: promises at given surroundings (so that it may be known that nothing is being shown), own errors as values, a law's draws. -/
namespace J
open PySem PySem.Spec PyProof.Rows L2

/-! ### a promise at the surroundings A -/
/-- at the surroundings A the def at f keeps the promise sp -/
structure FnAt (P : Program) (w : World) (K : PySem.W.Frag) (mg : Str → Option Value) (base : Heap) (CX : CXT) (A : Around) (f : Addr) (fd : FuncData) (ps : List Str) (sp : Sp) : Prop where
  len : ∀ vs H Q E, sp vs H Q E → vs.length = ps.length
  run : ∀ (outer : List Env) (s : Shared) (H : Hp) (args : Args) (us : List Value) (vs : List V) (Q : VK) (E : XK), Env0 P w K mg base A outer s H → BindsTo s fd args (ps.zip us) → Vals vs us → sp vs H Q E →
    codeAny (model P w) A (.call (.ref f) args) (CR CX outer P w H s Q E) s
/-- .. wherever there is room for k calls and nothing is being shown -/
def FnG (P : Program) (w : World) (K : PySem.W.Frag) (mg : Str → Option Value) (base : Heap) (CX : CXT) (k : Nat) (f : Addr) (fd : FuncData) (ps : List Str) (sp : Sp) : Prop :=
  ∀ A : Around, A.guards = some [] → Room k A → FnAt P w K mg base CX A f fd ps sp
section
variable {P : Program} {w : World} {K : PySem.W.Frag} {mg : Str → Option Value} {base : Heap} {CX : CXT} {j k : Nat} {A : Around} {f : Addr} {fd : FuncData} {ps : List Str} {sp sp' : Sp}
theorem at_of (F : FnOk P w K mg base CX k f fd ps sp) (hr : Room k A) : FnAt P w K mg base CX A f fd ps sp :=
  ⟨F.len, fun outer s H args us vs Q E => F.run A outer s H args us vs Q E hr⟩
theorem g_of (F : FnOk P w K mg base CX k f fd ps sp) : FnG P w K mg base CX k f fd ps sp := fun _ _ hr => at_of F hr
theorem FnG.mono (F : FnG P w K mg base CX j f fd ps sp) (h : j ≤ k) : FnG P w K mg base CX k f fd ps sp := fun A hg hr => F A hg (hr.mono h)

/-- a def by its body, at A -/
theorem fnAt_of {name qual : Str} {params : Arguments} {body : List Stmt} {scope : Scope} {dV kV doc pm cdv ct oc : Value} {an od : Option Addr} {osl : Array (Option Value)} {N : List Str}
    (lk : K.lookup f = some ⟨oc, od, .func (PySem.W.fnOf name qual params body scope dV kV doc pm an cdv ct), osl⟩) (hcd : PySem.W.codeIn K cdv qual = true) (S : FnScope N ps scope) (dep : A.depth < recursionLimit) (hh : A.handled = none)
    (len : ∀ vs H Q E, sp vs H Q E → vs.length = ps.length)
    (hbody : ∀ (outer : List Env) (s : Shared) (H : Hp) (vs : List V) (Q : VK) (E : XK), sp vs H Q E →
      ∃ t, PSs (cxOf CX P w K mg base N qual scope f cdv A outer s H E) body t ∧ t { nx := fun _ H' => Q .non H', rt := Q } (start N vs) H) :
    FnAt P w K mg base CX A f (PySem.W.fnOf name qual params body scope dV kV doc pm an cdv ct) ps sp := by
  constructor
  · exact len
  · intro outer s H args us vs Q E e0 hb hv hsp
    have inK : K.In s.heap := e0.mod.kin.keeps fun b o z => (e0.bs b o z).1
    have noL : s.heap.NoLimit := e0.mod.nolimit.keeps fun b o z => (e0.bs b o z).1
    have kinds : ∀ y ∈ ps.zip us, scope.names.lookup y.1 = some .local ∨ (scope.names.lookup y.1 = some .cell ∧ ((cellsFrom (s.heap.objs.size + 1) scope.names []).lookup y.1).isSome = true) := by
      intro y hy
      rcases S.par y.1 (List.of_mem_zip hy).1 with q | q
      · exact Or.inl q
      · exact Or.inr ⟨q, PySem.W.cellsFrom_some _ _ _ (Or.inl q)⟩
    refine codeAny_call_function dep (inK _ _ lk) rfl S.co S.gen rfl (PySem.W.codeRec_of inK hcd) (hb _ _ _ _ ?_)
    refine wpAny_newFunctionEnv_cells S.kind kinds fun env he s1 x => ?_
    subst he
    refine ⟨noL.keeps x.toInCall.keep, codeAny_func ?_⟩
    obtain ⟨t, ht, hq⟩ := hbody outer s H vs Q E hsp
    have I : Inv (cxOf CX P w K mg base N qual scope f cdv A outer s H E) [] (start N vs) H s1 := inv_start S hh e0 (len _ _ _ _ hsp) hv x
    refine wpAny_mono (ht.run [] s1 (start N vs) H _ I hq) (fun fl s' hs => ?_) fun e s' hs => hs
    match fl, hs with
    | .ret u, ⟨v, σ', H', J, rv, q⟩ => exact ⟨v, H', J.os, J.bare, J.base, J.hok, rv, q⟩
    | .next, ⟨σ', H', J, q⟩ => exact ⟨V.non, H', J.os, J.bare, J.base, J.hok, rfl, q⟩
    | .brk, ⟨_, _, _, q⟩ => exact q.elim
    | .cont, ⟨_, _, _, q⟩ => exact q.elim
/-- .. of a def that stands behind the top -/
theorem fnG_of {x qual : Str} {params : Arguments} {body : List Stmt} {scope : Scope} {dvs : List V} {kws : List (Str × V)} {N : List Str} (F : FunD K x qual params body scope dvs kws f fd) (S : FnScope N ps scope) (len : ∀ vs H Q E, sp vs H Q E → vs.length = ps.length)
    (hbody : ∀ (cdv : Value) (A : Around) (outer : List Env) (s : Shared) (H : Hp) (vs : List V) (Q : VK) (E : XK), A.guards = some [] → Room k (A.deeper (envOfC qual scope s.heap.objs.size f cdv)) → sp vs H Q E →
      ∃ t, PSs (cxOf CX P w K mg base N qual scope f cdv A outer s H E) body t ∧ t { nx := fun _ H' => Q .non H', rt := Q } (start N vs) H) : FnG P w K mg base CX (k + 1) f fd ps sp := by
  intro A hg hr
  obtain ⟨oc, od, dV, kV, doc, pm, an, cdv, ct, osl, rfl, lk, hcd, _, _⟩ := F.ex
  exact fnAt_of lk hcd S hr.depth hr.hd len fun outer s H vs Q E hsp => hbody cdv A outer s H vs Q E hg (hr.deeper _) hsp
end

section
variable {X : Cx} {CX : CXT} {k : Nat} {f C : Addr} {fd : FuncData} {ps : List Str} {sp : Sp} {dvs : List V} {ds : List Value} {E : XK} {x m : Str} {p pos apos : Pos} {e o : Expr} {es : List Expr} {ta : TE} {t : TA}
theorem run_at {pins : List (Addr × Obj)} {σ : L2.St} {H : Hp} {s : Shared} {Q : VK} {us : List Value} {vs : List V} (F : FnAt X.prog X.w X.K X.mg X.base CX X.A f fd ps sp) (hb : Binds X.K fd ps ds) (hd : Vals dvs ds) (hx : Passes CX X E)
    (I : Inv X pins σ H s) (r : Vals vs us) (h : sp (vs ++ dvs) H Q E) : wpAny (model X.prog X.w) X.A (call (.ref f) us) (EP X pins σ Q) X.xe s := by
  have rr : Vals (vs ++ dvs) (us ++ ds) := r.append hd
  have ll : (us ++ ds).length = ps.length := by rw [← rr.length]; exact F.len _ _ _ _ h
  refine wpAny_call (codeAny_mono (F.run X.stack s H ⟨us, []⟩ (us ++ ds) (vs ++ dvs) Q E I.env0 (hb s us I.kIn ll) rr h) fun z s' hz => ?_)
  match z, hz with
  | .error e, hz => exact hx pins σ H s e s' I hz
  | .ok (.ret u), hz => exact I.after hz
  | .ok .next, hz => exact hz.elim
  | .ok .brk, hz => exact hz.elim
  | .ok .cont, hz => exact hz.elim
/-- f(e, ..), f's promise at these surroundings -/
theorem pe_callA (F : FnAt X.prog X.w X.K X.mg X.base CX X.A f fd ps sp) (hg : Gl X x) (hm : X.mg x = some (.ref f)) (hk : PySem.W.keepIn X.K (.ref f) = true) (hb : Binds X.K fd ps ds) (hd : Vals dvs ds) (hx : Passes CX X E)
    (ha : PA X (e :: es) t) (hdb : (x == ("__debug__" : Str)) = false := by decide) (he : starEach (e :: es) X.env = (false, eval e X.env) :: starEach es X.env := by rfl) (hpl : (backTo pos (starEach es X.env)).any (·.1) = false := by rfl) :
    PE X (.Call (.Name x p) (e :: es) [] pos) (tCall sp dvs E t) := by
  constructor
  intro pins s σ H Q I h
  refine wpAny_Call_Name_kw (ld_glob I hg hm ?_ hdb)
  exact PySem.W.callWith_K (h₀ := X.base) I.ok.mod.kin hk (thn (ha.run pos pins s σ H _ I h) fun us s1 ⟨vs, H1, I1, r, q⟩ => ⟨I1.kIn, run_at F hb hd hx I1 r q⟩) he hpl
/-- f() -/
theorem pe_callA0 (F : FnAt X.prog X.w X.K X.mg X.base CX X.A f fd ps sp) (hg : Gl X x) (hm : X.mg x = some (.ref f)) (hk : PySem.W.keepIn X.K (.ref f) = true) (hb : Binds X.K fd ps ds) (hd : Vals dvs ds) (hx : Passes CX X E)
    (hdb : (x == ("__debug__" : Str)) = false := by decide) : PE X (.Call (.Name x p) [] [] pos) (tCall sp dvs E tNil) := by
  constructor
  intro pins s σ H Q I h
  refine wpAny_Call_Name_kw (ld_glob I hg hm ?_ hdb)
  exact PySem.W.callWith_K0 I.kIn hk (run_at (us := []) F hb hd hx I .nil h)
end

/-! ### own errors -/
/-- what of DrawError's class is asked where its __init__ is read off it -/
structure DErr (K : PySem.W.Frag) (mg : Str → Option Value) (D : Addr) : Prop where
  gD : mg "DrawError" = some (.ref D)
  rd : PySem.W.readsIn K D (.type "type") = true
  ga : PySem.W.specialIn K (.ref D) "__getattribute__" = some (some (.builtin "type.__getattribute__"))
  ini : PySem.W.findCls K (.ref D) (.type "type") "__init__" = some (.val (.builtin "ValueError.__init__"))
/-- a method's call whose name and brackets stand on one row -/
theorem meth_row {o : Expr} {name : Str} {apos pos : Pos} {args : List Expr} {env : Env} (hb : attributeBase o name env (eval o env) = eval o env) (hf : methodCallForm (args.length + 0) (backTo pos (starEach args env)) (backToKw pos (keywordEach [] env)) = true)
    (hl : (apos.endLine == pos.line) = true) : eval (.Call (.Attribute o name apos) args [] pos) env = (do
      let ov ← eval o env
      standAt apos.atName
      let (f, first) ← holding [ov] (getMethod ov name (do return (← importBound o env).getD true))
      callWith pos f first (backTo pos (starEach args env)) (backToKw pos (keywordEach [] env))) := by
  show (do
    let ov ← attributeBase o name env (eval o env)
    standAt apos.atName
    methodCall o name apos pos env ov (args.length + 0) (backTo pos (starEach args env)) (backToKw pos (keywordEach [] env))) = _
  rw [hb]
  unfold methodCall calleeOf methodCallPos
  rw [hf]
  simp only [hl, if_true, Bool.not_true, Bool.false_or, pure_bind]
section
variable {X : Cx} {D : Addr} {e : Expr} {es : List Expr} {ta : TA} {p1 p2 pos : Pos}
/-- DrawError.__init__(self, ..) -/
theorem pe_dinit {pl : Sem Bool} (T : DErr X.K X.mg D) (hg : Gl X "DrawError") (ha : PA X (e :: es) ta)
    (hc : eval (.Call (.Attribute (.Name "DrawError" p1) "__init__" p2) (e :: es) [] pos) X.env = (do
      let ov ← eval (.Name "DrawError" p1) X.env
      standAt p2.atName
      let (f, first) ← holding [ov] (getMethod ov "__init__" pl)
      callWith pos f first (backTo pos (starEach (e :: es) X.env)) (backToKw pos (keywordEach [] X.env))) := by rfl)
    (he : starEach (e :: es) X.env = (false, eval e X.env) :: starEach es X.env := by rfl) (hpl : (backTo pos (starEach es X.env)).any (·.1) = false := by rfl) :
    PE X (.Call (.Attribute (.Name "DrawError" p1) "__init__" p2) (e :: es) [] pos) (tVeI X.K ta) := by
  constructor
  intro pins s σ H Q I h
  refine PySem.W.methodCall_KW (ld_glob I hg T.gD ?_ (by decide)) hc
  refine PySem.W.method_cls I.kIn T.ga (PySem.W.cls_value I.kIn T.rd T.ini (by rfl) ?_)
  show wpAny _ _ (callWith pos (Value.builtin "ValueError.__init__") [] (backTo pos (starEach (e :: es) X.env)) []) _ _ _
  refine PyProof.Rows.callWith_method1 (thn (ha.run pos pins _ σ H _ (I.tok _) h) fun us s1 ⟨vs, H1, I1, r1, hh⟩ => ?_) he hpl
  obtain ⟨a, C, ws, rfl, hl, T', ea, q⟩ := hh
  cases r1 with
  | cons ra rw' =>
    cases ra
    exact oinit_ok T' I1 ea (by rw [← Paired.length rw', sizeLine_eq]; omega) fun s' J => ⟨.non, H1, J, rfl, q⟩
end

/-- the body of an error's __init__ with one value, and with none -/
abbrev errBody (msg fld : Str) (p1 p2 p3 p4 p5 p6 p7 p8 p9 p10 : Pos) (k : Nat) : List Stmt :=
  [.Expr (.Call (.Attribute (.Name "DrawError" p1) "__init__" p2) [.Name "self" p3, .Constant (.str msg) k p4] [] p5) p6,
   .Assign [.Attribute (.Name "self" p7) fld p8] (.Name fld p9) p10]
abbrev errBody0 (msg : Str) (p1 p2 p3 p4 p5 p6 : Pos) (k : Nat) : List Stmt :=
  [.Expr (.Call (.Attribute (.Name "DrawError" p1) "__init__" p2) [.Name "self" p3, .Constant (.str msg) k p4] [] p5) p6]
/-- its promise: behind it the value stands in the error's own dict -/
def spErr (K : PySem.W.Frag) (C : Addr) (fld : Str) : Sp := fun vs H Q _ => ∃ (a : Addr) (v : V), vs = [.ref a, v] ∧ H a = some (exo a C none) ∧
  ∀ d, H d = none → d ≠ a → Q .non (upd (upd H d (exd d [(fld, v)])) a (exo a C (some d)))
def spErr0 (C : Addr) : Sp := fun vs H Q _ => ∃ a : Addr, vs = [.ref a] ∧ H a = some (exo a C none) ∧ Q .non H
/-- the scope of such an __init__ -/
def scErr (fld : Str) : Scope := { kind := .function, names := [(Str.ofString "self", .local), (fld, .local), (Str.ofString "DrawError", .globalImplicit)], isGenerator := false, isCoroutine := false, more := [] }
def scErr0 : Scope := { kind := .function, names := [(Str.ofString "self", .local), (Str.ofString "DrawError", .globalImplicit)], isGenerator := false, isCoroutine := false, more := [] }
theorem scErr_ok {fld : Str} (h : (fld == ("self" : Str)) = false) : FnScope ["self", fld] ["self", fld] (scErr fld) := by
  have h2 : fld ≠ ("self" : Str) := beq_eq_false_iff_ne.mp h
  refine ⟨rfl, rfl, rfl, ?_, rfl, fun y hy => ?_, fun y hy => ?_⟩
  · exact List.nodup_cons.mpr ⟨by simpa using fun e => h2 e.symm, by simp⟩
  · simp only [List.mem_cons, List.not_mem_nil, or_false] at hy
    rcases hy with e | e
    · exact .inl (by rw [e]; rfl)
    · exact .inl (by subst e; simp only [scErr, List.lookup, h, beq_self_eq_true])
  · simp only [scErr, List.mem_cons, List.not_mem_nil, or_false] at hy
    rcases hy with e | e | e <;> (rw [e]; intro z; cases z)
theorem scErr0_ok : FnScope ["self"] ["self"] scErr0 := ⟨rfl, rfl, rfl, by decide +kernel, rfl, by decide +kernel, by decide +kernel⟩
section
variable {CX : CXT} {P : Program} {w : World} {K : PySem.W.Frag} {mg : Str → Option Value} {base : Heap} {f C D : Addr} {fd : FuncData} {x qual : Str} {pa : Arguments} {bd : List Stmt} {sc : Scope} {msg fld : Str} {p1 p2 p3 p4 p5 p6 p7 p8 p9 p10 : Pos} {kk : Nat}
theorem ok_err (F : FunD K x qual pa bd sc [] [] f fd) (hb : bd = errBody msg fld p1 p2 p3 p4 p5 p6 p7 p8 p9 p10 kk) (hs : sc = scErr fld) (hself : (fld == ("self" : Str)) = false) (hdr : (("DrawError" : Str) == fld) = false)
    (hl : (p2.endLine == p5.line) = true) (hd : (fld == ("__debug__" : Str)) = false) (hcd : (fld == ("__classdict__" : Str)) = false)
    (T : DErr K mg D) (O : OexC K C) (hno : PySem.W.findIn K (.ref C) fld = some none) : FnOk P w K mg base CX 1 f fd ["self", fld] (spErr K C fld) := by
  subst hs
  have hg : (scErr fld).names.lookup ("DrawError" : Str) = some .globalImplicit := by
    simp only [scErr, List.lookup, hdr]
    rfl
  have h1 : (scErr fld).names.lookup fld = some .local := by simp only [scErr, List.lookup, hself, beq_self_eq_true]
  refine F.ok (scErr_ok hself) (fun vs H Q E h => ?_) (fun cdv A outer s H vs Q E hr h => ?_)
  · obtain ⟨a, v, rfl, _⟩ := h
    rfl
  · obtain ⟨a, v, rfl, ha, k⟩ := h
    rw [hb]
    refine ⟨_, pss_cons (ps_expr (pe_dinit T hg (pa_cons (pe_var (i := 0) rfl (Or.inl rfl)) (pa_cons pe_str pa_nil)) (meth_row rfl rfl hl)))
      (pss_one (ps_ost (pe_var (i := 0) rfl (Or.inl rfl)) (pe_var (i := 1) rfl (Or.inl h1) hd hcd))), ?_⟩
    refine ⟨_, rfl, a, C, _, rfl, (by show 1 ≤ 1000; decide), O, ha, ?_⟩
    exact ⟨_, rfl, _, rfl, a, C, rfl, O, hno, Or.inl ⟨ha, k⟩⟩
theorem ok_err0 (F : FunD K x qual pa bd sc [] [] f fd) (hb : bd = errBody0 msg p1 p2 p3 p4 p5 p6 kk) (hs : sc = scErr0) (hl : (p2.endLine == p5.line) = true) (T : DErr K mg D) (O : OexC K C) : FnOk P w K mg base CX 1 f fd ["self"] (spErr0 C) := by
  subst hs
  refine F.ok scErr0_ok (fun vs H Q E h => ?_) (fun cdv A outer s H vs Q E hr h => ?_)
  · obtain ⟨a, rfl, _⟩ := h
    rfl
  · obtain ⟨a, rfl, ha, k⟩ := h
    rw [hb]
    refine ⟨_, pss_one (ps_expr (pe_dinit T rfl (pa_cons (pe_var (i := 0) rfl (Or.inl rfl)) (pa_cons pe_str pa_nil)) (meth_row rfl rfl hl))), ?_⟩
    exact ⟨_, rfl, a, C, _, rfl, (by show 1 ≤ 1000; decide), O, ha, k⟩
end
end J

set_option Elab.async false
set_option linter.all false
set_option maxRecDepth 100000
set_option maxHeartbeats 4000000
/-! J2: repr of data, own errors as values, isinstance, a field of an error that is held as a value. -/
namespace J
open PySem PySem.Spec PyProof.Rows L2

/-! ### repr -/
def kD : Key → PyData
  | .inl i => .int i
  | .inr x => .str x
/-- a plain value as data -/
def sD : V → PyData
  | .bl b => .bool b
  | .int i => .int i
  | .str x => .str x
  | _ => .none
def isS : V → Bool
  | .non => true
  | .bl _ => true
  | .int _ => true
  | .str _ => true
  | _ => false
theorem sD_reads {h : Heap} {v : V} {u : Value} (r : RelV v u) (hs : isS v = true) : Reads h u (sD v) [] := by
  cases v with
  | non => cases r; exact Reads.none
  | bl b => cases r; exact Reads.bool b
  | int i => obtain ⟨t, rfl⟩ := r; exact Reads.int i t
  | str x => obtain ⟨t, rfl⟩ := r; exact Reads.str x t
  | _ => cases hs
theorem kD_reads {P : Program} {w : World} {h : Heap} {k : Key} {u : Value} (r : (mixKind P w).is k u = true) : Reads h u (kD k) [] := by
  rcases keyIs_shape r with ⟨i, t, rfl, rfl⟩ | ⟨x, t, rfl, rfl⟩
  · exact Reads.int i t
  · exact Reads.str x t
theorem pairs_reads {P : Program} {w : World} {h : Heap} : ∀ {es : List DictEntry} {vs : List (Key × Value)} {kvs : List (Key × V)}, Pairs (mixKind P w) es vs → KV kvs vs → (∀ p ∈ kvs, isS p.2 = true) →
    ReadsAll h (es.map (·.key)) (kvs.map fun p => kD p.1) [] ∧ ReadsAll h (es.map (·.val)) (kvs.map fun p => sD p.2) []
  | _, _, _, .nil, .nil, _ => ⟨ReadsAll.nil, ReadsAll.nil⟩
  | _, _, _, .cons (kv := kv) h1 h2 hp, .cons (a := p) r rr, hs => by
    obtain ⟨i1, i2⟩ := pairs_reads (h := h) hp rr fun q hq => hs q (List.mem_cons_of_mem _ hq)
    refine ⟨?_, ?_⟩
    · have e : p.1 = kv.1 := r.1
      exact ReadsAll.cons (as := []) (by show Reads h _ (kD p.1) []; rw [e]; exact kD_reads h1) i1
    · have rv := r.2
      rw [← h2] at rv
      exact ReadsAll.cons (as := []) (sD_reads rv (hs p List.mem_cons_self)) i2
def dictD (kvs : List (Key × V)) : PyData := .dict (kvs.map fun p => (kD p.1, sD p.2))
section
variable {X : Cx}
/-- repr of data that is tracked: no dict in it, or a dict of plain values; where nothing is being shown -/
def rRepr (K : PySem.W.Frag) : List V → Hp → VK → Prop := fun xs H Q => ∃ (v : V) (d : PyData), xs = [v] ∧ ((Dp K H v d ∧ d.hasDict = false) ∨ ∃ (a : Addr) (kvs : List (Key × V)), v = .ref a ∧ H a = some (.dK kvs) ∧ (∀ p ∈ kvs, isS p.2 = true) ∧ d = dictD kvs) ∧
  d.showable = true ∧ d.depth ≤ 40 ∧ d.shown.length ≤ sizeLine ∧ Q (.str d.shown) H
theorem call_repr (hg : X.A.guards = some []) (hu : X.A.units + 60 < cLine) : CallR X (.builtin "repr") (rRepr X.K) := by
  intro pins s σ H xs us Q I r h
  obtain ⟨v, d, rfl, hd, h1, h3, h4, q⟩ := h
  obtain ⟨u, rfl, rx⟩ := vals1 r
  rcases hd with ⟨hd, h2⟩ | ⟨a, kvs, rfl, ha, hs, rfl⟩
  · cases hd with
    | non =>
      cases rx
      exact PySem.P.repr_of_none ⟨.str _, H, I.tok _, ⟨_, rfl⟩, q⟩
    | bl b =>
      cases rx
      cases b <;> exact PySem.P.repr_of_bool ⟨.str _, H, I.tok _, ⟨_, rfl⟩, q⟩
    | int i =>
      obtain ⟨t, rfl⟩ := rx
      exact PySem.P.repr_of_int (by simpa [PyData.showable] using h1) ⟨.str _, H, I.tok _, ⟨_, rfl⟩, q⟩
    | str x =>
      obtain ⟨t, rfl⟩ := rx
      exact PySem.P.repr_of_str ⟨.str _, H, I.tok _, ⟨_, rfl⟩, q⟩ h4
    | lst hs ha =>
      cases rx
      obtain ⟨as, rd⟩ := Dp.reads I _ _ _ (.lst hs ha) rfl
      exact repr_of_reads' rd h1 (fun z => by rw [h2] at z; cases z) hg (by omega) (fun _ _ z => z) (fun h' u tk k => ⟨.str _, H, I.kept k, ⟨_, rfl⟩, q⟩) h4
    | tup hs ha =>
      cases rx
      obtain ⟨as, rd⟩ := Dp.reads I _ _ _ (.tup hs ha) rfl
      exact repr_of_reads' rd h1 (fun z => by rw [h2] at z; cases z) hg (by omega) (fun _ _ z => z) (fun h' u tk k => ⟨.str _, H, I.kept k, ⟨_, rfl⟩, q⟩) h4
  · cases rx
    obtain ⟨_, hsys, vs, rkv, o, es, ep, ho, hex, hda, _, hp, _⟩ : kvs.length ≤ sizeLine ∧ (a == sysModules) = false ∧ ∃ vs, KV kvs vs ∧ s.heap.DictOf (mixKind X.prog X.w) a vs := I.hok a _ ha
    obtain ⟨k1, k2⟩ := pairs_reads (h := s.heap) hp rkv hs
    have rd : Reads s.heap (.ref a) (dictD kvs) (a :: [] ++ []) := by
      refine Reads.dict ho hex.1 hda ?_ ?_
      · rw [List.map_map]; exact k1
      · rw [List.map_map]; exact k2
    refine repr_of_reads' rd h1 (fun _ hm => ?_) hg (by omega) (fun _ _ z => z) (fun h' u tk k => ⟨.str _, H, I.kept k, ⟨_, rfl⟩, q⟩) h4
    have e : sysModules = a := by simpa using hm
    rw [e] at hsys
    simp at hsys
end

/-! ### isinstance of an error that is held as a value -/
/-- at e stands an error of the class at C, its own dict at d -/
def ErrO (H : Hp) (e C : Addr) : Prop := ∃ d : Option Addr, H e = some (exo e C d) ∧ ∀ dd, d = some dd → ∃ fs, H dd = some (exd dd fs)
def ErrF (H : Hp) (e C : Addr) (f : Str) (v : V) : Prop := ∃ d : Addr, H e = some (exo e C (some d)) ∧ H d = some (exd d [(f, v)])
theorem ErrF.o {H : Hp} {e C : Addr} {f : Str} {v : V} (h : ErrF H e C f v) : ErrO H e C := by
  obtain ⟨d, h1, h2⟩ := h
  exact ⟨some d, h1, fun dd q => by cases q; exact ⟨_, h2⟩⟩
theorem ErrF.ext {H H' : Hp} {e C : Addr} {f : Str} {v : V} (h : ErrF H e C f v) (k : Same H H') : ErrF H' e C f v := by
  obtain ⟨d, h1, h2⟩ := h
  exact ⟨d, k _ _ h1, k _ _ h2⟩
theorem ErrO.ext {H H' : Hp} {e C : Addr} (h : ErrO H e C) (k : Same H H') : ErrO H' e C := by
  obtain ⟨d, h1, h2⟩ := h
  exact ⟨d, k _ _ h1, fun dd q => let ⟨fs, z⟩ := h2 dd q; ⟨fs, k _ _ z⟩⟩
section
variable {X : Cx} {pins : List (Addr × Obj)} {σ : L2.St} {H : Hp} {s : Shared} {e C : Addr}
theorem err_inst (I : Inv X pins σ H s) (h : ErrO H e C) : ∃ ox od, PySem.W.InstAt s.heap e ox C od := by
  obtain ⟨d, h1, h2⟩ := h
  obtain ⟨t1, ho⟩ := exo_at I.hok h1
  cases d with
  | none => exact ⟨_, none, ho, rfl, rfl, trivial⟩
  | some dd =>
    obtain ⟨fs, h3⟩ := h2 dd rfl
    obtain ⟨mA, ⟨o, es, ep, hod, _⟩, _⟩ := exd_at I.hok h3
    exact ⟨_, some o, ho, rfl, rfl, hod⟩
/-- isinstance(e, c): e an error, c a class -/
def rIsX (K : PySem.W.Frag) : List V → Hp → VK → Prop := fun xs H Q => ∃ (e C : Addr) (c : V) (cv : Value) (b : Bool), xs = [.ref e, c] ∧ ErrO H e C ∧ ExcC K C ∧ (∀ u, RelV c u → u = cv) ∧ PySem.W.kitOne K (.ref C) cv = some b ∧ Q (.bl b) H
theorem call_isX : CallR X (.builtin "isinstance") (rIsX X.K) := by
  intro pins s σ H xs us Q I r h
  obtain ⟨e, C, c, cv, b, rfl, he, T, hcv, hb, q⟩ := h
  obtain ⟨u1, u2, rfl, r1, r2⟩ := vals2 r
  cases r1
  cases hcv _ r2
  obtain ⟨ox, od, J⟩ := err_inst I he
  have hcl : (PySem.W.clsIn X.K C).isSome = true := by
    obtain ⟨cd, hc, _⟩ := PySem.W.any_some T.hd
    rw [hc]
    rfl
  exact PySem.W.kia_one (PySem.W.kitx_exc hcl T.hg T.hk T.hs T.ha T.hn T.ht T.hm) I.kIn J hb (fun z => nomatch z) fun tk => ⟨.bl b, H, I.tok tk, rfl, q⟩
/-- e.f: e an error -/
def tErrF (K : PySem.W.Frag) (ta : TE) (f : Str) : TE := fun σ H Q => ta σ H fun x H1 => ∃ (e C : Addr) (v : V), x = .ref e ∧ ErrF H1 e C f v ∧ XfC K C ∧ PySem.W.findIn K (.ref C) f = some none ∧ Q v H1
theorem pe_errF {ex : Expr} {te : TE} {f : Str} {pos : Pos} (he : PE X ex te) (hb : attributeBase ex f X.env (eval ex X.env) = eval ex X.env := by rfl) : PE X (.Attribute ex f pos) (tErrF X.K te f) := by
  constructor
  intro pins s σ H Q I h
  refine attr_of hb (thn (he.run pins s σ H _ I h) fun u s1 ⟨x, H1, I1, r1, hh⟩ => ?_)
  obtain ⟨e, C, v, rfl, ⟨d, h1, h2⟩, T, hno, q⟩ := hh
  cases r1
  obtain ⟨t1, ho⟩ := exo_at I1.hok h1
  obtain ⟨mA, hns, hr⟩ := exd_at I1.hok h2
  obtain ⟨od, hod, hl⟩ := lookIn_ns hns
  obtain ⟨u, hu, ru⟩ := RelO.some_of (v := v) (o := mA f) (by have z := hr f; simpa [List.lookup] using z)
  have J : PySem.W.InstAt s1.heap e _ C (some od) := ⟨ho, rfl, rfl, hod⟩
  exact HandSPX.exc_get I1.kIn J T.ga T.gg T.exC (PySem.W.findObj_own T.hdC hno rfl (by rw [hl, hu])) (handed_of ru) ⟨v, H1, I1.tok _, ru, q⟩
end
end J

set_option Elab.async false
set_option linter.all false
set_option maxRecDepth 100000
set_option maxHeartbeats 4000000
/-! J3: own errors made as values, by position and by name. -/
namespace PySem
namespace HandSPX
section
variable {M : Model} {A : Around} {E : Value → Shared → Prop} {h : Heap} {g : Array GenState} {d : Drawn} {t : Nat} {os : OsState}
variable {nm q : Str} {C N : Addr} {bs bm bmB : List Value} {hdct : Bool} {sn : List Str} {sub : List Value} {ab : Bool} {col : Option Bool} {dd : Option Addr} {k0 k1 k2 k3 k5 : Option Value} {B newId initId : String} {kw : List (Str × Value)}
theorem kwj_check (F : ExcBaseFacts B newId initId bmB) (hT : ∀ X : String, bm.contains (.type X) = bmB.contains (.type X)) {rest : List Value} {Q : Unit → Shared → Prop}
    (hC : h.get? C = some (excClassObj nm q C N bs bm hdct sn sub ab col dd k0 k1 k2 k3 k5 newId)) (hq : Q () ⟨h, g, d, t, os⟩) : wpAny M A (checkBuiltinCall newId ⟨.ref C :: rest, kw⟩) Q E ⟨h, g, d, t, os⟩ := by
  have has : (Value.ref C :: bm).contains (.type B) = true := by rw [List.contains_cons, hT, F.hasB, Bool.or_true]
  have hst := F.noStar
  simp only [checkBuiltinCall, F.newKind, F.newSplit, F.newRow]
  repeat (first | refine wpAny_loadPart_at hC ?_ | (refine wpAny_isSubtype_exc hC ?_; rw [has]) | refine wpAny_staticBase_exc hC ?_ | refine wpAny_madeBy_exc hC ?_ | simp only [bne_self_eq_false, Bool.false_eq_true, if_false] | wp_step)
  exact hq
end
section
variable {prog : Program} {w : World} {A : Around} {E : Value → Shared → Prop} {R : Result → Shared → Prop} {h : Heap} {g : Array GenState} {d : Drawn} {t : Nat} {os : OsState}
variable {nm q : Str} {C N : Addr} {bs bm bmB : List Value} {hdct : Bool} {sn : List Str} {sub : List Value} {ab : Bool} {col : Option Bool} {dd : Option Addr} {k0 k1 k2 k3 k5 : Option Value} {B newId initId : String} {kw : List (Str × Value)}
theorem kwj_new (F : ExcBaseFacts B newId initId bmB) (hT : ∀ X : String, bm.contains (.type X) = bmB.contains (.type X)) {rest : List Value}
    (hC : h.get? C = some (excClassObj nm q C N bs bm hdct sn sub ab col dd k0 k1 k2 k3 k5 newId))
    (hq : R (.ok (.ret (.ref (h.objs.size + 1)))) ⟨(h.push (W.kdv_tup rest)).push (excO C h.objs.size), g, d, t, os⟩) (hrest : rest.length ≤ sizeLine) :
    codeAny (model prog w) A (.builtin newId ⟨.ref C :: rest, kw⟩) R ⟨h, g, d, t, os⟩ := by
  have ends := F.ends
  have hB : (Value.ref C :: bm).contains (.type B) = true := by rw [List.contains_cons, hT, F.hasB, Bool.or_true]
  have hA : (Value.ref C :: bm).contains (.type "AttributeError") = false := by rw [List.contains_cons, hT, F.noAttr]; rfl
  have hN : (Value.ref C :: bm).contains (.type "NameError") = false := by rw [List.contains_cons, hT, F.noName]; rfl
  refine codeAny_builtinAt F.entry ?_
  unfold Builtin.«BaseException.__new__»
  refine wpAt_bind ?_
  show wpAt _ _ _ (stack >>= _) _ _ _
  refine wpAt_bind (wpAt_stack fun p below => wpAt_of_wpAny ?_)
  wp_walk
  refine wpAt_of_wpAny ?_
  rw [F.owner]
  repeat (first | with_reducible refine wpAny_madeHere_exc F.canon hC ?_ | with_reducible refine wpAny_loadPart_at hC ?_ | (with_reducible refine wpAny_isSubtype_exc hC ?_; first | rw [hB] | rw [hA] | rw [hN]) | wp_step)
  show R _ _
  rw [Heap.size_push]
  exact hq
theorem kwj_type_call (F : ExcBaseFacts B newId initId bmB) (hT : ∀ X : String, bm.contains (.type X) = bmB.contains (.type X)) {rest : List Value} {fI : Addr} {Q : Fin → Shared → Prop}
    (hC : h.get? C = some (excClassObj nm q C N bs bm hdct sn sub ab col dd k0 k1 k2 k3 k5 newId))
    (hi : W.Looks (model prog w) h (typeLookup (.ref C) "__init__") (some (.ref fI))) (hb : ∀ self, W.Looks (model prog w) h (bindSpecial (.ref fI) self) (.ref fI, [self])) (hrest : rest.length ≤ sizeLine)
    (hq : codeAny (model prog w) A (.call (.ref fI) ⟨.ref (h.objs.size + 1) :: rest, kw⟩)
      (fun r s' => match r with | .ok (.ret v) => v = .none ∧ Q (.done (.ret (.ref (h.objs.size + 1)))) s' | .ok _ => False | .error e => E e s')
      ⟨(h.push (W.kdv_tup rest)).push (excO C h.objs.size), g, d, t, os⟩) :
    wpAny (model prog w) A (Builtin.«type.__call__» ⟨.ref C :: rest, kw⟩) Q E ⟨h, g, d, t, os⟩ := by
  repeat (first | with_reducible refine wpAny_loadPart_at hC ?_ | with_reducible refine wpAny_madeBy_exc hC ?_ | wp_step)
  refine codeAny_call_builtin_code (Code.quiet_builtin _ F.quiet) (kwj_check F hT hC ?_)
  refine kwj_new F hT hC ?_ hrest
  show wpAny _ _ _ _ _ _
  have k : ∀ b o, h.get? b = some o → ((h.push (W.kdv_tup rest)).push (excO C h.objs.size)).get? b = some o := fun b o e => Heap.get?_push_of_some _ (Heap.get?_push_of_some _ e)
  have hC2 := k _ _ hC
  have got : ((h.push (W.kdv_tup rest)).push (excO C h.objs.size)).get? (h.objs.size + 1) = some (excO C h.objs.size) := by heap_get
  have hcC : (Value.ref C :: bm).contains (.ref C) = true := by simp
  have i1 := hi.keeps k
  have b1 := (hb (.ref (h.objs.size + 1))).keeps k
  unfold isInstance
  repeat (first | with_reducible refine wpAny_loadPart_at got ?_ | (with_reducible refine wpAny_isSubtype_exc hC2 ?_; rw [hcC]) | wp_step)
  show wpAny _ _ (typeLookup (.ref C) _) _ _ _
  refine i1.at ?_
  refine wpAny_holding (wpAny_bind (b1.at ?_))
  refine wpAny_bind (wpAny_call (codeAny_mono hq fun r s' z => ?_))
  rcases r with e | (v | _ | _ | _) <;> first | exact z | exact z.elim | skip
  obtain ⟨rfl, z⟩ := z
  first
    | exact wpAny_pure (wpAny_pure z)
    | (wp_walk; exact z)
theorem kwj_call (F : ExcBaseFacts B newId initId bmB) (hT : ∀ X : String, bm.contains (.type X) = bmB.contains (.type X)) {rest : List Value} {fI : Addr}
    (hC : h.get? C = some (excClassObj nm q C N bs bm hdct sn sub ab col dd k0 k1 k2 k3 k5 newId))
    (hi : W.Looks (model prog w) h (typeLookup (.ref C) "__init__") (some (.ref fI))) (hb : ∀ self, W.Looks (model prog w) h (bindSpecial (.ref fI) self) (.ref fI, [self])) (hrest : rest.length ≤ sizeLine)
    (hq : codeAny (model prog w) (A.under (.builtin "type.__call__" ⟨.ref C :: rest, kw⟩)) (.call (.ref fI) ⟨.ref (h.objs.size + 1) :: rest, kw⟩) (W.InitBack (h.objs.size + 1) R)
      ⟨(h.push (W.kdv_tup rest)).push (excO C h.objs.size), g, d, t, os⟩) :
    codeAny (model prog w) A (.call (.ref C) ⟨rest, kw⟩) R ⟨h, g, d, t, os⟩ := by
  have f1 := tc_lookup
  have f2 := tc_bind (.ref C)
  have hTy : (⟨h, g, d, t, os⟩ : Shared).TypeIs (.ref C) "type" := ⟨_, hC, rfl⟩
  refine codeAny_of_tree ?_
  show wpAny _ _ (callAny (.ref C) _) _ _ _
  repeat (any_goals (first | assumption | with_reducible refine wpAny_loadPart_at hC ?_ | wp_step))
  refine ⟨rfl, ?_⟩
  refine codeAny_call_builtin_at (Code.quiet_builtin _ (by decide +kernel)) entry_typeCall (wpAny_check_type_call_sub hC (kwj_type_call F hT hC hi hb hrest ?_))
  refine codeAny_mono hq fun r s' z => ?_
  rcases r with e | (v | _ | _ | _) <;> exact z
end
end HandSPX
end PySem
namespace J
open PySem PySem.Spec PyProof.Rows L2
/-- what K says of an own error class C and of its __init__ at fI -/
structure ErrC (K : PySem.W.Frag) (C fI : Addr) : Prop where
  oex : OexC K C
  ini : PySem.W.findIn K (.ref C) "__init__" = some (some (.ref fI))
  fn : PySem.W.typeIn K (.ref fI) = some (.type "function")
/-- C(..) by its __init__'s promise: a new error -/
def tErr (C : Addr) (sp : Sp) (ta : TA) : TE := fun σ H Q => ta σ H fun vs H1 => vs.length ≤ 1000 ∧ ∀ a, H1 a = none → sp (.ref a :: vs) (upd H1 a (exo a C none)) (fun v H2 => v = .non ∧ Q (.ref a) H2) E0
/-- C(f = e) -/
def tErrK (C : Addr) (sp : Sp) (te : TE) : TE := fun σ H Q => tCons te tNil σ H fun vs H1 => ∃ v, vs = [v] ∧ ∀ a, H1 a = none → sp [.ref a, v] (upd H1 a (exo a C none)) (fun v H2 => v = .non ∧ Q (.ref a) H2) E0
section
variable {X : Cx} {C fI : Addr} {k : Nat} {fd : FuncData} {ps : List Str} {sp : Sp} {x : Str} {p pos kp : Pos} {e : Expr} {es : List Expr} {ta : TA} {te : TE} {nm : Str}
theorem run_err {pins : List (Addr × Obj)} {σ : L2.St} {H : Hp} {s : Shared} {Q : VK} {us : List Value} {vs : List V} {kw : List (Str × Value)} {ws : List Value} (T : ErrC X.K C fI) (F : FnOk X.prog X.w X.K X.mg X.base CX0 k fI fd ps sp) (hr : Room (k + 1) X.A)
    (I : Inv X pins σ H s) (hz : us.length ≤ 1000) (r : ∀ a, Vals (.ref a :: vs) (.ref a :: ws))
    (hb : ∀ (a : Addr) (s' : Shared), X.K.In s'.heap → (Value.ref a :: ws).length = ps.length → BindsTo s' fd ⟨.ref a :: us, kw⟩ (ps.zip (.ref a :: ws)))
    (h : ∀ a, H a = none → sp (.ref a :: vs) (upd H a (exo a C none)) (fun v H2 => v = .non ∧ Q (.ref a) H2) E0) :
    wpAny (model X.prog X.w) X.A (call (.ref C) us kw) (EP X pins σ Q) X.xe s := by
  obtain ⟨nm, q, N, bs, bm, sn, sub, ab, col, dd, k0, k1, k2, k3, k5, hC, hbm⟩ := T.oex.cls
  obtain ⟨hp, g, dr, tk, os⟩ := s
  have ge : hp.objs.size ≤ hp.objs.size + 1 := Nat.le_succ _
  have hq := h (hp.objs.size + 1) (I.hok.fresh ge)
  have kk : ∀ b o, hp.get? b = some o → ((hp.push (PySem.W.kdv_tup us)).push (PySem.HandSPX.excO C hp.objs.size)).get? b = some o := fun b o z => Heap.get?_push_of_some _ (Heap.get?_push_of_some _ z)
  have got : ((hp.push (PySem.W.kdv_tup us)).push (PySem.HandSPX.excO C hp.objs.size)).get? (hp.objs.size + 1) = some (PySem.HandSPX.excO C hp.objs.size) := by heap_get
  have I2 : Inv X pins σ (upd H (hp.objs.size + 1) (exo (hp.objs.size + 1) C none)) ⟨(hp.push (PySem.W.kdv_tup us)).push (PySem.HandSPX.excO C hp.objs.size), g, dr, tk, os⟩ :=
    I.laid (t' := tk) (a := hp.objs.size + 1) (o := exo (hp.objs.size + 1) C none) (h' := (hp.push (PySem.W.kdv_tup us)).push (PySem.HandSPX.excO C hp.objs.size)) kk ge (exo_ok got)
  have ll : (Value.ref (hp.objs.size + 1) :: ws).length = ps.length := by rw [← (r (hp.objs.size + 1)).length]; exact F.len _ _ _ _ hq
  refine wpAny_call (PySem.HandSPX.kwj_call PySem.F.excBase_ValueError (fun Y => PySem.HandSPX.refsVE_contains Y bm hbm) (I.kIn _ _ hC) (PySem.W.looks_findIn I.kIn T.ini) (fun self => PySem.W.bind_fn I.kIn self T.fn) (by rw [sizeLine_eq]; omega)
    (codeAny_mono (F.run _ X.stack _ _ ⟨Value.ref (hp.objs.size + 1) :: us, kw⟩ (Value.ref (hp.objs.size + 1) :: ws) _ _ E0 (hr.make C us kw) (I2.env0.make C us kw) (hb _ _ I2.kIn ll) (r _) hq) fun z s' hz' => ?_))
  match z, hz' with
  | .error er, hz' => exact hz'.elim
  | .ok .next, hz' => exact hz'.elim
  | .ok .brk, hz' => exact hz'.elim
  | .ok .cont, hz' => exact hz'.elim
  | .ok (.ret u), hz' =>
    obtain ⟨v, H', I3, rv, ev, q3⟩ := I2.after hz'
    subst ev
    exact ⟨rv, .ref (hp.objs.size + 1), H', I3, rfl, q3⟩
/-- C(e, ..) -/
theorem pe_err (T : ErrC X.K C fI) (F : FnOk X.prog X.w X.K X.mg X.base CX0 k fI fd ps sp) (hr : Room (k + 1) X.A) (hb : Binds X.K fd ps []) (hg : Gl X x) (hm : X.mg x = some (.ref C)) (ha : PA X (e :: es) ta)
    (hdb : (x == ("__debug__" : Str)) = false := by decide) (he : starEach (e :: es) X.env = (false, eval e X.env) :: starEach es X.env := by rfl) (hpl : (backTo pos (starEach es X.env)).any (·.1) = false := by rfl) :
    PE X (.Call (.Name x p) (e :: es) [] pos) (tErr C sp ta) := by
  constructor
  intro pins s σ H Q I h
  refine wpAny_Call_Name_kw (ld_glob I hg hm ?_ hdb)
  refine PySem.W.callWith_K (h₀ := X.base) I.ok.mod.kin T.oex.kC (thn (ha.run pos pins s σ H _ I h) fun us s1 ⟨vs, H1, I1, r, hz, q⟩ => ⟨I1.kIn, ?_⟩) he hpl
  exact run_err (us := us) (ws := us) T F hr I1 (by rw [← r.length]; exact hz) (fun a => .cons rfl r) (fun a s' K' ll => by
    have z := hb s' (.ref a :: us) K' (by simpa using ll)
    simpa using z) q
/-- C() -/
theorem pe_err0 (T : ErrC X.K C fI) (F : FnOk X.prog X.w X.K X.mg X.base CX0 k fI fd ps sp) (hr : Room (k + 1) X.A) (hb : Binds X.K fd ps []) (hg : Gl X x) (hm : X.mg x = some (.ref C))
    (hdb : (x == ("__debug__" : Str)) = false := by decide) : PE X (.Call (.Name x p) [] [] pos) (tErr C sp tNil) := by
  constructor
  intro pins s σ H Q I h
  refine wpAny_Call_Name_kw (ld_glob I hg hm ?_ hdb)
  refine PySem.W.callWith_K0 I.kIn T.oex.kC ?_
  exact run_err (us := []) (ws := []) (vs := []) T F hr I (by decide) (fun a => .cons rfl .nil) (fun a s' K' ll => by
    have z := hb s' [.ref a] K' (by simpa using ll)
    simpa using z) h.2
/-- C(f = e) -/
theorem pe_errK (T : ErrC X.K C fI) (F : FnOk X.prog X.w X.K X.mg X.base CX0 k fI fd ps sp) (hr : Room (k + 1) X.A)
    (hb : ∀ (s' : Shared) (a : Addr) (u : Value), X.K.In s'.heap → BindsTo s' fd ⟨[.ref a], [(nm, u)]⟩ (ps.zip [.ref a, u])) (hg : Gl X x) (hm : X.mg x = some (.ref C)) (he : PE X e te)
    (hdb : (x == ("__debug__" : Str)) = false := by decide) : PE X (.Call (.Name x p) [] [⟨some nm, e, kp⟩] pos) (tErrK C sp te) := by
  constructor
  intro pins s σ H Q I h
  refine wpAny_Call_Name_kw (ld_glob I hg hm ?_ hdb)
  refine PySem.W.callWith_KW0 (h₀ := X.base) I.ok.mod.kin T.oex.kC rfl ?_ rfl
  refine thn ((pk_cons he pk_nil).run pos pins s σ H _ I h) fun ws s1 ⟨vs, H1, I1, r, hh⟩ => ⟨I1.kIn, ?_⟩
  obtain ⟨v, rfl, q⟩ := hh
  obtain ⟨u, rfl, rv⟩ := vals1 r
  exact run_err (us := []) (kw := [(nm, u)]) (ws := [u]) T F hr I1 (by decide) (fun a => .cons rfl (.cons rv .nil)) (fun a s' K' ll => hb s' a u K') q
end
end J

set_option Elab.async false
set_option linter.all false
set_option maxRecDepth 100000
set_option maxHeartbeats 4000000
/-! J4: the head's facts as Bools of the written part; a law's end where nothing is being shown. -/
namespace J
open PySem PySem.Spec PyProof.Rows L2

abbrev Bf := PySem.W.Frag → Bool
/-! ### the Hook -/
def asJ (g : Addr → Option Obj) : Nat → List Addr
  | 0 => [mainGlobals, cStatics]
  | n + 1 => He.growD g (asJ g n)
def obsJ (bs : List Bf) (fn : List He.DefD) (K : PySem.W.Frag) : He.AlD := ((bs.all fun b => b K) && fn.all fun d => d.ok K, fn.map fun d => He.fnW K d.at_)
def SaysJ (bs : List Bf) (fn : List He.DefD) (K : PySem.W.Frag) : Prop := obsJ bs fn K = He.valD fn
def obsJG (n : Nat) (bs : List Bf) (fn : List He.DefD) (g : Addr → Option Obj) : He.AlD := obsJ bs fn (He.frG g (asJ g n))
def hookJ (n : Nat) (bs : List Bf) (fn : List He.DefD) : PySem.W.Hook where
  α := He.AlD
  obs := fun s => obsJG n bs fn s.heap.get?
  val := fun _ => He.valD fn
  says := fun _ h => ∃ K : PySem.W.Frag, K.In h ∧ SaysJ bs fn K
  of := fun _ _ e => ⟨_, He.frG_in, e⟩
  keeps := fun _ _ _ ⟨K, hK, c⟩ k => ⟨K, PySem.W.Frag.In.keeps hK k, c⟩
theorem obsJG_eq {n : Nat} {bs : List Bf} {fn : List He.DefD} {g : Addr → Option Obj} {s : Shared} (h : ∀ a, g a = s.heap.get? a) : obsJG n bs fn g = (hookJ n bs fn).obs s := by
  have e : g = s.heap.get? := funext h
  rw [e] <;> rfl
section
variable {bs : List Bf} {fn : List He.DefD} {K : PySem.W.Frag}
theorem SaysJ.fact (c : SaysJ bs fn K) (i : Nat) {b : Bf} (h : bs[i]? = some b := by rfl) : b K = true := by
  have c1 := (He.ba (show ((bs.all fun b => b K) && fn.all fun d => d.ok K) = true from congrArg (fun z : He.AlD => z.1) c)).1
  exact List.all_eq_true.mp c1 b (List.mem_of_getElem? h)
theorem SaysJ.def_ (c : SaysJ bs fn K) (i : Nat) {d : He.DefD} (h : fn[i]? = some d := by rfl) : ∃ fd, FunD K d.name d.qual d.params d.body d.scope (d.dvs K) (d.kws K) (He.fAd K d.at_) fd := by
  have c2 := (He.ba (show ((bs.all fun b => b K) && fn.all fun d => d.ok K) = true from congrArg (fun z : He.AlD => z.1) c)).2
  have e : fn.map (fun d => He.fnW K d.at_) = fn.map He.DefD.val := congrArg (fun z : He.AlD => z.2) c
  have e2 : (fn.map fun d => He.fnW K d.at_)[i]? = (fn.map He.DefD.val)[i]? := by rw [e]
  rw [List.getElem?_map, List.getElem?_map, h] at e2
  exact He.DefD.funD (Option.some.inj e2) (List.all_eq_true.mp c2 d (List.mem_of_getElem? h))
end

/-! ### facts of error classes -/
def oexB (K : PySem.W.Frag) (C : Addr) : Bool := (match K.lookup C with
  | some ⟨.type "type", _, .cls cd, sl⟩ => (match cd.mro, sl.toList with
    | .ref C' :: bm, [_, _, _, _, some (.builtin n), _] => C' == C && n == "ValueError.__new__" && !cd.hasDel && cd.hasDict && HandSPX.refsVE bm
    | _, _ => false)
  | _ => false) && (He.eqO (PySem.W.findIn K (.ref C) "__setattr__") (some (some (.builtin "object.__setattr__"))) && (decide (PySem.W.subIn K (.ref C) (.type "BaseException") = some true) && (decide (PySem.W.typeIn K (.ref C) = some (.type "type")) && PySem.W.keepIn K (.ref C))))
theorem oexB_ok {K : PySem.W.Frag} {C : Addr} (h : oexB K C = true) : OexC K C := by
  obtain ⟨h0, h⟩ := He.ba h
  obtain ⟨h1, h⟩ := He.ba h
  obtain ⟨h2, h⟩ := He.ba h
  obtain ⟨h3, h4⟩ := He.ba h
  refine ⟨?_, He.eqO_ok h1, of_decide_eq_true h2, of_decide_eq_true h3, h4⟩
  split at h0
  · rename_i dd cd sl ho
    split at h0
    · rename_i C' bm k0 k1 k2 k3 n k5 hm hs
      simp only [Bool.and_eq_true, beq_iff_eq, Bool.not_eq_true'] at h0
      obtain ⟨⟨⟨⟨rfl, rfl⟩, hdel⟩, hdict⟩, hv⟩ := h0
      obtain ⟨nm, bs, mro, ns, qn, hd, sn, sub, ab, col, del⟩ := cd
      dsimp only at hm hdel hdict
      subst hm hdel hdict
      have es : sl = #[k0, k1, k2, k3, some (.builtin "ValueError.__new__"), k5] := by
        obtain ⟨l⟩ := sl
        simp only at hs
        rw [hs]
      subst es
      exact ⟨nm, qn, ns, bs, bm, sn, sub, ab, col, dd, k0, k1, k2, k3, k5, ho, hv⟩
    · cases h0
  · cases h0
/-- all that is asked of an error class: it is made, its instances' class is asked, the field is read -/
def errB (x : Str) (fld : Str) : Bf := fun K =>
  He.eqO (PySem.W.nsIn K mainGlobals x) (some (some (.ref (He.ga K x)))) && (oexB K (He.ga K x) && (He.eqO (PySem.W.findIn K (.ref (He.ga K x)) "__init__") (some (some (.ref (He.ma K (He.ga K x) "__init__")))) &&
  (decide (PySem.W.typeIn K (.ref (He.ma K (He.ga K x) "__init__")) = some (.type "function")) && (xfB K (He.ga K x) && (He.eqO (PySem.W.findIn K (.ref (He.ga K x)) fld) (some none) &&
  (He.eqO (PySem.W.findIn K (.ref (He.ga K x)) "__class__") (some (some (.builtin "object.__class__"))) && (decide (PySem.W.mroIn K (He.ga K x) (.type "object") = some true)))))))) 
structure ErrN (K : PySem.W.Frag) (mg : Str → Option Value) (x fld : Str) : Prop where
  g : mg x = some (.ref (He.ga K x))
  c : ErrC K (He.ga K x) (He.ma K (He.ga K x) "__init__")
  f : XfC K (He.ga K x)
  nof : PySem.W.findIn K (.ref (He.ga K x)) fld = some none
  cl : PySem.W.findIn K (.ref (He.ga K x)) "__class__" = some (some (.builtin "object.__class__"))
  ob : PySem.W.mroIn K (He.ga K x) (.type "object") = some true
theorem errB_ok {K : PySem.W.Frag} {h : Heap} {mg : Str → Option Value} {x fld : Str} (X : K.In h) (G : h.Ns mainGlobals mg) (c : errB x fld K = true) : ErrN K mg x fld := by
  obtain ⟨h0, c⟩ := He.ba c
  obtain ⟨h1, c⟩ := He.ba c
  obtain ⟨h2, c⟩ := He.ba c
  obtain ⟨h3, c⟩ := He.ba c
  obtain ⟨h4, c⟩ := He.ba c
  obtain ⟨h5, c⟩ := He.ba c
  obtain ⟨h6, h7⟩ := He.ba c
  exact ⟨PySem.W.mg_of X G (He.eqO_ok h0), ⟨oexB_ok h1, He.eqO_ok h2, of_decide_eq_true h3⟩, xfB_ok h4, He.eqO_ok h5, He.eqO_ok h6, of_decide_eq_true h7⟩
/-- the getter of __class__, asked once -/
def clsB : Bf := fun K => He.eqO (PySem.W.specialIn K (.builtin "object.__class__") "__get__") (some (some (.builtin "getset_descriptor.__get__"))) && decide (PySem.W.takesIn K (.builtin "object.__class__") = some true)
theorem clsB_ok {K : PySem.W.Frag} (c : clsB K = true) : PySem.W.specialIn K (.builtin "object.__class__") "__get__" = some (some (.builtin "getset_descriptor.__get__")) ∧ PySem.W.takesIn K (.builtin "object.__class__") = some true := by
  obtain ⟨h0, h1⟩ := He.ba c
  exact ⟨He.eqO_ok h0, of_decide_eq_true h1⟩
theorem ErrN.is {K : PySem.W.Frag} {mg : Str → Option Value} {x fld : Str} (T : ErrN K mg x fld) (c : clsB K = true) : ExcC K (He.ga K x) :=
  ⟨T.f.ga, T.f.gg, T.f.exC, T.f.hdC, T.cl, (clsB_ok c).1, (clsB_ok c).2, T.ob⟩
/-- DrawError, whose __init__ is read off it -/
def derrB : Bf := fun K => He.eqO (PySem.W.nsIn K mainGlobals "DrawError") (some (some (.ref (He.ga K "DrawError")))) && (PySem.W.readsIn K (He.ga K "DrawError") (.type "type") &&
  (He.eqO (PySem.W.specialIn K (.ref (He.ga K "DrawError")) "__getattribute__") (some (some (.builtin "type.__getattribute__"))) &&
  (match PySem.W.findCls K (.ref (He.ga K "DrawError")) (.type "type") "__init__" with
    | some (.val v) => decide (v = .builtin "ValueError.__init__")
    | _ => false)))
theorem derrB_ok {K : PySem.W.Frag} {h : Heap} {mg : Str → Option Value} (X : K.In h) (G : h.Ns mainGlobals mg) (c : derrB K = true) : DErr K mg (He.ga K "DrawError") := by
  obtain ⟨h0, c⟩ := He.ba c
  obtain ⟨h1, c⟩ := He.ba c
  obtain ⟨h2, h3⟩ := He.ba c
  refine ⟨PySem.W.mg_of X G (He.eqO_ok h0), h1, He.eqO_ok h2, ?_⟩
  split at h3
  · rename_i v e
    rw [e, of_decide_eq_true h3]
  · cases h3
/-- a name that is none of the module's own -/
def freeB (x : Str) : Bf := fun K => He.eqO (PySem.W.nsIn K mainGlobals x) (some none)
theorem freeB_ok {K : PySem.W.Frag} {h : Heap} {mg : Str → Option Value} (X : K.In h) (G : h.Ns mainGlobals mg) {x : Str} (c : freeB x K = true) : mg x = none := PySem.W.mg_none_of X G (He.eqO_ok c)
/-- a name of the module's that stands for an object -/
def gloB (x : Str) : Bf := fun K => He.eqO (PySem.W.nsIn K mainGlobals x) (some (some (.ref (He.ga K x))))
theorem gloB_ok {K : PySem.W.Frag} {h : Heap} {mg : Str → Option Value} (X : K.In h) (G : h.Ns mainGlobals mg) {x : Str} (c : gloB x K = true) : mg x = some (.ref (He.ga K x)) := PySem.W.mg_of X G (He.eqO_ok c)

/-! ### the end -/
/-- the law's call, its promise kept where nothing is being shown -/
theorem law_callG {P : Program} {w : World} {K : PySem.W.Frag} {mg mb : Str → Option Value} {k : Nat} {fa a : Addr} {fd : FuncData} {x : Str} {sp : Sp} {s₁ : Shared} {vs : List Value} {ns : List Int}
    (KX : K.In s₁.heap) (hns : s₁.heap.Ns mainGlobals mg) (hb : s₁.heap.Ns builtinsNs mb) (hbb : ∀ x : Str, x ≠ "__name__" → mb x = bootBuiltins x) (hlim : s₁.heap.NoLimit) (hg : s₁.gens = #[])
    (ha : s₁.heap.get? a = some { cls := .type "list", data := .seq vs.toArray }) (hi : IntsAre vs ns) (hl : ns.length ≤ sizeLine) (hr : Room k callerA)
    (F : ∀ base : Heap, K.In base → base.Ns mainGlobals mg → FnG P w K mg base CX0 k fa fd [x] sp) (hbind : ∀ (s : Shared) (u : Value), BindsTo s fd ⟨[u], []⟩ [(x, u)])
    (hsp : ∀ H : Hp, Only H → SqL K H a (ns.map V.int) → sp [.ref a] H (fun v _ => v = .bl true) fun _ _ _ => False) :
    codeAny (model P w) callerA (.call (.ref fa) ⟨[.ref a], []⟩) (fun r s' => r = .ok (.ret (.bool true)) ∧ OldK s₁.heap s'.heap ∧ s'.os = s₁.os ∧ AllBare s'.gens) s₁ := by
  have rv := vals_ints hi
  have lenV := hi.length
  have core : ∀ H : Hp, Only H → SqL K H a (ns.map V.int) → HOk P w H s₁.heap → (∀ b, H b ≠ none → b = a) → (H a ≠ none → K.lookup a = none) →
      codeAny (model P w) callerA (.call (.ref fa) ⟨[.ref a], []⟩) (fun r s' => r = .ok (.ret (.bool true)) ∧ OldK s₁.heap s'.heap ∧ s'.os = s₁.os ∧ AllBare s'.gens) s₁ := by
    intro H hO hS hok hA hK
    have at_a : ∀ {b : Addr} {u : HO}, H b = some u → b = a := fun {b u} q => hA b (by rw [q]; simp)
    have noDict : ∀ {b : Addr} {o : Obj} {es : Array DictEntry} {ep : Nat}, s₁.heap.get? b = some o → o.data = .dict es ep → H b = none := fun {b o es ep} e d => by
      cases q : H b with
      | none => rfl
      | some u =>
        cases at_a q
        rw [ha] at e
        cases e
        cases (show Data.seq vs.toArray _ = Data.dict es ep from d)
    have nsK : ∀ {b : Addr} {m : Str → Option Value}, s₁.heap.Ns b m → (hidT s₁.heap H).Ns b m := fun {b m} ⟨o, es, ep, e, d, r⟩ => ⟨o, es, ep, hidT_get e (noDict e d), d, r⟩
    have inB : K.In (hidT s₁.heap H) := fun b o e => hidT_get (KX b o e) (by
      cases q : H b with
      | none => rfl
      | some u =>
        cases at_a q
        rw [hK (by rw [q]; simp)] at e
        cases e)
    have hM : Mod K mg (hidT s₁.heap H) := ⟨inB, nsK hns, ⟨mb, nsK hb, hbb⟩, let ⟨mc, h1, h2⟩ := hlim; ⟨mc, nsK h1, h2⟩⟩
    have e0 : Env0 P w K mg (hidT s₁.heap H) callerA [] s₁ H := ⟨rfl, hM, fun b o e => of_hidT e, Nat.le_of_eq (hidT_size _ _), trivial, fun b hb => absurd (show b ∈ ([] : List Addr) from hb) (by simp), hok, .of_eq hg⟩
    refine codeAny_mono ((F _ inB (nsK hns) callerA rfl hr).run [] s₁ H ⟨[.ref a], []⟩ [.ref a] [.ref a] _ _ e0 (hbind s₁ (.ref a)) (.cons rfl .nil) (hsp H hO hS)) fun r s' h => ?_
    match r, h with
    | .error e, h => exact h.elim
    | .ok .next, h => exact h.elim
    | .ok .brk, h => exact h.elim
    | .ok .cont, h => exact h.elim
    | .ok (.ret u), h =>
      obtain ⟨v, H', os, bare, un, hok', r', q⟩ := h
      cases (show v = .bl true from q)
      cases (show u = Value.bool true from r')
      refine ⟨rfl, OldK.of_keep fun b o e => ?_, os, bare⟩
      cases q : H b with
      | none => exact un.keep b o e q (by intro z; exact absurd (show b ∈ ([] : List Addr) from z) (by simp)) (by simp)
      | some u =>
        rcases hO b with z | ⟨ob, xs, z⟩
        · rw [q] at z
          cases z
        · have z2 := un.frzs b ob _ z
          obtain ⟨e1, _⟩ := hok b _ z
          obtain ⟨e2, _⟩ := hok' b _ z2
          rw [e] at e1
          cases e1
          exact e2
  cases hk : K.lookup a with
  | some o =>
    have e := KX a o hk
    rw [ha] at e
    cases e
    exact core (fun _ => none) (fun _ => .inl rfl) (.inr ⟨_, vs.toArray, _, hk, rfl, rfl, rfl, by rw [List.size_toArray, lenV]; exact hl, by simpa using rv⟩) (fun b u z => by cases (show (none : Option HO) = some u from z)) (fun b z => absurd rfl z) fun z => absurd rfl z
  | none =>
    refine core (fun b => if b = a then some (.frz { cls := .type "list", data := .seq vs.toArray } (.lst (ns.map V.int))) else none) (fun b => ?_) (.inl (.inr ⟨{ cls := .type "list", data := .seq vs.toArray }, if_pos rfl⟩)) (fun b u z => ?_) (fun b z => ?_) fun _ => hk
    · by_cases q : b = a
      · exact .inr ⟨_, _, if_pos q⟩
      · exact .inl (if_neg q)
    · by_cases q : b = a
      · cases (if_pos q).symm.trans z
        subst q
        exact ⟨ha, by rw [List.length_map]; exact hl, vs, _, rv, ha⟩
      · cases (if_neg q).symm.trans z
    · by_cases q : b = a
      · exact q
      · exact absurd (if_neg q) z
theorem walk_G {l : PySem.W.OpenLaw} {n k : Nat} {q : Program} {loose : List Str} {XP : (Str → Option Value) → Heap → Prop} {YP : World → Heap → Prop} {d : DefRec} {x : Str}
    (hn : l.most = some n) (hn2 : n ≤ sizeLine) (hdf : d.params.defaults = []) (hr : Room k callerA)
    (F : ∀ (w : World) (mg : Str → Option Value) (fa : Addr) (h : Heap), YP w h → h.Ns mainGlobals mg → mg d.name = some (.ref fa) →
      ∃ (K : PySem.W.Frag) (fd : FuncData) (sp : Sp), K.In h ∧ (∀ (s : Shared) (u : Value), BindsTo s fd ⟨[u], []⟩ [(x, u)]) ∧
        (∀ (H : Hp) (a : Addr) (ns : List Int), ns.length ≤ n → Only H → SqL K H a (ns.map V.int) → sp [.ref a] H (fun v _ => v = .bl true) fun _ _ _ => False) ∧
        ∀ base : Heap, K.In base → base.Ns mainGlobals mg → FnG l.prog w K mg base CX0 k fa fd [x] sp) :
    PySem.W.WalkO q loose XP YP l.row.toRowW d [] (fun f vs => PySem.call f vs) := by
  refine Att.attach_call hn hdf fun w s₀ s₁ mg mb fa o pm cd doc a vs ns G Y ho hd hcd hmg hobj hints hlen hg => ?_
  obtain ⟨K, fd, sp, KX, hb, hsp, hF⟩ := F w mg fa _ Y G.T.g hmg
  exact law_callG KX G.T.g G.T.b G.T.builtins G.T.nolimit hg hobj hints (Nat.le_trans hlen hn2) hr hF hb fun H hO hS => hsp H a ns hlen hO hS
end J

set_option Elab.async false
set_option linter.all false
set_option maxRecDepth 100000
set_option maxHeartbeats 4000000
/-! J5: rows of calls that make errors or ask their classes; the draws' promises. -/
namespace J
open PySem PySem.Spec PyProof.Rows L2

theorem pa_imp {X : Cx} {es : List Expr} {t u : TA} (h : PA X es t) (k : ∀ σ H Q, u σ H Q → t σ H Q) : PA X es u := ⟨fun pos pins s σ H Q I q => h.run pos pins s σ H Q I (k σ H Q q)⟩
theorem pe_imp {X : Cx} {e : Expr} {t u : TE} (h : PE X e t) (k : ∀ σ H Q, u σ H Q → t σ H Q) : PE X e u := ⟨fun pins s σ H Q I q => h.run pins s σ H Q I (k σ H Q q)⟩
theorem upS {H : Hp} {p : Addr} {o : HO} (h : H p = none) : Same H (upd H p o) := fun _ _ e => by rw [upd_ne (ne_of_none e h)]; exact e
theorem _root_.L2.Same.tupS {K : PySem.W.Frag} {H H' : Hp} {a : Addr} {xs : List V} (e : Same H H') (h : SqT K H a xs) : SqT K H' a xs :=
  h.elim (fun h => .inl (h.elim (fun h => .inl (e _ _ h)) fun ⟨o, h⟩ => .inr ⟨o, e _ _ h⟩)) fun h => .inr h
/-- steps of a reading -/
theorem seq_name {te : TE} {u : TS} {D : Ends} {σ : L2.St} {H : Hp} {i : Nat} (h : te σ H fun x H1 => u D (σ.set i (some x)) H1) : tSeq (tAsg te (gName i)) u D σ H := h
theorem seq_drop {te : TE} {u : TS} {D : Ends} {σ : L2.St} {H : Hp} (h : tDrop te { D with nx := u D } σ H) : tSeq (tDrop te) u D σ H := h
theorem lst_of {t : TA} {σ : L2.St} {H : Hp} {Q : VK} (h : t σ H fun xs H1 => xs.length ≤ sizeLine ∧ ∀ p, H1 p = none → Q (.ref p) (upd H1 p (.lst xs))) : tLst t σ H Q := h
theorem cons_of {te : TE} {ta : TA} {σ : L2.St} {H : Hp} {Q : List V → Hp → Prop} (h : te σ H fun x H1 => ta σ H1 fun xs H2 => Q (x :: xs) H2) : tCons te ta σ H Q := h
theorem op_of {r : R2} {ta tb : TE} {σ : L2.St} {H : Hp} {Q : VK} (h : ta σ H fun x H1 => tb σ H1 fun y H2 => r x y H2 Q) : tOp r ta tb σ H Q := h
theorem yes_if {A B : Hp → Prop} {σ : L2.St} {H : Hp} (h : A H) : tYes σ H (fun b H3 => if b = true then A H3 else B H3) := by
  show if true = true then A H else B H
  exact iteT h
theorem ret_of {te : TE} {D : Ends} {σ : L2.St} {H : Hp} (h : te σ H D.rt) : tRet te D σ H := h
/-- a property of each item -/
def AllJ {α : Type} (p : α → Prop) : List α → Prop
  | [] => True
  | a :: r => p a ∧ AllJ p r
/-- two rows fit, place by place -/
def fits {α β : Type} (f : α → β → Bool) : List α → List β → Bool
  | [], [] => true
  | a :: r, b :: q => f a b && fits f r q
  | _, _ => false

/-! ### what is asked of an error class with the field given -/
structure EK (P : Program) (w : World) (K : PySem.W.Frag) (mg : Str → Option Value) (base : Heap) (n : Str) : Prop where
  e : ErrN K mg n "given"
  fn : ∃ fd, FnOk P w K mg base CX0 1 (He.ma K (He.ga K n) "__init__") fd ["self", "given"] (spErr K (He.ga K n) "given") ∧ Binds K fd ["self", "given"] [] ∧
    ∀ (s : Shared) (a : Addr) (u : Value), K.In s.heap → BindsTo s fd ⟨[.ref a], [("given", u)]⟩ ((["self", "given"] : List Str).zip [.ref a, u])
  db : (n == ("__debug__" : Str)) = false
theorem kw_binds {K : PySem.W.Frag} {x qual : Str} {pa : Arguments} {bd : List Stmt} {sc : Scope} {f : Addr} {fd : FuncData} {fld : Str} (F : FunD K x qual pa bd sc [] [] f fd)
    (h : ∀ (kV doc pm : Value) (an : Option Addr) (cdv ct : Value) (a : Addr) (u : Value), bindArgs (PySem.W.fnOf x qual pa bd sc .none kV doc pm an cdv ct) ⟨[.ref a], [(fld, u)]⟩ = pure ((["self", fld] : List Str).zip [.ref a, u]))
    (s : Shared) (a : Addr) (u : Value) : BindsTo s fd ⟨[.ref a], [(fld, u)]⟩ ((["self", fld] : List Str).zip [.ref a, u]) := by
  obtain ⟨oc, od, dV, kV, doc, pm, an, cdv, ct, osl, rfl, lk, hcd, hD, hK⟩ := F.ex
  rcases hD with ⟨_, rfl⟩ | ⟨z, _⟩
  · exact .of_eq (h kV doc pm an cdv ct a u)
  · exact absurd rfl z

/-! ### [C(x), ..]: errors made of the value in slot i -/
def errCall (arg n : Str) : Expr → Bool
  | .Call (.Name m _) [.Name a _] [] _ => decide (m = n) && decide (a = arg)
  | _ => false
theorem errCall_ok {arg n : Str} {e : Expr} (h : errCall arg n e = true) : ∃ p q r, e = .Call (.Name n p) [.Name arg q] [] r := by
  unfold errCall at h
  split at h
  · obtain ⟨h1, h2⟩ := Bool.and_eq_true_iff.mp h
    have e1 := of_decide_eq_true h1
    have e2 := of_decide_eq_true h2
    subst e1 e2
    exact ⟨_, _, _, rfl⟩
  · cases h
def errCallK (arg n : Str) : Expr → Bool
  | .Call (.Name m _) [] [⟨some f, .Name a _, _⟩] _ => decide (m = n) && (decide (a = arg) && decide (f = "given"))
  | _ => false
theorem errCallK_ok {arg n : Str} {e : Expr} (h : errCallK arg n e = true) : ∃ p q r k, e = .Call (.Name n p) [] [⟨some "given", .Name arg q, k⟩] r := by
  unfold errCallK at h
  split at h
  · obtain ⟨h1, h⟩ := Bool.and_eq_true_iff.mp h
    obtain ⟨h2, h3⟩ := Bool.and_eq_true_iff.mp h
    have e1 := of_decide_eq_true h1
    have e2 := of_decide_eq_true h2
    have e3 := of_decide_eq_true h3
    subst e1 e2 e3
    exact ⟨_, _, _, _, rfl⟩
  · cases h
/-- the row of errors at as, of the classes ns, each with the value v -/
def Errs (K : PySem.W.Frag) (H : Hp) (v : V) : List Str → List Addr → Prop
  | [], [] => True
  | n :: ns, a :: as => ErrF H a (He.ga K n) "given" v ∧ Errs K H v ns as
  | _, _ => False
theorem Errs.ext {K : PySem.W.Frag} {H H' : Hp} {v : V} (k : Same H H') : ∀ {ns : List Str} {as : List Addr}, Errs K H v ns as → Errs K H' v ns as
  | [], [], _ => trivial
  | _ :: _, _ :: _, h => ⟨h.1.ext k, Errs.ext k h.2⟩
  | [], _ :: _, h => h.elim
  | _ :: _, [], h => h.elim
theorem Errs.app {K : PySem.W.Frag} {H : Hp} {v : V} : ∀ {ns : List Str} {as : List Addr} {ms : List Str} {bs : List Addr}, Errs K H v ns as → Errs K H v ms bs → Errs K H v (ns ++ ms) (as ++ bs)
  | [], [], _, _, _, h => h
  | _ :: _, _ :: _, _, _, h, h' => ⟨h.1, Errs.app h.2 h'⟩
  | [], _ :: _, _, _, h, _ => h.elim
  | _ :: _, [], _, _, h, _ => h.elim
theorem Errs.len {K : PySem.W.Frag} {H : Hp} {v : V} : ∀ {ns : List Str} {as : List Addr}, Errs K H v ns as → as.length = ns.length
  | [], [], _ => rfl
  | _ :: _, _ :: _, h => by rw [List.length_cons, List.length_cons, Errs.len h.2]
  | [], _ :: _, h => h.elim
  | _ :: _, [], h => h.elim
theorem Errs.at_ {K : PySem.W.Frag} {H : Hp} {v : V} : ∀ {ns : List Str} {as : List Addr} {j : Nat} {n : Str}, Errs K H v ns as → ns[j]? = some n → ∃ a, as[j]? = some a ∧ ErrF H a (He.ga K n) "given" v
  | _ :: _, _ :: _, 0, _, h, e => by
    cases e
    exact ⟨_, rfl, h.1⟩
  | _ :: _, _ :: _, j + 1, n, h, e => Errs.at_ (j := j) h.2 (by simpa using e)
  | [], _, _, _, _, e => by simp at e
  | _ :: _, [], _, _, h, _ => h.elim
def tErrs (K : PySem.W.Frag) (i : Nat) (ns : List Str) : TA := fun σ H Q => ∃ v, σ[i]? = some (some v) ∧ ∀ H' as, Same H H' → Errs K H' v ns as → Q (as.map V.ref) H'
theorem err_new {fld : Str} {H : Hp} {a d C : Addr} {v : V} (ha : H a = none) (hd : upd H a (exo a C none) d = none) (hda : d ≠ a) :
    Same H (upd (upd (upd H a (exo a C none)) d (exd d [(fld, v)])) a (exo a C (some d))) ∧ ErrF (upd (upd (upd H a (exo a C none)) d (exd d [(fld, v)])) a (exo a C (some d))) a C fld v := by
  have hd2 : H d = none := by rw [upd_ne hda] at hd; exact hd
  refine ⟨fun b o h => ?_, d, upd_same, ?_⟩
  · rw [upd_ne (ne_of_none h ha), upd_ne (ne_of_none h hd2), upd_ne (ne_of_none h ha)]
    exact h
  · rw [upd_ne hda, upd_same]
section
variable {X : Cx} {i : Nat} {arg : Str}
theorem pa_errs (hr : Room 2 X.A) (ha : ∀ q, PE X (.Name arg q) (tVar i)) : ∀ {ns : List Str} {es : List Expr}, fits (errCall arg) ns es = true → AllJ (EK X.prog X.w X.K X.mg X.base) ns → AllJ (Gl X) ns → PA X es (tErrs X.K i ns)
  | [], [], _, _, _ => pa_imp pa_nil fun σ H Q h => by
    obtain ⟨v, _, h⟩ := h
    exact h H [] (Same.refl _) trivial
  | n :: ns, e :: es, hf, hk, hg => by
    obtain ⟨h1, h2⟩ := Bool.and_eq_true_iff.mp hf
    obtain ⟨p, q, r, rfl⟩ := errCall_ok h1
    obtain ⟨fd, F, b, _⟩ := hk.1.fn
    refine pa_imp (pa_cons (pe_err hk.1.e.c F hr b hg.1 hk.1.e.g (pa_cons (ha q) pa_nil) hk.1.db) (pa_errs hr ha h2 hk.2 hg.2)) fun σ H Q h => ?_
    obtain ⟨v, hv, h⟩ := h
    refine ⟨v, hv, by show 1 ≤ 1000; decide, fun a na => ⟨a, v, rfl, upd_same, fun d nd hda => ⟨rfl, v, hv, fun H' as sm er => ?_⟩⟩⟩
    obtain ⟨k1, k2⟩ := err_new (v := v) na nd hda
    exact h H' (a :: as) (k1.trans sm) ⟨k2.ext sm, er⟩
  | [], _ :: _, hf, _, _ => by cases hf
  | _ :: _, [], hf, _, _ => by cases hf
theorem pa_errsK (hr : Room 2 X.A) (ha : ∀ q, PE X (.Name arg q) (tVar i)) : ∀ {ns : List Str} {es : List Expr}, fits (errCallK arg) ns es = true → AllJ (EK X.prog X.w X.K X.mg X.base) ns → AllJ (Gl X) ns → PA X es (tErrs X.K i ns)
  | [], [], _, _, _ => pa_imp pa_nil fun σ H Q h => by
    obtain ⟨v, _, h⟩ := h
    exact h H [] (Same.refl _) trivial
  | n :: ns, e :: es, hf, hk, hg => by
    obtain ⟨h1, h2⟩ := Bool.and_eq_true_iff.mp hf
    obtain ⟨p, q, r, k, rfl⟩ := errCallK_ok h1
    obtain ⟨fd, F, _, b⟩ := hk.1.fn
    refine pa_imp (pa_cons (pe_errK hk.1.e.c F hr (fun s' a u K' => b s' a u K') hg.1 hk.1.e.g (ha q) hk.1.db) (pa_errsK hr ha h2 hk.2 hg.2)) fun σ H Q h => ?_
    obtain ⟨v, hv, h⟩ := h
    refine ⟨v, hv, v, rfl, fun a na => ⟨a, v, rfl, upd_same, fun d nd hda => ⟨rfl, v, hv, fun H' as sm er => ?_⟩⟩⟩
    obtain ⟨k1, k2⟩ := err_new (v := v) na nd hda
    exact h H' (a :: as) (k1.trans sm) ⟨k2.ext sm, er⟩
  | [], _ :: _, hf, _, _ => by cases hf
  | _ :: _, [], hf, _, _ => by cases hf
end

/-! ### one error, made -/
theorem mk1C {K : PySem.W.Frag} {C : Addr} {fld : Str} {v : V} {σ : L2.St} {H : Hp} {Q : VK} (k : ∀ a H', Same H H' → ErrF H' a C fld v → Q (.ref a) H') : tErr C (spErr K C fld) (tCons (tC v) tNil) σ H Q := by
  refine ⟨(by show 1 ≤ 1000; decide), fun a na => ⟨a, v, rfl, upd_same, fun d nd hda => ⟨rfl, ?_⟩⟩⟩
  obtain ⟨k1, k2⟩ := err_new (fld := fld) (v := v) na nd hda
  exact k a _ k1 k2
theorem mk1V {K : PySem.W.Frag} {C : Addr} {fld : Str} {v : V} {i : Nat} {σ : L2.St} {H : Hp} {Q : VK} (hv : σ[i]? = some (some v)) (k : ∀ a H', Same H H' → ErrF H' a C fld v → Q (.ref a) H') : tErr C (spErr K C fld) (tCons (tVar i) tNil) σ H Q := by
  refine ⟨v, hv, (by show 1 ≤ 1000; decide), fun a na => ⟨a, v, rfl, upd_same, fun d nd hda => ⟨rfl, ?_⟩⟩⟩
  obtain ⟨k1, k2⟩ := err_new (fld := fld) (v := v) na nd hda
  exact k a _ k1 k2
theorem mkKV {K : PySem.W.Frag} {C : Addr} {fld : Str} {v : V} {i : Nat} {σ : L2.St} {H : Hp} {Q : VK} (hv : σ[i]? = some (some v)) (k : ∀ a H', Same H H' → ErrF H' a C fld v → Q (.ref a) H') : tErrK C (spErr K C fld) (tVar i) σ H Q := by
  refine ⟨v, hv, v, rfl, fun a na => ⟨a, v, rfl, upd_same, fun d nd hda => ⟨rfl, ?_⟩⟩⟩
  obtain ⟨k1, k2⟩ := err_new (fld := fld) (v := v) na nd hda
  exact k a _ k1 k2
theorem mk0 {C : Addr} {σ : L2.St} {H : Hp} {Q : VK} (k : ∀ a H', Same H H' → ErrO H' a C → Q (.ref a) H') : tErr C (spErr0 C) tNil σ H Q :=
  ⟨Nat.zero_le _, fun a na => ⟨a, rfl, upd_same, rfl, k a _ (upS na) ⟨none, upd_same, fun _ z => nomatch z⟩⟩⟩

/-! ### [isinstance(e, C), ..] -/
def isCall (arg n : Str) : Expr → Bool
  | .Call (.Name m _) [.Name a _, .Name c _] [] _ => decide (m = "isinstance") && (decide (a = arg) && decide (c = n))
  | _ => false
theorem isCall_ok {arg n : Str} {e : Expr} (h : isCall arg n e = true) : ∃ p q r s, e = .Call (.Name "isinstance" p) [.Name arg q, .Name n r] [] s := by
  unfold isCall at h
  split at h
  · obtain ⟨h1, h⟩ := Bool.and_eq_true_iff.mp h
    obtain ⟨h2, h3⟩ := Bool.and_eq_true_iff.mp h
    have e1 := of_decide_eq_true h1
    have e2 := of_decide_eq_true h2
    have e3 := of_decide_eq_true h3
    subst e1 e2 e3
    exact ⟨_, _, _, _, rfl⟩
  · cases h
/-- a class of the module's own, as isinstance is asked of it -/
structure ClsN (K : PySem.W.Frag) (mg : Str → Option Value) (n : Str) : Prop where
  g : mg n = some (.ref (He.ga K n))
  db : (n == ("__debug__" : Str)) = false
/-- the answers: C is the class at e -/
def kindsV (K : PySem.W.Frag) (C : Addr) (ns : List Str) : List V := ns.map fun n => V.bl (decide (C = He.ga K n))
def Knows (K : PySem.W.Frag) (C : Addr) (n : Str) : Prop := PySem.W.kitOne K (.ref C) (.ref (He.ga K n)) = some (decide (C = He.ga K n))
def tIsis (K : PySem.W.Frag) (i : Nat) (ns : List Str) : TA := fun σ H Q => ∃ e C, σ[i]? = some (some (.ref e)) ∧ ErrO H e C ∧ ExcC K C ∧ AllJ (Knows K C) ns ∧ Q (kindsV K C ns) H
theorem relref {a : Addr} : ∀ u, RelV (.ref a) u → u = Value.ref a := fun _ r => r
theorem pa_isis {X : Cx} {i : Nat} {arg : Str} (hi : Gl X "isinstance") (hm : X.mg "isinstance" = none) (ha : ∀ q, PE X (.Name arg q) (tVar i)) :
    ∀ {ns : List Str} {es : List Expr}, fits (isCall arg) ns es = true → AllJ (ClsN X.K X.mg) ns → AllJ (Gl X) ns → PA X es (tIsis X.K i ns)
  | [], [], _, _, _ => pa_imp pa_nil fun σ H Q h => by
    obtain ⟨e, C, _, _, _, _, h⟩ := h
    exact h
  | n :: ns, e :: es, hf, hk, hg => by
    obtain ⟨h1, h2⟩ := Bool.and_eq_true_iff.mp hf
    obtain ⟨p, q, r, s, rfl⟩ := isCall_ok h1
    refine pa_imp (pa_cons (pe_callB call_isX hi hm PyProof.Rows.boot_isinstance (pa_cons (ha q) (pa_cons (pe_glob (v := .ref (He.ga X.K n)) hg.1 hk.1.g rfl hk.1.db) pa_nil))) (pa_isis hi hm ha h2 hk.2 hg.2)) fun σ H Q h => ?_
    obtain ⟨a, C, hv, ho, hx, hw, h⟩ := h
    exact ⟨_, hv, a, C, _, _, _, rfl, ho, hx, relref, hw.1, a, C, hv, ho, hx, hw.2, h⟩
  | [], _ :: _, hf, _, _ => by cases hf
  | _ :: _, [], hf, _, _ => by cases hf
/-! ### a law's draws: cell, box, take -/
/-- a box of draws: a great number, a small one, how often the small one was mixed (at most n times) -/
def BoxAt (H : Hp) (p : Addr) (n : Int) : Prop := ∃ a b c : Int, H p = some (.lst [.int a, .int b, .int c]) ∧ 0 ≤ a ∧ 0 ≤ b ∧ b < 4294967296 ∧ 0 ≤ c ∧ c ≤ n
def spCellL (K : PySem.W.Frag) : Sp := fun vs H Q _ => ∃ (a : Addr) (ns : List Int) (k : Int), vs = [.ref a, .int k] ∧ SqL K H a (ns.map V.int) ∧ ns.length ≤ 1000 ∧ 0 ≤ k ∧ k < 1000 ∧ ∀ i : Int, Q (.int i) H
def spBoxL : Sp := fun vs H Q _ => ∃ i : Int, vs = [.int i] ∧ ∀ p H', H p = none → BoxAt H' p 0 → (∀ q, q ≠ p → H' q = H q) → Q (.ref p) H'
/-- a number from 0 on below m -/
def spTakeL : Sp := fun vs H Q _ => ∃ (p : Addr) (m n : Int), vs = [.ref p, .int m] ∧ BoxAt H p n ∧ n < 1000000 ∧ 0 < m ∧ m < 10 ^ 40 ∧ ∀ (r : Int) (H' : Hp), 0 ≤ r → r < m → BoxAt H' p (n + 1) → (∀ q, q ≠ p → H' q = H q) → Q (.int r) H'
theorem log_lt {m : Int} (h0 : 0 < m) (h : m < 10 ^ 40) : m.natAbs.log2 < 9000 := by
  have h1 : m.natAbs < 2 ^ 200 := by
    have e : (10 : Int) ^ 40 < 2 ^ 200 := by decide
    omega
  exact Nat.lt_of_lt_of_le (PySem.Flt.log2_lt_of (by decide) h1) (by decide)
theorem none_of {H H' : Hp} {p : Addr} (S : Same H H') (h : H' p = none) : H p = none := by
  cases z : H p with
  | none => rfl
  | some o =>
    rw [S p o z] at h
    cases h
def off (H : Hp) (q : Addr) : Hp := fun a => if a = q then none else H a
theorem off_same {H : Hp} {q : Addr} : Same (off H q) H := fun a o h => by
  unfold off at h
  by_cases e : a = q
  · rw [if_pos e] at h; cases h
  · rw [if_neg e] at h; exact h
theorem off_self {H : Hp} {q : Addr} : off H q q = none := if_pos rfl
theorem off_at {H : Hp} {q a : Addr} {o : HO} (h : H a = some o) (e : a ≠ q) : off H q a = some o := by
  unfold off
  rw [if_neg e]; exact h
theorem keep_off {G H H' : Hp} {q : Addr} (S : Same G H) (hq : G q = none) (k : ∀ a, a ≠ q → H' a = H a) : Same G H' := fun a o h => by
  rw [k a (ne_of_none h hq)]
  exact S a o h
theorem BoxAt.ext {H H' : Hp} {p : Addr} {n : Int} (h : BoxAt H p n) (k : Same H H') : BoxAt H' p n := by
  obtain ⟨a, b, c, h1, h2⟩ := h
  exact ⟨a, b, c, k _ _ h1, h2⟩
theorem BoxAt.ne {H : Hp} {p q : Addr} {n : Int} (h : BoxAt H p n) (hq : H q = none) : q ≠ p := by
  obtain ⟨a, b, c, h1, _⟩ := h
  exact (ne_of_none h1 hq).symm
end J

set_option Elab.async false
set_option linter.all false
set_option maxRecDepth 100000
set_option maxHeartbeats 4000000
/-! J6: operators of an own class, by the model's own steps. -/
namespace PySem.W
open PySem PySem.Calls PyProof.Rows Builtin
section
variable {prog : Program} {w : World} {A : Around} {E : Value → Shared → Prop} {s : Shared} {K : Frag} {x C f g : Addr} {ox : Obj} {od : Option Obj} {b : Value} {T : String} {nm : String}
/-- a method of two, tried: it takes -/
theorem jo_try {name : Str} {Q : Option Value → Shared → Prop} (X : K.In s.heap) (I : InstAt s.heap x ox C od) (hs : findIn K (.ref C) name = some (some (.ref f))) (hf : isFn K (.ref f) = true)
    (h : wpAny (model prog w) A (call (.ref f) [.ref x, b]) (CmpBack fun v => Q (some v)) E s) : wpAny (model prog w) A (tryMethod (.ref x) name b) Q E s := by
  unfold tryMethod
  refine wpAny_bind (special_fn X I hs (beq_iff_eq.mp hf) (wpAny_mono h (fun v s' hv => ?_) fun _ _ e => e))
  cases v <;> first | exact hv.elim | exact wpAny_pure hv
theorem jo_cmp {name : Str} {Q : Option Value → Shared → Prop} (X : K.In s.heap) (I : InstAt s.heap x ox C od) (hs : findIn K (.ref C) name = some (some (.ref f))) (hf : isFn K (.ref f) = true)
    (h : wpAny (model prog w) A (call (.ref f) [.ref x, b]) (CmpBack fun v => Q (some v)) E s) : wpAny (model prog w) A (tryCompare (.ref x) name b) Q E s := by
  unfold tryCompare
  refine wpAny_bind (ifBound_K X I hs hf (wpAny_mono h (fun v s' hv => ?_) fun _ _ e => e))
  cases v <;> first | exact hv.elim | exact wpAny_pure hv
theorem jo_num {M : Model} {h : Heap} (X : K.In h) {r : Option Value} (hs : findIn K (.ref C) (PySem.dunder nm) = some (some (.ref f))) (hr : findIn K (.ref C) (PySem.dunderR nm) = some r) (hr2 : r = none ∨ ∃ g, r = some (.ref g)) :
    Looks M h (numberSlotInPython (.ref C) nm) true := by
  intro A Q E s k q
  unfold numberSlotInPython
  refine wpAny_bind (looks_findIn X hs A _ E s k ?_)
  refine wpAny_bind (wpAny_pure ?_)
  refine wpAny_bind (looks_findIn X hr A _ E s k ?_)
  rcases hr2 with rfl | ⟨g, rfl⟩
  · refine wpAny_bind (wpAny_pure ?_)
    exact wpAny_pure q
  · refine wpAny_bind (wpAny_pure ?_)
    exact wpAny_pure q
/-- x op b, b of a type of Python's own, the class's def for op is asked -/
theorem jo_left {r rT : Option Value} {left : Bool} {Q : Option Value → Shared → Prop} (X : K.In s.heap) (I : InstAt s.heap x ox C od) (hc : selfFirst K C = true) (hb : s.TypeIs b T) (hfT : fillsNumberSlot (.type T) nm = pure left) (hsub : subIn K (.type T) (.ref C) = some false)
    (hs : findIn K (.ref C) (PySem.dunder nm) = some (some (.ref f))) (hr : findIn K (.ref C) (PySem.dunderR nm) = some r) (hr2 : r = none ∨ ∃ g, r = some (.ref g)) (hrT : typeLookup (.type T) (PySem.dunderR nm) = pure rT) (hf : isFn K (.ref f) = true)
    (h : wpAny (model prog w) A (call (.ref f) [.ref x, b]) (CmpBack fun v => Q (some v)) E s) : wpAny (model prog w) A (binaryOp1 nm (.ref x) b) Q E s := by
  obtain ⟨cd, hcd, hm⟩ := any_some hc
  obtain ⟨rest, hm⟩ : ∃ rest, cd.mro = .ref C :: rest := by
    cases q : cd.mro with
    | nil => rw [q] at hm; cases hm
    | cons a r => rw [q] at hm; exact ⟨r, by rw [List.head?_cons] at hm; cases (beq_iff_eq.mp hm); rfl⟩
  have goal2 : wpAny (model prog w) A (tryMethod (.ref x) (PySem.dunder nm) b) (fun v s' => ∃ u, v = some u ∧ Q (some u) s') E s := jo_try X I hs hf (wpAny_mono h (fun v s' hv => by
    cases v <;> first | exact hv.elim | exact ⟨_, rfl, hv⟩) fun _ _ e => e)
  unfold binaryOp1
  refine wpAny_bind (I.type.here (wpAny_bind (wpAny_typeOf hb (wpAny_bind ((fills_K X hcd hm hs).here ?_)))))
  have hne : ((Value.ref C) == (Value.type T)) = false := rfl
  simp only [hne, Bool.false_eq_true, if_false]
  refine wpAny_bind (wpAny_of_eq hfT ?_)
  have npT : numberSlotInPython (.type T) nm = pure false := rfl
  cases left with
  | false =>
    simp only [Bool.and_false, Bool.false_eq_true, if_false, Bool.false_and, Bool.true_and, if_true, pure_bind]
    refine wpAny_bind (wpAny_mono goal2 (fun v s' z => ?_) fun _ _ e => e)
    obtain ⟨u, rfl, z⟩ := z
    exact wpAny_pure z
  | true =>
    simp only [Bool.and_true, if_true]
    refine wpAny_bind ((looks_subIn X hsub).here ?_)
    simp only [Bool.false_eq_true, if_false, Bool.not_false, if_true, pure_bind, Bool.and_true]
    refine wpAny_bind ((jo_num X hs hr hr2).here ?_)
    simp only [if_true, npT, pure_bind, Bool.not_false]
    refine wpAny_bind (wpAny_of_eq hrT ?_)
    refine wpAny_bind (wpAny_mono goal2 (fun v s' z => ?_) fun _ _ e => e)
    obtain ⟨u, rfl, z⟩ := z
    exact wpAny_pure z
/-- a op x, a of a type of Python's own whose op declines: the class's reflected def is asked -/
theorem jo_right {a : Value} {id : String} {Q : Option Value → Shared → Prop} (X : K.In s.heap) (I : InstAt s.heap x ox C od) (hc : selfFirst K C = true) (ha : s.TypeIs a T) (hfT : fillsNumberSlot (.type T) nm = pure true) (hsub : subIn K (.ref C) (.type T) = some false)
    (hs : findIn K (.ref C) (PySem.dunder nm) = some (some (.ref f))) (hr : findIn K (.ref C) (PySem.dunderR nm) = some (some (.ref g))) (hl : Slot T (PySem.dunder nm) id) (hg : isFn K (.ref g) = true)
    (hd : ∀ Q' : Value → Shared → Prop, Q' .notImplemented s → wpAny (model prog w) A (call (.builtin id) [a, .ref x]) Q' E s)
    (h : wpAny (model prog w) A (call (.ref g) [.ref x, a]) (CmpBack fun v => Q (some v)) E s) : wpAny (model prog w) A (binaryOp1 nm a (.ref x)) Q E s := by
  obtain ⟨cd, hcd, hm⟩ := any_some hc
  obtain ⟨rest, hm⟩ : ∃ rest, cd.mro = .ref C :: rest := by
    cases q : cd.mro with
    | nil => rw [q] at hm; cases hm
    | cons a r => rw [q] at hm; exact ⟨r, by rw [List.head?_cons] at hm; cases (beq_iff_eq.mp hm); rfl⟩
  have goal2 : wpAny (model prog w) A (tryMethod (.ref x) (PySem.dunderR nm) a) (fun v s' => ∃ u, v = some u ∧ Q (some u) s') E s := jo_try X I hr hg (wpAny_mono h (fun v s' hv => by
    cases v <;> first | exact hv.elim | exact ⟨_, rfl, hv⟩) fun _ _ e => e)
  unfold binaryOp1
  refine wpAny_bind (wpAny_typeOf ha (wpAny_bind (I.type.here (wpAny_bind (wpAny_of_eq hfT ?_)))))
  have hne : ((Value.type T) == (Value.ref C)) = false := rfl
  simp only [hne, Bool.false_eq_true, if_false]
  refine wpAny_bind ((fills_K X hcd hm hs).here ?_)
  have npT : numberSlotInPython (.type T) nm = pure false := rfl
  simp only [Bool.and_true, if_true]
  refine wpAny_bind ((looks_subIn X hsub).here ?_)
  simp only [Bool.false_eq_true, if_false, Bool.not_false, if_true, pure_bind, Bool.and_true, npT]
  refine wpAny_bind (wpAny_tryMethod_declines ha hl (hd _ ⟨rfl, ?_⟩))
  refine wpAny_bind (wpAny_mono goal2 (fun v s' z => ?_) fun _ _ e => e)
  obtain ⟨u, rfl, z⟩ := z
  exact wpAny_bind (wpAny_rule (wpAny_pure z))
theorem jo_op {op : Operator} {a : Value} {Q : Value → Shared → Prop} (h : wpAny (model prog w) A (binaryOp1 op.info.2 a b) (fun v s' => ∃ u, v = some u ∧ Q u s') E s) : wpAny (model prog w) A (binaryOp op a b) Q E s := by
  unfold binaryOp
  refine wpAny_holding (wpAny_bind (wpAny_mono h (fun v s' z => ?_) fun _ _ e => e))
  obtain ⟨u, rfl, z⟩ := z
  exact wpAny_pure z
/-- both of the class -/
theorem jo_same {Q : Option Value → Shared → Prop} (X : K.In s.heap) (I : InstAt s.heap x ox C od) (hc : selfFirst K C = true) (hb : Looks (model prog w) s.heap (typeOf b) (.ref C))
    (hs : findIn K (.ref C) (PySem.dunder nm) = some (some (.ref f))) (hf : isFn K (.ref f) = true)
    (h : wpAny (model prog w) A (call (.ref f) [.ref x, b]) (CmpBack fun v => Q (some v)) E s) : wpAny (model prog w) A (binaryOp1 nm (.ref x) b) Q E s := by
  obtain ⟨cd, hcd, hm⟩ := any_some hc
  obtain ⟨rest, hm⟩ : ∃ rest, cd.mro = .ref C :: rest := by
    cases q : cd.mro with
    | nil => rw [q] at hm; cases hm
    | cons a r => rw [q] at hm; exact ⟨r, by rw [List.head?_cons] at hm; cases (beq_iff_eq.mp hm); rfl⟩
  have goal2 : wpAny (model prog w) A (tryMethod (.ref x) (PySem.dunder nm) b) (fun v s' => ∃ u, v = some u ∧ Q (some u) s') E s := jo_try X I hs hf (wpAny_mono h (fun v s' hv => by
    cases v <;> first | exact hv.elim | exact ⟨_, rfl, hv⟩) fun _ _ e => e)
  unfold binaryOp1
  refine wpAny_bind (I.type.here (wpAny_bind (hb.here (wpAny_bind ((fills_K X hcd hm hs).here ?_)))))
  simp only [beq_self_eq_true, if_true]
  refine wpAny_bind (wpAny_pure ?_)
  simp only [Bool.and_false, Bool.false_eq_true, if_false, Bool.false_and, pure_bind, if_true]
  refine wpAny_bind (wpAny_mono goal2 (fun v s' z => ?_) fun _ _ e => e)
  obtain ⟨u, rfl, z⟩ := z
  exact wpAny_pure z
/-- -x -/
theorem jo_neg {Q : Value → Shared → Prop} (X : K.In s.heap) (I : InstAt s.heap x ox C od) (hs : findIn K (.ref C) "__neg__" = some (some (.ref f))) (hf : isFn K (.ref f) = true)
    (h : wpAny (model prog w) A (call (.ref f) [.ref x]) Q E s) : wpAny (model prog w) A (unaryOp .USub (.ref x)) Q E s := by
  unfold unaryOp
  refine wpAny_holding ?_
  simp only [show (UnaryOp.USub == UnaryOp.Not) = false from rfl, Bool.false_eq_true, if_false, pure_bind]
  exact wpAny_bind (special_fn X I hs (beq_iff_eq.mp hf) (wpAny_mono h (fun v s' hv => wpAny_pure hv) fun _ _ e => e))
/-- x == b, x < b ..: the class's own def, b of another type or of the class -/
theorem jo_bin {op : CmpOp} {tb : Value} {Q : Value → Shared → Prop} (hu : A.units < cLine) (X : K.In s.heap) (I : InstAt s.heap x ox C od) (hb : Looks (model prog w) s.heap (typeOf b) tb) (hn : notFirst K C tb = true)
    (hs : findIn K (.ref C) (cmpInfo op).2.1 = some (some (.ref f))) (hf : isFn K (.ref f) = true)
    (h : wpAny (model prog w) A (call (.ref f) [.ref x, b]) (CmpBack Q) E s) : wpAny (model prog w) A (richCompare op (.ref x) b) Q E s := by
  have one : wpAny (model prog w) A (tryCompare (.ref x) (cmpInfo op).2.1 b) (fun r s' => ∃ v, r = some v ∧ Q v s') E s := jo_cmp X I hs hf (wpAny_mono h (fun v s' hv => by
    cases v <;> first | exact hv.elim | exact ⟨_, rfl, hv⟩) fun _ _ e => e)
  unfold richCompare
  simp only [oneThing_ref]
  refine wpAny_holding (wpAny_bind (wpAny_cRoomFor hu ?_))
  refine wpAny_bind (I.type.here (wpAny_bind (hb.here ?_)))
  split
  · rename_i q
    have e : subIn K tb (.ref C) = some false := by
      rcases Bool.or_eq_true_iff.mp hn with e | e
      · rw [beq_iff_eq.mp e] at q; simp at q
      · exact beq_iff_eq.mp e
    refine wpAny_bind ((looks_subIn X e).here ?_)
    simp only [Bool.false_eq_true, if_false]
    refine wpAny_bind (wpAny_mono one (fun r s' z => ?_) fun _ _ e => e)
    obtain ⟨v, rfl, hq⟩ := z
    exact wpAny_pure hq
  · refine wpAny_bind (wpAny_pure ?_)
    simp only [Bool.false_eq_true, if_false]
    refine wpAny_bind (wpAny_mono one (fun r s' z => ?_) fun _ _ e => e)
    obtain ⟨v, rfl, hq⟩ := z
    exact wpAny_pure hq
/-- a == x, a of a type of Python's own that declines -/
theorem jo_eqR {a : Value} {id : String} {Q : Value → Shared → Prop} (hu : A.units < cLine) (X : K.In s.heap) (I : InstAt s.heap x ox C od) (ha : s.TypeIs a T) (hsub : subIn K (.ref C) (.type T) = some false)
    (hs : findIn K (.ref C) "__eq__" = some (some (.ref f))) (hl : Slot T (cmpInfo .Eq).2.1 id) (hf : isFn K (.ref f) = true)
    (hd : ∀ Q' : Value → Shared → Prop, Q' .notImplemented s → wpAny (model prog w) A (call (.builtin id) [a, .ref x]) Q' E s)
    (h : wpAny (model prog w) A (call (.ref f) [.ref x, a]) (CmpBack Q) E s) : wpAny (model prog w) A (richCompare .Eq a (.ref x)) Q E s := by
  have one : wpAny (model prog w) A (tryCompare (.ref x) (cmpInfo .Eq).2.2 a) (fun r s' => ∃ v, r = some v ∧ Q v s') E s := jo_cmp X I hs hf (wpAny_mono h (fun v s' hv => by
    cases v <;> first | exact hv.elim | exact ⟨_, rfl, hv⟩) fun _ _ e => e)
  unfold richCompare
  simp only [ha.oneThing_none]
  refine wpAny_holding (wpAny_bind (wpAny_cRoomFor hu ?_))
  refine wpAny_bind (wpAny_typeOf ha (wpAny_bind (I.type.here ?_)))
  have hne : (Value.type T != Value.ref C) = true := rfl
  simp only [hne, if_true]
  refine wpAny_bind ((looks_subIn X hsub).here ?_)
  simp only [Bool.false_eq_true, if_false, Bool.not_false, if_true]
  refine wpAny_bind (m := tryCompare a _ (.ref x)) (wpAny_tryCompare_declines ha hl (hd _ ⟨rfl, ?_⟩))
  refine wpAny_bind (wpAny_mono one (fun r s' z => ?_) fun _ _ e => e)
  obtain ⟨v, rfl, hq⟩ := z
  exact wpAny_pure hq
/-! ### what declines an instance -/
section
variable {E' : Value → Shared → Prop}
theorem jo_inst_no {M : Model} (X : K.In s.heap) (I : InstAt s.heap x ox C od) (hsub : subIn K (.ref C) (.type T) = some false) : Looks M s.heap (isInstance (.ref x) (.type T)) false := by
  intro A Q E s' k q
  unfold isInstance
  refine wpAny_bind (I.type A _ E s' k ?_)
  exact looks_subIn X hsub A _ E s' k q
theorem jo_slotArgs {M : Model} {n : String} {a c : Value} {Q : Value × List Value → Shared → Prop} (h : Q (a, [c]) s) : wpAny M A (slotArgs n 1 ⟨[a, c], []⟩) Q E s := by
  unfold slotArgs
  simp only [List.isEmpty_nil, Bool.not_true, Bool.false_eq_true, if_false, List.length_cons, List.length_nil, bne_self_eq_false, pure_bind]
  exact wpAny_pure h
theorem jo_asInt {name : String} {fn : Int → Int → Sem Fin} {rf : Bool} {Q : Value → Shared → Prop} {a : Value} (ha : (∃ i t, a = .int i t) ∨ ∃ b, a = .bool b) (hx : s.heap.get? x = some ox) (hp : ox.data = .plain) (h : Q .notImplemented s) :
    wpAny (model prog w) A (Builtin.Int.intBinary name fn rf ⟨[a, .ref x], []⟩) (fun fin s' => ∃ v, fin = Fin.done (.ret v) ∧ Q v s') E s := by
  unfold Builtin.Int.intBinary
  refine wpAny_bind (jo_slotArgs ?_)
  unfold Builtin.Int.intOfSelf
  rcases ha with ⟨i, t, rfl⟩ | ⟨b, rfl⟩
  · refine wpAny_bind (wpAny_bind (wpAny_pure (wpAny_pure ?_)))
    unfold asInt?
    refine wpAny_bind (wpAny_bind (wpAny_load hx ?_))
    rw [hp]
    exact wpAny_pure (wpAny_bind (wpAny_rule (wpAny_pure ⟨_, rfl, h⟩)))
  · refine wpAny_bind (wpAny_bind (wpAny_pure (wpAny_pure ?_)))
    unfold asInt?
    refine wpAny_bind (wpAny_bind (wpAny_load hx ?_))
    rw [hp]
    exact wpAny_pure (wpAny_bind (wpAny_rule (wpAny_pure ⟨_, rfl, h⟩)))
variable {Q : Value → Shared → Prop}
theorem jo_add {i : Int} {t : Tok} (hx : s.heap.get? x = some ox) (hp : ox.data = .plain) (h : Q .notImplemented s) : wpAny (model prog w) A (call (.builtin "int.__add__") [.int i t, .ref x]) Q E s :=
  wpAny_call_entry PySem.F.slot_int_add (typeIs_int s i t) PySem.F.entry_int_add (jo_asInt (.inl ⟨i, t, rfl⟩) hx hp h) (PySem.F.args_int_add_2 _ _)
theorem jo_sub {i : Int} {t : Tok} (hx : s.heap.get? x = some ox) (hp : ox.data = .plain) (h : Q .notImplemented s) : wpAny (model prog w) A (call (.builtin "int.__sub__") [.int i t, .ref x]) Q E s :=
  wpAny_call_entry PySem.F.slot_int_sub (typeIs_int s i t) PySem.F.entry_int_sub (jo_asInt (.inl ⟨i, t, rfl⟩) hx hp h) (PySem.F.args_int_sub_2 _ _)
theorem jo_mul {i : Int} {t : Tok} (hx : s.heap.get? x = some ox) (hp : ox.data = .plain) (h : Q .notImplemented s) : wpAny (model prog w) A (call (.builtin "int.__mul__") [.int i t, .ref x]) Q E s :=
  wpAny_call_entry PySem.F.slot_int_mul (typeIs_int s i t) PySem.F.entry_int_mul (jo_asInt (.inl ⟨i, t, rfl⟩) hx hp h) (PySem.F.args_int_mul_2 _ _)
theorem jo_eqI {i : Int} {t : Tok} (hx : s.heap.get? x = some ox) (hp : ox.data = .plain) (h : Q .notImplemented s) : wpAny (model prog w) A (call (.builtin "int.__eq__") [.int i t, .ref x]) Q E s :=
  wpAny_call_entry PySem.F.slot_int_eq (typeIs_int s i t) PySem.F.entry_int_eq (jo_asInt (.inl ⟨i, t, rfl⟩) hx hp h) (PySem.F.args_int_eq_2 _ _)
theorem jo_eqB {b : Bool} (hx : s.heap.get? x = some ox) (hp : ox.data = .plain) (h : Q .notImplemented s) : wpAny (model prog w) A (call (.builtin "int.__eq__") [.bool b, .ref x]) Q E s :=
  wpAny_call_entry PySem.F.slot_bool_eq rfl PySem.F.entry_int_eq (jo_asInt (.inr ⟨b, rfl⟩) hx hp h) (PySem.F.args_int_eq_2 _ _)
theorem jo_eqN (h : Q .notImplemented s) : wpAny (model prog w) A (call (.builtin "NoneType.__eq__") [.none, .ref x]) Q E s := by
  refine wpAny_call_entry PySem.F.slot_NoneType_eq rfl PySem.F.entry_NoneType_eq ?_ (PySem.F.args_NoneType_eq_2 _ _)
  unfold Builtin.«NoneType.__eq__»
  exact wpAny_bind (jo_slotArgs (wpAny_pure ⟨_, rfl, h⟩))
theorem jo_eqS {z : Str} {t : Tok} (hx : s.heap.get? x = some ox) (hp : ox.data = .plain) (h : Q .notImplemented s) : wpAny (model prog w) A (call (.builtin "str.__eq__") [.str z t, .ref x]) Q E s := by
  refine wpAny_call_entry PySem.F.slot_str_eq (typeIs_str s z t) PySem.F.entry_str_eq ?_ (PySem.F.args_str_eq_2 _ _)
  unfold Builtin.«str.__eq__» Builtin.Str.strCompare Builtin.Str.strSlot
  refine wpAny_bind (wpAny_bind (jo_slotArgs (wpAny_bind (wpAny_pure (wpAny_pure ?_)))))
  unfold asStr?
  refine wpAny_bind (wpAny_bind (wpAny_load hx ?_))
  rw [hp]
  exact wpAny_pure (wpAny_bind (wpAny_rule (wpAny_pure ⟨_, rfl, h⟩)))
theorem jo_eqL {l : Addr} (X : K.In s.heap) (I : InstAt s.heap x ox C od) (hl : s.TypeIs (.ref l) "list") (hsub : subIn K (.ref C) (.type "list") = some false) (h : Q .notImplemented s) : wpAny (model prog w) A (call (.builtin "list.__eq__") [.ref l, .ref x]) Q E s := by
  refine wpAny_call_entry PySem.F.slot_list_eq hl PySem.F.entry_list_eq ?_ (PySem.F.args_list_eq_2 _ _)
  show wpAny _ _ (slotArgs "__eq__" 1 ⟨[.ref l, .ref x], []⟩ >>= _) _ _ s
  refine wpAny_bind (jo_slotArgs ?_)
  refine wpAny_bind ((jo_inst_no X I hsub).here ?_)
  exact wpAny_bind (wpAny_pure (wpAny_pure ⟨_, rfl, h⟩))
theorem jo_eqT {l : Addr} (X : K.In s.heap) (I : InstAt s.heap x ox C od) (hl : s.TypeIs (.ref l) "tuple") (hsub : subIn K (.ref C) (.type "tuple") = some false) (h : Q .notImplemented s) : wpAny (model prog w) A (call (.builtin "tuple.__eq__") [.ref l, .ref x]) Q E s := by
  refine wpAny_call_entry PySem.F.slot_tuple_eq hl PySem.F.entry_tuple_eq ?_ (PySem.F.args_tuple_eq_2 _ _)
  show wpAny _ _ (slotArgs "__eq__" 1 ⟨[.ref l, .ref x], []⟩ >>= _) _ _ s
  refine wpAny_bind (jo_slotArgs ?_)
  refine wpAny_bind ((jo_inst_no X I hsub).here ?_)
  exact wpAny_bind (wpAny_pure (wpAny_pure ⟨_, rfl, h⟩))
theorem jo_eqD {l : Addr} (X : K.In s.heap) (I : InstAt s.heap x ox C od) (hl : s.TypeIs (.ref l) "dict") (hsub : subIn K (.ref C) (.type "dict") = some false) (h : Q .notImplemented s) : wpAny (model prog w) A (call (.builtin "dict.__eq__") [.ref l, .ref x]) Q E s := by
  refine wpAny_call_entry PySem.F.slot_dict_eq hl PySem.F.entry_dict_eq ?_ (PySem.F.args_dict_eq_2 _ _)
  show wpAny _ _ (Builtin.Dict.dictSlotArgs "__eq__" ⟨[.ref l, .ref x], []⟩ >>= _) _ _ s
  refine wpAny_bind ?_
  unfold Builtin.Dict.dictSlotArgs Builtin.Dict.notOrdered
  refine wpAny_bind (wpAny_pure (wpAny_bind (jo_slotArgs (wpAny_pure ?_))))
  refine wpAny_bind ((jo_inst_no X I hsub).here ?_)
  exact wpAny_bind (wpAny_rule (wpAny_bind (wpAny_pure (wpAny_pure ⟨_, rfl, h⟩))))
/-! ### x op= b, and x != b -/
def mroTwo (K : Frag) (C : Addr) : Bool := (clsIn K C).any fun cd => cd.mro == [.ref C, .type "object"]
theorem jo_noI {M : Model} {h : Heap} {add : Bool} (X : K.In h) (hc : mroTwo K C = true) (hn : findIn K (.ref C) (PySem.dunderI nm) = some none) (ho : typeLookup (.type "object") (PySem.dunderI nm) = pure none) : Looks M h (fillsInplaceSlot (.ref C) nm add) false := by
  obtain ⟨cd, hcd, hm⟩ := any_some hc
  intro A Q E s k q
  unfold fillsInplaceSlot
  refine wpAny_bind ((looks_clsIn X hcd).andThen (f := fun cd => pure cd.mro) .now A _ E s k ?_)
  rw [eq_of_beq hm, List.anyM_cons]
  refine wpAny_bind (wpAny_bind (looks_findIn X hn A _ E s k ?_))
  refine wpAny_pure ?_
  simp only [Bool.false_eq_true, if_false]
  rw [List.anyM_cons]
  refine wpAny_bind (wpAny_bind (wpAny_of_eq ho ?_))
  refine wpAny_pure ?_
  simp only [Bool.false_eq_true, if_false, List.anyM_nil]
  exact wpAny_pure q
theorem jo_inpl {op : Operator} {Q : Value → Shared → Prop} (X : K.In s.heap) (I : InstAt s.heap x ox C od) (hc : mroTwo K C = true) (hn : findIn K (.ref C) (PySem.dunderI op.info.2) = some none) (ho : typeLookup (.type "object") (PySem.dunderI op.info.2) = pure none)
    (h : wpAny (model prog w) A (binaryOp1 op.info.2 (.ref x) b) (fun v s' => ∃ u, v = some u ∧ Q u s') E s) : wpAny (model prog w) A (inplaceOp op (.ref x) b) Q E s := by
  unfold inplaceOp
  refine wpAny_holding (wpAny_bind (I.type.here (wpAny_bind ((jo_noI X hc hn ho).here ?_))))
  simp only [Bool.false_eq_true, if_false]
  refine wpAny_bind (wpAny_mono h (fun v s' z => ?_) fun _ _ e => e)
  obtain ⟨u, rfl, z⟩ := z
  exact wpAny_pure z
theorem ne_bind (self : Value) : bindSpecial (.builtin "object.__ne__") self = pure (.builtin "object.__ne__", [self]) :=
  (Slot.of (T := "object") (name := "__ne__") (owner := "object") (n := "__ne__") (by rw [typeLookup_type, builtinLookup_eq_fast]; kernel_rfl) (by decide +kernel) (by decide +kernel) (by decide +kernel)
    (.inl (by decide +kernel)) (by rw [isSubtype_type]; kernel_rfl)).bind self
theorem ne_plain : (Code.builtin "object.__ne__" ⟨[], []⟩).quiet = true := by decide +kernel
theorem jo_ne {tb : Value} {Q : Value → Shared → Prop} (hu : A.units + 8 < cLine) (X : K.In s.heap) (I : InstAt s.heap x ox C od) (hb : Looks (model prog w) s.heap (typeOf b) tb) (hn : notFirst K C tb = true) (hob : subIn K (.ref C) (.type "object") = some true)
    (hne : findIn K (.ref C) "__ne__" = some (some (.builtin "object.__ne__"))) (hs : findIn K (.ref C) "__eq__" = some (some (.ref f))) (hf : isFn K (.ref f) = true)
    (h : wpAny (model prog w) A.in1 (call (.ref f) [.ref x, b]) (fun v s' => ∃ c, v = .bool c ∧ Q (.bool (!c)) s') E s) : wpAny (model prog w) A (richCompare .NotEq (.ref x) b) Q E s := by
  have body : wpAny (model prog w) A.in1 (Builtin.«object.__ne__» ⟨[.ref x, b], []⟩) (fun fin s' => ∃ c, fin = Fin.done (.ret (.bool c)) ∧ Q (.bool c) s') E s := by
    unfold Builtin.«object.__ne__»
    refine wpAny_bind (jo_slotArgs ?_)
    refine wpAny_bind (wpAny_cRoomFor (by show A.units + 1 < cLine; omega) ?_)
    refine wpAny_bind (ifBound_K X I hs hf (wpAny_mono h (fun v s' z => ?_) fun _ _ e => e))
    obtain ⟨c, rfl, z⟩ := z
    exact wpAny_bind (wpAny_truthy_bool (wpAny_pure ⟨_, rfl, z⟩))
  have hinst : Looks (model prog w) s.heap (isInstance (.ref x) (.type "object")) true := by
    intro A Q E s' k q
    unfold isInstance
    refine wpAny_bind (I.type A _ E s' k ?_)
    exact looks_subIn X hob A _ E s' k q
  have hcall : wpAny (model prog w) A (call (.builtin "object.__ne__") [.ref x, b]) (fun v s' => ∃ c, v = .bool c ∧ Q (.bool c) s') E s := by
    refine wpAny_call (codeAny_call_builtin (by decide +kernel) PySem.F.cmpEntry_ne (check_slot PySem.F.cmpKind_ne PySem.F.cmpSplit_ne hinst (PySem.F.cmpArgs_ne _ _) (wpAny_mono body (fun fin s' z => ?_) fun _ _ e => e)))
    obtain ⟨c, rfl, z⟩ := z
    exact ⟨c, rfl, z⟩
  have one : wpAny (model prog w) A (tryCompare (.ref x) (cmpInfo .NotEq).2.1 b) (fun r s' => ∃ v, r = some v ∧ Q v s') E s := by
    unfold tryCompare
    refine wpAny_bind ?_
    simp only [callSpecialIfBound?, bindSpecialIfBound?]
    refine wpAny_holding (wpAny_bind (wpAny_bind (wpAny_bind (I.type.here ((looks_findIn X hne).here ?_)))))
    simp only [ne_bind]
    refine wpAny_bind (wpAny_askSetting (wpAny_ite ?_))
    split
    · refine wpAny_bind (wpAny_pure (wpAny_pure ?_))
      exact wpAny_bind (wpAny_mono hcall (fun v s' z => by
        obtain ⟨c, rfl, z⟩ := z
        exact wpAny_pure (wpAny_pure ⟨_, rfl, z⟩)) fun _ _ h' => h')
    · refine wpAny_tryCatch (wpAny_bind (wpAny_pure (wpAny_pure ?_)))
      exact wpAny_bind (wpAny_mono hcall (fun v s' z => by
        obtain ⟨c, rfl, z⟩ := z
        exact wpAny_pure (wpAny_pure ⟨_, rfl, z⟩)) fun _ _ h' => h')
  unfold richCompare
  simp only [oneThing_ref]
  refine wpAny_holding (wpAny_bind (wpAny_cRoomFor (by omega) ?_))
  refine wpAny_bind (I.type.here (wpAny_bind (hb.here ?_)))
  split
  · rename_i q
    have e : subIn K tb (.ref C) = some false := by
      rcases Bool.or_eq_true_iff.mp hn with e | e
      · rw [beq_iff_eq.mp e] at q; simp at q
      · exact beq_iff_eq.mp e
    refine wpAny_bind ((looks_subIn X e).here ?_)
    simp only [Bool.false_eq_true, if_false]
    refine wpAny_bind (wpAny_mono one (fun r s' z => ?_) fun _ _ e => e)
    obtain ⟨v, rfl, hq⟩ := z
    exact wpAny_pure hq
  · refine wpAny_bind (wpAny_pure ?_)
    simp only [Bool.false_eq_true, if_false]
    refine wpAny_bind (wpAny_mono one (fun r s' z => ?_) fun _ _ e => e)
    obtain ⟨v, rfl, hq⟩ := z
    exact wpAny_pure hq
end
end
end PySem.W

set_option Elab.async false
set_option linter.all false
set_option maxRecDepth 100000
set_option maxHeartbeats 4000000
/-! J7: the operators of an own class, as rules; its making in a try. -/
namespace J
open PySem PySem.Spec PyProof.Rows L2

/-- what the class must have for op: its def and its reflected def -/
structure OpC (K : PySem.W.Frag) (C : Addr) (nm : String) (f g : Addr) : Prop where
  l : PySem.W.findIn K (.ref C) (PySem.dunder nm) = some (some (.ref f))
  lf : PySem.W.isFn K (.ref f) = true
  r : PySem.W.findIn K (.ref C) (PySem.dunderR nm) = some (some (.ref g))
  rf : PySem.W.isFn K (.ref g) = true
  no : PySem.W.findIn K (.ref C) (PySem.dunderI nm) = some none
structure OwnC (K : PySem.W.Frag) (C : Addr) : Prop where
  me : PySem.W.selfFirst K C = true
  two : PySem.W.mroTwo K C = true
  ob : PySem.W.subIn K (.ref C) (.type "object") = some true
/-- T is no class of its, nor it one of T's -/
structure Apart (K : PySem.W.Frag) (C : Addr) (T : String) : Prop where
  a : PySem.W.subIn K (.type T) (.ref C) = some false
  b : PySem.W.subIn K (.ref C) (.type T) = some false
section
variable {X : Cx} {pins : List (Addr × Obj)} {σ : L2.St} {H : Hp} {s : Shared} {x : V} {u : Value} {T : String}
theorem ty_is (I : Inv X pins σ H s) (rx : RelV x u) (ty : TyOf X.K H x (.type T)) : s.TypeIs u T := by
  cases ty with
  | non => cases (show u = Value.none from rx); rfl
  | bl y => cases (show u = Value.bool y from rx); rfl
  | int i => obtain ⟨t, q⟩ := (show ∃ t, u = Value.int i t from rx); cases q; rfl
  | str y => obtain ⟨t, q⟩ := (show ∃ t, u = Value.str y t from rx); cases q; rfl
  | flt y => obtain ⟨t, q⟩ := (show ∃ t, u = Value.float y t from rx); cases q; rfl
  | @lst a xs ea =>
    cases (show u = Value.ref a from rx)
    obtain ⟨_, _, n, _, h1⟩ := (show ObjOk X.prog X.w H s.heap a (.lst xs) from I.hok a _ ea)
    exact ⟨_, h1, rfl⟩
  | @frz a ob xs ea =>
    cases (show u = Value.ref a from rx)
    obtain ⟨_, _, _, n, _, h1⟩ := (show ObjOk X.prog X.w H s.heap a (.frz ob (.lst xs)) from I.hok a _ ea)
    exact ⟨_, h1, rfl⟩
  | @tup a xs ea =>
    cases (show u = Value.ref a from rx)
    obtain ⟨_, _, _, p⟩ := (show ObjOk X.prog X.w H s.heap a (.tup xs) from I.hok a _ ea)
    obtain ⟨o, h1, h2, _⟩ := p
    exact ⟨o, h1, h2⟩
  | @dK a kvs ea =>
    cases (show u = Value.ref a from rx)
    obtain ⟨_, _, vs, _, p⟩ := (show ObjOk X.prog X.w H s.heap a (.dK kvs) from I.hok a _ ea)
    obtain ⟨o, es, ep, h1, h2, _⟩ := p
    exact ⟨o, h1, h2.1⟩
  | @dT a kvs ea =>
    cases (show u = Value.ref a from rx)
    obtain ⟨_, _, xs, _, o, es, ep, h1, h2, _⟩ := (show ObjOk X.prog X.w H s.heap a (.dT kvs) from I.hok a _ ea)
    exact ⟨o, h1, h2.1⟩
theorem ins_inst {a C dx : Addr} {fs : List (Str × V)} (I : Inv X pins σ H s) (ea : H a = some (.ins C dx fs)) : ∃ od, PySem.W.InstAt s.heap a (PySem.W.instObj C dx) C (some od) := by
  obtain ⟨mA, O, _⟩ := ins_get I.hok ea
  obtain ⟨od, J, _⟩ := O.look
  exact ⟨od, J⟩
theorem ty_look {M : Model} (h : s.TypeIs u T) : PySem.W.Looks M s.heap (typeOf u) (.type T) := by
  intro A Q E s' k q
  refine wpAny_typeOf ?_ q
  cases u with
  | ref a => obtain ⟨o, e, c⟩ := h; exact ⟨o, k _ _ e, c⟩
  | _ => exact h
end
section
variable {X : Cx} {CX : CXT} {k : Nat} {C f g : Addr} {fd : FuncData} {ps : List Str} {sp : Sp} {E : XK} {op : Operator}
def rOwnL (C : Addr) (sp : Sp) (E : XK) : R2 := fun x y H Q => ∃ a dx fs, x = .ref a ∧ H a = some (.ins C dx fs) ∧ ((∃ i, y = .int i) ∨ ∃ b dy gs, y = .ref b ∧ H b = some (.ins C dy gs)) ∧ sp [x, y] H Q E
def rOwnR (C : Addr) (sp : Sp) (E : XK) : R2 := fun x y H Q => ∃ i a dx fs, x = .int i ∧ y = .ref a ∧ H a = some (.ins C dx fs) ∧ sp [y, x] H Q E
theorem own_some {P : Value → Shared → Prop} {z : V} {v : Value} {s' : Shared} (r : RelV z v) (h : P v s') : PySem.W.CmpBack (fun v s' => ∃ u, some v = some u ∧ P u s') v s' :=
  SlX.cmpback (P := fun v s' => ∃ u, some v = some u ∧ P u s') r ⟨v, rfl, h⟩
theorem binop1_own {rT : Option Value} {left : Bool} (O : OwnC X.K C) (S : OpC X.K C op.info.2 f g) (Ai : Apart X.K C "int") (hT : fillsNumberSlot (.type "int") op.info.2 = pure left) (hrT : typeLookup (.type "int") (PySem.dunderR op.info.2) = pure rT)
    (F : FnOk X.prog X.w X.K X.mg X.base CX k f fd ps sp) (hr : Room k X.A) (hb : Binds X.K fd ps []) (hx : Passes CX X E) {pins : List (Addr × Obj)} {σ : L2.St} {H : Hp} {s : Shared} {x y : V} {v u : Value} {Q : VK}
    (I : Inv X pins σ H s) (rx : RelV x v) (ry : RelV y u) (h : rOwnL C sp E x y H Q) :
    wpAny (model X.prog X.w) X.A (binaryOp1 op.info.2 v u) (fun v s' => ∃ u, v = some u ∧ EP X pins σ Q u s') X.xe s ∧ ∃ a dx od, v = .ref a ∧ PySem.W.InstAt s.heap a (PySem.W.instObj C dx) C (some od) := by
  obtain ⟨a, dx, fs, rfl, ha, hy, q⟩ := h
  cases (show v = Value.ref a from rx)
  obtain ⟨od, J⟩ := ins_inst I ha
  have run : wpAny (model X.prog X.w) X.A (call (.ref f) [.ref a, u]) (PySem.W.CmpBack fun v s' => ∃ u, some v = some u ∧ EP X pins σ Q u s') X.xe s :=
    wpAny_mono (run_fn (us := [.ref a, u]) (vs := [.ref a, y]) F hr hb .nil hx I (.cons rfl (.cons ry .nil)) q) (fun w s' ⟨z, H', I', rz, qz⟩ => own_some rz ⟨z, H', I', rz, qz⟩) fun _ _ e => e
  refine ⟨?_, a, dx, od, rfl, J⟩
  rcases hy with ⟨i, rfl⟩ | ⟨b, dy, gs, rfl, hb'⟩
  · obtain ⟨t, rfl⟩ := (show ∃ t, u = Value.int i t from ry)
    exact PySem.W.jo_left I.kIn J O.me (typeIs_int s i t) hT Ai.a S.l S.r (Or.inr ⟨_, rfl⟩) hrT S.lf run
  · cases (show u = Value.ref b from ry)
    obtain ⟨od', J'⟩ := ins_inst I hb'
    exact PySem.W.jo_same I.kIn J O.me J'.type S.l S.lf run
/-- x op y, x an instance of the class at C, y an int or one too -/
theorem op_ownL {rT : Option Value} {left : Bool} (O : OwnC X.K C) (S : OpC X.K C op.info.2 f g) (Ai : Apart X.K C "int") (hT : fillsNumberSlot (.type "int") op.info.2 = pure left) (hrT : typeLookup (.type "int") (PySem.dunderR op.info.2) = pure rT)
    (F : FnOk X.prog X.w X.K X.mg X.base CX k f fd ps sp) (hr : Room k X.A) (hb : Binds X.K fd ps []) (hx : Passes CX X E) : OpR X (binaryOp op) (rOwnL C sp E) :=
  fun pins s σ H x y v u Q I rx ry h => PySem.W.jo_op (binop1_own O S Ai hT hrT F hr hb hx I rx ry h).1
/-- x op= y -/
theorem iop_ownL {rT : Option Value} {left : Bool} (O : OwnC X.K C) (S : OpC X.K C op.info.2 f g) (Ai : Apart X.K C "int") (hT : fillsNumberSlot (.type "int") op.info.2 = pure left) (hrT : typeLookup (.type "int") (PySem.dunderR op.info.2) = pure rT) (ho : typeLookup (.type "object") (PySem.dunderI op.info.2) = pure none)
    (F : FnOk X.prog X.w X.K X.mg X.base CX k f fd ps sp) (hr : Room k X.A) (hb : Binds X.K fd ps []) (hx : Passes CX X E) : OpR X (inplaceOp op) (rOwnL C sp E) := by
  intro pins s σ H x y v u Q I rx ry h
  obtain ⟨h1, a, dx, od, rfl, J⟩ := binop1_own O S Ai hT hrT F hr hb hx I rx ry h
  exact PySem.W.jo_inpl I.kIn J O.two S.no ho h1
/-- x op y, x an int, y an instance: its reflected def; dec: the int's own declines -/
theorem op_ownR {id : String} (O : OwnC X.K C) (S : OpC X.K C op.info.2 f g) (Ai : Apart X.K C "int") (hT : fillsNumberSlot (.type "int") op.info.2 = pure true) (hl : Slot "int" (PySem.dunder op.info.2) id)
    (dec : ∀ (s : Shared) (a : Addr) (ox : Obj) (i : Int) (t : Tok) (Q' : Value → Shared → Prop), s.heap.get? a = some ox → ox.data = .plain → Q' .notImplemented s → wpAny (model X.prog X.w) X.A (call (.builtin id) [.int i t, .ref a]) Q' X.xe s)
    (F : FnOk X.prog X.w X.K X.mg X.base CX k g fd ps sp) (hr : Room k X.A) (hb : Binds X.K fd ps []) (hx : Passes CX X E) : OpR X (binaryOp op) (rOwnR C sp E) := by
  intro pins s σ H x y v u Q I rx ry h
  obtain ⟨i, a, dx, fs, rfl, rfl, ha, q⟩ := h
  obtain ⟨t, rfl⟩ := (show ∃ t, v = Value.int i t from rx)
  cases (show u = Value.ref a from ry)
  obtain ⟨od, J⟩ := ins_inst I ha
  refine PySem.W.jo_op (PySem.W.jo_right I.kIn J O.me (typeIs_int s i t) hT Ai.b S.l S.r hl S.rf (fun Q' q' => dec s a _ i t Q' J.at_ rfl q') ?_)
  exact wpAny_mono (run_fn (us := [.ref a, .int i t]) (vs := [.ref a, .int i]) F hr hb .nil hx I (.cons rfl (.cons ⟨t, rfl⟩ .nil)) q) (fun w s' ⟨z, H', I', rz, qz⟩ => own_some rz ⟨z, H', I', rz, qz⟩) fun _ _ e => e
def rOwnU (C : Addr) (sp : Sp) (E : XK) : V → Hp → VK → Prop := fun x H Q => ∃ a dx fs, x = .ref a ∧ H a = some (.ins C dx fs) ∧ sp [x] H Q E
/-- -x -/
theorem un_own (hs : PySem.W.findIn X.K (.ref C) "__neg__" = some (some (.ref f))) (hf : PySem.W.isFn X.K (.ref f) = true)
    (F : FnOk X.prog X.w X.K X.mg X.base CX k f fd ps sp) (hr : Room k X.A) (hb : Binds X.K fd ps []) (hx : Passes CX X E) : UnR X (unaryOp .USub) (rOwnU C sp E) := by
  intro pins s σ H x v Q I rx h
  obtain ⟨a, dx, fs, rfl, ha, q⟩ := h
  cases (show v = Value.ref a from rx)
  obtain ⟨od, J⟩ := ins_inst I ha
  exact PySem.W.jo_neg I.kIn J hs hf (run_fn (us := [.ref a]) (vs := [.ref a]) F hr hb .nil hx I (.cons rfl .nil) q)
/-- x == y, x an instance, y of another type or one too -/
def rOwnEq (K : PySem.W.Frag) (C : Addr) (sp : Sp) (E : XK) : R2 := fun x y H Q => ∃ a dx fs, x = .ref a ∧ H a = some (.ins C dx fs) ∧ ((∃ T, TyOf K H y (.type T) ∧ PySem.W.subIn K (.type T) (.ref C) = some false) ∨ ∃ b dy gs, y = .ref b ∧ H b = some (.ins C dy gs)) ∧ sp [x, y] H Q E
theorem own_tb {pins : List (Addr × Obj)} {σ : L2.St} {H : Hp} {s : Shared} {y : V} {u : Value} (I : Inv X pins σ H s) (ry : RelV y u) (h : (∃ T, TyOf X.K H y (.type T) ∧ PySem.W.subIn X.K (.type T) (.ref C) = some false) ∨ ∃ b dy gs, y = .ref b ∧ H b = some (.ins C dy gs)) :
    ∃ tb, PySem.W.Looks (model X.prog X.w) s.heap (typeOf u) tb ∧ PySem.W.notFirst X.K C tb = true := by
  rcases h with ⟨T, ty, hs⟩ | ⟨b, dy, gs, rfl, hb⟩
  · exact ⟨.type T, ty_look (ty_is I ry ty), by unfold PySem.W.notFirst; rw [hs]; simp⟩
  · cases (show u = Value.ref b from ry)
    obtain ⟨od, J⟩ := ins_inst I hb
    exact ⟨.ref C, J.type, by unfold PySem.W.notFirst; simp⟩
theorem op_ownEq (hs : PySem.W.findIn X.K (.ref C) "__eq__" = some (some (.ref f))) (hf : PySem.W.isFn X.K (.ref f) = true)
    (F : FnOk X.prog X.w X.K X.mg X.base CX k f fd ps sp) (hr : Room k X.A) (hb : Binds X.K fd ps []) (hx : Passes CX X E) : OpR X (compareOp .Eq) (rOwnEq X.K C sp E) := by
  intro pins s σ H x y v u Q I rx ry h
  obtain ⟨a, dx, fs, rfl, ha, hy, q⟩ := h
  cases (show v = Value.ref a from rx)
  obtain ⟨od, J⟩ := ins_inst I ha
  obtain ⟨tb, l, n⟩ := own_tb I ry hy
  exact PySem.W.jo_bin (op := .Eq) hr.units0 I.kIn J l n hs hf (wpAny_mono (run_fn (us := [.ref a, u]) (vs := [.ref a, y]) F hr hb .nil hx I (.cons rfl (.cons ry .nil)) q) (fun w s' ⟨z, H', I', rz, qz⟩ => SlX.cmpback rz ⟨z, H', I', rz, qz⟩) fun _ _ e => e)
/-- y == x: y of a type whose == declines -/
def eqTypes : List String := ["int", "bool", "NoneType", "str", "list", "tuple", "dict"]
def rOwnEqR (K : PySem.W.Frag) (C : Addr) (sp : Sp) (E : XK) : R2 := fun x y H Q => ∃ T a dx fs, y = .ref a ∧ H a = some (.ins C dx fs) ∧ TyOf K H x (.type T) ∧ T ∈ eqTypes ∧ PySem.W.subIn K (.ref C) (.type T) = some false ∧ sp [y, x] H Q E
theorem op_ownEqR (hs : PySem.W.findIn X.K (.ref C) "__eq__" = some (some (.ref f))) (hf : PySem.W.isFn X.K (.ref f) = true)
    (F : FnOk X.prog X.w X.K X.mg X.base CX k f fd ps sp) (hr : Room k X.A) (hb : Binds X.K fd ps []) (hx : Passes CX X E) : OpR X (compareOp .Eq) (rOwnEqR X.K C sp E) := by
  intro pins s σ H x y v u Q I rx ry h
  obtain ⟨T, a, dx, fs, rfl, ha, ty, hT, hsub, q⟩ := h
  cases (show u = Value.ref a from ry)
  obtain ⟨od, J⟩ := ins_inst I ha
  have t1 := ty_is I rx ty
  have run : wpAny (model X.prog X.w) X.A (call (.ref f) [.ref a, v]) (PySem.W.CmpBack (EP X pins σ Q)) X.xe s :=
    wpAny_mono (run_fn (us := [.ref a, v]) (vs := [.ref a, x]) F hr hb .nil hx I (.cons rfl (.cons rx .nil)) q) (fun w s' ⟨z, H', I', rz, qz⟩ => SlX.cmpback rz ⟨z, H', I', rz, qz⟩) fun _ _ e => e
  cases ty with
  | non =>
    cases (show v = Value.none from rx)
    exact PySem.W.jo_eqR hr.units0 I.kIn J t1 hsub hs PySem.F.slot_NoneType_eq hf (fun Q' q' => PySem.W.jo_eqN q') run
  | bl b =>
    cases (show v = Value.bool b from rx)
    exact PySem.W.jo_eqR hr.units0 I.kIn J t1 hsub hs PySem.F.slot_bool_eq hf (fun Q' q' => PySem.W.jo_eqB J.at_ rfl q') run
  | int i =>
    obtain ⟨t, rfl⟩ := (show ∃ t, v = Value.int i t from rx)
    exact PySem.W.jo_eqR hr.units0 I.kIn J t1 hsub hs PySem.F.slot_int_eq hf (fun Q' q' => PySem.W.jo_eqI J.at_ rfl q') run
  | str z =>
    obtain ⟨t, rfl⟩ := (show ∃ t, v = Value.str z t from rx)
    exact PySem.W.jo_eqR hr.units0 I.kIn J t1 hsub hs PySem.F.slot_str_eq hf (fun Q' q' => PySem.W.jo_eqS J.at_ rfl q') run
  | flt z => simp [eqTypes] at hT
  | @lst l xs e =>
    cases (show v = Value.ref l from rx)
    exact PySem.W.jo_eqR hr.units0 I.kIn J t1 hsub hs PySem.F.slot_list_eq hf (fun Q' q' => PySem.W.jo_eqL I.kIn J t1 hsub q') run
  | @frz l ob xs e =>
    cases (show v = Value.ref l from rx)
    exact PySem.W.jo_eqR hr.units0 I.kIn J t1 hsub hs PySem.F.slot_list_eq hf (fun Q' q' => PySem.W.jo_eqL I.kIn J t1 hsub q') run
  | @tup l xs e =>
    cases (show v = Value.ref l from rx)
    exact PySem.W.jo_eqR hr.units0 I.kIn J t1 hsub hs PySem.F.slot_tuple_eq hf (fun Q' q' => PySem.W.jo_eqT I.kIn J t1 hsub q') run
  | @dK l kvs e =>
    cases (show v = Value.ref l from rx)
    exact PySem.W.jo_eqR hr.units0 I.kIn J t1 hsub hs PySem.F.slot_dict_eq hf (fun Q' q' => PySem.W.jo_eqD I.kIn J t1 hsub q') run
  | @dT l kvs e =>
    cases (show v = Value.ref l from rx)
    exact PySem.W.jo_eqR hr.units0 I.kIn J t1 hsub hs PySem.F.slot_dict_eq hf (fun Q' q' => PySem.W.jo_eqD I.kIn J t1 hsub q') run
/-- x != y, by == -/
def rOwnNe (K : PySem.W.Frag) (C : Addr) (sp : Sp) (E : XK) : R2 := fun x y H Q => ∃ a dx fs, x = .ref a ∧ H a = some (.ins C dx fs) ∧ ((∃ T, TyOf K H y (.type T) ∧ PySem.W.subIn K (.type T) (.ref C) = some false) ∨ ∃ b dy gs, y = .ref b ∧ H b = some (.ins C dy gs)) ∧
  sp [x, y] H (fun v H' => ∃ c, v = .bl c ∧ Q (.bl (!c)) H') E
theorem op_ownNe (O : OwnC X.K C) (hne : PySem.W.findIn X.K (.ref C) "__ne__" = some (some (.builtin "object.__ne__"))) (hs : PySem.W.findIn X.K (.ref C) "__eq__" = some (some (.ref f))) (hf : PySem.W.isFn X.K (.ref f) = true)
    (F : FnOk X.prog X.w X.K X.mg X.base CX k f fd ps sp) (hr : Room (k + 1) X.A) (hb : Binds X.K fd ps []) (hx : Passes CX X E) : OpR X (compareOp .NotEq) (rOwnNe X.K C sp E) := by
  intro pins s σ H x y v u Q I rx ry h
  obtain ⟨a, dx, fs, rfl, ha, hy, q⟩ := h
  cases (show v = Value.ref a from rx)
  obtain ⟨od, J⟩ := ins_inst I ha
  obtain ⟨tb, l, n⟩ := own_tb I ry hy
  have hl : ([Value.ref a, u] ++ []).length = ps.length := F.len _ _ _ _ q
  refine PySem.W.jo_ne (by have := hr.un; omega) I.kIn J l n O.ob hne hs hf (wpAny_call (codeAny_mono (F.run X.A.in1 X.stack s H ⟨[.ref a, u], []⟩ [.ref a, u] [.ref a, y] _ E hr.in1 I.env0.in1 (hb s [.ref a, u] I.kIn hl) (.cons rfl (.cons ry .nil)) q) fun r s' hq => ?_))
  match r, hq with
  | .error e, hq => exact hx pins σ H s e s' I hq
  | .ok .next, hq => exact hq.elim
  | .ok .brk, hq => exact hq.elim
  | .ok .cont, hq => exact hq.elim
  | .ok (.ret w), hq =>
    obtain ⟨z, H', I', rz, c, rfl, qz⟩ := I.after hq
    cases (show w = Value.bool c from rz)
    exact ⟨c, rfl, .bl (!c), H', I', rfl, qz⟩
end
end J

set_option Elab.async false
set_option linter.all false
set_option maxRecDepth 100000
set_option maxHeartbeats 4000000
/-! J8: callees in one piece: a def, a method, a property, a class that is made; str of an instance; // by a negative. -/
namespace J
open PySem PySem.Spec PyProof.Rows L2

abbrev CXL (P : Program) (w : World) : CXT := L2.CX P w
theorem passE0 {X : Cx} {P : Program} {w : World} : Passes (CXL P w) X E0 := fun _ _ _ _ _ _ _ h => by
  obtain ⟨_, _, _, _, _, _, _, _, _, _, _, _, z⟩ := h
  exact z.elim
theorem FnOk.up {P : Program} {w : World} {K : PySem.W.Frag} {mg : Str → Option Value} {base : Heap} {k : Nat} {f : Addr} {fd : FuncData} {ps : List Str} {sp : Sp} (F : FnOk P w K mg base CX0 k f fd ps sp) : FnOk P w K mg base (CXL P w) k f fd ps sp :=
  ⟨F.len, fun A outer s H args us vs Q E hr e0 b r h => codeAny_mono (F.run A outer s H args us vs Q E hr e0 b r h) fun z s' hz => by
    match z, hz with
    | .error e, hz => exact hz.elim
    | .ok (.ret u), hz => exact hz
    | .ok .next, hz => exact hz.elim
    | .ok .brk, hz => exact hz.elim
    | .ok .cont, hz => exact hz.elim⟩
section
variable (P : Program) (w : World) (K : PySem.W.Frag) (mg : Str → Option Value) (base : Heap)
/-- a def of the module's own, as it is called by its name -/
structure Cal (x : Str) (ps : List Str) (k : Nat) (sp : Sp) : Prop where
  ex : ∃ f fd, mg x = some (.ref f) ∧ PySem.W.keepIn K (.ref f) = true ∧ FnOk P w K mg base (CXL P w) k f fd ps sp ∧ Binds K fd ps []
/-- a method -/
structure MCal (C : Addr) (m : Str) (ps : List Str) (k : Nat) (sp : Sp) : Prop where
  ex : ∃ f fd, Meth K C m f ∧ FnOk P w K mg base (CXL P w) k f fd ps sp ∧ Binds K fd ps []
/-- a property -/
structure PCal (C : Addr) (m : Str) (k : Nat) (sp : Sp) : Prop where
  ex : ∃ p f fd, PropOf K C m p f ∧ FnOk P w K mg base (CXL P w) k f fd ["self"] sp ∧ Binds K fd ["self"] []
/-- a class that is made; dvs: the defaults that fill up -/
structure KCal (x : Str) (C : Addr) (ps : List Str) (k : Nat) (sp : Sp) (dvs : List V) : Prop where
  ex : ∃ f fd ds, mg x = some (.ref C) ∧ Mk K C f ∧ FnOk P w K mg base (CXL P w) k f fd ps sp ∧ Binds K fd ps ds ∧ Vals dvs ds
structure KCalN (x : Str) (C : Addr) (ps : List Str) (k : Nat) (sp : Sp) (n : Nat) (ks : List Str) (gV : List V → List V → List V) : Prop where
  ex : ∃ f fd g, mg x = some (.ref C) ∧ Mk K C f ∧ FnOk P w K mg base (CXL P w) k f fd ps sp ∧ KBn K fd ps (n + 1) ks g gV
end
section
variable {X : Cx} {k n : Nat} {C : Addr} {ps ks : List Str} {sp : Sp} {x m : Str} {p pos apos : Pos} {e o : Expr} {es : List Expr} {kws : List Keyword} {ta : TE} {t tk : TA} {dvs : List V} {gV : List V → List V → List V} {W : WX}
theorem pe_cal (c : Cal X.prog X.w X.K X.mg X.base x ps k sp) (hr : Room k X.A) (hg : Gl X x) (ha : PA X (e :: es) t) (hdb : (x == ("__debug__" : Str)) = false := by decide)
    (he : starEach (e :: es) X.env = (false, eval e X.env) :: starEach es X.env := by rfl) (hpl : (backTo pos (starEach es X.env)).any (·.1) = false := by rfl) : PE X (.Call (.Name x p) (e :: es) [] pos) (tCall sp [] E0 t) := by
  obtain ⟨f, fd, h1, h2, h3, h4⟩ := c.ex
  exact pe_call h3 hr hg h1 h2 h4 .nil passE0 ha hdb he hpl
theorem pe_cal0 (c : Cal X.prog X.w X.K X.mg X.base x ps k sp) (hr : Room k X.A) (hg : Gl X x) (hdb : (x == ("__debug__" : Str)) = false := by decide) : PE X (.Call (.Name x p) [] [] pos) (tCall sp [] E0 tNil) := by
  obtain ⟨f, fd, h1, h2, h3, h4⟩ := c.ex
  exact pe_call0 h3 hr hg h1 h2 h4 .nil passE0 hdb
/-- .. that may let an exception out -/
theorem pe_calS (tk : Takes X W) (c : Cal X.prog X.w X.K X.mg X.base x ps k sp) (hr : Room k X.A) (hg : Gl X x) (ha : PA X (e :: es) t) (hdb : (x == ("__debug__" : Str)) = false := by decide)
    (he : starEach (e :: es) X.env = (false, eval e X.env) :: starEach es X.env := by rfl) (hpl : (backTo pos (starEach es X.env)).any (·.1) = false := by rfl) : PE X (.Call (.Name x p) (e :: es) [] pos) (tCallS sp (WE W) t) := by
  obtain ⟨f, fd, h1, h2, h3, h4⟩ := c.ex
  exact pe_callS h3 hr hg h1 h2 h4 (fun σ => passAt tk σ) ha hdb he hpl
theorem pe_mcal {pl : Sem Bool} (c : MCal X.prog X.w X.K X.mg X.base C m ps k sp) (cl : Cls X.K C) (hr : Room k X.A) (he : PE X o ta) (ha : PA X (e :: es) t)
    (hst : starEach (e :: es) X.env = (false, eval e X.env) :: starEach es X.env := by rfl) (hpl : (backTo pos (starEach es X.env)).any (·.1) = false := by rfl)
    (ht : eval (.Call (.Attribute o m apos) (e :: es) [] pos) X.env = (do
      let ov ← eval o X.env
      standAt apos.atName
      let (f, first) ← holding [ov] (getMethod ov m pl)
      callWith pos f first (backTo pos (starEach (e :: es) X.env)) (backToKw pos (keywordEach [] X.env))) := by rfl) : PE X (.Call (.Attribute o m apos) (e :: es) [] pos) (tMeth C m sp [] E0 ta t) := by
  obtain ⟨f, fd, h1, h2, h3⟩ := c.ex
  exact pe_meth he cl h1 h2 hr h3 .nil passE0 ha hst hpl ht
theorem pe_mcal0 {pl : Sem Bool} (c : MCal X.prog X.w X.K X.mg X.base C m ps k sp) (cl : Cls X.K C) (hr : Room k X.A) (he : PE X o ta)
    (ht : eval (.Call (.Attribute o m apos) [] [] pos) X.env = (do
      let ov ← eval o X.env
      standAt apos.atName
      let (f, first) ← holding [ov] (getMethod ov m pl)
      callWith pos f first (backTo pos (starEach [] X.env)) (backToKw pos (keywordEach [] X.env))) := by rfl) : PE X (.Call (.Attribute o m apos) [] [] pos) (tMeth C m sp [] E0 ta tNil) := by
  obtain ⟨f, fd, h1, h2, h3⟩ := c.ex
  exact pe_meth0 he cl h1 h2 hr h3 .nil passE0 ht
/-- o.m(e, ..) that may let an exception out -/
def tMethS (C : Addr) (m : Str) (sp : Sp) (E : L2.St → XK) (ta : TE) (t : TA) : TE := fun σ H Q => ta σ H fun x H1 => ∃ a dx fs, x = .ref a ∧ H1 a = some (.ins C dx fs) ∧ fs.lookup m = none ∧
  t σ H1 fun vs H2 => sp (x :: vs) H2 Q (E σ)
theorem pe_mcalS {pl : Sem Bool} (tk : Takes X W) (c : MCal X.prog X.w X.K X.mg X.base C m ps k sp) (cl : Cls X.K C) (hr : Room k X.A) (he : PE X o ta) (ha : PA X (e :: es) t)
    (hst : starEach (e :: es) X.env = (false, eval e X.env) :: starEach es X.env := by rfl) (hpl : (backTo pos (starEach es X.env)).any (·.1) = false := by rfl)
    (ht : eval (.Call (.Attribute o m apos) (e :: es) [] pos) X.env = (do
      let ov ← eval o X.env
      standAt apos.atName
      let (f, first) ← holding [ov] (getMethod ov m pl)
      callWith pos f first (backTo pos (starEach (e :: es) X.env)) (backToKw pos (keywordEach [] X.env))) := by rfl) : PE X (.Call (.Attribute o m apos) (e :: es) [] pos) (tMethS C m sp (WE W) ta t) := by
  obtain ⟨f, fd, hm, F, hb⟩ := c.ex
  refine ⟨fun pins s σ H Q I h => ?_⟩
  refine PySem.W.methodCall_KW (pl := pl) (thn (he.run pins s σ H _ I h) fun u s1 ⟨x, H1, I1, rx, a, dx, fs, ex, ea, l, q⟩ => ?_) ht
  subst ex
  obtain rfl : u = Value.ref a := rx
  refine getmeth_ok I1 ea cl hm l ?_
  refine PySem.W.callWith_K (h₀ := X.base) (first := [.ref a]) I1.ok.mod.kin hm.kp (thn (ha.run pos pins _ σ H1 _ I1 q) fun us s2 ⟨vs, H2, I2, r, q2⟩ => ⟨I2.kIn, ?_⟩) hst hpl
  exact run_fnS (us := .ref a :: us) (vs := .ref a :: vs) F hr hb (passAt tk σ) I2 (.cons rfl r) q2
theorem pe_pcal (c : PCal X.prog X.w X.K X.mg X.base C m k sp) (cl : Cls X.K C) (hr : Room (k + 1) X.A) (he : PE X e ta) (hab : attributeBase e m X.env (eval e X.env) = eval e X.env := by rfl) : PE X (.Attribute e m pos) (tProp C sp [] E0 ta) := by
  obtain ⟨p, f, fd, h1, h2, h3⟩ := c.ex
  exact pe_prop he cl h1 h2 hr h3 .nil passE0 hab
theorem pe_kcal (c : KCal X.prog X.w X.K X.mg X.base x C ps k sp dvs) (hr : Room (k + 1) X.A) (hg : Gl X x) (ha : PA X (e :: es) t) (hdb : (x == ("__debug__" : Str)) = false := by decide)
    (he : starEach (e :: es) X.env = (false, eval e X.env) :: starEach es X.env := by rfl) (hpl : (backTo pos (starEach es X.env)).any (·.1) = false := by rfl) : PE X (.Call (.Name x p) (e :: es) [] pos) (tMake C sp dvs E0 t) := by
  obtain ⟨f, fd, ds, h1, h2, h3, h4, h5⟩ := c.ex
  exact pe_make h2 h3 hr hg h1 h4 h5 passE0 ha hdb he hpl
theorem pe_kcalN (c : KCalN X.prog X.w X.K X.mg X.base x C ps k sp n ks gV) (hr : Room (k + 1) X.A) (hg : Gl X x) (ha : PA X (e :: es) t) (hkw : PK X kws tk) (hall : (backToKw pos (keywordEach kws X.env)).all (·.1.isSome) = true := by rfl)
    (hks : (backToKw pos (keywordEach kws X.env)).filterMap (·.1) = ks := by rfl) (hdb : (x == ("__debug__" : Str)) = false := by decide) (he : starEach (e :: es) X.env = (false, eval e X.env) :: starEach es X.env := by rfl)
    (hpl : ((backTo pos (starEach (e :: es) X.env)).any (·.1) || (backToKw pos (keywordEach kws X.env)).any (·.1.isNone)) = false := by rfl) : PE X (.Call (.Name x p) (e :: es) kws pos) (tMakeN C n ks.length sp gV E0 t tk) := by
  obtain ⟨f, fd, g, h1, h2, h3, h4⟩ := c.ex
  exact pe_makeN h2 h3 hr hg h1 h4 passE0 ha hkw hall hks hdb he hpl
/-- C(..) that may let an exception out -/
def tMakeS (C : Addr) (sp : Sp) (dvs : List V) (E : L2.St → XK) (t : TA) : TE := fun σ H Q => t σ H fun vs H1 => ∀ x dx, H1 x = none → H1 dx = none → dx ≠ x →
  sp (.ref x :: (vs ++ dvs)) (upd (upd H1 dx (.own x)) x (.ins C dx [])) (fun v H2 => v = .non ∧ Q (.ref x) H2) (E σ)
theorem pe_kcalS (tk : Takes X W) (c : KCal X.prog X.w X.K X.mg X.base x C ps k sp dvs) (hr : Room (k + 1) X.A) (hg : Gl X x) (ha : PA X (e :: es) t) (hdb : (x == ("__debug__" : Str)) = false := by decide)
    (he : starEach (e :: es) X.env = (false, eval e X.env) :: starEach es X.env := by rfl) (hpl : (backTo pos (starEach es X.env)).any (·.1) = false := by rfl) : PE X (.Call (.Name x p) (e :: es) [] pos) (tMakeS C sp dvs (WE W) t) := by
  obtain ⟨f, fd, ds, hm, M, F, hb, hd⟩ := c.ex
  refine ⟨fun pins s σ H Q I h => ?_⟩
  refine wpAny_Call_Name_kw (ld_glob I hg hm ?_ hdb)
  refine PySem.W.callWith_K (h₀ := X.base) I.ok.mod.kin M.kp (thn (ha.run pos pins s σ H _ I h) fun us s1 ⟨vs, H1, I1, r, h⟩ => ⟨I1.kIn, ?_⟩) he hpl
  have hq := h (s1.heap.objs.size + 1) s1.heap.objs.size (I1.hok.fresh (Nat.le_succ _)) (I1.hok.fresh (Nat.le_refl _)) (Nat.ne_of_lt (Nat.lt_succ_self _))
  have I2 := Inv.made (C := C) I1
  have r2 : Vals (V.ref (s1.heap.objs.size + 1) :: (vs ++ dvs)) (Value.ref (s1.heap.objs.size + 1) :: (us ++ ds)) := .cons rfl (r.append hd)
  have hl : (Value.ref (s1.heap.objs.size + 1) :: us ++ ds).length = ps.length := by
    have e := r2.length
    rw [F.len _ _ _ _ hq] at e
    exact e.symm
  refine wpAny_call (make_map (f := f) I1.kIn M.makes M.init (beq_iff_eq.mp M.fn) (codeAny_mono (F.run _ X.stack _ _ ⟨Value.ref (s1.heap.objs.size + 1) :: us, []⟩ (Value.ref (s1.heap.objs.size + 1) :: (us ++ ds)) _ _ (WE W σ) (hr.make C us [])
    (I2.env0.make C us []) (hb _ (Value.ref (s1.heap.objs.size + 1) :: us) I2.kIn hl) r2 hq) fun r s' hq' => ?_))
  match r, hq' with
  | .error e, hq' => exact passAt tk σ pins _ _ e s' I2 hq'
  | .ok .next, hq' => exact hq'.elim
  | .ok .brk, hq' => exact hq'.elim
  | .ok .cont, hq' => exact hq'.elim
  | .ok (.ret u), hq' =>
    obtain ⟨v, H', I3, rv, ev, q3⟩ := I2.after hq'
    subst ev
    exact ⟨rv, ⟨V.ref (s1.heap.objs.size + 1), H', I3, rfl, q3⟩⟩
end
/-! ### str of an instance -/
section
variable {X : Cx} {CX : CXT} {k : Nat} {C f : Addr} {fd : FuncData} {ps : List Str} {sp : Sp} {E : XK}
def rStrOwn (C : Addr) (sp : Sp) (E : XK) : List V → Hp → VK → Prop := fun xs H Q => ∃ a dx fs, xs = [.ref a] ∧ H a = some (.ins C dx fs) ∧ sp [.ref a] H (fun v H' => ∃ z, v = .str z ∧ Q v H') E
theorem call_strOwn (hs : PySem.W.findIn X.K (.ref C) "__str__" = some (some (.ref f))) (hf : PySem.W.isFn X.K (.ref f) = true) (F : FnOk X.prog X.w X.K X.mg X.base CX k f fd ps sp) (hr : Room (k + 2) X.A) (hb : Binds X.K fd ps []) (hx : Passes CX X E) :
    CallR X (.type "str") (rStrOwn C sp E) := by
  intro pins s σ H xs us Q I r h
  obtain ⟨a, dx, fs, rfl, ha, q⟩ := h
  obtain ⟨u, rfl, ru⟩ := vals1 r
  cases (show u = Value.ref a from ru)
  obtain ⟨od, J⟩ := ins_inst I ha
  have hl : ([Value.ref a] ++ []).length = ps.length := F.len _ _ _ _ q
  have hr2 : Room k X.A.in1.in1 := (show Room (k + 1) X.A.in1 from Room.in1 hr).in1
  refine PySem.W.kso_call hr2.units0 I.kIn J hs hf (wpAny_call (codeAny_mono (F.run X.A.in1.in1 X.stack s H ⟨[.ref a], []⟩ [.ref a] [.ref a] _ E hr2 I.env0.in1.in1 (hb s [.ref a] I.kIn hl) (.cons rfl .nil) q) fun r s' hq => ?_))
  match r, hq with
  | .error e, hq => exact hx pins σ H s e s' I hq
  | .ok .next, hq => exact hq.elim
  | .ok .brk, hq => exact hq.elim
  | .ok .cont, hq => exact hq.elim
  | .ok (.ret w), hq =>
    obtain ⟨v, H', I', rz, z, rfl, qz⟩ := I.after hq
    obtain ⟨t, rfl⟩ := (show ∃ t, w = Value.str z t from rz)
    exact ⟨.str z, H', I', ⟨t, rfl⟩, qz⟩
end
/-! ### // by any divisor -/
def CDivZ (_ j : Int) : Prop := j ≠ 0 ∧ j.natAbs.log2 < 9000
theorem op_fdivZ {X : Cx} : OpR X (binaryOp .FloorDiv) (rI CDivZ fun i j => .int (i.fdiv j)) := opI fun i j _ _ _ _ _ hc q => floordiv_int hc.1 q (.inl (PyProof.noPylong_of_log2 hc.2))
end J

set_option Elab.async false
set_option linter.all false
set_option maxRecDepth 100000
set_option maxHeartbeats 4000000
/-! J9: an own error without values, raised; isinstance of anything for one class. -/
namespace J
open PySem PySem.Spec PyProof.Rows L2

/-- isinstance(v, c), c one class -/
def rIsG (K : PySem.W.Frag) : List V → Hp → VK → Prop := fun xs H Q => ∃ (v c : V) (t cv : Value) (b : Bool), xs = [v, c] ∧ TyOf K H v t ∧ (∀ u, RelV c u → u = cv) ∧ PySem.W.kitOne K t cv = some b ∧ Q (.bl b) H
theorem call_isG {X : Cx} : CallR X (.builtin "isinstance") (rIsG X.K) := by
  intro pins s σ H xs us Q I r h
  obtain ⟨v, c, t, cv, b, rfl, ht, hc, hb, q⟩ := h
  obtain ⟨u1, u2, rfl, r1, r2⟩ := vals2 r
  cases hc _ r2
  exact isinst_ok I r1 ht hb fun tk => ⟨.bl b, H, I.tok tk, rfl, q⟩
theorem relty {n : String} : ∀ u, RelV (.ty n) u → u = Value.type n := fun _ r => r
section
variable {X : Cx} {C fI : Addr} {k : Nat} {fd : FuncData} {ps : List Str} {x : Str} {p pos : Pos}
theorem mk_end0n {pins : List (Addr × Obj)} {σ : L2.St} {H1 H2 : Hp} {hp hp2 h2 : Heap} {g1 g2 : Array GenState} {d1 d2 : Drawn} {t1 t2 : Nat} {os1 os2 : OsState} {a C : Addr} (I1 : Inv X pins σ H1 ⟨hp, g1, d1, t1, os1⟩)
    (ha : hp.objs.size ≤ a) (k : ∀ b o, hp.get? b = some o → hp2.get? b = some o) (un : Un (frs X.stack) [] (upd H1 a (exo a C none)) H2 hp2 h2) (hok : HOk X.prog X.w H2 h2) (ho : os2 = os1) (hb : AllBare g2)
    (ea : H2 a = some (exo a C none)) :
    ∃ (t0 : Addr) (G : Heap), Inv X pins σ (del H2 a) ⟨G, g2, d2, t2, os2⟩ ∧ (∀ b o, G.get? b = some o → h2.get? b = some o) ∧ G.get? a = none ∧
      h2.get? a = some ({ cls := .ref C, dict := none, data := .fields #[.ref t0, .none, .none, .none, .bool false, .none] } : Obj) ∧ (del H2 a) a = none := by
  obtain ⟨t0, hoe⟩ := exo_at hok ea
  have hn : H1 a = none := I1.hok.fresh ha
  obtain ⟨G, g1', g2'⟩ := restrict h2 fun b => decide (b ≠ a)
  have gk : ∀ b, b ≠ a → G.get? b = h2.get? b := fun b hb => g1' b (decide_eq_true hb)
  have ge : G.get? a = none := g2' a (by simp)
  have nha : ∀ {b : Addr} {o : Obj}, hp.get? b = some o → b ≠ a := fun {b o} z => Nat.ne_of_lt (Nat.lt_of_lt_of_le (Heap.lt_size z) ha)
  have up : ∀ {b : Addr}, b ≠ a → H1 b = none → upd H1 a (exo a C none) b = none := fun {b} hb n => by rw [upd_ne hb]; exact n
  have U : Un (frs X.stack) [] H1 (del H2 a) hp G := {
    keep := fun b o z n hf hx => by
      rw [gk b (nha z)]
      exact un.keep b o (k b o z) (up (nha z) n) hf hx
    slot := fun b o z n hf hx => by
      rw [gk b (nha z)]
      exact un.slot b o (k b o z) (up (nha z) n) hf hx
    free := fun b o z n hx => by
      rw [del_ne (nha z)]
      exact un.free b o (k b o z) (up (nha z) n) hx
    there := fun b o z hx => by
      rw [gk b (nha z)]
      exact un.there b o (k b o z) hx
    tups := fun b xs z => by
      rw [del_ne (ne_of_none z hn)]
      exact un.tups b xs (by rw [upd_ne (ne_of_none z hn)]; exact z)
    frzs := fun b o v z => by
      rw [del_ne (ne_of_none z hn)]
      exact un.frzs b o v (by rw [upd_ne (ne_of_none z hn)]; exact z)
    tbls := fun b ps z => by
      rw [del_ne (ne_of_none z hn)]
      exact un.tbls b ps (by rw [upd_ne (ne_of_none z hn)]; exact z) }
  have hok3 : HOk X.prog X.w (del H2 a) G := fun b o z => by
    have hba : b ≠ a := fun e => by
      rw [e, del_same] at z
      cases z
    rw [del_ne hba] at z
    have noa : ∀ {c : Addr}, H2 c = some (.own b) → c ≠ a := fun {c} hc => at_ne ea hc exo_own
    exact (hok b o z).stay (fun c v hc y => by
        have hca : c ≠ a := by
          rcases hc with hc | hc
          · rw [hc]
            exact hba
          · exact noa hc
        rw [gk c hca]
        exact y)
      (fun c hc => by rw [del_ne (noa hc)]; exact hc) (fun c xs hc => by rw [del_ne (at_ne ea hc exo_tup)]; exact hc)
  have J : Inv X pins σ (del H2 a) ⟨G, g2, d2, t2, os2⟩ := I1.call' (ch := []) ho U hok3 hb (fun b z => absurd z (by simp))
  refine ⟨t0, G, J, fun b o z => ?_, ge, hoe, del_same⟩
  by_cases hba : b = a
  · rw [hba, ge] at z
    cases z
  · exact (gk b hba).symm.trans z
theorem del_upd {H : Hp} {a : Addr} {o : HO} (h : H a = none) : del (upd H a o) a = H := by
  funext b
  by_cases e : b = a
  · subst e
    rw [del_same, h]
  · rw [del_ne e, upd_ne e]
/-- C(), its __init__ sets nothing; to be raised -/
theorem pmk_err0 (T : ErrC X.K C fI) (F : FnOk X.prog X.w X.K X.mg X.base CX0 k fI fd ps (spErr0 C)) (hr : Room (k + 1) X.A) (hb : Binds X.K fd ps []) (hg : Gl X x) (hm : X.mg x = some (.ref C)) (hdb : (x == ("__debug__" : Str)) = false := by decide) :
    PMk X (.Call (.Name x p) [] [] pos) (fun _ H Q => Q (.ref C) none H) := by
  intro pins s σ H Q I h
  obtain ⟨nm, q, N, bs, bm, sn, sub, ab, col, dd, k0, k1, k2, k3, k5, hC, hbm⟩ := T.oex.cls
  refine wpAny_Call_Name_kw (ld_glob I hg hm ?_ hdb)
  refine PySem.W.callWith_K0 I.kIn T.oex.kC ?_
  show wpAny _ _ (call (.ref C) []) _ _ _
  obtain ⟨hp, g, dr, tk, os⟩ := s
  have hsz : hp.objs.size ≤ hp.objs.size + 1 := Nat.le_succ _
  have hn : H (hp.objs.size + 1) = none := I.hok.fresh hsz
  have kk : ∀ b o, hp.get? b = some o → ((hp.push (PySem.W.kdv_tup [])).push (PySem.HandSPX.excO C hp.objs.size)).get? b = some o := fun b o e => Heap.get?_push_of_some _ (Heap.get?_push_of_some _ e)
  have hget : ((hp.push (PySem.W.kdv_tup [])).push (PySem.HandSPX.excO C hp.objs.size)).get? (hp.objs.size + 1) = some (PySem.HandSPX.excO C hp.objs.size) := by heap_get
  have I2 : Inv X pins σ (upd H (hp.objs.size + 1) (exo (hp.objs.size + 1) C none)) ⟨(hp.push (PySem.W.kdv_tup [])).push (PySem.HandSPX.excO C hp.objs.size), g, dr, tk, os⟩ :=
    I.laid (t' := tk) (a := hp.objs.size + 1) (o := exo (hp.objs.size + 1) C none) (h' := (hp.push (PySem.W.kdv_tup [])).push (PySem.HandSPX.excO C hp.objs.size)) kk hsz (exo_ok hget)
  have hq : spErr0 C [.ref (hp.objs.size + 1)] (upd H (hp.objs.size + 1) (exo (hp.objs.size + 1) C none)) (fun v H2 => v = .non ∧ H2 = upd H (hp.objs.size + 1) (exo (hp.objs.size + 1) C none)) E0 := ⟨_, rfl, upd_same, rfl, rfl⟩
  have hl : ([Value.ref (hp.objs.size + 1)] ++ []).length = ps.length := F.len _ _ _ _ hq
  refine wpAny_call (PySem.HandSPX.call_own PySem.F.excBase_ValueError (fun Y => PySem.HandSPX.refsVE_contains Y bm hbm) (I.kIn _ _ hC) (PySem.W.looks_findIn I.kIn T.ini) (fun self => PySem.W.bind_fn I.kIn self T.fn) (Nat.zero_le _)
    (codeAny_mono (F.run _ X.stack _ _ ⟨[Value.ref (hp.objs.size + 1)], []⟩ [Value.ref (hp.objs.size + 1)] [.ref (hp.objs.size + 1)] _ E0 (hr.make C [] []) (I2.env0.make C [] []) (hb _ [Value.ref (hp.objs.size + 1)] I2.kIn hl) (.cons rfl .nil) hq) fun r s' hq' => ?_))
  match r, hq' with
  | .error e, hq' => exact hq'.elim
  | .ok .next, hq' => exact hq'.elim
  | .ok .brk, hq' => exact hq'.elim
  | .ok .cont, hq' => exact hq'.elim
  | .ok (.ret u), hq' =>
    obtain ⟨v, H2, os2, bare2, un2, hok2, rv, rfl, eH⟩ := hq'
    obtain ⟨h2, g2, d2, t2, os'⟩ := s'
    obtain ⟨t0, G, J, kG, ge, hoe, na⟩ := mk_end0n (d2 := d2) (t2 := t2) I hsz kk un2 hok2 os2 bare2 (by rw [eH, upd_same])
    have eq : del H2 (hp.objs.size + 1) = H := by rw [eH]; exact del_upd hn
    rw [eq] at J na
    exact ⟨rv, hp.objs.size + 1, _, _, ⟨G, g2, d2, t2, os'⟩, _, .ref C, none, rfl, J, kG, ge, hoe, ⟨rfl, rfl⟩, rfl, rfl, na, rfl, bare2, raises_own T.oex.exC T.oex.tyC, h⟩
end
end J

set_option Elab.async false
set_option linter.all false
set_option maxRecDepth 100000
set_option maxHeartbeats 4000000
/-! J10: the Hook once more, a def's place told by a function of the written part (a property's getter too). -/
namespace J
open PySem PySem.Spec PyProof.Rows L2

structure DefJ where
  ad : PySem.W.Frag → Addr
  d : He.DefD
/-- the getter of the property f of the class x -/
def pa (x f : Str) : PySem.W.Frag → Addr := fun K => match PySem.W.recIn K (He.ma K (He.ga K x) f) "property" with
  | some (.ref g :: _) => g
  | _ => 0
/-- what a written object points to; a property's three functions too -/
def refsJ (o : Obj) : List Addr := He.refsD o ++ match o.cls, o.data with
  | .type "property", .fields vs => vs.toList.flatMap He.refV
  | _, _ => []
def growJ (g : Addr → Option Obj) (as : List Addr) : List Addr := (as ++ as.flatMap fun a => match g a with
  | some o => refsJ o
  | none => []).eraseDups
def asK (g : Addr → Option Obj) : Nat → List Addr
  | 0 => [mainGlobals, cStatics]
  | n + 1 => growJ g (asK g n)
def fnJ (K : PySem.W.Frag) (a : Addr) : He.FnW := match K.lookup a with
  | some ⟨_, _, .func fd, _⟩ => some (fd.name, fd.qualname, fd.params, fd.body, fd.scope, fd.globals, fd.closure, fd.builtins)
  | _ => none
def DefJ.ok (K : PySem.W.Frag) (q : DefJ) : Bool := PySem.W.keepIn K (.ref (q.ad K)) && (match K.lookup (q.ad K) with
  | some ⟨_, _, .func fd, _⟩ => PySem.W.codeIn K fd.code q.d.qual && (He.dflB K fd.defaults (q.d.dvs K) && He.kwdB K fd.kwdefaults (q.d.kws K))
  | _ => false)
theorem DefJ.funD {K : PySem.W.Frag} {q : DefJ} (e : fnJ K (q.ad K) = q.d.val) (c : q.ok K = true) : ∃ fd, FunD K q.d.name q.d.qual q.d.params q.d.body q.d.scope (q.d.dvs K) (q.d.kws K) (q.ad K) fd := by
  obtain ⟨ad, d⟩ := q
  obtain ⟨kp, c2⟩ := He.ba c
  unfold fnJ at e
  dsimp only at e c2 kp ⊢
  cases z : K.lookup (ad K) with
  | none =>
    rw [z] at c2
    cases c2
  | some o =>
    obtain ⟨oc, od, dt, osl⟩ := o
    rw [z] at c2 e
    cases dt with
    | func fd =>
      obtain ⟨n1, n2, n3, n4, n5, n6, n7, n8, n9, n10, n11, n12, n13, n14, n15⟩ := fd
      have e2 : (some (n1, n2, n3, n4, n5, n6, n7, n15) : He.FnW) = some (d.name, d.qual, d.params, .stmts d.body, d.scope, mainGlobals, [], builtinsNs) := e
      simp only [Option.some.injEq, Prod.mk.injEq] at e2
      obtain ⟨h1, h2, h3, h4, h5, h6, h7, h8⟩ := e2
      subst h1 h2 h3 h4 h5 h6 h7 h8
      have c3 : (PySem.W.codeIn K n13 d.qual && (He.dflB K n8 (d.dvs K) && He.kwdB K n9 (d.kws K))) = true := c2
      obtain ⟨k1, k2⟩ := He.ba c3
      obtain ⟨k3, k4⟩ := He.ba k2
      exact ⟨_, ⟨oc, od, n8, n9, n10, n11, n12, n13, n14, osl, rfl, z, k1, He.dflB_ok k3, He.kwdB_ok k4⟩, kp⟩
    | _ => cases c2
def obsK (bs : List Bf) (fn : List DefJ) (K : PySem.W.Frag) : He.AlD := ((bs.all fun b => b K) && fn.all fun q => q.ok K, fn.map fun q => fnJ K (q.ad K))
def valK (fn : List DefJ) : He.AlD := (true, fn.map fun q => q.d.val)
def SaysK (bs : List Bf) (fn : List DefJ) (K : PySem.W.Frag) : Prop := obsK bs fn K = valK fn
def obsKG (n : Nat) (bs : List Bf) (fn : List DefJ) (g : Addr → Option Obj) : He.AlD := obsK bs fn (He.frG g (asK g n))
def hookK (n : Nat) (bs : List Bf) (fn : List DefJ) : PySem.W.Hook where
  α := He.AlD
  obs := fun s => obsKG n bs fn s.heap.get?
  val := fun _ => valK fn
  says := fun _ h => ∃ K : PySem.W.Frag, K.In h ∧ SaysK bs fn K
  of := fun _ _ e => ⟨_, He.frG_in, e⟩
  keeps := fun _ _ _ ⟨K, hK, c⟩ k => ⟨K, PySem.W.Frag.In.keeps hK k, c⟩
theorem obsKG_eq {n : Nat} {bs : List Bf} {fn : List DefJ} {g : Addr → Option Obj} {s : Shared} (h : ∀ a, g a = s.heap.get? a) : obsKG n bs fn g = (hookK n bs fn).obs s := by
  have e : g = s.heap.get? := funext h
  rw [e] <;> rfl
section
variable {bs : List Bf} {fn : List DefJ} {K : PySem.W.Frag}
theorem SaysK.fact (c : SaysK bs fn K) (i : Nat) {b : Bf} (h : bs[i]? = some b := by rfl) : b K = true := by
  have c1 := (He.ba (show ((bs.all fun b => b K) && fn.all fun d => d.ok K) = true from congrArg (fun z : He.AlD => z.1) c)).1
  exact List.all_eq_true.mp c1 b (List.mem_of_getElem? h)
theorem SaysK.def_ (c : SaysK bs fn K) (i : Nat) {q : DefJ} (h : fn[i]? = some q := by rfl) : ∃ fd, FunD K q.d.name q.d.qual q.d.params q.d.body q.d.scope (q.d.dvs K) (q.d.kws K) (q.ad K) fd := by
  have c2 := (He.ba (show ((bs.all fun b => b K) && fn.all fun d => d.ok K) = true from congrArg (fun z : He.AlD => z.1) c)).2
  have e : fn.map (fun q => fnJ K (q.ad K)) = fn.map fun q => q.d.val := congrArg (fun z : He.AlD => z.2) c
  have e2 : (fn.map fun q => fnJ K (q.ad K))[i]? = (fn.map fun q => q.d.val)[i]? := by rw [e]
  rw [List.getElem?_map, List.getElem?_map, h] at e2
  exact DefJ.funD (Option.some.inj e2) (List.all_eq_true.mp c2 q (List.mem_of_getElem? h))
end
/-! ### facts of an own class as Bools -/
/-- class x is made by its __init__, its fields fs are its instances' own; isinstance is asked of it -/
def clsJ (x : Str) (fs : List Str) : Bf := fun K =>
  He.eqO (PySem.W.nsIn K mainGlobals x) (some (some (.ref (He.ga K x)))) && (PySem.W.plainGet K (He.ga K x) Str.empty && (PySem.W.hasDictIn K (He.ga K x) && (PySem.W.plainOver K (He.ga K x) &&
  (He.eqO (PySem.W.findIn K (.ref (He.ga K x)) "__setattr__") (some (some (.builtin "object.__setattr__"))) && (PySem.W.makesIn K (He.ga K x) && (He.eqO (PySem.W.findIn K (.ref (He.ga K x)) "__init__") (some (some (.ref (He.ma K (He.ga K x) "__init__")))) &&
  (PySem.W.isFn K (.ref (He.ma K (He.ga K x) "__init__")) && (PySem.W.keepIn K (.ref (He.ga K x)) && ((fs.all fun f => He.eqO (PySem.W.findIn K (.ref (He.ga K x)) f) (some none)) &&
  (He.eqO (PySem.W.findIn K (.ref (He.ga K x)) "__class__") (some (some (.builtin "object.__class__"))) && (He.eqO (PySem.W.specialIn K (.builtin "object.__class__") "__get__") (some (some (.builtin "getset_descriptor.__get__"))) &&
  (decide (PySem.W.takesIn K (.builtin "object.__class__") = some true) && decide (PySem.W.mroIn K (He.ga K x) (.type "object") = some true)))))))))))))
structure ClsJ (K : PySem.W.Frag) (mg : Str → Option Value) (x : Str) (fs : List Str) : Prop where
  g : mg x = some (.ref (He.ga K x))
  cl : Cls K (He.ga K x)
  mkc : Mk K (He.ga K x) (He.ma K (He.ga K x) "__init__")
  no : ∀ f ∈ fs, NoAttr K (He.ga K x) f
  c1 : PySem.W.findIn K (.ref (He.ga K x)) "__class__" = some (some (.builtin "object.__class__"))
  c2 : PySem.W.specialIn K (.builtin "object.__class__") "__get__" = some (some (.builtin "getset_descriptor.__get__"))
  c3 : PySem.W.takesIn K (.builtin "object.__class__") = some true
  c4 : PySem.W.mroIn K (He.ga K x) (.type "object") = some true
theorem clsJ_ok {K : PySem.W.Frag} {h : Heap} {mg : Str → Option Value} {x : Str} {fs : List Str} (X : K.In h) (G : h.Ns mainGlobals mg) (c : clsJ x fs K = true) : ClsJ K mg x fs := by
  obtain ⟨h0, c⟩ := He.ba c
  obtain ⟨h1, c⟩ := He.ba c
  obtain ⟨h2, c⟩ := He.ba c
  obtain ⟨h3, c⟩ := He.ba c
  obtain ⟨h4, c⟩ := He.ba c
  obtain ⟨h5, c⟩ := He.ba c
  obtain ⟨h6, c⟩ := He.ba c
  obtain ⟨h7, c⟩ := He.ba c
  obtain ⟨h8, c⟩ := He.ba c
  obtain ⟨h9, c⟩ := He.ba c
  obtain ⟨h10, c⟩ := He.ba c
  obtain ⟨h11, c⟩ := He.ba c
  obtain ⟨h12, h13⟩ := He.ba c
  exact ⟨PySem.W.mg_of X G (He.eqO_ok h0), ⟨h1, h2, h3, He.eqO_ok h4⟩, ⟨h5, He.eqO_ok h6, h7, h8⟩, fun f hf => He.eqO_ok (List.all_eq_true.mp h9 f hf), He.eqO_ok h10, He.eqO_ok h11, of_decide_eq_true h12, of_decide_eq_true h13⟩
theorem ClsJ.ty {K : PySem.W.Frag} {mg : Str → Option Value} {x : Str} {fs : List Str} (c : ClsJ K mg x fs) {H : Hp} {a dx : Addr} {gs : List (Str × V)} (e : H a = some (.ins (He.ga K x) dx gs)) : TyOf K H (.ref a) (.ref (He.ga K x)) := .ins e c.cl c.c1 c.c2 c.c3 c.c4
/-- a method -/
def methJ (x m : Str) : Bf := fun K => He.eqO (PySem.W.findIn K (.ref (He.ga K x)) m) (some (some (.ref (He.ma K (He.ga K x) m)))) && (PySem.W.isFn K (.ref (He.ma K (He.ga K x) m)) && PySem.W.keepIn K (.ref (He.ma K (He.ga K x) m)))
theorem methJ_ok {K : PySem.W.Frag} {x m : Str} (c : methJ x m K = true) : Meth K (He.ga K x) m (He.ma K (He.ga K x) m) := by
  obtain ⟨h0, c⟩ := He.ba c
  obtain ⟨h1, h2⟩ := He.ba c
  exact ⟨He.eqO_ok h0, h1, h2⟩
def propJ (x f : Str) : Bf := fun K => He.eqO (PySem.W.findIn K (.ref (He.ga K x)) f) (some (some (.ref (He.ma K (He.ga K x) f)))) && (He.eqO (PySem.W.specialIn K (.ref (He.ma K (He.ga K x) f)) "__get__") (some (some (.builtin "property.__get__"))) &&
  (decide (PySem.W.takesIn K (.ref (He.ma K (He.ga K x) f)) = some true) && (match PySem.W.recIn K (He.ma K (He.ga K x) f) "property" with
    | some (.ref _ :: _) => true
    | _ => false)))
theorem propJ_ok {K : PySem.W.Frag} {x f : Str} (c : propJ x f K = true) : PropOf K (He.ga K x) f (He.ma K (He.ga K x) f) (pa x f K) := by
  obtain ⟨h0, c⟩ := He.ba c
  obtain ⟨h1, c⟩ := He.ba c
  obtain ⟨h2, h3⟩ := He.ba c
  refine ⟨He.eqO_ok h0, He.eqO_ok h1, of_decide_eq_true h2, ?_⟩
  unfold pa
  split at h3
  · rename_i g rest e
    rw [e]
    exact ⟨rest, rfl⟩
  · cases h3
/-- an operator's two defs -/
def opJ (x : Str) (nm : String) : Bf := fun K => methJ x (PySem.dunder nm) K && (methJ x (PySem.dunderR nm) K && He.eqO (PySem.W.findIn K (.ref (He.ga K x)) (PySem.dunderI nm)) (some none))
theorem opJ_ok {K : PySem.W.Frag} {x : Str} {nm : String} (c : opJ x nm K = true) : OpC K (He.ga K x) nm (He.ma K (He.ga K x) (PySem.dunder nm)) (He.ma K (He.ga K x) (PySem.dunderR nm)) := by
  obtain ⟨h0, c⟩ := He.ba c
  obtain ⟨h1, h2⟩ := He.ba c
  have a := methJ_ok h0
  have b := methJ_ok h1
  exact ⟨a.at_, a.fn, b.at_, b.fn, He.eqO_ok h2⟩
def ownJ (x : Str) : Bf := fun K => PySem.W.selfFirst K (He.ga K x) && (PySem.W.mroTwo K (He.ga K x) && (decide (PySem.W.subIn K (.ref (He.ga K x)) (.type "object") = some true) && He.eqO (PySem.W.findIn K (.ref (He.ga K x)) "__ne__") (some (some (.builtin "object.__ne__")))))
theorem ownJ_ok {K : PySem.W.Frag} {x : Str} (c : ownJ x K = true) : OwnC K (He.ga K x) ∧ PySem.W.findIn K (.ref (He.ga K x)) "__ne__" = some (some (.builtin "object.__ne__")) := by
  obtain ⟨h0, c⟩ := He.ba c
  obtain ⟨h1, c⟩ := He.ba c
  obtain ⟨h2, h3⟩ := He.ba c
  exact ⟨⟨h0, h1, of_decide_eq_true h2⟩, He.eqO_ok h3⟩
/-- the class x and Python's own T have nothing to do with one another; isinstance's answers -/
def apartJ (x : Str) (T : String) : Bf := fun K => decide (PySem.W.subIn K (.type T) (.ref (He.ga K x)) = some false) && (decide (PySem.W.subIn K (.ref (He.ga K x)) (.type T) = some false) &&
  (decide (PySem.W.kitOne K (.type T) (.ref (He.ga K x)) = some false) && decide (PySem.W.kitOne K (.ref (He.ga K x)) (.type T) = some false)))
structure ApartJ (K : PySem.W.Frag) (x : Str) (T : String) : Prop where
  ap : Apart K (He.ga K x) T
  k1 : PySem.W.kitOne K (.type T) (.ref (He.ga K x)) = some false
  k2 : PySem.W.kitOne K (.ref (He.ga K x)) (.type T) = some false
theorem apartJ_ok {K : PySem.W.Frag} {x : Str} {T : String} (c : apartJ x T K = true) : ApartJ K x T := by
  obtain ⟨h0, c⟩ := He.ba c
  obtain ⟨h1, c⟩ := He.ba c
  obtain ⟨h2, h3⟩ := He.ba c
  exact ⟨⟨of_decide_eq_true h0, of_decide_eq_true h1⟩, of_decide_eq_true h2, of_decide_eq_true h3⟩
theorem kit_self {K : PySem.W.Frag} {C : Addr} : PySem.W.kitOne K (.ref C) (.ref C) = some true := by
  unfold PySem.W.kitOne
  rw [if_pos (by simp)]
end J

set_option Elab.async false
set_option linter.all false
set_option maxRecDepth 100000
set_option maxHeartbeats 4000000
/-! N0: what a head asks of the globals and classes, as truth values. -/
namespace N
open PySem PySem.Spec PyProof.Rows L2 J
/-- x has the method m of its base b -/
def inhJ (x b m : Str) : Bf := fun K => He.eqO (PySem.W.findIn K (.ref (He.ga K x)) m) (some (some (.ref (He.ma K (He.ga K b) m)))) && (PySem.W.isFn K (.ref (He.ma K (He.ga K b) m)) && PySem.W.keepIn K (.ref (He.ma K (He.ga K b) m)))
def nejB (x : Str) : Bf := fun K => decide (PySem.W.subIn K (.ref (He.ga K x)) (.type "object") = some true) && He.eqO (PySem.W.findIn K (.ref (He.ga K x)) "__ne__") (some (some (.builtin "object.__ne__")))
def subB0 (x b : Str) : Bf := fun K => decide (PySem.W.subIn K (.ref (He.ga K x)) (.ref (He.ga K b)) = some false)
def intB (x : Str) (z : Int) : Bf := fun K => match PySem.W.nsIn K mainGlobals x with
  | some (some (.int y _)) => decide (y = z)
  | _ => false
def txsB : List Value → List Str → Bool
  | [], [] => true
  | .str y _ :: r, z :: t => decide (y = z) && txsB r t
  | _, _ => false
def tupB (x : Str) (zs : List Str) : Bf := fun K => match PySem.W.nsIn K mainGlobals x with
  | some (some (.ref p)) => match K.lookup p with
    | some ⟨.type "tuple", _, .seq its _, _⟩ => decide (its.size ≤ sizeLine) && txsB its.toList zs
    | _ => false
  | _ => false
def strB (x z : Str) : Bf := fun K => match PySem.W.nsIn K mainGlobals x with
  | some (some (.str y _)) => decide (y = z)
  | _ => false
def clsIB (n : Str) : Bf := fun K => He.eqO (PySem.W.nsIn K mainGlobals n) (some (some (.ref (He.ga K n)))) && (PySem.W.readsIn K (He.ga K n) (.type "type") &&
  (He.eqO (PySem.W.specialIn K (.ref (He.ga K n)) "__getattribute__") (some (some (.builtin "type.__getattribute__"))) &&
  (match PySem.W.findCls K (.ref (He.ga K n)) (.type "type") "__init__" with
    | some (.val v) => decide (v = .ref (He.ma K (He.ga K n) "__init__"))
    | _ => false)))
end N

set_option Elab.async false
set_option linter.all false
set_option maxRecDepth 100000
set_option maxHeartbeats 4000000
namespace K42
open PySem PySem.Spec PyProof.Rows L2 J N
def top (i : Nat) : Stmt := PySem.Challenge.pw_jointdraws_k42_draws_for_families.main.body.getD i (.Pass ⟨0, 0, 0, 0⟩)
abbrev s__wall : Stmt := top 0
abbrev s_ByZero___init__ : Stmt := inClass (top 3) 0
abbrev s_BadNumber___init__ : Stmt := inClass (top 4) 0
abbrev s_BadName___init__ : Stmt := inClass (top 5) 0
abbrev s_BadKind___init__ : Stmt := inClass (top 6) 0
abbrev s_BadGivers___init__ : Stmt := inClass (top 7) 0
abbrev s_Twice___init__ : Stmt := inClass (top 8) 0
abbrev s_BadShares___init__ : Stmt := inClass (top 9) 0
abbrev s_BadStandIn___init__ : Stmt := inClass (top 10) 0
abbrev s_BadDraws___init__ : Stmt := inClass (top 11) 0
abbrev s_TooMany___init__ : Stmt := inClass (top 12) 0
abbrev s_BadFamily___init__ : Stmt := inClass (top 13) 0
abbrev s_BadNames___init__ : Stmt := inClass (top 14) 0
abbrev s_common_part : Stmt := top 16
abbrev s_is_integer : Stmt := top 17
abbrev s_Ratio___init__ : Stmt := inClass (top 18) 0
abbrev s_Ratio_top : Stmt := inClass (top 18) 1
abbrev s_Ratio_bottom : Stmt := inClass (top 18) 2
abbrev s_Ratio___add__ : Stmt := inClass (top 18) 3
abbrev s_Ratio___radd__ : Stmt := inClass (top 18) 4
abbrev s_Ratio___sub__ : Stmt := inClass (top 18) 5
abbrev s_Ratio___rsub__ : Stmt := inClass (top 18) 6
abbrev s_Ratio___mul__ : Stmt := inClass (top 18) 7
abbrev s_Ratio___rmul__ : Stmt := inClass (top 18) 8
abbrev s_Ratio___neg__ : Stmt := inClass (top 18) 9
abbrev s_Ratio___eq__ : Stmt := inClass (top 18) 10
abbrev s_Ratio___str__ : Stmt := inClass (top 18) 11
abbrev s_Ratio_over : Stmt := inClass (top 18) 12
abbrev s_Ratio_below : Stmt := inClass (top 18) 13
abbrev s_Ratio_text : Stmt := inClass (top 18) 14
abbrev s_parts_of : Stmt := top 19
abbrev s_is_number : Stmt := top 20
abbrev s_as_ratio : Stmt := top 21
abbrev s_total : Stmt := top 22
abbrev s_is_name : Stmt := top 27
abbrev s_is_listed : Stmt := top 28
abbrev s_rows_of : Stmt := top 29
abbrev s_Draw___init__ : Stmt := inClass (top 30) 0
abbrev s_Draw___eq__ : Stmt := inClass (top 30) 1
abbrev s_Draw___len__ : Stmt := inClass (top 30) 2
abbrev s_Draw_text : Stmt := inClass (top 30) 3
abbrev s_Draw_paths : Stmt := inClass (top 30) 4
abbrev s_Draw_depth : Stmt := inClass (top 30) 5
abbrev s_Draw_rows : Stmt := inClass (top 30) 6
abbrev s_Draw_all_draws : Stmt := inClass (top 30) 7
abbrev s_Draw_ends : Stmt := inClass (top 30) 8
abbrev s_Draw_people : Stmt := inClass (top 30) 9
abbrev s_Draw_at : Stmt := inClass (top 30) 10
abbrev s_End___init__ : Stmt := inClass (top 31) 0
abbrev s_End_name : Stmt := inClass (top 31) 1
abbrev s_Round___init__ : Stmt := inClass (top 32) 0
abbrev s_Round_kind : Stmt := inClass (top 32) 1
abbrev s_Round_givers : Stmt := inClass (top 32) 2
abbrev s_Round_draws : Stmt := inClass (top 32) 3
abbrev s_Round_has_row : Stmt := inClass (top 32) 4
abbrev s_Round_behind : Stmt := inClass (top 32) 5
abbrev s_are_givers : Stmt := top 33
abbrev s_are_shares : Stmt := top 34
abbrev s_checked_seat : Stmt := top 35
abbrev s_seat_text : Stmt := top 36
abbrev s_are_names : Stmt := top 40
abbrev s_fair_turn : Stmt := top 41
abbrev s_draw_for : Stmt := top 42
abbrev s_family_draw : Stmt := top 43
abbrev s__law_tape : Stmt := top 45
abbrev s__law_pick : Stmt := top 46
abbrev s__law_mixed : Stmt := top 47
abbrev s__law_lots : Stmt := top 48
abbrev s__law_is_fair : Stmt := top 49
abbrev s__law_yes : Stmt := top 50
abbrev s__law_drawn_sets : Stmt := top 51
abbrev s_law : Stmt := top 52
abbrev FnP (K : PySem.W.Frag) (x : Str) (st : Stmt) (f : Addr) (fd : FuncData) : Prop := FunD K x x (defArgs st) (defBody st) (defScope st) [] [] f fd
abbrev FnM (K : PySem.W.Frag) (m q : Str) (st : Stmt) (f : Addr) (fd : FuncData) : Prop := FunD K m q (defArgs st) (defBody st) (defScope st) [] [] f fd
/-! ### the head -/
def exmB (x c : Str) : Bf := fun K => decide (PySem.W.exmOne K (.ref (He.ga K x)) (.ref (He.ga K c)) = some true)
def kitB (x c : Str) : Bf := fun K => decide (PySem.W.kitOne K (.ref (He.ga K x)) (.ref (He.ga K c)) = some true)
def exmB0 (x c : Str) : Bf := fun K => decide (PySem.W.exmOne K (.ref (He.ga K x)) (.ref (He.ga K c)) = some false)
def kitB0 (x c : Str) : Bf := fun K => decide (PySem.W.kitOne K (.ref (He.ga K x)) (.ref (He.ga K c)) = some false)
def bf : List Bf := [derrB, clsB, errB "ByZero" "given", errB "BadNumber" "given", errB "BadName" "given", errB "BadKind" "given", errB "BadGivers" "given", errB "Twice" "person", errB "BadShares" "given", errB "BadStandIn" "given", errB "BadDraws" "given", errB "TooMany" "count", errB "BadFamily" "given", errB "BadNames" "given", clsJ "Ratio" ["above", "under"], apartJ "Ratio" "int", apartJ "Ratio" "bool", apartJ "Ratio" "NoneType", apartJ "Ratio" "str", apartJ "Ratio" "list", apartJ "Ratio" "tuple", apartJ "Ratio" "dict", clsJ "End" ["words", "whole", "title"], apartJ "End" "int", apartJ "End" "bool", apartJ "End" "NoneType", apartJ "End" "str", apartJ "End" "list", apartJ "End" "tuple", apartJ "End" "dict", clsJ "Round" ["words", "whole", "manner", "seats", "steps", "further"], apartJ "Round" "int", apartJ "Round" "bool", apartJ "Round" "NoneType", apartJ "Round" "str", apartJ "Round" "list", apartJ "Round" "tuple", apartJ "Round" "dict", apartJ "Draw" "int", apartJ "Draw" "bool", apartJ "Draw" "NoneType", apartJ "Draw" "str", apartJ "Draw" "list", apartJ "Draw" "tuple", apartJ "Draw" "dict", clsIB "Draw", ownJ "Ratio", opJ "Ratio" "add", opJ "Ratio" "sub", opJ "Ratio" "mul", kitB0 "End" "Ratio", kitB0 "Round" "Ratio", kitB0 "Ratio" "Draw", kitB "End" "Draw", kitB "Round" "Draw", subB0 "End" "Round", subB0 "Round" "End", nejB "End", nejB "Round", nejB "Ratio", kitB0 "End" "Round", kitB0 "Round" "End", strB "LETTERS" "abcdefghijklmnopqrstuvwxyz", intB "MOST_ROWS" 16, tupB "KINDS" [("open" : Str), ("sealed" : Str), ("held" : Str), ("last" : Str)], freeB "abs", freeB "len", freeB "int", freeB "bool", freeB "str", freeB "min", freeB "max", freeB "range", freeB "repr", freeB "all", freeB "any", freeB "isinstance", freeB "tuple", freeB "list", freeB "sorted", freeB "zip", intB "HALF" 2, intB "MOST_PEOPLE" 6, gloB "common_part", gloB "is_integer", gloB "parts_of", methJ "Ratio" "__add__", methJ "Ratio" "__eq__", methJ "Ratio" "__str__", methJ "Ratio" "below", methJ "Ratio" "text", gloB "is_number", gloB "as_ratio", gloB "total", gloB "is_name", gloB "is_listed", gloB "rows_of", inhJ "End" "Draw" "__eq__", inhJ "Round" "Draw" "__eq__", inhJ "End" "Draw" "text", inhJ "Round" "Draw" "text", propJ "End" "name", propJ "Round" "kind", propJ "Round" "givers", propJ "Round" "draws", gloB "are_givers", gloB "are_shares", gloB "checked_seat", gloB "seat_text", gloB "are_names", gloB "fair_turn", gloB "draw_for", gloB "family_draw", gloB "_law_pick", gloB "_law_mixed", gloB "_law_lots", gloB "_law_is_fair", gloB "_law_yes", gloB "_law_drawn_sets", gloB "_law_tape", gloB "law"]
def fn : List DefJ := [⟨fun K => He.ma K (He.ga K "ByZero") "__init__", ⟨("ByZero", some "__init__"), "__init__", "ByZero.__init__", defArgs s_ByZero___init__, defBody s_ByZero___init__, defScope s_ByZero___init__, [], []⟩⟩,
  ⟨fun K => He.ma K (He.ga K "BadNumber") "__init__", ⟨("BadNumber", some "__init__"), "__init__", "BadNumber.__init__", defArgs s_BadNumber___init__, defBody s_BadNumber___init__, defScope s_BadNumber___init__, [], []⟩⟩,
  ⟨fun K => He.ma K (He.ga K "BadName") "__init__", ⟨("BadName", some "__init__"), "__init__", "BadName.__init__", defArgs s_BadName___init__, defBody s_BadName___init__, defScope s_BadName___init__, [], []⟩⟩,
  ⟨fun K => He.ma K (He.ga K "BadKind") "__init__", ⟨("BadKind", some "__init__"), "__init__", "BadKind.__init__", defArgs s_BadKind___init__, defBody s_BadKind___init__, defScope s_BadKind___init__, [], []⟩⟩,
  ⟨fun K => He.ma K (He.ga K "BadGivers") "__init__", ⟨("BadGivers", some "__init__"), "__init__", "BadGivers.__init__", defArgs s_BadGivers___init__, defBody s_BadGivers___init__, defScope s_BadGivers___init__, [], []⟩⟩,
  ⟨fun K => He.ma K (He.ga K "Twice") "__init__", ⟨("Twice", some "__init__"), "__init__", "Twice.__init__", defArgs s_Twice___init__, defBody s_Twice___init__, defScope s_Twice___init__, [], []⟩⟩,
  ⟨fun K => He.ma K (He.ga K "BadShares") "__init__", ⟨("BadShares", some "__init__"), "__init__", "BadShares.__init__", defArgs s_BadShares___init__, defBody s_BadShares___init__, defScope s_BadShares___init__, [], []⟩⟩,
  ⟨fun K => He.ma K (He.ga K "BadStandIn") "__init__", ⟨("BadStandIn", some "__init__"), "__init__", "BadStandIn.__init__", defArgs s_BadStandIn___init__, defBody s_BadStandIn___init__, defScope s_BadStandIn___init__, [], []⟩⟩,
  ⟨fun K => He.ma K (He.ga K "BadDraws") "__init__", ⟨("BadDraws", some "__init__"), "__init__", "BadDraws.__init__", defArgs s_BadDraws___init__, defBody s_BadDraws___init__, defScope s_BadDraws___init__, [], []⟩⟩,
  ⟨fun K => He.ma K (He.ga K "TooMany") "__init__", ⟨("TooMany", some "__init__"), "__init__", "TooMany.__init__", defArgs s_TooMany___init__, defBody s_TooMany___init__, defScope s_TooMany___init__, [], []⟩⟩,
  ⟨fun K => He.ma K (He.ga K "BadFamily") "__init__", ⟨("BadFamily", some "__init__"), "__init__", "BadFamily.__init__", defArgs s_BadFamily___init__, defBody s_BadFamily___init__, defScope s_BadFamily___init__, [], []⟩⟩,
  ⟨fun K => He.ma K (He.ga K "BadNames") "__init__", ⟨("BadNames", some "__init__"), "__init__", "BadNames.__init__", defArgs s_BadNames___init__, defBody s_BadNames___init__, defScope s_BadNames___init__, [], []⟩⟩,
  ⟨fun K => He.ga K "common_part", ⟨("common_part", none), "common_part", "common_part", defArgs s_common_part, defBody s_common_part, defScope s_common_part, [], []⟩⟩,
  ⟨fun K => He.ga K "is_integer", ⟨("is_integer", none), "is_integer", "is_integer", defArgs s_is_integer, defBody s_is_integer, defScope s_is_integer, [], []⟩⟩,
  ⟨fun K => He.ma K (He.ga K "Ratio") "__init__", ⟨("Ratio", some "__init__"), "__init__", "Ratio.__init__", defArgs s_Ratio___init__, defBody s_Ratio___init__, defScope s_Ratio___init__, [.int 1], []⟩⟩,
  ⟨fun K => He.ga K "parts_of", ⟨("parts_of", none), "parts_of", "parts_of", defArgs s_parts_of, defBody s_parts_of, defScope s_parts_of, [], []⟩⟩,
  ⟨fun K => He.ma K (He.ga K "Ratio") "__add__", ⟨("Ratio", some "__add__"), "__add__", "Ratio.__add__", defArgs s_Ratio___add__, defBody s_Ratio___add__, defScope s_Ratio___add__, [], []⟩⟩,
  ⟨fun K => He.ma K (He.ga K "Ratio") "__eq__", ⟨("Ratio", some "__eq__"), "__eq__", "Ratio.__eq__", defArgs s_Ratio___eq__, defBody s_Ratio___eq__, defScope s_Ratio___eq__, [], []⟩⟩,
  ⟨fun K => He.ma K (He.ga K "Ratio") "__str__", ⟨("Ratio", some "__str__"), "__str__", "Ratio.__str__", defArgs s_Ratio___str__, defBody s_Ratio___str__, defScope s_Ratio___str__, [], []⟩⟩,
  ⟨fun K => He.ma K (He.ga K "Ratio") "below", ⟨("Ratio", some "below"), "below", "Ratio.below", defArgs s_Ratio_below, defBody s_Ratio_below, defScope s_Ratio_below, [], []⟩⟩,
  ⟨fun K => He.ma K (He.ga K "Ratio") "text", ⟨("Ratio", some "text"), "text", "Ratio.text", defArgs s_Ratio_text, defBody s_Ratio_text, defScope s_Ratio_text, [], []⟩⟩,
  ⟨fun K => He.ga K "is_number", ⟨("is_number", none), "is_number", "is_number", defArgs s_is_number, defBody s_is_number, defScope s_is_number, [], []⟩⟩,
  ⟨fun K => He.ga K "as_ratio", ⟨("as_ratio", none), "as_ratio", "as_ratio", defArgs s_as_ratio, defBody s_as_ratio, defScope s_as_ratio, [], []⟩⟩,
  ⟨fun K => He.ga K "total", ⟨("total", none), "total", "total", defArgs s_total, defBody s_total, defScope s_total, [], []⟩⟩,
  ⟨fun K => He.ga K "is_name", ⟨("is_name", none), "is_name", "is_name", defArgs s_is_name, defBody s_is_name, defScope s_is_name, [], []⟩⟩,
  ⟨fun K => He.ga K "is_listed", ⟨("is_listed", none), "is_listed", "is_listed", defArgs s_is_listed, defBody s_is_listed, defScope s_is_listed, [], []⟩⟩,
  ⟨fun K => He.ga K "rows_of", ⟨("rows_of", none), "rows_of", "rows_of", defArgs s_rows_of, defBody s_rows_of, defScope s_rows_of, [], []⟩⟩,
  ⟨fun K => He.ma K (He.ga K "Draw") "__init__", ⟨("Draw", some "__init__"), "__init__", "Draw.__init__", defArgs s_Draw___init__, defBody s_Draw___init__, defScope s_Draw___init__, [], []⟩⟩,
  ⟨fun K => He.ma K (He.ga K "Draw") "__eq__", ⟨("Draw", some "__eq__"), "__eq__", "Draw.__eq__", defArgs s_Draw___eq__, defBody s_Draw___eq__, defScope s_Draw___eq__, [], []⟩⟩,
  ⟨fun K => He.ma K (He.ga K "Draw") "text", ⟨("Draw", some "text"), "text", "Draw.text", defArgs s_Draw_text, defBody s_Draw_text, defScope s_Draw_text, [], []⟩⟩,
  ⟨fun K => He.ma K (He.ga K "End") "__init__", ⟨("End", some "__init__"), "__init__", "End.__init__", defArgs s_End___init__, defBody s_End___init__, defScope s_End___init__, [], []⟩⟩,
  ⟨fun K => pa "End" "name" K, ⟨("End", some "name"), "name", "End.name", defArgs s_End_name, defBody s_End_name, defScope s_End_name, [], []⟩⟩,
  ⟨fun K => pa "Round" "kind" K, ⟨("Round", some "kind"), "kind", "Round.kind", defArgs s_Round_kind, defBody s_Round_kind, defScope s_Round_kind, [], []⟩⟩,
  ⟨fun K => pa "Round" "givers" K, ⟨("Round", some "givers"), "givers", "Round.givers", defArgs s_Round_givers, defBody s_Round_givers, defScope s_Round_givers, [], []⟩⟩,
  ⟨fun K => pa "Round" "draws" K, ⟨("Round", some "draws"), "draws", "Round.draws", defArgs s_Round_draws, defBody s_Round_draws, defScope s_Round_draws, [], []⟩⟩,
  ⟨fun K => He.ga K "are_givers", ⟨("are_givers", none), "are_givers", "are_givers", defArgs s_are_givers, defBody s_are_givers, defScope s_are_givers, [], []⟩⟩,
  ⟨fun K => He.ga K "are_shares", ⟨("are_shares", none), "are_shares", "are_shares", defArgs s_are_shares, defBody s_are_shares, defScope s_are_shares, [], []⟩⟩,
  ⟨fun K => He.ga K "checked_seat", ⟨("checked_seat", none), "checked_seat", "checked_seat", defArgs s_checked_seat, defBody s_checked_seat, defScope s_checked_seat, [], []⟩⟩,
  ⟨fun K => He.ga K "seat_text", ⟨("seat_text", none), "seat_text", "seat_text", defArgs s_seat_text, defBody s_seat_text, defScope s_seat_text, [], []⟩⟩,
  ⟨fun K => He.ma K (He.ga K "Round") "__init__", ⟨("Round", some "__init__"), "__init__", "Round.__init__", defArgs s_Round___init__, defBody s_Round___init__, defScope s_Round___init__, [], []⟩⟩,
  ⟨fun K => He.ga K "are_names", ⟨("are_names", none), "are_names", "are_names", defArgs s_are_names, defBody s_are_names, defScope s_are_names, [], []⟩⟩,
  ⟨fun K => He.ga K "fair_turn", ⟨("fair_turn", none), "fair_turn", "fair_turn", defArgs s_fair_turn, defBody s_fair_turn, defScope s_fair_turn, [], []⟩⟩,
  ⟨fun K => He.ga K "draw_for", ⟨("draw_for", none), "draw_for", "draw_for", defArgs s_draw_for, defBody s_draw_for, defScope s_draw_for, [], []⟩⟩,
  ⟨fun K => He.ga K "family_draw", ⟨("family_draw", none), "family_draw", "family_draw", defArgs s_family_draw, defBody s_family_draw, defScope s_family_draw, [], []⟩⟩,
  ⟨fun K => He.ga K "_law_pick", ⟨("_law_pick", none), "_law_pick", "_law_pick", defArgs s__law_pick, defBody s__law_pick, defScope s__law_pick, [], []⟩⟩,
  ⟨fun K => He.ga K "_law_mixed", ⟨("_law_mixed", none), "_law_mixed", "_law_mixed", defArgs s__law_mixed, defBody s__law_mixed, defScope s__law_mixed, [], []⟩⟩,
  ⟨fun K => He.ga K "_law_lots", ⟨("_law_lots", none), "_law_lots", "_law_lots", defArgs s__law_lots, defBody s__law_lots, defScope s__law_lots, [], []⟩⟩,
  ⟨fun K => He.ga K "_law_is_fair", ⟨("_law_is_fair", none), "_law_is_fair", "_law_is_fair", defArgs s__law_is_fair, defBody s__law_is_fair, defScope s__law_is_fair, [], []⟩⟩,
  ⟨fun K => He.ga K "_law_yes", ⟨("_law_yes", none), "_law_yes", "_law_yes", defArgs s__law_yes, defBody s__law_yes, defScope s__law_yes, [], []⟩⟩,
  ⟨fun K => He.ga K "_law_drawn_sets", ⟨("_law_drawn_sets", none), "_law_drawn_sets", "_law_drawn_sets", defArgs s__law_drawn_sets, defBody s__law_drawn_sets, defScope s__law_drawn_sets, [], []⟩⟩,
  ⟨fun K => He.ga K "_law_tape", ⟨("_law_tape", none), "_law_tape", "_law_tape", defArgs s__law_tape, defBody s__law_tape, defScope s__law_tape, [], []⟩⟩,
  ⟨fun K => He.ga K "law", ⟨("law", none), "law", "law", defArgs s_law, defBody s_law, defScope s_law, [], []⟩⟩]
abbrev R : PySem.W.OpenRow := PySem.W.OpenLaw.row PySem.Challenge.rw_jointdraws_k42_draws_for_families
abbrev hk : PySem.W.Hook := hookK 5 bf fn
def ob (s : PySem.W.SharedT) : He.AlD := obsKG 5 bf fn (HandSHeadRun.getT s)
theorem ob_eq (s : PySem.W.SharedT) : ob s = hk.obs s.abs := obsKG_eq (HandSHeadRun.getT_eq s)
def loose : List Str := (["_wall", "DrawError", "ByZero", "BadNumber", "BadName", "BadKind", "BadGivers", "Twice", "BadShares", "BadStandIn", "BadDraws", "TooMany", "BadFamily", "BadNames", "common_part", "is_integer", "Ratio", "parts_of", "is_number", "as_ratio", "total", "is_name", "is_listed"] : List Str) ++ (["rows_of", "Draw", "End", "Round", "are_givers", "are_shares", "checked_seat", "seat_text", "are_names", "fair_turn", "draw_for", "family_draw", "_law_tape", "_law_pick", "_law_mixed", "_law_lots", "_law_is_fair", "_law_yes", "_law_drawn_sets", "LETTERS", "KINDS", "MOST_ROWS", "HALF", "MOST_PEOPLE"] : List Str)
theorem run (w : World) : HandSHeadRun.RunEq R (PySem.W.view R.prog [52]) hk ob 20000 loose w := by
  intro os
  kernel_rfl

end K42

set_option Elab.async false
set_option linter.all false
set_option maxRecDepth 100000
set_option maxHeartbeats 4000000
/-! N1: values as pure data, settled and unsettled heaps, the mirror's monad, readings by pure slots. -/
namespace N
open PySem PySem.Spec PyProof.Rows L2 J

/-! ### data -/
inductive D where
  | non | bl (b : Bool) | int (i : Int) | str (s : Str)
  | tup (xs : List D) | tupN (xs : List D) | lst (xs : List D) | ins (c : Str) (fs : List (Str × D)) | dic (kvs : List (Key × D)) | dicF (kvs : List (Key × D))
mutual
/-- v is d in the settled heap G -/
inductive Rep (K : PySem.W.Frag) (G : Hp) : V → D → Prop
  | non : Rep K G .non .non
  | bl (b : Bool) : Rep K G (.bl b) (.bl b)
  | int (i : Int) : Rep K G (.int i) (.int i)
  | str (s : Str) : Rep K G (.str s) (.str s)
  | tup {p : Addr} {xs : List V} {ds : List D} : SqT K G p xs → Reps K G xs ds → Rep K G (.ref p) (.tup ds)
  | tupN {p : Addr} {o : Obj} {xs : List V} {ds : List D} : G p = some (.frz o (.tup xs)) → o.dict = none → Reps K G xs ds → Rep K G (.ref p) (.tupN ds)
  | lst {p : Addr} {xs : List V} {ds : List D} : G p = some (.lst xs) → Reps K G xs ds → Rep K G (.ref p) (.lst ds)
  | ins {p dx : Addr} {c : Str} {fs : List (Str × V)} {ds : List (Str × D)} : G p = some (.ins (He.ga K c) dx fs) → RepF K G fs ds → Rep K G (.ref p) (.ins c ds)
  | dic {p : Addr} {kvs : List (Key × V)} {ds : List (Key × D)} : G p = some (.dK kvs) → RepK K G kvs ds → Rep K G (.ref p) (.dic ds)
  | dicF {p : Addr} {o : Obj} {kvs : List (Key × V)} {ds : List (Key × D)} : G p = some (.frz o (.dK kvs)) → RepK K G kvs ds → Rep K G (.ref p) (.dicF ds)
inductive Reps (K : PySem.W.Frag) (G : Hp) : List V → List D → Prop
  | nil : Reps K G [] []
  | cons {v : V} {d : D} {vs : List V} {ds : List D} : Rep K G v d → Reps K G vs ds → Reps K G (v :: vs) (d :: ds)
inductive RepF (K : PySem.W.Frag) (G : Hp) : List (Str × V) → List (Str × D) → Prop
  | nil : RepF K G [] []
  | cons {n : Str} {v : V} {d : D} {vs : List (Str × V)} {ds : List (Str × D)} : Rep K G v d → RepF K G vs ds → RepF K G ((n, v) :: vs) ((n, d) :: ds)
inductive RepK (K : PySem.W.Frag) (G : Hp) : List (Key × V) → List (Key × D) → Prop
  | nil : RepK K G [] []
  | cons {n : Key} {v : V} {d : D} {vs : List (Key × V)} {ds : List (Key × D)} : Rep K G v d → RepK K G vs ds → RepK K G ((n, v) :: vs) ((n, d) :: ds)
end
section
variable {K : PySem.W.Frag} {G G' : Hp}
mutual
theorem Rep.ext (s : Same G G') : ∀ {v : V} {d : D}, Rep K G v d → Rep K G' v d
  | _, _, .non => .non
  | _, _, .bl b => .bl b
  | _, _, .int i => .int i
  | _, _, .str z => .str z
  | _, _, .tup h r => .tup (s.tupS h) (Reps.ext s r)
  | _, _, .tupN h z r => .tupN (s _ _ h) z (Reps.ext s r)
  | _, _, .lst h r => .lst (s _ _ h) (Reps.ext s r)
  | _, _, .ins h r => .ins (s _ _ h) (RepF.ext s r)
  | _, _, .dic h r => .dic (s _ _ h) (RepK.ext s r)
  | _, _, .dicF h r => .dicF (s _ _ h) (RepK.ext s r)
theorem Reps.ext (s : Same G G') : ∀ {v : List V} {d : List D}, Reps K G v d → Reps K G' v d
  | _, _, .nil => .nil
  | _, _, .cons h r => .cons (Rep.ext s h) (Reps.ext s r)
theorem RepF.ext (s : Same G G') : ∀ {v : List (Str × V)} {d : List (Str × D)}, RepF K G v d → RepF K G' v d
  | _, _, .nil => .nil
  | _, _, .cons h r => .cons (Rep.ext s h) (RepF.ext s r)
theorem RepK.ext (s : Same G G') : ∀ {v : List (Key × V)} {d : List (Key × D)}, RepK K G v d → RepK K G' v d
  | _, _, .nil => .nil
  | _, _, .cons h r => .cons (Rep.ext s h) (RepK.ext s r)
end
theorem Reps.length : ∀ {vs : List V} {ds : List D}, Reps K G vs ds → vs.length = ds.length
  | _, _, .nil => rfl
  | _, _, .cons _ r => by rw [List.length_cons, List.length_cons, r.length]
theorem Reps.get : ∀ {vs : List V} {ds : List D} {i : Nat} {d : D}, Reps K G vs ds → ds[i]? = some d → ∃ v, vs[i]? = some v ∧ Rep K G v d
  | _, _, _, _, .nil, e => by simp at e
  | _, _, 0, _, .cons r _, e => by simp at e; subst e; exact ⟨_, rfl, r⟩
  | _, _, i + 1, d, .cons _ t, e => by
    obtain ⟨u, h1, h2⟩ := Reps.get (i := i) (d := d) t (by simpa using e)
    exact ⟨u, by simpa using h1, h2⟩
theorem Reps.getV : ∀ {vs : List V} {ds : List D} {i : Nat} {v : V}, Reps K G vs ds → vs[i]? = some v → ∃ d, ds[i]? = some d ∧ Rep K G v d
  | _, _, _, _, .nil, e => by simp at e
  | _, _, 0, _, .cons r _, e => by simp at e; subst e; exact ⟨_, rfl, r⟩
  | _, _, i + 1, d, .cons _ t, e => by
    obtain ⟨u, h1, h2⟩ := Reps.getV (i := i) (v := d) t (by simpa using e)
    exact ⟨u, by simpa using h1, h2⟩
theorem Reps.append : ∀ {vs ws : List V} {ds es : List D}, Reps K G vs ds → Reps K G ws es → Reps K G (vs ++ ws) (ds ++ es)
  | _, _, _, _, .nil, s => s
  | _, _, _, _, .cons h r, s => .cons h (Reps.append r s)
theorem RepF.look : ∀ {vs : List (Str × V)} {ds : List (Str × D)} {n : Str} {d : D}, RepF K G vs ds → ds.lookup n = some d → ∃ v, vs.lookup n = some v ∧ Rep K G v d
  | _, _, _, _, .nil, e => by simp at e
  | _, _, n, d, .cons (n := m) h r, e => by
    by_cases q : n = m
    · subst q
      simp only [List.lookup, beq_self_eq_true] at e ⊢
      cases e
      exact ⟨_, rfl, h⟩
    · have q2 : (n == m) = false := by simpa using q
      simp only [List.lookup, q2] at e ⊢
      exact r.look e
end

/-- Lean's types as data -/
class ToD (α : Type) where
  d : α → D
open ToD (d)
instance : ToD D := ⟨id⟩
instance : ToD Int := ⟨.int⟩
instance : ToD Bool := ⟨.bl⟩
instance : ToD Str := ⟨.str⟩
instance : ToD Unit := ⟨fun _ => .non⟩
instance {α : Type} [ToD α] : ToD (List α) := ⟨fun xs => .lst (xs.map d)⟩
instance {α β : Type} [ToD α] [ToD β] : ToD (α × β) := ⟨fun p => .tup [d p.1, d p.2]⟩
/-- a tuple of any length -/
structure VT (α : Type) where
  l : List α
instance {α : Type} [ToD α] : ToD (VT α) := ⟨fun p => .tup (p.l.map d)⟩
/-- a tuple of any length that is known to have no dict -/
structure VN (α : Type) where
  l : List α
instance {α : Type} [ToD α] : ToD (VN α) := ⟨fun p => .tupN (p.l.map d)⟩
structure T3 (α β γ : Type) where
  a : α
  b : β
  c : γ
instance {α β γ : Type} [ToD α] [ToD β] [ToD γ] : ToD (T3 α β γ) := ⟨fun p => .tup [d p.a, d p.b, d p.c]⟩

/-! ### the mirror's monad: box state, errors, stuck -/
inductive Res (α : Type) where
  | ok (a : α) | err (c : Str) (fs : List (Str × D)) | stuck
abbrev Bx := Int × Int × Int
def M (α : Type) := Bx → Bx × Res α
namespace M
variable {α β : Type}
def bind' (m : M α) (f : α → M β) : M β := fun b => match m b with
  | (b', .ok a) => f a b'
  | (b', .err c fs) => (b', .err c fs)
  | (b', .stuck) => (b', .stuck)
instance : Monad M where
  pure a := fun b => (b, .ok a)
  bind := bind'
theorem bind_def (m : M α) (f : α → M β) (b : Bx) : (m >>= f) b = match m b with
  | (b', .ok a) => f a b'
  | (b', .err c fs) => (b', .err c fs)
  | (b', .stuck) => (b', .stuck) := rfl
theorem pure_def (a : α) (b : Bx) : (pure a : M α) b = (b, .ok a) := rfl
instance : LawfulMonad M := LawfulMonad.mk' M
  (id_map := fun x => by
    funext b
    show bind' x (fun a => pure (id a)) b = x b
    unfold bind'
    split <;> rename_i h <;> rw [h] <;> rfl)
  (pure_bind := fun _ _ => rfl)
  (bind_assoc := fun x f g => by
    funext b
    show bind' (bind' x f) g b = bind' x (fun a => bind' (f a) g) b
    unfold bind'
    cases h : x b with
    | mk b' r => cases r <;> rfl)
def stuck : M α := fun b => (b, .stuck)
def raise (c : Str) (fs : List (Str × D)) : M α := fun b => (b, .err c fs)
def lft (r : Res α) : M α := fun b => (b, r)
def run (m : M α) : Res α := (m (0, 0, 0)).2
theorem run_pure (a : α) : run (pure a) = .ok a := rfl
theorem run_raise (c : Str) (fs : List (Str × D)) : run (raise c fs : M α) = .err c fs := rfl
theorem lft_ok (a : α) : lft (.ok a) = (pure a : M α) := rfl
theorem lft_err (c : Str) (fs : List (Str × D)) : lft (.err c fs) = (raise c fs : M α) := rfl
theorem raise_bind (c : Str) (fs : List (Str × D)) (f : α → M β) : (raise c fs : M α) >>= f = raise c fs := rfl
end M
open M

/-! ### what becomes of the heaps -/
/-- G: settled; all else that is tracked is kept but the box -/
structure Ex (x : Option Addr) (G H G' H' : Hp) : Prop where
  g : Same G G'
  gh : Same G' H'
  keep : ∀ p o, x ≠ some p → H p = some o → H' p = some o
  uns : ∀ p o, x ≠ some p → H p = some o → G p = none → G' p = none
theorem Ex.refl {x : Option Addr} {G H : Hp} (s : Same G H) : Ex x G H G H := ⟨Same.refl _, s, fun _ _ _ h => h, fun _ _ _ _ h => h⟩
theorem Ex.trans {x : Option Addr} {G H G1 H1 G2 H2 : Hp} (a : Ex x G H G1 H1) (b : Ex x G1 H1 G2 H2) : Ex x G H G2 H2 :=
  ⟨a.g.trans b.g, b.gh, fun p o n h => b.keep p o n (a.keep p o n h), fun p o n h g => b.uns p o n (a.keep p o n h) (a.uns p o n h g)⟩
/-- a new object, settled at once -/
theorem Ex.new {x : Option Addr} {G H : Hp} {p : Addr} {o : HO} (s : Same G H) (hp : H p = none) : Ex x G H (upd G p o) (upd H p o) := by
  have gp : G p = none := s.free hp
  refine ⟨fun a u h => ?_, fun a u h => ?_, fun a u _ h => ?_, fun a u _ h g => ?_⟩
  · rw [upd_ne (ne_of_none h gp)]; exact h
  · by_cases e : a = p
    · subst e; rw [upd_same] at h ⊢; exact h
    · rw [upd_ne e] at h ⊢; exact s _ _ h
  · rw [upd_ne (ne_of_none h hp)]; exact h
  · rw [upd_ne (ne_of_none h hp)]; exact g
/-- new, unsettled -/
theorem Ex.raw {x : Option Addr} {G H : Hp} {p : Addr} {o : HO} (s : Same G H) (hp : H p = none) : Ex x G H G (upd H p o) :=
  ⟨Same.refl _, fun a u h => by rw [upd_ne (ne_of_none (s _ _ h) hp)]; exact s _ _ h, fun a u _ h => by rw [upd_ne (ne_of_none h hp)]; exact h, fun _ _ _ _ g => g⟩
/-- what the list of draws holds: three numbers, or two (where the third is below 0) -/
def bxL (b : Bx) : List V := if b.2.2 < 0 then [.int b.1, .int b.2.1] else [.int b.1, .int b.2.1, .int b.2.2]
def BoxSt (x : Option Addr) (G H : Hp) (b : Bx) : Prop := ∀ p, x = some p → G p = none ∧ H p = some (.lst (bxL b))
theorem boxNone {G H : Hp} {b : Bx} : BoxSt none G H b := fun _ e => nomatch e
theorem BoxSt.new {x : Option Addr} {G H : Hp} {b : Bx} {p : Addr} {o : HO} (h : BoxSt x G H b) (hp : H p = none) : BoxSt x (upd G p o) (upd H p o) b := fun q e => by
  obtain ⟨h1, h2⟩ := h q e
  have n : q ≠ p := ne_of_none h2 hp
  rw [upd_ne n, upd_ne n]; exact ⟨h1, h2⟩
theorem BoxSt.raw {x : Option Addr} {G H : Hp} {b : Bx} {p : Addr} {o : HO} (h : BoxSt x G H b) (hp : H p = none) : BoxSt x G (upd H p o) b := fun q e => by
  obtain ⟨h1, h2⟩ := h q e
  rw [upd_ne (ne_of_none h2 hp)]; exact ⟨h1, h2⟩
/-- an error's own dict -/
def RepX (K : PySem.W.Frag) (G : Hp) (dd : Option Addr) (fs : List (Str × D)) : Prop := (dd = none ∧ fs = []) ∨ ∃ a vs, dd = some a ∧ G a = some (.xd vs) ∧ RepF K G vs fs ∧ fs ≠ []
theorem RepX.ext {K : PySem.W.Frag} {G G' : Hp} {dd : Option Addr} {fs : List (Str × D)} (s : Same G G') : RepX K G dd fs → RepX K G' dd fs
  | .inl h => .inl h
  | .inr ⟨a, vs, e, h, r, n⟩ => .inr ⟨a, vs, e, s _ _ h, r.ext s, n⟩

/-! ### slots -/
inductive Sl where
  | any | val (d : D) | own (ds : List D) | box | slf (a dx : Addr) (c : Str) (fs : List (Str × D)) | exc (a : Addr) (dd : Option Addr) (c : Str) (fs : List (Str × D)) | dct (kvs : List (Key × D)) | fix (v : V)
def Sl.isOwn : Sl → Bool
  | .own _ => true
  | .slf _ _ _ _ => true
  | .dct _ => true
  | _ => false
def SlOk (K : PySem.W.Frag) (x : Option Addr) (G H : Hp) (o : Option V) : Sl → Prop
  | .any => True
  | .val d => ∃ v, o = some v ∧ Rep K G v d
  | .own ds => ∃ p xs, o = some (.ref p) ∧ G p = none ∧ H p = some (.lst xs) ∧ Reps K G xs ds
  | .box => ∃ p, o = some (.ref p) ∧ x = some p
  | .slf p dx c fs => ∃ vs, o = some (.ref p) ∧ G p = none ∧ H p = some (.ins (He.ga K c) dx vs) ∧ RepF K G vs fs
  | .exc a dd _ fs => o = some (.ref a) ∧ RepX K G dd fs
  | .dct kvs => ∃ p ks, o = some (.ref p) ∧ G p = none ∧ H p = some (.dK ks) ∧ RepK K G ks kvs
  | .fix v => o = some v
structure Env (K : PySem.W.Frag) (x : Option Addr) (σ : L2.St) (Γ : List Sl) (G H : Hp) : Prop where
  len : σ.length = Γ.length
  at_ : ∀ (i : Nat) (s : Sl) (o : Option V), Γ[i]? = some s → σ[i]? = some o → SlOk K x G H o s
  dis : ∀ (i j : Nat) (p : Addr) (s t : Sl), i ≠ j → Γ[i]? = some s → Γ[j]? = some t → s.isOwn = true → t.isOwn = true → σ[i]? = some (some (.ref p)) → σ[j]? = some (some (.ref p)) → False
  xne : ∀ (i : Nat) (p : Addr) (s : Sl), Γ[i]? = some s → s.isOwn = true → σ[i]? = some (some (.ref p)) → x ≠ some p
section
variable {K : PySem.W.Frag} {x : Option Addr} {σ : L2.St} {Γ : List Sl} {G H G' H' : Hp}
theorem SlOk.ext {o : Option V} {s : Sl} (e : Ex x G H G' H') (hx : s.isOwn = true → ∀ p, o = some (.ref p) → x ≠ some p) (h : SlOk K x G H o s) : SlOk K x G' H' o s := by
  cases s with
  | any => trivial
  | val d => obtain ⟨v, a, r⟩ := h; exact ⟨v, a, r.ext e.g⟩
  | own ds =>
    obtain ⟨p, xs, a, b, c, r⟩ := h
    exact ⟨p, xs, a, e.uns p _ (hx rfl p a) c b, e.keep p _ (hx rfl p a) c, r.ext e.g⟩
  | box => exact h
  | slf p dx c fs =>
    obtain ⟨vs, a, b, c, r⟩ := h
    exact ⟨vs, a, e.uns p _ (hx rfl p a) c b, e.keep p _ (hx rfl p a) c, r.ext e.g⟩
  | exc a dd c fs => exact ⟨h.1, h.2.ext e.g⟩
  | fix v => exact h
  | dct kvs =>
    obtain ⟨p, ks, a, b, c, r⟩ := h
    exact ⟨p, ks, a, e.uns p _ (hx rfl p a) c b, e.keep p _ (hx rfl p a) c, r.ext e.g⟩
theorem Env.ext (E : Env K x σ Γ G H) (e : Ex x G H G' H') : Env K x σ Γ G' H' :=
  ⟨E.len, fun i s o h1 h2 => (E.at_ i s o h1 h2).ext e fun hs p ho => E.xne i p s h1 hs (by rw [h2, ho]), E.dis, E.xne⟩
theorem Env.get (E : Env K x σ Γ G H) {i : Nat} {s : Sl} (h : Γ[i]? = some s) : ∃ o, σ[i]? = some o ∧ SlOk K x G H o s := by
  have l : i < σ.length := by rw [E.len]; exact (List.getElem?_eq_some_iff.mp h).1
  exact ⟨σ[i], List.getElem?_eq_getElem l, E.at_ i s _ h (List.getElem?_eq_getElem l)⟩
theorem Env.val (E : Env K x σ Γ G H) {i : Nat} {d : D} (h : Γ[i]? = some (.val d)) : ∃ v, σ[i]? = some (some v) ∧ Rep K G v d := by
  obtain ⟨o, h1, v, rfl, r⟩ := E.get h
  exact ⟨v, h1, r⟩
theorem Env.set (E : Env K x σ Γ G H) {i : Nat} {v : V} {s : Sl} (h : SlOk K x G H (some v) s) (hs : s.isOwn = false) : Env K x (σ.set i (some v)) (Γ.set i s) G H := by
  refine ⟨by rw [List.length_set, List.length_set, E.len], fun j t o h1 h2 => ?_, fun j k p t u ne h1 h2 o1 o2 e1 e2 => ?_, fun j p t h1 o1 e1 => ?_⟩
  · by_cases z : i = j
    · subst z
      by_cases l : i < Γ.length
      · rw [List.getElem?_set_self l] at h1
        rw [List.getElem?_set_self (by rw [E.len]; exact l)] at h2
        cases h1; cases h2; exact h
      · rw [List.getElem?_eq_none (by rw [List.length_set]; omega)] at h1; cases h1
    · rw [List.getElem?_set_ne z] at h1 h2
      exact E.at_ j t o h1 h2
  · have nj : i ≠ j := fun z => by
      subst z
      by_cases l : i < Γ.length
      · rw [List.getElem?_set_self l] at h1; cases h1; rw [hs] at o1; cases o1
      · rw [List.getElem?_eq_none (by rw [List.length_set]; omega)] at h1; cases h1
    have nk : i ≠ k := fun z => by
      subst z
      by_cases l : i < Γ.length
      · rw [List.getElem?_set_self l] at h2; cases h2; rw [hs] at o2; cases o2
      · rw [List.getElem?_eq_none (by rw [List.length_set]; omega)] at h2; cases h2
    rw [List.getElem?_set_ne nj] at h1 e1
    rw [List.getElem?_set_ne nk] at h2 e2
    exact E.dis j k p t u ne h1 h2 o1 o2 e1 e2
  · have nj : i ≠ j := fun z => by
      subst z
      by_cases l : i < Γ.length
      · rw [List.getElem?_set_self l] at h1; cases h1; rw [hs] at o1; cases o1
      · rw [List.getElem?_eq_none (by rw [List.length_set]; omega)] at h1; cases h1
    rw [List.getElem?_set_ne nj] at h1 e1
    exact E.xne j p t h1 o1 e1
theorem Env.setVal (E : Env K x σ Γ G H) {i : Nat} {v : V} {d : D} (r : Rep K G v d) : Env K x (σ.set i (some v)) (Γ.set i (.val d)) G H := E.set ⟨v, rfl, r⟩ rfl
/-- what is known may be forgotten -/
inductive Wk : List Sl → List Sl → Prop
  | nil : Wk [] []
  | any {s : Sl} {Γ Δ : List Sl} : Wk Γ Δ → Wk (s :: Γ) (.any :: Δ)
  | eq {s : Sl} {Γ Δ : List Sl} : Wk Γ Δ → Wk (s :: Γ) (s :: Δ)
theorem Wk.length : ∀ {Γ Δ : List Sl}, Wk Γ Δ → Γ.length = Δ.length
  | _, _, .nil => rfl
  | _, _, .any h => by rw [List.length_cons, List.length_cons, h.length]
  | _, _, .eq h => by rw [List.length_cons, List.length_cons, h.length]
theorem Wk.at_ : ∀ {Γ Δ : List Sl} {i : Nat} {t : Sl}, Wk Γ Δ → Δ[i]? = some t → t = .any ∨ Γ[i]? = some t
  | _, _, _, _, .nil, h => by simp at h
  | _, _, 0, _, .any w, h => .inl (by simpa using h.symm)
  | _, _, 0, _, .eq w, h => .inr (by simpa using h)
  | _, _, i + 1, t, .any w, h => by
    rcases Wk.at_ (i := i) (t := t) w (by simpa using h) with e | e
    · exact .inl e
    · exact .inr (by simpa using e)
  | _, _, i + 1, t, .eq w, h => by
    rcases Wk.at_ (i := i) (t := t) w (by simpa using h) with e | e
    · exact .inl e
    · exact .inr (by simpa using e)
theorem Wk.refl : ∀ (Γ : List Sl), Wk Γ Γ
  | [] => .nil
  | _ :: r => .eq (Wk.refl r)
theorem Env.wk {Δ : List Sl} (E : Env K x σ Γ G H) (w : Wk Γ Δ) : Env K x σ Δ G H := by
  refine ⟨by rw [E.len, w.length], fun i s o h1 h2 => ?_, fun i j p s t ne h1 h2 o1 o2 e1 e2 => ?_, fun i p s h1 o1 e1 => ?_⟩
  · rcases w.at_ h1 with rfl | e
    · trivial
    · exact E.at_ i s o e h2
  · rcases w.at_ h1 with rfl | f1
    · cases o1
    · rcases w.at_ h2 with rfl | f2
      · cases o2
      · exact E.dis i j p s t ne f1 f2 o1 o2 e1 e2
  · rcases w.at_ h1 with rfl | f1
    · cases o1
    · exact E.xne i p s f1 o1 e1
end

/-! ### readings -/
def FinE {α : Type} [ToD α] (K : PySem.W.Frag) (W : WX) (x : Option Addr) (σ : L2.St) (G H : Hp) (Q : VK) : Bx × Res α → Prop
  | (b', .ok a) => ∀ v G' H', Ex x G H G' H' → BoxSt x G' H' b' → Rep K G' v (d a) → Q v H'
  | (b', .err c fs) => ∀ dd G' H', Ex x G H G' H' → BoxSt x G' H' b' → RepX K G' dd fs → W (.ref (He.ga K c)) dd σ H'
  | (_, .stuck) => False
/-- te tells what m says, wherever the slots are as Γ says -/
def EvR {α : Type} [ToD α] (K : PySem.W.Frag) (W : WX) (te : TE) (Γ : List Sl) (m : M α) : Prop :=
  ∀ x σ G H b Q, Env K x σ Γ G H → Same G H → BoxSt x G H b → FinE K W x σ G H Q (m b) → te σ H Q
def FinT (K : PySem.W.Frag) (W : WX) (x : Option Addr) (σ : L2.St) (G H : Hp) (Q : Bool → Hp → Prop) : Bx × Res Bool → Prop
  | (b', .ok a) => ∀ G' H', Ex x G H G' H' → BoxSt x G' H' b' → Q a H'
  | (b', .err c fs) => ∀ dd G' H', Ex x G H G' H' → BoxSt x G' H' b' → RepX K G' dd fs → W (.ref (He.ga K c)) dd σ H'
  | (_, .stuck) => False
def EvT (K : PySem.W.Frag) (W : WX) (tt : TT) (Γ : List Sl) (m : M Bool) : Prop :=
  ∀ x σ G H b Q, Env K x σ Γ G H → Same G H → BoxSt x G H b → FinT K W x σ G H Q (m b) → tt σ H Q
section
variable {α β γ : Type} [ToD α] [ToD β] [ToD γ] {K : PySem.W.Frag} {W : WX} {te ta tb : TE} {Γ : List Sl} {m : M α}
theorem FinE.ex {x : Option Addr} {σ : L2.St} {G H G' H' : Hp} {Q : VK} {r : Bx × Res α} (e : Ex x G H G' H') (h : FinE K W x σ G H Q r) : FinE K W x σ G' H' Q r := by
  obtain ⟨b', r⟩ := r
  cases r with
  | ok a => exact fun v G1 H1 e1 => h v G1 H1 (e.trans e1)
  | err c fs => exact fun dd G1 H1 e1 => h dd G1 H1 (e.trans e1)
  | stuck => exact h
theorem FinT.ex {x : Option Addr} {σ : L2.St} {G H G' H' : Hp} {Q : Bool → Hp → Prop} {r : Bx × Res Bool} (e : Ex x G H G' H') (h : FinT K W x σ G H Q r) : FinT K W x σ G' H' Q r := by
  obtain ⟨b', r⟩ := r
  cases r with
  | ok a => exact fun G1 H1 e1 => h G1 H1 (e.trans e1)
  | err c fs => exact fun dd G1 H1 e1 => h dd G1 H1 (e.trans e1)
  | stuck => exact h
/-- what may be asked behind a step: kept by the heaps' growth, errors go out, never stuck -/
structure Good (K : PySem.W.Frag) (W : WX) (x : Option Addr) (σ : L2.St) {γ : Type} (F : Hp → Hp → Bx × Res γ → Prop) : Prop where
  ex : ∀ {G H G' H' : Hp} {r : Bx × Res γ}, Ex x G H G' H' → F G H r → F G' H' r
  er : ∀ {G H : Hp} {b' : Bx} {c : Str} {fs : List (Str × D)}, F G H (b', .err c fs) → ∀ dd G' H', Ex x G H G' H' → BoxSt x G' H' b' → RepX K G' dd fs → W (.ref (He.ga K c)) dd σ H'
  st : ∀ {G H : Hp} {b' : Bx}, F G H (b', .stuck) → False
theorem good_E {x : Option Addr} {σ : L2.St} {Q : VK} : Good K W x σ (fun G H r => FinE (α := β) K W x σ G H Q r) := ⟨fun e h => h.ex e, fun h => h, fun h => h⟩
theorem good_T {x : Option Addr} {σ : L2.St} {Q : Bool → Hp → Prop} : Good K W x σ (fun G H r => FinT K W x σ G H Q r) := ⟨fun e h => h.ex e, fun h => h, fun h => h⟩
section
variable {δ : Type}
/-- evaluate, then go on -/
theorem go {x : Option Addr} {σ : L2.St} {G H : Hp} {b : Bx} {Q : VK} {ma : M α} {F : Hp → Hp → Bx × Res δ → Prop} (g : Good K W x σ F) (hr : EvR K W te Γ ma) (E : Env K x σ Γ G H) (s : Same G H) (B : BoxSt x G H b) {f : α → M δ}
    (h : F G H ((ma >>= f) b)) (k : ∀ a b' v G' H', F G' H' (f a b') → Ex x G H G' H' → Env K x σ Γ G' H' → Same G' H' → BoxSt x G' H' b' → Rep K G' v (d a) → Q v H') : te σ H Q := by
  refine hr x σ G H b Q E s B ?_
  rw [M.bind_def] at h
  cases e : ma b with
  | mk b' r =>
    rw [e] at h
    cases r with
    | ok a => exact fun v G' H' e1 B1 r1 => k a b' v G' H' (g.ex e1 h) e1 (E.ext e1) e1.gh B1 r1
    | err c fs => exact g.er h
    | stuck => exact g.st h
theorem goT {x : Option Addr} {σ : L2.St} {G H : Hp} {b : Bx} {Q : Bool → Hp → Prop} {t : TT} {ma : M Bool} {F : Hp → Hp → Bx × Res δ → Prop} (g : Good K W x σ F) (hr : EvT K W t Γ ma) (E : Env K x σ Γ G H) (s : Same G H) (B : BoxSt x G H b) {f : Bool → M δ}
    (h : F G H ((ma >>= f) b)) (k : ∀ a b' G' H', F G' H' (f a b') → Ex x G H G' H' → Env K x σ Γ G' H' → Same G' H' → BoxSt x G' H' b' → Q a H') : t σ H Q := by
  refine hr x σ G H b Q E s B ?_
  rw [M.bind_def] at h
  cases e : ma b with
  | mk b' r =>
    rw [e] at h
    cases r with
    | ok a => exact fun G' H' e1 B1 => k a b' G' H' (g.ex e1 h) e1 (E.ext e1) e1.gh B1
    | err c fs => exact g.er h
    | stuck => exact g.st h
end
theorem step_E {x : Option Addr} {σ : L2.St} {G H : Hp} {b : Bx} {Q Q2 : VK} {ma : M α} (hr : EvR K W te Γ ma) (E : Env K x σ Γ G H) (s : Same G H) (B : BoxSt x G H b) {f : α → M β}
    (h : FinE K W x σ G H Q2 ((ma >>= f) b)) (k : ∀ a b' v G' H', FinE K W x σ G' H' Q2 (f a b') → Ex x G H G' H' → Env K x σ Γ G' H' → Same G' H' → BoxSt x G' H' b' → Rep K G' v (d a) → Q v H') : te σ H Q := go good_E hr E s B h k
theorem stepT_E {x : Option Addr} {σ : L2.St} {G H : Hp} {b : Bx} {Q : Bool → Hp → Prop} {Q2 : VK} {t : TT} {ma : M Bool} (hr : EvT K W t Γ ma) (E : Env K x σ Γ G H) (s : Same G H) (B : BoxSt x G H b) {f : Bool → M β}
    (h : FinE K W x σ G H Q2 ((ma >>= f) b)) (k : ∀ a b' G' H', FinE K W x σ G' H' Q2 (f a b') → Ex x G H G' H' → Env K x σ Γ G' H' → Same G' H' → BoxSt x G' H' b' → Q a H') : t σ H Q := goT good_E hr E s B h k
theorem stepT_T {x : Option Addr} {σ : L2.St} {G H : Hp} {b : Bx} {Q : Bool → Hp → Prop} {Q2 : Bool → Hp → Prop} {t : TT} {ma : M Bool} (hr : EvT K W t Γ ma) (E : Env K x σ Γ G H) (s : Same G H) (B : BoxSt x G H b) {f : Bool → M Bool}
    (h : FinT K W x σ G H Q2 ((ma >>= f) b)) (k : ∀ a b' G' H', FinT K W x σ G' H' Q2 (f a b') → Ex x G H G' H' → Env K x σ Γ G' H' → Same G' H' → BoxSt x G' H' b' → Q a H') : t σ H Q := goT good_T hr E s B h k
/-- the end of a reading: a value that needs nothing new -/
theorem FinE.here {x : Option Addr} {σ : L2.St} {G H : Hp} {Q : VK} {b : Bx} {a : α} {v : V} (h : FinE K W x σ G H Q ((pure a : M α) b)) (s : Same G H) (B : BoxSt x G H b) (r : Rep K G v (d a)) : Q v H := h v G H (Ex.refl s) B r
theorem FinE.new {x : Option Addr} {σ : L2.St} {G H : Hp} {Q : VK} {b : Bx} {a : α} {p : Addr} {o : HO} (h : FinE K W x σ G H Q ((pure a : M α) b)) (s : Same G H) (B : BoxSt x G H b) (hp : H p = none) (r : Rep K (upd G p o) (.ref p) (d a)) : Q (.ref p) (upd H p o) :=
  h (.ref p) _ _ (Ex.new s hp) (B.new hp) r
theorem FinT.here {x : Option Addr} {σ : L2.St} {G H : Hp} {Q : Bool → Hp → Prop} {b : Bx} {a : Bool} (h : FinT K W x σ G H Q ((pure a : M Bool) b)) (s : Same G H) (B : BoxSt x G H b) : Q a H := h G H (Ex.refl s) B
theorem FinE.stuck {x : Option Addr} {σ : L2.St} {G H : Hp} {Q : VK} {b : Bx} (h : FinE K W x σ G H Q ((M.stuck : M α) b)) : False := h
end
/-- a condition that must hold -/
noncomputable def need (p : Prop) : M Unit := open Classical in if p then pure () else M.stuck
theorem need_T {p : Prop} (h : p) : need p = pure () := if_pos h
end N

set_option Elab.async false
set_option linter.all false
set_option maxRecDepth 100000
set_option maxHeartbeats 4000000
/-! N2: expressions by the mirror. -/
namespace N
open PySem PySem.Spec PyProof.Rows L2 J
open ToD (d)
open M

/-! ### names, constants -/
section
variable {α β γ : Type} [ToD α] [ToD β] [ToD γ] {K : PySem.W.Frag} {W : WX} {te ta tb : TE} {Γ : List Sl}
theorem ev_var {i : Nat} {a : α} (h : Γ[i]? = some (.val (d a)) := by rfl) : EvR K W (tVar i) Γ (pure a) := fun x σ G H b Q E s B h' => by
  obtain ⟨v, h1, r⟩ := E.val h
  exact ⟨v, h1, h'.here s B r⟩
theorem ev_int {i : Int} : EvR K W (tC (.int i)) Γ (pure i) := fun x σ G H b Q E s B h' => h'.here s B (.int i)
theorem ev_str {i : Str} : EvR K W (tC (.str i)) Γ (pure i) := fun x σ G H b Q E s B h' => h'.here s B (.str i)
theorem ev_bl {i : Bool} : EvR K W (tC (.bl i)) Γ (pure i) := fun x σ G H b Q E s B h' => h'.here s B (.bl i)
theorem ev_non : EvR K W (tC .non) Γ (pure ()) := fun x σ G H b Q E s B h' => h'.here s B .non
/-- the same value under another type -/
theorem ev_as {m : M α} {f : α → β} (h : EvR K W te Γ m) (hf : ∀ a, d a = d (f a)) : EvR K W te Γ (do let a ← m; pure (f a)) := fun x σ G H b Q E s B h' =>
  step_E h E s B h' fun a b' v G' H' h2 e E2 s2 B2 r => h2.here s2 B2 (by rw [← hf]; exact r)

/-! ### operators by values -/
def OpM (K : PySem.W.Frag) (r : R2) (f : α → β → M γ) : Prop := ∀ (W : WX) x σ G H b Q a c v w, Same G H → BoxSt x G H b → Rep K G v (d a) → Rep K G w (d c) → FinE K W x σ G H Q (f a c b) → r v w H Q
def UnM (K : PySem.W.Frag) (r : V → Hp → VK → Prop) (f : α → M γ) : Prop := ∀ (W : WX) x σ G H b Q a v, Same G H → BoxSt x G H b → Rep K G v (d a) → FinE K W x σ G H Q (f a b) → r v H Q
theorem ev_op {r : R2} {f : α → β → M γ} {ma : M α} {mb : M β} (hr : OpM K r f) (h1 : EvR K W ta Γ ma) (h2 : EvR K W tb Γ mb) : EvR K W (tOp r ta tb) Γ (do let a ← ma; let b ← mb; f a b) := fun x σ G H b Q E s B h =>
  step_E (te := ta) h1 E s B h fun a b' v G' H' h' e E' s' B' ra => step_E (te := tb) h2 E' s' B' h' fun c b'' w G'' H'' h'' e' E'' s'' B'' rc => hr W x σ G'' H'' b'' Q a c v w s'' B'' (ra.ext e'.g) rc h''
theorem ev_un {r : V → Hp → VK → Prop} {f : α → M γ} {ma : M α} (hr : UnM K r f) (h1 : EvR K W ta Γ ma) : EvR K W (tUn r ta) Γ (do let a ← ma; f a) := fun x σ G H b Q E s B h =>
  step_E (te := ta) h1 E s B h fun a b' v G' H' h' e E' s' B' ra => hr W x σ G' H' b' Q a v s' B' ra h'
theorem om_pure {r : R2} {g : α → β → γ} (h : ∀ G H Q a c v w, Same G H → Rep K G v (d a) → Rep K G w (d c) → (∀ z, Rep K G z (d (g a c)) → Q z H) → r v w H Q) : OpM K r (fun a c => (pure (g a c) : M γ)) :=
  fun W x σ G H b Q a c v w s B ra rc hf => h G H Q a c v w s ra rc fun z rz => hf.here s B rz
theorem rep_int {G : Hp} {v : V} {i : Int} (h : Rep K G v (d i)) : v = .int i := by cases h; rfl
theorem rep_str {G : Hp} {v : V} {i : Str} (h : Rep K G v (d i)) : v = .str i := by cases h; rfl
theorem rep_bl {G : Hp} {v : V} {i : Bool} (h : Rep K G v (d i)) : v = .bl i := by cases h; rfl
theorem rep_non {G : Hp} {v : V} {i : Unit} (h : Rep K G v (d i)) : v = .non := by cases h; rfl
theorem rep_lst {G : Hp} {v : V} {xs : List α} (h : Rep K G v (d xs)) : ∃ p vs, v = .ref p ∧ G p = some (.lst vs) ∧ Reps K G vs (xs.map d) := by cases h with | lst h r => exact ⟨_, _, rfl, h, r⟩
theorem rep_tup {G : Hp} {v : V} {ds : List D} (h : Rep K G v (.tup ds)) : ∃ p vs, v = .ref p ∧ SqT K G p vs ∧ Reps K G vs ds := by cases h with | tup h r => exact ⟨_, _, rfl, h, r⟩
theorem rep_ins {G : Hp} {v : V} {c : Str} {fs : List (Str × D)} (h : Rep K G v (.ins c fs)) : ∃ p dx vs, v = .ref p ∧ G p = some (.ins (He.ga K c) dx vs) ∧ RepF K G vs fs := by cases h with | ins h r => exact ⟨_, _, _, rfl, h, r⟩
theorem Same.sqT {H H' : Hp} {a : Addr} {xs : List V} (e : Same H H') (h : SqT K H a xs) : SqT K H' a xs := e.tupS h
theorem sqL_H {G H : Hp} {p : Addr} {vs : List V} (s : Same G H) (h : SqL K G p vs) : SqL K H p vs := s.seq h
theorem sqT_H {G H : Hp} {p : Addr} {vs : List V} (s : Same G H) (h : SqT K G p vs) : SqT K H p vs := s.tupS h
section
theorem om_addI : OpM K (rI0 fun i j => .int (i + j)) (fun (i j : Int) => (pure (i + j) : M Int)) := om_pure fun G H Q a c v w s ra rc k => by
  cases rep_int ra; cases rep_int rc
  exact ⟨a, c, rfl, rfl, k _ (.int _)⟩
theorem om_subI : OpM K (rI0 fun i j => .int (i - j)) (fun (i j : Int) => (pure (i - j) : M Int)) := om_pure fun G H Q a c v w s ra rc k => by
  cases rep_int ra; cases rep_int rc
  exact ⟨a, c, rfl, rfl, k _ (.int _)⟩
/-- int op int under a condition -/
noncomputable def guI (C : Int → Int → Prop) (g : Int → Int → Int) (i j : Int) : M Int := do need (C i j); pure (g i j)
theorem om_guI {C : Int → Int → Prop} {g : Int → Int → Int} : OpM K (rI C fun i j => .int (g i j)) (guI C g) := fun W x σ G H b Q a c v w s B ra rc hf => by
  cases rep_int ra; cases rep_int rc
  unfold guI need at hf
  by_cases h : C a c
  · rw [if_pos h] at hf
    exact ⟨a, c, rfl, rfl, h, FinE.here (α := Int) (b := b) hf s B (.int _)⟩
  · rw [if_neg h] at hf
    exact False.elim hf
theorem um_neg : UnM K (rU fun i => .int (-i)) (fun (i : Int) => (pure (-i) : M Int)) := fun W x σ G H b Q a v s B ra hf => by
  cases rep_int ra
  exact ⟨a, rfl, hf.here s B (.int _)⟩
theorem decV {a c : Int} : decide (V.int a = V.int c) = decide (a = c) := by rw [decide_eq_decide]; exact ⟨V.int.inj, fun e => by rw [e]⟩
theorem decS {a c : Str} : decide (V.str a = V.str c) = decide (a = c) := by rw [decide_eq_decide]; exact ⟨V.str.inj, fun e => by rw [e]⟩
theorem om_eqI : OpM K rEq (fun (i j : Int) => (pure (decide (i = j)) : M Bool)) := om_pure fun G H Q a c v w s ra rc k => by
  cases rep_int ra; cases rep_int rc
  exact ⟨rfl, by rw [decV]; exact k _ (.bl _)⟩
theorem om_neI : OpM K rNe (fun (i j : Int) => (pure (!decide (i = j)) : M Bool)) := om_pure fun G H Q a c v w s ra rc k => by
  cases rep_int ra; cases rep_int rc
  exact ⟨rfl, by rw [decV]; exact k _ (.bl _)⟩
theorem om_eqS : OpM K rEq (fun (i j : Str) => (pure (decide (i = j)) : M Bool)) := om_pure fun G H Q a c v w s ra rc k => by
  cases rep_str ra; cases rep_str rc
  exact ⟨rfl, by rw [decS]; exact k _ (.bl _)⟩
theorem om_neS : OpM K rNe (fun (i j : Str) => (pure (!decide (i = j)) : M Bool)) := om_pure fun G H Q a c v w s ra rc k => by
  cases rep_str ra; cases rep_str rc
  exact ⟨rfl, by rw [decS]; exact k _ (.bl _)⟩
theorem om_cmpI {p : Int → Int → Bool} : OpM K (rI0 fun i j => .bl (p i j)) (fun (i j : Int) => (pure (p i j) : M Bool)) := om_pure fun G H Q a c v w s ra rc k => by
  cases rep_int ra; cases rep_int rc
  exact ⟨a, c, rfl, rfl, k _ (.bl _)⟩
end
theorem ev_bind_as {m : M α} (h : EvR K W te Γ m) {m' : M α} (e : m' = m) : EvR K W te Γ m' := by rw [e]; exact h

/-! ### tests -/
theorem et_val {m : M Bool} (h : EvR K W te Γ m) : EvT K W (tB te) Γ m := fun x σ G H b Q E s B h' => by
  refine h x σ G H b _ E s B ?_
  cases e : m b with
  | mk b' r =>
    rw [e] at h'
    cases r with
    | ok a => exact fun v G' H' e1 B1 r1 => ⟨a, rep_bl r1, h' G' H' e1 B1⟩
    | err c fs => exact h'
    | stuck => exact h'
theorem et_test {m : M Bool} (h : EvR K W te Γ m) : EvT K W (tTest te) Γ m := fun x σ G H b Q E s B h' => by
  refine h x σ G H b _ E s B ?_
  cases e : m b with
  | mk b' r =>
    rw [e] at h'
    cases r with
    | ok a => exact fun v G' H' e1 B1 r1 => ⟨a, rep_bl r1, h' G' H' e1 B1⟩
    | err c fs => exact h'
    | stuck => exact h'
theorem et_not {t : TT} {m : M Bool} (h : EvT K W t Γ m) : EvT K W (tNot t) Γ (do let a ← m; pure (!a)) := fun x σ G H b Q E s B h' =>
  stepT_T (t := t) h E s B h' fun a b' G' H' h2 e E2 s2 B2 => h2.here s2 B2
theorem et_and {t u : TT} {m n : M Bool} (h : EvT K W t Γ m) (h2 : EvT K W u Γ n) : EvT K W (tAnd t u) Γ (do let a ← m; if a = true then n else pure false) := fun x σ G H b Q E s B h' =>
  stepT_T (t := t) h E s B h' fun a b' G' H' h3 e E2 s2 B2 => by
    cases a with
    | true => exact iteT (h2 x σ G' H' b' Q E2 s2 B2 h3)
    | false => exact iteF (FinT.here (b := b') h3 s2 B2)
theorem et_or {t u : TT} {m n : M Bool} (h : EvT K W t Γ m) (h2 : EvT K W u Γ n) : EvT K W (tOr t u) Γ (do let a ← m; if a = true then pure true else n) := fun x σ G H b Q E s B h' =>
  stepT_T (t := t) h E s B h' fun a b' G' H' h3 e E2 s2 B2 => by
    cases a with
    | true => exact iteT (FinT.here (b := b') h3 s2 B2)
    | false => exact iteF (h2 x σ G' H' b' Q E2 s2 B2 h3)
/-- and, or, not as values -/
theorem ev_and {m n : M Bool} (h : EvR K W ta Γ m) (h2 : EvR K W tb Γ n) : EvR K W (tAndV ta tb) Γ (do let a ← m; if a = true then n else pure false) := fun x σ G H b Q E s B h' =>
  step_E (te := ta) h E s B h' fun a b' v G' H' h3 e E2 s2 B2 r => ⟨a, rep_bl r, by
    cases a with
    | true => exact iteT (h2 x σ G' H' b' Q E2 s2 B2 h3)
    | false => exact iteF (FinE.here (b := b') h3 s2 B2 (.bl false))⟩
theorem ev_or {m n : M Bool} (h : EvR K W ta Γ m) (h2 : EvR K W tb Γ n) : EvR K W (tOrV ta tb) Γ (do let a ← m; if a = true then pure true else n) := fun x σ G H b Q E s B h' =>
  step_E (te := ta) h E s B h' fun a b' v G' H' h3 e E2 s2 B2 r => ⟨a, rep_bl r, by
    cases a with
    | true => exact iteT (FinE.here (b := b') h3 s2 B2 (.bl true))
    | false => exact iteF (h2 x σ G' H' b' Q E2 s2 B2 h3)⟩
theorem ev_not {m : M Bool} (h : EvR K W ta Γ m) : EvR K W (tNotV ta) Γ (do let a ← m; pure (!a)) := fun x σ G H b Q E s B h' =>
  step_E (te := ta) h E s B h' fun a b' v G' H' h3 e E2 s2 B2 r => ⟨a, rep_bl r, h3.here s2 B2 (.bl (!a))⟩
theorem ev_if {t : TT} {mt : M Bool} {m n : M α} (h : EvT K W t Γ mt) (h1 : EvR K W ta Γ m) (h2 : EvR K W tb Γ n) : EvR K W (tIf t ta tb) Γ (do let c ← mt; if c = true then m else n) := fun x σ G H b Q E s B h' =>
  stepT_E (t := t) h E s B h' fun a b' G' H' h3 e E2 s2 B2 => by
    cases a with
    | true => exact iteT (h1 x σ G' H' b' Q E2 s2 B2 h3)
    | false => exact iteF (h2 x σ G' H' b' Q E2 s2 B2 h3)

/-! ### arguments, typed -/
class ToDs (ι : Type) where
  ds : ι → List D
open ToDs (ds)
instance : ToDs Unit := ⟨fun _ => []⟩
instance {α ι : Type} [ToD α] [ToDs ι] : ToDs (α × ι) := ⟨fun p => d p.1 :: ds p.2⟩
/-- t tells the arguments that mk hands on -/
def EvC {ι : Type} [ToDs ι] (K : PySem.W.Frag) (W : WX) (t : TA) (Γ : List Sl) (mk : ∀ {γ : Type}, (ι → M γ) → M γ) : Prop :=
  ∀ (γ : Type) x σ (F : Hp → Hp → Bx × Res γ → Prop) (_ : Good K W x σ F) (k : ι → M γ) G H b (Q : List V → Hp → Prop), Env K x σ Γ G H → Same G H → BoxSt x G H b → F G H (mk k b) →
    (∀ i b' vs G' H', F G' H' (k i b') → Ex x G H G' H' → Env K x σ Γ G' H' → Same G' H' → BoxSt x G' H' b' → Reps K G' vs (ds i) → Q vs H') → t σ H Q
theorem ec_nil : EvC (ι := Unit) K W tNil Γ (fun k => k ()) := fun γ x σ F g k G H b Q E s B h kk => kk () b [] G H h (Ex.refl s) E s B .nil
theorem ec_cons {ι : Type} [ToDs ι] {t : TA} {m : M α} {mk : ∀ {γ : Type}, (ι → M γ) → M γ} (h : EvR K W te Γ m) (h2 : EvC K W t Γ mk) : EvC (ι := α × ι) K W (tCons te t) Γ (fun k => do let a ← m; mk fun r => k (a, r)) := fun γ x σ F g k G H b Q E s B hf kk =>
  go (te := te) g h E s B hf fun a b' v G' H' h3 e E2 s2 B2 r => h2 γ x σ F g (fun r => k (a, r)) G' H' b' _ E2 s2 B2 h3 fun i b3 vs G3 H3 h4 e3 E3 s3 B3 rs => kk (a, i) b3 (v :: vs) G3 H3 h4 (e.trans e3) E3 s3 B3 (.cons (r.ext e3.g) rs)
/-- displays -/
theorem small_sl {n : Nat} (h : n ≤ 1000) : n ≤ sizeLine := Nat.le_of_lt (small1000 h)
theorem ev_lst {ι : Type} [ToDs ι] {t : TA} {mk : ∀ {γ : Type}, (ι → M γ) → M γ} (h : EvC K W t Γ mk) (f : ι → List α) (hf : ∀ i, ds i = (f i).map d := by intros; rfl) (hl : ∀ i, (f i).length ≤ 1000 := by intro _; exact Nat.le_of_ble_eq_true rfl) :
    EvR K W (tLst t) Γ (mk fun i => pure (f i)) := fun x σ G H b Q E s B h' =>
  h (List α) x σ _ good_E _ G H b _ E s B h' fun i b' vs G' H' h2 e E2 s2 B2 rs => by
    rw [hf] at rs
    refine ⟨small_sl (by rw [rs.length, List.length_map]; exact hl i), fun p hp => h2.new s2 B2 hp ?_⟩
    exact .lst upd_same (rs.ext (upS (s2.free hp)))
theorem ev_tup {τ : Type} [ToD τ] {ι : Type} [ToDs ι] {t : TA} {mk : ∀ {γ : Type}, (ι → M γ) → M γ} (h : EvC K W t Γ mk) (f : ι → τ) (hf : ∀ i, d (f i) = .tup (ds i) := by intros; rfl) (hl : ∀ i : ι, (ds i).length ≤ 1000 := by intro _; exact Nat.le_of_ble_eq_true rfl) :
    EvR K W (tTup t) Γ (mk fun i => pure (f i)) := fun x σ G H b Q E s B h' =>
  h τ x σ _ good_E _ G H b _ E s B h' fun i b' vs G' H' h2 e E2 s2 B2 rs => by
    refine ⟨small_sl (by rw [rs.length]; exact hl i), fun p hp => h2.new s2 B2 hp ?_⟩
    rw [hf]
    exact .tup (.inl (.inl upd_same)) (rs.ext (upS (s2.free hp)))

/-! ### calls -/
/-- what a def promises: f of the arguments i -/
def FinP (K : PySem.W.Frag) (G H : Hp) (Q : VK) (E : XK) : Res γ → Prop
  | .ok a => ∀ v G' H', Ex none G H G' H' → Rep K G' v (d a) → Q v H'
  | .err c fs => ∀ dd G' H', Ex none G H G' H' → RepX K G' dd fs → E (.ref (He.ga K c)) dd H'
  | .stuck => False
def spG {ι : Type} [ToDs ι] (K : PySem.W.Frag) (f : ι → Res γ) : Sp := fun vs H Q E => ∃ i G, Same G H ∧ Reps K G vs (ds i) ∧ FinP K G H Q E (f i)
theorem Ex.box {x : Option Addr} {G H G' H' : Hp} (e : Ex none G H G' H') : Ex x G H G' H' := ⟨e.g, e.gh, fun p o _ => e.keep p o (by simp), fun p o _ => e.uns p o (by simp)⟩
theorem BoxSt.none_ex {x : Option Addr} {G H G' H' : Hp} {b : Bx} (B : BoxSt x G H b) (e : Ex none G H G' H') : BoxSt x G' H' b := fun p h => by
  obtain ⟨h1, h2⟩ := B p h
  exact ⟨e.uns p _ (by simp) h2 h1, e.keep p _ (by simp) h2⟩
theorem spG_of {ι : Type} [ToDs ι] {f : ι → Res γ} {x : Option Addr} {σ : L2.St} {G H : Hp} {b : Bx} {Q : VK} {i : ι} {vs : List V} (s : Same G H) (B : BoxSt x G H b) (rs : Reps K G vs (ds i)) (h : FinE K W x σ G H Q (lft (f i) b)) :
    spG K f vs H Q (fun c dd H' => W c dd σ H') := by
  refine ⟨i, G, s, rs, ?_⟩
  unfold lft at h
  cases e : f i with
  | ok a => rw [e] at h; exact fun v G' H' e1 r => h v G' H' e1.box (B.none_ex e1) r
  | err c fs => rw [e] at h; exact fun dd G' H' e1 r => h dd G' H' e1.box (B.none_ex e1) r
  | stuck => rw [e] at h; exact h
theorem ev_call {ι : Type} [ToDs ι] {t : TA} {mk : ∀ {γ : Type}, (ι → M γ) → M γ} {f : ι → Res γ} (h : EvC K W t Γ mk) : EvR K W (tCallS (spG K f) (fun σ c dd H => W c dd σ H) t) Γ (mk fun i => lft (f i)) := fun x σ G H b Q E s B h' =>
  h γ x σ _ good_E _ G H b _ E s B h' fun i b' vs G' H' h2 e E2 s2 B2 rs => spG_of s2 B2 rs h2
/-- a built-in's call -/
def CallM {ι : Type} [ToDs ι] (K : PySem.W.Frag) (r : List V → Hp → VK → Prop) (f : ι → M γ) : Prop := ∀ (W : WX) x σ G H b Q i vs, Same G H → BoxSt x G H b → Reps K G vs (ds i) → FinE K W x σ G H Q (f i b) → r vs H Q
theorem ev_cb {ι : Type} [ToDs ι] {t : TA} {mk : ∀ {γ : Type}, (ι → M γ) → M γ} {r : List V → Hp → VK → Prop} {f : ι → M γ} (hr : CallM K r f) (h : EvC K W t Γ mk) : EvR K W (tCB r t) Γ (mk f) := fun x σ G H b Q E s B h' =>
  h γ x σ _ good_E _ G H b _ E s B h' fun i b' vs G' H' h2 e E2 s2 B2 rs => hr W x σ G' H' b' Q i vs s2 B2 rs h2
theorem reps1 {G : Hp} {vs : List V} {a : α} (h : Reps K G vs (ds (a, ()))) : ∃ v, vs = [v] ∧ Rep K G v (d a) := by
  cases h with | cons r t => cases t with | nil => exact ⟨_, rfl, r⟩
theorem reps2 {G : Hp} {vs : List V} {a : α} {c : β} (h : Reps K G vs (ds (a, c, ()))) : ∃ v w, vs = [v, w] ∧ Rep K G v (d a) ∧ Rep K G w (d c) := by
  cases h with | cons r t => cases t with | cons r2 t2 => cases t2 with | nil => exact ⟨_, _, rfl, r, r2⟩

/-! ### built-ins -/
theorem cm_absI : CallM K (fun xs H Q => ∃ i, xs = [.int i] ∧ Q (.int (if i < 0 then -i else i)) H) (fun (i : Int × Unit) => (pure (if i.1 < 0 then -i.1 else i.1) : M Int)) := fun W x σ G H b Q i vs s B rs h => by
  obtain ⟨a, u⟩ := i
  obtain ⟨v, rfl, r⟩ := reps1 rs
  cases rep_int r
  exact ⟨a, rfl, h.here s B (.int _)⟩
theorem cm_intI : CallM K (fun xs H Q => (∃ i, xs = [.int i] ∧ Q (.int i) H) ∨ ∃ k, xs = [.bl k] ∧ Q (.int (if k = true then 1 else 0)) H) (fun (i : Int × Unit) => (pure i.1 : M Int)) := fun W x σ G H b Q i vs s B rs h => by
  obtain ⟨a, u⟩ := i
  obtain ⟨v, rfl, r⟩ := reps1 rs
  cases rep_int r
  exact .inl ⟨a, rfl, h.here s B (.int _)⟩
theorem cm_intB : CallM K (fun xs H Q => (∃ i, xs = [.int i] ∧ Q (.int i) H) ∨ ∃ k, xs = [.bl k] ∧ Q (.int (if k = true then 1 else 0)) H) (fun (i : Bool × Unit) => (pure (if i.1 = true then 1 else 0) : M Int)) := fun W x σ G H b Q i vs s B rs h => by
  obtain ⟨a, u⟩ := i
  obtain ⟨v, rfl, r⟩ := reps1 rs
  cases rep_bl r
  exact .inr ⟨a, rfl, h.here s B (.int _)⟩
/-- a condition, then a value -/
theorem need_fin {x : Option Addr} {σ : L2.St} {G H : Hp} {Q : VK} {b : Bx} {p : Prop} {m : M γ} (h : FinE K W x σ G H Q ((do need p; m) b)) : p ∧ FinE K W x σ G H Q (m b) := by
  unfold need at h
  by_cases q : p
  · rw [if_pos q] at h
    exact ⟨q, h⟩
  · rw [if_neg q] at h
    exact False.elim h
theorem cm_strI : CallM K (fun xs H Q => ∃ i, xs = [.int i] ∧ i.natAbs.log2 < 1920 ∧ Q (.str (toString i)) H) (fun (i : Int × Unit) => (do need (i.1.natAbs.log2 < 1920); pure (toString i.1 : Str) : M Str)) := fun W x σ G H b Q i vs s B rs h => by
  obtain ⟨a, u⟩ := i
  obtain ⟨v, rfl, r⟩ := reps1 rs
  cases rep_int r
  obtain ⟨h1, h2⟩ := need_fin h
  exact ⟨a, rfl, h1, h2.here s B (.str _)⟩
end
end N

set_option Elab.async false
set_option linter.all false
set_option maxRecDepth 100000
set_option maxHeartbeats 4000000
/-! N3: what is walked, comprehensions, statements, loops, defs. -/
namespace N
open PySem PySem.Spec PyProof.Rows L2 J
open ToD (d)
open ToDs (ds)
open M

/-! ### slots wiped -/
def wipeS (Γ : List Sl) : List Nat → List Sl
  | [] => Γ
  | v :: vs => (wipeS Γ vs).set v .any
section
variable {K : PySem.W.Frag} {x : Option Addr} {σ : L2.St} {Γ : List Sl} {G H : Hp}
theorem Env.drop1 (E : Env K x σ Γ G H) (i : Nat) (o : Option V) : Env K x (σ.set i o) (Γ.set i .any) G H := by
  refine ⟨by rw [List.length_set, List.length_set, E.len], fun j t o' h1 h2 => ?_, fun j k p t u ne h1 h2 o1 o2 e1 e2 => ?_, fun j p t h1 o1 e1 => ?_⟩
  · by_cases z : i = j
    · subst z
      by_cases l : i < Γ.length
      · rw [List.getElem?_set_self l] at h1
        cases h1; trivial
      · rw [List.getElem?_eq_none (by rw [List.length_set]; omega)] at h1; cases h1
    · rw [List.getElem?_set_ne z] at h1 h2
      exact E.at_ j t o' h1 h2
  · have nj : i ≠ j := fun z => by
      subst z
      by_cases l : i < Γ.length
      · rw [List.getElem?_set_self l] at h1; cases h1; cases o1
      · rw [List.getElem?_eq_none (by rw [List.length_set]; omega)] at h1; cases h1
    have nk : i ≠ k := fun z => by
      subst z
      by_cases l : i < Γ.length
      · rw [List.getElem?_set_self l] at h2; cases h2; cases o2
      · rw [List.getElem?_eq_none (by rw [List.length_set]; omega)] at h2; cases h2
    rw [List.getElem?_set_ne nj] at h1 e1
    rw [List.getElem?_set_ne nk] at h2 e2
    exact E.dis j k p t u ne h1 h2 o1 o2 e1 e2
  · have nj : i ≠ j := fun z => by
      subst z
      by_cases l : i < Γ.length
      · rw [List.getElem?_set_self l] at h1; cases h1; cases o1
      · rw [List.getElem?_eq_none (by rw [List.length_set]; omega)] at h1; cases h1
    rw [List.getElem?_set_ne nj] at h1 e1
    exact E.xne j p t h1 o1 e1
theorem Env.wipe (E : Env K x σ Γ G H) : ∀ vs : List Nat, Env K x (wipe σ vs) (wipeS Γ vs) G H
  | [] => E
  | v :: vs => (Env.wipe E vs).drop1 v none
end
theorem wipe_at {σ : L2.St} : ∀ {vs : List Nat} {j : Nat}, (wipe σ vs)[j]? = if j ∈ vs ∧ j < σ.length then some none else σ[j]?
  | [], j => by rw [if_neg (by simp)]; rfl
  | v :: vs, j => by
    show ((wipe σ vs).set v none)[j]? = _
    by_cases e : v = j
    · subst e
      by_cases l : v < σ.length
      · rw [List.getElem?_set_self (by rw [wipe_length]; exact l), if_pos ⟨List.mem_cons_self, l⟩]
      · rw [List.getElem?_eq_none (by rw [List.length_set, wipe_length]; omega), if_neg (fun h => l h.2), List.getElem?_eq_none (by omega)]
    · rw [List.getElem?_set_ne e, wipe_at (vs := vs) (j := j)]
      by_cases c : j ∈ vs ∧ j < σ.length
      · rw [if_pos c, if_pos ⟨List.mem_cons_of_mem _ c.1, c.2⟩]
      · rw [if_neg c, if_neg]
        intro ⟨h1, h2⟩
        rcases List.mem_cons.mp h1 with z | z
        · exact e z.symm
        · exact c ⟨z, h2⟩
theorem wipe_wipe {σ : L2.St} {vs : List Nat} : wipe (wipe σ vs) vs = wipe σ vs := by
  apply List.ext_getElem?
  intro j
  rw [wipe_at, wipe_length, wipe_at]
  by_cases c : j ∈ vs ∧ j < σ.length
  · rw [if_pos c, if_pos c]
  · rw [if_neg c]
theorem wipe_set {σ : L2.St} {vs : List Nat} {i : Nat} {o : Option V} (h : i ∈ vs) : wipe (σ.set i o) vs = wipe σ vs := by
  apply List.ext_getElem?
  intro j
  rw [wipe_at, wipe_at, List.length_set]
  by_cases c : j ∈ vs ∧ j < σ.length
  · rw [if_pos c, if_pos c]
  · rw [if_neg c, if_neg c]
    by_cases e : i = j
    · subst e
      have l : ¬ i < σ.length := fun l => c ⟨h, l⟩
      rw [List.getElem?_eq_none (by rw [List.length_set]; omega), List.getElem?_eq_none (by omega)]
    · rw [List.getElem?_set_ne e]

/-! ### targets -/
def TgOk {α : Type} [ToD α] (K : PySem.W.Frag) (g : TG) (vs : List Nat) (up : α → List Sl → List Sl) : Prop := ∀ x σ Γ G H v a (Q : L2.St → Hp → Prop), Env K x σ Γ G H → Same G H → Rep K G v (d a) →
  (∀ σ', wipe σ' vs = wipe σ vs → Env K x σ' (up a Γ) G H → (∀ j p, j ∉ vs → σ'[j]? = some (some (.ref p)) → σ[j]? = some (some (.ref p))) → Q σ' H) → g v σ H Q
section
variable {α β γ : Type} [ToD α] [ToD β] [ToD γ] {K : PySem.W.Frag}
theorem set_back {σ : L2.St} {i : Nat} {v : V} : ∀ j p, j ∉ [i] → (σ.set i (some v))[j]? = some (some (V.ref p)) → σ[j]? = some (some (V.ref p)) := fun j p hj h => by
  rw [List.getElem?_set_ne (fun e => hj (by simp [e]))] at h
  exact h
theorem tg_name {i : Nat} : TgOk (α := α) K (gName i) [i] (fun a Γ => Γ.set i (.val (d a))) := fun x σ Γ G H v a Q E s r k =>
  k _ (wipe_set (by simp)) (E.setVal r) set_back
theorem tg_2 {i j : Nat} : TgOk (α := α × β) K (gTup K 2 (gCons (gName i) (gCons (gName j) gNil))) [i, j] (fun a Γ => (Γ.set i (.val (d a.1))).set j (.val (d a.2))) := fun x σ Γ G H v a Q E s r k => by
  obtain ⟨p, ys, rfl, hp, rs⟩ := rep_tup r
  cases rs with | cons r1 t => cases t with | cons r2 t2 => cases t2 with | nil =>
  refine ⟨p, _, rfl, sqT_H s hp, rfl, _, _, rfl, _, _, rfl, rfl, k _ ?_ ((E.setVal r1).setVal r2) ?_⟩
  · rw [wipe_set (by simp), wipe_set (by simp)]
  · intro j' p' hj h
    rw [List.getElem?_set_ne (fun e => hj (by simp [e])), List.getElem?_set_ne (fun e => hj (by simp [e]))] at h
    exact h
theorem tg_3 {i j l : Nat} : TgOk (α := T3 α β γ) K (gTup K 3 (gCons (gName i) (gCons (gName j) (gCons (gName l) gNil)))) [i, j, l] (fun a Γ => ((Γ.set i (.val (d a.a))).set j (.val (d a.b))).set l (.val (d a.c))) := fun x σ Γ G H v a Q E s r k => by
  obtain ⟨p, ys, rfl, hp, rs⟩ := rep_tup r
  cases rs with | cons r1 t => cases t with | cons r2 t2 => cases t2 with | cons r3 t3 => cases t3 with | nil =>
  refine ⟨p, _, rfl, sqT_H s hp, rfl, _, _, rfl, _, _, rfl, _, _, rfl, rfl, k _ ?_ (((E.setVal r1).setVal r2).setVal r3) ?_⟩
  · rw [wipe_set (by simp), wipe_set (by simp), wipe_set (by simp)]
  · intro j' p' hj h
    rw [List.getElem?_set_ne (fun e => hj (by simp [e])), List.getElem?_set_ne (fun e => hj (by simp [e])), List.getElem?_set_ne (fun e => hj (by simp [e]))] at h
    exact h
end

/-! ### what is walked -/
section
variable {α β γ : Type} [ToD α] [ToD β] [ToD γ] {K : PySem.W.Frag} {W : WX} {te ta tb : TE} {Γ : List Sl}
def Walks (K : PySem.W.Frag) (J : It) (xs : List α) (R : Hp → Hp → Prop) : Prop := ∀ i G' H', R G' H' →
  (∀ a, xs[i]? = some a → J.go i H' ∧ ∀ y H2, J.yld i H' y H2 → ∃ G2, Ex none G' H' G2 H2 ∧ Rep K G2 y (d a)) ∧ (xs.length = i → J.stop i H')
def RS (G H : Hp) (G' H' : Hp) : Prop := Same G G' ∧ Same G' H'
def RE (x : Option Addr) (G H : Hp) (G' H' : Hp) : Prop := Ex x G H G' H'
/-- wi walks the items that m tells; settled things alone are walked -/
def EvI (K : PySem.W.Frag) (W : WX) (wi : TI) (Γ : List Sl) (m : M (List α)) : Prop :=
  ∀ (δ : Type) x σ (F : Hp → Hp → Bx × Res δ → Prop) (_ : Good K W x σ F) (k : List α → M δ) G H b (R : It → Hp → Prop), Env K x σ Γ G H → Same G H → BoxSt x G H b → F G H ((m >>= k) b) →
    (∀ xs b' J G' H', F G' H' (k xs b') → Ex x G H G' H' → Env K x σ Γ G' H' → Same G' H' → BoxSt x G' H' b' → Walks K J xs (RS G' H') → R J H') → wi σ H R
/-- .. unsettled ones too, while expressions are evaluated -/
def EvIE (K : PySem.W.Frag) (W : WX) (wi : TI) (Γ : List Sl) (m : M (List α)) : Prop :=
  ∀ (δ : Type) x σ (F : Hp → Hp → Bx × Res δ → Prop) (_ : Good K W x σ F) (k : List α → M δ) G H b (R : It → Hp → Prop), Env K x σ Γ G H → Same G H → BoxSt x G H b → F G H ((m >>= k) b) →
    (∀ xs b' J G' H', F G' H' (k xs b') → Ex x G H G' H' → Env K x σ Γ G' H' → Same G' H' → BoxSt x G' H' b' → Walks K J xs (RE x G' H') → R J H') → wi σ H R
theorem ei_up {wi : TI} {m : M (List α)} (h : EvI K W wi Γ m) : EvIE K W wi Γ m := fun δ x σ F g k G H b R E s B hf kk =>
  h δ x σ F g k G H b R E s B hf fun xs b' J G' H' h1 e E2 s2 B2 w => kk xs b' J G' H' h1 e E2 s2 B2 fun i G2 H2 (r : Ex x G' H' G2 H2) => w i G2 H2 ⟨r.g, r.gh⟩
theorem walk_list {G H : Hp} {p : Addr} {vs : List V} {xs : List α} (hs : ∀ G' H', RS G H G' H' → SqL K H' p vs) (rs : Reps K G vs (xs.map d)) : Walks K (Itl K p) xs (RS G H) := fun i G' H' r => by
  have hq := hs G' H' r
  refine ⟨fun a ha => ?_, fun e => ⟨vs, hq, by rw [rs.length, List.length_map]; omega⟩⟩
  obtain ⟨v, hv, rv⟩ := rs.get (i := i) (d := d a) (by rw [List.getElem?_map, ha]; rfl)
  exact ⟨⟨vs, v, hq, hv⟩, fun y H2 ⟨e, hy⟩ => by
    subst e
    have := hy vs hq
    rw [hv] at this
    cases this
    exact ⟨G', Ex.refl r.2, rv.ext r.1⟩⟩
theorem walk_tup {G H : Hp} {p : Addr} {vs : List V} {xs : List α} (hs : ∀ G' H', RS G H G' H' → SqT K H' p vs) (rs : Reps K G vs (xs.map d)) : Walks K (Itt K p) xs (RS G H) := fun i G' H' r => by
  have hq := hs G' H' r
  refine ⟨fun a ha => ?_, fun e => ⟨vs, hq, by rw [rs.length, List.length_map]; omega⟩⟩
  obtain ⟨v, hv, rv⟩ := rs.get (i := i) (d := d a) (by rw [List.getElem?_map, ha]; rfl)
  exact ⟨⟨vs, v, hq, hv⟩, fun y H2 ⟨e, hy⟩ => by
    subst e
    have := hy vs hq
    rw [hv] at this
    cases this
    exact ⟨G', Ex.refl r.2, rv.ext r.1⟩⟩
theorem ei_list {m : M (List α)} (h : EvR K W te Γ m) : EvI K W (iList K te) Γ m := fun δ x σ F g k G H b R E s B hf kk =>
  go (te := te) g h E s B hf fun xs b' v G' H' h1 e E2 s2 B2 r => by
    obtain ⟨p, vs, rfl, hp, rs⟩ := rep_lst r
    exact ⟨p, rfl, ⟨vs, sqL_H s2 (SqL.of hp)⟩, kk xs b' _ G' H' h1 e E2 s2 B2 (walk_list (fun G2 H2 r2 => sqL_H r2.2 (sqL_H r2.1 (SqL.of hp))) rs)⟩
theorem ei_tup {m : M (VT α)} (h : EvR K W te Γ m) : EvI K W (iTup K te) Γ (do let t ← m; pure t.l) := fun δ x σ F g k G H b R E s B hf kk =>
  go (te := te) g h E s B (f := fun t => k t.l) (by rw [bind_assoc] at hf; exact hf) fun xs b' v G' H' h1 e E2 s2 B2 r => by
    obtain ⟨p, vs, rfl, hp, rs⟩ := rep_tup r
    exact ⟨p, rfl, ⟨vs, sqT_H s2 hp⟩, kk xs.l b' _ G' H' h1 e E2 s2 B2 (walk_tup (fun G2 H2 r2 => sqT_H r2.2 (sqT_H r2.1 hp)) rs)⟩
/-- lo, lo + 1, .. below hi -/
def rng (lo hi : Int) : List Int := (List.range (hi - lo).toNat).map fun (k : Nat) => lo + (k : Int)
theorem rng_len {lo hi : Int} : (rng lo hi).length = (hi - lo).toNat := by unfold rng; rw [List.length_map, List.length_range]
theorem rng_at {lo hi : Int} {i : Nat} {a : Int} (h : (rng lo hi)[i]? = some a) : i < (hi - lo).toNat ∧ a = lo + i := by
  unfold rng at h
  rw [List.getElem?_map] at h
  cases e : (List.range (hi - lo).toNat)[i]? with
  | none => rw [e] at h; cases h
  | some k =>
    rw [e] at h
    have := List.getElem?_eq_some_iff.mp e
    obtain ⟨l, q⟩ := this
    rw [List.length_range] at l
    rw [List.getElem_range] at q
    subst q
    cases h
    exact ⟨l, rfl⟩
theorem walk_rng {lo hi : Int} {n : Nat} (hn : n = (hi - lo).toNat) {G H : Hp} : Walks (α := Int) K (Itr lo n) (rng lo hi) (RS G H) := fun i G' H' r => by
  subst hn
  refine ⟨fun a ha => ?_, fun e => ?_⟩
  · obtain ⟨l, rfl⟩ := rng_at ha
    exact ⟨l, fun y H2 ⟨e, hy⟩ => by subst e; subst hy; exact ⟨G', Ex.refl r.2, .int _⟩⟩
  · show _ ≤ i
    rw [rng_len] at e
    omega
theorem ei_range1 {m : M Int} (h : EvR K W te Γ m) : EvI (α := Int) K W (iRng1 (tCons te tNil)) Γ (do let j ← m; need (-(2 ^ 62) ≤ j ∧ j < 2 ^ 62); pure (rng 0 j)) := fun δ x σ F g k G H b R E s B hf kk =>
  go (te := te) g h E s B (f := fun j => (do need (-(2 ^ 62) ≤ j ∧ j < 2 ^ 62); pure (rng 0 j)) >>= k) (by rw [bind_assoc] at hf; exact hf) fun j b' v G' H' h1 e E2 s2 B2 r => by
    cases rep_int r
    unfold need at h1
    by_cases q : -(2 ^ 62) ≤ j ∧ j < 2 ^ 62
    · rw [if_pos q] at h1
      exact ⟨j, rfl, q.1, q.2, kk _ b' _ G' H' h1 e E2 s2 B2 (walk_rng (by omega))⟩
    · rw [if_neg q] at h1
      exact (g.st h1).elim
theorem ei_range2 {m n : M Int} (h : EvR K W te Γ m) (h2 : EvR K W ta Γ n) : EvI (α := Int) K W (iRng2 (tCons te (tCons ta tNil))) Γ (do let i ← m; let j ← n; need (-(2 ^ 62) ≤ i ∧ i < 2 ^ 62 ∧ -(2 ^ 62) ≤ j ∧ j < 2 ^ 62); pure (rng i j)) := fun δ x σ F g k G H b R E s B hf kk =>
  go (te := te) g h E s B (f := fun i => (do let j ← n; need (-(2 ^ 62) ≤ i ∧ i < 2 ^ 62 ∧ -(2 ^ 62) ≤ j ∧ j < 2 ^ 62); pure (rng i j)) >>= k) (by rw [bind_assoc] at hf; exact hf) fun i b' v G' H' h1 e E2 s2 B2 r =>
  go (te := ta) g h2 E2 s2 B2 (f := fun j => (do need (-(2 ^ 62) ≤ i ∧ i < 2 ^ 62 ∧ -(2 ^ 62) ≤ j ∧ j < 2 ^ 62); pure (rng i j)) >>= k) (by rw [bind_assoc] at h1; exact h1) fun j b3 w G3 H3 h3 e3 E3 s3 B3 r3 => by
    cases rep_int r
    cases rep_int r3
    unfold need at h3
    by_cases q : -(2 ^ 62) ≤ i ∧ i < 2 ^ 62 ∧ -(2 ^ 62) ≤ j ∧ j < 2 ^ 62
    · rw [if_pos q] at h3
      exact ⟨i, j, rfl, q, kk _ b3 _ G3 H3 h3 (e.trans e3) E3 s3 B3 (walk_rng rfl)⟩
    · rw [if_neg q] at h3
      exact (g.st h3).elim
/-- an own list, walked while it stands -/
theorem ei_own {i : Nat} {xs : List α} (h : Γ[i]? = some (.own (xs.map d)) := by rfl) : EvIE K W (iList K (tVar i)) Γ (pure xs) := fun δ x σ F g k G H b R E s B hf kk => by
  obtain ⟨o, h1, p, vs, rfl, gp, hp, rs⟩ := E.get h
  have nx : x ≠ some p := E.xne i p _ h rfl h1
  refine ⟨_, h1, p, rfl, ⟨vs, SqL.of hp⟩, kk xs b _ G H hf (Ex.refl s) E s B fun j G2 H2 r => ?_⟩
  have r : Ex x G H G2 H2 := r
  have hq : SqL K H2 p vs := SqL.of (r.keep p _ nx hp)
  refine ⟨fun a ha => ?_, fun e => ⟨vs, hq, by rw [rs.length, List.length_map]; omega⟩⟩
  obtain ⟨v, hv, rv⟩ := rs.get (i := j) (d := d a) (by rw [List.getElem?_map, ha]; rfl)
  exact ⟨⟨vs, v, hq, hv⟩, fun y H3 ⟨e, hy⟩ => by
    subst e
    have := hy vs hq
    rw [hv] at this
    cases this
    exact ⟨G2, Ex.refl r.gh, rv.ext r.g⟩⟩

/-! ### comprehensions -/
abbrev WF : WX := fun _ _ _ _ => False
def strict {α : Type} (m : M α) : M α := fun b => match m b with
  | (b', .err _ _) => (b', .stuck)
  | r => r
theorem strict_pure {α : Type} (a : α) : strict (pure a : M α) = pure a := rfl
def lcA {α β : Type} (t : α → M Bool) (f : α → M β) : List β → List α → M (List β)
  | acc, [] => pure acc
  | acc, a :: r => do
    let c ← strict (t a)
    if c = true then do
      let y ← strict (f a)
      lcA t f (acc ++ [y]) r
    else lcA t f acc r
noncomputable def lcM {α β : Type} (t : α → M Bool) (f : α → M β) (xs : List α) : M (List β) := do
  need (xs.length ≤ sizeLine)
  lcA t f [] xs
theorem strict_E {x : Option Addr} {σ : L2.St} {G H : Hp} {Q : VK} {b : Bx} {m : M α} (h : FinE K W x σ G H Q (strict m b)) : FinE K WF x σ G H Q (m b) := by
  unfold strict at h
  cases e : m b with
  | mk b' r =>
    rw [e] at h
    cases r with
    | ok a => exact h
    | err c fs => exact False.elim h
    | stuck => exact h
theorem et_yes : EvT K W tYes Γ (pure true) := fun x σ G H b Q E s B h => h.here s B
theorem ev_lc {wi : TI} {g : TG} {tt : TT} {vs : List Nat} {mi : M (List α)} {up : α → List Sl → List Sl} {mt : α → M Bool} {me : α → M β} (hi : EvIE K W wi Γ mi) (hg : TgOk K g vs up)
    (ht : ∀ a, EvT K WF tt (up a (wipeS Γ vs)) (mt a)) (he : ∀ a, EvR K WF te (up a (wipeS Γ vs)) (me a)) : EvR K W (tLc wi g tt te vs) Γ (do let xs ← mi; lcM mt me xs) := fun x σ G H b Q E s B h =>
  hi (List β) x σ _ good_E _ G H b _ E s B h fun xs b1 J G1 H1 h1 e1 E1 s1 B1 wk D nD => by
    obtain ⟨hl, h1⟩ := need_fin h1
    refine ⟨fun i m H' => ∃ G' b' acc ys, m = xs.length - i ∧ i ≤ xs.length ∧ Ex x G1 H1 G' H' ∧ G' D = none ∧ H' D = some (.lst acc) ∧ Reps K G' acc (ys.map d) ∧ BoxSt x G' H' b' ∧ acc.length ≤ i ∧ FinE K W x σ G1 H1 Q (lcA mt me ys (xs.drop i) b'),
      ⟨_, G1, b1, [], [], rfl, Nat.zero_le _, Ex.raw s1 nD, s1.free nD, upd_same, .nil, B1.raw nD, Nat.le_refl _, h1⟩, ?_⟩
    rintro i m H' ⟨G', b', acc, ys, rfl, hi', ex, gD, hD, rs, B', hacc, hf⟩
    have xD : x ≠ some D := fun z => by
      have := (B1 D z).2
      rw [nD] at this
      cases this
    by_cases hlt : i < xs.length
    · have hd : xs.drop i = xs[i] :: xs.drop (i + 1) := List.drop_eq_getElem_cons hlt
      obtain ⟨hgo, hy⟩ := (wk i G' H' ex).1 xs[i] (List.getElem?_eq_getElem hlt)
      refine .inr ⟨hgo, fun H'' => ∃ G' b' acc ys, i + 1 ≤ xs.length ∧ Ex x G1 H1 G' H'' ∧ G' D = none ∧ H'' D = some (.lst acc) ∧ Reps K G' acc (ys.map d) ∧ BoxSt x G' H'' b' ∧ acc.length ≤ i + 1 ∧ FinE K W x σ G1 H1 Q (lcA mt me ys (xs.drop (i + 1)) b'),
        fun H'' ⟨G'', b'', acc', ys', c1, c2⟩ => ⟨xs.length - (i + 1), by omega, G'', b'', acc', ys', rfl, c1, c2⟩, fun y H2 hyld => ?_⟩
      obtain ⟨G2, ex2, ry⟩ := hy y H2 hyld
      have B2 := B'.none_ex ex2
      have ex12 := ex.trans (ex2.box (x := x))
      have gD2 : G2 D = none := ex2.uns D _ (by simp) hD gD
      have hD2 := ex2.keep D _ (by simp) hD
      have E2 : Env K x (wipe σ vs) (wipeS Γ vs) G2 H2 := (E1.ext ex12).wipe vs
      refine hg x (wipe σ vs) (wipeS Γ vs) G2 H2 y xs[i] _ E2 ex2.gh ry fun σ' hw E3 _ => ⟨hw.trans wipe_wipe, ?_⟩
      rw [hd] at hf
      have hf2 : FinE K W x σ G1 H1 Q ((strict (mt xs[i]) >>= fun c => if c = true then (do let y ← strict (me xs[i]); lcA mt me (ys ++ [y]) (xs.drop (i + 1))) else lcA mt me ys (xs.drop (i + 1))) b') := hf
      rw [M.bind_def] at hf2
      refine ht xs[i] x σ' G2 H2 b' _ E3 ex2.gh B2 ?_
      unfold strict at hf2
      cases q : mt xs[i] b' with
      | mk b3 r =>
        rw [q] at hf2
        cases r with
        | err c fs => exact False.elim hf2
        | stuck => exact False.elim hf2
        | ok c =>
          intro G3 H3 ex3 B3
          have ex13 := ex12.trans ex3
          have gD3 : G3 D = none := ex3.uns D _ xD hD2 gD2
          have hD3 := ex3.keep D _ xD hD2
          cases c with
          | false => exact iteF ⟨G3, b3, acc, ys, hlt, ex13, gD3, hD3, (rs.ext ex2.g).ext ex3.g, B3, by omega, hf2⟩
          | true =>
            refine iteT (he xs[i] x σ' G3 H3 b3 _ (E3.ext ex3) ex3.gh B3 ?_)
            have hf3 : FinE K W x σ G1 H1 Q ((strict (me xs[i]) >>= fun y => lcA mt me (ys ++ [y]) (xs.drop (i + 1))) b3) := hf2
            rw [M.bind_def] at hf3
            unfold strict at hf3
            cases q2 : me xs[i] b3 with
            | mk b4 r2 =>
              rw [q2] at hf3
              cases r2 with
              | err c fs => exact False.elim hf3
              | stuck => exact False.elim hf3
              | ok z =>
                intro w G4 H4 ex4 B4 rw4
                have ex14 := ex13.trans ex4
                have gD4 : G4 D = none := ex4.uns D _ xD hD3 gD3
                have hD4 := ex4.keep D _ xD hD3
                refine ⟨acc, hD4, by omega, G4, b4, acc ++ [w], ys ++ [z], hlt, ?_, gD4, upd_same, ?_, ?_, by rw [List.length_append, List.length_singleton]; omega, hf3⟩
                · refine ⟨ex14.g, fun a o ha => ?_, fun p o nx hp => ?_, fun p o nx hp => ex14.uns p o nx hp⟩
                  · rw [upd_ne (fun z => by rw [z, gD4] at ha; cases ha)]
                    exact ex14.gh a o ha
                  · rw [upd_ne (fun z => by rw [z, nD] at hp; cases hp)]
                    exact ex14.keep p o nx hp
                · rw [List.map_append]
                  exact (((rs.ext ex2.g).ext ex3.g).ext ex4.g).append (.cons rw4 .nil)
                · intro p hp
                  obtain ⟨c1, c2⟩ := B4 p hp
                  exact ⟨c1, by rw [upd_ne (fun z => xD (by rw [← z]; exact hp))]; exact c2⟩
    · have hi2 : xs.length = i := by omega
      refine .inl ⟨(wk i G' H' ex).2 hi2, ?_⟩
      rw [List.drop_eq_nil_of_le (by omega)] at hf
      refine hf (.ref D) (upd G' D (.lst acc)) H' ?_ ?_ (.lst upd_same (rs.ext (upS gD)))
      · refine ⟨ex.g.trans (upS gD), fun a o ha => ?_, fun p o nx hp => ex.keep p o nx hp, fun p o nx hp hg => ?_⟩
        · by_cases z : a = D
          · subst z; rw [upd_same] at ha; cases ha; exact hD
          · rw [upd_ne z] at ha; exact ex.gh a o ha
        · rw [upd_ne (fun z => by rw [z, nD] at hp; cases hp)]
          exact ex.uns p o nx hp hg
      · intro p hp
        obtain ⟨c1, c2⟩ := B' p hp
        exact ⟨by rw [upd_ne (fun z => xD (by rw [← z]; exact hp))]; exact c1, c2⟩
end
end N

set_option Elab.async false
set_option linter.all false
set_option maxRecDepth 100000
set_option maxHeartbeats 4000000
/-! N4: statements, loops, defs. -/
namespace N
open PySem PySem.Spec PyProof.Rows L2 J
open ToD (d)
open ToDs (ds)
open M

/-! ### statements -/
/-- where a block stands: the entry's heaps, the settled part at the block's own start, now -/
structure Pt (x : Option Addr) (G0 H0 Gs G H : Hp) : Prop where
  ex : Ex x G0 H0 G H
  gs : Same Gs G
theorem Pt.step {x : Option Addr} {G0 H0 Gs G H G' H' : Hp} (p : Pt x G0 H0 Gs G H) (e : Ex x G H G' H') : Pt x G0 H0 Gs G' H' := ⟨p.ex.trans e, p.gs.trans e.g⟩
abbrev Post (ω : Type) := ω → Ends → Option Addr → Hp → Hp → Hp → Prop
/-- unsettled things of the slots are not among those of the entry -/
def Fr (σ : L2.St) (Γ : List Sl) (H0 : Hp) : Prop := ∀ (i : Nat) (p : Addr) (s : Sl), Γ[i]? = some s → s.isOwn = true → σ[i]? = some (some (.ref p)) → H0 p = none
def FinS {ω : Type} (K : PySem.W.Frag) (W : WX) (P : Post ω) (x : Option Addr) (G0 H0 Gs : Hp) (L : Ends) : Bx × Res ω → Prop
  | (b', .ok w) => ∀ G' H', Pt x G0 H0 Gs G' H' → BoxSt x G' H' b' → P w L x H0 G' H'
  | (b', .err c fs) => ∀ σ' dd G' H', Pt x G0 H0 Gs G' H' → BoxSt x G' H' b' → RepX K G' dd fs → W (.ref (He.ga K c)) dd σ' H'
  | (_, .stuck) => False
def Rd {ω : Type} (K : PySem.W.Frag) (W : WX) (P : Post ω) (ts : TS) (Γ : List Sl) (m : M ω) : Prop :=
  ∀ x σ G0 H0 Gs G H b L, Env K x σ Γ G H → Fr σ Γ H0 → Same G H → BoxSt x G H b → Pt x G0 H0 Gs G H → FinS K W P x G0 H0 Gs L (m b) → ts L σ H
section
variable {ω : Type} {α β γ S : Type} [ToD α] [ToD β] [ToD γ] {K : PySem.W.Frag} {W : WX} {P : Post ω} {te ta tb : TE} {Γ : List Sl} {ts rest : TS}
theorem good_S {x : Option Addr} {σ : L2.St} {G0 H0 Gs : Hp} {L : Ends} : Good K W x σ (fun G H (r : Bx × Res ω) => Pt x G0 H0 Gs G H ∧ FinS K W P x G0 H0 Gs L r) :=
  ⟨fun e h => ⟨h.1.step e, h.2⟩, fun h dd G' H' e B r => h.2 _ dd G' H' (h.1.step e) B r, fun h => h.2⟩
theorem Fr.set {σ : L2.St} {H0 : Hp} (F : Fr σ Γ H0) {i : Nat} {o : Option V} {s : Sl} (hs : s.isOwn = false) : Fr (σ.set i o) (Γ.set i s) H0 := fun j p t h1 o1 e1 => by
  by_cases z : i = j
  · subst z
    by_cases l : i < Γ.length
    · rw [List.getElem?_set_self l] at h1; cases h1; rw [hs] at o1; cases o1
    · rw [List.getElem?_eq_none (by rw [List.length_set]; omega)] at h1; cases h1
  · rw [List.getElem?_set_ne z] at h1 e1
    exact F j p t h1 o1 e1
theorem Fr.wk {σ : L2.St} {H0 : Hp} {Δ : List Sl} (F : Fr σ Γ H0) (w : Wk Γ Δ) : Fr σ Δ H0 := fun j p t h1 o1 e1 => by
  rcases w.at_ h1 with rfl | e
  · cases o1
  · exact F j p t e o1 e1
theorem rd_wk {Δ : List Sl} {m : M ω} (w : Wk Γ Δ) (h : Rd K W P ts Δ m) : Rd K W P ts Γ m := fun x σ G0 H0 Gs G H b L E F s B e hf => h x σ G0 H0 Gs G H b L (E.wk w) (F.wk w) s B e hf
theorem rd_eq {m m' : M ω} (e : m' = m) (h : Rd K W P ts Γ m) : Rd K W P ts Γ m' := by rw [e]; exact h
/-- x = e -/
theorem rd_set {i : Nat} {m : M α} {k : α → M ω} (h : EvR K W te Γ m) (hr : ∀ a, Rd K W P rest (Γ.set i (.val (d a))) (k a)) : Rd K W P (tSeq (tAsg te (gName i)) rest) Γ (m >>= k) := fun x σ G0 H0 Gs G H b L E F s B e hf =>
  go (te := te) good_S h E s B (f := k) ⟨e, hf⟩ fun a b' v G' H' h2 e2 E2 s2 B2 r => hr a x _ G0 H0 Gs G' H' b' L (E2.setVal r) (F.set rfl) s2 B2 h2.1 h2.2
/-- e as a statement -/
theorem rd_drop {m : M α} {k : α → M ω} (h : EvR K W te Γ m) (hr : ∀ a, Rd K W P rest Γ (k a)) : Rd K W P (tSeq (tDrop te) rest) Γ (m >>= k) := fun x σ G0 H0 Gs G H b L E F s B e hf =>
  go (te := te) good_S h E s B (f := k) ⟨e, hf⟩ fun a b' v G' H' h2 e2 E2 s2 B2 r => hr a x _ G0 H0 Gs G' H' b' L E2 F s2 B2 h2.1 h2.2
/-- what a target leaves of the slots -/
abbrev UpOk {α : Type} (vs : List Nat) (up : α → List Sl → List Sl) (Γ : List Sl) : Prop := ∀ a j s, (up a Γ)[j]? = some s → s.isOwn = true → j ∉ vs ∧ Γ[j]? = some s
theorem up_set {vs : List Nat} {Γ : List Sl} {i : Nat} {t : Sl} (h : i ∈ vs) (ht : t.isOwn = false) {Δ : List Sl} (hd : ∀ j s, Δ[j]? = some s → s.isOwn = true → (j ∉ vs ∨ True) ∧ Γ[j]? = some s) : ∀ j s, (Δ.set i t)[j]? = some s → s.isOwn = true → j ≠ i ∧ Γ[j]? = some s := fun j s h1 o => by
  by_cases z : i = j
  · subst z
    by_cases l : i < Δ.length
    · rw [List.getElem?_set_self l] at h1; cases h1; rw [ht] at o; cases o
    · rw [List.getElem?_eq_none (by rw [List.length_set]; omega)] at h1; cases h1
  · rw [List.getElem?_set_ne z] at h1
    exact ⟨fun e => z e.symm, (hd j s h1 o).2⟩
theorem up1 {i : Nat} : UpOk (α := α) [i] (fun a Γ => Γ.set i (.val (d a))) Γ := fun a j s h o => by
  obtain ⟨h1, h2⟩ := up_set (vs := [i]) (by simp) rfl (fun j s h _ => ⟨.inr trivial, h⟩) j s h o
  exact ⟨by simpa using h1, h2⟩
theorem up2 {i j : Nat} : UpOk (α := α × β) [i, j] (fun a Γ => (Γ.set i (.val (d a.1))).set j (.val (d a.2))) Γ := fun a l s h o => by
  obtain ⟨h1, h2⟩ := up_set (vs := [j]) (Γ := Γ.set i (.val (d a.1))) (by simp) rfl (fun j s h _ => ⟨.inr trivial, h⟩) l s h o
  obtain ⟨h3, h4⟩ := up_set (vs := [i]) (by simp) rfl (fun j s h _ => ⟨.inr trivial, h⟩) l s h2 o
  exact ⟨by simp [h1, h3], h4⟩
theorem up3 {i j l : Nat} : UpOk (α := T3 α β γ) [i, j, l] (fun a Γ => ((Γ.set i (.val (d a.a))).set j (.val (d a.b))).set l (.val (d a.c))) Γ := fun a n s h o => by
  obtain ⟨h1, h2⟩ := up_set (vs := [l]) (Γ := (Γ.set i (.val (d a.a))).set j (.val (d a.b))) (by simp) rfl (fun j s h _ => ⟨.inr trivial, h⟩) n s h o
  obtain ⟨h3, h4⟩ := up2 (α := α) (β := β) (a.a, a.b) n s h2 o
  simp only [List.mem_cons, List.not_mem_nil, or_false, not_or] at h3
  exact ⟨by simp [h1, h3.1, h3.2], h4⟩
/-- a, b = e: any target -/
theorem rd_tg {g : TG} {vs : List Nat} {up : α → List Sl → List Sl} {m : M α} {k : α → M ω} (hg : TgOk K g vs up) (hfr : UpOk vs up Γ) (h : EvR K W te Γ m) (hr : ∀ a, Rd K W P rest (up a Γ) (k a)) :
    Rd K W P (tSeq (tAsg te g) rest) Γ (m >>= k) := fun x σ G0 H0 Gs G H b L E F s B e hf =>
  go (te := te) good_S h E s B (f := k) ⟨e, hf⟩ fun a b' v G' H' h2 e2 E2 s2 B2 r => hg x σ Γ G' H' v a _ E2 s2 r fun σ' _ E3 bk => hr a x _ G0 H0 Gs G' H' b' L E3 (fun j p t h1 o1 e1 => by
    obtain ⟨c1, c2⟩ := hfr a j t h1 o1
    exact F j p t c2 o1 (bk j p c1 e1)) s2 B2 h2.1 h2.2
/-- a, b = e1, e2 -/
theorem rd_par {i j : Nat} {t : TA} {mk : ∀ {θ : Type}, (α × β × Unit → M θ) → M θ} {k : α × β × Unit → M ω} (h : EvC (ι := α × β × Unit) K W t Γ mk) (hr : ∀ a b, Rd K W P rest ((Γ.set i (.val (d a))).set j (.val (d b))) (k (a, b, ()))) :
    Rd K W P (tSeq (tPar i j t) rest) Γ (mk k) := fun x σ G0 H0 Gs G H b L E F s B e hf =>
  h ω x σ _ good_S k G H b _ E s B ⟨e, hf⟩ fun i' b' vs G' H' h2 e2 E2 s2 B2 rs => by
    obtain ⟨a, c, u⟩ := i'
    obtain ⟨v, w, rfl, r1, r2⟩ := reps2 rs
    exact ⟨v, w, rfl, hr a c x _ G0 H0 Gs G' H' b' L ((E2.setVal r1).setVal r2) ((F.set rfl).set rfl) s2 B2 h2.1 h2.2⟩
theorem reps3 {G : Hp} {vs : List V} {a : α} {c : β} {c2 : γ} (h : Reps K G vs (ds (a, c, c2, ()))) : ∃ v w u, vs = [v, w, u] ∧ Rep K G v (d a) ∧ Rep K G w (d c) ∧ Rep K G u (d c2) := by
  cases h with | cons r t => cases t with | cons r2 t2 => cases t2 with | cons r3 t3 => cases t3 with | nil => exact ⟨_, _, _, rfl, r, r2, r3⟩
theorem rd_par3 {i j l : Nat} {t : TA} {mk : ∀ {θ : Type}, (α × β × γ × Unit → M θ) → M θ} {k : α × β × γ × Unit → M ω} (h : EvC (ι := α × β × γ × Unit) K W t Γ mk) (hr : ∀ a b c, Rd K W P rest (((Γ.set i (.val (d a))).set j (.val (d b))).set l (.val (d c))) (k (a, b, c, ()))) :
    Rd K W P (tSeq (tPar3 i j l t) rest) Γ (mk k) := fun x σ G0 H0 Gs G H b L E F s B e hf =>
  h ω x σ _ good_S k G H b _ E s B ⟨e, hf⟩ fun i' b' vs G' H' h2 e2 E2 s2 B2 rs => by
    obtain ⟨a, c, c2, u⟩ := i'
    obtain ⟨v, w, w2, rfl, r1, r2, r3⟩ := reps3 rs
    exact ⟨v, w, w2, rfl, hr a c c2 x _ G0 H0 Gs G' H' b' L (((E2.setVal r1).setVal r2).setVal r3) (((F.set rfl).set rfl).set rfl) s2 B2 h2.1 h2.2⟩
/-- if -/
theorem rd_if {t : TT} {u v : TS} {mc : M Bool} {m1 m2 : M ω} (hc : EvT K W t Γ mc) (h1 : Rd K W P (tSeq u rest) Γ m1) (h2 : Rd K W P (tSeq v rest) Γ m2) : Rd K W P (tSeq (tIfS t u v) rest) Γ (do let c ← mc; if c = true then m1 else m2) := fun x σ G0 H0 Gs G H b L E F s B e hf =>
  goT (t := t) good_S hc E s B (f := fun c => if c = true then m1 else m2) ⟨e, hf⟩ fun a b' G' H' h3 e2 E2 s2 B2 => by
    cases a with
    | true => exact iteT (h1 x σ G0 H0 Gs G' H' b' L E2 F s2 B2 h3.1 h3.2)
    | false => exact iteF (h2 x σ G0 H0 Gs G' H' b' L E2 F s2 B2 h3.1 h3.2)
/-- what a block leaves to what follows -/
def PJ {S : Type} (K : PySem.W.Frag) (Γn : S → List Sl) : Post S := fun s L x H0 G H => ∀ σ', Env K x σ' (Γn s) G H → Fr σ' (Γn s) H0 → L.nx σ' H
theorem rd_next {Γn : S → List Sl} {s : S} (w : Wk Γ (Γn s)) : Rd K W (PJ K Γn) tNext Γ (pure s) := fun x σ G0 H0 Gs G H b L E F s B e hf => hf G H e B σ (E.wk w) (F.wk w)
theorem rd_join {t : TT} {u v : TS} {Γn : S → List Sl} {mc : M Bool} {m1 m2 : M S} {k : S → M ω} (hc : EvT K W t Γ mc) (h1 : Rd K W (PJ K Γn) u Γ m1) (h2 : Rd K W (PJ K Γn) v Γ m2) (hr : ∀ s, Rd K W P rest (Γn s) (k s)) :
    Rd K W P (tSeq (tIfS t u v) rest) Γ (do let c ← mc; let s ← (if c = true then m1 else m2); k s) := fun x σ G0 H0 Gs G H b L E F s B e hf =>
  goT (t := t) good_S hc E s B (f := fun c => do let s ← (if c = true then m1 else m2); k s) ⟨e, hf⟩ fun a b' G' H' h3 e2 E2 s2 B2 => by
    have part : ∀ (ts : TS) (m : M S), Rd K W (PJ K Γn) ts Γ m → FinS K W P x G0 H0 Gs L ((m >>= k) b') → ts { L with nx := rest L } σ H' := fun ts m hm hf2 => by
      refine hm x σ G0 H0 Gs G' H' b' _ E2 F s2 B2 h3.1 ?_
      rw [M.bind_def] at hf2
      cases q : m b' with
      | mk b3 r =>
        rw [q] at hf2
        cases r with
        | ok w => exact fun G3 H3 e3 B3 σ' E3 F3 => hr w x σ' G0 H0 Gs G3 H3 b3 L E3 F3 e3.ex.gh B3 e3 hf2
        | err c fs => exact hf2
        | stuck => exact hf2
    cases a with
    | true => exact iteT (part u m1 h1 h3.2)
    | false => exact iteF (part v m2 h2 h3.2)
/-- return -/
def PRet {α : Type} [ToD α] (K : PySem.W.Frag) : Post α := fun w L x H0 G H => ∀ v, Rep K G v (d w) → L.rt v H
abbrev RetOk {ω α : Type} [ToD α] (K : PySem.W.Frag) (P : Post ω) (rk : α → ω) : Prop := ∀ w L x H0 G H, P (rk w) L x H0 G H → ∀ v, Rep K G v (d w) → L.rt v H
theorem rk_id : RetOk (α := α) K (PRet K) id := fun _ _ _ _ _ _ h => h
theorem rd_ret {m : M α} (h : EvR K W te Γ m) : Rd K W (PRet K) (tRet te) Γ m := fun x σ G0 H0 Gs G H b L E F s B e hf => by
  refine h x σ G H b _ E s B ?_
  cases q : m b with
  | mk b' r =>
    rw [q] at hf
    cases r with
    | ok a => exact fun v G' H' e2 B2 r => hf G' H' (e.step e2) B2 v r
    | err c fs => exact fun dd G' H' e2 B2 r => hf σ dd G' H' (e.step e2) B2 r
    | stuck => exact hf
/-- return, within a loop -/
theorem rd_retk {m : M α} {rk : α → ω} (hP : RetOk K P rk) (h : EvR K W te Γ m) : Rd K W P (tRet te) Γ (do let a ← m; pure (rk a)) := fun x σ G0 H0 Gs G H b L E F s B e hf =>
  go (te := te) good_S h E s B (f := fun a => pure (rk a)) ⟨e, hf⟩ fun a b' v G' H' h2 e2 E2 s2 B2 r => hP _ _ _ _ _ _ (h2.2 G' H' h2.1 B2) v r
theorem rd_retN {rk : Unit → ω} (hP : RetOk K P rk) : Rd K W P tRetN Γ (pure (rk ())) := fun x σ G0 H0 Gs G H b L E F s B e hf => hP _ _ _ _ _ _ (hf G H e B) .non .non

/-! ### loops -/
inductive Step (S ρ : Type) where
  | nx (s : S) | rt (w : ρ)
def PB {S ρ : Type} [ToD ρ] (K : PySem.W.Frag) (Γn : S → List Sl) : Post (Step S ρ)
  | .nx s, L, x, H0, G, H => ∀ σ', Env K x σ' (Γn s) G H → Fr σ' (Γn s) H0 → L.nx σ' H ∧ L.ct σ' H
  | .rt w, L, _, _, G, H => ∀ v, Rep K G v (d w) → L.rt v H
theorem rk_rt {ρ : Type} [ToD ρ] {Γn : S → List Sl} : RetOk (α := ρ) K (PB K Γn) Step.rt := fun _ _ _ _ _ _ h => h
theorem rd_nx {ρ : Type} [ToD ρ] {Γn : S → List Sl} {s : S} (w : Wk Γ (Γn s)) : Rd K W (PB (ρ := ρ) K Γn) tNext Γ (pure (.nx s)) := fun x σ G0 H0 Gs G H b L E F s B e hf => (hf G H e B σ (E.wk w) (F.wk w)).1
theorem rd_cont {ρ : Type} [ToD ρ] {Γn : S → List Sl} {s : S} (w : Wk Γ (Γn s)) : Rd K W (PB (ρ := ρ) K Γn) tCont Γ (pure (.nx s)) := fun x σ G0 H0 Gs G H b L E F s B e hf => (hf G H e B σ (E.wk w) (F.wk w)).2
def forM {ι S ρ : Type} (body : ι → S → M (Step S ρ)) : List ι → S → M (Step S ρ)
  | [], s => pure (.nx s)
  | a :: r, s => do
    match ← body a s with
    | .nx s' => forM body r s'
    | .rt w => pure (.rt w)
def after {S ρ ω : Type} (m : M (Step S ρ)) (k : S → M ω) (rk : ρ → ω) : M ω := do
  match ← m with
  | .nx s => k s
  | .rt w => pure (rk w)
theorem rd_for {ρ : Type} [ToD ρ] {wi : TI} {g : TG} {tb : TS} {vs : List Nat} {up : α → List Sl → List Sl} {Γn : S → List Sl} {s0 : S} {mi : M (List α)} {body : α → S → M (Step S ρ)} {k : S → M ω} {rk : ρ → ω}
    (w0 : Wk Γ (Γn s0)) (hP : RetOk K P rk) (hi : EvI K W wi Γ mi) (hg : TgOk K g vs up) (hfr : ∀ s, UpOk vs up (Γn s)) (hb : ∀ a s, Rd K W (PB K Γn) tb (up a (Γn s)) (body a s)) (hr : ∀ s, Rd K W P rest (Γn s) (k s)) :
    Rd K W P (tSeq (tFor wi g tb) rest) Γ (do let xs ← mi; after (forM body xs s0) k rk) := fun x σ G0 H0 Gs G H b L E F s B e hf =>
  hi ω x σ _ good_S _ G H b _ E s B ⟨e, hf⟩ fun xs b1 J G1 H1 h1 e1 E1 s1 B1 wk => by
    obtain ⟨p1, h1⟩ := h1
    refine ⟨fun i m σ' H' => ∃ G' b' s, m = xs.length - i ∧ i ≤ xs.length ∧ Env K x σ' (Γn s) G' H' ∧ Fr σ' (Γn s) H0 ∧ Same G1 G' ∧ Same G' H' ∧ BoxSt x G' H' b' ∧ Pt x G0 H0 Gs G' H' ∧ FinS K W P x G0 H0 Gs L (after (forM body (xs.drop i) s) k rk b'),
      ⟨_, G1, b1, s0, rfl, Nat.zero_le _, E1.wk w0, F.wk w0, Same.refl _, s1, B1, p1, h1⟩, ?_⟩
    rintro i m σ' H' ⟨G', b', st, rfl, hi', E', F', sg, sh, B', p', hf'⟩
    by_cases hlt : i < xs.length
    · have hd : xs.drop i = xs[i] :: xs.drop (i + 1) := List.drop_eq_getElem_cons hlt
      obtain ⟨hgo, hy⟩ := (wk i G' H' ⟨sg, sh⟩).1 xs[i] (List.getElem?_eq_getElem hlt)
      refine .inr ⟨hgo, fun σ'' H'' => ∃ G' b' s, i + 1 ≤ xs.length ∧ Env K x σ'' (Γn s) G' H'' ∧ Fr σ'' (Γn s) H0 ∧ Same G1 G' ∧ Same G' H'' ∧ BoxSt x G' H'' b' ∧ Pt x G0 H0 Gs G' H'' ∧ FinS K W P x G0 H0 Gs L (after (forM body (xs.drop (i + 1)) s) k rk b'),
        fun σ'' H'' ⟨G'', b'', s'', c⟩ => ⟨xs.length - (i + 1), by omega, G'', b'', s'', rfl, c⟩, fun y H2 hyld => ?_⟩
      obtain ⟨G2, ex2, ry⟩ := hy y H2 hyld
      have B2 := B'.none_ex ex2
      have ex2 := ex2.box (x := x)
      refine hg x σ' (Γn st) G2 H2 y xs[i] _ (E'.ext ex2) ex2.gh ry fun σ3 _ E3 bk => ?_
      rw [hd] at hf'
      have F3 : Fr σ3 (up xs[i] (Γn st)) H0 := fun j p t h1 o1 e1 => by
        obtain ⟨c1, c2⟩ := hfr st xs[i] j t h1 o1
        exact F' j p t c2 o1 (bk j p c1 e1)
      refine hb xs[i] st x σ3 G0 H0 G2 G2 H2 b' _ E3 F3 ex2.gh B2 ⟨p'.ex.trans ex2, Same.refl _⟩ ?_
      have hf2 : FinS K W P x G0 H0 Gs L (((body xs[i] st >>= fun r => match r with
        | .nx s' => forM body (xs.drop (i + 1)) s'
        | .rt w => pure (.rt w)) >>= fun r => match r with
        | .nx s => k s
        | .rt w => pure (rk w)) b') := hf'
      rw [bind_assoc, M.bind_def] at hf2
      cases q : body xs[i] st b' with
      | mk b3 r =>
        rw [q] at hf2
        cases r with
        | stuck => exact hf2
        | err c fs => exact fun σ4 dd G4 H4 p4 B4 r4 => hf2 σ4 dd G4 H4 ⟨p4.ex, (p'.gs.trans ex2.g).trans p4.gs⟩ B4 r4
        | ok w =>
          cases w with
          | nx s' => exact fun G4 H4 p4 B4 σ4 E4 F4 =>
              have z : ∃ G' b' s, i + 1 ≤ xs.length ∧ Env K x σ4 (Γn s) G' H4 ∧ Fr σ4 (Γn s) H0 ∧ Same G1 G' ∧ Same G' H4 ∧ BoxSt x G' H4 b' ∧ Pt x G0 H0 Gs G' H4 ∧ FinS K W P x G0 H0 Gs L (after (forM body (xs.drop (i + 1)) s) k rk b') :=
                ⟨G4, b3, s', hlt, E4, F4, (sg.trans ex2.g).trans p4.gs, p4.ex.gh, B4, ⟨p4.ex, (p'.gs.trans ex2.g).trans p4.gs⟩, hf2⟩
              ⟨z, z⟩
          | rt w => exact fun G4 H4 p4 B4 => hP w L x H0 G4 H4 (hf2 G4 H4 ⟨p4.ex, (p'.gs.trans ex2.g).trans p4.gs⟩ B4)
    · have hi2 : xs.length = i := by omega
      refine .inl ⟨(wk i G' H' ⟨sg, sh⟩).2 hi2, ?_⟩
      rw [List.drop_eq_nil_of_le (by omega)] at hf'
      exact hr st x σ' G0 H0 Gs G' H' b' L E' F' sh B' p' hf'
/-- for, nothing returned within -/
def foldM {ι S : Type} (body : ι → S → M S) : List ι → S → M S
  | [], s => pure s
  | a :: r, s => do
    let s' ← body a s
    foldM body r s'
theorem rd_nxj {ρ : Type} [ToD ρ] {Γn : S → List Sl} {m : M S} (h : Rd K W (PJ K Γn) ts Γ m) : Rd K W (PB (ρ := ρ) K Γn) ts Γ (do let s ← m; pure (.nx s)) := fun x σ G0 H0 Gs G H b L E F s B e hf => by
  refine h x σ G0 H0 Gs G H b L E F s B e ?_
  rw [M.bind_def] at hf
  cases q : m b with
  | mk b' r =>
    rw [q] at hf
    cases r with
    | ok w => exact fun G' H' p' B' σ' E' F' => (hf G' H' p' B' σ' E' F').1
    | err c fs => exact hf
    | stuck => exact hf
theorem fold_for {ι ρ : Type} {body : ι → S → M S} {k : S → M ω} {rk : ρ → ω} : ∀ (xs : List ι) (s : S), after (forM (fun a s => do let s' ← body a s; pure (.nx s')) xs s) k rk = (do let s' ← foldM body xs s; k s')
  | [], s => by simp [after, forM, foldM]
  | a :: r, s => by
    have ih := fun s => fold_for (body := body) (k := k) (rk := rk) r s
    simp only [after, forM, foldM, bind_assoc, pure_bind] at ih ⊢
    congr 1
    funext s'
    exact ih s'
instance : ToD Empty := ⟨fun e => nomatch e⟩
theorem rd_fold {wi : TI} {g : TG} {tb : TS} {vs : List Nat} {up : α → List Sl → List Sl} {Γn : S → List Sl} {s0 : S} {mi : M (List α)} {body : α → S → M S} {k : S → M ω}
    (w0 : Wk Γ (Γn s0)) (hi : EvI K W wi Γ mi) (hg : TgOk K g vs up) (hfr : ∀ s, UpOk vs up (Γn s)) (hb : ∀ a s, Rd K W (PJ K Γn) tb (up a (Γn s)) (body a s)) (hr : ∀ s, Rd K W P rest (Γn s) (k s)) :
    Rd K W P (tSeq (tFor wi g tb) rest) Γ (do let xs ← mi; let s ← foldM body xs s0; k s) := by
  have h := rd_for (ρ := Empty) (P := P) (rk := fun e => nomatch e) w0 (fun e => nomatch e) hi hg hfr (fun a s => rd_nxj (hb a s)) hr
  simp only [fold_for] at h
  exact h
/-- while -/
def whileM {S ρ : Type} (c : S → M Bool) (body : S → M (Step S ρ)) : Nat → S → M (Step S ρ)
  | 0, _ => M.stuck
  | n + 1, s => do
    let b ← c s
    if b = true then do
      match ← body s with
      | .nx s' => whileM c body n s'
      | .rt w => pure (.rt w)
    else pure (.nx s)
theorem rd_while {ρ : Type} [ToD ρ] {t : TT} {tb : TS} {Γn : S → List Sl} {s0 : S} {mc : S → M Bool} {body : S → M (Step S ρ)} {k : S → M ω} {rk : ρ → ω} {n : Nat}
    (w0 : Wk Γ (Γn s0)) (hP : RetOk K P rk) (hc : ∀ s, EvT K W t (Γn s) (mc s)) (hb : ∀ s, Rd K W (PB K Γn) tb (Γn s) (body s)) (hr : ∀ s, Rd K W P rest (Γn s) (k s)) :
    Rd K W P (tSeq (tWhile t tb) rest) Γ (after (whileM mc body n s0) k rk) := fun x σ G0 H0 Gs G H b L E F s B e hf => by
  refine ⟨fun m σ' H' => ∃ G' b' st, Env K x σ' (Γn st) G' H' ∧ Fr σ' (Γn st) H0 ∧ Same G' H' ∧ BoxSt x G' H' b' ∧ Pt x G0 H0 Gs G' H' ∧ FinS K W P x G0 H0 Gs L (after (whileM mc body m st) k rk b'),
    ⟨n, G, b, s0, E.wk w0, F.wk w0, s, B, e, hf⟩, ?_⟩
  rintro m σ' H' ⟨G', b', st, E', F', s', B', p', hf'⟩
  cases m with
  | zero => exact False.elim hf'
  | succ m =>
    have hf2 : FinS K W P x G0 H0 Gs L (((mc st >>= fun b => if b = true then (body st >>= fun r => match r with
      | .nx s' => whileM mc body m s'
      | .rt w => pure (.rt w)) else pure (.nx st)) >>= fun r => match r with
      | .nx s => k s
      | .rt w => pure (rk w)) b') := hf'
    rw [bind_assoc] at hf2
    refine goT (t := t) good_S (hc st) E' s' B' ⟨p', hf2⟩ fun c b2 G2 H2 h2 ex2 E2 s2 B2 => ?_
    obtain ⟨p2, h2⟩ := h2
    cases c with
    | false => exact iteF (hr st x σ' G0 H0 Gs G2 H2 b2 L E2 F' s2 B2 p2 h2)
    | true =>
      have h3 : FinS K W P x G0 H0 Gs L (((body st >>= fun r => match r with
        | .nx s' => whileM mc body m s'
        | .rt w => pure (.rt w)) >>= fun r => match r with
        | .nx s => k s
        | .rt w => pure (rk w)) b2) := h2
      rw [bind_assoc, M.bind_def] at h3
      refine iteT ⟨fun σ4 H4 => ∃ G' b' st, Env K x σ4 (Γn st) G' H4 ∧ Fr σ4 (Γn st) H0 ∧ Same G' H4 ∧ BoxSt x G' H4 b' ∧ Pt x G0 H0 Gs G' H4 ∧ FinS K W P x G0 H0 Gs L (after (whileM mc body m st) k rk b'),
        fun σ4 H4 z => ⟨m, Nat.lt_succ_self _, z⟩, hb st x σ' G0 H0 Gs G2 H2 b2 _ E2 F' s2 B2 p2 ?_⟩
      cases q : body st b2 with
      | mk b3 r =>
        rw [q] at h3
        cases r with
        | stuck => exact h3
        | err c fs => exact h3
        | ok w =>
          cases w with
          | nx s3 => exact fun G4 H4 p4 B4 σ4 E4 F4 => ⟨⟨G4, b3, s3, E4, F4, p4.ex.gh, B4, p4, h3⟩, ⟨G4, b3, s3, E4, F4, p4.ex.gh, B4, p4, h3⟩⟩
          | rt w => exact fun G4 H4 p4 B4 => hP w L x H0 G4 H4 (h3 G4 H4 p4 B4)

/-! ### a def from its body -/
def slots (ds : List D) (n : Nat) : List Sl := ds.map .val ++ List.replicate n .any
theorem env_start {N : List Str} {vs : List V} {ds : List D} {n : Nat} {G H : Hp} (r : Reps K G vs ds) (hn : N.length - vs.length = n) : Env K none (L2.start N vs) (slots ds n) G H := by
  subst hn
  unfold L2.start slots
  have hl := r.length
  refine ⟨by simp [hl], fun i s o h1 h2 => ?_, fun i j p s t ne h1 h2 o1 => ?_, fun i p s h1 o1 => ?_⟩
  · by_cases l : i < ds.length
    · rw [List.getElem?_append_left (by simpa using l), List.getElem?_map] at h1
      rw [List.getElem?_append_left (by simpa [hl] using l), List.getElem?_map] at h2
      cases e1 : ds[i]? with
      | none => rw [e1] at h1; cases h1
      | some dd =>
        rw [e1] at h1
        cases h1
        obtain ⟨v, e2, rv⟩ := r.get e1
        rw [e2] at h2
        cases h2
        exact ⟨v, rfl, rv⟩
    · rw [List.getElem?_append_right (by simpa using l)] at h1
      have := List.mem_of_getElem? h1
      rw [List.eq_of_mem_replicate this]
      trivial
  all_goals
    exfalso
    have hm := List.mem_of_getElem? h1
    rcases List.mem_append.mp hm with z | z
    · obtain ⟨a, _, rfl⟩ := List.mem_map.mp z; cases o1
    · rw [List.eq_of_mem_replicate z] at o1; cases o1
theorem fr_start {σ : L2.St} {ds : List D} {n : Nat} {H0 : Hp} : Fr σ (slots ds n) H0 := fun i p s h1 o1 => by
  exfalso
  have hm := List.mem_of_getElem? h1
  rcases List.mem_append.mp hm with z | z
  · obtain ⟨a, _, rfl⟩ := List.mem_map.mp z; cases o1
  · rw [List.eq_of_mem_replicate z] at o1; cases o1
abbrev WE1 (E : XK) : WX := fun c dd _ H => E c dd H
/-- the reading of a def's whole body -/
theorem fn_rd {ι : Type} [ToDs ι] {ts : TS} {N : List Str} {f : ι → Res γ} {mb : ι → M γ} {n : Nat} {H : Hp} {vs : List V} {Q : VK} {E : XK} (h : spG K f vs H Q E) (hm : ∀ i, f i = M.run (mb i)) (hn : ∀ i : ι, N.length - (ds i).length = n)
    (hb : ∀ i, Rd K (WE1 E) (PRet K) ts (slots (ds i) n) (mb i)) : ts { nx := fun _ H' => Q .non H', rt := Q } (L2.start N vs) H := by
  obtain ⟨i, G, s, rs, hf⟩ := h
  refine hb i none _ G H G G H (0, 0, 0) _ (env_start rs (by rw [rs.length]; exact hn i)) fr_start s boxNone ⟨Ex.refl s, Same.refl _⟩ ?_
  rw [hm] at hf
  unfold M.run at hf
  cases q : mb i (0, 0, 0) with
  | mk b' r =>
    rw [q] at hf
    cases r with
    | ok a => exact fun G' H' p' _ v rv => hf v G' H' p'.ex rv
    | err c fs => exact fun σ' dd G' H' p' _ rx => hf dd G' H' p'.ex rx
    | stuck => exact hf
theorem spG_len {ι : Type} [ToDs ι] {f : ι → Res γ} {vs : List V} {H : Hp} {Q : VK} {E : XK} {n : Nat} (h : spG K f vs H Q E) (hn : ∀ i : ι, (ds i).length = n) : vs.length = n := by
  obtain ⟨i, G, s, rs, hf⟩ := h
  rw [rs.length, hn]
end
end N

set_option Elab.async false
set_option linter.all false
set_option maxRecDepth 100000
set_option maxHeartbeats 4000000
/-! N5: instances, fields, methods, makings, isinstance, errors. -/
namespace N
open PySem PySem.Spec PyProof.Rows L2 J
open ToD (d)
open ToDs (ds)
open M

section
variable {ω : Type} {α β γ S : Type} [ToD α] [ToD β] [ToD γ] {K : PySem.W.Frag} {W : WX} {P : Post ω} {te ta tb : TE} {Γ : List Sl} {ts rest : TS}
/-! ### fields, properties, methods -/
/-- α's values are instances of the class named c -/
class InsOf (α : Type) [ToD α] (c : outParam Str) where
  fs : α → List (Str × D)
  eq : ∀ a, d a = .ins c (fs a)
theorem ev_fld {c f : Str} [InsOf α c] {m : M α} {g : α → β} (h : EvR K W te Γ m) (cl : Cls K (He.ga K c)) (na : NoAttr K (He.ga K c) f) (hg : ∀ a, (InsOf.fs (α := α) a).lookup f = some (d (g a)) := by intro _; rfl) :
    EvR K W (tFld K te f) Γ (do let a ← m; pure (g a)) := fun x σ G H b Q E s B h' =>
  step_E (te := te) h E s B h' fun a b' v G' H' h2 e E2 s2 B2 r => by
    rw [InsOf.eq] at r
    obtain ⟨p, dx, vs, rfl, hp, rf⟩ := rep_ins r
    obtain ⟨w, hw, rw'⟩ := rf.look (hg a)
    exact ⟨p, _, dx, vs, w, rfl, s2 _ _ hp, cl, na, hw, h2.here s2 B2 rw'⟩
/-- a getter that hands back a field -/
theorem ev_prop {c f : Str} [InsOf α c] {C : Addr} (hC : He.ga K c = C) {m : M α} {g : α → β} (h : EvR K W te Γ m) (hg : ∀ a, (InsOf.fs (α := α) a).lookup f = some (d (g a)) := by intro _; rfl) :
    EvR K W (tProp C (getSp C f) [] E0 te) Γ (do let a ← m; pure (g a)) := fun x σ G H b Q E s B h' =>
  step_E (te := te) h E s B h' fun a b' v G' H' h2 e E2 s2 B2 r => by
    subst hC
    rw [InsOf.eq] at r
    obtain ⟨p, dx, vs, rfl, hp, rf⟩ := rep_ins r
    obtain ⟨w, hw, rw'⟩ := rf.look (hg a)
    exact ⟨p, dx, vs, rfl, s2 _ _ hp, p, dx, vs, w, rfl, s2 _ _ hp, hw, h2.here s2 B2 rw'⟩
theorem lookup_none {vs : List (Str × V)} {fs : List (Str × D)} {n : Str} {G : Hp} (r : RepF K G vs fs) (h : fs.lookup n = none) : vs.lookup n = none := by
  induction fs generalizing vs with
  | nil => cases r; rfl
  | cons q t ih =>
    cases r with | cons r1 r2 =>
    rename_i m _ _ _
    by_cases z : n = m
    · subst z
      simp [List.lookup] at h
    · have z2 : (n == m) = false := by simpa using z
      simp only [List.lookup, z2] at h ⊢
      exact ih r2 h
theorem ev_meth {c n : Str} [InsOf α c] {C : Addr} (hC : He.ga K c = C) {ι : Type} [ToDs ι] {t : TA} {mk : ∀ {θ : Type}, (ι → M θ) → M θ} {f : α × ι → Res γ} {m : M α} (h : EvR K W te Γ m) (h2 : EvC K W t Γ mk) (hn : ∀ a, (InsOf.fs (α := α) a).lookup n = none := by intro _; rfl) :
    EvR K W (tMethS C n (spG K f) (WE W) te t) Γ (do let a ← m; mk fun i => lft (f (a, i))) := fun x σ G H b Q E s B h' =>
  step_E (te := te) h E s B h' fun a b' v G' H' h3 e E2 s2 B2 r => by
    subst hC
    have r0 := r
    rw [InsOf.eq] at r
    obtain ⟨p, dx, vs, rfl, hp, rf⟩ := rep_ins r
    exact ⟨p, dx, vs, rfl, s2 _ _ hp, lookup_none rf (hn a), h2 γ x σ _ good_E _ G' H' b' _ E2 s2 B2 h3 fun i b3 ws G3 H3 h4 e3 E3 s3 B3 rs => spG_of (i := (a, i)) s3 B3 (.cons (r0.ext e3.g) rs) h4⟩
/-- x op y of an own class, by its def -/
theorem om_own {c : Str} [InsOf α c] {C : Addr} (hC : He.ga K c = C) {f : α × β × Unit → Res γ} (hb : ∀ G H v b, Same G H → Rep K G v (d (b : β)) → (∃ i, v = .int i) ∨ ∃ p dy gs, v = .ref p ∧ H p = some (.ins C dy gs)) :
    OpM K (rOwnL C (spG K f) E0) (fun (a : α) (b : β) => strict (lft (f (a, b, ())))) := fun W x σ G H b Q a c' v w s B ra rc h => by
  have r0 := ra
  rw [InsOf.eq] at ra
  obtain ⟨p, dx, vs, rfl, hp, rf⟩ := rep_ins ra
  rw [hC] at hp
  refine ⟨p, dx, vs, rfl, s _ _ hp, hb G H w c' s rc, ?_⟩
  have h2 := strict_E h
  have h3 := spG_of (i := (a, c', ())) s B (.cons r0 (.cons rc .nil)) h2
  exact h3
theorem um_own {c : Str} [InsOf α c] {C : Addr} (hC : He.ga K c = C) {f : α × Unit → Res γ} : UnM K (rOwnU C (spG K f) E0) (fun (a : α) => strict (lft (f (a, ())))) := fun W x σ G H b Q a v s B ra h => by
  have r0 := ra
  rw [InsOf.eq] at ra
  obtain ⟨p, dx, vs, rfl, hp, rf⟩ := rep_ins ra
  rw [hC] at hp
  refine ⟨p, dx, vs, rfl, s _ _ hp, ?_⟩
  exact spG_of (i := (a, ())) s B (.cons r0 .nil) (strict_E h)
theorem cm_strOwn {c : Str} [InsOf α c] {C : Addr} (hC : He.ga K c = C) {f : α × Unit → Res Str} : CallM K (rStrOwn C (spG K f) E0) (fun (i : α × Unit) => strict (lft (f i))) := fun W x σ G H b Q i vs s B rs h => by
  obtain ⟨a, u⟩ := i
  obtain ⟨v, rfl, ra⟩ := reps1 rs
  have r0 := ra
  rw [InsOf.eq] at ra
  obtain ⟨p, dx, ws, rfl, hp, rf⟩ := rep_ins ra
  rw [hC] at hp
  refine ⟨p, dx, ws, rfl, s _ _ hp, (a, ()), G, s, .cons r0 .nil, ?_⟩
  have h2 := strict_E h
  unfold lft at h2
  cases e : f (a, ()) with
  | ok z => rw [e] at h2; exact fun v G' H' e1 r => ⟨z, rep_str r, by rw [rep_str r]; exact h2 (.str z) G' H' e1.box (B.none_ex e1) (.str z)⟩
  | err c fs => rw [e] at h2; exact fun dd G' H' e1 r => h2 dd G' H' e1.box (B.none_ex e1) r
  | stuck => rw [e] at h2; exact h2

/-! ### an instance is made -/
def FinI (K : PySem.W.Frag) (C dx a : Addr) (G H : Hp) (Q : VK) (E : XK) : Res (List (Str × D)) → Prop
  | .ok fs => ∀ G' H' gs, Ex none G (off H a) G' (off H' a) → H' a = some (.ins C dx gs) → RepF K G' gs fs → Q .non H'
  | .err c fs => ∀ dd G' H', Ex none G (off H a) G' H' → RepX K G' dd fs → E (.ref (He.ga K c)) dd H'
  | .stuck => False
/-- __init__ of the class at C on an instance with the fields fs0: f tells the fields behind it -/
def spI {ι : Type} [ToDs ι] (K : PySem.W.Frag) (C : Addr) (fs0 : List (Str × D)) (f : ι → Res (List (Str × D))) : Sp := fun vs H Q E => ∃ a dx gs0 ws i G, vs = .ref a :: ws ∧ H a = some (.ins C dx gs0) ∧ RepF K G gs0 fs0 ∧ G a = none ∧ Same G H ∧ Reps K G ws (ds i) ∧
  FinI K C dx a G H Q E (f i)
theorem off_upd {H : Hp} {a : Addr} {o : HO} (h : H a = none) : off (upd H a o) a = H := by
  funext p
  unfold off
  by_cases e : p = a
  · rw [if_pos e, e, h]
  · rw [if_neg e, upd_ne e]
theorem ev_make {c : Str} {C : Addr} (hC : He.ga K c = C) {ι : Type} [ToDs ι] {t : TA} {mk : ∀ {θ : Type}, (ι → M θ) → M θ} {g : ι → Res α} (h : EvC K W t Γ mk) {dvs : List V} {κ : Type} [ToDs κ] {fk : κ → Res (List (Str × D))} (j : ι → κ)
    (hj : ∀ G vs i, Reps K G vs (ds i) → Reps K G (vs ++ dvs) (ds (j i))) (hf : ∀ i, match fk (j i), g i with | .ok fs, .ok a => d a = .ins c fs | .err c fs, r => r = .err c fs | _, r => r = .stuck) :
    EvR K W (tMakeS C (spI K C [] fk) dvs (WE W) t) Γ (mk fun i => lft (g i)) := fun x σ G H b Q E s B h' =>
  h α x σ _ good_E _ G H b _ E s B h' fun i b' vs G' H' h2 e E2 s2 B2 rs y dx hy hdx ne => by
    subst hC
    have gy : G' y = none := s2.free hy
    have hy' : (upd H' dx (.own y)) y = none := by rw [upd_ne ne.symm]; exact hy
    have sU : Same G' (upd (upd H' dx (.own y)) y (.ins (He.ga K c) dx [])) := fun q o hq => by
      rw [upd_ne (fun z => by rw [z, gy] at hq; cases hq), upd_ne (fun z => by rw [z, s2.free hdx] at hq; cases hq)]
      exact s2 _ _ hq
    refine ⟨y, dx, [], vs ++ dvs, j i, G', rfl, upd_same, .nil, gy, sU, hj _ _ _ rs, ?_⟩
    have hfi := hf i
    have xy : x ≠ some y := fun z => by have := (B2 y z).2; rw [hy] at this; cases this
    have xdx : x ≠ some dx := fun z => by have := (B2 dx z).2; rw [hdx] at this; cases this
    have keep : ∀ {G3 H3 : Hp}, Ex none G' (off (upd (upd H' dx (.own y)) y (.ins (He.ga K c) dx [])) y) G3 (off H3 y) → (∀ p o, H' p = some o → H3 p = some o) ∧ (∀ p o, H' p = some o → G' p = none → G3 p = none) ∧ G3 y = none := fun {G3 H3} e3 => by
      rw [off_upd hy'] at e3
      have hk : ∀ p o, H' p = some o → off H3 y p = some o := fun p o hp => e3.keep p o (by simp) (by rw [upd_ne (fun z => by rw [z, hdx] at hp; cases hp)]; exact hp)
      refine ⟨fun p o hp => ?_, fun p o hp hg => e3.uns p o (by simp) (by rw [upd_ne (fun z => by rw [z, hdx] at hp; cases hp)]; exact hp) hg, ?_⟩
      · have := hk p o hp
        unfold off at this
        by_cases z : p = y
        · rw [if_pos z] at this; cases this
        · rw [if_neg z] at this; exact this
      · cases q : G3 y with
        | none => rfl
        | some o =>
          have := e3.gh y o q
          unfold off at this
          rw [if_pos rfl] at this
          cases this
    cases q : fk (j i) with
    | stuck =>
      rw [q] at hfi
      dsimp only at hfi
      unfold lft at h2
      rw [hfi] at h2
      exact h2
    | err cc fs =>
      rw [q] at hfi
      dsimp only at hfi
      unfold lft at h2
      rw [hfi] at h2
      intro dd G3 H3 e3 rx
      rw [off_upd hy'] at e3
      have k1 : ∀ p o, H' p = some o → H3 p = some o := fun p o hp => e3.keep p o (by simp) (by rw [upd_ne (fun z => by rw [z, hdx] at hp; cases hp)]; exact hp)
      have k2 : ∀ p o, H' p = some o → G' p = none → G3 p = none := fun p o hp hg => e3.uns p o (by simp) (by rw [upd_ne (fun z => by rw [z, hdx] at hp; cases hp)]; exact hp) hg
      refine h2 dd G3 H3 ⟨e3.g, e3.gh, fun p o _ hp => k1 p o hp, fun p o _ hp hg => k2 p o hp hg⟩ (fun p hp => ?_) rx
      obtain ⟨c1, c2⟩ := B2 p hp
      exact ⟨k2 p _ c2 c1, k1 p _ c2⟩
    | ok fs =>
      rw [q] at hfi
      unfold lft at h2
      cases q2 : g i with
      | stuck => rw [q2] at h2; exact False.elim h2
      | err cc fs2 => rw [q2] at hfi; cases hfi
      | ok a =>
        rw [q2] at hfi h2
        dsimp only at hfi
        intro G3 H3 gs e3 hH3 rf
        obtain ⟨k1, k2, k3⟩ := keep e3
        refine ⟨rfl, h2 (.ref y) (upd G3 y (.ins (He.ga K c) dx gs)) H3 ⟨e3.g.trans (upS k3), fun p o hp => ?_, fun p o _ hp => k1 p o hp, fun p o _ hp hg => ?_⟩ (fun p hp => ?_) ?_⟩
        · by_cases z : p = y
          · subst z; rw [upd_same] at hp; cases hp; exact hH3
          · rw [upd_ne z] at hp
            have := e3.gh p o hp
            unfold off at this
            rw [if_neg z] at this
            exact this
        · rw [upd_ne (fun z => by rw [z, hy] at hp; cases hp)]
          exact k2 p o hp hg
        · obtain ⟨c1, c2⟩ := B2 p hp
          refine ⟨?_, k1 p _ c2⟩
          rw [upd_ne (fun z => by rw [z, hy] at c2; cases c2)]
          exact k2 p _ c2 c1
        · rw [hfi]
          exact .ins upd_same (rf.ext (upS k3))

/-! ### within __init__: self -/
def putD (f : Str) (v : D) : List (Str × D) → List (Str × D)
  | [] => [(f, v)]
  | (g, x) :: r => if g = f then (g, v) :: r else (g, x) :: putD f v r
theorem RepF.put {G : Hp} {f : Str} {v : V} {dd : D} (r : Rep K G v dd) : ∀ {vs : List (Str × V)} {fs : List (Str × D)}, RepF K G vs fs → RepF K G (putF f v vs) (putD f dd fs)
  | _, _, .nil => .cons r .nil
  | _, _, .cons (n := n) h t => by
    show RepF K G (if n = f then _ else _) (if n = f then _ else _)
    by_cases z : n = f
    · rw [if_pos z, if_pos z]; exact .cons r t
    · rw [if_neg z, if_neg z]; exact .cons h (RepF.put r t)
theorem RepF.length {G : Hp} : ∀ {vs : List (Str × V)} {fs : List (Str × D)}, RepF K G vs fs → vs.length = fs.length
  | _, _, .nil => rfl
  | _, _, .cons _ t => by rw [List.length_cons, List.length_cons, t.length]
/-- an unsettled thing of slot i is put anew -/
theorem Env.mut {x : Option Addr} {σ : L2.St} {G H : Hp} (E : Env K x σ Γ G H) {i : Nat} {p : Addr} {s s' : Sl} {o : HO} (h : Γ[i]? = some s) (hs : s.isOwn = true) (hσ : σ[i]? = some (some (.ref p))) (hs' : s'.isOwn = true)
    (ho : SlOk K x G (upd H p o) (some (.ref p)) s') : Env K x σ (Γ.set i s') G (upd H p o) := by
  have li : i < Γ.length := (List.getElem?_eq_some_iff.mp h).1
  refine ⟨by rw [List.length_set, E.len], fun j t ov h1 h2 => ?_, fun j k q t u ne h1 h2 o1 o2 e1 e2 => ?_, fun j q t h1 o1 e1 => ?_⟩
  · by_cases z : i = j
    · subst z
      rw [List.getElem?_set_self li] at h1
      cases h1
      rw [hσ] at h2
      cases h2
      exact ho
    · rw [List.getElem?_set_ne z] at h1
      have h3 := E.at_ j t ov h1 h2
      have other : ∀ q, t.isOwn = true → ov = some (.ref q) → q ≠ p := fun q ht hq e => E.dis i j p s t z h h1 hs ht hσ (by rw [h2, hq, e])
      cases t with
      | any => trivial
      | val dd => exact h3
      | own ds =>
        obtain ⟨q, xs, a, b, c, r⟩ := h3
        exact ⟨q, xs, a, b, by rw [upd_ne (other q rfl a)]; exact c, r⟩
      | box => exact h3
      | slf q dx c fs =>
        obtain ⟨vs, a, b, c, r⟩ := h3
        exact ⟨vs, a, b, by rw [upd_ne (other q rfl a)]; exact c, r⟩
      | exc a dd c fs => exact h3
      | fix v => exact h3
      | dct kvs =>
        obtain ⟨q, ks, a, b, c, r⟩ := h3
        exact ⟨q, ks, a, b, by rw [upd_ne (other q rfl a)]; exact c, r⟩
  · have old : ∀ {l : Nat} {t : Sl}, (Γ.set i s')[l]? = some t → t.isOwn = true → ∃ t', Γ[l]? = some t' ∧ t'.isOwn = true := fun {l t} h1 o1 => by
      by_cases z : i = l
      · subst z; exact ⟨s, h, hs⟩
      · rw [List.getElem?_set_ne z] at h1; exact ⟨t, h1, o1⟩
    obtain ⟨t', g1, p1⟩ := old h1 o1
    obtain ⟨u', g2, p2⟩ := old h2 o2
    exact E.dis j k q t' u' ne g1 g2 p1 p2 e1 e2
  · by_cases z : i = j
    · subst z; exact E.xne i q s h hs e1
    · rw [List.getElem?_set_ne z] at h1; exact E.xne j q t h1 o1 e1
theorem Fr.mut {σ : L2.St} {H0 : Hp} (F : Fr σ Γ H0) {i : Nat} {s s' : Sl} (h : Γ[i]? = some s) (hs : s.isOwn = true) : Fr σ (Γ.set i s') H0 := fun j p t h1 o1 e1 => by
  by_cases z : i = j
  · subst z; exact F i p s h hs e1
  · rw [List.getElem?_set_ne z] at h1; exact F j p t h1 o1 e1
/-- the heaps behind such a change -/
theorem Pt.mut {x : Option Addr} {G0 H0 Gs G H : Hp} {p : Addr} {o : HO} (e : Pt x G0 H0 Gs G H) (gp : G p = none) (h0 : H0 p = none) (s : Same G H) : Pt x G0 H0 Gs G (upd H p o) ∧ Same G (upd H p o) := by
  have sU : Same G (upd H p o) := fun q u hq => by rw [upd_ne (fun z => by rw [z, gp] at hq; cases hq)]; exact s _ _ hq
  refine ⟨⟨⟨e.ex.g, sU, fun q u nx hq => ?_, fun q u nx hq hg => e.ex.uns q u nx hq hg⟩, e.gs⟩, sU⟩
  rw [upd_ne (fun z => by rw [z, h0] at hq; cases hq)]
  exact e.ex.keep q u nx hq
theorem putD_lt {n : Nat} {f : Str} {v : D} {fs : List (Str × D)} (h : fs.length < n) : (putD f v fs).length < n + 1 := by
  have : ∀ fs : List (Str × D), (putD f v fs).length ≤ fs.length + 1 := fun fs => by
    induction fs with
    | nil => exact Nat.le_refl _
    | cons q t ih =>
      obtain ⟨g, x⟩ := q
      show (if g = f then (g, v) :: t else (g, x) :: putD f v t).length ≤ _
      split
      · simp
      · simp only [List.length_cons]; omega
  have := this fs
  omega
theorem rd_sfld {i : Nat} {c f : Str} {p dx : Addr} {fs : List (Str × D)} {m : M α} {k : α → M ω} (cl : Cls K (He.ga K c)) (na : NoAttr K (He.ga K c) f) (h : EvR K W te Γ m)
    (hr : ∀ a, Rd K W P rest (Γ.set i (.slf p dx c (putD f (d a) fs))) (k a)) (hΓ : Γ[i]? = some (.slf p dx c fs) := by rfl) (hl : fs.length < 1000 := by repeat' (first | decide | refine putD_lt ?_)) : Rd K W P (tSeq (sFld K (tVar i) te f) rest) Γ (m >>= k) := fun x σ G0 H0 Gs G H b L E F s B e hf =>
  go (te := te) good_S h E s B (f := k) ⟨e, hf⟩ fun a b' v G' H' h2 e2 E2 s2 B2 r => by
    obtain ⟨o, h1, vs, rfl, gp, hp, rf⟩ := E2.get hΓ
    have xp : x ≠ some p := E2.xne i p _ hΓ rfl h1
    have h0 : H0 p = none := F i p _ hΓ rfl h1
    obtain ⟨p3, s3⟩ := h2.1.mut (o := .ins (He.ga K c) dx (putF f v vs)) gp h0 s2
    refine ⟨_, h1, p, _, dx, vs, rfl, hp, cl, na, by rw [rf.length]; exact hl, ?_⟩
    refine hr a x σ G0 H0 Gs G' _ b' L (E2.mut hΓ rfl h1 rfl ⟨putF f v vs, rfl, gp, upd_same, rf.put r⟩) (F.mut hΓ rfl) s3 (fun q hq => ?_) p3 h2.2
    obtain ⟨c1, c2⟩ := B2 q hq
    exact ⟨c1, by rw [upd_ne (fun z => xp (by rw [← z]; exact hq))]; exact c2⟩
/-- __init__'s end -/
def PIn (K : PySem.W.Frag) (p dx : Addr) (c : Str) (n : Nat) : Post (List (Str × D)) := fun fs L x H0 G H => ∀ σ', Env K x σ' (.slf p dx c fs :: List.replicate n .any) G H → L.nx σ' H
theorem rd_ini {p dx : Addr} {c : Str} {fs : List (Str × D)} {n : Nat} (w : Wk Γ (.slf p dx c fs :: List.replicate n .any)) : Rd K W (PIn K p dx c n) tNext Γ (pure fs) := fun x σ G0 H0 Gs G H b L E F s B e hf => hf G H e B σ (E.wk w)
theorem rd_nil {m : M ω} (h : Rd K W P (tSeq ts tNext) Γ m) : Rd K W P ts Γ m := h
end
end N

set_option Elab.async false
set_option linter.all false
set_option maxRecDepth 100000
set_option maxHeartbeats 4000000
/-! N6: __init__'s defs, raise, try, own lists. -/
namespace N
open PySem PySem.Spec PyProof.Rows L2 J
open ToD (d)
open ToDs (ds)
open M

section
variable {ω : Type} {α β γ S : Type} [ToD α] [ToD β] [ToD γ] {K : PySem.W.Frag} {W : WX} {P : Post ω} {te ta tb : TE} {Γ : List Sl} {ts rest : TS}
/-! ### __init__ as a def -/
theorem Env.cons {x : Option Addr} {σ : L2.St} {G H : Hp} {p : Addr} {s : Sl} (E : Env K x σ Γ G H) (h : SlOk K x G H (some (.ref p)) s) (hn : ∀ t ∈ Γ, t.isOwn = false) (hx : x ≠ some p) : Env K x (some (.ref p) :: σ) (s :: Γ) G H := by
  refine ⟨by rw [List.length_cons, List.length_cons, E.len], fun i t o h1 h2 => ?_, fun i j q t u ne h1 h2 o1 o2 e1 e2 => ?_, fun i q t h1 o1 e1 => ?_⟩
  · cases i with
    | zero => simp at h1 h2; subst h1; subst h2; exact h
    | succ i => exact E.at_ i t o (by simpa using h1) (by simpa using h2)
  · have own : ∀ {l : Nat} {t : Sl}, (s :: Γ)[l]? = some t → t.isOwn = true → l = 0 := fun {l t} h1 o1 => by
      cases l with
      | zero => rfl
      | succ l =>
        have := hn t (List.mem_of_getElem? (show Γ[l]? = some t by simpa using h1))
        rw [this] at o1; cases o1
    exact ne ((own h1 o1).trans (own h2 o2).symm)
  · cases i with
    | zero => simp at e1; subst e1; exact hx
    | succ i =>
      have := hn t (List.mem_of_getElem? (show Γ[i]? = some t by simpa using h1))
      rw [this] at o1; cases o1
theorem slots_no {ds : List D} {n : Nat} : ∀ t ∈ slots ds n, t.isOwn = false := fun t ht => by
  rcases List.mem_append.mp ht with z | z
  · obtain ⟨a, _, rfl⟩ := List.mem_map.mp z; rfl
  · rw [List.eq_of_mem_replicate z]; rfl
theorem fn_ini {ι : Type} [ToDs ι] {c : Str} {C : Addr} (hC : He.ga K c = C) {fs0 : List (Str × D)} {ts : TS} {N : List Str} {f : ι → Res (List (Str × D))} {mb : ι → M (List (Str × D))} {n n2 : Nat} {H : Hp} {vs : List V} {Q : VK} {E : XK} {x0 : Str}
    (h : spI K C fs0 f vs H Q E) (hm : ∀ i, f i = M.run (mb i)) (hn : ∀ i : ι, N.length - (ds i).length = n) (hn2 : n2 = N.length)
    (hb : ∀ a dx i, Rd K (WE1 E) (PIn K a dx c n2) ts (.slf a dx c fs0 :: slots (ds i) n) (mb i)) : ts { nx := fun _ H' => Q .non H', rt := Q } (L2.start (x0 :: N) vs) H := by
  subst hC
  obtain ⟨a, dx, gs0, ws, i, G, rfl, hH, rf0, gA, s, rs, hf⟩ := h
  have hoff : ∀ p o, off H a p = some o → H p = some o ∧ p ≠ a := fun p o hp => by
    unfold off at hp
    by_cases z : p = a
    · rw [if_pos z] at hp; cases hp
    · rw [if_neg z] at hp; exact ⟨hp, z⟩
  have sO : Same G (off H a) := fun p o hp => off_at (s p o hp) (fun z => by rw [z, gA] at hp; cases hp)
  have e0 : Env K none (L2.start (x0 :: N) (.ref a :: ws)) (.slf a dx c fs0 :: slots (ds i) n) G H := by
    have e1 : L2.start (x0 :: N) (.ref a :: ws) = some (.ref a) :: L2.start N ws := by
      unfold L2.start
      simp
    rw [e1]
    exact Env.cons (env_start rs (by rw [rs.length]; exact hn i)) ⟨gs0, rfl, gA, hH, rf0⟩ slots_no (by simp)
  have fr : Fr (L2.start (x0 :: N) (.ref a :: ws)) (.slf a dx c fs0 :: slots (ds i) n) (off H a) := fun j p t h1 o1 e1 => by
    cases j with
    | zero =>
      simp [L2.start] at e1
      subst e1
      exact off_self
    | succ j =>
      have := slots_no t (List.mem_of_getElem? (show (slots (ds i) n)[j]? = some t by simpa using h1))
      rw [this] at o1; cases o1
  refine hb a dx i none _ G (off H a) G G H (0, 0, 0) _ e0 fr s boxNone ⟨⟨Same.refl _, s, fun p o _ hp => (hoff p o hp).1, fun p o _ hp hg => hg⟩, Same.refl _⟩ ?_
  rw [hm] at hf
  unfold M.run at hf
  have same_off : ∀ {G' H' : Hp}, Pt none G (off H a) G G' H' → G' a = none → Ex none G (off H a) G' (off H' a) := fun {G' H'} p' gA' =>
    ⟨p'.ex.g, fun p o hp => off_at (p'.ex.gh p o hp) (fun z => by rw [z, gA'] at hp; cases hp), fun p o nx hp => off_at (p'.ex.keep p o nx hp) (hoff p o hp).2, fun p o nx hp hg => p'.ex.uns p o nx hp hg⟩
  cases q : mb i (0, 0, 0) with
  | mk b' r =>
    rw [q] at hf
    cases r with
    | stuck => exact hf
    | ok fs =>
      exact fun G' H' p' _ σ' E' => by
        obtain ⟨o, h1, vs, _, gA', hA, rf⟩ := E'.get (i := 0) rfl
        exact hf G' H' vs (same_off p' gA') hA rf
    | err cc fs => exact fun σ' dd G' H' p' _ rx => hf dd G' H' p'.ex rx

/-! ### raise -/
theorem exo_gone {H : Hp} {a dd C : Addr} {e0 e1 e2 o : HO} (ha : H a = none) (hda : dd ≠ a) : upd (del (upd (upd (upd H a e0) dd e1) a e2) a) dd o = upd H dd o := by
  funext p
  by_cases z : p = dd
  · rw [z, upd_same, upd_same]
  · rw [upd_ne z, upd_ne z]
    by_cases y : p = a
    · rw [y, del_same, ha]
    · rw [del_ne y, upd_ne y, upd_ne z, upd_ne y]
theorem rd_raise {c fld : Str} {C : Addr} (hC : He.ga K c = C) {m : M α} {P : Post ω} (h : EvR K W te Γ m) :
    Rd K W P (tSeq (fun _ σ H => tMkO C (spErr K C fld) [] (tCons te tNil) σ H fun cls dd H' => W cls dd σ H') rest) Γ (do let a ← m; M.raise c [(fld, d a)]) := fun x σ G0 H0 Gs G H b L E F s B e hf =>
  go (te := te) good_S h E s B (f := fun a => M.raise c [(fld, d a)]) ⟨e, hf⟩ fun a b' v G' H' h2 e2 E2 s2 B2 r => by
    subst hC
    refine ⟨by show 1 ≤ 1000; decide, fun q hq => ⟨q, v, rfl, upd_same, fun dd hdd hda => ⟨rfl, dd, _, upd_same, by rw [upd_ne hda, upd_same], ?_, ?_⟩⟩⟩
    · rw [upd_ne hda] at hdd; exact hdd
    · rw [upd_ne hda] at hdd
      rw [exo_gone (C := dd) hq hda]
      exact h2.2 σ (some dd) _ _ (h2.1.step (Ex.new s2 hdd)) (B2.new hdd) (.inr ⟨dd, _, rfl, upd_same, .cons (r.ext (upS (s2.free hdd))) .nil, by simp⟩)
theorem rd_raise0 {c : Str} {C : Addr} (hC : He.ga K c = C) {P : Post ω} : Rd K W P (tSeq (fun _ σ H => W (.ref C) none σ H) rest) Γ (M.raise c []) := fun x σ G0 H0 Gs G H b L E F s B e hf => by
  subst hC
  exact hf σ none G H e B (.inl ⟨rfl, rfl⟩)
theorem rd_rets {m : M α} (h : EvR K W te Γ m) : Rd K W (PRet K) (tSeq (tRet te) rest) Γ m := fun x σ G0 H0 Gs G H b L E F s B e hf => by
  refine h x σ G H b _ E s B ?_
  cases q : m b with
  | mk b' r =>
    rw [q] at hf
    cases r with
    | ok a => exact fun v G' H' e2 B2 r => hf G' H' (e.step e2) B2 v r
    | err c fs => exact fun dd G' H' e2 B2 r => hf σ dd G' H' (e.step e2) B2 r
    | stuck => exact hf
theorem rd_retks {P : Post ω} {m : M α} {rk : α → ω} (hP : RetOk K P rk) (h : EvR K W te Γ m) : Rd K W P (tSeq (tRet te) rest) Γ (do let a ← m; pure (rk a)) := fun x σ G0 H0 Gs G H b L E F s B e hf =>
  go (te := te) good_S h E s B (f := fun a => pure (rk a)) ⟨e, hf⟩ fun a b' v G' H' h2 e2 E2 s2 B2 r => hP _ _ _ _ _ _ (h2.2 G' H' h2.1 B2) v r

/-! ### try: x = e; except C as n: return e2 -/
/-- what is caught is named; anything else must not come -/
def tryM {α β : Type} (cs : List Str) (m : M α) (k : α → M β) (h : Str → List (Str × D) → M β) : M β := fun b => match m b with
  | (b', .ok a) => k a b'
  | (b', .err c fs) => if c ∈ cs then h c fs b' else (b', .stuck)
  | (b', .stuck) => (b', .stuck)
theorem Env.exc {x : Option Addr} {σ : L2.St} {G H : Hp} (E : Env K x σ Γ G H) {i : Nat} {a : Addr} {dd : Option Addr} {c : Str} {fs : List (Str × D)} (r : RepX K G dd fs) : Env K x (σ.set i (some (.ref a))) (Γ.set i (.exc a dd c fs)) G H := E.set ⟨rfl, r⟩ rfl
/-- the suite is one return -/
theorem suite_ret {ρ : Type} [ToD ρ] {P : Post ω} {rk : ρ → ω} {i : Nat} {c : Str} {C : Value} {ts : Addr → Value → Option Addr → TE} {cs : List Str} {x : Option Addr} {σ : L2.St} {G0 H0 Gs G H : Hp} {L L2 : Ends} (hL : L2.rt = L.rt) (hP : RetOk K P rk) {Wo W : WX}
    (hx : ∀ c ∈ cs, PySem.W.exmOne K (.ref (He.ga K c)) C = some true) {mh : Str → List (Str × D) → M ρ}
    (hs : ∀ a dd c' fs, c' ∈ cs → EvR K WF (ts a (.ref (He.ga K c')) dd) (Γ.set i (.exc a dd c' fs)) (mh c' fs)) (E : Env K x σ Γ G H) (s : Same G H) (e : Pt x G0 H0 Gs G H)
    {b' : Bx} {c' : Str} {fs : List (Str × D)} (hf : FinS K W P x G0 H0 Gs L ((if c' ∈ cs then (do let v ← strict (mh c' fs); pure (rk v)) else M.stuck : M ω) b')) (dd : Option Addr) (G' H' : Hp) (e1 : Ex x G H G' H') (B1 : BoxSt x G' H' b') (rx : RepX K G' dd fs) :
    wAs K C i (fun a cls d => tRet (ts a cls d)) Wo L2 (.ref (He.ga K c')) dd σ H' := by
  by_cases hc : c' ∈ cs
  · rw [if_pos hc] at hf
    refine ⟨true, hx c' hc, fun _ a na => ?_, fun z => Bool.noConfusion z⟩
    have hf2 : FinS K W P x G0 H0 Gs L ((strict (mh c' fs) >>= fun v => pure (rk v)) b') := hf
    rw [M.bind_def] at hf2
    refine hs a dd c' fs hc x _ G' H' b' _ ((E.ext e1).exc rx) e1.gh B1 ?_
    unfold strict at hf2
    cases q : mh c' fs b' with
    | mk b3 r =>
      rw [q] at hf2
      cases r with
      | ok w =>
        intro v G3 H3 e3 B3 r3
        show L2.rt v H3
        rw [hL]
        exact hP w L x H0 G3 H3 (hf2 G3 H3 ((e.step e1).step e3) B3) v r3
      | err _ _ => exact False.elim hf2
      | stuck => exact hf2
  · rw [if_neg hc] at hf
    exact False.elim hf
theorem rd_try_set {ρ : Type} [ToD ρ] {P : Post ω} {rk : ρ → ω} (hP : RetOk K P rk) {i j : Nat} {C : Value} {tb : WX → TE} {ts : Addr → Value → Option Addr → TE} {cs : List Str} (hx : ∀ c ∈ cs, PySem.W.exmOne K (.ref (He.ga K c)) C = some true)
    {m : M α} {k : α → M ω} {mh : Str → List (Str × D) → M ρ} (h : ∀ W', EvR K W' (tb W') Γ m) (hs : ∀ a dd c' fs, c' ∈ cs → EvR K WF (ts a (.ref (He.ga K c')) dd) (Γ.set i (.exc a dd c' fs)) (mh c' fs))
    (hr : ∀ a, Rd K W P rest (Γ.set j (.val (d a))) (k a)) :
    Rd K W P (tSeq (fun L σ H => tAsg (tb (wAs K C i (fun a cls d => tRet (ts a cls d)) W L)) (gName j) L σ H) rest) Γ (tryM cs m k fun c fs => do let v ← strict (mh c fs); pure (rk v)) := fun x σ G0 H0 Gs G H b L E F s B e hf => by
  refine h _ x σ G H b _ E s B ?_
  unfold tryM at hf
  cases q : m b with
  | mk b' r =>
    rw [q] at hf
    cases r with
    | stuck => exact hf
    | ok a => exact fun v G' H' e1 B1 r1 => hr a x _ G0 H0 Gs G' H' b' L ((E.ext e1).setVal r1) (F.set rfl) e1.gh B1 (e.step e1) hf
    | err c' fs => exact fun dd G' H' e1 B1 rx => suite_ret (W := W) (c := c') (L := L) rfl hP hx hs E s e (by
        by_cases hc : c' ∈ cs
        · rw [if_pos hc]
          dsimp only at hf
          rw [if_pos hc] at hf
          revert hf
          generalize ((strict (mh c' fs) >>= fun v => pure (rk v)) b') = z
          intro hf
          exact hf
        · dsimp only at hf
          rw [if_neg hc] at hf
          exact False.elim hf) dd G' H' e1 B1 rx
end
end N

set_option Elab.async false
set_option linter.all false
set_option maxRecDepth 100000
set_option maxHeartbeats 4000000
/-! N7: texts, lists, equality of data, isinstance, repr, own lists. -/
namespace N
open PySem PySem.Spec PyProof.Rows L2 J
open ToD (d)
open ToDs (ds)
open M

/-! ### plain data -/
mutual
def pyD : D → Option PyData
  | .non => some .none
  | .bl b => some (.bool b)
  | .int i => some (.int i)
  | .str s => some (.str s)
  | .tup xs => (pyDs xs).map .tuple
  | .tupN xs => (pyDs xs).map .tuple
  | .lst xs => (pyDs xs).map .list
  | _ => none
def pyDs : List D → Option (List PyData)
  | [] => some []
  | x :: r => match pyD x, pyDs r with
    | some a, some b => some (a :: b)
    | _, _ => none
end
mutual
theorem rep_dp {K : PySem.W.Frag} {G H : Hp} (s : Same G H) : ∀ {v : V} {x : D} {p : PyData}, Rep K G v x → pyD x = some p → Dp K H v p
  | _, _, _, .non, e => by cases e; exact .non
  | _, _, _, .bl b, e => by cases e; exact .bl b
  | _, _, _, .int i, e => by cases e; exact .int i
  | _, _, _, .str z, e => by cases e; exact .str z
  | _, _, _, .tup (ds := xs) h r, e => by
    unfold pyD at e
    cases q : pyDs xs with
    | none => rw [q] at e; cases e
    | some ys => rw [q] at e; cases e; exact .tup (sqT_H s h) (reps_dp s r q)
  | _, _, _, @Rep.tupN _ _ _ _ _ xs h z r, e => by
    unfold pyD at e
    cases q : pyDs xs with
    | none => rw [q] at e; cases e
    | some ys => rw [q] at e; cases e; exact .tup (.inl (.inr ⟨_, s _ _ h⟩)) (reps_dp s r q)
  | _, _, _, .lst (ds := xs) h r, e => by
    unfold pyD at e
    cases q : pyDs xs with
    | none => rw [q] at e; cases e
    | some ys => rw [q] at e; cases e; exact .lst (SqL.of (s _ _ h)) (reps_dp s r q)
  | _, _, _, .ins h r, e => by unfold pyD at e; cases e
  | _, _, _, .dic h r, e => by unfold pyD at e; cases e
  | _, _, _, .dicF h r, e => by unfold pyD at e; cases e
theorem reps_dp {K : PySem.W.Frag} {G H : Hp} (s : Same G H) : ∀ {vs : List V} {xs : List D} {ps : List PyData}, Reps K G vs xs → pyDs xs = some ps → DpAll K H vs ps
  | _, _, _, .nil, e => by unfold pyDs at e; cases e; exact .nil
  | _, _, _, .cons (d := x) (ds := r) h t, e => by
    unfold pyDs at e
    cases q : pyD x with
    | none => rw [q] at e; cases e
    | some a =>
      cases q2 : pyDs r with
      | none => rw [q, q2] at e; cases e
      | some b => rw [q, q2] at e; cases e; exact .cons (rep_dp s h q) (reps_dp s t q2)
end
/-- == of plain data -/
noncomputable def eqD (a b : D) : M Bool := match pyD a, pyD b with
  | some p, some q => do
    need (SeqAt.shaped p = true ∧ SeqAt.shaped q = true)
    pure (PyData.eqv p q)
  | _, _ => M.stuck
noncomputable def neD (a b : D) : M Bool := match pyD a, pyD b with
  | some p, some q => do
    need (SeqAt.shaped p = true ∧ SeqAt.shaped q = true)
    pure (!PyData.eqv p q)
  | _, _ => M.stuck
section
variable {ω : Type} {α β γ S : Type} [ToD α] [ToD β] [ToD γ] {K : PySem.W.Frag} {W : WX} {P : Post ω} {te ta tb : TE} {Γ : List Sl} {ts rest : TS}
theorem om_eqD : OpM K (rEqD K) (fun (a : α) (b : β) => eqD (d a) (d b)) := fun W x σ G H b Q a c v w s B ra rc h => by
  dsimp only at h
  unfold eqD at h
  cases q : pyD (d a) with
  | none => rw [q] at h; exact False.elim h
  | some p =>
    cases q2 : pyD (d c) with
    | none => rw [q, q2] at h; exact False.elim h
    | some p2 =>
      rw [q, q2] at h
      obtain ⟨⟨h1, h2⟩, h3⟩ := need_fin h
      exact ⟨p, p2, rep_dp s ra q, rep_dp s rc q2, h1, h2, h3.here s B (.bl _)⟩
theorem om_neD : OpM K (rNeD K) (fun (a : α) (b : β) => neD (d a) (d b)) := fun W x σ G H b Q a c v w s B ra rc h => by
  dsimp only at h
  unfold neD at h
  cases q : pyD (d a) with
  | none => rw [q] at h; exact False.elim h
  | some p =>
    cases q2 : pyD (d c) with
    | none => rw [q, q2] at h; exact False.elim h
    | some p2 =>
      rw [q, q2] at h
      obtain ⟨⟨h1, h2⟩, h3⟩ := need_fin h
      exact ⟨p, p2, rep_dp s ra q, rep_dp s rc q2, h1, h2, h3.here s B (.bl _)⟩
/-- an option: None or a value -/
instance : ToD (Option α) := ⟨fun o => match o with
  | none => .non
  | some a => d a⟩
/-- values that are never None -/
class NotNon (α : Type) [ToD α] : Prop where
  h : ∀ a : α, d a ≠ .non
instance : NotNon Int := ⟨fun _ z => nomatch z⟩
instance : NotNon Str := ⟨fun _ z => nomatch z⟩
instance : NotNon (List α) := ⟨fun _ z => nomatch z⟩
instance : NotNon (α × β) := ⟨fun _ z => nomatch z⟩
instance : NotNon (VT α) := ⟨fun _ z => nomatch z⟩
instance : NotNon (T3 α β γ) := ⟨fun _ z => nomatch z⟩
theorem rep_isN [NotNon α] {G : Hp} {v : V} {o : Option α} (r : Rep K G v (d o)) : decide (v = .non) = o.isNone := by
  cases o with
  | none => cases r; rfl
  | some a =>
    have hn := NotNon.h a
    have r' : Rep K G v (d a) := r
    cases e : d a with
    | non => exact absurd e hn
    | _ => rw [e] at r'; cases r' <;> rfl
theorem om_isN [NotNon α] : OpM K (fun x y H Q => y = .non ∧ Q (.bl (decide (x = .non))) H) (fun (a : Option α) (_ : Unit) => (pure a.isNone : M Bool)) := fun W x σ G H b Q a c v w s B ra rc h => by
  cases rc
  exact ⟨rfl, by rw [rep_isN ra]; exact h.here s B (.bl _)⟩
theorem om_notN [NotNon α] : OpM K (fun x y H Q => y = .non ∧ Q (.bl (!decide (x = .non))) H) (fun (a : Option α) (_ : Unit) => (pure (!a.isNone) : M Bool)) := fun W x σ G H b Q a c v w s B ra rc h => by
  cases rc
  exact ⟨rfl, by rw [rep_isN ra]; exact h.here s B (.bl _)⟩

/-! ### texts -/
/-- one sign -/
structure Ch where
  c : Nat
instance : ToD Ch := ⟨fun a => .str ⟨#[a.c]⟩⟩
def Ch.s (a : Ch) : Str := ⟨#[a.c]⟩
theorem ch_s (a : Ch) : d a = d a.s := rfl
theorem om_addS : OpM K (fun x y H Q => ∃ i j, x = .str i ∧ y = .str j ∧ i.length + j.length ≤ sizeLine ∧ Q (.str (i ++ j)) H) (fun (a b : Str) => (do need (a.length + b.length ≤ sizeLine); pure (a ++ b) : M Str)) := fun W x σ G H b Q a c v w s B ra rc h => by
  cases rep_str ra; cases rep_str rc
  obtain ⟨h1, h2⟩ := need_fin h
  exact ⟨a, c, rfl, rfl, h1, h2.here s B (.str _)⟩
theorem om_inCh : OpM K (fun x y H Q => ∃ (c : Nat) (z : Str), x = .str ⟨#[c]⟩ ∧ y = .str z ∧ Q (.bl (decide (c ∈ z.cps.toList))) H) (fun (a : Ch) (b : Str) => (pure (decide (a.c ∈ b.cps.toList)) : M Bool)) := fun W x σ G H b Q a c v w s B ra rc h => by
  cases ra; cases rep_str rc
  exact ⟨a.c, c, rfl, rfl, h.here s B (.bl _)⟩
theorem om_ninCh : OpM K (fun x y H Q => ∃ (c : Nat) (z : Str), x = .str ⟨#[c]⟩ ∧ y = .str z ∧ Q (.bl (!decide (c ∈ z.cps.toList))) H) (fun (a : Ch) (b : Str) => (pure (!decide (a.c ∈ b.cps.toList)) : M Bool)) := fun W x σ G H b Q a c v w s B ra rc h => by
  cases ra; cases rep_str rc
  exact ⟨a.c, c, rfl, rfl, h.here s B (.bl _)⟩
theorem om_ixS : OpM K rIxS (fun (a : Str) (i : Int) => (do need (a.length ≤ sizeLine); match atI a.cps.toList i with | some c => pure ⟨c⟩ | none => M.stuck : M Ch)) := fun W x σ G H b Q a c v w s B ra rc h => by
  cases rep_str ra; cases rep_int rc
  obtain ⟨h1, h2⟩ := need_fin h
  cases q : atI a.cps.toList c with
  | none => rw [q] at h2; exact False.elim h2
  | some z => rw [q] at h2; exact ⟨a, c, z, rfl, rfl, h1, q, FinE.here (b := b) h2 s B (.str _)⟩
/-- xs[i] -/
def getM (xs : List α) (i : Int) : M α := match atI xs i with
  | some a => pure a
  | none => M.stuck
theorem atI_map {f : α → β} (xs : List α) (i : Int) : atI (xs.map f) i = (atI xs i).map f := by
  unfold atI
  rw [List.length_map]
  cases ixN xs.length i with
  | none => rfl
  | some j => simp
theorem reps_atI {G : Hp} {vs : List V} {xs : List D} {i : Int} {x : D} (r : Reps K G vs xs) (h : atI xs i = some x) : ∃ v, atI vs i = some v ∧ Rep K G v x := by
  unfold atI at h ⊢
  rw [r.length]
  cases q : ixN xs.length i with
  | none => rw [q] at h; cases h
  | some j =>
    rw [q] at h
    exact r.get h
theorem om_ixL : OpM K (rIxL K) (fun (a : List α) (i : Int) => getM a i) := fun W x σ G H b Q a c v w s B ra rc h => by
  obtain ⟨p, vs, rfl, hp, rs⟩ := rep_lst ra
  cases rep_int rc
  dsimp only at h
  unfold getM at h
  cases q : atI a c with
  | none => rw [q] at h; exact False.elim h
  | some z =>
    rw [q] at h
    obtain ⟨u, hu, ru⟩ := reps_atI (x := d z) rs (by rw [atI_map, q]; rfl)
    exact ⟨p, vs, c, u, rfl, rfl, SqL.of (s _ _ hp), hu, FinE.here (b := b) h s B ru⟩
theorem om_ixV : OpM K (rIxT K) (fun (a : VT α) (i : Int) => getM a.l i) := fun W x σ G H b Q a c v w s B ra rc h => by
  obtain ⟨p, vs, rfl, hp, rs⟩ := rep_tup ra
  cases rep_int rc
  dsimp only at h
  unfold getM at h
  cases q : atI a.l c with
  | none => rw [q] at h; exact False.elim h
  | some z =>
    rw [q] at h
    obtain ⟨u, hu, ru⟩ := reps_atI (x := d z) rs (by rw [atI_map, q]; rfl)
    exact ⟨p, vs, c, u, rfl, rfl, sqT_H s hp, hu, FinE.here (b := b) h s B ru⟩
/-- t[0], t[1] of a tuple whose places are typed; j written -/
theorem ev_ixT {τ : Type} [ToD τ] {m : M τ} {j : Nat} {xs : τ → List D} {g : τ → α} (h : EvR K W te Γ m) (hd : ∀ t, d t = .tup (xs t) := by intro _; rfl) (hj : ∀ t, (xs t)[j]? = some (d (g t)) := by intro _; rfl) :
    EvR K W (tOp (rIxT K) te (tC (.int (j : Nat)))) Γ (do let t ← m; pure (g t)) := fun x σ G H b Q E s B h' =>
  step_E (te := te) h E s B h' fun a b' v G' H' h2 e E2 s2 B2 r => by
    rw [hd] at r
    obtain ⟨p, vs, rfl, hp, rs⟩ := rep_tup r
    obtain ⟨u, hu, ru⟩ := rs.get (hj a)
    exact ⟨p, vs, j, u, rfl, rfl, sqT_H s2 hp, atI_nat hu, h2.here s2 B2 ru⟩
/-- slices -/
def EvO (K : PySem.W.Frag) (W : WX) (to : TO) (Γ : List Sl) (m : M (Option Int)) : Prop := ∀ (δ : Type) x σ (F : Hp → Hp → Bx × Res δ → Prop) (_ : Good K W x σ F) (k : Option Int → M δ) G H b (Q : Option Int → Hp → Prop), Env K x σ Γ G H → Same G H → BoxSt x G H b → F G H ((m >>= k) b) →
  (∀ o b' G' H', F G' H' (k o b') → Ex x G H G' H' → Env K x σ Γ G' H' → Same G' H' → BoxSt x G' H' b' → Q o H') → to σ H Q
theorem eo_none : EvO K W tNoPart Γ (pure none) := fun δ x σ F g k G H b Q E s B h kk => kk none b G H h (Ex.refl s) E s B
theorem eo_some {m : M Int} (h : EvR K W te Γ m) : EvO K W (tPart te) Γ (do let i ← m; pure (some i)) := fun δ x σ F g k G H b Q E s B hf kk =>
  go (te := te) g h E s B (f := fun i => k (some i)) (by rw [bind_assoc] at hf; exact hf) fun a b' v G' H' h2 e E2 s2 B2 r => ⟨a, rep_int r, kk (some a) b' G' H' h2 e E2 s2 B2⟩
def SlM (K : PySem.W.Frag) (r : V → Option Int → Option Int → Hp → VK → Prop) (f : α → Option Int → Option Int → M γ) : Prop := ∀ (W : WX) x σ G H b Q a lo hi v, Same G H → BoxSt x G H b → Rep K G v (d a) → FinE K W x σ G H Q (f a lo hi b) → r v lo hi H Q
theorem ev_sl {r : V → Option Int → Option Int → Hp → VK → Prop} {f : α → Option Int → Option Int → M γ} {m : M α} {tl th : TO} {ml mh : M (Option Int)} (hr : SlM K r f) (h : EvR K W te Γ m) (h1 : EvO K W tl Γ ml) (h2 : EvO K W th Γ mh) :
    EvR K W (tSl r te tl th) Γ (do let a ← m; let lo ← ml; let hi ← mh; f a lo hi) := fun x σ G H b Q E s B h' =>
  step_E (te := te) h E s B h' fun a b' v G' H' h3 e E2 s2 B2 ra => h1 γ x σ _ good_E _ G' H' b' _ E2 s2 B2 h3 fun lo b3 G3 H3 h4 e3 E3 s3 B3 => h2 γ x σ _ good_E _ G3 H3 b3 _ E3 s3 B3 h4 fun hi b4 G4 H4 h5 e4 E4 s4 B4 =>
    hr W x σ G4 H4 b4 Q a lo hi v s4 B4 ((ra.ext e3.g).ext e4.g) h5
theorem sm_str : SlM K rSlS (fun (a : Str) lo hi => (do need (a.length ≤ sizeLine); pure (cutS a lo hi) : M Str)) := fun W x σ G H b Q a lo hi v s B ra h => by
  cases rep_str ra
  obtain ⟨h1, h2⟩ := need_fin h
  exact ⟨a, rfl, h1, h2.here s B (.str _)⟩
/-- str methods -/
def MtM1 (r : V → List V → Hp → VK → Prop) (K : PySem.W.Frag) (f : α → β → M γ) : Prop := ∀ (W : WX) x σ G H b Q a c v w, Same G H → BoxSt x G H b → Rep K G v (d a) → Rep K G w (d c) → FinE K W x σ G H Q (f a c b) → r v [w] H Q
theorem ev_m1 {r : V → List V → Hp → VK → Prop} {f : Str → β → M γ} {m : M Str} {n : M β} (hr : MtM1 r K f) (h : EvR K W ta Γ m) (h2 : EvR K W tb Γ n) : EvR K W (tM1 r ta tb) Γ (do let a ← m; let b ← n; f a b) := fun x σ G H b Q E s B h' =>
  step_E (te := ta) h E s B h' fun a b' v G' H' h3 e E2 s2 B2 ra => ⟨⟨a, rep_str ra⟩, step_E (te := tb) h2 E2 s2 B2 h3 fun c b'' w G'' H'' h4 e' E'' s'' B'' rc => hr W x σ G'' H'' b'' Q a c v w s'' B'' (ra.ext e'.g) rc h4⟩
theorem mm_starts : MtM1 (fun x xs H Q => ∃ a b, x = .str a ∧ xs = [.str b] ∧ Q (.bl (Txt.startswith a b)) H) K (fun (a b : Str) => (pure (Txt.startswith a b) : M Bool)) := fun W x σ G H b Q a c v w s B ra rc h => by
  cases rep_str ra; cases rep_str rc
  exact ⟨a, c, rfl, rfl, h.here s B (.bl _)⟩
theorem reps_strs {G : Hp} (ys : List Str) : Reps K G (ys.map V.str) (ys.map d) := by
  induction ys with
  | nil => exact .nil
  | cons y r ih => exact .cons (.str y) ih
theorem mm_split : MtM1 (fun x xs H Q => ∃ a b, x = .str a ∧ xs = [.str b] ∧ (b.length == 0) = false ∧ a.length + 2 ≤ sizeLine ∧ rNewStrs (Txt.split a b) H Q) K (fun (a b : Str) => (do need ((b.length == 0) = false ∧ a.length + 2 ≤ sizeLine); pure (Txt.split a b) : M (List Str))) :=
  fun W x σ G H b Q a c v w s B ra rc h => by
    cases rep_str ra; cases rep_str rc
    obtain ⟨⟨h1, h2⟩, h3⟩ := need_fin h
    exact ⟨a, c, rfl, rfl, h1, h2, fun p hp => h3.new s B hp (.lst upd_same (reps_strs _))⟩
/-- int(text) -/
theorem cm_intS : CallM K (fun xs H Q => ∃ a n, xs = [.str a] ∧ PySem.intText? a = some n ∧ a.length ≤ 640 ∧ Q (.int n) H) (fun (i : Str × Unit) => (do need (i.1.length ≤ 640); match PySem.intText? i.1 with | some n => pure n | none => M.stuck : M Int)) := fun W x σ G H b Q i vs s B rs h => by
  obtain ⟨a, u⟩ := i
  obtain ⟨v, rfl, r⟩ := reps1 rs
  cases rep_str r
  obtain ⟨h1, h2⟩ := need_fin h
  dsimp only at h2
  cases q : PySem.intText? a with
  | none => rw [q] at h2; exact False.elim h2
  | some n => rw [q] at h2; exact ⟨a, n, rfl, q, h1, FinE.here (b := b) h2 s B (.int n)⟩
/-- len -/
theorem cm_lenS : CallM K (fun xs H Q => ∃ z, xs = [.str z] ∧ z.length ≤ sizeLine ∧ Q (.int z.length) H) (fun (i : Str × Unit) => (do need (i.1.length ≤ sizeLine); pure (i.1.length : Int) : M Int)) := fun W x σ G H b Q i vs s B rs h => by
  obtain ⟨a, u⟩ := i
  obtain ⟨v, rfl, r⟩ := reps1 rs
  cases rep_str r
  obtain ⟨h1, h2⟩ := need_fin h
  exact ⟨a, rfl, h1, h2.here s B (.int _)⟩
theorem cm_lenL : CallM K (fun xs H Q => ∃ p ys, xs = [.ref p] ∧ (SqL K H p ys ∨ SqT K H p ys) ∧ Q (.int ys.length) H) (fun (i : List α × Unit) => (pure (i.1.length : Int) : M Int)) := fun W x σ G H b Q i vs s B rs h => by
  obtain ⟨a, u⟩ := i
  obtain ⟨v, rfl, r⟩ := reps1 rs
  obtain ⟨p, ws, rfl, hp, rs⟩ := rep_lst r
  exact ⟨p, ws, rfl, .inl (SqL.of (s _ _ hp)), h.here s B (by rw [rs.length, List.length_map]; exact .int _)⟩
theorem cm_lenV : CallM K (fun xs H Q => ∃ p ys, xs = [.ref p] ∧ (SqL K H p ys ∨ SqT K H p ys) ∧ Q (.int ys.length) H) (fun (i : VT α × Unit) => (pure (i.1.l.length : Int) : M Int)) := fun W x σ G H b Q i vs s B rs h => by
  obtain ⟨a, u⟩ := i
  obtain ⟨v, rfl, r⟩ := reps1 rs
  obtain ⟨p, ws, rfl, hp, rs⟩ := rep_tup r
  exact ⟨p, ws, rfl, .inr (sqT_H s hp), h.here s B (by rw [rs.length, List.length_map]; exact .int _)⟩
/-- all of a list of bools -/
theorem reps_bools {G : Hp} : ∀ {vs : List V} {bs : List Bool}, Reps K G vs (bs.map d) → vs = bs.map V.bl
  | _, [], .nil => rfl
  | _, b :: r, .cons h t => by
    cases h
    rw [reps_bools t]
    rfl
theorem cm_all : CallM K (rAll K) (fun (i : List Bool × Unit) => (pure (i.1.all id) : M Bool)) := fun W x σ G H b Q i vs s B rs h => by
  obtain ⟨a, u⟩ := i
  obtain ⟨v, rfl, r⟩ := reps1 rs
  obtain ⟨p, ws, rfl, hp, rs⟩ := rep_lst r
  have e := reps_bools rs
  subst e
  exact ⟨p, a, rfl, SqL.of (s _ _ hp), h.here s B (.bl _)⟩
/-- a text, sign by sign -/
theorem ei_str {m : M Str} (h : EvR K W te Γ m) : EvI K W (iStr te) Γ (do let z ← m; pure (z.cps.toList.map Ch.mk)) := fun δ x σ F g k G H b R E s B hf kk =>
  go (te := te) g h E s B (f := fun z => k (z.cps.toList.map Ch.mk)) (by rw [bind_assoc] at hf; exact hf) fun z b' v G' H' h1 e E2 s2 B2 r => by
    cases rep_str r
    refine ⟨z, rfl, kk _ b' _ G' H' h1 e E2 s2 B2 fun i G2 H2 r2 => ⟨fun a ha => ?_, fun hl => ?_⟩⟩
    · rw [List.getElem?_map] at ha
      cases q : z.cps.toList[i]? with
      | none => rw [q] at ha; cases ha
      | some c =>
        rw [q] at ha
        cases ha
        have l : i < z.cps.size := by have := (List.getElem?_eq_some_iff.mp q).1; simpa using this
        refine ⟨l, fun y H3 ⟨e3, c', hc, hy⟩ => ?_⟩
        subst e3 hy
        have : c' = c := by
          have q' : z.cps[i]? = some c := by simpa using q
          rw [hc] at q'
          exact Option.some.inj q'
        subst this
        exact ⟨G2, Ex.refl r2.2, .str _⟩
    · show z.cps.size ≤ i
      rw [List.length_map] at hl
      simp at hl
      omega
/-- f-strings -/
def EvJ (K : PySem.W.Frag) (W : WX) (ts : List TE) (Γ : List Sl) (mk : Str → M Str) : Prop :=
  ∀ (δ : Type) x σ (F : Hp → Hp → Bx × Res δ → Prop) (_ : Good K W x σ F) (k : Str → M δ) G H b (acc : Str) (Q : Str → Hp → Prop), Env K x σ Γ G H → Same G H → BoxSt x G H b → F G H ((mk acc >>= k) b) →
    (∀ z b' G' H', F G' H' (k z b') → Ex x G H G' H' → Env K x σ Γ G' H' → Same G' H' → BoxSt x G' H' b' → Q z H') → tJs ts acc σ H Q
theorem ej_nil : EvJ K W [] Γ (fun acc => pure acc) := fun δ x σ F g k G H b acc Q E s B h kk => kk acc b G H h (Ex.refl s) E s B
theorem ej_cons {tes : List TE} {m : M Str} {mk : Str → M Str} (h : EvR K W te Γ m) (h2 : EvJ K W tes Γ mk) : EvJ K W (te :: tes) Γ (fun acc => do let y ← m; need ((acc ++ y).length ≤ sizeLine); mk (acc ++ y)) := fun δ x σ F g k G H b acc Q E s B hf kk =>
  go (te := te) g h E s B (f := fun y => (do need ((acc ++ y).length ≤ sizeLine); mk (acc ++ y)) >>= k) (by rw [bind_assoc] at hf; exact hf) fun y b' v G' H' h1 e E2 s2 B2 r => by
    unfold need at h1
    by_cases q : (acc ++ y).length ≤ sizeLine
    · rw [if_pos q] at h1
      exact ⟨y, rep_str r, q, h2 δ x σ F g k G' H' b' (acc ++ y) Q E2 s2 B2 h1 fun z b3 G3 H3 h3 e3 E3 s3 B3 => kk z b3 G3 H3 h3 (e.trans e3) E3 s3 B3⟩
    · rw [if_neg q] at h1
      exact (g.st h1).elim
theorem ev_joined {tes : List TE} {mk : Str → M Str} (h : EvJ K W tes Γ mk) : EvR K W (fun σ H Q => tJs tes Str.empty σ H fun out H1 => Q (.str out) H1) Γ (mk Str.empty) := fun x σ G H b Q E s B h' => by
  refine h Str x σ _ good_E pure G H b _ _ E s B (by rw [bind_pure]; exact h') fun z b' G' H' h2 e E2 s2 B2 => h2.here s2 B2 (.str z)
theorem ev_fmtS {m : M Str} (h : EvR K W te Γ m) : EvR K W (tFmt te) Γ (do let y ← m; need (y.length ≤ sizeLine); pure y) := fun x σ G H b Q E s B h' =>
  step_E (te := te) h E s B h' fun a b' v G' H' h2 e E2 s2 B2 r => by
    obtain ⟨h3, h4⟩ := need_fin h2
    exact .inl ⟨a, rep_str r, h3, by have := h4.here s2 B2 (.str a); exact this⟩
theorem ev_fmtI {m : M Int} (h : EvR K W te Γ m) : EvR K W (tFmt te) Γ (do let y ← m; need (y.natAbs.log2 < 1920); pure (toString y : Str)) := fun x σ G H b Q E s B h' =>
  step_E (te := te) h E s B h' fun a b' v G' H' h2 e E2 s2 B2 r => by
    obtain ⟨h3, h4⟩ := need_fin h2
    exact .inr ⟨a, rep_int r, h3, by have := h4.here s2 B2 (.str (toString a : Str)); exact this⟩

/-! ### isinstance -/
def tyD (K : PySem.W.Frag) : D → Value
  | .non => .type "NoneType"
  | .bl _ => .type "bool"
  | .int _ => .type "int"
  | .str _ => .type "str"
  | .tup _ => .type "tuple"
  | .tupN _ => .type "tuple"
  | .lst _ => .type "list"
  | .ins c _ => .ref (He.ga K c)
  | .dic _ => .type "dict"
  | .dicF _ => .type "dict"
/-- what isinstance asks of an own class -/
structure InsC (K : PySem.W.Frag) (c : Str) : Prop where
  cl : Cls K (He.ga K c)
  c1 : PySem.W.findIn K (.ref (He.ga K c)) "__class__" = some (some (.builtin "object.__class__"))
  c2 : PySem.W.specialIn K (.builtin "object.__class__") "__get__" = some (some (.builtin "getset_descriptor.__get__"))
  c3 : PySem.W.takesIn K (.builtin "object.__class__") = some true
  c4 : PySem.W.mroIn K (He.ga K c) (.type "object") = some true
/-- the own classes within the reach -/
def KnownD (cs : List Str) : D → Prop
  | .ins c _ => c ∈ cs
  | _ => True
theorem rep_ty {cs : List Str} (hc : ∀ c ∈ cs, InsC K c) {G H : Hp} {v : V} {x : D} (s : Same G H) (r : Rep K G v x) (hk : KnownD cs x) : TyX K H v (tyD K x) := by
  cases r with
  | non => exact .base .non
  | bl b => exact .base (.bl b)
  | int i => exact .base (.int i)
  | str z => exact .base (.str z)
  | tup h r =>
    rcases h with (h | ⟨o, h⟩) | ⟨o, its, n, h, hcl, _⟩
    · exact .base (.tup (s _ _ h))
    · exact .fTuple (s _ _ h)
    · exact .kTuple h hcl
  | tupN h z r => exact .fTuple (s _ _ h)
  | lst h r => exact .base (.lst (s _ _ h))
  | ins h r =>
    have f := hc _ hk
    exact .base (.ins (s _ _ h) f.cl f.c1 f.c2 f.c3 f.c4)
  | dic h r => exact .base (.dK (s _ _ h))
  | dicF h r => exact .fDict (s _ _ h)
end
end N

set_option Elab.async false
set_option linter.all false
set_option maxRecDepth 100000
set_option maxHeartbeats 4000000
/-! N8: the box of draws, isinstance, repr, what a suite reads. -/
namespace N
open PySem PySem.Spec PyProof.Rows L2 J
open ToD (d)
open ToDs (ds)
open M

section
variable {ω : Type} {α β γ S : Type} [ToD α] [ToD β] [ToD γ] {K : PySem.W.Frag} {W : WX} {P : Post ω} {te ta tb : TE} {Γ : List Sl} {ts rest : TS}
/-! ### defs that draw -/
def FinB (K : PySem.W.Frag) (x : Option Addr) (G H : Hp) (Q : VK) (E : XK) : Bx × Res γ → Prop
  | (b', .ok a) => ∀ v G' H', Ex x G H G' H' → BoxSt x G' H' b' → Rep K G' v (d a) → Q v H'
  | (b', .err c fs) => ∀ dd G' H', Ex x G H G' H' → BoxSt x G' H' b' → RepX K G' dd fs → E (.ref (He.ga K c)) dd H'
  | (_, .stuck) => False
def spB {ι : Type} [ToDs ι] (K : PySem.W.Frag) (f : ι → M γ) : Sp := fun vs H Q E => ∃ i G b p ws, vs = .ref p :: ws ∧ Same G H ∧ BoxSt (some p) G H b ∧ Reps K G ws (ds i) ∧ FinB K (some p) G H Q E (f i b)
theorem ev_callB {ι : Type} [ToDs ι] {t : TA} {mk : ∀ {θ : Type}, (ι → M θ) → M θ} {f : ι → M γ} {j : Nat} (h : EvC K W t Γ mk) (hj : Γ[j]? = some .box := by rfl) : EvR K W (tCallS (spB K f) (WE W) (tCons (tVar j) t)) Γ (mk f) := fun x σ G H b Q E s B h' => by
  obtain ⟨o, h1, p, rfl, rfl⟩ := E.get hj
  refine ⟨_, h1, h γ _ σ _ good_E _ G H b _ E s B h' fun i b' vs G' H' h2 e E2 s2 B2 rs => ⟨i, G', b', p, vs, rfl, s2, B2, rs, ?_⟩⟩
  cases q : f i b' with
  | mk b3 r =>
    rw [q] at h2
    cases r with
    | ok a => exact h2
    | err c fs => exact h2
    | stuck => exact h2
theorem fn_rdB {ι : Type} [ToDs ι] {ts : TS} {N : List Str} {f : ι → M γ} {n : Nat} {H : Hp} {vs : List V} {Q : VK} {E : XK} {x0 : Str} (h : spB K f vs H Q E) (hn : ∀ i : ι, N.length - (ds i).length = n)
    (hb : ∀ i, Rd K (WE1 E) (PRet K) ts (.box :: slots (ds i) n) (f i)) : ts { nx := fun _ H' => Q .non H', rt := Q } (L2.start (x0 :: N) vs) H := by
  obtain ⟨i, G, b, p, ws, rfl, s, B, rs, hf⟩ := h
  have e1 : L2.start (x0 :: N) (.ref p :: ws) = some (.ref p) :: L2.start N ws := by
    unfold L2.start
    simp
  have up : ∀ {x : Option Addr} {σ : L2.St} {Δ : List Sl}, Env K none σ Δ G H → (∀ t ∈ Δ, t.isOwn = false) → Env K x σ Δ G H := fun {x σ Δ} E hn => ⟨E.len, fun j t o h1 h2 => by
    have h3 := E.at_ j t o h1 h2
    cases t with
    | box => obtain ⟨q, _, z⟩ := h3; cases z
    | _ => exact h3, E.dis, fun j q t h1 o1 => by rw [hn t (List.mem_of_getElem? h1)] at o1; cases o1⟩
  have E0 : Env K (some p) (some (.ref p) :: L2.start N ws) (.box :: slots (ds i) n) G H := by
    have E1 := up (x := some p) (env_start (N := N) (n := n) rs (by rw [rs.length]; exact hn i)) slots_no
    refine ⟨by rw [List.length_cons, List.length_cons, E1.len], fun j t o h1 h2 => ?_, fun j k q t u ne h1 h2 o1 => ?_, fun j q t h1 o1 => ?_⟩
    · cases j with
      | zero => simp at h1 h2; subst h1; subst h2; exact ⟨p, rfl, rfl⟩
      | succ j => exact E1.at_ j t o (by simpa using h1) (by simpa using h2)
    all_goals
      exfalso
      cases j with
      | zero => simp at h1; subst h1; cases o1
      | succ j =>
        rw [slots_no t (List.mem_of_getElem? (show (slots (ds i) n)[j]? = some t by simpa using h1))] at o1
        cases o1
  rw [e1]
  refine hb i (some p) _ G H G G H b _ E0 (fun j q t h1 o1 => ?_) s B ⟨Ex.refl s, Same.refl _⟩ ?_
  · exfalso
    cases j with
    | zero => simp at h1; subst h1; cases o1
    | succ j =>
      rw [slots_no t (List.mem_of_getElem? (show (slots (ds i) n)[j]? = some t by simpa using h1))] at o1
      cases o1
  · cases q : f i b with
    | mk b' r =>
      rw [q] at hf
      cases r with
      | ok a => exact fun G' H' p' B' v rv => hf v G' H' p'.ex B' rv
      | err c fs => exact fun σ' dd G' H' p' B' rx => hf dd G' H' p'.ex B' rx
      | stuck => exact hf
theorem spB_len {ι : Type} [ToDs ι] {f : ι → M γ} {vs : List V} {H : Hp} {Q : VK} {E : XK} {n : Nat} (h : spB K f vs H Q E) (hn : ∀ i : ι, (ds i).length = n) : vs.length = n + 1 := by
  obtain ⟨i, G, b, p, ws, rfl, s, B, rs, hf⟩ := h
  rw [List.length_cons, rs.length, hn]
/-- a number below m is drawn -/
def mixV (b c : Int) : Int := ((b + 48271 * c + 11) ^ 5 % 2147483647 / 8 + 69621 * c + b) ^ 3 % 2147483587 / 16
noncomputable def takeM (m : Int) : M Int := open Classical in fun s =>
  if s.2.2 < 0 then (s, .stuck) else
  if 0 < s.1 then (if 0 < m ∧ m.natAbs.log2 < 9000 then ((s.1 / m, s.2.1, s.2.2), .ok (s.1 % m)) else (s, .stuck))
  else (if 0 < m ∧ 0 ≤ s.2.1 ∧ s.2.1 < 4294967296 ∧ 0 ≤ s.2.2 ∧ s.2.2 < 1000000 then ((s.1, s.2.1, s.2.2 + 1), .ok (mixV s.2.1 (s.2.2 + 1) % m)) else (s, .stuck))
/-- the box is in order: at most n numbers were mixed -/
def InvB (n : Int) (s : Bx) : Prop := 0 ≤ s.1 ∧ 0 ≤ s.2.1 ∧ s.2.1 < 4294967296 ∧ 0 ≤ s.2.2 ∧ s.2.2 ≤ n
theorem take_ok {m n : Int} {s : Bx} (h : InvB n s) (hn : n < 1000000) (hm : 0 < m) (hm2 : m < 10 ^ 40) : ∃ r s', takeM m s = (s', .ok r) ∧ 0 ≤ r ∧ r < m ∧ InvB (n + 1) s' := by
  obtain ⟨a, b, c⟩ := s
  obtain ⟨h1, h2, h3, h4, h5⟩ := h
  dsimp only at h1 h2 h3 h4 h5
  unfold takeM
  dsimp only
  rw [if_neg (show ¬ c < 0 by omega)]
  by_cases q : 0 < a
  · rw [if_pos q, if_pos ⟨hm, log_lt hm hm2⟩]
    exact ⟨_, _, rfl, Int.emod_nonneg _ (by omega), Int.emod_lt_of_pos _ hm, Int.ediv_nonneg h1 (by omega), h2, h3, h4, by show c ≤ n + 1; omega⟩
  · rw [if_neg q, if_pos ⟨hm, h2, h3, h4, by omega⟩]
    refine ⟨_, _, rfl, Int.emod_nonneg _ (by omega), Int.emod_lt_of_pos _ hm, h1, h2, h3, ?_, ?_⟩
    · show 0 ≤ c + 1; omega
    · show c + 1 ≤ n + 1; omega
/-- what m gives, wherever the box is in order; at most k numbers are mixed -/
def Tri {α : Type} (k : Int) (m : M α) (P : α → Prop) : Prop := ∀ (n : Int) (s : Bx), InvB n s → 0 ≤ n → n + k ≤ 1000000 → ∃ a s', m s = (s', .ok a) ∧ P a ∧ InvB (n + k) s'
theorem InvB.up {m n : Int} {s : Bx} (h : InvB m s) (l : m ≤ n) : InvB n s := ⟨h.1, h.2.1, h.2.2.1, h.2.2.2.1, by have := h.2.2.2.2; omega⟩
theorem tri_take {m : Int} (hm : 0 < m) (hm2 : m < 10 ^ 40) : Tri 1 (takeM m) (fun r => 0 ≤ r ∧ r < m) := fun n s h h0 hn => by
  obtain ⟨r, s', e, a, b, c⟩ := take_ok h (by omega) hm hm2
  exact ⟨r, s', e, ⟨a, b⟩, c⟩
theorem tri_pure {α : Type} {a : α} {P : α → Prop} (h : P a) : Tri 0 (pure a) P := fun n s hi _ _ => ⟨a, s, rfl, h, by rw [Int.add_zero]; exact hi⟩
theorem tri_bind {α β : Type} {k l : Int} {m : M α} {f : α → M β} {P : α → Prop} {Q : β → Prop} (h1 : Tri k m P) (hk : 0 ≤ k) (hl : 0 ≤ l) (h2 : ∀ a, P a → Tri l (f a) Q) : Tri (k + l) (m >>= f) Q := fun n s hi h0 hn => by
  obtain ⟨a, s1, e1, pa, i1⟩ := h1 n s hi h0 (by omega)
  obtain ⟨c, s2, e2, qc, i2⟩ := h2 a pa (n + k) s1 i1 (by omega) (by omega)
  exact ⟨c, s2, by rw [M.bind_def, e1]; exact e2, qc, by rw [← Int.add_assoc]; exact i2⟩
theorem tri_up {α : Type} {k l : Int} {m : M α} {P : α → Prop} (h : Tri k m P) (hl : k ≤ l) : Tri l m P := fun n s hi h0 hn => by
  obtain ⟨a, s1, e1, pa, i1⟩ := h n s hi h0 (by omega)
  exact ⟨a, s1, e1, pa, i1.up (by omega)⟩
theorem tri_imp {α : Type} {k : Int} {m : M α} {P Q : α → Prop} (h : Tri k m P) (hp : ∀ a, P a → Q a) : Tri k m Q := fun n s hi h0 hn => by
  obtain ⟨a, s1, e1, pa, i1⟩ := h n s hi h0 hn
  exact ⟨a, s1, e1, hp a pa, i1⟩
theorem tri_lcA {ι β : Type} {t : ι → M Bool} {f : ι → M β} {k : Int} (hk : 0 ≤ k) {P : β → Prop} : ∀ (xs : List ι) (acc : List β), (∀ a ∈ xs, t a = pure true) → (∀ a ∈ xs, Tri k (f a) P) → (∀ y ∈ acc, P y) →
    Tri (k * xs.length) (lcA t f acc xs) (fun ys => (∀ y ∈ ys, P y) ∧ ys.length = acc.length + xs.length)
  | [], acc, _, _, ha => by
    have := tri_pure (a := acc) (P := fun ys => (∀ y ∈ ys, P y) ∧ ys.length = acc.length + ([] : List ι).length) ⟨ha, rfl⟩
    simpa [lcA] using this
  | a :: r, acc, ht, hf, ha => by
    intro n s hi h0 hn
    have hl : k * ((a :: r).length : Int) = k + k * (r.length : Int) := by
      rw [List.length_cons]
      have : ((r.length + 1 : Nat) : Int) = (r.length : Int) + 1 := by omega
      rw [this, Int.mul_add, Int.mul_one, Int.add_comm]
    have hr0 : 0 ≤ k * (r.length : Int) := Int.mul_nonneg hk (by omega)
    rw [hl] at hn ⊢
    obtain ⟨y, s1, e1, py, i1⟩ := hf a List.mem_cons_self n s hi h0 (by omega)
    obtain ⟨zs, s2, e2, ⟨pz, lz⟩, i2⟩ := tri_lcA hk r (acc ++ [y]) (fun b hb => ht b (List.mem_cons_of_mem _ hb)) (fun b hb => hf b (List.mem_cons_of_mem _ hb)) (fun z hz => by
      rcases List.mem_append.mp hz with q | q
      · exact ha z q
      · rw [List.mem_singleton.mp q]; exact py) (n + k) s1 i1 (by omega) (by omega)
    refine ⟨zs, s2, ?_, ⟨pz, by rw [lz]; simp; omega⟩, by rw [← Int.add_assoc]; exact i2⟩
    unfold lcA
    rw [ht a List.mem_cons_self, strict_pure]
    show (strict (f a) >>= fun y => lcA t f (acc ++ [y]) r) s = _
    rw [M.bind_def]
    unfold strict
    rw [e1]
    exact e2
theorem tri_lcM {ι β : Type} {t : ι → M Bool} {f : ι → M β} {k : Int} (hk : 0 ≤ k) {P : β → Prop} {xs : List ι} (hx : xs.length ≤ 1000) (ht : ∀ a ∈ xs, t a = pure true) (hf : ∀ a ∈ xs, Tri k (f a) P) :
    Tri (k * xs.length) (lcM t f xs) (fun ys => (∀ y ∈ ys, P y) ∧ ys.length = xs.length) := by
  unfold lcM
  rw [need_T (small_sl hx)]
  have := tri_lcA hk (P := P) xs [] ht hf (fun y hy => by cases hy)
  simpa using this
end
end N

set_option Elab.async false
set_option linter.all false
set_option maxRecDepth 100000
set_option maxHeartbeats 4000000
/-! N9: isinstance, repr, what a suite reads, lists put together, the script, a box made. -/
namespace N
open PySem PySem.Spec PyProof.Rows L2 J
open ToD (d)
open ToDs (ds)
open M

/-- isinstance of a caught error that has a dict of its own -/
def rIsEd (K : PySem.W.Frag) (a : Addr) (cls : Value) (dd : Option Addr) : List V → Hp → VK → Prop := fun xs H Q => ∃ (C : Addr) (c : V) (cv : Value) (b : Bool) (da : Addr) (fs : List (Str × V)), xs = [.ref a, c] ∧ cls = .ref C ∧ ExcC K C ∧ dd = some da ∧ H da = some (.xd fs) ∧ (∀ u, RelV c u → u = cv) ∧ PySem.W.kitOne K (.ref C) cv = some b ∧ Q (.bl b) H
theorem call_isEd {X : Cx} {a : Addr} {oe : Obj} {pn : List (Addr × Obj)} {cls : Value} {dd : Option Addr} (hz : Zc cls dd oe) (hf : ∃ vs, oe.data = .fields vs) : CallR (X.suite a ((a, oe) :: pn)) (.builtin "isinstance") (rIsEd X.K a cls dd) := by
  intro pins s σ H xs us Q I r h
  obtain ⟨C, c, cv, b, da, fs, rfl, rfl, T, rfl, ea, hcv, e, q⟩ := h
  obtain ⟨u1, u2, rfl, r1, r2⟩ := vals2 r
  cases r1
  cases hcv _ r2
  obtain ⟨hget, _⟩ := I.pin (a, oe) (List.mem_append.mpr (.inl List.mem_cons_self))
  obtain ⟨vs, hd⟩ := hf
  have hx : ObjOk X.prog X.w H s.heap da (.xd fs) := I.hok da _ ea
  obtain ⟨mA, hns, hr⟩ := hx
  obtain ⟨od, ho, hl⟩ := lookIn_ns hns
  have J : PySem.W.InstAt s.heap a oe C (some od) := ⟨hget, hz.1, by unfold PySem.W.notCls; rw [hd] <;> rfl, by rw [hz.2]; exact ho⟩
  have hcl : (PySem.W.clsIn X.K C).isSome = true := by
    obtain ⟨cd, hc, _⟩ := PySem.W.any_some T.hd
    rw [hc]
    rfl
  exact PySem.W.kia_one (PySem.W.kitx_exc hcl T.hg T.hk T.hs T.ha T.hn T.ht T.hm) I.kIn J e (fun z => nomatch z) fun tk => ⟨.bl b, H, I.tok tk, rfl, q⟩

section
variable {ω : Type} {α β γ S : Type} [ToD α] [ToD β] [ToD γ] {K : PySem.W.Frag} {W : WX} {P : Post ω} {te ta tb : TE} {Γ : List Sl} {ts rest : TS}
/-! ### isinstance -/
theorem ev_isi {cs : List Str} {c : V} {u : Value} {bf : α → Bool} {m : M α} (hcs : ∀ c ∈ cs, InsC K c) (hc : ClsV c u) (hk : ∀ a, KnownD cs (d (a : α))) (hb : ∀ a : α, PySem.W.kitOne K (tyD K (d a)) u = some (bf a)) (h : EvR K W te Γ m) :
    EvR K W (tCB (rIsi K) (tCons te (tCons (tC c) tNil))) Γ (do let a ← m; pure (bf a)) := fun x σ G H b Q E s B h' =>
  step_E (te := te) h E s B h' fun a b' v G' H' h2 e E2 s2 B2 r => ⟨v, c, _, u, bf a, rfl, hc, rep_ty hcs s2 r (hk a), hb a, h2.here s2 B2 (.bl _)⟩
/-! ### repr -/
noncomputable def reprM (x : D) : M Str := match x with
  | .dic [] => do
    need ((dictD []).showable = true ∧ (dictD []).depth ≤ 40 ∧ (dictD []).shown.length ≤ sizeLine)
    pure (dictD []).shown
  | x => match pyD x with
    | some p => do
      need (p.hasDict = false ∧ p.showable = true ∧ p.depth ≤ 40 ∧ p.shown.length ≤ sizeLine)
      pure p.shown
    | none => M.stuck
theorem cm_repr : CallM K (rRepr K) (fun (i : α × Unit) => reprM (d i.1)) := fun W x σ G H b Q i vs s B rs h => by
  obtain ⟨a, u⟩ := i
  obtain ⟨v, rfl, r⟩ := reps1 rs
  dsimp only at h
  generalize d a = z at h r
  have plain : ∀ p, pyD z = some p → FinE K W x σ G H Q ((do need (p.hasDict = false ∧ p.showable = true ∧ p.depth ≤ 40 ∧ p.shown.length ≤ sizeLine); pure p.shown : M Str) b) → rRepr K [v] H Q := fun p hp hf => by
    obtain ⟨⟨h1, h2, h3, h4⟩, h5⟩ := need_fin hf
    exact ⟨v, p, rfl, .inl ⟨rep_dp s r hp, h1⟩, h2, h3, h4, h5.here s B (.str _)⟩
  unfold reprM at h
  split at h
  · cases r with
    | dic hp rk =>
      cases rk
      obtain ⟨⟨h2, h3, h4⟩, h5⟩ := need_fin h
      exact ⟨_, dictD [], rfl, .inr ⟨_, [], rfl, s _ _ hp, (fun p hp => by cases hp), rfl⟩, h2, h3, h4, h5.here s B (.str _)⟩
  · cases q : pyD z with
    | none => rw [q] at h; exact False.elim h
    | some p => rw [q] at h; exact plain p q h
/-! ### a suite -/
def xfM (fs : List (Str × D)) (f : Str) : M D := match fs.lookup f with
  | some x => pure x
  | none => M.stuck
theorem ev_xf {i : Nat} {a : Addr} {dd : Option Addr} {c f : Str} {C : Addr} {fs : List (Str × D)} (hC : He.ga K c = C) (hΓ : Γ[i]? = some (.exc a dd c fs)) : EvR K W (tXf a (.ref (He.ga K c)) dd C f (tVar i)) Γ (xfM fs f) := fun x σ G H b Q E s B h => by
  subst hC
  obtain ⟨o, h1, rfl, rx⟩ := E.get hΓ
  unfold xfM at h
  rcases rx with ⟨rfl, rfl⟩ | ⟨da, vs, rfl, hd, rf, _⟩
  · exact False.elim h
  · cases q : fs.lookup f with
    | none => rw [q] at h; exact False.elim h
    | some z =>
      rw [q] at h
      obtain ⟨v, hv, rv⟩ := rf.look q
      exact ⟨_, h1, rfl, rfl, da, vs, v, rfl, s _ _ hd, hv, FinE.here (b := b) h s B rv⟩
theorem ev_isE {i : Nat} {a : Addr} {dd : Option Addr} {c : Str} {cv : V} {u : Value} {bb : Bool} {fs : List (Str × D)} (T : ExcC K (He.ga K c)) (hΓ : Γ[i]? = some (.exc a dd c fs)) (hcv : ∀ w, RelV cv w → w = u) (hk : PySem.W.kitOne K (.ref (He.ga K c)) u = some bb) :
    EvR K W (tCB (rIsEd K a (.ref (He.ga K c)) dd) (tCons (tVar i) (tCons (tC cv) tNil))) Γ (do need (fs ≠ []); pure bb) := fun x σ G H b Q E s B h => by
  obtain ⟨o, h1, rfl, rx⟩ := E.get hΓ
  obtain ⟨hne, h2⟩ := need_fin h
  rcases rx with ⟨rfl, rfl⟩ | ⟨da, vs, rfl, hd, rf, _⟩
  · exact absurd rfl hne
  · exact ⟨_, h1, _, cv, u, bb, da, vs, rfl, rfl, T, rfl, s _ _ hd, hcv, hk, h2.here s B (.bl _)⟩
/-! ### lists put together -/
theorem om_cat : OpM K rCat (fun (a b : List α) => (do need (a.length + b.length ≤ sizeLine); pure (a ++ b) : M (List α))) := fun W x σ G H b Q a c v w s B ra rc h => by
  obtain ⟨p, vs, rfl, hp, rs⟩ := rep_lst ra
  obtain ⟨q, ws, rfl, hq, rt⟩ := rep_lst rc
  obtain ⟨h1, h2⟩ := need_fin h
  have l1 := rs.length
  have l2 := rt.length
  rw [List.length_map] at l1 l2
  refine ⟨p, q, vs, ws, rfl, rfl, s _ _ hp, s _ _ hq, by omega, fun r hr => h2.new s B hr (.lst upd_same ?_)⟩
  rw [List.map_append]
  exact (rs.append rt).ext (upS (s.free hr))
/-- a new empty dict -/
theorem ev_dnew : EvR K W (fun _ H Q => ∀ p, H p = none → Q (.ref p) (upd H p (.dK []))) Γ (pure (D.dic [])) := fun x σ G H b Q E s B h p hp => h.new s B hp (.dic upd_same .nil)
theorem ev_call0 {f : Unit → Res γ} : EvR K W (tCallS (spG K f) (WE W) tNil) Γ (lft (f ())) := fun x σ G H b Q E s B h' => spG_of s B (i := ()) (vs := []) .nil h'
/-- tuple(xs), list(xs) -/
theorem cm_tupL : CallM K (fun xs H Q => ∃ p ys, xs = [.ref p] ∧ ((SqL K H p ys ∧ ∀ l, H l = none → Q (.ref l) (upd H l (.tup ys))) ∨ (SqT K H p ys ∧ Q (.ref p) H))) (fun (i : List α × Unit) => (pure ⟨i.1⟩ : M (VT α))) := fun W x σ G H b Q i vs s B rs h => by
  obtain ⟨a, u⟩ := i
  obtain ⟨v, rfl, r⟩ := reps1 rs
  obtain ⟨p, ws, rfl, hp, rs⟩ := rep_lst r
  exact ⟨p, ws, rfl, .inl ⟨SqL.of (s _ _ hp), fun l hl => h.new s B hl (.tup (.inl (.inl upd_same)) (rs.ext (upS (s.free hl))))⟩⟩
theorem rd_stuck : Rd K W P ts Γ M.stuck := fun x σ G0 H0 Gs G H b L E F s B e hf => False.elim hf
end
/-! ### a list or a tuple, walked -/
theorem pi_or {X : Cx} {tg iter : Expr} {w1 w2 : TI} (h1 : PI X tg iter w1) (h2 : PI X tg iter w2) : PI X tg iter (fun σ H R => w1 σ H R ∨ w2 σ H R) :=
  ⟨fun pins s σ H R I h => h.elim (h1.run pins s σ H R I) (h2.run pins s σ H R I)⟩
/-- a list or a tuple -/
inductive Sq (α : Type) where
  | l (xs : List α) | t (xs : List α)
def Sq.xs {α : Type} : Sq α → List α
  | .l xs => xs
  | .t xs => xs
instance {α : Type} [ToD α] : ToD (Sq α) := ⟨fun s => match s with
  | .l xs => .lst (xs.map d)
  | .t xs => .tup (xs.map d)⟩
section
variable {ω : Type} {α β γ S : Type} [ToD α] [ToD β] [ToD γ] {K : PySem.W.Frag} {W : WX} {P : Post ω} {te ta tb : TE} {Γ : List Sl} {ts rest : TS}
theorem ei_sq {i : Nat} {q : Sq α} (hΓ : Γ[i]? = some (.val (d q)) := by rfl) : EvI K W (fun σ H R => iList K (tVar i) σ H R ∨ iTup K (tVar i) σ H R) Γ (pure q.xs) := fun δ x σ F g k G H b R E s B hf kk => by
  obtain ⟨v, h1, r⟩ := E.val hΓ
  cases q with
  | l xs =>
    obtain ⟨p, vs, rfl, hp, rs⟩ := rep_lst (xs := xs) r
    exact .inl ⟨_, h1, p, rfl, ⟨vs, sqL_H s (SqL.of hp)⟩, kk xs b _ G H hf (Ex.refl s) E s B (walk_list (fun G2 H2 r2 => sqL_H r2.2 (sqL_H r2.1 (SqL.of hp))) rs)⟩
  | t xs =>
    obtain ⟨p, vs, rfl, hp, rs⟩ := rep_tup (ds := xs.map d) r
    exact .inr ⟨_, h1, p, rfl, ⟨vs, sqT_H s hp⟩, kk xs b _ G H hf (Ex.refl s) E s B (walk_tup (fun G2 H2 r2 => sqT_H r2.2 (sqT_H r2.1 hp)) rs)⟩
theorem om_ixQ : OpM K (rIx K) (fun (a : Sq α) (i : Int) => getM a.xs i) := fun W x σ G H b Q a c v w s B ra rc h => by
  cases a with
  | l xs => exact .inl (om_ixL W x σ G H b Q xs c v w s B ra rc h)
  | t xs => exact .inr (.inl (om_ixV W x σ G H b Q ⟨xs⟩ c v w s B ra rc h))
end
end N

set_option Elab.async false
set_option linter.all false
set_option maxRecDepth 100000
set_option maxHeartbeats 4000000
/-! N10: the words that printed mirrors use; forms of the rules that a printed reading uses. -/
namespace N
open PySem PySem.Spec PyProof.Rows L2 J
open ToD (d)
open ToDs (ds)
open M

/-! ### words of mirrors -/
noncomputable def mulM (i j : Int) : M Int := guI CMulW (fun i j => i * j) i j
noncomputable def fdivM (i j : Int) : M Int := guI CDivZ (fun i j => i.fdiv j) i j
noncomputable def modM (i j : Int) : M Int := guI (fun _ j => 0 < j) (fun i j => i % j) i j
noncomputable def powM (i j : Int) : M Int := guI CPow (fun i j => i ^ j.toNat) i j
noncomputable def addS (a b : Str) : M Str := do need (a.length + b.length ≤ sizeLine); pure (a ++ b)
noncomputable def catM {α : Type} (a b : List α) : M (List α) := do need (a.length + b.length ≤ sizeLine); pure (a ++ b)
noncomputable def ixS (a : Str) (i : Int) : M Ch := do need (a.length ≤ sizeLine); match atI a.cps.toList i with | some c => pure ⟨c⟩ | none => M.stuck
noncomputable def slS (a : Str) (lo hi : Option Int) : M Str := do need (a.length ≤ sizeLine); pure (cutS a lo hi)
noncomputable def lenS (a : Str) : M Int := do need (a.length ≤ sizeLine); pure (a.length : Int)
noncomputable def fmtI (i : Int) : M Str := do need (i.natAbs.log2 < 1920); pure (toString i : Str)
noncomputable def fmtS (y : Str) : M Str := do need (y.length ≤ sizeLine); pure y
noncomputable def intM (a : Str) : M Int := do need (a.length ≤ 640); match PySem.intText? a with | some n => pure n | none => M.stuck
noncomputable def splitM (a b : Str) : M (List Str) := do need ((b.length == 0) = false ∧ a.length + 2 ≤ sizeLine); pure (Txt.split a b)
noncomputable def rng1 (j : Int) : M (List Int) := do need (-(2 ^ 62) ≤ j ∧ j < 2 ^ 62); pure (rng 0 j)
noncomputable def rng2 (i j : Int) : M (List Int) := do need (-(2 ^ 62) ≤ i ∧ i < 2 ^ 62 ∧ -(2 ^ 62) ≤ j ∧ j < 2 ^ 62); pure (rng i j)
noncomputable def joinM : List (M Str) → Str → M Str
  | [], acc => pure acc
  | m :: r, acc => do
    let y ← m
    need ((acc ++ y).length ≤ sizeLine)
    joinM r (acc ++ y)
def cutL {α : Type} (xs : List α) (lo hi : Option Int) : List α := (xs.drop (HT.sIx xs.length 0 lo)).take (HT.sIx xs.length xs.length hi - HT.sIx xs.length 0 lo)

section
variable {ω : Type} {α β γ S : Type} [ToD α] [ToD β] [ToD γ] {K : PySem.W.Frag} {W : WX} {P : Post ω} {te ta tb : TE} {Γ : List Sl} {ts rest : TS}
theorem om_mulW : OpM K (rI CMulW fun i j => .int (i * j)) mulM := om_guI
theorem om_fdivZ : OpM K (rI CDivZ fun i j => .int (i.fdiv j)) fdivM := om_guI
theorem om_mod : OpM K (rI (fun _ j => 0 < j) fun i j => .int (i % j)) modM := om_guI
theorem om_pow : OpM K (rI CPow fun i j => .int (i ^ j.toNat)) powM := om_guI
theorem om_ltI : OpM K (rI0 fun i j => .bl (decide (i < j))) (fun (i j : Int) => (pure (decide (i < j)) : M Bool)) := om_cmpI
theorem om_leI : OpM K (rI0 fun i j => .bl (decide (i ≤ j))) (fun (i j : Int) => (pure (decide (i ≤ j)) : M Bool)) := om_cmpI
theorem om_gtI : OpM K (rI0 fun i j => .bl (decide (j < i))) (fun (i j : Int) => (pure (decide (i > j)) : M Bool)) := om_cmpI
theorem om_geI : OpM K (rI0 fun i j => .bl (decide (j ≤ i))) (fun (i j : Int) => (pure (decide (i ≥ j)) : M Bool)) := om_cmpI
theorem cm_minI : CallM K (fun xs H Q => ∃ i j, xs = [.int i, .int j] ∧ Q (.int (if j < i then j else i)) H) (fun (i : Int × Int × Unit) => (pure (if i.2.1 < i.1 then i.2.1 else i.1) : M Int)) := fun W x σ G H b Q i vs s B rs h => by
  obtain ⟨a, c, u⟩ := i
  obtain ⟨v, w, rfl, r, r2⟩ := reps2 rs
  cases rep_int r; cases rep_int r2
  exact ⟨a, c, rfl, h.here s B (.int _)⟩
theorem cm_maxI : CallM K (fun xs H Q => ∃ i j, xs = [.int i, .int j] ∧ Q (.int (if j > i then j else i)) H) (fun (i : Int × Int × Unit) => (pure (if i.2.1 > i.1 then i.2.1 else i.1) : M Int)) := fun W x σ G H b Q i vs s B rs h => by
  obtain ⟨a, c, u⟩ := i
  obtain ⟨v, w, rfl, r, r2⟩ := reps2 rs
  cases rep_int r; cases rep_int r2
  exact ⟨a, c, rfl, h.here s B (.int _)⟩
theorem map_cut {f : α → β} (xs : List α) (lo hi : Option Int) : (cutL xs lo hi).map f = cutL (xs.map f) lo hi := by
  unfold cutL
  rw [List.map_take, List.map_drop, List.length_map]
theorem reps_cut {G : Hp} {vs : List V} {xs : List D} (r : Reps K G vs xs) (lo hi : Option Int) : Reps K G (cutV vs lo hi) (cutL xs lo hi) := by
  have hd : ∀ {vs : List V} {xs : List D} (n : Nat), Reps K G vs xs → Reps K G (vs.drop n) (xs.drop n) := fun {vs xs} n => by
    induction n generalizing vs xs with
    | zero => exact fun r => r
    | succ n ih => intro r; cases r with
      | nil => exact .nil
      | cons h t => exact ih t
  have ht : ∀ {vs : List V} {xs : List D} (n : Nat), Reps K G vs xs → Reps K G (vs.take n) (xs.take n) := fun {vs xs} n => by
    induction n generalizing vs xs with
    | zero => exact fun r => .nil
    | succ n ih => intro r; cases r with
      | nil => exact .nil
      | cons h t => exact .cons h (ih t)
  unfold cutV cutL
  rw [r.length]
  exact ht _ (hd _ r)
theorem sm_list : SlM K (rSlL K) (fun (a : List α) lo hi => (pure (cutL a lo hi) : M (List α))) := fun W x σ G H b Q a lo hi v s B ra h => by
  obtain ⟨p, vs, rfl, hp, rs⟩ := rep_lst ra
  refine ⟨p, vs, rfl, SqL.of (s _ _ hp), fun q hq => h.new s B hq (.lst upd_same ?_)⟩
  rw [map_cut]
  exact (reps_cut rs lo hi).ext (upS (s.free hq))
/-! ### forms -/
theorem ev_lst' {ι : Type} [ToDs ι] {t : TA} {mk : ∀ {θ : Type}, (ι → M θ) → M θ} {m : M (List α)} (h : EvC K W t Γ mk) (f : ι → List α) (e : m = mk fun i => pure (f i) := by rfl) (hf : ∀ i, ds i = (f i).map d := by intros; rfl) (hl : ∀ i, (f i).length ≤ 1000 := by intro _; exact Nat.le_of_ble_eq_true rfl) :
    EvR K W (tLst t) Γ m := by rw [e]; exact ev_lst h f hf hl
theorem ev_tup' {τ : Type} [ToD τ] {ι : Type} [ToDs ι] {t : TA} {mk : ∀ {θ : Type}, (ι → M θ) → M θ} {m : M τ} (h : EvC K W t Γ mk) (f : ι → τ) (e : m = mk fun i => pure (f i) := by rfl) (hf : ∀ i, d (f i) = .tup (ds i) := by intros; rfl) (hl : ∀ i : ι, (ds i).length ≤ 1000 := by intro _; exact Nat.le_of_ble_eq_true rfl) :
    EvR K W (tTup t) Γ m := by rw [e]; exact ev_tup h f hf hl
theorem ev_call' {ι : Type} [ToDs ι] {t : TA} {mk : ∀ {θ : Type}, (ι → M θ) → M θ} {f : ι → Res γ} {m : M γ} (h : EvC K W t Γ mk) (e : m = mk fun i => lft (f i) := by rfl) : EvR K W (tCallS (spG K f) (WE W) t) Γ m := by rw [e]; exact ev_call h
theorem ev_callB' {ι : Type} [ToDs ι] {t : TA} {mk : ∀ {θ : Type}, (ι → M θ) → M θ} {f : ι → M γ} {j : Nat} {m : M γ} (h : EvC K W t Γ mk) (e : m = mk f := by rfl) (hj : Γ[j]? = some .box := by rfl) : EvR K W (tCallS (spB K f) (WE W) (tCons (tVar j) t)) Γ m := by rw [e]; exact ev_callB h hj
theorem ev_cb' {ι : Type} [ToDs ι] {t : TA} {mk : ∀ {θ : Type}, (ι → M θ) → M θ} {r : List V → Hp → VK → Prop} {f : ι → M γ} {m : M γ} (hr : CallM K r f) (h : EvC K W t Γ mk) (e : m = mk f := by rfl) : EvR K W (tCB r t) Γ m := by rw [e]; exact ev_cb hr h
theorem ev_meth' {c n : Str} [InsOf α c] {C : Addr} (hC : He.ga K c = C) {ι : Type} [ToDs ι] {t : TA} {mk : ∀ {θ : Type}, (ι → M θ) → M θ} {f : α × ι → Res γ} {m : M α} {m2 : M γ} (h : EvR K W te Γ m) (h2 : EvC K W t Γ mk) (e : m2 = (do let a ← m; mk fun i => lft (f (a, i))) := by rfl) (hn : ∀ a, (InsOf.fs (α := α) a).lookup n = none := by intro _; rfl) :
    EvR K W (tMethS C n (spG K f) (WE W) te t) Γ m2 := by rw [e]; exact ev_meth hC h h2 hn
theorem ev_meth0 {c n : Str} [InsOf α c] {C : Addr} (hC : He.ga K c = C) {f : α × Unit → Res γ} {m : M α} (h : EvR K W te Γ m) (hn : ∀ a, (InsOf.fs (α := α) a).lookup n = none := by intro _; rfl) :
    EvR K W (tMeth C n (spG K f) [] E0 te tNil) Γ (do let a ← m; strict (lft (f (a, ())))) := fun x σ G H b Q E s B h' =>
  step_E (te := te) h E s B h' fun a b' v G' H' h3 e E2 s2 B2 r => by
    subst hC
    have r0 := r
    rw [InsOf.eq] at r
    obtain ⟨p, dx, vs, rfl, hp, rf⟩ := rep_ins r
    exact ⟨p, dx, vs, rfl, s2 _ _ hp, lookup_none rf (hn a), spG_of (i := (a, ())) s2 B2 (.cons r0 .nil) (strict_E h3)⟩
theorem ev_joined' {tes : List TE} {mk : Str → M Str} {m : M Str} (h : EvJ K W tes Γ mk) (e : m = mk Str.empty := by rfl) : EvR K W (fun σ H Q => tJs tes Str.empty σ H fun out H1 => Q (.str out) H1) Γ m := by rw [e]; exact ev_joined h
theorem rd_par' {i j : Nat} {t : TA} {mk : ∀ {θ : Type}, (α × β × Unit → M θ) → M θ} {m : M ω} {k : α → β → M ω} (h : EvC (ι := α × β × Unit) K W t Γ mk) (hr : ∀ a b, Rd K W P rest ((Γ.set i (.val (d a))).set j (.val (d b))) (k a b)) (e : m = mk fun i => k i.1 i.2.1 := by rfl) :
    Rd K W P (tSeq (tPar i j t) rest) Γ m := by rw [e]; exact rd_par h fun a b => hr a b
theorem rd_par3' {i j l : Nat} {t : TA} {mk : ∀ {θ : Type}, (α × β × γ × Unit → M θ) → M θ} {m : M ω} {k : α → β → γ → M ω} (h : EvC (ι := α × β × γ × Unit) K W t Γ mk) (hr : ∀ a b c, Rd K W P rest (((Γ.set i (.val (d a))).set j (.val (d b))).set l (.val (d c))) (k a b c)) (e : m = mk fun i => k i.1 i.2.1 i.2.2.1 := by rfl) :
    Rd K W P (tSeq (tPar3 i j l t) rest) Γ m := by rw [e]; exact rd_par3 h fun a b c => hr a b c
theorem rd_skip {m : M ω} (h : Rd K W P rest Γ m) : Rd K W P (tSeq tNext rest) Γ m := h
theorem rd_assoc {a b : TS} {m : M ω} (h : Rd K W P (tSeq a (tSeq b rest)) Γ m) : Rd K W P (tSeq (tSeq a b) rest) Γ m := h
theorem takesF {X : Cx} : Takes X WF := fun u s' ⟨_, _, _, _, _, _, _, _, _, _, _, _, _, _, _, _, w⟩ => w.elim
/-- (the ways that are never taken) -/
theorem ev_as' {m : M α} (f : α → β) (h : EvR K W te Γ m) (hf : ∀ a, d a = d (f a) := by intro _; rfl) : EvR K W te Γ (do let a ← m; pure (f a)) := ev_as h hf
/-! ### a made instance whose class has a plain constructor -/
theorem ev_make' {c : Str} {C : Addr} (hC : He.ga K c = C) {ι : Type} [ToDs ι] {t : TA} {mk : ∀ {θ : Type}, (ι → M θ) → M θ} {g : ι → Res α} {m : M α} {dvs : List V} {κ : Type} [ToDs κ] {fk : κ → Res (List (Str × D))} (j : ι → κ)
    (hj : ∀ G vs i, Reps K G vs (ds i) → Reps K G (vs ++ dvs) (ds (j i))) (hf : ∀ i, match fk (j i), g i with | .ok fs, .ok a => d a = .ins c fs | .err c fs, r => r = .err c fs | _, r => r = .stuck) (h : EvC K W t Γ mk) (e : m = mk fun i => lft (g i) := by rfl) :
    EvR K W (tMakeS C (spI K C [] fk) dvs (WE W) t) Γ m := by rw [e]; exact ev_make hC h j hj hf
end
end N

set_option Elab.async false
set_option linter.all false
set_option maxRecDepth 100000
set_option maxHeartbeats 4000000
/-! N11: Ratios and numbers as data, their operators as rules; errors raised; a box made; the script. -/
namespace N
open PySem PySem.Spec PyProof.Rows L2 J
open ToD (d)
open ToDs (ds)
open M

/-! ### Ratios -/
structure Rt where
  n : Int
  u : Int
instance : ToD Rt := ⟨fun q => .ins "Ratio" [("above", .int q.n), ("under", .int q.u)]⟩
instance : InsOf Rt "Ratio" := ⟨fun q => [("above", .int q.n), ("under", .int q.u)], fun _ => rfl⟩
instance : NotNon Rt := ⟨fun _ z => nomatch z⟩
/-- an integer or a Ratio -/
inductive Nm where
  | i (n : Int) | r (q : Rt)
instance : ToD Nm := ⟨fun x => match x with
  | .i n => .int n
  | .r q => d q⟩
instance : NotNon Nm := ⟨fun a z => by cases a <;> cases z⟩
def Nm.n : Nm → Int
  | .i n => n
  | .r q => q.n
def Nm.u : Nm → Int
  | .i _ => 1
  | .r q => q.u
/-- an instance's fields read back -/
class UnIns (α : Type) (c : outParam Str) [ToD α] [InsOf α c] where
  un : List (Str × D) → Option α
  eq : ∀ fs a, un fs = some a → fs = InsOf.fs a
instance : UnIns Rt "Ratio" := ⟨fun fs => match fs with
  | [(a, .int n), (b, .int u)] => if a = "above" ∧ b = "under" then some ⟨n, u⟩ else none
  | _ => none, fun fs a h => by
    split at h
    · rename_i x n y u
      split at h
      · rename_i hc
        obtain ⟨rfl, rfl⟩ := hc
        cases h
        rfl
      · cases h
    · cases h⟩
def newOf {α : Type} {c : Str} [ToD α] [InsOf α c] [UnIns α c] : Res (List (Str × D)) → Res α
  | .ok fs => match UnIns.un fs with
    | some a => .ok a
    | none => .stuck
  | .err c fs => .err c fs
  | .stuck => .stuck
theorem newOf_ok {α : Type} {c : Str} [ToD α] [InsOf α c] [UnIns α c] (r : Res (List (Str × D))) : match r, (newOf r : Res α) with
  | .ok fs, .ok a => d a = .ins c fs
  | .err c fs, r => r = .err c fs
  | _, r => r = .stuck := by
  cases r with
  | err c fs => rfl
  | stuck => rfl
  | ok fs =>
    unfold newOf
    cases h : (UnIns.un fs : Option α) with
    | none => simp only [h]
    | some a =>
      simp only [h]
      rw [UnIns.eq fs a h]
      exact InsOf.eq a
section
variable {X : Cx} {k : Nat} {sp : Sp} {ps : List Str}
/-- what the operators lean on -/
structure OpsR (K : PySem.W.Frag) : Prop where
  own : OwnC K (He.ga K "Ratio")
  aI : Apart K (He.ga K "Ratio") "int"
  o_add : OpC K (He.ga K "Ratio") "add" (He.ma K (He.ga K "Ratio") "__add__") (He.ma K (He.ga K "Ratio") "__radd__")
  o_sub : OpC K (He.ga K "Ratio") "sub" (He.ma K (He.ga K "Ratio") "__sub__") (He.ma K (He.ga K "Ratio") "__rsub__")
  o_mul : OpC K (He.ga K "Ratio") "mul" (He.ma K (He.ga K "Ratio") "__mul__") (He.ma K (He.ga K "Ratio") "__rmul__")
theorem mS {K : PySem.W.Frag} {C : Addr} {nm : Str} {g f' : Addr} (h : Meth K C nm f') (e : PySem.W.findIn K (.ref C) nm = some (some (.ref g))) : f' = g := by
  have z := h.at_.symm.trans e
  cases z
  rfl
theorem nr_add (T : OpsR X.K) (c : MCal X.prog X.w X.K X.mg X.base (He.ga X.K "Ratio") "__add__" ps k sp) (hr : Room k X.A) : OpR X (binaryOp .Add) (rOwnL (He.ga X.K "Ratio") sp E0) := by
  obtain ⟨f, fd, hm, F, hb⟩ := c.ex
  cases mS hm T.o_add.l
  exact op_ownL (op := .Add) T.own T.o_add T.aI PySem.F.fills_int_add PySem.F.slot_int_radd.lookup F hr hb passE0
theorem nr_sub (T : OpsR X.K) (c : MCal X.prog X.w X.K X.mg X.base (He.ga X.K "Ratio") "__sub__" ps k sp) (hr : Room k X.A) : OpR X (binaryOp .Sub) (rOwnL (He.ga X.K "Ratio") sp E0) := by
  obtain ⟨f, fd, hm, F, hb⟩ := c.ex
  cases mS hm T.o_sub.l
  exact op_ownL (op := .Sub) T.own T.o_sub T.aI PySem.F.fills_int_sub PySem.F.slot_int_rsub.lookup F hr hb passE0
theorem nr_mul (T : OpsR X.K) (c : MCal X.prog X.w X.K X.mg X.base (He.ga X.K "Ratio") "__mul__" ps k sp) (hr : Room k X.A) : OpR X (binaryOp .Mult) (rOwnL (He.ga X.K "Ratio") sp E0) := by
  obtain ⟨f, fd, hm, F, hb⟩ := c.ex
  cases mS hm T.o_mul.l
  exact op_ownL (op := .Mult) T.own T.o_mul T.aI PySem.F.fills_int_mul PySem.F.slot_int_rmul.lookup F hr hb passE0
theorem nr_neg (c : MCal X.prog X.w X.K X.mg X.base (He.ga X.K "Ratio") "__neg__" ps k sp) (hr : Room k X.A) : UnR X (unaryOp .USub) (rOwnU (He.ga X.K "Ratio") sp E0) := by
  obtain ⟨f, fd, hm, F, hb⟩ := c.ex
  exact un_own hm.at_ hm.fn F hr hb passE0
theorem un_or {f : Value → Sem Value} {r1 r2 : V → Hp → VK → Prop} (h1 : UnR X f r1) (h2 : UnR X f r2) : UnR X f (fun x H Q => r1 x H Q ∨ r2 x H Q) := fun pins s σ H x v Q I rx h =>
  h.elim (h1 pins s σ H x v Q I rx) (h2 pins s σ H x v Q I rx)
theorem nr_str {c : Str} (m : MCal X.prog X.w X.K X.mg X.base (He.ga X.K c) "__str__" ps k sp) (hr : Room (k + 2) X.A) : CallR X (.type "str") (rStrOwn (He.ga X.K c) sp E0) := by
  obtain ⟨f, fd, hm, F, hb⟩ := m.ex
  exact call_strOwn hm.at_ hm.fn F hr hb passE0
/-! ### raise C(e) -/
structure ErrZ (P : Program) (w : World) (K : PySem.W.Frag) (mg : Str → Option Value) (base : Heap) (n fld : Str) : Prop where
  e : ErrN K mg n fld
  z : ∃ fd, FnOk P w K mg base (CXL P w) 1 (He.ma K (He.ga K n) "__init__") fd ["self", fld] (spErr K (He.ga K n) fld) ∧ Binds K fd ["self", fld] []
  db : (n == ("__debug__" : Str)) = false
theorem ps_raiseE {W : WX} {n fld : Str} {e : Expr} {te : TE} {p pos pos2 : Pos} (hc : X.calm = true) (tk : Takes X W) (T : ErrZ X.prog X.w X.K X.mg X.base n fld) (hr : Room 2 X.A) (hg : Gl X n) (he : PE X e te)
    (hst : starEach [e] X.env = (false, eval e X.env) :: starEach [] X.env := by rfl) (hpl : (backTo pos (starEach [] X.env)).any (·.1) = false := by rfl) :
    PS X (.Raise (some (.Call (.Name n p) [e] [] pos)) none pos2) (fun _ σ H => tMkO (He.ga X.K n) (spErr X.K (He.ga X.K n) fld) [] (tCons te tNil) σ H fun cls dd H' => W cls dd σ H') := by
  obtain ⟨fd, F, b⟩ := T.z
  exact ps_raise hc tk (pmk_oex T.e.c.oex T.e.c.ini T.e.c.fn F hr b .nil passE0 hg T.e.g (pa_cons he pa_nil hst) T.db hst hpl)
structure ErrZ0 (P : Program) (w : World) (K : PySem.W.Frag) (mg : Str → Option Value) (base : Heap) (n : Str) : Prop where
  e : ErrN K mg n "given"
  z : ∃ fd, FnOk P w K mg base CX0 1 (He.ma K (He.ga K n) "__init__") fd ["self"] (spErr0 (He.ga K n)) ∧ Binds K fd ["self"] []
  db : (n == ("__debug__" : Str)) = false
theorem ps_raiseE0 {W : WX} {n : Str} {p pos pos2 : Pos} (hc : X.calm = true) (tk : Takes X W) (T : ErrZ0 X.prog X.w X.K X.mg X.base n) (hr : Room 2 X.A) (hg : Gl X n) :
    PS X (.Raise (some (.Call (.Name n p) [] [] pos)) none pos2) (fun _ σ H => W (.ref (He.ga X.K n)) none σ H) := by
  obtain ⟨fd, F, b⟩ := T.z
  exact ps_raise (t := fun _ H Q => Q (.ref (He.ga X.K n)) none H) hc tk (pmk_err0 T.e.c F hr b hg T.e.g T.db)
end
/-! ### numbers -/
section
variable {ω : Type} {α β γ S : Type} [ToD α] [ToD β] [ToD γ] {K : PySem.W.Frag} {W : WX} {P : Post ω} {te ta tb : TE} {Γ : List Sl} {ts rest : TS}
theorem nm_own {G H : Hp} {v : V} {b : Nm} (s : Same G H) (r : Rep K G v (d b)) : (∃ i, v = .int i) ∨ ∃ p dy gs, v = .ref p ∧ H p = some (.ins (He.ga K "Ratio") dy gs) := by
  cases b with
  | i n => exact .inl ⟨n, rep_int (i := n) r⟩
  | r q =>
    obtain ⟨p, dx, vs, rfl, hp, _⟩ := rep_ins (c := "Ratio") (fs := InsOf.fs q) r
    exact .inr ⟨p, dx, vs, rfl, s _ _ hp⟩
theorem om_ownN {f : Rt × Nm × Unit → Res γ} : OpM K (rOwnL (He.ga K "Ratio") (spG K f) E0) (fun (a : Rt) (b : Nm) => strict (lft (f (a, b, ())))) := om_own rfl fun _ _ _ _ s r => nm_own s r
theorem um_negN {f : Rt × Unit → Res Rt} : UnM K (fun x H Q => rU (fun i => .int (-i)) x H Q ∨ rOwnU (He.ga K "Ratio") (spG K f) E0 x H Q) (fun (a : Nm) => (match a with
    | .i n => pure (.i (-n))
    | .r q => do let z ← strict (lft (f (q, ()))); pure (.r z) : M Nm)) := fun W x σ G H b Q a v s B ra h => by
  cases a with
  | i n => exact .inl ⟨n, rep_int (i := n) ra, FinE.here (α := Nm) (a := .i (-n)) (b := b) h s B (.int (-n))⟩
  | r q =>
    refine .inr (um_own (α := Rt) rfl W x σ G H b Q q v s B ra ?_)
    dsimp only at h
    rw [M.bind_def] at h
    show FinE K W x σ G H Q (strict (lft (f (q, ()))) b)
    cases z : strict (lft (f (q, ()))) b with
    | mk b' r =>
      rw [z] at h
      cases r with
      | ok y => exact h
      | err c fs => exact h
      | stuck => exact h
theorem lst_co {f : α → β} (h : ∀ y, d y = d (f y)) (xs : List α) : d xs = d (xs.map f) := by
  show D.lst (xs.map d) = D.lst ((xs.map f).map d)
  rw [List.map_map]
  congr 1
  exact List.map_congr_left fun y _ => h y
/-- an option that holds something -/
def unopt {α : Type} (o : Option α) : M α := match o with
  | some a => pure a
  | none => M.stuck
theorem ev_unopt {m : M (Option α)} (h : EvR K W te Γ m) : EvR K W te Γ (do let o ← m; unopt o) := fun x σ G H b Q E s B h' =>
  step_E (te := te) h E s B h' fun a b' v G' H' h2 e E2 s2 B2 r => by
    cases a with
    | none => exact False.elim h2
    | some z => exact FinE.here (b := b') h2 s2 B2 r
/-- isinstance of anything -/
theorem ev_isiD {cs : List Str} {c : V} {u : Value} {bf : D → Bool} {m : M D} (hcs : ∀ c ∈ cs, InsC K c) (hc : ClsV c u) (hb : ∀ a, KnownD cs a → PySem.W.kitOne K (tyD K a) u = some (bf a)) (h : EvR K W te Γ m) :
    EvR K W (tCB (rIsi K) (tCons te (tCons (tC c) tNil))) Γ (do let a ← m; need (KnownD cs a); pure (bf a)) := fun x σ G H b Q E s B h' =>
  step_E (te := te) h E s B h' fun a b' v G' H' h2 e E2 s2 B2 r => by
    obtain ⟨hk, h3⟩ := need_fin h2
    exact ⟨v, c, _, u, bf a, rfl, hc, rep_ty hcs s2 r hk, hb a hk, h3.here s2 B2 (.bl _)⟩
theorem rd_try_drop {ρ : Type} [ToD ρ] {P : Post ω} {rk : ρ → ω} (hP : RetOk K P rk) {i : Nat} {C : Value} {tb : WX → TE} {ts : Addr → Value → Option Addr → TE} {cs : List Str} (hx : ∀ c ∈ cs, PySem.W.exmOne K (.ref (He.ga K c)) C = some true)
    {m : M α} {k : α → M ω} {mh : Str → List (Str × D) → M ρ} (h : ∀ W', EvR K W' (tb W') Γ m) (hs : ∀ a dd c' fs, c' ∈ cs → EvR K WF (ts a (.ref (He.ga K c')) dd) (Γ.set i (.exc a dd c' fs)) (mh c' fs))
    (hr : ∀ a, Rd K W P rest Γ (k a)) :
    Rd K W P (tSeq (fun L σ H => tDrop (tb (wAs K C i (fun a cls d => tRet (ts a cls d)) W L)) L σ H) rest) Γ (tryM cs m k fun c fs => do let v ← strict (mh c fs); pure (rk v)) := fun x σ G0 H0 Gs G H b L E F s B e hf => by
  refine h _ x σ G H b _ E s B ?_
  unfold tryM at hf
  cases q : m b with
  | mk b' r =>
    rw [q] at hf
    cases r with
    | stuck => exact hf
    | ok a => exact fun v G' H' e1 B1 r1 => hr a x _ G0 H0 Gs G' H' b' L (E.ext e1) F e1.gh B1 (e.step e1) hf
    | err c' fs => exact fun dd G' H' e1 B1 rx => suite_ret (W := W) (c := c') (L := L) rfl hP hx hs E s e (by
        by_cases hc : c' ∈ cs
        · rw [if_pos hc]
          dsimp only at hf
          rw [if_pos hc] at hf
          revert hf
          generalize ((strict (mh c' fs) >>= fun v => pure (rk v)) b') = z
          intro hf
          exact hf
        · dsimp only at hf
          rw [if_neg hc] at hf
          exact False.elim hf) dd G' H' e1 B1 rx
theorem spI_len {ι : Type} [ToDs ι] {C : Addr} {fs0 : List (Str × D)} {f : ι → Res (List (Str × D))} {vs : List V} {H : Hp} {Q : VK} {E : XK} {n : Nat} (h : spI K C fs0 f vs H Q E) (hn : ∀ i : ι, (ds i).length = n) : vs.length = n + 1 := by
  obtain ⟨a, dx, gs0, ws, i, G, rfl, _, _, _, _, rs, _⟩ := h
  rw [List.length_cons, rs.length, hn]
theorem call_or {X : Cx} {f : Value} {r1 r2 : List V → Hp → VK → Prop} (h1 : CallR X f r1) (h2 : CallR X f r2) : CallR X f (fun xs H Q => r1 xs H Q ∨ r2 xs H Q) := fun pins s σ H xs us Q I rx h =>
  h.elim (h1 pins s σ H xs us Q I rx) (h2 pins s σ H xs us Q I rx)
/-- str of a number -/
noncomputable def strN (f : Rt → Res Str) (a : Nm) : M Str := match a with
  | .i n => fmtI n
  | .r q => strict (lft (f q))
theorem cm_strN {f : Rt × Unit → Res Str} : CallM K (fun xs H Q => (∃ i, xs = [.int i] ∧ i.natAbs.log2 < 1920 ∧ Q (.str (toString i)) H) ∨ rStrOwn (He.ga K "Ratio") (spG K f) E0 xs H Q) (fun (i : Nm × Unit) => strN (fun q => f (q, ())) i.1) := fun W x σ G H b Q i vs s B rs h => by
  obtain ⟨a, u⟩ := i
  cases a with
  | i n => exact .inl (cm_strI W x σ G H b Q (n, ()) vs s B rs h)
  | r q => exact .inr (cm_strOwn (α := Rt) rfl W x σ G H b Q (q, ()) vs s B rs h)
noncomputable def negN (f : Rt → Res Rt) (a : Nm) : M Nm := match a with
  | .i n => pure (.i (-n))
  | .r q => do
    let z ← strict (lft (f q))
    pure (.r z)
/-! ### what a value of any kind is -/
def isIntB : D → Bool
  | .int _ => true
  | .bl _ => true
  | _ => false
def isBlB : D → Bool
  | .bl _ => true
  | _ => false
def isStrB : D → Bool
  | .str _ => true
  | _ => false
def isInsB (c : Str) : D → Bool
  | .ins c' _ => decide (c' = c)
  | _ => false
def toStr : D → Option Str
  | .str s => some s
  | _ => none
theorem toStr_eq {x : D} {s : Str} (h : toStr x = some s) : x = d s := by
  cases x <;> cases h
  rfl
def toNm : D → Option Nm
  | .int n => some (.i n)
  | .ins c fs => if c = "Ratio" then (UnIns.un (α := Rt) fs).map .r else none
  | _ => none
theorem toNm_eq {x : D} {a : Nm} (h : toNm x = some a) : x = d a := by
  unfold toNm at h
  split at h
  · cases h; rfl
  · split at h
    · rename_i c fs hc
      cases q : UnIns.un (α := Rt) fs with
      | none => rw [q] at h; cases h
      | some r =>
        rw [q] at h
        cases h
        rw [hc, UnIns.eq fs r q]
        rfl
    · cases h
  · cases h
theorem kit_tt {T : String} : PySem.W.kitOne K (.type T) (.type T) = some true := by unfold PySem.W.kitOne; rw [if_pos (by simp)]
theorem isi_int (hR : PySem.W.kitOne K (.ref (He.ga K "Ratio")) (.type "int") = some false) : ∀ a, KnownD ["Ratio"] a → PySem.W.kitOne K (tyD K a) (.type "int") = some (isIntB a) := by
  intro a h
  cases a with
  | int _ => exact kit_tt
  | ins c fs => cases List.mem_singleton.mp h; exact hR
  | _ => rfl
theorem isi_bool (hR : PySem.W.kitOne K (.ref (He.ga K "Ratio")) (.type "bool") = some false) : ∀ a, KnownD ["Ratio"] a → PySem.W.kitOne K (tyD K a) (.type "bool") = some (isBlB a) := by
  intro a h
  cases a with
  | bl _ => exact kit_tt
  | ins c fs => cases List.mem_singleton.mp h; exact hR
  | _ => rfl
theorem isi_str (hR : PySem.W.kitOne K (.ref (He.ga K "Ratio")) (.type "str") = some false) : ∀ a, KnownD ["Ratio"] a → PySem.W.kitOne K (tyD K a) (.type "str") = some (isStrB a) := by
  intro a h
  cases a with
  | str _ => exact kit_tt
  | ins c fs => cases List.mem_singleton.mp h; exact hR
  | _ => rfl
theorem isi_Ratio (h1 : ∀ T ∈ (["int", "bool", "NoneType", "str", "list", "tuple", "dict"] : List String), PySem.W.kitOne K (.type T) (.ref (He.ga K "Ratio")) = some false) : ∀ a, KnownD ["Ratio"] a → PySem.W.kitOne K (tyD K a) (.ref (He.ga K "Ratio")) = some (isInsB "Ratio" a) := by
  intro a h
  cases a with
  | ins c fs =>
    cases List.mem_singleton.mp h
    show PySem.W.kitOne K (.ref (He.ga K "Ratio")) (.ref (He.ga K "Ratio")) = some (decide (("Ratio" : Str) = "Ratio"))
    rw [decide_eq_true rfl]
    exact kit_self
  | _ => exact h1 _ (by simp [tyD])
end
theorem passes_cx {P : Program} {w : World} {K : PySem.W.Frag} {mg : Str → Option Value} {base : Heap} {N : List Str} {qual : Str} {scope : Scope} {f : Addr} {cdv : Value} {A : Around} {outer : List PySem.Env} {s : Shared} {H : Hp} {E : XK} :
    PassesOwn (model P w) (cxOf (CXL P w) P w K mg base N qual scope f cdv A outer s H E).A (cxOf (CXL P w) P w K mg base N qual scope f cdv A outer s H E).env (cxOf (CXL P w) P w K mg base N qual scope f cdv A outer s H E).xe := passes_of rfl
theorem takes_cx {P : Program} {w : World} {K : PySem.W.Frag} {mg : Str → Option Value} {base : Heap} {N : List Str} {qual : Str} {scope : Scope} {f : Addr} {cdv : Value} {A : Around} {outer : List PySem.Env} {s : Shared} {H : Hp} {E : XK} :
    Takes (cxOf (CXL P w) P w K mg base N qual scope f cdv A outer s H E) (fun cls d _ H => E cls d H) := takes_of rfl rfl rfl rfl
end N

set_option Elab.async false
set_option linter.all false
set_option maxRecDepth 100000
set_option maxHeartbeats 4000000
/-! N12: rules whose readings name the written part, that part told apart (so that they serve within a comprehension). -/
namespace N
open PySem PySem.Spec PyProof.Rows L2 J
section
variable {X : Cx} {K : PySem.W.Frag} {k : Nat} {sp : Sp} {ps : List Str} {e : Expr} {ta : TE} {f : Str} {pos : Pos}
theorem ix_listK (hK : X.K = K) : IxR X (rIxL K) := hK ▸ ix_list
theorem ix_tupK (hK : X.K = K) : IxR X (rIxT K) := hK ▸ ix_tup
theorem ix_seqK (hK : X.K = K) : IxR X (rIx K) := hK ▸ ix_seq
theorem sl_listK (hK : X.K = K) : SlR X (rSlL K) := hK ▸ sl_list
theorem pe_fldK (hK : X.K = K) (he : PE X e ta) (hb : attributeBase e f X.env (eval e X.env) = eval e X.env := by rfl) : PE X (.Attribute e f pos) (tFld K ta f) := hK ▸ pe_fld he hb
theorem call_len_seqK (hK : X.K = K) : CallR X (.builtin "len") (fun xs H Q => ∃ p ys, xs = [.ref p] ∧ (SqL K H p ys ∨ SqT K H p ys) ∧ Q (.int ys.length) H) := hK ▸ call_len_seq
theorem cr_allK (hK : X.K = K) (hc : X.calm = true) : CallR X (.builtin "all") (rAll K) := hK ▸ cr_all hc
theorem call_isiK' (hK : X.K = K) : CallR X (.builtin "isinstance") (rIsi K) := hK ▸ call_isi
theorem call_reprK (hK : X.K = K) (hg : X.A.guards = some []) (hu : X.A.units + 60 < cLine) : CallR X (.builtin "repr") (rRepr K) := hK ▸ call_repr hg hu
theorem op_eqDK (hK : X.K = K) (hu : X.A.units + 64 < cLine) : OpR X (compareOp .Eq) (rEqD K) := hK ▸ op_eqD hu
theorem op_neDK (hK : X.K = K) (hu : X.A.units + 64 < cLine) : OpR X (compareOp .NotEq) (rNeD K) := hK ▸ op_neD hu
theorem call_tuple_ofK (hK : X.K = K) : CallR X (.type "tuple") (fun xs H Q => ∃ p ys, xs = [.ref p] ∧ ((SqL K H p ys ∧ ∀ l, H l = none → Q (.ref l) (upd H l (.tup ys))) ∨ (SqT K H p ys ∧ Q (.ref p) H))) := hK ▸ call_tuple_of
theorem call_list_ofK (hK : X.K = K) : CallR X (.type "list") (fun xs H Q => ∃ p ys, xs = [.ref p] ∧ (SqL K H p ys ∨ SqT K H p ys) ∧ ∀ l, H l = none → Q (.ref l) (upd H l (.lst ys))) := hK ▸ call_list_of
theorem pi_listK {tg iter : Expr} (hK : X.K = K) (he : PE X iter ta) : PI X tg iter (iList K ta) := hK ▸ pi_list he
theorem pi_tupK {tg iter : Expr} (hK : X.K = K) (he : PE X iter ta) : PI X tg iter (iTup K ta) := hK ▸ pi_tup he
theorem nr_addK (hK : X.K = K) (T : OpsR X.K) (c : MCal X.prog X.w X.K X.mg X.base (He.ga X.K "Ratio") "__add__" ps k sp) (hr : Room k X.A) : OpR X (binaryOp .Add) (rOwnL (He.ga K "Ratio") sp E0) := hK ▸ nr_add T c hr
theorem nr_subK (hK : X.K = K) (T : OpsR X.K) (c : MCal X.prog X.w X.K X.mg X.base (He.ga X.K "Ratio") "__sub__" ps k sp) (hr : Room k X.A) : OpR X (binaryOp .Sub) (rOwnL (He.ga K "Ratio") sp E0) := hK ▸ nr_sub T c hr
theorem nr_mulK (hK : X.K = K) (T : OpsR X.K) (c : MCal X.prog X.w X.K X.mg X.base (He.ga X.K "Ratio") "__mul__" ps k sp) (hr : Room k X.A) : OpR X (binaryOp .Mult) (rOwnL (He.ga K "Ratio") sp E0) := hK ▸ nr_mul T c hr
theorem nr_negK (hK : X.K = K) (c : MCal X.prog X.w X.K X.mg X.base (He.ga X.K "Ratio") "__neg__" ps k sp) (hr : Room k X.A) : UnR X (unaryOp .USub) (rOwnU (He.ga K "Ratio") sp E0) := hK ▸ nr_neg c hr
theorem nr_strK {c : Str} (hK : X.K = K) (m : MCal X.prog X.w X.K X.mg X.base (He.ga X.K c) "__str__" ps k sp) (hr : Room (k + 2) X.A) : CallR X (.type "str") (rStrOwn (He.ga K c) sp E0) := hK ▸ nr_str m hr
end
end N

set_option Elab.async false
set_option linter.all false
set_option maxRecDepth 100000
set_option maxHeartbeats 4000000
/-! N13: callees that want nothing to be shown. -/
namespace N
open PySem PySem.Spec PyProof.Rows L2 J
structure CalG (P : Program) (w : World) (K : PySem.W.Frag) (mg : Str → Option Value) (base : Heap) (x : Str) (ps : List Str) (k : Nat) (sp : Sp) : Prop where
  ex : ∃ f fd, mg x = some (.ref f) ∧ PySem.W.keepIn K (.ref f) = true ∧ FnG P w K mg base (CXL P w) k f fd ps sp ∧ Binds K fd ps []
section
variable {X : Cx} {W : WX} {k : Nat} {ps : List Str} {sp : Sp} {x : Str} {p pos : Pos} {e : Expr} {es : List Expr} {t : TA}
theorem pe_calGS (tk : Takes X W) (c : CalG X.prog X.w X.K X.mg X.base x ps k sp) (hgd : X.A.guards = some []) (hr : Room k X.A) (hg : Gl X x) (ha : PA X (e :: es) t) (hdb : (x == ("__debug__" : Str)) = false := by decide)
    (he : starEach (e :: es) X.env = (false, eval e X.env) :: starEach es X.env := by rfl) (hpl : (backTo pos (starEach es X.env)).any (·.1) = false := by rfl) : PE X (.Call (.Name x p) (e :: es) [] pos) (tCallS sp (WE W) t) := by
  obtain ⟨f, fd, hm, hk, F0, hb⟩ := c.ex
  have F := F0 X.A hgd hr
  refine ⟨fun pins s σ H Q I h => ?_⟩
  refine wpAny_Call_Name_kw (ld_glob I hg hm ?_ hdb)
  refine PySem.W.callWith_K (h₀ := X.base) I.ok.mod.kin hk (thn (ha.run pos pins s σ H _ I h) fun us s1 ⟨vs, H1, I1, r, q⟩ => ⟨I1.kIn, ?_⟩) he hpl
  have ll : us.length = ps.length := by rw [← r.length]; exact F.len _ _ _ _ q
  have hb' := hb s1 us I1.kIn (by simpa using ll)
  rw [List.append_nil] at hb'
  refine wpAny_call (codeAny_mono (F.run X.stack s1 H1 ⟨us, []⟩ us vs Q (WE W σ) I1.env0 hb' r q) fun z s' hz => ?_)
  match z, hz with
  | .error e, hz => exact passAt tk σ pins _ _ e s' I1 hz
  | .ok (.ret u), hz => exact I1.after hz
  | .ok .next, hz => exact hz.elim
  | .ok .brk, hz => exact hz.elim
  | .ok .cont, hz => exact hz.elim
end
theorem calG_of {P : Program} {w : World} {K : PySem.W.Frag} {mg : Str → Option Value} {base : Heap} {x : Str} {ps : List Str} {k : Nat} {sp : Sp} (c : Cal P w K mg base x ps k sp) : CalG P w K mg base x ps k sp := by
  obtain ⟨f, fd, a, b, c, e⟩ := c.ex
  exact ⟨f, fd, a, b, g_of c, e⟩
end N

set_option Elab.async false
set_option linter.all false
set_option maxRecDepth 100000
set_option maxHeartbeats 4000000
/-! N14: a law's own loop over its cells. -/
namespace N
open PySem PySem.Spec PyProof.Rows L2 J
open ToD (d)
open ToDs (ds)
open M

def bodyG (a : Addr) (k : Int) (n : Nat) : List Sl := .fix (.ref a) :: .val (d k) :: .box :: List.replicate n .any
theorem bodyG_at {a : Addr} {k : Int} {n : Nat} {i : Nat} {s : Sl} (h : (bodyG a k n)[i]? = some s) : (i = 0 ∧ s = .fix (.ref a)) ∨ s = .any ∨ (i = 1 ∧ s = .val (d k)) ∨ (i = 2 ∧ s = .box) := by
  match i, h with
  | 0, h => exact .inl ⟨rfl, (Option.some.inj h).symm⟩
  | 1, h => exact .inr (.inr (.inl ⟨rfl, (Option.some.inj h).symm⟩))
  | 2, h => exact .inr (.inr (.inr ⟨rfl, (Option.some.inj h).symm⟩))
  | i + 3, h =>
    have h2 : (List.replicate n Sl.any)[i]? = some s := h
    exact .inr (.inl (List.eq_of_mem_replicate (List.mem_of_getElem? h2)))
theorem law_loopG {K : PySem.W.Frag} {W : WX} {a : Addr} {ns : List Int} {n : Nat} {wi : TI} {TB : TS} {mb : Int → M (Step Unit Bool)} {Q : VK} {tb : TE} {I : Bx → Prop}
    (hbx : ∀ (k : Int) (σ : L2.St) (H : Hp) (R : VK), σ[0]? = some (some (.ref a)) → σ[1]? = some (some (.int k)) → SqL K H a (ns.map V.int) → ns.length ≤ 1000 → 0 ≤ k → k < 1000 →
      (∀ p H1 b, H p = none → H1 p = some (.lst (bxL b)) → I b → (∀ q, q ≠ p → H1 q = H q) → R (.ref p) H1) → tb σ H R)
    (hwi : ∀ σ H R, σ[0]? = some (some (.ref a)) → SqL K H a (ns.map V.int) → (∀ j : Int, 0 ≤ j → j ≤ 1000 → R (Itr 0 j.toNat) H) → wi σ H R)
    (hn : ns.length ≤ 1000) (hbody : ∀ k : Int, Rd K W (PB (ρ := Bool) K (fun _ : Unit => .fix (.ref a) :: List.replicate (n + 2) .any)) TB (bodyG a k n) (mb k))
    (hok : ∀ (k : Int) (b : Bx), I b → ∃ b', mb k b = (b', .ok (.nx ()))) (hQ : ∀ H', Q (.bl true) H') {L : Ends} (hL : L.rt = Q) {σ : L2.St} {H : Hp} (hσ : σ.length = n + 3) (h0 : σ[0]? = some (some (.ref a))) (hS : SqL K H a (ns.map V.int)) :
    tSeq (tFor wi (gName 1) (tSeq (tAsg tb (gName 2)) TB)) (tRet (tC (.bl true))) L σ H := by
  refine hwi σ H _ h0 hS fun j j0 j1 => ?_
  refine for_range (lo := 0) (n := j.toNat) (fun _ σ H' => σ.length = n + 3 ∧ σ[0]? = some (some (.ref a)) ∧ SqL K H' a (ns.map V.int)) ⟨hσ, h0, hS⟩ ?_ ?_
  · intro i σ H' hi hp
    obtain ⟨hl, hz, hS'⟩ := hp
    have g0 : (σ.set 1 (some (V.int (0 + (i : Int)))))[0]? = some (some (.ref a)) := by rw [List.getElem?_set_ne (by decide)]; exact hz
    have g1 : (σ.set 1 (some (V.int (0 + (i : Int)))))[1]? = some (some (.int (0 + (i : Int)))) := List.getElem?_set_self (by omega)
    show (tSeq _ TB) _ (σ.set 1 (some (V.int (0 + (i : Int))))) H'
    refine hbx (0 + (i : Int)) _ _ _ g0 g1 hS' hn (by omega) (by omega) fun p H1 bx np e hB hq => ?_
    obtain ⟨b', hres⟩ := hok (0 + (i : Int)) bx hB
    have sH : Same H' H1 := fun z o hz => by rw [hq z (ne_of_none hz np)]; exact hz
    have hat : ∀ (m : Nat) (o : Option V), ((σ.set 1 (some (V.int (0 + (i : Int))))).set 2 (some (.ref p)))[m]? = some o → (m = 1 → o = some (.int (0 + (i : Int)))) ∧ (m = 2 → o = some (.ref p)) := fun m o h => by
      refine ⟨fun e => ?_, fun e => ?_⟩
      · subst e
        rw [List.getElem?_set_ne (by decide), g1] at h
        exact (Option.some.inj h).symm
      · subst e
        rw [List.getElem?_set_self (by rw [List.length_set]; omega)] at h
        exact (Option.some.inj h).symm
    have noOwn : ∀ (m : Nat) (s : Sl), (bodyG a (0 + (i : Int)) n)[m]? = some s → s.isOwn = false := fun m s h => by
      rcases bodyG_at h with ⟨_, rfl⟩ | rfl | ⟨_, rfl⟩ | ⟨_, rfl⟩ <;> rfl
    have E1 : Env K (some p) ((σ.set 1 (some (V.int (0 + (i : Int))))).set 2 (some (.ref p))) (bodyG a (0 + (i : Int)) n) H' H1 := by
      refine ⟨by rw [List.length_set, List.length_set, hl]; simp [bodyG], fun m s o h1 h2 => ?_, fun m k q s t _ h1 _ o1 => ?_, fun m q s h1 o1 => ?_⟩
      · rcases bodyG_at h1 with ⟨rfl, rfl⟩ | rfl | ⟨rfl, rfl⟩ | ⟨rfl, rfl⟩
        · rw [List.getElem?_set_ne (by decide), g0] at h2
          exact (Option.some.inj h2).symm
        · trivial
        · exact ⟨_, (hat 1 o h2).1 rfl, .int _⟩
        · exact ⟨p, (hat 2 o h2).2 rfl, rfl⟩
      · rw [noOwn m s h1] at o1; cases o1
      · rw [noOwn m s h1] at o1; cases o1
    refine hbody (0 + (i : Int)) (some p) _ H' H' H' H' H1 bx _ E1 (fun m q s h1 o1 => by rw [noOwn m s h1] at o1; cases o1) sH (fun z hz => by cases hz; exact ⟨np, e⟩)
      ⟨⟨Same.refl _, sH, fun z o _ hz => sH z o hz, fun z o _ hz hg => by rw [hz] at hg; cases hg⟩, Same.refl _⟩ ?_
    rw [hres]
    intro G2 H2 p2 B2 σ2 E2 F2
    have keepA : SqL K H2 a (ns.map V.int) := by
      rcases hS' with (hh | ⟨o, hh⟩) | hh
      · exact .inl (.inl (p2.ex.keep a _ (by intro z; cases z; rw [np] at hh; cases hh) hh))
      · exact .inl (.inr ⟨o, p2.ex.keep a _ (by intro z; cases z; rw [np] at hh; cases hh) hh⟩)
      · exact .inr hh
    have z : σ2.length = n + 3 ∧ σ2[0]? = some (some (.ref a)) ∧ SqL K H2 a (ns.map V.int) := by
      refine ⟨by rw [E2.len]; simp, ?_, keepA⟩
      obtain ⟨o, h1, h2⟩ := E2.get (i := 0) (s := .fix (.ref a)) rfl
      rw [h1, h2]
    exact ⟨z, z⟩
  · intro σ H' hp
    show L.rt (.bl true) H'
    rw [hL]
    exact hQ H'
theorem law_loop {K : PySem.W.Frag} {W W2 : WX} {a : Addr} {ns : List Int} {n : Nat} {wi : TI} {TB : TS} {mb : Int → M (Step Unit Bool)} {Q : VK}
    (hwi : ∀ σ H R, σ[0]? = some (some (.ref a)) → SqL K H a (ns.map V.int) → (∀ j : Int, 0 ≤ j → j ≤ 1000 → R (Itr 0 j.toNat) H) → wi σ H R)
    (hn : ns.length ≤ 1000) (hbody : ∀ k : Int, Rd K W (PB (ρ := Bool) K (fun _ : Unit => .fix (.ref a) :: List.replicate (n + 2) .any)) TB (bodyG a k n) (mb k))
    (hok : ∀ (k : Int) (b : Bx), InvB 0 b → ∃ b', mb k b = (b', .ok (.nx ()))) (hQ : ∀ H', Q (.bl true) H') {L : Ends} (hL : L.rt = Q) {σ : L2.St} {H : Hp} (hσ : σ.length = n + 3) (h0 : σ[0]? = some (some (.ref a))) (hS : SqL K H a (ns.map V.int)) :
    tSeq (tFor wi (gName 1) (tSeq (tAsg (tCallS spBoxL (WE W2) (tCons (tCallS (spCellL K) (WE W2) (tCons (tVar 0) (tCons (tVar 1) tNil))) tNil)) (gName 2)) TB)) (tRet (tC (.bl true))) L σ H := by
  refine law_loopG (I := InvB 0) (fun k σ H R g0 g1 hS' hn k0 k1 h => ?_) hwi hn hbody hok hQ hL hσ h0 hS
  refine ⟨_, g0, _, g1, a, ns, _, rfl, hS', hn, k0, k1, fun cc => ?_⟩
  refine ⟨cc, rfl, fun p H1 np hb hq => ?_⟩
  obtain ⟨ba, bb, bc, e, a1, a2, a3, a4, a5⟩ := hb
  refine h p H1 (ba, bb, bc) np ?_ ⟨a1, a2, a3, a4, a5⟩ hq
  unfold bxL
  rw [if_neg (show ¬ bc < 0 by omega)]
  exact e
/-- a box of two numbers (a tape): made by one def -/
def spTapeL (K : PySem.W.Frag) : Sp := fun vs H Q _ => ∃ (a : Addr) (ns : List Int) (k : Int), vs = [.ref a, .int k] ∧ SqL K H a (ns.map V.int) ∧ ns.length ≤ 1000 ∧ 0 ≤ k ∧ k < 1000 ∧
  ∀ (p : Addr) (H' : Hp) (x y : Int), H p = none → H' p = some (.lst [.int x, .int y]) → 0 ≤ x → 0 ≤ y → y < 2147483648 → (∀ q, q ≠ p → H' q = H q) → Q (.ref p) H'
def InvT (s : Bx) : Prop := 0 ≤ s.1 ∧ 0 ≤ s.2.1 ∧ s.2.1 < 2147483648 ∧ s.2.2 = -1
theorem law_loopT {K : PySem.W.Frag} {W W2 : WX} {a : Addr} {ns : List Int} {n : Nat} {wi : TI} {TB : TS} {mb : Int → M (Step Unit Bool)} {Q : VK}
    (hwi : ∀ σ H R, σ[0]? = some (some (.ref a)) → SqL K H a (ns.map V.int) → (∀ j : Int, 0 ≤ j → j ≤ 1000 → R (Itr 0 j.toNat) H) → wi σ H R)
    (hn : ns.length ≤ 1000) (hbody : ∀ k : Int, Rd K W (PB (ρ := Bool) K (fun _ : Unit => .fix (.ref a) :: List.replicate (n + 2) .any)) TB (bodyG a k n) (mb k))
    (hok : ∀ (k : Int) (b : Bx), InvT b → ∃ b', mb k b = (b', .ok (.nx ()))) (hQ : ∀ H', Q (.bl true) H') {L : Ends} (hL : L.rt = Q) {σ : L2.St} {H : Hp} (hσ : σ.length = n + 3) (h0 : σ[0]? = some (some (.ref a))) (hS : SqL K H a (ns.map V.int)) :
    tSeq (tFor wi (gName 1) (tSeq (tAsg (tCallS (spTapeL K) (WE W2) (tCons (tVar 0) (tCons (tVar 1) tNil))) (gName 2)) TB)) (tRet (tC (.bl true))) L σ H := by
  refine law_loopG (I := InvT) (fun k σ H R g0 g1 hS' hn k0 k1 h => ?_) hwi hn hbody hok hQ hL hσ h0 hS
  refine ⟨_, g0, _, g1, a, ns, _, rfl, hS', hn, k0, k1, fun p H1 x y np e a1 a2 a3 hq => ?_⟩
  refine h p H1 (x, y, -1) np ?_ ⟨a1, a2, a3, rfl⟩ hq
  unfold bxL
  rw [if_pos (show (-1 : Int) < 0 by decide)]
  exact e
/-- a number below m is drawn from a tape -/
noncomputable def pickM (m : Int) : M Int := open Classical in fun s =>
  if s.2.2 = -1 ∧ 0 < m ∧ m.natAbs.log2 < 9000 ∧ 0 ≤ s.1 ∧ 0 ≤ s.2.1 ∧ s.2.1 < 2147483648 then
    (if 1000000000000000000 ≤ s.1 then ((s.1 / m, s.2.1, -1), .ok (s.1 % m))
     else ((s.1, (s.2.1 * 48271 + s.1 * 69621 + 11) % 2147483647, -1), .ok ((((s.2.1 * 48271 + s.1 * 69621 + 11) % 2147483647) * ((s.2.1 * 48271 + s.1 * 69621 + 11) % 2147483647) + ((s.2.1 * 48271 + s.1 * 69621 + 11) % 2147483647) * 40692 + 7) % 2147483399 / 64 % m)))
  else (s, .stuck)
theorem pick_ok {m : Int} {s : Bx} (h : InvT s) (hm : 0 < m) (hm2 : m < 10 ^ 40) : ∃ r s', pickM m s = (s', .ok r) ∧ 0 ≤ r ∧ r < m ∧ InvT s' := by
  obtain ⟨a, b, c⟩ := s
  obtain ⟨h1, h2, h3, h4⟩ := h
  dsimp only at h1 h2 h3 h4
  unfold pickM
  dsimp only
  rw [if_pos ⟨h4, hm, log_lt hm hm2, h1, h2, h3⟩]
  split
  · exact ⟨_, _, rfl, Int.emod_nonneg _ (by omega), Int.emod_lt_of_pos _ hm, Int.ediv_nonneg h1 (by omega), h2, h3, rfl⟩
  · have y0 := Int.emod_nonneg (b * 48271 + a * 69621 + 11) (show (2147483647 : Int) ≠ 0 by decide)
    have y1 := Int.emod_lt_of_pos (b * 48271 + a * 69621 + 11) (show (0 : Int) < 2147483647 by decide)
    exact ⟨_, _, rfl, Int.emod_nonneg _ (by omega), Int.emod_lt_of_pos _ hm, h1, y0, Int.lt_trans y1 (by decide), rfl⟩
end N

set_option Elab.async false
set_option linter.all false
set_option maxRecDepth 100000
set_option maxHeartbeats 4000000
/-! N15: plain facts: numbers in mirrors, the greatest common part, words of digits, texts cut at a sign. -/
namespace N
open PySem PySem.Spec PyProof.Rows L2 J
open ToD (d)
open ToDs (ds)
open M

theorem run_lft {α : Type} (m : M α) (a : α) (h : m = pure a) : lft (M.run m) = pure a := by rw [h]; rfl
theorem mulM_ok {i j : Int} (h : CMulW i j) : mulM i j = pure (i * j) := by
  unfold mulM guI
  rw [need_T h]
  rfl
theorem mulM_lt {i j : Int} {a b : Nat} (h1 : i.natAbs < 2 ^ a) (h2 : j.natAbs < 2 ^ b) (l : a + b + 2 ≤ 1000000) : mulM i j = pure (i * j) :=
  mulM_ok (wide_mul (a := a + 1) (b := b + 1) (Nat.lt_of_lt_of_le h1 (Nat.pow_le_pow_right (by decide) (Nat.le_succ _))) (Nat.lt_of_lt_of_le h2 (Nat.pow_le_pow_right (by decide) (Nat.le_succ _))) (Nat.succ_pos _) (Nat.succ_pos _) (by omega))
theorem fdivM_ok {i j : Int} (h : j ≠ 0) (h2 : j.natAbs < 2 ^ 8000) : fdivM i j = pure (i.fdiv j) := by
  unfold fdivM guI
  rw [need_T ⟨h, Nat.lt_of_lt_of_le (PySem.Flt.log2_lt_of (by decide) h2) (by decide)⟩]
  rfl
theorem modM_ok {i j : Int} (h : 0 < j) : modM i j = pure (i % j) := by
  unfold modM guI
  rw [need_T h]
  rfl
theorem powM_ok {i j : Int} (h : CPow i j) : powM i j = pure (i ^ j.toNat) := by
  unfold powM guI
  rw [need_T h]
  rfl
theorem fmtI_ok {i : Int} (h : i.natAbs < 2 ^ 1900) : fmtI i = pure (toString i : Str) := by
  unfold fmtI
  rw [need_T (Nat.lt_of_lt_of_le (PySem.Flt.log2_lt_of (by decide) h) (by decide))]
  rfl
theorem sizeLine_big : 1000000 ≤ sizeLine := by rw [sizeLine_eq]; omega
theorem addS_ok {a b : Str} (h : a.length + b.length ≤ 1000000) : addS a b = pure (a ++ b) := by
  unfold addS
  rw [need_T (Nat.le_trans h sizeLine_big)]
  rfl
theorem lenS_ok {a : Str} (h : a.length ≤ 1000000) : lenS a = pure (a.length : Int) := by
  unfold lenS
  rw [need_T (Nat.le_trans h sizeLine_big)]
  rfl
theorem slS_ok {a : Str} {lo hi : Option Int} (h : a.length ≤ 1000000) : slS a lo hi = pure (cutS a lo hi) := by
  unfold slS
  rw [need_T (Nat.le_trans h sizeLine_big)]
  rfl
theorem catM_ok {α : Type} {a b : List α} (h : a.length + b.length ≤ 1000000) : catM a b = pure (a ++ b) := by
  unfold catM
  rw [need_T (Nat.le_trans h sizeLine_big)]
  rfl
theorem rng1_ok {j : Int} (h : 0 ≤ j) (h2 : j ≤ 1000000) : rng1 j = pure (rng 0 j) := by
  unfold rng1
  rw [need_T ⟨by omega, by omega⟩]
  rfl
theorem gcdStep {x y : Int} (hx : 0 ≤ x) (hy : 0 < y) : Int.gcd y (x % y) = Int.gcd x y := by
  obtain ⟨m, rfl⟩ := Int.eq_ofNat_of_zero_le hx
  obtain ⟨n, rfl⟩ := Int.eq_ofNat_of_zero_le (Int.le_of_lt hy)
  show Nat.gcd n ((m : Int) % (n : Int)).natAbs = Nat.gcd m n
  have e : ((m : Int) % (n : Int)).natAbs = m % n := by omega
  rw [e, Nat.gcd_comm n, ← Nat.gcd_rec, Nat.gcd_comm]
theorem while_gcd {ρ : Type} : ∀ (n : Nat) (x y : Int), 0 ≤ x → 0 ≤ y → y.natAbs + 1 ≤ n →
    whileM (ρ := ρ) (fun s : Int × Int => pure (!decide (s.2 = 0))) (fun s => modM s.1 s.2 >>= fun r => pure (.nx (s.2, r))) n (x, y) = pure (.nx (((Int.gcd x y : Nat) : Int), 0))
  | 0, x, y, _, _, h => by omega
  | n + 1, x, y, hx, hy, h => by
    unfold whileM
    simp only [pure_bind]
    by_cases z : y = 0
    · subst z
      simp only [decide_true, Bool.not_true, Bool.false_eq_true, if_false]
      have e : ((Int.gcd x 0 : Nat) : Int) = x := by rw [Int.gcd_zero_right]; omega
      rw [e]
    · simp only [z, decide_false, Bool.not_false, if_true]
      have hp : 0 < y := by omega
      rw [modM_ok hp]
      simp only [pure_bind]
      have m1 := Int.emod_nonneg x z
      have m2 := Int.emod_lt_of_pos x hp
      rw [while_gcd n y (x % y) hy m1 (by omega), gcdStep hx hp]
theorem gcdAbs (a b : Int) : Int.gcd (if a < 0 then -a else a) (if b < 0 then -b else b) = Int.gcd a b := by
  split <;> split <;> simp

/-! ### words of digits -/
def plainL (l : List Nat) : Bool := !l.isEmpty && (l.all (fun c => decide (48 ≤ c ∧ c ≤ 57)) && (l == [48] || !(l.head? == some 48)))
theorem plain_numL {l : List Nat} (h : plainL l = true) : ∃ n : Nat, l = TL.numL n := by
  unfold plainL at h
  simp only [Bool.and_eq_true, Bool.not_eq_true', Bool.or_eq_true, beq_iff_eq] at h
  obtain ⟨h0, h1, h2⟩ := h
  have hd : PySem.NumText.AllDigits l := fun c hc => by
    have := List.all_eq_true.mp h1 c hc
    simpa using this
  refine ⟨PySem.NumText.digitsVal l, ?_⟩
  unfold TL.numL
  rw [PySem.NumText.toDigits_all l hd]
  cases l with
  | nil => simp at h0
  | cons c r =>
    rcases h2 with h2 | h2
    · cases h2
      decide
    · have hc : c ≠ 48 := by
        intro e
        rw [e] at h2
        simp at h2
      have e : (c :: r).dropWhile (· == 48) = c :: r := by rw [List.dropWhile_cons, if_neg (by simpa using hc)]
      rw [e]
      show c :: r = ((c :: r).map Char.ofNat).map Char.toNat
      rw [List.map_map]
      have : ∀ x ∈ c :: r, (Char.toNat ∘ Char.ofNat) x = x := fun x hx => by
        have hx2 := hd x hx
        have all : ∀ k : Nat, k < 58 → (Char.ofNat k).toNat = k := by decide
        exact all x (by omega)
      rw [List.map_congr_left this]
      simp
theorem numL_plain (n : Nat) : plainL (TL.numL n) = true := by
  unfold plainL
  have hne := TL.numL_ne n
  have hd := TL.numL_digits n
  simp only [Bool.and_eq_true, Bool.not_eq_true', Bool.or_eq_true, beq_iff_eq]
  refine ⟨by cases h : TL.numL n with | nil => exact absurd h hne | cons _ _ => rfl, List.all_eq_true.mpr fun c hc => by simpa using hd c hc, ?_⟩
  have e := PySem.NumText.toDigits_all (TL.numL n) hd
  rw [TL.numL_val] at e
  cases hl : TL.numL n with
  | nil => exact absurd hl hne
  | cons c r =>
    by_cases hc : c = 48
    · subst hc
      left
      have e2 : TL.numL n = (match (48 :: r).dropWhile (· == 48) with | [] => ['0'] | c :: r => (c :: r).map Char.ofNat).map Char.toNat := by
        show (Nat.toDigits 10 n).map Char.toNat = _
        rw [e, hl]
        rfl
      have hlen : (TL.numL n).length = r.length + 1 := by rw [hl]; rfl
      cases hw : (48 :: r).dropWhile (· == 48) with
      | nil =>
        rw [hw] at e2
        have : (TL.numL n).length = 1 := by rw [e2]; rfl
        have : r = [] := List.length_eq_zero_iff.mp (by omega)
        rw [this]
      | cons c' r' =>
        rw [hw] at e2
        have h1 : (TL.numL n).length = r'.length + 1 := by rw [e2]; simp
        have h2 : ((48 :: r).dropWhile (· == 48)).length ≤ r.length := by
          rw [List.dropWhile_cons, if_pos (show (48 == 48) = true from rfl)]
          exact List.Sublist.length_le (List.dropWhile_sublist _)
        rw [hw, List.length_cons] at h2
        omega
    · right
      simpa using hc
/-- the signs of a number's text -/
theorem tl_int (i : Int) : TL.tl (toString i : Str) = if 0 ≤ i then TL.numL i.natAbs else 45 :: TL.numL i.natAbs := by
  cases i with
  | ofNat n =>
    rw [if_pos (show 0 ≤ Int.ofNat n from Int.natCast_nonneg n)]
    exact TL.tl_num n
  | negSucc n =>
    rw [if_neg (by omega)]
    show TL.tl (Str.ofString (toString (Int.negSucc n))) = _
    rw [TL.tl_ofString]
    have e : toString (Int.negSucc n) = "-" ++ toString (n + 1) := rfl
    rw [e, String.toList_append, List.map_append]
    show [45] ++ (toString (n + 1)).toList.map Char.toNat = 45 :: TL.numL (n + 1)
    have h := TL.tl_num (n + 1)
    rw [TL.tl_ofString] at h
    have e2 : toString (((n + 1 : Nat)) : Int) = toString (n + 1) := rfl
    rw [e2] at h
    rw [h]
    rfl
theorem int_plain {w : Str} {n : Nat} (h : TL.tl w = TL.numL n) (hl : w.length ≤ 640) : intM w = pure (n : Int) := by
  have hw : w = Str.ofString (toString ((n : Nat) : Int)) := TL.ext_tl (by rw [h, TL.tl_num])
  unfold intM
  rw [need_T hl]
  simp only [pure_bind]
  rw [hw, TL.int_num (by rw [← h, ← TL.len_tl]; omega)]
/-! ### cut at a sign -/
theorem join_spl (s : Nat) : ∀ (l acc : List Nat), TL.joinL [s] (TL.spl [s] 0 acc l) = acc ++ l ∧ TL.spl [s] 0 acc l ≠ []
  | [], acc => by rw [TL.spl_nil]; simp [TL.joinL]
  | c :: r, acc => by
    by_cases h : c = s
    · subst h
      have hp : TL.pre [c] (c :: r) = true := by simp [TL.pre]
      rw [TL.spl_hit hp]
      obtain ⟨h1, h2⟩ := join_spl c r []
      refine ⟨?_, by simp⟩
      cases q : TL.spl [c] 0 [] r with
      | nil => exact absurd q h2
      | cons x y =>
        show TL.joinL [c] (acc :: TL.spl [c] 0 [] r) = _
        rw [q] at h1 ⊢
        show acc ++ ([c] ++ TL.joinL [c] (x :: y)) = acc ++ c :: r
        rw [h1]
        simp
    · have hp : TL.pre [s] (c :: r) = false := TL.pre_of_head [] r h
      rw [TL.spl_miss hp]
      obtain ⟨h1, h2⟩ := join_spl s r (acc ++ [c])
      exact ⟨by rw [h1]; simp, h2⟩
end N

set_option Elab.async false
set_option linter.all false
set_option maxRecDepth 100000
set_option maxHeartbeats 4000000
/-! N16: plain facts: lists that are made, comparisons of plain data, repr, lowest terms, texts by their signs. -/
namespace N
open PySem PySem.Spec PyProof.Rows L2 J
open ToD (d)
open ToDs (ds)
open M

theorem strict_lft {α : Type} (a : α) : strict (lft (.ok a)) = (pure a : M α) := rfl
theorem run_eq {α : Type} {m : M α} {a : α} (h : m = pure a) : M.run m = .ok a := by rw [h]; rfl
theorem run_err {α : Type} {m : M α} {c : Str} {fs : List (Str × D)} (h : m = M.raise c fs) : M.run m = .err c fs := by rw [h]; rfl
theorem ifTT {α : Type} {a b : α} : (if (true : Bool) = true then a else b) = a := rfl
theorem ifFF {α : Type} {a b : α} : (if (false : Bool) = true then a else b) = b := rfl
/-! ### lists that are made -/
theorem lcA_all {α β : Type} {g : α → β} : ∀ (xs : List α) (acc : List β), lcA (fun _ => pure true) (fun a => pure (g a)) acc xs = pure (acc ++ xs.map g)
  | [], acc => by unfold lcA; simp
  | a :: r, acc => by
    unfold lcA
    simp only [strict_pure, pure_bind, ifTT]
    rw [lcA_all r]
    simp
theorem lcM_all {α β : Type} {g : α → β} {f : α → M β} {xs : List α} (h : xs.length ≤ 1000) (hf : ∀ a ∈ xs, f a = pure (g a)) : lcM (fun _ => pure true) f xs = pure (xs.map g) := by
  unfold lcM
  rw [need_T (small_sl h)]
  simp only [pure_bind]
  have : ∀ (xs : List α) (acc : List β), (∀ a ∈ xs, f a = pure (g a)) → lcA (fun _ => pure true) f acc xs = lcA (fun _ => pure true) (fun a => pure (g a)) acc xs := fun xs => by
    induction xs with
    | nil => intro acc _; rfl
    | cons a r ih =>
      intro acc hh
      unfold lcA
      rw [hh a List.mem_cons_self]
      simp only [strict_pure, pure_bind, ifTT]
      exact ih _ fun b hb => hh b (List.mem_cons_of_mem _ hb)
  rw [this xs [] hf, lcA_all, List.nil_append]
theorem lcA_fil {α β : Type} {t : α → Bool} {T : α → M Bool} {g : α → β} {f : α → M β} : ∀ (xs : List α) (acc : List β), (∀ a ∈ xs, T a = pure (t a)) → (∀ a ∈ xs, f a = pure (g a)) → lcA T f acc xs = pure (acc ++ (xs.filter t).map g)
  | [], acc, _, _ => by unfold lcA; simp
  | a :: r, acc, hT, hf => by
    unfold lcA
    rw [hT a List.mem_cons_self, hf a List.mem_cons_self]
    simp only [strict_pure, pure_bind]
    have h1 := fun b hb => hT b (List.mem_cons_of_mem a hb)
    have h2 := fun b hb => hf b (List.mem_cons_of_mem a hb)
    cases h : t a with
    | true =>
      rw [ifTT, lcA_fil r _ h1 h2, List.filter_cons, if_pos h]
      simp
    | false =>
      rw [ifFF, lcA_fil r _ h1 h2, List.filter_cons, if_neg (by rw [h]; exact Bool.false_ne_true)]
theorem lcM_fil {α β : Type} {t : α → Bool} {T : α → M Bool} {g : α → β} {f : α → M β} {xs : List α} (h : xs.length ≤ 1000) (hT : ∀ a ∈ xs, T a = pure (t a)) (hf : ∀ a ∈ xs, f a = pure (g a)) : lcM T f xs = pure ((xs.filter t).map g) := by
  unfold lcM
  rw [need_T (small_sl h)]
  simp only [pure_bind]
  rw [lcA_fil xs [] hT hf, List.nil_append]
theorem getM_nat {α : Type} {xs : List α} {n : Nat} {a : α} (h : xs[n]? = some a) (l : n < 1000000) : getM xs (n : Int) = pure a := by
  unfold getM
  rw [atI_nat h]
theorem foldM_pure {ι S : Type} {body : ι → S → M S} {g : ι → S → S} : ∀ (xs : List ι) (s : S), (∀ a ∈ xs, ∀ s, body a s = pure (g a s)) → foldM body xs s = pure (xs.foldl (fun s a => g a s) s)
  | [], s, _ => rfl
  | a :: r, s, h => by
    unfold foldM
    rw [h a List.mem_cons_self]
    simp only [pure_bind]
    exact foldM_pure r _ fun b hb => h b (List.mem_cons_of_mem _ hb)
/-! ### comparisons -/
theorem eqD_pair (a b x y : Int) : eqD (d (a, b)) (d (x, y)) = pure (decide ((a, b) = (x, y))) := by
  show (do need (SeqAt.shaped (.tuple [.int a, .int b]) = true ∧ SeqAt.shaped (.tuple [.int x, .int y]) = true); pure (PyData.eqv (.tuple [.int a, .int b]) (.tuple [.int x, .int y])) : M Bool) = _
  rw [need_T ⟨rfl, rfl⟩]
  simp only [pure_bind, PyData.eqv, PyData.eqvAll, Bool.and_true, Prod.mk.injEq]
  congr 1
  by_cases h1 : a = x <;> by_cases h2 : b = y <;> simp [h1, h2]
theorem neD_pair (a b x y : Int) : neD (d (a, b)) (d (x, y)) = pure (!decide ((a, b) = (x, y))) := by
  show (do need (SeqAt.shaped (.tuple [.int a, .int b]) = true ∧ SeqAt.shaped (.tuple [.int x, .int y]) = true); pure (!PyData.eqv (.tuple [.int a, .int b]) (.tuple [.int x, .int y])) : M Bool) = _
  rw [need_T ⟨rfl, rfl⟩]
  simp only [pure_bind, PyData.eqv, PyData.eqvAll, Bool.and_true, Prod.mk.injEq]
  congr 1
  by_cases h1 : a = x <;> by_cases h2 : b = y <;> simp [h1, h2]
theorem pyDs_strs : ∀ xs : List Str, pyDs (xs.map d) = some (xs.map .str)
  | [] => rfl
  | x :: r => by
    show (match pyD (D.str x), pyDs (r.map d) with | some a, some b => some (a :: b) | _, _ => none) = _
    rw [pyDs_strs r]
    rfl
def plainTx (s : Str) : Prop := s.length ≤ 1000 ∧ ∀ c ∈ TL.tl s, c < 128
theorem strOk_plain {s : Str} (h : plainTx s) : PyData.strOk s = true := by
  show (s.cps.all fun c => decide (c < 0x110000)) = true
  rw [← Array.all_toList]
  exact List.all_eq_true.mpr fun c hc => by
    have := h.2 c hc
    simp only [decide_eq_true_eq]
    omega
theorem canLay_strs : ∀ xs : List Str, (∀ x ∈ xs, plainTx x) → PyData.canLayAll0 (xs.map .str) = true
  | [], _ => rfl
  | x :: r, h => by
    rw [List.map_cons, PyData.canLayAll0, canLay_strs r fun y hy => h y (List.mem_cons_of_mem _ hy), PyData.canLay0, strOk_plain (h x List.mem_cons_self)]
    rfl
theorem depth_strs : ∀ xs : List Str, PyData.depthAll (xs.map .str) = 0
  | [] => rfl
  | x :: r => by
    rw [List.map_cons, PyData.depthAll, depth_strs r]
    rfl
theorem shaped_strs {xs : List Str} (h : ∀ x ∈ xs, plainTx x) : SeqAt.shaped (.list (xs.map .str)) = true := by
  unfold SeqAt.shaped
  rw [PyData.canLay0, canLay_strs xs h, PyData.depth, depth_strs]
  rfl
theorem eqv_strs : ∀ xs ys : List Str, PyData.eqvAll (xs.map .str) (ys.map .str) = decide (xs = ys)
  | [], [] => rfl
  | [], _ :: _ => rfl
  | _ :: _, [] => rfl
  | x :: xs, y :: ys => by
    rw [List.map_cons, List.map_cons, PyData.eqvAll, eqv_strs xs ys, PyData.eqv]
    by_cases h1 : x = y <;> by_cases h2 : xs = ys <;> simp [h1, h2]
theorem eqD_strs {xs ys : List Str} (hx : ∀ x ∈ xs, plainTx x) (hy : ∀ x ∈ ys, plainTx x) : eqD (d xs) (d ys) = pure (decide (xs = ys)) := by
  show (match (pyDs (xs.map d)).map PyData.list, (pyDs (ys.map d)).map PyData.list with | some p, some q => (do need (SeqAt.shaped p = true ∧ SeqAt.shaped q = true); pure (PyData.eqv p q) : M Bool) | _, _ => M.stuck) = _
  rw [pyDs_strs, pyDs_strs]
  show (do need (SeqAt.shaped (.list (xs.map .str)) = true ∧ SeqAt.shaped (.list (ys.map .str)) = true); pure (PyData.eqv (.list (xs.map .str)) (.list (ys.map .str))) : M Bool) = _
  rw [need_T ⟨shaped_strs hx, shaped_strs hy⟩]
  simp only [pure_bind]
  rw [PyData.eqv, eqv_strs]
theorem neD_strs {xs ys : List Str} (hx : ∀ x ∈ xs, plainTx x) (hy : ∀ x ∈ ys, plainTx x) : neD (d xs) (d ys) = pure (!decide (xs = ys)) := by
  show (match (pyDs (xs.map d)).map PyData.list, (pyDs (ys.map d)).map PyData.list with | some p, some q => (do need (SeqAt.shaped p = true ∧ SeqAt.shaped q = true); pure (!PyData.eqv p q) : M Bool) | _, _ => M.stuck) = _
  rw [pyDs_strs, pyDs_strs]
  show (do need (SeqAt.shaped (.list (xs.map .str)) = true ∧ SeqAt.shaped (.list (ys.map .str)) = true); pure (!PyData.eqv (.list (xs.map .str)) (.list (ys.map .str))) : M Bool) = _
  rw [need_T ⟨shaped_strs hx, shaped_strs hy⟩]
  simp only [pure_bind]
  rw [PyData.eqv, eqv_strs]
theorem d_chs (xs : List Ch) : (d xs : D) = d (xs.map Ch.s) := by
  show D.lst (xs.map d) = D.lst ((xs.map Ch.s).map d)
  rw [List.map_map]
  rfl
/-! ### repr -/
theorem repr_len {s : Str} (h : plainTx s) : (reprText s).length ≤ 20000 := by
  have := PySem.StrLaws.reprText_len s fun c hc => Nat.lt_trans (h.2 c hc) (by decide)
  have := h.1
  omega
theorem reprM_str {s : Str} (h : plainTx s) : reprM (d s) = pure (reprText s) := by
  have hl : (reprText s).length ≤ sizeLine := Nat.le_trans (repr_len h) (Nat.le_trans (by decide) sizeLine_big)
  show (do need ((PyData.str s).hasDict = false ∧ (PyData.str s).showable = true ∧ (PyData.str s).depth ≤ 40 ∧ (PyData.str s).shown.length ≤ sizeLine); pure (PyData.str s).shown : M Str) = _
  rw [need_T ⟨by rw [PyData.hasDict], by rw [PyData.showable], by rw [PyData.depth]; decide, by rw [PyData.shown]; exact hl⟩]
  simp only [pure_bind, PyData.shown]
theorem reprM_of {x : D} {p : PyData} (hx : pyD x = some p) (h1 : p.hasDict = false) (h2 : p.showable = true) (h3 : p.depth ≤ 40) (h4 : p.shown.length ≤ 1000000) : reprM x = pure p.shown := by
  cases x with
  | dic l => cases hx
  | dicF l => cases hx
  | _ =>
    unfold reprM
    dsimp only
    rw [hx]
    dsimp only
    rw [need_T ⟨h1, h2, h3, Nat.le_trans h4 sizeLine_big⟩]
    rfl
end N

set_option Elab.async false
set_option linter.all false
set_option maxRecDepth 100000
set_option maxHeartbeats 4000000
/-! N17: plain facts: texts by their signs, words, numbers in texts. -/
namespace N
open PySem PySem.Spec PyProof.Rows L2 J
open ToD (d)
open ToDs (ds)
open M
theorem pite {α : Type} {c : Prop} [Decidable c] (a b : α) : (if c then (pure a : M α) else pure b) = pure (if c then a else b) := by split <;> rfl
theorem decStr (w y : Str) : decide (w = y) = decide (TL.tl w = TL.tl y) := decide_eq_decide.mpr ⟨fun e => by rw [e], TL.ext_tl⟩
theorem tl_take (s : Str) (i : Nat) : TL.tl (cutS s none (some (i : Int))) = (TL.tl s).take i := by
  rw [C8.cutS_slice, ← SX.S_tl s, SX.slice_to (by omega)]
  rfl
theorem tl_drop (s : Str) (i : Nat) : TL.tl (cutS s (some (i : Int)) none) = (TL.tl s).drop i := by
  rw [C8.cutS_slice, ← SX.S_tl s, SX.slice_from (by omega)]
  rfl
theorem starts_tl (s y : Str) : Txt.startswith s y = ((TL.tl s).take (TL.tl y).length == TL.tl y) := by
  show (decide (0 + y.length ≤ s.length) && PySem.Builtin.Str.subAt s y 0) = _
  rw [PySem.StrLaws.subAt_eq, List.drop_zero, TL.len_tl y, TL.len_tl s]
  by_cases h : 0 + (TL.tl y).length ≤ (TL.tl s).length
  · rw [decide_eq_true h, Bool.true_and]
  · rw [decide_eq_false h, Bool.false_and]
    refine (beq_eq_false_iff_ne.mpr fun e => h ?_).symm
    have := congrArg List.length e
    rw [List.length_take] at this
    omega
theorem splitM_ok {a b : Str} (h1 : (b.length == 0) = false) (h2 : a.length ≤ 10000) : splitM a b = pure (Txt.split a b) := by
  unfold splitM
  rw [need_T ⟨h1, Nat.le_trans (show a.length + 2 ≤ 1000000 by omega) sizeLine_big⟩]
  rfl
theorem split_tl {s y : Str} (hy : TL.tl y ≠ []) (hk : y.cps.all (· < 256) = true) : (Txt.split s y).map TL.tl = TL.spl (TL.tl y) 0 [] (TL.tl s) := TL.split_spl s y hy (TL.kind_ok hk)
theorem join_mem (S : List Nat) : ∀ ws : List (List Nat), (∀ w ∈ ws, (∀ c ∈ w, c ∈ TL.joinL S ws) ∧ w.length ≤ (TL.joinL S ws).length) ∧ (S ≠ [] → ws.length ≤ (TL.joinL S ws).length + 1)
  | [] => ⟨fun w h => absurd h List.not_mem_nil, fun _ => Nat.zero_le _⟩
  | [w] => ⟨fun v h => by rw [List.mem_singleton.mp h]; exact ⟨fun c h => h, Nat.le_refl _⟩, fun _ => Nat.succ_le_succ (Nat.zero_le _)⟩
  | w :: v :: r => by
    obtain ⟨h1, h2⟩ := join_mem S (v :: r)
    have e : TL.joinL S (w :: v :: r) = w ++ (S ++ TL.joinL S (v :: r)) := rfl
    rw [e]
    refine ⟨fun u hu => ?_, fun hS => ?_⟩
    · rcases List.mem_cons.mp hu with rfl | hu
      · exact ⟨fun c h => List.mem_append.mpr (.inl h), by simp⟩
      · obtain ⟨a, b⟩ := h1 u hu
        exact ⟨fun c h => List.mem_append.mpr (.inr (List.mem_append.mpr (.inr (a c h)))), by simp; omega⟩
    · have := h2 hS
      have : 0 < S.length := List.length_pos_iff.mpr hS
      simp only [List.length_append, List.length_cons] at *
      omega
theorem append_cut {s : Nat} : ∀ {a a' b b' : List Nat}, s ∉ a → s ∉ a' → a ++ s :: b = a' ++ s :: b' → a = a' ∧ b = b'
  | [], [], b, b', _, _, e => ⟨rfl, (List.cons.inj e).2⟩
  | [], c :: r, b, b', _, h, e => absurd (show s ∈ c :: r by rw [(List.cons.inj e).1]; exact List.mem_cons_self) h
  | c :: r, [], b, b', h, _, e => absurd (show s ∈ c :: r by rw [← (List.cons.inj e).1]; exact List.mem_cons_self) h
  | c :: r, c' :: r', b, b', h, h', e => by
    obtain ⟨e1, e2⟩ := List.cons.inj e
    obtain ⟨e3, e4⟩ := append_cut (fun m => h (List.mem_cons_of_mem _ m)) (fun m => h' (List.mem_cons_of_mem _ m)) e2
    exact ⟨by rw [e1, e3], e4⟩
/-! ### numbers in texts -/
/-- the signs of an integer -/
def sgL (i : Int) : List Nat := if 0 ≤ i then TL.numL i.natAbs else 45 :: TL.numL i.natAbs
theorem tl_sg (i : Int) : TL.tl (toString i : Str) = sgL i := tl_int i
theorem sg_free {i : Int} : 47 ∉ sgL i := by
  unfold sgL
  split
  · exact TL.numL_free (.inl (by decide))
  · exact fun h => (List.mem_cons.mp h).elim (by decide) (TL.numL_free (.inl (by decide)))
theorem num45 {n : Nat} {r : List Nat} (h : TL.numL n = 45 :: r) : False := TL.numL_free (n := n) (s := 45) (.inl (by decide)) (by rw [h]; exact List.mem_cons_self)
/-- what is a sign and a plain word is a number's text just if it is not -0 -/
theorem sg_eq {i : Int} {n : Nat} {neg : Bool} (h : sgL i = if neg = true then 45 :: TL.numL n else TL.numL n) : i = (if neg = true then -(n : Int) else (n : Int)) ∧ (neg = true → n ≠ 0) := by
  unfold sgL at h
  cases neg with
  | true =>
    rw [if_pos rfl] at h ⊢
    by_cases hi : 0 ≤ i
    · rw [if_pos hi] at h
      exact (num45 h).elim
    · rw [if_neg hi] at h
      have := TL.numL_inj (List.cons.inj h).2
      exact ⟨by omega, fun _ => by omega⟩
  | false =>
    rw [if_neg Bool.false_ne_true] at h ⊢
    by_cases hi : 0 ≤ i
    · rw [if_pos hi] at h
      have := TL.numL_inj h
      exact ⟨by omega, fun z => by cases z⟩
    · rw [if_neg hi] at h
      exact (num45 h.symm).elim
theorem sg_of {n : Nat} {neg : Bool} (h : neg = true → n ≠ 0) : sgL (if neg = true then -(n : Int) else (n : Int)) = if neg = true then 45 :: TL.numL n else TL.numL n := by
  unfold sgL
  cases neg with
  | true =>
    have := h rfl
    rw [if_pos rfl, if_pos rfl, if_neg (by omega), show (-(n : Int)).natAbs = n by omega]
  | false =>
    rw [if_neg Bool.false_ne_true, if_neg Bool.false_ne_true, if_pos (by omega), show ((n : Int)).natAbs = n by omega]
theorem num_len {n k : Nat} (hk : 0 < k) (h : n < 2 ^ k) : (TL.numL n).length ≤ k := TL.numL_len hk (Nat.lt_of_lt_of_le h (Nat.pow_le_pow_left (by decide) k))
theorem num_lt {n k : Nat} (h : (TL.numL n).length ≤ k) : n < 10 ^ k := by
  have h1 : ∀ (l : List Nat), PySem.NumText.AllDigits l → PySem.NumText.digitsVal l < 10 ^ l.length := fun l => by
    have aux : ∀ (l : List Nat) (a : Nat), PySem.NumText.AllDigits l → l.foldl (fun acc c => acc * 10 + (c - 48)) a < (a + 1) * 10 ^ l.length := fun l => by
      induction l with
      | nil => intro a _; simp
      | cons c r ih =>
        intro a h
        have hc := h c List.mem_cons_self
        have := ih (a * 10 + (c - 48)) fun x hx => h x (List.mem_cons_of_mem _ hx)
        rw [List.foldl_cons, List.length_cons, Nat.pow_succ]
        refine Nat.lt_of_lt_of_le this ?_
        rw [Nat.mul_comm (10 ^ r.length) 10, ← Nat.mul_assoc]
        exact Nat.mul_le_mul_right _ (by omega)
    intro h
    have := aux l 0 h
    rw [Nat.zero_add, Nat.one_mul] at this
    exact this
  have := h1 _ (TL.numL_digits n)
  rw [TL.numL_val] at this
  exact Nat.lt_of_lt_of_le this (Nat.pow_le_pow_right (by decide) h)
theorem sg_len {i : Int} {k : Nat} (hk : 0 < k) (h : i.natAbs < 2 ^ k) : (sgL i).length ≤ k + 1 := by
  have := num_len hk h
  unfold sgL
  split
  · omega
  · simp only [List.length_cons]; omega
theorem sg_ascii {i : Int} : ∀ c ∈ sgL i, c < 128 := by
  have h : ∀ c ∈ TL.numL i.natAbs, c < 128 := fun c hc => by
    have := TL.numL_digits i.natAbs c hc
    omega
  unfold sgL
  split
  · exact h
  · exact fun c hc => (List.mem_cons.mp hc).elim (fun e => by rw [e]; decide) (h c)
end N

set_option Elab.async false
set_option linter.all false
set_option maxRecDepth 100000
set_option maxHeartbeats 4000000
/-! N18: triples of draws: chained, with lists side by side. -/
namespace N
open PySem PySem.Spec PyProof.Rows L2 J
open ToD (d)
open ToDs (ds)
open M
theorem tri_b {α β : Type} {k l n : Int} {m : M α} {f : α → M β} {P : α → Prop} {Q : β → Prop} (h1 : Tri k m P) (hk : 0 ≤ k) (hl : 0 ≤ l) (e : k + l ≤ n) (h2 : ∀ a, P a → Tri l (f a) Q) : Tri n (m >>= f) Q := tri_up (tri_bind h1 hk hl h2) e
theorem tri_tk {β : Type} {l n m : Int} {f : Int → M β} {Q : β → Prop} (hm : 0 < m) (hm2 : m < 10 ^ 40) (hl : 0 ≤ l) (e : l + 1 ≤ n) (h2 : ∀ a, 0 ≤ a → a < m → Tri l (f a) Q) : Tri n (takeM m >>= f) Q :=
  tri_b (tri_take hm hm2) (by omega) hl (by omega) fun a h => h2 a h.1 h.2
theorem tri_p {α : Type} {a : α} {P : α → Prop} {n : Int} (hn : 0 ≤ n) (h : P a) : Tri n (pure a) P := tri_up (tri_pure h) hn
/-- two lists side by side -/
inductive Al {α β : Type} (R : α → β → Prop) : List α → List β → Prop
  | nil : Al R [] []
  | cons {a : α} {b : β} {xs : List α} {ys : List β} : R a b → Al R xs ys → Al R (a :: xs) (b :: ys)
theorem Al.len {α β : Type} {R : α → β → Prop} : ∀ {xs : List α} {ys : List β}, Al R xs ys → xs.length = ys.length
  | _, _, .nil => rfl
  | _, _, .cons _ t => by rw [List.length_cons, List.length_cons, t.len]
theorem Al.right {α β : Type} {R : α → β → Prop} : ∀ {xs : List α} {ys : List β}, Al R xs ys → ∀ y ∈ ys, ∃ x ∈ xs, R x y
  | _, _, .nil, y, h => absurd h List.not_mem_nil
  | _, _, .cons r t, y, h => by
    rcases List.mem_cons.mp h with rfl | h
    · exact ⟨_, List.mem_cons_self, r⟩
    · obtain ⟨x, a, b⟩ := t.right y h
      exact ⟨x, List.mem_cons_of_mem _ a, b⟩
theorem Al.app {α β : Type} {R : α → β → Prop} : ∀ {xs us : List α} {ys vs : List β}, Al R xs ys → Al R us vs → Al R (xs ++ us) (ys ++ vs)
  | _, _, _, _, .nil, h => h
  | _, _, _, _, .cons r t, h => .cons r (t.app h)
theorem Al.mapR {α β γ : Type} {R : α → β → Prop} {S : α → γ → Prop} {g : β → γ} (hg : ∀ a b, R a b → S a (g b)) : ∀ {xs : List α} {ys : List β}, Al R xs ys → Al S xs (ys.map g)
  | _, _, .nil => .nil
  | _, _, .cons r t => .cons (hg _ _ r) (t.mapR hg)
theorem tri_lcAR {ι β : Type} {t : ι → M Bool} {f : ι → M β} {k : Int} (hk : 0 ≤ k) {P : ι → β → Prop} : ∀ (xs zs : List ι) (acc : List β), (∀ a ∈ xs, t a = pure true) → (∀ a ∈ xs, Tri k (f a) (P a)) → Al P zs acc →
    Tri (k * xs.length) (lcA t f acc xs) (fun ys => Al P (zs ++ xs) ys)
  | [], zs, acc, _, _, ha => by
    have := tri_pure (a := acc) (P := fun ys => Al P (zs ++ []) ys) (by rw [List.append_nil]; exact ha)
    simpa [lcA] using this
  | a :: r, zs, acc, ht, hf, ha => by
    intro n s hi h0 hn
    have hl : k * ((a :: r).length : Int) = k + k * (r.length : Int) := by
      rw [List.length_cons]
      have : ((r.length + 1 : Nat) : Int) = (r.length : Int) + 1 := by omega
      rw [this, Int.mul_add, Int.mul_one, Int.add_comm]
    have hr0 : 0 ≤ k * (r.length : Int) := Int.mul_nonneg hk (by omega)
    rw [hl] at hn ⊢
    obtain ⟨y, s1, e1, py, i1⟩ := hf a List.mem_cons_self n s hi h0 (by omega)
    obtain ⟨ys, s2, e2, pz, i2⟩ := tri_lcAR hk r (zs ++ [a]) (acc ++ [y]) (fun b hb => ht b (List.mem_cons_of_mem _ hb)) (fun b hb => hf b (List.mem_cons_of_mem _ hb)) (ha.app (.cons py .nil)) (n + k) s1 i1 (by omega) (by omega)
    refine ⟨ys, s2, ?_, by rw [List.append_assoc] at pz; exact pz, by rw [← Int.add_assoc]; exact i2⟩
    unfold lcA
    rw [ht a List.mem_cons_self, strict_pure]
    show (strict (f a) >>= fun y => lcA t f (acc ++ [y]) r) s = _
    rw [M.bind_def]
    unfold strict
    rw [e1]
    exact e2
theorem tri_lcR {ι β : Type} {t : ι → M Bool} {f : ι → M β} {k : Int} (hk : 0 ≤ k) {P : ι → β → Prop} {xs : List ι} (hx : xs.length ≤ 1000) (ht : ∀ a ∈ xs, t a = pure true) (hf : ∀ a ∈ xs, Tri k (f a) (P a)) :
    Tri (k * xs.length) (lcM t f xs) (fun ys => Al P xs ys) := by
  unfold lcM
  rw [need_T (small_sl hx)]
  have := tri_lcAR hk (P := P) xs [] [] ht hf .nil
  simpa using this
theorem tri_foldI {ι S : Type} {body : ι → S → M S} {k : Int} (hk : 0 ≤ k) {I : Nat → S → Prop} : ∀ (xs : List ι) (i : Nat) (s : S), (∀ a ∈ xs, ∀ j s, j < i + xs.length → I j s → Tri k (body a s) (I (j + 1))) → I i s → Tri (k * xs.length) (foldM body xs s) (I (i + xs.length))
  | [], i, s, _, h => by
    have := tri_pure (a := s) (P := I i) h
    simpa [foldM] using this
  | a :: r, i, s, hb, h => by
    have hl : k * ((a :: r).length : Int) = k + k * (r.length : Int) := by
      rw [List.length_cons]
      have : ((r.length + 1 : Nat) : Int) = (r.length : Int) + 1 := by omega
      rw [this, Int.mul_add, Int.mul_one, Int.add_comm]
    rw [hl]
    unfold foldM
    refine tri_bind (hb a List.mem_cons_self i s (by rw [List.length_cons]; omega) h) hk (Int.mul_nonneg hk (by omega)) fun s' h' => ?_
    have := tri_foldI hk r (i + 1) s' (fun b hb' j s hj => hb b (List.mem_cons_of_mem _ hb') j s (by rw [List.length_cons]; omega)) h'
    rw [List.length_cons, show i + (r.length + 1) = i + 1 + r.length by omega]
    exact this
theorem forM_nx {ι ρ : Type} {body : ι → Unit → M (Step Unit ρ)} : ∀ (xs : List ι), (∀ a ∈ xs, body a () = pure (.nx ())) → N.forM body xs () = pure (.nx ())
  | [], _ => rfl
  | a :: r, h => by
    unfold N.forM
    rw [h a List.mem_cons_self]
    simp only [pure_bind]
    exact forM_nx r fun b hb => h b (List.mem_cons_of_mem _ hb)
theorem getM_in {α : Type} {xs : List α} {i : Int} (h0 : 0 ≤ i) (h1 : i < xs.length) : ∃ a ∈ xs, getM xs i = pure a := by
  obtain ⟨n, rfl⟩ := Int.eq_ofNat_of_zero_le h0
  have l : n < xs.length := by omega
  refine ⟨xs[n], List.getElem_mem l, ?_⟩
  unfold getM
  rw [atI_nat (List.getElem?_eq_getElem l)]
end N

set_option Elab.async false
set_option linter.all false
set_option maxRecDepth 100000
set_option maxHeartbeats 4000000
/-! N19: for the head: a promise without errors, a text among the globals. -/
namespace N
open PySem PySem.Spec PyProof.Rows L2 J
theorem FnG.down {P : Program} {w : World} {K : PySem.W.Frag} {mg : Str → Option Value} {base : Heap} {k : Nat} {f : Addr} {fd : FuncData} {ps : List Str} {sp : Sp} (hE : ∀ vs H Q E E', sp vs H Q E → sp vs H Q E') (F : FnG P w K mg base (CXL P w) k f fd ps sp) : FnG P w K mg base CX0 k f fd ps sp := fun A hg hr =>
  ⟨(F A hg hr).len, fun outer s H args us vs Q E e0 b r h => codeAny_mono ((F A hg hr).run outer s H args us vs Q E0 e0 b r (hE _ _ _ _ E0 h)) fun z s' hz => by
    match z, hz with
    | .error e, hz =>
      obtain ⟨_, _, _, _, _, _, _, _, _, _, _, _, z⟩ := hz
      exact z.elim
    | .ok (.ret u), hz => exact hz
    | .ok .next, hz => exact hz.elim
    | .ok .brk, hz => exact hz.elim
    | .ok .cont, hz => exact hz.elim⟩
/-- a global that is a text -/
theorem strB_ok {K : PySem.W.Frag} {h : Heap} {mg : Str → Option Value} (X : K.In h) (G : h.Ns mainGlobals mg) {x z : Str} (c : strB x z K = true) : ∃ u, mg x = some u ∧ RelV (.str z) u := by
  unfold strB at c
  split at c
  · rename_i y t e
    have hy := of_decide_eq_true c
    subst hy
    exact ⟨_, PySem.W.mg_of X G e, ⟨t, rfl⟩⟩
  · cases c
end N

set_option Elab.async false
set_option linter.all false
set_option maxRecDepth 100000
set_option maxHeartbeats 4000000
/-! N20: lists that grow: x = [], x.append(e), settled. -/
namespace N
open PySem PySem.Spec PyProof.Rows L2 J
open ToD (d)
open ToDs (ds)
open M
section
variable {ω : Type} {α β γ S : Type} [ToD α] [ToD β] [ToD γ] {K : PySem.W.Frag} {W : WX} {P : Post ω} {te ta tb : TE} {Γ : List Sl} {ts rest : TS}
variable {x : Option Addr} {σ : L2.St} {G H G' H' : Hp}
theorem Env.own_at (E : Env K x σ Γ G H) {i : Nat} {p : Addr} {s : Sl} (h : Γ[i]? = some s) (o : s.isOwn = true) (e : σ[i]? = some (some (.ref p))) : G p = none ∧ ∃ u, H p = some u := by
  have := E.at_ i s _ h e
  cases s with
  | own ds =>
    obtain ⟨q, xs, a, b, c, _⟩ := this
    cases a
    exact ⟨b, _, c⟩
  | slf q dx c fs =>
    obtain ⟨vs, a, b, c, _⟩ := this
    cases a
    exact ⟨b, _, c⟩
  | dct kvs =>
    obtain ⟨q, ks, a, b, c, _⟩ := this
    cases a
    exact ⟨b, _, c⟩
  | _ => cases o
/-- a slot gets a new unsettled object -/
theorem Env.setNew (E : Env K x σ Γ G H) (B : ∀ q, x = some q → ∃ u, H q = some u) {i : Nat} {p : Addr} {s : Sl} (hp : H p = none) (hs : SlOk K x G H' (some (.ref p)) s) (e : Ex x G H G H') : Env K x (σ.set i (some (.ref p))) (Γ.set i s) G H' := by
  have E2 := E.ext e
  refine ⟨by rw [List.length_set, List.length_set, E.len], fun j t o h1 h2 => ?_, fun j k q t u ne h1 h2 o1 o2 e1 e2 => ?_, fun j q t h1 o1 e1 => ?_⟩
  · by_cases z : i = j
    · subst z
      by_cases l : i < Γ.length
      · rw [List.getElem?_set_self l] at h1
        rw [List.getElem?_set_self (by rw [E.len]; exact l)] at h2
        cases h1; cases h2; exact hs
      · rw [List.getElem?_eq_none (by rw [List.length_set]; omega)] at h1; cases h1
    · rw [List.getElem?_set_ne z] at h1 h2
      exact E2.at_ j t o h1 h2
  · have old : ∀ (j : Nat) (t : Sl), i ≠ j → (Γ.set i s)[j]? = some t → t.isOwn = true → (σ.set i (some (.ref p)))[j]? = some (some (.ref q)) → q ≠ p := fun j t nj h1 o1 e1 z => by
      rw [List.getElem?_set_ne nj] at h1 e1
      obtain ⟨_, u, hu⟩ := E.own_at h1 o1 e1
      rw [z, hp] at hu; cases hu
    have new : ∀ (j : Nat) (t : Sl), i = j → (Γ.set i s)[j]? = some t → (σ.set i (some (.ref p)))[j]? = some (some (.ref q)) → q = p := fun j t nj h1 e1 => by
      subst nj
      by_cases l : i < Γ.length
      · rw [List.getElem?_set_self (by rw [E.len]; exact l)] at e1
        cases e1; rfl
      · rw [List.getElem?_eq_none (by rw [List.length_set]; omega)] at h1; cases h1
    by_cases a1 : i = j
    · by_cases a2 : i = k
      · exact ne (a1.symm.trans a2)
      · exact old k u a2 h2 o2 e2 (new j t a1 h1 e1)
    · by_cases a2 : i = k
      · exact old j t a1 h1 o1 e1 (new k u a2 h2 e2)
      · rw [List.getElem?_set_ne a1] at h1 e1
        rw [List.getElem?_set_ne a2] at h2 e2
        exact E.dis j k q t u ne h1 h2 o1 o2 e1 e2
  · by_cases a1 : i = j
    · subst a1
      by_cases l : i < Γ.length
      · rw [List.getElem?_set_self (by rw [E.len]; exact l)] at e1
        cases e1
        intro z
        obtain ⟨u, hu⟩ := B p z
        rw [hp] at hu; cases hu
      · rw [List.getElem?_eq_none (by rw [List.length_set]; omega)] at h1; cases h1
    · rw [List.getElem?_set_ne a1] at h1 e1
      exact E.xne j q t h1 o1 e1
theorem Fr.setNew {H0 : Hp} (F : Fr σ Γ H0) {i : Nat} {p : Addr} {s : Sl} (l : Γ.length = σ.length) (hp : H0 p = none) : Fr (σ.set i (some (.ref p))) (Γ.set i s) H0 := fun j q t h1 o1 e1 => by
  by_cases z : i = j
  · subst z
    by_cases l2 : i < σ.length
    · rw [List.getElem?_set_self l2] at e1; cases e1; exact hp
    · rw [List.getElem?_eq_none (by rw [List.length_set]; omega)] at e1; cases e1
  · rw [List.getElem?_set_ne z] at h1 e1
    exact F j q t h1 o1 e1
theorem Pt.fresh {G0 H0 Gs : Hp} {b : Bx} (e : Pt x G0 H0 Gs G H) (B : BoxSt x G H b) {p : Addr} (hp : H p = none) : H0 p = none := by
  cases h : H0 p with
  | none => rfl
  | some o =>
    by_cases z : x = some p
    · have := (B p z).2
      rw [hp] at this; cases this
    · have := e.ex.keep p o z h
      rw [hp] at this; cases this
/-- x = [] -/
theorem rd_new {i : Nat} {k : M ω} (hr : Rd K W P rest (Γ.set i (.own (([] : List α).map d))) k) : Rd K W P (tSeq (tAsg (tLst tNil) (gName i)) rest) Γ k := fun x σ G0 H0 Gs G H b L E F s B e hf => by
  refine ⟨Nat.zero_le _, fun p hp => ?_⟩
  have ex : Ex x G H G (upd H p (.lst [])) := Ex.raw s hp
  exact hr x _ G0 H0 Gs G _ b L (E.setNew (fun q hq => ⟨_, (B q hq).2⟩) hp ⟨p, [], rfl, s.free hp, upd_same, .nil⟩ ex) (F.setNew E.len.symm (e.fresh B hp)) ex.gh (B.raw hp) (e.step ex) hf
/-- the object of an unsettled slot is changed -/
theorem Env.upOwn (E : Env K x σ Γ G H) {i : Nat} {p : Addr} {s t : Sl} (h : Γ[i]? = some s) (o : s.isOwn = true) (ot : t.isOwn = true) (e : σ[i]? = some (some (.ref p))) {u : HO} (hs : SlOk K x G (upd H p u) (some (.ref p)) t) : Env K x σ (Γ.set i t) G (upd H p u) := by
  have li : i < Γ.length := (List.getElem?_eq_some_iff.mp h).1
  refine ⟨by rw [List.length_set, E.len], fun j w v h1 h2 => ?_, fun j k q w v ne h1 h2 o1 o2 e1 e2 => ?_, fun j q w h1 o1 e1 => ?_⟩
  · by_cases z : i = j
    · subst z
      rw [List.getElem?_set_self li] at h1
      cases h1
      rw [e] at h2
      cases h2
      exact hs
    · rw [List.getElem?_set_ne z] at h1
      have at0 := E.at_ j w v h1 h2
      have ne : w.isOwn = true → ∀ q, v = some (.ref q) → q ≠ p := fun ow q hv hq => by
        subst hq
        rw [hv] at h2
        exact E.dis i j q s w z h h1 o ow e h2
      cases w with
      | own ds =>
        obtain ⟨q, xs, a, b, c, r⟩ := at0
        exact ⟨q, xs, a, b, by rw [upd_ne (ne rfl q a)]; exact c, r⟩
      | slf q dx c fs =>
        obtain ⟨vs, a, b, c, r⟩ := at0
        exact ⟨vs, a, b, by rw [upd_ne (ne rfl q a)]; exact c, r⟩
      | dct kvs =>
        obtain ⟨q, ks, a, b, c, r⟩ := at0
        exact ⟨q, ks, a, b, by rw [upd_ne (ne rfl q a)]; exact c, r⟩
      | any => exact at0
      | val d => exact at0
      | box => exact at0
      | exc a dd c fs => exact at0
      | fix v => exact at0
  · have back : ∀ (j : Nat) (w : Sl), (Γ.set i t)[j]? = some w → w.isOwn = true → ∃ w' : Sl, Γ[j]? = some w' ∧ w'.isOwn = true := fun j w h1 o1 => by
      by_cases z : i = j
      · subst z; exact ⟨s, h, o⟩
      · rw [List.getElem?_set_ne z] at h1; exact ⟨w, h1, o1⟩
    obtain ⟨w', a1, a2⟩ := back j w h1 o1
    obtain ⟨v', b1, b2⟩ := back k v h2 o2
    exact E.dis j k q w' v' ne a1 b1 a2 b2 e1 e2
  · by_cases z : i = j
    · subst z; exact E.xne i q s h o e1
    · rw [List.getElem?_set_ne z] at h1; exact E.xne j q w h1 o1 e1
theorem Fr.upOwn {H0 : Hp} (F : Fr σ Γ H0) {i : Nat} {s t : Sl} (h : Γ[i]? = some s) (o : s.isOwn = true) : Fr σ (Γ.set i t) H0 := fun j q w h1 o1 e1 => by
  by_cases z : i = j
  · subst z; exact F i q s h o e1
  · rw [List.getElem?_set_ne z] at h1; exact F j q w h1 o1 e1
theorem Pt.up {G0 H0 Gs : Hp} {p : Addr} {u : HO} (e : Pt x G0 H0 Gs G H) (h0 : H0 p = none) (hg : G p = none) : Pt x G0 H0 Gs G (upd H p u) :=
  ⟨⟨e.ex.g, fun q o hq => by rw [upd_ne (fun z => by rw [z, hg] at hq; cases hq)]; exact e.ex.gh q o hq, fun q o nx hq => by rw [upd_ne (fun z => by rw [z, h0] at hq; cases hq)]; exact e.ex.keep q o nx hq, e.ex.uns⟩, e.gs⟩
theorem same_up {p : Addr} {u : HO} (s : Same G H) (hg : G p = none) : Same G (upd H p u) := fun q o hq => by rw [upd_ne (fun z => by rw [z, hg] at hq; cases hq)]; exact s q o hq
theorem BoxSt.up {b : Bx} (B : BoxSt x G H b) {p : Addr} {u : HO} (n : x ≠ some p) : BoxSt x G (upd H p u) b := fun q hq => by
  have : q ≠ p := fun z => n (by rw [← z]; exact hq)
  rw [upd_ne this]; exact B q hq
noncomputable def appM (xs : List α) (m : M α) : M (List α) := do
  let a ← m
  need (xs.length < sizeLine)
  pure (xs ++ [a])
/-- x.append(e) -/
theorem rd_app {i : Nat} {xs : List α} {m : M α} {k : List α → M ω} (h : EvR K W te Γ m) (hr : ∀ ys : List α, Rd K W P rest (Γ.set i (.own (ys.map d))) (k ys)) (hΓ : Γ[i]? = some (.own (xs.map d)) := by rfl) :
    Rd K W P (tSeq (tDrop (tBM K "list" rAppend (tVar i) (tCons te tNil))) rest) Γ (do let ys ← appM xs m; k ys) := fun x σ G0 H0 Gs G H b L E F s B e hf => by
  obtain ⟨o, h1, p, vs, rfl, gp, hp, rs⟩ := E.get hΓ
  refine ⟨_, h1, .inl ⟨rfl, vs, SqL.of hp⟩, ?_⟩
  have hf2 : FinS K W P x G0 H0 Gs L ((m >>= fun a => need (xs.length < sizeLine) >>= fun _ => k (xs ++ [a])) b) := by
    have : (do let ys ← appM xs m; k ys) = (m >>= fun a => need (xs.length < sizeLine) >>= fun _ => k (xs ++ [a])) := by unfold appM; simp only [bind_assoc, pure_bind]
    rw [← this]; exact hf
  refine go (te := te) good_S h E s B (f := fun a => need (xs.length < sizeLine) >>= fun _ => k (xs ++ [a])) ⟨e, hf2⟩ fun a b' v G' H' h2 e2 E2 s2 B2 r => ?_
  obtain ⟨e3, h3⟩ := h2
  have hl : xs.length < sizeLine ∧ FinS K W P x G0 H0 Gs L (k (xs ++ [a]) b') := by
    by_cases q : xs.length < sizeLine
    · rw [need_T q] at h3; exact ⟨q, h3⟩
    · unfold need at h3; rw [if_neg q] at h3; exact False.elim h3
  have sl := E2.at_ i _ _ hΓ h1
  obtain ⟨p', ws, z, gp2, hp2, rs2⟩ := sl
  cases z
  have len : ws.length = xs.length := by rw [rs2.length, List.length_map]
  have h00 := F i p _ hΓ rfl h1
  refine ⟨p, ws, v, rfl, rfl, hp2, by omega, ?_⟩
  refine hr (xs ++ [a]) x σ G0 H0 Gs G' _ b' L (E2.upOwn hΓ rfl rfl h1 ⟨p, ws ++ [v], rfl, gp2, upd_same, ?_⟩) (F.upOwn hΓ rfl) (same_up s2 gp2) (B2.up (E2.xne i p _ hΓ rfl h1)) (e3.up h00 gp2) hl.2
  rw [List.map_append]
  exact rs2.append (.cons r .nil)
/-- a list that grew is settled -/
theorem rd_settle {i : Nat} {xs : List α} {m : M ω} (hr : Rd K W P ts (Γ.set i (.val (d xs))) m) (hΓ : Γ[i]? = some (.own (xs.map d)) := by rfl) : Rd K W P ts Γ m := fun x σ G0 H0 Gs G H b L E F s B e hf => by
  obtain ⟨o, h1, p, vs, rfl, gp, hp, rs⟩ := E.get hΓ
  have h00 := F i p _ hΓ rfl h1
  have nx := E.xne i p _ hΓ rfl h1
  have sg : Same G (upd G p (.lst vs)) := fun q u hq => by rw [upd_ne (fun z => by rw [z, gp] at hq; cases hq)]; exact hq
  have sh : Same (upd G p (.lst vs)) H := fun q u hq => by
    by_cases z : q = p
    · subst z; rw [upd_same] at hq; cases hq; exact hp
    · rw [upd_ne z] at hq; exact s q u hq
  have rv : Rep K (upd G p (.lst vs)) (.ref p) (d xs) := .lst upd_same (rs.ext sg)
  have li : i < Γ.length := (List.getElem?_eq_some_iff.mp hΓ).1
  refine hr x σ G0 H0 Gs (upd G p (.lst vs)) H b L ⟨by rw [List.length_set, E.len], fun j w v q1 q2 => ?_, fun j k q w v ne q1 q2 o1 o2 e1 e2 => ?_, fun j q w q1 o1 e1 => ?_⟩ (fun j q w q1 o1 e1 => ?_) sh (fun q hq => ?_) ⟨⟨e.ex.g.trans sg, sh, e.ex.keep, fun q u n hq hg => ?_⟩, e.gs.trans sg⟩ hf
  · by_cases z : i = j
    · subst z
      rw [List.getElem?_set_self li] at q1
      cases q1
      rw [h1] at q2
      cases q2
      exact ⟨_, rfl, rv⟩
    · rw [List.getElem?_set_ne z] at q1
      have at0 := E.at_ j w v q1 q2
      have ne : w.isOwn = true → ∀ q, v = some (.ref q) → q ≠ p := fun ow q hv hq => by
        subst hq
        rw [hv] at q2
        exact E.dis i j q _ w z hΓ q1 rfl ow h1 q2
      cases w with
      | own ds =>
        obtain ⟨q, xs, a, b, c, r⟩ := at0
        exact ⟨q, xs, a, by rw [upd_ne (ne rfl q a)]; exact b, c, r.ext sg⟩
      | slf q dx c fs =>
        obtain ⟨vs, a, b, c, r⟩ := at0
        exact ⟨vs, a, by rw [upd_ne (ne rfl q a)]; exact b, c, r.ext sg⟩
      | dct kvs =>
        obtain ⟨q, ks, a, b, c, r⟩ := at0
        exact ⟨q, ks, a, by rw [upd_ne (ne rfl q a)]; exact b, c, r.ext sg⟩
      | any => exact at0
      | val d => obtain ⟨v, a, r⟩ := at0; exact ⟨v, a, r.ext sg⟩
      | box => exact at0
      | exc a dd c fs => exact ⟨at0.1, at0.2.ext sg⟩
      | fix v => exact at0
  · have back : ∀ (j : Nat) (w : Sl), (Γ.set i (.val (d xs)))[j]? = some w → w.isOwn = true → Γ[j]? = some w := fun j w q1 o1 => by
      by_cases z : i = j
      · subst z; rw [List.getElem?_set_self li] at q1; cases q1; cases o1
      · rw [List.getElem?_set_ne z] at q1; exact q1
    exact E.dis j k q w v ne (back j w q1 o1) (back k v q2 o2) o1 o2 e1 e2
  · by_cases z : i = j
    · subst z; rw [List.getElem?_set_self li] at q1; cases q1; cases o1
    · rw [List.getElem?_set_ne z] at q1; exact E.xne j q w q1 o1 e1
  · by_cases z : i = j
    · subst z; rw [List.getElem?_set_self li] at q1; cases q1; cases o1
    · rw [List.getElem?_set_ne z] at q1; exact F j q w q1 o1 e1
  · have n : q ≠ p := fun z => nx (by rw [← z]; exact hq)
    rw [upd_ne n]
    exact B q hq
  · have n2 : q ≠ p := fun z => by rw [z, h00] at hq; cases hq
    rw [upd_ne n2]
    exact e.ex.uns q u n hq hg
end
end N

set_option Elab.async false
set_option linter.all false
set_option maxRecDepth 100000
set_option maxHeartbeats 4000000
/-! N21: a class's __init__ called by the __init__ of a class below it. -/
namespace N
open PySem PySem.Spec PyProof.Rows L2 J
open ToD (d)
open ToDs (ds)
open M
/-- a class whose __init__ is read off it -/
structure ClsI (K : PySem.W.Frag) (mg : Str → Option Value) (n : Str) : Prop where
  g : mg n = some (.ref (He.ga K n))
  rd : PySem.W.readsIn K (He.ga K n) (.type "type") = true
  ga : PySem.W.specialIn K (.ref (He.ga K n)) "__getattribute__" = some (some (.builtin "type.__getattribute__"))
  ini : PySem.W.findCls K (.ref (He.ga K n)) (.type "type") "__init__" = some (.val (.ref (He.ma K (He.ga K n) "__init__")))
theorem clsIB_ok {K : PySem.W.Frag} {h : Heap} {mg : Str → Option Value} {n : Str} (X : K.In h) (G : h.Ns mainGlobals mg) (c : clsIB n K = true) : ClsI K mg n := by
  obtain ⟨h0, c⟩ := He.ba c
  obtain ⟨h1, c⟩ := He.ba c
  obtain ⟨h2, h3⟩ := He.ba c
  refine ⟨PySem.W.mg_of X G (He.eqO_ok h0), h1, He.eqO_ok h2, ?_⟩
  split at h3
  · rename_i v e
    rw [e, of_decide_eq_true h3]
  · cases h3
section
variable {X : Cx} {n : Str} {k : Nat} {fd : FuncData} {ps : List Str} {sp : Sp} {E : XK} {CX : CXT} {p1 p2 pos : Pos} {e : Expr} {es : List Expr} {t : TA}
theorem pe_clsInit {pl : Sem Bool} (T : ClsI X.K X.mg n) (F : FnOk X.prog X.w X.K X.mg X.base CX k (He.ma X.K (He.ga X.K n) "__init__") fd ps sp) (hk : PySem.W.keepIn X.K (.ref (He.ma X.K (He.ga X.K n) "__init__")) = true) (hb : Binds X.K fd ps []) (hr : Room k X.A) (hx : Passes CX X E) (hg : Gl X n) (ha : PA X (e :: es) t)
    (hdb : (n == ("__debug__" : Str)) = false := by decide)
    (hc : eval (.Call (.Attribute (.Name n p1) "__init__" p2) (e :: es) [] pos) X.env = (do
      let ov ← eval (.Name n p1) X.env
      standAt p2.atName
      let (f, first) ← holding [ov] (getMethod ov "__init__" pl)
      callWith pos f first (backTo pos (starEach (e :: es) X.env)) (backToKw pos (keywordEach [] X.env))) := by rfl)
    (he : starEach (e :: es) X.env = (false, eval e X.env) :: starEach es X.env := by rfl) (hpl : (backTo pos (starEach es X.env)).any (·.1) = false := by rfl) :
    PE X (.Call (.Attribute (.Name n p1) "__init__" p2) (e :: es) [] pos) (tCall sp [] E t) := by
  refine ⟨fun pins s σ H Q I h => ?_⟩
  refine PySem.W.methodCall_KW (ld_glob I hg T.g ?_ hdb) hc
  refine PySem.W.method_cls I.kIn T.ga (PySem.W.cls_value I.kIn T.rd T.ini (by rfl) ?_)
  show wpAny _ _ (callWith pos (Value.ref (He.ma X.K (He.ga X.K n) "__init__")) [] (backTo pos (starEach (e :: es) X.env)) []) _ _ _
  refine PySem.W.callWith_K (h₀ := X.base) I.ok.mod.kin hk (thn (ha.run pos pins _ σ H _ (I.tok _) h) fun us s1 ⟨vs, H1, I1, r, q⟩ => ⟨I1.kIn, ?_⟩) he hpl
  exact run_fn F hr hb .nil hx I1 r q
end
section
variable {ω : Type} {α β γ S : Type} [ToD α] [ToD β] [ToD γ] {K : PySem.W.Frag} {W : WX} {P : Post ω} {te ta tb : TE} {Γ : List Sl} {ts rest : TS}
/-- what such an __init__ promises: for each of these classes -/
def spSup (K : PySem.W.Frag) (cs : List Str) (f : D → D → List (Str × D)) : Sp := fun vs H Q E => ∃ c, c ∈ cs ∧ spI K (He.ga K c) [] (fun (i : D × D × Unit) => .ok (f i.1 i.2.1)) vs H Q E
theorem off_some {H : Hp} {a q : Addr} {o : HO} (h : off H a q = some o) : H q = some o ∧ q ≠ a := by
  unfold off at h
  by_cases z : q = a
  · rw [if_pos z] at h; cases h
  · rw [if_neg z] at h; exact ⟨h, z⟩
theorem rd_super {cs : List Str} {f : D → D → List (Str × D)} {c : Str} {p dx : Addr} {t : TA} {mk : ∀ {θ : Type}, (α × β × Unit → M θ) → M θ} {k : α × β × Unit → M ω} (hc : c ∈ cs) (h : EvC (ι := α × β × Unit) K W t Γ mk)
    (hr : ∀ a b, Rd K W P rest (Γ.set 0 (.slf p dx c (f (d a) (d b)))) (k (a, b, ()))) (hΓ : Γ[0]? = some (.slf p dx c []) := by rfl) :
    Rd K W P (tSeq (tDrop (tCall (spSup K cs f) [] E0 (tCons (tVar 0) t))) rest) Γ (mk k) := fun x σ G0 H0 Gs G H b L E F s B e hf => by
  obtain ⟨o, h1, vs0, rfl, gp0, hp0, rf0⟩ := E.get hΓ
  refine ⟨_, h1, h ω x σ _ good_S k G H b _ E s B ⟨e, hf⟩ fun i b' vs G' H' h2 e2 E2 s2 B2 rs => ?_⟩
  obtain ⟨a, c2, u⟩ := i
  obtain ⟨o2, h3, vs1, z, gp, hp, rf⟩ := E2.get hΓ
  rw [h1] at h3
  cases h3
  cases z
  have hp00 := F 0 p _ hΓ rfl h1
  have xp : x ≠ some p := E2.xne 0 p _ hΓ rfl h1
  refine ⟨c, hc, p, dx, vs1, vs, (d a, d c2, ()), G', by rw [List.append_nil], hp, rf, gp, s2, rs, ?_⟩
  intro G3 H3 gs ex hp3 rf3
  have keep : ∀ q o, q ≠ p → H' q = some o → H3 q = some o := fun q o n hq => (off_some (ex.keep q o (by simp) (off_at hq n))).1
  have g3p : G3 p = none := by
    cases q : G3 p with
    | none => rfl
    | some o => exact absurd rfl (off_some (ex.gh p o q)).2
  have s3 : Same G3 H3 := fun q o hq => (off_some (ex.gh q o hq)).1
  have uns : ∀ q o, q ≠ p → H' q = some o → G' q = none → G3 q = none := fun q o n hq hg => ex.uns q o (by simp) (off_at hq n) hg
  have li : 0 < Γ.length := (List.getElem?_eq_some_iff.mp hΓ).1
  refine hr a c2 x σ G0 H0 Gs G3 H3 b' L ⟨by rw [List.length_set, E2.len], fun j w v q1 q2 => ?_, fun j l q w v ne q1 q2 o1 o2 r1 r2 => ?_, fun j q w q1 o1 r1 => ?_⟩ (fun j q w q1 o1 r1 => ?_) s3 (fun q hq => ?_) ⟨⟨h2.1.ex.g.trans ex.g, s3, fun q o n hq => ?_, fun q o n hq hg => ?_⟩, h2.1.gs.trans ex.g⟩ h2.2
  · by_cases z : 0 = j
    · subst z
      rw [List.getElem?_set_self li] at q1
      cases q1
      rw [h1] at q2
      cases q2
      exact ⟨gs, rfl, g3p, hp3, rf3⟩
    · rw [List.getElem?_set_ne z] at q1
      have at0 := E2.at_ j w v q1 q2
      have ne : w.isOwn = true → ∀ q, v = some (.ref q) → q ≠ p := fun ow q hv hq => by
        subst hq
        rw [hv] at q2
        exact E2.dis 0 j q _ w z hΓ q1 rfl ow h1 q2
      cases w with
      | own ds =>
        obtain ⟨q, xs, a, b, c, r⟩ := at0
        exact ⟨q, xs, a, uns q _ (ne rfl q a) c b, keep q _ (ne rfl q a) c, r.ext ex.g⟩
      | slf q dx c fs =>
        obtain ⟨vs, a, b, c, r⟩ := at0
        exact ⟨vs, a, uns q _ (ne rfl q a) c b, keep q _ (ne rfl q a) c, r.ext ex.g⟩
      | dct kvs =>
        obtain ⟨q, ks, a, b, c, r⟩ := at0
        exact ⟨q, ks, a, uns q _ (ne rfl q a) c b, keep q _ (ne rfl q a) c, r.ext ex.g⟩
      | any => exact at0
      | val d => obtain ⟨v, a, r⟩ := at0; exact ⟨v, a, r.ext ex.g⟩
      | box => exact at0
      | exc a dd c fs => exact ⟨at0.1, at0.2.ext ex.g⟩
      | fix v => exact at0
  · have back : ∀ (j : Nat) (w : Sl), (Γ.set 0 (.slf p dx c (f (d a) (d c2))))[j]? = some w → w.isOwn = true → ∃ w' : Sl, Γ[j]? = some w' ∧ w'.isOwn = true := fun j w q1 o1 => by
      by_cases z : 0 = j
      · subst z; exact ⟨_, hΓ, rfl⟩
      · rw [List.getElem?_set_ne z] at q1; exact ⟨w, q1, o1⟩
    obtain ⟨w', a1, a2⟩ := back j w q1 o1
    obtain ⟨v', b1, b2⟩ := back l v q2 o2
    exact E2.dis j l q w' v' ne a1 b1 a2 b2 r1 r2
  · by_cases z : 0 = j
    · subst z; exact E2.xne 0 q _ hΓ rfl r1
    · rw [List.getElem?_set_ne z] at q1; exact E2.xne j q w q1 o1 r1
  · by_cases z : 0 = j
    · subst z; exact F 0 q _ hΓ rfl r1
    · rw [List.getElem?_set_ne z] at q1; exact F j q w q1 o1 r1
  · obtain ⟨c1, c2⟩ := B2 q hq
    have n : q ≠ p := fun z => xp (by rw [← z]; exact hq)
    exact ⟨uns q _ n c2 c1, keep q _ n c2⟩
  · have n2 : q ≠ p := fun z => by rw [z, hp00] at hq; cases hq
    exact keep q o n2 (h2.1.ex.keep q o n hq)
  · have n2 : q ≠ p := fun z => by rw [z, hp00] at hq; cases hq
    exact uns q o n2 (h2.1.ex.keep q o n hq) (h2.1.ex.uns q o n hq hg)
end
end N

set_option Elab.async false
set_option linter.all false
set_option maxRecDepth 100000
set_option maxHeartbeats 4000000
/-! N22: values that are instances of one of some classes: fields, methods; a typed __init__. -/
namespace N
open PySem PySem.Spec PyProof.Rows L2 J
open ToD (d)
open ToDs (ds)
open M
/-- instances of one of some classes -/
class InsV (α : Type) [ToD α] where
  cls : α → Str
  fs : α → List (Str × D)
  eq : ∀ a, d a = .ins (cls a) (fs a)
/-- o.m(e, ..), o of one of the classes cs -/
def tMethV (K : PySem.W.Frag) (cs : List Str) (m : Str) (sp : Sp) (E : L2.St → XK) (ta : TE) (t : TA) : TE := fun σ H Q => ta σ H fun x H1 => ∃ c, c ∈ cs ∧ ∃ a dx fs, x = .ref a ∧ H1 a = some (.ins (He.ga K c) dx fs) ∧ fs.lookup m = none ∧
  t σ H1 fun vs H2 => sp (x :: vs) H2 Q (E σ)
section
variable {X : Cx} {W : WX} {cs : List Str} {k : Nat} {m : Str} {ps : List Str} {sp : Sp} {o e : Expr} {es : List Expr} {ta : TE} {t : TA} {pos apos : Pos}
theorem pe_mcalV {pl : Sem Bool} (tk : Takes X W) (c : ∀ c ∈ cs, MCal X.prog X.w X.K X.mg X.base (He.ga X.K c) m ps k sp) (cl : ∀ c ∈ cs, Cls X.K (He.ga X.K c)) (hr : Room k X.A) (he : PE X o ta) (ha : PA X (e :: es) t)
    (hst : starEach (e :: es) X.env = (false, eval e X.env) :: starEach es X.env := by rfl) (hpl : (backTo pos (starEach es X.env)).any (·.1) = false := by rfl)
    (ht : eval (.Call (.Attribute o m apos) (e :: es) [] pos) X.env = (do
      let ov ← eval o X.env
      standAt apos.atName
      let (f, first) ← holding [ov] (getMethod ov m pl)
      callWith pos f first (backTo pos (starEach (e :: es) X.env)) (backToKw pos (keywordEach [] X.env))) := by rfl) : PE X (.Call (.Attribute o m apos) (e :: es) [] pos) (tMethV X.K cs m sp (WE W) ta t) := by
  refine ⟨fun pins s σ H Q I h => ?_⟩
  refine PySem.W.methodCall_KW (pl := pl) (thn (he.run pins s σ H _ I h) fun u s1 ⟨x, H1, I1, rx, cn, hcn, a, dx, fs, ex, ea, l, q⟩ => ?_) ht
  obtain ⟨f, fd, hm, F, hb⟩ := (c cn hcn).ex
  subst ex
  obtain rfl : u = Value.ref a := rx
  refine getmeth_ok I1 ea (cl cn hcn) hm l ?_
  refine PySem.W.callWith_K (h₀ := X.base) (first := [.ref a]) I1.ok.mod.kin hm.kp (thn (ha.run pos pins _ σ H1 _ I1 q) fun us s2 ⟨vs, H2, I2, r, q2⟩ => ⟨I2.kIn, ?_⟩) hst hpl
  exact run_fnS (us := .ref a :: us) (vs := .ref a :: vs) F hr hb (passAt tk σ) I2 (.cons rfl r) q2
theorem pe_mcalV0 {pl : Sem Bool} (tk : Takes X W) (c : ∀ c ∈ cs, MCal X.prog X.w X.K X.mg X.base (He.ga X.K c) m ps k sp) (cl : ∀ c ∈ cs, Cls X.K (He.ga X.K c)) (hr : Room k X.A) (he : PE X o ta)
    (ht : eval (.Call (.Attribute o m apos) [] [] pos) X.env = (do
      let ov ← eval o X.env
      standAt apos.atName
      let (f, first) ← holding [ov] (getMethod ov m pl)
      callWith pos f first (backTo pos (starEach [] X.env)) (backToKw pos (keywordEach [] X.env))) := by rfl) : PE X (.Call (.Attribute o m apos) [] [] pos) (tMethV X.K cs m sp (WE W) ta tNil) := by
  refine ⟨fun pins s σ H Q I h => ?_⟩
  refine PySem.W.methodCall_KW (pl := pl) (thn (he.run pins s σ H _ I h) fun u s1 ⟨x, H1, I1, rx, cn, hcn, a, dx, fs, ex, ea, l, q⟩ => ?_) ht
  obtain ⟨f, fd, hm, F, hb⟩ := (c cn hcn).ex
  subst ex
  obtain rfl : u = Value.ref a := rx
  refine getmeth_ok I1 ea (cl cn hcn) hm l ?_
  exact PySem.W.callWith_K0 (first := [.ref a]) (I1.tok _).kIn hm.kp (run_fnS (us := [.ref a]) (vs := [.ref a]) F hr hb (passAt tk σ) (I1.tok _) (.cons rfl .nil) q)
end
section
variable {ω : Type} {α β γ S : Type} [ToD α] [ToD β] [ToD γ] {K : PySem.W.Frag} {W : WX} {P : Post ω} {te ta tb : TE} {Γ : List Sl} {ts rest : TS}
theorem unopt_fin {x : Option Addr} {σ : L2.St} {G H : Hp} {Q : VK} {o : Option β} {b : Bx} (h : FinE K W x σ G H Q ((unopt o : M β) b)) : ∃ a, o = some a ∧ FinE K W x σ G H Q ((pure a : M β) b) := by
  cases o with
  | none => exact False.elim h
  | some a => exact ⟨a, rfl, h⟩
/-- a field that some of the values have -/
theorem ev_fldV {f : Str} [InsV α] {m : M α} {g : α → Option β} (h : EvR K W te Γ m) (hf : ∀ a b, g a = some b → (Cls K (He.ga K (InsV.cls a)) ∧ NoAttr K (He.ga K (InsV.cls a)) f) ∧ (InsV.fs a).lookup f = some (d b)) :
    EvR K W (tFld K te f) Γ (do let a ← m; unopt (g a)) := fun x σ G H b Q E s B h' =>
  step_E (te := te) h E s B h' fun a b' v G' H' h2 e E2 s2 B2 r => by
    obtain ⟨c, hc, h3⟩ := unopt_fin h2
    rw [InsV.eq] at r
    obtain ⟨p, dx, vs, rfl, hp, rf⟩ := rep_ins r
    obtain ⟨⟨cl, na⟩, l⟩ := hf a c hc
    obtain ⟨w, hw, rw'⟩ := rf.look l
    exact ⟨p, _, dx, vs, w, rfl, s2 _ _ hp, cl, na, hw, h3.here s2 B2 rw'⟩
/-- a getter that hands back a field; some of the values have it -/
theorem ev_propV {c f : Str} [InsV α] {m : M α} {g : α → Option β} (h : EvR K W te Γ m) (hf : ∀ a b, g a = some b → InsV.cls a = c ∧ (InsV.fs a).lookup f = some (d b)) :
    EvR K W (tProp (He.ga K c) (getSp (He.ga K c) f) [] E0 te) Γ (do let a ← m; unopt (g a)) := fun x σ G H b Q E s B h' =>
  step_E (te := te) h E s B h' fun a b' v G' H' h2 e E2 s2 B2 r => by
    obtain ⟨z, hz, h3⟩ := unopt_fin h2
    obtain ⟨hc, l⟩ := hf a z hz
    rw [InsV.eq, hc] at r
    obtain ⟨p, dx, vs, rfl, hp, rf⟩ := rep_ins r
    obtain ⟨w, hw, rw'⟩ := rf.look l
    exact ⟨p, dx, vs, rfl, s2 _ _ hp, p, dx, vs, w, rfl, s2 _ _ hp, hw, h3.here s2 B2 rw'⟩
theorem ev_methV {n : Str} {cs : List Str} [InsV α] (hc : ∀ a : α, InsV.cls a ∈ cs) {ι : Type} [ToDs ι] {t : TA} {mk : ∀ {θ : Type}, (ι → M θ) → M θ} {f : α × ι → Res γ} {m : M α} (h : EvR K W te Γ m) (h2 : EvC K W t Γ mk) (hn : ∀ a : α, (InsV.fs a).lookup n = none) :
    EvR K W (tMethV K cs n (spG K f) (WE W) te t) Γ (do let a ← m; mk fun i => lft (f (a, i))) := fun x σ G H b Q E s B h' =>
  step_E (te := te) h E s B h' fun a b' v G' H' h3 e E2 s2 B2 r => by
    have r0 := r
    rw [InsV.eq] at r
    obtain ⟨p, dx, vs, rfl, hp, rf⟩ := rep_ins r
    exact ⟨_, hc a, p, dx, vs, rfl, s2 _ _ hp, lookup_none rf (hn a), h2 γ x σ _ good_E _ G' H' b' _ E2 s2 B2 h3 fun i b3 ws G3 H3 h4 e3 E3 s3 B3 rs => spG_of (i := (a, i)) s3 B3 (.cons (r0.ext e3.g) rs) h4⟩
/-! ### a typed __init__ -/
def mapR {α β : Type} (f : α → β) : Res α → Res β
  | .ok a => .ok (f a)
  | .err c fs => .err c fs
  | .stuck => .stuck
def PInT (K : PySem.W.Frag) (p dx : Addr) (c : Str) (n : Nat) (fs : α → List (Str × D)) : Post α := fun a L x H0 G H => ∀ σ', Env K x σ' (.slf p dx c (fs a) :: List.replicate n .any) G H → L.nx σ' H
theorem rd_iniT {p dx : Addr} {c : Str} {a : α} {fs : List (Str × D)} {f : α → List (Str × D)} {n : Nat} (w : Wk Γ (.slf p dx c fs :: List.replicate n .any)) (e : f a = fs := by rfl) : Rd K W (PInT K p dx c n f) tNext Γ (pure a) := fun x σ G0 H0 Gs G H b L E F s B e' hf => by
  have := hf G H e' B σ
  rw [e] at this
  exact this (E.wk w)
theorem run_map {α β : Type} {f : α → β} {m : M α} : M.run (m >>= fun a => pure (f a)) = mapR f (M.run m) := by
  unfold M.run
  rw [M.bind_def]
  cases m (0, 0, 0) with
  | mk b r => cases r <;> rfl
theorem rd_T {p dx : Addr} {c : Str} {n : Nat} {f : α → List (Str × D)} {m : M α} (h : Rd K W (PInT K p dx c n f) ts Γ m) : Rd K W (PIn K p dx c n) ts Γ (m >>= fun a => pure (f a)) := fun x σ G0 H0 Gs G H b L E F s B e hf => by
  refine h x σ G0 H0 Gs G H b L E F s B e ?_
  rw [M.bind_def] at hf
  cases q : m b with
  | mk b' r =>
    rw [q] at hf
    cases r with
    | ok a => exact hf
    | err c fs => exact hf
    | stuck => exact hf
/-- __init__ by a typed mirror -/
theorem fn_iniT {ι : Type} [ToDs ι] {c : Str} {C : Addr} (hC : He.ga K c = C) {fs0 : List (Str × D)} {ts : TS} {N : List Str} {fs : α → List (Str × D)} {f : ι → Res α} {mb : ι → M α} {n n2 : Nat} {H : Hp} {vs : List V} {Q : VK} {E : XK} {x0 : Str}
    (h : spI K C fs0 (fun i => mapR fs (f i)) vs H Q E) (hm : ∀ i, f i = M.run (mb i)) (hn : ∀ i : ι, N.length - (ds i).length = n) (hn2 : n2 = N.length)
    (hb : ∀ a dx i, Rd K (WE1 E) (PInT K a dx c n2 fs) ts (.slf a dx c fs0 :: slots (ds i) n) (mb i)) : ts { nx := fun _ H' => Q .non H', rt := Q } (L2.start (x0 :: N) vs) H :=
  fn_ini (mb := fun i => mb i >>= fun a => pure (fs a)) hC h (fun i => by rw [run_map, ← hm]) hn hn2 fun a dx i => rd_T (hb a dx i)
theorem mapR_of {c : Str} {fs : α → List (Str × D)} (he : ∀ a, d a = .ins c (fs a)) (r : Res α) : match mapR fs r, r with
  | .ok fs, .ok a => d a = .ins c fs
  | .err c fs, r => r = .err c fs
  | _, r => r = .stuck := by
  cases r with
  | ok a => exact he a
  | err c fs => rfl
  | stuck => rfl
end
end N

set_option Elab.async false
set_option linter.all false
set_option maxRecDepth 100000
set_option maxHeartbeats 4000000
/-! N23: displays with stars, comprehensions of two clauses. -/
namespace N
open PySem PySem.Spec PyProof.Rows L2 J
open ToD (d)
open ToDs (ds)
open M
/-! ### stars -/
structure Spl (α : Type) where
  l : List α
instance {α ι : Type} [ToD α] [ToDs ι] : ToDs (Spl α × ι) := ⟨fun p => p.1.l.map d ++ ds p.2⟩
section
variable {ω : Type} {α β γ S : Type} [ToD α] [ToD β] [ToD γ] {K : PySem.W.Frag} {W : WX} {P : Post ω} {te ta tb : TE} {Γ : List Sl} {ts rest : TS}
theorem ec_starL {ι : Type} [ToDs ι] {t : TA} {m : M (List α)} {mk : ∀ {γ : Type}, (ι → M γ) → M γ} (h : EvR K W te Γ m) (h2 : EvC K W t Γ mk) : EvC (ι := Spl α × ι) K W (StX.tStar K te t) Γ (fun k => do let a ← m; mk fun r => k (⟨a⟩, r)) := fun γ x σ F g k G H b Q E s B hf kk =>
  go (te := te) g h E s B hf fun a b' v G' H' h3 e E2 s2 B2 r => by
    obtain ⟨p, vs, rfl, hp, rs⟩ := rep_lst r
    exact ⟨p, vs, rfl, .inr (sqL_H s2 (SqL.of hp)), h2 γ x σ F g (fun r => k (⟨a⟩, r)) G' H' b' _ E2 s2 B2 h3 fun i b3 ws G3 H3 h4 e3 E3 s3 B3 rs2 => kk (⟨a⟩, i) b3 (vs ++ ws) G3 H3 h4 (e.trans e3) E3 s3 B3 ((rs.ext e3.g).append rs2)⟩
theorem ec_starT {ι : Type} [ToDs ι] {t : TA} {m : M (VT α)} {mk : ∀ {γ : Type}, (ι → M γ) → M γ} (h : EvR K W te Γ m) (h2 : EvC K W t Γ mk) : EvC (ι := Spl α × ι) K W (StX.tStar K te t) Γ (fun k => do let a ← m; mk fun r => k (⟨a.l⟩, r)) := fun γ x σ F g k G H b Q E s B hf kk =>
  go (te := te) g h E s B hf fun a b' v G' H' h3 e E2 s2 B2 r => by
    obtain ⟨p, vs, rfl, hp, rs⟩ := rep_tup r
    exact ⟨p, vs, rfl, .inl (sqT_H s2 hp), h2 γ x σ F g (fun r => k (⟨a.l⟩, r)) G' H' b' _ E2 s2 B2 h3 fun i b3 ws G3 H3 h4 e3 E3 s3 B3 rs2 => kk (⟨a.l⟩, i) b3 (vs ++ ws) G3 H3 h4 (e.trans e3) E3 s3 B3 ((rs.ext e3.g).append rs2)⟩
theorem ev_lstN {ι : Type} [ToDs ι] {t : TA} {mk : ∀ {γ : Type}, (ι → M γ) → M γ} {m : M (List α)} (h : EvC K W t Γ mk) (f : ι → List α) (e : m = mk fun i => (do need ((f i).length ≤ sizeLine); pure (f i)) := by rfl) (hf : ∀ i, ds i = (f i).map d) :
    EvR K W (tLst t) Γ m := by
  rw [e]
  exact fun x σ G H b Q E s B h' =>
    h (List α) x σ _ good_E _ G H b _ E s B h' fun i b' vs G' H' h2 e E2 s2 B2 rs => by
      obtain ⟨hl, h3⟩ := need_fin h2
      rw [hf] at rs
      refine ⟨by rw [rs.length, List.length_map]; exact hl, fun p hp => h3.new s2 B2 hp ?_⟩
      exact .lst upd_same (rs.ext (upS (s2.free hp)))
theorem ev_tupN {ι : Type} [ToDs ι] {t : TA} {mk : ∀ {γ : Type}, (ι → M γ) → M γ} {m : M (VT α)} (h : EvC K W t Γ mk) (f : ι → List α) (e : m = mk fun i => (do need ((f i).length ≤ sizeLine); pure ⟨f i⟩) := by rfl) (hf : ∀ i, ds i = (f i).map d) :
    EvR K W (tTup t) Γ m := by
  rw [e]
  exact fun x σ G H b Q E s B h' =>
    h (VT α) x σ _ good_E _ G H b _ E s B h' fun i b' vs G' H' h2 e E2 s2 B2 rs => by
      obtain ⟨hl, h3⟩ := need_fin h2
      rw [hf] at rs
      refine ⟨by rw [rs.length, List.length_map]; exact hl, fun p hp => h3.new s2 B2 hp ?_⟩
      exact .tup (.inl (.inl upd_same)) (rs.ext (upS (s2.free hp)))
/-! ### two clauses -/
noncomputable def lcG {β γ : Type} (t : β → M Bool) (f : β → M γ) : List γ → List β → M (List γ)
  | acc, [] => pure acc
  | acc, a :: r => do
    let c ← strict (t a)
    if c = true then do
      let y ← strict (f a)
      need (acc.length < sizeLine)
      lcG t f (acc ++ [y]) r
    else lcG t f acc r
noncomputable def lc2A {α β γ : Type} (t : α → M Bool) (ys : α → M (List β)) (t1 : α → β → M Bool) (f : α → β → M γ) : List γ → List α → M (List γ)
  | acc, [] => pure acc
  | acc, a :: r => do
    let c ← strict (t a)
    if c = true then do
      let zs ← strict (ys a)
      let acc' ← lcG (t1 a) (f a) acc zs
      lc2A t ys t1 f acc' r
    else lc2A t ys t1 f acc r
noncomputable def lc2M {α β γ : Type} (t : α → M Bool) (ys : α → M (List β)) (t1 : α → β → M Bool) (f : α → β → M γ) (xs : List α) : M (List γ) := lc2A t ys t1 f [] xs
theorem strict_ok {α β : Type} {m : M α} {f : α → M β} {b : Bx} {x : Option Addr} {σ : L2.St} {G H : Hp} {Q : VK} [ToD β] (h : FinE K W x σ G H Q ((strict m >>= f) b)) : ∃ a b', m b = (b', .ok a) ∧ FinE K W x σ G H Q (f a b') := by
  rw [M.bind_def] at h
  unfold strict at h
  cases q : m b with
  | mk b' r =>
    rw [q] at h
    cases r with
    | ok a => exact ⟨a, b', rfl, h⟩
    | err c fs => exact False.elim h
    | stuck => exact False.elim h
/-- the list that is made grows by one -/
theorem Ex.grow {x : Option Addr} {G1 H1 G H : Hp} {D : Addr} {o : HO} (ex : Ex x G1 H1 G H) (nD : H1 D = none) (gD : G D = none) : Ex x G1 H1 G (upd H D o) :=
  ⟨ex.g, fun a u ha => by rw [upd_ne (fun z => by rw [z, gD] at ha; cases ha)]; exact ex.gh a u ha, fun p u nx hp => by rw [upd_ne (fun z => by rw [z, nD] at hp; cases hp)]; exact ex.keep p u nx hp, fun p u nx hp => ex.uns p u nx hp⟩
theorem Env.grow {x : Option Addr} {σ : L2.St} {G H : Hp} {D : Addr} {u : HO} (E : Env K x σ Γ G H) (n : ∀ (j : Nat) (s : Sl) (p : Addr), Γ[j]? = some s → s.isOwn = true → σ[j]? = some (some (.ref p)) → p ≠ D) : Env K x σ Γ G (upd H D u) := by
  refine ⟨E.len, fun j w v q1 q2 => ?_, E.dis, E.xne⟩
  have at0 := E.at_ j w v q1 q2
  have ne : w.isOwn = true → ∀ q, v = some (.ref q) → q ≠ D := fun ow q hv => n j w q q1 ow (by rw [q2, hv])
  cases w with
  | own ds =>
    obtain ⟨q, xs, a, b, c, r⟩ := at0
    exact ⟨q, xs, a, b, by rw [upd_ne (ne rfl q a)]; exact c, r⟩
  | slf q dx c fs =>
    obtain ⟨vs, a, b, c, r⟩ := at0
    exact ⟨vs, a, b, by rw [upd_ne (ne rfl q a)]; exact c, r⟩
  | dct kvs =>
    obtain ⟨q, ks, a, b, c, r⟩ := at0
    exact ⟨q, ks, a, b, by rw [upd_ne (ne rfl q a)]; exact c, r⟩
  | any => exact at0
  | val d => exact at0
  | box => exact at0
  | exc a dd c fs => exact at0
  | fix v => exact at0
theorem ev_lc2 {δ : Type} [ToD δ] {wi wi1 : TI} {g g1 : TG} {tt tt1 : TT} {vs vs1 : List Nat} {mi : M (List α)} {up : α → List Sl → List Sl} {mt : α → M Bool} {mj : α → M (List β)} {up1 : β → List Sl → List Sl} {mt1 : α → β → M Bool} {me : α → β → M δ}
    (hi : EvIE K W wi Γ mi) (hg : TgOk K g vs up) (hfr : UpOk vs up (wipeS Γ vs)) (ht : ∀ a, EvT K WF tt (up a (wipeS Γ vs)) (mt a)) (hj : ∀ a, EvI K WF wi1 (up a (wipeS Γ vs)) (mj a)) (hg1 : TgOk K g1 vs1 up1)
    (ht1 : ∀ a b, EvT K WF tt1 (up1 b (wipeS (up a (wipeS Γ vs)) vs1)) (mt1 a b)) (he : ∀ a b, EvR K WF te (up1 b (wipeS (up a (wipeS Γ vs)) vs1)) (me a b)) :
    EvR K W (tLc2 wi g tt wi1 g1 tt1 te vs vs1) Γ (do let xs ← mi; lc2M mt mj mt1 me xs) := fun x σ G H b Q E s B h =>
  hi (List δ) x σ _ good_E _ G H b _ E s B h fun xs b1 J G1 H1 h1 e1 E1 s1 B1 wk D nD => by
    have xD : x ≠ some D := fun z => by
      have := (B1 D z).2
      rw [nD] at this
      cases this
    refine ⟨fun i m H' => ∃ G' b' acc, ∃ ys : List δ, m = xs.length - i ∧ i ≤ xs.length ∧ Ex x G1 H1 G' H' ∧ G' D = none ∧ H' D = some (.lst acc) ∧ Reps K G' acc (ys.map d) ∧ BoxSt x G' H' b' ∧ FinE K W x σ G1 H1 Q (lc2A mt mj mt1 me ys (xs.drop i) b'),
      ⟨_, G1, b1, [], [], rfl, Nat.zero_le _, Ex.raw s1 nD, s1.free nD, upd_same, .nil, B1.raw nD, h1⟩, ?_⟩
    rintro i m H' ⟨G', b', acc, ys, rfl, hi', ex, gD, hD, rs, B', hf⟩
    by_cases hlt : i < xs.length
    · have hd : xs.drop i = xs[i] :: xs.drop (i + 1) := List.drop_eq_getElem_cons hlt
      obtain ⟨hgo, hy⟩ := (wk i G' H' ex).1 xs[i] (List.getElem?_eq_getElem hlt)
      refine .inr ⟨hgo, fun H'' => ∃ G' b' acc, ∃ ys : List δ, i + 1 ≤ xs.length ∧ Ex x G1 H1 G' H'' ∧ G' D = none ∧ H'' D = some (.lst acc) ∧ Reps K G' acc (ys.map d) ∧ BoxSt x G' H'' b' ∧ FinE K W x σ G1 H1 Q (lc2A mt mj mt1 me ys (xs.drop (i + 1)) b'),
        fun H'' ⟨G'', b'', acc', ys', c1, c2⟩ => ⟨xs.length - (i + 1), by omega, G'', b'', acc', ys', rfl, c1, c2⟩, fun y H2 hyld => ?_⟩
      obtain ⟨G2, ex2, ry⟩ := hy y H2 hyld
      have B2 := B'.none_ex ex2
      have ex12 := ex.trans (ex2.box (x := x))
      have gD2 : G2 D = none := ex2.uns D _ (by simp) hD gD
      have hD2 := ex2.keep D _ (by simp) hD
      have E2 : Env K x (wipe σ vs) (wipeS Γ vs) G2 H2 := (E1.ext ex12).wipe vs
      refine hg x (wipe σ vs) (wipeS Γ vs) G2 H2 y xs[i] _ E2 ex2.gh ry fun σ' hw E3 bk => ⟨hw.trans wipe_wipe, ?_⟩
      have noD : ∀ (j : Nat) (s : Sl) (p : Addr), (up xs[i] (wipeS Γ vs))[j]? = some s → s.isOwn = true → σ'[j]? = some (some (.ref p)) → p ≠ D := fun j s p q1 o1 r1 z => by
        obtain ⟨c1, c2⟩ := hfr xs[i] j s q1 o1
        obtain ⟨_, u, hu⟩ := (E1.wipe vs).own_at c2 o1 (bk j p c1 r1)
        rw [z, nD] at hu
        cases hu
      rw [hd] at hf
      obtain ⟨c, b3, q, hf2⟩ := strict_ok (f := fun c => if c = true then (do let zs ← strict (mj xs[i]); let acc' ← lcG (mt1 xs[i]) (me xs[i]) ys zs; lc2A mt mj mt1 me acc' (xs.drop (i + 1))) else lc2A mt mj mt1 me ys (xs.drop (i + 1))) hf
      refine ht xs[i] x σ' G2 H2 b' _ E3 ex2.gh B2 ?_
      rw [q]
      intro G3 H3 ex3 B3
      have ex13 := ex12.trans ex3
      have gD3 : G3 D = none := ex3.uns D _ xD hD2 gD2
      have hD3 := ex3.keep D _ xD hD2
      have rs3 := (rs.ext ex2.g).ext ex3.g
      cases c with
      | false => exact iteF ⟨G3, b3, acc, ys, hlt, ex13, gD3, hD3, rs3, B3, hf2⟩
      | true =>
        refine iteT ?_
        obtain ⟨zs, b5, q5, hf5⟩ := strict_ok (f := fun zs => (do let acc' ← lcG (mt1 xs[i]) (me xs[i]) ys zs; lc2A mt mj mt1 me acc' (xs.drop (i + 1)))) (show FinE K W x σ G1 H1 Q ((strict (mj xs[i]) >>= fun zs => (do let acc' ← lcG (mt1 xs[i]) (me xs[i]) ys zs; lc2A mt mj mt1 me acc' (xs.drop (i + 1)))) b3) from hf2)
        have E3' := E3.ext ex3
        refine hj xs[i] (List β) x σ' (fun _ _ r => r = (b5, .ok zs)) { ex := fun _ h => h, er := fun {G H b' c fs} h => by { have h2 : (b', (Res.err c fs : Res (List β))) = (b5, .ok zs) := h; injection h2 with _ u; cases u }, st := fun {G H b'} h => by { have h2 : (b', (Res.stuck : Res (List β))) = (b5, .ok zs) := h; injection h2 with _ u; cases u } } pure G3 H3 b3 _ E3' ex3.gh B3 (by rw [bind_pure]; exact q5) fun zs' b6 J1 G6 H6 h6 ex6 E6 s6 B6 wk1 => ?_
        have h7 : zs' = zs ∧ b6 = b5 := by
          have : (b6, Res.ok zs') = (b5, Res.ok zs) := h6
          injection this with u1 u2
          injection u2 with u3
          exact ⟨u3, u1⟩
        obtain ⟨rfl, rfl⟩ := h7
        have ex16 := ex13.trans ex6
        have gD6 : G6 D = none := ex6.uns D _ xD hD3 gD3
        have hD6 := ex6.keep D _ xD hD3
        refine ⟨fun j k H' => ∃ G' b' acc, ∃ ys : List δ, k = zs'.length - j ∧ j ≤ zs'.length ∧ Ex x G1 H1 G' H' ∧ Same G6 G' ∧ Same G' H' ∧ Env K x σ' (up xs[i] (wipeS Γ vs)) G' H' ∧ G' D = none ∧ H' D = some (.lst acc) ∧ Reps K G' acc (ys.map d) ∧ BoxSt x G' H' b' ∧ FinE K W x σ G1 H1 Q ((do let acc' ← lcG (mt1 xs[i]) (me xs[i]) ys (zs'.drop j); lc2A mt mj mt1 me acc' (xs.drop (i + 1))) b'),
          ⟨_, G6, b6, acc, ys, rfl, Nat.zero_le _, ex16, Same.refl _, s6, E6, gD6, hD6, rs3.ext ex6.g, B6, hf5⟩, ?_⟩
        rintro j k H8 ⟨G8, b8, acc8, ys8, rfl, hj', ex8, sg8, sh8, E8, gD8, hD8, rs8, B8, hf8⟩
        by_cases hlt1 : j < zs'.length
        · have hd1 : zs'.drop j = zs'[j] :: zs'.drop (j + 1) := List.drop_eq_getElem_cons hlt1
          obtain ⟨hgo1, hy1⟩ := (wk1 j G8 H8 ⟨sg8, sh8⟩).1 zs'[j] (List.getElem?_eq_getElem hlt1)
          refine .inr ⟨hgo1, fun H' => ∃ G' b' acc, ∃ ys : List δ, j + 1 ≤ zs'.length ∧ Ex x G1 H1 G' H' ∧ Same G6 G' ∧ Same G' H' ∧ Env K x σ' (up xs[i] (wipeS Γ vs)) G' H' ∧ G' D = none ∧ H' D = some (.lst acc) ∧ Reps K G' acc (ys.map d) ∧ BoxSt x G' H' b' ∧ FinE K W x σ G1 H1 Q ((do let acc' ← lcG (mt1 xs[i]) (me xs[i]) ys (zs'.drop (j + 1)); lc2A mt mj mt1 me acc' (xs.drop (i + 1))) b'),
            fun H'' ⟨G'', b'', acc', ys', c1, c2⟩ => ⟨zs'.length - (j + 1), by omega, G'', b'', acc', ys', rfl, c1, c2⟩, fun y1 H9 hyld1 => ?_⟩
          obtain ⟨G9, ex9, ry1⟩ := hy1 y1 H9 hyld1
          have B9 := B8.none_ex ex9
          have ex19 := ex8.trans (ex9.box (x := x))
          have gD9 : G9 D = none := ex9.uns D _ (by simp) hD8 gD8
          have hD9 := ex9.keep D _ (by simp) hD8
          have E9 := E8.ext (ex9.box (x := x))
          refine hg1 x (wipe σ' vs1) (wipeS (up xs[i] (wipeS Γ vs)) vs1) G9 H9 y1 zs'[j] _ (E9.wipe vs1) ex9.gh ry1 fun σ3 hw3 E10 _ => ⟨hw3.trans wipe_wipe, ?_⟩
          rw [hd1] at hf8
          have hf9 : FinE K W x σ G1 H1 Q ((strict (mt1 xs[i] zs'[j]) >>= fun c => (if c = true then (do let y ← strict (me xs[i] zs'[j]); need (ys8.length < sizeLine); lcG (mt1 xs[i]) (me xs[i]) (ys8 ++ [y]) (zs'.drop (j + 1))) else lcG (mt1 xs[i]) (me xs[i]) ys8 (zs'.drop (j + 1))) >>= fun acc' => lc2A mt mj mt1 me acc' (xs.drop (i + 1))) b8) := by
            rw [← bind_assoc]
            exact hf8
          obtain ⟨c, b10, q10, hf10⟩ := strict_ok (f := fun c => (if c = true then (do let y ← strict (me xs[i] zs'[j]); need (ys8.length < sizeLine); lcG (mt1 xs[i]) (me xs[i]) (ys8 ++ [y]) (zs'.drop (j + 1))) else lcG (mt1 xs[i]) (me xs[i]) ys8 (zs'.drop (j + 1))) >>= fun acc' => lc2A mt mj mt1 me acc' (xs.drop (i + 1))) hf9
          refine ht1 xs[i] zs'[j] x σ3 G9 H9 b8 _ E10 ex9.gh B9 ?_
          rw [q10]
          intro G11 H11 ex11 B11
          have ex111 := ex19.trans ex11
          have gD11 : G11 D = none := ex11.uns D _ xD hD9 gD9
          have hD11 := ex11.keep D _ xD hD9
          have rs11 := (rs8.ext ex9.g).ext ex11.g
          have sg11 : Same G6 G11 := (sg8.trans ex9.g).trans ex11.g
          have E11 := E9.ext ex11
          cases c with
          | false => exact iteF ⟨G11, b10, acc8, ys8, hlt1, ex111, sg11, ex11.gh, E11, gD11, hD11, rs11, B11, hf10⟩
          | true =>
            refine iteT ?_
            have hf11 : FinE K W x σ G1 H1 Q ((strict (me xs[i] zs'[j]) >>= fun y => (do need (ys8.length < sizeLine); lcG (mt1 xs[i]) (me xs[i]) (ys8 ++ [y]) (zs'.drop (j + 1))) >>= fun acc' => lc2A mt mj mt1 me acc' (xs.drop (i + 1))) b10) := by
              rw [← bind_assoc]
              exact hf10
            obtain ⟨z, b12, q12, hf12⟩ := strict_ok (f := fun y => (do need (ys8.length < sizeLine); lcG (mt1 xs[i]) (me xs[i]) (ys8 ++ [y]) (zs'.drop (j + 1))) >>= fun acc' => lc2A mt mj mt1 me acc' (xs.drop (i + 1))) hf11
            have hf13 : ys8.length < sizeLine ∧ FinE K W x σ G1 H1 Q ((lcG (mt1 xs[i]) (me xs[i]) (ys8 ++ [z]) (zs'.drop (j + 1)) >>= fun acc' => lc2A mt mj mt1 me acc' (xs.drop (i + 1))) b12) := by
              by_cases l : ys8.length < sizeLine
              · rw [need_T l] at hf12
                exact ⟨l, hf12⟩
              · unfold need at hf12
                rw [if_neg l] at hf12
                exact False.elim hf12
            refine he xs[i] zs'[j] x σ3 G11 H11 b10 _ (E10.ext ex11) ex11.gh B11 ?_
            rw [q12]
            intro w G14 H14 ex14 B14 rw14
            have gD14 : G14 D = none := ex14.uns D _ xD hD11 gD11
            have hD14 := ex14.keep D _ xD hD11
            have ex114 := ex111.trans ex14
            have la : acc8.length = ys8.length := by rw [rs8.length, List.length_map]
            have exg := ex114.grow (o := .lst (acc8 ++ [w])) nD gD14
            refine ⟨acc8, hD14, by omega, G14, b12, acc8 ++ [w], ys8 ++ [z], hlt1, exg, sg11.trans ex14.g, exg.gh, ?_, gD14, upd_same, ?_, ?_, hf13.2⟩
            · have E14 := E11.ext ex14
              exact E14.grow noD
            · rw [List.map_append]
              exact (rs11.ext ex14.g).append (.cons rw14 .nil)
            · intro p hp
              obtain ⟨c1, c2⟩ := B14 p hp
              exact ⟨c1, by rw [upd_ne (fun z => xD (by rw [← z]; exact hp))]; exact c2⟩
        · have hj2 : zs'.length = j := by omega
          refine .inl ⟨(wk1 j G8 H8 ⟨sg8, sh8⟩).2 hj2, G8, b8, acc8, ys8, hlt, ex8, gD8, hD8, rs8, B8, ?_⟩
          rw [List.drop_eq_nil_of_le (by omega)] at hf8
          exact hf8
    · have hi2 : xs.length = i := by omega
      refine .inl ⟨(wk i G' H' ex).2 hi2, ?_⟩
      rw [List.drop_eq_nil_of_le (by omega)] at hf
      refine hf (.ref D) (upd G' D (.lst acc)) H' ?_ ?_ (.lst upd_same (rs.ext (upS gD)))
      · refine ⟨ex.g.trans (upS gD), fun a o ha => ?_, fun p o nx hp => ex.keep p o nx hp, fun p o nx hp hg => ?_⟩
        · by_cases z : a = D
          · subst z; rw [upd_same] at ha; cases ha; exact hD
          · rw [upd_ne z] at ha; exact ex.gh a o ha
        · rw [upd_ne (fun z => by rw [z, nD] at hp; cases hp)]
          exact ex.uns p o nx hp hg
      · intro p hp
        obtain ⟨c1, c2⟩ := B' p hp
        exact ⟨by rw [upd_ne (fun z => xD (by rw [← z]; exact hp))]; exact c1, c2⟩
end
end N

set_option Elab.async false
set_option linter.all false
set_option maxRecDepth 100000
set_option maxHeartbeats 4000000
/-! N24: x in a tuple of data, t.index(x); zip of lists; joins. -/
namespace N
open PySem PySem.Spec PyProof.Rows L2 J
open ToD (d)
open ToDs (ds)
open M
section
variable {X : Cx}
def rInDT (K : PySem.W.Frag) : R2 := fun x y H Q => ∃ d ds, Dp K H x d ∧ Dp K H y (.tuple ds) ∧ SeqAt.shaped d = true ∧ SeqAt.shaped (.tuple ds) = true ∧ Q (.bl (ds.any fun z => PyData.eqv z d)) H
def rNotInDT (K : PySem.W.Frag) : R2 := fun x y H Q => ∃ d ds, Dp K H x d ∧ Dp K H y (.tuple ds) ∧ SeqAt.shaped d = true ∧ SeqAt.shaped (.tuple ds) = true ∧ Q (.bl (!ds.any fun z => PyData.eqv z d)) H
theorem op_inDT (hu : X.A.units + 65 < cLine) : OpR X (compareOp .In) (rInDT X.K) := by
  intro pins s σ H x y v u Q I rx ry h
  obtain ⟨d, ds, hd, he, sd, se, q⟩ := h
  obtain ⟨as, r1⟩ := Dp.reads I d x v hd rx
  obtain ⟨bs, r2⟩ := Dp.reads I (.tuple ds) y u he ry
  exact SeqAt.in_tuple_reads r2 r1 (SeqAt.canLay_of_shaped se) (SeqAt.canLay_of_shaped sd) (room_in_shaped sd hu) ⟨.bl _, H, I, rfl, q⟩
theorem op_notInDT (hu : X.A.units + 65 < cLine) : OpR X (compareOp .NotIn) (rNotInDT X.K) := by
  intro pins s σ H x y v u Q I rx ry h
  obtain ⟨d, ds, hd, he, sd, se, q⟩ := h
  obtain ⟨as, r1⟩ := Dp.reads I d x v hd rx
  obtain ⟨bs, r2⟩ := Dp.reads I (.tuple ds) y u he ry
  exact SeqAt.notIn_tuple_reads r2 r1 (SeqAt.canLay_of_shaped se) (SeqAt.canLay_of_shaped sd) (room_in_shaped sd hu) ⟨.bl _, H, I, rfl, q⟩
def rIndexDT (K : PySem.W.Frag) : V → List V → Hp → VK → Prop := fun x xs H Q => ∃ (a : Addr) (y : V) (d : PyData) (ds : List PyData) (j : Nat) (z : PyData), x = V.ref a ∧ xs = [y] ∧ Dp K H (V.ref a) (.tuple ds) ∧ Dp K H y d ∧
  SeqAt.shaped (.tuple ds) = true ∧ SeqAt.shaped d = true ∧ ds[j]? = some z ∧ PyData.eqv z d = true ∧ (∀ (m : Nat) (z' : PyData), m < j → ds[m]? = some z' → PyData.eqv z' d = false) ∧ Q (.int (j : Nat)) H
theorem mt_indexDT (hu : X.A.units + 65 < cLine) : MtR X "tuple.index" (rIndexDT X.K) := by
  intro pins s σ H x xs v us Q I rx rxs h
  obtain ⟨a, y, d, ds, j, z, rfl, rfl, hl, hy, sl, sd, hz, hzj, hno, q⟩ := h
  cases rx
  cases rxs with
  | cons ry rt =>
    rename_i uy ut
    cases rt
    obtain ⟨bs, r1⟩ := Dp.reads I d y uy hy ry
    have hxs : PyData.canLayAll0 ds = true := SeqAt.canLay_of_shaped sl
    have hroom : X.A.units + 1 + min (PyData.depthAll ds) d.depth < cLine := room_in_shaped sd hu
    cases hl with
    | tup hs ha =>
      obtain ⟨its, rv, ⟨⟨cls, dd, data, sls⟩, ho, hc, n, hdt⟩, hlen⟩ := I.tuple hs
      simp only at hc hdt
      subst hc hdt
      obtain ⟨as, h4⟩ := Dp.readsAll I ds _ its ha rv
      have hn : its.length = ds.length := SeqAt.ReadsAll.length ds its as h4
      have hmap : its.map (SeqAt.readOf s.heap) = ds := SeqAt.readsAll_map ds its as hxs h4
      have hvl := rv.length
      have hsl := sizeLine_eq
      obtain ⟨hjd, _⟩ := List.getElem?_eq_some_iff.mp hz
      have hjl : j < its.length := by omega
      have hj : j < its.toArray.size := by simpa using hjl
      have at_ : ∀ (m : Nat) (hm : m < its.toArray.size) (z' : PyData), ds[m]? = some z' → SeqAt.readOf s.heap its.toArray[m] = z' := by
        intro m hm z' hz'
        have hml : m < its.length := by simpa using hm
        rw [← hmap, List.getElem?_map, List.getElem?_eq_getElem hml] at hz'
        have e1 : SeqAt.readOf s.heap its[m] = z' := Option.some.inj (show some (SeqAt.readOf s.heap its[m]) = some z' from hz')
        simpa using e1
      refine call_meets PySem.F.slot_tuple_index ⟨_, ho, rfl⟩ PySem.F.entry_tuple_index (PySem.F.args_tuple_index_2 _ _)
        (TI.tuple_indexAt a its.toArray n dd sls uy (fun u => PyData.eqv (SeqAt.readOf s.heap u) d) j hj ?_ ?_) ⟨ho, SeqAt.items_eqAt (vs := its.toArray) (show ReadsAll s.heap its.toArray.toList ds as from h4) r1 hxs (SeqAt.canLay_of_shaped sd) hroom, ?_⟩
      · show PyData.eqv (SeqAt.readOf s.heap its.toArray[j]) d = true
        rw [at_ j hj z hz]
        exact hzj
      · intro m hm hmj
        have hmd : m < ds.length := by omega
        have hz' : ds[m]? = some ds[m] := List.getElem?_eq_getElem hmd
        show PyData.eqv (SeqAt.readOf s.heap its.toArray[m]) d = false
        rw [at_ m hm _ hz']
        exact hno m _ hmj hz'
      · exact ⟨.int (j : Nat), H, I.tok _, ⟨_, rfl⟩, q⟩
end
section
variable {ω : Type} {α β γ S : Type} [ToD α] [ToD β] [ToD γ] {K : PySem.W.Frag} {W : WX} {P : Post ω} {te ta tb : TE} {Γ : List Sl} {ts rest : TS}
/-- x in a tuple -/
noncomputable def inT (a b : D) : M Bool := match pyD a, pyD b with
  | some p, some (.tuple ds) => do
    need (SeqAt.shaped p = true ∧ SeqAt.shaped (.tuple ds) = true)
    pure (ds.any fun z => PyData.eqv z p)
  | _, _ => M.stuck
noncomputable def ninT (a b : D) : M Bool := match pyD a, pyD b with
  | some p, some (.tuple ds) => do
    need (SeqAt.shaped p = true ∧ SeqAt.shaped (.tuple ds) = true)
    pure (!ds.any fun z => PyData.eqv z p)
  | _, _ => M.stuck
theorem om_inT : OpM K (rInDT K) (fun (a : α) (b : β) => inT (d a) (d b)) := fun W x σ G H b Q a c v w s B ra rc h => by
  dsimp only at h
  unfold inT at h
  cases q1 : pyD (d a) with
  | none => rw [q1] at h; exact False.elim h
  | some p =>
    cases q2 : pyD (d c) with
    | none => rw [q1, q2] at h; exact False.elim h
    | some e =>
      rw [q1, q2] at h
      cases e with
      | tuple es =>
        obtain ⟨⟨h1, h2⟩, h3⟩ := need_fin h
        exact ⟨p, es, rep_dp s ra q1, rep_dp s rc q2, h1, h2, h3.here s B (.bl _)⟩
      | _ => exact False.elim h
theorem om_ninT : OpM K (rNotInDT K) (fun (a : α) (b : β) => ninT (d a) (d b)) := fun W x σ G H b Q a c v w s B ra rc h => by
  dsimp only at h
  unfold ninT at h
  cases q1 : pyD (d a) with
  | none => rw [q1] at h; exact False.elim h
  | some p =>
    cases q2 : pyD (d c) with
    | none => rw [q1, q2] at h; exact False.elim h
    | some e =>
      rw [q1, q2] at h
      cases e with
      | tuple es =>
        obtain ⟨⟨h1, h2⟩, h3⟩ := need_fin h
        exact ⟨p, es, rep_dp s ra q1, rep_dp s rc q2, h1, h2, h3.here s B (.bl _)⟩
      | _ => exact False.elim h
/-- joins -/
noncomputable def joinSM (a : Str) (ys : List Str) : M Str := do
  need ((ys.map (·.length)).sum + ys.length * a.length ≤ 16777216)
  pure (Txt.join a ys)
end
end N

set_option Elab.async false
set_option linter.all false
set_option maxRecDepth 100000
set_option maxHeartbeats 4000000
/-! N25: zip of lists, joins, t.index(x). -/
namespace N
open PySem PySem.Spec PyProof.Rows L2 J
open ToD (d)
open ToDs (ds)
open M
section
variable {ω : Type} {α β γ S : Type} [ToD α] [ToD β] [ToD γ] {K : PySem.W.Frag} {W : WX} {P : Post ω} {te ta tb : TE} {Γ : List Sl} {ts rest : TS}
theorem zip_at {xs : List α} {ys : List β} {i : Nat} {p : α × β} (h : (xs.zip ys)[i]? = some p) : xs[i]? = some p.1 ∧ ys[i]? = some p.2 := by
  rw [List.getElem?_zip_eq_some] at h
  exact h
theorem ei_zip {m1 : M (List α)} {m2 : M (List β)} (h1 : EvR K W ta Γ m1) (h2 : EvR K W tb Γ m2) : EvI K W (RZ.iZipA K (tCons ta (tCons tb tNil))) Γ (do let xs ← m1; let ys ← m2; pure (xs.zip ys)) := fun δ x σ F g k G H b R E s B hf kk => by
  refine go (te := ta) g h1 E s B (f := fun xs => m2 >>= fun ys => k (xs.zip ys)) (by simpa only [bind_assoc, pure_bind] using hf) fun xs b1 v G1 H1 hf1 e1 E1 s1 B1 r1 => ?_
  refine go (te := tb) g h2 E1 s1 B1 (f := fun ys => k (xs.zip ys)) hf1 fun ys b2 w G2 H2 hf2 e2 E2 s2 B2 r2 => ?_
  obtain ⟨p, vs, rfl, hp, rs⟩ := rep_lst r1
  obtain ⟨q, ws, rfl, hq, rt⟩ := rep_lst r2
  have hp2 := e2.g _ _ hp
  have rs2 := rs.ext e2.g
  refine ⟨p, q, vs, ws, rfl, .inl ⟨SqL.of (s2 _ _ hp2), SqL.of (s2 _ _ hq), kk _ b2 _ G2 H2 hf2 (e1.trans e2) E2 s2 B2 fun i G3 H3 r => ⟨fun a ha => ?_, fun hl => ?_⟩⟩⟩
  · obtain ⟨h3, h4⟩ := zip_at ha
    obtain ⟨u, hu, ru⟩ := rs2.get (i := i) (d := d a.1) (by rw [List.getElem?_map, h3]; rfl)
    obtain ⟨z, hz, rz⟩ := rt.get (i := i) (d := d a.2) (by rw [List.getElem?_map, h4]; rfl)
    have sp : SqL K H3 p vs := SqL.of (r.2 _ _ (r.1 _ _ hp2))
    have sq : SqL K H3 q ws := SqL.of (r.2 _ _ (r.1 _ _ hq))
    refine ⟨⟨vs, ws, u, z, sp, sq, hu, hz⟩, fun y H4 ⟨T, u', z', e, hT, e4, hu', hz'⟩ => ?_⟩
    have a1 := hu' vs sp
    have a2 := hz' ws sq
    rw [hu] at a1
    rw [hz] at a2
    cases a1; cases a2
    subst e e4
    exact ⟨_, Ex.new r.2 hT, .tup (.inl (.inl upd_same)) (.cons ((ru.ext r.1).ext (upS (r.2.free hT))) (.cons ((rz.ext r.1).ext (upS (r.2.free hT))) .nil))⟩
  · have sp : SqL K H3 p vs := SqL.of (r.2 _ _ (r.1 _ _ hp2))
    have sq : SqL K H3 q ws := SqL.of (r.2 _ _ (r.1 _ _ hq))
    refine ⟨vs, ws, sp, sq, ?_⟩
    rw [rs2.length, rt.length, List.length_map, List.length_map]
    rw [List.length_zip] at hl
    omega
theorem reps_tx {G : Hp} : ∀ {vs : List V} {ys : List Str}, Reps K G vs (ys.map d) → vs = ys.map V.str
  | [], [], .nil => rfl
  | _ :: _, _ :: _, .cons r t => by
    cases r
    rw [reps_tx t]
    rfl
theorem ev_join {m1 : M Str} {m2 : M (List Str)} (h1 : EvR K W ta Γ m1) (h2 : EvR K W tb Γ m2) :
    EvR K W (tM1 (fun x xs H Q => ∃ a p, ∃ ys : List Str, x = .str a ∧ xs = [.ref p] ∧ (SqL K H p (ys.map V.str) ∨ SqT K H p (ys.map V.str)) ∧ (ys.map (·.length)).sum + ys.length * a.length ≤ 16777216 ∧ Q (.str (Txt.join a ys)) H) ta tb) Γ (do let a ← m1; let ys ← m2; joinSM a ys) := fun x σ G H b Q E s B h =>
  step_E (te := ta) h1 E s B h fun a b1 v G1 H1 hf1 e1 E1 s1 B1 r1 => by
    cases rep_str r1
    refine ⟨⟨a, rfl⟩, step_E (te := tb) h2 E1 s1 B1 hf1 fun ys b2 w G2 H2 hf2 e2 E2 s2 B2 r2 => ?_⟩
    obtain ⟨q, ws, rfl, hq, rt⟩ := rep_lst r2
    cases reps_tx rt
    obtain ⟨hl, h3⟩ := need_fin hf2
    exact ⟨a, q, ys, rfl, rfl, .inl (SqL.of (s2 _ _ hq)), hl, h3.here s2 B2 (.str _)⟩
noncomputable def idxT (a b : D) : M Int := match pyD a, pyD b with
  | some (.tuple ds), some p => do
    need (SeqAt.shaped (.tuple ds) = true ∧ SeqAt.shaped p = true)
    match ds.findIdx? fun z => PyData.eqv z p with
    | some j => pure (j : Int)
    | none => M.stuck
  | _, _ => M.stuck
end
end N

set_option Elab.async false
set_option linter.all false
set_option maxRecDepth 100000
set_option maxHeartbeats 4000000
/-! N26: tuples made by tuple(list), known to have no dict; their methods. -/
namespace N
open PySem PySem.Spec PyProof.Rows L2 J
section
variable {X : Cx}
def rTupN (K : PySem.W.Frag) : List V → Hp → VK → Prop := fun xs H Q => ∃ p ys, xs = [.ref p] ∧ SqL K H p ys ∧ ∀ l o, H l = none → o.dict = none → Q (.ref l) (upd H l (.frz o (.tup ys)))
theorem call_tupN : CallR X (.type "tuple") (rTupN X.K) := by
  intro pins s σ H xs us Q I r h
  obtain ⟨p, ys, rfl, hq, q⟩ := h
  obtain ⟨u, rfl, rx⟩ := vals1 r
  cases rx
  obtain ⟨its, r', pl, hz⟩ := I.list hq
  have hlen := r'.length
  refine call_tuple_list pl.isList (fun h' kp => ?_) (by simp only [List.size_toArray] <;> omega)
  have I1 : Inv X pins σ H { s with heap := h' } := I.kept (t' := s.toks) kp
  have I2 : Inv X pins σ (upd H h'.objs.size (.frz { cls := .type "tuple", data := .seq its.toArray } (.tup ys))) { s with heap := h'.push { cls := .type "tuple", data := .seq its.toArray } } :=
    I1.laid (t' := s.toks) (fun b o e => Heap.get?_push_of_some _ e) (Nat.le_refl _) (show ObjOk X.prog X.w _ _ _ (.frz _ (.tup ys)) from ⟨Heap.get?_push_size _ rfl, hz, its, r', IsTup.new _ _⟩)
  exact ⟨.ref h'.objs.size, _, I2, rfl, q _ _ (I1.hok.fresh (Nat.le_refl _)) rfl⟩
/-- t.m(e, ..), t such a tuple -/
def tTM (r : V → List V → Hp → VK → Prop) (to : TE) (t : TA) : TE := fun σ H Q => to σ H fun x H1 => (∃ p o ys, x = .ref p ∧ H1 p = some (.frz o (.tup ys)) ∧ o.dict = none) ∧ t σ H1 fun xs H2 => r x xs H2 Q
variable {o e : Expr} {es : List Expr} {to : TE} {t : TA} {name : Str} {apos cpos : Pos} {id : String} {r : V → List V → Hp → VK → Prop}
theorem pe_tm (slot : Slot "tuple" name id) (hty : typeOf (.builtin id) = pure (.type "method_descriptor")) (hm : MtR X id r) (ho : PE X o to) (ha : PA X (e :: es) t)
    (hbase : attributeBase o name X.env (eval o X.env) = eval o X.env := by rfl)
    (hfew : ((backTo cpos (starEach (e :: es) X.env)).all (fun x => !x.1) && (backToKw cpos (keywordEach [] X.env)).all (fun x => x.1.isSome)
      && decide ((e :: es).length + ([] : List Keyword).length + (if ([] : List Keyword).isEmpty then 0 else 1) < 30)) = true := by rfl)
    (hline : (apos.endLine == cpos.line) = true := by rfl) (hs : starEach (e :: es) X.env = (false, eval e X.env) :: starEach es X.env := by rfl) (hplain : (backTo cpos (starEach es X.env)).any (·.1) = false := by rfl) :
    PE X (.Call (.Attribute o name apos) (e :: es) [] cpos) (tTM r to t) := by
  refine ⟨fun pins s σ H Q I h => ?_⟩
  refine wpAny_Call_method_late hbase hfew hline rfl (thn (ho.run pins s σ H _ I h) fun v s1 ⟨x, H1, I1, r1, ⟨p, ob, ys, ex, hp, hd⟩, q1⟩ => ?_)
  subst ex
  obtain rfl : v = Value.ref p := r1
  obtain ⟨hg, hz, its, rv, it⟩ := I1.hok p _ hp
  have ht : s1.TypeIs (.ref p) "tuple" := by
    obtain ⟨o2, h2, hc, _⟩ := it
    exact ⟨o2, h2, hc⟩
  refine ⟨"tuple", id, PySem.F.plainAttrs_tuple, slot, hty, ht, fun a ea => by cases ea; exact ⟨ob, hg, hd⟩, ?_⟩
  have hA := ha.run cpos pins s1 σ H1 _ I1 q1
  rw [hs] at hA ⊢
  refine Calls.callWith_builtin (by show (false || (backTo cpos (starEach es X.env)).any (·.1)) = false; rw [hplain] <;> rfl) (Calls.evalArgs_plain ?_)
  exact thn hA fun us s2 ⟨vs, H2, I2, r2, q2⟩ => hm pins s2 σ H2 (.ref p) vs (.ref p) us Q I2 rfl r2 q2
end
end N

set_option Elab.async false
set_option linter.all false
set_option maxRecDepth 100000
set_option maxHeartbeats 4000000
/-! N27: readings of tuples that are known to have no dict. -/
namespace N
open PySem PySem.Spec PyProof.Rows L2 J
open ToD (d)
open ToDs (ds)
open M
section
variable {ω : Type} {α β γ S : Type} [ToD α] [ToD β] [ToD γ] {K : PySem.W.Frag} {W : WX} {P : Post ω} {te ta tb : TE} {Γ : List Sl} {ts rest : TS}
theorem rep_tupN {G : Hp} {v : V} {ds : List D} (h : Rep K G v (.tupN ds)) : ∃ p o vs, v = .ref p ∧ G p = some (.frz o (.tup vs)) ∧ o.dict = none ∧ Reps K G vs ds := by cases h with | tupN h z r => exact ⟨_, _, _, rfl, h, z, r⟩
theorem cm_tupN : CallM K (rTupN K) (fun (i : List α × Unit) => (pure ⟨i.1⟩ : M (VN α))) := fun W x σ G H b Q i vs s B rs h => by
  obtain ⟨a, u⟩ := i
  obtain ⟨v, rfl, r⟩ := reps1 rs
  obtain ⟨p, ws, rfl, hp, rs⟩ := rep_lst r
  exact ⟨p, ws, rfl, SqL.of (s _ _ hp), fun l o hl ho => h.new s B hl (.tupN upd_same ho (rs.ext (upS (s.free hl))))⟩
theorem cm_listN : CallM K (fun xs H Q => ∃ p ys, xs = [.ref p] ∧ (SqL K H p ys ∨ SqT K H p ys) ∧ ∀ l, H l = none → Q (.ref l) (upd H l (.lst ys))) (fun (i : VN α × Unit) => (pure i.1.l : M (List α))) := fun W x σ G H b Q i vs s B rs h => by
  obtain ⟨a, u⟩ := i
  obtain ⟨v, rfl, r⟩ := reps1 rs
  obtain ⟨p, o, ws, rfl, hp, ho, rs⟩ := rep_tupN r
  exact ⟨p, ws, rfl, .inr (.inl (.inr ⟨_, s _ _ hp⟩)), fun l hl => h.new s B hl (.lst upd_same (rs.ext (upS (s.free hl))))⟩
theorem cm_listT : CallM K (fun xs H Q => ∃ p ys, xs = [.ref p] ∧ (SqL K H p ys ∨ SqT K H p ys) ∧ ∀ l, H l = none → Q (.ref l) (upd H l (.lst ys))) (fun (i : VT α × Unit) => (pure i.1.l : M (List α))) := fun W x σ G H b Q i vs s B rs h => by
  obtain ⟨a, u⟩ := i
  obtain ⟨v, rfl, r⟩ := reps1 rs
  obtain ⟨p, ws, rfl, hp, rs⟩ := rep_tup (ds := a.l.map d) r
  exact ⟨p, ws, rfl, .inr (sqT_H s hp), fun l hl => h.new s B hl (.lst upd_same (rs.ext (upS (s.free hl))))⟩
theorem cm_listL : CallM K (fun xs H Q => ∃ p ys, xs = [.ref p] ∧ (SqL K H p ys ∨ SqT K H p ys) ∧ ∀ l, H l = none → Q (.ref l) (upd H l (.lst ys))) (fun (i : List α × Unit) => (pure i.1 : M (List α))) := fun W x σ G H b Q i vs s B rs h => by
  obtain ⟨a, u⟩ := i
  obtain ⟨v, rfl, r⟩ := reps1 rs
  obtain ⟨p, ws, rfl, hp, rs⟩ := rep_lst r
  exact ⟨p, ws, rfl, .inl (SqL.of (s _ _ hp)), fun l hl => h.new s B hl (.lst upd_same (rs.ext (upS (s.free hl))))⟩
theorem idx_spec {l : List PyData} {f : PyData → Bool} : ∀ {j : Nat}, l.findIdx? f = some j → ∃ z, l[j]? = some z ∧ f z = true ∧ ∀ m z', m < j → l[m]? = some z' → f z' = false := fun {j} h => by
  rw [List.findIdx?_eq_some_iff_getElem] at h
  obtain ⟨hl, h1, h2⟩ := h
  refine ⟨l[j], List.getElem?_eq_getElem hl, h1, fun m z' hm hz => ?_⟩
  have lm : m < l.length := by omega
  rw [List.getElem?_eq_getElem lm] at hz
  cases hz
  simpa using h2 m hm
theorem ev_tidx {mt : M (VN α)} {ma : M β} (h1 : EvR K W ta Γ mt) (h2 : EvR K W tb Γ ma) : EvR K W (tTM (rIndexDT K) ta (tCons tb tNil)) Γ (do let t ← mt; let a ← ma; idxT (d t) (d a)) := fun x σ G H b Q E s B h =>
  step_E (te := ta) h1 E s B h fun t b1 v G1 H1 hf1 e1 E1 s1 B1 r1 => by
    obtain ⟨p, o, vs, rfl, hp, ho, rs⟩ := rep_tupN (ds := t.l.map d) r1
    refine ⟨⟨p, o, vs, rfl, s1 _ _ hp, ho⟩, step_E (te := tb) h2 E1 s1 B1 hf1 fun a b2 w G2 H2 hf2 e2 E2 s2 B2 r2 => ?_⟩
    unfold idxT at hf2
    cases q1 : pyD (d t) with
    | none => rw [q1] at hf2; exact False.elim hf2
    | some pt =>
      cases q2 : pyD (d a) with
      | none => rw [q1, q2] at hf2; cases pt <;> exact False.elim hf2
      | some pa =>
        rw [q1, q2] at hf2
        cases pt with
        | tuple es =>
          obtain ⟨⟨h3, h4⟩, hf3⟩ := need_fin hf2
          cases q3 : es.findIdx? fun z => PyData.eqv z pa with
          | none => rw [q3] at hf3; exact False.elim hf3
          | some j =>
            rw [q3] at hf3
            obtain ⟨z, hz, hzj, hno⟩ := idx_spec q3
            have hf4 : FinE K W x σ G2 H2 Q ((pure (j : Int) : M Int) b2) := hf3
            exact ⟨p, w, pa, es, j, z, rfl, rfl, rep_dp s2 (r1.ext e2.g) q1, rep_dp s2 r2 q2, h3, h4, hz, hzj, fun m z' hm hz' => hno m z' hm hz', hf4.here s2 B2 (.int _)⟩
        | _ => exact False.elim hf2
end
end N

set_option Elab.async false
set_option linter.all false
set_option maxRecDepth 100000
set_option maxHeartbeats 4000000
/-! N28: one Lean type read as another; defs that call themselves. -/
namespace N
open PySem PySem.Spec PyProof.Rows L2 J
open ToD (d)
open ToDs (ds)
open M
/-- the same data under another type -/
class Co (α β : Type) [ToD α] [ToD β] where
  co : α → β
  eq : ∀ a, d (co a) = d a
section
variable {α β γ α' β' γ' : Type} [ToD α] [ToD β] [ToD γ] [ToD α'] [ToD β'] [ToD γ']
instance (priority := low) : Co α α := ⟨id, fun _ => rfl⟩
instance : Co Int Nm := ⟨.i, fun _ => rfl⟩
instance : Co Rt Nm := ⟨.r, fun _ => rfl⟩
theorem map_co [Co α β] (xs : List α) : (xs.map (Co.co (β := β))).map d = xs.map d := by
  rw [List.map_map]
  exact List.map_congr_left fun a _ => Co.eq a
instance [Co α β] : Co (List α) (List β) := ⟨fun xs => xs.map Co.co, fun xs => congrArg D.lst (map_co xs)⟩
instance [Co α β] : Co (VT α) (VT β) := ⟨fun xs => ⟨xs.l.map Co.co⟩, fun xs => congrArg D.tup (map_co xs.l)⟩
instance [Co α β] : Co (List α) (Sq β) := ⟨fun xs => .l (xs.map Co.co), fun xs => congrArg D.lst (map_co xs)⟩
instance [Co α β] : Co (VT α) (Sq β) := ⟨fun xs => .t (xs.l.map Co.co), fun xs => congrArg D.tup (map_co xs.l)⟩
instance [Co α α'] [Co β β'] : Co (α × β) (α' × β') := ⟨fun p => (Co.co p.1, Co.co p.2), fun p => by
  show D.tup [d (Co.co p.1 : α'), d (Co.co p.2 : β')] = D.tup [d p.1, d p.2]
  rw [Co.eq, Co.eq]⟩
instance [Co α α'] [Co β β'] [Co γ γ'] : Co (T3 α β γ) (T3 α' β' γ') := ⟨fun p => ⟨Co.co p.a, Co.co p.b, Co.co p.c⟩, fun p => by
  show D.tup [d (Co.co p.a : α'), d (Co.co p.b : β'), d (Co.co p.c : γ')] = D.tup [d p.a, d p.b, d p.c]
  rw [Co.eq, Co.eq, Co.eq]⟩
end
section
variable {ω : Type} {α β γ S : Type} [ToD α] [ToD β] [ToD γ] {K : PySem.W.Frag} {W : WX} {P : Post ω} {te ta tb : TE} {Γ : List Sl} {ts rest : TS}
theorem ev_coC [Co α β] {m : M α} (h : EvR K W te Γ m) : EvR K W te Γ (do let a ← m; pure (Co.co a : β)) := fun x σ G H b Q E s B h' =>
  step_E (te := te) h E s B h' fun a b' v G' H' h2 e E2 s2 B2 r => h2.here s2 B2 (by rw [Co.eq]; exact r)
/-! ### a def that calls itself: nothing is promised without fuel -/
theorem spG_no {ι : Type} [ToDs ι] {f : ι → Res γ} (hf : ∀ i, f i = .stuck) {vs : List V} {H : Hp} {Q : VK} {E : XK} (h : spG K f vs H Q E) : False := by
  obtain ⟨i, G, s, rs, z⟩ := h
  rw [hf] at z
  exact z
theorem spB_no {ι : Type} [ToDs ι] {f : ι → M γ} (hf : ∀ i, f i = M.stuck) {vs : List V} {H : Hp} {Q : VK} {E : XK} (h : spB K f vs H Q E) : False := by
  obtain ⟨i, G, b, p, ws, rfl, s, B, rs, z⟩ := h
  rw [hf] at z
  exact z
end
theorem fnOk_no {P : Program} {w : World} {K : PySem.W.Frag} {mg : Str → Option Value} {base : Heap} {CX : CXT} {k : Nat} {f : Addr} {fd : FuncData} {ps : List Str} {sp : Sp} (h : ∀ vs H Q E, sp vs H Q E → False) : FnOk P w K mg base CX k f fd ps sp :=
  ⟨fun vs H Q E z => (h _ _ _ _ z).elim, fun A outer s H args us vs Q E hr e0 b r z => (h _ _ _ _ z).elim⟩
end N

set_option Elab.async false
set_option linter.all false
set_option maxRecDepth 100000
set_option maxHeartbeats 4000000
/-! N29: sets of texts that can be walked: made, added to, sorted. -/
namespace N
open PySem PySem.Spec PyProof.Rows L2 J
/-- an entry that is a text under its hash -/
def GoodT (w : World) (e : Int × Value) : Prop := ∃ k tk, e.2 = Value.str k tk ∧ e.1 = hashStr w k
def keyT (e : Int × Value) : Str := match e.2 with
  | .str k _ => k
  | _ => Str.empty
/-- the texts of S, n of them, in a set whose table can be walked -/
def SetTx (w : World) (h : Heap) (a : Addr) (S : Str → Bool) (n : Nat) : Prop :=
  ∃ o es ep t, h.get? a = some o ∧ o.ExactSet ∧ o.data = .set es ep t ∧ (∀ e ∈ es.toList, GoodT w e) ∧ (es.toList.map keyT).Nodup ∧ (∀ k, S k = true ↔ k ∈ es.toList.map keyT) ∧
    es.size < scanBound ∧ t.fits es.size = true ∧ es.size = n ∧ Ris t.place.toList ∧ (w.params.followText "set-order" = true ∨ t.led = true)
section
variable {P : Program} {w : World} {A : Around} {E : Value → Shared → Prop} {s : Shared} {h h' : Heap} {a : Addr} {S : Str → Bool} {n : Nat}
theorem SetTx.at (R : SetTx w h a S n) (k : ∀ o, h.get? a = some o → h'.get? a = some o) : SetTx w h' a S n := by
  obtain ⟨o, es, ep, t, ho, r⟩ := R
  exact ⟨o, es, ep, t, k o ho, r⟩
theorem is_tx (k : Str) (u : Tok) : (PySem.strKind P w).is k (.str k u) = true := by show (k == k) = true; exact beq_self_eq_true k
theorem goodT_elems {l : List (Int × Value)} (g : ∀ e ∈ l, GoodT w e) : ElemsOf (PySem.strKind P w) l := fun e he => by
  obtain ⟨k, tk, h1, h2⟩ := g e he
  exact ⟨⟨k, by rw [h1]; exact is_tx k tk, h2⟩, by rw [h1] <;> rfl⟩
theorem goodT_is {e : Int × Value} (g : GoodT w e) (k : Str) : (PySem.strKind P w).is k e.2 = true ↔ keyT e = k := by
  obtain ⟨k0, tk, h1, _⟩ := g
  unfold keyT
  rw [h1]
  show ((k0 == k) = true) ↔ k0 = k
  exact beq_iff_eq
theorem goodT_mem {l : List (Int × Value)} (g : ∀ e ∈ l, GoodT w e) (k : Str) : k ∈ l.map keyT ↔ ∃ e ∈ l, (PySem.strKind P w).is k e.2 = true := by
  rw [List.mem_map]
  constructor
  · rintro ⟨e, he, q⟩
    exact ⟨e, he, (goodT_is (g e he) k).2 q⟩
  · rintro ⟨e, he, q⟩
    exact ⟨e, he, (goodT_is (g e he) k).1 q⟩
theorem setTx_tail {g : Bool → Sem Unit} (hg : ∀ (b : Bool) (s₁ : Shared) (Q' : Unit → Shared → Prop), Q' () s₁ → wpAny (model P w) A (g b) Q' E s₁)
    {o : Obj} {es : Array (Int × Value)} {ep : Nat} {t : SetTable} (ho : s.heap.get? a = some o) (hex : o.ExactSet) (hd : o.data = .set es ep t)
    {es1 : Array (Int × Value)} {t2 : SetTable} {S' : Str → Bool} (g1 : ∀ e ∈ es1.toList, GoodT w e) (nd1 : (es1.toList.map keyT).Nodup) (m1 : ∀ k, S' k = true ↔ k ∈ es1.toList.map keyT)
    (hb1 : es1.size < scanBound) (hf2 : t2.fits es1.size = true) (hr : Ris t2.place.toList) (hl : w.params.followText "set-order" = true ∨ t2.led = true) {wasDummy : Bool} {R : Option Bool → Shared → Prop}
    (hR : ∀ h', Heap.SameBut a s.heap h' → SetTx w h' a S' es1.size → R (some true) { s with heap := h' }) :
    wpAny (model P w) A (do
        storeSet a es1 t2
        if (!wasDummy && t2.tooFull) = true then do
            g (relayAll t2 es1 (SetTable.grown es1.size)).2.2
            storeSet a (relayAll t2 es1 (SetTable.grown es1.size)).1 (relayAll t2 es1 (SetTable.grown es1.size)).2.1
            pure (some true)
          else pure (some true)) R E s := by
  refine wpAny_bind (wpAny_storeSet_of ho hd ?_ (fits_of_scanBound hb1))
  have ho1 := store_at (es' := es1) (t' := t2) ho hd
  have sb1 := Heap.SameBut.update s.heap a (Obj.putSet es1 t2)
  split
  · have pm := relayAll_perm t2 es1 (SetTable.grown es1.size)
    have hf3 := relayAll_fits t2 es1 (SetTable.grown es1.size)
    have hr3 := relayAll_ris t2 es1 (SetTable.grown es1.size)
    have hl3 := relayAll_led t2 es1 (SetTable.grown es1.size)
    generalize relayAll t2 es1 (SetTable.grown es1.size) = Z at pm hf3 hr3 hl3 ⊢
    obtain ⟨es2, t3, gave⟩ := Z
    dsimp only at pm hf3 hr3 hl3 ⊢
    have hsz : es2.size = es1.size := by rw [← Array.length_toList, pm.length_eq, Array.length_toList]
    have hb2 : es2.size < scanBound := by rw [hsz]; exact hb1
    refine wpAny_bind (hg _ _ _ ?_)
    refine wpAny_bind (wpAny_storeSet_of ho1 rfl ?_ (fits_of_scanBound hb2))
    have ho2 := store_at (es' := es2) (t' := t3) ho1 rfl
    refine wpAny_pure (hR _ (sb1.trans (Heap.SameBut.update _ a _)) ?_)
    exact ⟨_, es2, _, t3, ho2, hex, rfl, fun e he => g1 e (pm.mem_iff.mp he), (pm.map keyT).nodup_iff.mpr nd1, fun k => (m1 k).trans (pm.map keyT).mem_iff.symm, hb2, hf3, hsz, hr3,
      hl.imp id fun z => by rw [hl3]; exact z⟩
  · exact wpAny_pure (hR _ sb1 ⟨_, es1, _, t2, ho1, hex, rfl, g1, nd1, m1, hb1, hf2, rfl, hr, hl⟩)
theorem setTx_add_hashed {k : Str} {tk : Tok} {Q : Bool → Shared → Prop} (R : SetTx w s.heap a S n) (room : n + 1 < scanBound)
    (hQ : ∀ h', Heap.SameBut a s.heap h' → SetTx w h' a (fun j => S j || decide (j = k)) (if S k = true then n else n + 1) → Q (!S k) { s with heap := h' }) :
    wpAny (model P w) A (setAddHashed a (.str k tk) (hashStr w k)) Q E s := by
  obtain ⟨o, es, ep, t, ho, hex, hd, g, nd, hm, hb, hf, hn, hr, hl⟩ := R
  have hkey : (PySem.strKind P w).is k (.str k tk) = true := is_tx k tk
  have hsc : (Value.str k tk).scannable = true := rfl
  have hel : ElemsOf (PySem.strKind P w) es.toList := goodT_elems g
  unfold setAddHashed setAddHashedIn
  refine wpAny_holding (wpAny_bind (wpAny_setState_of ho hd hf ?_))
  dsimp only
  rw [byScan_of hsc hb hel]
  simp only [↓reduceIte]
  unfold setAddByScan
  refine wpAny_bind ?_
  refine wpAny_bind (wpAny_rule ?_)
  refine wpAny_bind (wpAny_setScan_of hkey ho hd hf hel ?_)
  cases hfi : List.findIdx? (fun e => (PySem.strKind P w).is k e.2) es.toList with
  | some j =>
    dsimp only
    obtain ⟨hj, pj, _⟩ := List.findIdx?_eq_some_iff_getElem.mp hfi
    have hSk : S k = true := (hm k).2 ((goodT_mem (P := P) (w := w) g k).2 ⟨es.toList[j], List.getElem_mem hj, pj⟩)
    refine wpAny_pure (wpAny_pure ?_)
    have q := hQ s.heap (Heap.SameBut.refl a s.heap) ⟨o, es, ep, t, ho, hex, hd, g, nd, fun i => by
      rw [Bool.or_eq_true, decide_eq_true_eq, ← hm i]
      exact ⟨fun z => z.elim id (fun e => e ▸ hSk), .inl⟩, hb, hf, by rw [if_pos hSk]; exact hn, hr, hl⟩
    rw [hSk] at q
    exact q
  | none =>
    dsimp only
    have hnk : k ∉ es.toList.map keyT := fun z => by
      obtain ⟨e, he, q⟩ := (goodT_mem (P := P) (w := w) g k).1 z
      have c := List.findIdx?_eq_none_iff.mp hfi e he
      rw [q] at c
      cases c
    have hSk : S k = false := by
      cases q : S k with
      | false => rfl
      | true => exact absurd ((hm k).1 q) hnk
    have hgw : ∀ (b : Bool) {s₁ : Shared} {Q' : Unit → Shared → Prop}, Q' () s₁ → wpAny (model P w) A (match b with | true => rule "set.scan.the-table-gave-way" | false => pure ()) Q' E s₁ :=
      fun b s₁ Q' q => by cases b <;> first | exact wpAny_pure q | exact wpAny_rule q
    have pm := layNew_perm t es (hashStr w k) (.str k tk)
    have hf1 := layNew_fits t es (hashStr w k) (.str k tk)
    have hr1 := layNew_ris t es (hashStr w k) (.str k tk) hr
    have hl1 := layNew_led t es (hashStr w k) (.str k tk)
    generalize layNew t es (hashStr w k) (.str k tk) = Z at pm hf1 hr1 hl1 ⊢
    obtain ⟨es1, t1, wasDummy, gave⟩ := Z
    dsimp only at pm hf1 hr1 hl1 ⊢
    rw [Array.toList_push] at pm
    have pc : es1.toList.Perm ((hashStr w k, Value.str k tk) :: es.toList) := pm.trans (List.perm_append_singleton _ _)
    have pk : (es1.toList.map keyT).Perm (k :: es.toList.map keyT) := pc.map keyT
    have g1 : ∀ e ∈ es1.toList, GoodT w e := fun e he => by
      rcases List.mem_cons.mp (pc.mem_iff.mp he) with z | z
      · rw [z]; exact ⟨k, tk, rfl, rfl⟩
      · exact g e z
    have nd1 : (es1.toList.map keyT).Nodup := pk.nodup_iff.mpr (List.nodup_cons.mpr ⟨hnk, nd⟩)
    have m1 : ∀ i, (S i || decide (i = k)) = true ↔ i ∈ es1.toList.map keyT := fun i => by
      rw [Bool.or_eq_true, decide_eq_true_eq, hm i, pk.mem_iff, List.mem_cons]
      exact Or.comm
    have hsz : es1.size = n + 1 := by rw [← Array.length_toList, pc.length_eq, List.length_cons, Array.length_toList, hn]
    have hb1 : es1.size < scanBound := by rw [hsz]; exact room
    have hled : w.params.followText "set-order" = true ∨ t1.led = true := hl.imp id fun z => by rw [hl1]; exact z
    have fin : ∀ h', Heap.SameBut a s.heap h' → SetTx w h' a (fun j => S j || decide (j = k)) es1.size → Q true { s with heap := h' } := fun h' sb r => by
      have q := hQ h' sb
      rw [hSk] at q
      rw [hsz] at r
      exact q r
    refine wpAny_bind (hgw _ ?_)
    split
    · refine wpAny_bind ?_
      rw [hashByValue_scannable 8 hsc]
      refine wpAny_pure ?_
      refine setTx_tail ?_ ho hex hd g1 nd1 m1 hb1 ?_ ?_ ?_ ?_
      · intro b s₁ Q' q; cases b <;> first | exact wpAny_pure q | exact wpAny_rule q
      · first | (split <;> first | exact hf1 | exact SetTable.fits_plain_off hf1) | exact hf1
      · first | (split <;> exact hr1) | exact hr1
      · first | (split <;> exact hled) | exact hled
      · intro h' sb r; dsimp only; exact wpAny_pure (fin h' sb r)
    · refine wpAny_bind (wpAny_pure ?_)
      simp only [↓reduceIte]
      refine setTx_tail ?_ ho hex hd g1 nd1 m1 hb1 hf1 hr1 hled ?_
      · intro b s₁ Q' q; cases b <;> first | exact wpAny_pure q | exact wpAny_rule q
      · intro h' sb r; dsimp only; exact wpAny_pure (fin h' sb r)
theorem SetTx.setOf (R : SetTx w h a S n) : h.SetOf (PySem.strKind P w) a S n := by
  obtain ⟨o, es, ep, t, ho, hx, hd, g, nd, hm, hb, hf, hn, _⟩ := R
  exact ⟨o, es, ep, t, ho, hx, hd, goodT_elems g, fun k => (hm k).trans (goodT_mem g k), hb, hf, hn⟩
theorem setTx_add {k : Str} {tk : Tok} {Q : Value → Shared → Prop} (R : SetTx w s.heap a S n) (room : n + 1 < scanBound)
    (hQ : ∀ h', Heap.SameBut a s.heap h' → SetTx w h' a (fun j => S j || decide (j = k)) (if S k = true then n else n + 1) → Q .none { s with heap := h', toks := s.toks + 1 }) :
    wpAny (model P w) A (call (.builtin "set.add") [.ref a, .str k tk]) Q E s := by
  have hS : s.heap.SetOf (PySem.strKind P w) a S n := R.setOf
  refine wpAny_call_entry PySem.F.slot_set_add hS.typeIs PySem.F.entry_set_add ?_ (PySem.F.args_set_add_2 _ _)
  unfold Builtin.«set.add» Builtin.Frozenset.oneOther
  simp only [List.isEmpty_nil, bind_assoc]
  unfold Builtin.Frozenset.addrOf setAdd
  refine wpAny_bind (wpAny_pure ?_)
  try dsimp only
  refine wpAny_bind (wpAny_pure ?_)
  try dsimp only
  refine wpAny_bind ?_
  refine wpAny_holding ?_
  refine wpAny_bind ((PySem.strKind P w).pyHash (is_tx k tk) ?_)
  refine setTx_add_hashed (s := { s with toks := s.toks + 1 }) R room fun h' sb r => ?_
  show wpAny _ _ (ret Value.none) _ _ _
  exact wpAny_pure ⟨_, rfl, hQ h' sb r⟩
theorem setTx_fresh {h : Heap} (w : World) : SetTx w (h.push { cls := .type "set", dict := none, data := .set #[] 0 (.fresh 0 0 (!w.params.followText "set-order")) }) h.objs.size (fun _ => false) 0 :=
  ⟨_, #[], 0, _, Heap.get?_push_size _ rfl, ⟨rfl, rfl, rfl⟩, rfl, (fun e he => by simp at he), (by simp), (fun k => by simp), (by decide), (by rfl), rfl, List.Pairwise.nil, by
    show _ ∨ (!w.params.followText "set-order") = true
    cases w.params.followText "set-order"
    · exact .inr rfl
    · exact .inl rfl⟩
end
end N

set_option Elab.async false
set_option linter.all false
set_option maxRecDepth 100000
set_option maxHeartbeats 4000000
/-! N30: sorted(a set of texts). -/
namespace N
open PySem PySem.Spec PyProof.Rows L2 J
section
variable {P : Program} {w : World} {A : Around} {E : Value → Shared → Prop} {s : Shared} {a : Addr} {S : Str → Bool} {n : Nat}
def txOf : Value → Str
  | .str k _ => k
  | _ => Str.empty
theorem strs_of : ∀ (l : List Value), (∀ v ∈ l, ∃ k tk, v = Value.str k tk) → StrsAre l (l.map txOf)
  | [], _ => .nil
  | v :: r, h => by
    obtain ⟨k, tk, rfl⟩ := h v List.mem_cons_self
    exact .cons _ _ (strs_of r fun u hu => h u (List.mem_cons_of_mem _ hu))
theorem sorted_setTx {Q : Value → Shared → Prop} (R : SetTx w s.heap a S n) (hh : A.handled = none)
    (hQ : ∀ s' p (out : Array Value) (c : Nat) (ys : List Str), (∀ b o, s.heap.get? b = some o → s'.heap.get? b = some o) → s'.gens = s.gens → s'.os = s.os → s.heap.objs.size ≤ p →
      s'.heap.get? p = some (seqObj "list" out c) → StrsAre out.toList ys → sortedS ys = true → ys.Nodup → (∀ k, k ∈ ys ↔ S k = true) → ys.length = n → Q (.ref p) s') :
    wpAny (model P w) A (call (.builtin "sorted") [.ref a]) Q E s := by
  obtain ⟨o, es, ep, t, ho, hex, hd, g, nd, hm, hb, hf, hn, hr, hl⟩ := R
  refine Calls.call_function_entry kind_sorted plain_sorted entry_sorted (args_sorted1 _) ?_
  unfold Builtin.«sorted»
  refine wpAny_bind (m := checkCount "sorted" 1 1 _) (wpAny_pure ?_)
  refine wpAny_bind (collect_set (A := A.in1) hh ⟨o, ho, hex.1, hd⟩ hf hb hr hl fun s1 vs k1 hz g1 o1 pm => ?_)
  have hvl : vs.length = n := by rw [pm.length_eq, List.length_map, Array.length_toList]; exact hn
  have hvs : vs.length ≤ sizeLine := by
    rw [hvl, ← hn, sizeLine_eq]
    have h2 : es.size < scanBound := hb
    have h3 : scanBound ≤ 16777216 := by decide
    omega
  have hS : StrsAre vs (vs.map txOf) := strs_of vs fun v hv => by
    obtain ⟨e, he, q⟩ := List.mem_map.mp (pm.mem_iff.mp hv)
    obtain ⟨k, tk, h1, _⟩ := g e he
    exact ⟨k, tk, by rw [← q]; exact h1⟩
  have pk : (vs.map txOf).Perm (es.toList.map keyT) := by
    have q := pm.map txOf
    rw [List.map_map] at q
    exact q
  refine wpAny_bind (wpAny_newList ?_ hvs)
  have hoL : (s1.heap.push (seqObj "list" vs.toArray 0)).get? s1.heap.objs.size = some (seqObj "list" vs.toArray 0) := Heap.get?_push_size _ rfl
  refine wpAny_bind (wpAny_holding (wpAny_call_entry slot_list_sort ⟨_, hoL, rfl⟩ entry_list_sort (list_sort_treeKAny strKind_oneLt hoL hS.keysOf (fun v₁ v₂ rest e => keyKind_strs (by rw [← e]; exact hS)) hvs fun st' hp hs => ?_) (args_list_sort _)))
  obtain ⟨ys, a1, a2, a3⟩ := sorted_out_str hS hp hs
  refine ⟨_, rfl, ?_⟩
  obtain ⟨c, hc⟩ := sortedHeap_at (vs := vs) (out := (arrOf st').map (·.2)) hoL
  have pn : ys.Perm (es.toList.map keyT) := a2.trans pk
  refine wpAny_pure ⟨_, rfl, hQ _ s1.heap.objs.size _ c ys (fun b u e => ?_) g1 o1 hz hc a1 a3 (pn.nodup_iff.mpr nd) (fun k => by rw [pn.mem_iff, ← hm k]) ?_⟩
  · have q := k1 b u e
    have hlt := Heap.lt_size q
    show (sortedHeap (s1.heap.push (seqObj "list" vs.toArray 0)) s1.heap.objs.size vs _).get? b = some u
    rw [sortedHeap_old (Nat.ne_of_lt hlt) (by rw [size_push']; exact Nat.lt_succ_of_lt hlt)]
    exact Heap.get?_push_of_some _ q
  · rw [pn.length_eq, List.length_map, Array.length_toList]; exact hn
end
end N

set_option Elab.async false
set_option linter.all false
set_option maxRecDepth 100000
set_option maxHeartbeats 4000000
/-! N31: sets of texts in the abstract heap. -/
namespace N
open PySem PySem.Spec PyProof.Rows L2 J
def SetTO (w : World) (a : Addr) (S : Str → Bool) (n : Nat) : HO := .ext fun h => SetTx w h a S n
theorem setTO_new {w : World} {P : Program} {H : Hp} {h : Heap} {a : Addr} {S : Str → Bool} {n : Nat} (R : SetTx w h a S n) : ObjOk P w H h a (SetTO w a S n) := by
  have ⟨o, _, _, _, ho, _⟩ := R
  exact ⟨R, ⟨o, ho⟩, fun h1 h2 p k => p.at k⟩
theorem setTO_get {X : Cx} {pins : List (Addr × Obj)} {σ : L2.St} {H : Hp} {s : Shared} {a : Addr} {S : Str → Bool} {n : Nat} (I : Inv X pins σ H s) (ha : H a = some (SetTO X.w a S n)) : SetTx X.w s.heap a S n := (I.hok a _ ha).1
section
variable {X : Cx}
def rSortedTx (w : World) : List V → Hp → VK → Prop := fun vs H Q => ∃ (a : Addr) (S : Str → Bool) (n : Nat), vs = [V.ref a] ∧ H a = some (SetTO w a S n) ∧ n ≤ 1000 ∧
  ∀ (ys : List Str) (p : Addr), sortedS ys = true → ys.Nodup → (∀ k, k ∈ ys ↔ S k = true) → H p = none → Q (.ref p) (upd H p (.lst (ys.map V.str)))
theorem cr_sortedTx (hc : X.calm = true) : CallR X (.builtin "sorted") (rSortedTx X.w) := by
  intro pins s σ H vs us Q I r h
  obtain ⟨a, S, n, rfl, ha, h64, q⟩ := h
  have R := setTO_get I ha
  rw [Vals.ref1 r]
  refine sorted_setTx R (I.ok.hd hc) fun s' p out c ns k g o hp hg hi hs hnd hm hl => ?_
  have hlen : (ns.map V.str).length ≤ sizeLine := by rw [List.length_map, hl, sizeLine_eq]; omega
  have hn : H p = none := I.hok.fresh hp
  have J : Inv X pins σ (upd H p (.lst (ns.map V.str))) { s with heap := s'.heap, gens := s'.gens, drawn := s'.drawn, toks := s'.toks } :=
    I.call (ch := []) (Un.laid k hp hn) (I.hok.laid k hp ⟨hlen, out.toList, c, vals_of_strs hi, hg⟩) (by rw [g]; exact I.bare) (fun _ z => nomatch z)
  have e : s' = { s with heap := s'.heap, gens := s'.gens, drawn := s'.drawn, toks := s'.toks } := by
    cases s'
    cases s
    cases o
    rfl
  rw [e]
  exact ⟨.ref p, _, J, rfl, q ns p hs hnd hm hn⟩
/-- one more text -/
theorem addTx_ok {pins : List (Addr × Obj)} {σ : L2.St} {H : Hp} {s : Shared} {E : Value → Shared → Prop} {D : Addr} {S : Str → Bool} {n : Nat} {y : Str} {u : Tok} {Q : Value → Shared → Prop} (I : Inv X pins σ H s) (hD : H D = some (SetTO X.w D S n)) (room : n + 1 < scanBound)
    (h : ∀ s', Inv X pins σ (upd H D (SetTO X.w D (fun j => S j || decide (j = y)) (if S y = true then n else n + 1))) s' → Q .none s') : wpAny (model X.prog X.w) X.A (call (.builtin "set.add") [.ref D, .str y u]) Q E s := by
  refine setTx_add (setTO_get I hD) room fun h' sb new => ?_
  have he : ∃ u, h'.get? D = some u := by
    have ⟨o, _, _, _, ho, _⟩ := new
    exact ⟨o, ho⟩
  exact h _ (I.write (e := D) (t' := s.toks + 1) (by rw [hD]; trivial) (.inl rfl) (fun b u hb hu => (sb.2 b hb).trans hu) he (setTO_new new))
end
end N

set_option Elab.async false
set_option linter.all false
set_option maxRecDepth 100000
set_option maxHeartbeats 4000000
/-! N32: {e for x in xs if ..}: sets of any kind. -/
namespace N
open PySem PySem.Spec PyProof.Rows L2 J PpSet
/-- what a kind of set must tell: its abstract object, the empty one, how an item comes in -/
structure SKind where
  w : World
  τ : Type
  ε : Type
  O : Addr → τ → HO
  z : τ
  V : ε → L2.V
  ok : τ → Prop
  put : τ → ε → τ
  new : ∀ (Q : Program) (H : Hp) (h : Heap) {v : World}, v = w → ObjOk Q v H (h.push { cls := .type "set", dict := none, data := .set #[] 0 (.fresh 0 0 (!v.params.followText "set-order")) }) h.objs.size (O h.objs.size z)
  add : ∀ (Y : Cx) (_ : Y.w = w) {pins : List (Addr × Obj)} {σ : L2.St} {H : Hp} {s : Shared} {E : Value → Shared → Prop} {D : Addr} {S : τ} {y : ε} {u : Value} {Q : Value → Shared → Prop} (_ : RelV (V y) u) (_ : Inv Y pins σ H s) (_ : H D = some (O D S)) (_ : ok S)
    (_ : ∀ s', Inv Y pins σ (upd H D (O D (put S y))) s' → Q .none s'), wpAny (model Y.prog Y.w) Y.A (call (.builtin "set.add") [.ref D, u]) Q E s
section
variable {X : Cx}
/-- {elt for target in iter if ..}, sets of the kind k: D the new set -/
def tScK (k : SKind) (wi : TI) (g : TG) (tt : TT) (te : TE) (vs : List Nat) : TE := fun σ H Q => wi σ H fun J H1 => ∀ D, H1 D = none → ∃ W : Nat → Nat → Hp → Prop, (∃ m, W 0 m (upd H1 D (k.O D k.z))) ∧ ∀ i m H, W i m H →
  (J.stop i H ∧ Q (.ref D) H) ∨ (J.go i H ∧ ∃ Nx : Hp → Prop, (∀ H', Nx H' → ∃ m', m' < m ∧ W (i + 1) m' H') ∧ ∀ x H', J.yld i H x H' → g x (wipe σ vs) H' fun σ2 H2 => wipe σ2 vs = wipe σ vs ∧ tt σ2 H2 fun b H3 =>
    if b = true then te σ2 H3 fun y H4 => ∃ (c : k.ε) (S : k.τ), y = k.V c ∧ H4 D = some (k.O D S) ∧ k.ok S ∧ Nx (upd H4 D (k.O D (k.put S c))) else Nx H3)
/-- what a turn leaves: the block's slots are wiped, the iterator's own things stand -/
theorem turn_end {Y : Cx} {σ0 σ1 : L2.St} {H : Hp} {s s' : Shared} {fp : List Addr} {vs : List Nat} (I : Inv Y ([] ++ pinsAt fp s.heap) σ1 H s') (hw : wipe σ1 vs = σ0) :
    Inv Y [] σ0 H s' ∧ ∀ b ∈ fp, ∀ o, s.heap.get? b = some o → s'.heap.get? b = some o ∧ H b = none := by
  refine ⟨(I.unpinned (pins := [])).weak (by rw [← hw, wipe_length]) fun j v e => ?_, fun b hb o e => ?_⟩
  · rw [← hw] at e
    exact (wipe_some e).1
  · have z := I.pin (b, o) (List.mem_append_right _ (List.mem_append_right _ (mem_pinsAt hb e)))
    exact ⟨z.1, z.2.1⟩
/-- what stands of the iterator's things, told by the block's own facts -/
theorem fp_block {s0 : Shared} {H0 H : Hp} {scope : Scope} {ce : PySem.Env} {fp : List Addr} {σ : L2.St} {s : Shared} (I : Inv (X.blk s0 H0 scope ce fp) [] σ H s) (n : ∀ b ∈ fp, H b = none) : ∀ b ∈ fp, FpOk (X.blk s0 H0 scope ce fp) [] H b := fun b hb =>
  ⟨n b hb, (I.ok.exf b hb).1, I.ok.exfs b hb, .inl hb, fun x c e => (I.ok.exf b hb).2 x c e, fun p hp => by cases hp⟩
section
variable {Y : Cx} {k : SKind} {elt tg iter : Expr} {ifs : List Expr} {g : TG} {tt : TT} {te : TE} {J : It} {fp : List Addr} {it D : Addr} {tn : Nat → Heap → Prop} {vs : List Nat} {σ0 : L2.St}
/-- one turn: an item is drawn, stored, asked, and its element comes into the set -/
theorem set_turn (hw : Y.w = k.w) (hc : Y.calm = true) (pg : PG Y tg g) (pt : PTs Y ifs tt) (pe : PE Y elt te) (T : Turn Y.prog Y.w Y.K tg J fp it tn) {i : Nat} {s : Shared} {H : Hp} (I : Inv Y [] σ0 H s) (hfp : ∀ b ∈ fp, FpOk Y [] H b)
    (hfp2 : ∀ {H' : Hp} {s' : Shared}, Inv Y [] σ0 H' s' → (∀ b ∈ fp, H' b = none) → ∀ b ∈ fp, FpOk Y [] H' b) (st : tn i s.heap) (go : J.go i H) {Nx : Hp → Prop}
    (step : ∀ x H', J.yld i H x H' → g x σ0 H' fun σ2 H2 => wipe σ2 vs = σ0 ∧ tt σ2 H2 fun b H3 => if b = true then te σ2 H3 fun y H4 => ∃ (c : k.ε) (S : k.τ), y = k.V c ∧ H4 D = some (k.O D S) ∧ k.ok S ∧ Nx (upd H4 D (k.O D (k.put S c))) else Nx H3)
    {F : Shared → Prop} (hF : ∀ s' H', Inv Y [] σ0 H' s' → tn (i + 1) s'.heap → (∀ b ∈ fp, H' b = none) → Nx H' → F s') {R : Option Value → Shared → Prop}
    (hR : ∀ u s1, wpAny (model Y.prog Y.w) Y.A (letOwnedTupleGo tg (.ref it) u) (fun _ s2 => wpAny (model Y.prog Y.w) Y.A (assign tg Y.env u) (fun _ s3 => wpAny (model Y.prog Y.w) Y.A (forIn ifs true fun c r => if r = true then do let ok ← isTrue c Y.env (eval c Y.env); pure (ForInStep.yield ok) else pure (ForInStep.yield r))
      (fun b s4 => if b = true then wpAny (model Y.prog Y.w) Y.A (eval elt Y.env) (fun z s5 => wpAny (model Y.prog Y.w) Y.A (call (.builtin "set.add") [.ref D, z]) (fun _ s6 => F s6) Y.xe s5) Y.xe s4 else F s4) Y.xe s3) Y.xe s2) (fun _ _ => False) s1 → R (some u) s1) :
    wpAny (model Y.prog Y.w) Y.A (pyNext (.ref it)) R (fun _ _ => False) s := by
  refine wpAny_mono (T.item Y rfl rfl rfl hc i [] s σ0 H (fun _ _ => False) I hfp st go) (fun r s1 ⟨u, hr, h1⟩ => ?_) fun _ _ z => z
  subst hr
  refine hR u s1 (wpAny_mono h1 (fun _ s2 ⟨x, H2, I2, r2, y2, st2, n2⟩ => ?_) fun _ _ z => z)
  have I3 := I2.pinned (hfp2 I2 n2) (T.obj _ _ st2)
  have last : ∀ {σ1 : L2.St} {s' : Shared} {H' : Hp}, Inv Y ([] ++ pinsAt fp s2.heap) σ1 H' s' → wipe σ1 vs = σ0 → Nx H' → F s' := fun {σ1 s' H'} I' hw' nx => by
    obtain ⟨J1, J2⟩ := turn_end I' hw'
    refine hF s' H' J1 (T.keep _ _ _ st2 fun b hb o e => (J2 b hb o e).1) (fun b hb => ?_) nx
    obtain ⟨o, e, _⟩ := T.obj _ _ st2 b hb
    exact (J2 b hb o e).2
  refine wpAny_mono (pg.run _ s2 _ H2 x u _ I3 r2 (step x H2 y2)) (fun _ s3 ⟨σ3, H3, I4, hw3, q3⟩ => ?_) fun _ _ z => z
  refine wpAny_mono (pt.run _ s3 σ3 H3 _ I4 q3) (fun b s4 ⟨H4, I5, q4⟩ => ?_) fun _ _ z => z
  cases b with
  | false =>
    rw [if_neg Bool.false_ne_true] at q4 ⊢
    exact last I5 hw3 q4
  | true =>
    rw [if_pos rfl] at q4 ⊢
    refine wpAny_mono (pe.run _ s4 σ3 H4 _ I5 q4) (fun z s5 ⟨yv, H5, I6, r5, c, S, ey, hD, hk, nx⟩ => ?_) fun _ _ z => z
    subst ey
    exact k.add Y hw r5 I6 hD hk fun s6 I7 => last I7 hw3 nx
end
end
/-- texts -/
def txKind (w : World) : SKind where
  w := w
  τ := (Str → Bool) × Nat
  ε := Str
  O := fun D S => SetTO w D S.1 S.2
  z := (fun _ => false, 0)
  V := .str
  ok := fun S => S.2 + 1 < scanBound
  put := fun S y => (fun j => S.1 j || decide (j = y), if S.1 y = true then S.2 else S.2 + 1)
  new := fun Q H h v e => by subst e; exact setTO_new (setTx_fresh v)
  add := fun Y e {pins σ H s E D S y u Q} r I hD ok h => by
    subst e
    obtain ⟨t, rfl⟩ := r
    exact addTx_ok I hD ok h
end N

set_option Elab.async false
set_option linter.all false
set_option maxRecDepth 100000
set_option maxHeartbeats 4000000
/-! N33: {e for x in xs if ..}, whole. -/
namespace N
open PySem PySem.Spec PyProof.Rows L2 J PpSet
section
variable {X : Cx}
theorem pe_setc {elt tg iter : Expr} {ifs : List Expr} {scope : Scope} {own : List (PySem.Str × Nat)} {pos : Pos} {k : SKind} {wi : TI} {g : TG} {tt : TT} {te : TE} (hw : X.w = k.w) (hc : X.calm = true) (hN : X.N.Nodup) (hi : PI X tg iter wi) (ok : BlkOk X.N X.env.scope scope own)
    (hg : ∀ (s : Shared) (H : Hp) (C : Addr) (cl : List (PySem.Str × Addr)) (fp : List Addr), PG (X.blk s H scope (compEnvC scope cl C X.env) fp) tg g) (ht : ∀ (s : Shared) (H : Hp) (C : Addr) (cl : List (PySem.Str × Addr)) (fp : List Addr), PTs (X.blk s H scope (compEnvC scope cl C X.env) fp) ifs tt)
    (he : ∀ (s : Shared) (H : Hp) (C : Addr) (cl : List (PySem.Str × Addr)) (fp : List Addr), PE (X.blk s H scope (compEnvC scope cl C X.env) fp) elt te) (hs : ∀ x, foldedSetIterable iter X.env x = pure x := by intro _; rfl) :
    PE X (.SetComp elt [⟨tg, iter, ifs, 0⟩] scope pos) (tScK k wi g tt te (own.map (·.2))) := by
  refine ⟨fun pins s σ H Q I h => ?_⟩
  rw [eval_SetComp]
  refine wpAny_comprehension_free (use := none) rfl hs (closure_ok fun y hy e => ?_) ok.kind (fun y hy e => by rw [ok.uniq y hy, e]) (thn (hi.run pins s σ H _ I h) fun xv s1 hx => thn hx fun itv s2 ⟨it, fp, tn, J, H2, e, I2, T, st2, f2, q⟩ => ?_)
  · rcases ok.free y hy e with z | z
    · exact I.ok.has _ (.inl z)
    · exact I.ok.has _ (.inr z)
  · subst e
    refine newSet_ok (newEnv_comp ?_)
    obtain ⟨W, ⟨m0, w0⟩, turn⟩ := q s2.heap.objs.size (I2.hok.fresh (Nat.le_refl _))
    have I3 : Inv X pins σ (upd H2 s2.heap.objs.size (k.O s2.heap.objs.size k.z)) { s2 with heap := s2.heap.push { cls := .type "set", dict := none, data := .set #[] 0 (.fresh 0 0 (!X.w.params.followText "set-order")) } } :=
      I2.laid (t' := s2.toks) (fun b o e => Heap.get?_push_of_some _ e) (Nat.le_refl _) (k.new _ _ _ hw)
    have szf : ∀ b ∈ fp, b < s2.heap.objs.size := fun b hb => let ⟨_, z, _⟩ := T.obj _ _ st2 b hb; Heap.lt_size z
    generalize hD : s2.heap.objs.size = D at I3 w0 turn szf ⊢
    generalize hs3 : ({ s2 with heap := s2.heap.push { cls := .type "set", dict := none, data := .set #[] 0 (.fresh 0 0 (!X.w.params.followText "set-order")) } } : Shared) = s3 at I3
    have e3 : s3.heap = s2.heap.push { cls := .type "set", dict := none, data := .set #[] 0 (.fresh 0 0 (!X.w.params.followText "set-order")) } := by rw [← hs3]
    have f3 : ∀ b ∈ fp, FpOk X pins (upd H2 D (k.O D k.z)) b ∧ b < s3.heap.objs.size := fun b hb =>
      ⟨⟨by rw [upd_ne (Nat.ne_of_lt (szf b hb))]; exact (f2 b hb).1, (f2 b hb).2⟩, by rw [e3, Heap.size_push, hD]; exact Nat.lt_succ_of_lt (szf b hb)⟩
    have st3 : tn 0 s3.heap := T.keep _ _ _ st2 fun b _ o z => by rw [e3]; exact Heap.get?_push_of_some _ z
    generalize upd H2 D (k.O D k.z) = H3 at I3 w0 f3
    have I4 := block_start I3 ok hN f3
    have pg := hg s3 H3 s3.heap.objs.size (cellsFrom (s3.heap.objs.size + 1) scope.names (cloFrom X.env.cells scope.names [])) fp
    have pt := ht s3 H3 s3.heap.objs.size (cellsFrom (s3.heap.objs.size + 1) scope.names (cloFrom X.env.cells scope.names [])) fp
    have pe := he s3 H3 s3.heap.objs.size (cellsFrom (s3.heap.objs.size + 1) scope.names (cloFrom X.env.cells scope.names [])) fp
    have st4 : tn 0 (pushCells (s3.heap.push { cls := .type "dict", data := .dict #[] }) scope.names) := T.keep _ _ _ st3 fun b _ o z => pushCells_keeps _ _ _ _ (Heap.get?_push_of_some _ z)
    have loop : codeAny (model X.prog X.w) X.A (.compLoop (.SetComp elt [⟨tg, iter, ifs, 0⟩] scope pos) 0 (.ref it) (.ref D) (compEnvC scope (cellsFrom (s3.heap.objs.size + 1) scope.names (cloFrom X.env.cells scope.names [])) s3.heap.objs.size X.env))
        (compPost (model X.prog X.w) X.A X.xe none (EP X pins σ Q) (.ref D) s3.heap.objs.size) { s3 with heap := pushCells (s3.heap.push { cls := .type "dict", data := .dict #[] }) scope.names } := by
      refine compLoopS_any (fun n s' => ∃ i H', Inv (X.blk s3 H3 scope (compEnvC scope (cellsFrom (s3.heap.objs.size + 1) scope.names (cloFrom X.env.cells scope.names [])) s3.heap.objs.size X.env) fp) [] (wipe σ (own.map (·.2))) H' s' ∧ tn i s'.heap ∧ (∀ b ∈ fp, H' b = none) ∧ W i n H')
        (fun n s5 ⟨i, H5, I5, st5, n5, w5⟩ => ?_) m0 ⟨0, H3, I4, st4, fun b hb => (f3 b hb).1.1, w0⟩
      rcases turn i n H5 w5 with ⟨stop, qq⟩ | ⟨go, Nx, hNx, step⟩
      · refine wpAny_mono (T.done (X.blk s3 H3 scope _ fp) rfl rfl rfl hc i [] s5 _ H5 (fun _ _ => False) I5 (fp_block I5 n5) st5 stop) (fun r s6 ⟨hr, I6⟩ => ?_) fun _ _ z => z.elim
        subst hr
        have I7 : Inv X pins σ H5 s6 := I3.call' (ch := fp) I6.os I6.base I6.hok I6.bare fun b hb => ⟨(f3 b hb).1.2.2.2.1, (f3 b hb).1.2.1, (f3 b hb).1.2.2.2.2.1, (f3 b hb).1.2.2.2.2.2⟩
        obtain ⟨m, hn, _⟩ := I6.loc
        obtain ⟨g0, g1, g2, g3, g4, g5⟩ := I3.fpOk (Nat.le_refl _) (show H5 s3.heap.objs.size = none from I6.free)
        exact ⟨m, hn, fun h'' sb => ⟨.ref D, H5, I7.turned (t' := s6.toks) (fun b o hb z => (sb.2 b hb).trans z) g0 g1 g3 g4 g5, rfl, qq⟩⟩
      · refine wpAny_mono (set_turn (Y := X.blk s3 H3 scope _ fp) (k := k) (elt := elt) (ifs := ifs) hw hc pg pt pe T I5 (fp_block I5 n5) (fun J n => fp_block J n) st5 go step (F := fun s6 => ∃ m, m < n ∧ ∃ i H', Inv (X.blk s3 H3 scope _ fp) [] (wipe σ (own.map (·.2))) H' s6 ∧ tn i s6.heap ∧ (∀ b ∈ fp, H' b = none) ∧ W i m H')
          (fun s6 H6 I6 st6 n6 nx => let ⟨m', hm, w'⟩ := hNx H6 nx; ⟨m', hm, i + 1, H6, I6, st6, n6, w'⟩) fun u s6 hu => ?_) (fun _ _ h => h) fun _ _ z => z.elim
        refine wpAny_mono hu (fun _ s7 h7 => wpAny_mono h7 (fun _ s8 h8 => wpAny_mono h8 (fun b s9 h9 => ?_) fun _ _ z => z.elim) fun _ _ z => z.elim) fun _ _ z => z.elim
        cases b with
        | false =>
          rw [if_neg Bool.false_ne_true] at h9 ⊢
          exact h9
        | true =>
          rw [if_pos rfl] at h9 ⊢
          exact wpAny_mono h9 (fun z s10 h10 => wpAny_mono h10 (fun _ _ z => z) fun _ _ z => z.elim) fun _ _ z => z.elim
    exact codeAny_compStart_set loop (T.self X.A 0 _ _ _ st4 loop)
end
end N

set_option Elab.async false
set_option linter.all false
set_option maxRecDepth 100000
set_option maxHeartbeats 4000000
/-! N34: the one sorted list without doubles. -/
namespace N
open PySem PySem.Spec PyProof.Rows L2 J
abbrev leT (a b : Str) : Prop := TL.tl a ≤ TL.tl b
theorem leT_trans {a b c : Str} (h1 : leT a b) (h2 : leT b c) : leT a c := List.le_trans h1 h2
theorem leT_total (a b : Str) : leT a b ∨ leT b a := List.le_total _ _
theorem leT_anti {a b : Str} (h1 : leT a b) (h2 : leT b a) : a = b := TL.ext_tl (List.le_antisymm h1 h2)
theorem rising_pw : ∀ (l : List Str) (p : Str), risingS p l = true → (p :: l).Pairwise leT
  | [], p, _ => List.pairwise_singleton _ _
  | x :: r, p, h => by
    unfold risingS at h
    rw [Bool.and_eq_true, Bool.not_eq_true', ltCps_eq, decide_eq_false_iff_not] at h
    have hpx : leT p x := List.not_lt.mp h.1
    have ih := rising_pw r x h.2
    refine List.pairwise_cons.mpr ⟨fun b hb => ?_, ih⟩
    rcases List.mem_cons.mp hb with rfl | hb
    · exact hpx
    · exact leT_trans hpx ((List.pairwise_cons.mp ih).1 b hb)
theorem sorted_pw {l : List Str} (h : sortedS l = true) : l.Pairwise leT := by
  cases l with
  | nil => exact List.Pairwise.nil
  | cons x r => exact rising_pw r x h
def sortT (ys : List Str) : List Str := ys.eraseDups.mergeSort fun a b => decide (leT a b)
theorem sortT_pw (ys : List Str) : (sortT ys).Pairwise leT := by
  have := List.pairwise_mergeSort (le := fun a b : Str => decide (leT a b)) (fun a b c h1 h2 => decide_eq_true (leT_trans (of_decide_eq_true h1) (of_decide_eq_true h2))) (fun a b => by
    rcases leT_total a b with h | h
    · rw [decide_eq_true h]; rfl
    · rw [decide_eq_true h, Bool.or_true]) ys.eraseDups
  exact this.imp fun h => of_decide_eq_true h
theorem sortT_mem {ys : List Str} {k : Str} : k ∈ sortT ys ↔ k ∈ ys := by
  unfold sortT
  rw [List.mem_mergeSort, List.mem_eraseDups]
theorem pw_uniq : ∀ {l m : List Str}, l.Pairwise leT → l.Nodup → m.Pairwise leT → m.Nodup → (∀ k, k ∈ l ↔ k ∈ m) → l = m
  | [], [], _, _, _, _, _ => rfl
  | [], b :: m, _, _, _, _, h => absurd ((h b).mpr List.mem_cons_self) List.not_mem_nil
  | a :: l, [], _, _, _, _, h => absurd ((h a).mp List.mem_cons_self) List.not_mem_nil
  | a :: l, b :: m, p1, n1, p2, n2, h => by
    obtain ⟨p1a, q1⟩ := List.pairwise_cons.mp p1
    obtain ⟨p2a, q2⟩ := List.pairwise_cons.mp p2
    obtain ⟨n1a, m1⟩ := List.nodup_cons.mp n1
    obtain ⟨n2a, m2⟩ := List.nodup_cons.mp n2
    have e : a = b := by
      rcases List.mem_cons.mp ((h a).mp List.mem_cons_self) with z | z
      · exact z
      · rcases List.mem_cons.mp ((h b).mpr List.mem_cons_self) with y | y
        · exact y.symm
        · exact leT_anti (p1a b y) (p2a a z)
    subst e
    refine congrArg (List.cons a) (pw_uniq q1 m1 q2 m2 fun k => ?_)
    constructor
    · intro hk
      rcases List.mem_cons.mp ((h k).mp (List.mem_cons_of_mem _ hk)) with z | z
      · rw [z] at hk; exact absurd hk n1a
      · exact z
    · intro hk
      rcases List.mem_cons.mp ((h k).mpr (List.mem_cons_of_mem _ hk)) with z | z
      · rw [z] at hk; exact absurd hk n2a
      · exact z
theorem dups_nodup : ∀ (n : Nat) (l : List Str), l.length ≤ n → l.eraseDups.Nodup
  | 0, l, h => by rw [List.length_eq_zero_iff.mp (Nat.le_zero.mp h)]; simp
  | n + 1, [], _ => by simp
  | n + 1, a :: r, h => by
    rw [List.eraseDups_cons]
    refine List.nodup_cons.mpr ⟨fun z => ?_, dups_nodup n _ (Nat.le_trans (List.length_filter_le _ _) (Nat.le_of_succ_le_succ h))⟩
    rw [List.mem_eraseDups, List.mem_filter] at z
    simp at z
theorem sortT_nodup (ys : List Str) : (sortT ys).Nodup := (List.mergeSort_perm _ _).nodup_iff.mpr (dups_nodup _ ys (Nat.le_refl _))
theorem sortT_uniq {zs ys : List Str} (h1 : sortedS zs = true) (h2 : zs.Nodup) (h3 : ∀ k, k ∈ zs ↔ k ∈ ys) : zs = sortT ys :=
  pw_uniq (sorted_pw h1) h2 (sortT_pw ys) (sortT_nodup ys) fun k => (h3 k).trans sortT_mem.symm
end N

set_option Elab.async false
set_option linter.all false
set_option maxRecDepth 100000
set_option maxHeartbeats 4000000
/-! N35: sorted({text for x in xs if ..}) as a reading. -/
namespace N
open PySem PySem.Spec PyProof.Rows L2 J
open ToD (d)
open ToDs (ds)
open M
section
variable {ω : Type} {α β γ S : Type} [ToD α] [ToD β] [ToD γ] {K : PySem.W.Frag} {W : WX} {P : Post ω} {te ta tb : TE} {Γ : List Sl} {ts rest : TS}
/-- the texts of a set comprehension, in order -/
noncomputable def setM {α : Type} (t : α → M Bool) (f : α → M Str) (xs : List α) : M (List Str) := do
  need (xs.length ≤ 1000)
  let ys ← lcA t f [] xs
  pure (sortT ys)
theorem ev_sortset {w : World} {wi : TI} {g : TG} {tt : TT} {vs : List Nat} {mi : M (List α)} {up : α → List Sl → List Sl} {mt : α → M Bool} {me : α → M Str} (hi : EvIE K W wi Γ mi) (hg : TgOk K g vs up)
    (ht : ∀ a, EvT K WF tt (up a (wipeS Γ vs)) (mt a)) (he : ∀ a, EvR K WF te (up a (wipeS Γ vs)) (me a)) : EvR K W (tCB (rSortedTx w) (tCons (tScK (txKind w) wi g tt te vs) tNil)) Γ (do let xs ← mi; setM mt me xs) := fun x σ G H b Q E s B h =>
  hi (List Str) x σ _ good_E _ G H b _ E s B h fun xs b1 J G1 H1 h1 e1 E1 s1 B1 wk D nD => by
    obtain ⟨hl, h1⟩ := need_fin h1
    have xD : x ≠ some D := fun z => by
      have := (B1 D z).2
      rw [nD] at this
      cases this
    refine ⟨fun i m H' => ∃ G' b' ys, ∃ St : Str → Bool, ∃ n : Nat, m = xs.length - i ∧ i ≤ xs.length ∧ Ex x G1 H1 G' H' ∧ G' D = none ∧ H' D = some (SetTO w D St n) ∧ (∀ k, St k = true ↔ k ∈ ys) ∧ n ≤ i ∧ BoxSt x G' H' b' ∧ FinE K W x σ G1 H1 Q ((do let zs ← lcA mt me ys (xs.drop i); pure (sortT zs)) b'),
      ⟨_, G1, b1, [], _, _, rfl, Nat.zero_le _, Ex.raw s1 nD, s1.free nD, upd_same, fun k => by simp [txKind], Nat.le_refl _, B1.raw nD, h1⟩, ?_⟩
    rintro i m H' ⟨G', b', ys, St, n, rfl, hi', ex, gD, hD, hS, hn, B', hf⟩
    by_cases hlt : i < xs.length
    · have hd : xs.drop i = xs[i] :: xs.drop (i + 1) := List.drop_eq_getElem_cons hlt
      obtain ⟨hgo, hy⟩ := (wk i G' H' ex).1 xs[i] (List.getElem?_eq_getElem hlt)
      refine .inr ⟨hgo, fun H'' => ∃ G' b' ys, ∃ St : Str → Bool, ∃ n : Nat, i + 1 ≤ xs.length ∧ Ex x G1 H1 G' H'' ∧ G' D = none ∧ H'' D = some (SetTO w D St n) ∧ (∀ k, St k = true ↔ k ∈ ys) ∧ n ≤ i + 1 ∧ BoxSt x G' H'' b' ∧ FinE K W x σ G1 H1 Q ((do let zs ← lcA mt me ys (xs.drop (i + 1)); pure (sortT zs)) b'),
        fun H'' ⟨G'', b'', ys', St', n', c1, c2⟩ => ⟨xs.length - (i + 1), by omega, G'', b'', ys', St', n', rfl, c1, c2⟩, fun y H2 hyld => ?_⟩
      obtain ⟨G2, ex2, ry⟩ := hy y H2 hyld
      have B2 := B'.none_ex ex2
      have ex12 := ex.trans (ex2.box (x := x))
      have gD2 : G2 D = none := ex2.uns D _ (by simp) hD gD
      have hD2 := ex2.keep D _ (by simp) hD
      have E2 : Env K x (wipe σ vs) (wipeS Γ vs) G2 H2 := (E1.ext ex12).wipe vs
      refine hg x (wipe σ vs) (wipeS Γ vs) G2 H2 y xs[i] _ E2 ex2.gh ry fun σ' hw E3 _ => ⟨hw.trans wipe_wipe, ?_⟩
      rw [hd] at hf
      have hf0 : FinE K W x σ G1 H1 Q ((strict (mt xs[i]) >>= fun c => (if c = true then (do let y ← strict (me xs[i]); lcA mt me (ys ++ [y]) (xs.drop (i + 1))) else lcA mt me ys (xs.drop (i + 1))) >>= fun zs => pure (sortT zs)) b') := by
        rw [← bind_assoc]
        exact hf
      obtain ⟨c, b3, q, hf2⟩ := strict_ok (f := fun c => (if c = true then (do let y ← strict (me xs[i]); lcA mt me (ys ++ [y]) (xs.drop (i + 1))) else lcA mt me ys (xs.drop (i + 1))) >>= fun zs => pure (sortT zs)) hf0
      refine ht xs[i] x σ' G2 H2 b' _ E3 ex2.gh B2 ?_
      rw [q]
      intro G3 H3 ex3 B3
      have ex13 := ex12.trans ex3
      have gD3 : G3 D = none := ex3.uns D _ xD hD2 gD2
      have hD3 := ex3.keep D _ xD hD2
      cases c with
      | false => exact iteF ⟨G3, b3, ys, St, n, hlt, ex13, gD3, hD3, hS, by omega, B3, hf2⟩
      | true =>
        have hf3 : FinE K W x σ G1 H1 Q ((strict (me xs[i]) >>= fun y => lcA mt me (ys ++ [y]) (xs.drop (i + 1)) >>= fun zs => pure (sortT zs)) b3) := by
          rw [← bind_assoc]
          exact hf2
        obtain ⟨z, b4, q4, hf4⟩ := strict_ok (f := fun y => lcA mt me (ys ++ [y]) (xs.drop (i + 1)) >>= fun zs => pure (sortT zs)) hf3
        refine iteT (he xs[i] x σ' G3 H3 b3 _ (E3.ext ex3) ex3.gh B3 ?_)
        rw [q4]
        intro v G4 H4 ex4 B4 rw4
        have ex14 := ex13.trans ex4
        have gD4 : G4 D = none := ex4.uns D _ xD hD3 gD3
        have hD4 := ex4.keep D _ xD hD3
        refine ⟨z, (St, n), rep_str rw4, hD4, ?_, G4, b4, ys ++ [z], _, _, hlt, ex14.grow nD gD4, gD4, upd_same, fun k => ?_, ?_, ?_, hf4⟩
        · show n + 1 < scanBound
          have h3 : 2000 < scanBound := by decide
          omega
        · show (St k || decide (k = z)) = true ↔ _
          rw [Bool.or_eq_true, hS, decide_eq_true_iff, List.mem_append, List.mem_singleton]
        · show (if St z = true then n else n + 1) ≤ i + 1
          split <;> omega
        · intro p hp
          obtain ⟨c1, c2⟩ := B4 p hp
          exact ⟨c1, by rw [upd_ne (fun z => xD (by rw [← z]; exact hp))]; exact c2⟩
    · have hi2 : xs.length = i := by omega
      refine .inl ⟨(wk i G' H' ex).2 hi2, D, St, n, rfl, hD, by omega, fun zs p h2 h3 h4 hp => ?_⟩
      rw [List.drop_eq_nil_of_le (by omega)] at hf
      have hf2 : FinE K W x σ G1 H1 Q ((pure (sortT ys) : M (List Str)) b') := hf
      have e : zs = sortT ys := sortT_uniq h2 h3 fun k => (h4 k).trans (hS k)
      subst e
      have ex5 : Ex x G' H' (upd G' p (.lst ((sortT ys).map V.str))) (upd H' p (.lst ((sortT ys).map V.str))) := Ex.new ex.gh hp
      exact hf2 (.ref p) _ _ (ex.trans ex5) (B'.new hp) (.lst upd_same (reps_strs _))
end
end N

set_option Elab.async false
set_option linter.all false
set_option maxRecDepth 100000
set_option maxHeartbeats 4000000
/-! N36: isinstance with two classes. -/
namespace N
open PySem PySem.Spec PyProof.Rows L2 J
open ToD (d)
open ToDs (ds)
open M
section
variable {ω : Type} {α β γ S : Type} [ToD α] [ToD β] [ToD γ] {K : PySem.W.Frag} {W : WX} {P : Post ω} {te ta tb : TE} {Γ : List Sl} {ts rest : TS}
theorem ev_isi2 {cs : List Str} {c1 c2 : V} {u1 u2 : Value} {bf : α → Bool} {m : M α} (hcs : ∀ c ∈ cs, InsC K c) (h1 : ClsV c1 u1) (h2 : ClsV c2 u2) (hk : ∀ a, KnownD cs (d (a : α))) (hb : ∀ a : α, PySem.W.kitAny K (tyD K (d a)) [u1, u2] = some (bf a)) (h : EvR K W te Γ m) :
    EvR K W (tCB (rIsiT K) (tCons te (tCons (tTup (tCons (tC c1) (tCons (tC c2) tNil))) tNil))) Γ (do let a ← m; pure (bf a)) := fun x σ G H b Q E s B h' =>
  step_E (te := te) h E s B h' fun a b' v G' H' h3 e E2 s2 B2 r => by
    refine ⟨small_sl (by show 2 ≤ 1000; decide), fun p hp => ?_⟩
    have ex : Ex x G' H' G' (upd H' p (.tup [c1, c2])) := Ex.raw s2 hp
    refine ⟨v, p, [c1, c2], _, [u1, u2], bf a, rfl, upd_same, .cons h1 (.cons h2 .nil), rep_ty hcs ex.gh r (hk a), hb a, ?_⟩
    exact h3 (.bl (bf a)) G' _ ex (B2.raw hp) (.bl _)
end
end N

set_option Elab.async false
set_option linter.all false
set_option maxRecDepth 100000
set_option maxHeartbeats 4000000
/-! N37: chains, own lists read and popped, flat items looked for, lists repeated, a tuple of the module's top. -/
namespace N
open PySem PySem.Spec PyProof.Rows L2 J
open ToD (d)
open ToDs (ds)
open M
section
variable {ω : Type} {α β γ S : Type} [ToD α] [ToD β] [ToD γ] {K : PySem.W.Frag} {W : WX} {P : Post ω} {te ta tb tc : TE} {Γ : List Sl} {ts rest : TS}
/-- go on under a bind -/
theorem bindE {x : Option Addr} {σ : L2.St} {G H : Hp} {Q Q1 : VK} {b : Bx} {m : M α} {k : α → M β} (h : FinE K W x σ G H Q ((m >>= k) b)) (kk : ∀ a b' v G' H', FinE K W x σ G' H' Q (k a b') → Ex x G H G' H' → BoxSt x G' H' b' → Rep K G' v (d a) → Q1 v H') : FinE K W x σ G H Q1 (m b) := by
  rw [M.bind_def] at h
  cases e : m b with
  | mk b' r =>
    rw [e] at h
    cases r with
    | ok a => exact fun v G' H' e1 B1 r1 => kk a b' v G' H' (FinE.ex e1 h) e1 B1 r1
    | err c fs => exact h
    | stuck => exact h
theorem ev_chain {r r' : R2} {ma : M α} {mb : M β} {mc : M γ} {f : α → β → M Bool} {f' : β → γ → M Bool} (hr : OpM K r f) (hr' : OpM K r' f') (h1 : EvR K W ta Γ ma) (h2 : EvR K W tb Γ mb) (h3 : EvR K W tc Γ mc) :
    EvR K W (tChain r r' ta tb tc) Γ (do let a ← ma; let b ← mb; let k ← f a b; if k = true then (do let c ← mc; f' b c) else pure false) := fun x σ G H b Q E s B h =>
  step_E (te := ta) h1 E s B h fun a b1 v G1 H1 hf1 e1 E1 s1 B1 ra =>
  step_E (te := tb) h2 E1 s1 B1 hf1 fun c b2 w G2 H2 hf2 e2 E2 s2 B2 rc =>
    hr W x σ G2 H2 b2 _ a c v w s2 B2 (ra.ext e2.g) rc (bindE hf2 fun k b3 z G3 H3 hf3 e3 B3 rk => ⟨k, rep_bl rk, by
      cases k with
      | true => exact iteT (step_E (te := tc) h3 (E2.ext e3) e3.gh B3 hf3 fun y b4 u G4 H4 hf4 e4 E4 s4 B4 ry => hr' W x σ G4 H4 b4 Q c y w u s4 B4 ((rc.ext e3.g).ext e4.g) ry hf4)
      | false => exact iteF (FinE.here (b := b3) hf3 e3.gh B3 (.bl false))⟩)
/-! ### own lists read -/
theorem ev_lenOwn {i : Nat} {xs : List α} (hΓ : Γ[i]? = some (.own (xs.map d)) := by rfl) : EvR K W (tCB (fun xs H Q => ∃ p ys, xs = [.ref p] ∧ (SqL K H p ys ∨ SqT K H p ys) ∧ Q (.int ys.length) H) (tCons (tVar i) tNil)) Γ (pure (xs.length : Int)) := fun x σ G H b Q E s B h => by
  obtain ⟨o, h1, p, vs, rfl, gp, hp, rs⟩ := E.get hΓ
  exact ⟨_, h1, p, vs, rfl, .inl (SqL.of hp), h.here s B (by rw [rs.length, List.length_map]; exact .int _)⟩
theorem ev_ixOwn {i : Nat} {xs : List α} {m : M Int} (h : EvR K W te Γ m) (hΓ : Γ[i]? = some (.own (xs.map d)) := by rfl) : EvR K W (tOp (rIxL K) (tVar i) te) Γ (do let j ← m; getM xs j) := fun x σ G H b Q E s B hf => by
  obtain ⟨o, h1, p, vs, rfl, gp, hp, rs⟩ := E.get hΓ
  refine ⟨_, h1, step_E (te := te) h E s B hf fun j b1 v G1 H1 hf1 e1 E1 s1 B1 r => ?_⟩
  cases rep_int r
  obtain ⟨o, h2, p', ws, z, gp2, hp2, rs2⟩ := E1.get hΓ
  rw [h1] at h2
  cases h2
  cases z
  unfold getM at hf1
  cases q : atI xs j with
  | none => rw [q] at hf1; exact False.elim hf1
  | some y =>
    rw [q] at hf1
    obtain ⟨u, hu, ru⟩ := reps_atI (x := d y) rs2 (by rw [atI_map, q]; rfl)
    exact ⟨p, ws, j, u, rfl, rfl, SqL.of hp2, hu, FinE.here (b := b1) hf1 s1 B1 ru⟩
/-- x.append(y.pop(e)) -/
noncomputable def popM (xs ys : List α) (m : M Int) : M (List α × List α) := do
  let a ← m
  need (-(2 ^ 63) ≤ a ∧ a < 2 ^ 63 ∧ xs.length < sizeLine)
  match seqIndex? a ys.length with
  | none => M.stuck
  | some n => match ys[n]? with
    | none => M.stuck
    | some y => pure (xs ++ [y], ys.eraseIdx n)
theorem Reps.erase {G : Hp} : ∀ {vs : List V} {ds : List D} (n : Nat), Reps K G vs ds → Reps K G (vs.eraseIdx n) (ds.eraseIdx n)
  | _, _, _, .nil => by simp only [List.eraseIdx_nil]; exact .nil
  | _, _, 0, .cons h t => t
  | _, _, n + 1, .cons h t => .cons h (Reps.erase n t)
theorem map_erase {f : α → β} : ∀ (xs : List α) (n : Nat), (xs.eraseIdx n).map f = (xs.map f).eraseIdx n
  | [], n => by simp
  | x :: r, 0 => rfl
  | x :: r, n + 1 => by simp only [List.eraseIdx_cons_succ, List.map_cons, map_erase r n]
theorem rd_apppop {i j : Nat} {xs ys : List α} {m : M Int} {k : List α × List α → M ω} (ne : i ≠ j) (h : EvR K W te Γ m) (hr : ∀ p : List α × List α, Rd K W P rest ((Γ.set j (.own (p.2.map d))).set i (.own (p.1.map d))) (k p))
    (hi : Γ[i]? = some (.own (xs.map d)) := by rfl) (hj : Γ[j]? = some (.own (ys.map d)) := by rfl) :
    Rd K W P (tSeq (tDrop (tBM K "list" rAppend (tVar i) (tCons (tBM K "list" rPopAt (tVar j) (tCons te tNil)) tNil))) rest) Γ (do let p ← popM xs ys m; k p) := fun x σ G0 H0 Gs G H b L E F s B e hf => by
  obtain ⟨o, h1, p, vs, rfl, gp, hp, rs⟩ := E.get hi
  obtain ⟨o, h2, q, ws, rfl, gq, hq, rt⟩ := E.get hj
  refine ⟨_, h1, .inl ⟨rfl, vs, SqL.of hp⟩, _, h2, .inl ⟨rfl, ws, SqL.of hq⟩, ?_⟩
  have hf2 : FinS K W P x G0 H0 Gs L ((m >>= fun a => need (-(2 ^ 63) ≤ a ∧ a < 2 ^ 63 ∧ xs.length < sizeLine) >>= fun _ => (match seqIndex? a ys.length with
  | none => M.stuck
  | some n => match ys[n]? with
    | none => M.stuck
    | some y => pure (xs ++ [y], ys.eraseIdx n)) >>= k) b) := by
    have : (do let p ← popM xs ys m; k p) = (m >>= fun a => need (-(2 ^ 63) ≤ a ∧ a < 2 ^ 63 ∧ xs.length < sizeLine) >>= fun _ => (match seqIndex? a ys.length with
  | none => M.stuck
  | some n => match ys[n]? with
    | none => M.stuck
    | some y => pure (xs ++ [y], ys.eraseIdx n)) >>= k) := by unfold popM; simp only [bind_assoc]
    rw [← this]; exact hf
  refine go (te := te) good_S h E s B (f := fun a => need (-(2 ^ 63) ≤ a ∧ a < 2 ^ 63 ∧ xs.length < sizeLine) >>= fun _ => (match seqIndex? a ys.length with
  | none => M.stuck
  | some n => match ys[n]? with
    | none => M.stuck
    | some y => pure (xs ++ [y], ys.eraseIdx n)) >>= k) ⟨e, hf2⟩ fun a b' v G' H' h3 e2 E2 s2 B2 r => ?_
  cases rep_int r
  obtain ⟨e3, h4⟩ := h3
  by_cases c : -(2 ^ 63) ≤ a ∧ a < 2 ^ 63 ∧ xs.length < sizeLine
  rotate_left
  · unfold need at h4; rw [if_neg c] at h4; exact False.elim h4
  rw [need_T c] at h4
  obtain ⟨o, h5, p', vs2, z, gp2, hp2, rs2⟩ := E2.get hi
  rw [h1] at h5; cases h5; cases z
  obtain ⟨o, h6, q', ws2, z, gq2, hq2, rt2⟩ := E2.get hj
  rw [h2] at h6; cases h6; cases z
  have npq : p ≠ q := fun z => by subst z; exact E2.dis i j p _ _ ne hi hj rfl rfl h1 h2
  have h7 : FinS K W P x G0 H0 Gs L (((match seqIndex? a ys.length with
  | none => M.stuck
  | some n => match ys[n]? with
    | none => M.stuck
    | some y => pure (xs ++ [y], ys.eraseIdx n)) >>= k) b') := h4
  cases hn : seqIndex? a ys.length with
  | none => rw [hn] at h7; exact False.elim h7
  | some n =>
    rw [hn] at h7
    dsimp only at h7
    cases hy : ys[n]? with
    | none => rw [hy] at h7; exact False.elim h7
    | some y =>
      rw [hy] at h7
      dsimp only at h7
      have h8 : FinS K W P x G0 H0 Gs L (k (xs ++ [y], ys.eraseIdx n) b') := h7
      have lw : ws2.length = ys.length := by rw [rt2.length, List.length_map]
      have lv : vs2.length = xs.length := by rw [rs2.length, List.length_map]
      obtain ⟨u, hu, ru⟩ := rt2.get (i := n) (d := d y) (by rw [List.getElem?_map, hy]; rfl)
      have h0q := F j q _ hj rfl h2
      have h0p := F i p _ hi rfl h1
      have E3 : Env K x σ (Γ.set j (.own ((ys.eraseIdx n).map d))) G' (upd H' q (.lst (ws2.eraseIdx n))) :=
        E2.upOwn hj rfl rfl h2 ⟨q, ws2.eraseIdx n, rfl, gq2, upd_same, by rw [map_erase]; exact rt2.erase n⟩
      have F3 : Fr σ (Γ.set j (.own ((ys.eraseIdx n).map d))) H0 := F.upOwn hj rfl
      have s3 : Same G' (upd H' q (.lst (ws2.eraseIdx n))) := same_up s2 gq2
      have B3 : BoxSt x G' (upd H' q (.lst (ws2.eraseIdx n))) b' := B2.up (E2.xne j q _ hj rfl h2)
      have e4 : Pt x G0 H0 Gs G' (upd H' q (.lst (ws2.eraseIdx n))) := e3.up h0q gq2
      have hp3 : (upd H' q (.lst (ws2.eraseIdx n))) p = some (.lst vs2) := by rw [upd_ne npq]; exact hp2
      have hi3 : (Γ.set j (.own ((ys.eraseIdx n).map d)))[i]? = some (.own (xs.map d)) := by rw [List.getElem?_set_ne (Ne.symm ne)]; exact hi
      refine ⟨q, ws2, a, n, u, rfl, rfl, hq2, c.1, c.2.1, by rw [lw]; exact hn, hu, ?_⟩
      refine ⟨p, vs2, u, rfl, rfl, hp3, by rw [lv]; exact c.2.2, ?_⟩
      refine hr (xs ++ [y], ys.eraseIdx n) x σ G0 H0 Gs G' _ b' L (E3.upOwn hi3 rfl rfl h1 ⟨p, vs2 ++ [u], rfl, gp2, upd_same, ?_⟩) (F3.upOwn hi3 rfl) (same_up s3 gp2) (B3.up (E2.xne i p _ hi rfl h1)) (e4.up h0p gp2) h8
      rw [List.map_append]
      exact rs2.append (.cons ru .nil)
/-! ### a slot gets an object that is nobody's -/
theorem Env.setOwn {x : Option Addr} {σ : L2.St} {G H : Hp} (E : Env K x σ Γ G H) {i : Nat} {p : Addr} {s : Sl} (hs : SlOk K x G H (some (.ref p)) s) (hn : ∀ (j : Nat) (q : Addr) (t : Sl), Γ[j]? = some t → t.isOwn = true → σ[j]? = some (some (.ref q)) → q ≠ p) (hx : x ≠ some p) : Env K x (σ.set i (some (.ref p))) (Γ.set i s) G H := by
  refine ⟨by rw [List.length_set, List.length_set, E.len], fun j t o h1 h2 => ?_, fun j k q t u ne h1 h2 o1 o2 e1 e2 => ?_, fun j q t h1 o1 e1 => ?_⟩
  · by_cases z : i = j
    · subst z
      by_cases l : i < Γ.length
      · rw [List.getElem?_set_self l] at h1
        rw [List.getElem?_set_self (by rw [E.len]; exact l)] at h2
        cases h1; cases h2; exact hs
      · rw [List.getElem?_eq_none (by rw [List.length_set]; omega)] at h1; cases h1
    · rw [List.getElem?_set_ne z] at h1 h2
      exact E.at_ j t o h1 h2
  · have old : ∀ (j : Nat) (t : Sl), i ≠ j → (Γ.set i s)[j]? = some t → t.isOwn = true → (σ.set i (some (.ref p)))[j]? = some (some (.ref q)) → q ≠ p := fun j t nj h1 o1 e1 => by
      rw [List.getElem?_set_ne nj] at h1 e1
      exact hn j q t h1 o1 e1
    have new : ∀ (j : Nat) (t : Sl), i = j → (Γ.set i s)[j]? = some t → (σ.set i (some (.ref p)))[j]? = some (some (.ref q)) → q = p := fun j t nj h1 e1 => by
      subst nj
      by_cases l : i < Γ.length
      · rw [List.getElem?_set_self (by rw [E.len]; exact l)] at e1
        cases e1; rfl
      · rw [List.getElem?_eq_none (by rw [List.length_set]; omega)] at h1; cases h1
    by_cases a1 : i = j
    · by_cases a2 : i = k
      · exact ne (a1.symm.trans a2)
      · exact old k u a2 h2 o2 e2 (new j t a1 h1 e1)
    · by_cases a2 : i = k
      · exact old j t a1 h1 o1 e1 (new k u a2 h2 e2)
      · rw [List.getElem?_set_ne a1] at h1 e1
        rw [List.getElem?_set_ne a2] at h2 e2
        exact E.dis j k q t u ne h1 h2 o1 o2 e1 e2
  · by_cases a1 : i = j
    · subst a1
      by_cases l : i < Γ.length
      · rw [List.getElem?_set_self (by rw [E.len]; exact l)] at e1
        cases e1
        exact hx
      · rw [List.getElem?_eq_none (by rw [List.length_set]; omega)] at h1; cases h1
    · rw [List.getElem?_set_ne a1] at h1 e1
      exact E.xne j q t h1 o1 e1
theorem Env.off {x : Option Addr} {σ : L2.St} {G H : Hp} (E : Env K x σ Γ G H) {p : Addr} (hp : H p = none) : ∀ (j : Nat) (q : Addr) (t : Sl), Γ[j]? = some t → t.isOwn = true → σ[j]? = some (some (.ref q)) → q ≠ p := fun j q t h1 o1 e1 z => by
  obtain ⟨_, u, hu⟩ := E.own_at h1 o1 e1
  rw [z, hp] at hu; cases hu
/-- a, b = [], e -/
theorem rd_parNew {i j : Nat} {m : M β} {k : β → M ω} (h : EvR K W te Γ m) (hr : ∀ a, Rd K W P rest ((Γ.set i (.own (([] : List α).map d))).set j (.val (d a))) (k a)) : Rd K W P (tSeq (tPar i j (tCons (tLst tNil) (tCons te tNil))) rest) Γ (m >>= k) := fun x σ G0 H0 Gs G H b L E F s B e hf => by
  refine ⟨Nat.zero_le _, fun p hp => ?_⟩
  have ex : Ex x G H G (upd H p (.lst [])) := Ex.raw s hp
  have xp : x ≠ some p := fun z => by have := (B p z).2; rw [hp] at this; cases this
  have off := E.off hp
  have h0 := e.fresh B hp
  refine go (te := te) good_S h (E.ext ex) ex.gh (B.raw hp) (f := k) ⟨e.step ex, hf⟩ fun a b' v G' H' h2 e2 E2 s2 B2 r => ?_
  refine ⟨.ref p, v, rfl, hr a x _ G0 H0 Gs G' H' b' L ((E2.setOwn (s := .own (([] : List α).map d)) ⟨p, [], rfl, e2.uns p _ xp upd_same (s.free hp), e2.keep p _ xp upd_same, .nil⟩ off xp).setVal r) ((F.setNew E.len.symm h0).set rfl) s2 B2 h2.1 h2.2⟩
/-! ### flat items looked for -/
class Flat (α : Type) [ToD α] where
  v : α → V
  rep : ∀ {K : PySem.W.Frag} {G : Hp} {u : V} {a : α}, Rep K G u (d a) → u = v a
  fl : ∀ a, flatV (v a) = true
  dec : DecidableEq α
  eq : ∀ a b, eqV (v a) (v b) = decide (a = b)
instance : Flat Int := ⟨.int, fun r => rep_int r, fun _ => rfl, inferInstance, fun a b => by show (a == b) = _; rfl⟩
instance : Flat Str := ⟨.str, fun r => rep_str r, fun _ => rfl, inferInstance, fun a b => by
  show (a == b) = _
  by_cases h : a = b
  · subst h; simp
  · simp [h]⟩
def memB {α : Type} [ToD α] [f : Flat α] (a : α) (xs : List α) : Bool := xs.any fun y => @decide (y = a) (f.dec y a)
theorem memB_iff {α : Type} [ToD α] [f : Flat α] {a : α} {xs : List α} : memB a xs = true ↔ a ∈ xs := by
  unfold memB
  rw [List.any_eq_true]
  constructor
  · rintro ⟨y, hy, e⟩
    rw [← @of_decide_eq_true _ (f.dec y a) e]
    exact hy
  · intro h
    exact ⟨a, h, @decide_eq_true _ (f.dec a a) rfl⟩
theorem reps_flat [f : Flat α] {G : Hp} : ∀ {vs : List V} {xs : List α}, Reps K G vs (xs.map d) → vs = xs.map f.v
  | [], [], .nil => rfl
  | _ :: _, _ :: _, .cons r t => by
    cases f.rep r
    rw [reps_flat t]
    rfl
theorem flat_all [f : Flat α] (xs : List α) : (xs.map f.v).all flatV = true := by
  rw [List.all_eq_true]
  intro y hy
  obtain ⟨a, _, rfl⟩ := List.mem_map.mp hy
  exact f.fl a
theorem inV_flat [f : Flat α] (a : α) (xs : List α) : inV (f.v a) (xs.map f.v) = memB a xs := by
  unfold inV memB
  rw [List.any_map]
  congr 1
  funext y
  exact f.eq y a
theorem om_inF [f : Flat α] : OpM K (rIn K false) (fun (a : α) (b : List α) => (pure (memB a b) : M Bool)) := fun W x σ G H b Q a c v w s B ra rc h => by
  obtain ⟨p, vs, rfl, hp, rs⟩ := rep_lst rc
  cases f.rep ra
  cases reps_flat rs
  refine ⟨p, _, rfl, .inl (SqL.of (s _ _ hp)), f.fl a, flat_all c, ?_⟩
  rw [if_neg Bool.false_ne_true, inV_flat]
  exact h.here s B (.bl _)
theorem om_ninF [f : Flat α] : OpM K (rIn K true) (fun (a : α) (b : List α) => (pure (!memB a b) : M Bool)) := fun W x σ G H b Q a c v w s B ra rc h => by
  obtain ⟨p, vs, rfl, hp, rs⟩ := rep_lst rc
  cases f.rep ra
  cases reps_flat rs
  refine ⟨p, _, rfl, .inl (SqL.of (s _ _ hp)), f.fl a, flat_all c, ?_⟩
  rw [if_pos rfl, inV_flat]
  exact h.here s B (.bl _)
theorem om_inFV [f : Flat α] : OpM K (rIn K false) (fun (a : α) (b : VT α) => (pure (memB a b.l) : M Bool)) := fun W x σ G H b Q a c v w s B ra rc h => by
  obtain ⟨p, vs, rfl, hp, rs⟩ := rep_tup (ds := c.l.map d) rc
  cases f.rep ra
  cases reps_flat rs
  refine ⟨p, _, rfl, .inr (sqT_H s hp), f.fl a, flat_all c.l, ?_⟩
  rw [if_neg Bool.false_ne_true, inV_flat]
  exact h.here s B (.bl _)
theorem om_ninFV [f : Flat α] : OpM K (rIn K true) (fun (a : α) (b : VT α) => (pure (!memB a b.l) : M Bool)) := fun W x σ G H b Q a c v w s B ra rc h => by
  obtain ⟨p, vs, rfl, hp, rs⟩ := rep_tup (ds := c.l.map d) rc
  cases f.rep ra
  cases reps_flat rs
  refine ⟨p, _, rfl, .inr (sqT_H s hp), f.fl a, flat_all c.l, ?_⟩
  rw [if_pos rfl, inV_flat]
  exact h.here s B (.bl _)
/-- xs * k -/
noncomputable def repM (a : List α) (k : Int) : M (List α) := do
  need (-(2 ^ 63) ≤ k ∧ k < 2 ^ 63 ∧ a.length * k.toNat ≤ sizeLine)
  pure (List.replicate k.toNat a).flatten
theorem Reps.rep {G : Hp} {vs : List V} {xs : List D} (r : Reps K G vs xs) : ∀ n : Nat, Reps K G (List.replicate n vs).flatten (List.replicate n xs).flatten
  | 0 => .nil
  | n + 1 => by
    rw [List.replicate_succ, List.replicate_succ, List.flatten_cons, List.flatten_cons]
    exact r.append (Reps.rep r n)
theorem om_rep : OpM K rRep (fun (a : List α) (k : Int) => repM a k) := fun W x σ G H b Q a c v w s B ra rc h => by
  obtain ⟨p, vs, rfl, hp, rs⟩ := rep_lst ra
  cases rep_int rc
  obtain ⟨⟨h1, h2, h3⟩, h4⟩ := need_fin h
  refine ⟨p, c, vs, rfl, rfl, s _ _ hp, h1, h2, by rw [rs.length, List.length_map]; exact h3, fun q hq => h4.new s B hq (.lst upd_same ?_)⟩
  rw [List.map_flatten, List.map_replicate]
  exact (Reps.rep rs c.toNat).ext (upS (s.free hq))
/-- a tuple that the module's top has made -/
theorem ev_gval {v : V} {a : α} (h : ∀ G, Rep K G v (d a)) : EvR K W (tC v) Γ (pure a) := fun x σ G H b Q E s B h' => h'.here s B (h G)
/-- what is never evaluated -/
theorem ev_never : EvR K W te Γ (M.stuck : M α) := fun x σ G H b Q E s B h' => h'.stuck.elim
end
theorem pa_starK {X : Cx} {K : PySem.W.Frag} (hK : X.K = K) {e : Expr} {es : List Expr} {te : TE} {t : TA} {p : Pos} (h : PE X e te) (ht : PA X es t) : PA X (.Starred e p :: es) (StX.tStar K te t) := hK ▸ StX.pa_star h ht
end N

set_option Elab.async false
set_option linter.all false
set_option maxRecDepth 100000
set_option maxHeartbeats 4000000
/-! N38: == of instances of several classes, Ratios compared, narrowing, dicts. -/
namespace N
open PySem PySem.Spec PyProof.Rows L2 J
open ToD (d)
open ToDs (ds)
open M
section
variable {X : Cx} {cs : List Str} {k : Nat} {ps : List Str} {sp : Sp}
/-- x == y of instances of classes that share one __eq__ -/
def rOwnEqV (K : PySem.W.Frag) (cs : List Str) (sp : Sp) (E : XK) : R2 := fun x y H Q => ∃ c c' a dx fs b dy gs, c ∈ cs ∧ c' ∈ cs ∧ x = .ref a ∧ H a = some (.ins (He.ga K c) dx fs) ∧ y = .ref b ∧ H b = some (.ins (He.ga K c') dy gs) ∧ sp [x, y] H Q E
def rOwnNeV (K : PySem.W.Frag) (cs : List Str) (sp : Sp) (E : XK) : R2 := fun x y H Q => ∃ c c' a dx fs b dy gs, c ∈ cs ∧ c' ∈ cs ∧ x = .ref a ∧ H a = some (.ins (He.ga K c) dx fs) ∧ y = .ref b ∧ H b = some (.ins (He.ga K c') dy gs) ∧ sp [x, y] H (fun v H' => ∃ c, v = .bl c ∧ Q (.bl (!c)) H') E
/-- no class of cs lies below another one of them -/
def ApartV (K : PySem.W.Frag) (cs : List Str) : Prop := ∀ c ∈ cs, ∀ c' ∈ cs, c = c' ∨ PySem.W.subIn K (.ref (He.ga K c')) (.ref (He.ga K c)) = some false
theorem own_tbV {pins : List (Addr × Obj)} {σ : L2.St} {H : Hp} {s : Shared} {c c' : Str} {b dy : Addr} {gs : List (Str × V)} (I : Inv X pins σ H s) (hb : H b = some (.ins (He.ga X.K c') dy gs)) (h : c = c' ∨ PySem.W.subIn X.K (.ref (He.ga X.K c')) (.ref (He.ga X.K c)) = some false) :
    PySem.W.Looks (model X.prog X.w) s.heap (typeOf (.ref b)) (.ref (He.ga X.K c')) ∧ PySem.W.notFirst X.K (He.ga X.K c) (.ref (He.ga X.K c')) = true := by
  obtain ⟨od, J⟩ := ins_inst I hb
  refine ⟨J.type, ?_⟩
  unfold PySem.W.notFirst
  rcases h with rfl | h
  · simp
  · rw [h]; simp
theorem op_ownEqV (hc : ∀ c ∈ cs, MCal X.prog X.w X.K X.mg X.base (He.ga X.K c) "__eq__" ps k sp) (hn : ApartV X.K cs) (hr : Room k X.A) : OpR X (compareOp .Eq) (rOwnEqV X.K cs sp E0) := by
  intro pins s σ H x y v u Q I rx ry h
  obtain ⟨c, c', a, dx, fs, b, dy, gs, m1, m2, rfl, ha, rfl, hb, q⟩ := h
  cases (show v = Value.ref a from rx)
  cases (show u = Value.ref b from ry)
  obtain ⟨f, fd, hm, F, bn⟩ := (hc c m1).ex
  obtain ⟨od, J⟩ := ins_inst I ha
  obtain ⟨l, n⟩ := own_tbV I hb (hn c m1 c' m2)
  exact PySem.W.jo_bin (op := .Eq) hr.units0 I.kIn J l n hm.at_ hm.fn (wpAny_mono (run_fn (us := [.ref a, .ref b]) (vs := [.ref a, .ref b]) F hr bn .nil passE0 I (.cons rfl (.cons rfl .nil)) q) (fun w s' ⟨z, H', I', rz, qz⟩ => SlX.cmpback rz ⟨z, H', I', rz, qz⟩) fun _ _ e => e)
/-- what != asks of a class -/
structure NeC (K : PySem.W.Frag) (C : Addr) : Prop where
  ob : PySem.W.subIn K (.ref C) (.type "object") = some true
  ne : PySem.W.findIn K (.ref C) "__ne__" = some (some (.builtin "object.__ne__"))
theorem op_ownNeV (hc : ∀ c ∈ cs, MCal X.prog X.w X.K X.mg X.base (He.ga X.K c) "__eq__" ps k sp) (hne : ∀ c ∈ cs, NeC X.K (He.ga X.K c)) (hn : ApartV X.K cs) (hr : Room (k + 1) X.A) : OpR X (compareOp .NotEq) (rOwnNeV X.K cs sp E0) := by
  intro pins s σ H x y v u Q I rx ry h
  obtain ⟨c, c', a, dx, fs, b, dy, gs, m1, m2, rfl, ha, rfl, hb, q⟩ := h
  cases (show v = Value.ref a from rx)
  cases (show u = Value.ref b from ry)
  obtain ⟨f, fd, hm, F, bn⟩ := (hc c m1).ex
  obtain ⟨od, J⟩ := ins_inst I ha
  obtain ⟨l, n⟩ := own_tbV I hb (hn c m1 c' m2)
  have hl : ([Value.ref a, Value.ref b] ++ []).length = ps.length := F.len _ _ _ _ q
  refine PySem.W.jo_ne (by have := hr.un; omega) I.kIn J l n (hne c m1).ob (hne c m1).ne hm.at_ hm.fn (wpAny_call (codeAny_mono (F.run X.A.in1 X.stack s H ⟨[.ref a, .ref b], []⟩ [.ref a, .ref b] [.ref a, .ref b] _ E0 hr.in1 I.env0.in1 (bn s [.ref a, .ref b] I.kIn hl) (.cons rfl (.cons rfl .nil)) q) fun r s' hq => ?_))
  match r, hq with
  | .error e, hq => exact passE0 pins σ H s e s' I hq
  | .ok .next, hq => exact hq.elim
  | .ok .brk, hq => exact hq.elim
  | .ok .cont, hq => exact hq.elim
  | .ok (.ret w), hq =>
    obtain ⟨z, H', I', rz, c, rfl, qz⟩ := I.after hq
    cases (show w = Value.bool c from rz)
    exact ⟨c, rfl, .bl (!c), H', I', rfl, qz⟩
theorem op_ownEqVK {K : PySem.W.Frag} (hK : X.K = K) (hc : ∀ c ∈ cs, MCal X.prog X.w X.K X.mg X.base (He.ga X.K c) "__eq__" ps k sp) (hn : ApartV X.K cs) (hr : Room k X.A) : OpR X (compareOp .Eq) (rOwnEqV K cs sp E0) := hK ▸ op_ownEqV hc hn hr
theorem op_ownNeVK {K : PySem.W.Frag} (hK : X.K = K) (hc : ∀ c ∈ cs, MCal X.prog X.w X.K X.mg X.base (He.ga X.K c) "__eq__" ps k sp) (hne : ∀ c ∈ cs, NeC X.K (He.ga X.K c)) (hn : ApartV X.K cs) (hr : Room (k + 1) X.A) : OpR X (compareOp .NotEq) (rOwnNeV K cs sp E0) := hK ▸ op_ownNeV hc hne hn hr
/-- Ratio == number -/
theorem nr_eq {c : Str} (m : MCal X.prog X.w X.K X.mg X.base (He.ga X.K c) "__eq__" ps k sp) (hr : Room k X.A) : OpR X (compareOp .Eq) (rOwnEq X.K (He.ga X.K c) sp E0) := by
  obtain ⟨f, fd, hm, F, hb⟩ := m.ex
  exact op_ownEq hm.at_ hm.fn F hr hb passE0
theorem nr_eqK {K : PySem.W.Frag} {c : Str} (hK : X.K = K) (m : MCal X.prog X.w X.K X.mg X.base (He.ga X.K c) "__eq__" ps k sp) (hr : Room k X.A) : OpR X (compareOp .Eq) (rOwnEq K (He.ga K c) sp E0) := hK ▸ nr_eq m hr
/-- text * 0, text * 1 -/
def rMulS : R2 := fun x y H Q => ∃ (z : Str) (n : Int), x = .str z ∧ y = .int n ∧ ((n = 0 ∧ Q (.str Str.empty) H) ∨ (n = 1 ∧ Q (.str z) H))
theorem op_mulS : OpR X (binaryOp .Mult) rMulS := by
  intro pins s σ H x y v u Q I rx ry h
  obtain ⟨z, n, rfl, rfl, h⟩ := h
  obtain ⟨t, rfl⟩ := rx
  obtain ⟨t', rfl⟩ := ry
  rcases h with ⟨rfl, q⟩ | ⟨rfl, q⟩
  · exact PySem.P.mul_str_none (by decide) (by decide) ⟨.str Str.empty, H, I.tok _, ⟨_, rfl⟩, q⟩
  · refine PySem.P.mul_str (by decide) (fun _ h => ?_) (fun _ h => ?_) ?_
    · simp at h
    · simp at h
    · rw [if_neg (by decide), if_pos (by simp)]
      exact ⟨.str z, H, I, ⟨_, rfl⟩, q⟩
/-- a thing that nobody will write is locked for good -/
def tFrz (t : TE) : TE := fun σ H Q => t σ H fun x H1 => ∃ p u, x = .ref p ∧ H1 p = some u ∧ Mut (some u) ∧ ∀ od, Q x (upd H1 p (.frz od u))
theorem pe_frz {e : Expr} {t : TE} (he : PE X e t) : PE X e (tFrz t) := by
  refine ⟨fun pins s σ H Q I h => thn (he.run pins s σ H _ I h) fun v s1 ⟨x, H1, I1, r, p, u, ex, hp, mu, q⟩ => ?_⟩
  obtain ⟨od, I2⟩ := I1.lock hp mu
  exact ⟨x, _, I2, r, q od⟩
end
section
variable {ω : Type} {α β γ S : Type} [ToD α] [ToD β] [ToD γ] {K : PySem.W.Frag} {W : WX} {P : Post ω} {te ta tb tc : TE} {Γ : List Sl} {ts rest : TS}
theorem om_ownEqV {cs : List Str} [InsV α] (hc : ∀ a : α, InsV.cls a ∈ cs) {f : α × α × Unit → Res γ} : OpM K (rOwnEqV K cs (spG K f) E0) (fun (a b : α) => strict (lft (f (a, b, ())))) := fun W x σ G H b Q a c v w s B ra rc h => by
  have r0 := ra
  have r1 := rc
  rw [InsV.eq] at ra rc
  obtain ⟨p, dx, vs, rfl, hp, rf⟩ := rep_ins ra
  obtain ⟨q, dy, ws, rfl, hq, rg⟩ := rep_ins rc
  exact ⟨_, _, p, dx, vs, q, dy, ws, hc a, hc c, rfl, s _ _ hp, rfl, s _ _ hq, spG_of (i := (a, c, ())) s B (.cons r0 (.cons r1 .nil)) (strict_E h)⟩
theorem om_ownNeV {cs : List Str} [InsV α] (hc : ∀ a : α, InsV.cls a ∈ cs) {f : α × α × Unit → Res Bool} : OpM K (rOwnNeV K cs (spG K f) E0) (fun (a b : α) => (do let z ← strict (lft (f (a, b, ()))); pure (!z) : M Bool)) := fun W x σ G H b Q a c v w s B ra rc h => by
  have r0 := ra
  have r1 := rc
  rw [InsV.eq] at ra rc
  obtain ⟨p, dx, vs, rfl, hp, rf⟩ := rep_ins ra
  obtain ⟨q, dy, ws, rfl, hq, rg⟩ := rep_ins rc
  refine ⟨_, _, p, dx, vs, q, dy, ws, hc a, hc c, rfl, s _ _ hp, rfl, s _ _ hq, spG_of (i := (a, c, ())) s B (.cons r0 (.cons r1 .nil)) (strict_E (bindE (Q1 := fun v H' => ∃ c, v = .bl c ∧ Q (.bl (!c)) H') h fun z b' v G' H' hf e B' rz => ⟨z, rep_bl rz, hf.here e.gh B' (.bl _)⟩))⟩
/-- Ratio == number -/
theorem om_ownEqN {f : Rt × Nm × Unit → Res γ} (hi : PySem.W.subIn K (.type "int") (.ref (He.ga K "Ratio")) = some false) : OpM K (rOwnEq K (He.ga K "Ratio") (spG K f) E0) (fun (a : Rt) (b : Nm) => strict (lft (f (a, b, ())))) := fun W x σ G H b Q a c v w s B ra rc h => by
  have r0 := ra
  obtain ⟨p, dx, vs, rfl, hp, rf⟩ := rep_ins (c := "Ratio") (fs := InsOf.fs a) ra
  refine ⟨p, dx, vs, rfl, s _ _ hp, ?_, spG_of (i := (a, c, ())) s B (.cons r0 (.cons rc .nil)) (strict_E h)⟩
  cases c with
  | i n => cases rep_int (i := n) rc; exact .inl ⟨"int", .int n, hi⟩
  | r q =>
    obtain ⟨p2, dy, ws, rfl, hq, _⟩ := rep_ins (c := "Ratio") (fs := InsOf.fs q) rc
    exact .inr ⟨p2, dy, ws, rfl, s _ _ hq⟩
theorem rep_clsV {cs : List Str} [InsV α] (hc : ∀ a : α, InsV.cls a ∈ cs) (a : α) : KnownD cs (d a) := by rw [InsV.eq]; exact hc a
/-- of a wider type to a narrower one -/
theorem ev_nar {g : α → Option β} (hg : ∀ a b, g a = some b → d b = d a) {m : M α} (h : EvR K W te Γ m) : EvR K W te Γ (do let a ← m; unopt (g a)) := fun x σ G H b Q E s B h' =>
  step_E (te := te) h E s B h' fun a b' v G' H' h2 e E2 s2 B2 r => by
    obtain ⟨z, hz, h3⟩ := unopt_fin h2
    exact h3.here s2 B2 (by rw [hg a z hz]; exact r)
noncomputable def mulS (z : Str) (n : Int) : M Str := do
  need (n = 0 ∨ n = 1)
  pure (if n = 0 then Str.empty else z)
theorem om_mulS : OpM K rMulS mulS := fun W x σ G H b Q a c v w s B ra rc h => by
  cases rep_str ra
  cases rep_int rc
  obtain ⟨h1, h2⟩ := need_fin h
  refine ⟨a, c, rfl, rfl, ?_⟩
  rcases h1 with rfl | rfl
  · exact .inl ⟨rfl, by have := h2.here s B (.str _); simpa using this⟩
  · exact .inr ⟨rfl, by have := h2.here s B (.str _); simpa using this⟩
/-! ### dicts with text keys -/
structure Dc (α : Type) where
  l : List (Str × α)
def kvD [ToD α] (p : Str × α) : Key × D := (Sum.inr p.1, d p.2)
instance : ToD (Dc α) := ⟨fun p => .dicF (p.l.map kvD)⟩
def Dc.get {α : Type} (t : Dc α) (k : Str) : Option α := (t.l.find? fun p => decide (p.1 = k)).map (·.2)
def putT {α : Type} (kvs : List (Str × α)) (k : Str) (v : α) : List (Str × α) :=
  if (kvs.any fun p => decide (p.1 = k)) = true then kvs.map (fun p => if p.1 = k then (p.1, v) else p) else kvs ++ [(k, v)]
theorem repK_any {G : Hp} {k : Str} : ∀ {vs : List (Key × V)} {kvs : List (Str × α)}, RepK K G vs (kvs.map kvD) → (vs.any fun kv => decide (kv.1 = Sum.inr k)) = (kvs.any fun p => decide (p.1 = k))
  | [], [], .nil => rfl
  | _ :: _, p :: r, .cons h t => by
    rw [List.any_cons, List.any_cons, repK_any t]
    congr 1
    by_cases z : p.1 = k
    · rw [decide_eq_true z, decide_eq_true (congrArg Sum.inr z)]
    · rw [decide_eq_false z, decide_eq_false fun e => z (Sum.inr.inj e)]
theorem repK_app {G : Hp} : ∀ {vs ws : List (Key × V)} {ks ls : List (Key × D)}, RepK K G vs ks → RepK K G ws ls → RepK K G (vs ++ ws) (ks ++ ls)
  | _, _, _, _, .nil, s => s
  | _, _, _, _, .cons h r, s => .cons h (repK_app r s)
theorem repK_put {G : Hp} {k : Str} {v : V} {a : α} {vs : List (Key × V)} {kvs : List (Str × α)} (r : RepK K G vs (kvs.map kvD)) (rv : Rep K G v (d a)) : RepK K G (putK vs (Sum.inr k) v) ((putT kvs k a).map kvD) := by
  unfold putK putT
  rw [repK_any r]
  split
  · have go : ∀ {vs : List (Key × V)} {kvs : List (Str × α)}, RepK K G vs (kvs.map kvD) → RepK K G (vs.map fun kv => if kv.1 = Sum.inr k then (kv.1, v) else kv) ((kvs.map fun p => if p.1 = k then (p.1, a) else p).map kvD) := by
      intro vs kvs
      induction kvs generalizing vs with
      | nil => intro r; cases r; exact .nil
      | cons p t ih =>
        intro r
        cases r with | cons h t2 =>
        simp only [List.map_cons]
        by_cases z : p.1 = k
        · rw [if_pos (congrArg Sum.inr z), if_pos z]
          exact .cons rv (ih t2)
        · rw [if_neg (fun e => z (Sum.inr.inj e)), if_neg z]
          exact .cons h (ih t2)
    exact go r
  · rw [List.map_append]
    exact repK_app r (.cons rv .nil)
theorem RepK.length {G : Hp} : ∀ {vs : List (Key × V)} {ks : List (Key × D)}, RepK K G vs ks → vs.length = ks.length
  | _, _, .nil => rfl
  | _, _, .cons _ t => by rw [List.length_cons, List.length_cons, t.length]
theorem repK_val {G : Hp} {k : Str} : ∀ {vs : List (Key × V)} {kvs : List (Str × α)}, RepK K G vs (kvs.map kvD) → (∀ a, (kvs.find? fun p => decide (p.1 = k)).map (·.2) = some a → ∃ v, valV vs (Sum.inr k) = some v ∧ Rep K G v (d a)) ∧ ((kvs.find? fun p => decide (p.1 = k)).map (·.2) = none → valV vs (Sum.inr k) = none)
  | [], [], .nil => ⟨fun a h => by simp at h, fun _ => rfl⟩
  | _ :: _, p :: r, .cons h t => by
    unfold valV
    rw [List.find?_cons, List.find?_cons]
    by_cases z : p.1 = k
    · rw [decide_eq_true z, decide_eq_true (congrArg Sum.inr z)]
      refine ⟨fun a e => ?_, fun e => by cases e⟩
      cases e
      exact ⟨_, rfl, h⟩
    · rw [decide_eq_false z, decide_eq_false fun e => z (Sum.inr.inj e)]
      exact repK_val t
theorem rep_dcF {G : Hp} {v : V} {ks : List (Key × D)} (h : Rep K G v (.dicF ks)) : ∃ p o vs, v = .ref p ∧ G p = some (.frz o (.dK vs)) ∧ RepK K G vs ks := by cases h with | dicF h r => exact ⟨_, _, _, rfl, h, r⟩
def dcA {α β : Type} (t : α → M Bool) (fk : α → M Str) (fv : α → M β) : List (Str × β) → List α → M (List (Str × β))
  | acc, [] => pure acc
  | acc, a :: r => do
    let c ← strict (t a)
    if c = true then do
      let k ← strict (fk a)
      let v ← strict (fv a)
      dcA t fk fv (putT acc k v) r
    else dcA t fk fv acc r
noncomputable def dcM {α β : Type} (t : α → M Bool) (fk : α → M Str) (fv : α → M β) (xs : List α) : M (Dc β) := do
  need (xs.length ≤ sizeLine)
  let l ← dcA t fk fv [] xs
  pure ⟨l⟩
theorem putK_le {κ : Type} [DecidableEq κ] (kvs : List (κ × V)) (k : κ) (v : V) : (putK kvs k v).length ≤ kvs.length + 1 := by
  unfold putK
  split
  · rw [List.length_map]; omega
  · rw [List.length_append]; exact Nat.le_refl _
theorem ev_dc {wi : TI} {g : TG} {tt : TT} {tk tv : TE} {vs : List Nat} {mi : M (List α)} {up : α → List Sl → List Sl} {mt : α → M Bool} {mk : α → M Str} {mv : α → M β} (hi : EvIE K W wi Γ mi) (hg : TgOk K g vs up)
    (ht : ∀ a, EvT K WF tt (up a (wipeS Γ vs)) (mt a)) (hk : ∀ a, EvR K WF tk (up a (wipeS Γ vs)) (mk a)) (hv : ∀ a, EvR K WF tv (up a (wipeS Γ vs)) (mv a)) : EvR K W (tFrz (tDc wi g tt tk tv vs)) Γ (do let xs ← mi; dcM mt mk mv xs) := fun x σ G H b Q E s B h =>
  hi (Dc β) x σ _ good_E _ G H b _ E s B h fun xs b1 J G1 H1 h1 e1 E1 s1 B1 wk D nD => by
    obtain ⟨hl, h1⟩ := need_fin h1
    have xD : x ≠ some D := fun z => by
      have := (B1 D z).2
      rw [nD] at this
      cases this
    refine ⟨fun i m H' => ∃ G' b' kvs, ∃ ys : List (Str × β), m = xs.length - i ∧ i ≤ xs.length ∧ Ex x G1 H1 G' H' ∧ G' D = none ∧ H' D = some (.dK kvs) ∧ RepK K G' kvs (ys.map kvD) ∧ kvs.length ≤ i ∧ BoxSt x G' H' b' ∧ FinE K W x σ G1 H1 Q ((do let zs ← dcA mt mk mv ys (xs.drop i); pure (⟨zs⟩ : Dc β)) b'),
      ⟨_, G1, b1, [], [], rfl, Nat.zero_le _, Ex.raw s1 nD, s1.free nD, upd_same, .nil, Nat.le_refl _, B1.raw nD, h1⟩, ?_⟩
    rintro i m H' ⟨G', b', kvs, ys, rfl, hi', ex, gD, hD, rk, hn, B', hf⟩
    by_cases hlt : i < xs.length
    · have hd : xs.drop i = xs[i] :: xs.drop (i + 1) := List.drop_eq_getElem_cons hlt
      obtain ⟨hgo, hy⟩ := (wk i G' H' ex).1 xs[i] (List.getElem?_eq_getElem hlt)
      refine .inr ⟨hgo, fun H'' => ∃ G' b' kvs, ∃ ys : List (Str × β), i + 1 ≤ xs.length ∧ Ex x G1 H1 G' H'' ∧ G' D = none ∧ H'' D = some (.dK kvs) ∧ RepK K G' kvs (ys.map kvD) ∧ kvs.length ≤ i + 1 ∧ BoxSt x G' H'' b' ∧ FinE K W x σ G1 H1 Q ((do let zs ← dcA mt mk mv ys (xs.drop (i + 1)); pure (⟨zs⟩ : Dc β)) b'),
        fun H'' ⟨G'', b'', kvs', ys', c1, c2⟩ => ⟨xs.length - (i + 1), by omega, G'', b'', kvs', ys', rfl, c1, c2⟩, fun y H2 hyld => ?_⟩
      obtain ⟨G2, ex2, ry⟩ := hy y H2 hyld
      have B2 := B'.none_ex ex2
      have ex12 := ex.trans (ex2.box (x := x))
      have gD2 : G2 D = none := ex2.uns D _ (by simp) hD gD
      have hD2 := ex2.keep D _ (by simp) hD
      have E2 : Env K x (wipe σ vs) (wipeS Γ vs) G2 H2 := (E1.ext ex12).wipe vs
      refine hg x (wipe σ vs) (wipeS Γ vs) G2 H2 y xs[i] _ E2 ex2.gh ry fun σ' hw E3 _ => ⟨hw.trans wipe_wipe, ?_⟩
      rw [hd] at hf
      have hf0 : FinE K W x σ G1 H1 Q ((strict (mt xs[i]) >>= fun c => (if c = true then (do let k ← strict (mk xs[i]); let v ← strict (mv xs[i]); dcA mt mk mv (putT ys k v) (xs.drop (i + 1))) else dcA mt mk mv ys (xs.drop (i + 1))) >>= fun zs => pure (⟨zs⟩ : Dc β)) b') := by
        rw [← bind_assoc]
        exact hf
      obtain ⟨c, b3, q, hf2⟩ := strict_ok (f := fun c => (if c = true then (do let k ← strict (mk xs[i]); let v ← strict (mv xs[i]); dcA mt mk mv (putT ys k v) (xs.drop (i + 1))) else dcA mt mk mv ys (xs.drop (i + 1))) >>= fun zs => pure (⟨zs⟩ : Dc β)) hf0
      refine ht xs[i] x σ' G2 H2 b' _ E3 ex2.gh B2 ?_
      rw [q]
      intro G3 H3 ex3 B3
      have ex13 := ex12.trans ex3
      have gD3 : G3 D = none := ex3.uns D _ xD hD2 gD2
      have hD3 := ex3.keep D _ xD hD2
      have ext : ∀ {G4 : Hp}, Same G' G4 → RepK K G4 kvs (ys.map kvD) := fun s => rk.ext s
      cases c with
      | false => exact iteF ⟨G3, b3, kvs, ys, hlt, ex13, gD3, hD3, ext (ex2.g.trans ex3.g), by omega, B3, hf2⟩
      | true =>
        have hf3 : FinE K W x σ G1 H1 Q ((strict (mk xs[i]) >>= fun k => (do let v ← strict (mv xs[i]); dcA mt mk mv (putT ys k v) (xs.drop (i + 1))) >>= fun zs => pure (⟨zs⟩ : Dc β)) b3) := by
          rw [← bind_assoc]
          exact hf2
        obtain ⟨ky, b4, q4, hf4⟩ := strict_ok (f := fun k => (do let v ← strict (mv xs[i]); dcA mt mk mv (putT ys k v) (xs.drop (i + 1))) >>= fun zs => pure (⟨zs⟩ : Dc β)) hf3
        have hf5 : FinE K W x σ G1 H1 Q ((strict (mv xs[i]) >>= fun v => dcA mt mk mv (putT ys ky v) (xs.drop (i + 1)) >>= fun zs => pure (⟨zs⟩ : Dc β)) b4) := by
          rw [← bind_assoc]
          exact hf4
        obtain ⟨va, b5, q5, hf6⟩ := strict_ok (f := fun v => dcA mt mk mv (putT ys ky v) (xs.drop (i + 1)) >>= fun zs => pure (⟨zs⟩ : Dc β)) hf5
        refine iteT (hk xs[i] x σ' G3 H3 b3 _ (E3.ext ex3) ex3.gh B3 ?_)
        rw [q4]
        intro w1 G4 H4 ex4 B4 rw4
        have ex14 := ex13.trans ex4
        have gD4 : G4 D = none := ex4.uns D _ xD hD3 gD3
        have hD4 := ex4.keep D _ xD hD3
        refine hv xs[i] x σ' G4 H4 b4 _ ((E3.ext ex3).ext ex4) ex4.gh B4 ?_
        rw [q5]
        intro w2 G5 H5 ex5 B5 rw5
        have ex15 := ex14.trans ex5
        have gD5 : G5 D = none := ex5.uns D _ xD hD4 gD4
        have hD5 := ex5.keep D _ xD hD4
        cases rep_str rw4
        refine ⟨kvs, Sum.inr ky, rfl, hD5, by omega, G5, b5, _, putT ys ky va, hlt, ex15.grow nD gD5, gD5, upd_same, repK_put (ext (((ex2.g.trans ex3.g).trans ex4.g).trans ex5.g)) rw5, ?_, ?_, hf6⟩
        · have := putK_le kvs (Sum.inr ky) w2
          omega
        · intro p hp
          obtain ⟨c1, c2⟩ := B5 p hp
          exact ⟨c1, by rw [upd_ne (fun z => xD (by rw [← z]; exact hp))]; exact c2⟩
    · have hi2 : xs.length = i := by omega
      refine .inl ⟨(wk i G' H' ex).2 hi2, D, _, rfl, hD, trivial, fun od => ?_⟩
      rw [List.drop_eq_nil_of_le (by omega)] at hf
      have hf2 : FinE K W x σ G1 H1 Q ((pure (⟨ys⟩ : Dc β) : M (Dc β)) b') := hf
      have sg : Same G' (upd G' D (.frz od (.dK kvs))) := upS gD
      refine hf2 (.ref D) (upd G' D (.frz od (.dK kvs))) (upd H' D (.frz od (.dK kvs))) ?_ ?_ (.dicF upd_same (rk.ext sg))
      · refine ⟨ex.g.trans sg, fun a o ha => ?_, fun p o nx hp => ?_, fun p o nx hp hg => ?_⟩
        · by_cases z : a = D
          · subst z; rw [upd_same] at ha ⊢; exact ha
          · rw [upd_ne z] at ha ⊢; exact ex.gh a o ha
        · rw [upd_ne (fun z => by rw [z, nD] at hp; cases hp)]; exact ex.keep p o nx hp
        · rw [upd_ne (fun z => by rw [z, nD] at hp; cases hp)]
          exact ex.uns p o nx hp hg
      · intro p hp
        obtain ⟨c1, c2⟩ := B' p hp
        have n : p ≠ D := fun z => xD (by rw [← z]; exact hp)
        exact ⟨by rw [upd_ne n]; exact c1, by rw [upd_ne n]; exact c2⟩
/-- d[k] -/
theorem ev_dget {m : M (Dc α)} {mk : M Str} (h : EvR K W ta Γ m) (h2 : EvR K W tb Γ mk) : EvR K W (tDGet ta tb) Γ (do let t ← m; let k ← mk; unopt (t.get k)) := fun x σ G H b Q E s B h' =>
  step_E (te := ta) h E s B h' fun t b1 v G1 H1 hf1 e1 E1 s1 B1 r1 => step_E (te := tb) h2 E1 s1 B1 hf1 fun k b2 w G2 H2 hf2 e2 E2 s2 B2 r2 => by
    obtain ⟨p, o, vs, rfl, hp, rk⟩ := rep_dcF (ks := t.l.map kvD) r1
    cases rep_str r2
    obtain ⟨a, ha, h3⟩ := unopt_fin hf2
    obtain ⟨v, hv, rv⟩ := (repK_val (k := k) (rk.ext e2.g)).1 a ha
    exact ⟨p, v, rfl, .inl ⟨vs, _, .inr ⟨o, s2 _ _ (e2.g _ _ hp)⟩, rfl, hv.symm⟩, h3.here s2 B2 rv⟩
/-- k in d -/
theorem ev_din {m : M (Dc α)} {mk : M Str} (h2 : EvR K W tb Γ mk) (h : EvR K W ta Γ m) : EvR K W (tDIn tb ta) Γ (do let k ← mk; let t ← m; pure (t.get k).isSome) := fun x σ G H b Q E s B h' =>
  step_E (te := tb) h2 E s B h' fun k b1 v G1 H1 hf1 e1 E1 s1 B1 r2 => step_E (te := ta) h E1 s1 B1 hf1 fun t b2 w G2 H2 hf2 e2 E2 s2 B2 r1 => by
    obtain ⟨p, o, vs, rfl, hp, rk⟩ := rep_dcF (ks := t.l.map kvD) r1
    cases rep_str r2
    have hz := repK_val (k := k) rk
    refine ⟨p, valV vs (Sum.inr k), rfl, .inl ⟨vs, _, .inr ⟨o, s2 _ _ hp⟩, rfl, rfl⟩, ?_⟩
    have e : (valV vs (Sum.inr k)).isSome = (t.get k).isSome := by
      cases q : t.get k with
      | none => rw [hz.2 q]; rfl
      | some a => obtain ⟨v, hv, _⟩ := hz.1 a q; rw [hv]; rfl
    rw [e]
    exact hf2.here s2 B2 (.bl _)
/-- for k in d -/
theorem ei_keys {m : M (Dc α)} (h : EvR K W te Γ m) : EvI (α := Str) K W (iKeys te) Γ (do let t ← m; pure (t.l.map (·.1))) := fun δ x σ F g k G H b R E s B hf kk =>
  go (te := te) g h E s B (f := fun t => k (t.l.map (·.1))) (by rw [bind_assoc] at hf; exact hf) fun t b' v G' H' h1 e E2 s2 B2 r => by
    obtain ⟨p, o, vs, rfl, hp, rk⟩ := rep_dcF (ks := t.l.map kvD) r
    refine ⟨p, o, rfl, .inl ⟨vs, s2 _ _ hp, kk _ b' _ G' H' h1 e E2 s2 B2 fun i G2 H2 r2 => ?_⟩⟩
    have hq : H2 p = some (.frz o (.dK vs)) := r2.2 _ _ (r2.1 _ _ hp)
    have key : ∀ {vs : List (Key × V)} {kvs : List (Str × α)}, RepK K G' vs (kvs.map kvD) → vs.map (·.1) = kvs.map fun p => (Sum.inr p.1 : Key) := by
      intro vs kvs
      induction kvs generalizing vs with
      | nil => intro r; cases r; rfl
      | cons p t ih => intro r; cases r with | cons h t2 => rw [List.map_cons, List.map_cons, ih t2]
    have hk := key rk
    refine ⟨fun a ha => ?_, fun e => ⟨hq, ?_⟩⟩
    · rw [List.getElem?_map] at ha
      cases q : t.l[i]? with
      | none => rw [q] at ha; cases ha
      | some p2 =>
        rw [q] at ha
        cases ha
        have q3 : (vs.map (·.1))[i]? = some (Sum.inr p2.1) := by rw [hk, List.getElem?_map, q]; rfl
        rw [List.getElem?_map] at q3
        cases q4 : vs[i]? with
        | none => rw [q4] at q3; cases q3
        | some kv =>
          rw [q4] at q3
          have li : i < vs.length := (List.getElem?_eq_some_iff.mp q4).1
          refine ⟨⟨hq, li⟩, fun y H3 ⟨e3, k3, v3, h4, h5⟩ => ?_⟩
          rw [q4] at h4
          cases h4
          subst e3
          have : k3 = Sum.inr p2.1 := Option.some.inj q3
          subst this
          subst h5
          exact ⟨G2, Ex.refl r2.2, .str _⟩
    · have l1 := rk.length
      rw [List.length_map] at l1 e
      omega
end
end N

set_option Elab.async false
set_option linter.all false
set_option maxRecDepth 100000
set_option maxHeartbeats 4000000
/-! N39: targets of blocks of two clauses, methods that some values have, places that some values have, isinstance over several classes, __init__ of a base class. -/
namespace N
open PySem PySem.Spec PyProof.Rows L2 J
open ToD (d)
open ToDs (ds)
open M
section
variable {ω : Type} {α β γ S : Type} [ToD α] [ToD β] [ToD γ] {K : PySem.W.Frag} {W : WX} {P : Post ω} {te ta tb tc : TE} {Γ : List Sl} {ts rest : TS}
theorem wipe_sub {σ σ' : L2.St} {vs ws : List Nat} (h : wipe σ' vs = wipe σ vs) (s : ∀ i ∈ vs, i ∈ ws) : wipe σ' ws = wipe σ ws := by
  apply List.ext_getElem?
  intro j
  have hl : σ'.length = σ.length := by
    have := congrArg List.length h
    rw [wipe_length, wipe_length] at this
    exact this
  have hj : (wipe σ' vs)[j]? = (wipe σ vs)[j]? := by rw [h]
  rw [wipe_at, wipe_at] at hj
  rw [wipe_at, wipe_at, hl]
  by_cases c : j ∈ ws ∧ j < σ.length
  · rw [if_pos c, if_pos c]
  · rw [if_neg c, if_neg c]
    have n : ¬ (j ∈ vs ∧ j < σ.length) := fun z => c ⟨s j z.1, z.2⟩
    rw [hl, if_neg n, if_neg n] at hj
    exact hj
theorem TgOk.up {g : TG} {vs ws : List Nat} {up : α → List Sl → List Sl} (h : TgOk K g vs up) (s : ∀ i ∈ vs, i ∈ ws := by decide) : TgOk K g ws up := fun x σ Γ G H v a Q E sm r k =>
  h x σ Γ G H v a Q E sm r fun σ' hw E' bk => k σ' (wipe_sub hw s) E' fun j p hj => bk j p fun z => hj (s j z)
theorem wipeS_any {i : Nat} : ∀ {vs : List Nat} {t : Sl}, i ∈ vs → (wipeS Γ vs)[i]? = some t → t = .any
  | [], _, h, _ => absurd h List.not_mem_nil
  | v :: vs, t, h, e => by
    have e : ((wipeS Γ vs).set v .any)[i]? = some t := e
    by_cases z : v = i
    · subst z
      by_cases l : v < (wipeS Γ vs).length
      · rw [List.getElem?_set_self l] at e; cases e; rfl
      · rw [List.getElem?_eq_none (by rw [List.length_set]; omega)] at e; cases e
    · rw [List.getElem?_set_ne z] at e
      rcases List.mem_cons.mp h with y | y
      · exact absurd y.symm z
      · exact wipeS_any y e
theorem UpOk.wipe {vs ws : List Nat} {up : α → List Sl → List Sl} (h : ∀ Δ, UpOk vs up Δ) : UpOk ws up (wipeS Γ ws) := fun a j s h1 o1 => by
  obtain ⟨_, c2⟩ := h _ a j s h1 o1
  refine ⟨fun z => ?_, c2⟩
  rw [wipeS_any z c2] at o1
  cases o1
/-- .m(e, ..) of values some of which have it -/
theorem ev_methP {n : Str} {cs : List Str} [InsV α] {ok : α → Bool} (hc : ∀ a : α, ok a = true → InsV.cls a ∈ cs) {ι : Type} [ToDs ι] {t : TA} {mk : ∀ {θ : Type}, (ι → M θ) → M θ} {f : α × ι → Res γ} {m : M α} {m2 : M γ} (hn : ∀ a : α, (InsV.fs a).lookup n = none) (h : EvR K W te Γ m) (h2 : EvC K W t Γ mk) (e : m2 = (do let a ← m; need (ok a = true); mk fun i => lft (f (a, i))) := by rfl) :
    EvR K W (tMethV K cs n (spG K f) (WE W) te t) Γ m2 := by
  rw [e]
  exact fun x σ G H b Q E s B h' => step_E (te := te) h E s B h' fun a b' v G' H' h3 e E2 s2 B2 r => by
    obtain ⟨hok, h3⟩ := need_fin h3
    have r0 := r
    rw [InsV.eq] at r
    obtain ⟨p, dx, vs, rfl, hp, rf⟩ := rep_ins r
    exact ⟨_, hc a hok, p, dx, vs, rfl, s2 _ _ hp, lookup_none rf (hn a), h2 γ x σ _ good_E _ G' H' b' _ E2 s2 B2 h3 fun i b3 ws G3 H3 h4 e3 E3 s3 B3 rs => spG_of (i := (a, i)) s3 B3 (.cons (r0.ext e3.g) rs) h4⟩
/-- t[j] of values some of which are tuples -/
theorem ev_ixO {m : M α} {j : Nat} {g : α → Option β} (hg : ∀ a b, g a = some b → ∃ xs, d a = .tup xs ∧ xs[j]? = some (d b)) (h : EvR K W te Γ m) :
    EvR K W (tOp (rIxT K) te (tC (.int (j : Nat)))) Γ (do let t ← m; unopt (g t)) := fun x σ G H b Q E s B h' =>
  step_E (te := te) h E s B h' fun a b' v G' H' h2 e E2 s2 B2 r => by
    obtain ⟨c, hc, h3⟩ := unopt_fin h2
    obtain ⟨xs, hd, hj⟩ := hg a c hc
    rw [hd] at r
    obtain ⟨p, vs, rfl, hp, rs⟩ := rep_tup r
    obtain ⟨u, hu, ru⟩ := rs.get hj
    exact ⟨p, vs, j, u, rfl, rfl, sqT_H s2 hp, atI_nat hu, h3.here s2 B2 ru⟩
/-! ### zip of a list and a list or a tuple; of tuples -/
theorem ev_joinQ {m1 : M Str} {m2 : M (List Str)} {m : M Str} (h1 : EvR K W ta Γ m1) (h2 : EvR K W tb Γ m2) (e : m = (do let a ← m1; let ys ← m2; joinSM a ys) := by rfl) :
    EvR K W (tM1 (fun x xs H Q => ∃ a p, ∃ ys : List Str, x = .str a ∧ xs = [.ref p] ∧ (SqL K H p (ys.map V.str) ∨ SqT K H p (ys.map V.str)) ∧ (ys.map (·.length)).sum + ys.length * a.length ≤ 16777216 ∧ Q (.str (Txt.join a ys)) H) ta tb) Γ m := by rw [e]; exact ev_join h1 h2
/-! ### isinstance over several classes -/
def isTupB : D → Bool
  | .tup _ => true
  | .tupN _ => true
  | _ => false
def isLstB : D → Bool
  | .lst _ => true
  | _ => false
def isDicB : D → Bool
  | .dic _ => true
  | .dicF _ => true
  | _ => false
/-- the classes of cs are none of the built-in type T -/
def NoTy (K : PySem.W.Frag) (cs : List Str) (T : String) : Prop := ∀ c ∈ cs, PySem.W.kitOne K (.ref (He.ga K c)) (.type T) = some false
theorem isi_intC {cs : List Str} (hR : NoTy K cs "int") : ∀ a, KnownD cs a → PySem.W.kitOne K (tyD K a) (.type "int") = some (isIntB a) := by
  intro a h
  cases a with
  | int _ => exact kit_tt
  | ins c fs => exact hR c h
  | _ => rfl
theorem isi_boolC {cs : List Str} (hR : NoTy K cs "bool") : ∀ a, KnownD cs a → PySem.W.kitOne K (tyD K a) (.type "bool") = some (isBlB a) := by
  intro a h
  cases a with
  | bl _ => exact kit_tt
  | ins c fs => exact hR c h
  | _ => rfl
theorem isi_strC {cs : List Str} (hR : NoTy K cs "str") : ∀ a, KnownD cs a → PySem.W.kitOne K (tyD K a) (.type "str") = some (isStrB a) := by
  intro a h
  cases a with
  | str _ => exact kit_tt
  | ins c fs => exact hR c h
  | _ => rfl
theorem isi_listC {cs : List Str} (hR : NoTy K cs "list") : ∀ a, KnownD cs a → PySem.W.kitOne K (tyD K a) (.type "list") = some (isLstB a) := by
  intro a h
  cases a with
  | lst _ => exact kit_tt
  | ins c fs => exact hR c h
  | _ => rfl
theorem isi_tupC {cs : List Str} (hR : NoTy K cs "tuple") : ∀ a, KnownD cs a → PySem.W.kitOne K (tyD K a) (.type "tuple") = some (isTupB a) := by
  intro a h
  cases a with
  | tup _ => exact kit_tt
  | tupN _ => exact kit_tt
  | ins c fs => exact hR c h
  | _ => rfl
theorem isi_dictC {cs : List Str} (hR : NoTy K cs "dict") : ∀ a, KnownD cs a → PySem.W.kitOne K (tyD K a) (.type "dict") = some (isDicB a) := by
  intro a h
  cases a with
  | dic _ => exact kit_tt
  | dicF _ => exact kit_tt
  | ins c fs => exact hR c h
  | _ => rfl
theorem et_never {t : TT} : EvT K W t Γ (M.stuck : M Bool) := fun x σ G H b Q E s B h => False.elim h
theorem isi_2 {u v : Value} {t : Value} {a b : Bool} (h1 : PySem.W.kitOne K t u = some a) (h2 : PySem.W.kitOne K t v = some b) : PySem.W.kitAny K t [u, v] = some (a || b) := by
  unfold PySem.W.kitAny
  rw [h1]
  cases a with
  | true => rfl
  | false =>
    unfold PySem.W.kitAny
    rw [h2]
    cases b <;> rfl
/-- below: those of cs that are below the class c0 -/
theorem isi_cls {cs below : List Str} {c0 : Str} (h1 : ∀ T ∈ (["int", "bool", "NoneType", "str", "list", "tuple", "dict"] : List String), PySem.W.kitOne K (.type T) (.ref (He.ga K c0)) = some false)
    (h2 : ∀ c ∈ cs, PySem.W.kitOne K (.ref (He.ga K c)) (.ref (He.ga K c0)) = some (decide (c ∈ below))) : ∀ a, KnownD cs a → PySem.W.kitOne K (tyD K a) (.ref (He.ga K c0)) = some (match a with | .ins c _ => decide (c ∈ below) | _ => false) := by
  intro a h
  cases a with
  | ins c fs => exact h2 c h
  | _ => exact h1 _ (by simp [tyD])
/-! ### a made instance of a value's own class -/
def chkR {α : Type} (p : α → Bool) : Res α → Res α
  | .ok a => if p a = true then .ok a else .stuck
  | .err c fs => .err c fs
  | .stuck => .stuck
theorem chk_ok {c : Str} {fs : α → List (Str × D)} {p : α → Bool} (he : ∀ a, p a = true → d a = .ins c (fs a)) (r : Res α) : match mapR fs r, chkR p r with
  | .ok fs, .ok a => d a = .ins c fs
  | .err c fs, r => r = .err c fs
  | _, r => r = .stuck := by
  cases r with
  | err c fs => rfl
  | stuck => rfl
  | ok a =>
    unfold chkR mapR
    by_cases h : p a = true
    · simp only [h, if_true]
      exact he a h
    · simp only [h]
      rfl
end
/-! ### a base class's __init__ -/
structure BCal (P : Program) (w : World) (K : PySem.W.Frag) (mg : Str → Option Value) (base : Heap) (n : Str) (ps : List Str) (k : Nat) (sp : Sp) : Prop where
  c : ClsI K mg n
  ex : ∃ fd, FnOk P w K mg base (CXL P w) k (He.ma K (He.ga K n) "__init__") fd ps sp ∧ Binds K fd ps [] ∧ PySem.W.keepIn K (.ref (He.ma K (He.ga K n) "__init__")) = true
theorem pe_bcal {X : Cx} {n : Str} {k : Nat} {ps : List Str} {sp : Sp} {p1 p2 pos : Pos} {e : Expr} {es : List Expr} {t : TA} {pl : Sem Bool} (c : BCal X.prog X.w X.K X.mg X.base n ps k sp) (hr : Room k X.A) (hg : Gl X n) (ha : PA X (e :: es) t)
    (hdb : (n == ("__debug__" : Str)) = false := by decide)
    (hc : eval (.Call (.Attribute (.Name n p1) "__init__" p2) (e :: es) [] pos) X.env = (do
      let ov ← eval (.Name n p1) X.env
      standAt p2.atName
      let (f, first) ← holding [ov] (getMethod ov "__init__" pl)
      callWith pos f first (backTo pos (starEach (e :: es) X.env)) (backToKw pos (keywordEach [] X.env))) := by rfl)
    (he : starEach (e :: es) X.env = (false, eval e X.env) :: starEach es X.env := by rfl) (hpl : (backTo pos (starEach es X.env)).any (·.1) = false := by rfl) :
    PE X (.Call (.Attribute (.Name n p1) "__init__" p2) (e :: es) [] pos) (tCall sp [] E0 t) := by
  obtain ⟨fd, F, hb, hk⟩ := c.ex
  exact pe_clsInit (pl := pl) c.c F hk hb hr passE0 hg ha hdb hc he hpl
end N

set_option Elab.async false
set_option linter.all false
set_option maxRecDepth 100000
set_option maxHeartbeats 4000000
/-! P1: draws as data: the program's (Dr) and the law's own (LD). -/
namespace N
open PySem PySem.Spec PyProof.Rows L2 J
open ToD (d)
open ToDs (ds)
open M
abbrev Row := VT Int
abbrev Path := VT Row
abbrev Seat := T3 Str (VT Rt) Int
inductive Dr where
  | e (words : Str) (whole : List Path) (title : Str)
  | r (words : Str) (whole : List Path) (manner : Str) (seats : List Seat) (steps : List Row) (further : List Dr)
mutual
def Dr.dd : Dr → D
  | .e w p t => .ins "End" [("words", .str w), ("whole", .tup (p.map d)), ("title", .str t)]
  | .r w p m s st f => .ins "Round" [("words", .str w), ("whole", .tup (p.map d)), ("manner", .str m), ("seats", .tup (s.map d)), ("steps", .tupN (st.map d)), ("further", .tup (Dr.dds f))]
def Dr.dds : List Dr → List D
  | [] => []
  | a :: q => Dr.dd a :: Dr.dds q
end
instance : ToD Dr := ⟨Dr.dd⟩
theorem Dr.dds_map : ∀ l : List Dr, Dr.dds l = l.map d
  | [] => by rw [Dr.dds]; rfl
  | a :: q => by rw [Dr.dds, Dr.dds_map q]; rfl
namespace Dr
def isR : Dr → Bool
  | .e _ _ _ => false
  | .r _ _ _ _ _ _ => true
def isE (x : Dr) : Bool := !x.isR
def cls : Dr → Str
  | .e _ _ _ => "End"
  | .r _ _ _ _ _ _ => "Round"
def fsD : Dr → List (Str × D)
  | .e w p t => [("words", .str w), ("whole", .tup (p.map d)), ("title", .str t)]
  | .r w p m s st f => [("words", .str w), ("whole", .tup (p.map d)), ("manner", .str m), ("seats", .tup (s.map d)), ("steps", .tupN (st.map d)), ("further", .tup (f.map d))]
theorem eqD : ∀ a : Dr, d a = .ins (cls a) (fsD a)
  | .e w p t => by show Dr.dd _ = _; rw [Dr.dd]; rfl
  | .r w p m s st f => by show Dr.dd _ = _; rw [Dr.dd, Dr.dds_map]; rfl
def words : Dr → Str
  | .e w _ _ => w
  | .r w _ _ _ _ _ => w
def whole : Dr → VT Path
  | .e _ p _ => ⟨p⟩
  | .r _ p _ _ _ _ => ⟨p⟩
def words? (x : Dr) : Option Str := some x.words
def whole? (x : Dr) : Option (VT Path) := some x.whole
def title? : Dr → Option Str
  | .e _ _ t => some t
  | _ => none
def manner? : Dr → Option Str
  | .r _ _ m _ _ _ => some m
  | _ => none
def seats? : Dr → Option (VT Seat)
  | .r _ _ _ s _ _ => some ⟨s⟩
  | _ => none
def steps? : Dr → Option (VN Row)
  | .r _ _ _ _ s _ => some ⟨s⟩
  | _ => none
def further? : Dr → Option (VT Dr)
  | .r _ _ _ _ _ f => some ⟨f⟩
  | _ => none
end Dr
instance : InsV Dr := ⟨Dr.cls, Dr.fsD, Dr.eqD⟩
instance : NotNon Dr := ⟨fun a z => by rw [Dr.eqD] at z; cases z⟩
theorem dr_cls : ∀ a : Dr, InsV.cls a ∈ (["End", "Round"] : List Str)
  | .e _ _ _ => List.mem_cons_self
  | .r _ _ _ _ _ _ => List.mem_cons_of_mem _ List.mem_cons_self
theorem dr_clsR : ∀ a : Dr, a.isR = true → InsV.cls a ∈ (["Round"] : List Str)
  | .r _ _ _ _ _ _, _ => List.mem_cons_self
theorem dr_known {cs : List Str} (h1 : ("End" : Str) ∈ cs := by decide) (h2 : ("Round" : Str) ∈ cs := by decide) : ∀ a : Dr, KnownD cs (d a)
  | .e _ _ _ => by rw [Dr.eqD]; exact h1
  | .r _ _ _ _ _ _ => by rw [Dr.eqD]; exact h2
theorem dr_insR : ∀ a : Dr, a.isR = true → d a = .ins "Round" (Dr.fsD a)
  | .r _ _ _ _ _ _, _ => Dr.eqD _
theorem dr_insE : ∀ a : Dr, a.isE = true → d a = .ins "End" (Dr.fsD a)
  | .e _ _ _, _ => Dr.eqD _
section
variable {K : PySem.W.Frag}
theorem dr_kit {u : Value} {f : Dr → Bool} {b1 b2 : Bool} (h1 : PySem.W.kitOne K (.ref (He.ga K "End")) u = some b1) (h2 : PySem.W.kitOne K (.ref (He.ga K "Round")) u = some b2) (e : ∀ a, f a = if a.isR = true then b2 else b1) : ∀ a : Dr, PySem.W.kitOne K (tyD K (d a)) u = some (f a)
  | .e _ _ _ => by rw [Dr.eqD, e]; exact h1
  | .r _ _ _ _ _ _ => by rw [Dr.eqD, e]; exact h2
abbrev Fd (K : PySem.W.Frag) (c f : Str) : Prop := Cls K (He.ga K c) ∧ NoAttr K (He.ga K c) f
theorem fV_words (h1 : Fd K "End" "words") (h2 : Fd K "Round" "words") : ∀ (a : Dr) b, a.words? = some b → (Cls K (He.ga K (InsV.cls a)) ∧ NoAttr K (He.ga K (InsV.cls a)) "words") ∧ (InsV.fs a).lookup ("words" : Str) = some (d b)
  | .e _ _ _, _, e => by cases e; exact ⟨h1, rfl⟩
  | .r _ _ _ _ _ _, _, e => by cases e; exact ⟨h2, rfl⟩
theorem fV_whole (h1 : Fd K "End" "whole") (h2 : Fd K "Round" "whole") : ∀ (a : Dr) b, a.whole? = some b → (Cls K (He.ga K (InsV.cls a)) ∧ NoAttr K (He.ga K (InsV.cls a)) "whole") ∧ (InsV.fs a).lookup ("whole" : Str) = some (d b)
  | .e _ _ _, _, e => by cases e; exact ⟨h1, rfl⟩
  | .r _ _ _ _ _ _, _, e => by cases e; exact ⟨h2, rfl⟩
theorem fV_title (h1 : Fd K "End" "title") : ∀ (a : Dr) b, a.title? = some b → (Cls K (He.ga K (InsV.cls a)) ∧ NoAttr K (He.ga K (InsV.cls a)) "title") ∧ (InsV.fs a).lookup ("title" : Str) = some (d b)
  | .e _ _ _, _, e => by cases e; exact ⟨h1, rfl⟩
theorem fV_manner (h1 : Fd K "Round" "manner") : ∀ (a : Dr) b, a.manner? = some b → (Cls K (He.ga K (InsV.cls a)) ∧ NoAttr K (He.ga K (InsV.cls a)) "manner") ∧ (InsV.fs a).lookup ("manner" : Str) = some (d b)
  | .r _ _ _ _ _ _, _, e => by cases e; exact ⟨h1, rfl⟩
theorem fV_seats (h1 : Fd K "Round" "seats") : ∀ (a : Dr) b, a.seats? = some b → (Cls K (He.ga K (InsV.cls a)) ∧ NoAttr K (He.ga K (InsV.cls a)) "seats") ∧ (InsV.fs a).lookup ("seats" : Str) = some (d b)
  | .r _ _ _ _ _ _, _, e => by cases e; exact ⟨h1, rfl⟩
theorem fV_steps (h1 : Fd K "Round" "steps") : ∀ (a : Dr) b, a.steps? = some b → (Cls K (He.ga K (InsV.cls a)) ∧ NoAttr K (He.ga K (InsV.cls a)) "steps") ∧ (InsV.fs a).lookup ("steps" : Str) = some (d b)
  | .r _ _ _ _ _ _, _, e => by cases e; exact ⟨h1, rfl⟩
theorem fV_further (h1 : Fd K "Round" "further") : ∀ (a : Dr) b, a.further? = some b → (Cls K (He.ga K (InsV.cls a)) ∧ NoAttr K (He.ga K (InsV.cls a)) "further") ∧ (InsV.fs a).lookup ("further" : Str) = some (d b)
  | .r _ _ _ _ _ _, _, e => by cases e; exact ⟨h1, rfl⟩
theorem pV_title : ∀ (a : Dr) b, a.title? = some b → InsV.cls a = "End" ∧ (InsV.fs a).lookup ("title" : Str) = some (d b)
  | .e _ _ _, _, e => by cases e; exact ⟨rfl, rfl⟩
theorem pV_manner : ∀ (a : Dr) b, a.manner? = some b → InsV.cls a = "Round" ∧ (InsV.fs a).lookup ("manner" : Str) = some (d b)
  | .r _ _ _ _ _ _, _, e => by cases e; exact ⟨rfl, rfl⟩
theorem pV_seats : ∀ (a : Dr) b, a.seats? = some b → InsV.cls a = "Round" ∧ (InsV.fs a).lookup ("seats" : Str) = some (d b)
  | .r _ _ _ _ _ _, _, e => by cases e; exact ⟨rfl, rfl⟩
theorem pV_further : ∀ (a : Dr) b, a.further? = some b → InsV.cls a = "Round" ∧ (InsV.fs a).lookup ("further" : Str) = some (d b)
  | .r _ _ _ _ _ _, _, e => by cases e; exact ⟨rfl, rfl⟩
theorem dr_nom (n : Str) (h : n ∉ (["words", "whole", "title", "manner", "seats", "steps", "further"] : List Str) := by decide) : ∀ a : Dr, (InsV.fs a).lookup n = none
  | .e _ _ _ => by
    simp only [List.mem_cons, List.not_mem_nil, or_false, not_or] at h
    obtain ⟨h1, h2, h3, h4, h5, h6, h7⟩ := h
    show List.lookup n [_, _, _] = none
    rw [List.lookup_cons, beq_false_of_ne h1, List.lookup_cons, beq_false_of_ne h2, List.lookup_cons, beq_false_of_ne h3, List.lookup_nil]
  | .r _ _ _ _ _ _ => by
    simp only [List.mem_cons, List.not_mem_nil, or_false, not_or] at h
    obtain ⟨h1, h2, h3, h4, h5, h6, h7⟩ := h
    show List.lookup n [_, _, _, _, _, _] = none
    rw [List.lookup_cons, beq_false_of_ne h1, List.lookup_cons, beq_false_of_ne h2, List.lookup_cons, beq_false_of_ne h4, List.lookup_cons, beq_false_of_ne h5, List.lookup_cons, beq_false_of_ne h6, List.lookup_cons, beq_false_of_ne h7, List.lookup_nil]
end
/-! ### the law's own draws: a name, or a kind, givers and draws -/
abbrev LG := T3 Str (VT (Int × Int)) Int
inductive LD where
  | s (n : Str)
  | t (kind : Str) (givers : List LG) (draws : List LD)
mutual
def LD.dd : LD → D
  | .s n => .str n
  | .t k g l => .tup [.str k, .tup (g.map d), .tup (LD.dds l)]
def LD.dds : List LD → List D
  | [] => []
  | a :: r => LD.dd a :: LD.dds r
end
instance : ToD LD := ⟨LD.dd⟩
theorem LD.dds_map : ∀ l : List LD, LD.dds l = l.map d
  | [] => by rw [LD.dds]; rfl
  | a :: r => by rw [LD.dds, LD.dds_map r]; rfl
namespace LD
theorem ds_ (n : Str) : d (LD.s n) = .str n := by show LD.dd _ = _; rw [LD.dd]
theorem dt (k : Str) (g : List LG) (l : List LD) : d (LD.t k g l) = .tup [.str k, .tup (g.map d), .tup (l.map d)] := by show LD.dd _ = _; rw [LD.dd, LD.dds_map]
def isS : LD → Bool
  | .s _ => true
  | .t _ _ _ => false
def s? : LD → Option Str
  | .s n => some n
  | _ => none
def kind? : LD → Option Str
  | .t k _ _ => some k
  | _ => none
def givers? : LD → Option (VT LG)
  | .t _ g _ => some ⟨g⟩
  | _ => none
def draws? : LD → Option (VT LD)
  | .t _ _ l => some ⟨l⟩
  | _ => none
end LD
instance : NotNon LD := ⟨fun a z => by cases a with
  | s n => rw [LD.ds_] at z; cases z
  | t k g l => rw [LD.dt] at z; cases z⟩
instance : Co Str LD := ⟨.s, LD.ds_⟩
instance : Co (T3 Str (VT LG) (VT LD)) LD := ⟨fun x => .t x.a x.b.l x.c.l, fun x => LD.dt _ _ _⟩
theorem ld_s : ∀ (a : LD) b, a.s? = some b → d b = d a
  | .s n, _, e => by cases e; rw [LD.ds_]; rfl
theorem ld_known {cs : List Str} (a : LD) : KnownD cs (d a) := by
  cases a with
  | s n => rw [LD.ds_]; trivial
  | t k g l => rw [LD.dt]; trivial
theorem ld_str {K : PySem.W.Frag} (a : LD) : PySem.W.kitOne K (tyD K (d a)) (.type "str") = some a.isS := by
  cases a with
  | s n => rw [LD.ds_]; exact kit_tt
  | t k g l => rw [LD.dt]; rfl
theorem ld_kind : ∀ (a : LD) b, a.kind? = some b → ∃ xs, d a = .tup xs ∧ xs[0]? = some (d b)
  | .t _ _ _, _, e => by cases e; exact ⟨_, LD.dt _ _ _, rfl⟩
theorem ld_givers : ∀ (a : LD) b, a.givers? = some b → ∃ xs, d a = .tup xs ∧ xs[1]? = some (d b)
  | .t _ _ _, _, e => by cases e; exact ⟨_, LD.dt _ _ _, rfl⟩
theorem ld_draws : ∀ (a : LD) b, a.draws? = some b → ∃ xs, d a = .tup xs ∧ xs[2]? = some (d b)
  | .t _ _ _, _, e => by cases e; exact ⟨_, LD.dt _ _ _, rfl⟩
/-! ### the base class's __init__ -/
def supF (a b : D) : List (Str × D) := [("words", a), ("whole", b)]
end N

set_option Elab.async false
set_option linter.all false
set_option maxRecDepth 100000
set_option maxHeartbeats 4000000
/-! N40: the written part told apart for more rules; zip of tuples; a list copied to grow; methods. -/
namespace N
open PySem PySem.Spec PyProof.Rows L2 J
open ToD (d)
open ToDs (ds)
open M
section
variable {X : Cx} {K : PySem.W.Frag} {o e : Expr} {to te : TE}
theorem op_in_seqK (hK : X.K = K) : OpR X (compareOp .In) (rIn K false) := hK ▸ op_in_seq
theorem op_notIn_seqK (hK : X.K = K) : OpR X (compareOp .NotIn) (rIn K true) := hK ▸ op_notIn_seq
theorem op_inDTK (hK : X.K = K) (hu : X.A.units + 65 < cLine) : OpR X (compareOp .In) (rInDT K) := hK ▸ op_inDT hu
theorem pe_joinK (hK : X.K = K) {apos pos : Pos} (ho : PE X o to) (he : PE X e te) (hs : starEach [e] X.env = [(false, eval e X.env)] := by rfl) (hbase : attributeBase o "join" X.env (eval o X.env) = eval o X.env := by rfl) (hline : (apos.endLine == pos.line) = true := by rfl) :
    PE X (.Call (.Attribute o "join" apos) [e] [] pos) (tM1 (fun x xs H Q => ∃ a p, ∃ ys : List Str, x = .str a ∧ xs = [.ref p] ∧ (SqL K H p (ys.map V.str) ∨ SqT K H p (ys.map V.str)) ∧
      (ys.map (·.length)).sum + ys.length * a.length ≤ 16777216 ∧ Q (.str (Txt.join a ys)) H) to te) := hK ▸ pe_join ho he hs hbase hline
theorem pi_zipAK (hK : X.K = K) {e e2 : Expr} {ta : TA} {p pos tpos : Pos} {elts : List Expr} {kk : Nat} (hg : Gl X "zip") (hm : X.mg "zip" = none) (ha : PA X [e, e2] ta)
    (hs : starEach [e, e2] X.env = (false, eval e X.env) :: starEach [e2] X.env := by rfl) (hpl : (backTo pos (starEach [e2] X.env)).any (·.1) = false := by rfl) :
    PI X (.Tuple elts kk tpos) (.Call (.Name "zip" p) [e, e2] [] pos) (RZ.iZipA K ta) := hK ▸ RZ.pi_zipA hg hm ha hs hpl
theorem pa_star' (hK : X.K = K) {e : Expr} {es : List Expr} {te : TE} {t : TA} {p : Pos} (h : PE X e te) (ht : PA X es t) (hs : starEach (.Starred e p :: es) X.env = (true, eval e X.env) :: starEach es X.env := by rfl) : PA X (.Starred e p :: es) (StX.tStar K te t) := hK ▸ StX.pa_star h ht hs
theorem call_tupNK (hK : X.K = K) : CallR X (.type "tuple") (rTupN K) := hK ▸ call_tupN
theorem mt_indexDTK (hK : X.K = K) (hu : X.A.units + 65 < cLine) : MtR X "tuple.index" (rIndexDT K) := hK ▸ mt_indexDT hu
end
section
variable {ω : Type} {α β γ S : Type} [ToD α] [ToD β] [ToD γ] {K : PySem.W.Frag} {W : WX} {P : Post ω} {te ta tb tc : TE} {Γ : List Sl} {ts rest : TS}
theorem ei_zipT {m1 : M (VT α)} {m2 : M (VT β)} (h1 : EvR K W ta Γ m1) (h2 : EvR K W tb Γ m2) : EvI K W (RZ.iZipA K (tCons ta (tCons tb tNil))) Γ (do let xs ← m1; let ys ← m2; pure (xs.l.zip ys.l)) := fun δ x σ F g k G H b R E s B hf kk => by
  refine go (te := ta) g h1 E s B (f := fun xs => m2 >>= fun ys => k (xs.l.zip ys.l)) (by simpa only [bind_assoc, pure_bind] using hf) fun xs b1 v G1 H1 hf1 e1 E1 s1 B1 r1 => ?_
  refine go (te := tb) g h2 E1 s1 B1 (f := fun ys => k (xs.l.zip ys.l)) hf1 fun ys b2 w G2 H2 hf2 e2 E2 s2 B2 r2 => ?_
  obtain ⟨p, vs, rfl, hp, rs⟩ := rep_tup (ds := xs.l.map d) r1
  obtain ⟨q, ws, rfl, hq, rt⟩ := rep_tup (ds := ys.l.map d) r2
  have hp2 := sqT_H e2.g hp
  have rs2 := rs.ext e2.g
  refine ⟨p, q, vs, ws, rfl, .inr ⟨sqT_H s2 hp2, sqT_H s2 hq, kk _ b2 _ G2 H2 hf2 (e1.trans e2) E2 s2 B2 fun i G3 H3 r => ⟨fun a ha => ?_, fun hl => ?_⟩⟩⟩
  · obtain ⟨h3, h4⟩ := zip_at ha
    obtain ⟨u, hu, ru⟩ := rs2.get (i := i) (d := d a.1) (by rw [List.getElem?_map, h3]; rfl)
    obtain ⟨z, hz, rz⟩ := rt.get (i := i) (d := d a.2) (by rw [List.getElem?_map, h4]; rfl)
    have sp : SqT K H3 p vs := sqT_H r.2 (sqT_H r.1 hp2)
    have sq : SqT K H3 q ws := sqT_H r.2 (sqT_H r.1 hq)
    refine ⟨⟨vs, ws, u, z, sp, sq, hu, hz⟩, fun y H4 ⟨T, u', z', e, hT, e4, hu', hz'⟩ => ?_⟩
    have a1 := hu' vs sp
    have a2 := hz' ws sq
    rw [hu] at a1
    rw [hz] at a2
    cases a1; cases a2
    subst e e4
    exact ⟨_, Ex.new r.2 hT, .tup (.inl (.inl upd_same)) (.cons ((ru.ext r.1).ext (upS (r.2.free hT))) (.cons ((rz.ext r.1).ext (upS (r.2.free hT))) .nil))⟩
  · have sp : SqT K H3 p vs := sqT_H r.2 (sqT_H r.1 hp2)
    have sq : SqT K H3 q ws := sqT_H r.2 (sqT_H r.1 hq)
    refine ⟨vs, ws, sp, sq, ?_⟩
    rw [rs2.length, rt.length, List.length_map, List.length_map]
    rw [List.length_zip] at hl
    omega
/-- x = list(e), to grow or to shrink -/
theorem rd_newL {i : Nat} {m : M (List α)} {k : List α → M ω} (h : EvR K W te Γ m) (hr : ∀ xs : List α, Rd K W P rest (Γ.set i (.own (xs.map d))) (k xs)) :
    Rd K W P (tSeq (tAsg (tCB (fun xs H Q => ∃ p ys, xs = [.ref p] ∧ (SqL K H p ys ∨ SqT K H p ys) ∧ ∀ l, H l = none → Q (.ref l) (upd H l (.lst ys))) (tCons te tNil)) (gName i)) rest) Γ (m >>= k) := fun x σ G0 H0 Gs G H b L E F s B e hf =>
  go (te := te) good_S h E s B (f := k) ⟨e, hf⟩ fun a b' v G' H' h2 e2 E2 s2 B2 r => by
    obtain ⟨p, vs, rfl, hp, rs⟩ := rep_lst r
    refine ⟨p, vs, rfl, .inl (SqL.of (s2 _ _ hp)), fun l hl => ?_⟩
    have ex : Ex x G' H' G' (upd H' l (.lst vs)) := Ex.raw s2 hl
    exact hr a x _ G0 H0 Gs G' _ b' L (E2.setNew (fun q hq => ⟨_, (B2 q hq).2⟩) hl ⟨l, vs, rfl, s2.free hl, upd_same, rs⟩ ex) (F.setNew E2.len.symm (h2.1.fresh B2 hl)) ex.gh (B2.raw hl) (h2.1.step ex) h2.2
theorem ev_methV' {n : Str} {cs : List Str} [InsV α] (hc : ∀ a : α, InsV.cls a ∈ cs) {ι : Type} [ToDs ι] {t : TA} {mk : ∀ {θ : Type}, (ι → M θ) → M θ} {f : α × ι → Res γ} {m : M α} {m2 : M γ} (hn : ∀ a : α, (InsV.fs a).lookup n = none) (h : EvR K W te Γ m) (h2 : EvC K W t Γ mk) (e : m2 = (do let a ← m; mk fun i => lft (f (a, i))) := by rfl) :
    EvR K W (tMethV K cs n (spG K f) (WE W) te t) Γ m2 := by rw [e]; exact ev_methV hc h h2 hn
/-- displays with stars -/
theorem ev_coC' [Co α β] {m : M α} (h : EvR K W te Γ m) : EvR K W te Γ (do let a ← m; pure (Co.co a : β)) := ev_coC h
/-- set of a tuple's items: f(x) for a list or a tuple -/
theorem cm_lenT {τ : Type} [ToD τ] {n : Nat} (h : ∀ a : τ, ∃ xs, d a = .tup xs ∧ xs.length = n) : CallM K (fun xs H Q => ∃ p ys, xs = [.ref p] ∧ (SqL K H p ys ∨ SqT K H p ys) ∧ Q (.int ys.length) H) (fun (i : τ × Unit) => (pure (n : Int) : M Int)) := fun W x σ G H b Q i vs s B rs hf => by
  obtain ⟨a, u⟩ := i
  obtain ⟨v, rfl, r⟩ := reps1 rs
  obtain ⟨xs, e1, e2⟩ := h a
  rw [e1] at r
  obtain ⟨p, ws, rfl, hp, rs⟩ := rep_tup r
  exact ⟨p, ws, rfl, .inr (sqT_H s hp), hf.here s B (by rw [rs.length, e2]; exact .int _)⟩
theorem cm_lenQ : CallM K (fun xs H Q => ∃ p ys, xs = [.ref p] ∧ (SqL K H p ys ∨ SqT K H p ys) ∧ Q (.int ys.length) H) (fun (i : Sq α × Unit) => (pure (i.1.xs.length : Int) : M Int)) := fun W x σ G H b Q i vs s B rs hf => by
  obtain ⟨a, u⟩ := i
  obtain ⟨v, rfl, r⟩ := reps1 rs
  cases a with
  | l xs =>
    obtain ⟨p, ws, rfl, hp, rs⟩ := rep_lst (xs := xs) r
    exact ⟨p, ws, rfl, .inl (SqL.of (s _ _ hp)), hf.here s B (by rw [rs.length, List.length_map]; exact .int _)⟩
  | t xs =>
    obtain ⟨p, ws, rfl, hp, rs⟩ := rep_tup (ds := xs.map d) r
    exact ⟨p, ws, rfl, .inr (sqT_H s hp), hf.here s B (by rw [rs.length, List.length_map]; exact .int _)⟩
/-- a comprehension's list under another type of its items; the value of a state -/
theorem ev_eqm {m m' : M α} (e : m' = m) (h : EvR K W te Γ m) : EvR K W te Γ m' := by rw [e]; exact h
end
end N

set_option Elab.async false
set_option linter.all false
set_option maxRecDepth 100000
set_option maxHeartbeats 4000000
/-! N41: what the draws' defs want besides. -/
namespace N
open PySem PySem.Spec PyProof.Rows L2 J
open ToD (d)
open ToDs (ds)
open M
theorem call_isiTK {X : Cx} {K : PySem.W.Frag} (hK : X.K = K) : CallR X (.builtin "isinstance") (rIsiT K) := hK ▸ call_isiT
def isBelow (below : List Str) : D → Bool
  | .ins c _ => decide (c ∈ below)
  | _ => false
def isSeqB (x : D) : Bool := isLstB x || isTupB x
/-- an integer or a Ratio, looked into -/
def Nm.isRt : Nm → Bool
  | .i _ => false
  | .r _ => true
def Nm.r? : Nm → Option Rt
  | .i _ => none
  | .r q => some q
def Nm.i? : Nm → Option Int
  | .i n => some n
  | .r _ => none
theorem nm_r : ∀ (a : Nm) b, a.r? = some b → d b = d a
  | .r q, _, e => by cases e; rfl
theorem nm_i : ∀ (a : Nm) b, a.i? = some b → d b = d a
  | .i n, _, e => by cases e; rfl
theorem nm_known {cs : List Str} (h : ("Ratio" : Str) ∈ cs := by decide) : ∀ a : Nm, KnownD cs (d a)
  | .i _ => trivial
  | .r _ => h
theorem nm_kit {K : PySem.W.Frag} (h : PySem.W.kitOne K (.type "int") (.ref (He.ga K "Ratio")) = some false) : ∀ a : Nm, PySem.W.kitOne K (tyD K (d a)) (.ref (He.ga K "Ratio")) = some a.isRt
  | .i _ => h
  | .r _ => kit_self
section
variable {ω : Type} {α β γ S : Type} [ToD α] [ToD β] [ToD γ] {K : PySem.W.Frag} {W : WX} {P : Post ω} {te ta tb tc : TE} {Γ : List Sl} {ts rest : TS}
theorem isi_clsB {cs below : List Str} {c0 : Str} (h1 : ∀ T ∈ (["int", "bool", "NoneType", "str", "list", "tuple", "dict"] : List String), PySem.W.kitOne K (.type T) (.ref (He.ga K c0)) = some false)
    (h2 : ∀ c ∈ cs, PySem.W.kitOne K (.ref (He.ga K c)) (.ref (He.ga K c0)) = some (decide (c ∈ below))) : ∀ a, KnownD cs a → PySem.W.kitOne K (tyD K a) (.ref (He.ga K c0)) = some (isBelow below a) := by
  intro a h
  cases a with
  | ins c fs => exact h2 c h
  | _ => exact h1 _ (by simp [tyD])
theorem ev_isi2D {cs : List Str} {c1 c2 : V} {u1 u2 : Value} {bf : D → Bool} {m : M D} (hcs : ∀ c ∈ cs, InsC K c) (h1 : ClsV c1 u1) (h2 : ClsV c2 u2) (hb : ∀ a, KnownD cs a → PySem.W.kitAny K (tyD K a) [u1, u2] = some (bf a)) (h : EvR K W te Γ m) :
    EvR K W (tCB (rIsiT K) (tCons te (tCons (tTup (tCons (tC c1) (tCons (tC c2) tNil))) tNil))) Γ (do let a ← m; need (KnownD cs a); pure (bf a)) := fun x σ G H b Q E s B h' =>
  step_E (te := te) h E s B h' fun a b' v G' H' h3 e E2 s2 B2 r => by
    obtain ⟨hk, h3⟩ := need_fin h3
    refine ⟨small_sl (by show 2 ≤ 1000; decide), fun p hp => ?_⟩
    have ex : Ex x G' H' G' (upd H' p (.tup [c1, c2])) := Ex.raw s2 hp
    refine ⟨v, p, [c1, c2], _, [u1, u2], bf a, rfl, upd_same, .cons h1 (.cons h2 .nil), rep_ty hcs ex.gh r hk, hb a hk, ?_⟩
    exact h3 (.bl (bf a)) G' _ ex (B2.raw hp) (.bl _)
theorem isi_seq {cs : List Str} (h1 : NoTy K cs "list") (h2 : NoTy K cs "tuple") : ∀ a, KnownD cs a → PySem.W.kitAny K (tyD K a) [.type "list", .type "tuple"] = some (isSeqB a) := fun a h => isi_2 (isi_listC h1 a h) (isi_tupC h2 a h)
theorem rd_super' {cs : List Str} {f : D → D → List (Str × D)} {c : Str} {p dx : Addr} {t : TA} {mk : ∀ {θ : Type}, (α × β × Unit → M θ) → M θ} {m : M ω} {k : α → β → M ω} (hc : c ∈ cs) (h : EvC (ι := α × β × Unit) K W t Γ mk)
    (hr : ∀ a b, Rd K W P rest (Γ.set 0 (.slf p dx c (f (d a) (d b)))) (k a b)) (e : m = mk fun i => k i.1 i.2.1 := by rfl) (hΓ : Γ[0]? = some (.slf p dx c []) := by rfl) :
    Rd K W P (tSeq (tDrop (tCall (spSup K cs f) [] E0 (tCons (tVar 0) t))) rest) Γ m := by rw [e]; exact rd_super (k := fun i => k i.1 i.2.1) hc h (fun a b => hr a b) hΓ
instance : InsV Rt := ⟨fun _ => "Ratio", fun q => [("above", .int q.n), ("under", .int q.u)], fun _ => rfl⟩
/-- Ratio != Ratio -/
theorem om_ratioNe {f : Rt × Nm × Unit → Res Bool} : OpM K (rOwnNeV K ["Ratio"] (spG K f) E0) (fun (a b : Rt) => (do let z ← strict (lft (f (a, Nm.r b, ()))); pure (!z) : M Bool)) := fun W x σ G H b Q a c v w s B ra rc h => by
  have r0 := ra
  have r1 : Rep K G w (d (Nm.r c)) := rc
  obtain ⟨p, dx, vs, rfl, hp, rf⟩ := rep_ins (c := "Ratio") (fs := InsOf.fs a) ra
  obtain ⟨q, dy, ws, rfl, hq, rg⟩ := rep_ins (c := "Ratio") (fs := InsOf.fs c) rc
  refine ⟨"Ratio", "Ratio", p, dx, vs, q, dy, ws, List.mem_singleton.mpr rfl, List.mem_singleton.mpr rfl, rfl, s _ _ hp, rfl, s _ _ hq, spG_of (i := (a, Nm.r c, ())) s B (.cons r0 (.cons r1 .nil)) (strict_E (bindE (Q1 := fun v H' => ∃ c, v = .bl c ∧ Q (.bl (!c)) H') h fun z b' v G' H' hf e B' rz => ⟨z, rep_bl rz, hf.here e.gh B' (.bl _)⟩))⟩
end
end N

set_option Elab.async false
set_option linter.all false
set_option maxRecDepth 100000
set_option maxHeartbeats 4000000
/-! N42: one class alone. -/
namespace N
open PySem PySem.Spec PyProof.Rows L2 J
theorem apOne {K : PySem.W.Frag} {c : Str} : ApartV K [c] := fun a ha b hb => .inl ((List.mem_singleton.mp ha).trans (List.mem_singleton.mp hb).symm)
theorem oneM {P : Program} {w : World} {K : PySem.W.Frag} {mg : Str → Option Value} {base : Heap} {c m : Str} {ps : List Str} {k : Nat} {sp : Sp} (h : MCal P w K mg base (He.ga K c) m ps k sp) : ∀ c' ∈ ([c] : List Str), MCal P w K mg base (He.ga K c') m ps k sp := fun c' hc => by
  rcases List.mem_singleton.mp hc with rfl
  exact h
theorem oneN {K : PySem.W.Frag} {c : Str} (h : NeC K (He.ga K c)) : ∀ c' ∈ ([c] : List Str), NeC K (He.ga K c') := fun c' hc => by
  rcases List.mem_singleton.mp hc with rfl
  exact h
section
open ToD (d)
open M
variable {ω : Type} {α β γ S : Type} [ToD α] [ToD β] [ToD γ] {K : PySem.W.Frag} {W : WX} {P : Post ω} {te ta tb : TE} {Γ : List Sl} {ts rest : TS}
/-- a, b = [], e by a tuple that is taken apart -/
theorem rd_parNewT {i j : Nat} {m : M β} {k : β → M ω} (h : EvR K W te Γ m) (hr : ∀ a, Rd K W P rest ((Γ.set i (.own (([] : List α).map d))).set j (.val (d a))) (k a)) : Rd K W P (tSeq (tAsg (tTup (tCons (tLst tNil) (tCons te tNil))) (gTup K 2 (gCons (gName i) (gCons (gName j) gNil)))) rest) Γ (m >>= k) := fun x σ G0 H0 Gs G H b L E F s B e hf => by
  refine ⟨Nat.zero_le _, fun p hp => ?_⟩
  have ex : Ex x G H G (upd H p (.lst [])) := Ex.raw s hp
  have xp : x ≠ some p := fun z => by have := (B p z).2; rw [hp] at this; cases this
  have off := E.off hp
  have h0 := e.fresh B hp
  refine go (te := te) good_S h (E.ext ex) ex.gh (B.raw hp) (f := k) ⟨e.step ex, hf⟩ fun a b' v G' H' h2 e2 E2 s2 B2 r => ?_
  refine ⟨small_sl (by show 2 ≤ 1000; decide), fun q hq => ?_⟩
  have ex3 : Ex x G' H' G' (upd H' q (.tup [.ref p, v])) := Ex.raw s2 hq
  have E3 := E2.ext ex3
  have kp := ex3.keep p _ xp (e2.keep p _ xp upd_same)
  refine ⟨q, _, rfl, .inl (.inl upd_same), rfl, _, _, rfl, _, _, rfl, rfl, ?_⟩
  exact hr a x _ G0 H0 Gs G' _ b' L ((E3.setOwn (s := .own (([] : List α).map d)) ⟨p, [], rfl, e2.uns p _ xp upd_same (s.free hp), kp, .nil⟩ off xp).setVal r) ((F.setNew E.len.symm h0).set rfl) ex3.gh (B2.raw hq) (h2.1.step ex3) h2.2
end
section
variable {X : Cx} {K : PySem.W.Frag} {W : WX} {cs : List Str} {k : Nat} {m : Str} {ps : List Str} {sp : Sp} {o e : Expr} {es : List Expr} {ta : TE} {t : TA} {pos apos : Pos}
theorem pe_mcalVK (hK : X.K = K) {pl : Sem Bool} (tk : Takes X W) (c : ∀ c ∈ cs, MCal X.prog X.w X.K X.mg X.base (He.ga X.K c) m ps k sp) (cl : ∀ c ∈ cs, Cls X.K (He.ga X.K c)) (hr : Room k X.A) (he : PE X o ta) (ha : PA X (e :: es) t)
    (hst : starEach (e :: es) X.env = (false, eval e X.env) :: starEach es X.env := by rfl) (hpl : (backTo pos (starEach es X.env)).any (·.1) = false := by rfl)
    (ht : eval (.Call (.Attribute o m apos) (e :: es) [] pos) X.env = (do
      let ov ← eval o X.env
      standAt apos.atName
      let (f, first) ← holding [ov] (getMethod ov m pl)
      callWith pos f first (backTo pos (starEach (e :: es) X.env)) (backToKw pos (keywordEach [] X.env))) := by rfl) : PE X (.Call (.Attribute o m apos) (e :: es) [] pos) (tMethV K cs m sp (WE W) ta t) := hK ▸ pe_mcalV tk c cl hr he ha hst hpl ht
theorem pe_mcalV0K (hK : X.K = K) {pl : Sem Bool} (tk : Takes X W) (c : ∀ c ∈ cs, MCal X.prog X.w X.K X.mg X.base (He.ga X.K c) m ps k sp) (cl : ∀ c ∈ cs, Cls X.K (He.ga X.K c)) (hr : Room k X.A) (he : PE X o ta)
    (ht : eval (.Call (.Attribute o m apos) [] [] pos) X.env = (do
      let ov ← eval o X.env
      standAt apos.atName
      let (f, first) ← holding [ov] (getMethod ov m pl)
      callWith pos f first (backTo pos (starEach [] X.env)) (backToKw pos (keywordEach [] X.env))) := by rfl) : PE X (.Call (.Attribute o m apos) [] [] pos) (tMethV K cs m sp (WE W) ta tNil) := hK ▸ pe_mcalV0 tk c cl hr he ht
end
end N

set_option Elab.async false
set_option linter.all false
set_option maxRecDepth 100000
set_option maxHeartbeats 4000000
/-! N43: for the head: methods that a class has of its base, ints and tuples of texts among the globals. -/
namespace N
open PySem PySem.Spec PyProof.Rows L2 J
open ToD (d)
theorem inhJ_ok {K : PySem.W.Frag} {x b m : Str} (c : inhJ x b m K = true) : Meth K (He.ga K x) m (He.ma K (He.ga K b) m) := by
  obtain ⟨h0, c⟩ := He.ba c
  obtain ⟨h1, h2⟩ := He.ba c
  exact ⟨He.eqO_ok h0, h1, h2⟩
theorem nejB_ok {K : PySem.W.Frag} {x : Str} (c : nejB x K = true) : NeC K (He.ga K x) := by
  obtain ⟨h0, h1⟩ := He.ba c
  exact ⟨of_decide_eq_true h0, He.eqO_ok h1⟩
theorem intB_ok {K : PySem.W.Frag} {h : Heap} {mg : Str → Option Value} (X : K.In h) (G : h.Ns mainGlobals mg) {x : Str} {z : Int} (c : intB x z K = true) : ∃ u, mg x = some u ∧ RelV (.int z) u := by
  unfold intB at c
  split at c
  · rename_i y t e
    have hy := of_decide_eq_true c
    subst hy
    exact ⟨_, PySem.W.mg_of X G e, ⟨t, rfl⟩⟩
  · cases c
theorem txsB_ok : ∀ {us : List Value} {zs : List Str}, txsB us zs = true → Vals (zs.map V.str) us
  | [], [], _ => .nil
  | .str y t :: r, z :: q, h => by
    obtain ⟨h1, h2⟩ := He.ba (show (decide (y = z) && txsB r q) = true from h)
    have e := of_decide_eq_true h1
    subst e
    exact .cons ⟨t, rfl⟩ (txsB_ok h2)
theorem tupB_ok {K : PySem.W.Frag} {h : Heap} {mg : Str → Option Value} (X : K.In h) (G : h.Ns mainGlobals mg) {x : Str} {zs : List Str} (c : tupB x zs K = true) : ∃ p, mg x = some (.ref p) ∧ ∀ G, Rep K G (.ref p) (d (VT.mk zs : VT Str)) := by
  unfold tupB at c
  split at c
  · rename_i p e
    refine ⟨p, PySem.W.mg_of X G e, fun G' => ?_⟩
    split at c
    · rename_i o its n sl e2
      obtain ⟨h1, h2⟩ := He.ba c
      refine .tup (.inr ⟨_, its, n, e2, rfl, rfl, of_decide_eq_true h1, txsB_ok h2⟩) (reps_strs zs)
    · cases c
  · cases c
end N

set_option Elab.async false
set_option linter.all false
set_option maxRecDepth 100000
set_option maxHeartbeats 4000000
/-! N44: == of plain data by their types. -/
namespace N
open PySem PySem.Spec PyProof.Rows L2 J
open ToD (d)
open M
/-- values that == looks into -/
class PyV (α : Type) [ToD α] where
  p : α → PyData
  h : ∀ a, pyD (d a) = some (p a)
  e : ∀ a b, PyData.eqv (p a) (p b) = true ↔ a = b
  ok : α → Prop
  l : ∀ a, ok a → PyData.canLay0 (p a) = true
  dm : α → Nat
  dl : ∀ a, PyData.depth (p a) ≤ dm a
section
variable {α β γ : Type} [ToD α] [ToD β] [ToD γ]
instance : PyV Int := ⟨.int, fun _ => rfl, fun a b => by rw [PyData.eqv]; exact beq_iff_eq, fun _ => True, fun _ _ => rfl, fun _ => 0, fun _ => Nat.le_refl _⟩
instance : PyV Str := ⟨.str, fun _ => rfl, fun a b => by rw [PyData.eqv]; exact beq_iff_eq, fun s => ∀ c ∈ TL.tl s, c < 0x110000, fun s h => by
  rw [PyData.canLay0]
  show (s.cps.all fun c => decide (c < 0x110000)) = true
  rw [← Array.all_toList]
  exact List.all_eq_true.mpr fun c hc => decide_eq_true (h c hc), fun _ => 0, fun _ => Nat.le_refl _⟩
theorem pyDs_map [PyV α] : ∀ xs : List α, pyDs (xs.map d) = some (xs.map PyV.p)
  | [] => rfl
  | x :: r => by
    rw [List.map_cons, pyDs, PyV.h, pyDs_map r]
    rfl
theorem eqvAll_map [PyV α] : ∀ xs ys : List α, PyData.eqvAll (xs.map PyV.p) (ys.map PyV.p) = true ↔ xs = ys
  | [], [] => by simp [PyData.eqvAll]
  | [], _ :: _ => by simp [PyData.eqvAll]
  | _ :: _, [] => by simp [PyData.eqvAll]
  | x :: xs, y :: ys => by
    rw [List.map_cons, List.map_cons, PyData.eqvAll, Bool.and_eq_true, PyV.e, eqvAll_map xs ys, List.cons.injEq]
theorem canLay_map [PyV α] : ∀ xs : List α, (∀ x ∈ xs, PyV.ok x) → PyData.canLayAll0 (xs.map PyV.p) = true
  | [], _ => rfl
  | x :: r, h => by
    rw [List.map_cons, PyData.canLayAll0, PyV.l x (h x List.mem_cons_self), canLay_map r fun y hy => h y (List.mem_cons_of_mem _ hy)]
    rfl
def dmL {α : Type} [ToD α] [PyV α] : List α → Nat
  | [] => 0
  | x :: r => max (PyV.dm x) (dmL r)
theorem depth_map [PyV α] : ∀ xs : List α, PyData.depthAll (xs.map PyV.p) ≤ dmL xs
  | [] => Nat.le_refl _
  | x :: r => by
    rw [List.map_cons, PyData.depthAll, dmL]
    have := PyV.dl x
    have := depth_map r
    omega
theorem dmL_le [PyV α] {k : Nat} : ∀ {xs : List α}, (∀ x ∈ xs, PyV.dm x ≤ k) → dmL xs ≤ k
  | [], _ => Nat.zero_le _
  | x :: r, h => by
    rw [dmL]
    have := h x List.mem_cons_self
    have := dmL_le (xs := r) fun y hy => h y (List.mem_cons_of_mem _ hy)
    omega
instance [PyV α] : PyV (List α) := ⟨fun xs => .list (xs.map PyV.p), fun xs => by
  show pyD (.lst (xs.map d)) = _
  rw [pyD, pyDs_map]
  rfl, fun a b => by rw [PyData.eqv, eqvAll_map], fun xs => ∀ x ∈ xs, PyV.ok x, fun xs h => by rw [PyData.canLay0]; exact canLay_map xs h, fun xs => dmL xs + 1, fun xs => by
  rw [PyData.depth]
  exact Nat.succ_le_succ (depth_map xs)⟩
instance [PyV α] : PyV (VT α) := ⟨fun xs => .tuple (xs.l.map PyV.p), fun xs => by
  show pyD (.tup (xs.l.map d)) = _
  rw [pyD, pyDs_map]
  rfl, fun a b => by
  rw [PyData.eqv, eqvAll_map]
  exact ⟨fun h => by cases a; cases b; cases h; rfl, fun h => by rw [h]⟩, fun xs => ∀ x ∈ xs.l, PyV.ok x, fun xs h => by rw [PyData.canLay0]; exact canLay_map xs.l h, fun xs => dmL xs.l + 1, fun xs => by
  rw [PyData.depth]
  exact Nat.succ_le_succ (depth_map xs.l)⟩
instance [PyV α] : PyV (VN α) := ⟨fun xs => .tuple (xs.l.map PyV.p), fun xs => by
  show pyD (.tupN (xs.l.map d)) = _
  rw [pyD, pyDs_map]
  rfl, fun a b => by
  rw [PyData.eqv, eqvAll_map]
  exact ⟨fun h => by cases a; cases b; cases h; rfl, fun h => by rw [h]⟩, fun xs => ∀ x ∈ xs.l, PyV.ok x, fun xs h => by rw [PyData.canLay0]; exact canLay_map xs.l h, fun xs => dmL xs.l + 1, fun xs => by
  rw [PyData.depth]
  exact Nat.succ_le_succ (depth_map xs.l)⟩
instance [PyV α] [PyV β] : PyV (α × β) := ⟨fun x => .tuple [PyV.p x.1, PyV.p x.2], fun x => by
  show pyD (.tup [d x.1, d x.2]) = _
  rw [pyD, pyDs, pyDs, pyDs, PyV.h, PyV.h]
  rfl, fun a b => by
  rw [PyData.eqv, PyData.eqvAll, PyData.eqvAll, PyData.eqvAll, Bool.and_true, Bool.and_eq_true, PyV.e, PyV.e]
  exact ⟨fun h => Prod.ext h.1 h.2, fun h => by rw [h]; exact ⟨rfl, rfl⟩⟩, fun x => PyV.ok x.1 ∧ PyV.ok x.2, fun x h => by
  rw [PyData.canLay0, PyData.canLayAll0, PyData.canLayAll0, PyData.canLayAll0, PyV.l _ h.1, PyV.l _ h.2]
  rfl, fun x => max (PyV.dm x.1) (PyV.dm x.2) + 1, fun x => by
  rw [PyData.depth, PyData.depthAll, PyData.depthAll, PyData.depthAll]
  have := PyV.dl x.1
  have := PyV.dl x.2
  omega⟩
instance [PyV α] [PyV β] [PyV γ] : PyV (T3 α β γ) := ⟨fun x => .tuple [PyV.p x.a, PyV.p x.b, PyV.p x.c], fun x => by
  show pyD (.tup [d x.a, d x.b, d x.c]) = _
  rw [pyD, pyDs, pyDs, pyDs, pyDs, PyV.h, PyV.h, PyV.h]
  rfl, fun a b => by
  rw [PyData.eqv, PyData.eqvAll, PyData.eqvAll, PyData.eqvAll, PyData.eqvAll, Bool.and_true, Bool.and_eq_true, Bool.and_eq_true, PyV.e, PyV.e, PyV.e]
  exact ⟨fun h => by
    cases a; cases b
    obtain ⟨h1, h2, h3⟩ := h
    cases h1; cases h2; cases h3
    rfl, fun h => by rw [h]; exact ⟨rfl, rfl, rfl⟩⟩, fun x => PyV.ok x.a ∧ PyV.ok x.b ∧ PyV.ok x.c, fun x h => by
  rw [PyData.canLay0, PyData.canLayAll0, PyData.canLayAll0, PyData.canLayAll0, PyData.canLayAll0, PyV.l _ h.1, PyV.l _ h.2.1, PyV.l _ h.2.2]
  rfl, fun x => max (PyV.dm x.a) (max (PyV.dm x.b) (PyV.dm x.c)) + 1, fun x => by
  rw [PyData.depth, PyData.depthAll, PyData.depthAll, PyData.depthAll, PyData.depthAll]
  have := PyV.dl x.a
  have := PyV.dl x.b
  have := PyV.dl x.c
  omega⟩
theorem shaped_v [PyV α] {a : α} (h : PyV.ok a) (hd : PyV.dm a ≤ 64) : SeqAt.shaped (PyV.p a) = true := by
  unfold SeqAt.shaped
  rw [PyV.l a h, decide_eq_true (Nat.le_trans (PyV.dl a) hd)]
  rfl
/-- the answer of == -/
def eqB [PyV α] (a b : α) : Bool := PyData.eqv (PyV.p a) (PyV.p b)
theorem eqB_iff [PyV α] {a b : α} : eqB a b = true ↔ a = b := PyV.e a b
theorem eqB_self [PyV α] (a : α) : eqB a a = true := eqB_iff.mpr rfl
theorem eqB_no [PyV α] {a b : α} (h : a ≠ b) : eqB a b = false := by
  cases e : eqB a b with
  | false => rfl
  | true => exact absurd (eqB_iff.mp e) h
theorem eqD_v [PyV α] {a b : α} (ha : PyV.ok a) (hb : PyV.ok b) (da : PyV.dm a ≤ 64) (db : PyV.dm b ≤ 64) : eqD (d a) (d b) = pure (eqB a b) := by
  unfold eqD
  rw [PyV.h a, PyV.h b]
  dsimp only
  rw [need_T ⟨shaped_v ha da, shaped_v hb db⟩]
  rfl
theorem neD_v [PyV α] {a b : α} (ha : PyV.ok a) (hb : PyV.ok b) (da : PyV.dm a ≤ 64) (db : PyV.dm b ≤ 64) : neD (d a) (d b) = pure (!eqB a b) := by
  unfold neD
  rw [PyV.h a, PyV.h b]
  dsimp only
  rw [need_T ⟨shaped_v ha da, shaped_v hb db⟩]
  rfl
/-- x in a tuple -/
theorem inT_v [PyV α] {a : α} {xs : VN α} (ha : PyV.ok a) (hb : PyV.ok xs) (da : PyV.dm a ≤ 64) (db : PyV.dm xs ≤ 64) : inT (d a) (d xs) = pure (xs.l.any fun z => eqB z a) := by
  unfold inT
  rw [PyV.h a, PyV.h xs]
  have h2 := shaped_v hb db
  dsimp only [PyV.p] at h2 ⊢
  rw [need_T ⟨shaped_v ha da, h2⟩]
  simp only [pure_bind, List.any_map]
  rfl
theorem idxT_v [PyV α] {a : α} {xs : VN α} {j : Nat} (ha : PyV.ok a) (hb : PyV.ok xs) (da : PyV.dm a ≤ 64) (db : PyV.dm xs ≤ 64) (h : xs.l.findIdx? (fun z => eqB z a) = some j) : idxT (d xs) (d a) = pure (j : Int) := by
  unfold idxT
  rw [PyV.h a, PyV.h xs]
  have h2 := shaped_v hb db
  dsimp only [PyV.p] at h2 ⊢
  rw [need_T ⟨h2, shaped_v ha da⟩]
  simp only [pure_bind]
  have e : (xs.l.map PyV.p).findIdx? (fun z => PyData.eqv z (PyV.p a)) = some j := by
    rw [List.findIdx?_map]
    exact h
  rw [e]
end
/-! ### the law's draws -/
mutual
def ldP : LD → PyData
  | .s n => .str n
  | .t k g l => .tuple [.str k, .tuple (g.map PyV.p), .tuple (ldPs l)]
def ldPs : List LD → List PyData
  | [] => []
  | a :: q => ldP a :: ldPs q
end
mutual
theorem ldP_h : ∀ a : LD, pyD (d a) = some (ldP a)
  | .s n => by rw [LD.ds_, ldP]; rfl
  | .t k g l => by
    rw [LD.dt, ldP, pyD, pyDs, pyDs, pyDs, pyDs, pyD, pyD, pyD, pyDs_map, ldPs_h l]
    rfl
theorem ldPs_h : ∀ l : List LD, pyDs (l.map d) = some (ldPs l)
  | [] => rfl
  | a :: q => by
    rw [List.map_cons, pyDs, ldP_h a, ldPs_h q, ldPs]
end
mutual
theorem ldP_e : ∀ a b : LD, PyData.eqv (ldP a) (ldP b) = true ↔ a = b
  | .s n, .s m => by rw [ldP, ldP, PyData.eqv, LD.s.injEq]; exact beq_iff_eq
  | .s n, .t k g l => by
    rw [ldP, ldP, PyData.eqv]
    exact ⟨fun h => (by cases h), fun h => (by cases h)⟩
  | .t k g l, .s n => by
    rw [ldP, ldP, PyData.eqv]
    exact ⟨fun h => (by cases h), fun h => (by cases h)⟩
  | .t k g l, .t k' g' l' => by
    rw [ldP, ldP, PyData.eqv, PyData.eqvAll, PyData.eqvAll, PyData.eqvAll, PyData.eqvAll, Bool.and_true, Bool.and_eq_true, Bool.and_eq_true, PyData.eqv, PyData.eqv, PyData.eqv, eqvAll_map, ldPs_e l l', LD.t.injEq]
    rw [beq_iff_eq]
theorem ldPs_e : ∀ l l' : List LD, PyData.eqvAll (ldPs l) (ldPs l') = true ↔ l = l'
  | [], [] => by simp [ldPs, PyData.eqvAll]
  | [], _ :: _ => by simp [ldPs, PyData.eqvAll]
  | _ :: _, [] => by simp [ldPs, PyData.eqvAll]
  | a :: q, b :: r => by
    rw [ldPs, ldPs, PyData.eqvAll, Bool.and_eq_true, ldP_e a b, ldPs_e q r, List.cons.injEq]
end
inductive LDok : LD → Prop
  | s {n : Str} : PyV.ok n → LDok (.s n)
  | t {k : Str} {g : List LG} {l : List LD} : PyV.ok k → (∀ x ∈ g, PyV.ok x) → (∀ w ∈ l, LDok w) → LDok (.t k g l)
mutual
theorem ldP_l : ∀ a : LD, LDok a → PyData.canLay0 (ldP a) = true
  | .s n, .s h => by rw [ldP]; exact PyV.l n h
  | .t k g l, .t h1 h2 h3 => by
    have hk : PyData.strOk k = true := PyV.l k h1
    rw [ldP]
    simp only [PyData.canLay0, PyData.canLayAll0, canLay_map g h2, ldPs_l l h3, hk, Bool.and_true]
theorem ldPs_l : ∀ l : List LD, (∀ w ∈ l, LDok w) → PyData.canLayAll0 (ldPs l) = true
  | [], _ => rfl
  | a :: q, h => by
    rw [ldPs, PyData.canLayAll0, ldP_l a (h a List.mem_cons_self), ldPs_l q fun w hw => h w (List.mem_cons_of_mem _ hw)]
    rfl
end
mutual
def ldM : LD → Nat
  | .s _ => 0
  | .t _ g l => max (dmL g) (ldMs l) + 2
def ldMs : List LD → Nat
  | [] => 0
  | a :: q => max (ldM a) (ldMs q)
end
mutual
theorem ldP_d : ∀ a : LD, PyData.depth (ldP a) ≤ ldM a
  | .s n => by rw [ldP, PyData.depth]; exact Nat.zero_le _
  | .t k g l => by
    rw [ldP, PyData.depth, PyData.depthAll, PyData.depthAll, PyData.depthAll, PyData.depthAll, PyData.depth, PyData.depth, PyData.depth, ldM]
    have := depth_map g
    have := ldPs_d l
    omega
theorem ldPs_d : ∀ l : List LD, PyData.depthAll (ldPs l) ≤ ldMs l
  | [] => Nat.le_refl _
  | a :: q => by
    rw [ldPs, PyData.depthAll, ldMs]
    have := ldP_d a
    have := ldPs_d q
    omega
end
instance : PyV LD := ⟨ldP, ldP_h, ldP_e, LDok, ldP_l, ldM, ldP_d⟩
end N

set_option Elab.async false
set_option linter.all false
set_option maxRecDepth 100000
set_option maxHeartbeats 4000000
namespace N
open PySem PySem.SeqAt PySem.Spec PyProof.Rows L2 J
open ToD (d)
open ToDs (ds)
open M
open AutoSeq1 (wpAny_loadPart')
open MeetsSeq MeetsSeq2 MeetsSeq3 SeqRoads2
/-! ### a != b of two lists whose items are equal by their own == -/
section
variable {P : Program} {w : World} {A : Around} {R : Result → Shared → Prop}
theorem ne_turns (a b : Addr) (N : Nat) (I : Nat → Shared → Prop) (lists : GQ.ListI P w A (fun e z => R (.error e) z) a b N I) (last : ∀ z, I N z → R (.ok (.ret (.bool false))) z) :
    ∀ (k i : Nat), N - i = k → i ≤ N → ∀ z, I i z → wpAny (model P w) A.in1 (Builtin.«list.__eq__.loop» ⟨[.ref a, .ref b, rawInt i, rawInt 3], []⟩) (GQ.FinOf P w A R) (fun e z => R (.error e) z) z := by
  intro k
  induction k with
  | zero =>
    intro i e0 le z hz
    obtain ⟨us, vs, c1, c2, g1, g2, n1, n2, _⟩ := lists _ _ hz
    have ei : i = N := by omega
    have done : R (.ok (.ret (.bool false))) z := last z (ei ▸ hz)
    obtain ⟨h1, h2, h3, h4, h5⟩ := z
    wp_walk using wpAny_loadPart' g1, wpAny_loadPart' g2
    have t1 : us[((i : Nat) : Int).toNat]? = none := by simp; omega
    have t2 : vs[((i : Nat) : Int).toNat]? = none := by simp; omega
    rw [t1, t2]
    wp_walk using wpAny_loadPart' g1, wpAny_loadPart' g2
    show R (.ok (.ret (.bool (us.size != vs.size)))) _
    rw [n1, n2, bne_self_eq_false]
    exact done
  | succ k ih =>
    intro i e0 le z hz
    obtain ⟨us, vs, c1, c2, g1, g2, n1, n2, go⟩ := lists _ _ hz
    have l1 : i < us.size := by omega
    have l2 : i < vs.size := by omega
    have one := go l1 l2
    obtain ⟨h1, h2, h3, h4, h5⟩ := z
    wp_walk using wpAny_loadPart' g1, wpAny_loadPart' g2
    have t1 : us[((i : Nat) : Int).toNat]? = some us[i] := by simp [l1]
    have t2 : vs[((i : Nat) : Int).toNat]? = some vs[i] := by simp [l2]
    have up : ((i : Int) + 1) = ((i + 1 : Nat) : Int) := by omega
    rw [t1, t2]
    refine wpAny_bind (wpAny_mono one (fun r z2 q2 => ?_) fun _ _ q => q)
    obtain ⟨er, q2⟩ := q2
    subst er
    have rest := ih (i + 1) (by omega) (by omega) z2 q2
    obtain ⟨k1, k2, k3, k4, k5⟩ := z2
    wp_walk
    rw [up]
    exact ⟨plainId_quiet plain_eq_loop _, codeAny_builtin entry_eq_loop (by rw [Around.under_plainId plain_eq_loop _]; exact rest)⟩
theorem ne_lists (a b : Addr) (N : Nat) (I : Nat → Shared → Prop) (lists : GQ.ListI P w A (fun e z => R (.error e) z) a b N I) (last : ∀ z, I N z → R (.ok (.ret (.bool false))) z) {z : Shared} (hz : I 0 z) :
    wpAny (model P w) A.in1 (Builtin.«list.__ne__» ⟨[.ref a, .ref b], []⟩) (GQ.FinOf P w A R) (fun e z => R (.error e) z) z := by
  obtain ⟨us, vs, c1, c2, g1, g2, n1, n2, _⟩ := lists _ _ hz
  have all := ne_turns (A := A) (R := R) a b N I lists last _ 0 rfl (Nat.zero_le _) z hz
  obtain ⟨h1, h2, h3, h4, h5⟩ := z
  have sb := AutoSeq1.sub_list_list
  have same : ¬ (us.size != vs.size) = true := by simp [n1, n2]
  wp_walk using wpAny_loadPart' g1, wpAny_loadPart' g2
  exact ⟨plainId_quiet plain_eq_loop _, codeAny_builtin entry_eq_loop (by rw [Around.under_plainId plain_eq_loop _]; exact all)⟩
end
section
variable {P : Program} {w : World} {A : Around} {E : Value → Shared → Prop} {z : Shared}
theorem rc_ne_lists {a b : Addr} {N : Nat} {Q : Value → Shared → Prop} (room : A.units < cLine) (I : Nat → Shared → Prop) (lists : GQ.ListI P w A E a b N I) (last : ∀ z, I N z → Q (.bool false) z) (hz : I 0 z) :
    wpAny (model P w) A (richCompare .NotEq (.ref a) (.ref b)) Q E z := by
  obtain ⟨us, vs, c1, c2, g1, g2, _, _, _⟩ := lists _ _ hz
  refine wpAny_richCompare_same_room (op := .NotEq) ⟨_, g1, rfl⟩ ⟨_, g2, rfl⟩ F.slot_list_ne (GQ.call_here F.slot_list_ne ⟨_, g1, rfl⟩ F.entry_list_ne (F.args_list_ne_2 _ _) ?_) room
  exact ne_lists (R := wants (fun v s' => v ≠ .notImplemented ∧ Q v s') E) a b N I lists (fun z q => ⟨(fun x => nomatch x), last z q⟩) hz
end
section
variable {X : Cx} {Z : Eqv} {n : Nat}
theorem rcNe_list (mon : Mon Z) (each : EqG X n Z) {A : Around} {pins : List (Addr × Obj)} {z : Shared} {σ : L2.St} {H : Hp} {x y : V} {u v : Value} (sb : Sub X (n + 1) A) (I : Inv X pins σ H z) (rx : RelV x u) (ry : RelV y v) (q : DList Z x y H) :
    wpAny (model X.prog X.w) A (richCompare .NotEq u v) (fun r z2 => r = .bool false ∧ LoopI X pins σ H z2) X.xe z := by
  obtain ⟨a, b, xs, ys, rfl, rfl, ga, gb, prs⟩ := q
  cases rx
  cases ry
  refine rc_ne_lists (N := xs.length) sb.room.units0 (fun _ z2 => LoopI X pins σ H z2) (fun i z2 l => ?_) (fun z2 l => ⟨rfl, l⟩) ⟨H, I, Ext.rfl'⟩
  have l0 := l
  obtain ⟨H1, I1, grown⟩ := l0
  obtain ⟨_, us, c1, r1, g1⟩ := I1.hok a _ (grown _ _ ga)
  obtain ⟨_, vs, c2, r2, g2⟩ := I1.hok b _ (grown _ _ gb)
  exact ⟨us.toArray, vs.toArray, c1, c2, g1, g2, by rw [List.size_toArray, ← r1.length], by rw [List.size_toArray, ← r2.length, ← prs.1], fun k1 k2 => turnG mon each sb prs r1 r2 i k1 k2 z2 l⟩
/-- x != y of two lists whose items D says are equal -/
def rNeG (Z : Eqv) : R2 := fun x y H Q => DList Z x y H ∧ ∀ H', Ext H H' → Q (.bl false) H'
theorem op_neLs (mon : Mon Z) (each : EqG X n Z) (hr : Room (n + 1) X.A) : OpR X (compareOp .NotEq) (rNeG Z) := by
  intro pins z σ H x y v u Q I rx ry hq
  obtain ⟨q, go⟩ := hq
  show wpAny (model X.prog X.w) X.A (richCompare .NotEq v u) (EP X pins σ Q) X.xe z
  refine wpAny_mono (rcNe_list mon each ⟨hr, rfl⟩ I rx ry q) (fun r z2 l => ?_) fun _ _ t => t
  obtain ⟨er, H', I', grown⟩ := l
  subst er
  exact ⟨.bl false, H', I', rfl, go H' grown⟩
/-- what an own == says of two -/
def EqOwn {α β : Type} [ToD α] [ToD β] (K : PySem.W.Frag) (f : α → β → Res Bool) (co : α → β) : Eqv := fun x y H => ∃ (G : Hp) (p q : α), Same G H ∧ Rep K G x (d p) ∧ Rep K G y (d q) ∧ f p (co q) = .ok true
theorem mon_own {α β : Type} [ToD α] [ToD β] {K : PySem.W.Frag} {f : α → β → Res Bool} {co : α → β} : Mon (EqOwn K f co) := fun x y H H' e h => by
  obtain ⟨G, p, q, s, r1, r2, t⟩ := h
  exact ⟨G, p, q, fun a o z => e a o (s a o z), r1, r2, t⟩
theorem eqG_own {α β : Type} [ToD α] [ToD β] {C : Addr} {ps : List Str} {k : Nat} {f : α → β → Res Bool} {co : α → β} (hco : ∀ q, d (co q) = (d q : D)) (c : MCal X.prog X.w X.K X.mg X.base C "__eq__" ps k (spG X.K fun (i : α × β × Unit) => f i.1 i.2.1))
    (hins : ∀ (G : Hp) (v : V) (p : α), Rep X.K G v (d p) → ∃ a dd fs, v = .ref a ∧ G a = some (.ins C dd fs)) : EqG X k (EqOwn X.K f co) := by
  obtain ⟨fa, fd, hm, F, hb⟩ := c.ex
  have F' := F.imp (sp' := spEq fun a b H => EqOwn X.K f co (.ref a) (.ref b) H) fun vs H Q E h => by
    obtain ⟨a, b, rfl, ⟨G, p, q, s, r1, r2, e⟩, hq⟩ := h
    refine ⟨(p, co q, ()), G, s, .cons r1 (.cons (by rw [hco]; exact r2) .nil), ?_⟩
    show FinP X.K G H Q E (f p (co q))
    rw [e]
    intro v G' H' ex rv
    cases rep_bl rv
    exact hq H' fun a o h => ex.keep a o (by simp) h
  refine (eqG_ins F' hm.at_ hm.fn hb (passE0 (P := X.prog) (w := X.w))).imp fun x y H h => ?_
  obtain ⟨G, p, q, s, r1, r2, e⟩ := h
  obtain ⟨a, dx, fs, rfl, ga⟩ := hins G x p r1
  obtain ⟨b, dy, gs, rfl, gb⟩ := hins G y q r2
  exact ⟨a, b, dx, dy, fs, gs, rfl, rfl, s _ _ ga, s _ _ gb, G, p, q, s, r1, r2, e⟩
end
/-- a != b of two lists of instances that are equal -/
noncomputable def neLs {α β : Type} (f : α → β → Res Bool) (co : α → β) (xs ys : List α) : M Bool := do
  need (xs.length = ys.length ∧ ∀ p ∈ xs.zip ys, f p.1 (co p.2) = .ok true)
  pure false
theorem om_neLs {α β : Type} [ToD α] [ToD β] {K : PySem.W.Frag} {f : α → β → Res Bool} {co : α → β} : OpM K (rNeG (EqOwn K f co)) (fun (xs ys : List α) => neLs f co xs ys) := fun W x σ G H b Q xs ys v u s B r1 r2 h => by
  obtain ⟨⟨hl, hall⟩, h⟩ := need_fin h
  cases r1 with
  | lst g1 q1 =>
  cases r2 with
  | lst g2 q2 =>
  refine ⟨⟨_, _, _, _, rfl, rfl, s _ _ g1, s _ _ g2, ?_⟩, fun H' e => ?_⟩
  · have l1 := q1.length
    have l2 := q2.length
    rw [List.length_map] at l1 l2
    refine ⟨by omega, fun i x y h1 h2 => ?_⟩
    obtain ⟨dp, hp, rp⟩ := q1.getV h1
    obtain ⟨dq, hq, rq⟩ := q2.getV h2
    rw [List.getElem?_map] at hp hq
    cases z1 : xs[i]? with
    | none => rw [z1] at hp; cases hp
    | some p =>
      cases z2 : ys[i]? with
      | none => rw [z2] at hq; cases hq
      | some q =>
        rw [z1] at hp
        rw [z2] at hq
        cases hp
        cases hq
        exact ⟨G, p, q, s, rp, rq, hall (p, q) (List.mem_of_getElem? (i := i) (List.getElem?_zip_eq_some.mpr ⟨z1, z2⟩))⟩
  · exact h (.bl false) G H' ⟨Same.refl _, fun a o z => e a o (s a o z), fun a o _ z => e a o z, fun a o _ _ g => g⟩ (fun p hp => let ⟨c1, c2⟩ := B p hp; ⟨c1, e _ _ c2⟩) (.bl false)
end N

set_option Elab.async false
set_option linter.all false
set_option maxRecDepth 100000
set_option maxHeartbeats 4000000
/-! N46: len({text for x in xs if ..}) as a reading. -/
namespace N
open PySem PySem.Spec PyProof.Rows L2 J
open ToD (d)
open ToDs (ds)
open M
def rLenTx (w : World) : List V → Hp → VK → Prop := fun vs H Q => ∃ (a : Addr) (S : Str → Bool) (n : Nat), vs = [V.ref a] ∧ H a = some (SetTO w a S n) ∧ n ≤ 1000 ∧ Q (.int n) H
theorem cr_lenTx {X : Cx} {w : World} (hw : X.w = w) : CallR X (.builtin "len") (rLenTx w) := by
  subst hw
  intro pins s σ H vs us Q I r h
  obtain ⟨a, S, n, rfl, ha, hn, q⟩ := h
  obtain ⟨o, es, ep, t, ho, hex, hd, _, _, _, _, hf, hs, _⟩ := setTO_get I ha
  rw [Vals.ref1 r]
  refine call_len_set ho hex hd hf (by omega) ⟨.int n, H, (I.tok _).tok _, ⟨_, by rw [hs]⟩, q⟩
/-- how many unlike ones -/
def nDup (ys : List Str) : Nat := ys.eraseDups.length
theorem nDup_add (ys : List Str) (z : Str) : nDup (ys ++ [z]) = if z ∈ ys then nDup ys else nDup ys + 1 := by
  unfold nDup
  rw [List.eraseDups_append, List.length_append]
  by_cases h : z ∈ ys
  · rw [if_pos h]
    simp [List.removeAll, h]
  · rw [if_neg h]
    simp [List.removeAll, h, List.eraseDups_cons]
section
variable {ω : Type} {α β γ S : Type} [ToD α] [ToD β] [ToD γ] {K : PySem.W.Frag} {W : WX} {P : Post ω} {te ta tb : TE} {Γ : List Sl} {ts rest : TS}
/-- how many texts of a set comprehension are unlike -/
noncomputable def lenSetM {α : Type} (t : α → M Bool) (f : α → M Str) (xs : List α) : M Int := do
  need (xs.length ≤ 1000)
  let ys ← lcA t f [] xs
  pure (nDup ys : Int)
theorem ev_lenset {w : World} {wi : TI} {g : TG} {tt : TT} {vs : List Nat} {mi : M (List α)} {up : α → List Sl → List Sl} {mt : α → M Bool} {me : α → M Str} (hi : EvIE K W wi Γ mi) (hg : TgOk K g vs up)
    (ht : ∀ a, EvT K WF tt (up a (wipeS Γ vs)) (mt a)) (he : ∀ a, EvR K WF te (up a (wipeS Γ vs)) (me a)) : EvR K W (tCB (rLenTx w) (tCons (tScK (txKind w) wi g tt te vs) tNil)) Γ (do let xs ← mi; lenSetM mt me xs) := fun x σ G H b Q E s B h =>
  hi Int x σ _ good_E _ G H b _ E s B h fun xs b1 J G1 H1 h1 e1 E1 s1 B1 wk D nD => by
    obtain ⟨hl, h1⟩ := need_fin h1
    have xD : x ≠ some D := fun z => by
      have := (B1 D z).2
      rw [nD] at this
      cases this
    refine ⟨fun i m H' => ∃ G' b' ys, ∃ St : Str → Bool, ∃ n : Nat, m = xs.length - i ∧ i ≤ xs.length ∧ Ex x G1 H1 G' H' ∧ G' D = none ∧ H' D = some (SetTO w D St n) ∧ (∀ k, St k = true ↔ k ∈ ys) ∧ (n = nDup ys ∧ n ≤ i) ∧ BoxSt x G' H' b' ∧ FinE K W x σ G1 H1 Q ((do let zs ← lcA mt me ys (xs.drop i); pure (nDup zs : Int)) b'),
      ⟨_, G1, b1, [], _, _, rfl, Nat.zero_le _, Ex.raw s1 nD, s1.free nD, upd_same, fun k => by simp [txKind], ⟨rfl, Nat.le_refl _⟩, B1.raw nD, h1⟩, ?_⟩
    rintro i m H' ⟨G', b', ys, St, n, rfl, hi', ex, gD, hD, hS, ⟨hd0, hn⟩, B', hf⟩
    by_cases hlt : i < xs.length
    · have hd : xs.drop i = xs[i] :: xs.drop (i + 1) := List.drop_eq_getElem_cons hlt
      obtain ⟨hgo, hy⟩ := (wk i G' H' ex).1 xs[i] (List.getElem?_eq_getElem hlt)
      refine .inr ⟨hgo, fun H'' => ∃ G' b' ys, ∃ St : Str → Bool, ∃ n : Nat, i + 1 ≤ xs.length ∧ Ex x G1 H1 G' H'' ∧ G' D = none ∧ H'' D = some (SetTO w D St n) ∧ (∀ k, St k = true ↔ k ∈ ys) ∧ (n = nDup ys ∧ n ≤ i + 1) ∧ BoxSt x G' H'' b' ∧ FinE K W x σ G1 H1 Q ((do let zs ← lcA mt me ys (xs.drop (i + 1)); pure (nDup zs : Int)) b'),
        fun H'' ⟨G'', b'', ys', St', n', c1, c2⟩ => ⟨xs.length - (i + 1), by omega, G'', b'', ys', St', n', rfl, c1, c2⟩, fun y H2 hyld => ?_⟩
      obtain ⟨G2, ex2, ry⟩ := hy y H2 hyld
      have B2 := B'.none_ex ex2
      have ex12 := ex.trans (ex2.box (x := x))
      have gD2 : G2 D = none := ex2.uns D _ (by simp) hD gD
      have hD2 := ex2.keep D _ (by simp) hD
      have E2 : Env K x (wipe σ vs) (wipeS Γ vs) G2 H2 := (E1.ext ex12).wipe vs
      refine hg x (wipe σ vs) (wipeS Γ vs) G2 H2 y xs[i] _ E2 ex2.gh ry fun σ' hw E3 _ => ⟨hw.trans wipe_wipe, ?_⟩
      rw [hd] at hf
      have hf0 : FinE K W x σ G1 H1 Q ((strict (mt xs[i]) >>= fun c => (if c = true then (do let y ← strict (me xs[i]); lcA mt me (ys ++ [y]) (xs.drop (i + 1))) else lcA mt me ys (xs.drop (i + 1))) >>= fun zs => pure (nDup zs : Int)) b') := by
        rw [← bind_assoc]
        exact hf
      obtain ⟨c, b3, q, hf2⟩ := strict_ok (f := fun c => (if c = true then (do let y ← strict (me xs[i]); lcA mt me (ys ++ [y]) (xs.drop (i + 1))) else lcA mt me ys (xs.drop (i + 1))) >>= fun zs => pure (nDup zs : Int)) hf0
      refine ht xs[i] x σ' G2 H2 b' _ E3 ex2.gh B2 ?_
      rw [q]
      intro G3 H3 ex3 B3
      have ex13 := ex12.trans ex3
      have gD3 : G3 D = none := ex3.uns D _ xD hD2 gD2
      have hD3 := ex3.keep D _ xD hD2
      cases c with
      | false => exact iteF ⟨G3, b3, ys, St, n, hlt, ex13, gD3, hD3, hS, ⟨hd0, by omega⟩, B3, hf2⟩
      | true =>
        have hf3 : FinE K W x σ G1 H1 Q ((strict (me xs[i]) >>= fun y => lcA mt me (ys ++ [y]) (xs.drop (i + 1)) >>= fun zs => pure (nDup zs : Int)) b3) := by
          rw [← bind_assoc]
          exact hf2
        obtain ⟨z, b4, q4, hf4⟩ := strict_ok (f := fun y => lcA mt me (ys ++ [y]) (xs.drop (i + 1)) >>= fun zs => pure (nDup zs : Int)) hf3
        refine iteT (he xs[i] x σ' G3 H3 b3 _ (E3.ext ex3) ex3.gh B3 ?_)
        rw [q4]
        intro v G4 H4 ex4 B4 rw4
        have ex14 := ex13.trans ex4
        have gD4 : G4 D = none := ex4.uns D _ xD hD3 gD3
        have hD4 := ex4.keep D _ xD hD3
        refine ⟨z, (St, n), rep_str rw4, hD4, ?_, G4, b4, ys ++ [z], _, _, hlt, ex14.grow nD gD4, gD4, upd_same, fun k => ?_, ?_, ?_, hf4⟩
        · show n + 1 < scanBound
          have h3 : 2000 < scanBound := by decide
          omega
        · show (St k || decide (k = z)) = true ↔ _
          rw [Bool.or_eq_true, hS, decide_eq_true_iff, List.mem_append, List.mem_singleton]
        · show (if St z = true then n else n + 1) = nDup (ys ++ [z]) ∧ (if St z = true then n else n + 1) ≤ i + 1
          rw [nDup_add]
          by_cases q : St z = true
          · rw [if_pos q, if_pos ((hS z).mp q)]
            exact ⟨hd0, by omega⟩
          · rw [if_neg q, if_neg fun y => q ((hS z).mpr y)]
            exact ⟨by rw [hd0], by omega⟩
        · intro p hp
          obtain ⟨c1, c2⟩ := B4 p hp
          exact ⟨c1, by rw [upd_ne (fun z => xD (by rw [← z]; exact hp))]; exact c2⟩
    · have hi2 : xs.length = i := by omega
      rw [List.drop_eq_nil_of_le (by omega)] at hf
      have hf2 : FinE K W x σ G1 H1 Q ((pure (nDup ys : Int) : M Int) b') := hf
      refine .inl ⟨(wk i G' H' ex).2 hi2, D, St, n, rfl, hD, by omega, ?_⟩
      rw [hd0]
      exact hf2 _ _ _ ex B' (.int _)
end
end N

set_option Elab.async false
set_option linter.all false
set_option maxRecDepth 100000
set_option maxHeartbeats 4000000
/-! N47: sorted(a list or tuple of texts); xs[::-1]; list(..) and tuple(..) of either kind. -/
namespace N
open PySem PySem.Spec PyProof.Rows L2 J
open ToD (d)
open ToDs (ds)
open M
section
variable {P : Program} {w : World} {A : Around} {E : Value → Shared → Prop} {s : Shared} {a : Addr}
theorem collect_tup {items : List Value} {Q : List Value → Shared → Prop} {o : Obj} {n : Nat} (g1 : s.heap.get? a = some o) (g2 : o.cls = .type "tuple") (g3 : o.data = .seq items.toArray n) (small : items.length ≤ sizeLine)
    (then_ : Q items { s with heap := (s.heap.push (seqObj "list" #[] 0)).update s.heap.objs.size (Obj.mapSeq (· ++ items.toArray)) }) : wpAny (model P w) A (collect (.ref a)) Q E s := by
  have g4 : (s.heap.push (seqObj "list" #[] 0)).get? a = some o := Heap.get?_push_of_some _ g1
  have new : (s.heap.push (seqObj "list" #[] 0)).get? s.heap.objs.size = some (seqObj "list" #[] 0) := Heap.get?_push_size _ rfl
  unfold collect
  refine wpAny_bind (wpAny_runValue (codeAny_builtin entry_proto_collect' ?_))
  show wpAny _ _ (do again (.builtin "list.__iadd__" ⟨[← newList [], .ref a], []⟩)) _ _ s
  refine wpAny_bind (wpAny_newList (wpAny_pure ⟨Code.quiet_builtin _ (by decide +kernel), codeAny_builtin entry_list_iadd' ?_⟩))
  show wpAny _ _ (Builtin.List.listExtendWith (.ref s.heap.objs.size) (.ref a) (.ref s.heap.objs.size)) _ _ { s with heap := s.heap.push (seqObj "list" #[] 0) }
  unfold Builtin.List.listExtendWith
  refine wpAny_bind (wpAny_typeOf (T := "tuple") ⟨o, g4, g2⟩ ?_)
  have tt : (Value.type "tuple" == Value.type "tuple") = true := by rfl
  rw [if_pos (by rw [tt]; simp)]
  refine wpAny_bind (listItems_at g4 g3 (wpAny_bind (listItems_at (xs := #[]) (n := 0) new rfl ?_)))
  rw [if_neg (by simp)]
  refine wpAny_bind (listUpdate_at (xs := #[]) (n := 0) new rfl (wpAny_pure ?_) (Nat.zero_le _) (by show (#[] ++ items.toArray).size ≤ sizeLine + 1; simp only [Array.size_append, List.size_toArray, List.length_nil]; omega))
  show wpAny (model P w) A (load s.heap.objs.size >>= fun o => match o.data with
      | .seq xs _ => pure xs.toList
      | _ => unsupported "internal:collect") Q E _
  refine wpAny_bind (wpAny_load (get?_update_seq new _) ?_)
  show wpAny _ _ (pure ((#[] : Array Value) ++ items.toArray).toList) Q E _
  rw [show ((#[] : Array Value) ++ items.toArray).toList = items by simp]
  exact wpAny_pure then_
theorem sorted_texts {items : List Value} {ss : List Str} {s1 : Shared} {Q : Value → Shared → Prop} (hS : StrsAre items ss) (small : items.length ≤ sizeLine)
    (col : ∀ (Q' : List Value → Shared → Prop) (E' : Value → Shared → Prop), Q' items s1 → wpAny (model P w) A.in1 (collect (.ref a)) Q' E' s)
    (hQ : ∀ (out : Array Value) (c : Nat) (ys : List Str) (h' : Heap), StrsAre out.toList ys → ys.Perm ss → sortedS ys = true → (∀ b u, s1.heap.get? b = some u → h'.get? b = some u) → h'.get? s1.heap.objs.size = some (seqObj "list" out c) →
      Q (.ref s1.heap.objs.size) { s1 with heap := h' }) : wpAny (model P w) A (call (.builtin "sorted") [.ref a]) Q E s := by
  have new : (s1.heap.push (seqObj "list" items.toArray 0)).get? s1.heap.objs.size = some (seqObj "list" items.toArray 0) := Heap.get?_push_size _ rfl
  refine Calls.call_function_entry kind_sorted plain_sorted entry_sorted (args_sorted1 _) ?_
  unfold Builtin.«sorted»
  refine wpAny_bind (m := checkCount "sorted" 1 1 _) (wpAny_pure (wpAny_bind (col _ _ ?_)))
  refine wpAny_bind (wpAny_newList (wpAny_bind (wpAny_holding (wpAny_call_entry slot_list_sort ⟨_, new, rfl⟩ entry_list_sort (list_sort_treeKAny strKind_oneLt new hS.keysOf (fun v₁ v₂ rest e => keyKind_strs (by rw [← e]; exact hS)) small fun st' hp hs => ?_) (args_list_sort _)))) small)
  obtain ⟨ys, t1, t2, t3⟩ := sorted_out_str hS hp hs
  obtain ⟨c, hc⟩ := sortedHeap_at (vs := items) (out := (arrOf st').map (·.2)) new
  refine ⟨_, rfl, wpAny_pure ⟨_, rfl, hQ _ c ys _ t1 t2 t3 (fun b u g => ?_) hc⟩⟩
  have lt := Heap.lt_size g
  rw [sortedHeap_old (Nat.ne_of_lt lt) (by rw [size_push']; exact Nat.lt_succ_of_lt lt)]
  exact Heap.get?_push_of_some _ g
end
section
variable {X : Cx}
/-- sorted(texts), a list or a tuple, each text once -/
def rSortedQ (K : PySem.W.Frag) : List V → Hp → VK → Prop := fun vs H Q => ∃ (a : Addr) (xs : List Str), vs = [V.ref a] ∧ (SqL K H a (xs.map V.str) ∨ SqT K H a (xs.map V.str)) ∧
  ∀ (ys : List Str) (p : Addr), ys.Perm xs → sortedS ys = true → H p = none → Q (.ref p) (upd H p (.lst (ys.map V.str)))
theorem cr_sortedQ {K : PySem.W.Frag} (hK : X.K = K) : CallR X (.builtin "sorted") (rSortedQ K) := by
  subst hK
  intro pins s σ H vs us Q I r h
  obtain ⟨a, xs, rfl, hs, q⟩ := h
  rw [Vals.ref1 r]
  have fin : ∀ (items : List Value), Vals (xs.map V.str) items → (xs.map V.str).length ≤ sizeLine →
      (∀ (Q' : List Value → Shared → Prop) (E' : Value → Shared → Prop), Q' items { s with heap := (s.heap.push (seqObj "list" #[] 0)).update s.heap.objs.size (Obj.mapSeq (· ++ items.toArray)) } → wpAny (model X.prog X.w) X.A.in1 (collect (.ref a)) Q' E' s) →
      wpAny (model X.prog X.w) X.A (call (.builtin "sorted") [.ref a]) (EP X pins σ Q) X.xe s := fun items rv hz col => by
    have e0 := rv.length
    rw [List.length_map] at e0 hz
    refine sorted_texts rv.strs (by rw [← e0]; exact hz) col fun out c ys h' t1 t2 t3 old g => ?_
    have sz : s.heap.objs.size ≤ ((s.heap.push (seqObj "list" #[] 0)).update s.heap.objs.size (Obj.mapSeq (· ++ items.toArray))).objs.size := by
      rw [Heap.size_update, Heap.size_push]
      exact Nat.le_succ _
    have old2 : ∀ b u, s.heap.get? b = some u → h'.get? b = some u := fun b u gb => old b u (by
      show ((s.heap.push (seqObj "list" #[] 0)).update s.heap.objs.size (Obj.mapSeq (· ++ items.toArray))).get? b = some u
      rw [Heap.get?_update_ne _ _ _ _ (Nat.ne_of_lt (Heap.lt_size gb))]
      exact Heap.get?_push_of_some _ gb)
    have hlen : (ys.map V.str).length ≤ sizeLine := by rw [List.length_map, t2.length_eq]; exact hz
    exact ⟨.ref _, upd H _ (.lst (ys.map V.str)), I.laid (t' := s.toks) old2 sz ⟨hlen, out.toList, c, vals_of_strs t1, g⟩, rfl, q ys _ t2 t3 (I.hok.fresh sz)⟩
  rcases hs with hs | hs
  · obtain ⟨its, rv, hl, hz⟩ := I.list hs
    have e0 := rv.length
    exact fin its rv hz fun Q' E' h => PyProof.Rows.collect_list hl.isList h (by rw [← e0]; exact hz)
  · obtain ⟨its, rv, ⟨o, g1, g2, n, g3⟩, hz⟩ := I.tuple hs
    have e0 := rv.length
    exact fin its rv hz fun Q' E' h => collect_tup g1 g2 g3 (by rw [← e0]; exact hz) h
end
section
variable {α β γ : Type} [ToD α] [ToD β] [ToD γ] {K : PySem.W.Frag} {W : WX} {te ta tb : TE} {Γ : List Sl}
/-- sorted texts, each one once -/
noncomputable def sortQ (xs : List Str) : M (List Str) := do
  need xs.Nodup
  pure (sortT xs)
theorem sqV {G H : Hp} (s : Same G H) {x : Sq Str} {v : V} (r : Rep K G v (d x)) : ∃ p, v = .ref p ∧ (SqL K H p (x.xs.map V.str) ∨ SqT K H p (x.xs.map V.str)) := by
  cases x with
  | l xs =>
    obtain ⟨p, ws, rfl, hp, rs⟩ := rep_lst (xs := xs) r
    rw [reps_tx rs] at hp
    exact ⟨p, rfl, .inl (SqL.of (s _ _ hp))⟩
  | t xs =>
    obtain ⟨p, ws, rfl, hp, rs⟩ := rep_tup (ds := xs.map d) r
    rw [reps_tx rs] at hp
    exact ⟨p, rfl, .inr (sqT_H s hp)⟩
theorem cm_sortedQ : CallM K (rSortedQ K) (fun (i : Sq Str × Unit) => sortQ i.1.xs) := fun W x σ G H b Q i vs s B rs hf => by
  obtain ⟨a, u⟩ := i
  obtain ⟨v, rfl, r⟩ := reps1 rs
  obtain ⟨hd, hf⟩ := need_fin hf
  obtain ⟨p, rfl, hs⟩ := sqV s r
  refine ⟨p, a.xs, rfl, hs, fun ys p2 pm st hn => ?_⟩
  have e : ys = sortT a.xs := sortT_uniq st (pm.nodup_iff.mpr hd) fun k => pm.mem_iff
  subst e
  exact hf.new s B hn (.lst upd_same (reps_strs _))
theorem cm_tupQ : CallM K (fun xs H Q => ∃ p ys, xs = [.ref p] ∧ ((SqL K H p ys ∧ ∀ l, H l = none → Q (.ref l) (upd H l (.tup ys))) ∨ (SqT K H p ys ∧ Q (.ref p) H))) (fun (i : Sq α × Unit) => (pure ⟨i.1.xs⟩ : M (VT α))) := fun W x σ G H b Q i vs s B rs hf => by
  obtain ⟨a, u⟩ := i
  obtain ⟨v, rfl, r⟩ := reps1 rs
  cases a with
  | l xs =>
    obtain ⟨p, ws, rfl, hp, rs⟩ := rep_lst (xs := xs) r
    exact ⟨p, ws, rfl, .inl ⟨SqL.of (s _ _ hp), fun l hl => hf.new s B hl (.tup (.inl (.inl upd_same)) (rs.ext (upS (s.free hl))))⟩⟩
  | t xs =>
    have r0 := r
    obtain ⟨p, ws, rfl, hp, rs⟩ := rep_tup (ds := xs.map d) r
    exact ⟨p, ws, rfl, .inr ⟨sqT_H s hp, hf.here s B r0⟩⟩
theorem reps_rev {G : Hp} : ∀ {vs : List V} {xs : List D}, Reps K G vs xs → Reps K G vs.reverse xs.reverse
  | [], [], .nil => .nil
  | v :: vs, x :: xs, .cons h t => by
    rw [List.reverse_cons, List.reverse_cons]
    exact (reps_rev t).append (.cons h .nil)
theorem ev_rev {m : M (List α)} (h : EvR K W te Γ m) : EvR K W (tRevL K te) Γ (do let x ← m; pure x.reverse) := fun x σ G H b Q E s B h' =>
  step_E (te := te) h E s B h' fun a b' v G' H' h3 e E2 s2 B2 r => by
    obtain ⟨p, ws, rfl, hp, rs⟩ := rep_lst r
    exact ⟨p, ws, rfl, SqL.of (s2 _ _ hp), fun l hl => h3.new s2 B2 hl (.lst upd_same (by rw [List.map_reverse]; exact (reps_rev rs).ext (upS (s2.free hl))))⟩
theorem pe_revLK {X : Cx} {e : Expr} {n : Nat} {p1 p2 p3 pos : Pos} (hK : X.K = K) (h : PE X e te) : PE X (.Subscript e (.Slice none none (some (.UnaryOp .USub (.Constant (.int 1) n p1) p2)) p3) pos) (tRevL K te) := hK ▸ pe_revL h
end
end N

set_option Elab.async false
set_option linter.all false
set_option maxRecDepth 100000
set_option maxHeartbeats 4000000
/-! N48: a def of two parameters that is called by their names, the second one first. -/
namespace N
open PySem PySem.Spec PyProof.Rows L2 J
open ToD (d)
open ToDs (ds)
open M
def revG (_ : List Value) (ws : List Value) : List Value := ws.reverse
def revV (_ : List V) (zs : List V) : List V := zs.reverse
theorem vals_rev : ∀ {zs : List V} {ws : List Value}, Vals zs ws → Vals zs.reverse ws.reverse
  | [], [], .nil => .nil
  | z :: zs, u :: ws, .cons h t => by
    rw [List.reverse_cons, List.reverse_cons]
    exact (vals_rev t).append (.cons h .nil)
section
variable (P : Program) (w : World) (K : PySem.W.Frag) (mg : Str → Option Value) (base : Heap)
structure CalR2 (x : Str) (ps ks : List Str) (k : Nat) (sp : Sp) : Prop where
  ex : ∃ f fd, mg x = some (.ref f) ∧ PySem.W.keepIn K (.ref f) = true ∧ FnOk P w K mg base (CXL P w) k f fd ps sp ∧ KBn K fd ps 0 ks revG revV
end
def tCallR2 (m : Nat) (sp : Sp) (E : L2.St → XK) (tk : TA) : TE := fun σ H Q => tk σ H fun zs H2 => zs.length = m ∧ sp zs.reverse H2 Q (E σ)
theorem pe_calR2 {X : Cx} {W : WX} {k : Nat} {x : Str} {ps ks : List Str} {sp : Sp} {p pos : Pos} {kws : List Keyword} {tk : TA} (takes : Takes X W) (c : CalR2 X.prog X.w X.K X.mg X.base x ps ks k sp) (hr : Room k X.A) (hg : Gl X x) (hkw : PK X kws tk)
    (named : (backToKw pos (keywordEach kws X.env)).all (·.1.isSome) = true := by rfl) (hks : (backToKw pos (keywordEach kws X.env)).filterMap (·.1) = ks := by rfl) (hdb : (x == ("__debug__" : Str)) = false := by decide)
    (plain : ((backTo pos (starEach [] X.env)).any (·.1) || (backToKw pos (keywordEach kws X.env)).any (·.1.isNone)) = false := by rfl) :
    PE X (.Call (.Name x p) [] kws pos) (tCallR2 ks.length sp (WE W) tk) := by
  obtain ⟨f, fd, hm, hk, F, hb⟩ := c.ex
  refine ⟨fun pins s σ H Q I h => wpAny_Call_Name_kw (ld_glob I hg hm (PySem.W.callWith_KW0 (h₀ := X.base) I.ok.mod.kin hk named (thn (hkw.run pos pins s σ H _ I h) fun ws s2 ⟨zs, H2, I2, rz, l2, q2⟩ => ⟨I2.kIn, ?_⟩) plain) hdb)⟩
  rw [hks]
  have r2 := hb.rel (vs := []) (us := []) .nil rz
  refine wpAny_call (codeAny_mono (F.run X.A X.stack s2 H2 ⟨[], ks.zip ws⟩ (revG [] ws) (revV [] zs) Q (WE W σ) hr I2.env0 (hb.to s2 [] ws I2.kIn rfl (rz.length.symm.trans l2)) r2 q2) fun r s' hq => ?_)
  cases r with
  | error e => exact passAt takes σ pins H2 s2 e s' I2 hq
  | ok fl =>
    cases fl with
    | ret u => exact I2.after hq
    | next => exact False.elim hq
    | brk => exact False.elim hq
    | cont => exact False.elim hq
section
variable {α β γ : Type} [ToD α] [ToD β] [ToD γ] {K : PySem.W.Frag} {W : WX} {te ta tb : TE} {Γ : List Sl}
theorem ev_calR2 {t : TA} {mk : ∀ {θ : Type}, (β × α × Unit → M θ) → M θ} {f : α × β × Unit → Res γ} {m : M γ} (h : EvC (ι := β × α × Unit) K W t Γ mk) (e : m = mk fun i => lft (f (i.2.1, i.1, ())) := by rfl) : EvR K W (tCallR2 2 (spG K f) (WE W) t) Γ m := by
  subst e
  intro x σ G H b Q E s B h'
  refine h γ x σ _ good_E (fun i => lft (f (i.2.1, i.1, ()))) G H b _ E s B h' fun i b' vs G' H' h2 e E2 s2 B2 rs => ?_
  obtain ⟨y, z, u⟩ := i
  cases rs with
  | cons r1 rs =>
    cases rs with
    | cons r2 rs =>
      cases rs
      exact ⟨rfl, spG_of (i := (z, y, ())) s2 B2 (.cons r2 (.cons r1 .nil)) h2⟩
end
end N

set_option Elab.async false
set_option linter.all false
set_option maxRecDepth 100000
set_option maxHeartbeats 4000000
/-! N49: any(..); x in a list or tuple of either kind; x in a list of data; bools. -/
namespace N
open PySem PySem.Spec PyProof.Rows L2 J
open ToD (d)
open ToDs (ds)
open M
section
variable {X : Cx} {K : PySem.W.Frag}
theorem cr_anyK (hK : X.K = K) (hc : X.calm = true) : CallR X (.builtin "any") (rAny K) := hK ▸ cr_any hc
theorem op_inDK (hK : X.K = K) (hu : X.A.units + 65 < cLine) : OpR X (compareOp .In) (rInD K) := hK ▸ op_inD hu
theorem op_ninDK (hK : X.K = K) (hu : X.A.units + 65 < cLine) : OpR X (compareOp .NotIn) (rNotInD K) := hK ▸ op_notInD hu
theorem op_neLsK {C : Addr} {ps : List Str} {k : Nat} {f : Rt → Nm → Res Bool} (hK : X.K = K) (c : MCal X.prog X.w X.K X.mg X.base C "__eq__" ps k (spG X.K fun (i : Rt × Nm × Unit) => f i.1 i.2.1)) (hC : C = He.ga X.K "Ratio") (hr : Room (k + 1) X.A) :
    OpR X (compareOp .NotEq) (rNeG (EqOwn K f Nm.r)) := by
  subst hK hC
  refine op_neLs mon_own (eqG_own (fun _ => rfl) c fun G v p r => ?_) hr
  rw [InsOf.eq] at r
  obtain ⟨a, dx, vs, rfl, hp, _⟩ := rep_ins r
  exact ⟨a, dx, vs, rfl, hp⟩
end
section
variable {α β γ : Type} [ToD α] [ToD β] [ToD γ] {K : PySem.W.Frag} {W : WX} {te ta tb : TE} {Γ : List Sl}
theorem cm_any : CallM K (rAny K) (fun (i : List Bool × Unit) => (pure (i.1.any id) : M Bool)) := fun W x σ G H b Q i vs s B rs hf => by
  obtain ⟨a, u⟩ := i
  obtain ⟨v, rfl, r⟩ := reps1 rs
  obtain ⟨p, ws, rfl, hp, rs⟩ := rep_lst r
  cases reps_bools rs
  exact ⟨p, a, rfl, SqL.of (s _ _ hp), hf.here s B (.bl _)⟩
theorem om_inQ [f : Flat α] : OpM K (rIn K false) (fun (a : α) (b : Sq α) => (pure (memB a b.xs) : M Bool)) := fun W x σ G H b Q a c v w s B ra rc h => by
  cases c with
  | l xs => exact om_inF W x σ G H b Q a xs v w s B ra rc h
  | t xs => exact om_inFV W x σ G H b Q a ⟨xs⟩ v w s B ra rc h
theorem om_ninQ [f : Flat α] : OpM K (rIn K true) (fun (a : α) (b : Sq α) => (pure (!memB a b.xs) : M Bool)) := fun W x σ G H b Q a c v w s B ra rc h => by
  cases c with
  | l xs => exact om_ninF W x σ G H b Q a xs v w s B ra rc h
  | t xs => exact om_ninFV W x σ G H b Q a ⟨xs⟩ v w s B ra rc h
/-- x in a list of data -/
noncomputable def inL (x y : D) : M Bool := match pyD x, pyD y with
  | some p, some (.list ps) => do
    need (SeqAt.shaped p = true ∧ SeqAt.shaped (.list ps) = true)
    pure (ps.any fun z => PyData.eqv z p)
  | _, _ => M.stuck
theorem om_inL : OpM K (rInD K) (fun (a : α) (b : β) => inL (d a) (d b)) := fun W x σ G H b Q a c v w s B ra rc h => by
  dsimp only at h
  unfold inL at h
  cases q1 : pyD (d a) with
  | none => rw [q1] at h; exact False.elim h
  | some p =>
    cases q2 : pyD (d c) with
    | none => rw [q1, q2] at h; exact False.elim h
    | some e =>
      rw [q1, q2] at h
      cases e with
      | list es =>
        obtain ⟨⟨h1, h2⟩, h3⟩ := need_fin h
        exact ⟨p, es, rep_dp s ra q1, rep_dp s rc q2, h1, h2, h3.here s B (.bl _)⟩
      | _ => exact False.elim h
theorem inL_v [PyV α] {a : α} {xs : List α} (ha : PyV.ok a) (hx : PyV.ok xs) (da : PyV.dm a ≤ 64) (dx : PyV.dm xs ≤ 64) : inL (d a) (d xs) = pure (xs.any fun z => eqB z a) := by
  unfold inL
  rw [PyV.h a, PyV.h xs]
  have h2 := shaped_v hx dx
  dsimp only [PyV.p] at h2 ⊢
  rw [need_T ⟨shaped_v ha da, h2⟩]
  simp only [pure_bind, List.any_map]
  rfl
end
end N

set_option Elab.async false
set_option linter.all false
set_option maxRecDepth 100000
set_option maxHeartbeats 4000000
/-! N50: truth values compared and looked for; the binding of two names. -/
namespace N
open PySem PySem.Spec PyProof.Rows L2 J
open ToD (d)
open ToDs (ds)
open M
theorem kw_pair {K : PySem.W.Frag} {x qual : Str} {params : Arguments} {body : List Stmt} {scope : Scope} {f : Addr} {fd : FuncData} {ps ks : List Str} (F : FunD K x qual params body scope [] [] f fd) (hk : ks.length = 2)
    (one : ∀ (kV doc pm : Value) (an : Option Addr) (cdv ct u v : Value), bindArgs (PySem.W.fnOf x qual params body scope .none kV doc pm an cdv ct) ⟨[], ks.zip [u, v]⟩ = pure (ps.zip [v, u])) : KBn K fd ps 0 ks revG revV := by
  obtain ⟨oc, od, dV, kV, doc, pm, an, cdv, ct, osl, rfl, lk, hcd, hD, hK⟩ := F.ex
  rcases hD with ⟨_, rfl⟩ | ⟨e, _⟩
  · refine ⟨fun s us ws X l1 l2 => ?_, fun r1 r2 => vals_rev r2⟩
    rw [hk] at l2
    match us, ws, l1, l2 with
    | [], [u, v], _, _ => exact .of_eq (one kV doc pm an cdv ct u v)
  · exact absurd rfl e
section
variable {K : PySem.W.Frag}
theorem om_neB : OpM K rNe (fun (i j : Bool) => (pure (!decide (i = j)) : M Bool)) := om_pure fun G H Q a c v w s ra rc k => by
  cases rep_bl ra; cases rep_bl rc
  refine ⟨rfl, ?_⟩
  have e : decide (V.bl a = V.bl c) = decide (a = c) := decide_eq_decide.mpr ⟨fun h => by cases h; rfl, fun h => by rw [h]⟩
  rw [e]
  exact k _ (.bl _)
instance : Flat Bool := ⟨.bl, fun r => rep_bl r, fun _ => rfl, inferInstance, fun a b => by cases a <;> cases b <;> rfl⟩
end
end N

set_option Elab.async false
set_option linter.all false
set_option maxRecDepth 100000
set_option maxHeartbeats 4000000
namespace K42
open PySem PySem.Spec PyProof.Rows L2 J N
open M
open ToD (d)
open ToDs (ds)
structure TT (P : Program) (w : World) (K : PySem.W.Frag) (mg : Str → Option Value) (base : Heap) : Prop where
  cl_Ratio : Cls K (He.ga K "Ratio")
  no_Ratio_above : NoAttr K (He.ga K "Ratio") "above"
  no_Ratio_under : NoAttr K (He.ga K "Ratio") "under"
  g_Ratio : mg "Ratio" = some (.ref (He.ga K "Ratio"))
  g_DrawError : mg "DrawError" = some (.ref (He.ga K "DrawError"))
  ops : OpsR K
  e_ByZero : ErrZ0 P w K mg base "ByZero"
  kT_Ratio : ∀ T ∈ (["int", "bool", "NoneType", "str", "list", "tuple", "dict"] : List String), PySem.W.kitOne K (.type T) (.ref (He.ga K "Ratio")) = some false
  fd_End_words : Fd K "End" "words"
  fd_Round_words : Fd K "Round" "words"
  fd_End_whole : Fd K "End" "whole"
  fd_Round_whole : Fd K "Round" "whole"
  fd_End_title : Fd K "End" "title"
  fd_Round_manner : Fd K "Round" "manner"
  fd_Round_seats : Fd K "Round" "seats"
  fd_Round_steps : Fd K "Round" "steps"
  fd_Round_further : Fd K "Round" "further"
  insc : ∀ c ∈ (["Ratio", "End", "Round"] : List Str), InsC K c
  nt_int : NoTy K ["Ratio", "End", "Round"] "int"
  nt_bool : NoTy K ["Ratio", "End", "Round"] "bool"
  nt_str : NoTy K ["Ratio", "End", "Round"] "str"
  nt_list : NoTy K ["Ratio", "End", "Round"] "list"
  nt_tuple : NoTy K ["Ratio", "End", "Round"] "tuple"
  nt_dict : NoTy K ["Ratio", "End", "Round"] "dict"
  kT_Draw : ∀ T ∈ (["int", "bool", "NoneType", "str", "list", "tuple", "dict"] : List String), PySem.W.kitOne K (.type T) (.ref (He.ga K "Draw")) = some false
  bl_Ratio : ∀ c ∈ (["Ratio", "End", "Round"] : List Str), PySem.W.kitOne K (.ref (He.ga K c)) (.ref (He.ga K "Ratio")) = some (decide (c ∈ (["Ratio"] : List Str)))
  bl_Draw : ∀ c ∈ (["Ratio", "End", "Round"] : List Str), PySem.W.kitOne K (.ref (He.ga K c)) (.ref (He.ga K "Draw")) = some (decide (c ∈ (["End", "Round"] : List Str)))
  clV_D : ∀ c ∈ (["End", "Round"] : List Str), Cls K (He.ga K c)
  clV_R : ∀ c ∈ (["Round"] : List Str), Cls K (He.ga K c)
  apV : ApartV K ["End", "Round"]
  neV : ∀ c ∈ (["End", "Round"] : List Str), NeC K (He.ga K c)
  neRt : NeC K (He.ga K "Ratio")
  s_int_Ratio : PySem.W.subIn K (.type "int") (.ref (He.ga K "Ratio")) = some false
  cl_End : Cls K (He.ga K "End")
  cl_Round : Cls K (He.ga K "Round")
  kc_End_Draw : PySem.W.kitOne K (.ref (He.ga K "End")) (.ref (He.ga K "Draw")) = some true
  kc_Round_Draw : PySem.W.kitOne K (.ref (He.ga K "Round")) (.ref (He.ga K "Draw")) = some true
  kc_End_Round : PySem.W.kitOne K (.ref (He.ga K "End")) (.ref (He.ga K "Round")) = some false
  kc_Round_End : PySem.W.kitOne K (.ref (He.ga K "Round")) (.ref (He.ga K "End")) = some false
  g_Draw : mg "Draw" = some (.ref (He.ga K "Draw"))
  g_End : mg "End" = some (.ref (He.ga K "End"))
  g_Round : mg "Round" = some (.ref (He.ga K "Round"))
  g_LETTERS : ∃ u, mg "LETTERS" = some u ∧ RelV (.str "abcdefghijklmnopqrstuvwxyz") u
  g_MOST_ROWS : ∃ u, mg "MOST_ROWS" = some u ∧ RelV (.int 16) u
  g_KINDS : ∃ p, mg "KINDS" = some (.ref p) ∧ ∀ G, Rep K G (.ref p) (d (VT.mk [("open" : Str), ("sealed" : Str), ("held" : Str), ("last" : Str)] : VT Str))
  m_abs : mg "abs" = none
  m_len : mg "len" = none
  m_int : mg "int" = none
  m_bool : mg "bool" = none
  m_str : mg "str" = none
  m_min : mg "min" = none
  m_max : mg "max" = none
  m_range : mg "range" = none
  m_repr : mg "repr" = none
  m_all : mg "all" = none
  m_any : mg "any" = none
  m_isinstance : mg "isinstance" = none
  m_tuple : mg "tuple" = none
  m_list : mg "list" = none
  m_sorted : mg "sorted" = none
  m_zip : mg "zip" = none
  e_BadNumber : ErrZ P w K mg base "BadNumber" "given"
  e_BadName : ErrZ P w K mg base "BadName" "given"
  e_BadKind : ErrZ P w K mg base "BadKind" "given"
  e_BadGivers : ErrZ P w K mg base "BadGivers" "given"
  e_Twice : ErrZ P w K mg base "Twice" "person"
  e_BadShares : ErrZ P w K mg base "BadShares" "given"
  e_BadStandIn : ErrZ P w K mg base "BadStandIn" "given"
  e_BadDraws : ErrZ P w K mg base "BadDraws" "given"
  e_TooMany : ErrZ P w K mg base "TooMany" "count"
  e_BadFamily : ErrZ P w K mg base "BadFamily" "given"
  e_BadNames : ErrZ P w K mg base "BadNames" "given"
  g_HALF : ∃ u, mg "HALF" = some u ∧ RelV (.int 2) u
  g_MOST_PEOPLE : ∃ u, mg "MOST_PEOPLE" = some u ∧ RelV (.int 6) u
section
variable {P : Program} {w : World} {K : PySem.W.Frag} {mg : Str → Option Value} {base : Heap} {f : Addr} {fd : FuncData}
theorem sc_common_part : FnScope ["one", "other"] (["one", "other"] : List Str) (defScope s_common_part) := ⟨rfl, rfl, rfl, by decide +kernel, rfl, by decide +kernel, by decide +kernel⟩
noncomputable def B_common_part (v_one : Int) (v_other : Int) : M Int := (((pure v_one) >>= fun a1 => pure (if a1 < 0 then -a1 else a1)) >>= fun a3 => (((pure v_other) >>= fun a2 => pure (if a2 < 0 then -a2 else a2)) >>= fun a4 => (after (whileM (fun (s5 : Int × Int) => ((pure s5.2) >>= fun x6 => ((pure (0 : Int)) >>= fun x7 => pure (!decide (x6 = x7))))) (fun s5 => ((pure s5.2) >>= fun a10 => (((pure s5.1) >>= fun x8 => ((pure s5.2) >>= fun x9 => modM x8 x9)) >>= fun a11 => pure (.nx (a10, a11))))) (v_other.natAbs + 2) (a3, a4)) (fun s5 => pure s5.1) id)))
noncomputable def m_common_part (v_one : Int) (v_other : Int) : Res Int := M.run (B_common_part v_one v_other)
abbrev sp_common_part (K : PySem.W.Frag) : Sp := spG K fun (i : Int × Int × Unit) => m_common_part i.1 i.2.1
theorem ok_common_part (F : FnP K "common_part" s_common_part f fd) (T : TT P w K mg base)  : FnOk P w K mg base (CXL P w) 1 f fd ["one", "other"] (sp_common_part K) := by
  refine F.ok sc_common_part (fun vs H Q E h => spG_len h (fun _ => rfl)) (fun cdv A outer s H vs Q E hr h => ?_)
  refine ⟨_, (pss_cons (ps_par (i := 0) (j := 1) rfl sc_common_part.nd rfl rfl (by decide) rfl rfl (pa_cons (pe_callB call_abs (by rfl) T.m_abs PyProof.Rows.boot_abs (pa_cons (pv 0) pa_nil)) (pa_cons (pe_callB call_abs (by rfl) T.m_abs PyProof.Rows.boot_abs (pa_cons (pv 1) pa_nil)) pa_nil)) rfl) (pss_cons (ps_while passes_cx (pt_cmpR op_ne (pv 1) pe_int (nomark _)) (pss_one (ps_par (i := 0) (j := 1) rfl sc_common_part.nd rfl rfl (by decide) rfl rfl (pa_cons (pv 1) (pa_cons (pe_op op_mod (pv 0) (pv 1)) pa_nil)) rfl))) (pss_one (ps_ret (pv 0))))), ?_⟩
  refine fn_rd (n := 0) (mb := fun i => B_common_part i.1 i.2.1) h (fun i => by show m_common_part i.1 i.2.1 = M.run (B_common_part i.1 i.2.1); unfold m_common_part; rfl) (fun _ => rfl) (fun i => ?_)
  obtain ⟨v_one, v_other, _⟩ := i
  show Rd K _ _ _ [.val (d v_one), .val (d v_other)] (B_common_part v_one v_other)
  unfold B_common_part
  exact (rd_par' (ec_cons (ev_cb' cm_absI (ec_cons (ev_var (i := 0) (a := v_one)) ec_nil)) (ec_cons (ev_cb' cm_absI (ec_cons (ev_var (i := 1) (a := v_other)) ec_nil)) ec_nil)) (fun (a3 : Int) (a4 : Int) => (rd_while (S := Int × Int) (ρ := Int) (rk := id) (n := v_other.natAbs + 2) (Γn := fun s5 => [.val (d s5.1), .val (d s5.2)]) (s0 := (a3, a4)) (.eq (.eq .nil)) rk_id (fun s5 => (et_test (ev_op om_neI (ev_var (i := 1) (a := s5.2)) ev_int))) (fun s5 => (rd_nil (rd_par' (ec_cons (ev_var (i := 1) (a := s5.2)) (ec_cons (ev_op om_mod (ev_var (i := 0) (a := s5.1)) (ev_var (i := 1) (a := s5.2))) ec_nil)) (fun (a10 : Int) (a11 : Int) => (rd_nx (s := (a10, a11)) (.eq (.eq .nil))))))) (fun s5 => (rd_nil (rd_rets (ev_var (i := 0) (a := s5.1))))))))
theorem sc_is_integer : FnScope ["value"] (["value"] : List Str) (defScope s_is_integer) := ⟨rfl, rfl, rfl, by decide +kernel, rfl, by decide +kernel, by decide +kernel⟩
noncomputable def B_is_integer (v_value : D) : M Bool := (((pure v_value) >>= fun x1 => ((need (KnownD ["Ratio", "End", "Round"] x1)) >>= fun _ => pure (isIntB x1))) >>= fun x4 => if x4 = true then (((pure v_value) >>= fun x2 => ((need (KnownD ["Ratio", "End", "Round"] x2)) >>= fun _ => pure (isBlB x2))) >>= fun x3 => pure (!x3)) else pure false)
noncomputable def m_is_integer (v_value : D) : Res Bool := M.run (B_is_integer v_value)
abbrev sp_is_integer (K : PySem.W.Frag) : Sp := spG K fun (i : D × Unit) => m_is_integer i.1
theorem ok_is_integer (F : FnP K "is_integer" s_is_integer f fd) (T : TT P w K mg base)  : FnOk P w K mg base (CXL P w) 1 f fd ["value"] (sp_is_integer K) := by
  refine F.ok sc_is_integer (fun vs H Q E h => spG_len h (fun _ => rfl)) (fun cdv A outer s H vs Q E hr h => ?_)
  refine ⟨_, (pss_one (ps_ret (pe_and (pe_callB (call_isiK' (K := K) rfl) (by rfl) T.m_isinstance PyProof.Rows.boot_isinstance (pa_cons (pv 0) (pa_cons (pe_bltn (v := .ty "int") (by rfl) T.m_int (by decide +kernel) rfl) pa_nil))) (pe_one (pe_not (pe_callB (call_isiK' (K := K) rfl) (by rfl) T.m_isinstance PyProof.Rows.boot_isinstance (pa_cons (pv 0) (pa_cons (pe_bltn (v := .ty "bool") (by rfl) T.m_bool (by decide +kernel) rfl) pa_nil)))))))), ?_⟩
  refine fn_rd (n := 0) (mb := fun i => B_is_integer i.1) h (fun i => by show m_is_integer i.1 = M.run (B_is_integer i.1); unfold m_is_integer; rfl) (fun _ => rfl) (fun i => ?_)
  obtain ⟨v_value, _⟩ := i
  show Rd K _ _ _ [.val (d v_value)] (B_is_integer v_value)
  unfold B_is_integer
  exact (rd_nil (rd_rets (ev_and (ev_isiD (bf := fun x => isIntB x) T.insc (ClsV.ty _) (isi_intC T.nt_int) (ev_var (i := 0) (a := v_value))) (ev_not (ev_isiD (bf := fun x => isBlB x) T.insc (ClsV.ty _) (isi_boolC T.nt_bool) (ev_var (i := 0) (a := v_value)))))))
theorem sc_Ratio___init__ : FnScope ["self", "top", "bottom", "part"] (["self", "top", "bottom"] : List Str) (defScope s_Ratio___init__) := ⟨rfl, rfl, rfl, by decide +kernel, rfl, by decide +kernel, by decide +kernel⟩
noncomputable def B_Ratio___init__ (v_top : Int) (v_bottom : Int) : M (List (Str × D)) := (((pure v_bottom) >>= fun x1 => ((pure (0 : Int)) >>= fun x2 => pure (decide (x1 = x2)))) >>= fun c3 => if c3 = true then (M.raise "ByZero" []) else (((pure v_top) >>= fun a4 => ((pure v_bottom) >>= fun a5 => lft (m_common_part a4 a5))) >>= fun v_part => (((pure v_bottom) >>= fun x6 => ((pure (0 : Int)) >>= fun x7 => pure (decide (x6 < x7)))) >>= fun c8 => ((if c8 = true then (((pure v_part) >>= fun x10 => pure (-x10)) >>= fun v_part => pure v_part) else pure v_part) >>= fun s9 => (((pure v_top) >>= fun x11 => ((pure s9) >>= fun x12 => fdivM x11 x12)) >>= fun x13 => (((pure v_bottom) >>= fun x14 => ((pure s9) >>= fun x15 => fdivM x14 x15)) >>= fun x16 => pure (putD "under" (d x16) (putD "above" (d x13) []))))))))
noncomputable def m_Ratio___init__ (v_top : Int) (v_bottom : Int) : Res (List (Str × D)) := M.run (B_Ratio___init__ v_top v_bottom)
abbrev sp_Ratio___init__ (K : PySem.W.Frag) : Sp := spI K (He.ga K "Ratio") [] fun (i : Int × Int × Unit) => m_Ratio___init__ i.1 i.2.1
theorem ok_Ratio___init__ (F : FunD K "__init__" "Ratio.__init__" (defArgs s_Ratio___init__) (defBody s_Ratio___init__) (defScope s_Ratio___init__) [.int 1] [] f fd) (T : TT P w K mg base) (c_common_part : Cal P w K mg base "common_part" ["one", "other"] 1 (sp_common_part K)) : FnOk P w K mg base (CXL P w) 3 f fd ["self", "top", "bottom"] (sp_Ratio___init__ K) := by
  refine F.ok sc_Ratio___init__ (fun vs H Q E h => spI_len h (fun _ => rfl)) (fun cdv A outer s H vs Q E hr h => ?_)
  refine ⟨_, (pss_cons (ps_if (pt_cmpR op_eq (pv 2) pe_int (nomark _)) (pss_one (ps_raiseE0 rfl takes_cx T.e_ByZero (hr.mono (by decide)) (by rfl))) pss_nil) (pss_cons (ps_set (i := 3) sc_Ratio___init__.nd rfl (Or.inl rfl) (pe_calS takes_cx c_common_part (hr.mono (by decide)) (by rfl) (pa_cons (pv 1) (pa_cons (pv 2) pa_nil)))) (pss_cons (ps_if (pt_cmpR op_lt (pv 2) pe_int (nomark _)) (pss_one (ps_set (i := 3) sc_Ratio___init__.nd rfl (Or.inl rfl) (pe_un un_neg (pv 3)))) pss_nil) (pss_cons (ps_fld (pv 0) (pe_op op_fdivZ (pv 1) (pv 3)) rfl) (pss_one (ps_fld (pv 0) (pe_op op_fdivZ (pv 2) (pv 3)) rfl)))))), ?_⟩
  refine fn_ini (n := 1) (n2 := 3) (mb := fun i => B_Ratio___init__ i.1 i.2.1) rfl h (fun i => by show m_Ratio___init__ i.1 i.2.1 = M.run (B_Ratio___init__ i.1 i.2.1); unfold m_Ratio___init__; rfl) (fun _ => rfl) rfl (fun a dx i => ?_)
  obtain ⟨v_top, v_bottom, _⟩ := i
  show Rd K _ _ _ [.slf a dx "Ratio" [], .val (d v_top), .val (d v_bottom), .any] (B_Ratio___init__ v_top v_bottom)
  unfold B_Ratio___init__
  exact (rd_if (et_test (ev_op om_eqI (ev_var (i := 2) (a := v_bottom)) ev_int)) (rd_raise0 (c := "ByZero") rfl) (rd_skip (rd_set (ev_call' (ec_cons (ev_var (i := 1) (a := v_top)) (ec_cons (ev_var (i := 2) (a := v_bottom)) ec_nil))) (fun (v_part : Int) => (rd_join (S := Int) (Γn := fun s9 => [.slf a dx "Ratio" [], .val (d v_top), .val (d v_bottom), .val (d s9)]) (et_test (ev_op om_ltI (ev_var (i := 2) (a := v_bottom)) ev_int)) (rd_nil (rd_set (ev_un um_neg (ev_var (i := 3) (a := v_part))) (fun (v_part : Int) => (rd_next (s := v_part) (.eq (.eq (.eq (.eq .nil)))))))) (rd_next (s := v_part) (.eq (.eq (.eq (.eq .nil))))) (fun s9 => (rd_sfld (p := a) (dx := dx) (fs := []) T.cl_Ratio T.no_Ratio_above (ev_op om_fdivZ (ev_var (i := 1) (a := v_top)) (ev_var (i := 3) (a := s9))) (fun (x13 : Int) => (rd_nil (rd_sfld (p := a) (dx := dx) (fs := (putD "above" (d x13) [])) T.cl_Ratio T.no_Ratio_under (ev_op om_fdivZ (ev_var (i := 2) (a := v_bottom)) (ev_var (i := 3) (a := s9))) (fun (x16 : Int) => (rd_ini (fs := (putD "under" (d x16) (putD "above" (d x13) []))) (n := 3) (.eq (.any (.any (.any .nil))))))))))))))))
noncomputable def newRt (t b : Int) : Res Rt := newOf (m_Ratio___init__ t b)
noncomputable def newRt1 (t : Int) : Res Rt := newOf (m_Ratio___init__ t 1)
section
variable {W : WX} {Γ : List Sl} {K : PySem.W.Frag}
theorem mk2_Ratio {t : TA} {mk : ∀ {θ : Type}, (Int × Int × Unit → M θ) → M θ} {m : M Rt} (h : EvC (ι := Int × Int × Unit) K W t Γ mk) (e : m = mk fun i => lft (newRt i.1 i.2.1) := by rfl) : EvR K W (tMakeS (He.ga K "Ratio") (sp_Ratio___init__ K) [] (WE W) t) Γ m :=
  ev_make' (α := Rt) rfl (fun i => i) (fun G vs i r => by rw [List.append_nil]; exact r) (fun i => newOf_ok _) h e
theorem mk1_Ratio {t : TA} {mk : ∀ {θ : Type}, (Int × Unit → M θ) → M θ} {m : M Rt} (h : EvC (ι := Int × Unit) K W t Γ mk) (e : m = mk fun i => lft (newRt1 i.1) := by rfl) : EvR K W (tMakeS (He.ga K "Ratio") (sp_Ratio___init__ K) [.int 1] (WE W) t) Γ m :=
  ev_make' (α := Rt) rfl (fun (i : Int × Unit) => ((i.1, 1, ()) : Int × Int × Unit)) (fun G vs i r => by
    obtain ⟨v, rfl, r1⟩ := reps1 (a := i.1) r
    exact .cons r1 (.cons (.int 1) .nil)) (fun i => newOf_ok _) h e
end
theorem sc_parts_of : FnScope ["number"] (["number"] : List Str) (defScope s_parts_of) := ⟨rfl, rfl, rfl, by decide +kernel, rfl, by decide +kernel, by decide +kernel⟩
def m_parts_of (v_number : Nm) : Res (Int × Int) := .ok (v_number.n, v_number.u)
abbrev sp_parts_of (K : PySem.W.Frag) : Sp := spG K fun (i : Nm × Unit) => m_parts_of i.1
theorem ok_parts_of (F : FnP K "parts_of" s_parts_of f fd) (T : TT P w K mg base) : FnOk P w K mg base (CXL P w) 1 f fd ["number"] (sp_parts_of K) := by
  refine F.ok sc_parts_of (fun vs H Q E h => spG_len h (fun _ => rfl)) (fun cdv A outer s H vs Q E hr h => ?_)
  refine ⟨_, (pss_one (ps_ret (pe_ifExp (pt_val (pe_callB call_isi (by rfl) T.m_isinstance PyProof.Rows.boot_isinstance (pa_cons (pv 0) (pa_cons (pe_glob (v := .ref (He.ga K "Ratio")) (by rfl) T.g_Ratio rfl) pa_nil)))) (pe_tup (pa_cons (pe_fld (pv 0) rfl) (pa_cons (pe_fld (pv 0) rfl) pa_nil))) (pe_tup (pa_cons (pv 0) (pa_cons pe_int pa_nil)))))), ?_⟩
  obtain ⟨⟨x, _⟩, G, s, rs, hf⟩ := h
  obtain ⟨v, rfl, r⟩ := reps1 rs
  have done : ∀ p, H p = none → Q (.ref p) (upd H p (.tup [.int x.n, .int x.u])) := fun p hp => hf _ _ _ (Ex.new s hp) (.tup (.inl (.inl upd_same)) (.cons (.int _) (.cons (.int _) .nil)))
  cases x with
  | i n =>
    cases rep_int (i := n) r
    exact ⟨_, rfl, .int n, _, _, _, false, rfl, .own _, .base (.int n), T.kT_Ratio _ (by simp), false, rfl, iteF ⟨_, rfl, small_sl (by show 2 ≤ 1000; decide), done⟩⟩
  | r q =>
    obtain ⟨p, dx, vs, rfl, hp, rf⟩ := rep_ins (c := "Ratio") (fs := InsOf.fs q) r
    have f := T.insc "Ratio" (by simp)
    obtain ⟨w1, l1, r1⟩ := rf.look (n := "above") (d := .int q.n) rfl
    obtain ⟨w2, l2, r2⟩ := rf.look (n := "under") (d := .int q.u) rfl
    cases r1; cases r2
    have e := s _ _ hp
    exact ⟨_, rfl, .ref p, _, _, _, true, rfl, .own _, .base (.ins e f.cl f.c1 f.c2 f.c3 f.c4), kit_self, true, rfl, iteT ⟨_, rfl, p, _, dx, vs, _, rfl, e, T.cl_Ratio, T.no_Ratio_above, l1, _, rfl, p, _, dx, vs, _, rfl, e, T.cl_Ratio, T.no_Ratio_under, l2, small_sl (by show 2 ≤ 1000; decide), done⟩⟩
theorem sc_Ratio___add__ : FnScope ["self", "other", "up", "down"] (["self", "other"] : List Str) (defScope s_Ratio___add__) := ⟨rfl, rfl, rfl, by decide +kernel, rfl, by decide +kernel, by decide +kernel⟩
noncomputable def B_Ratio___add__ (v_self : Rt) (v_other : Nm) : M Rt := (((pure v_other) >>= fun a1 => lft (m_parts_of a1)) >>= fun p2 => (((((pure v_self) >>= fun x3 => pure x3.n) >>= fun x4 => ((pure p2.2) >>= fun x5 => mulM x4 x5)) >>= fun x9 => (((pure p2.1) >>= fun x7 => (((pure v_self) >>= fun x6 => pure x6.u) >>= fun x8 => mulM x7 x8)) >>= fun x10 => pure (x9 + x10))) >>= fun a14 => ((((pure v_self) >>= fun x11 => pure x11.u) >>= fun x12 => ((pure p2.2) >>= fun x13 => mulM x12 x13)) >>= fun a15 => lft (newRt a14 a15))))
noncomputable def m_Ratio___add__ (v_self : Rt) (v_other : Nm) : Res Rt := M.run (B_Ratio___add__ v_self v_other)
abbrev sp_Ratio___add__ (K : PySem.W.Frag) : Sp := spG K fun (i : Rt × Nm × Unit) => m_Ratio___add__ i.1 i.2.1
theorem ok_Ratio___add__ (F : FnM K "__add__" "Ratio.__add__" s_Ratio___add__ f fd) (T : TT P w K mg base) (c_parts_of : Cal P w K mg base "parts_of" ["number"] 1 (sp_parts_of K)) (k2_Ratio : KCal P w K mg base "Ratio" (He.ga K "Ratio") ["self", "top", "bottom"] 3 (sp_Ratio___init__ K) []) : FnOk P w K mg base (CXL P w) 5 f fd ["self", "other"] (sp_Ratio___add__ K) := by
  refine F.ok sc_Ratio___add__ (fun vs H Q E h => spG_len h (fun _ => rfl)) (fun cdv A outer s H vs Q E hr h => ?_)
  refine ⟨_, (pss_cons (ps_asg (pe_calS takes_cx c_parts_of (hr.mono (by decide)) (by rfl) (pa_cons (pv 1) pa_nil)) (pg_tup rfl (pgs_cons (pg_name (i := 2) sc_Ratio___add__.nd rfl (Or.inl rfl)) (pgs_cons (pg_name (i := 3) sc_Ratio___add__.nd rfl (Or.inl rfl)) pgs_nil)))) (pss_one (ps_ret (pe_kcalS takes_cx k2_Ratio (hr.mono (by decide)) (by rfl) (pa_cons (pe_op op_add (pe_op op_mulW (pe_fldK (K := K) rfl (pv 0) rfl) (pv 3)) (pe_op op_mulW (pv 2) (pe_fldK (K := K) rfl (pv 0) rfl))) (pa_cons (pe_op op_mulW (pe_fldK (K := K) rfl (pv 0) rfl) (pv 3)) pa_nil)))))), ?_⟩
  refine fn_rd (n := 2) (mb := fun i => B_Ratio___add__ i.1 i.2.1) h (fun i => by show m_Ratio___add__ i.1 i.2.1 = M.run (B_Ratio___add__ i.1 i.2.1); unfold m_Ratio___add__; rfl) (fun _ => rfl) (fun i => ?_)
  obtain ⟨v_self, v_other, _⟩ := i
  show Rd K _ _ _ [.val (d v_self), .val (d v_other), .any, .any] (B_Ratio___add__ v_self v_other)
  unfold B_Ratio___add__
  exact (rd_tg tg_2 up2 (ev_call' (ec_cons (ev_var (i := 1) (a := v_other)) ec_nil)) (fun (p2 : (Int × Int)) => (rd_nil (rd_rets (mk2_Ratio (ec_cons (ev_op om_addI (ev_op om_mulW (ev_fld (g := fun x => x.n) (ev_var (i := 0) (a := v_self)) T.cl_Ratio T.no_Ratio_above) (ev_var (i := 3) (a := p2.2))) (ev_op om_mulW (ev_var (i := 2) (a := p2.1)) (ev_fld (g := fun x => x.u) (ev_var (i := 0) (a := v_self)) T.cl_Ratio T.no_Ratio_under))) (ec_cons (ev_op om_mulW (ev_fld (g := fun x => x.u) (ev_var (i := 0) (a := v_self)) T.cl_Ratio T.no_Ratio_under) (ev_var (i := 3) (a := p2.2))) ec_nil)))))))
theorem sc_Ratio___eq__ : FnScope ["self", "other"] (["self", "other"] : List Str) (defScope s_Ratio___eq__) := ⟨rfl, rfl, rfl, by decide +kernel, rfl, by decide +kernel, by decide +kernel⟩
noncomputable def B_Ratio___eq__ (v_self : Rt) (v_other : Nm) : M Bool := (((pure v_other) >>= fun x1 => pure (Nm.isRt x1)) >>= fun c2 => if c2 = true then ((((pure v_self) >>= fun x3 => pure x3.n) >>= fun x6 => ((((pure v_other) >>= fun x4 => unopt (Nm.r? x4)) >>= fun x5 => pure x5.n) >>= fun x7 => pure (decide (x6 = x7)))) >>= fun x13 => if x13 = true then (((pure v_self) >>= fun x8 => pure x8.u) >>= fun x11 => ((((pure v_other) >>= fun x9 => unopt (Nm.r? x9)) >>= fun x10 => pure x10.u) >>= fun x12 => pure (decide (x11 = x12)))) else pure false) else ((((pure v_other) >>= fun x14 => pure ((d x14 : D))) >>= fun a15 => lft (m_is_integer a15)) >>= fun x26 => if x26 = true then ((((pure v_self) >>= fun x16 => pure x16.u) >>= fun x17 => ((pure (1 : Int)) >>= fun x18 => pure (decide (x17 = x18)))) >>= fun x25 => if x25 = true then (((pure v_self) >>= fun x19 => pure x19.n) >>= fun x23 => (((pure v_other) >>= fun x22 => unopt (Nm.i? x22)) >>= fun x24 => pure (decide (x23 = x24)))) else pure false) else pure false))
noncomputable def m_Ratio___eq__ (v_self : Rt) (v_other : Nm) : Res Bool := M.run (B_Ratio___eq__ v_self v_other)
abbrev sp_Ratio___eq__ (K : PySem.W.Frag) : Sp := spG K fun (i : Rt × Nm × Unit) => m_Ratio___eq__ i.1 i.2.1
theorem ok_Ratio___eq__ (F : FnM K "__eq__" "Ratio.__eq__" s_Ratio___eq__ f fd) (T : TT P w K mg base) (c_is_integer : Cal P w K mg base "is_integer" ["value"] 1 (sp_is_integer K)) : FnOk P w K mg base (CXL P w) 2 f fd ["self", "other"] (sp_Ratio___eq__ K) := by
  refine F.ok sc_Ratio___eq__ (fun vs H Q E h => spG_len h (fun _ => rfl)) (fun cdv A outer s H vs Q E hr h => ?_)
  refine ⟨_, (pss_cons (ps_if (pt_val (pe_callB (call_isiK' (K := K) rfl) (by rfl) T.m_isinstance PyProof.Rows.boot_isinstance (pa_cons (pv 1) (pa_cons (pe_glob (v := .ref (He.ga K "Ratio")) (by rfl) T.g_Ratio rfl) pa_nil)))) (pss_one (ps_ret (pe_and (pe_cmpR op_eq (pe_fldK (K := K) rfl (pv 0) rfl) (pe_fldK (K := K) rfl (pv 1) rfl) (nomark _)) (pe_one (pe_cmpR op_eq (pe_fldK (K := K) rfl (pv 0) rfl) (pe_fldK (K := K) rfl (pv 1) rfl) (nomark _)))))) pss_nil) (pss_one (ps_ret (pe_and (pe_calS takes_cx c_is_integer (hr.mono (by decide)) (by rfl) (pa_cons (pv 1) pa_nil)) (pe_and (pe_cmpR op_eq (pe_fldK (K := K) rfl (pv 0) rfl) pe_int (nomark _)) (pe_one (pe_cmpR op_eq (pe_fldK (K := K) rfl (pv 0) rfl) (pv 1) (nomark _)))))))), ?_⟩
  refine fn_rd (n := 0) (mb := fun i => B_Ratio___eq__ i.1 i.2.1) h (fun i => by show m_Ratio___eq__ i.1 i.2.1 = M.run (B_Ratio___eq__ i.1 i.2.1); unfold m_Ratio___eq__; rfl) (fun _ => rfl) (fun i => ?_)
  obtain ⟨v_self, v_other, _⟩ := i
  show Rd K _ _ _ [.val (d v_self), .val (d v_other)] (B_Ratio___eq__ v_self v_other)
  unfold B_Ratio___eq__
  exact (rd_if (et_val (ev_isi (bf := fun x => Nm.isRt x) T.insc (ClsV.own _) (nm_known) (nm_kit (T.kT_Ratio "int" (by simp))) (ev_var (i := 1) (a := v_other)))) (rd_rets (ev_and (ev_op om_eqI (ev_fld (g := fun x => x.n) (ev_var (i := 0) (a := v_self)) T.cl_Ratio T.no_Ratio_above) (ev_fld (g := fun x => x.n) (ev_nar (g := Nm.r?) nm_r (ev_var (i := 1) (a := v_other))) T.cl_Ratio T.no_Ratio_above)) (ev_op om_eqI (ev_fld (g := fun x => x.u) (ev_var (i := 0) (a := v_self)) T.cl_Ratio T.no_Ratio_under) (ev_fld (g := fun x => x.u) (ev_nar (g := Nm.r?) nm_r (ev_var (i := 1) (a := v_other))) T.cl_Ratio T.no_Ratio_under)))) (rd_skip (rd_nil (rd_rets (ev_and (ev_call' (ec_cons (ev_as (α := Nm) (β := D) (f := fun x => ((d x : D))) (ev_var (i := 1) (a := v_other)) (fun _ => rfl)) ec_nil)) (ev_and (ev_op om_eqI (ev_fld (g := fun x => x.u) (ev_var (i := 0) (a := v_self)) T.cl_Ratio T.no_Ratio_under) ev_int) (ev_op om_eqI (ev_fld (g := fun x => x.n) (ev_var (i := 0) (a := v_self)) T.cl_Ratio T.no_Ratio_above) (ev_nar (g := Nm.i?) nm_i (ev_var (i := 1) (a := v_other))))))))))
theorem sc_Ratio___str__ : FnScope ["self"] (["self"] : List Str) (defScope s_Ratio___str__) := ⟨rfl, rfl, rfl, by decide +kernel, rfl, by decide +kernel, by decide +kernel⟩
noncomputable def B_Ratio___str__ (v_self : Rt) : M Str := ((((pure v_self) >>= fun x1 => pure x1.u) >>= fun x2 => ((pure (1 : Int)) >>= fun x3 => pure (decide (x2 = x3)))) >>= fun c4 => if c4 = true then (((pure v_self) >>= fun x5 => pure x5.n) >>= fun a6 => fmtI a6) else (joinM [(((pure v_self) >>= fun x7 => pure x7.n) >>= fun x8 => fmtI x8), pure ("/" : Str), (((pure v_self) >>= fun x9 => pure x9.u) >>= fun x10 => fmtI x10)] Str.empty))
noncomputable def m_Ratio___str__ (v_self : Rt) : Res Str := M.run (B_Ratio___str__ v_self)
abbrev sp_Ratio___str__ (K : PySem.W.Frag) : Sp := spG K fun (i : Rt × Unit) => m_Ratio___str__ i.1
theorem ok_Ratio___str__ (F : FnM K "__str__" "Ratio.__str__" s_Ratio___str__ f fd) (T : TT P w K mg base)  : FnOk P w K mg base (CXL P w) 1 f fd ["self"] (sp_Ratio___str__ K) := by
  refine F.ok sc_Ratio___str__ (fun vs H Q E h => spG_len h (fun _ => rfl)) (fun cdv A outer s H vs Q E hr h => ?_)
  refine ⟨_, (pss_cons (ps_if (pt_cmpR op_eq (pe_fldK (K := K) rfl (pv 0) rfl) pe_int (nomark _)) (pss_one (ps_ret (pe_callTy call_str_int (by rfl) T.m_str (by decide +kernel) (pa_cons (pe_fldK (K := K) rfl (pv 0) rfl) pa_nil)))) pss_nil) (pss_one (ps_ret (pe_joined (PJ.cons (pe_fmt (pe_fldK (K := K) rfl (pv 0) rfl)) (PJ.cons pe_str (PJ.cons (pe_fmt (pe_fldK (K := K) rfl (pv 0) rfl)) PJ.nil))))))), ?_⟩
  refine fn_rd (n := 0) (mb := fun i => B_Ratio___str__ i.1) h (fun i => by show m_Ratio___str__ i.1 = M.run (B_Ratio___str__ i.1); unfold m_Ratio___str__; rfl) (fun _ => rfl) (fun i => ?_)
  obtain ⟨v_self, _⟩ := i
  show Rd K _ _ _ [.val (d v_self)] (B_Ratio___str__ v_self)
  unfold B_Ratio___str__
  exact (rd_if (et_test (ev_op om_eqI (ev_fld (g := fun x => x.u) (ev_var (i := 0) (a := v_self)) T.cl_Ratio T.no_Ratio_under) ev_int)) (rd_rets (ev_cb' cm_strI (ec_cons (ev_fld (g := fun x => x.n) (ev_var (i := 0) (a := v_self)) T.cl_Ratio T.no_Ratio_above) ec_nil))) (rd_skip (rd_nil (rd_rets (ev_joined' (ej_cons (ev_fmtI (ev_fld (g := fun x => x.n) (ev_var (i := 0) (a := v_self)) T.cl_Ratio T.no_Ratio_above)) (ej_cons ev_str (ej_cons (ev_fmtI (ev_fld (g := fun x => x.u) (ev_var (i := 0) (a := v_self)) T.cl_Ratio T.no_Ratio_under)) ej_nil))))))))
theorem sc_Ratio_below : FnScope ["self", "number", "up", "down"] (["self", "number"] : List Str) (defScope s_Ratio_below) := ⟨rfl, rfl, rfl, by decide +kernel, rfl, by decide +kernel, by decide +kernel⟩
noncomputable def B_Ratio_below (v_self : Rt) (v_number : Nm) : M Bool := (((pure v_number) >>= fun a1 => lft (m_parts_of a1)) >>= fun p2 => ((((pure v_self) >>= fun x3 => pure x3.n) >>= fun x4 => ((pure p2.2) >>= fun x5 => mulM x4 x5)) >>= fun x9 => (((pure p2.1) >>= fun x7 => (((pure v_self) >>= fun x6 => pure x6.u) >>= fun x8 => mulM x7 x8)) >>= fun x10 => pure (decide (x9 < x10)))))
noncomputable def m_Ratio_below (v_self : Rt) (v_number : Nm) : Res Bool := M.run (B_Ratio_below v_self v_number)
abbrev sp_Ratio_below (K : PySem.W.Frag) : Sp := spG K fun (i : Rt × Nm × Unit) => m_Ratio_below i.1 i.2.1
theorem ok_Ratio_below (F : FnM K "below" "Ratio.below" s_Ratio_below f fd) (T : TT P w K mg base) (c_parts_of : Cal P w K mg base "parts_of" ["number"] 1 (sp_parts_of K)) : FnOk P w K mg base (CXL P w) 2 f fd ["self", "number"] (sp_Ratio_below K) := by
  refine F.ok sc_Ratio_below (fun vs H Q E h => spG_len h (fun _ => rfl)) (fun cdv A outer s H vs Q E hr h => ?_)
  refine ⟨_, (pss_cons (ps_asg (pe_calS takes_cx c_parts_of (hr.mono (by decide)) (by rfl) (pa_cons (pv 1) pa_nil)) (pg_tup rfl (pgs_cons (pg_name (i := 2) sc_Ratio_below.nd rfl (Or.inl rfl)) (pgs_cons (pg_name (i := 3) sc_Ratio_below.nd rfl (Or.inl rfl)) pgs_nil)))) (pss_one (ps_ret (pe_cmpR op_lt (pe_op op_mulW (pe_fldK (K := K) rfl (pv 0) rfl) (pv 3)) (pe_op op_mulW (pv 2) (pe_fldK (K := K) rfl (pv 0) rfl)) (nomark _))))), ?_⟩
  refine fn_rd (n := 2) (mb := fun i => B_Ratio_below i.1 i.2.1) h (fun i => by show m_Ratio_below i.1 i.2.1 = M.run (B_Ratio_below i.1 i.2.1); unfold m_Ratio_below; rfl) (fun _ => rfl) (fun i => ?_)
  obtain ⟨v_self, v_number, _⟩ := i
  show Rd K _ _ _ [.val (d v_self), .val (d v_number), .any, .any] (B_Ratio_below v_self v_number)
  unfold B_Ratio_below
  exact (rd_tg tg_2 up2 (ev_call' (ec_cons (ev_var (i := 1) (a := v_number)) ec_nil)) (fun (p2 : (Int × Int)) => (rd_nil (rd_rets (ev_op om_ltI (ev_op om_mulW (ev_fld (g := fun x => x.n) (ev_var (i := 0) (a := v_self)) T.cl_Ratio T.no_Ratio_above) (ev_var (i := 3) (a := p2.2))) (ev_op om_mulW (ev_var (i := 2) (a := p2.1)) (ev_fld (g := fun x => x.u) (ev_var (i := 0) (a := v_self)) T.cl_Ratio T.no_Ratio_under)))))))
theorem sc_Ratio_text : FnScope ["self"] (["self"] : List Str) (defScope s_Ratio_text) := ⟨rfl, rfl, rfl, by decide +kernel, rfl, by decide +kernel, by decide +kernel⟩
noncomputable def B_Ratio_text (v_self : Rt) : M Str := ((pure v_self) >>= fun a1 => strict (lft (m_Ratio___str__ a1)))
noncomputable def m_Ratio_text (v_self : Rt) : Res Str := M.run (B_Ratio_text v_self)
abbrev sp_Ratio_text (K : PySem.W.Frag) : Sp := spG K fun (i : Rt × Unit) => m_Ratio_text i.1
theorem ok_Ratio_text (F : FnM K "text" "Ratio.text" s_Ratio_text f fd) (T : TT P w K mg base) (m_Ratio___str__ : MCal P w K mg base (He.ga K "Ratio") "__str__" ["self"] 1 (sp_Ratio___str__ K)) : FnOk P w K mg base (CXL P w) 4 f fd ["self"] (sp_Ratio_text K) := by
  refine F.ok sc_Ratio_text (fun vs H Q E h => spG_len h (fun _ => rfl)) (fun cdv A outer s H vs Q E hr h => ?_)
  refine ⟨_, (pss_one (ps_ret (pe_callTy (nr_strK (K := K) rfl m_Ratio___str__ (hr.mono (by decide))) (by rfl) T.m_str (by decide +kernel) (pa_cons (pv 0) pa_nil)))), ?_⟩
  refine fn_rd (n := 0) (mb := fun i => B_Ratio_text i.1) h (fun i => by show m_Ratio_text i.1 = M.run (B_Ratio_text i.1); unfold m_Ratio_text; rfl) (fun _ => rfl) (fun i => ?_)
  obtain ⟨v_self, _⟩ := i
  show Rd K _ _ _ [.val (d v_self)] (B_Ratio_text v_self)
  unfold B_Ratio_text
  exact (rd_nil (rd_rets (ev_cb' (cm_strOwn (α := Rt) rfl) (ec_cons (ev_var (i := 0) (a := v_self)) ec_nil))))
theorem sc_is_number : FnScope ["value"] (["value"] : List Str) (defScope s_is_number) := ⟨rfl, rfl, rfl, by decide +kernel, rfl, by decide +kernel, by decide +kernel⟩
noncomputable def B_is_number (v_value : D) : M Bool := (((pure v_value) >>= fun a1 => lft (m_is_integer a1)) >>= fun x3 => if x3 = true then pure true else ((pure v_value) >>= fun x2 => ((need (KnownD ["Ratio", "End", "Round"] x2)) >>= fun _ => pure (isBelow ["Ratio"] x2))))
noncomputable def m_is_number (v_value : D) : Res Bool := M.run (B_is_number v_value)
abbrev sp_is_number (K : PySem.W.Frag) : Sp := spG K fun (i : D × Unit) => m_is_number i.1
theorem ok_is_number (F : FnP K "is_number" s_is_number f fd) (T : TT P w K mg base) (c_is_integer : Cal P w K mg base "is_integer" ["value"] 1 (sp_is_integer K)) : FnOk P w K mg base (CXL P w) 2 f fd ["value"] (sp_is_number K) := by
  refine F.ok sc_is_number (fun vs H Q E h => spG_len h (fun _ => rfl)) (fun cdv A outer s H vs Q E hr h => ?_)
  refine ⟨_, (pss_one (ps_ret (pe_or (pe_calS takes_cx c_is_integer (hr.mono (by decide)) (by rfl) (pa_cons (pv 0) pa_nil)) (pe_one (pe_callB (call_isiK' (K := K) rfl) (by rfl) T.m_isinstance PyProof.Rows.boot_isinstance (pa_cons (pv 0) (pa_cons (pe_glob (v := .ref (He.ga K "Ratio")) (by rfl) T.g_Ratio rfl) pa_nil))))))), ?_⟩
  refine fn_rd (n := 0) (mb := fun i => B_is_number i.1) h (fun i => by show m_is_number i.1 = M.run (B_is_number i.1); unfold m_is_number; rfl) (fun _ => rfl) (fun i => ?_)
  obtain ⟨v_value, _⟩ := i
  show Rd K _ _ _ [.val (d v_value)] (B_is_number v_value)
  unfold B_is_number
  exact (rd_nil (rd_rets (ev_or (ev_call' (ec_cons (ev_var (i := 0) (a := v_value)) ec_nil)) (ev_isiD (bf := fun x => isBelow ["Ratio"] x) T.insc (ClsV.own _) (isi_clsB T.kT_Ratio T.bl_Ratio) (ev_var (i := 0) (a := v_value))))))
theorem sc_as_ratio : FnScope ["value", "up", "down"] (["value"] : List Str) (defScope s_as_ratio) := ⟨rfl, rfl, rfl, by decide +kernel, rfl, by decide +kernel, by decide +kernel⟩
noncomputable def B_as_ratio (v_value : Nm) : M Rt := (((((pure v_value) >>= fun x1 => pure ((d x1 : D))) >>= fun a2 => lft (m_is_number a2)) >>= fun x3 => pure (!x3)) >>= fun c4 => if c4 = true then ((pure v_value) >>= fun x5 => M.raise "BadNumber" [("given", d x5)]) else (((pure v_value) >>= fun a6 => lft (m_parts_of a6)) >>= fun p7 => ((pure p7.1) >>= fun a8 => ((pure p7.2) >>= fun a9 => lft (newRt a8 a9)))))
noncomputable def B2_as_ratio (v_value : D) : M Rt := ((((pure v_value) >>= fun a1 => lft (m_is_number a1)) >>= fun x2 => pure (!x2)) >>= fun c => if c = true then ((pure v_value) >>= fun x3 => M.raise "BadNumber" [("given", d x3)]) else M.stuck)
noncomputable def m_as_ratio (v_value : D) : Res Rt := M.run (match toNm v_value with | some a => B_as_ratio a | none => B2_as_ratio v_value)
abbrev sp_as_ratio (K : PySem.W.Frag) : Sp := spG K fun (i : D × Unit) => m_as_ratio i.1
theorem ok_as_ratio (F : FnP K "as_ratio" s_as_ratio f fd) (T : TT P w K mg base) (c_is_number : Cal P w K mg base "is_number" ["value"] 2 (sp_is_number K)) (c_parts_of : Cal P w K mg base "parts_of" ["number"] 1 (sp_parts_of K)) (k2_Ratio : KCal P w K mg base "Ratio" (He.ga K "Ratio") ["self", "top", "bottom"] 3 (sp_Ratio___init__ K) []) : FnOk P w K mg base (CXL P w) 5 f fd ["value"] (sp_as_ratio K) := by
  refine F.ok sc_as_ratio (fun vs H Q E h => spG_len h (fun _ => rfl)) (fun cdv A outer s H vs Q E hr h => ?_)
  refine ⟨_, (pss_cons (ps_if (pt_not (pt_val (pe_calS takes_cx c_is_number (hr.mono (by decide)) (by rfl) (pa_cons (pv 0) pa_nil)))) (pss_one (ps_raiseE rfl takes_cx T.e_BadNumber (hr.mono (by decide)) (by rfl) (pv 0))) pss_nil) (pss_cons (ps_asg (pe_calS takes_cx c_parts_of (hr.mono (by decide)) (by rfl) (pa_cons (pv 0) pa_nil)) (pg_tup rfl (pgs_cons (pg_name (i := 1) sc_as_ratio.nd rfl (Or.inl rfl)) (pgs_cons (pg_name (i := 2) sc_as_ratio.nd rfl (Or.inl rfl)) pgs_nil)))) (pss_one (ps_ret (pe_kcalS takes_cx k2_Ratio (hr.mono (by decide)) (by rfl) (pa_cons (pv 1) (pa_cons (pv 2) pa_nil))))))), ?_⟩
  refine fn_rd (n := 2) (mb := fun i => match toNm i.1 with | some a => B_as_ratio a | none => B2_as_ratio i.1) h (fun i => by show m_as_ratio i.1 = M.run (match toNm i.1 with | some a => B_as_ratio a | none => B2_as_ratio i.1); unfold m_as_ratio; rfl) (fun _ => rfl) (fun i => ?_)
  obtain ⟨v_value, _⟩ := i
  show Rd K _ _ _ [.val (d v_value), .any, .any] (match toNm v_value with | some a => B_as_ratio a | none => B2_as_ratio v_value)
  cases hto : toNm v_value with
  | some b =>
    rw [toNm_eq hto]
    clear hto
    revert b
    intro v_value
    show Rd K _ _ _ [.val (d v_value), .any, .any] (B_as_ratio v_value)
    unfold B_as_ratio
    exact (rd_if (et_not (et_val (ev_call' (ec_cons (ev_as (α := Nm) (β := D) (f := fun x => ((d x : D))) (ev_var (i := 0) (a := v_value)) (fun _ => rfl)) ec_nil)))) (rd_raise (c := "BadNumber") (fld := "given") rfl (ev_var (i := 0) (a := v_value))) (rd_skip (rd_tg tg_2 up2 (ev_call' (ec_cons (ev_var (i := 0) (a := v_value)) ec_nil)) (fun (p7 : (Int × Int)) => (rd_nil (rd_rets (mk2_Ratio (ec_cons (ev_var (i := 1) (a := p7.1)) (ec_cons (ev_var (i := 2) (a := p7.2)) ec_nil)))))))))
  | none =>
    show Rd K _ _ _ [.val (d v_value), .any, .any] (B2_as_ratio v_value)
    unfold B2_as_ratio
    exact (rd_if (et_not (et_val (ev_call' (ec_cons (ev_var (i := 0) (a := v_value)) ec_nil)))) (rd_raise (c := "BadNumber") (fld := "given") rfl (ev_var (i := 0) (a := v_value))) (rd_skip rd_stuck))
theorem sc_total : FnScope ["numbers", "found", "number"] (["numbers"] : List Str) (defScope s_total) := ⟨rfl, rfl, rfl, by decide +kernel, rfl, by decide +kernel, by decide +kernel⟩
noncomputable def B_total (v_numbers : (Sq Nm)) : M Rt := (((pure (0 : Int)) >>= fun a1 => lft (newRt1 a1)) >>= fun v_found => ((pure v_numbers.xs) >>= fun xs3 => ((foldM (fun (v_number : Nm) (s2 : Rt) => (((pure s2) >>= fun x4 => ((pure v_number) >>= fun x5 => strict (lft (m_Ratio___add__ x4 x5)))) >>= fun v_found => pure v_found)) xs3 v_found) >>= fun s2 => pure s2)))
noncomputable def m_total (v_numbers : (Sq Nm)) : Res Rt := M.run (B_total v_numbers)
abbrev sp_total (K : PySem.W.Frag) : Sp := spG K fun (i : (Sq Nm) × Unit) => m_total i.1
theorem ok_total (F : FnP K "total" s_total f fd) (T : TT P w K mg base) (k1_Ratio : KCal P w K mg base "Ratio" (He.ga K "Ratio") ["self", "top", "bottom"] 3 (sp_Ratio___init__ K) [.int 1]) (m_Ratio___add__ : MCal P w K mg base (He.ga K "Ratio") "__add__" ["self", "other"] 5 (sp_Ratio___add__ K)) : FnOk P w K mg base (CXL P w) 6 f fd ["numbers"] (sp_total K) := by
  refine F.ok sc_total (fun vs H Q E h => spG_len h (fun _ => rfl)) (fun cdv A outer s H vs Q E hr h => ?_)
  refine ⟨_, (pss_cons (ps_set (i := 1) sc_total.nd rfl (Or.inl rfl) (pe_kcalS takes_cx k1_Ratio (hr.mono (by decide)) (by rfl) (pa_cons pe_int pa_nil))) (pss_cons (ps_for passes_cx rfl (pi_or (pi_listK (K := K) rfl (pv 0)) (pi_tupK (K := K) rfl (pv 0))) (pg_name (i := 2) sc_total.nd rfl (Or.inl rfl)) (pss_one (ps_set (i := 1) sc_total.nd rfl (Or.inl rfl) (pe_op (nr_addK (K := K) rfl T.ops m_Ratio___add__ (hr.mono (by decide))) (pv 1) (pv 2))))) (pss_one (ps_ret (pv 1))))), ?_⟩
  refine fn_rd (n := 2) (mb := fun i => B_total i.1) h (fun i => by show m_total i.1 = M.run (B_total i.1); unfold m_total; rfl) (fun _ => rfl) (fun i => ?_)
  obtain ⟨v_numbers, _⟩ := i
  show Rd K _ _ _ [.val (d v_numbers), .any, .any] (B_total v_numbers)
  unfold B_total
  exact (rd_set (mk1_Ratio (ec_cons ev_int ec_nil)) (fun (v_found : Rt) => (rd_fold (S := Rt) (Γn := fun s2 => [.val (d v_numbers), .val (d s2), .any]) (s0 := v_found) (.eq (.eq (.any .nil))) (ei_sq (i := 0) (q := v_numbers)) tg_name (fun _ => up1) (fun (v_number : Nm) s2 => (rd_nil (rd_set (ev_op om_ownN (ev_var (i := 1) (a := s2)) (ev_var (i := 2) (a := v_number))) (fun (v_found : Rt) => (rd_next (s := v_found) (.eq (.eq (.any .nil)))))))) (fun s2 => (rd_nil (rd_rets (ev_var (i := 1) (a := s2))))))))
end
end K42


set_option Elab.async false
set_option linter.all false
set_option maxRecDepth 100000
set_option maxHeartbeats 4000000
namespace K42
open PySem PySem.Spec PyProof.Rows L2 J N
open M
open ToD (d)
open ToDs (ds)
section
variable {P : Program} {w : World} {K : PySem.W.Frag} {mg : Str → Option Value} {base : Heap} {f : Addr} {fd : FuncData}
theorem sc_is_name : FnScope ["value", "sign"] (["value"] : List Str) (defScope s_is_name) := ⟨rfl, rfl, rfl, by decide +kernel, rfl, by decide +kernel, by decide +kernel⟩
noncomputable def B_is_name (v_value : Str) : M Bool := (((pure v_value) >>= fun x1 => pure ((fun (_ : Str) => true) x1)) >>= fun x13 => if x13 = true then (((pure (0 : Int)) >>= fun x3 => (((pure v_value) >>= fun a2 => lenS a2) >>= fun x4 => ((pure (decide (x3 < x4))) >>= fun k6 => if k6 = true then ((pure (9 : Int)) >>= fun x5 => pure (decide (x4 < x5))) else pure false))) >>= fun x12 => if x12 = true then ((((pure v_value) >>= fun x7 => pure (x7.cps.toList.map Ch.mk)) >>= fun xs10 => lcM (fun (v_sign : Ch) => pure true) (fun (v_sign : Ch) => ((pure v_sign) >>= fun x8 => ((pure ("abcdefghijklmnopqrstuvwxyz" : Str)) >>= fun x9 => pure (decide (x8.c ∈ x9.cps.toList))))) xs10) >>= fun a11 => pure (a11.all id)) else pure false) else pure false)
noncomputable def m_is_name (v_value : Str) : Res Bool := M.run (B_is_name v_value)
abbrev sp_is_name (K : PySem.W.Frag) : Sp := spG K fun (i : Str × Unit) => m_is_name i.1
theorem ok_is_name (F : FnP K "is_name" s_is_name f fd) (T : TT P w K mg base)  : FnOk P w K mg base (CXL P w) 1 f fd ["value"] (sp_is_name K) := by
  refine F.ok sc_is_name (fun vs H Q E h => spG_len h (fun _ => rfl)) (fun cdv A outer s H vs Q E hr h => ?_)
  refine ⟨_, (pss_one (ps_ret (pe_and (pe_callB (call_isiK' (K := K) rfl) (by rfl) T.m_isinstance PyProof.Rows.boot_isinstance (pa_cons (pv 0) (pa_cons (pe_bltn (v := .ty "str") (by rfl) T.m_str (by decide +kernel) rfl) pa_nil))) (pe_and (pe_chain op_lt op_lt pe_int (pe_callB call_len_str (by rfl) T.m_len PySem.boot_len (pa_cons (pv 0) pa_nil)) pe_int) (pe_one (pe_callB (cr_allK (K := K) rfl rfl) (by rfl) T.m_all PyProof.Rows.boot_all (pa_cons (pe_lc (own := [("sign", 1)]) (g := gName 1) (tt := tYes) rfl sc_is_name.nd (pi_str (pv 0)) (blkOk_by (N := ["value", "sign"]) (sc := defScope s_is_name) (by decide +kernel)) (fun _ _ _ _ _ => pg_name (i := 1) sc_is_name.nd rfl (Or.inl rfl)) (fun _ _ _ _ _ => pts_nil) (fun _ _ _ _ _ => (pe_cmpR op_in_sign (pv 1) (pe_glob (v := .str "abcdefghijklmnopqrstuvwxyz") (by rfl) T.g_LETTERS.choose_spec.1 T.g_LETTERS.choose_spec.2) rfl))) pa_nil))))))), ?_⟩
  refine fn_rd (n := 1) (mb := fun i => B_is_name i.1) h (fun i => by show m_is_name i.1 = M.run (B_is_name i.1); unfold m_is_name; rfl) (fun _ => rfl) (fun i => ?_)
  obtain ⟨v_value, _⟩ := i
  show Rd K _ _ _ [.val (d v_value), .any] (B_is_name v_value)
  unfold B_is_name
  exact (rd_nil (rd_rets (ev_and (ev_isi (bf := fun x => (fun (_ : Str) => true) x) T.insc (ClsV.ty _) (fun _ => trivial) (fun _ => kit_tt) (ev_var (i := 0) (a := v_value))) (ev_and (ev_chain om_ltI om_ltI ev_int (ev_cb' cm_lenS (ec_cons (ev_var (i := 0) (a := v_value)) ec_nil)) ev_int) (ev_cb' cm_all (ec_cons (ev_lc (ei_up (ei_str (ev_var (i := 0) (a := v_value)))) tg_name (fun (v_sign : Ch) => et_yes) (fun (v_sign : Ch) => (ev_op om_inCh (ev_var (i := 1) (a := v_sign)) ev_str))) ec_nil))))))
theorem sc_is_listed : FnScope ["value"] (["value"] : List Str) (defScope s_is_listed) := ⟨rfl, rfl, rfl, by decide +kernel, rfl, by decide +kernel, by decide +kernel⟩
noncomputable def B_is_listed (v_value : D) : M Bool := ((pure v_value) >>= fun x1 => ((need (KnownD ["Ratio", "End", "Round"] x1)) >>= fun _ => pure (isSeqB x1)))
noncomputable def m_is_listed (v_value : D) : Res Bool := M.run (B_is_listed v_value)
abbrev sp_is_listed (K : PySem.W.Frag) : Sp := spG K fun (i : D × Unit) => m_is_listed i.1
theorem ok_is_listed (F : FnP K "is_listed" s_is_listed f fd) (T : TT P w K mg base)  : FnOk P w K mg base (CXL P w) 1 f fd ["value"] (sp_is_listed K) := by
  refine F.ok sc_is_listed (fun vs H Q E h => spG_len h (fun _ => rfl)) (fun cdv A outer s H vs Q E hr h => ?_)
  refine ⟨_, (pss_one (ps_ret (pe_callB (call_isiTK (K := K) rfl) (by rfl) T.m_isinstance PyProof.Rows.boot_isinstance (pa_cons (pv 0) (pa_cons (pe_tup (pa_cons (pe_bltn (v := .ty "list") (by rfl) T.m_list (by decide +kernel) rfl) (pa_cons (pe_bltn (v := .ty "tuple") (by rfl) T.m_tuple (by decide +kernel) rfl) pa_nil))) pa_nil))))), ?_⟩
  refine fn_rd (n := 0) (mb := fun i => B_is_listed i.1) h (fun i => by show m_is_listed i.1 = M.run (B_is_listed i.1); unfold m_is_listed; rfl) (fun _ => rfl) (fun i => ?_)
  obtain ⟨v_value, _⟩ := i
  show Rd K _ _ _ [.val (d v_value)] (B_is_listed v_value)
  unfold B_is_listed
  exact (rd_nil (rd_rets (ev_isi2D (bf := fun x => isSeqB x) T.insc (ClsV.ty _) (ClsV.ty _) (isi_seq T.nt_list T.nt_tuple) (ev_var (i := 0) (a := v_value)))))
theorem sc_rows_of : FnScope ["sizes", "found", "size", "row", "number"] (["sizes"] : List Str) (defScope s_rows_of) := ⟨rfl, rfl, rfl, by decide +kernel, rfl, by decide +kernel, by decide +kernel⟩
noncomputable def B_rows_of (v_sizes : (List Int)) : M (List (VT Int)) := (((pure (VT.mk [] : (VT Int))) >>= fun a1 => pure [a1]) >>= fun v_found => ((pure v_sizes) >>= fun xs3 => ((foldM (fun (v_size : Int) (s2 : (List (VT Int))) => (((pure s2) >>= fun xs8 => lc2M (fun (v_row : (VT Int)) => pure true) (fun (v_row : (VT Int)) => ((pure v_size) >>= fun x5 => rng1 x5)) (fun (v_row : (VT Int)) (v_number : Int) => pure true) (fun (v_row : (VT Int)) (v_number : Int) => ((pure v_row) >>= fun a6 => ((pure v_number) >>= fun a7 => ((need ((a6.l ++ (a7 :: ([] : List Int))).length ≤ sizeLine)) >>= fun _ => pure (VT.mk (a6.l ++ (a7 :: ([] : List Int)))))))) xs8) >>= fun v_found => pure v_found)) xs3 v_found) >>= fun s2 => pure s2)))
noncomputable def m_rows_of (v_sizes : (List Int)) : Res (List (VT Int)) := M.run (B_rows_of v_sizes)
abbrev sp_rows_of (K : PySem.W.Frag) : Sp := spG K fun (i : (List Int) × Unit) => m_rows_of i.1
theorem ok_rows_of (F : FnP K "rows_of" s_rows_of f fd) (T : TT P w K mg base)  : FnOk P w K mg base (CXL P w) 1 f fd ["sizes"] (sp_rows_of K) := by
  refine F.ok sc_rows_of (fun vs H Q E h => spG_len h (fun _ => rfl)) (fun cdv A outer s H vs Q E hr h => ?_)
  refine ⟨_, (pss_cons (ps_set (i := 1) sc_rows_of.nd rfl (Or.inl rfl) (pe_lst (pa_cons (pe_tup pa_nil) pa_nil))) (pss_cons (ps_for passes_cx rfl (pi_listK (K := K) rfl (pv 0)) (pg_name (i := 2) sc_rows_of.nd rfl (Or.inr rfl)) (pss_one (ps_setLc2 (i := 1) (own := [("row", 3), ("number", 4)]) (vs1 := [4]) (g := gName 3) (tt := tYes) (g1 := gName 4) (tt1 := tYes) rfl sc_rows_of.nd rfl rfl (sw_true rfl rfl rfl (by decide +kernel)) (pi_listK (K := K) rfl (pv 1)) (blkOk_by (N := ["sizes", "found", "size", "row", "number"]) (sc := defScope s_rows_of) (by decide +kernel)) (by decide) (fun _ _ _ _ _ => pg_name (i := 3) sc_rows_of.nd rfl (Or.inl rfl)) (fun _ _ _ _ _ => pts_nil) (fun _ _ _ _ _ => (pi_range1 (by rfl) T.m_range (pa_cons (pv 2) pa_nil))) (fun _ _ _ _ _ => pg_name (i := 4) sc_rows_of.nd rfl (Or.inl rfl)) (fun _ _ _ _ _ => pts_nil) (fun _ _ _ _ _ => (pe_tup (pa_star' (K := K) rfl (pv 3) (pa_cons (pv 4) pa_nil))))))) (pss_one (ps_ret (pv 1))))), ?_⟩
  refine fn_rd (n := 4) (mb := fun i => B_rows_of i.1) h (fun i => by show m_rows_of i.1 = M.run (B_rows_of i.1); unfold m_rows_of; rfl) (fun _ => rfl) (fun i => ?_)
  obtain ⟨v_sizes, _⟩ := i
  show Rd K _ _ _ [.val (d v_sizes), .any, .any, .any, .any] (B_rows_of v_sizes)
  unfold B_rows_of
  exact (rd_set (ev_lst' (ec_cons (ev_tup' ec_nil (fun _ => (VT.mk [] : (VT Int)))) ec_nil) (fun i => [i.1])) (fun (v_found : (List (VT Int))) => (rd_fold (S := (List (VT Int))) (Γn := fun s2 => [.val (d v_sizes), .val (d s2), .any, .any, .any]) (s0 := v_found) (.eq (.eq (.any (.any (.any .nil))))) (ei_list (ev_var (i := 0) (a := v_sizes))) tg_name (fun _ => up1) (fun (v_size : Int) s2 => (rd_nil (rd_set (ev_lc2 (ei_up (ei_list (ev_var (i := 1) (a := s2)))) (TgOk.up tg_name) (UpOk.wipe fun _ => up1) (fun (v_row : (VT Int)) => et_yes) (fun (v_row : (VT Int)) => (ei_range1 (ev_var (i := 2) (a := v_size)))) tg_name (fun (v_row : (VT Int)) (v_number : Int) => et_yes) (fun (v_row : (VT Int)) (v_number : Int) => (ev_tupN (ec_starT (ev_var (i := 3) (a := v_row)) (ec_cons (ev_var (i := 4) (a := v_number)) ec_nil)) (fun i => (i.1.l ++ (i.2.1 :: ([] : List Int)))) (hf := by intro i; simp only [List.map_cons, List.map_append, List.map_nil]; rfl)))) (fun (v_found : (List (VT Int))) => (rd_next (s := v_found) (.eq (.eq (.any (.any (.any .nil)))))))))) (fun s2 => (rd_nil (rd_rets (ev_var (i := 1) (a := s2))))))))
theorem sc_Draw___init__ : FnScope ["self", "words", "whole"] (["self", "words", "whole"] : List Str) (defScope s_Draw___init__) := ⟨rfl, rfl, rfl, by decide +kernel, rfl, by decide +kernel, by decide +kernel⟩
abbrev sp_Draw___init__ (K : PySem.W.Frag) : Sp := spSup K ["End", "Round"] supF
theorem ok_Draw___init__ (F : FunD K "__init__" "Draw.__init__" (defArgs s_Draw___init__) (defBody s_Draw___init__) (defScope s_Draw___init__) [] [] f fd) (T : TT P w K mg base) : FnOk P w K mg base (CXL P w) 1 f fd ["self", "words", "whole"] (sp_Draw___init__ K) := by
  have f1 : ∀ c ∈ (["End", "Round"] : List Str), Fd K c "words" ∧ Fd K c "whole" := fun c hc => by
    rcases List.mem_cons.mp hc with rfl | hc
    · exact ⟨T.fd_End_words, T.fd_End_whole⟩
    · rcases List.mem_singleton.mp hc with rfl
      exact ⟨T.fd_Round_words, T.fd_Round_whole⟩
  refine F.ok sc_Draw___init__ (fun vs H Q E h => ?_) (fun cdv A outer s H vs Q E hr h => ?_)
  · obtain ⟨c, hc, h⟩ := h
    exact spI_len h (fun _ => rfl)
  refine ⟨_, (pss_cons (ps_fld (pv 0) (pv 1) rfl) (pss_one (ps_fld (pv 0) (pv 2) rfl))), ?_⟩
  obtain ⟨c, hc, h⟩ := h
  obtain ⟨⟨c1, n1⟩, ⟨c2, n2⟩⟩ := f1 c hc
  refine fn_ini (n := 0) (n2 := 2) (mb := fun i => (pure i.1 >>= fun (x1 : D) => pure i.2.1 >>= fun (x2 : D) => pure (putD "whole" (d x2) (putD "words" (d x1) [])))) rfl h (fun i => rfl) (fun _ => rfl) rfl (fun a dx i => ?_)
  obtain ⟨v_words, v_whole, _⟩ := i
  show Rd K _ _ _ [.slf a dx c [], .val (d v_words), .val (d v_whole)] _
  exact (rd_sfld (p := a) (dx := dx) (fs := []) c1 n1 (ev_var (i := 1) (a := v_words)) (fun (x1 : D) => (rd_nil (rd_sfld (p := a) (dx := dx) (fs := (putD "words" (d x1) [])) c2 n2 (ev_var (i := 2) (a := v_whole)) (fun (x2 : D) => (rd_ini (fs := (putD "whole" (d x2) (putD "words" (d x1) []))) (n := 2) (.eq (.any (.any .nil)))))))))
theorem sc_Draw___eq__ : FnScope ["self", "other"] (["self", "other"] : List Str) (defScope s_Draw___eq__) := ⟨rfl, rfl, rfl, by decide +kernel, rfl, by decide +kernel, by decide +kernel⟩
noncomputable def B_Draw___eq__ (v_self : Dr) (v_other : Dr) : M Bool := (((pure v_other) >>= fun x1 => pure ((fun (_ : Dr) => true) x1)) >>= fun x6 => if x6 = true then (((pure v_self) >>= fun x2 => unopt (Dr.words? x2)) >>= fun x4 => (((pure v_other) >>= fun x3 => unopt (Dr.words? x3)) >>= fun x5 => pure (decide (x4 = x5)))) else pure false)
noncomputable def m_Draw___eq__ (v_self : Dr) (v_other : Dr) : Res Bool := M.run (B_Draw___eq__ v_self v_other)
abbrev sp_Draw___eq__ (K : PySem.W.Frag) : Sp := spG K fun (i : Dr × Dr × Unit) => m_Draw___eq__ i.1 i.2.1
theorem ok_Draw___eq__ (F : FnM K "__eq__" "Draw.__eq__" s_Draw___eq__ f fd) (T : TT P w K mg base)  : FnOk P w K mg base (CXL P w) 1 f fd ["self", "other"] (sp_Draw___eq__ K) := by
  refine F.ok sc_Draw___eq__ (fun vs H Q E h => spG_len h (fun _ => rfl)) (fun cdv A outer s H vs Q E hr h => ?_)
  refine ⟨_, (pss_one (ps_ret (pe_and (pe_callB (call_isiK' (K := K) rfl) (by rfl) T.m_isinstance PyProof.Rows.boot_isinstance (pa_cons (pv 1) (pa_cons (pe_glob (v := .ref (He.ga K "Draw")) (by rfl) T.g_Draw rfl) pa_nil))) (pe_one (pe_cmpR op_eq (pe_fldK (K := K) rfl (pv 0) rfl) (pe_fldK (K := K) rfl (pv 1) rfl) (nomark _)))))), ?_⟩
  refine fn_rd (n := 0) (mb := fun i => B_Draw___eq__ i.1 i.2.1) h (fun i => by show m_Draw___eq__ i.1 i.2.1 = M.run (B_Draw___eq__ i.1 i.2.1); unfold m_Draw___eq__; rfl) (fun _ => rfl) (fun i => ?_)
  obtain ⟨v_self, v_other, _⟩ := i
  show Rd K _ _ _ [.val (d v_self), .val (d v_other)] (B_Draw___eq__ v_self v_other)
  unfold B_Draw___eq__
  exact (rd_nil (rd_rets (ev_and (ev_isi (bf := fun x => (fun (_ : Dr) => true) x) T.insc (ClsV.own _) dr_known (dr_kit T.kc_End_Draw T.kc_Round_Draw (fun a => by cases a <;> rfl)) (ev_var (i := 1) (a := v_other))) (ev_op om_eqS (ev_fldV (g := Dr.words?) (ev_var (i := 0) (a := v_self)) (fV_words T.fd_End_words T.fd_Round_words)) (ev_fldV (g := Dr.words?) (ev_var (i := 1) (a := v_other)) (fV_words T.fd_End_words T.fd_Round_words))))))
theorem sc_Draw_text : FnScope ["self"] (["self"] : List Str) (defScope s_Draw_text) := ⟨rfl, rfl, rfl, by decide +kernel, rfl, by decide +kernel, by decide +kernel⟩
noncomputable def B_Draw_text (v_self : Dr) : M Str := ((pure v_self) >>= fun x1 => unopt (Dr.words? x1))
noncomputable def m_Draw_text (v_self : Dr) : Res Str := M.run (B_Draw_text v_self)
abbrev sp_Draw_text (K : PySem.W.Frag) : Sp := spG K fun (i : Dr × Unit) => m_Draw_text i.1
theorem ok_Draw_text (F : FnM K "text" "Draw.text" s_Draw_text f fd) (T : TT P w K mg base)  : FnOk P w K mg base (CXL P w) 1 f fd ["self"] (sp_Draw_text K) := by
  refine F.ok sc_Draw_text (fun vs H Q E h => spG_len h (fun _ => rfl)) (fun cdv A outer s H vs Q E hr h => ?_)
  refine ⟨_, (pss_one (ps_ret (pe_fldK (K := K) rfl (pv 0) rfl))), ?_⟩
  refine fn_rd (n := 0) (mb := fun i => B_Draw_text i.1) h (fun i => by show m_Draw_text i.1 = M.run (B_Draw_text i.1); unfold m_Draw_text; rfl) (fun _ => rfl) (fun i => ?_)
  obtain ⟨v_self, _⟩ := i
  show Rd K _ _ _ [.val (d v_self)] (B_Draw_text v_self)
  unfold B_Draw_text
  exact (rd_nil (rd_rets (ev_fldV (g := Dr.words?) (ev_var (i := 0) (a := v_self)) (fV_words T.fd_End_words T.fd_Round_words))))
end
end K42


set_option Elab.async false
set_option linter.all false
set_option maxRecDepth 100000
set_option maxHeartbeats 4000000
namespace K42
open PySem PySem.Spec PyProof.Rows L2 J N
open M
open ToD (d)
open ToDs (ds)
section
variable {P : Program} {w : World} {K : PySem.W.Frag} {mg : Str → Option Value} {base : Heap} {f : Addr} {fd : FuncData}
theorem sc_End___init__ : FnScope ["self", "name"] (["self", "name"] : List Str) (defScope s_End___init__) := ⟨rfl, rfl, rfl, by decide +kernel, rfl, by decide +kernel, by decide +kernel⟩
noncomputable def B_End___init__ (v_name : Str) : M Dr := ((((pure v_name) >>= fun a1 => lft (m_is_name a1)) >>= fun x2 => pure (!x2)) >>= fun c3 => if c3 = true then ((pure v_name) >>= fun x4 => M.raise "BadName" [("given", d x4)]) else ((pure v_name) >>= fun a6 => (((pure (VT.mk [] : (VT (VT Int)))) >>= fun a5 => pure (VT.mk [a5])) >>= fun a7 => ((pure v_name) >>= fun x8 => pure (Dr.e a6 a7.l x8)))))
noncomputable def m_End___init__ (v_name : Str) : Res Dr := M.run (B_End___init__ v_name)
abbrev sp_End___init__ (K : PySem.W.Frag) : Sp := spI K (He.ga K "End") [] fun (i : Str × Unit) => mapR Dr.fsD (m_End___init__ i.1)
theorem ok_End___init__ (F : FunD K "__init__" "End.__init__" (defArgs s_End___init__) (defBody s_End___init__) (defScope s_End___init__) [] [] f fd) (T : TT P w K mg base) (c_is_name : Cal P w K mg base "is_name" ["value"] 1 (sp_is_name K)) (b_Draw : BCal P w K mg base "Draw" ["self", "words", "whole"] 1 (sp_Draw___init__ K)) : FnOk P w K mg base (CXL P w) 3 f fd ["self", "name"] (sp_End___init__ K) := by
  refine F.ok sc_End___init__ (fun vs H Q E h => spI_len h (fun _ => rfl)) (fun cdv A outer s H vs Q E hr h => ?_)
  refine ⟨_, (pss_cons (ps_if (pt_not (pt_val (pe_calS takes_cx c_is_name (hr.mono (by decide)) (by rfl) (pa_cons (pv 1) pa_nil)))) (pss_one (ps_raiseE rfl takes_cx T.e_BadName (hr.mono (by decide)) (by rfl) (pv 1))) pss_nil) (pss_cons (ps_expr (pe_bcal b_Draw (hr.mono (by decide)) (by rfl) (pa_cons (pv 0) (pa_cons (pv 1) (pa_cons (pe_tup (pa_cons (pe_tup pa_nil) pa_nil)) pa_nil))))) (pss_one (ps_fld (pv 0) (pv 1) rfl)))), ?_⟩
  refine fn_iniT (n := 0) (n2 := 1) (fs := Dr.fsD) (mb := fun i => B_End___init__ i.1) rfl h (fun i => by show m_End___init__ i.1 = M.run (B_End___init__ i.1); unfold m_End___init__; rfl) (fun _ => rfl) rfl (fun a dx i => ?_)
  obtain ⟨v_name, _⟩ := i
  show Rd K _ _ _ [.slf a dx "End" [], .val (d v_name)] (B_End___init__ v_name)
  unfold B_End___init__
  exact (rd_if (et_not (et_val (ev_call' (ec_cons (ev_var (i := 1) (a := v_name)) ec_nil)))) (rd_raise (c := "BadName") (fld := "given") rfl (ev_var (i := 1) (a := v_name))) (rd_skip (rd_super' (c := "End") (by decide) (ec_cons (ev_var (i := 1) (a := v_name)) (ec_cons (ev_tup' (ec_cons (ev_tup' ec_nil (fun _ => (VT.mk [] : (VT (VT Int))))) ec_nil) (fun i => VT.mk [i.1])) ec_nil)) (fun (a6 : Str) (a7 : (VT (VT (VT Int)))) => (rd_nil (rd_sfld (p := a) (dx := dx) (fs := (supF (d a6) (d a7))) T.fd_End_title.1 T.fd_End_title.2 (ev_var (i := 1) (a := v_name)) (fun (x8 : Str) => (rd_iniT (f := Dr.fsD) (fs := (putD "title" (d x8) (supF (d a6) (d a7)))) (n := 1) (a := Dr.e a6 a7.l x8) (.eq (.any .nil)) rfl)) (hl := Nat.le_of_ble_eq_true rfl)))))))
noncomputable def newEnd (n : Str) : Res Dr := chkR Dr.isE (m_End___init__ n)
theorem mk_End {W : WX} {Γ : List Sl} {K : PySem.W.Frag} {t : TA} {mk : ∀ {θ : Type}, (Str × Unit → M θ) → M θ} {m : M Dr} (h : EvC (ι := Str × Unit) K W t Γ mk) (e : m = mk fun i => lft (newEnd i.1) := by rfl) : EvR K W (tMakeS (He.ga K "End") (sp_End___init__ K) [] (WE W) t) Γ m :=
  ev_make' (α := Dr) rfl (fun i => i) (fun G vs i r => by rw [List.append_nil]; exact r) (fun i => chk_ok dr_insE _) h e
theorem sc_End_name : FnScope ["self"] (["self"] : List Str) (defScope s_End_name) := ⟨rfl, rfl, rfl, by decide +kernel, rfl, by decide +kernel, by decide +kernel⟩
theorem ok_End_name (F : FnM K "name" "End.name" s_End_name f fd) (T : TT P w K mg base) : FnOk P w K mg base (CXL P w) 1 f fd ["self"] (getSp (He.ga K "End") "title") := by
  refine F.ok sc_End_name (fun vs H Q E h => ?_) (fun cdv A outer s H vs Q E hr h => ?_)
  · obtain ⟨a, dx, fs, v, rfl, _⟩ := h
    rfl
  · obtain ⟨a, dx, fs, v, rfl, e, l, q⟩ := h
    exact ⟨_, PSs.nox (pss_one (ps_ret (pe_fld (pv 0) rfl))), _, rfl, a, _, dx, fs, v, rfl, e, T.fd_End_title.1, T.fd_End_title.2, l, q⟩
theorem sc_Round_kind : FnScope ["self"] (["self"] : List Str) (defScope s_Round_kind) := ⟨rfl, rfl, rfl, by decide +kernel, rfl, by decide +kernel, by decide +kernel⟩
theorem ok_Round_kind (F : FnM K "kind" "Round.kind" s_Round_kind f fd) (T : TT P w K mg base) : FnOk P w K mg base (CXL P w) 1 f fd ["self"] (getSp (He.ga K "Round") "manner") := by
  refine F.ok sc_Round_kind (fun vs H Q E h => ?_) (fun cdv A outer s H vs Q E hr h => ?_)
  · obtain ⟨a, dx, fs, v, rfl, _⟩ := h
    rfl
  · obtain ⟨a, dx, fs, v, rfl, e, l, q⟩ := h
    exact ⟨_, PSs.nox (pss_one (ps_ret (pe_fld (pv 0) rfl))), _, rfl, a, _, dx, fs, v, rfl, e, T.fd_Round_manner.1, T.fd_Round_manner.2, l, q⟩
theorem sc_Round_givers : FnScope ["self"] (["self"] : List Str) (defScope s_Round_givers) := ⟨rfl, rfl, rfl, by decide +kernel, rfl, by decide +kernel, by decide +kernel⟩
theorem ok_Round_givers (F : FnM K "givers" "Round.givers" s_Round_givers f fd) (T : TT P w K mg base) : FnOk P w K mg base (CXL P w) 1 f fd ["self"] (getSp (He.ga K "Round") "seats") := by
  refine F.ok sc_Round_givers (fun vs H Q E h => ?_) (fun cdv A outer s H vs Q E hr h => ?_)
  · obtain ⟨a, dx, fs, v, rfl, _⟩ := h
    rfl
  · obtain ⟨a, dx, fs, v, rfl, e, l, q⟩ := h
    exact ⟨_, PSs.nox (pss_one (ps_ret (pe_fld (pv 0) rfl))), _, rfl, a, _, dx, fs, v, rfl, e, T.fd_Round_seats.1, T.fd_Round_seats.2, l, q⟩
theorem sc_Round_draws : FnScope ["self"] (["self"] : List Str) (defScope s_Round_draws) := ⟨rfl, rfl, rfl, by decide +kernel, rfl, by decide +kernel, by decide +kernel⟩
theorem ok_Round_draws (F : FnM K "draws" "Round.draws" s_Round_draws f fd) (T : TT P w K mg base) : FnOk P w K mg base (CXL P w) 1 f fd ["self"] (getSp (He.ga K "Round") "further") := by
  refine F.ok sc_Round_draws (fun vs H Q E h => ?_) (fun cdv A outer s H vs Q E hr h => ?_)
  · obtain ⟨a, dx, fs, v, rfl, _⟩ := h
    rfl
  · obtain ⟨a, dx, fs, v, rfl, e, l, q⟩ := h
    exact ⟨_, PSs.nox (pss_one (ps_ret (pe_fld (pv 0) rfl))), _, rfl, a, _, dx, fs, v, rfl, e, T.fd_Round_further.1, T.fd_Round_further.2, l, q⟩
theorem sc_are_givers : FnScope ["givers", "giver"] (["givers"] : List Str) (defScope s_are_givers) := ⟨rfl, rfl, rfl, by decide +kernel, rfl, by decide +kernel, by decide +kernel⟩
noncomputable def B_are_givers (v_givers : (Sq (T3 Str (Sq Nm) Int))) : M Bool := ((((((pure v_givers) >>= fun x1 => pure ((d x1 : D))) >>= fun a2 => lft (m_is_listed a2)) >>= fun x3 => pure (!x3)) >>= fun x10 => if x10 = true then pure true else (((pure (0 : Int)) >>= fun x5 => (((pure v_givers) >>= fun a4 => pure (a4.xs.length : Int)) >>= fun x6 => ((pure (decide (x5 < x6))) >>= fun k8 => if k8 = true then ((pure (5 : Int)) >>= fun x7 => pure (decide (x6 < x7))) else pure false))) >>= fun x9 => pure (!x9))) >>= fun c11 => if c11 = true then pure false else (((pure v_givers.xs) >>= fun xs17 => lcM (fun (v_giver : (T3 Str (Sq Nm) Int)) => pure true) (fun (v_giver : (T3 Str (Sq Nm) Int)) => (((pure v_giver) >>= fun x12 => pure ((fun (_ : (T3 Str (Sq Nm) Int)) => true) x12)) >>= fun x16 => if x16 = true then (((pure v_giver) >>= fun a13 => pure (3 : Int)) >>= fun x14 => ((pure (3 : Int)) >>= fun x15 => pure (decide (x14 = x15)))) else pure false)) xs17) >>= fun a18 => pure (a18.all id)))
noncomputable def m_are_givers (v_givers : (Sq (T3 Str (Sq Nm) Int))) : Res Bool := M.run (B_are_givers v_givers)
abbrev sp_are_givers (K : PySem.W.Frag) : Sp := spG K fun (i : (Sq (T3 Str (Sq Nm) Int)) × Unit) => m_are_givers i.1
theorem ok_are_givers (F : FnP K "are_givers" s_are_givers f fd) (T : TT P w K mg base) (c_is_listed : Cal P w K mg base "is_listed" ["value"] 1 (sp_is_listed K)) : FnOk P w K mg base (CXL P w) 2 f fd ["givers"] (sp_are_givers K) := by
  refine F.ok sc_are_givers (fun vs H Q E h => spG_len h (fun _ => rfl)) (fun cdv A outer s H vs Q E hr h => ?_)
  refine ⟨_, (pss_cons (ps_if (PW.pt (pw_or (pt_not (pt_val (pe_calS takes_cx c_is_listed (hr.mono (by decide)) (by rfl) (pa_cons (pv 0) pa_nil)))) (pw_or1 (pt_not (pt_chain op_lt op_lt pe_int (pe_callB (call_len_seqK (K := K) rfl) (by rfl) T.m_len PySem.boot_len (pa_cons (pv 0) pa_nil)) pe_int))))) (pss_one (ps_ret pe_bl)) pss_nil) (pss_one (ps_ret (pe_callB (cr_allK (K := K) rfl rfl) (by rfl) T.m_all PyProof.Rows.boot_all (pa_cons (pe_lc (own := [("giver", 1)]) (g := gName 1) (tt := tYes) rfl sc_are_givers.nd (pi_or (pi_listK (K := K) rfl (pv 0)) (pi_tupK (K := K) rfl (pv 0))) (blkOk_by (N := ["givers", "giver"]) (sc := defScope s_are_givers) (by decide +kernel)) (fun _ _ _ _ _ => pg_name (i := 1) sc_are_givers.nd rfl (Or.inl rfl)) (fun _ _ _ _ _ => pts_nil) (fun _ _ _ _ _ => (pe_and (pe_callB (call_isiK' (K := K) rfl) (by rfl) T.m_isinstance PyProof.Rows.boot_isinstance (pa_cons (pv 1) (pa_cons (pe_bltn (v := .ty "tuple") (by rfl) T.m_tuple (by decide +kernel) rfl) pa_nil))) (pe_one (pe_cmpR op_eq (pe_callB (call_len_seqK (K := K) rfl) (by rfl) T.m_len PySem.boot_len (pa_cons (pv 1) pa_nil)) pe_int (nomark _)))))) pa_nil))))), ?_⟩
  refine fn_rd (n := 1) (mb := fun i => B_are_givers i.1) h (fun i => by show m_are_givers i.1 = M.run (B_are_givers i.1); unfold m_are_givers; rfl) (fun _ => rfl) (fun i => ?_)
  obtain ⟨v_givers, _⟩ := i
  show Rd K _ _ _ [.val (d v_givers), .any] (B_are_givers v_givers)
  unfold B_are_givers
  exact (rd_if (et_or (et_not (et_val (ev_call' (ec_cons (ev_as (α := (Sq (T3 Str (Sq Nm) Int))) (β := D) (f := fun x => ((d x : D))) (ev_var (i := 0) (a := v_givers)) (fun _ => rfl)) ec_nil)))) (et_not (et_test (ev_chain om_ltI om_ltI ev_int (ev_cb' cm_lenQ (ec_cons (ev_var (i := 0) (a := v_givers)) ec_nil)) ev_int)))) (rd_rets ev_bl) (rd_skip (rd_nil (rd_rets (ev_cb' cm_all (ec_cons (ev_lc (ei_up (ei_sq (i := 0) (q := v_givers))) tg_name (fun (v_giver : (T3 Str (Sq Nm) Int)) => et_yes) (fun (v_giver : (T3 Str (Sq Nm) Int)) => (ev_and (ev_isi (bf := fun x => (fun (_ : (T3 Str (Sq Nm) Int)) => true) x) T.insc (ClsV.ty _) (fun _ => trivial) (fun _ => kit_tt) (ev_var (i := 1) (a := v_giver))) (ev_op om_eqI (ev_cb' (cm_lenT (n := 3) fun _ => ⟨_, rfl, rfl⟩) (ec_cons (ev_var (i := 1) (a := v_giver)) ec_nil)) ev_int)))) ec_nil))))))
theorem sc_are_shares : FnScope ["shares", "share"] (["shares"] : List Str) (defScope s_are_shares) := ⟨rfl, rfl, rfl, by decide +kernel, rfl, by decide +kernel, by decide +kernel⟩
noncomputable def B_are_shares (v_shares : (Sq Nm)) : M Bool := ((((((pure v_shares) >>= fun x1 => pure ((d x1 : D))) >>= fun a2 => lft (m_is_listed a2)) >>= fun x3 => pure (!x3)) >>= fun x16 => if x16 = true then pure true else ((((pure (1 : Int)) >>= fun x5 => (((pure v_shares) >>= fun a4 => pure (a4.xs.length : Int)) >>= fun x6 => ((pure (decide (x5 < x6))) >>= fun k8 => if k8 = true then ((pure (5 : Int)) >>= fun x7 => pure (decide (x6 < x7))) else pure false))) >>= fun x9 => pure (!x9)) >>= fun x15 => if x15 = true then pure true else ((((pure v_shares.xs) >>= fun xs12 => lcM (fun (v_share : Nm) => pure true) (fun (v_share : Nm) => (((pure v_share) >>= fun x10 => pure ((d x10 : D))) >>= fun a11 => lft (m_is_number a11))) xs12) >>= fun a13 => pure (a13.all id)) >>= fun x14 => pure (!x14)))) >>= fun c17 => if c17 = true then pure false else ((((pure v_shares.xs) >>= fun xs21 => lcM (fun (v_share : Nm) => pure true) (fun (v_share : Nm) => (((pure (0 : Int)) >>= fun a18 => lft (newRt1 a18)) >>= fun x20 => ((pure v_share) >>= fun a19 => lft (m_Ratio_below x20 a19)))) xs21) >>= fun a22 => pure (a22.all id)) >>= fun x29 => if x29 = true then (((pure v_shares) >>= fun a23 => lft (m_total a23)) >>= fun x27 => (((pure (1 : Int)) >>= fun x26 => pure (Co.co x26 : Nm)) >>= fun x28 => strict (lft (m_Ratio___eq__ x27 x28)))) else pure false))
noncomputable def m_are_shares (v_shares : (Sq Nm)) : Res Bool := M.run (B_are_shares v_shares)
abbrev sp_are_shares (K : PySem.W.Frag) : Sp := spG K fun (i : (Sq Nm) × Unit) => m_are_shares i.1
theorem ok_are_shares (F : FnP K "are_shares" s_are_shares f fd) (T : TT P w K mg base) (c_is_listed : Cal P w K mg base "is_listed" ["value"] 1 (sp_is_listed K)) (c_is_number : Cal P w K mg base "is_number" ["value"] 2 (sp_is_number K)) (k1_Ratio : KCal P w K mg base "Ratio" (He.ga K "Ratio") ["self", "top", "bottom"] 3 (sp_Ratio___init__ K) [.int 1]) (m_Ratio_below : MCal P w K mg base (He.ga K "Ratio") "below" ["self", "number"] 2 (sp_Ratio_below K)) (c_total : Cal P w K mg base "total" ["numbers"] 6 (sp_total K)) (m_Ratio___eq__ : MCal P w K mg base (He.ga K "Ratio") "__eq__" ["self", "other"] 2 (sp_Ratio___eq__ K)) : FnOk P w K mg base (CXL P w) 7 f fd ["shares"] (sp_are_shares K) := by
  refine F.ok sc_are_shares (fun vs H Q E h => spG_len h (fun _ => rfl)) (fun cdv A outer s H vs Q E hr h => ?_)
  refine ⟨_, (pss_cons (ps_if (PW.pt (pw_or (pt_not (pt_val (pe_calS takes_cx c_is_listed (hr.mono (by decide)) (by rfl) (pa_cons (pv 0) pa_nil)))) (pw_or (pt_not (pt_chain op_lt op_lt pe_int (pe_callB (call_len_seqK (K := K) rfl) (by rfl) T.m_len PySem.boot_len (pa_cons (pv 0) pa_nil)) pe_int)) (pw_or1 (pt_not (pt_val (pe_callB (cr_allK (K := K) rfl rfl) (by rfl) T.m_all PyProof.Rows.boot_all (pa_cons (pe_lc (own := [("share", 1)]) (g := gName 1) (tt := tYes) rfl sc_are_shares.nd (pi_or (pi_listK (K := K) rfl (pv 0)) (pi_tupK (K := K) rfl (pv 0))) (blkOk_by (N := ["shares", "share"]) (sc := defScope s_are_shares) (by decide +kernel)) (fun _ _ _ _ _ => pg_name (i := 1) sc_are_shares.nd rfl (Or.inl rfl)) (fun _ _ _ _ _ => pts_nil) (fun _ _ _ _ _ => (pe_calS takesF c_is_number (hr.mono (by decide)) (by rfl) (pa_cons (pv 1) pa_nil)))) pa_nil)))))))) (pss_one (ps_ret pe_bl)) pss_nil) (pss_one (ps_ret (pe_and (pe_callB (cr_allK (K := K) rfl rfl) (by rfl) T.m_all PyProof.Rows.boot_all (pa_cons (pe_lc (own := [("share", 1)]) (g := gName 1) (tt := tYes) rfl sc_are_shares.nd (pi_or (pi_listK (K := K) rfl (pv 0)) (pi_tupK (K := K) rfl (pv 0))) (blkOk_by (N := ["shares", "share"]) (sc := defScope s_are_shares) (by decide +kernel)) (fun _ _ _ _ _ => pg_name (i := 1) sc_are_shares.nd rfl (Or.inl rfl)) (fun _ _ _ _ _ => pts_nil) (fun _ _ _ _ _ => (pe_mcalS takesF m_Ratio_below T.cl_Ratio (hr.mono (by decide)) (pe_kcalS takesF k1_Ratio (hr.mono (by decide)) (by rfl) (pa_cons pe_int pa_nil)) (pa_cons (pv 1) pa_nil)))) pa_nil)) (pe_one (pe_cmpR (nr_eqK (K := K) rfl m_Ratio___eq__ (hr.mono (by decide))) (pe_calS takes_cx c_total (hr.mono (by decide)) (by rfl) (pa_cons (pv 0) pa_nil)) pe_int (nomark _))))))), ?_⟩
  refine fn_rd (n := 1) (mb := fun i => B_are_shares i.1) h (fun i => by show m_are_shares i.1 = M.run (B_are_shares i.1); unfold m_are_shares; rfl) (fun _ => rfl) (fun i => ?_)
  obtain ⟨v_shares, _⟩ := i
  show Rd K _ _ _ [.val (d v_shares), .any] (B_are_shares v_shares)
  unfold B_are_shares
  exact (rd_if (et_or (et_not (et_val (ev_call' (ec_cons (ev_as (α := (Sq Nm)) (β := D) (f := fun x => ((d x : D))) (ev_var (i := 0) (a := v_shares)) (fun _ => rfl)) ec_nil)))) (et_or (et_not (et_test (ev_chain om_ltI om_ltI ev_int (ev_cb' cm_lenQ (ec_cons (ev_var (i := 0) (a := v_shares)) ec_nil)) ev_int))) (et_not (et_val (ev_cb' cm_all (ec_cons (ev_lc (ei_up (ei_sq (i := 0) (q := v_shares))) tg_name (fun (v_share : Nm) => et_yes) (fun (v_share : Nm) => (ev_call' (ec_cons (ev_as (α := Nm) (β := D) (f := fun x => ((d x : D))) (ev_var (i := 1) (a := v_share)) (fun _ => rfl)) ec_nil)))) ec_nil)))))) (rd_rets ev_bl) (rd_skip (rd_nil (rd_rets (ev_and (ev_cb' cm_all (ec_cons (ev_lc (ei_up (ei_sq (i := 0) (q := v_shares))) tg_name (fun (v_share : Nm) => et_yes) (fun (v_share : Nm) => (ev_meth' rfl (mk1_Ratio (ec_cons ev_int ec_nil)) (ec_cons (ev_var (i := 1) (a := v_share)) ec_nil)))) ec_nil)) (ev_op (om_ownEqN T.s_int_Ratio) (ev_call' (ec_cons (ev_var (i := 0) (a := v_shares)) ec_nil)) (ev_coC (α := Int) (β := Nm) ev_int)))))))
end
end K42


set_option Elab.async false
set_option linter.all false
set_option maxRecDepth 100000
set_option maxHeartbeats 4000000
namespace K42
open PySem PySem.Spec PyProof.Rows L2 J N
open M
open ToD (d)
open ToDs (ds)
section
variable {P : Program} {w : World} {K : PySem.W.Frag} {mg : Str → Option Value} {base : Heap} {f : Addr} {fd : FuncData}
theorem sc_checked_seat : FnScope ["earlier", "person", "shares", "stand_in", "share"] (["earlier", "person", "shares", "stand_in"] : List Str) (defScope s_checked_seat) := ⟨rfl, rfl, rfl, by decide +kernel, rfl, by decide +kernel, by decide +kernel⟩
noncomputable def B_checked_seat (v_earlier : (List Str)) (v_person : Str) (v_shares : (Sq Nm)) (v_stand_in : Int) : M (T3 Str (VT Rt) Int) := ((((pure v_person) >>= fun a1 => lft (m_is_name a1)) >>= fun x2 => pure (!x2)) >>= fun c3 => if c3 = true then ((pure v_person) >>= fun x4 => M.raise "BadName" [("given", d x4)]) else (((pure v_person) >>= fun x5 => ((pure v_earlier) >>= fun x6 => pure (memB x5 x6))) >>= fun c7 => if c7 = true then ((pure v_person) >>= fun x8 => M.raise "Twice" [("person", d x8)]) else ((((pure v_shares) >>= fun a9 => lft (m_are_shares a9)) >>= fun x10 => pure (!x10)) >>= fun c11 => if c11 = true then ((pure v_shares) >>= fun x12 => M.raise "BadShares" [("given", d x12)]) else ((((((pure v_stand_in) >>= fun x13 => pure ((d x13 : D))) >>= fun a14 => lft (m_is_integer a14)) >>= fun x15 => pure (!x15)) >>= fun x22 => if x22 = true then pure true else (((pure (0 : Int)) >>= fun x17 => ((pure v_stand_in) >>= fun x18 => ((pure (decide (x17 ≤ x18))) >>= fun k20 => if k20 = true then (((pure v_shares) >>= fun a16 => pure (a16.xs.length : Int)) >>= fun x19 => pure (decide (x18 < x19))) else pure false))) >>= fun x21 => pure (!x21))) >>= fun c23 => if c23 = true then ((pure v_stand_in) >>= fun x24 => M.raise "BadStandIn" [("given", d x24)]) else ((pure v_person) >>= fun a29 => ((((pure v_shares.xs) >>= fun xs27 => lcM (fun (v_share : Nm) => pure true) (fun (v_share : Nm) => (((pure v_share) >>= fun x25 => pure ((d x25 : D))) >>= fun a26 => lft (m_as_ratio a26))) xs27) >>= fun a28 => pure (VT.mk a28)) >>= fun a30 => ((pure v_stand_in) >>= fun a31 => pure (T3.mk a29 a30 a31))))))))
noncomputable def m_checked_seat (v_earlier : (List Str)) (v_person : Str) (v_shares : (Sq Nm)) (v_stand_in : Int) : Res (T3 Str (VT Rt) Int) := M.run (B_checked_seat v_earlier v_person v_shares v_stand_in)
abbrev sp_checked_seat (K : PySem.W.Frag) : Sp := spG K fun (i : (List Str) × Str × (Sq Nm) × Int × Unit) => m_checked_seat i.1 i.2.1 i.2.2.1 i.2.2.2.1
theorem ok_checked_seat (F : FnP K "checked_seat" s_checked_seat f fd) (T : TT P w K mg base) (c_is_name : Cal P w K mg base "is_name" ["value"] 1 (sp_is_name K)) (c_are_shares : Cal P w K mg base "are_shares" ["shares"] 7 (sp_are_shares K)) (c_is_integer : Cal P w K mg base "is_integer" ["value"] 1 (sp_is_integer K)) (c_as_ratio : Cal P w K mg base "as_ratio" ["value"] 5 (sp_as_ratio K)) : FnOk P w K mg base (CXL P w) 8 f fd ["earlier", "person", "shares", "stand_in"] (sp_checked_seat K) := by
  refine F.ok sc_checked_seat (fun vs H Q E h => spG_len h (fun _ => rfl)) (fun cdv A outer s H vs Q E hr h => ?_)
  refine ⟨_, (pss_cons (ps_if (pt_not (pt_val (pe_calS takes_cx c_is_name (hr.mono (by decide)) (by rfl) (pa_cons (pv 1) pa_nil)))) (pss_one (ps_raiseE rfl takes_cx T.e_BadName (hr.mono (by decide)) (by rfl) (pv 1))) pss_nil) (pss_cons (ps_if (pt_cmpR (op_in_seqK (K := K) rfl) (pv 1) (pv 0) rfl) (pss_one (ps_raiseE rfl takes_cx T.e_Twice (hr.mono (by decide)) (by rfl) (pv 1))) pss_nil) (pss_cons (ps_if (pt_not (pt_val (pe_calS takes_cx c_are_shares (hr.mono (by decide)) (by rfl) (pa_cons (pv 2) pa_nil)))) (pss_one (ps_raiseE rfl takes_cx T.e_BadShares (hr.mono (by decide)) (by rfl) (pv 2))) pss_nil) (pss_cons (ps_if (PW.pt (pw_or (pt_not (pt_val (pe_calS takes_cx c_is_integer (hr.mono (by decide)) (by rfl) (pa_cons (pv 3) pa_nil)))) (pw_or1 (pt_not (pt_chain op_le op_lt pe_int (pv 3) (pe_callB (call_len_seqK (K := K) rfl) (by rfl) T.m_len PySem.boot_len (pa_cons (pv 2) pa_nil))))))) (pss_one (ps_raiseE rfl takes_cx T.e_BadStandIn (hr.mono (by decide)) (by rfl) (pv 3))) pss_nil) (pss_one (ps_ret (pe_tup (pa_cons (pv 1) (pa_cons (pe_callTy (call_tuple_ofK (K := K) rfl) (by rfl) T.m_tuple (by decide +kernel) (pa_cons (pe_lc (own := [("share", 4)]) (g := gName 4) (tt := tYes) rfl sc_checked_seat.nd (pi_or (pi_listK (K := K) rfl (pv 2)) (pi_tupK (K := K) rfl (pv 2))) (blkOk_by (N := ["earlier", "person", "shares", "stand_in", "share"]) (sc := defScope s_checked_seat) (by decide +kernel)) (fun _ _ _ _ _ => pg_name (i := 4) sc_checked_seat.nd rfl (Or.inl rfl)) (fun _ _ _ _ _ => pts_nil) (fun _ _ _ _ _ => (pe_calS takesF c_as_ratio (hr.mono (by decide)) (by rfl) (pa_cons (pv 4) pa_nil)))) pa_nil)) (pa_cons (pv 3) pa_nil)))))))))), ?_⟩
  refine fn_rd (n := 1) (mb := fun i => B_checked_seat i.1 i.2.1 i.2.2.1 i.2.2.2.1) h (fun i => by show m_checked_seat i.1 i.2.1 i.2.2.1 i.2.2.2.1 = M.run (B_checked_seat i.1 i.2.1 i.2.2.1 i.2.2.2.1); unfold m_checked_seat; rfl) (fun _ => rfl) (fun i => ?_)
  obtain ⟨v_earlier, v_person, v_shares, v_stand_in, _⟩ := i
  show Rd K _ _ _ [.val (d v_earlier), .val (d v_person), .val (d v_shares), .val (d v_stand_in), .any] (B_checked_seat v_earlier v_person v_shares v_stand_in)
  unfold B_checked_seat
  exact (rd_if (et_not (et_val (ev_call' (ec_cons (ev_var (i := 1) (a := v_person)) ec_nil)))) (rd_raise (c := "BadName") (fld := "given") rfl (ev_var (i := 1) (a := v_person))) (rd_skip (rd_if (et_test (ev_op om_inF (ev_var (i := 1) (a := v_person)) (ev_var (i := 0) (a := v_earlier)))) (rd_raise (c := "Twice") (fld := "person") rfl (ev_var (i := 1) (a := v_person))) (rd_skip (rd_if (et_not (et_val (ev_call' (ec_cons (ev_var (i := 2) (a := v_shares)) ec_nil)))) (rd_raise (c := "BadShares") (fld := "given") rfl (ev_var (i := 2) (a := v_shares))) (rd_skip (rd_if (et_or (et_not (et_val (ev_call' (ec_cons (ev_as (α := Int) (β := D) (f := fun x => ((d x : D))) (ev_var (i := 3) (a := v_stand_in)) (fun _ => rfl)) ec_nil)))) (et_not (et_test (ev_chain om_leI om_ltI ev_int (ev_var (i := 3) (a := v_stand_in)) (ev_cb' cm_lenQ (ec_cons (ev_var (i := 2) (a := v_shares)) ec_nil)))))) (rd_raise (c := "BadStandIn") (fld := "given") rfl (ev_var (i := 3) (a := v_stand_in))) (rd_skip (rd_nil (rd_rets (ev_tup' (ec_cons (ev_var (i := 1) (a := v_person)) (ec_cons (ev_cb' cm_tupL (ec_cons (ev_lc (ei_up (ei_sq (i := 2) (q := v_shares))) tg_name (fun (v_share : Nm) => et_yes) (fun (v_share : Nm) => (ev_call' (ec_cons (ev_as (α := Nm) (β := D) (f := fun x => ((d x : D))) (ev_var (i := 4) (a := v_share)) (fun _ => rfl)) ec_nil)))) ec_nil)) (ec_cons (ev_var (i := 3) (a := v_stand_in)) ec_nil))) (fun i => (T3.mk i.1 i.2.1 i.2.2.1)))))))))))))
theorem sc_seat_text : FnScope ["seat", "person", "shares", "stand_in", "share"] (["seat"] : List Str) (defScope s_seat_text) := ⟨rfl, rfl, rfl, by decide +kernel, rfl, by decide +kernel, by decide +kernel⟩
noncomputable def B_seat_text (v_seat : (T3 Str (VT Rt) Int)) : M Str := ((pure v_seat) >>= fun p1 => ((pure (" " : Str)) >>= fun x9 => (((pure p1.a) >>= fun a6 => ((((pure p1.b) >>= fun x2 => pure x2.l) >>= fun xs4 => lcM (fun (v_share : Rt) => pure true) (fun (v_share : Rt) => ((pure v_share) >>= fun x3 => strict (lft (m_Ratio_text x3)))) xs4) >>= fun a7 => ((joinM [pure ("*" : Str), ((pure p1.c) >>= fun x5 => fmtI x5)] Str.empty) >>= fun a8 => ((need ((a6 :: (a7 ++ (a8 :: ([] : List Str)))).length ≤ sizeLine)) >>= fun _ => pure (a6 :: (a7 ++ (a8 :: ([] : List Str)))))))) >>= fun x10 => joinSM x9 x10)))
noncomputable def m_seat_text (v_seat : (T3 Str (VT Rt) Int)) : Res Str := M.run (B_seat_text v_seat)
abbrev sp_seat_text (K : PySem.W.Frag) : Sp := spG K fun (i : (T3 Str (VT Rt) Int) × Unit) => m_seat_text i.1
theorem ok_seat_text (F : FnP K "seat_text" s_seat_text f fd) (T : TT P w K mg base) (m_Ratio_text : MCal P w K mg base (He.ga K "Ratio") "text" ["self"] 4 (sp_Ratio_text K)) : FnOk P w K mg base (CXL P w) 5 f fd ["seat"] (sp_seat_text K) := by
  refine F.ok sc_seat_text (fun vs H Q E h => spG_len h (fun _ => rfl)) (fun cdv A outer s H vs Q E hr h => ?_)
  refine ⟨_, (pss_cons (ps_asg (pv 0) (pg_tup rfl (pgs_cons (pg_name (i := 1) sc_seat_text.nd rfl (Or.inl rfl)) (pgs_cons (pg_name (i := 2) sc_seat_text.nd rfl (Or.inl rfl)) (pgs_cons (pg_name (i := 3) sc_seat_text.nd rfl (Or.inl rfl)) pgs_nil))))) (pss_one (ps_ret (pe_joinK (K := K) rfl pe_str (pe_lst (pa_cons (pv 1) (pa_star' (K := K) rfl (pe_lc (own := [("share", 4)]) (g := gName 4) (tt := tYes) rfl sc_seat_text.nd (pi_tupK (K := K) rfl (pv 2)) (blkOk_by (N := ["seat", "person", "shares", "stand_in", "share"]) (sc := defScope s_seat_text) (by decide +kernel)) (fun _ _ _ _ _ => pg_name (i := 4) sc_seat_text.nd rfl (Or.inl rfl)) (fun _ _ _ _ _ => pts_nil) (fun _ _ _ _ _ => (pe_mcal0 m_Ratio_text T.cl_Ratio (hr.mono (by decide)) (pv 4)))) (pa_cons (pe_joined (PJ.cons pe_str (PJ.cons (pe_fmt (pv 3)) PJ.nil))) pa_nil)))))))), ?_⟩
  refine fn_rd (n := 4) (mb := fun i => B_seat_text i.1) h (fun i => by show m_seat_text i.1 = M.run (B_seat_text i.1); unfold m_seat_text; rfl) (fun _ => rfl) (fun i => ?_)
  obtain ⟨v_seat, _⟩ := i
  show Rd K _ _ _ [.val (d v_seat), .any, .any, .any, .any] (B_seat_text v_seat)
  unfold B_seat_text
  exact (rd_tg tg_3 up3 (ev_var (i := 0) (a := v_seat)) (fun (p1 : (T3 Str (VT Rt) Int)) => (rd_nil (rd_rets (ev_join ev_str (ev_lstN (ec_cons (ev_var (i := 1) (a := p1.a)) (ec_starL (ev_lc (ei_up (ei_tup (ev_var (i := 2) (a := p1.b)))) tg_name (fun (v_share : Rt) => et_yes) (fun (v_share : Rt) => (ev_meth0 rfl (ev_var (i := 4) (a := v_share))))) (ec_cons (ev_joined' (ej_cons ev_str (ej_cons (ev_fmtI (ev_var (i := 3) (a := p1.c))) ej_nil))) ec_nil))) (fun i => (i.1 :: (i.2.1.l ++ (i.2.2.1 :: ([] : List Str))))) (hf := by intro i; simp only [List.map_cons, List.map_append, List.map_nil]; rfl)))))))
theorem sc_Round___init__ : FnScope ["self", "kind", "givers", "draws", "seats", "person", "shares", "stand_in", "steps", "written", "further", "whole", "seat", "draw", "row", "path"] (["self", "kind", "givers", "draws"] : List Str) (defScope s_Round___init__) := ⟨rfl, rfl, rfl, by decide +kernel, rfl, by decide +kernel, by decide +kernel⟩
noncomputable def B_Round___init__ (v_kind : Str) (v_givers : (Sq (T3 Str (Sq Nm) Int))) (v_draws : (List Dr)) : M Dr := (((((pure v_kind) >>= fun x1 => pure ((fun (_ : Str) => true) x1)) >>= fun x2 => pure (!x2)) >>= fun x5 => if x5 = true then pure true else ((pure v_kind) >>= fun x3 => ((pure (VT.mk [("open" : Str), ("sealed" : Str), ("held" : Str), ("last" : Str)])) >>= fun x4 => pure (!memB x3 x4.l)))) >>= fun c6 => if c6 = true then ((pure v_kind) >>= fun x7 => M.raise "BadKind" [("given", d x7)]) else ((((pure v_givers) >>= fun a8 => lft (m_are_givers a8)) >>= fun x9 => pure (!x9)) >>= fun c10 => if c10 = true then ((pure v_givers) >>= fun x11 => M.raise "BadGivers" [("given", d x11)]) else ((pure v_givers.xs) >>= fun xs14 => ((foldM (fun (p13 : (T3 Str (Sq Nm) Int)) (s12 : (List (T3 Str (VT Rt) Int))) => ((appM s12 (((pure s12) >>= fun xs16 => lcM (fun (v_seat : (T3 Str (VT Rt) Int)) => pure true) (fun (v_seat : (T3 Str (VT Rt) Int)) => ((pure v_seat) >>= fun x15 => pure x15.a)) xs16) >>= fun a17 => ((pure p13.a) >>= fun a18 => ((pure p13.b) >>= fun a19 => ((pure p13.c) >>= fun a20 => lft (m_checked_seat a17 a18 a19 a20)))))) >>= fun ys21 => pure ys21)) xs14 ([] : List (T3 Str (VT Rt) Int))) >>= fun s12 => ((((pure s12) >>= fun xs24 => lcM (fun (v_seat : (T3 Str (VT Rt) Int)) => pure true) (fun (v_seat : (T3 Str (VT Rt) Int)) => (((pure v_seat) >>= fun x22 => pure x22.b) >>= fun a23 => pure (a23.l.length : Int))) xs24) >>= fun a25 => lft (m_rows_of a25)) >>= fun v_steps => ((((pure v_steps) >>= fun a26 => pure (a26.length : Int)) >>= fun x27 => ((pure (16 : Int)) >>= fun x28 => pure (decide (x27 > x28)))) >>= fun c29 => if c29 = true then (((pure v_steps) >>= fun a30 => pure (a30.length : Int)) >>= fun x31 => M.raise "TooMany" [("count", d x31)]) else ((((((pure v_draws) >>= fun x32 => pure ((d x32 : D))) >>= fun a33 => lft (m_is_listed a33)) >>= fun x34 => pure (!x34)) >>= fun x44 => if x44 = true then pure true else ((((pure v_draws) >>= fun a35 => pure (a35.length : Int)) >>= fun x37 => (((pure v_steps) >>= fun a36 => pure (a36.length : Int)) >>= fun x38 => pure (!decide (x37 = x38)))) >>= fun x43 => if x43 = true then pure true else ((((pure v_draws) >>= fun xs40 => lcM (fun (v_draw : Dr) => pure true) (fun (v_draw : Dr) => ((pure v_draw) >>= fun x39 => pure ((fun (_ : Dr) => true) x39))) xs40) >>= fun a41 => pure (a41.all id)) >>= fun x42 => pure (!x42)))) >>= fun c45 => if c45 = true then ((pure v_draws) >>= fun x46 => M.raise "BadDraws" [("given", d x46)]) else (((pure (", " : Str)) >>= fun x49 => (((pure s12) >>= fun xs48 => lcM (fun (v_seat : (T3 Str (VT Rt) Int)) => pure true) (fun (v_seat : (T3 Str (VT Rt) Int)) => ((pure v_seat) >>= fun a47 => lft (m_seat_text a47))) xs48) >>= fun x50 => joinSM x49 x50)) >>= fun v_written => (((pure (", " : Str)) >>= fun x53 => (((pure v_draws) >>= fun xs52 => lcM (fun (v_draw : Dr) => pure true) (fun (v_draw : Dr) => ((pure v_draw) >>= fun x51 => lft (m_Draw_text x51))) xs52) >>= fun x54 => joinSM x53 x54)) >>= fun v_further => ((((pure v_steps) >>= fun x55 => ((pure v_draws) >>= fun x56 => pure (x55.zip x56))) >>= fun xs62 => lc2M (fun (p57 : ((VT Int) × Dr)) => pure true) (fun (p57 : ((VT Int) × Dr)) => (((pure p57.2) >>= fun x58 => unopt (Dr.whole? x58)) >>= fun x59 => pure x59.l)) (fun (p57 : ((VT Int) × Dr)) (v_path : (VT (VT Int))) => pure true) (fun (p57 : ((VT Int) × Dr)) (v_path : (VT (VT Int))) => ((pure p57.1) >>= fun a60 => ((pure v_path) >>= fun a61 => ((need ((a60 :: (a61.l ++ ([] : List (VT Int)))).length ≤ sizeLine)) >>= fun _ => pure (VT.mk (a60 :: (a61.l ++ ([] : List (VT Int))))))))) xs62) >>= fun v_whole => ((joinM [((pure v_kind) >>= fun x63 => fmtS x63), pure ("(" : Str), ((pure v_written) >>= fun x64 => fmtS x64), pure ("; " : Str), ((pure v_further) >>= fun x65 => fmtS x65), pure (")" : Str)] Str.empty) >>= fun a67 => (((pure v_whole) >>= fun a66 => pure (VT.mk a66)) >>= fun a68 => ((pure v_kind) >>= fun x69 => (((pure s12) >>= fun a70 => pure (VT.mk a70)) >>= fun x71 => (((pure v_steps) >>= fun x72 => pure (VN.mk x72)) >>= fun x73 => (((pure v_draws) >>= fun a74 => pure (VT.mk a74)) >>= fun x75 => pure (Dr.r a67 a68.l x69 x71.l x73.l x75.l)))))))))))))))))
noncomputable def m_Round___init__ (v_kind : Str) (v_givers : (Sq (T3 Str (Sq Nm) Int))) (v_draws : (List Dr)) : Res Dr := M.run (B_Round___init__ v_kind v_givers v_draws)
abbrev sp_Round___init__ (K : PySem.W.Frag) : Sp := spI K (He.ga K "Round") [] fun (i : Str × (Sq (T3 Str (Sq Nm) Int)) × (List Dr) × Unit) => mapR Dr.fsD (m_Round___init__ i.1 i.2.1 i.2.2.1)
theorem ok_Round___init__ (F : FunD K "__init__" "Round.__init__" (defArgs s_Round___init__) (defBody s_Round___init__) (defScope s_Round___init__) [] [] f fd) (T : TT P w K mg base) (c_are_givers : Cal P w K mg base "are_givers" ["givers"] 2 (sp_are_givers K)) (c_checked_seat : Cal P w K mg base "checked_seat" ["earlier", "person", "shares", "stand_in"] 8 (sp_checked_seat K)) (c_rows_of : Cal P w K mg base "rows_of" ["sizes"] 1 (sp_rows_of K)) (c_is_listed : Cal P w K mg base "is_listed" ["value"] 1 (sp_is_listed K)) (c_seat_text : Cal P w K mg base "seat_text" ["seat"] 5 (sp_seat_text K)) (w_Draw_text : ∀ c ∈ (["End", "Round"] : List Str), MCal P w K mg base (He.ga K c) "text" ["self"] 1 (sp_Draw_text K)) (b_Draw : BCal P w K mg base "Draw" ["self", "words", "whole"] 1 (sp_Draw___init__ K)) : FnOk P w K mg base (CXL P w) 9 f fd ["self", "kind", "givers", "draws"] (sp_Round___init__ K) := by
  refine F.ok sc_Round___init__ (fun vs H Q E h => spI_len h (fun _ => rfl)) (fun cdv A outer s H vs Q E hr h => ?_)
  refine ⟨_, (pss_cons (ps_if (PW.pt (pw_or (pt_not (pt_val (pe_callB (call_isiK' (K := K) rfl) (by rfl) T.m_isinstance PyProof.Rows.boot_isinstance (pa_cons (pv 1) (pa_cons (pe_bltn (v := .ty "str") (by rfl) T.m_str (by decide +kernel) rfl) pa_nil))))) (pw_or1 (pt_cmpR (op_notIn_seqK (K := K) rfl) (pv 1) (pe_glob (v := .ref T.g_KINDS.choose) (by rfl) T.g_KINDS.choose_spec.1 rfl) rfl)))) (pss_one (ps_raiseE rfl takes_cx T.e_BadKind (hr.mono (by decide)) (by rfl) (pv 1))) pss_nil) (pss_cons (ps_if (pt_not (pt_val (pe_calS takes_cx c_are_givers (hr.mono (by decide)) (by rfl) (pa_cons (pv 2) pa_nil)))) (pss_one (ps_raiseE rfl takes_cx T.e_BadGivers (hr.mono (by decide)) (by rfl) (pv 2))) pss_nil) (pss_cons (ps_set (i := 4) sc_Round___init__.nd rfl (Or.inl rfl) (pe_lst pa_nil)) (pss_cons (ps_for passes_cx rfl (pi_or (pi_listK (K := K) rfl (pv 2)) (pi_tupK (K := K) rfl (pv 2))) (pg_tup rfl (pgs_cons (pg_name (i := 5) sc_Round___init__.nd rfl (Or.inl rfl)) (pgs_cons (pg_name (i := 6) sc_Round___init__.nd rfl (Or.inl rfl)) (pgs_cons (pg_name (i := 7) sc_Round___init__.nd rfl (Or.inl rfl)) pgs_nil)))) (pss_one (ps_expr (pe_bm PySem.F.plainAttrs_list PySem.F.slot_list_append PySem.F.type_list_append mt_append (pv 4) (pa_cons (pe_calS takes_cx c_checked_seat (hr.mono (by decide)) (by rfl) (pa_cons (pe_lc (own := [("seat", 12)]) (g := gName 12) (tt := tYes) rfl sc_Round___init__.nd (pi_listK (K := K) rfl (pv 4)) (blkOk_by (N := ["self", "kind", "givers", "draws", "seats", "person", "shares", "stand_in", "steps", "written", "further", "whole", "seat", "draw", "row", "path"]) (sc := defScope s_Round___init__) (by decide +kernel)) (fun _ _ _ _ _ => pg_name (i := 12) sc_Round___init__.nd rfl (Or.inl rfl)) (fun _ _ _ _ _ => pts_nil) (fun _ _ _ _ _ => (pe_ix (ix_tupK (K := K) rfl) (pv 12) pe_int (fun _ _ => rfl)))) (pa_cons (pv 5) (pa_cons (pv 6) (pa_cons (pv 7) pa_nil))))) pa_nil))))) (pss_cons (ps_set (i := 8) sc_Round___init__.nd rfl (Or.inl rfl) (pe_calS takes_cx c_rows_of (hr.mono (by decide)) (by rfl) (pa_cons (pe_lc (own := [("seat", 12)]) (g := gName 12) (tt := tYes) rfl sc_Round___init__.nd (pi_listK (K := K) rfl (pv 4)) (blkOk_by (N := ["self", "kind", "givers", "draws", "seats", "person", "shares", "stand_in", "steps", "written", "further", "whole", "seat", "draw", "row", "path"]) (sc := defScope s_Round___init__) (by decide +kernel)) (fun _ _ _ _ _ => pg_name (i := 12) sc_Round___init__.nd rfl (Or.inl rfl)) (fun _ _ _ _ _ => pts_nil) (fun _ _ _ _ _ => (pe_callB (call_len_seqK (K := K) rfl) (by rfl) T.m_len PySem.boot_len (pa_cons (pe_ix (ix_tupK (K := K) rfl) (pv 12) pe_int (fun _ _ => rfl)) pa_nil)))) pa_nil))) (pss_cons (ps_if (pt_cmpR op_gt (pe_callB (call_len_seqK (K := K) rfl) (by rfl) T.m_len PySem.boot_len (pa_cons (pv 8) pa_nil)) (pe_glob (v := .int 16) (by rfl) T.g_MOST_ROWS.choose_spec.1 T.g_MOST_ROWS.choose_spec.2) (nomark _)) (pss_one (ps_raiseE rfl takes_cx T.e_TooMany (hr.mono (by decide)) (by rfl) (pe_callB (call_len_seqK (K := K) rfl) (by rfl) T.m_len PySem.boot_len (pa_cons (pv 8) pa_nil)))) pss_nil) (pss_cons (ps_if (PW.pt (pw_or (pt_not (pt_val (pe_calS takes_cx c_is_listed (hr.mono (by decide)) (by rfl) (pa_cons (pv 3) pa_nil)))) (pw_or (pt_cmpR op_ne (pe_callB (call_len_seqK (K := K) rfl) (by rfl) T.m_len PySem.boot_len (pa_cons (pv 3) pa_nil)) (pe_callB (call_len_seqK (K := K) rfl) (by rfl) T.m_len PySem.boot_len (pa_cons (pv 8) pa_nil)) (nomark _)) (pw_or1 (pt_not (pt_val (pe_callB (cr_allK (K := K) rfl rfl) (by rfl) T.m_all PyProof.Rows.boot_all (pa_cons (pe_lc (own := [("draw", 13)]) (g := gName 13) (tt := tYes) rfl sc_Round___init__.nd (pi_listK (K := K) rfl (pv 3)) (blkOk_by (N := ["self", "kind", "givers", "draws", "seats", "person", "shares", "stand_in", "steps", "written", "further", "whole", "seat", "draw", "row", "path"]) (sc := defScope s_Round___init__) (by decide +kernel)) (fun _ _ _ _ _ => pg_name (i := 13) sc_Round___init__.nd rfl (Or.inl rfl)) (fun _ _ _ _ _ => pts_nil) (fun _ _ _ _ _ => (pe_callB (call_isiK' (K := K) rfl) (by rfl) T.m_isinstance PyProof.Rows.boot_isinstance (pa_cons (pv 13) (pa_cons (pe_glob (v := .ref (He.ga K "Draw")) (by rfl) T.g_Draw rfl) pa_nil))))) pa_nil)))))))) (pss_one (ps_raiseE rfl takes_cx T.e_BadDraws (hr.mono (by decide)) (by rfl) (pv 3))) pss_nil) (pss_cons (ps_set (i := 9) sc_Round___init__.nd rfl (Or.inl rfl) (pe_joinK (K := K) rfl pe_str (pe_lc (own := [("seat", 12)]) (g := gName 12) (tt := tYes) rfl sc_Round___init__.nd (pi_listK (K := K) rfl (pv 4)) (blkOk_by (N := ["self", "kind", "givers", "draws", "seats", "person", "shares", "stand_in", "steps", "written", "further", "whole", "seat", "draw", "row", "path"]) (sc := defScope s_Round___init__) (by decide +kernel)) (fun _ _ _ _ _ => pg_name (i := 12) sc_Round___init__.nd rfl (Or.inl rfl)) (fun _ _ _ _ _ => pts_nil) (fun _ _ _ _ _ => (pe_calS takesF c_seat_text (hr.mono (by decide)) (by rfl) (pa_cons (pv 12) pa_nil)))))) (pss_cons (ps_set (i := 10) sc_Round___init__.nd rfl (Or.inl rfl) (pe_joinK (K := K) rfl pe_str (pe_lc (own := [("draw", 13)]) (g := gName 13) (tt := tYes) rfl sc_Round___init__.nd (pi_listK (K := K) rfl (pv 3)) (blkOk_by (N := ["self", "kind", "givers", "draws", "seats", "person", "shares", "stand_in", "steps", "written", "further", "whole", "seat", "draw", "row", "path"]) (sc := defScope s_Round___init__) (by decide +kernel)) (fun _ _ _ _ _ => pg_name (i := 13) sc_Round___init__.nd rfl (Or.inl rfl)) (fun _ _ _ _ _ => pts_nil) (fun _ _ _ _ _ => (pe_mcalV0K (K := K) rfl takesF w_Draw_text T.clV_D (hr.mono (by decide)) (pv 13)))))) (pss_cons (ps_setLc2 (i := 11) (own := [("row", 14), ("draw", 13), ("path", 15)]) (vs1 := [15]) (g := gTup K 2 (gCons (gName 14) (gCons (gName 13) gNil))) (tt := tYes) (g1 := gName 15) (tt1 := tYes) rfl sc_Round___init__.nd rfl rfl (sw_true rfl rfl rfl (by decide +kernel)) (pi_zipAK (K := K) rfl (by rfl) T.m_zip (pa_cons (pv 8) (pa_cons (pv 3) pa_nil))) (blkOk_by (N := ["self", "kind", "givers", "draws", "seats", "person", "shares", "stand_in", "steps", "written", "further", "whole", "seat", "draw", "row", "path"]) (sc := defScope s_Round___init__) (by decide +kernel)) (by decide) (fun _ _ _ _ _ => pg_tup rfl (pgs_cons (pg_name (i := 14) sc_Round___init__.nd rfl (Or.inl rfl)) (pgs_cons (pg_name (i := 13) sc_Round___init__.nd rfl (Or.inl rfl)) pgs_nil))) (fun _ _ _ _ _ => pts_nil) (fun _ _ _ _ _ => (pi_tupK (K := K) rfl (pe_fldK (K := K) rfl (pv 13) rfl))) (fun _ _ _ _ _ => pg_name (i := 15) sc_Round___init__.nd rfl (Or.inl rfl)) (fun _ _ _ _ _ => pts_nil) (fun _ _ _ _ _ => (pe_tup (pa_cons (pv 14) (pa_star' (K := K) rfl (pv 15) pa_nil))))) (pss_cons (ps_expr (pe_bcal b_Draw (hr.mono (by decide)) (by rfl) (pa_cons (pv 0) (pa_cons (pe_joined (PJ.cons (pe_fmt (pv 1)) (PJ.cons pe_str (PJ.cons (pe_fmt (pv 9)) (PJ.cons pe_str (PJ.cons (pe_fmt (pv 10)) (PJ.cons pe_str PJ.nil))))))) (pa_cons (pe_callTy (call_tuple_ofK (K := K) rfl) (by rfl) T.m_tuple (by decide +kernel) (pa_cons (pv 11) pa_nil)) pa_nil))))) (pss_cons (ps_fld (pv 0) (pv 1) rfl) (pss_cons (ps_fld (pv 0) (pe_callTy (call_tuple_ofK (K := K) rfl) (by rfl) T.m_tuple (by decide +kernel) (pa_cons (pv 4) pa_nil)) rfl) (pss_cons (ps_fld (pv 0) (pe_callTy (call_tupNK (K := K) rfl) (by rfl) T.m_tuple (by decide +kernel) (pa_cons (pv 8) pa_nil)) rfl) (pss_one (ps_fld (pv 0) (pe_callTy (call_tuple_ofK (K := K) rfl) (by rfl) T.m_tuple (by decide +kernel) (pa_cons (pv 3) pa_nil)) rfl)))))))))))))))), ?_⟩
  refine fn_iniT (n := 12) (n2 := 15) (fs := Dr.fsD) (mb := fun i => B_Round___init__ i.1 i.2.1 i.2.2.1) rfl h (fun i => by show m_Round___init__ i.1 i.2.1 i.2.2.1 = M.run (B_Round___init__ i.1 i.2.1 i.2.2.1); unfold m_Round___init__; rfl) (fun _ => rfl) rfl (fun a dx i => ?_)
  obtain ⟨v_kind, v_givers, v_draws, _⟩ := i
  show Rd K _ _ _ [.slf a dx "Round" [], .val (d v_kind), .val (d v_givers), .val (d v_draws), .any, .any, .any, .any, .any, .any, .any, .any, .any, .any, .any, .any] (B_Round___init__ v_kind v_givers v_draws)
  unfold B_Round___init__
  exact (rd_if (et_or (et_not (et_val (ev_isi (bf := fun x => (fun (_ : Str) => true) x) T.insc (ClsV.ty _) (fun _ => trivial) (fun _ => kit_tt) (ev_var (i := 1) (a := v_kind))))) (et_test (ev_op om_ninFV (ev_var (i := 1) (a := v_kind)) (ev_gval (a := VT.mk [("open" : Str), ("sealed" : Str), ("held" : Str), ("last" : Str)]) T.g_KINDS.choose_spec.2)))) (rd_raise (c := "BadKind") (fld := "given") rfl (ev_var (i := 1) (a := v_kind))) (rd_skip (rd_if (et_not (et_val (ev_call' (ec_cons (ev_var (i := 2) (a := v_givers)) ec_nil)))) (rd_raise (c := "BadGivers") (fld := "given") rfl (ev_var (i := 2) (a := v_givers))) (rd_skip (rd_new (α := (T3 Str (VT Rt) Int)) (rd_fold (S := (List (T3 Str (VT Rt) Int))) (Γn := fun s12 => [.slf a dx "Round" [], .val (d v_kind), .val (d v_givers), .val (d v_draws), .own (s12.map d), .any, .any, .any, .any, .any, .any, .any, .any, .any, .any, .any]) (s0 := ([] : List (T3 Str (VT Rt) Int))) (.eq (.eq (.eq (.eq (.eq (.any (.any (.any (.any (.any (.any (.any (.any (.any (.any (.any .nil)))))))))))))))) (ei_sq (i := 2) (q := v_givers)) tg_3 (fun _ => up3) (fun (p13 : (T3 Str (Sq Nm) Int)) s12 => (rd_nil (rd_app (i := 4) (xs := s12) (ev_call' (ec_cons (ev_lc (ei_own (i := 4) (xs := s12)) tg_name (fun (v_seat : (T3 Str (VT Rt) Int)) => et_yes) (fun (v_seat : (T3 Str (VT Rt) Int)) => (ev_ixT (j := 0) (g := fun (x : (T3 Str (VT Rt) Int)) => x.a) (ev_var (i := 12) (a := v_seat))))) (ec_cons (ev_var (i := 5) (a := p13.a)) (ec_cons (ev_var (i := 6) (a := p13.b)) (ec_cons (ev_var (i := 7) (a := p13.c)) ec_nil))))) (fun (ys21 : List (T3 Str (VT Rt) Int)) => (rd_next (s := ys21) (.eq (.eq (.eq (.eq (.eq (.any (.any (.any (.any (.any (.any (.any (.any (.any (.any (.any .nil))))))))))))))))))))) (fun s12 => (rd_settle (i := 4) (xs := s12) (rd_set (ev_call' (ec_cons (ev_lc (ei_up (ei_list (ev_var (i := 4) (a := s12)))) tg_name (fun (v_seat : (T3 Str (VT Rt) Int)) => et_yes) (fun (v_seat : (T3 Str (VT Rt) Int)) => (ev_cb' cm_lenV (ec_cons (ev_ixT (j := 1) (g := fun (x : (T3 Str (VT Rt) Int)) => x.b) (ev_var (i := 12) (a := v_seat))) ec_nil)))) ec_nil)) (fun (v_steps : (List (VT Int))) => (rd_if (et_test (ev_op om_gtI (ev_cb' cm_lenL (ec_cons (ev_var (i := 8) (a := v_steps)) ec_nil)) ev_int)) (rd_raise (c := "TooMany") (fld := "count") rfl (ev_cb' cm_lenL (ec_cons (ev_var (i := 8) (a := v_steps)) ec_nil))) (rd_skip (rd_if (et_or (et_not (et_val (ev_call' (ec_cons (ev_as (α := (List Dr)) (β := D) (f := fun x => ((d x : D))) (ev_var (i := 3) (a := v_draws)) (fun _ => rfl)) ec_nil)))) (et_or (et_test (ev_op om_neI (ev_cb' cm_lenL (ec_cons (ev_var (i := 3) (a := v_draws)) ec_nil)) (ev_cb' cm_lenL (ec_cons (ev_var (i := 8) (a := v_steps)) ec_nil)))) (et_not (et_val (ev_cb' cm_all (ec_cons (ev_lc (ei_up (ei_list (ev_var (i := 3) (a := v_draws)))) tg_name (fun (v_draw : Dr) => et_yes) (fun (v_draw : Dr) => (ev_isi (bf := fun x => (fun (_ : Dr) => true) x) T.insc (ClsV.own _) dr_known (dr_kit T.kc_End_Draw T.kc_Round_Draw (fun a => by cases a <;> rfl)) (ev_var (i := 13) (a := v_draw))))) ec_nil)))))) (rd_raise (c := "BadDraws") (fld := "given") rfl (ev_var (i := 3) (a := v_draws))) (rd_skip (rd_set (ev_join ev_str (ev_lc (ei_up (ei_list (ev_var (i := 4) (a := s12)))) tg_name (fun (v_seat : (T3 Str (VT Rt) Int)) => et_yes) (fun (v_seat : (T3 Str (VT Rt) Int)) => (ev_call' (ec_cons (ev_var (i := 12) (a := v_seat)) ec_nil))))) (fun (v_written : Str) => (rd_set (ev_join ev_str (ev_lc (ei_up (ei_list (ev_var (i := 3) (a := v_draws)))) tg_name (fun (v_draw : Dr) => et_yes) (fun (v_draw : Dr) => (ev_methV' dr_cls (dr_nom "text" (by decide)) (ev_var (i := 13) (a := v_draw)) ec_nil)))) (fun (v_further : Str) => (rd_set (ev_lc2 (ei_up (ei_zip (ev_var (i := 8) (a := v_steps)) (ev_var (i := 3) (a := v_draws)))) (TgOk.up tg_2) (UpOk.wipe fun _ => up2) (fun (p57 : ((VT Int) × Dr)) => et_yes) (fun (p57 : ((VT Int) × Dr)) => (ei_tup (ev_fldV (g := Dr.whole?) (ev_var (i := 13) (a := p57.2)) (fV_whole T.fd_End_whole T.fd_Round_whole)))) tg_name (fun (p57 : ((VT Int) × Dr)) (v_path : (VT (VT Int))) => et_yes) (fun (p57 : ((VT Int) × Dr)) (v_path : (VT (VT Int))) => (ev_tupN (ec_cons (ev_var (i := 14) (a := p57.1)) (ec_starT (ev_var (i := 15) (a := v_path)) ec_nil)) (fun i => (i.1 :: (i.2.1.l ++ ([] : List (VT Int))))) (hf := by intro i; simp only [List.map_cons, List.map_append, List.map_nil]; rfl)))) (fun (v_whole : (List (VT (VT Int)))) => (rd_super' (c := "Round") (by decide) (ec_cons (ev_joined' (ej_cons (ev_fmtS (ev_var (i := 1) (a := v_kind))) (ej_cons ev_str (ej_cons (ev_fmtS (ev_var (i := 9) (a := v_written))) (ej_cons ev_str (ej_cons (ev_fmtS (ev_var (i := 10) (a := v_further))) (ej_cons ev_str ej_nil))))))) (ec_cons (ev_cb' cm_tupL (ec_cons (ev_var (i := 11) (a := v_whole)) ec_nil)) ec_nil)) (fun (a67 : Str) (a68 : (VT (VT (VT Int)))) => (rd_sfld (p := a) (dx := dx) (fs := (supF (d a67) (d a68))) T.fd_Round_manner.1 T.fd_Round_manner.2 (ev_var (i := 1) (a := v_kind)) (fun (x69 : Str) => (rd_sfld (p := a) (dx := dx) (fs := (putD "manner" (d x69) (supF (d a67) (d a68)))) T.fd_Round_seats.1 T.fd_Round_seats.2 (ev_cb' cm_tupL (ec_cons (ev_var (i := 4) (a := s12)) ec_nil)) (fun (x71 : (VT (T3 Str (VT Rt) Int))) => (rd_sfld (p := a) (dx := dx) (fs := (putD "seats" (d x71) (putD "manner" (d x69) (supF (d a67) (d a68))))) T.fd_Round_steps.1 T.fd_Round_steps.2 (ev_cb' cm_tupN (ec_cons (ev_var (i := 8) (a := v_steps)) ec_nil)) (fun (x73 : (VN (VT Int))) => (rd_nil (rd_sfld (p := a) (dx := dx) (fs := (putD "steps" (d x73) (putD "seats" (d x71) (putD "manner" (d x69) (supF (d a67) (d a68)))))) T.fd_Round_further.1 T.fd_Round_further.2 (ev_cb' cm_tupL (ec_cons (ev_var (i := 3) (a := v_draws)) ec_nil)) (fun (x75 : (VT Dr)) => (rd_iniT (f := Dr.fsD) (fs := (putD "further" (d x75) (putD "steps" (d x73) (putD "seats" (d x71) (putD "manner" (d x69) (supF (d a67) (d a68))))))) (n := 15) (a := Dr.r a67 a68.l x69 x71.l x73.l x75.l) (.eq (.any (.any (.any (.any (.any (.any (.any (.any (.any (.any (.any (.any (.any (.any (.any .nil)))))))))))))))) rfl)) (hl := Nat.le_of_ble_eq_true rfl)))) (hl := Nat.le_of_ble_eq_true rfl))) (hl := Nat.le_of_ble_eq_true rfl))) (hl := Nat.le_of_ble_eq_true rfl))))))))))))))))))))))))
noncomputable def newRound (k : Str) (g : Sq (T3 Str (Sq Nm) Int)) (l : List Dr) : Res Dr := chkR Dr.isR (m_Round___init__ k g l)
theorem mk_Round {W : WX} {Γ : List Sl} {K : PySem.W.Frag} {t : TA} {mk : ∀ {θ : Type}, (Str × Sq (T3 Str (Sq Nm) Int) × List Dr × Unit → M θ) → M θ} {m : M Dr} (h : EvC (ι := Str × Sq (T3 Str (Sq Nm) Int) × List Dr × Unit) K W t Γ mk) (e : m = mk fun i => lft (newRound i.1 i.2.1 i.2.2.1) := by rfl) : EvR K W (tMakeS (He.ga K "Round") (sp_Round___init__ K) [] (WE W) t) Γ m :=
  ev_make' (α := Dr) rfl (fun i => i) (fun G vs i r => by rw [List.append_nil]; exact r) (fun i => chk_ok dr_insR _) h e
end
end K42


set_option Elab.async false
set_option linter.all false
set_option maxRecDepth 100000
set_option maxHeartbeats 4000000
namespace K42
open PySem PySem.Spec PyProof.Rows L2 J N
open M
open ToD (d)
open ToDs (ds)
section
variable {P : Program} {w : World} {K : PySem.W.Frag} {mg : Str → Option Value} {base : Heap} {f : Addr} {fd : FuncData}
end
end K42


set_option Elab.async false
set_option linter.all false
set_option maxRecDepth 100000
set_option maxHeartbeats 4000000
namespace K42
open PySem PySem.Spec PyProof.Rows L2 J N
open M
open ToD (d)
open ToDs (ds)
section
variable {P : Program} {w : World} {K : PySem.W.Frag} {mg : Str → Option Value} {base : Heap} {f : Addr} {fd : FuncData}
theorem sc_are_names : FnScope ["value", "known", "name"] (["value", "known"] : List Str) (defScope s_are_names) := ⟨rfl, rfl, rfl, by decide +kernel, rfl, by decide +kernel, by decide +kernel⟩
noncomputable def B_are_names (v_value : (Sq Str)) (v_known : (Sq Str)) : M Bool := ((((((pure v_value) >>= fun x1 => pure ((d x1 : D))) >>= fun a2 => lft (m_is_listed a2)) >>= fun x3 => pure (!x3)) >>= fun x11 => if x11 = true then pure true else ((((pure v_value.xs) >>= fun xs8 => lcM (fun (v_name : Str) => pure true) (fun (v_name : Str) => (((pure v_name) >>= fun x4 => pure ((fun (_ : Str) => true) x4)) >>= fun x7 => if x7 = true then ((pure v_name) >>= fun x5 => ((pure v_known) >>= fun x6 => pure (memB x5 x6.xs))) else pure false)) xs8) >>= fun a9 => pure (a9.all id)) >>= fun x10 => pure (!x10))) >>= fun c12 => if c12 = true then pure false else (((pure v_value.xs) >>= fun xs13 => lenSetM (fun (v_name : Str) => pure true) (fun (v_name : Str) => pure v_name) xs13) >>= fun x15 => (((pure v_value) >>= fun a14 => pure (a14.xs.length : Int)) >>= fun x16 => pure (decide (x15 = x16)))))
noncomputable def m_are_names (v_value : (Sq Str)) (v_known : (Sq Str)) : Res Bool := M.run (B_are_names v_value v_known)
abbrev sp_are_names (K : PySem.W.Frag) : Sp := spG K fun (i : (Sq Str) × (Sq Str) × Unit) => m_are_names i.1 i.2.1
theorem ok_are_names (F : FnP K "are_names" s_are_names f fd) (T : TT P w K mg base) (c_is_listed : Cal P w K mg base "is_listed" ["value"] 1 (sp_is_listed K)) : FnOk P w K mg base (CXL P w) 2 f fd ["value", "known"] (sp_are_names K) := by
  refine F.ok sc_are_names (fun vs H Q E h => spG_len h (fun _ => rfl)) (fun cdv A outer s H vs Q E hr h => ?_)
  refine ⟨_, (pss_cons (ps_if (PW.pt (pw_or (pt_not (pt_val (pe_calS takes_cx c_is_listed (hr.mono (by decide)) (by rfl) (pa_cons (pv 0) pa_nil)))) (pw_or1 (pt_not (pt_val (pe_callB (cr_allK (K := K) rfl rfl) (by rfl) T.m_all PyProof.Rows.boot_all (pa_cons (pe_lc (own := [("name", 2)]) (g := gName 2) (tt := tYes) rfl sc_are_names.nd (pi_or (pi_listK (K := K) rfl (pv 0)) (pi_tupK (K := K) rfl (pv 0))) (blkOk_by (N := ["value", "known", "name"]) (sc := defScope s_are_names) (by decide +kernel)) (fun _ _ _ _ _ => pg_name (i := 2) sc_are_names.nd rfl (Or.inl rfl)) (fun _ _ _ _ _ => pts_nil) (fun _ _ _ _ _ => (pe_and (pe_callB (call_isiK' (K := K) rfl) (by rfl) T.m_isinstance PyProof.Rows.boot_isinstance (pa_cons (pv 2) (pa_cons (pe_bltn (v := .ty "str") (by rfl) T.m_str (by decide +kernel) rfl) pa_nil))) (pe_one (pe_cmpR (op_in_seqK (K := K) rfl) (pv 2) (pv 1) rfl))))) pa_nil))))))) (pss_one (ps_ret pe_bl)) pss_nil) (pss_one (ps_ret (pe_cmpR op_eq (pe_callB (cr_lenTx rfl) (by rfl) T.m_len PySem.boot_len (pa_cons (pe_setc (own := [("name", 2)]) (k := txKind w) (g := gName 2) (tt := tYes) rfl rfl sc_are_names.nd (pi_or (pi_listK (K := K) rfl (pv 0)) (pi_tupK (K := K) rfl (pv 0))) (blkOk_by (N := ["value", "known", "name"]) (sc := defScope s_are_names) (by decide +kernel)) (fun _ _ _ _ _ => pg_name (i := 2) sc_are_names.nd rfl (Or.inl rfl)) (fun _ _ _ _ _ => pts_nil) (fun _ _ _ _ _ => (pv 2))) pa_nil)) (pe_callB (call_len_seqK (K := K) rfl) (by rfl) T.m_len PySem.boot_len (pa_cons (pv 0) pa_nil)) (nomark _))))), ?_⟩
  refine fn_rd (n := 1) (mb := fun i => B_are_names i.1 i.2.1) h (fun i => by show m_are_names i.1 i.2.1 = M.run (B_are_names i.1 i.2.1); unfold m_are_names; rfl) (fun _ => rfl) (fun i => ?_)
  obtain ⟨v_value, v_known, _⟩ := i
  show Rd K _ _ _ [.val (d v_value), .val (d v_known), .any] (B_are_names v_value v_known)
  unfold B_are_names
  exact (rd_if (et_or (et_not (et_val (ev_call' (ec_cons (ev_as (α := (Sq Str)) (β := D) (f := fun x => ((d x : D))) (ev_var (i := 0) (a := v_value)) (fun _ => rfl)) ec_nil)))) (et_not (et_val (ev_cb' cm_all (ec_cons (ev_lc (ei_up (ei_sq (i := 0) (q := v_value))) tg_name (fun (v_name : Str) => et_yes) (fun (v_name : Str) => (ev_and (ev_isi (bf := fun x => (fun (_ : Str) => true) x) T.insc (ClsV.ty _) (fun _ => trivial) (fun _ => kit_tt) (ev_var (i := 2) (a := v_name))) (ev_op om_inQ (ev_var (i := 2) (a := v_name)) (ev_var (i := 1) (a := v_known)))))) ec_nil))))) (rd_rets ev_bl) (rd_skip (rd_nil (rd_rets (ev_op om_eqI (ev_lenset (w := w) (ei_up (ei_sq (i := 0) (q := v_value))) tg_name (fun (v_name : Str) => et_yes) (fun (v_name : Str) => (ev_var (i := 2) (a := v_name)))) (ev_cb' cm_lenQ (ec_cons (ev_var (i := 0) (a := v_value)) ec_nil)))))))
theorem sc_fair_turn : FnScope ["person", "first", "second"] (["person", "first", "second"] : List Str) (defScope s_fair_turn) := ⟨rfl, rfl, rfl, by decide +kernel, rfl, by decide +kernel, by decide +kernel⟩
noncomputable def B_fair_turn (v_person : Str) (v_first : Dr) (v_second : Dr) : M Dr := ((pure ("open" : Str)) >>= fun a14 => (((((pure v_person) >>= fun a7 => ((((pure (1 : Int)) >>= fun a1 => ((pure (2 : Int)) >>= fun a2 => lft (newRt a1 a2))) >>= fun a5 => (((pure (1 : Int)) >>= fun a3 => ((pure (2 : Int)) >>= fun a4 => lft (newRt a3 a4))) >>= fun a6 => pure [a5, a6])) >>= fun a8 => ((pure (0 : Int)) >>= fun a9 => pure (T3.mk a7 a8 a9)))) >>= fun a10 => pure [a10]) >>= fun x11 => pure (Co.co x11 : (Sq (T3 Str (Sq Nm) Int)))) >>= fun a15 => (((pure v_first) >>= fun a12 => ((pure v_second) >>= fun a13 => pure [a12, a13])) >>= fun a16 => lft (newRound a14 a15 a16))))
noncomputable def m_fair_turn (v_person : Str) (v_first : Dr) (v_second : Dr) : Res Dr := M.run (B_fair_turn v_person v_first v_second)
abbrev sp_fair_turn (K : PySem.W.Frag) : Sp := spG K fun (i : Str × Dr × Dr × Unit) => m_fair_turn i.1 i.2.1 i.2.2.1
theorem ok_fair_turn (F : FnP K "fair_turn" s_fair_turn f fd) (T : TT P w K mg base) (k3_Round : KCal P w K mg base "Round" (He.ga K "Round") ["self", "kind", "givers", "draws"] 9 (sp_Round___init__ K) []) (k2_Ratio : KCal P w K mg base "Ratio" (He.ga K "Ratio") ["self", "top", "bottom"] 3 (sp_Ratio___init__ K) []) : FnOk P w K mg base (CXL P w) 11 f fd ["person", "first", "second"] (sp_fair_turn K) := by
  refine F.ok sc_fair_turn (fun vs H Q E h => spG_len h (fun _ => rfl)) (fun cdv A outer s H vs Q E hr h => ?_)
  refine ⟨_, (pss_one (ps_ret (pe_kcalS takes_cx k3_Round (hr.mono (by decide)) (by rfl) (pa_cons pe_str (pa_cons (pe_lst (pa_cons (pe_tup (pa_cons (pv 0) (pa_cons (pe_lst (pa_cons (pe_kcalS takes_cx k2_Ratio (hr.mono (by decide)) (by rfl) (pa_cons pe_int (pa_cons (pe_glob (v := .int 2) (by rfl) T.g_HALF.choose_spec.1 T.g_HALF.choose_spec.2) pa_nil))) (pa_cons (pe_kcalS takes_cx k2_Ratio (hr.mono (by decide)) (by rfl) (pa_cons pe_int (pa_cons (pe_glob (v := .int 2) (by rfl) T.g_HALF.choose_spec.1 T.g_HALF.choose_spec.2) pa_nil))) pa_nil))) (pa_cons pe_int pa_nil)))) pa_nil)) (pa_cons (pe_lst (pa_cons (pv 1) (pa_cons (pv 2) pa_nil))) pa_nil)))))), ?_⟩
  refine fn_rd (n := 0) (mb := fun i => B_fair_turn i.1 i.2.1 i.2.2.1) h (fun i => by show m_fair_turn i.1 i.2.1 i.2.2.1 = M.run (B_fair_turn i.1 i.2.1 i.2.2.1); unfold m_fair_turn; rfl) (fun _ => rfl) (fun i => ?_)
  obtain ⟨v_person, v_first, v_second, _⟩ := i
  show Rd K _ _ _ [.val (d v_person), .val (d v_first), .val (d v_second)] (B_fair_turn v_person v_first v_second)
  unfold B_fair_turn
  exact (rd_nil (rd_rets (mk_Round (ec_cons ev_str (ec_cons (ev_coC (α := (List (T3 Str (List Rt) Int))) (β := (Sq (T3 Str (Sq Nm) Int))) (ev_lst' (ec_cons (ev_tup' (ec_cons (ev_var (i := 0) (a := v_person)) (ec_cons (ev_lst' (ec_cons (mk2_Ratio (ec_cons ev_int (ec_cons ev_int ec_nil))) (ec_cons (mk2_Ratio (ec_cons ev_int (ec_cons ev_int ec_nil))) ec_nil)) (fun i => [i.1, i.2.1])) (ec_cons ev_int ec_nil))) (fun i => (T3.mk i.1 i.2.1 i.2.2.1))) ec_nil) (fun i => [i.1]))) (ec_cons (ev_lst' (ec_cons (ev_var (i := 1) (a := v_first)) (ec_cons (ev_var (i := 2) (a := v_second)) ec_nil)) (fun i => [i.1, i.2.1])) ec_nil))))))
theorem sc_draw_for : FnScope ["people", "sets", "person", "without", "less", "name", "lot"] (["people", "sets"] : List Str) (defScope s_draw_for) := ⟨rfl, rfl, rfl, by decide +kernel, rfl, by decide +kernel, by decide +kernel⟩
noncomputable def B_draw_for (rec : (List Str) → (List (VT Str)) → Res Dr) (v_people : (List Str)) (v_sets : (List (VT Str))) : M Dr := ((((pure v_sets) >>= fun x1 => ((pure ([] : List (VT Str))) >>= fun x2 => eqD (d x1) (d x2))) >>= fun x5 => if x5 = true then pure true else ((pure (VT.mk [] : (VT Str))) >>= fun x3 => ((pure v_sets) >>= fun x4 => inL (d x3) (d x4)))) >>= fun c6 => if c6 = true then ((((pure v_sets) >>= fun x7 => ((pure ([] : List (VT Str))) >>= fun x8 => eqD (d x7) (d x8))) >>= fun x9 => if x9 = true then pure ("no" : Str) else pure ("yes" : Str)) >>= fun a10 => lft (newEnd a10)) else ((((pure v_people) >>= fun xs15 => lcM (fun (v_name : Str) => (((pure v_sets) >>= fun xs13 => lcM (fun (v_lot : (VT Str)) => pure true) (fun (v_lot : (VT Str)) => ((pure v_name) >>= fun x11 => ((pure v_lot) >>= fun x12 => pure (memB x11 x12.l)))) xs13) >>= fun a14 => pure (a14.any id))) (fun (v_name : Str) => pure v_name) xs15) >>= fun x16 => ((pure (0 : Int)) >>= fun x17 => getM x16 x17)) >>= fun v_person => (((pure v_sets) >>= fun xs20 => lcM (fun (v_lot : (VT Str)) => ((pure v_person) >>= fun x18 => ((pure v_lot) >>= fun x19 => pure (!memB x18 x19.l)))) (fun (v_lot : (VT Str)) => pure v_lot) xs20) >>= fun v_without => (((pure v_sets) >>= fun xs26 => lcM (fun (v_lot : (VT Str)) => pure true) (fun (v_lot : (VT Str)) => ((((pure v_lot) >>= fun x21 => pure x21.l) >>= fun xs24 => lcM (fun (v_name : Str) => ((pure v_name) >>= fun x22 => ((pure v_person) >>= fun x23 => pure (!decide (x22 = x23))))) (fun (v_name : Str) => pure v_name) xs24) >>= fun a25 => pure (VT.mk a25))) xs26) >>= fun v_less => ((pure v_person) >>= fun a31 => (((pure v_people) >>= fun a27 => ((pure v_without) >>= fun a28 => lft (rec a27 a28))) >>= fun a32 => (((pure v_people) >>= fun a29 => ((pure v_less) >>= fun a30 => lft (rec a29 a30))) >>= fun a33 => lft (m_fair_turn a31 a32 a33))))))))
noncomputable def m_draw_for : Nat → (List Str) → (List (VT Str)) → Res Dr
  | 0, _, _ => .stuck
  | n + 1, v_people, v_sets => M.run (B_draw_for (m_draw_for n) v_people v_sets)
abbrev sp_draw_for (K : PySem.W.Frag) (n : Nat) : Sp := spG K fun (i : (List Str) × (List (VT Str)) × Unit) => m_draw_for n i.1 i.2.1
theorem okS_draw_for (n : Nat) (F : FnP K "draw_for" s_draw_for f fd) (T : TT P w K mg base) (k1_End : KCal P w K mg base "End" (He.ga K "End") ["self", "name"] 3 (sp_End___init__ K) []) (c_fair_turn : Cal P w K mg base "fair_turn" ["person", "first", "second"] 11 (sp_fair_turn K)) (c_draw_for : Cal P w K mg base "draw_for" ["people", "sets"] (11 + n) (sp_draw_for K n)) : FnOk P w K mg base (CXL P w) (11 + n + 1) f fd ["people", "sets"] (sp_draw_for K (n + 1)) := by
  refine F.ok sc_draw_for (fun vs H Q E h => spG_len h (fun _ => rfl)) (fun cdv A outer s H vs Q E hr h => ?_)
  have hu64 : (A.deeper (envOfC "draw_for" (defScope s_draw_for) s.heap.objs.size f cdv)).units + 64 < cLine := by have := hr.un; omega
  have hu65 : (A.deeper (envOfC "draw_for" (defScope s_draw_for) s.heap.objs.size f cdv)).units + 65 < cLine := by have := hr.un; omega
  refine ⟨_, (pss_cons (ps_if (PW.pt (pw_or (pt_cmpR (op_eqDK (K := K) rfl hu64) (pv 1) (pe_lst pa_nil) (nomark _)) (pw_or1 (pt_cmpR (op_inDK (K := K) rfl hu65) (pe_tup pa_nil) (pv 1) rfl)))) (pss_one (ps_ret (pe_kcalS takes_cx k1_End (hr.mono (by omega)) (by rfl) (pa_cons (pe_ifExp (pt_cmpR (op_eqDK (K := K) rfl hu64) (pv 1) (pe_lst pa_nil) (nomark _)) pe_str pe_str) pa_nil)))) pss_nil) (pss_cons (ps_set (i := 2) sc_draw_for.nd rfl (Or.inr rfl) (pe_ix (ix_listK (K := K) rfl) (pe_lc (own := [("name", 5)]) (g := gName 5) (tt := _) rfl sc_draw_for.nd (pi_listK (K := K) rfl (pv 0)) (blkOk_by (N := ["people", "sets", "person", "without", "less", "name", "lot"]) (sc := defScope s_draw_for) (by decide +kernel)) (fun _ _ _ _ _ => pg_name (i := 5) sc_draw_for.nd rfl (Or.inr rfl)) (fun _ _ _ _ _ => (pts_one (pt_val (pe_callB (cr_anyK (K := K) rfl rfl) (by rfl) T.m_any PyProof.Rows.boot_any (pa_cons (pe_lc (own := [("lot", 6)]) (g := gName 6) (tt := tYes) rfl sc_draw_for.nd (pi_listK (K := K) rfl (pv 1)) (blkOk_by (by kernel_rfl)) (fun _ _ _ _ _ => pg_name (i := 6) sc_draw_for.nd rfl (Or.inl rfl)) (fun _ _ _ _ _ => pts_nil) (fun _ _ _ _ _ => (pe_cmpR (op_in_seqK (K := K) rfl) (pv 5) (pv 6) rfl))) pa_nil))))) (fun _ _ _ _ _ => (pv 5))) pe_int (fun _ _ => rfl))) (pss_cons (ps_setLc (i := 3) (own := [("lot", 6)]) (g := gName 6) (tt := _) rfl sc_draw_for.nd rfl rfl (sw_true rfl rfl rfl (by decide +kernel)) (pi_listK (K := K) rfl (pv 1)) (blkOk_by (N := ["people", "sets", "person", "without", "less", "name", "lot"]) (sc := defScope s_draw_for) (by decide +kernel)) (fun _ _ _ _ _ => pg_name (i := 6) sc_draw_for.nd rfl (Or.inl rfl)) (fun _ _ _ _ _ => (pts_one (pt_cmpR (op_notIn_seqK (K := K) rfl) (pv 2) (pv 6) rfl))) (fun _ _ _ _ _ => (pv 6))) (pss_cons (ps_setLc (i := 4) (own := [("lot", 6)]) (g := gName 6) (tt := tYes) rfl sc_draw_for.nd rfl rfl (sw_true rfl rfl rfl (by decide +kernel)) (pi_listK (K := K) rfl (pv 1)) (blkOk_by (N := ["people", "sets", "person", "without", "less", "name", "lot"]) (sc := defScope s_draw_for) (by decide +kernel)) (fun _ _ _ _ _ => pg_name (i := 6) sc_draw_for.nd rfl (Or.inl rfl)) (fun _ _ _ _ _ => pts_nil) (fun _ _ _ _ _ => (pe_callTy (call_tuple_ofK (K := K) rfl) (by rfl) T.m_tuple (by decide +kernel) (pa_cons (pe_lc (own := [("name", 5)]) (g := gName 5) (tt := _) rfl sc_draw_for.nd (pi_tupK (K := K) rfl (pv 6)) (blkOk_by (by kernel_rfl)) (fun _ _ _ _ _ => pg_name (i := 5) sc_draw_for.nd rfl (Or.inl rfl)) (fun _ _ _ _ _ => (pts_one (pt_cmpR op_ne (pv 5) (pv 2) (nomark _)))) (fun _ _ _ _ _ => (pv 5))) pa_nil)))) (pss_one (ps_ret (pe_calS takes_cx c_fair_turn (hr.mono (by omega)) (by rfl) (pa_cons (pv 2) (pa_cons (pe_calS takes_cx c_draw_for (hr.mono (by omega)) (by rfl) (pa_cons (pv 0) (pa_cons (pv 3) pa_nil))) (pa_cons (pe_calS takes_cx c_draw_for (hr.mono (by omega)) (by rfl) (pa_cons (pv 0) (pa_cons (pv 4) pa_nil))) pa_nil)))))))))), ?_⟩
  refine fn_rd (n := 5) (mb := fun i => B_draw_for (m_draw_for n) i.1 i.2.1) h (fun i => by show m_draw_for (n + 1) i.1 i.2.1 = M.run (B_draw_for (m_draw_for n) i.1 i.2.1); rw [m_draw_for]) (fun _ => rfl) (fun i => ?_)
  obtain ⟨v_people, v_sets, _⟩ := i
  show Rd K _ _ _ [.val (d v_people), .val (d v_sets), .any, .any, .any, .any, .any] (B_draw_for (m_draw_for n) v_people v_sets)
  unfold B_draw_for
  exact (rd_if (et_or (et_test (ev_op om_eqD (ev_var (i := 1) (a := v_sets)) (ev_lst' ec_nil (fun _ => ([] : List (VT Str)))))) (et_test (ev_op om_inL (ev_tup' ec_nil (fun _ => (VT.mk [] : (VT Str)))) (ev_var (i := 1) (a := v_sets))))) (rd_rets (mk_End (ec_cons (ev_if (et_test (ev_op om_eqD (ev_var (i := 1) (a := v_sets)) (ev_lst' ec_nil (fun _ => ([] : List (VT Str)))))) ev_str ev_str) ec_nil))) (rd_skip (rd_set (ev_op om_ixL (ev_lc (ei_up (ei_list (ev_var (i := 0) (a := v_people)))) tg_name (fun (v_name : Str) => (et_val (ev_cb' cm_any (ec_cons (ev_lc (ei_up (ei_list (ev_var (i := 1) (a := v_sets)))) tg_name (fun (v_lot : (VT Str)) => et_yes) (fun (v_lot : (VT Str)) => (ev_op om_inFV (ev_var (i := 5) (a := v_name)) (ev_var (i := 6) (a := v_lot))))) ec_nil)))) (fun (v_name : Str) => (ev_var (i := 5) (a := v_name)))) ev_int) (fun (v_person : Str) => (rd_set (ev_lc (ei_up (ei_list (ev_var (i := 1) (a := v_sets)))) tg_name (fun (v_lot : (VT Str)) => (et_test (ev_op om_ninFV (ev_var (i := 2) (a := v_person)) (ev_var (i := 6) (a := v_lot))))) (fun (v_lot : (VT Str)) => (ev_var (i := 6) (a := v_lot)))) (fun (v_without : (List (VT Str))) => (rd_set (ev_lc (ei_up (ei_list (ev_var (i := 1) (a := v_sets)))) tg_name (fun (v_lot : (VT Str)) => et_yes) (fun (v_lot : (VT Str)) => (ev_cb' cm_tupL (ec_cons (ev_lc (ei_up (ei_tup (ev_var (i := 6) (a := v_lot)))) tg_name (fun (v_name : Str) => (et_test (ev_op om_neS (ev_var (i := 5) (a := v_name)) (ev_var (i := 2) (a := v_person))))) (fun (v_name : Str) => (ev_var (i := 5) (a := v_name)))) ec_nil)))) (fun (v_less : (List (VT Str))) => (rd_nil (rd_rets (ev_call' (ec_cons (ev_var (i := 2) (a := v_person)) (ec_cons (ev_call' (ec_cons (ev_var (i := 0) (a := v_people)) (ec_cons (ev_var (i := 3) (a := v_without)) ec_nil))) (ec_cons (ev_call' (ec_cons (ev_var (i := 0) (a := v_people)) (ec_cons (ev_var (i := 4) (a := v_less)) ec_nil))) ec_nil))))))))))))))
theorem ok_draw_for (F : FnP K "draw_for" s_draw_for f fd) (T : TT P w K mg base) (k1_End : KCal P w K mg base "End" (He.ga K "End") ["self", "name"] 3 (sp_End___init__ K) []) (c_fair_turn : Cal P w K mg base "fair_turn" ["person", "first", "second"] 11 (sp_fair_turn K)) (mk : ∀ n, FnOk P w K mg base (CXL P w) (11 + n) f fd ["people", "sets"] (sp_draw_for K n) → Cal P w K mg base "draw_for" ["people", "sets"] (11 + n) (sp_draw_for K n)) : ∀ n, FnOk P w K mg base (CXL P w) (11 + n) f fd ["people", "sets"] (sp_draw_for K n)
  | 0 => fnOk_no (fun vs H Q E h => spG_no (fun _ => rfl) h)
  | n + 1 => okS_draw_for n F T k1_End c_fair_turn (mk n (ok_draw_for F T k1_End c_fair_turn mk n))
theorem sc_family_draw : FnScope ["people", "sets", "name", "lot"] (["people", "sets"] : List Str) (defScope s_family_draw) := ⟨rfl, rfl, rfl, by decide +kernel, rfl, by decide +kernel, by decide +kernel⟩
noncomputable def B_family_draw (v_people : (Sq Str)) (v_sets : (List (Sq Str))) : M Dr := ((((((pure v_people) >>= fun x1 => pure ((d x1 : D))) >>= fun a2 => lft (m_is_listed a2)) >>= fun x3 => pure (!x3)) >>= fun x15 => if x15 = true then pure true else ((((pure (0 : Int)) >>= fun x5 => (((pure v_people) >>= fun a4 => pure (a4.xs.length : Int)) >>= fun x6 => ((pure (decide (x5 < x6))) >>= fun k8 => if k8 = true then ((pure (6 : Int)) >>= fun x7 => pure (decide (x6 ≤ x7))) else pure false))) >>= fun x9 => pure (!x9)) >>= fun x14 => if x14 = true then pure true else ((((pure v_people.xs) >>= fun xs11 => lcM (fun (v_name : Str) => pure true) (fun (v_name : Str) => ((pure v_name) >>= fun a10 => lft (m_is_name a10))) xs11) >>= fun a12 => pure (a12.all id)) >>= fun x13 => pure (!x13)))) >>= fun c16 => if c16 = true then ((pure v_people) >>= fun x17 => M.raise "BadNames" [("given", d x17)]) else ((((pure v_people) >>= fun a18 => ((pure v_people) >>= fun a19 => lft (m_are_names a18 a19))) >>= fun x20 => pure (!x20)) >>= fun c21 => if c21 = true then ((pure v_people) >>= fun x22 => M.raise "BadNames" [("given", d x22)]) else ((((((pure v_sets) >>= fun x23 => pure ((d x23 : D))) >>= fun a24 => lft (m_is_listed a24)) >>= fun x25 => pure (!x25)) >>= fun x31 => if x31 = true then pure true else ((((pure v_sets) >>= fun xs28 => lcM (fun (v_lot : (Sq Str)) => pure true) (fun (v_lot : (Sq Str)) => ((pure v_lot) >>= fun a26 => ((pure v_people) >>= fun a27 => lft (m_are_names a26 a27)))) xs28) >>= fun a29 => pure (a29.all id)) >>= fun x30 => pure (!x30))) >>= fun c32 => if c32 = true then ((pure v_sets) >>= fun x33 => M.raise "BadFamily" [("given", d x33)]) else (((pure v_people) >>= fun a34 => sortQ a34.xs) >>= fun a37 => (((pure v_sets) >>= fun xs36 => lcM (fun (v_lot : (Sq Str)) => pure true) (fun (v_lot : (Sq Str)) => ((pure v_lot) >>= fun a35 => pure (VT.mk a35.xs))) xs36) >>= fun a38 => lft (m_draw_for 8 a37 a38))))))
noncomputable def m_family_draw (v_people : (Sq Str)) (v_sets : (List (Sq Str))) : Res Dr := M.run (B_family_draw v_people v_sets)
abbrev sp_family_draw (K : PySem.W.Frag) : Sp := spG K fun (i : (Sq Str) × (List (Sq Str)) × Unit) => m_family_draw i.1 i.2.1
theorem ok_family_draw (F : FnP K "family_draw" s_family_draw f fd) (T : TT P w K mg base) (c_is_listed : Cal P w K mg base "is_listed" ["value"] 1 (sp_is_listed K)) (c_is_name : Cal P w K mg base "is_name" ["value"] 1 (sp_is_name K)) (c_are_names : Cal P w K mg base "are_names" ["value", "known"] 2 (sp_are_names K)) (c_draw_for : Cal P w K mg base "draw_for" ["people", "sets"] 19 (sp_draw_for K 8)) : FnOk P w K mg base (CXL P w) 20 f fd ["people", "sets"] (sp_family_draw K) := by
  refine F.ok sc_family_draw (fun vs H Q E h => spG_len h (fun _ => rfl)) (fun cdv A outer s H vs Q E hr h => ?_)
  refine ⟨_, (pss_cons (ps_if (PW.pt (pw_or (pt_not (pt_val (pe_calS takes_cx c_is_listed (hr.mono (by decide)) (by rfl) (pa_cons (pv 0) pa_nil)))) (pw_or (pt_not (pt_chain op_lt op_le pe_int (pe_callB (call_len_seqK (K := K) rfl) (by rfl) T.m_len PySem.boot_len (pa_cons (pv 0) pa_nil)) (pe_glob (v := .int 6) (by rfl) T.g_MOST_PEOPLE.choose_spec.1 T.g_MOST_PEOPLE.choose_spec.2))) (pw_or1 (pt_not (pt_val (pe_callB (cr_allK (K := K) rfl rfl) (by rfl) T.m_all PyProof.Rows.boot_all (pa_cons (pe_lc (own := [("name", 2)]) (g := gName 2) (tt := tYes) rfl sc_family_draw.nd (pi_or (pi_listK (K := K) rfl (pv 0)) (pi_tupK (K := K) rfl (pv 0))) (blkOk_by (N := ["people", "sets", "name", "lot"]) (sc := defScope s_family_draw) (by decide +kernel)) (fun _ _ _ _ _ => pg_name (i := 2) sc_family_draw.nd rfl (Or.inl rfl)) (fun _ _ _ _ _ => pts_nil) (fun _ _ _ _ _ => (pe_calS takesF c_is_name (hr.mono (by decide)) (by rfl) (pa_cons (pv 2) pa_nil)))) pa_nil)))))))) (pss_one (ps_raiseE rfl takes_cx T.e_BadNames (hr.mono (by decide)) (by rfl) (pv 0))) pss_nil) (pss_cons (ps_if (pt_not (pt_val (pe_calS takes_cx c_are_names (hr.mono (by decide)) (by rfl) (pa_cons (pv 0) (pa_cons (pv 0) pa_nil))))) (pss_one (ps_raiseE rfl takes_cx T.e_BadNames (hr.mono (by decide)) (by rfl) (pv 0))) pss_nil) (pss_cons (ps_if (PW.pt (pw_or (pt_not (pt_val (pe_calS takes_cx c_is_listed (hr.mono (by decide)) (by rfl) (pa_cons (pv 1) pa_nil)))) (pw_or1 (pt_not (pt_val (pe_callB (cr_allK (K := K) rfl rfl) (by rfl) T.m_all PyProof.Rows.boot_all (pa_cons (pe_lc (own := [("lot", 3)]) (g := gName 3) (tt := tYes) rfl sc_family_draw.nd (pi_listK (K := K) rfl (pv 1)) (blkOk_by (N := ["people", "sets", "name", "lot"]) (sc := defScope s_family_draw) (by decide +kernel)) (fun _ _ _ _ _ => pg_name (i := 3) sc_family_draw.nd rfl (Or.inl rfl)) (fun _ _ _ _ _ => pts_nil) (fun _ _ _ _ _ => (pe_calS takesF c_are_names (hr.mono (by decide)) (by rfl) (pa_cons (pv 3) (pa_cons (pv 0) pa_nil))))) pa_nil))))))) (pss_one (ps_raiseE rfl takes_cx T.e_BadFamily (hr.mono (by decide)) (by rfl) (pv 1))) pss_nil) (pss_one (ps_ret (pe_calS takes_cx c_draw_for (hr.mono (by decide)) (by rfl) (pa_cons (pe_callB (cr_sortedQ (K := K) rfl) (by rfl) T.m_sorted PyProof.Rows.boot_sorted (pa_cons (pv 0) pa_nil)) (pa_cons (pe_lc (own := [("lot", 3)]) (g := gName 3) (tt := tYes) rfl sc_family_draw.nd (pi_listK (K := K) rfl (pv 1)) (blkOk_by (N := ["people", "sets", "name", "lot"]) (sc := defScope s_family_draw) (by decide +kernel)) (fun _ _ _ _ _ => pg_name (i := 3) sc_family_draw.nd rfl (Or.inl rfl)) (fun _ _ _ _ _ => pts_nil) (fun _ _ _ _ _ => (pe_callTy (call_tuple_ofK (K := K) rfl) (by rfl) T.m_tuple (by decide +kernel) (pa_cons (pv 3) pa_nil)))) pa_nil)))))))), ?_⟩
  refine fn_rd (n := 2) (mb := fun i => B_family_draw i.1 i.2.1) h (fun i => by show m_family_draw i.1 i.2.1 = M.run (B_family_draw i.1 i.2.1); unfold m_family_draw; rfl) (fun _ => rfl) (fun i => ?_)
  obtain ⟨v_people, v_sets, _⟩ := i
  show Rd K _ _ _ [.val (d v_people), .val (d v_sets), .any, .any] (B_family_draw v_people v_sets)
  unfold B_family_draw
  exact (rd_if (et_or (et_not (et_val (ev_call' (ec_cons (ev_as (α := (Sq Str)) (β := D) (f := fun x => ((d x : D))) (ev_var (i := 0) (a := v_people)) (fun _ => rfl)) ec_nil)))) (et_or (et_not (et_test (ev_chain om_ltI om_leI ev_int (ev_cb' cm_lenQ (ec_cons (ev_var (i := 0) (a := v_people)) ec_nil)) ev_int))) (et_not (et_val (ev_cb' cm_all (ec_cons (ev_lc (ei_up (ei_sq (i := 0) (q := v_people))) tg_name (fun (v_name : Str) => et_yes) (fun (v_name : Str) => (ev_call' (ec_cons (ev_var (i := 2) (a := v_name)) ec_nil)))) ec_nil)))))) (rd_raise (c := "BadNames") (fld := "given") rfl (ev_var (i := 0) (a := v_people))) (rd_skip (rd_if (et_not (et_val (ev_call' (ec_cons (ev_var (i := 0) (a := v_people)) (ec_cons (ev_var (i := 0) (a := v_people)) ec_nil))))) (rd_raise (c := "BadNames") (fld := "given") rfl (ev_var (i := 0) (a := v_people))) (rd_skip (rd_if (et_or (et_not (et_val (ev_call' (ec_cons (ev_as (α := (List (Sq Str))) (β := D) (f := fun x => ((d x : D))) (ev_var (i := 1) (a := v_sets)) (fun _ => rfl)) ec_nil)))) (et_not (et_val (ev_cb' cm_all (ec_cons (ev_lc (ei_up (ei_list (ev_var (i := 1) (a := v_sets)))) tg_name (fun (v_lot : (Sq Str)) => et_yes) (fun (v_lot : (Sq Str)) => (ev_call' (ec_cons (ev_var (i := 3) (a := v_lot)) (ec_cons (ev_var (i := 0) (a := v_people)) ec_nil))))) ec_nil))))) (rd_raise (c := "BadFamily") (fld := "given") rfl (ev_var (i := 1) (a := v_sets))) (rd_skip (rd_nil (rd_rets (ev_call' (ec_cons (ev_cb' cm_sortedQ (ec_cons (ev_var (i := 0) (a := v_people)) ec_nil)) (ec_cons (ev_lc (ei_up (ei_list (ev_var (i := 1) (a := v_sets)))) tg_name (fun (v_lot : (Sq Str)) => et_yes) (fun (v_lot : (Sq Str)) => (ev_cb' cm_tupQ (ec_cons (ev_var (i := 3) (a := v_lot)) ec_nil)))) ec_nil)))))))))))
end
end K42


set_option Elab.async false
set_option linter.all false
set_option maxRecDepth 100000
set_option maxHeartbeats 4000000
namespace K42
open PySem PySem.Spec PyProof.Rows L2 J N
open M
open ToD (d)
open ToDs (ds)
section
variable {P : Program} {w : World} {K : PySem.W.Frag} {mg : Str → Option Value} {base : Heap} {f : Addr} {fd : FuncData}
noncomputable def m__law_pick (m : Int) : M Int := pickM m
theorem scPick : FnScope ["_law_tape_here", "_law_many", "_law_digit", "_law_mixed_here"] ["_law_tape_here", "_law_many"] (defScope s__law_pick) := ⟨rfl, rfl, rfl, by decide +kernel, rfl, by decide +kernel, by decide +kernel⟩
theorem ok__law_pick (F : FnP K "_law_pick" s__law_pick f fd) (T : TT P w K mg base) : FnOk P w K mg base (CXL P w) 1 f fd ["_law_tape_here", "_law_many"] (spB K fun (i : Int × Unit) => m__law_pick i.1) := by
  refine F.ok scPick (fun vs H Q E h => spB_len h (fun _ => rfl)) (fun cdv A outer s H vs Q E hr h => ?_)
  obtain ⟨⟨m, _⟩, G, ⟨a, b, c⟩, p, ws, rfl, sg, B, rs, hf⟩ := h
  obtain ⟨v, rfl, r⟩ := reps1 rs
  cases rep_int r
  obtain ⟨gp, hp⟩ := B p rfl
  have hf : FinB K (some p) G H Q E (pickM m (a, b, c)) := hf
  have hc : c = -1 ∧ 0 < m ∧ m.natAbs.log2 < 9000 ∧ 0 ≤ a ∧ 0 ≤ b ∧ b < 2147483648 := by
    by_cases z : c = -1 ∧ 0 < m ∧ m.natAbs.log2 < 9000 ∧ 0 ≤ a ∧ 0 ≤ b ∧ b < 2147483648
    · exact z
    · unfold pickM at hf
      dsimp only at hf
      rw [if_neg z] at hf
      exact hf.elim
  have hc0 := hc
  obtain ⟨rfl, hm0, hm1, ha0, hb0, hb1⟩ := hc
  have hp : H p = some (.lst [.int a, .int b]) := hp
  have k1 : 1000000000000000000 ≤ a → pickM m (a, b, -1) = ((a / m, b, -1), .ok (a % m)) := fun h => by
    unfold pickM
    dsimp only
    rw [if_pos hc0, if_pos h]
  have k2 : ¬ 1000000000000000000 ≤ a → pickM m (a, b, -1) = ((a, (b * 48271 + a * 69621 + 11) % 2147483647, -1), .ok ((((b * 48271 + a * 69621 + 11) % 2147483647) * ((b * 48271 + a * 69621 + 11) % 2147483647) + ((b * 48271 + a * 69621 + 11) % 2147483647) * 40692 + 7) % 2147483399 / 64 % m)) := fun h => by
    unfold pickM
    dsimp only
    rw [if_pos hc0, if_neg h]
  have fin : ∀ (r : Int) (b' : Bx) (H' : Hp), pickM m (a, b, -1) = (b', .ok r) → b'.2.2 = -1 → H' p = some (.lst [.int b'.1, .int b'.2.1]) → (∀ z, z ≠ p → H' z = H z) → Q (.int r) H' := by
    intro r b' H' e bn hp' hk
    rw [e] at hf
    refine hf (.int r) G H' ⟨Same.refl _, fun z o hz => ?_, fun z o nx hz => ?_, fun z o _ _ g => g⟩ (fun z hz => ?_) (.int r)
    · rw [hk z (fun e => by rw [e, gp] at hz; cases hz)]; exact sg z o hz
    · rw [hk z (fun e => nx (by rw [e]))]; exact hz
    · cases hz
      refine ⟨gp, ?_⟩
      unfold bxL
      rw [bn, if_pos (show (-1 : Int) < 0 by decide)]
      exact hp'
  clear hf
  refine ⟨_, PSs.nox (pss_cons (ps_if (pt_cmpR op_ge (pe_ix ix_list (pv 0) pe_int (fun _ _ => rfl)) (pe_op op_pow pe_int pe_int) (nomark _))
      (pss_cons (ps_set (i := 2) scPick.nd rfl (Or.inl rfl) (pe_op op_mod (pe_callTy call_int1 (by rfl) T.m_int (by decide +kernel) (pa_cons (pe_ix ix_list (pv 0) pe_int (fun _ _ => rfl)) pa_nil)) (pv 1)))
      (pss_cons (ps_asg (pe_op op_fdivW (pe_ix ix_list (pv 0) pe_int (fun _ _ => rfl)) (pv 1)) (pg_sub (pv 0) pe_int set_list))
      (pss_one (ps_ret (pv 2))))) pss_nil)
    (pss_cons (ps_asg (pe_op op_mod (pe_callTy call_int1 (by rfl) T.m_int (by decide +kernel) (pa_cons (pe_op op_add (pe_op op_add (pe_op op_mul (pe_ix ix_list (pv 0) pe_int (fun _ _ => rfl)) pe_int) (pe_op op_mul (pe_ix ix_list (pv 0) pe_int (fun _ _ => rfl)) pe_int)) pe_int) pa_nil)) pe_int) (pg_sub (pv 0) pe_int set_list))
    (pss_cons (ps_set (i := 3) scPick.nd rfl (Or.inl rfl) (pe_op op_mod (pe_callTy call_int1 (by rfl) T.m_int (by decide +kernel) (pa_cons (pe_op op_add (pe_op op_add (pe_op op_mul (pe_ix ix_list (pv 0) pe_int (fun _ _ => rfl)) (pe_ix ix_list (pv 0) pe_int (fun _ _ => rfl))) (pe_op op_mul (pe_ix ix_list (pv 0) pe_int (fun _ _ => rfl)) pe_int)) pe_int) pa_nil)) pe_int))
    (pss_one (ps_ret (pe_op op_mod (pe_callTy call_int1 (by rfl) T.m_int (by decide +kernel) (pa_cons (pe_op op_fdiv (pv 3) pe_int) pa_nil)) (pv 1))))))), ?_⟩
  have p18 : (10 : Int) ^ (18 : Int).toNat = 1000000000000000000 := by decide +kernel
  refine ⟨_, rfl, p, _, 0, _, rfl, rfl, SqL.of hp, rfl, 10, 18, rfl, rfl, ⟨by decide, by decide, by decide⟩, _, _, rfl, rfl, _, rfl, ?_⟩
  refine ite2 (fun h1 => ?_) (fun h1 => ?_)
  · have h2 : (10 : Int) ^ (18 : Int).toNat ≤ a := of_decide_eq_true h1
    have e := k1 (by omega)
    refine ⟨_, rfl, p, _, 0, _, rfl, rfl, SqL.of hp, rfl, Or.inl ⟨_, rfl, _, rfl, _, _, rfl, rfl, hm0, ?_⟩⟩
    refine ⟨_, rfl, p, _, 0, _, rfl, rfl, SqL.of hp, rfl, _, rfl, _, _, rfl, rfl, ⟨hm0, hm1⟩, _, rfl, p, _, 0, 0, rfl, rfl, hp, rfl, ?_⟩
    exact ⟨_, rfl, fin _ _ _ e rfl upd_same fun z hz => upd_ne hz⟩
  · have h2 : ¬ (10 : Int) ^ (18 : Int).toNat ≤ a := fun z => h1 (decide_eq_true z)
    have e := k2 (by omega)
    have y0 := Int.emod_nonneg (b * 48271 + a * 69621 + 11) (show (2147483647 : Int) ≠ 0 by decide)
    have y1 := Int.emod_lt_of_pos (b * 48271 + a * 69621 + 11) (show (0 : Int) < 2147483647 by decide)
    refine ⟨_, rfl, p, _, 1, _, rfl, rfl, SqL.of hp, rfl, _, _, rfl, rfl, Or.inr ⟨by decide, by decide⟩, _, rfl, p, _, 0, _, rfl, rfl, SqL.of hp, rfl, _, _, rfl, rfl, Or.inr ⟨by decide, by decide⟩, _, _, rfl, rfl, _, _, rfl, rfl, Or.inl ⟨_, rfl, _, _, rfl, rfl, (by show (0 : Int) < 2147483647; decide), _, rfl, p, _, 1, 1, rfl, rfl, hp, rfl, ?_⟩⟩
    have hp2 : upd H p (.lst [.int a, .int ((b * 48271 + a * 69621 + 11) % 2147483647)]) p = some (.lst [.int a, .int ((b * 48271 + a * 69621 + 11) % 2147483647)]) := upd_same
    refine ⟨_, rfl, p, _, 1, _, rfl, rfl, SqL.of hp2, rfl, _, rfl, p, _, 1, _, rfl, rfl, SqL.of hp2, rfl, _, _, rfl, rfl, Or.inl ⟨by omega, by omega⟩, _, rfl, p, _, 1, _, rfl, rfl, SqL.of hp2, rfl, _, _, rfl, rfl, Or.inr ⟨by decide, by decide⟩, _, _, rfl, rfl, _, _, rfl, rfl, Or.inl ⟨_, rfl, _, _, rfl, rfl, (by show (0 : Int) < 2147483399; decide), ?_⟩⟩
    refine ⟨_, rfl, _, _, rfl, rfl, ⟨by decide, by decide⟩, Or.inl ⟨_, rfl, _, rfl, _, _, rfl, rfl, hm0, ?_⟩⟩
    exact fin _ _ _ e rfl hp2 fun z hz => upd_ne hz
theorem sc__law_mixed : FnScope ["_law_tape_here", "_law_items", "_law_left", "_law_found", "_law_k"] (["_law_tape_here", "_law_items"] : List Str) (defScope s__law_mixed) := ⟨rfl, rfl, rfl, by decide +kernel, rfl, by decide +kernel, by decide +kernel⟩
noncomputable def m__law_mixed (v_items : (List Str)) : M (List Str) := ((pure v_items) >>= fun v_left => ((((pure v_items) >>= fun a1 => pure (a1.length : Int)) >>= fun x3 => rng1 x3) >>= fun xs5 => ((foldM (fun (v_k : Int) (s4 : (List Str) × (List Str)) => ((popM s4.1 s4.2 ((pure (s4.2.length : Int)) >>= fun a6 => m__law_pick a6)) >>= fun p7 => pure (p7.1, p7.2))) xs5 (([] : List Str), v_left)) >>= fun s4 => pure s4.1)))
abbrev sp__law_mixed (K : PySem.W.Frag) : Sp := spB K fun (i : (List Str) × Unit) => m__law_mixed i.1
theorem ok__law_mixed (F : FnP K "_law_mixed" s__law_mixed f fd) (T : TT P w K mg base) (c__law_pick : Cal P w K mg base "_law_pick" ["_law_tape_here", "_law_many"] 1 (spB K fun (i : Int × Unit) => m__law_pick i.1)) : FnOk P w K mg base (CXL P w) 2 f fd ["_law_tape_here", "_law_items"] (sp__law_mixed K) := by
  refine F.ok sc__law_mixed (fun vs H Q E h => spB_len h (fun _ => rfl)) (fun cdv A outer s H vs Q E hr h => ?_)
  refine ⟨_, (pss_cons (ps_set (i := 2) sc__law_mixed.nd rfl (Or.inl rfl) (pe_callTy (call_list_ofK (K := K) rfl) (by rfl) T.m_list (by decide +kernel) (pa_cons (pv 1) pa_nil))) (pss_cons (ps_set (i := 3) sc__law_mixed.nd rfl (Or.inl rfl) (pe_lst pa_nil)) (pss_cons (ps_for passes_cx rfl (pi_range1 (by rfl) T.m_range (pa_cons (pe_callB (call_len_seqK (K := K) rfl) (by rfl) T.m_len PySem.boot_len (pa_cons (pv 1) pa_nil)) pa_nil)) (pg_name (i := 4) sc__law_mixed.nd rfl (Or.inl rfl)) (pss_one (ps_expr (pe_bm PySem.F.plainAttrs_list PySem.F.slot_list_append PySem.F.type_list_append mt_append (pv 3) (pa_cons (pe_bm PySem.F.plainAttrs_list PySem.F.slot_list_pop PySem.F.type_list_pop mt_popAt (pv 2) (pa_cons (pe_calS takes_cx c__law_pick (hr.mono (by decide)) (by rfl) (pa_cons (pv 0) (pa_cons (pe_callB (call_len_seqK (K := K) rfl) (by rfl) T.m_len PySem.boot_len (pa_cons (pv 2) pa_nil)) pa_nil))) pa_nil)) pa_nil))))) (pss_one (ps_ret (pv 3)))))), ?_⟩
  refine fn_rdB (n := 3) h (fun _ => rfl) (fun i => ?_)
  obtain ⟨v_items, _⟩ := i
  show Rd K _ _ _ [.box, .val (d v_items), .any, .any, .any] (m__law_mixed v_items)
  unfold m__law_mixed
  exact (rd_newL (ev_var (i := 1) (a := v_items)) (fun (v_left : (List Str)) => (rd_new (α := Str) (rd_fold (S := (List Str) × (List Str)) (Γn := fun s4 => [.box, .val (d v_items), .own (s4.2.map d), .own (s4.1.map d), .any]) (s0 := (([] : List Str), v_left)) (.eq (.eq (.eq (.eq (.any .nil))))) (ei_range1 (ev_cb' cm_lenL (ec_cons (ev_var (i := 1) (a := v_items)) ec_nil))) tg_name (fun _ => up1) (fun (v_k : Int) s4 => (rd_nil (rd_apppop (i := 3) (j := 2) (xs := s4.1) (ys := s4.2) (by decide) (ev_callB' (j := 0) (ec_cons (ev_lenOwn (i := 2) (xs := s4.2)) ec_nil)) (fun (p7 : List Str × List Str) => (rd_next (s := (p7.1, p7.2)) (.eq (.eq (.eq (.eq (.any .nil)))))))))) (fun s4 => (rd_settle (i := 2) (xs := s4.2) (rd_settle (i := 3) (xs := s4.1) (rd_nil (rd_rets (ev_var (i := 3) (a := s4.1)))))))))))
noncomputable def m__law_mixedL (v_items : (List (List Str))) : M (List (List Str)) := ((pure v_items) >>= fun v_left => ((((pure v_items) >>= fun a1 => pure (a1.length : Int)) >>= fun x3 => rng1 x3) >>= fun xs5 => ((foldM (fun (v_k : Int) (s4 : (List (List Str)) × (List (List Str))) => ((popM s4.1 s4.2 ((pure (s4.2.length : Int)) >>= fun a6 => m__law_pick a6)) >>= fun p7 => pure (p7.1, p7.2))) xs5 (([] : List (List Str)), v_left)) >>= fun s4 => pure s4.1)))
abbrev sp__law_mixedL (K : PySem.W.Frag) : Sp := spB K fun (i : (List (List Str)) × Unit) => m__law_mixedL i.1
theorem ok__law_mixedL (F : FnP K "_law_mixed" s__law_mixed f fd) (T : TT P w K mg base) (c__law_pick : Cal P w K mg base "_law_pick" ["_law_tape_here", "_law_many"] 1 (spB K fun (i : Int × Unit) => m__law_pick i.1)) : FnOk P w K mg base (CXL P w) 2 f fd ["_law_tape_here", "_law_items"] (sp__law_mixedL K) := by
  refine F.ok sc__law_mixed (fun vs H Q E h => spB_len h (fun _ => rfl)) (fun cdv A outer s H vs Q E hr h => ?_)
  refine ⟨_, (pss_cons (ps_set (i := 2) sc__law_mixed.nd rfl (Or.inl rfl) (pe_callTy (call_list_ofK (K := K) rfl) (by rfl) T.m_list (by decide +kernel) (pa_cons (pv 1) pa_nil))) (pss_cons (ps_set (i := 3) sc__law_mixed.nd rfl (Or.inl rfl) (pe_lst pa_nil)) (pss_cons (ps_for passes_cx rfl (pi_range1 (by rfl) T.m_range (pa_cons (pe_callB (call_len_seqK (K := K) rfl) (by rfl) T.m_len PySem.boot_len (pa_cons (pv 1) pa_nil)) pa_nil)) (pg_name (i := 4) sc__law_mixed.nd rfl (Or.inl rfl)) (pss_one (ps_expr (pe_bm PySem.F.plainAttrs_list PySem.F.slot_list_append PySem.F.type_list_append mt_append (pv 3) (pa_cons (pe_bm PySem.F.plainAttrs_list PySem.F.slot_list_pop PySem.F.type_list_pop mt_popAt (pv 2) (pa_cons (pe_calS takes_cx c__law_pick (hr.mono (by decide)) (by rfl) (pa_cons (pv 0) (pa_cons (pe_callB (call_len_seqK (K := K) rfl) (by rfl) T.m_len PySem.boot_len (pa_cons (pv 2) pa_nil)) pa_nil))) pa_nil)) pa_nil))))) (pss_one (ps_ret (pv 3)))))), ?_⟩
  refine fn_rdB (n := 3) h (fun _ => rfl) (fun i => ?_)
  obtain ⟨v_items, _⟩ := i
  show Rd K _ _ _ [.box, .val (d v_items), .any, .any, .any] (m__law_mixedL v_items)
  unfold m__law_mixedL
  exact (rd_newL (ev_var (i := 1) (a := v_items)) (fun (v_left : (List (List Str))) => (rd_new (α := (List Str)) (rd_fold (S := (List (List Str)) × (List (List Str))) (Γn := fun s4 => [.box, .val (d v_items), .own (s4.2.map d), .own (s4.1.map d), .any]) (s0 := (([] : List (List Str)), v_left)) (.eq (.eq (.eq (.eq (.any .nil))))) (ei_range1 (ev_cb' cm_lenL (ec_cons (ev_var (i := 1) (a := v_items)) ec_nil))) tg_name (fun _ => up1) (fun (v_k : Int) s4 => (rd_nil (rd_apppop (i := 3) (j := 2) (xs := s4.1) (ys := s4.2) (by decide) (ev_callB' (j := 0) (ec_cons (ev_lenOwn (i := 2) (xs := s4.2)) ec_nil)) (fun (p7 : List (List Str) × List (List Str)) => (rd_next (s := (p7.1, p7.2)) (.eq (.eq (.eq (.eq (.any .nil)))))))))) (fun s4 => (rd_settle (i := 2) (xs := s4.2) (rd_settle (i := 3) (xs := s4.1) (rd_nil (rd_rets (ev_var (i := 3) (a := s4.1)))))))))))
theorem sc__law_lots : FnScope ["_law_names", "_law_found", "_law_name", "_law_lot"] (["_law_names"] : List Str) (defScope s__law_lots) := ⟨rfl, rfl, rfl, by decide +kernel, rfl, by decide +kernel, by decide +kernel⟩
noncomputable def B__law_lots (v_names : (List Str)) : M (List (List Str)) := (((pure ([] : List Str)) >>= fun a1 => pure [a1]) >>= fun v_found => ((pure v_names) >>= fun xs3 => ((foldM (fun (v_name : Str) (s2 : (List (List Str))) => (((pure s2) >>= fun x8 => (((pure s2) >>= fun xs7 => lcM (fun (v_lot : (List Str)) => pure true) (fun (v_lot : (List Str)) => ((pure v_lot) >>= fun x5 => (((pure v_name) >>= fun a4 => pure [a4]) >>= fun x6 => catM x5 x6))) xs7) >>= fun x9 => catM x8 x9)) >>= fun v_found => pure v_found)) xs3 v_found) >>= fun s2 => pure s2)))
noncomputable def m__law_lots (v_names : (List Str)) : Res (List (List Str)) := M.run (B__law_lots v_names)
abbrev sp__law_lots (K : PySem.W.Frag) : Sp := spG K fun (i : (List Str) × Unit) => m__law_lots i.1
theorem ok__law_lots (F : FnP K "_law_lots" s__law_lots f fd) (T : TT P w K mg base)  : FnOk P w K mg base (CXL P w) 1 f fd ["_law_names"] (sp__law_lots K) := by
  refine F.ok sc__law_lots (fun vs H Q E h => spG_len h (fun _ => rfl)) (fun cdv A outer s H vs Q E hr h => ?_)
  refine ⟨_, (pss_cons (ps_set (i := 1) sc__law_lots.nd rfl (Or.inl rfl) (pe_lst (pa_cons (pe_lst pa_nil) pa_nil))) (pss_cons (ps_for passes_cx rfl (pi_listK (K := K) rfl (pv 0)) (pg_name (i := 2) sc__law_lots.nd rfl (Or.inr rfl)) (pss_one (ps_set (i := 1) sc__law_lots.nd rfl (Or.inl rfl) (pe_op op_cat (pv 1) (pe_lc (own := [("_law_lot", 3)]) (g := gName 3) (tt := tYes) rfl sc__law_lots.nd (pi_listK (K := K) rfl (pv 1)) (blkOk_by (N := ["_law_names", "_law_found", "_law_name", "_law_lot"]) (sc := defScope s__law_lots) (by decide +kernel)) (fun _ _ _ _ _ => pg_name (i := 3) sc__law_lots.nd rfl (Or.inl rfl)) (fun _ _ _ _ _ => pts_nil) (fun _ _ _ _ _ => (pe_op op_cat (pv 3) (pe_lst (pa_cons (pv 2) pa_nil))))))))) (pss_one (ps_ret (pv 1))))), ?_⟩
  refine fn_rd (n := 3) (mb := fun i => B__law_lots i.1) h (fun i => by show m__law_lots i.1 = M.run (B__law_lots i.1); unfold m__law_lots; rfl) (fun _ => rfl) (fun i => ?_)
  obtain ⟨v_names, _⟩ := i
  show Rd K _ _ _ [.val (d v_names), .any, .any, .any] (B__law_lots v_names)
  unfold B__law_lots
  exact (rd_set (ev_lst' (ec_cons (ev_lst' ec_nil (fun _ => ([] : List Str))) ec_nil) (fun i => [i.1])) (fun (v_found : (List (List Str))) => (rd_fold (S := (List (List Str))) (Γn := fun s2 => [.val (d v_names), .val (d s2), .any, .any]) (s0 := v_found) (.eq (.eq (.any (.any .nil)))) (ei_list (ev_var (i := 0) (a := v_names))) tg_name (fun _ => up1) (fun (v_name : Str) s2 => (rd_nil (rd_set (ev_op om_cat (ev_var (i := 1) (a := s2)) (ev_lc (ei_up (ei_list (ev_var (i := 1) (a := s2)))) tg_name (fun (v_lot : (List Str)) => et_yes) (fun (v_lot : (List Str)) => (ev_op om_cat (ev_var (i := 3) (a := v_lot)) (ev_lst' (ec_cons (ev_var (i := 2) (a := v_name)) ec_nil) (fun i => [i.1])))))) (fun (v_found : (List (List Str))) => (rd_next (s := v_found) (.eq (.eq (.any (.any .nil))))))))) (fun s2 => (rd_nil (rd_rets (ev_var (i := 1) (a := s2))))))))
end
end K42


set_option Elab.async false
set_option linter.all false
set_option maxRecDepth 100000
set_option maxHeartbeats 4000000
namespace K42
open PySem PySem.Spec PyProof.Rows L2 J N
open M
open ToD (d)
open ToDs (ds)
section
variable {P : Program} {w : World} {K : PySem.W.Frag} {mg : Str → Option Value} {base : Heap} {f : Addr} {fd : FuncData}
theorem sc__law_is_fair : FnScope ["_law_draw", "_law_folk_told", "_law_deep", "_law_person", "_law_parts", "_law_spare", "_law_one"] (["_law_draw", "_law_folk_told", "_law_deep"] : List Str) (defScope s__law_is_fair) := ⟨rfl, rfl, rfl, by decide +kernel, rfl, by decide +kernel, by decide +kernel⟩
noncomputable def B__law_is_fair (rec : Dr → (List Str) → Int → Res Bool) (v_draw : Dr) (v_folk_told : (List Str)) (v_deep : Int) : M Bool := (((pure v_draw) >>= fun x1 => pure (Dr.isE x1)) >>= fun c2 => if c2 = true then (((pure v_draw) >>= fun x5 => unopt (Dr.title? x5)) >>= fun x8 => (((pure ("no" : Str)) >>= fun a6 => ((pure ("yes" : Str)) >>= fun a7 => pure [a6, a7])) >>= fun x9 => pure (memB x8 x9))) else (((((pure v_draw) >>= fun x10 => pure (Dr.isR x10)) >>= fun x11 => pure (!x11)) >>= fun x23 => if x23 = true then pure true else (((pure v_deep) >>= fun x12 => ((pure (0 : Int)) >>= fun x13 => pure (decide (x12 = x13)))) >>= fun x22 => if x22 = true then pure true else ((((pure v_draw) >>= fun x14 => unopt (Dr.manner? x14)) >>= fun x15 => ((pure ("open" : Str)) >>= fun x16 => pure (!decide (x15 = x16)))) >>= fun x21 => if x21 = true then pure true else ((((pure v_draw) >>= fun x17 => unopt (Dr.seats? x17)) >>= fun a18 => pure (a18.l.length : Int)) >>= fun x19 => ((pure (1 : Int)) >>= fun x20 => pure (!decide (x19 = x20))))))) >>= fun c24 => if c24 = true then pure false else ((((pure v_draw) >>= fun x25 => unopt (Dr.seats? x25)) >>= fun x26 => ((pure (0 : Int)) >>= fun x27 => getM x26.l x27)) >>= fun p28 => ((((pure p28.a) >>= fun x29 => ((pure v_folk_told) >>= fun x30 => pure (!memB x29 x30))) >>= fun x43 => if x43 = true then pure true else ((((pure p28.b) >>= fun a31 => pure a31.l) >>= fun x38 => ((((pure (1 : Int)) >>= fun a32 => ((pure (2 : Int)) >>= fun a33 => lft (newRt a32 a33))) >>= fun a36 => (((pure (1 : Int)) >>= fun a34 => ((pure (2 : Int)) >>= fun a35 => lft (newRt a34 a35))) >>= fun a37 => pure [a36, a37])) >>= fun x39 => neLs m_Ratio___eq__ Nm.r x38 x39)) >>= fun x42 => if x42 = true then pure true else ((pure p28.c) >>= fun x40 => ((pure (0 : Int)) >>= fun x41 => pure (!decide (x40 = x41)))))) >>= fun c44 => if c44 = true then pure false else (((((pure v_draw) >>= fun x45 => unopt (Dr.further? x45)) >>= fun x46 => pure x46.l) >>= fun xs53 => lcM (fun (v_one : Dr) => (((pure v_one) >>= fun a49 => ((pure v_folk_told) >>= fun a50 => (((pure v_deep) >>= fun x47 => ((pure (1 : Int)) >>= fun x48 => pure (x47 - x48))) >>= fun a51 => lft (rec a49 a50 a51)))) >>= fun x52 => pure (!x52))) (fun (v_one : Dr) => pure v_one) xs53) >>= fun x54 => ((pure ([] : List Dr)) >>= fun x55 => eqD (d x54) (d x55)))))))
noncomputable def m__law_is_fair : Nat → Dr → (List Str) → Int → Res Bool
  | 0, _, _, _ => .stuck
  | n + 1, v_draw, v_folk_told, v_deep => M.run (B__law_is_fair (m__law_is_fair n) v_draw v_folk_told v_deep)
abbrev sp__law_is_fair (K : PySem.W.Frag) (n : Nat) : Sp := spG K fun (i : Dr × (List Str) × Int × Unit) => m__law_is_fair n i.1 i.2.1 i.2.2.1
theorem okS__law_is_fair (n : Nat) (F : FnP K "_law_is_fair" s__law_is_fair f fd) (T : TT P w K mg base) (p_End_name : PCal P w K mg base (He.ga K "End") "name" 1 (getSp (He.ga K "End") "title")) (p_Round_kind : PCal P w K mg base (He.ga K "Round") "kind" 1 (getSp (He.ga K "Round") "manner")) (p_Round_givers : PCal P w K mg base (He.ga K "Round") "givers" 1 (getSp (He.ga K "Round") "seats")) (k2_Ratio : KCal P w K mg base "Ratio" (He.ga K "Ratio") ["self", "top", "bottom"] 3 (sp_Ratio___init__ K) []) (m_Ratio___eq__ : MCal P w K mg base (He.ga K "Ratio") "__eq__" ["self", "other"] 2 (sp_Ratio___eq__ K)) (p_Round_draws : PCal P w K mg base (He.ga K "Round") "draws" 1 (getSp (He.ga K "Round") "further")) (c__law_is_fair : Cal P w K mg base "_law_is_fair" ["_law_draw", "_law_folk_told", "_law_deep"] (4 + n) (sp__law_is_fair K n)) : FnOk P w K mg base (CXL P w) (4 + n + 1) f fd ["_law_draw", "_law_folk_told", "_law_deep"] (sp__law_is_fair K (n + 1)) := by
  refine F.ok sc__law_is_fair (fun vs H Q E h => spG_len h (fun _ => rfl)) (fun cdv A outer s H vs Q E hr h => ?_)
  have hu64 : (A.deeper (envOfC "_law_is_fair" (defScope s__law_is_fair) s.heap.objs.size f cdv)).units + 64 < cLine := by have := hr.un; omega
  refine ⟨_, (pss_cons (ps_if (pt_val (pe_callB (call_isiK' (K := K) rfl) (by rfl) T.m_isinstance PyProof.Rows.boot_isinstance (pa_cons (pv 0) (pa_cons (pe_glob (v := .ref (He.ga K "End")) (by rfl) T.g_End rfl) pa_nil)))) (pss_one (ps_ret (pe_cmpR (op_in_seqK (K := K) rfl) (pe_pcal p_End_name T.cl_End (hr.mono (by omega)) (pv 0)) (pe_lst (pa_cons pe_str (pa_cons pe_str pa_nil))) rfl))) pss_nil) (pss_cons (ps_if (PW.pt (pw_or (pt_not (pt_val (pe_callB (call_isiK' (K := K) rfl) (by rfl) T.m_isinstance PyProof.Rows.boot_isinstance (pa_cons (pv 0) (pa_cons (pe_glob (v := .ref (He.ga K "Round")) (by rfl) T.g_Round rfl) pa_nil))))) (pw_or (pt_cmpR op_eq (pv 2) pe_int (nomark _)) (pw_or (pt_cmpR op_ne (pe_pcal p_Round_kind T.cl_Round (hr.mono (by omega)) (pv 0)) pe_str (nomark _)) (pw_or1 (pt_cmpR op_ne (pe_callB (call_len_seqK (K := K) rfl) (by rfl) T.m_len PySem.boot_len (pa_cons (pe_pcal p_Round_givers T.cl_Round (hr.mono (by omega)) (pv 0)) pa_nil)) pe_int (nomark _))))))) (pss_one (ps_ret pe_bl)) pss_nil) (pss_cons (ps_asg (pe_ix (ix_tupK (K := K) rfl) (pe_pcal p_Round_givers T.cl_Round (hr.mono (by omega)) (pv 0)) pe_int (fun _ _ => rfl)) (pg_tup rfl (pgs_cons (pg_name (i := 3) sc__law_is_fair.nd rfl (Or.inl rfl)) (pgs_cons (pg_name (i := 4) sc__law_is_fair.nd rfl (Or.inl rfl)) (pgs_cons (pg_name (i := 5) sc__law_is_fair.nd rfl (Or.inl rfl)) pgs_nil))))) (pss_cons (ps_if (PW.pt (pw_or (pt_cmpR (op_notIn_seqK (K := K) rfl) (pv 3) (pv 1) rfl) (pw_or (pt_cmpR (op_neLsK (K := K) rfl m_Ratio___eq__ rfl (hr.mono (by omega))) (pe_callTy (call_list_ofK (K := K) rfl) (by rfl) T.m_list (by decide +kernel) (pa_cons (pv 4) pa_nil)) (pe_lst (pa_cons (pe_kcalS takes_cx k2_Ratio (hr.mono (by omega)) (by rfl) (pa_cons pe_int (pa_cons pe_int pa_nil))) (pa_cons (pe_kcalS takes_cx k2_Ratio (hr.mono (by omega)) (by rfl) (pa_cons pe_int (pa_cons pe_int pa_nil))) pa_nil))) (nomark _)) (pw_or1 (pt_cmpR op_ne (pv 5) pe_int (nomark _)))))) (pss_one (ps_ret pe_bl)) pss_nil) (pss_one (ps_ret (pe_cmpR (op_eqDK (K := K) rfl hu64) (pe_lc (own := [("_law_one", 6)]) (g := gName 6) (tt := _) rfl sc__law_is_fair.nd (pi_tupK (K := K) rfl (pe_pcal p_Round_draws T.cl_Round (hr.mono (by omega)) (pv 0))) (blkOk_by (N := ["_law_draw", "_law_folk_told", "_law_deep", "_law_person", "_law_parts", "_law_spare", "_law_one"]) (sc := defScope s__law_is_fair) (by decide +kernel)) (fun _ _ _ _ _ => pg_name (i := 6) sc__law_is_fair.nd rfl (Or.inl rfl)) (fun _ _ _ _ _ => (pts_one (pt_not (pt_val (pe_calS takesF c__law_is_fair (hr.mono (by omega)) (by rfl) (pa_cons (pv 6) (pa_cons (pv 1) (pa_cons (pe_op op_sub (pv 2) pe_int) pa_nil)))))))) (fun _ _ _ _ _ => (pv 6))) (pe_lst pa_nil) (nomark _)))))))), ?_⟩
  refine fn_rd (n := 4) (mb := fun i => B__law_is_fair (m__law_is_fair n) i.1 i.2.1 i.2.2.1) h (fun i => by show m__law_is_fair (n + 1) i.1 i.2.1 i.2.2.1 = M.run (B__law_is_fair (m__law_is_fair n) i.1 i.2.1 i.2.2.1); rw [m__law_is_fair]) (fun _ => rfl) (fun i => ?_)
  obtain ⟨v_draw, v_folk_told, v_deep, _⟩ := i
  show Rd K _ _ _ [.val (d v_draw), .val (d v_folk_told), .val (d v_deep), .any, .any, .any, .any] (B__law_is_fair (m__law_is_fair n) v_draw v_folk_told v_deep)
  unfold B__law_is_fair
  exact (rd_if (et_val (ev_isi (bf := fun x => Dr.isE x) T.insc (ClsV.own _) dr_known (dr_kit kit_self T.kc_Round_End (fun a => by cases a <;> rfl)) (ev_var (i := 0) (a := v_draw)))) (rd_rets (ev_op om_inF (ev_propV (g := Dr.title?) (ev_var (i := 0) (a := v_draw)) pV_title) (ev_lst' (ec_cons ev_str (ec_cons ev_str ec_nil)) (fun i => [i.1, i.2.1])))) (rd_skip (rd_if (et_or (et_not (et_val (ev_isi (bf := fun x => Dr.isR x) T.insc (ClsV.own _) dr_known (dr_kit T.kc_End_Round kit_self (fun a => by cases a <;> rfl)) (ev_var (i := 0) (a := v_draw))))) (et_or (et_test (ev_op om_eqI (ev_var (i := 2) (a := v_deep)) ev_int)) (et_or (et_test (ev_op om_neS (ev_propV (g := Dr.manner?) (ev_var (i := 0) (a := v_draw)) pV_manner) ev_str)) (et_test (ev_op om_neI (ev_cb' cm_lenV (ec_cons (ev_propV (g := Dr.seats?) (ev_var (i := 0) (a := v_draw)) pV_seats) ec_nil)) ev_int))))) (rd_rets ev_bl) (rd_skip (rd_tg tg_3 up3 (ev_op om_ixV (ev_propV (g := Dr.seats?) (ev_var (i := 0) (a := v_draw)) pV_seats) ev_int) (fun (p28 : (T3 Str (VT Rt) Int)) => (rd_if (et_or (et_test (ev_op om_ninF (ev_var (i := 3) (a := p28.a)) (ev_var (i := 1) (a := v_folk_told)))) (et_or (et_test (ev_op om_neLs (ev_cb' cm_listT (ec_cons (ev_var (i := 4) (a := p28.b)) ec_nil)) (ev_lst' (ec_cons (mk2_Ratio (ec_cons ev_int (ec_cons ev_int ec_nil))) (ec_cons (mk2_Ratio (ec_cons ev_int (ec_cons ev_int ec_nil))) ec_nil)) (fun i => [i.1, i.2.1])))) (et_test (ev_op om_neI (ev_var (i := 5) (a := p28.c)) ev_int)))) (rd_rets ev_bl) (rd_skip (rd_nil (rd_rets (ev_op om_eqD (ev_lc (ei_up (ei_tup (ev_propV (g := Dr.further?) (ev_var (i := 0) (a := v_draw)) pV_further))) tg_name (fun (v_one : Dr) => (et_not (et_val (ev_call' (ec_cons (ev_var (i := 6) (a := v_one)) (ec_cons (ev_var (i := 1) (a := v_folk_told)) (ec_cons (ev_op om_subI (ev_var (i := 2) (a := v_deep)) ev_int) ec_nil))))))) (fun (v_one : Dr) => (ev_var (i := 6) (a := v_one)))) (ev_lst' ec_nil (fun _ => ([] : List Dr))))))))))))))
theorem ok__law_is_fair (F : FnP K "_law_is_fair" s__law_is_fair f fd) (T : TT P w K mg base) (p_End_name : PCal P w K mg base (He.ga K "End") "name" 1 (getSp (He.ga K "End") "title")) (p_Round_kind : PCal P w K mg base (He.ga K "Round") "kind" 1 (getSp (He.ga K "Round") "manner")) (p_Round_givers : PCal P w K mg base (He.ga K "Round") "givers" 1 (getSp (He.ga K "Round") "seats")) (k2_Ratio : KCal P w K mg base "Ratio" (He.ga K "Ratio") ["self", "top", "bottom"] 3 (sp_Ratio___init__ K) []) (m_Ratio___eq__ : MCal P w K mg base (He.ga K "Ratio") "__eq__" ["self", "other"] 2 (sp_Ratio___eq__ K)) (p_Round_draws : PCal P w K mg base (He.ga K "Round") "draws" 1 (getSp (He.ga K "Round") "further")) (mk : ∀ n, FnOk P w K mg base (CXL P w) (4 + n) f fd ["_law_draw", "_law_folk_told", "_law_deep"] (sp__law_is_fair K n) → Cal P w K mg base "_law_is_fair" ["_law_draw", "_law_folk_told", "_law_deep"] (4 + n) (sp__law_is_fair K n)) : ∀ n, FnOk P w K mg base (CXL P w) (4 + n) f fd ["_law_draw", "_law_folk_told", "_law_deep"] (sp__law_is_fair K n)
  | 0 => fnOk_no (fun vs H Q E h => spG_no (fun _ => rfl) h)
  | n + 1 => okS__law_is_fair n F T p_End_name p_Round_kind p_Round_givers k2_Ratio m_Ratio___eq__ p_Round_draws (mk n (ok__law_is_fair F T p_End_name p_Round_kind p_Round_givers k2_Ratio m_Ratio___eq__ p_Round_draws mk n))
theorem sc__law_yes : FnScope ["_law_draw", "_law_who", "_law_parts", "_law_one"] (["_law_draw", "_law_who"] : List Str) (defScope s__law_yes) := ⟨rfl, rfl, rfl, by decide +kernel, rfl, by decide +kernel, by decide +kernel⟩
noncomputable def B__law_yes (rec : Dr → (List Str) → Res Bool) (v_draw : Dr) (v_who : (List Str)) : M Bool := (((pure v_draw) >>= fun x1 => pure (Dr.isE x1)) >>= fun c2 => if c2 = true then (((pure v_draw) >>= fun x3 => unopt (Dr.title? x3)) >>= fun x4 => ((pure ("yes" : Str)) >>= fun x5 => pure (decide (x4 = x5)))) else (((((pure v_draw) >>= fun x6 => unopt (Dr.further? x6)) >>= fun x7 => pure x7.l) >>= fun xs10 => lcM (fun (v_one : Dr) => pure true) (fun (v_one : Dr) => ((pure v_one) >>= fun a8 => ((pure v_who) >>= fun a9 => lft (rec a8 a9)))) xs10) >>= fun v_parts => ((((((pure v_draw) >>= fun x11 => unopt (Dr.seats? x11)) >>= fun x12 => ((pure (0 : Int)) >>= fun x13 => getM x12.l x13)) >>= fun x14 => pure x14.a) >>= fun x15 => ((pure v_who) >>= fun x16 => pure (memB x15 x16))) >>= fun x21 => if x21 = true then ((pure true) >>= fun x17 => ((pure v_parts) >>= fun x18 => pure (memB x17 x18))) else ((pure false) >>= fun x19 => ((pure v_parts) >>= fun x20 => pure (!memB x19 x20))))))
noncomputable def m__law_yes : Nat → Dr → (List Str) → Res Bool
  | 0, _, _ => .stuck
  | n + 1, v_draw, v_who => M.run (B__law_yes (m__law_yes n) v_draw v_who)
abbrev sp__law_yes (K : PySem.W.Frag) (n : Nat) : Sp := spG K fun (i : Dr × (List Str) × Unit) => m__law_yes n i.1 i.2.1
theorem okS__law_yes (n : Nat) (F : FnP K "_law_yes" s__law_yes f fd) (T : TT P w K mg base) (p_End_name : PCal P w K mg base (He.ga K "End") "name" 1 (getSp (He.ga K "End") "title")) (p_Round_draws : PCal P w K mg base (He.ga K "Round") "draws" 1 (getSp (He.ga K "Round") "further")) (p_Round_givers : PCal P w K mg base (He.ga K "Round") "givers" 1 (getSp (He.ga K "Round") "seats")) (c__law_yes : Cal P w K mg base "_law_yes" ["_law_draw", "_law_who"] (2 + n) (sp__law_yes K n)) : FnOk P w K mg base (CXL P w) (2 + n + 1) f fd ["_law_draw", "_law_who"] (sp__law_yes K (n + 1)) := by
  refine F.ok sc__law_yes (fun vs H Q E h => spG_len h (fun _ => rfl)) (fun cdv A outer s H vs Q E hr h => ?_)
  refine ⟨_, (pss_cons (ps_if (pt_val (pe_callB (call_isiK' (K := K) rfl) (by rfl) T.m_isinstance PyProof.Rows.boot_isinstance (pa_cons (pv 0) (pa_cons (pe_glob (v := .ref (He.ga K "End")) (by rfl) T.g_End rfl) pa_nil)))) (pss_one (ps_ret (pe_cmpR op_eq (pe_pcal p_End_name T.cl_End (hr.mono (by omega)) (pv 0)) pe_str (nomark _)))) pss_nil) (pss_cons (ps_setLc (i := 2) (own := [("_law_one", 3)]) (g := gName 3) (tt := tYes) rfl sc__law_yes.nd rfl rfl (sw_true rfl rfl rfl (by decide +kernel)) (pi_tupK (K := K) rfl (pe_pcal p_Round_draws T.cl_Round (hr.mono (by omega)) (pv 0))) (blkOk_by (N := ["_law_draw", "_law_who", "_law_parts", "_law_one"]) (sc := defScope s__law_yes) (by decide +kernel)) (fun _ _ _ _ _ => pg_name (i := 3) sc__law_yes.nd rfl (Or.inl rfl)) (fun _ _ _ _ _ => pts_nil) (fun _ _ _ _ _ => (pe_calS takesF c__law_yes (hr.mono (by omega)) (by rfl) (pa_cons (pv 3) (pa_cons (pv 1) pa_nil))))) (pss_one (ps_ret (pe_ifExp (pt_cmpR (op_in_seqK (K := K) rfl) (pe_ix (ix_tupK (K := K) rfl) (pe_ix (ix_tupK (K := K) rfl) (pe_pcal p_Round_givers T.cl_Round (hr.mono (by omega)) (pv 0)) pe_int (fun _ _ => rfl)) pe_int (fun _ _ => rfl)) (pv 1) rfl) (pe_cmpR (op_in_seqK (K := K) rfl) pe_bl (pv 2) rfl) (pe_cmpR (op_notIn_seqK (K := K) rfl) pe_bl (pv 2) rfl)))))), ?_⟩
  refine fn_rd (n := 2) (mb := fun i => B__law_yes (m__law_yes n) i.1 i.2.1) h (fun i => by show m__law_yes (n + 1) i.1 i.2.1 = M.run (B__law_yes (m__law_yes n) i.1 i.2.1); rw [m__law_yes]) (fun _ => rfl) (fun i => ?_)
  obtain ⟨v_draw, v_who, _⟩ := i
  show Rd K _ _ _ [.val (d v_draw), .val (d v_who), .any, .any] (B__law_yes (m__law_yes n) v_draw v_who)
  unfold B__law_yes
  exact (rd_if (et_val (ev_isi (bf := fun x => Dr.isE x) T.insc (ClsV.own _) dr_known (dr_kit kit_self T.kc_Round_End (fun a => by cases a <;> rfl)) (ev_var (i := 0) (a := v_draw)))) (rd_rets (ev_op om_eqS (ev_propV (g := Dr.title?) (ev_var (i := 0) (a := v_draw)) pV_title) ev_str)) (rd_skip (rd_set (ev_lc (ei_up (ei_tup (ev_propV (g := Dr.further?) (ev_var (i := 0) (a := v_draw)) pV_further))) tg_name (fun (v_one : Dr) => et_yes) (fun (v_one : Dr) => (ev_call' (ec_cons (ev_var (i := 3) (a := v_one)) (ec_cons (ev_var (i := 1) (a := v_who)) ec_nil))))) (fun (v_parts : (List Bool)) => (rd_nil (rd_rets (ev_if (et_test (ev_op om_inF (ev_ixT (j := 0) (g := fun (x : (T3 Str (VT Rt) Int)) => x.a) (ev_op om_ixV (ev_propV (g := Dr.seats?) (ev_var (i := 0) (a := v_draw)) pV_seats) ev_int)) (ev_var (i := 1) (a := v_who)))) (ev_op om_inF ev_bl (ev_var (i := 2) (a := v_parts))) (ev_op om_ninF ev_bl (ev_var (i := 2) (a := v_parts))))))))))
theorem ok__law_yes (F : FnP K "_law_yes" s__law_yes f fd) (T : TT P w K mg base) (p_End_name : PCal P w K mg base (He.ga K "End") "name" 1 (getSp (He.ga K "End") "title")) (p_Round_draws : PCal P w K mg base (He.ga K "Round") "draws" 1 (getSp (He.ga K "Round") "further")) (p_Round_givers : PCal P w K mg base (He.ga K "Round") "givers" 1 (getSp (He.ga K "Round") "seats")) (mk : ∀ n, FnOk P w K mg base (CXL P w) (2 + n) f fd ["_law_draw", "_law_who"] (sp__law_yes K n) → Cal P w K mg base "_law_yes" ["_law_draw", "_law_who"] (2 + n) (sp__law_yes K n)) : ∀ n, FnOk P w K mg base (CXL P w) (2 + n) f fd ["_law_draw", "_law_who"] (sp__law_yes K n)
  | 0 => fnOk_no (fun vs H Q E h => spG_no (fun _ => rfl) h)
  | n + 1 => okS__law_yes n F T p_End_name p_Round_draws p_Round_givers (mk n (ok__law_yes F T p_End_name p_Round_draws p_Round_givers mk n))
theorem sc__law_drawn_sets : FnScope ["_law_tape_here", "_law_folk_told", "_law_found", "_law_k", "_law_size", "_law_lot"] (["_law_tape_here", "_law_folk_told"] : List Str) (defScope s__law_drawn_sets) := ⟨rfl, rfl, rfl, by decide +kernel, rfl, by decide +kernel, by decide +kernel⟩
noncomputable def m__law_drawn_sets (v_folk_told : (List Str)) : M (List (List Str)) := ((((pure (5 : Int)) >>= fun a1 => m__law_pick a1) >>= fun x3 => rng1 x3) >>= fun xs5 => ((foldM (fun (v_k : Int) (s4 : (List (List Str))) => ((((pure (1 : Int)) >>= fun a7 => ((pure (2 : Int)) >>= fun a8 => ((pure (2 : Int)) >>= fun a9 => ((pure (3 : Int)) >>= fun a10 => (((pure v_folk_told) >>= fun a6 => pure (a6.length : Int)) >>= fun a11 => pure [a7, a8, a9, a10, a11]))))) >>= fun x13 => (((pure (5 : Int)) >>= fun a12 => m__law_pick a12) >>= fun x14 => getM x13 x14)) >>= fun v_size => ((appM s4 (((pure v_folk_told) >>= fun a15 => m__law_mixed a15) >>= fun x17 => ((pure none) >>= fun x18 => (((pure v_size) >>= fun x16 => pure (some x16)) >>= fun x19 => pure (cutL x17 x18 x19))))) >>= fun ys20 => pure ys20))) xs5 ([] : List (List Str))) >>= fun s4 => ((((pure (9 : Int)) >>= fun a21 => m__law_pick a21) >>= fun x22 => ((pure (0 : Int)) >>= fun x23 => pure (decide (x22 = x23)))) >>= fun c24 => ((if c24 = true then ((appM s4 (pure ([] : List Str))) >>= fun ys26 => pure ys26) else pure s4) >>= fun s25 => ((((pure (4 : Int)) >>= fun a27 => m__law_pick a27) >>= fun x28 => ((pure (0 : Int)) >>= fun x29 => pure (decide (x28 = x29)))) >>= fun c30 => ((if c30 = true then (((pure s25) >>= fun x38 => ((((pure s25) >>= fun x33 => ((pure none) >>= fun x34 => (((pure (1 : Int)) >>= fun x32 => pure (some x32)) >>= fun x35 => pure (cutL x33 x34 x35)))) >>= fun xs37 => lcM (fun (v_lot : (List Str)) => pure true) (fun (v_lot : (List Str)) => ((pure v_lot) >>= fun x36 => pure x36.reverse)) xs37) >>= fun x39 => catM x38 x39)) >>= fun v_found => pure v_found) else pure s25) >>= fun s31 => ((pure s31) >>= fun a40 => m__law_mixedL a40)))))))
abbrev sp__law_drawn_sets (K : PySem.W.Frag) : Sp := spB K fun (i : (List Str) × Unit) => m__law_drawn_sets i.1
theorem ok__law_drawn_sets (F : FnP K "_law_drawn_sets" s__law_drawn_sets f fd) (T : TT P w K mg base) (c__law_pick : Cal P w K mg base "_law_pick" ["_law_tape_here", "_law_many"] 1 (spB K fun (i : Int × Unit) => m__law_pick i.1)) (c__law_mixed : Cal P w K mg base "_law_mixed" ["_law_tape_here", "_law_items"] 2 (sp__law_mixed K)) (c__law_mixedL : Cal P w K mg base "_law_mixed" ["_law_tape_here", "_law_items"] 2 (sp__law_mixedL K)) : FnOk P w K mg base (CXL P w) 3 f fd ["_law_tape_here", "_law_folk_told"] (sp__law_drawn_sets K) := by
  refine F.ok sc__law_drawn_sets (fun vs H Q E h => spB_len h (fun _ => rfl)) (fun cdv A outer s H vs Q E hr h => ?_)
  refine ⟨_, (pss_cons (ps_set (i := 2) sc__law_drawn_sets.nd rfl (Or.inl rfl) (pe_lst pa_nil)) (pss_cons (ps_for passes_cx rfl (pi_range1 (by rfl) T.m_range (pa_cons (pe_calS takes_cx c__law_pick (hr.mono (by decide)) (by rfl) (pa_cons (pv 0) (pa_cons pe_int pa_nil))) pa_nil)) (pg_name (i := 3) sc__law_drawn_sets.nd rfl (Or.inl rfl)) (pss_cons (ps_set (i := 4) sc__law_drawn_sets.nd rfl (Or.inl rfl) (pe_ix (ix_listK (K := K) rfl) (pe_lst (pa_cons pe_int (pa_cons pe_int (pa_cons pe_int (pa_cons pe_int (pa_cons (pe_callB (call_len_seqK (K := K) rfl) (by rfl) T.m_len PySem.boot_len (pa_cons (pv 1) pa_nil)) pa_nil)))))) (pe_calS takes_cx c__law_pick (hr.mono (by decide)) (by rfl) (pa_cons (pv 0) (pa_cons pe_int pa_nil))) (fun _ _ => rfl))) (pss_one (ps_expr (pe_bm PySem.F.plainAttrs_list PySem.F.slot_list_append PySem.F.type_list_append mt_append (pv 2) (pa_cons (pe_slice (sl_listK (K := K) rfl) (pe_calS takes_cx c__law_mixed (hr.mono (by decide)) (by rfl) (pa_cons (pv 0) (pa_cons (pv 1) pa_nil))) po_none (po_some (pv 4))) pa_nil)))))) (pss_cons (ps_if (pt_cmpR op_eq (pe_calS takes_cx c__law_pick (hr.mono (by decide)) (by rfl) (pa_cons (pv 0) (pa_cons pe_int pa_nil))) pe_int (nomark _)) (pss_one (ps_expr (pe_bm PySem.F.plainAttrs_list PySem.F.slot_list_append PySem.F.type_list_append mt_append (pv 2) (pa_cons (pe_lst pa_nil) pa_nil)))) pss_nil) (pss_cons (ps_if (pt_cmpR op_eq (pe_calS takes_cx c__law_pick (hr.mono (by decide)) (by rfl) (pa_cons (pv 0) (pa_cons pe_int pa_nil))) pe_int (nomark _)) (pss_one (ps_set (i := 2) sc__law_drawn_sets.nd rfl (Or.inl rfl) (pe_op op_cat (pv 2) (pe_lc (own := [("_law_lot", 5)]) (g := gName 5) (tt := tYes) rfl sc__law_drawn_sets.nd (pi_listK (K := K) rfl (pe_slice (sl_listK (K := K) rfl) (pv 2) po_none (po_some pe_int))) (blkOk_by (N := ["_law_tape_here", "_law_folk_told", "_law_found", "_law_k", "_law_size", "_law_lot"]) (sc := defScope s__law_drawn_sets) (by decide +kernel)) (fun _ _ _ _ _ => pg_name (i := 5) sc__law_drawn_sets.nd rfl (Or.inl rfl)) (fun _ _ _ _ _ => pts_nil) (fun _ _ _ _ _ => (pe_revLK (K := K) rfl (pv 5))))))) pss_nil) (pss_one (ps_ret (pe_calS takes_cx c__law_mixedL (hr.mono (by decide)) (by rfl) (pa_cons (pv 0) (pa_cons (pv 2) pa_nil))))))))), ?_⟩
  refine fn_rdB (n := 4) h (fun _ => rfl) (fun i => ?_)
  obtain ⟨v_folk_told, _⟩ := i
  show Rd K _ _ _ [.box, .val (d v_folk_told), .any, .any, .any, .any] (m__law_drawn_sets v_folk_told)
  unfold m__law_drawn_sets
  exact (rd_new (α := (List Str)) (rd_fold (S := (List (List Str))) (Γn := fun s4 => [.box, .val (d v_folk_told), .own (s4.map d), .any, .any, .any]) (s0 := ([] : List (List Str))) (.eq (.eq (.eq (.any (.any (.any .nil)))))) (ei_range1 (ev_callB' (j := 0) (ec_cons ev_int ec_nil))) tg_name (fun _ => up1) (fun (v_k : Int) s4 => (rd_set (ev_op om_ixL (ev_lst' (ec_cons ev_int (ec_cons ev_int (ec_cons ev_int (ec_cons ev_int (ec_cons (ev_cb' cm_lenL (ec_cons (ev_var (i := 1) (a := v_folk_told)) ec_nil)) ec_nil))))) (fun i => [i.1, i.2.1, i.2.2.1, i.2.2.2.1, i.2.2.2.2.1])) (ev_callB' (j := 0) (ec_cons ev_int ec_nil))) (fun (v_size : Int) => (rd_nil (rd_app (i := 2) (xs := s4) (ev_sl sm_list (ev_callB' (j := 0) (ec_cons (ev_var (i := 1) (a := v_folk_told)) ec_nil)) eo_none (eo_some (ev_var (i := 4) (a := v_size)))) (fun (ys20 : List (List Str)) => (rd_next (s := ys20) (.eq (.eq (.eq (.any (.any (.any .nil))))))))))))) (fun s4 => (rd_join (S := (List (List Str))) (Γn := fun s25 => [.box, .val (d v_folk_told), .own (s25.map d), .any, .any, .any]) (et_test (ev_op om_eqI (ev_callB' (j := 0) (ec_cons ev_int ec_nil)) ev_int)) (rd_nil (rd_app (i := 2) (xs := s4) (ev_lst' ec_nil (fun _ => ([] : List Str))) (fun (ys26 : List (List Str)) => (rd_next (s := ys26) (.eq (.eq (.eq (.any (.any (.any .nil)))))))))) (rd_next (s := s4) (.eq (.eq (.eq (.any (.any (.any .nil))))))) (fun s25 => (rd_settle (i := 2) (xs := s25) (rd_join (S := (List (List Str))) (Γn := fun s31 => [.box, .val (d v_folk_told), .val (d s31), .any, .any, .any]) (et_test (ev_op om_eqI (ev_callB' (j := 0) (ec_cons ev_int ec_nil)) ev_int)) (rd_nil (rd_set (ev_op om_cat (ev_var (i := 2) (a := s25)) (ev_lc (ei_up (ei_list (ev_sl sm_list (ev_var (i := 2) (a := s25)) eo_none (eo_some ev_int)))) tg_name (fun (v_lot : (List Str)) => et_yes) (fun (v_lot : (List Str)) => (ev_rev (ev_var (i := 5) (a := v_lot)))))) (fun (v_found : (List (List Str))) => (rd_next (s := v_found) (.eq (.eq (.eq (.any (.any (.any .nil)))))))))) (rd_next (s := s25) (.eq (.eq (.eq (.any (.any (.any .nil))))))) (fun s31 => (rd_nil (rd_rets (ev_callB' (j := 0) (ec_cons (ev_var (i := 2) (a := s31)) ec_nil))))))))))))
end
end K42


set_option Elab.async false
set_option linter.all false
set_option maxRecDepth 100000
set_option maxHeartbeats 4000000
namespace K42
open PySem PySem.Spec PyProof.Rows L2 J N
open M
open ToD (d)
open ToDs (ds)
section
variable {P : Program} {w : World} {K : PySem.W.Frag} {mg : Str → Option Value} {base : Heap} {f : Addr} {fd : FuncData}
theorem scTape : FnScope ["_law_script", "_law_k", "_law_cell"] ["_law_script", "_law_k"] (defScope s__law_tape) := ⟨rfl, rfl, rfl, by decide +kernel, rfl, by decide +kernel, by decide +kernel⟩
theorem ok_tape (F : FnP K "_law_tape" s__law_tape f fd) (mL : mg "len" = none) (mA : mg "abs" = none) : FnOk P w K mg base CX0 1 f fd ["_law_script", "_law_k"] (spTapeL K) := by
  refine F.ok scTape (fun vs H Q E h => ?_) (fun cdv A outer s H vs Q E hr h => ?_)
  · obtain ⟨a, ns, k, rfl, _⟩ := h
    rfl
  · obtain ⟨a, ns, k, rfl, hS, hn, h0, hk, q⟩ := h
    refine ⟨_, PSs.nox (pss_cons (ps_set (i := 2) scTape.nd rfl (Or.inl rfl) (pe_ifExp (pt_cmpR op_lt (pv 1) (pe_callB call_len (by rfl) mL PySem.boot_len (pa_cons (pv 0) pa_nil)) (nomark _)) (pe_ix ix_list (pv 0) (pv 1) (fun _ _ => rfl)) pe_int))
      (pss_one (ps_ret (pe_lst (pa_cons (pe_callB call_abs (by rfl) mA PyProof.Rows.boot_abs (pa_cons (pv 2) pa_nil)) (pa_cons (pe_op op_add (pe_op op_mul pe_int (pv 1)) pe_int) pa_nil)))))), ?_⟩
    have fin : ∀ c : Int, ∀ (p : Addr), H p = none → Q (.ref p) (upd H p (.lst [.int (if c < 0 then -c else c), .int (7757 * k + 104729)])) := fun c p hp =>
      q p _ _ _ hp upd_same (by split <;> omega) (by omega) (by omega) fun z hz => upd_ne hz
    refine ⟨_, rfl, _, rfl, .ref a, (ns.map V.int).length, rfl, Or.inl ⟨_, hS, rfl⟩, _, _, rfl, rfl, _, rfl, ?_⟩
    refine ite2 (fun h1 => ?_) (fun h1 => ?_)
    · have h2 : k < ((ns.map V.int).length : Nat) := of_decide_eq_true h1
      obtain ⟨j, rfl⟩ : ∃ j : Nat, k = (j : Int) := ⟨k.toNat, by omega⟩
      rw [List.length_map] at h2
      have h3 : j < ns.length := by omega
      refine ⟨_, rfl, _, rfl, a, _, _, _, rfl, rfl, hS, atI_nat (by rw [List.getElem?_map, List.getElem?_eq_getElem h3]; rfl), ?_⟩
      exact ⟨_, rfl, _, rfl, _, rfl, _, _, rfl, rfl, Or.inr ⟨by omega, by omega⟩, _, _, rfl, rfl, (by show 2 ≤ sizeLine; decide), fun p hp => fin _ p hp⟩
    · exact ⟨_, rfl, _, rfl, _, rfl, _, _, rfl, rfl, Or.inr ⟨by omega, by omega⟩, _, _, rfl, rfl, (by show 2 ≤ sizeLine; decide), fun p hp => fin _ p hp⟩
theorem sc_law : FnScope ["_law_script", "_law_k", "_law_tape_here", "_law_some", "_law_folk_told", "_law_lap", "_law_sets_told", "_law_given", "_law_handed", "_law_kept", "_law_draw", "_law_who", "_law_due", "_law_lot", "_law_name"] (["_law_script"] : List Str) (defScope s_law) := ⟨rfl, rfl, rfl, by decide +kernel, rfl, by decide +kernel, by decide +kernel⟩
def spLaw (K : PySem.W.Frag) : Sp := fun vs H Q _ => ∃ (a : Addr) (ns : List Int), vs = [.ref a] ∧ SqL K H a (ns.map V.int) ∧ ns.length ≤ 63 ∧ ∀ H', Q (.bl true) H'
noncomputable def B_law (v_k : Int) : M (Step Unit Bool) := (((((pure ("ann" : Str)) >>= fun a1 => ((pure ("bob" : Str)) >>= fun a2 => ((pure ("cid" : Str)) >>= fun a3 => ((pure ("dan" : Str)) >>= fun a4 => ((pure ("eve" : Str)) >>= fun a5 => ((pure ("fay" : Str)) >>= fun a6 => pure [a1, a2, a3, a4, a5, a6])))))) >>= fun a13 => (((pure ("a" : Str)) >>= fun a7 => ((pure ("ab" : Str)) >>= fun a8 => ((pure ("abc" : Str)) >>= fun a9 => ((pure ("b" : Str)) >>= fun a10 => ((pure ("no" : Str)) >>= fun a11 => ((pure ("yes" : Str)) >>= fun a12 => pure [a7, a8, a9, a10, a11, a12])))))) >>= fun a14 => pure [a13, a14])) >>= fun x16 => (((pure (2 : Int)) >>= fun a15 => m__law_pick a15) >>= fun x17 => getM x16 x17)) >>= fun v_some => ((((pure v_some) >>= fun a18 => m__law_mixed a18) >>= fun x23 => ((pure none) >>= fun x24 => ((((pure (1 : Int)) >>= fun x20 => (((pure (6 : Int)) >>= fun a19 => m__law_pick a19) >>= fun x21 => pure (x20 + x21))) >>= fun x22 => pure (some x22)) >>= fun x25 => pure (cutL x23 x24 x25)))) >>= fun v_folk_told => (((pure (3 : Int)) >>= fun x27 => rng1 x27) >>= fun xs29 => after (N.forM (fun (v_lap : Int) (s28 : Unit) => (((pure v_folk_told) >>= fun a30 => m__law_drawn_sets a30) >>= fun v_sets_told => (((pure v_sets_told) >>= fun xs40 => lcM (fun (v_lot : (List Str)) => pure true) (fun (v_lot : (List Str)) => (((((pure v_lot) >>= fun a31 => pure a31) >>= fun x33 => pure (Co.co x33 : (Sq Str))) >>= fun a35 => ((((pure v_lot) >>= fun a32 => pure (VT.mk a32)) >>= fun x34 => pure (Co.co x34 : (Sq Str))) >>= fun a36 => pure [a35, a36])) >>= fun x38 => (((pure (2 : Int)) >>= fun a37 => m__law_pick a37) >>= fun x39 => getM x38 x39))) xs40) >>= fun v_given => ((((((pure v_folk_told) >>= fun a41 => pure a41) >>= fun x43 => pure (Co.co x43 : (Sq Str))) >>= fun a45 => ((((pure v_folk_told) >>= fun a42 => pure (VT.mk a42)) >>= fun x44 => pure (Co.co x44 : (Sq Str))) >>= fun a46 => pure [a45, a46])) >>= fun x48 => (((pure (2 : Int)) >>= fun a47 => m__law_pick a47) >>= fun x49 => getM x48 x49)) >>= fun v_handed => (((((pure v_given) >>= fun x50 => pure ((d x50 : D))) >>= fun a52 => (((pure v_handed) >>= fun x51 => pure ((d x51 : D))) >>= fun a53 => pure [a52, a53])) >>= fun a54 => reprM (d a54)) >>= fun v_kept => (((pure v_given) >>= fun a55 => ((pure v_handed) >>= fun a56 => lft (m_family_draw a56 a55))) >>= fun v_draw => ((((((pure v_given) >>= fun x57 => pure ((d x57 : D))) >>= fun a59 => (((pure v_handed) >>= fun x58 => pure ((d x58 : D))) >>= fun a60 => pure [a59, a60])) >>= fun a61 => reprM (d a61)) >>= fun x62 => ((pure v_kept) >>= fun x63 => pure (!decide (x62 = x63)))) >>= fun c64 => if c64 = true then ((pure false) >>= fun x65 => pure (.rt x65)) else ((((pure v_draw) >>= fun a67 => ((pure v_folk_told) >>= fun a68 => (((pure v_folk_told) >>= fun a66 => pure (a66.length : Int)) >>= fun a69 => lft (m__law_is_fair 8 a67 a68 a69)))) >>= fun x70 => pure (!x70)) >>= fun c71 => if c71 = true then ((pure false) >>= fun x72 => pure (.rt x72)) else (((pure v_folk_told) >>= fun a73 => lft (m__law_lots a73)) >>= fun xs75 => after (N.forM (fun (v_who : (List Str)) (s74 : Unit) => ((((pure v_sets_told) >>= fun xs81 => lcM (fun (v_lot : (List Str)) => (((pure v_lot) >>= fun xs78 => lcM (fun (v_name : Str) => ((pure v_name) >>= fun x76 => ((pure v_who) >>= fun x77 => pure (!memB x76 x77)))) (fun (v_name : Str) => pure v_name) xs78) >>= fun x79 => ((pure ([] : List (Sq Str))) >>= fun x80 => eqD (d x79) (d x80)))) (fun (v_lot : (List Str)) => pure v_lot) xs81) >>= fun x82 => ((pure ([] : List (Sq Str))) >>= fun x83 => neD (d x82) (d x83))) >>= fun v_due => ((((pure v_draw) >>= fun a84 => ((pure v_who) >>= fun a85 => lft (m__law_yes 8 a84 a85))) >>= fun x86 => ((pure v_due) >>= fun x87 => pure (!decide (x86 = x87)))) >>= fun c88 => if c88 = true then ((pure false) >>= fun x89 => pure (.rt x89)) else pure (.nx ())))) xs75 ()) (fun s74 => pure (.nx ())) Step.rt))))))))) xs29 ()) (fun s28 => (((((((pure v_folk_told) >>= fun x90 => pure (Co.co x90 : (Sq Str))) >>= fun a91 => ((pure ([] : List (Sq Str))) >>= fun a92 => lft (m_family_draw a91 a92))) >>= fun x94 => (((pure ("no" : Str)) >>= fun a93 => lft (newEnd a93)) >>= fun x95 => strict (lft (m_Draw___eq__ x94 x95)))) >>= fun x96 => pure (!x96)) >>= fun x108 => if x108 = true then pure true else (((((pure v_folk_told) >>= fun x97 => pure (Co.co x97 : (Sq Str))) >>= fun a102 => ((((pure v_folk_told) >>= fun x98 => pure (Co.co x98 : (Sq Str))) >>= fun a100 => (((pure (VT.mk [] : (VT Str))) >>= fun x99 => pure (Co.co x99 : (Sq Str))) >>= fun a101 => pure [a100, a101])) >>= fun a103 => lft (m_family_draw a102 a103))) >>= fun x105 => (((pure ("yes" : Str)) >>= fun a104 => lft (newEnd a104)) >>= fun x106 => strict (lft (m_Draw___eq__ x105 x106)))) >>= fun x107 => pure (!x107))) >>= fun c109 => if c109 = true then ((pure false) >>= fun x110 => pure (.rt x110)) else pure (.nx ()))) Step.rt)))
theorem ok_law (hlaw : ∀ (k : Int) (b : Bx), InvT b → ∃ b', B_law k b = (b', .ok (.nx ()))) (F : FnP K "law" s_law f fd) (T : TT P w K mg base) (c__law_pick : Cal P w K mg base "_law_pick" ["_law_tape_here", "_law_many"] 1 (spB K fun (i : Int × Unit) => m__law_pick i.1)) (c__law_mixed : Cal P w K mg base "_law_mixed" ["_law_tape_here", "_law_items"] 2 (sp__law_mixed K)) (c__law_drawn_sets : Cal P w K mg base "_law_drawn_sets" ["_law_tape_here", "_law_folk_told"] 3 (sp__law_drawn_sets K)) (r_family_draw : CalR2 P w K mg base "family_draw" ["people", "sets"] ["sets", "people"] 20 (sp_family_draw K)) (c__law_is_fair : Cal P w K mg base "_law_is_fair" ["_law_draw", "_law_folk_told", "_law_deep"] 12 (sp__law_is_fair K 8)) (c__law_lots : Cal P w K mg base "_law_lots" ["_law_names"] 1 (sp__law_lots K)) (c__law_yes : Cal P w K mg base "_law_yes" ["_law_draw", "_law_who"] 10 (sp__law_yes K 8)) (c_family_draw : Cal P w K mg base "family_draw" ["people", "sets"] 20 (sp_family_draw K)) (k1_End : KCal P w K mg base "End" (He.ga K "End") ["self", "name"] 3 (sp_End___init__ K) []) (w_Draw___eq__ : ∀ c ∈ (["End", "Round"] : List Str), MCal P w K mg base (He.ga K c) "__eq__" ["self", "other"] 1 (sp_Draw___eq__ K)) (c__law_tape : Cal P w K mg base "_law_tape" ["_law_script", "_law_k"] 1 (spTapeL K)) : FnG P w K mg base (CXL P w) 21 f fd ["_law_script"] (spLaw K) := by
  refine fnG_of F sc_law (fun vs H Q E h => by obtain ⟨a, ns, rfl, _⟩ := h; rfl) (fun cdv A outer s H vs Q E hg hr h => ?_)
  have hu60 : (A.deeper (envOfC "law" (defScope s_law) s.heap.objs.size f cdv)).units + 60 < cLine := by have := hr.un; omega
  have hu64 : (A.deeper (envOfC "law" (defScope s_law) s.heap.objs.size f cdv)).units + 64 < cLine := by have := hr.un; omega
  refine ⟨_, (pss_cons (ps_for passes_cx rfl (pi_range1 (by rfl) T.m_range (pa_cons (pe_callB (call_max2 rfl) (by rfl) T.m_max PyProof.Rows.boot_max (pa_cons pe_int (pa_cons (pe_callB (call_min2 rfl) (by rfl) T.m_min PyProof.Rows.boot_min (pa_cons pe_int (pa_cons (pe_callB (call_len_seqK (K := K) rfl) (by rfl) T.m_len PySem.boot_len (pa_cons (pv 0) pa_nil)) pa_nil))) pa_nil))) pa_nil)) (pg_name (i := 1) sc_law.nd rfl (Or.inl rfl)) (pss_cons (ps_set (i := 2) sc_law.nd rfl (Or.inr rfl) (pe_calS takes_cx c__law_tape (hr.mono (by decide)) (by rfl) (pa_cons (pv 0) (pa_cons (pv 1) pa_nil)))) (pss_cons (ps_set (i := 3) sc_law.nd rfl (Or.inl rfl) (pe_ix (ix_listK (K := K) rfl) (pe_lst (pa_cons (pe_lst (pa_cons pe_str (pa_cons pe_str (pa_cons pe_str (pa_cons pe_str (pa_cons pe_str (pa_cons pe_str pa_nil))))))) (pa_cons (pe_lst (pa_cons pe_str (pa_cons pe_str (pa_cons pe_str (pa_cons pe_str (pa_cons pe_str (pa_cons pe_str pa_nil))))))) pa_nil))) (pe_calS takes_cx c__law_pick (hr.mono (by decide)) (by rfl) (pa_cons (pv 2) (pa_cons pe_int pa_nil))) (fun _ _ => rfl))) (pss_cons (ps_set (i := 4) sc_law.nd rfl (Or.inl rfl) (pe_slice (sl_listK (K := K) rfl) (pe_calS takes_cx c__law_mixed (hr.mono (by decide)) (by rfl) (pa_cons (pv 2) (pa_cons (pv 3) pa_nil))) po_none (po_some (pe_op op_add pe_int (pe_calS takes_cx c__law_pick (hr.mono (by decide)) (by rfl) (pa_cons (pv 2) (pa_cons pe_int pa_nil))))))) (pss_cons (ps_for passes_cx rfl (pi_range1 (by rfl) T.m_range (pa_cons pe_int pa_nil)) (pg_name (i := 5) sc_law.nd rfl (Or.inl rfl)) (pss_cons (ps_set (i := 6) sc_law.nd rfl (Or.inl rfl) (pe_calS takes_cx c__law_drawn_sets (hr.mono (by decide)) (by rfl) (pa_cons (pv 2) (pa_cons (pv 4) pa_nil)))) (pss_cons (ps_setLc (i := 7) (own := [("_law_lot", 13)]) (g := gName 13) (tt := tYes) rfl sc_law.nd rfl rfl (sw_true rfl rfl rfl (by decide +kernel)) (pi_listK (K := K) rfl (pv 6)) (blkOk_by (N := ["_law_script", "_law_k", "_law_tape_here", "_law_some", "_law_folk_told", "_law_lap", "_law_sets_told", "_law_given", "_law_handed", "_law_kept", "_law_draw", "_law_who", "_law_due", "_law_lot", "_law_name"]) (sc := defScope s_law) (by decide +kernel)) (fun _ _ _ _ _ => pg_name (i := 13) sc_law.nd rfl (Or.inl rfl)) (fun _ _ _ _ _ => pts_nil) (fun _ _ _ _ _ => (pe_ix (ix_listK (K := K) rfl) (pe_lst (pa_cons (pe_callTy (call_list_ofK (K := K) rfl) (by rfl) T.m_list (by decide +kernel) (pa_cons (pv 13) pa_nil)) (pa_cons (pe_callTy (call_tuple_ofK (K := K) rfl) (by rfl) T.m_tuple (by decide +kernel) (pa_cons (pv 13) pa_nil)) pa_nil))) (pe_calS takesF c__law_pick (hr.mono (by decide)) (by rfl) (pa_cons (pv 2) (pa_cons pe_int pa_nil))) (fun _ _ => rfl)))) (pss_cons (ps_set (i := 8) sc_law.nd rfl (Or.inl rfl) (pe_ix (ix_listK (K := K) rfl) (pe_lst (pa_cons (pe_callTy (call_list_ofK (K := K) rfl) (by rfl) T.m_list (by decide +kernel) (pa_cons (pv 4) pa_nil)) (pa_cons (pe_callTy (call_tuple_ofK (K := K) rfl) (by rfl) T.m_tuple (by decide +kernel) (pa_cons (pv 4) pa_nil)) pa_nil))) (pe_calS takes_cx c__law_pick (hr.mono (by decide)) (by rfl) (pa_cons (pv 2) (pa_cons pe_int pa_nil))) (fun _ _ => rfl))) (pss_cons (ps_set (i := 9) sc_law.nd rfl (Or.inl rfl) (pe_callB (call_reprK (K := K) rfl hg hu60) (by rfl) T.m_repr PyProof.Rows.boot_repr (pa_cons (pe_lst (pa_cons (pv 7) (pa_cons (pv 8) pa_nil))) pa_nil))) (pss_cons (ps_set (i := 10) sc_law.nd rfl (Or.inl rfl) (pe_calR2 takes_cx r_family_draw (hr.mono (by decide)) (by rfl) (pk_cons (pv 7) (pk_cons (pv 8) pk_nil)))) (pss_cons (ps_if (pt_cmpR op_ne (pe_callB (call_reprK (K := K) rfl hg hu60) (by rfl) T.m_repr PyProof.Rows.boot_repr (pa_cons (pe_lst (pa_cons (pv 7) (pa_cons (pv 8) pa_nil))) pa_nil)) (pv 9) (nomark _)) (pss_one (ps_ret pe_bl)) pss_nil) (pss_cons (ps_if (pt_not (pt_val (pe_calS takes_cx c__law_is_fair (hr.mono (by decide)) (by rfl) (pa_cons (pv 10) (pa_cons (pv 4) (pa_cons (pe_callB (call_len_seqK (K := K) rfl) (by rfl) T.m_len PySem.boot_len (pa_cons (pv 4) pa_nil)) pa_nil)))))) (pss_one (ps_ret pe_bl)) pss_nil) (pss_one (ps_for passes_cx rfl (pi_listK (K := K) rfl (pe_calS takes_cx c__law_lots (hr.mono (by decide)) (by rfl) (pa_cons (pv 4) pa_nil))) (pg_name (i := 11) sc_law.nd rfl (Or.inr rfl)) (pss_cons (ps_set (i := 12) sc_law.nd rfl (Or.inl rfl) (pe_cmpR (op_neDK (K := K) rfl hu64) (pe_lc (own := [("_law_lot", 13)]) (g := gName 13) (tt := _) rfl sc_law.nd (pi_listK (K := K) rfl (pv 6)) (blkOk_by (N := ["_law_script", "_law_k", "_law_tape_here", "_law_some", "_law_folk_told", "_law_lap", "_law_sets_told", "_law_given", "_law_handed", "_law_kept", "_law_draw", "_law_who", "_law_due", "_law_lot", "_law_name"]) (sc := defScope s_law) (by decide +kernel)) (fun _ _ _ _ _ => pg_name (i := 13) sc_law.nd rfl (Or.inl rfl)) (fun _ _ _ _ _ => (pts_one (pt_cmpR (op_eqDK (K := K) rfl hu64) (pe_lc (own := [("_law_name", 14)]) (g := gName 14) (tt := _) rfl sc_law.nd (pi_listK (K := K) rfl (pv 13)) (blkOk_by (by kernel_rfl)) (fun _ _ _ _ _ => pg_name (i := 14) sc_law.nd rfl (Or.inl rfl)) (fun _ _ _ _ _ => (pts_one (pt_cmpR (op_notIn_seqK (K := K) rfl) (pv 14) (pv 11) rfl))) (fun _ _ _ _ _ => (pv 14))) (pe_lst pa_nil) (nomark _)))) (fun _ _ _ _ _ => (pv 13))) (pe_lst pa_nil) (nomark _))) (pss_one (ps_if (pt_cmpR op_ne (pe_calS takes_cx c__law_yes (hr.mono (by decide)) (by rfl) (pa_cons (pv 10) (pa_cons (pv 11) pa_nil))) (pv 12) (nomark _)) (pss_one (ps_ret pe_bl)) pss_nil))))))))))))) (pss_one (ps_if (PW.pt (pw_or (pt_not (pt_cmpR (op_ownEqVK (K := K) rfl w_Draw___eq__ T.apV (hr.mono (by decide))) (pe_calS takes_cx c_family_draw (hr.mono (by decide)) (by rfl) (pa_cons (pv 4) (pa_cons (pe_lst pa_nil) pa_nil))) (pe_kcalS takes_cx k1_End (hr.mono (by decide)) (by rfl) (pa_cons pe_str pa_nil)) (nomark _))) (pw_or1 (pt_not (pt_cmpR (op_ownEqVK (K := K) rfl w_Draw___eq__ T.apV (hr.mono (by decide))) (pe_calS takes_cx c_family_draw (hr.mono (by decide)) (by rfl) (pa_cons (pv 4) (pa_cons (pe_lst (pa_cons (pv 4) (pa_cons (pe_tup pa_nil) pa_nil))) pa_nil))) (pe_kcalS takes_cx k1_End (hr.mono (by decide)) (by rfl) (pa_cons pe_str pa_nil)) (nomark _)))))) (pss_one (ps_ret pe_bl)) pss_nil))))))) (pss_one (ps_ret pe_bl))), ?_⟩
  obtain ⟨a, ns, rfl, hS, hn, q⟩ := h
  refine law_loopT (n := 12) (mb := B_law) (W := WE1 E) (fun σ H R h0 hS hR => ?_) (by omega) (fun v_k => ?_) hlaw q rfl (by rfl) rfl hS
  · refine ⟨_, h0, a, _, rfl, .inl hS, 4, _, rfl, 2, _, rfl, _, rfl, ?_, ?_, hR _ ?_ ?_⟩ <;> (split <;> split <;> omega)
  · show Rd K _ _ _ [.fix (.ref a), .val (d v_k), .box, .any, .any, .any, .any, .any, .any, .any, .any, .any, .any, .any, .any] (B_law v_k)
    unfold B_law
    exact (rd_set (ev_op om_ixL (ev_lst' (ec_cons (ev_lst' (ec_cons ev_str (ec_cons ev_str (ec_cons ev_str (ec_cons ev_str (ec_cons ev_str (ec_cons ev_str ec_nil)))))) (fun i => [i.1, i.2.1, i.2.2.1, i.2.2.2.1, i.2.2.2.2.1, i.2.2.2.2.2.1])) (ec_cons (ev_lst' (ec_cons ev_str (ec_cons ev_str (ec_cons ev_str (ec_cons ev_str (ec_cons ev_str (ec_cons ev_str ec_nil)))))) (fun i => [i.1, i.2.1, i.2.2.1, i.2.2.2.1, i.2.2.2.2.1, i.2.2.2.2.2.1])) ec_nil)) (fun i => [i.1, i.2.1])) (ev_callB' (j := 2) (ec_cons ev_int ec_nil))) (fun (v_some : (List Str)) => (rd_set (ev_sl sm_list (ev_callB' (j := 2) (ec_cons (ev_var (i := 3) (a := v_some)) ec_nil)) eo_none (eo_some (ev_op om_addI ev_int (ev_callB' (j := 2) (ec_cons ev_int ec_nil))))) (fun (v_folk_told : (List Str)) => (rd_for (S := Unit) (ρ := Bool) (rk := Step.rt) (Γn := fun s28 => [.fix (.ref a), .val (d v_k), .box, .val (d v_some), .val (d v_folk_told), .any, .any, .any, .any, .any, .any, .any, .any, .any, .any]) (s0 := ()) (.eq (.eq (.eq (.eq (.eq (.any (.any (.any (.any (.any (.any (.any (.any (.any (.any .nil))))))))))))))) rk_rt (ei_range1 ev_int) tg_name (fun _ => up1) (fun (v_lap : Int) s28 => (rd_set (ev_callB' (j := 2) (ec_cons (ev_var (i := 4) (a := v_folk_told)) ec_nil)) (fun (v_sets_told : (List (List Str))) => (rd_set (ev_lc (ei_up (ei_list (ev_var (i := 6) (a := v_sets_told)))) tg_name (fun (v_lot : (List Str)) => et_yes) (fun (v_lot : (List Str)) => (ev_op om_ixL (ev_lst' (ec_cons (ev_coC (α := (List Str)) (β := (Sq Str)) (ev_cb' cm_listL (ec_cons (ev_var (i := 13) (a := v_lot)) ec_nil))) (ec_cons (ev_coC (α := (VT Str)) (β := (Sq Str)) (ev_cb' cm_tupL (ec_cons (ev_var (i := 13) (a := v_lot)) ec_nil))) ec_nil)) (fun i => [i.1, i.2.1])) (ev_callB' (j := 2) (ec_cons ev_int ec_nil))))) (fun (v_given : (List (Sq Str))) => (rd_set (ev_op om_ixL (ev_lst' (ec_cons (ev_coC (α := (List Str)) (β := (Sq Str)) (ev_cb' cm_listL (ec_cons (ev_var (i := 4) (a := v_folk_told)) ec_nil))) (ec_cons (ev_coC (α := (VT Str)) (β := (Sq Str)) (ev_cb' cm_tupL (ec_cons (ev_var (i := 4) (a := v_folk_told)) ec_nil))) ec_nil)) (fun i => [i.1, i.2.1])) (ev_callB' (j := 2) (ec_cons ev_int ec_nil))) (fun (v_handed : (Sq Str)) => (rd_set (ev_cb' cm_repr (ec_cons (ev_lst' (ec_cons (ev_as (α := (List (Sq Str))) (β := D) (f := fun x => ((d x : D))) (ev_var (i := 7) (a := v_given)) (fun _ => rfl)) (ec_cons (ev_as (α := (Sq Str)) (β := D) (f := fun x => ((d x : D))) (ev_var (i := 8) (a := v_handed)) (fun _ => rfl)) ec_nil)) (fun i => [i.1, i.2.1])) ec_nil)) (fun (v_kept : Str) => (rd_set (ev_calR2 (ec_cons (ev_var (i := 7) (a := v_given)) (ec_cons (ev_var (i := 8) (a := v_handed)) ec_nil))) (fun (v_draw : Dr) => (rd_if (et_test (ev_op om_neS (ev_cb' cm_repr (ec_cons (ev_lst' (ec_cons (ev_as (α := (List (Sq Str))) (β := D) (f := fun x => ((d x : D))) (ev_var (i := 7) (a := v_given)) (fun _ => rfl)) (ec_cons (ev_as (α := (Sq Str)) (β := D) (f := fun x => ((d x : D))) (ev_var (i := 8) (a := v_handed)) (fun _ => rfl)) ec_nil)) (fun i => [i.1, i.2.1])) ec_nil)) (ev_var (i := 9) (a := v_kept)))) (rd_retks rk_rt ev_bl) (rd_skip (rd_if (et_not (et_val (ev_call' (ec_cons (ev_var (i := 10) (a := v_draw)) (ec_cons (ev_var (i := 4) (a := v_folk_told)) (ec_cons (ev_cb' cm_lenL (ec_cons (ev_var (i := 4) (a := v_folk_told)) ec_nil)) ec_nil)))))) (rd_retks rk_rt ev_bl) (rd_skip (rd_nil (rd_for (S := Unit) (ρ := Bool) (rk := Step.rt) (Γn := fun s74 => [.fix (.ref a), .val (d v_k), .box, .val (d v_some), .val (d v_folk_told), .val (d v_lap), .val (d v_sets_told), .val (d v_given), .val (d v_handed), .val (d v_kept), .val (d v_draw), .any, .any, .any, .any]) (s0 := ()) (.eq (.eq (.eq (.eq (.eq (.eq (.eq (.eq (.eq (.eq (.eq (.any (.any (.any (.any .nil))))))))))))))) rk_rt (ei_list (ev_call' (ec_cons (ev_var (i := 4) (a := v_folk_told)) ec_nil))) tg_name (fun _ => up1) (fun (v_who : (List Str)) s74 => (rd_set (ev_op om_neD (ev_lc (ei_up (ei_list (ev_var (i := 6) (a := v_sets_told)))) tg_name (fun (v_lot : (List Str)) => (et_test (ev_op om_eqD (ev_lc (ei_up (ei_list (ev_var (i := 13) (a := v_lot)))) tg_name (fun (v_name : Str) => (et_test (ev_op om_ninF (ev_var (i := 14) (a := v_name)) (ev_var (i := 11) (a := v_who))))) (fun (v_name : Str) => (ev_var (i := 14) (a := v_name)))) (ev_lst' ec_nil (fun _ => ([] : List (Sq Str))))))) (fun (v_lot : (List Str)) => (ev_var (i := 13) (a := v_lot)))) (ev_lst' ec_nil (fun _ => ([] : List (Sq Str))))) (fun (v_due : Bool) => (rd_nil (rd_if (et_test (ev_op om_neB (ev_call' (ec_cons (ev_var (i := 10) (a := v_draw)) (ec_cons (ev_var (i := 11) (a := v_who)) ec_nil))) (ev_var (i := 12) (a := v_due)))) (rd_retks rk_rt ev_bl) (rd_skip (rd_nx (s := ()) (.eq (.eq (.eq (.eq (.eq (.eq (.eq (.eq (.eq (.eq (.eq (.any (.any (.any (.any .nil)))))))))))))))))))))) (fun s74 => (rd_nx (s := ()) (.eq (.eq (.eq (.eq (.eq (.any (.any (.any (.any (.any (.any (.any (.any (.any (.any .nil)))))))))))))))))))))))))))))))))) (fun s28 => (rd_nil (rd_if (et_or (et_not (et_test (ev_op (om_ownEqV dr_cls) (ev_call' (ec_cons (ev_coC (α := (List Str)) (β := (Sq Str)) (ev_var (i := 4) (a := v_folk_told))) (ec_cons (ev_lst' ec_nil (fun _ => ([] : List (Sq Str)))) ec_nil))) (mk_End (ec_cons ev_str ec_nil))))) (et_not (et_test (ev_op (om_ownEqV dr_cls) (ev_call' (ec_cons (ev_coC (α := (List Str)) (β := (Sq Str)) (ev_var (i := 4) (a := v_folk_told))) (ec_cons (ev_lst' (ec_cons (ev_coC (α := (List Str)) (β := (Sq Str)) (ev_var (i := 4) (a := v_folk_told))) (ec_cons (ev_coC (α := (VT Str)) (β := (Sq Str)) (ev_tup' ec_nil (fun _ => (VT.mk [] : (VT Str))))) ec_nil)) (fun i => [i.1, i.2.1])) ec_nil))) (mk_End (ec_cons ev_str ec_nil)))))) (rd_retks rk_rt ev_bl) (rd_skip (rd_nx (Γn := fun _ : Unit => .fix (.ref a) :: List.replicate 14 .any) (s := ()) (.eq (.any (.any (.any (.any (.any (.any (.any (.any (.any (.any (.any (.any (.any (.any .nil)))))))))))))))))))))))))
end
end K42

set_option Elab.async false
set_option linter.all false
set_option maxRecDepth 100000
set_option maxHeartbeats 4000000
namespace K42
open PySem PySem.Spec PyProof.Rows L2 J N
open M
open ToD (d)
open ToDs (ds)
/-! ### numbers -/
def lowP (t b : Int) : Int × Int := (t.fdiv (Int.gcd t b : Nat), b.fdiv (Int.gcd t b : Nat))
theorem low_facts {t b : Int} (hb : 0 < b) : ((Int.gcd t b : Nat) : Int) ≠ 0 ∧ ((Int.gcd t b : Nat) : Int).natAbs ≤ b.natAbs ∧ 0 < (lowP t b).2 ∧ Int.gcd (lowP t b).1 (lowP t b).2 = 1 ∧
    (lowP t b).1 * b = t * (lowP t b).2 ∧ (lowP t b).1.natAbs ≤ t.natAbs ∧ (lowP t b).2.natAbs ≤ b.natAbs := by
  have hp : 0 < Int.gcd t b := Int.gcd_pos_of_ne_zero_right t (by omega)
  have h1 : ((Int.gcd t b : Nat) : Int) ∣ t := Int.gcd_dvd_left ..
  have h2 : ((Int.gcd t b : Nat) : Int) ∣ b := Int.gcd_dvd_right ..
  unfold lowP
  dsimp only
  have hgg : Int.gcd t b = ((Int.gcd t b : Nat) : Int).natAbs := by omega
  generalize hg : ((Int.gcd t b : Nat) : Int) = g at h1 h2
  have g1 : 0 < g := by omega
  obtain ⟨n, hn⟩ := h1
  obtain ⟨q, hq⟩ := h2
  have e1 : t.fdiv g = n := by rw [hn]; exact Int.mul_fdiv_cancel_left _ (by omega)
  have e2 : b.fdiv g = q := by rw [hq]; exact Int.mul_fdiv_cancel_left _ (by omega)
  rw [e1, e2]
  have hq0 : q ≠ 0 := fun z => by rw [hq, z, Int.mul_zero] at hb; omega
  have nb : b.natAbs = g.natAbs * q.natAbs := by rw [hq, Int.natAbs_mul]
  have nt : t.natAbs = g.natAbs * n.natAbs := by rw [hn, Int.natAbs_mul]
  have gp : 0 < g.natAbs := by omega
  refine ⟨by omega, ?_, ?_, ?_, ?_, ?_, ?_⟩
  · rw [nb]
    exact Nat.le_mul_of_pos_right _ (by omega)
  · by_cases z : 0 < q
    · exact z
    · have : g * q ≤ 0 := Int.mul_nonpos_of_nonneg_of_nonpos (by omega) (by omega)
      omega
  · have h4 : Int.gcd t b = g.natAbs * Int.gcd n q := by
      rw [hn, hq, Int.gcd_mul_left]
    have h5 : Int.gcd t b = g.natAbs := by omega
    rw [h5] at h4
    have h3 : g.natAbs * 1 = g.natAbs * Int.gcd n q := by rw [Nat.mul_one]; exact h4
    exact (Nat.eq_of_mul_eq_mul_left gp h3).symm
  · rw [hn, hq]
    grind
  · rw [nt]
    exact Nat.le_mul_of_pos_left _ gp
  · rw [nb]
    exact Nat.le_mul_of_pos_left _ gp
theorem low_self {p : Int × Int} (h : Int.gcd p.1 p.2 = 1) : lowP p.1 p.2 = p := by
  unfold lowP
  rw [h]
  simp [Int.fdiv_one]
def mkR (p : Int × Int) : Rt := ⟨p.1, p.2⟩
theorem mkR_n (p : Int × Int) : (mkR p).n = p.1 := rfl
theorem mkR_u (p : Int × Int) : (mkR p).u = p.2 := rfl
theorem gcd_ok (t b : Int) : m_common_part t b = .ok (Int.gcd t b : Nat) := by
  refine run_eq ?_
  unfold B_common_part
  simp only [pure_bind]
  rw [while_gcd _ _ _ (by split <;> omega) (by split <;> omega) (by split <;> omega), gcdAbs]
  rfl
theorem lt8 {b : Int} (h : b.natAbs < 2 ^ 4000) : b.natAbs < 2 ^ 8000 := Nat.lt_trans h (Nat.pow_lt_pow_right (by decide) (by decide))
theorem new_ok {t b : Int} (hb : 0 < b) (h2 : b.natAbs < 2 ^ 4000) : newRt t b = .ok (mkR (lowP t b)) := by
  obtain ⟨f1, f2, f3, _, _, _, _⟩ := low_facts (t := t) hb
  have e : B_Ratio___init__ t b = pure [(("above" : Str), D.int (lowP t b).1), (("under" : Str), D.int (lowP t b).2)] := by
    unfold B_Ratio___init__
    simp only [pure_bind, gcd_ok, M.lft_ok]
    rw [show decide (b = 0) = false from decide_eq_false (by omega), ifFF, show decide (b < 0) = false from decide_eq_false (by omega), ifFF]
    simp only [pure_bind]
    rw [fdivM_ok f1 (lt8 (Nat.lt_of_le_of_lt f2 h2)), fdivM_ok f1 (lt8 (Nat.lt_of_le_of_lt f2 h2))]
    simp only [pure_bind]
    rfl
  unfold newRt m_Ratio___init__
  rw [run_eq e]
  rfl
theorem new1_ok (t : Int) : newRt1 t = .ok (mkR (t, 1)) := by
  have h := new_ok (t := t) (b := 1) (by decide) (by decide +kernel)
  rw [low_self (p := (t, 1)) (by simp)] at h
  exact h
/-! ### small numbers -/
structure Lo (k : Nat) (p : Int × Int) : Prop where
  pos : 0 < p.2
  low : Int.gcd p.1 p.2 = 1
  bn : p.1.natAbs < 2 ^ k
  bd : p.2.natAbs < 2 ^ k
theorem Lo.up {j k : Nat} {p : Int × Int} (h : Lo j p) (l : j ≤ k) : Lo k p :=
  ⟨h.pos, h.low, Nat.lt_of_lt_of_le h.bn (Nat.pow_le_pow_right (by decide) l), Nat.lt_of_lt_of_le h.bd (Nat.pow_le_pow_right (by decide) l)⟩
theorem lowP_lo {k : Nat} {t b : Int} (hb : 0 < b) (h1 : t.natAbs < 2 ^ k) (h2 : b.natAbs < 2 ^ k) : Lo k (lowP t b) := by
  obtain ⟨f1, f2, f3, f4, _, f5, f6⟩ := low_facts (t := t) hb
  exact ⟨f3, f4, Nat.lt_of_le_of_lt f5 h1, Nat.lt_of_le_of_lt f6 h2⟩
def plusP (p q : Int × Int) : Int × Int := lowP (p.1 * q.2 + q.1 * p.2) (p.2 * q.2)
theorem mul_abs {i j : Int} {a b : Nat} (h1 : i.natAbs < 2 ^ a) (h2 : j.natAbs < 2 ^ b) : (i * j).natAbs < 2 ^ (a + b) := by
  rw [Int.natAbs_mul, Nat.pow_add]
  exact Nat.mul_lt_mul_of_lt_of_lt h1 h2
theorem mulM_k {i j : Int} {a b : Nat} (h1 : i.natAbs < 2 ^ a) (h2 : j.natAbs < 2 ^ b) (l : a ≤ 3000 ∧ b ≤ 3000) : mulM i j = pure (i * j) := mulM_lt h1 h2 (by omega)
theorem plus_b {j k : Nat} {p q : Int × Int} (hp : Lo j p) (hq : Lo k q) : (p.1 * q.2 + q.1 * p.2).natAbs < 2 ^ (j + k + 1) ∧ (p.2 * q.2).natAbs < 2 ^ (j + k + 1) ∧ 0 < p.2 * q.2 := by
  have a1 := mul_abs hp.bn hq.bd
  have a2 := mul_abs hq.bn hp.bd
  have a3 := mul_abs hp.bd hq.bd
  rw [Nat.add_comm k j] at a2
  rw [Nat.pow_succ]
  exact ⟨by omega, by omega, Int.mul_pos hp.pos hq.pos⟩
theorem plus_lo {j k : Nat} {p q : Int × Int} (hp : Lo j p) (hq : Lo k q) : Lo (j + k + 1) (plusP p q) := by
  obtain ⟨h1, h2, h3⟩ := plus_b hp hq
  exact lowP_lo h3 h1 h2
/-- a number that stands for a pair -/
def Of (x : Nm) (p : Int × Int) : Prop := x.n = p.1 ∧ x.u = p.2
theorem add_ok {j k : Nat} {p q : Int × Int} {y : Nm} (hp : Lo j p) (hq : Lo k q) (hy : Of y q) (l : j + k ≤ 2000) : m_Ratio___add__ (mkR p) y = .ok (mkR (plusP p q)) := by
  obtain ⟨h1, h2, h3⟩ := plus_b hp hq
  refine run_eq ?_
  unfold B_Ratio___add__ m_parts_of
  simp only [pure_bind, M.lft_ok, hy.1, hy.2, mkR_n, mkR_u]
  rw [mulM_k hp.bn hq.bd (by omega), mulM_k hq.bn hp.bd (by omega)]
  simp only [pure_bind]
  rw [mulM_k hp.bd hq.bd (by omega)]
  simp only [pure_bind]
  rw [new_ok h3 (Nat.lt_of_lt_of_le h2 (Nat.pow_le_pow_right (by decide) (by omega)))]
  rfl
def lessP (p q : Int × Int) : Bool := decide (p.1 * q.2 < q.1 * p.2)
theorem below_ok {j k : Nat} {p q : Int × Int} {y : Nm} (hp : Lo j p) (hq : Lo k q) (hy : Of y q) (l : j + k ≤ 2000) : m_Ratio_below (mkR p) y = .ok (lessP p q) := by
  refine run_eq ?_
  unfold B_Ratio_below m_parts_of
  simp only [pure_bind, M.lft_ok, hy.1, hy.2, mkR_n, mkR_u]
  rw [mulM_k hp.bn hq.bd (by omega), mulM_k hq.bn hp.bd (by omega)]
  simp only [pure_bind]
  rfl

/-! ### Ratios as rational numbers -/
def pr (q : Rat) : Int × Int := (q.num, (q.den : Int))
def rt (q : Rat) : Rt := ⟨q.num, (q.den : Int)⟩
theorem rt_mk (q : Rat) : rt q = mkR (pr q) := rfl
theorem pr_inj {p q : Rat} (h : pr p = pr q) : p = q := by
  unfold pr at h
  have h1 := congrArg Prod.fst h
  have h2 := congrArg Prod.snd h
  dsimp only at h1 h2
  exact Rat.ext h1 (by omega)
theorem pr_div {t b : Int} (hb : 0 < b) : pr (Rat.divInt t b) = lowP t b := by
  obtain ⟨n, rfl⟩ := Int.eq_ofNat_of_zero_le (Int.le_of_lt hb)
  have hn : n ≠ 0 := by omega
  show pr (mkRat t n) = _
  unfold mkRat pr lowP
  rw [dif_neg hn, Rat.normalize_eq]
  have e : t.natAbs.gcd n = Int.gcd t (n : Int) := by show _ = Nat.gcd t.natAbs (n : Int).natAbs; rw [Int.natAbs_natCast]
  dsimp only
  rw [e, Int.fdiv_eq_ediv_of_nonneg _ (by omega), Int.fdiv_eq_ediv_of_nonneg _ (by omega), Int.natCast_ediv]
structure Sz (k : Nat) (q : Rat) : Prop where
  n : q.num.natAbs < 2 ^ k
  u : q.den < 2 ^ k
theorem Sz.lo {k : Nat} {q : Rat} (h : Sz k q) : Lo k (pr q) := ⟨by show (0 : Int) < q.den; have := q.den_pos; omega, by
  have := q.reduced
  show Nat.gcd q.num.natAbs (q.den : Int).natAbs = 1
  rw [Int.natAbs_natCast]
  exact this, h.n, by show (q.den : Int).natAbs < _; rw [Int.natAbs_natCast]; exact h.u⟩
theorem Lo.sz {k : Nat} {q : Rat} (h : Lo k (pr q)) : Sz k q := ⟨h.bn, by have := h.bd; unfold pr at this; dsimp only at this; rw [Int.natAbs_natCast] at this; exact this⟩
theorem Sz.up {j k : Nat} {q : Rat} (h : Sz j q) (l : j ≤ k) : Sz k q := (h.lo.up l).sz
theorem div_pr (q : Rat) : Rat.divInt (pr q).1 (pr q).2 = q := Rat.num_divInt_den q
theorem den_ne (q : Rat) : (pr q).2 ≠ 0 := by
  have := q.den_pos
  unfold pr
  dsimp only
  omega
theorem pr_add (p q : Rat) : pr (p + q) = plusP (pr p) (pr q) := by
  have hp : 0 < (pr p).2 * (pr q).2 := Int.mul_pos (by have := p.den_pos; unfold pr; dsimp only; omega) (by have := q.den_pos; unfold pr; dsimp only; omega)
  unfold plusP
  rw [← pr_div hp, ← Rat.divInt_add_divInt _ _ (den_ne p) (den_ne q), div_pr, div_pr]
theorem sz_add {j k : Nat} {p q : Rat} (hp : Sz j p) (hq : Sz k q) : Sz (j + k + 1) (p + q) := by
  refine Lo.sz ?_
  rw [pr_add]
  exact plus_lo hp.lo hq.lo
def numR : Rat → Nm := fun q => .r (rt q)
theorem of_rt (q : Rat) : Of (.r (rt q)) (pr q) := ⟨rfl, rfl⟩
theorem addR {j k : Nat} {p q : Rat} (hp : Sz j p) (hq : Sz k q) (l : j + k ≤ 2000) : m_Ratio___add__ (rt p) (.r (rt q)) = .ok (rt (p + q)) := by
  rw [rt_mk, add_ok hp.lo hq.lo (of_rt q) l, ← pr_add]
  rfl
def timesP (p q : Int × Int) : Int × Int := lowP (p.1 * q.1) (p.2 * q.2)
theorem times_b {j k : Nat} {p q : Int × Int} (hp : Lo j p) (hq : Lo k q) : (p.1 * q.1).natAbs < 2 ^ (j + k) ∧ (p.2 * q.2).natAbs < 2 ^ (j + k) ∧ 0 < p.2 * q.2 :=
  ⟨mul_abs hp.bn hq.bn, mul_abs hp.bd hq.bd, Int.mul_pos hp.pos hq.pos⟩
theorem pr_mul (p q : Rat) : pr (p * q) = timesP (pr p) (pr q) := by
  have hp : 0 < (pr p).2 * (pr q).2 := Int.mul_pos (by have := p.den_pos; unfold pr; dsimp only; omega) (by have := q.den_pos; unfold pr; dsimp only; omega)
  unfold timesP
  rw [← pr_div hp, ← Rat.divInt_mul_divInt, div_pr, div_pr]
theorem sz_mul {j k : Nat} {p q : Rat} (hp : Sz j p) (hq : Sz k q) : Sz (j + k) (p * q) := by
  refine Lo.sz ?_
  rw [pr_mul]
  obtain ⟨h1, h2, h3⟩ := times_b hp.lo hq.lo
  exact lowP_lo h3 h1 h2
theorem kn_rt (r : Rt) : KnownD ["Ratio", "End", "Round"] (d r) := by show ("Ratio" : Str) ∈ [("Ratio" : Str), "End", "Round"]; exact List.mem_cons_self
theorem isint_int (i : Int) : m_is_integer (.int i) = .ok true := by
  refine run_eq ?_
  unfold B_is_integer
  simp only [pure_bind]
  rw [need_T (show KnownD ["Ratio", "End", "Round"] (.int i) from trivial)]
  rfl
theorem isint_rt (r : Rt) : m_is_integer (d r) = .ok false := by
  refine run_eq ?_
  unfold B_is_integer
  simp only [pure_bind]
  rw [need_T (kn_rt r)]
  rfl
theorem isnum_nm (x : Nm) : m_is_number (d x) = .ok true := by
  cases x with
  | i n =>
    refine run_eq ?_
    unfold B_is_number
    simp only [pure_bind]
    show ((lft (m_is_integer (.int n))) >>= _) = _
    rw [isint_int]
    rfl
  | r q =>
    refine run_eq ?_
    unfold B_is_number
    simp only [pure_bind]
    show ((lft (m_is_integer (d q))) >>= _) = _
    rw [isint_rt]
    simp only [M.lft_ok, pure_bind]
    rw [ifFF, need_T (show KnownD ["Ratio", "End", "Round"] (d (Nm.r q)) from kn_rt q)]
    rfl
theorem toNm_d (x : Nm) : toNm (d x) = some x := by
  cases x with
  | i n => rfl
  | r q =>
    show (if ("Ratio" : Str) = "Ratio" then _ else none) = _
    rw [if_pos rfl]
    rfl
theorem as_ok {k : Nat} {x : Nm} {p : Int × Int} (h : Lo k p) (hx : Of x p) (l : k ≤ 2000) : m_as_ratio (d x) = .ok (mkR p) := by
  refine run_eq ?_
  rw [toNm_d]
  show B_as_ratio x = _
  unfold B_as_ratio m_parts_of
  simp only [pure_bind, isnum_nm, M.lft_ok, Bool.not_true, ifFF]
  rw [hx.1, hx.2, new_ok h.pos (Nat.lt_of_lt_of_le h.bd (Nat.pow_le_pow_right (by decide) (by omega))), low_self h.low]
  rfl
theorem asR {k : Nat} {q : Rat} (h : Sz k q) (l : k ≤ 2000) : m_as_ratio (d (Nm.r (rt q))) = .ok (rt q) := as_ok h.lo (of_rt q) l
theorem eqR (p q : Rat) : m_Ratio___eq__ (rt p) (.r (rt q)) = .ok (decide (p = q)) := by
  refine run_eq ?_
  unfold B_Ratio___eq__
  simp only [pure_bind, Nm.isRt, ifTT, Nm.r?, unopt]
  have e : decide (p = q) = (decide (p.num = q.num) && decide (p.den = q.den)) := by
    by_cases h : p = q
    · subst h; simp
    · rw [decide_eq_false h]
      by_cases h1 : p.num = q.num
      · have h2 : p.den ≠ q.den := fun z => h (Rat.ext h1 z)
        rw [decide_eq_false h2, Bool.and_false]
      · rw [decide_eq_false h1, Bool.false_and]
  rw [e]
  show (if decide ((rt p).n = (rt q).n) = true then _ else _) = _
  have e2 : decide ((rt p).u = (rt q).u) = decide (p.den = q.den) := decide_eq_decide.mpr ⟨fun h => Int.ofNat.inj h, fun h => congrArg Int.ofNat h⟩
  cases h1 : decide (p.num = q.num) with
  | false =>
    rw [show decide ((rt p).n = (rt q).n) = false from h1, ifFF]
    rfl
  | true =>
    rw [show decide ((rt p).n = (rt q).n) = true from h1, ifTT, e2]
    rfl
theorem eqI (p : Rat) (n : Int) : m_Ratio___eq__ (rt p) (.i n) = .ok (decide (p = (n : Rat))) := by
  refine run_eq ?_
  unfold B_Ratio___eq__
  simp only [pure_bind, Nm.isRt, ifFF]
  show ((lft (m_is_integer (.int n))) >>= _) = _
  rw [isint_int]
  simp only [M.lft_ok, pure_bind, ifTT, Nm.i?, unopt]
  have e : decide (p = (n : Rat)) = (decide ((rt p).u = 1) && decide ((rt p).n = n)) := by
    show _ = (decide ((p.den : Int) = 1) && decide (p.num = n))
    by_cases h : p = (n : Rat)
    · subst h; simp
    · rw [decide_eq_false h]
      by_cases h1 : p.num = n
      · have h2 : ¬ (p.den : Int) = 1 := fun z => h (Rat.ext (by rw [h1]; simp) (by rw [show p.den = 1 by omega]; simp))
        rw [decide_eq_false h2, Bool.false_and]
      · rw [decide_eq_false h1, Bool.and_false]
  rw [e]
  cases h1 : decide ((rt p).u = 1) with
  | false => rfl
  | true => rfl
theorem lessP_rat (p q : Rat) : lessP (pr p) (pr q) = decide (p < q) := by
  unfold lessP pr
  exact decide_eq_decide.mpr (Rat.lt_iff p q).symm
theorem belowR {j k : Nat} {p q : Rat} (hp : Sz j p) (hq : Sz k q) (l : j + k ≤ 2000) : m_Ratio_below (rt p) (.r (rt q)) = .ok (decide (p < q)) := by
  rw [rt_mk, below_ok hp.lo hq.lo (of_rt q) l, lessP_rat]
theorem new1R (t : Int) : newRt1 t = .ok (rt (t : Rat)) := by rw [new1_ok]; rfl
/-- the text of a quotient that is no integer -/
def txQ (p : Int × Int) : Str := (toString p.1 : Str) ++ ("/" : Str) ++ (toString p.2 : Str)
end K42

set_option Elab.async false
set_option linter.all false
set_option maxRecDepth 100000
set_option maxHeartbeats 4000000
namespace K42
open PySem PySem.Spec PyProof.Rows L2 J N
open M
open ToD (d)
open ToDs (ds)
/-! ### draws as they should be -/
abbrev RowT := VT Int
structure NameOk (n : Str) : Prop where
  pos : 0 < n.length
  few : n.length < 9
  az : ∀ c ∈ TL.tl n, 97 ≤ c ∧ c ≤ 122
def shS (p : Int × Int) : Str := (toString p.1 : Str) ++ ("/" : Str) ++ (toString p.2 : Str)
def shQ (p : Int × Int) : Rat := Rat.divInt p.1 p.2
def sumQ (qs : List Rat) : Rat := qs.foldl (· + ·) 0
structure ShOk (l : List (Int × Int)) : Prop where
  two : 2 ≤ l.length
  four : l.length ≤ 4
  top : ∀ p ∈ l, 0 < p.1 ∧ p.1 < 10000
  bot : ∀ p ∈ l, 1 < p.2 ∧ p.2 < 10000
  low : ∀ p ∈ l, Int.gcd p.1 p.2 = 1
  lt : ∀ p ∈ l, p.1 < p.2
  dv : ∀ p ∈ l, p.2 ∣ 3000
  one : sumQ (l.map shQ) = 1
structure GOk (x : LG) : Prop where
  name : NameOk x.a
  sh : ShOk x.b.l
  lo : 0 ≤ x.c
  hi : x.c < x.b.l.length
def KS : List Str := ["open", "sealed", "held", "last"]
def sizesG (g : List LG) : List Nat := g.map fun x => x.b.l.length
def rowN : List Nat → Nat
  | [] => 1
  | n :: r => n * rowN r
inductive WF : LD → Prop
  | s {n : Str} : NameOk n → WF (.s n)
  | t {k : Str} {g : List LG} {l : List LD} : k ∈ KS → 0 < g.length → g.length ≤ 4 → (g.map (·.a)).Nodup → (∀ x ∈ g, GOk x) → l.length = rowN (sizesG g) → rowN (sizesG g) ≤ 16 → (∀ w ∈ l, WF w) → WF (.t k g l)
def seatS (x : LG) : Str := Txt.join (" " : Str) (x.a :: (x.b.l.map shS ++ [("*" : Str) ++ (toString x.c : Str)]))
def roundS (k : Str) (g : List LG) (ts : List Str) : Str := k ++ ("(" : Str) ++ Txt.join (", " : Str) (g.map seatS) ++ ("; " : Str) ++ Txt.join (", " : Str) ts ++ (")" : Str)
mutual
def txt : LD → Str
  | .s n => n
  | .t k g l => roundS k g (txts l)
def txts : List LD → List Str
  | [] => []
  | a :: q => txt a :: txts q
end
theorem txts_map : ∀ l : List LD, txts l = l.map txt
  | [] => by rw [txts]; rfl
  | a :: q => by rw [txts, txts_map q]; rfl
/-- all rows of numbers below some sizes -/
def rowL : List Nat → List (List Int)
  | [] => [[]]
  | n :: r => (rng 0 n).flatMap fun i => (rowL r).map fun q => i :: q
def rowsV (ns : List Nat) : List RowT := (rowL ns).map VT.mk
def wholeP (steps : List RowT) (fs : List Dr) : List Path := (steps.zip fs).flatMap fun p => p.2.whole.l.map fun q => VT.mk (p.1 :: q.l)
def seatD (x : LG) : Seat := ⟨x.a, ⟨x.b.l.map mkR⟩, x.c⟩
mutual
def mk : LD → Dr
  | .s n => .e n [⟨[]⟩] n
  | .t k g l => .r (roundS k g (txts l)) (wholeP (rowsV (sizesG g)) (mks l)) k (g.map seatD) (rowsV (sizesG g)) (mks l)
def mks : List LD → List Dr
  | [] => []
  | a :: q => mk a :: mks q
end
theorem mks_map : ∀ l : List LD, mks l = l.map mk
  | [] => by rw [mks]; rfl
  | a :: q => by rw [mks, mks_map q]; rfl
theorem mk_s (n : Str) : mk (.s n) = .e n [⟨[]⟩] n := by rw [mk]
theorem mk_t (k : Str) (g : List LG) (l : List LD) : mk (.t k g l) = .r (roundS k g (l.map txt)) (wholeP (rowsV (sizesG g)) (l.map mk)) k (g.map seatD) (rowsV (sizesG g)) (l.map mk) := by rw [mk, mks_map, txts_map]
theorem txt_t (k : Str) (g : List LG) (l : List LD) : txt (.t k g l) = roundS k g (l.map txt) := by rw [txt, txts_map]
theorem mk_words (w : LD) : (mk w).words = txt w := by
  cases w with
  | s n => rw [mk_s, txt]; rfl
  | t k g l => rw [mk_t, txt_t]; rfl
mutual
def dp : LD → Nat
  | .s _ => 0
  | .t _ _ l => dps l + 1
def dps : List LD → Nat
  | [] => 0
  | a :: q => max (dp a) (dps q)
end
theorem dp_le : ∀ {l : List LD} {w : LD}, w ∈ l → dp w ≤ dps l
  | a :: q, w, h => by
    rw [dps]
    rcases List.mem_cons.mp h with rfl | h
    · exact Nat.le_max_left _ _
    · exact Nat.le_trans (dp_le h) (Nat.le_max_right _ _)
theorem dp_t {k : Str} {g : List LG} {l : List LD} {w : LD} (h : w ∈ l) : dp w < dp (.t k g l) := by
  rw [dp]
  exact Nat.lt_succ_of_le (dp_le h)
/-! ### names -/
theorem az_mem {c : Nat} (h : 97 ≤ c ∧ c ≤ 122) : c ∈ ("abcdefghijklmnopqrstuvwxyz" : Str).cps.toList := by
  have all : ∀ k : Nat, k < 26 → (97 + k) ∈ ("abcdefghijklmnopqrstuvwxyz" : Str).cps.toList := by decide +kernel
  have := all (c - 97) (by omega)
  rw [show 97 + (c - 97) = c by omega] at this
  exact this
theorem name_ok {n : Str} (h : NameOk n) : m_is_name n = .ok true := by
  have h1 := h.pos
  have h2 := h.few
  have hl : (n.cps.toList.map Ch.mk).length ≤ 1000 := by
    rw [List.length_map]
    have : n.length = n.cps.toList.length := TL.len_tl n
    omega
  refine run_eq ?_
  unfold B_is_name
  simp only [pure_bind, ifTT]
  rw [lenS_ok (by omega)]
  simp only [pure_bind]
  rw [show decide ((0 : Int) < (n.length : Int)) = true from decide_eq_true (by omega), ifTT, show decide ((n.length : Int) < 9) = true from decide_eq_true (by omega)]
  simp only [pure_bind, ifTT]
  rw [lcM_all (g := fun _ => true) hl fun a ha => by
    obtain ⟨c, hc, rfl⟩ := List.mem_map.mp ha
    rw [decide_eq_true (az_mem (h.az c hc))]]
  simp only [pure_bind, ↓reduceIte]
  congr 1
  rw [List.all_map, List.all_eq_true]
  exact fun _ _ => rfl
theorem listed_l {α : Type} [ToD α] (xs : List α) : m_is_listed (d xs) = .ok true := by
  refine run_eq ?_
  unfold B_is_listed
  simp only [pure_bind]
  rw [need_T (show KnownD ["Ratio", "End", "Round"] (d xs) from trivial)]
  rfl
theorem listed_q {α : Type} [ToD α] (q : Sq α) : m_is_listed (d q) = .ok true := by
  refine run_eq ?_
  unfold B_is_listed
  simp only [pure_bind]
  cases q with
  | l xs => rw [need_T (show KnownD ["Ratio", "End", "Round"] (d (Sq.l xs)) from trivial)]; rfl
  | t xs => rw [need_T (show KnownD ["Ratio", "End", "Round"] (d (Sq.t xs)) from trivial)]; rfl
/-! ### sums -/
theorem total_fold : ∀ (qs : List Rat) (j : Nat) (W : Rat) (k : Nat), (∀ q ∈ qs, Sz k q) → Sz j W → j + (k + 1) * qs.length ≤ 1900 →
    foldM (fun (v_number : Nm) (s2 : Rt) => strict (lft (m_Ratio___add__ s2 v_number)) >>= fun v_found => pure v_found) (qs.map numR) (rt W) = pure (rt (qs.foldl (· + ·) W))
  | [], j, W, k, _, _, _ => rfl
  | q :: qs, j, W, k, hq, hW, hj => by
    rw [List.length_cons, Nat.mul_succ] at hj
    have h1 := hq q List.mem_cons_self
    rw [List.map_cons]
    unfold foldM
    unfold numR
    rw [addR hW h1 (by omega)]
    simp only [strict_lft, pure_bind]
    have := total_fold qs (j + k + 1) (W + q) k (fun r hr => hq r (List.mem_cons_of_mem _ hr)) (sz_add hW h1) (by omega)
    unfold numR at this
    rw [this, List.foldl_cons]
theorem sz_int {k : Nat} {n : Int} (h : n.natAbs < 2 ^ k) (hk : 0 < k) : Sz k (n : Rat) := ⟨by simpa using h, by simpa using Nat.one_lt_two_pow (by omega)⟩
theorem sz_zero : Sz 1 (0 : Rat) := ⟨by decide, by decide⟩
theorem total_ok {x : Sq Nm} {qs : List Rat} {k : Nat} (h : x.xs = qs.map numR) (hq : ∀ q ∈ qs, Sz k q) (hl : 1 + (k + 1) * qs.length ≤ 1900) : m_total x = .ok (rt (sumQ qs)) := by
  refine run_eq ?_
  unfold B_total
  simp only [pure_bind, new1R, M.lft_ok, h]
  have := total_fold qs 1 (0 : Rat) k hq sz_zero hl
  show (foldM _ _ (rt (0 : Rat)) >>= _) = _
  rw [this]
  rfl
/-! ### rows -/
theorem lcG_all {β γ : Type} {g : β → γ} {f : β → M γ} : ∀ (xs : List β) (acc : List γ), (∀ a ∈ xs, f a = pure (g a)) → acc.length + xs.length ≤ 1000000 → lcG (fun _ => pure true) f acc xs = pure (acc ++ xs.map g)
  | [], acc, _, _ => by unfold lcG; simp
  | a :: r, acc, h, hl => by
    rw [List.length_cons] at hl
    unfold lcG
    rw [h a List.mem_cons_self]
    simp only [strict_pure, pure_bind, ifTT]
    rw [need_T (Nat.lt_of_lt_of_le (show acc.length < 1000000 by omega) sizeLine_big)]
    simp only [pure_bind]
    rw [lcG_all r (acc ++ [g a]) (fun b hb => h b (List.mem_cons_of_mem _ hb)) (by rw [List.length_append, List.length_singleton]; omega)]
    simp
theorem lc2A_all {α β γ : Type} {ys : α → M (List β)} {Y : α → List β} {f : α → β → M γ} {g : α → β → γ} : ∀ (xs : List α) (acc : List γ), (∀ a ∈ xs, ys a = pure (Y a)) → (∀ a ∈ xs, ∀ b ∈ Y a, f a b = pure (g a b)) → acc.length + (xs.flatMap fun a => (Y a).map (g a)).length ≤ 1000000 →
    lc2A (fun _ => pure true) ys (fun _ _ => pure true) f acc xs = pure (acc ++ xs.flatMap fun a => (Y a).map (g a))
  | [], acc, _, _, _ => by unfold lc2A; simp
  | a :: r, acc, h1, h2, hl => by
    rw [List.flatMap_cons, List.length_append, List.length_map] at hl
    unfold lc2A
    rw [h1 a List.mem_cons_self]
    simp only [strict_pure, pure_bind, ↓reduceIte]
    rw [lcG_all (g := g a) (Y a) acc (h2 a List.mem_cons_self) (by omega)]
    simp only [pure_bind]
    rw [lc2A_all r _ (fun b hb => h1 b (List.mem_cons_of_mem _ hb)) (fun b hb => h2 b (List.mem_cons_of_mem _ hb)) (by rw [List.length_append, List.length_map]; omega), List.flatMap_cons, List.append_assoc]
theorem lc2M_all {α β γ : Type} {ys : α → M (List β)} {Y : α → List β} {f : α → β → M γ} {g : α → β → γ} {xs : List α} (h1 : ∀ a ∈ xs, ys a = pure (Y a)) (h2 : ∀ a ∈ xs, ∀ b ∈ Y a, f a b = pure (g a b)) (hl : (xs.flatMap fun a => (Y a).map (g a)).length ≤ 1000000) :
    lc2M (fun _ => pure true) ys (fun _ _ => pure true) f xs = pure (xs.flatMap fun a => (Y a).map (g a)) := by
  unfold lc2M
  rw [lc2A_all xs [] h1 h2 (by simpa using hl), List.nil_append]
theorem rowL_len : ∀ ns : List Nat, (rowL ns).length = rowN ns
  | [] => rfl
  | n :: r => by
    rw [rowL, rowN, List.length_flatMap]
    have e : (rng 0 (n : Int)).map (fun i => ((rowL r).map fun q => i :: q).length) = (rng 0 (n : Int)).map (fun _ => rowN r) := List.map_congr_left fun i _ => by rw [List.length_map, rowL_len r]
    rw [e, List.map_const', List.sum_replicate_nat, rng_len]
    congr 1
theorem rowL_in : ∀ {ns : List Nat} {q : List Int}, q ∈ rowL ns → q.length = ns.length
  | [], q, h => by rw [List.mem_singleton.mp h]; rfl
  | n :: r, q, h => by
    rw [rowL, List.mem_flatMap] at h
    obtain ⟨i, _, h⟩ := h
    obtain ⟨p, hp, rfl⟩ := List.mem_map.mp h
    rw [List.length_cons, List.length_cons, rowL_in hp]
def stepR (found : List RowT) (n : Nat) : List RowT := found.flatMap fun row => (rng 0 (n : Int)).map fun i => VT.mk (row.l ++ [i])
theorem steps_fold : ∀ (ns : List Nat) (acc : List RowT), ns.foldl stepR acc = acc.flatMap fun row => (rowL ns).map fun q => VT.mk (row.l ++ q)
  | [], acc => by
    rw [List.foldl_nil]
    have : ∀ row : RowT, (rowL []).map (fun q => VT.mk (row.l ++ q)) = [row] := fun row => by rw [rowL, List.map_singleton, List.append_nil]
    rw [show (fun row : RowT => (rowL []).map fun q => VT.mk (row.l ++ q)) = fun row => [row] from funext this]
    induction acc with
    | nil => rfl
    | cons a r ih => rw [List.flatMap_cons, ← ih]; rfl
  | n :: r, acc => by
    rw [List.foldl_cons, steps_fold r]
    unfold stepR
    rw [List.flatMap_assoc]
    congr 1
    funext row
    rw [rowL, List.map_flatMap, List.flatMap_map]
    congr 1
    funext i
    rw [List.map_map]
    refine List.map_congr_left fun q _ => ?_
    show VT.mk ((row.l ++ [i]) ++ q) = VT.mk (row.l ++ i :: q)
    rw [List.append_assoc, List.singleton_append]
theorem stepR_len (acc : List RowT) (n : Nat) : (stepR acc n).length = acc.length * n := by
  unfold stepR
  rw [List.length_flatMap]
  have e : acc.map (fun row => ((rng 0 (n : Int)).map fun i => VT.mk (row.l ++ [i])).length) = acc.map (fun _ => n) := List.map_congr_left fun i _ => by rw [List.length_map, rng_len]; omega
  rw [e, List.map_const', List.sum_replicate_nat]
theorem rows_fold : ∀ (ns : List Nat) (acc : List RowT), (∀ n ∈ ns, 1 ≤ n ∧ n ≤ 4) → (∀ q ∈ acc, q.l.length + ns.length ≤ 100) → acc.length * rowN ns ≤ 10000 →
    foldM (fun (v_size : Int) (s2 : List RowT) => lc2M (fun (v_row : RowT) => pure true) (fun (v_row : RowT) => rng1 v_size) (fun (v_row : RowT) (v_number : Int) => pure true) (fun (v_row : RowT) (v_number : Int) => (need ((v_row.l ++ (v_number :: ([] : List Int))).length ≤ sizeLine)) >>= fun _ => pure (VT.mk (v_row.l ++ (v_number :: ([] : List Int))))) s2 >>= fun v_found => pure v_found) (ns.map fun (n : Nat) => (n : Int)) acc = pure (ns.foldl stepR acc)
  | [], acc, _, _, _ => rfl
  | n :: r, acc, h, hq, hl => by
    obtain ⟨a1, a2⟩ := h n List.mem_cons_self
    rw [rowN, ← Nat.mul_assoc] at hl
    have hr : 1 ≤ rowN r := by
      have : ∀ ns : List Nat, (∀ n ∈ ns, 1 ≤ n ∧ n ≤ 4) → 1 ≤ rowN ns := fun ns => by
        induction ns with
        | nil => intro _; exact Nat.le_refl _
        | cons m q ih =>
          intro hh
          rw [rowN]
          exact Nat.mul_pos (hh m List.mem_cons_self).1 (ih fun z hz => hh z (List.mem_cons_of_mem _ hz))
      exact this r fun z hz => h z (List.mem_cons_of_mem _ hz)
    have hl2 : acc.length * n ≤ 10000 := Nat.le_trans (Nat.le_mul_of_pos_right _ hr) hl
    rw [List.map_cons]
    unfold foldM
    rw [lc2M_all (Y := fun _ => rng 0 (n : Int)) (g := fun row i => VT.mk (row.l ++ [i])) (fun a _ => rng1_ok (by omega) (by omega)) (fun a ha b _ => by
      have := hq a ha
      rw [List.length_cons] at this
      rw [need_T (Nat.le_trans (show (a.l ++ [b]).length ≤ 1000000 by rw [List.length_append, List.length_singleton]; omega) sizeLine_big)]
      rfl) (by
        have := stepR_len acc n
        unfold stepR at this
        rw [this]
        omega)]
    simp only [pure_bind]
    rw [List.foldl_cons]
    exact rows_fold r (stepR acc n) (fun z hz => h z (List.mem_cons_of_mem _ hz)) (fun q hq2 => by
      unfold stepR at hq2
      rw [List.mem_flatMap] at hq2
      obtain ⟨row, hrow, hq3⟩ := hq2
      obtain ⟨i, _, rfl⟩ := List.mem_map.mp hq3
      have := hq row hrow
      rw [List.length_cons] at this
      show (row.l ++ [i]).length + r.length ≤ 100
      rw [List.length_append, List.length_singleton]
      omega) (by rw [stepR_len]; exact hl)
theorem rows_ok {ns : List Nat} (h : ∀ n ∈ ns, 1 ≤ n ∧ n ≤ 4) (hl : ns.length ≤ 100) (hr : rowN ns ≤ 10000) : m_rows_of (ns.map fun (n : Nat) => (n : Int)) = .ok (rowsV ns) := by
  refine run_eq ?_
  unfold B_rows_of
  simp only [pure_bind]
  have := rows_fold ns [VT.mk []] h (fun q hq => by rw [List.mem_singleton.mp hq]; simpa using hl) (by simpa using hr)
  rw [this]
  simp only [pure_bind, steps_fold, List.flatMap_cons, List.flatMap_nil, List.append_nil, List.nil_append]
  rfl
end K42

set_option Elab.async false
set_option linter.all false
set_option maxRecDepth 100000
set_option maxHeartbeats 4000000
namespace K42
open PySem PySem.Spec PyProof.Rows L2 J N
open M
open ToD (d)
open ToDs (ds)
/-! ### lengths -/
theorem big1900 {n : Nat} (h : n < 16384) : n < 2 ^ 1900 := Nat.lt_of_lt_of_le (show n < 2 ^ 14 from h) (Nat.pow_le_pow_right (by decide) (by decide))
theorem size16 : 16777216 ≤ sizeLine := by rw [sizeLine_eq]; omega
theorem need_le {n : Nat} (h : n ≤ 16777216) : need (n ≤ sizeLine) = pure () := need_T (Nat.le_trans h size16)
theorem len_app (a b : Str) : (a ++ b).length = a.length + b.length := by rw [TL.len_tl, TL.len_tl a, TL.len_tl b, TL.tl_append, List.length_append]
theorem empty_app (a : Str) : Str.empty ++ a = a := TL.ext_tl (by rw [TL.tl_append]; rfl)
theorem app_assoc (a b c : Str) : a ++ b ++ c = a ++ (b ++ c) := TL.ext_tl (by simp only [TL.tl_append, List.append_assoc])
theorem tl_joinT (y : Str) (ps : List Str) : TL.tl (Txt.join y ps) = TL.joinL (TL.tl y) (ps.map TL.tl) := by rw [TL.join_eq, TL.tl_join]
theorem joinL_len (S : List Nat) : ∀ ps : List (List Nat), (TL.joinL S ps).length ≤ (ps.map (·.length)).sum + ps.length * S.length
  | [] => by simp [TL.joinL]
  | [p] => by simp [TL.joinL]
  | p :: q :: r => by
    have ih := joinL_len S (q :: r)
    have e : TL.joinL S (p :: q :: r) = p ++ (S ++ TL.joinL S (q :: r)) := rfl
    rw [e]
    simp only [List.length_append, List.map_cons, List.sum_cons, List.length_cons] at ih ⊢
    rw [Nat.succ_mul]
    omega
theorem join_len (y : Str) (ps : List Str) : (Txt.join y ps).length ≤ (ps.map (·.length)).sum + ps.length * y.length := by
  rw [TL.len_tl, tl_joinT, TL.len_tl y]
  refine Nat.le_trans (joinL_len _ _) ?_
  rw [List.map_map, List.length_map]
  refine Nat.add_le_add_right (Nat.le_of_eq ?_) _
  congr 1
theorem sum_le {α : Type} (f : α → Nat) (k : Nat) : ∀ xs : List α, (∀ a ∈ xs, f a ≤ k) → (xs.map f).sum ≤ xs.length * k
  | [], _ => by simp
  | a :: r, h => by
    have := sum_le f k r fun b hb => h b (List.mem_cons_of_mem _ hb)
    have := h a List.mem_cons_self
    rw [List.map_cons, List.sum_cons, List.length_cons, Nat.succ_mul]
    omega
theorem int_len {i : Int} (h0 : 0 ≤ i) (h : i < 10000) : (toString i : Str).length ≤ 4 := by
  rw [TL.len_tl, tl_sg]
  unfold sgL
  rw [if_pos h0]
  exact TL.numL_len (by decide) (by omega)
theorem shS_len {p : Int × Int} (h1 : 0 ≤ p.1) (h2 : p.1 < 10000) (h3 : 0 ≤ p.2) (h4 : p.2 < 10000) : (shS p).length ≤ 9 := by
  unfold shS
  have := int_len h1 h2
  have := int_len h3 h4
  rw [len_app, len_app, show ("/" : Str).length = 1 from rfl]
  omega
theorem joinM_ok : ∀ (ys : List Str) (acc : Str), acc.length + (ys.map (·.length)).sum ≤ 16777216 → joinM (ys.map pure) acc = pure (ys.foldl (· ++ ·) acc)
  | [], acc, _ => rfl
  | y :: r, acc, h => by
    rw [List.map_cons, List.sum_cons] at h
    rw [List.map_cons]
    unfold joinM
    simp only [pure_bind]
    rw [need_le (by rw [len_app]; omega)]
    simp only [pure_bind]
    exact joinM_ok r (acc ++ y) (by rw [len_app]; omega)
theorem joinSM_ok {a : Str} {ys : List Str} (h : (ys.map (·.length)).sum + ys.length * a.length ≤ 16777216) : joinSM a ys = pure (Txt.join a ys) := by
  unfold joinSM
  rw [need_T h]
  rfl
theorem fmtS_ok {y : Str} (h : y.length ≤ 16777216) : fmtS y = pure y := by
  unfold fmtS
  rw [need_le h]
  rfl
/-! ### givers -/
theorem low_shQ {l : List (Int × Int)} (h : ShOk l) {p : Int × Int} (hp : p ∈ l) : rt (shQ p) = mkR p := by
  unfold shQ
  rw [rt_mk, pr_div (by have := h.bot p hp; omega), low_self (h.low p hp)]
theorem pr_shQ {l : List (Int × Int)} (h : ShOk l) {p : Int × Int} (hp : p ∈ l) : pr (shQ p) = p := by
  unfold shQ
  rw [pr_div (by have := h.bot p hp; omega), low_self (h.low p hp)]
theorem sh_lo {l : List (Int × Int)} (h : ShOk l) {p : Int × Int} (hp : p ∈ l) : Lo 14 p := by
  have h1 := h.top p hp
  have h2 := h.bot p hp
  exact ⟨by omega, h.low p hp, by have : (2 : Nat) ^ 14 = 16384 := by decide
                                  omega, by have : (2 : Nat) ^ 14 = 16384 := by decide
                                            omega⟩
theorem sz_shQ {l : List (Int × Int)} (h : ShOk l) {p : Int × Int} (hp : p ∈ l) : Sz 14 (shQ p) := Lo.sz (by rw [pr_shQ h hp]; exact sh_lo h hp)
def SqR (x : Sq Nm) (l : List (Int × Int)) : Prop := x.xs = l.map fun p => Nm.r (mkR p)
theorem sqR_num {x : Sq Nm} {l : List (Int × Int)} (h : ShOk l) (hx : SqR x l) : x.xs = (l.map shQ).map numR := by
  unfold SqR at hx
  rw [hx, List.map_map]
  refine List.map_congr_left fun p hp => ?_
  show _ = Nm.r (rt (shQ p))
  rw [low_shQ h hp]
theorem shares_ok {x : Sq Nm} {l : List (Int × Int)} (h : ShOk l) (hx : SqR x l) : m_are_shares x = .ok true := by
  have hn := sqR_num h hx
  have h2 := h.two
  have h4 := h.four
  have hl : x.xs.length = l.length := by unfold SqR at hx; rw [hx, List.length_map]
  refine run_eq ?_
  unfold B_are_shares
  simp only [pure_bind, listed_q, M.lft_ok, Bool.not_true, Bool.false_eq_true, ↓reduceIte]
  rw [show decide ((1 : Int) < (x.xs.length : Int)) = true from decide_eq_true (by omega)]
  simp only [↓reduceIte]
  rw [show decide ((x.xs.length : Int) < 5) = true from decide_eq_true (by omega)]
  simp only [pure_bind, Bool.not_true, Bool.false_eq_true, ↓reduceIte]
  rw [lcM_all (g := fun _ => true) (by omega) fun a _ => by rw [isnum_nm]; rfl]
  simp only [pure_bind]
  rw [show (x.xs.map fun _ => true).all id = true by rw [List.all_map, List.all_eq_true]; exact fun _ _ => rfl]
  simp only [Bool.not_true, Bool.false_eq_true, ↓reduceIte]
  rw [lcM_all (g := fun _ => true) (by omega) fun a ha => by
    rw [hn] at ha
    obtain ⟨q, hq, rfl⟩ := List.mem_map.mp ha
    obtain ⟨p, hp, rfl⟩ := List.mem_map.mp hq
    rw [new1R]
    simp only [M.lft_ok, pure_bind]
    unfold numR
    rw [belowR (sz_int (k := 1) (by decide) (by decide)) (sz_shQ h hp) (by omega), ← lessP_rat, pr_shQ h hp]
    have h1 := h.top p hp
    have : lessP (pr ((0 : Int) : Rat)) p = true := by
      show decide ((0 : Int) * p.2 < p.1 * 1) = true
      exact decide_eq_true (by omega)
    rw [this]
    rfl]
  simp only [pure_bind]
  rw [show (x.xs.map fun _ => true).all id = true by rw [List.all_map, List.all_eq_true]; exact fun _ _ => rfl]
  simp only [↓reduceIte]
  rw [total_ok (k := 14) hn (fun q hq => by obtain ⟨p, hp, rfl⟩ := List.mem_map.mp hq; exact sz_shQ h hp) (by rw [List.length_map]; omega), h.one]
  simp only [M.lft_ok, pure_bind]
  show strict (lft (m_Ratio___eq__ (rt 1) (.i 1))) = _
  rw [eqI]
  have : decide ((1 : Rat) = ((1 : Int) : Rat)) = true := by decide
  rw [this]
  rfl
/-- a giver as the law has it, and as it is handed in -/
structure GR (y : T3 Str (Sq Nm) Int) (x : LG) : Prop where
  a : y.a = x.a
  c : y.c = x.c
  b : SqR y.b x.b.l
theorem memB_no {a : Str} {xs : List Str} (h : a ∉ xs) : memB a xs = false := by
  cases e : memB a xs with
  | false => rfl
  | true => exact absurd (memB_iff.mp e) h
theorem seat_ok {y : T3 Str (Sq Nm) Int} {x : LG} {earlier : List Str} (h : GOk x) (r : GR y x) (hn : x.a ∉ earlier) : m_checked_seat earlier y.a y.b y.c = .ok (seatD x) := by
  have hl : y.b.xs.length = x.b.l.length := by have := r.b; unfold SqR at this; rw [this, List.length_map]
  have h4 := h.sh.four
  have h1 := h.lo
  have h2 := h.hi
  refine run_eq ?_
  unfold B_checked_seat
  rw [r.a, r.c]
  simp only [pure_bind, name_ok h.name, M.lft_ok, Bool.not_true, Bool.false_eq_true, ↓reduceIte, memB_no hn, shares_ok h.sh r.b]
  show ((((lft (m_is_integer (.int x.c))) >>= _) >>= _) >>= _) = _
  rw [isint_int]
  simp only [M.lft_ok, pure_bind, Bool.not_true, Bool.false_eq_true, ↓reduceIte]
  rw [show decide (0 ≤ x.c) = true from decide_eq_true h1]
  simp only [↓reduceIte]
  rw [show decide (x.c < (y.b.xs.length : Int)) = true from decide_eq_true (by omega)]
  simp only [pure_bind, Bool.not_true, Bool.false_eq_true, ↓reduceIte]
  rw [lcM_all (g := fun z : Nm => (⟨z.n, z.u⟩ : Rt)) (by omega) fun a ha => by
    have hb := r.b
    unfold SqR at hb
    rw [hb] at ha
    obtain ⟨p, hp, rfl⟩ := List.mem_map.mp ha
    rw [as_ok (sh_lo h.sh hp) ⟨rfl, rfl⟩ (by omega)]
    rfl]
  simp only [pure_bind]
  have e : y.b.xs.map (fun z : Nm => (⟨z.n, z.u⟩ : Rt)) = x.b.l.map mkR := by
    have hb := r.b
    unfold SqR at hb
    rw [hb, List.map_map]
    rfl
  rw [e]
  rfl
theorem seats_fold : ∀ (ys : List (T3 Str (Sq Nm) Int)) (xs : List LG) (acc : List LG), Al GR ys xs → (∀ x ∈ xs, GOk x) → ((acc ++ xs).map (·.a)).Nodup → acc.length + xs.length ≤ 100 →
    foldM (fun (p13 : (T3 Str (Sq Nm) Int)) (s12 : (List (T3 Str (VT Rt) Int))) => ((appM s12 (((pure s12) >>= fun xs16 => lcM (fun (v_seat : (T3 Str (VT Rt) Int)) => pure true) (fun (v_seat : (T3 Str (VT Rt) Int)) => ((pure v_seat) >>= fun x15 => pure x15.a)) xs16) >>= fun a17 => ((pure p13.a) >>= fun a18 => ((pure p13.b) >>= fun a19 => ((pure p13.c) >>= fun a20 => lft (m_checked_seat a17 a18 a19 a20)))))) >>= fun ys21 => pure ys21)) ys (acc.map seatD) = pure ((acc ++ xs).map seatD)
  | [], [], acc, .nil, _, _, _ => by rw [List.append_nil]; rfl
  | y :: ys, x :: xs, acc, .cons r t, h, nd, hl => by
    rw [List.length_cons] at hl
    have hx : x.a ∉ acc.map (·.a) := by
      rw [List.map_append, List.map_cons] at nd
      rw [List.nodup_append] at nd
      exact fun z => nd.2.2 _ z _ List.mem_cons_self rfl
    have ih := seats_fold ys xs (acc ++ [x]) t (fun z hz => h z (List.mem_cons_of_mem _ hz)) (by rw [List.append_assoc]; exact nd) (by rw [List.length_append, List.length_singleton]; omega)
    rw [List.append_assoc, List.singleton_append, List.map_append, List.map_singleton] at ih
    unfold foldM
    unfold appM
    simp only [pure_bind]
    rw [lcM_all (g := fun z : Seat => z.a) (by rw [List.length_map]; omega) fun a _ => rfl]
    simp only [pure_bind]
    have e : (acc.map seatD).map (fun z : Seat => z.a) = acc.map (·.a) := by rw [List.map_map]; rfl
    rw [e, seat_ok (h x List.mem_cons_self) r hx]
    simp only [M.lft_ok, pure_bind, bind_assoc]
    rw [need_T (Nat.lt_of_lt_of_le (show (acc.map seatD).length < 1000000 by rw [List.length_map]; omega) sizeLine_big)]
    simp only [pure_bind]
    unfold appM at ih
    simp only [pure_bind, bind_assoc] at ih
    exact ih
/-! ### the text of a giver -/
theorem ratio_tx {p : Int × Int} (h1 : 0 ≤ p.1) (h2 : p.1 < 10000) (h3 : 1 < p.2) (h4 : p.2 < 10000) : m_Ratio_text (mkR p) = .ok (shS p) := by
  have hs : m_Ratio___str__ (mkR p) = .ok (shS p) := by
    refine run_eq ?_
    unfold B_Ratio___str__
    simp only [pure_bind, mkR_n, mkR_u]
    rw [show decide (p.2 = 1) = false from decide_eq_false (by omega)]
    simp only [Bool.false_eq_true, ↓reduceIte]
    have big : ∀ i : Int, 0 ≤ i → i < 10000 → i.natAbs < 2 ^ 1900 := fun i a b => big1900 (by omega)
    rw [fmtI_ok (big _ h1 h2), fmtI_ok (big _ (by omega) h4)]
    have l1 := int_len h1 h2
    have l2 := int_len (by omega) h4
    have := joinM_ok [(toString p.1 : Str), ("/" : Str), (toString p.2 : Str)] Str.empty (by
      simp only [List.map_cons, List.map_nil, List.sum_cons, List.sum_nil]
      rw [show ("/" : Str).length = 1 from rfl, show Str.empty.length = 0 from rfl]
      omega)
    refine Eq.trans this ?_
    congr 1
    show Str.empty ++ _ ++ _ ++ _ = shS p
    rw [empty_app]
    rfl
  refine run_eq ?_
  unfold B_Ratio_text
  simp only [pure_bind, hs]
  rfl
theorem name_len {n : Str} (h : NameOk n) : n.length ≤ 8 := by have := h.few; omega
theorem star_len {i : Int} (h0 : 0 ≤ i) (h : i < 4) : (("*" : Str) ++ (toString i : Str)).length ≤ 5 := by
  have := int_len h0 (show i < 10000 by omega)
  rw [len_app, show ("*" : Str).length = 1 from rfl]
  omega
theorem seat_parts {x : LG} (h : GOk x) : ((x.a :: (x.b.l.map shS ++ [("*" : Str) ++ (toString x.c : Str)])).map (·.length)).sum ≤ 49 ∧ (x.a :: (x.b.l.map shS ++ [("*" : Str) ++ (toString x.c : Str)])).length ≤ 6 := by
  have h1 := name_len h.name
  have h4 := h.sh.four
  have hc := h.hi
  have h2 := star_len h.lo (show x.c < 4 by omega)
  have h3 := sum_le (fun z : Str => z.length) 9 (x.b.l.map shS) fun a ha => by
    obtain ⟨p, hp, rfl⟩ := List.mem_map.mp ha
    have t := h.sh.top p hp
    have b := h.sh.bot p hp
    exact shS_len (by omega) (by omega) (by omega) (by omega)
  rw [List.length_map] at h3
  rw [List.map_cons, List.sum_cons, List.map_append, List.sum_append, List.length_cons, List.length_append, List.length_map, List.map_singleton, List.sum_singleton, List.length_singleton]
  omega
theorem seatS_len {x : LG} (h : GOk x) : (seatS x).length ≤ 55 := by
  obtain ⟨h1, h2⟩ := seat_parts h
  have := join_len (" " : Str) (x.a :: (x.b.l.map shS ++ [("*" : Str) ++ (toString x.c : Str)]))
  rw [show (" " : Str).length = 1 from rfl] at this
  unfold seatS
  omega
theorem seat_tx {x : LG} (h : GOk x) : m_seat_text (seatD x) = .ok (seatS x) := by
  have hc := h.hi
  have h4 := h.sh.four
  obtain ⟨p1, p2⟩ := seat_parts h
  refine run_eq ?_
  unfold B_seat_text
  simp only [pure_bind]
  have hl : (seatD x).b.l.length ≤ 1000 := by show (x.b.l.map mkR).length ≤ 1000; rw [List.length_map]; omega
  rw [lcM_all (g := fun q : Rt => shS (q.n, q.u)) hl fun a ha => by
    obtain ⟨p, hp, rfl⟩ := List.mem_map.mp (show a ∈ x.b.l.map mkR from ha)
    have t := h.sh.top p hp
    have b := h.sh.bot p hp
    rw [ratio_tx (by omega) t.2 b.1 b.2]
    rfl]
  simp only [pure_bind]
  have e : (seatD x).b.l.map (fun q : Rt => shS (q.n, q.u)) = x.b.l.map shS := by
    show (x.b.l.map mkR).map _ = _
    rw [List.map_map]
    rfl
  rw [e]
  show ((((joinM [pure ("*" : Str), fmtI x.c] Str.empty) >>= _) >>= _) : M Str) = _
  have hci : x.c.natAbs < 2 ^ 1900 := big1900 (by have := h.lo; omega)
  rw [fmtI_ok hci]
  have hs := star_len h.lo (show x.c < 4 by omega)
  rw [len_app] at hs
  have := joinM_ok [("*" : Str), (toString x.c : Str)] Str.empty (by
      simp only [List.map_cons, List.map_nil, List.sum_cons, List.sum_nil]
      rw [show Str.empty.length = 0 from rfl]
      omega)
  rw [show joinM [pure ("*" : Str), pure (toString x.c : Str)] Str.empty = pure (Str.empty ++ ("*" : Str) ++ (toString x.c : Str)) from this, empty_app]
  simp only [pure_bind]
  show ((need ((x.a :: (x.b.l.map shS ++ (("*" : Str) ++ (toString x.c : Str)) :: [])).length ≤ sizeLine) >>= fun _ => pure (x.a :: (x.b.l.map shS ++ (("*" : Str) ++ (toString x.c : Str)) :: []))) >>= fun x10 => joinSM (" " : Str) x10) = _
  rw [need_le (Nat.le_trans p2 (by decide))]
  simp only [pure_bind]
  exact joinSM_ok (by rw [show (" " : Str).length = 1 from rfl]; omega)
end K42

set_option Elab.async false
set_option linter.all false
set_option maxRecDepth 100000
set_option maxHeartbeats 4000000
namespace K42
open PySem PySem.Spec PyProof.Rows L2 J N
open M
open ToD (d)
open ToDs (ds)
/-! ### paths counted -/
mutual
def np : LD → Nat
  | .s _ => 1
  | .t _ _ l => nps l
def nps : List LD → Nat
  | [] => 0
  | a :: q => np a + nps q
end
theorem nps_sum : ∀ l : List LD, nps l = (l.map np).sum
  | [] => by rw [nps]; rfl
  | a :: q => by rw [nps, nps_sum q, List.map_cons, List.sum_cons]
theorem np_t (k : Str) (g : List LG) (l : List LD) : np (.t k g l) = (l.map np).sum := by rw [np, nps_sum]
theorem sizes_ok {g : List LG} (h : ∀ x ∈ g, GOk x) : ∀ n ∈ sizesG g, 2 ≤ n ∧ n ≤ 4 := fun n hn => by
  obtain ⟨x, hx, rfl⟩ := List.mem_map.mp hn
  exact ⟨(h x hx).sh.two, (h x hx).sh.four⟩
theorem rowN_two : ∀ {ns : List Nat}, (∀ n ∈ ns, 2 ≤ n ∧ n ≤ 4) → 1 ≤ rowN ns ∧ (0 < ns.length → 2 ≤ rowN ns)
  | [], _ => ⟨Nat.le_refl _, fun h => by cases h⟩
  | n :: r, h => by
    obtain ⟨h1, h2⟩ := h n List.mem_cons_self
    obtain ⟨h3, _⟩ := rowN_two (ns := r) fun m hm => h m (List.mem_cons_of_mem _ hm)
    rw [rowN]
    have : 2 * 1 ≤ n * rowN r := Nat.mul_le_mul h1 h3
    exact ⟨by omega, fun _ => by omega⟩
theorem whole_len : ∀ (steps : List RowT) (fs : List Dr), steps.length = fs.length → (wholeP steps fs).length = (fs.map fun f => f.whole.l.length).sum
  | [], [], _ => rfl
  | a :: s, f :: r, h => by
    have ih := whole_len s r (by simpa using h)
    unfold wholeP at ih ⊢
    rw [List.zip_cons_cons, List.flatMap_cons, List.length_append, List.length_map, ih, List.map_cons, List.sum_cons]
theorem np_whole : ∀ {w : LD}, WF w → (mk w).whole.l.length = np w
  | .s n, _ => by rw [mk_s, np]; rfl
  | .t k g l, .t h1 h2 h3 h4 h5 h6 h7 h8 => by
    rw [mk_t, np_t]
    show (wholeP _ _).length = _
    rw [whole_len _ _ (by unfold rowsV; rw [List.length_map, List.length_map, rowL_len, h6]), List.map_map]
    congr 1
    exact List.map_congr_left fun w hw => np_whole (h8 w hw)
theorem sum_ge (l : List LD) (h : ∀ w ∈ l, 1 ≤ np w) : l.length ≤ (l.map np).sum := by
  induction l with
  | nil => simp
  | cons a q ih =>
    have := ih fun w hw => h w (List.mem_cons_of_mem _ hw)
    have := h a List.mem_cons_self
    rw [List.length_cons, List.map_cons, List.sum_cons]
    omega
theorem le_sum {xs : List Nat} {a : Nat} (h : a ∈ xs) : a ≤ xs.sum := by
  induction xs with
  | nil => cases h
  | cons b r ih =>
    rw [List.sum_cons]
    rcases List.mem_cons.mp h with rfl | h
    · omega
    · have := ih h
      omega
theorem np_pos : ∀ {w : LD}, WF w → 1 ≤ np w
  | .s n, _ => by rw [np]; exact Nat.le_refl _
  | .t k g l, .t h1 h2 h3 h4 h5 h6 h7 h8 => by
    have m := (rowN_two (sizes_ok h5)).2 (by unfold sizesG; rw [List.length_map]; exact h2)
    cases l with
    | nil => rw [List.length_nil] at h6; omega
    | cons a r =>
      have := np_pos (h8 a List.mem_cons_self)
      rw [np_t, List.map_cons, List.sum_cons]
      omega
theorem dps_np : ∀ {l : List LD}, (∀ w ∈ l, dp w < np w) → dps l + l.length ≤ (l.map np).sum
  | [], _ => by simp [dps]
  | a :: q, h => by
    have ih := dps_np (l := q) fun w hw => h w (List.mem_cons_of_mem _ hw)
    have h1 := h a List.mem_cons_self
    have h2 : q.length ≤ (q.map np).sum := by
      have := sum_ge q fun w hw => Nat.succ_le_of_lt (Nat.lt_of_le_of_lt (Nat.zero_le _) (h w (List.mem_cons_of_mem _ hw)))
      exact this
    rw [dps, List.length_cons, List.map_cons, List.sum_cons]
    omega
theorem dp_np : ∀ {w : LD}, WF w → dp w < np w
  | .s n, _ => by rw [np, dp]; decide
  | .t k g l, .t h1 h2 h3 h4 h5 h6 h7 h8 => by
    have m := (rowN_two (sizes_ok h5)).2 (by unfold sizesG; rw [List.length_map]; exact h2)
    have := dps_np (l := l) fun w hw => dp_np (h8 w hw)
    rw [np_t, dp]
    omega
theorem path_dp : ∀ {w : LD}, WF w → ∀ p ∈ (mk w).whole.l, p.l.length ≤ dp w
  | .s n, _, p, hp => by
    rw [mk_s] at hp
    rw [List.mem_singleton.mp (show p ∈ [(⟨[]⟩ : Path)] from hp)]
    exact Nat.zero_le _
  | .t k g l, .t h1 h2 h3 h4 h5 h6 h7 h8, p, hp => by
    rw [mk_t] at hp
    have hp : p ∈ wholeP (rowsV (sizesG g)) (l.map mk) := hp
    unfold wholeP at hp
    rw [List.mem_flatMap] at hp
    obtain ⟨⟨row, f⟩, hz, hp⟩ := hp
    obtain ⟨q, hq, rfl⟩ := List.mem_map.mp hp
    obtain ⟨w, hw, e⟩ := List.mem_map.mp (List.of_mem_zip hz).2
    dsimp only at hq
    rw [← e] at hq
    have := path_dp (h8 w hw) q hq
    have := dp_le hw
    rw [dp]
    show (row :: q.l).length ≤ _
    rw [List.length_cons]
    omega
theorem round_len {k : Str} {g : List LG} {ts : List Str} (hk : k ∈ KS) (h3 : g.length ≤ 4) (h5 : ∀ x ∈ g, GOk x) (hl : ts.length ≤ 16) : (roundS k g ts).length ≤ 238 + 2 * ts.length + (ts.map (·.length)).sum ∧ k.length ≤ 6 ∧ (Txt.join (", " : Str) (g.map seatS)).length ≤ 228 ∧ (Txt.join (", " : Str) ts).length ≤ (ts.map (·.length)).sum + ts.length * 2 := by
  have a1 : k.length ≤ 6 := by
    have all : ∀ k ∈ KS, k.length ≤ 6 := by decide
    exact all k hk
  have a2 := join_len (", " : Str) (g.map seatS)
  have a3 := join_len (", " : Str) ts
  have a4 := sum_le (fun z : Str => z.length) 55 (g.map seatS) fun a ha => by
    obtain ⟨x, hx, rfl⟩ := List.mem_map.mp ha
    exact seatS_len (h5 x hx)
  rw [show (", " : Str).length = 2 from rfl] at a2 a3
  rw [List.length_map] at a2 a4
  have a5 : (Txt.join (", " : Str) (g.map seatS)).length ≤ 228 := by omega
  refine ⟨?_, a1, a5, a3⟩
  unfold roundS
  rw [len_app, len_app, len_app, len_app, len_app, show ("(" : Str).length = 1 from rfl, show ("; " : Str).length = 2 from rfl, show (")" : Str).length = 1 from rfl]
  omega
theorem sum_lin {α : Type} (f g : α → Nat) (c k : Nat) : ∀ xs : List α, (∀ a ∈ xs, f a + c ≤ k * g a) → (xs.map f).sum + c * xs.length ≤ k * (xs.map g).sum
  | [], _ => by simp
  | a :: r, h => by
    have ih := sum_lin f g c k r fun b hb => h b (List.mem_cons_of_mem _ hb)
    have h1 := h a List.mem_cons_self
    rw [List.map_cons, List.sum_cons, List.map_cons, List.sum_cons, List.length_cons, Nat.mul_succ, Nat.mul_add]
    omega
theorem txt_len : ∀ {w : LD}, WF w → (txt w).length + 262 ≤ 300 * np w
  | .s n, .s h => by
    have := name_len h
    rw [np, txt]
    omega
  | .t k g l, .t h1 h2 h3 h4 h5 h6 h7 h8 => by
    have ih := sum_lin (fun w => (txt w).length) np 262 300 l fun w hw => txt_len (h8 w hw)
    have r := (round_len (ts := l.map txt) h1 h3 h5 (by rw [List.length_map]; omega)).1
    have m := (rowN_two (sizes_ok h5)).2 (by unfold sizesG; rw [List.length_map]; exact h2)
    rw [List.length_map, List.map_map] at r
    rw [txt_t, np_t]
    have e : (l.map ((fun z : Str => z.length) ∘ txt)).sum = (l.map fun w => (txt w).length).sum := rfl
    rw [e] at r
    omega
/-! ### an end, a round -/
theorem end_ok {n : Str} (h : NameOk n) : newEnd n = .ok (mk (.s n)) := by
  have e : m_End___init__ n = .ok (mk (.s n)) := by
    refine run_eq ?_
    unfold B_End___init__
    simp only [pure_bind, name_ok h, M.lft_ok, Bool.not_true, Bool.false_eq_true, ↓reduceIte]
    rw [mk_s]
  unfold newEnd
  rw [e, mk_s]
  rfl
theorem givers_ok {q : Sq (T3 Str (Sq Nm) Int)} (h1 : 0 < q.xs.length) (h2 : q.xs.length ≤ 4) : m_are_givers q = .ok true := by
  refine run_eq ?_
  unfold B_are_givers
  simp only [pure_bind, listed_q, M.lft_ok, Bool.not_true, Bool.false_eq_true, ↓reduceIte]
  rw [show decide ((0 : Int) < (q.xs.length : Int)) = true from decide_eq_true (by omega)]
  simp only [↓reduceIte]
  rw [show decide ((q.xs.length : Int) < 5) = true from decide_eq_true (by omega)]
  simp only [pure_bind, Bool.not_true, Bool.false_eq_true, ↓reduceIte]
  rw [lcM_all (g := fun _ => true) (by omega) fun a _ => by rw [decide_eq_true trivial]]
  simp only [pure_bind]
  congr 1
  rw [List.all_map, List.all_eq_true]
  exact fun _ _ => rfl
theorem text_ok (w : LD) : m_Draw_text (mk w) = .ok (txt w) := by
  refine run_eq ?_
  unfold B_Draw_text
  simp only [pure_bind]
  unfold Dr.words?
  rw [mk_words]
  rfl
theorem sqr_len {q : Sq (T3 Str (Sq Nm) Int)} {g : List LG} (h : Al GR q.xs g) : q.xs.length = g.length := h.len
theorem memKS {k : Str} (h : k ∈ KS) : memB k [("open" : Str), ("sealed" : Str), ("held" : Str), ("last" : Str)] = true := memB_iff.mpr h
theorem round_ok {k : Str} {g : List LG} {l : List LD} {q : Sq (T3 Str (Sq Nm) Int)} (hw : WF (.t k g l)) (hn : np (.t k g l) ≤ 5000) (hq : Al GR q.xs g) : newRound k q (l.map mk) = .ok (mk (.t k g l)) := by
  cases hw with
  | t h1 h2 h3 h4 h5 h6 h7 h8 =>
  have hs := sizes_ok h5
  have hlen := hq.len
  rw [np_t] at hn
  have hT : ((l.map txt).map (·.length)).sum ≤ 1500000 := by
    rw [List.map_map]
    have := sum_lin (fun w => (txt w).length) np 262 300 l fun w hw => txt_len (h8 w hw)
    have e : (l.map ((fun z : Str => z.length) ∘ txt)).sum = (l.map fun w => (txt w).length).sum := rfl
    rw [e]
    omega
  have hr := round_len (ts := l.map txt) h1 h3 h5 (by rw [List.length_map]; omega)
  rw [List.length_map] at hr
  obtain ⟨r1, r2, r3, r4⟩ := hr
  have hsteps : (rowsV (sizesG g)).length = l.length := by unfold rowsV; rw [List.length_map, rowL_len, h6]
  have hwh : (wholeP (rowsV (sizesG g)) (l.map mk)).length ≤ 5000 := by
    rw [whole_len _ _ (by rw [List.length_map, hsteps]), List.map_map]
    have : (l.map ((fun f : Dr => f.whole.l.length) ∘ mk)) = l.map np := List.map_congr_left fun w hw => np_whole (h8 w hw)
    rw [this]
    exact hn
  have e : m_Round___init__ k q (l.map mk) = .ok (mk (.t k g l)) := by
    refine run_eq ?_
    unfold B_Round___init__
    have sf := seats_fold q.xs g [] hq h5 (by simpa using h4) (by simp; omega)
    simp only [pure_bind, List.map_nil, List.nil_append] at sf
    simp only [pure_bind, Bool.not_true, Bool.false_eq_true, ↓reduceIte]
    rw [memKS h1]
    simp only [pure_bind, Bool.not_true, Bool.false_eq_true, ↓reduceIte]
    rw [givers_ok (by omega) (by omega)]
    simp only [pure_bind, M.lft_ok, Bool.not_true, Bool.false_eq_true, ↓reduceIte]
    rw [sf]
    simp only [pure_bind]
    rw [lcM_all (g := fun z : Seat => ((z.b.l.length : Nat) : Int)) (by rw [List.length_map]; omega) fun a _ => rfl]
    simp only [pure_bind]
    have es : (g.map seatD).map (fun z : Seat => ((z.b.l.length : Nat) : Int)) = (sizesG g).map fun (n : Nat) => (n : Int) := by
      unfold sizesG
      rw [List.map_map, List.map_map]
      refine List.map_congr_left fun x _ => ?_
      show (((x.b.l.map mkR).length : Nat) : Int) = _
      rw [List.length_map]
      rfl
    rw [es, rows_ok (fun n hn => ⟨by have := (hs n hn).1; omega, (hs n hn).2⟩) (by unfold sizesG; rw [List.length_map]; omega) (by omega)]
    simp only [pure_bind, M.lft_ok]
    rw [show decide (((rowsV (sizesG g)).length : Int) > 16) = false from decide_eq_false (by rw [hsteps]; omega)]
    simp only [Bool.false_eq_true, ↓reduceIte, listed_l, M.lft_ok, pure_bind, Bool.not_true]
    rw [show decide (((l.map mk).length : Int) = ((rowsV (sizesG g)).length : Int)) = true from decide_eq_true (by rw [hsteps, List.length_map])]
    simp only [Bool.not_true, Bool.false_eq_true, ↓reduceIte]
    rw [lcM_all (g := fun _ => true) (by rw [List.length_map]; omega) fun a _ => rfl]
    simp only [pure_bind]
    rw [show ((l.map mk).map fun _ => true).all id = true by rw [List.all_map, List.all_eq_true]; exact fun _ _ => rfl]
    simp only [Bool.not_true, Bool.false_eq_true, ↓reduceIte]
    rw [lcM_all (g := fun z : Seat => seatS ⟨z.a, ⟨z.b.l.map fun r => (r.n, r.u)⟩, z.c⟩) (by rw [List.length_map]; omega) fun a ha => by
      obtain ⟨x, hx, rfl⟩ := List.mem_map.mp ha
      rw [seat_tx (h5 x hx)]
      have : (x.b.l.map mkR).map (fun r : Rt => (r.n, r.u)) = x.b.l := by rw [List.map_map]; exact (List.map_congr_left fun _ _ => rfl).trans (List.map_id _)
      show (pure (seatS x) : M Str) = pure (seatS ⟨x.a, ⟨(x.b.l.map mkR).map fun r => (r.n, r.u)⟩, x.c⟩)
      rw [this]]
    simp only [pure_bind]
    have et : (g.map seatD).map (fun z : Seat => seatS ⟨z.a, ⟨z.b.l.map fun r => (r.n, r.u)⟩, z.c⟩) = g.map seatS := by
      rw [List.map_map]
      refine List.map_congr_left fun x _ => ?_
      have : (x.b.l.map mkR).map (fun r : Rt => (r.n, r.u)) = x.b.l := by rw [List.map_map]; exact (List.map_congr_left fun _ _ => rfl).trans (List.map_id _)
      show seatS ⟨x.a, ⟨(x.b.l.map mkR).map fun r => (r.n, r.u)⟩, x.c⟩ = seatS x
      rw [this]
    rw [et, joinSM_ok (by
      have := sum_le (fun z : Str => z.length) 55 (g.map seatS) fun a ha => by
        obtain ⟨x, hx, rfl⟩ := List.mem_map.mp ha
        exact seatS_len (h5 x hx)
      rw [List.length_map] at this
      rw [List.length_map, show (", " : Str).length = 2 from rfl]
      omega)]
    simp only [pure_bind]
    rw [lcM_all (g := fun z : Dr => z.words) (by rw [List.length_map]; omega) fun a ha => by
      obtain ⟨x, hx, rfl⟩ := List.mem_map.mp ha
      rw [text_ok, mk_words]
      rfl]
    simp only [pure_bind]
    have ew : (l.map mk).map (fun z : Dr => z.words) = l.map txt := by
      rw [List.map_map]
      exact List.map_congr_left fun x _ => mk_words x
    rw [ew, joinSM_ok (by rw [List.length_map, show (", " : Str).length = 2 from rfl]; omega)]
    simp only [pure_bind]
    rw [lc2M_all (ys := fun p57 : RowT × Dr => unopt (Dr.whole? p57.2) >>= fun x59 => pure x59.l) (f := fun (p57 : RowT × Dr) (v_path : Path) => (need ((p57.1 :: (v_path.l ++ ([] : List RowT))).length ≤ sizeLine)) >>= fun _ => pure (VT.mk (p57.1 :: (v_path.l ++ ([] : List RowT))))) (Y := fun p : RowT × Dr => p.2.whole.l) (g := fun (p : RowT × Dr) (c : Path) => (VT.mk (p.1 :: (c.l ++ [])) : Path)) (fun a _ => rfl) (fun a ha b hb => by
      have hlb : b.l.length ≤ 5000 := by
        obtain ⟨w, hw, e⟩ := List.mem_map.mp (List.of_mem_zip (show (a.1, a.2) ∈ _ from ha)).2
        rw [← e] at hb
        have h9 := path_dp (h8 w hw) b hb
        have h10 := dp_np (h8 w hw)
        have h11 : np w ≤ (l.map np).sum := le_sum (List.mem_map.mpr ⟨w, hw, rfl⟩)
        omega
      rw [need_le (by rw [List.length_cons, List.length_append, List.length_nil]; omega)]
      rfl) (by
        have : ((rowsV (sizesG g)).zip (l.map mk)).flatMap (fun p : RowT × Dr => p.2.whole.l.map fun c => (VT.mk (p.1 :: (c.l ++ [])) : Path)) = wholeP (rowsV (sizesG g)) (l.map mk) := by
          unfold wholeP
          simp only [List.append_nil]
        rw [this]
        omega)]
    simp only [pure_bind]
    rw [fmtS_ok (by omega), fmtS_ok (by omega), fmtS_ok (by omega)]
    have jm := joinM_ok [k, ("(" : Str), Txt.join (", " : Str) (g.map seatS), ("; " : Str), Txt.join (", " : Str) (l.map txt), (")" : Str)] Str.empty (by
      simp only [List.map_cons, List.map_nil, List.sum_cons, List.sum_nil]
      rw [show ("(" : Str).length = 1 from rfl, show ("; " : Str).length = 2 from rfl, show (")" : Str).length = 1 from rfl, show Str.empty.length = 0 from rfl]
      omega)
    rw [show joinM [pure k, pure ("(" : Str), pure (Txt.join (", " : Str) (g.map seatS)), pure ("; " : Str), pure (Txt.join (", " : Str) (l.map txt)), pure (")" : Str)] Str.empty = pure (Str.empty ++ k ++ ("(" : Str) ++ Txt.join (", " : Str) (g.map seatS) ++ ("; " : Str) ++ Txt.join (", " : Str) (l.map txt) ++ (")" : Str)) from jm, empty_app]
    simp only [pure_bind, List.append_nil]
    rw [mk_t]
    rfl
  unfold newRound
  rw [e, mk_t]
  rfl
end K42

set_option Elab.async false
set_option linter.all false
set_option maxRecDepth 100000
set_option maxHeartbeats 4000000
namespace K42
open PySem PySem.Spec PyProof.Rows L2 J N
open M
open ToD (d)
open ToDs (ds)
/-! ### long lists -/
theorem lcM_pull {α β : Type} {t : α → Bool} {T : α → M Bool} {g : α → β} {f : α → M β} {xs : List α} (h : xs.length ≤ 16777216) (hT : ∀ a ∈ xs, T a = pure (t a)) (hf : ∀ a ∈ xs, f a = pure (g a)) : lcM T f xs = pure ((xs.filter t).map g) := by
  unfold lcM
  rw [need_le h]
  simp only [pure_bind]
  rw [lcA_fil xs [] hT hf, List.nil_append]
theorem lcM_big {α β : Type} {g : α → β} {f : α → M β} {xs : List α} (h : xs.length ≤ 16777216) (hf : ∀ a ∈ xs, f a = pure (g a)) : lcM (fun _ => pure true) f xs = pure (xs.map g) := by
  have := lcM_pull (t := fun _ => true) (T := fun _ => pure true) h (fun _ _ => rfl) hf
  rw [this, List.filter_eq_self.mpr fun _ _ => rfl]
theorem addS16 {a b : Str} (h : a.length + b.length ≤ 16777216) : addS a b = pure (a ++ b) := by
  unfold addS
  rw [need_le h]
  rfl
theorem catM16 {α : Type} {a b : List α} (h : a.length + b.length ≤ 16777216) : catM a b = pure (a ++ b) := by
  unfold catM
  rw [need_le h]
  rfl
theorem appM_ok {α : Type} {xs : List α} {m : M α} {a : α} (h : m = pure a) (hl : xs.length ≤ 1000000) : appM xs m = pure (xs ++ [a]) := by
  unfold appM
  rw [h]
  simp only [pure_bind]
  rw [need_T (Nat.lt_of_lt_of_le (show xs.length < 16777216 by omega) size16)]
  rfl
/-- a loop that appends -/
theorem fold_app {ι α : Type} {body : ι → List α → M (List α)} {g : ι → α} : ∀ (xs : List ι) (acc : List α), (∀ x ∈ xs, ∀ s : List α, s.length ≤ 1000000 → body x s = pure (s ++ [g x])) → acc.length + xs.length ≤ 1000000 → foldM body xs acc = pure (acc ++ xs.map g)
  | [], acc, _, _ => by unfold foldM; simp
  | x :: r, acc, h, hl => by
    rw [List.length_cons] at hl
    unfold foldM
    rw [h x List.mem_cons_self acc (by omega)]
    simp only [pure_bind]
    rw [fold_app r _ (fun y hy => h y (List.mem_cons_of_mem _ hy)) (by rw [List.length_append, List.length_singleton]; omega)]
    simp
theorem l16 {k : Str} {g : List LG} {l : List LD} (h : WF (.t k g l)) : l.length ≤ 16 ∧ 2 ≤ l.length := by
  cases h with
  | t h1 h2 h3 h4 h5 h6 h7 h8 =>
  have m := (rowN_two (sizes_ok h5)).2 (by unfold sizesG; rw [List.length_map]; exact h2)
  omega
theorem kid_np {k : Str} {g : List LG} {l : List LD} {w : LD} (h : w ∈ l) (hn : np (.t k g l) ≤ 5000) : np w ≤ 5000 := by
  have : np w ≤ (l.map np).sum := le_sum (List.mem_map.mpr ⟨w, h, rfl⟩)
  rw [np_t] at hn
  omega
theorem sumT {l : List LD} (h8 : ∀ w ∈ l, WF w) (hn : (l.map np).sum ≤ 5000) : ((l.map txt).map (·.length)).sum ≤ 1500000 := by
  rw [List.map_map]
  have := sum_lin (fun w => (txt w).length) np 262 300 l fun w hw => txt_len (h8 w hw)
  have e : (l.map ((fun z : Str => z.length) ∘ txt)).sum = (l.map fun w => (txt w).length).sum := rfl
  rw [e]
  omega
/-! ### the law's own text, the draw made of the law's -/
theorem co_sh (l : List (Int × Int)) : SqR (Co.co (l.map mkR) : Sq Nm) l := by
  show ((l.map mkR).map (Co.co (β := Nm))) = _
  rw [List.map_map]
  rfl
theorem al_map {α β γ : Type} {R : β → γ → Prop} {f : α → β} {g : α → γ} (h : ∀ a, R (f a) (g a)) : ∀ l : List α, Al R (l.map f) (l.map g)
  | [] => .nil
  | a :: r => .cons (h a) (al_map h r)
def givL (x : LG) : T3 Str (List Rt) Int := ⟨x.a, x.b.l.map mkR, x.c⟩
theorem co_giv (g : List LG) : Al GR (Co.co (g.map givL) : Sq (T3 Str (Sq Nm) Int)).xs g := by
  show Al GR ((g.map givL).map (Co.co (β := T3 Str (Sq Nm) Int))) g
  rw [List.map_map]
  have := al_map (R := GR) (f := (Co.co (β := T3 Str (Sq Nm) Int)) ∘ givL) (g := id) (fun x => ⟨rfl, rfl, co_sh x.b.l⟩) g
  rw [List.map_id] at this
  exact this
/-- .. as a round tells its givers -/
theorem co_seat (g : List LG) : Al GR (Co.co (VT.mk (g.map seatD)) : Sq (T3 Str (Sq Nm) Int)).xs g := by
  show Al GR ((g.map seatD).map (Co.co (β := T3 Str (Sq Nm) Int))) g
  rw [List.map_map]
  have := al_map (R := GR) (f := (Co.co (β := T3 Str (Sq Nm) Int)) ∘ seatD) (g := id) (fun x => ⟨rfl, rfl, by
    show ((x.b.l.map mkR).map (Co.co (β := Nm))) = _
    rw [List.map_map]
    rfl⟩) g
  rw [List.map_id] at this
  exact this
theorem lcA_map {α β γ : Type} {h : γ → α} {t : γ → Bool} {g : γ → β} {T : α → M Bool} {f : α → M β} : ∀ (xs : List γ) (acc : List β), (∀ c ∈ xs, T (h c) = pure (t c)) → (∀ c ∈ xs, t c = true → f (h c) = pure (g c)) → lcA T f acc (xs.map h) = pure (acc ++ (xs.filter t).map g)
  | [], acc, _, _ => by rw [List.map_nil]; unfold lcA; simp
  | a :: r, acc, hT, hf => by
    rw [List.map_cons]
    unfold lcA
    rw [hT a List.mem_cons_self]
    simp only [strict_pure, pure_bind]
    have h1 := fun b hb => hT b (List.mem_cons_of_mem a hb)
    have h2 := fun b hb => hf b (List.mem_cons_of_mem a hb)
    cases e : t a with
    | true =>
      rw [ifTT, hf a List.mem_cons_self e]
      simp only [strict_pure, pure_bind]
      rw [lcA_map r _ h1 h2, List.filter_cons, if_pos e]
      simp
    | false =>
      rw [ifFF, lcA_map r _ h1 h2, List.filter_cons, if_neg (by rw [e]; exact Bool.false_ne_true)]
theorem lcM_mapF {α β γ : Type} {h : γ → α} {t : γ → Bool} {g : γ → β} {T : α → M Bool} {f : α → M β} {xs : List γ} (hl : xs.length ≤ 16777216) (hT : ∀ c ∈ xs, T (h c) = pure (t c)) (hf : ∀ c ∈ xs, t c = true → f (h c) = pure (g c)) : lcM T f (xs.map h) = pure ((xs.filter t).map g) := by
  unfold lcM
  rw [need_le (by rw [List.length_map]; exact hl)]
  simp only [pure_bind]
  rw [lcA_map xs [] hT hf, List.nil_append]
theorem lcM_map {α β γ : Type} {h : γ → α} {g : γ → β} {f : α → M β} {xs : List γ} (hl : xs.length ≤ 16777216) (hf : ∀ c ∈ xs, f (h c) = pure (g c)) : lcM (fun _ => pure true) f (xs.map h) = pure (xs.map g) := by
  have e := lcM_mapF (h := h) (t := fun _ => true) (g := g) (T := fun _ => pure true) (f := f) (xs := xs) hl (fun _ _ => rfl) (fun c hc _ => hf c hc)
  rw [List.filter_eq_self.mpr fun _ _ => rfl] at e
  exact e
theorem az_ok {n : Str} (h : ∀ c ∈ TL.tl n, 97 ≤ c ∧ c ≤ 122) : PyV.ok n := fun c hc => by
  have := h c hc
  omega
theorem getM_zero {α : Type} {a : α} {q : List α} : getM (a :: q) 0 = pure a := getM_nat (n := 0) rfl (by decide)
theorem memB_dec {a : Str} {xs : List Str} : memB a xs = decide (a ∈ xs) := by
  rw [Bool.eq_iff_iff, memB_iff, decide_eq_true_eq]
theorem filter_first {α : Type} {f : α → Bool} {p : α} : ∀ {l : List α}, l.find? f = some p → ∃ r, l.filter f = p :: r
  | [], h => by cases h
  | a :: q, h => by
    rw [List.find?_cons] at h
    rw [List.filter_cons]
    by_cases e : f a = true
    · rw [e] at h
      cases h
      rw [if_pos e]
      exact ⟨_, rfl⟩
    · rw [Bool.eq_false_iff.mpr e] at h
      rw [if_neg e]
      exact filter_first h
end K42

set_option Elab.async false
set_option linter.all false
set_option maxRecDepth 100000
set_option maxHeartbeats 4000000
namespace K42
open PySem PySem.Spec PyProof.Rows L2 J N
open M
open ToD (d)
open ToDs (ds)
/-! ### what is drawn from a tape -/
def TriT {α : Type} (m : M α) (P : α → Prop) : Prop := ∀ s : Bx, InvT s → ∃ a s', m s = (s', .ok a) ∧ P a ∧ InvT s'
theorem tt_pure {α : Type} {a : α} {P : α → Prop} (h : P a) : TriT (pure a) P := fun s hi => ⟨a, s, rfl, h, hi⟩
theorem tt_bind {α β : Type} {m : M α} {f : α → M β} {P : α → Prop} {Q : β → Prop} (h1 : TriT m P) (h2 : ∀ a, P a → TriT (f a) Q) : TriT (m >>= f) Q := fun s hi => by
  obtain ⟨a, s1, e1, p, i1⟩ := h1 s hi
  obtain ⟨c, s2, e2, q, i2⟩ := h2 a p s1 i1
  exact ⟨c, s2, by rw [M.bind_def, e1]; exact e2, q, i2⟩
theorem tt_pick {β : Type} {m : Int} {f : Int → M β} {Q : β → Prop} (hm : 0 < m) (hm2 : m < 10 ^ 40) (h2 : ∀ a, 0 ≤ a → a < m → TriT (f a) Q) : TriT (pickM m >>= f) Q :=
  tt_bind (P := fun r => 0 ≤ r ∧ r < m) (fun s hi => by
    obtain ⟨r, s', e, a, b, c⟩ := pick_ok hi hm hm2
    exact ⟨r, s', e, ⟨a, b⟩, c⟩) fun a h => h2 a h.1 h.2
theorem tt_w {α : Type} {m : M α} {P Q : α → Prop} (h : TriT m P) (hq : ∀ a, P a → Q a) : TriT m Q := fun s hi => by
  obtain ⟨a, s', e, p, i⟩ := h s hi
  exact ⟨a, s', e, hq a p, i⟩
theorem tt_fold {ι S : Type} {body : ι → S → M S} {I : Nat → S → Prop} : ∀ (xs : List ι) (i : Nat) (s : S), (∀ a ∈ xs, ∀ j s, j < i + xs.length → I j s → TriT (body a s) (I (j + 1))) → I i s → TriT (foldM body xs s) (I (i + xs.length))
  | [], i, s, _, h => tt_pure h
  | a :: r, i, s, hb, h => by
    unfold foldM
    refine tt_bind (hb a List.mem_cons_self i s (by rw [List.length_cons]; omega) h) fun s' h' => ?_
    have := tt_fold r (i + 1) s' (fun b hb' j s hj => hb b (List.mem_cons_of_mem _ hb') j s (by rw [List.length_cons]; omega)) h'
    rw [List.length_cons, show i + (r.length + 1) = i + 1 + r.length by omega]
    exact this
/-! ### a draw for a family of sets -/
def half2 : VT (Int × Int) := ⟨[(1, 2), (1, 2)]⟩
def fairL (p : Str) (a b : LD) : LD := .t "open" [⟨p, half2, 0⟩] [a, b]
def firstIn (people : List Str) (sets : List (List Str)) : Option Str := people.find? fun n => sets.any fun l => decide (n ∈ l)
def df : Nat → List Str → List (List Str) → LD
  | 0, _, _ => .s "no"
  | n + 1, people, sets => if sets = [] then .s "no" else if [] ∈ sets then .s "yes" else match firstIn people sets with
    | none => .s "no"
    | some p => fairL p (df n people (sets.filter fun l => decide (p ∉ l))) (df n people (sets.map fun l => l.filter fun x => decide (x ≠ p)))
/-- a set of people forces yes -/
def yesL (who : List Str) : LD → Bool
  | .s n => decide (n = "yes")
  | .t _ (g :: _) [a, b] => if g.a ∈ who then yesL who a || yesL who b else yesL who a && yesL who b
  | _ => false
/-- the people that stand in the sets -/
def live (people : List Str) (sets : List (List Str)) : Nat := (people.filter fun n => sets.any fun l => decide (n ∈ l)).length
def due (who : List Str) (sets : List (List Str)) : Bool := sets.any fun l => l.all fun x => decide (x ∈ who)
theorem find_live {people : List Str} {sets : List (List Str)} (h1 : sets ≠ []) (h2 : [] ∉ sets) (h3 : ∀ l ∈ sets, ∀ x ∈ l, x ∈ people) : ∃ p, firstIn people sets = some p ∧ p ∈ people ∧ ∃ l ∈ sets, p ∈ l := by
  cases e : firstIn people sets with
  | some p =>
    refine ⟨p, rfl, List.mem_of_find?_eq_some e, ?_⟩
    have := List.find?_some e
    obtain ⟨l, hl, hp⟩ := List.any_eq_true.mp this
    exact ⟨l, hl, of_decide_eq_true hp⟩
  | none =>
    exfalso
    cases sets with
    | nil => exact h1 rfl
    | cons l r =>
      cases l with
      | nil => exact h2 List.mem_cons_self
      | cons x t =>
        have hx := h3 (x :: t) List.mem_cons_self x List.mem_cons_self
        have := List.find?_eq_none.mp e x hx
        exact this (List.any_eq_true.mpr ⟨x :: t, List.mem_cons_self, decide_eq_true List.mem_cons_self⟩)
theorem filter_lt {α : Type} {p q : α → Bool} {x : α} : ∀ {l : List α}, (∀ a ∈ l, q a = true → p a = true) → x ∈ l → p x = true → q x = false → (l.filter q).length < (l.filter p).length
  | [], _, h, _, _ => nomatch h
  | a :: r, hs, hx, hp, hq => by
    have le : ∀ {l : List α}, (∀ a ∈ l, q a = true → p a = true) → (l.filter q).length ≤ (l.filter p).length := fun {l} => by
      induction l with
      | nil => intro _; exact Nat.le_refl _
      | cons b t ih =>
        intro hs
        have := ih fun c hc => hs c (List.mem_cons_of_mem _ hc)
        rw [List.filter_cons, List.filter_cons]
        by_cases e : q b = true
        · rw [if_pos e, if_pos (hs b List.mem_cons_self e), List.length_cons, List.length_cons]
          omega
        · rw [if_neg e]
          split
          · rw [List.length_cons]; omega
          · exact this
    rw [List.filter_cons, List.filter_cons]
    rcases List.mem_cons.mp hx with rfl | hx
    · rw [if_pos hp, hq, if_neg Bool.false_ne_true, List.length_cons]
      exact Nat.lt_succ_of_le (le fun c hc => hs c (List.mem_cons_of_mem _ hc))
    · have ih := filter_lt (fun c hc => hs c (List.mem_cons_of_mem _ hc)) hx hp hq
      by_cases e : q a = true
      · rw [if_pos e, if_pos (hs a List.mem_cons_self e), List.length_cons, List.length_cons]
        omega
      · rw [if_neg e]
        split
        · rw [List.length_cons]; omega
        · exact ih
theorem live_without {people : List Str} {sets : List (List Str)} {p : Str} (hp : p ∈ people) (hl : ∃ l ∈ sets, p ∈ l) : live people (sets.filter fun l => decide (p ∉ l)) < live people sets := by
  unfold live
  refine filter_lt (x := p) (fun a _ h => ?_) hp ?_ ?_
  · obtain ⟨l, hl, h2⟩ := List.any_eq_true.mp h
    exact List.any_eq_true.mpr ⟨l, (List.mem_filter.mp hl).1, h2⟩
  · obtain ⟨l, h1, h2⟩ := hl
    exact List.any_eq_true.mpr ⟨l, h1, decide_eq_true h2⟩
  · refine Bool.eq_false_iff.mpr fun h => ?_
    obtain ⟨l, hl, h2⟩ := List.any_eq_true.mp h
    exact of_decide_eq_true (List.mem_filter.mp hl).2 (of_decide_eq_true h2)
theorem live_less {people : List Str} {sets : List (List Str)} {p : Str} (hp : p ∈ people) (hl : ∃ l ∈ sets, p ∈ l) : live people (sets.map fun l => l.filter fun x => decide (x ≠ p)) < live people sets := by
  unfold live
  refine filter_lt (x := p) (fun a _ h => ?_) hp ?_ ?_
  · obtain ⟨l, hl, h2⟩ := List.any_eq_true.mp h
    obtain ⟨m, hm, rfl⟩ := List.mem_map.mp hl
    exact List.any_eq_true.mpr ⟨m, hm, decide_eq_true (List.mem_filter.mp (of_decide_eq_true h2)).1⟩
  · obtain ⟨l, h1, h2⟩ := hl
    exact List.any_eq_true.mpr ⟨l, h1, decide_eq_true h2⟩
  · refine Bool.eq_false_iff.mpr fun h => ?_
    obtain ⟨l, hl, h2⟩ := List.any_eq_true.mp h
    obtain ⟨m, hm, rfl⟩ := List.mem_map.mp hl
    exact of_decide_eq_true (List.mem_filter.mp (of_decide_eq_true h2)).2 rfl
theorem df_yes (who people : List Str) : ∀ (n : Nat) (sets : List (List Str)), live people sets < n → (∀ l ∈ sets, ∀ x ∈ l, x ∈ people) → yesL who (df n people sets) = due who sets
  | 0, _, h, _ => absurd h (Nat.not_lt_zero _)
  | n + 1, sets, h, hp => by
    rw [df]
    by_cases h1 : sets = []
    · rw [if_pos h1, h1, yesL]
      rfl
    · rw [if_neg h1]
      by_cases h2 : [] ∈ sets
      · rw [if_pos h2, yesL]
        exact ((decide_eq_true rfl : decide ((("yes" : Str)) = "yes") = true)).trans (List.any_eq_true.mpr ⟨[], h2, rfl⟩).symm
      · rw [if_neg h2]
        obtain ⟨p, e, pp, pl⟩ := find_live h1 h2 hp
        rw [e]
        dsimp only
        unfold fairL
        rw [yesL]
        have a := df_yes who people n (sets.filter fun l => decide (p ∉ l)) (by have := live_without pp pl; omega) fun l hl => hp l (List.mem_filter.mp hl).1
        have b := df_yes who people n (sets.map fun l => l.filter fun x => decide (x ≠ p)) (by have := live_less pp pl; omega) fun l hl x hx => by
          obtain ⟨m, hm, rfl⟩ := List.mem_map.mp hl
          exact hp m hm x (List.mem_filter.mp hx).1
        rw [a, b]
        have dA : due who (sets.filter fun l => decide (p ∉ l)) = true ↔ ∃ l ∈ sets, p ∉ l ∧ ∀ x ∈ l, x ∈ who := by
          unfold due
          rw [List.any_eq_true]
          constructor
          · rintro ⟨l, hl, hw⟩
            obtain ⟨m1, m2⟩ := List.mem_filter.mp hl
            exact ⟨l, m1, of_decide_eq_true m2, fun x hx => of_decide_eq_true (List.all_eq_true.mp hw x hx)⟩
          · rintro ⟨l, hl, q, hw⟩
            exact ⟨l, List.mem_filter.mpr ⟨hl, decide_eq_true q⟩, List.all_eq_true.mpr fun x hx => decide_eq_true (hw x hx)⟩
        have dB : due who (sets.map fun l => l.filter fun x => decide (x ≠ p)) = true ↔ ∃ l ∈ sets, ∀ x ∈ l, x ≠ p → x ∈ who := by
          unfold due
          rw [List.any_eq_true]
          constructor
          · rintro ⟨l, hl, hw⟩
            obtain ⟨m, hm, rfl⟩ := List.mem_map.mp hl
            exact ⟨m, hm, fun x hx ne => of_decide_eq_true (List.all_eq_true.mp hw x (List.mem_filter.mpr ⟨hx, decide_eq_true ne⟩))⟩
          · rintro ⟨l, hl, hw⟩
            refine ⟨_, List.mem_map.mpr ⟨l, hl, rfl⟩, List.all_eq_true.mpr fun x hx => ?_⟩
            obtain ⟨m1, m2⟩ := List.mem_filter.mp hx
            exact decide_eq_true (hw x m1 (of_decide_eq_true m2))
        have dC : due who sets = true ↔ ∃ l ∈ sets, ∀ x ∈ l, x ∈ who := by
          unfold due
          rw [List.any_eq_true]
          exact ⟨fun ⟨l, hl, hw⟩ => ⟨l, hl, fun x hx => of_decide_eq_true (List.all_eq_true.mp hw x hx)⟩, fun ⟨l, hl, hw⟩ => ⟨l, hl, List.all_eq_true.mpr fun x hx => decide_eq_true (hw x hx)⟩⟩
        rw [Bool.eq_iff_iff, dC]
        by_cases hw : p ∈ who
        · rw [if_pos hw, Bool.or_eq_true, dA, dB]
          constructor
          · rintro (⟨l, hl, _, q⟩ | ⟨l, hl, q⟩)
            · exact ⟨l, hl, q⟩
            · refine ⟨l, hl, fun x hx => ?_⟩
              by_cases e : x = p
              · rw [e]; exact hw
              · exact q x hx e
          · rintro ⟨l, hl, q⟩
            exact .inr ⟨l, hl, fun x hx _ => q x hx⟩
        · rw [if_neg hw, Bool.and_eq_true, dA, dB]
          constructor
          · rintro ⟨⟨l, hl, _, q⟩, _⟩
            exact ⟨l, hl, q⟩
          · rintro ⟨l, hl, q⟩
            exact ⟨⟨l, hl, fun z => hw (q p z), q⟩, ⟨l, hl, fun x hx _ => q x hx⟩⟩
end K42

set_option Elab.async false
set_option linter.all false
set_option maxRecDepth 100000
set_option maxHeartbeats 4000000
namespace K42
open PySem PySem.Spec PyProof.Rows L2 J N
open M
open ToD (d)
open ToDs (ds)
/-! ### the draw for a family is well made -/
theorem const_name {s : Str} (h : (decide (0 < s.length) && (decide (s.length < 9) && (TL.tl s).all fun c => decide (97 ≤ c ∧ c ≤ 122))) = true) : NameOk s := by
  rw [Bool.and_eq_true, Bool.and_eq_true, decide_eq_true_eq, decide_eq_true_eq, List.all_eq_true] at h
  exact ⟨h.1, h.2.1, fun c hc => of_decide_eq_true (h.2.2 c hc)⟩
theorem no_name : NameOk "no" := const_name (by decide +kernel)
theorem yes_name : NameOk "yes" := const_name (by decide +kernel)
theorem half_sh : ShOk [(1, 2), (1, 2)] := ⟨by decide, by decide, by decide, by decide, by decide, by decide, by decide, by decide +kernel⟩
theorem fair_wf {p : Str} {a b : LD} (hp : NameOk p) (ha : WF a) (hb : WF b) : WF (fairL p a b) := by
  refine .t (by decide +kernel) (show 0 < 1 by decide) (show 1 ≤ 4 by decide) ?_ ?_ rfl (show 2 * 1 ≤ 16 by decide) ?_
  · show [p].Nodup
    exact List.nodup_cons.mpr ⟨List.not_mem_nil, List.nodup_nil⟩
  · intro x hx
    rw [List.mem_singleton.mp hx]
    exact ⟨hp, half_sh, show (0 : Int) ≤ 0 by decide, show (0 : Int) < ((2 : Nat) : Int) by decide⟩
  · intro w hw
    rcases List.mem_cons.mp hw with rfl | hw
    · exact ha
    · rw [List.mem_singleton.mp hw]; exact hb
theorem first_in {people : List Str} {sets : List (List Str)} {p : Str} (h : firstIn people sets = some p) : p ∈ people := List.mem_of_find?_eq_some h
theorem df_wf {people : List Str} (hp : ∀ p ∈ people, NameOk p) : ∀ (n : Nat) (sets : List (List Str)), WF (df n people sets) ∧ np (df n people sets) ≤ 2 ^ n ∧ dp (df n people sets) ≤ n
  | 0, _ => ⟨by rw [df]; exact .s no_name, by rw [df, np]; decide, by rw [df, dp]; decide⟩
  | n + 1, sets => by
    have pw : 1 ≤ 2 ^ (n + 1) := Nat.one_le_two_pow
    have leaf : ∀ s : Str, NameOk s → WF (.s s) ∧ np (.s s) ≤ 2 ^ (n + 1) ∧ dp (.s s) ≤ n + 1 := fun s h => ⟨.s h, by rw [np]; exact pw, by rw [dp]; omega⟩
    rw [df]
    split
    · exact leaf _ no_name
    · split
      · exact leaf _ yes_name
      · split
        · exact leaf _ no_name
        · next p e =>
          obtain ⟨a1, a2, a3⟩ := df_wf hp n (sets.filter fun l => decide (p ∉ l))
          obtain ⟨b1, b2, b3⟩ := df_wf hp n (sets.map fun l => l.filter fun x => decide (x ≠ p))
          refine ⟨fair_wf (hp p (first_in e)) a1 b1, ?_, ?_⟩
          · unfold fairL
            rw [np_t]
            show np _ + (np _ + 0) ≤ _
            rw [Nat.pow_succ]
            omega
          · unfold fairL
            rw [dp, dps, dps, dps]
            omega
theorem turn_ok {p : Str} {a b : LD} (hw : WF (fairL p a b)) (hn : np (fairL p a b) ≤ 5000) : m_fair_turn p (mk a) (mk b) = .ok (mk (fairL p a b)) := by
  refine run_eq ?_
  unfold B_fair_turn
  have h12 : newRt 1 2 = .ok (mkR (1, 2)) := by
    rw [new_ok (by decide) (Nat.lt_of_lt_of_le (show 2 < 2 ^ 2 by decide) (Nat.pow_le_pow_right (by decide) (by decide))), show lowP 1 2 = (1, 2) from by decide +kernel]
  simp only [pure_bind, h12, M.lft_ok]
  have r := round_ok (q := (Co.co [(T3.mk p [mkR (1, 2), mkR (1, 2)] 0 : T3 Str (List Rt) Int)] : Sq (T3 Str (Sq Nm) Int))) (k := "open") (g := [⟨p, half2, 0⟩]) (l := [a, b]) hw hn (co_giv [⟨p, half2, 0⟩])
  have e : [a, b].map mk = [mk a, mk b] := rfl
  rw [e] at r
  rw [r]
  rfl
theorem vt_ok {xs : List (VT Str)} (h : ∀ l ∈ xs, ∀ x ∈ l.l, NameOk x) : PyV.ok xs := fun l hl x hx => az_ok (h l hl x hx).az
theorem vt_dm (xs : List (VT Str)) : PyV.dm xs ≤ 64 := by
  have := dmL_le (k := 1) (xs := xs) fun l _ => by
    show dmL l.l + 1 ≤ 1
    have := dmL_le (k := 0) (xs := l.l) fun x _ => Nat.le_refl _
    omega
  show dmL xs + 1 ≤ 64
  omega
theorem for_ok {people : List Str} (hp : ∀ p ∈ people, NameOk p) (hl : people.length ≤ 6) : ∀ (n : Nat) (sets : List (List Str)), live people sets < n → n ≤ 8 → sets.length ≤ 100 → (∀ l ∈ sets, l.length ≤ 100 ∧ ∀ x ∈ l, x ∈ people) → m_draw_for n people (sets.map VT.mk) = .ok (mk (df n people sets))
  | 0, _, h, _, _, _ => absurd h (Nat.not_lt_zero _)
  | n + 1, sets, h, h8, hs, hin => by
    have nm : ∀ l ∈ sets.map VT.mk, ∀ x ∈ l.l, NameOk x := fun l hl x hx => by
      obtain ⟨m, hm, rfl⟩ := List.mem_map.mp hl
      exact hp x ((hin m hm).2 x hx)
    have e1 : eqD (d (sets.map VT.mk)) (d ([] : List (VT Str))) = pure (decide (sets = [])) := by
      rw [eqD_v (vt_ok nm) (fun x hx => absurd hx List.not_mem_nil) (vt_dm _) (vt_dm _)]
      congr 1
      cases sets with
      | nil => exact (eqB_self _).trans (decide_eq_true rfl).symm
      | cons a r =>
        rw [decide_eq_false (List.cons_ne_nil _ _)]
        exact Bool.eq_false_iff.mpr fun z => nomatch eqB_iff.mp z
    have e2 : inL (d (VT.mk [] : VT Str)) (d (sets.map VT.mk)) = pure (decide ([] ∈ sets)) := by
      rw [inL_v (fun x hx => absurd hx List.not_mem_nil) (vt_ok nm) (by decide) (vt_dm _)]
      congr 1
      rw [Bool.eq_iff_iff, List.any_eq_true, decide_eq_true_eq]
      constructor
      · rintro ⟨l, hl, q⟩
        obtain ⟨m, hm, rfl⟩ := List.mem_map.mp hl
        have := eqB_iff.mp q
        injection this with this
        rw [← this]
        exact hm
      · intro q
        exact ⟨_, List.mem_map.mpr ⟨[], q, rfl⟩, eqB_self _⟩
    rw [m_draw_for, df]
    refine run_eq ?_
    unfold B_draw_for
    simp only [pure_bind]
    rw [e1]
    by_cases h1 : sets = []
    · rw [decide_eq_true h1, if_pos h1]
      simp only [pure_bind, ↓reduceIte]
      rw [end_ok no_name]
      rfl
    · rw [decide_eq_false h1, if_neg h1]
      simp only [pure_bind, Bool.false_eq_true, ↓reduceIte]
      rw [e2]
      by_cases h2 : [] ∈ sets
      · rw [decide_eq_true h2, if_pos h2]
        simp only [pure_bind, ↓reduceIte]
        rw [end_ok yes_name]
        rfl
      · rw [decide_eq_false h2, if_neg h2]
        simp only [pure_bind, Bool.false_eq_true, ↓reduceIte]
        obtain ⟨p, e, pp, pl⟩ := find_live h1 h2 fun l hl => (hin l hl).2
        rw [e]
        dsimp only
        rw [lcM_fil (t := fun n => sets.any fun l => decide (n ∈ l)) (g := fun n => n) (by omega) (fun name _ => by
          rw [lcM_map (h := VT.mk) (g := fun l => decide (name ∈ l)) (by omega) fun l _ => by rw [memB_dec]]
          simp only [pure_bind]
          congr 1
          rw [List.any_map]
          rfl) (fun _ _ => rfl)]
        simp only [pure_bind]
        have hf : ∃ r, (people.filter fun n => sets.any fun l => decide (n ∈ l)).map (fun n : Str => n) = p :: r := by
          rw [List.map_id']
          exact filter_first e
        obtain ⟨r, hr⟩ := hf
        rw [hr, getM_zero]
        simp only [pure_bind]
        rw [lcM_mapF (h := VT.mk) (t := fun l => decide (p ∉ l)) (g := VT.mk) (by omega) (fun l _ => by rw [memB_dec]; congr 1; simp) (fun _ _ _ => rfl)]
        simp only [pure_bind]
        rw [lcM_map (h := VT.mk) (g := fun l => VT.mk (l.filter fun x => decide (x ≠ p))) (by omega) fun l hl => by
          rw [lcM_fil (t := fun x => decide (x ≠ p)) (g := fun x => x) (by have := (hin l hl).1; show l.length ≤ 1000; omega) (fun x _ => by congr 1; simp) (fun _ _ => rfl)]
          simp only [pure_bind, List.map_id']]
        simp only [pure_bind]
        have w1 := for_ok hp hl n (sets.filter fun l => decide (p ∉ l)) (by have := live_without pp pl; omega) (by omega) (by have := List.length_filter_le (fun l => decide (p ∉ l)) sets; omega) fun l hl => hin l (List.mem_filter.mp hl).1
        have w2 := for_ok hp hl n (sets.map fun l => l.filter fun x => decide (x ≠ p)) (by have := live_less pp pl; omega) (by omega) (by rw [List.length_map]; exact hs) fun l hl => by
          obtain ⟨m, hm, rfl⟩ := List.mem_map.mp hl
          exact ⟨Nat.le_trans (List.length_filter_le _ _) (hin m hm).1, fun x hx => (hin m hm).2 x (List.mem_filter.mp hx).1⟩
        have e3 : sets.map (fun l => VT.mk (l.filter fun x => decide (x ≠ p))) = (sets.map fun l => l.filter fun x => decide (x ≠ p)).map VT.mk := by rw [List.map_map]; rfl
        rw [e3, w1, w2]
        simp only [M.lft_ok, pure_bind]
        obtain ⟨a1, a2, a3⟩ := df_wf hp n (sets.filter fun l => decide (p ∉ l))
        obtain ⟨b1, b2, b3⟩ := df_wf hp n (sets.map fun l => l.filter fun x => decide (x ≠ p))
        have h256 : 2 ^ n ≤ 2 ^ 8 := Nat.pow_le_pow_right (by decide) (by omega)
        rw [turn_ok (fair_wf (hp p pp) a1 b1) (by
          unfold fairL
          rw [np_t]
          show np _ + (np _ + 0) ≤ _
          have : (2 : Nat) ^ 8 = 256 := by decide
          omega)]
        rfl
end K42

set_option Elab.async false
set_option linter.all false
set_option maxRecDepth 100000
set_option maxHeartbeats 4000000
namespace K42
open PySem PySem.Spec PyProof.Rows L2 J N
open M
open ToD (d)
open ToDs (ds)
/-! ### lists of names -/
theorem dup_nodup : ∀ {l : List Str}, l.Nodup → nDup l = l.length
  | [], _ => rfl
  | a :: r, h => by
    obtain ⟨h1, h2⟩ := List.nodup_cons.mp h
    unfold nDup
    rw [List.eraseDups_cons]
    have e : r.filter (fun b => !b == a) = r := List.filter_eq_self.mpr fun b hb => by
      have : b ≠ a := fun z => h1 (z ▸ hb)
      simp [this]
    rw [e, List.length_cons, List.length_cons]
    congr 1
    exact dup_nodup h2
theorem lenSet_ok {xs : List Str} (h : xs.length ≤ 1000) : lenSetM (fun _ => pure true) (fun n => pure n) xs = pure (nDup xs : Int) := by
  unfold lenSetM
  rw [need_T h]
  simp only [pure_bind]
  have := lcA_map (h := fun x : Str => x) (t := fun _ => true) (g := fun x : Str => x) (T := fun _ : Str => (pure true : M Bool)) (f := fun n : Str => (pure n : M Str)) xs [] (fun _ _ => rfl) fun _ _ _ => rfl
  have e : xs.filter (fun _ => true) = xs := List.filter_eq_self.mpr fun _ _ => rfl
  simp only [List.map_id', e, List.nil_append] at this
  rw [this]
  rfl
theorem are_ok {v k : Sq Str} (h1 : v.xs.Nodup) (h2 : ∀ x ∈ v.xs, x ∈ k.xs) (h3 : v.xs.length ≤ 100) : m_are_names v k = .ok true := by
  refine run_eq ?_
  unfold B_are_names
  simp only [pure_bind, listed_q, M.lft_ok, Bool.not_true, Bool.false_eq_true, ↓reduceIte]
  rw [lcM_all (g := fun _ => true) (by omega) fun x hx => by rw [memB_iff.mpr (h2 x hx)]]
  simp only [pure_bind]
  rw [show (v.xs.map fun _ => true).all id = true from by rw [List.all_map, List.all_eq_true]; exact fun _ _ => rfl]
  simp only [Bool.not_true, Bool.false_eq_true, ↓reduceIte]
  rw [lenSet_ok (by omega), dup_nodup h1]
  simp only [pure_bind, decide_true]
structure Folk (people : List Str) : Prop where
  pos : 0 < people.length
  six : people.length ≤ 6
  nd : people.Nodup
  ok : ∀ p ∈ people, NameOk p
structure Lots (people : List Str) (sets : List (List Str)) : Prop where
  few : sets.length ≤ 20
  nd : ∀ l ∈ sets, l.Nodup
  sub : ∀ l ∈ sets, ∀ x ∈ l, x ∈ people
theorem nd_le : ∀ {l m : List Str}, l.Nodup → (∀ x ∈ l, x ∈ m) → l.length ≤ m.length
  | [], _, _, _ => Nat.zero_le _
  | a :: r, m, h, hs => by
    obtain ⟨h1, h2⟩ := List.nodup_cons.mp h
    have hm := hs a List.mem_cons_self
    have := nd_le (m := m.erase a) h2 fun x hx => (List.mem_erase_of_ne (show x ≠ a from fun z => h1 (z ▸ hx))).mpr (hs x (List.mem_cons_of_mem _ hx))
    have e := List.length_erase_of_mem hm
    have p := List.length_pos_of_mem hm
    rw [List.length_cons]
    omega
theorem live_le (people : List Str) (sets : List (List Str)) : live people sets ≤ people.length := List.length_filter_le _ _
theorem sort_folk {people : List Str} (h : Folk people) : Folk (sortT people) := by
  have pm : (sortT people).Perm people := (List.perm_ext_iff_of_nodup (sortT_nodup people) h.nd).mpr fun k => sortT_mem
  exact ⟨by rw [pm.length_eq]; exact h.pos, by rw [pm.length_eq]; exact h.six, sortT_nodup _, fun p hp => h.ok p (sortT_mem.mp hp)⟩
theorem family_ok {people : Sq Str} {sets : List (Sq Str)} (hp : Folk people.xs) (hs : Lots people.xs (sets.map (·.xs))) : m_family_draw people sets = .ok (mk (df 8 (sortT people.xs) (sets.map (·.xs)))) := by
  have p0 := hp.pos
  have p6 := hp.six
  have sl := hs.few
  rw [List.length_map] at sl
  have lot : ∀ l ∈ sets, l.xs.Nodup ∧ (∀ x ∈ l.xs, x ∈ people.xs) ∧ l.xs.length ≤ 6 := fun l hl => by
    have a := hs.nd l.xs (List.mem_map.mpr ⟨l, hl, rfl⟩)
    have b := hs.sub l.xs (List.mem_map.mpr ⟨l, hl, rfl⟩)
    have := nd_le a b
    exact ⟨a, b, by omega⟩
  refine run_eq ?_
  unfold B_family_draw
  simp only [pure_bind, listed_q, listed_l, M.lft_ok, Bool.not_true, Bool.false_eq_true, ↓reduceIte]
  rw [show decide ((0 : Int) < (people.xs.length : Int)) = true from decide_eq_true (by omega)]
  simp only [↓reduceIte]
  rw [show decide ((people.xs.length : Int) ≤ 6) = true from decide_eq_true (by omega)]
  simp only [pure_bind, Bool.not_true, Bool.false_eq_true, ↓reduceIte]
  rw [lcM_all (g := fun _ => true) (by omega) fun x hx => by rw [name_ok (hp.ok x hx)]; rfl]
  simp only [pure_bind]
  rw [show (people.xs.map fun _ => true).all id = true from by rw [List.all_map, List.all_eq_true]; exact fun _ _ => rfl]
  simp only [Bool.not_true, Bool.false_eq_true, ↓reduceIte]
  rw [are_ok hp.nd (fun _ h => h) (by omega)]
  simp only [M.lft_ok, pure_bind, Bool.not_true, Bool.false_eq_true, ↓reduceIte]
  rw [lcM_all (g := fun _ => true) (by omega) fun l hl => by
    obtain ⟨a, b, c⟩ := lot l hl
    rw [are_ok a b (by omega)]
    rfl]
  simp only [pure_bind]
  rw [show (sets.map fun _ => true).all id = true from by rw [List.all_map, List.all_eq_true]; exact fun _ _ => rfl]
  simp only [Bool.not_true, Bool.false_eq_true, ↓reduceIte]
  unfold sortQ
  rw [need_T hp.nd]
  simp only [pure_bind]
  rw [lcM_all (g := fun l : Sq Str => VT.mk l.xs) (by omega) fun _ _ => rfl]
  simp only [pure_bind]
  have e : sets.map (fun l : Sq Str => VT.mk l.xs) = (sets.map (·.xs)).map VT.mk := by rw [List.map_map]; rfl
  have sf := sort_folk hp
  have ll := live_le (sortT people.xs) (sets.map (·.xs))
  have s6 := sf.six
  rw [e, for_ok sf.ok s6 8 (sets.map (·.xs)) (by omega) (Nat.le_refl _) (by rw [List.length_map]; omega) fun l hl => by
    have a := hs.nd l hl
    have b := hs.sub l hl
    have := nd_le a b
    exact ⟨by omega, fun x hx => sortT_mem.mpr (b x hx)⟩]
  rfl
/-! ### the law's own look at the draw -/
theorem half_eq : m_Ratio___eq__ (mkR (1, 2)) (.r (mkR (1, 2))) = .ok true := by
  have e : rt (shQ (1, 2)) = mkR (1, 2) := low_shQ half_sh List.mem_cons_self
  rw [← e, eqR, decide_eq_true rfl]
theorem half_new : newRt 1 2 = .ok (mkR (1, 2)) := by
  rw [new_ok (by decide) (Nat.lt_of_lt_of_le (show 2 < 2 ^ 2 by decide) (Nat.pow_le_pow_right (by decide) (by decide))), show lowP 1 2 = (1, 2) from by decide +kernel]
theorem ne_half : neLs m_Ratio___eq__ Nm.r [mkR (1, 2), mkR (1, 2)] [mkR (1, 2), mkR (1, 2)] = pure false := by
  unfold neLs
  rw [need_T ⟨rfl, fun p hp => by
    have : p = (mkR (1, 2), mkR (1, 2)) := by
      rcases List.mem_cons.mp hp with h | h
      · exact h
      · exact List.mem_singleton.mp h
    rw [this]
    exact half_eq⟩]
  rfl
theorem eq_nil : eqD (D.lst []) (D.lst []) = pure true := by
  have := eqD_v (α := List Str) (a := []) (b := []) (fun x hx => absurd hx List.not_mem_nil) (fun x hx => absurd hx List.not_mem_nil) (by decide) (by decide)
  rw [eqB_self] at this
  exact this
theorem fair_ok {people folk : List Str} (hf : ∀ p ∈ people, p ∈ folk) : ∀ (n m : Nat) (sets : List (List Str)) (deep : Int), live people sets < m → live people sets < n → (live people sets : Int) ≤ deep → (∀ l ∈ sets, ∀ x ∈ l, x ∈ people) → m__law_is_fair n (mk (df m people sets)) folk deep = .ok true
  | 0, _, _, _, _, h, _, _ => absurd h (Nat.not_lt_zero _)
  | n + 1, 0, _, _, h, _, _, _ => absurd h (Nat.not_lt_zero _)
  | n + 1, m + 1, sets, deep, hm, hn, hd, hin => by
    have leaf : ∀ s : Str, memB s ["no", "yes"] = true → m__law_is_fair (n + 1) (mk (.s s)) folk deep = .ok true := fun s hs => by
      rw [m__law_is_fair, mk_s]
      refine run_eq ?_
      unfold B__law_is_fair
      simp only [pure_bind, Dr.isE, Dr.isR, Dr.title?, unopt, Bool.not_false, ↓reduceIte]
      rw [hs]
    rw [df]
    by_cases h1 : sets = []
    · rw [if_pos h1]
      exact leaf _ (by decide +kernel)
    · rw [if_neg h1]
      by_cases h2 : [] ∈ sets
      · rw [if_pos h2]
        exact leaf _ (by decide +kernel)
      · rw [if_neg h2]
        obtain ⟨p, e, pp, pl⟩ := find_live h1 h2 hin
        rw [e]
        dsimp only
        have lw := live_without pp pl
        have ls := live_less pp pl
        have ih1 := fair_ok hf n m (sets.filter fun l => decide (p ∉ l)) (deep - 1) (by omega) (by omega) (by omega) fun l hl => hin l (List.mem_filter.mp hl).1
        have ih2 := fair_ok hf n m (sets.map fun l => l.filter fun x => decide (x ≠ p)) (deep - 1) (by omega) (by omega) (by omega) fun l hl x hx => by
          obtain ⟨k, hk, rfl⟩ := List.mem_map.mp hl
          exact hin k hk x (List.mem_filter.mp hx).1
        generalize df m people (sets.filter fun l => decide (p ∉ l)) = a at *
        generalize df m people (sets.map fun l => l.filter fun x => decide (x ≠ p)) = b at *
        unfold fairL
        rw [m__law_is_fair, mk_t]
        refine run_eq ?_
        unfold B__law_is_fair
        simp only [pure_bind, Dr.isE, Dr.isR, Dr.manner?, Dr.seats?, Dr.further?, unopt, Bool.not_true, Bool.false_eq_true, ↓reduceIte]
        rw [decide_eq_false (show ¬ deep = 0 by omega)]
        simp only [Bool.false_eq_true, ↓reduceIte, decide_true, Bool.not_true, List.map_cons, List.map_nil, List.length_cons, List.length_nil]
        rw [show decide (((0 + 1 : Nat) : Int) = 1) = true from by decide]
        simp only [Bool.not_true, Bool.false_eq_true, ↓reduceIte]
        rw [getM_zero]
        simp only [pure_bind, half_new, M.lft_ok]
        rw [show memB (seatD ⟨p, half2, 0⟩).a folk = true from memB_iff.mpr (hf p pp)]
        simp only [pure_bind, Bool.not_true, Bool.false_eq_true, ↓reduceIte]
        rw [show (seatD ⟨p, half2, 0⟩).b.l = [mkR (1, 2), mkR (1, 2)] from rfl, ne_half]
        simp only [pure_bind, Bool.false_eq_true, ↓reduceIte]
        rw [show decide ((seatD ⟨p, half2, 0⟩).c = 0) = true from rfl]
        simp only [Bool.not_true, Bool.false_eq_true, ↓reduceIte]
        have lc := lcM_mapF (h := mk) (t := fun _ : LD => false) (g := mk) (T := fun (v_one : Dr) => lft (m__law_is_fair n v_one folk (deep - 1)) >>= fun x52 => pure (!x52)) (f := fun v_one : Dr => (pure v_one : M Dr)) (xs := [a, b]) (show 2 ≤ 16777216 by decide) (fun c hc => by
          rcases List.mem_cons.mp hc with rfl | hc
          · rw [ih1]; rfl
          · rw [List.mem_singleton.mp hc, ih2]; rfl) (fun _ _ _ => rfl)
        simp only [List.map_cons, List.map_nil] at lc
        rw [lc]
        simp only [pure_bind]
        exact eq_nil
theorem yes_ok {people who : List Str} : ∀ (n m : Nat) (sets : List (List Str)), live people sets < m → live people sets < n → (∀ l ∈ sets, ∀ x ∈ l, x ∈ people) → m__law_yes n (mk (df m people sets)) who = .ok (yesL who (df m people sets))
  | 0, _, _, _, h, _ => absurd h (Nat.not_lt_zero _)
  | n + 1, 0, _, h, _, _ => absurd h (Nat.not_lt_zero _)
  | n + 1, m + 1, sets, hm, hn, hin => by
    have leaf : ∀ s : Str, m__law_yes (n + 1) (mk (.s s)) who = .ok (yesL who (.s s)) := fun s => by
      rw [m__law_yes, mk_s]
      refine run_eq ?_
      unfold B__law_yes
      simp only [pure_bind, Dr.isE, Dr.isR, Dr.title?, unopt, Bool.not_false, ↓reduceIte]
      rw [yesL]
    rw [df]
    by_cases h1 : sets = []
    · rw [if_pos h1]
      exact leaf _
    · rw [if_neg h1]
      by_cases h2 : [] ∈ sets
      · rw [if_pos h2]
        exact leaf _
      · rw [if_neg h2]
        obtain ⟨p, e, pp, pl⟩ := find_live h1 h2 hin
        rw [e]
        dsimp only
        have lw := live_without pp pl
        have ls := live_less pp pl
        have ih1 := yes_ok (people := people) (who := who) n m (sets.filter fun l => decide (p ∉ l)) (by omega) (by omega) fun l hl => hin l (List.mem_filter.mp hl).1
        have ih2 := yes_ok (people := people) (who := who) n m (sets.map fun l => l.filter fun x => decide (x ≠ p)) (by omega) (by omega) fun l hl x hx => by
          obtain ⟨k, hk, rfl⟩ := List.mem_map.mp hl
          exact hin k hk x (List.mem_filter.mp hx).1
        generalize df m people (sets.filter fun l => decide (p ∉ l)) = a at *
        generalize df m people (sets.map fun l => l.filter fun x => decide (x ≠ p)) = b at *
        unfold fairL
        rw [m__law_yes, mk_t, yesL]
        refine run_eq ?_
        unfold B__law_yes
        simp only [pure_bind, Dr.isE, Dr.isR, Dr.seats?, Dr.further?, unopt, Bool.not_true, Bool.false_eq_true, ↓reduceIte]
        have lc := lcM_map (h := mk) (g := yesL who) (f := fun (v_one : Dr) => lft (m__law_yes n v_one who)) (xs := [a, b]) (show 2 ≤ 16777216 by decide) fun c hc => by
          rcases List.mem_cons.mp hc with rfl | hc
          · rw [ih1]; rfl
          · rw [List.mem_singleton.mp hc, ih2]; rfl
        simp only [List.map_cons, List.map_nil] at lc ⊢
        rw [lc]
        simp only [pure_bind]
        rw [getM_zero]
        simp only [pure_bind]
        rw [show memB (seatD ⟨p, half2, 0⟩).a who = decide (p ∈ who) from memB_dec]
        by_cases hw : p ∈ who
        · rw [decide_eq_true hw, if_pos hw]
          simp only [↓reduceIte]
          congr 1
          rw [Bool.eq_iff_iff, memB_iff]
          cases yesL who a <;> cases yesL who b <;> decide
        · rw [decide_eq_false hw, if_neg hw]
          simp only [Bool.false_eq_true, ↓reduceIte]
          congr 1
          have : ∀ u v : Bool, (!memB false [u, v]) = (u && v) := by decide +kernel
          exact this _ _
end K42

set_option Elab.async false
set_option linter.all false
set_option maxRecDepth 100000
set_option maxHeartbeats 4000000
namespace K42
open PySem PySem.Spec PyProof.Rows L2 J N
open M
open ToD (d)
open ToDs (ds)
/-! ### orders drawn -/
theorem perm_erase {α : Type} : ∀ {ys : List α} {n : Nat} {y : α}, ys[n]? = some y → (y :: ys.eraseIdx n).Perm ys
  | [], n, y, h => by simp at h
  | a :: r, 0, y, h => by simp at h; subst h; exact List.Perm.refl _
  | a :: r, n + 1, y, h => by
    have h2 : r[n]? = some y := by simpa using h
    rw [List.eraseIdx_cons_succ]
    exact (List.Perm.swap a y _).trans ((perm_erase h2).cons a)
theorem tt_pop {α : Type} {xs ys : List α} (hx : xs.length ≤ 1000) (hy : 0 < ys.length) (hy2 : ys.length ≤ 1000) : TriT (popM xs ys (pickM (ys.length : Int))) (fun p => (p.1 ++ p.2).Perm (xs ++ ys) ∧ p.2.length + 1 = ys.length ∧ p.1.length = xs.length + 1) := by
  unfold popM
  refine tt_pick (by omega) (by omega) fun a h0 h1 => ?_
  have hs : sizeLine > 1000 := Nat.lt_of_lt_of_le (by decide) size16
  rw [need_T ⟨by omega, by omega, by omega⟩]
  simp only [pure_bind]
  obtain ⟨n, rfl⟩ := Int.eq_ofNat_of_zero_le h0
  have hn : n < ys.length := by omega
  have e : seqIndex? ((n : Nat) : Int) ys.length = some n := by
    unfold seqIndex?
    rw [if_neg (show ¬ ((n : Nat) : Int) < 0 by omega)]
    simp only [Int.toNat_natCast]
    rw [if_pos]
    rw [Bool.and_eq_true, decide_eq_true_eq, decide_eq_true_eq]
    omega
  rw [e]
  dsimp only
  rw [List.getElem?_eq_getElem hn]
  refine tt_pure ⟨?_, ?_, ?_⟩
  · rw [List.append_assoc]
    exact List.Perm.append_left xs (perm_erase (List.getElem?_eq_getElem hn))
  · have := List.length_eraseIdx_of_lt hn
    show (ys.eraseIdx n).length + 1 = _
    omega
  · rw [List.length_append, List.length_singleton]
theorem tt_mix {α : Type} : ∀ (ks : List Int) (xs ys : List α), ks.length = ys.length → xs.length + ys.length ≤ 1000 →
    TriT (foldM (fun (v_k : Int) (s4 : (List α) × (List α)) => popM s4.1 s4.2 (pickM (s4.2.length : Int)) >>= fun p7 => pure (p7.1, p7.2)) ks (xs, ys)) (fun p => p.1.Perm (xs ++ ys))
  | [], xs, ys, h, _ => by
    have : ys = [] := List.length_eq_zero_iff.mp h.symm
    subst this
    exact tt_pure (by rw [List.append_nil])
  | k :: ks, xs, ys, h, hl => by
    rw [List.length_cons] at h
    unfold foldM
    refine tt_bind (P := fun p => (p.1 ++ p.2).Perm (xs ++ ys) ∧ p.2.length + 1 = ys.length ∧ p.1.length = xs.length + 1) ?_ fun p hp => ?_
    · have := tt_pop (xs := xs) (ys := ys) (by omega) (by omega) (by omega)
      have e : (popM xs ys (pickM (ys.length : Int)) >>= fun p7 => pure (p7.1, p7.2)) = popM xs ys (pickM (ys.length : Int)) := bind_pure _
      show TriT (popM xs ys (pickM (ys.length : Int)) >>= fun p7 => pure (p7.1, p7.2)) _
      rw [e]
      exact this
    · obtain ⟨p1, p2, p3⟩ := hp
      exact tt_w (tt_mix ks p.1 p.2 (by omega) (by omega)) fun q hq => hq.trans p1
theorem mixed_ok {xs : List Str} (h : xs.length ≤ 100) : TriT (m__law_mixed xs) (fun ys => ys.Perm xs) := by
  unfold m__law_mixed m__law_pick
  simp only [pure_bind]
  rw [rng1_ok (by omega) (by omega)]
  simp only [pure_bind]
  have := tt_mix (rng 0 (xs.length : Int)) [] xs (by rw [rng_len]; omega) (by rw [List.length_nil]; omega)
  exact tt_bind this fun p hp => tt_pure (by simpa using hp)
theorem mixedL_ok {xs : List (List Str)} (h : xs.length ≤ 100) : TriT (m__law_mixedL xs) (fun ys => ys.Perm xs) := by
  unfold m__law_mixedL m__law_pick
  simp only [pure_bind]
  rw [rng1_ok (by omega) (by omega)]
  simp only [pure_bind]
  have := tt_mix (rng 0 (xs.length : Int)) [] xs (by rw [rng_len]; omega) (by rw [List.length_nil]; omega)
  exact tt_bind this fun p hp => tt_pure (by simpa using hp)
theorem cutL_to {α : Type} (xs : List α) (n : Nat) : cutL xs none (some (n : Int)) = xs.take n := by
  unfold cutL
  rw [HT.sIx_none, HT.sIx_nat, List.drop_zero, Nat.sub_zero]
  by_cases h : n ≤ xs.length
  · rw [Nat.min_eq_left h]
  · rw [Nat.min_eq_right (by omega), List.take_of_length_le (Nat.le_refl _), List.take_of_length_le (by omega)]
/-! ### families drawn -/
structure Fam (folk : List Str) (n : Nat) (sets : List (List Str)) : Prop where
  few : sets.length ≤ n
  nd : ∀ l ∈ sets, l.Nodup
  sub : ∀ l ∈ sets, ∀ x ∈ l, x ∈ folk
theorem Fam.add {folk : List Str} {n : Nat} {sets : List (List Str)} {l : List Str} (h : Fam folk n sets) (h1 : l.Nodup) (h2 : ∀ x ∈ l, x ∈ folk) : Fam folk (n + 1) (sets ++ [l]) := by
  refine ⟨by rw [List.length_append, List.length_singleton]; have := h.few; omega, fun m hm => ?_, fun m hm => ?_⟩
  · rcases List.mem_append.mp hm with q | q
    · exact h.nd m q
    · rw [List.mem_singleton.mp q]; exact h1
  · rcases List.mem_append.mp hm with q | q
    · exact h.sub m q
    · rw [List.mem_singleton.mp q]; exact h2
theorem Fam.up {folk : List Str} {n m : Nat} {sets : List (List Str)} (h : Fam folk n sets) (l : n ≤ m) : Fam folk m sets := ⟨by have := h.few; omega, h.nd, h.sub⟩
theorem sizes {n : Nat} {j : Int} (h0 : 0 ≤ j) (h1 : j < 5) (hn : n ≤ 6) : ∃ k : Nat, getM [(1 : Int), 2, 2, 3, (n : Int)] j = pure (k : Int) := by
  obtain ⟨v, hv, e⟩ := getM_in (xs := [(1 : Int), 2, 2, 3, (n : Int)]) h0 h1
  have : 0 ≤ v := by
    simp only [List.mem_cons, List.not_mem_nil, or_false] at hv
    omega
  obtain ⟨k, rfl⟩ := Int.eq_ofNat_of_zero_le this
  exact ⟨k, e⟩
theorem drawn_ok {folk : List Str} (hf : Folk folk) : TriT (m__law_drawn_sets folk) (fun sets => Fam folk 12 sets) := by
  have p6 := hf.six
  unfold m__law_drawn_sets m__law_pick
  simp only [pure_bind, bind_assoc]
  refine tt_pick (by decide) (by decide) fun n n0 n1 => ?_
  rw [rng1_ok n0 (by omega)]
  simp only [pure_bind]
  have hl : (rng 0 n).length ≤ 4 := by rw [rng_len]; omega
  have fo := tt_fold (I := fun i s => Fam folk i s) (body := fun (v_k : Int) (s4 : (List (List Str))) => pickM 5 >>= fun x14 => getM [(1 : Int), 2, 2, 3, (folk.length : Int)] x14 >>= fun v_size => appM s4 (m__law_mixed folk >>= fun x17 => pure (cutL x17 none (some v_size))) >>= fun ys20 => pure ys20) (rng 0 n) 0 ([] : List (List Str)) (fun a _ j s hj hs => by
    refine tt_pick (by decide) (by decide) fun i i0 i1 => ?_
    obtain ⟨k, e⟩ := sizes (n := folk.length) i0 i1 p6
    rw [e]
    simp only [pure_bind]
    unfold appM
    have few := hs.few
    rw [need_T (Nat.lt_of_lt_of_le (show s.length < 16777216 by omega) size16)]
    simp only [pure_bind, bind_assoc]
    refine tt_bind (mixed_ok (by omega)) fun ys hy => ?_
    rw [cutL_to]
    have sub : (ys.take k).Sublist ys := List.take_sublist _ _
    exact tt_pure (hs.add ((hy.nodup_iff.mpr hf.nd).sublist sub) fun x hx => hy.mem_iff.mp (sub.subset hx))) ⟨Nat.le_refl _, fun l hl => absurd hl List.not_mem_nil, fun l hl => absurd hl List.not_mem_nil⟩
  simp only [pure_bind, bind_assoc, bind_pure] at fo ⊢
  refine tt_bind fo fun s4 h4 => ?_
  have h4 : Fam folk 4 s4 := h4.up (by omega)
  refine tt_pick (by decide) (by decide) fun i i0 i1 => ?_
  refine tt_bind (P := fun s => Fam folk 5 s) ?_ fun s25 h25 => ?_
  · by_cases hc : i = 0
    · rw [decide_eq_true hc]
      simp only [↓reduceIte]
      rw [appM_ok (a := ([] : List Str)) rfl (by have := h4.few; omega)]
      exact tt_pure (h4.add List.nodup_nil fun x hx => absurd hx List.not_mem_nil)
    · rw [decide_eq_false hc]
      simp only [Bool.false_eq_true, ↓reduceIte]
      exact tt_pure (h4.up (by omega))
  · refine tt_pick (by decide) (by decide) fun j j0 j1 => ?_
    have few := h25.few
    refine tt_bind (P := fun s => Fam folk 12 s) ?_ fun s31 h31 => ?_
    · by_cases hc : j = 0
      · rw [decide_eq_true hc]
        simp only [↓reduceIte]
        rw [show (1 : Int) = ((1 : Nat) : Int) from rfl, cutL_to, lcM_all (g := List.reverse) (by rw [List.length_take]; omega) fun _ _ => rfl]
        simp only [pure_bind]
        rw [catM16 (by rw [List.length_map, List.length_take]; omega)]
        refine tt_pure ⟨by rw [List.length_append, List.length_map, List.length_take]; omega, fun l hl => ?_, fun l hl => ?_⟩
        · rcases List.mem_append.mp hl with q | q
          · exact h25.nd l q
          · obtain ⟨m, hm, rfl⟩ := List.mem_map.mp q
            exact (List.reverse_perm m).nodup_iff.mpr (h25.nd m (List.mem_of_mem_take hm))
        · rcases List.mem_append.mp hl with q | q
          · exact h25.sub l q
          · obtain ⟨m, hm, rfl⟩ := List.mem_map.mp q
            exact fun x hx => h25.sub m (List.mem_of_mem_take hm) x (List.mem_reverse.mp hx)
      · rw [decide_eq_false hc]
        simp only [Bool.false_eq_true, ↓reduceIte]
        exact tt_pure (h25.up (by omega))
    · have f31 := h31.few
      exact tt_w (mixedL_ok (by omega)) fun ys hy => ⟨by rw [hy.length_eq]; exact f31, fun l hl => h31.nd l (hy.mem_iff.mp hl), fun l hl => h31.sub l (hy.mem_iff.mp hl)⟩
/-! ### all sets of people -/
theorem lots_ok {names : List Str} (h : names.length ≤ 6) : ∃ L, m__law_lots names = .ok L := by
  have step : ∀ (ns : List Str) (s : List (List Str)) (k : Nat), ns.length + k ≤ 6 → s.length = 2 ^ k → (∀ l ∈ s, l.length ≤ k) → ∃ L, foldM (fun (v_name : Str) (s2 : (List (List Str))) => lcM (fun (v_lot : (List Str)) => pure true) (fun (v_lot : (List Str)) => catM v_lot [v_name]) s2 >>= fun x9 => catM s2 x9) ns s = (pure L : M (List (List Str))) := fun ns => by
    induction ns with
    | nil => intro s k _ _ _; exact ⟨s, rfl⟩
    | cons a r ih =>
      intro s k hk hs hl
      rw [List.length_cons] at hk
      have h64 : 2 ^ k ≤ 2 ^ 6 := Nat.pow_le_pow_right (by decide) (by omega)
      have e64 : (2 : Nat) ^ 6 = 64 := by decide
      unfold foldM
      rw [lcM_all (g := fun l => l ++ [a]) (by omega) fun l hl2 => by rw [catM16 (by have := hl l hl2; rw [List.length_singleton]; omega)]]
      simp only [pure_bind]
      rw [catM16 (by rw [List.length_map]; omega)]
      simp only [pure_bind]
      refine ih _ (k + 1) (by omega) (by rw [List.length_append, List.length_map, hs, Nat.pow_succ]; omega) fun l hl2 => ?_
      rcases List.mem_append.mp hl2 with q | q
      · have := hl l q; omega
      · obtain ⟨m, hm, rfl⟩ := List.mem_map.mp q
        have := hl m hm
        rw [List.length_append, List.length_singleton]; omega
  obtain ⟨L, e⟩ := step names [[]] 0 (by omega) rfl fun l hl => by rw [List.mem_singleton.mp hl]; exact Nat.le_refl _
  refine ⟨L, run_eq ?_⟩
  unfold B__law_lots
  simp only [pure_bind, bind_pure]
  exact e
end K42

set_option Elab.async false
set_option linter.all false
set_option maxRecDepth 100000
set_option maxHeartbeats 4000000
namespace K42
open PySem PySem.Spec PyProof.Rows L2 J N
open M
open ToD (d)
open ToDs (ds)
/-! ### what repr shows of a family -/
def sqP : Sq Str → PyData
  | .l xs => .list (xs.map .str)
  | .t xs => .tuple (xs.map .str)
theorem sq_py (x : Sq Str) : pyD (d x) = some (sqP x) := by
  cases x with
  | l xs =>
    show pyD (D.lst (xs.map d)) = _
    rw [pyD, pyDs_strs]
    rfl
  | t xs =>
    show pyD (D.tup (xs.map d)) = _
    rw [pyD, pyDs_strs]
    rfl
theorem sqs_py : ∀ xs : List (Sq Str), pyDs (xs.map d) = some (xs.map sqP)
  | [] => rfl
  | x :: r => by
    rw [List.map_cons, pyDs, sq_py, sqs_py r]
    rfl
structure Rp (p : PyData) (k L : Nat) : Prop where
  nd : p.hasDict = false
  sh : p.showable = true
  dp : p.depth ≤ k
  ln : p.shown.length ≤ L
theorem rp_all {k L : Nat} : ∀ {xs : List PyData}, (∀ p ∈ xs, Rp p k L) → PyData.hasDictAll xs = false ∧ PyData.showableAll xs = true ∧ PyData.depthAll xs ≤ k ∧ (∀ t ∈ PyData.shownAll xs, t.length ≤ L) ∧ (PyData.shownAll xs).length = xs.length
  | [], _ => by
    rw [PyData.hasDictAll, PyData.showableAll, PyData.depthAll, PyData.shownAll]
    exact ⟨rfl, rfl, Nat.zero_le _, fun t ht => absurd ht List.not_mem_nil, rfl⟩
  | p :: r, h => by
    obtain ⟨a, b, c, e⟩ := h p List.mem_cons_self
    obtain ⟨a2, b2, c2, e2, l2⟩ := rp_all fun q hq => h q (List.mem_cons_of_mem _ hq)
    rw [PyData.hasDictAll, PyData.showableAll, PyData.depthAll, PyData.shownAll, a, a2, b, b2]
    refine ⟨rfl, rfl, Nat.max_le.mpr ⟨c, c2⟩, fun t ht => ?_, by rw [List.length_cons, List.length_cons, l2]⟩
    rcases List.mem_cons.mp ht with rfl | ht
    · exact e
    · exact e2 t ht
theorem from_len {L : Nat} : ∀ (ts : List Str) (k : Nat) (acc : Str), (∀ t ∈ ts, t.length ≤ L) → (textFrom k acc ts).length ≤ acc.length + ts.length * (L + 2)
  | [], k, acc, _ => by rw [textFrom]; omega
  | t :: r, k, acc, h => by
    have h1 := h t List.mem_cons_self
    rw [textFrom]
    refine Nat.le_trans (from_len r (k + 1) _ fun u hu => h u (List.mem_cons_of_mem _ hu)) ?_
    rw [len_app, len_app, List.length_cons, Nat.succ_mul]
    have : ((if k > 0 then ", " else "" : String) : Str).length ≤ 2 := by split <;> decide +kernel
    omega
theorem rp_list {k L : Nat} {xs : List PyData} (h : ∀ p ∈ xs, Rp p k L) : Rp (.list xs) (k + 1) (2 + xs.length * (L + 2)) := by
  obtain ⟨a, b, c, e, l⟩ := rp_all h
  refine ⟨by rw [PyData.hasDict]; exact a, by rw [PyData.showable]; exact b, by rw [PyData.depth]; omega, ?_⟩
  rw [PyData.shown]
  unfold listText
  have := from_len (PyData.shownAll xs) 0 "[" e
  rw [l] at this
  rw [len_app, show ("]" : Str).length = 1 from rfl]
  have l0 : ("[" : Str).length = 1 := rfl
  omega
theorem piled_le {L : Nat} : ∀ {ts : List Str}, (∀ t ∈ ts, t.length ≤ L) → piled ts ≤ ts.length * (L + 2)
  | [], _ => Nat.zero_le _
  | t :: r, h => by
    have h1 := h t List.mem_cons_self
    have := piled_le (ts := r) fun u hu => h u (List.mem_cons_of_mem _ hu)
    rw [piled_cons, List.length_cons, Nat.succ_mul]
    omega
theorem rp_tup {k L : Nat} {xs : List PyData} (h : ∀ p ∈ xs, Rp p k L) : Rp (.tuple xs) (k + 1) (3 + xs.length * (L + 2)) := by
  obtain ⟨a, b, c, e, l⟩ := rp_all h
  refine ⟨by rw [PyData.hasDict]; exact a, by rw [PyData.showable]; exact b, by rw [PyData.depth]; omega, ?_⟩
  rw [PyData.shown]
  unfold tupleText
  have h1 : (Str.join ", " (PyData.shownAll xs)).length ≤ xs.length * (L + 2) := by
    by_cases z : PyData.shownAll xs = []
    · rw [z]
      exact Nat.zero_le _
    · have := join_length_add _ z
      have := piled_le e
      rw [l] at this
      omega
  rw [len_app, len_app, show ("(" : Str).length = 1 from rfl]
  have : ((if ((PyData.shownAll xs).length == 1) = true then ",)" else ")" : String) : Str).length ≤ 2 := by split <;> decide +kernel
  omega
theorem rp_str {s : Str} (h : NameOk s) : Rp (.str s) 0 82 := by
  refine ⟨by rw [PyData.hasDict], by rw [PyData.showable], by rw [PyData.depth]; exact Nat.le_refl _, ?_⟩
  rw [PyData.shown]
  have := PySem.StrLaws.reprText_len s fun c hc => Nat.lt_of_le_of_lt (h.az c hc).2 (by decide)
  have := h.few
  omega
theorem rp_sq {x : Sq Str} (h : ∀ n ∈ x.xs, NameOk n) (hl : x.xs.length ≤ 6) : Rp (sqP x) 1 507 := by
  have each : ∀ xs : List Str, (∀ n ∈ xs, NameOk n) → ∀ p ∈ xs.map PyData.str, Rp p 0 82 := fun xs hx p hp => by
    obtain ⟨n, hn, rfl⟩ := List.mem_map.mp hp
    exact rp_str (hx n hn)
  cases x with
  | l xs =>
    have hl : xs.length ≤ 6 := hl
    obtain ⟨a, b, c, e⟩ := rp_list (each xs h)
    rw [List.length_map] at e
    exact ⟨a, b, c, by show (PyData.list (xs.map .str)).shown.length ≤ 507; omega⟩
  | t xs =>
    have hl : xs.length ≤ 6 := hl
    obtain ⟨a, b, c, e⟩ := rp_tup (each xs h)
    rw [List.length_map] at e
    exact ⟨a, b, c, by show (PyData.tuple (xs.map .str)).shown.length ≤ 507; omega⟩
theorem repr_ok {given : List (Sq Str)} {handed : Sq Str} (h : ∀ x ∈ given, (∀ n ∈ x.xs, NameOk n) ∧ x.xs.length ≤ 6) (hg : given.length ≤ 12) (hh : (∀ n ∈ handed.xs, NameOk n) ∧ handed.xs.length ≤ 6) : ∃ y, reprM (d ([d given, d handed] : List D)) = pure y := by
  have r1 : Rp (.list (given.map sqP)) 2 6110 := by
    obtain ⟨a, b, c, e⟩ := rp_list (k := 1) (L := 507) (xs := given.map sqP) fun p hp => by
      obtain ⟨x, hx, rfl⟩ := List.mem_map.mp hp
      exact rp_sq (h x hx).1 (h x hx).2
    rw [List.length_map] at e
    have : given.length * (507 + 2) ≤ 12 * 509 := Nat.mul_le_mul hg (Nat.le_refl _)
    exact ⟨a, b, c, by omega⟩
  have r2 := rp_sq hh.1 hh.2
  obtain ⟨a, b, c, e⟩ := rp_list (k := 2) (L := 6110) (xs := [PyData.list (given.map sqP), sqP handed]) fun p hp => by
    rcases List.mem_cons.mp hp with rfl | hp
    · exact r1
    · rw [List.mem_singleton.mp hp]
      exact ⟨r2.nd, r2.sh, Nat.le_trans r2.dp (by decide), Nat.le_trans r2.ln (by decide)⟩
  refine ⟨_, reprM_of (p := .list [.list (given.map sqP), sqP handed]) ?_ a b (Nat.le_trans c (by decide)) (Nat.le_trans e (by show 2 + 2 * 6112 ≤ 1000000; decide))⟩
  show pyD (D.lst [D.lst (given.map d), d handed]) = _
  rw [pyD, pyDs, pyD, sqs_py, pyDs, sq_py, pyDs]
  rfl
/-! ### lists drawn -/
theorem tt_lcA {ι β : Type} {t : ι → M Bool} {f : ι → M β} {P : ι → β → Prop} : ∀ (xs zs : List ι) (acc : List β), (∀ a ∈ xs, t a = pure true) → (∀ a ∈ xs, TriT (f a) (P a)) → Al P zs acc → TriT (lcA t f acc xs) (fun ys => Al P (zs ++ xs) ys)
  | [], zs, acc, _, _, ha => by
    rw [lcA, List.append_nil]
    exact tt_pure ha
  | a :: r, zs, acc, ht, hf, ha => by
    intro s hi
    obtain ⟨y, s1, e1, py, i1⟩ := hf a List.mem_cons_self s hi
    obtain ⟨ys, s2, e2, pz, i2⟩ := tt_lcA r (zs ++ [a]) (acc ++ [y]) (fun b hb => ht b (List.mem_cons_of_mem _ hb)) (fun b hb => hf b (List.mem_cons_of_mem _ hb)) (ha.app (.cons py .nil)) s1 i1
    refine ⟨ys, s2, ?_, by rw [List.append_assoc] at pz; exact pz, i2⟩
    unfold lcA
    rw [ht a List.mem_cons_self, strict_pure]
    show (strict (f a) >>= fun y => lcA t f (acc ++ [y]) r) s = _
    rw [M.bind_def]
    unfold strict
    rw [e1]
    exact e2
theorem tt_lc {ι β : Type} {t : ι → M Bool} {f : ι → M β} {P : ι → β → Prop} {xs : List ι} (hx : xs.length ≤ 1000) (ht : ∀ a ∈ xs, t a = pure true) (hf : ∀ a ∈ xs, TriT (f a) (P a)) : TriT (lcM t f xs) (fun ys => Al P xs ys) := by
  unfold lcM
  rw [need_T (small_sl hx)]
  exact tt_lcA xs [] [] ht hf .nil
theorem tt_for {ι ρ : Type} {body : ι → Unit → M (Step Unit ρ)} : ∀ (xs : List ι), (∀ a ∈ xs, TriT (body a ()) (fun r => r = .nx ())) → TriT (N.forM body xs ()) (fun r => r = .nx ())
  | [], _ => tt_pure rfl
  | a :: r, h => by
    unfold N.forM
    refine tt_bind (h a List.mem_cons_self) fun z hz => ?_
    subst hz
    exact tt_for r fun b hb => h b (List.mem_cons_of_mem _ hb)
theorem al_xs {sets : List (List Str)} : ∀ {given : List (Sq Str)}, Al (fun (l : List Str) (y : Sq Str) => y.xs = l) sets given → given.map (·.xs) = sets := by
  induction sets with
  | nil => intro g h; cases h; rfl
  | cons a r ih =>
    intro g h
    cases h with
    | cons e t => rw [List.map_cons, e, ih t]
theorem either_ok (l : List Str) : TriT (pickM 2 >>= fun x => getM [(Co.co l : Sq Str), (Co.co (VT.mk l) : Sq Str)] x) (fun y => y.xs = l) := by
  refine tt_pick (by decide) (by decide) fun i i0 i1 => ?_
  obtain ⟨y, hy, e⟩ := getM_in (xs := [(Co.co l : Sq Str), (Co.co (VT.mk l) : Sq Str)]) i0 i1
  rw [e]
  refine tt_pure ?_
  have em : l.map (Co.co (α := Str) (β := Str)) = l := List.map_id l
  rcases List.mem_cons.mp hy with rfl | hy
  · exact em
  · rw [List.mem_singleton.mp hy]
    exact em
theorem either_at (l : List Str) {i : Int} (i0 : 0 ≤ i) (i1 : i < 2) : ∃ y : Sq Str, y.xs = l ∧ getM [(Co.co l : Sq Str), (Co.co (VT.mk l) : Sq Str)] i = pure y := by
  obtain ⟨y, hy, e⟩ := getM_in (xs := [(Co.co l : Sq Str), (Co.co (VT.mk l) : Sq Str)]) i0 i1
  refine ⟨y, ?_, e⟩
  have em : l.map (Co.co (α := Str) (β := Str)) = l := List.map_id l
  rcases List.mem_cons.mp hy with rfl | hy
  · exact em
  · rw [List.mem_singleton.mp hy]
    exact em
theorem eq_same (w : LD) : m_Draw___eq__ (mk w) (mk w) = .ok true := by
  refine run_eq ?_
  unfold B_Draw___eq__
  simp only [pure_bind, ↓reduceIte]
  unfold Dr.words?
  simp only [unopt, pure_bind, decide_true]
/-! ### which sets are due -/
theorem due_ok {sets : List (List Str)} {who : List Str} {z : List (Sq Str)} (hz : z = []) (hs : ∀ l ∈ sets, ∀ x ∈ l, NameOk x) (hl : ∀ l ∈ sets, l.length ≤ 100) (hn : sets.length ≤ 100) :
    (lcM (fun (v_lot : (List Str)) => lcM (fun (v_name : Str) => pure (!memB v_name who)) (fun (v_name : Str) => pure v_name) v_lot >>= fun x79 => eqD (d x79) (d z)) (fun (v_lot : (List Str)) => pure v_lot) sets >>= fun x82 => neD (d x82) (d z)) = (pure (due who sets) : M Bool) := by
  subst hz
  have q1 : ∀ l ∈ sets, (lcM (fun (v_name : Str) => pure (!memB v_name who)) (fun (v_name : Str) => pure v_name) l >>= fun x79 => eqD (d x79) (d ([] : List (Sq Str)))) = (pure (l.all fun x => decide (x ∈ who)) : M Bool) := fun l hm => by
    rw [lcM_fil (t := fun x => !decide (x ∈ who)) (g := fun x => x) (by have := hl l hm; omega) (fun x _ => by rw [memB_dec]) (fun _ _ => rfl)]
    simp only [pure_bind, List.map_id']
    show eqD (d (l.filter fun x => !decide (x ∈ who))) (d ([] : List Str)) = _
    rw [eqD_v (fun x hx => az_ok (hs l hm x (List.mem_filter.mp hx).1).az) (fun x hx => absurd hx List.not_mem_nil) (by
      have := dmL_le (k := 0) (xs := l.filter fun x => !decide (x ∈ who)) fun x _ => Nat.le_refl _
      show dmL _ + 1 ≤ 64
      omega) (by decide)]
    congr 1
    rw [Bool.eq_iff_iff, eqB_iff, List.filter_eq_nil_iff, List.all_eq_true]
    exact ⟨fun h x hx => by have := h x hx; simpa using this, fun h x hx => by have := h x hx; simpa using this⟩
  rw [lcM_fil (t := fun l => l.all fun x => decide (x ∈ who)) (g := fun l => l) (by omega) q1 (fun _ _ => rfl)]
  simp only [pure_bind, List.map_id']
  show neD (d (sets.filter fun l => l.all fun x => decide (x ∈ who))) (d ([] : List (List Str))) = _
  rw [neD_v (fun l hx x hx2 => az_ok (hs l (List.mem_filter.mp hx).1 x hx2).az) (fun x hx => absurd hx List.not_mem_nil) (by
    have := dmL_le (k := 1) (xs := sets.filter fun l => l.all fun x => decide (x ∈ who)) fun l _ => by
      show dmL l + 1 ≤ 1
      have := dmL_le (k := 0) (xs := l) fun x _ => Nat.le_refl _
      omega
    show dmL _ + 1 ≤ 64
    omega) (by decide)]
  congr 1
  unfold due
  rw [Bool.eq_iff_iff, Bool.not_eq_true', Bool.eq_false_iff, List.any_eq_true]
  constructor
  · intro h
    cases e : sets.filter fun l => l.all fun x => decide (x ∈ who) with
    | nil => exact absurd (by rw [e]; exact eqB_self _) h
    | cons a r =>
      have : a ∈ sets.filter fun l => l.all fun x => decide (x ∈ who) := by rw [e]; exact List.mem_cons_self
      exact ⟨a, (List.mem_filter.mp this).1, (List.mem_filter.mp this).2⟩
  · rintro ⟨l, h1, h2⟩ h
    have := eqB_iff.mp h
    exact List.filter_eq_nil_iff.mp this l h1 h2
end K42

set_option Elab.async false
set_option linter.all false
set_option maxRecDepth 100000
set_option maxHeartbeats 4000000
namespace K42
open PySem PySem.Spec PyProof.Rows L2 J N
open M
open ToD (d)
open ToDs (ds)
def nm6 (l : List Str) : Bool := decide (l.length = 6) && (decide l.Nodup && l.all fun s => decide (0 < s.length) && (decide (s.length < 9) && (TL.tl s).all fun c => decide (97 ≤ c ∧ c ≤ 122)))
theorem nm6_ok {l : List Str} (h : nm6 l = true) : l.length = 6 ∧ l.Nodup ∧ ∀ s ∈ l, NameOk s := by
  unfold nm6 at h
  rw [Bool.and_eq_true, Bool.and_eq_true, decide_eq_true_eq, decide_eq_true_eq, List.all_eq_true] at h
  exact ⟨h.1, h.2.1, fun s hs => const_name (h.2.2 s hs)⟩
theorem some_ok {i : Int} (h0 : 0 ≤ i) (h1 : i < 2) : ∃ l : List Str, nm6 l = true ∧ getM [[("ann" : Str), "bob", "cid", "dan", "eve", "fay"], ["a", "ab", "abc", "b", "no", "yes"]] i = pure l := by
  obtain ⟨l, hl, e⟩ := getM_in (xs := [[("ann" : Str), "bob", "cid", "dan", "eve", "fay"], ["a", "ab", "abc", "b", "no", "yes"]]) h0 h1
  have all : ∀ l ∈ [[("ann" : Str), "bob", "cid", "dan", "eve", "fay"], ["a", "ab", "abc", "b", "no", "yes"]], nm6 l = true := by decide +kernel
  exact ⟨l, all l hl, e⟩
theorem law_tri (k : Int) : TriT (B_law k) (fun a => a = .nx ()) := by
  unfold B_law m__law_pick
  simp only [pure_bind, bind_assoc]
  refine tt_pick (by decide) (by decide) fun i i0 i1 => ?_
  obtain ⟨some, hsome, e⟩ := some_ok i0 i1
  rw [e]
  simp only [pure_bind]
  obtain ⟨s6, snd, sok⟩ := nm6_ok hsome
  refine tt_bind (mixed_ok (xs := some) (by omega)) fun order ho => ?_
  refine tt_pick (by decide) (by decide) fun j j0 j1 => ?_
  obtain ⟨j, rfl⟩ := Int.eq_ofNat_of_zero_le j0
  rw [show (1 : Int) + (j : Int) = ((1 + j : Nat) : Int) by push_cast; rfl, cutL_to]
  have sub : (order.take (1 + j)).Sublist order := List.take_sublist _ _
  have ol := ho.length_eq
  have hf : Folk (order.take (1 + j)) := ⟨by rw [List.length_take]; omega, by rw [List.length_take]; omega, (ho.nodup_iff.mpr snd).sublist sub, fun p hp => sok p (ho.mem_iff.mp (sub.subset hp))⟩
  generalize order.take (1 + j) = folk at *
  rw [rng1_ok (by decide) (by decide)]
  simp only [pure_bind]
  have sf := sort_folk hf
  have p6 := hf.six
  have emf : folk.map (Co.co (α := Str) (β := Str)) = folk := List.map_id folk
  unfold after
  refine tt_bind (tt_for (rng 0 3) fun lap _ => ?_) fun z hz => ?_
  · refine tt_bind (drawn_ok hf) fun sets hs => ?_
    have few := hs.few
    have lotlen : ∀ l ∈ sets, l.length ≤ 6 := fun l hl => by
      have := nd_le (hs.nd l hl) (hs.sub l hl)
      omega
    refine tt_bind (tt_lc (P := fun l (y : Sq Str) => y.xs = l) (by omega) (fun _ _ => rfl) fun l _ => either_ok l) fun given hg => ?_
    have eg := al_xs hg
    have gl := hg.len
    have gmem : ∀ x ∈ given, x.xs ∈ sets := fun x hx => by rw [← eg]; exact List.mem_map.mpr ⟨x, hx, rfl⟩
    refine tt_pick (by decide) (by decide) fun h h0 h1 => ?_
    obtain ⟨handed, hh, eh⟩ := either_at folk h0 h1
    rw [eh]
    simp only [pure_bind]
    obtain ⟨y, hy⟩ := repr_ok (given := given) (handed := handed) (fun x hx => ⟨fun n hn => hf.ok n (hs.sub _ (gmem x hx) n hn), lotlen _ (gmem x hx)⟩) (by omega) (by rw [hh]; exact ⟨hf.ok, p6⟩)
    rw [hy]
    simp only [pure_bind]
    have fo := family_ok (people := handed) (sets := given) (by rw [hh]; exact hf) (by rw [eg, hh]; exact ⟨by omega, hs.nd, hs.sub⟩)
    rw [eg, hh] at fo
    rw [fo]
    simp only [M.lft_ok, pure_bind, decide_true, Bool.not_true, Bool.false_eq_true, ↓reduceIte]
    have hin : ∀ l ∈ sets, ∀ x ∈ l, x ∈ sortT folk := fun l hl x hx => sortT_mem.mpr (hs.sub l hl x hx)
    have ll := live_le (sortT folk) sets
    have sl := sf.six
    have slen : (sortT folk).length = folk.length := ((List.perm_ext_iff_of_nodup (sortT_nodup folk) hf.nd).mpr fun k => sortT_mem).length_eq
    rw [fair_ok (people := sortT folk) (folk := folk) (fun p hp => sortT_mem.mp hp) 8 8 sets (folk.length : Int) (by omega) (by omega) (by omega) hin]
    simp only [M.lft_ok, pure_bind, Bool.not_true, Bool.false_eq_true, ↓reduceIte]
    obtain ⟨L, hL⟩ := lots_ok p6
    rw [hL]
    simp only [M.lft_ok, pure_bind]
    rw [forM_nx L fun who _ => ?_]
    · simp only [pure_bind]
      exact tt_pure rfl
    · refine (bind_assoc _ _ _).symm.trans ?_
      rw [due_ok (who := who) rfl (fun l hl x hx => hf.ok x (hs.sub l hl x hx)) (fun l hl => by have := lotlen l hl; omega) (by omega)]
      simp only [pure_bind]
      rw [yes_ok 8 8 sets (by omega) (by omega) hin, df_yes who (sortT folk) 8 sets (by omega) hin]
      simp only [M.lft_ok, pure_bind, decide_true, Bool.not_true, Bool.false_eq_true, ↓reduceIte]
  · subst hz
    dsimp only
    have f1 := family_ok (people := (Co.co folk : Sq Str)) (sets := []) (by show Folk (folk.map _); rw [emf]; exact hf) ⟨by decide, fun l hl => absurd hl List.not_mem_nil, fun l hl => absurd hl List.not_mem_nil⟩
    have f2 := family_ok (people := (Co.co folk : Sq Str)) (sets := [(Co.co folk : Sq Str), (Co.co (VT.mk [] : VT Str) : Sq Str)]) (by show Folk (folk.map _); rw [emf]; exact hf) ⟨by show 2 ≤ 20; decide, fun l hl => by
      rcases List.mem_cons.mp hl with rfl | hl
      · show (folk.map _).Nodup; rw [emf]; exact hf.nd
      · rw [List.mem_singleton.mp hl]; exact List.nodup_nil, fun l hl => by
      rcases List.mem_cons.mp hl with rfl | hl
      · exact fun x hx => hx
      · rw [List.mem_singleton.mp hl]; exact fun x hx => absurd hx List.not_mem_nil⟩
    have d1 : df 8 (sortT (Co.co folk : Sq Str).xs) (([] : List (Sq Str)).map (·.xs)) = .s "no" := by rw [df]; exact if_pos rfl
    have d2 : df 8 (sortT (Co.co folk : Sq Str).xs) ([(Co.co folk : Sq Str), (Co.co (VT.mk [] : VT Str) : Sq Str)].map (·.xs)) = .s "yes" := by
      rw [List.map_cons, List.map_cons, List.map_nil, df, if_neg (List.cons_ne_nil _ _), if_pos]
      exact List.mem_cons_of_mem _ (List.mem_singleton.mpr rfl)
    rw [d1] at f1
    rw [d2] at f2
    rw [f1, f2, end_ok no_name, end_ok yes_name]
    simp only [M.lft_ok, pure_bind]
    rw [eq_same, eq_same]
    simp only [strict_lft, strict_pure, M.lft_ok, pure_bind, Bool.not_true, Bool.false_eq_true, ↓reduceIte]
    exact tt_pure rfl
theorem law_ok : ∀ (k : Int) (b : Bx), InvT b → ∃ b', B_law k b = (b', .ok (.nx ())) := fun k b hb => by
  obtain ⟨a, b', e, rfl, _⟩ := law_tri k b hb
  exact ⟨b', e⟩
end K42

set_option Elab.async false
set_option linter.all false
set_option maxRecDepth 100000
set_option maxHeartbeats 4000000
namespace K42
open PySem PySem.Spec PyProof.Rows L2 J N
open M
open ToD (d)
open ToDs (ds)
section
variable {P : Program} {w : World} {K : PySem.W.Frag} {h : Heap} {mg : Str → Option Value} {fa : Addr}
theorem facts (X : K.In h) (G : h.Ns mainGlobals mg) (hfa : mg ("law" : Str) = some (.ref fa)) (c : SaysK bf fn K) :
    ∃ fd : FuncData, (∀ (s : Shared) (v : Value), BindsTo s fd ⟨[v], []⟩ [("_law_script", v)]) ∧ ∀ base : Heap, K.In base → base.Ns mainGlobals mg → FnG P w K mg base CX0 21 fa fd ["_law_script"] (spLaw K) := by
  have TD := derrB_ok X G (c.fact 0 (b := derrB) rfl)
  have cb := (c.fact 1 (b := clsB) rfl)
  have EN_ByZero := errB_ok X G (c.fact 2 (b := errB "ByZero" "given") rfl)
  have EN_BadNumber := errB_ok X G (c.fact 3 (b := errB "BadNumber" "given") rfl)
  have EN_BadName := errB_ok X G (c.fact 4 (b := errB "BadName" "given") rfl)
  have EN_BadKind := errB_ok X G (c.fact 5 (b := errB "BadKind" "given") rfl)
  have EN_BadGivers := errB_ok X G (c.fact 6 (b := errB "BadGivers" "given") rfl)
  have EN_Twice := errB_ok X G (c.fact 7 (b := errB "Twice" "person") rfl)
  have EN_BadShares := errB_ok X G (c.fact 8 (b := errB "BadShares" "given") rfl)
  have EN_BadStandIn := errB_ok X G (c.fact 9 (b := errB "BadStandIn" "given") rfl)
  have EN_BadDraws := errB_ok X G (c.fact 10 (b := errB "BadDraws" "given") rfl)
  have EN_TooMany := errB_ok X G (c.fact 11 (b := errB "TooMany" "count") rfl)
  have EN_BadFamily := errB_ok X G (c.fact 12 (b := errB "BadFamily" "given") rfl)
  have EN_BadNames := errB_ok X G (c.fact 13 (b := errB "BadNames" "given") rfl)
  have CJ_Ratio := clsJ_ok X G (c.fact 14 (b := clsJ "Ratio" ["above", "under"]) rfl)
  have a_Ratio_int := apartJ_ok (c.fact 15 (b := apartJ "Ratio" "int") rfl)
  have a_Ratio_bool := apartJ_ok (c.fact 16 (b := apartJ "Ratio" "bool") rfl)
  have a_Ratio_NoneType := apartJ_ok (c.fact 17 (b := apartJ "Ratio" "NoneType") rfl)
  have a_Ratio_str := apartJ_ok (c.fact 18 (b := apartJ "Ratio" "str") rfl)
  have a_Ratio_list := apartJ_ok (c.fact 19 (b := apartJ "Ratio" "list") rfl)
  have a_Ratio_tuple := apartJ_ok (c.fact 20 (b := apartJ "Ratio" "tuple") rfl)
  have a_Ratio_dict := apartJ_ok (c.fact 21 (b := apartJ "Ratio" "dict") rfl)
  have CJ_End := clsJ_ok X G (c.fact 22 (b := clsJ "End" ["words", "whole", "title"]) rfl)
  have a_End_int := apartJ_ok (c.fact 23 (b := apartJ "End" "int") rfl)
  have a_End_bool := apartJ_ok (c.fact 24 (b := apartJ "End" "bool") rfl)
  have a_End_NoneType := apartJ_ok (c.fact 25 (b := apartJ "End" "NoneType") rfl)
  have a_End_str := apartJ_ok (c.fact 26 (b := apartJ "End" "str") rfl)
  have a_End_list := apartJ_ok (c.fact 27 (b := apartJ "End" "list") rfl)
  have a_End_tuple := apartJ_ok (c.fact 28 (b := apartJ "End" "tuple") rfl)
  have a_End_dict := apartJ_ok (c.fact 29 (b := apartJ "End" "dict") rfl)
  have CJ_Round := clsJ_ok X G (c.fact 30 (b := clsJ "Round" ["words", "whole", "manner", "seats", "steps", "further"]) rfl)
  have a_Round_int := apartJ_ok (c.fact 31 (b := apartJ "Round" "int") rfl)
  have a_Round_bool := apartJ_ok (c.fact 32 (b := apartJ "Round" "bool") rfl)
  have a_Round_NoneType := apartJ_ok (c.fact 33 (b := apartJ "Round" "NoneType") rfl)
  have a_Round_str := apartJ_ok (c.fact 34 (b := apartJ "Round" "str") rfl)
  have a_Round_list := apartJ_ok (c.fact 35 (b := apartJ "Round" "list") rfl)
  have a_Round_tuple := apartJ_ok (c.fact 36 (b := apartJ "Round" "tuple") rfl)
  have a_Round_dict := apartJ_ok (c.fact 37 (b := apartJ "Round" "dict") rfl)
  have a_Draw_int := apartJ_ok (c.fact 38 (b := apartJ "Draw" "int") rfl)
  have a_Draw_bool := apartJ_ok (c.fact 39 (b := apartJ "Draw" "bool") rfl)
  have a_Draw_NoneType := apartJ_ok (c.fact 40 (b := apartJ "Draw" "NoneType") rfl)
  have a_Draw_str := apartJ_ok (c.fact 41 (b := apartJ "Draw" "str") rfl)
  have a_Draw_list := apartJ_ok (c.fact 42 (b := apartJ "Draw" "list") rfl)
  have a_Draw_tuple := apartJ_ok (c.fact 43 (b := apartJ "Draw" "tuple") rfl)
  have a_Draw_dict := apartJ_ok (c.fact 44 (b := apartJ "Draw" "dict") rfl)
  have CI_Draw := clsIB_ok X G (c.fact 45 (b := clsIB "Draw") rfl)
  have OW := ownJ_ok (c.fact 46 (b := ownJ "Ratio") rfl)
  have o_add := opJ_ok (c.fact 47 (b := opJ "Ratio" "add") rfl)
  have o_sub := opJ_ok (c.fact 48 (b := opJ "Ratio" "sub") rfl)
  have o_mul := opJ_ok (c.fact 49 (b := opJ "Ratio" "mul") rfl)
  have v_kT_Ratio : ∀ T ∈ (["int", "bool", "NoneType", "str", "list", "tuple", "dict"] : List String), PySem.W.kitOne K (.type T) (.ref (He.ga K "Ratio")) = some false := by
    intro x hx
    simp only [List.mem_cons, List.not_mem_nil, or_false] at hx
    rcases hx with rfl | rfl | rfl | rfl | rfl | rfl | rfl
    · exact a_Ratio_int.k1
    · exact a_Ratio_bool.k1
    · exact a_Ratio_NoneType.k1
    · exact a_Ratio_str.k1
    · exact a_Ratio_list.k1
    · exact a_Ratio_tuple.k1
    · exact a_Ratio_dict.k1
  have v_insc : ∀ c ∈ (["Ratio", "End", "Round"] : List Str), InsC K c := by
    intro x hx
    simp only [List.mem_cons, List.not_mem_nil, or_false] at hx
    rcases hx with rfl | rfl | rfl
    · exact ⟨CJ_Ratio.cl, CJ_Ratio.c1, CJ_Ratio.c2, CJ_Ratio.c3, CJ_Ratio.c4⟩
    · exact ⟨CJ_End.cl, CJ_End.c1, CJ_End.c2, CJ_End.c3, CJ_End.c4⟩
    · exact ⟨CJ_Round.cl, CJ_Round.c1, CJ_Round.c2, CJ_Round.c3, CJ_Round.c4⟩
  have v_nt_int : NoTy K ["Ratio", "End", "Round"] "int" := by
    intro x hx
    simp only [List.mem_cons, List.not_mem_nil, or_false] at hx
    rcases hx with rfl | rfl | rfl
    · exact a_Ratio_int.k2
    · exact a_End_int.k2
    · exact a_Round_int.k2
  have v_nt_bool : NoTy K ["Ratio", "End", "Round"] "bool" := by
    intro x hx
    simp only [List.mem_cons, List.not_mem_nil, or_false] at hx
    rcases hx with rfl | rfl | rfl
    · exact a_Ratio_bool.k2
    · exact a_End_bool.k2
    · exact a_Round_bool.k2
  have v_nt_str : NoTy K ["Ratio", "End", "Round"] "str" := by
    intro x hx
    simp only [List.mem_cons, List.not_mem_nil, or_false] at hx
    rcases hx with rfl | rfl | rfl
    · exact a_Ratio_str.k2
    · exact a_End_str.k2
    · exact a_Round_str.k2
  have v_nt_list : NoTy K ["Ratio", "End", "Round"] "list" := by
    intro x hx
    simp only [List.mem_cons, List.not_mem_nil, or_false] at hx
    rcases hx with rfl | rfl | rfl
    · exact a_Ratio_list.k2
    · exact a_End_list.k2
    · exact a_Round_list.k2
  have v_nt_tuple : NoTy K ["Ratio", "End", "Round"] "tuple" := by
    intro x hx
    simp only [List.mem_cons, List.not_mem_nil, or_false] at hx
    rcases hx with rfl | rfl | rfl
    · exact a_Ratio_tuple.k2
    · exact a_End_tuple.k2
    · exact a_Round_tuple.k2
  have v_nt_dict : NoTy K ["Ratio", "End", "Round"] "dict" := by
    intro x hx
    simp only [List.mem_cons, List.not_mem_nil, or_false] at hx
    rcases hx with rfl | rfl | rfl
    · exact a_Ratio_dict.k2
    · exact a_End_dict.k2
    · exact a_Round_dict.k2
  have v_kT_Draw : ∀ T ∈ (["int", "bool", "NoneType", "str", "list", "tuple", "dict"] : List String), PySem.W.kitOne K (.type T) (.ref (He.ga K "Draw")) = some false := by
    intro x hx
    simp only [List.mem_cons, List.not_mem_nil, or_false] at hx
    rcases hx with rfl | rfl | rfl | rfl | rfl | rfl | rfl
    · exact a_Draw_int.k1
    · exact a_Draw_bool.k1
    · exact a_Draw_NoneType.k1
    · exact a_Draw_str.k1
    · exact a_Draw_list.k1
    · exact a_Draw_tuple.k1
    · exact a_Draw_dict.k1
  have kq_End_Ratio := of_decide_eq_true (c.fact 50 (b := kitB0 "End" "Ratio") rfl)
  have kq_Round_Ratio := of_decide_eq_true (c.fact 51 (b := kitB0 "Round" "Ratio") rfl)
  have v_bl_Ratio : ∀ c ∈ (["Ratio", "End", "Round"] : List Str), PySem.W.kitOne K (.ref (He.ga K c)) (.ref (He.ga K "Ratio")) = some (decide (c ∈ (["Ratio"] : List Str))) := by
    intro x hx
    simp only [List.mem_cons, List.not_mem_nil, or_false] at hx
    rcases hx with rfl | rfl | rfl
    · exact kit_self
    · exact kq_End_Ratio
    · exact kq_Round_Ratio
  have kq_Ratio_Draw := of_decide_eq_true (c.fact 52 (b := kitB0 "Ratio" "Draw") rfl)
  have kq_End_Draw := of_decide_eq_true (c.fact 53 (b := kitB "End" "Draw") rfl)
  have kq_Round_Draw := of_decide_eq_true (c.fact 54 (b := kitB "Round" "Draw") rfl)
  have v_bl_Draw : ∀ c ∈ (["Ratio", "End", "Round"] : List Str), PySem.W.kitOne K (.ref (He.ga K c)) (.ref (He.ga K "Draw")) = some (decide (c ∈ (["End", "Round"] : List Str))) := by
    intro x hx
    simp only [List.mem_cons, List.not_mem_nil, or_false] at hx
    rcases hx with rfl | rfl | rfl
    · exact kq_Ratio_Draw
    · exact kq_End_Draw
    · exact kq_Round_Draw
  have v_clV_D : ∀ c ∈ (["End", "Round"] : List Str), Cls K (He.ga K c) := by
    intro x hx
    simp only [List.mem_cons, List.not_mem_nil, or_false] at hx
    rcases hx with rfl | rfl
    · exact CJ_End.cl
    · exact CJ_Round.cl
  have v_clV_R : ∀ c ∈ (["Round"] : List Str), Cls K (He.ga K c) := by
    intro x hx
    simp only [List.mem_cons, List.not_mem_nil, or_false] at hx
    rcases hx with rfl
    · exact CJ_Round.cl
  have sb_End_Round := of_decide_eq_true (c.fact 55 (b := subB0 "End" "Round") rfl)
  have sb_Round_End := of_decide_eq_true (c.fact 56 (b := subB0 "Round" "End") rfl)
  have v_apV : ApartV K ["End", "Round"] := by
    intro x hx y hy
    simp only [List.mem_cons, List.not_mem_nil, or_false] at hx hy
    rcases hx with rfl | rfl <;> rcases hy with rfl | rfl
    · exact .inl rfl
    · exact .inr sb_Round_End
    · exact .inr sb_End_Round
    · exact .inl rfl
  have ne_End := nejB_ok (c.fact 57 (b := nejB "End") rfl)
  have ne_Round := nejB_ok (c.fact 58 (b := nejB "Round") rfl)
  have v_neV : ∀ c ∈ (["End", "Round"] : List Str), NeC K (He.ga K c) := by
    intro x hx
    simp only [List.mem_cons, List.not_mem_nil, or_false] at hx
    rcases hx with rfl | rfl
    · exact ne_End
    · exact ne_Round
  have ne_Ratio := nejB_ok (c.fact 59 (b := nejB "Ratio") rfl)
  have v_kc_End_Draw := of_decide_eq_true (c.fact 53 (b := kitB "End" "Draw") rfl)
  have v_kc_Round_Draw := of_decide_eq_true (c.fact 54 (b := kitB "Round" "Draw") rfl)
  have v_kc_End_Round := of_decide_eq_true (c.fact 60 (b := kitB0 "End" "Round") rfl)
  have v_kc_Round_End := of_decide_eq_true (c.fact 61 (b := kitB0 "Round" "End") rfl)
  have v_g_LETTERS := strB_ok X G (c.fact 62 (b := strB "LETTERS" "abcdefghijklmnopqrstuvwxyz") rfl)
  have v_g_MOST_ROWS := intB_ok X G (c.fact 63 (b := intB "MOST_ROWS" 16) rfl)
  have v_g_KINDS := tupB_ok X G (c.fact 64 (b := tupB "KINDS" [("open" : Str), ("sealed" : Str), ("held" : Str), ("last" : Str)]) rfl)
  have v_m_abs := freeB_ok X G (c.fact 65 (b := freeB "abs") rfl)
  have v_m_len := freeB_ok X G (c.fact 66 (b := freeB "len") rfl)
  have v_m_int := freeB_ok X G (c.fact 67 (b := freeB "int") rfl)
  have v_m_bool := freeB_ok X G (c.fact 68 (b := freeB "bool") rfl)
  have v_m_str := freeB_ok X G (c.fact 69 (b := freeB "str") rfl)
  have v_m_min := freeB_ok X G (c.fact 70 (b := freeB "min") rfl)
  have v_m_max := freeB_ok X G (c.fact 71 (b := freeB "max") rfl)
  have v_m_range := freeB_ok X G (c.fact 72 (b := freeB "range") rfl)
  have v_m_repr := freeB_ok X G (c.fact 73 (b := freeB "repr") rfl)
  have v_m_all := freeB_ok X G (c.fact 74 (b := freeB "all") rfl)
  have v_m_any := freeB_ok X G (c.fact 75 (b := freeB "any") rfl)
  have v_m_isinstance := freeB_ok X G (c.fact 76 (b := freeB "isinstance") rfl)
  have v_m_tuple := freeB_ok X G (c.fact 77 (b := freeB "tuple") rfl)
  have v_m_list := freeB_ok X G (c.fact 78 (b := freeB "list") rfl)
  have v_m_sorted := freeB_ok X G (c.fact 79 (b := freeB "sorted") rfl)
  have v_m_zip := freeB_ok X G (c.fact 80 (b := freeB "zip") rfl)
  have v_g_HALF := intB_ok X G (c.fact 81 (b := intB "HALF" 2) rfl)
  have v_g_MOST_PEOPLE := intB_ok X G (c.fact 82 (b := intB "MOST_PEOPLE" 6) rfl)
  have g_common_part := gloB_ok X G (c.fact 83 (b := gloB "common_part") rfl)
  have g_is_integer := gloB_ok X G (c.fact 84 (b := gloB "is_integer") rfl)
  have g_parts_of := gloB_ok X G (c.fact 85 (b := gloB "parts_of") rfl)
  have me_Ratio___add__ := methJ_ok (c.fact 86 (b := methJ "Ratio" "__add__") rfl)
  have me_Ratio___eq__ := methJ_ok (c.fact 87 (b := methJ "Ratio" "__eq__") rfl)
  have me_Ratio___str__ := methJ_ok (c.fact 88 (b := methJ "Ratio" "__str__") rfl)
  have me_Ratio_below := methJ_ok (c.fact 89 (b := methJ "Ratio" "below") rfl)
  have me_Ratio_text := methJ_ok (c.fact 90 (b := methJ "Ratio" "text") rfl)
  have g_is_number := gloB_ok X G (c.fact 91 (b := gloB "is_number") rfl)
  have g_as_ratio := gloB_ok X G (c.fact 92 (b := gloB "as_ratio") rfl)
  have g_total := gloB_ok X G (c.fact 93 (b := gloB "total") rfl)
  have g_is_name := gloB_ok X G (c.fact 94 (b := gloB "is_name") rfl)
  have g_is_listed := gloB_ok X G (c.fact 95 (b := gloB "is_listed") rfl)
  have g_rows_of := gloB_ok X G (c.fact 96 (b := gloB "rows_of") rfl)
  have me_End_Draw___eq__ := inhJ_ok (c.fact 97 (b := inhJ "End" "Draw" "__eq__") rfl)
  have me_Round_Draw___eq__ := inhJ_ok (c.fact 98 (b := inhJ "Round" "Draw" "__eq__") rfl)
  have me_End_Draw_text := inhJ_ok (c.fact 99 (b := inhJ "End" "Draw" "text") rfl)
  have me_Round_Draw_text := inhJ_ok (c.fact 100 (b := inhJ "Round" "Draw" "text") rfl)
  have pr_End_name := propJ_ok (c.fact 101 (b := propJ "End" "name") rfl)
  have pr_Round_kind := propJ_ok (c.fact 102 (b := propJ "Round" "kind") rfl)
  have pr_Round_givers := propJ_ok (c.fact 103 (b := propJ "Round" "givers") rfl)
  have pr_Round_draws := propJ_ok (c.fact 104 (b := propJ "Round" "draws") rfl)
  have g_are_givers := gloB_ok X G (c.fact 105 (b := gloB "are_givers") rfl)
  have g_are_shares := gloB_ok X G (c.fact 106 (b := gloB "are_shares") rfl)
  have g_checked_seat := gloB_ok X G (c.fact 107 (b := gloB "checked_seat") rfl)
  have g_seat_text := gloB_ok X G (c.fact 108 (b := gloB "seat_text") rfl)
  have g_are_names := gloB_ok X G (c.fact 109 (b := gloB "are_names") rfl)
  have g_fair_turn := gloB_ok X G (c.fact 110 (b := gloB "fair_turn") rfl)
  have g_draw_for := gloB_ok X G (c.fact 111 (b := gloB "draw_for") rfl)
  have g_family_draw := gloB_ok X G (c.fact 112 (b := gloB "family_draw") rfl)
  have g__law_pick := gloB_ok X G (c.fact 113 (b := gloB "_law_pick") rfl)
  have g__law_mixed := gloB_ok X G (c.fact 114 (b := gloB "_law_mixed") rfl)
  have g__law_lots := gloB_ok X G (c.fact 115 (b := gloB "_law_lots") rfl)
  have g__law_is_fair := gloB_ok X G (c.fact 116 (b := gloB "_law_is_fair") rfl)
  have g__law_yes := gloB_ok X G (c.fact 117 (b := gloB "_law_yes") rfl)
  have g__law_drawn_sets := gloB_ok X G (c.fact 118 (b := gloB "_law_drawn_sets") rfl)
  have g__law_tape := gloB_ok X G (c.fact 119 (b := gloB "_law_tape") rfl)
  have g_law := gloB_ok X G (c.fact 120 (b := gloB "law") rfl)
  obtain ⟨fd_ByZero___init__, F0_ByZero___init__⟩ := c.def_ 0
  have F_ByZero___init__ : FunD K "__init__" "ByZero.__init__" (defArgs s_ByZero___init__) (defBody s_ByZero___init__) (defScope s_ByZero___init__) [] [] (He.ma K (He.ga K "ByZero") "__init__") fd_ByZero___init__ := F0_ByZero___init__
  clear F0_ByZero___init__
  obtain ⟨fd_BadNumber___init__, F0_BadNumber___init__⟩ := c.def_ 1
  have F_BadNumber___init__ : FunD K "__init__" "BadNumber.__init__" (defArgs s_BadNumber___init__) (defBody s_BadNumber___init__) (defScope s_BadNumber___init__) [] [] (He.ma K (He.ga K "BadNumber") "__init__") fd_BadNumber___init__ := F0_BadNumber___init__
  clear F0_BadNumber___init__
  obtain ⟨fd_BadName___init__, F0_BadName___init__⟩ := c.def_ 2
  have F_BadName___init__ : FunD K "__init__" "BadName.__init__" (defArgs s_BadName___init__) (defBody s_BadName___init__) (defScope s_BadName___init__) [] [] (He.ma K (He.ga K "BadName") "__init__") fd_BadName___init__ := F0_BadName___init__
  clear F0_BadName___init__
  obtain ⟨fd_BadKind___init__, F0_BadKind___init__⟩ := c.def_ 3
  have F_BadKind___init__ : FunD K "__init__" "BadKind.__init__" (defArgs s_BadKind___init__) (defBody s_BadKind___init__) (defScope s_BadKind___init__) [] [] (He.ma K (He.ga K "BadKind") "__init__") fd_BadKind___init__ := F0_BadKind___init__
  clear F0_BadKind___init__
  obtain ⟨fd_BadGivers___init__, F0_BadGivers___init__⟩ := c.def_ 4
  have F_BadGivers___init__ : FunD K "__init__" "BadGivers.__init__" (defArgs s_BadGivers___init__) (defBody s_BadGivers___init__) (defScope s_BadGivers___init__) [] [] (He.ma K (He.ga K "BadGivers") "__init__") fd_BadGivers___init__ := F0_BadGivers___init__
  clear F0_BadGivers___init__
  obtain ⟨fd_Twice___init__, F0_Twice___init__⟩ := c.def_ 5
  have F_Twice___init__ : FunD K "__init__" "Twice.__init__" (defArgs s_Twice___init__) (defBody s_Twice___init__) (defScope s_Twice___init__) [] [] (He.ma K (He.ga K "Twice") "__init__") fd_Twice___init__ := F0_Twice___init__
  clear F0_Twice___init__
  obtain ⟨fd_BadShares___init__, F0_BadShares___init__⟩ := c.def_ 6
  have F_BadShares___init__ : FunD K "__init__" "BadShares.__init__" (defArgs s_BadShares___init__) (defBody s_BadShares___init__) (defScope s_BadShares___init__) [] [] (He.ma K (He.ga K "BadShares") "__init__") fd_BadShares___init__ := F0_BadShares___init__
  clear F0_BadShares___init__
  obtain ⟨fd_BadStandIn___init__, F0_BadStandIn___init__⟩ := c.def_ 7
  have F_BadStandIn___init__ : FunD K "__init__" "BadStandIn.__init__" (defArgs s_BadStandIn___init__) (defBody s_BadStandIn___init__) (defScope s_BadStandIn___init__) [] [] (He.ma K (He.ga K "BadStandIn") "__init__") fd_BadStandIn___init__ := F0_BadStandIn___init__
  clear F0_BadStandIn___init__
  obtain ⟨fd_BadDraws___init__, F0_BadDraws___init__⟩ := c.def_ 8
  have F_BadDraws___init__ : FunD K "__init__" "BadDraws.__init__" (defArgs s_BadDraws___init__) (defBody s_BadDraws___init__) (defScope s_BadDraws___init__) [] [] (He.ma K (He.ga K "BadDraws") "__init__") fd_BadDraws___init__ := F0_BadDraws___init__
  clear F0_BadDraws___init__
  obtain ⟨fd_TooMany___init__, F0_TooMany___init__⟩ := c.def_ 9
  have F_TooMany___init__ : FunD K "__init__" "TooMany.__init__" (defArgs s_TooMany___init__) (defBody s_TooMany___init__) (defScope s_TooMany___init__) [] [] (He.ma K (He.ga K "TooMany") "__init__") fd_TooMany___init__ := F0_TooMany___init__
  clear F0_TooMany___init__
  obtain ⟨fd_BadFamily___init__, F0_BadFamily___init__⟩ := c.def_ 10
  have F_BadFamily___init__ : FunD K "__init__" "BadFamily.__init__" (defArgs s_BadFamily___init__) (defBody s_BadFamily___init__) (defScope s_BadFamily___init__) [] [] (He.ma K (He.ga K "BadFamily") "__init__") fd_BadFamily___init__ := F0_BadFamily___init__
  clear F0_BadFamily___init__
  obtain ⟨fd_BadNames___init__, F0_BadNames___init__⟩ := c.def_ 11
  have F_BadNames___init__ : FunD K "__init__" "BadNames.__init__" (defArgs s_BadNames___init__) (defBody s_BadNames___init__) (defScope s_BadNames___init__) [] [] (He.ma K (He.ga K "BadNames") "__init__") fd_BadNames___init__ := F0_BadNames___init__
  clear F0_BadNames___init__
  obtain ⟨fd_common_part, F0_common_part⟩ := c.def_ 12
  have F_common_part : FunD K "common_part" "common_part" (defArgs s_common_part) (defBody s_common_part) (defScope s_common_part) [] [] (He.ga K "common_part") fd_common_part := F0_common_part
  clear F0_common_part
  obtain ⟨fd_is_integer, F0_is_integer⟩ := c.def_ 13
  have F_is_integer : FunD K "is_integer" "is_integer" (defArgs s_is_integer) (defBody s_is_integer) (defScope s_is_integer) [] [] (He.ga K "is_integer") fd_is_integer := F0_is_integer
  clear F0_is_integer
  obtain ⟨fd_Ratio___init__, F0_Ratio___init__⟩ := c.def_ 14
  have F_Ratio___init__ : FunD K "__init__" "Ratio.__init__" (defArgs s_Ratio___init__) (defBody s_Ratio___init__) (defScope s_Ratio___init__) [.int 1] [] (He.ma K (He.ga K "Ratio") "__init__") fd_Ratio___init__ := F0_Ratio___init__
  clear F0_Ratio___init__
  obtain ⟨fd_parts_of, F0_parts_of⟩ := c.def_ 15
  have F_parts_of : FunD K "parts_of" "parts_of" (defArgs s_parts_of) (defBody s_parts_of) (defScope s_parts_of) [] [] (He.ga K "parts_of") fd_parts_of := F0_parts_of
  clear F0_parts_of
  obtain ⟨fd_Ratio___add__, F0_Ratio___add__⟩ := c.def_ 16
  have F_Ratio___add__ : FunD K "__add__" "Ratio.__add__" (defArgs s_Ratio___add__) (defBody s_Ratio___add__) (defScope s_Ratio___add__) [] [] (He.ma K (He.ga K "Ratio") "__add__") fd_Ratio___add__ := F0_Ratio___add__
  clear F0_Ratio___add__
  obtain ⟨fd_Ratio___eq__, F0_Ratio___eq__⟩ := c.def_ 17
  have F_Ratio___eq__ : FunD K "__eq__" "Ratio.__eq__" (defArgs s_Ratio___eq__) (defBody s_Ratio___eq__) (defScope s_Ratio___eq__) [] [] (He.ma K (He.ga K "Ratio") "__eq__") fd_Ratio___eq__ := F0_Ratio___eq__
  clear F0_Ratio___eq__
  obtain ⟨fd_Ratio___str__, F0_Ratio___str__⟩ := c.def_ 18
  have F_Ratio___str__ : FunD K "__str__" "Ratio.__str__" (defArgs s_Ratio___str__) (defBody s_Ratio___str__) (defScope s_Ratio___str__) [] [] (He.ma K (He.ga K "Ratio") "__str__") fd_Ratio___str__ := F0_Ratio___str__
  clear F0_Ratio___str__
  obtain ⟨fd_Ratio_below, F0_Ratio_below⟩ := c.def_ 19
  have F_Ratio_below : FunD K "below" "Ratio.below" (defArgs s_Ratio_below) (defBody s_Ratio_below) (defScope s_Ratio_below) [] [] (He.ma K (He.ga K "Ratio") "below") fd_Ratio_below := F0_Ratio_below
  clear F0_Ratio_below
  obtain ⟨fd_Ratio_text, F0_Ratio_text⟩ := c.def_ 20
  have F_Ratio_text : FunD K "text" "Ratio.text" (defArgs s_Ratio_text) (defBody s_Ratio_text) (defScope s_Ratio_text) [] [] (He.ma K (He.ga K "Ratio") "text") fd_Ratio_text := F0_Ratio_text
  clear F0_Ratio_text
  obtain ⟨fd_is_number, F0_is_number⟩ := c.def_ 21
  have F_is_number : FunD K "is_number" "is_number" (defArgs s_is_number) (defBody s_is_number) (defScope s_is_number) [] [] (He.ga K "is_number") fd_is_number := F0_is_number
  clear F0_is_number
  obtain ⟨fd_as_ratio, F0_as_ratio⟩ := c.def_ 22
  have F_as_ratio : FunD K "as_ratio" "as_ratio" (defArgs s_as_ratio) (defBody s_as_ratio) (defScope s_as_ratio) [] [] (He.ga K "as_ratio") fd_as_ratio := F0_as_ratio
  clear F0_as_ratio
  obtain ⟨fd_total, F0_total⟩ := c.def_ 23
  have F_total : FunD K "total" "total" (defArgs s_total) (defBody s_total) (defScope s_total) [] [] (He.ga K "total") fd_total := F0_total
  clear F0_total
  obtain ⟨fd_is_name, F0_is_name⟩ := c.def_ 24
  have F_is_name : FunD K "is_name" "is_name" (defArgs s_is_name) (defBody s_is_name) (defScope s_is_name) [] [] (He.ga K "is_name") fd_is_name := F0_is_name
  clear F0_is_name
  obtain ⟨fd_is_listed, F0_is_listed⟩ := c.def_ 25
  have F_is_listed : FunD K "is_listed" "is_listed" (defArgs s_is_listed) (defBody s_is_listed) (defScope s_is_listed) [] [] (He.ga K "is_listed") fd_is_listed := F0_is_listed
  clear F0_is_listed
  obtain ⟨fd_rows_of, F0_rows_of⟩ := c.def_ 26
  have F_rows_of : FunD K "rows_of" "rows_of" (defArgs s_rows_of) (defBody s_rows_of) (defScope s_rows_of) [] [] (He.ga K "rows_of") fd_rows_of := F0_rows_of
  clear F0_rows_of
  obtain ⟨fd_Draw___init__, F0_Draw___init__⟩ := c.def_ 27
  have F_Draw___init__ : FunD K "__init__" "Draw.__init__" (defArgs s_Draw___init__) (defBody s_Draw___init__) (defScope s_Draw___init__) [] [] (He.ma K (He.ga K "Draw") "__init__") fd_Draw___init__ := F0_Draw___init__
  clear F0_Draw___init__
  obtain ⟨fd_Draw___eq__, F0_Draw___eq__⟩ := c.def_ 28
  have F_Draw___eq__ : FunD K "__eq__" "Draw.__eq__" (defArgs s_Draw___eq__) (defBody s_Draw___eq__) (defScope s_Draw___eq__) [] [] (He.ma K (He.ga K "Draw") "__eq__") fd_Draw___eq__ := F0_Draw___eq__
  clear F0_Draw___eq__
  obtain ⟨fd_Draw_text, F0_Draw_text⟩ := c.def_ 29
  have F_Draw_text : FunD K "text" "Draw.text" (defArgs s_Draw_text) (defBody s_Draw_text) (defScope s_Draw_text) [] [] (He.ma K (He.ga K "Draw") "text") fd_Draw_text := F0_Draw_text
  clear F0_Draw_text
  obtain ⟨fd_End___init__, F0_End___init__⟩ := c.def_ 30
  have F_End___init__ : FunD K "__init__" "End.__init__" (defArgs s_End___init__) (defBody s_End___init__) (defScope s_End___init__) [] [] (He.ma K (He.ga K "End") "__init__") fd_End___init__ := F0_End___init__
  clear F0_End___init__
  obtain ⟨fd_End_name, F0_End_name⟩ := c.def_ 31
  have F_End_name : FunD K "name" "End.name" (defArgs s_End_name) (defBody s_End_name) (defScope s_End_name) [] [] (pa "End" "name" K) fd_End_name := F0_End_name
  clear F0_End_name
  obtain ⟨fd_Round_kind, F0_Round_kind⟩ := c.def_ 32
  have F_Round_kind : FunD K "kind" "Round.kind" (defArgs s_Round_kind) (defBody s_Round_kind) (defScope s_Round_kind) [] [] (pa "Round" "kind" K) fd_Round_kind := F0_Round_kind
  clear F0_Round_kind
  obtain ⟨fd_Round_givers, F0_Round_givers⟩ := c.def_ 33
  have F_Round_givers : FunD K "givers" "Round.givers" (defArgs s_Round_givers) (defBody s_Round_givers) (defScope s_Round_givers) [] [] (pa "Round" "givers" K) fd_Round_givers := F0_Round_givers
  clear F0_Round_givers
  obtain ⟨fd_Round_draws, F0_Round_draws⟩ := c.def_ 34
  have F_Round_draws : FunD K "draws" "Round.draws" (defArgs s_Round_draws) (defBody s_Round_draws) (defScope s_Round_draws) [] [] (pa "Round" "draws" K) fd_Round_draws := F0_Round_draws
  clear F0_Round_draws
  obtain ⟨fd_are_givers, F0_are_givers⟩ := c.def_ 35
  have F_are_givers : FunD K "are_givers" "are_givers" (defArgs s_are_givers) (defBody s_are_givers) (defScope s_are_givers) [] [] (He.ga K "are_givers") fd_are_givers := F0_are_givers
  clear F0_are_givers
  obtain ⟨fd_are_shares, F0_are_shares⟩ := c.def_ 36
  have F_are_shares : FunD K "are_shares" "are_shares" (defArgs s_are_shares) (defBody s_are_shares) (defScope s_are_shares) [] [] (He.ga K "are_shares") fd_are_shares := F0_are_shares
  clear F0_are_shares
  obtain ⟨fd_checked_seat, F0_checked_seat⟩ := c.def_ 37
  have F_checked_seat : FunD K "checked_seat" "checked_seat" (defArgs s_checked_seat) (defBody s_checked_seat) (defScope s_checked_seat) [] [] (He.ga K "checked_seat") fd_checked_seat := F0_checked_seat
  clear F0_checked_seat
  obtain ⟨fd_seat_text, F0_seat_text⟩ := c.def_ 38
  have F_seat_text : FunD K "seat_text" "seat_text" (defArgs s_seat_text) (defBody s_seat_text) (defScope s_seat_text) [] [] (He.ga K "seat_text") fd_seat_text := F0_seat_text
  clear F0_seat_text
  obtain ⟨fd_Round___init__, F0_Round___init__⟩ := c.def_ 39
  have F_Round___init__ : FunD K "__init__" "Round.__init__" (defArgs s_Round___init__) (defBody s_Round___init__) (defScope s_Round___init__) [] [] (He.ma K (He.ga K "Round") "__init__") fd_Round___init__ := F0_Round___init__
  clear F0_Round___init__
  obtain ⟨fd_are_names, F0_are_names⟩ := c.def_ 40
  have F_are_names : FunD K "are_names" "are_names" (defArgs s_are_names) (defBody s_are_names) (defScope s_are_names) [] [] (He.ga K "are_names") fd_are_names := F0_are_names
  clear F0_are_names
  obtain ⟨fd_fair_turn, F0_fair_turn⟩ := c.def_ 41
  have F_fair_turn : FunD K "fair_turn" "fair_turn" (defArgs s_fair_turn) (defBody s_fair_turn) (defScope s_fair_turn) [] [] (He.ga K "fair_turn") fd_fair_turn := F0_fair_turn
  clear F0_fair_turn
  obtain ⟨fd_draw_for, F0_draw_for⟩ := c.def_ 42
  have F_draw_for : FunD K "draw_for" "draw_for" (defArgs s_draw_for) (defBody s_draw_for) (defScope s_draw_for) [] [] (He.ga K "draw_for") fd_draw_for := F0_draw_for
  clear F0_draw_for
  obtain ⟨fd_family_draw, F0_family_draw⟩ := c.def_ 43
  have F_family_draw : FunD K "family_draw" "family_draw" (defArgs s_family_draw) (defBody s_family_draw) (defScope s_family_draw) [] [] (He.ga K "family_draw") fd_family_draw := F0_family_draw
  clear F0_family_draw
  obtain ⟨fd__law_pick, F0__law_pick⟩ := c.def_ 44
  have F__law_pick : FunD K "_law_pick" "_law_pick" (defArgs s__law_pick) (defBody s__law_pick) (defScope s__law_pick) [] [] (He.ga K "_law_pick") fd__law_pick := F0__law_pick
  clear F0__law_pick
  obtain ⟨fd__law_mixed, F0__law_mixed⟩ := c.def_ 45
  have F__law_mixed : FunD K "_law_mixed" "_law_mixed" (defArgs s__law_mixed) (defBody s__law_mixed) (defScope s__law_mixed) [] [] (He.ga K "_law_mixed") fd__law_mixed := F0__law_mixed
  clear F0__law_mixed
  obtain ⟨fd__law_lots, F0__law_lots⟩ := c.def_ 46
  have F__law_lots : FunD K "_law_lots" "_law_lots" (defArgs s__law_lots) (defBody s__law_lots) (defScope s__law_lots) [] [] (He.ga K "_law_lots") fd__law_lots := F0__law_lots
  clear F0__law_lots
  obtain ⟨fd__law_is_fair, F0__law_is_fair⟩ := c.def_ 47
  have F__law_is_fair : FunD K "_law_is_fair" "_law_is_fair" (defArgs s__law_is_fair) (defBody s__law_is_fair) (defScope s__law_is_fair) [] [] (He.ga K "_law_is_fair") fd__law_is_fair := F0__law_is_fair
  clear F0__law_is_fair
  obtain ⟨fd__law_yes, F0__law_yes⟩ := c.def_ 48
  have F__law_yes : FunD K "_law_yes" "_law_yes" (defArgs s__law_yes) (defBody s__law_yes) (defScope s__law_yes) [] [] (He.ga K "_law_yes") fd__law_yes := F0__law_yes
  clear F0__law_yes
  obtain ⟨fd__law_drawn_sets, F0__law_drawn_sets⟩ := c.def_ 49
  have F__law_drawn_sets : FunD K "_law_drawn_sets" "_law_drawn_sets" (defArgs s__law_drawn_sets) (defBody s__law_drawn_sets) (defScope s__law_drawn_sets) [] [] (He.ga K "_law_drawn_sets") fd__law_drawn_sets := F0__law_drawn_sets
  clear F0__law_drawn_sets
  obtain ⟨fd__law_tape, F0__law_tape⟩ := c.def_ 50
  have F__law_tape : FunD K "_law_tape" "_law_tape" (defArgs s__law_tape) (defBody s__law_tape) (defScope s__law_tape) [] [] (He.ga K "_law_tape") fd__law_tape := F0__law_tape
  clear F0__law_tape
  obtain ⟨fd_law, F0_law⟩ := c.def_ 51
  have F_law : FunD K "law" "law" (defArgs s_law) (defBody s_law) (defScope s_law) [] [] (He.ga K "law") fd_law := F0_law
  clear F0_law
  have e := hfa.symm.trans g_law
  cases e
  refine ⟨fd_law, fun s v => FunD.bindsA (ps := ["_law_script"]) F_law (fun _ _ _ _ _ _ us hl => match us, hl with | [_], _ => rfl) s [v] rfl, fun base _ _ => ?_⟩
  have v_e_ByZero : ErrZ0 P w K mg base "ByZero" := ⟨EN_ByZero, ⟨fd_ByZero___init__, ok_err0 F_ByZero___init__ rfl rfl (by decide) TD EN_ByZero.c.oex, F_ByZero___init__.bindsN fun _ _ _ _ _ _ us hl => match us, hl with | [_], _ => rfl⟩, by decide⟩
  have v_e_BadNumber : ErrZ P w K mg base "BadNumber" "given" := ⟨EN_BadNumber, ⟨fd_BadNumber___init__, ok_err F_BadNumber___init__ rfl rfl (by decide) (by decide) (by decide) (by decide) (by decide) TD EN_BadNumber.c.oex EN_BadNumber.nof, F_BadNumber___init__.bindsN fun _ _ _ _ _ _ us hl => match us, hl with | [_, _], _ => rfl⟩, by decide⟩
  have v_e_BadName : ErrZ P w K mg base "BadName" "given" := ⟨EN_BadName, ⟨fd_BadName___init__, ok_err F_BadName___init__ rfl rfl (by decide) (by decide) (by decide) (by decide) (by decide) TD EN_BadName.c.oex EN_BadName.nof, F_BadName___init__.bindsN fun _ _ _ _ _ _ us hl => match us, hl with | [_, _], _ => rfl⟩, by decide⟩
  have v_e_BadKind : ErrZ P w K mg base "BadKind" "given" := ⟨EN_BadKind, ⟨fd_BadKind___init__, ok_err F_BadKind___init__ rfl rfl (by decide) (by decide) (by decide) (by decide) (by decide) TD EN_BadKind.c.oex EN_BadKind.nof, F_BadKind___init__.bindsN fun _ _ _ _ _ _ us hl => match us, hl with | [_, _], _ => rfl⟩, by decide⟩
  have v_e_BadGivers : ErrZ P w K mg base "BadGivers" "given" := ⟨EN_BadGivers, ⟨fd_BadGivers___init__, ok_err F_BadGivers___init__ rfl rfl (by decide) (by decide) (by decide) (by decide) (by decide) TD EN_BadGivers.c.oex EN_BadGivers.nof, F_BadGivers___init__.bindsN fun _ _ _ _ _ _ us hl => match us, hl with | [_, _], _ => rfl⟩, by decide⟩
  have v_e_Twice : ErrZ P w K mg base "Twice" "person" := ⟨EN_Twice, ⟨fd_Twice___init__, ok_err F_Twice___init__ rfl rfl (by decide) (by decide) (by decide) (by decide) (by decide) TD EN_Twice.c.oex EN_Twice.nof, F_Twice___init__.bindsN fun _ _ _ _ _ _ us hl => match us, hl with | [_, _], _ => rfl⟩, by decide⟩
  have v_e_BadShares : ErrZ P w K mg base "BadShares" "given" := ⟨EN_BadShares, ⟨fd_BadShares___init__, ok_err F_BadShares___init__ rfl rfl (by decide) (by decide) (by decide) (by decide) (by decide) TD EN_BadShares.c.oex EN_BadShares.nof, F_BadShares___init__.bindsN fun _ _ _ _ _ _ us hl => match us, hl with | [_, _], _ => rfl⟩, by decide⟩
  have v_e_BadStandIn : ErrZ P w K mg base "BadStandIn" "given" := ⟨EN_BadStandIn, ⟨fd_BadStandIn___init__, ok_err F_BadStandIn___init__ rfl rfl (by decide) (by decide) (by decide) (by decide) (by decide) TD EN_BadStandIn.c.oex EN_BadStandIn.nof, F_BadStandIn___init__.bindsN fun _ _ _ _ _ _ us hl => match us, hl with | [_, _], _ => rfl⟩, by decide⟩
  have v_e_BadDraws : ErrZ P w K mg base "BadDraws" "given" := ⟨EN_BadDraws, ⟨fd_BadDraws___init__, ok_err F_BadDraws___init__ rfl rfl (by decide) (by decide) (by decide) (by decide) (by decide) TD EN_BadDraws.c.oex EN_BadDraws.nof, F_BadDraws___init__.bindsN fun _ _ _ _ _ _ us hl => match us, hl with | [_, _], _ => rfl⟩, by decide⟩
  have v_e_TooMany : ErrZ P w K mg base "TooMany" "count" := ⟨EN_TooMany, ⟨fd_TooMany___init__, ok_err F_TooMany___init__ rfl rfl (by decide) (by decide) (by decide) (by decide) (by decide) TD EN_TooMany.c.oex EN_TooMany.nof, F_TooMany___init__.bindsN fun _ _ _ _ _ _ us hl => match us, hl with | [_, _], _ => rfl⟩, by decide⟩
  have v_e_BadFamily : ErrZ P w K mg base "BadFamily" "given" := ⟨EN_BadFamily, ⟨fd_BadFamily___init__, ok_err F_BadFamily___init__ rfl rfl (by decide) (by decide) (by decide) (by decide) (by decide) TD EN_BadFamily.c.oex EN_BadFamily.nof, F_BadFamily___init__.bindsN fun _ _ _ _ _ _ us hl => match us, hl with | [_, _], _ => rfl⟩, by decide⟩
  have v_e_BadNames : ErrZ P w K mg base "BadNames" "given" := ⟨EN_BadNames, ⟨fd_BadNames___init__, ok_err F_BadNames___init__ rfl rfl (by decide) (by decide) (by decide) (by decide) (by decide) TD EN_BadNames.c.oex EN_BadNames.nof, F_BadNames___init__.bindsN fun _ _ _ _ _ _ us hl => match us, hl with | [_, _], _ => rfl⟩, by decide⟩
  have T : TT P w K mg base := ⟨CJ_Ratio.cl, CJ_Ratio.no _ (by simp), CJ_Ratio.no _ (by simp), CJ_Ratio.g, TD.gD, ⟨OW.1, a_Ratio_int.ap, o_add, o_sub, o_mul⟩, v_e_ByZero, v_kT_Ratio, ⟨CJ_End.cl, CJ_End.no _ (by simp)⟩, ⟨CJ_Round.cl, CJ_Round.no _ (by simp)⟩, ⟨CJ_End.cl, CJ_End.no _ (by simp)⟩, ⟨CJ_Round.cl, CJ_Round.no _ (by simp)⟩, ⟨CJ_End.cl, CJ_End.no _ (by simp)⟩, ⟨CJ_Round.cl, CJ_Round.no _ (by simp)⟩, ⟨CJ_Round.cl, CJ_Round.no _ (by simp)⟩, ⟨CJ_Round.cl, CJ_Round.no _ (by simp)⟩, ⟨CJ_Round.cl, CJ_Round.no _ (by simp)⟩, v_insc, v_nt_int, v_nt_bool, v_nt_str, v_nt_list, v_nt_tuple, v_nt_dict, v_kT_Draw, v_bl_Ratio, v_bl_Draw, v_clV_D, v_clV_R, v_apV, v_neV, ne_Ratio, a_Ratio_int.ap.a, CJ_End.cl, CJ_Round.cl, v_kc_End_Draw, v_kc_Round_Draw, v_kc_End_Round, v_kc_Round_End, CI_Draw.g, CJ_End.g, CJ_Round.g, v_g_LETTERS, v_g_MOST_ROWS, v_g_KINDS, v_m_abs, v_m_len, v_m_int, v_m_bool, v_m_str, v_m_min, v_m_max, v_m_range, v_m_repr, v_m_all, v_m_any, v_m_isinstance, v_m_tuple, v_m_list, v_m_sorted, v_m_zip, v_e_BadNumber, v_e_BadName, v_e_BadKind, v_e_BadGivers, v_e_Twice, v_e_BadShares, v_e_BadStandIn, v_e_BadDraws, v_e_TooMany, v_e_BadFamily, v_e_BadNames, v_g_HALF, v_g_MOST_PEOPLE⟩
  have FI_common_part := ok_common_part (P := P) (w := w) (base := base) F_common_part T 
  have FI_is_integer := ok_is_integer (P := P) (w := w) (base := base) F_is_integer T 
  have c_common_part : Cal P w K mg base "common_part" ["one", "other"] 1 (sp_common_part K) := ⟨_, fd_common_part, g_common_part, F_common_part.kp, FI_common_part, F_common_part.bindsN fun _ _ _ _ _ _ us hl => match us, hl with | [_, _], _ => rfl⟩
  have FI_Ratio___init__ := ok_Ratio___init__ (P := P) (w := w) (base := base) F_Ratio___init__ T c_common_part
  have FI_parts_of := ok_parts_of (P := P) (w := w) (base := base) F_parts_of T 
  have c_parts_of : Cal P w K mg base "parts_of" ["number"] 1 (sp_parts_of K) := ⟨_, fd_parts_of, g_parts_of, F_parts_of.kp, FI_parts_of, F_parts_of.bindsN fun _ _ _ _ _ _ us hl => match us, hl with | [_], _ => rfl⟩
  obtain ⟨ds_k2_Ratio, hd_k2_Ratio, hb_k2_Ratio⟩ := F_Ratio___init__.binds1 (ps := ["self", "top", "bottom"]) 3 1 (by simp) rfl (fun T kV doc pm an cdv ct us its l1 l2 => match us, its, l1, l2 with | [_, _, _], [_], _, _ => ⟨_, rfl, rfl⟩)
  have k2_Ratio : KCal P w K mg base "Ratio" (He.ga K "Ratio") ["self", "top", "bottom"] 3 (sp_Ratio___init__ K) [] := ⟨_, fd_Ratio___init__, ds_k2_Ratio, CJ_Ratio.g, CJ_Ratio.mkc, FI_Ratio___init__, hb_k2_Ratio, hd_k2_Ratio⟩
  have FI_Ratio___add__ := ok_Ratio___add__ (P := P) (w := w) (base := base) F_Ratio___add__ T c_parts_of k2_Ratio
  have c_is_integer : Cal P w K mg base "is_integer" ["value"] 1 (sp_is_integer K) := ⟨_, fd_is_integer, g_is_integer, F_is_integer.kp, FI_is_integer, F_is_integer.bindsN fun _ _ _ _ _ _ us hl => match us, hl with | [_], _ => rfl⟩
  have FI_Ratio___eq__ := ok_Ratio___eq__ (P := P) (w := w) (base := base) F_Ratio___eq__ T c_is_integer
  have FI_Ratio___str__ := ok_Ratio___str__ (P := P) (w := w) (base := base) F_Ratio___str__ T 
  have FI_Ratio_below := ok_Ratio_below (P := P) (w := w) (base := base) F_Ratio_below T c_parts_of
  have m_Ratio___str__ : MCal P w K mg base (He.ga K "Ratio") "__str__" ["self"] 1 (sp_Ratio___str__ K) := ⟨_, fd_Ratio___str__, me_Ratio___str__, FI_Ratio___str__, F_Ratio___str__.bindsN fun _ _ _ _ _ _ us hl => match us, hl with | [_], _ => rfl⟩
  have FI_Ratio_text := ok_Ratio_text (P := P) (w := w) (base := base) F_Ratio_text T m_Ratio___str__
  have FI_is_number := ok_is_number (P := P) (w := w) (base := base) F_is_number T c_is_integer
  have c_is_number : Cal P w K mg base "is_number" ["value"] 2 (sp_is_number K) := ⟨_, fd_is_number, g_is_number, F_is_number.kp, FI_is_number, F_is_number.bindsN fun _ _ _ _ _ _ us hl => match us, hl with | [_], _ => rfl⟩
  have FI_as_ratio := ok_as_ratio (P := P) (w := w) (base := base) F_as_ratio T c_is_number c_parts_of k2_Ratio
  obtain ⟨ds_k1_Ratio, hd_k1_Ratio, hb_k1_Ratio⟩ := F_Ratio___init__.binds1 (ps := ["self", "top", "bottom"]) 2 0 (by simp) rfl (fun T kV doc pm an cdv ct us its l1 l2 => match us, its, l1, l2 with | [_, _], [_], _, _ => ⟨_, rfl, rfl⟩)
  have k1_Ratio : KCal P w K mg base "Ratio" (He.ga K "Ratio") ["self", "top", "bottom"] 3 (sp_Ratio___init__ K) [.int 1] := ⟨_, fd_Ratio___init__, ds_k1_Ratio, CJ_Ratio.g, CJ_Ratio.mkc, FI_Ratio___init__, hb_k1_Ratio, hd_k1_Ratio⟩
  have m_Ratio___add__ : MCal P w K mg base (He.ga K "Ratio") "__add__" ["self", "other"] 5 (sp_Ratio___add__ K) := ⟨_, fd_Ratio___add__, me_Ratio___add__, FI_Ratio___add__, F_Ratio___add__.bindsN fun _ _ _ _ _ _ us hl => match us, hl with | [_, _], _ => rfl⟩
  have FI_total := ok_total (P := P) (w := w) (base := base) F_total T k1_Ratio m_Ratio___add__
  have FI_is_name := ok_is_name (P := P) (w := w) (base := base) F_is_name T 
  have FI_is_listed := ok_is_listed (P := P) (w := w) (base := base) F_is_listed T 
  have FI_rows_of := ok_rows_of (P := P) (w := w) (base := base) F_rows_of T 
  have FI_Draw___init__ := ok_Draw___init__ (P := P) (w := w) (base := base) F_Draw___init__ T 
  have FI_Draw___eq__ := ok_Draw___eq__ (P := P) (w := w) (base := base) F_Draw___eq__ T 
  have FI_Draw_text := ok_Draw_text (P := P) (w := w) (base := base) F_Draw_text T 
  have c_is_name : Cal P w K mg base "is_name" ["value"] 1 (sp_is_name K) := ⟨_, fd_is_name, g_is_name, F_is_name.kp, FI_is_name, F_is_name.bindsN fun _ _ _ _ _ _ us hl => match us, hl with | [_], _ => rfl⟩
  have b_Draw : BCal P w K mg base "Draw" ["self", "words", "whole"] 1 (sp_Draw___init__ K) := ⟨CI_Draw, fd_Draw___init__, FI_Draw___init__, F_Draw___init__.bindsN fun _ _ _ _ _ _ us hl => match us, hl with | [_, _, _], _ => rfl, F_Draw___init__.kp⟩
  have FI_End___init__ := ok_End___init__ (P := P) (w := w) (base := base) F_End___init__ T c_is_name b_Draw
  have FI_End_name := ok_End_name (P := P) (w := w) (base := base) F_End_name T 
  have FI_Round_kind := ok_Round_kind (P := P) (w := w) (base := base) F_Round_kind T 
  have FI_Round_givers := ok_Round_givers (P := P) (w := w) (base := base) F_Round_givers T 
  have FI_Round_draws := ok_Round_draws (P := P) (w := w) (base := base) F_Round_draws T 
  have c_is_listed : Cal P w K mg base "is_listed" ["value"] 1 (sp_is_listed K) := ⟨_, fd_is_listed, g_is_listed, F_is_listed.kp, FI_is_listed, F_is_listed.bindsN fun _ _ _ _ _ _ us hl => match us, hl with | [_], _ => rfl⟩
  have FI_are_givers := ok_are_givers (P := P) (w := w) (base := base) F_are_givers T c_is_listed
  have m_Ratio_below : MCal P w K mg base (He.ga K "Ratio") "below" ["self", "number"] 2 (sp_Ratio_below K) := ⟨_, fd_Ratio_below, me_Ratio_below, FI_Ratio_below, F_Ratio_below.bindsN fun _ _ _ _ _ _ us hl => match us, hl with | [_, _], _ => rfl⟩
  have c_total : Cal P w K mg base "total" ["numbers"] 6 (sp_total K) := ⟨_, fd_total, g_total, F_total.kp, FI_total, F_total.bindsN fun _ _ _ _ _ _ us hl => match us, hl with | [_], _ => rfl⟩
  have m_Ratio___eq__ : MCal P w K mg base (He.ga K "Ratio") "__eq__" ["self", "other"] 2 (sp_Ratio___eq__ K) := ⟨_, fd_Ratio___eq__, me_Ratio___eq__, FI_Ratio___eq__, F_Ratio___eq__.bindsN fun _ _ _ _ _ _ us hl => match us, hl with | [_, _], _ => rfl⟩
  have FI_are_shares := ok_are_shares (P := P) (w := w) (base := base) F_are_shares T c_is_listed c_is_number k1_Ratio m_Ratio_below c_total m_Ratio___eq__
  have c_are_shares : Cal P w K mg base "are_shares" ["shares"] 7 (sp_are_shares K) := ⟨_, fd_are_shares, g_are_shares, F_are_shares.kp, FI_are_shares, F_are_shares.bindsN fun _ _ _ _ _ _ us hl => match us, hl with | [_], _ => rfl⟩
  have c_as_ratio : Cal P w K mg base "as_ratio" ["value"] 5 (sp_as_ratio K) := ⟨_, fd_as_ratio, g_as_ratio, F_as_ratio.kp, FI_as_ratio, F_as_ratio.bindsN fun _ _ _ _ _ _ us hl => match us, hl with | [_], _ => rfl⟩
  have FI_checked_seat := ok_checked_seat (P := P) (w := w) (base := base) F_checked_seat T c_is_name c_are_shares c_is_integer c_as_ratio
  have m_Ratio_text : MCal P w K mg base (He.ga K "Ratio") "text" ["self"] 4 (sp_Ratio_text K) := ⟨_, fd_Ratio_text, me_Ratio_text, FI_Ratio_text, F_Ratio_text.bindsN fun _ _ _ _ _ _ us hl => match us, hl with | [_], _ => rfl⟩
  have FI_seat_text := ok_seat_text (P := P) (w := w) (base := base) F_seat_text T m_Ratio_text
  have c_are_givers : Cal P w K mg base "are_givers" ["givers"] 2 (sp_are_givers K) := ⟨_, fd_are_givers, g_are_givers, F_are_givers.kp, FI_are_givers, F_are_givers.bindsN fun _ _ _ _ _ _ us hl => match us, hl with | [_], _ => rfl⟩
  have c_checked_seat : Cal P w K mg base "checked_seat" ["earlier", "person", "shares", "stand_in"] 8 (sp_checked_seat K) := ⟨_, fd_checked_seat, g_checked_seat, F_checked_seat.kp, FI_checked_seat, F_checked_seat.bindsN fun _ _ _ _ _ _ us hl => match us, hl with | [_, _, _, _], _ => rfl⟩
  have c_rows_of : Cal P w K mg base "rows_of" ["sizes"] 1 (sp_rows_of K) := ⟨_, fd_rows_of, g_rows_of, F_rows_of.kp, FI_rows_of, F_rows_of.bindsN fun _ _ _ _ _ _ us hl => match us, hl with | [_], _ => rfl⟩
  have c_seat_text : Cal P w K mg base "seat_text" ["seat"] 5 (sp_seat_text K) := ⟨_, fd_seat_text, g_seat_text, F_seat_text.kp, FI_seat_text, F_seat_text.bindsN fun _ _ _ _ _ _ us hl => match us, hl with | [_], _ => rfl⟩
  have w_Draw_text : ∀ c ∈ (["End", "Round"] : List Str), MCal P w K mg base (He.ga K c) "text" ["self"] 1 (sp_Draw_text K) := by
    intro x hx
    simp only [List.mem_cons, List.not_mem_nil, or_false] at hx
    rcases hx with rfl | rfl
    · exact ⟨_, fd_Draw_text, me_End_Draw_text, FI_Draw_text, F_Draw_text.bindsN fun _ _ _ _ _ _ us hl => match us, hl with | [_], _ => rfl⟩
    · exact ⟨_, fd_Draw_text, me_Round_Draw_text, FI_Draw_text, F_Draw_text.bindsN fun _ _ _ _ _ _ us hl => match us, hl with | [_], _ => rfl⟩
  have FI_Round___init__ := ok_Round___init__ (P := P) (w := w) (base := base) F_Round___init__ T c_are_givers c_checked_seat c_rows_of c_is_listed c_seat_text w_Draw_text b_Draw
  have FI_are_names := ok_are_names (P := P) (w := w) (base := base) F_are_names T c_is_listed
  have k3_Round : KCal P w K mg base "Round" (He.ga K "Round") ["self", "kind", "givers", "draws"] 9 (sp_Round___init__ K) [] := ⟨_, fd_Round___init__, _, CJ_Round.g, CJ_Round.mkc, FI_Round___init__, F_Round___init__.bindsN fun _ _ _ _ _ _ us hl => match us, hl with | [_, _, _, _], _ => rfl, .nil⟩
  have FI_fair_turn := ok_fair_turn (P := P) (w := w) (base := base) F_fair_turn T k3_Round k2_Ratio
  have k1_End : KCal P w K mg base "End" (He.ga K "End") ["self", "name"] 3 (sp_End___init__ K) [] := ⟨_, fd_End___init__, _, CJ_End.g, CJ_End.mkc, FI_End___init__, F_End___init__.bindsN fun _ _ _ _ _ _ us hl => match us, hl with | [_, _], _ => rfl, .nil⟩
  have c_fair_turn : Cal P w K mg base "fair_turn" ["person", "first", "second"] 11 (sp_fair_turn K) := ⟨_, fd_fair_turn, g_fair_turn, F_fair_turn.kp, FI_fair_turn, F_fair_turn.bindsN fun _ _ _ _ _ _ us hl => match us, hl with | [_, _, _], _ => rfl⟩
  have FI_draw_for : FnOk P w K mg base (CXL P w) 19 (He.ga K "draw_for") fd_draw_for ["people", "sets"] (sp_draw_for K 8) := ok_draw_for (P := P) (w := w) (base := base) F_draw_for T k1_End c_fair_turn (fun n F1 => ⟨_, fd_draw_for, g_draw_for, F_draw_for.kp, F1, F_draw_for.bindsN fun _ _ _ _ _ _ us hl => match us, hl with | [_, _], _ => rfl⟩) 8
  have c_are_names : Cal P w K mg base "are_names" ["value", "known"] 2 (sp_are_names K) := ⟨_, fd_are_names, g_are_names, F_are_names.kp, FI_are_names, F_are_names.bindsN fun _ _ _ _ _ _ us hl => match us, hl with | [_, _], _ => rfl⟩
  have c_draw_for : Cal P w K mg base "draw_for" ["people", "sets"] 19 (sp_draw_for K 8) := ⟨_, fd_draw_for, g_draw_for, F_draw_for.kp, FI_draw_for, F_draw_for.bindsN fun _ _ _ _ _ _ us hl => match us, hl with | [_, _], _ => rfl⟩
  have FI_family_draw := ok_family_draw (P := P) (w := w) (base := base) F_family_draw T c_is_listed c_is_name c_are_names c_draw_for
  have FI__law_pick := ok__law_pick (P := P) (w := w) (base := base) F__law_pick T
  have c__law_pick : Cal P w K mg base "_law_pick" ["_law_tape_here", "_law_many"] 1 (spB K fun (i : Int × Unit) => m__law_pick i.1) := ⟨_, fd__law_pick, g__law_pick, F__law_pick.kp, FI__law_pick, F__law_pick.bindsN fun _ _ _ _ _ _ us hl => match us, hl with | [_, _], _ => rfl⟩
  have FI__law_mixed := ok__law_mixed (P := P) (w := w) (base := base) F__law_mixed T c__law_pick
  have FI__law_mixedL := ok__law_mixedL (P := P) (w := w) (base := base) F__law_mixed T c__law_pick
  have FI__law_lots := ok__law_lots (P := P) (w := w) (base := base) F__law_lots T 
  have p_End_name : PCal P w K mg base (He.ga K "End") "name" 1 (getSp (He.ga K "End") "title") := ⟨_, _, fd_End_name, pr_End_name, FI_End_name, F_End_name.bindsN fun _ _ _ _ _ _ us hl => match us, hl with | [_], _ => rfl⟩
  have p_Round_kind : PCal P w K mg base (He.ga K "Round") "kind" 1 (getSp (He.ga K "Round") "manner") := ⟨_, _, fd_Round_kind, pr_Round_kind, FI_Round_kind, F_Round_kind.bindsN fun _ _ _ _ _ _ us hl => match us, hl with | [_], _ => rfl⟩
  have p_Round_givers : PCal P w K mg base (He.ga K "Round") "givers" 1 (getSp (He.ga K "Round") "seats") := ⟨_, _, fd_Round_givers, pr_Round_givers, FI_Round_givers, F_Round_givers.bindsN fun _ _ _ _ _ _ us hl => match us, hl with | [_], _ => rfl⟩
  have p_Round_draws : PCal P w K mg base (He.ga K "Round") "draws" 1 (getSp (He.ga K "Round") "further") := ⟨_, _, fd_Round_draws, pr_Round_draws, FI_Round_draws, F_Round_draws.bindsN fun _ _ _ _ _ _ us hl => match us, hl with | [_], _ => rfl⟩
  have FI__law_is_fair : FnOk P w K mg base (CXL P w) 12 (He.ga K "_law_is_fair") fd__law_is_fair ["_law_draw", "_law_folk_told", "_law_deep"] (sp__law_is_fair K 8) := ok__law_is_fair (P := P) (w := w) (base := base) F__law_is_fair T p_End_name p_Round_kind p_Round_givers k2_Ratio m_Ratio___eq__ p_Round_draws (fun n F1 => ⟨_, fd__law_is_fair, g__law_is_fair, F__law_is_fair.kp, F1, F__law_is_fair.bindsN fun _ _ _ _ _ _ us hl => match us, hl with | [_, _, _], _ => rfl⟩) 8
  have FI__law_yes : FnOk P w K mg base (CXL P w) 10 (He.ga K "_law_yes") fd__law_yes ["_law_draw", "_law_who"] (sp__law_yes K 8) := ok__law_yes (P := P) (w := w) (base := base) F__law_yes T p_End_name p_Round_draws p_Round_givers (fun n F1 => ⟨_, fd__law_yes, g__law_yes, F__law_yes.kp, F1, F__law_yes.bindsN fun _ _ _ _ _ _ us hl => match us, hl with | [_, _], _ => rfl⟩) 8
  have c__law_mixed : Cal P w K mg base "_law_mixed" ["_law_tape_here", "_law_items"] 2 (sp__law_mixed K) := ⟨_, fd__law_mixed, g__law_mixed, F__law_mixed.kp, FI__law_mixed, F__law_mixed.bindsN fun _ _ _ _ _ _ us hl => match us, hl with | [_, _], _ => rfl⟩
  have c__law_mixedL : Cal P w K mg base "_law_mixed" ["_law_tape_here", "_law_items"] 2 (sp__law_mixedL K) := ⟨_, fd__law_mixed, g__law_mixed, F__law_mixed.kp, FI__law_mixedL, F__law_mixed.bindsN fun _ _ _ _ _ _ us hl => match us, hl with | [_, _], _ => rfl⟩
  have FI__law_drawn_sets := ok__law_drawn_sets (P := P) (w := w) (base := base) F__law_drawn_sets T c__law_pick c__law_mixed c__law_mixedL
  have FI__law_tape : FnOk P w K mg base (CXL P w) 1 _ fd__law_tape _ (spTapeL K) := FnOk.up (ok_tape F__law_tape T.m_len T.m_abs)
  have c__law_drawn_sets : Cal P w K mg base "_law_drawn_sets" ["_law_tape_here", "_law_folk_told"] 3 (sp__law_drawn_sets K) := ⟨_, fd__law_drawn_sets, g__law_drawn_sets, F__law_drawn_sets.kp, FI__law_drawn_sets, F__law_drawn_sets.bindsN fun _ _ _ _ _ _ us hl => match us, hl with | [_, _], _ => rfl⟩
  have r_family_draw : CalR2 P w K mg base "family_draw" ["people", "sets"] ["sets", "people"] 20 (sp_family_draw K) := ⟨_, fd_family_draw, g_family_draw, F_family_draw.kp, FI_family_draw, kw_pair F_family_draw rfl fun _ _ _ _ _ _ _ _ => rfl⟩
  have c__law_is_fair : Cal P w K mg base "_law_is_fair" ["_law_draw", "_law_folk_told", "_law_deep"] 12 (sp__law_is_fair K 8) := ⟨_, fd__law_is_fair, g__law_is_fair, F__law_is_fair.kp, FI__law_is_fair, F__law_is_fair.bindsN fun _ _ _ _ _ _ us hl => match us, hl with | [_, _, _], _ => rfl⟩
  have c__law_lots : Cal P w K mg base "_law_lots" ["_law_names"] 1 (sp__law_lots K) := ⟨_, fd__law_lots, g__law_lots, F__law_lots.kp, FI__law_lots, F__law_lots.bindsN fun _ _ _ _ _ _ us hl => match us, hl with | [_], _ => rfl⟩
  have c__law_yes : Cal P w K mg base "_law_yes" ["_law_draw", "_law_who"] 10 (sp__law_yes K 8) := ⟨_, fd__law_yes, g__law_yes, F__law_yes.kp, FI__law_yes, F__law_yes.bindsN fun _ _ _ _ _ _ us hl => match us, hl with | [_, _], _ => rfl⟩
  have c_family_draw : Cal P w K mg base "family_draw" ["people", "sets"] 20 (sp_family_draw K) := ⟨_, fd_family_draw, g_family_draw, F_family_draw.kp, FI_family_draw, F_family_draw.bindsN fun _ _ _ _ _ _ us hl => match us, hl with | [_, _], _ => rfl⟩
  have w_Draw___eq__ : ∀ c ∈ (["End", "Round"] : List Str), MCal P w K mg base (He.ga K c) "__eq__" ["self", "other"] 1 (sp_Draw___eq__ K) := by
    intro x hx
    simp only [List.mem_cons, List.not_mem_nil, or_false] at hx
    rcases hx with rfl | rfl
    · exact ⟨_, fd_Draw___eq__, me_End_Draw___eq__, FI_Draw___eq__, F_Draw___eq__.bindsN fun _ _ _ _ _ _ us hl => match us, hl with | [_, _], _ => rfl⟩
    · exact ⟨_, fd_Draw___eq__, me_Round_Draw___eq__, FI_Draw___eq__, F_Draw___eq__.bindsN fun _ _ _ _ _ _ us hl => match us, hl with | [_, _], _ => rfl⟩
  have c__law_tape : Cal P w K mg base "_law_tape" ["_law_script", "_law_k"] 1 (spTapeL K) := ⟨_, fd__law_tape, g__law_tape, F__law_tape.kp, FI__law_tape, F__law_tape.bindsN fun _ _ _ _ _ _ us hl => match us, hl with | [_, _], _ => rfl⟩
  exact FnG.down (fun vs H Q E E' z => z) (ok_law law_ok F_law T c__law_pick c__law_mixed c__law_drawn_sets r_family_draw c__law_is_fair c__law_lots c__law_yes c_family_draw k1_End w_Draw___eq__ c__law_tape)
end
end K42
open PySem PySem.W PySem.Calls PyProof.Rows
theorem PySem.Challenge.cw_jointdraws_k42_draws_for_families_holds : PySem.Challenge.rw_jointdraws_k42_draws_for_families.Holds := by
  w_on; o_law
  refine HandSHeadRun.head_any (r := OpenLaw.row PySem.Challenge.rw_jointdraws_k42_draws_for_families) (q := view (OpenLaw.row PySem.Challenge.rw_jointdraws_k42_draws_for_families).prog [52]) (H := K42.hk) (ob := K42.ob) (M := 20000) (loose := K42.loose) (d := HandSHeadRun.topDef (OpenLaw.row PySem.Challenge.rw_jointdraws_k42_draws_for_families).prog 52) (kwd := []) K42.ob_eq
    (by kernel_rfl) (fun s => by kernel_rfl) K42.run (by kernel_rfl) (by kernel_rfl) (by kernel_rfl) (by rfl) (by first | assumption | decide +kernel) (by decide +kernel) ⟨rfl, rfl, rfl, rfl, rfl, by decide +kernel⟩ ?hw ?hc
  case hw => w_witness2
  case hc =>
    refine J.walk_G (l := PySem.Challenge.rw_jointdraws_k42_draws_for_families) (n := 63) (k := 21) (x := "_law_script") rfl (by decide) (by kernel_rfl) ⟨rfl, by decide, by decide⟩ ?F
    intro w mg fa h Y G hmg0
    obtain ⟨K, KX, c⟩ := Y
    have hmg : mg ("law" : PySem.Str) = some (.ref fa) := by
      have e : (HandSHeadRun.topDef (OpenLaw.row PySem.Challenge.rw_jointdraws_k42_draws_for_families).prog 52).name = ("law" : PySem.Str) := by kernel_rfl
      rw [← e]
      exact hmg0
    obtain ⟨fd, hb, hF⟩ := K42.facts (P := (PySem.Challenge.rw_jointdraws_k42_draws_for_families).prog) (w := w) KX G hmg c
    exact ⟨K, fd, K42.spLaw K, KX, hb, fun H a ns hl _ hS => ⟨a, ns, rfl, hS, hl, fun _ => rfl⟩, hF⟩
#print axioms PySem.Challenge.cw_jointdraws_k42_draws_for_families_holds

