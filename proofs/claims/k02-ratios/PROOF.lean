import PyProof.Rows.All
import Wide.All
import OpenK.AllK
import Wide.FinOn
import KE.KIsAll
import KE.KExcIs
import KE.KTryMore
import KE.KStateDown
import HandS.ForMost
import HandS.ForExc
import HandS.Defaults
import HandS.Wide
import HandS.ExcInit
import HandS.ExcIs
import HandS.ExcField
import HandS.ClsMeth
import HandS.Head0
import HandS.Head1
import HandS.Head2
import HandS.HeadEnd
import HandS.HeadHook1
import HandS.HeadHook2
import HandS.Property
import HandS.MakeKw
import HandS.SlotsOwn
import KE.KCallOwn
import HandS.FStr
import HandS.Style
import PySem.Challenge.RW_jointdraws_k02_ratios_reckoned
set_option Elab.async false
set_option linter.all false
set_option maxRecDepth 100000
set_option maxHeartbeats 4000000
/-! J1: promises at given surroundings (so that it may be known that nothing is being shown), own errors as values, a law's draws. -/
namespace J
open PySem PySem.Spec PyProof.Rows L2

/-! ### a promise at the surroundings A -/
/-- at the surroundings A the def at f keeps the promise sp -/
structure FnAt (P : Program) (w : World) (K : PySem.W.Frag) (mg : Str → Option Value) (base : Heap) (CX : CXT) (A : Around) (f : Addr) (fd : FuncData) (ps : List Str) (sp : Sp) : Prop where
  len : ∀ vs H Q E, sp vs H Q E → vs.length = ps.length
  run : ∀ (outer : List Env) (s : Shared) (H : Hp) (args : Args) (us : List Value) (vs : List V) (Q : VK) (E : XK), Env0 P w K mg base A outer s H → BindsTo s fd args (ps.zip us) → Vals vs us → sp vs H Q E →
    codeAny (model P w) A (.call (.ref f) args) (CR CX outer P w H s Q E) s
/-- .. wherever there is room for k calls and nothing is being shown -/
def FnG (P : Program) (w : World) (K : PySem.W.Frag) (mg : Str → Option Value) (base : Heap) (CX : CXT) (k : Nat) (f : Addr) (fd : FuncData) (ps : List Str) (sp : Sp) : Prop :=
  ∀ A : Around, A.guards = some [] → Room k A → FnAt P w K mg base CX A f fd ps sp
section
variable {P : Program} {w : World} {K : PySem.W.Frag} {mg : Str → Option Value} {base : Heap} {CX : CXT} {j k : Nat} {A : Around} {f : Addr} {fd : FuncData} {ps : List Str} {sp sp' : Sp}
theorem at_of (F : FnOk P w K mg base CX k f fd ps sp) (hr : Room k A) : FnAt P w K mg base CX A f fd ps sp :=
  ⟨F.len, fun outer s H args us vs Q E => F.run A outer s H args us vs Q E hr⟩
theorem g_of (F : FnOk P w K mg base CX k f fd ps sp) : FnG P w K mg base CX k f fd ps sp := fun _ _ hr => at_of F hr
theorem FnG.mono (F : FnG P w K mg base CX j f fd ps sp) (h : j ≤ k) : FnG P w K mg base CX k f fd ps sp := fun A hg hr => F A hg (hr.mono h)

/-- a def by its body, at A -/
theorem fnAt_of {name qual : Str} {params : Arguments} {body : List Stmt} {scope : Scope} {dV kV doc pm cdv ct oc : Value} {an od : Option Addr} {osl : Array (Option Value)} {N : List Str}
    (lk : K.lookup f = some ⟨oc, od, .func (PySem.W.fnOf name qual params body scope dV kV doc pm an cdv ct), osl⟩) (hcd : PySem.W.codeIn K cdv qual = true) (S : FnScope N ps scope) (dep : A.depth < recursionLimit) (hh : A.handled = none)
    (len : ∀ vs H Q E, sp vs H Q E → vs.length = ps.length)
    (hbody : ∀ (outer : List Env) (s : Shared) (H : Hp) (vs : List V) (Q : VK) (E : XK), sp vs H Q E →
      ∃ t, PSs (cxOf CX P w K mg base N qual scope f cdv A outer s H E) body t ∧ t { nx := fun _ H' => Q .non H', rt := Q } (start N vs) H) :
    FnAt P w K mg base CX A f (PySem.W.fnOf name qual params body scope dV kV doc pm an cdv ct) ps sp := by
  constructor
  · exact len
  · intro outer s H args us vs Q E e0 hb hv hsp
    have inK : K.In s.heap := e0.mod.kin.keeps fun b o z => (e0.bs b o z).1
    have noL : s.heap.NoLimit := e0.mod.nolimit.keeps fun b o z => (e0.bs b o z).1
    have kinds : ∀ y ∈ ps.zip us, scope.names.lookup y.1 = some .local ∨ (scope.names.lookup y.1 = some .cell ∧ ((cellsFrom (s.heap.objs.size + 1) scope.names []).lookup y.1).isSome = true) := by
      intro y hy
      rcases S.par y.1 (List.of_mem_zip hy).1 with q | q
      · exact Or.inl q
      · exact Or.inr ⟨q, PySem.W.cellsFrom_some _ _ _ (Or.inl q)⟩
    refine codeAny_call_function dep (inK _ _ lk) rfl S.co S.gen rfl (PySem.W.codeRec_of inK hcd) (hb _ _ _ _ ?_)
    refine wpAny_newFunctionEnv_cells S.kind kinds fun env he s1 x => ?_
    subst he
    refine ⟨noL.keeps x.toInCall.keep, codeAny_func ?_⟩
    obtain ⟨t, ht, hq⟩ := hbody outer s H vs Q E hsp
    have I : Inv (cxOf CX P w K mg base N qual scope f cdv A outer s H E) [] (start N vs) H s1 := inv_start S hh e0 (len _ _ _ _ hsp) hv x
    refine wpAny_mono (ht.run [] s1 (start N vs) H _ I hq) (fun fl s' hs => ?_) fun e s' hs => hs
    match fl, hs with
    | .ret u, ⟨v, σ', H', J, rv, q⟩ => exact ⟨v, H', J.os, J.bare, J.base, J.hok, rv, q⟩
    | .next, ⟨σ', H', J, q⟩ => exact ⟨V.non, H', J.os, J.bare, J.base, J.hok, rfl, q⟩
    | .brk, ⟨_, _, _, q⟩ => exact q.elim
    | .cont, ⟨_, _, _, q⟩ => exact q.elim
/-- .. of a def that stands behind the top -/
theorem fnG_of {x qual : Str} {params : Arguments} {body : List Stmt} {scope : Scope} {dvs : List V} {kws : List (Str × V)} {N : List Str} (F : FunD K x qual params body scope dvs kws f fd) (S : FnScope N ps scope) (len : ∀ vs H Q E, sp vs H Q E → vs.length = ps.length)
    (hbody : ∀ (cdv : Value) (A : Around) (outer : List Env) (s : Shared) (H : Hp) (vs : List V) (Q : VK) (E : XK), A.guards = some [] → Room k (A.deeper (envOfC qual scope s.heap.objs.size f cdv)) → sp vs H Q E →
      ∃ t, PSs (cxOf CX P w K mg base N qual scope f cdv A outer s H E) body t ∧ t { nx := fun _ H' => Q .non H', rt := Q } (start N vs) H) : FnG P w K mg base CX (k + 1) f fd ps sp := by
  intro A hg hr
  obtain ⟨oc, od, dV, kV, doc, pm, an, cdv, ct, osl, rfl, lk, hcd, _, _⟩ := F.ex
  exact fnAt_of lk hcd S hr.depth hr.hd len fun outer s H vs Q E hsp => hbody cdv A outer s H vs Q E hg (hr.deeper _) hsp
end

section
variable {X : Cx} {CX : CXT} {k : Nat} {f C : Addr} {fd : FuncData} {ps : List Str} {sp : Sp} {dvs : List V} {ds : List Value} {E : XK} {x m : Str} {p pos apos : Pos} {e o : Expr} {es : List Expr} {ta : TE} {t : TA}
theorem run_at {pins : List (Addr × Obj)} {σ : L2.St} {H : Hp} {s : Shared} {Q : VK} {us : List Value} {vs : List V} (F : FnAt X.prog X.w X.K X.mg X.base CX X.A f fd ps sp) (hb : Binds X.K fd ps ds) (hd : Vals dvs ds) (hx : Passes CX X E)
    (I : Inv X pins σ H s) (r : Vals vs us) (h : sp (vs ++ dvs) H Q E) : wpAny (model X.prog X.w) X.A (call (.ref f) us) (EP X pins σ Q) X.xe s := by
  have rr : Vals (vs ++ dvs) (us ++ ds) := r.append hd
  have ll : (us ++ ds).length = ps.length := by rw [← rr.length]; exact F.len _ _ _ _ h
  refine wpAny_call (codeAny_mono (F.run X.stack s H ⟨us, []⟩ (us ++ ds) (vs ++ dvs) Q E I.env0 (hb s us I.kIn ll) rr h) fun z s' hz => ?_)
  match z, hz with
  | .error e, hz => exact hx pins σ H s e s' I hz
  | .ok (.ret u), hz => exact I.after hz
  | .ok .next, hz => exact hz.elim
  | .ok .brk, hz => exact hz.elim
  | .ok .cont, hz => exact hz.elim
/-- f(e, ..), f's promise at these surroundings -/
theorem pe_callA (F : FnAt X.prog X.w X.K X.mg X.base CX X.A f fd ps sp) (hg : Gl X x) (hm : X.mg x = some (.ref f)) (hk : PySem.W.keepIn X.K (.ref f) = true) (hb : Binds X.K fd ps ds) (hd : Vals dvs ds) (hx : Passes CX X E)
    (ha : PA X (e :: es) t) (hdb : (x == ("__debug__" : Str)) = false := by decide) (he : starEach (e :: es) X.env = (false, eval e X.env) :: starEach es X.env := by rfl) (hpl : (backTo pos (starEach es X.env)).any (·.1) = false := by rfl) :
    PE X (.Call (.Name x p) (e :: es) [] pos) (tCall sp dvs E t) := by
  constructor
  intro pins s σ H Q I h
  refine wpAny_Call_Name_kw (ld_glob I hg hm ?_ hdb)
  exact PySem.W.callWith_K (h₀ := X.base) I.ok.mod.kin hk (thn (ha.run pos pins s σ H _ I h) fun us s1 ⟨vs, H1, I1, r, q⟩ => ⟨I1.kIn, run_at F hb hd hx I1 r q⟩) he hpl
/-- f() -/
theorem pe_callA0 (F : FnAt X.prog X.w X.K X.mg X.base CX X.A f fd ps sp) (hg : Gl X x) (hm : X.mg x = some (.ref f)) (hk : PySem.W.keepIn X.K (.ref f) = true) (hb : Binds X.K fd ps ds) (hd : Vals dvs ds) (hx : Passes CX X E)
    (hdb : (x == ("__debug__" : Str)) = false := by decide) : PE X (.Call (.Name x p) [] [] pos) (tCall sp dvs E tNil) := by
  constructor
  intro pins s σ H Q I h
  refine wpAny_Call_Name_kw (ld_glob I hg hm ?_ hdb)
  exact PySem.W.callWith_K0 I.kIn hk (run_at (us := []) F hb hd hx I .nil h)
end

/-! ### own errors -/
/-- what of DrawError's class is asked where its __init__ is read off it -/
structure DErr (K : PySem.W.Frag) (mg : Str → Option Value) (D : Addr) : Prop where
  gD : mg "DrawError" = some (.ref D)
  rd : PySem.W.readsIn K D (.type "type") = true
  ga : PySem.W.specialIn K (.ref D) "__getattribute__" = some (some (.builtin "type.__getattribute__"))
  ini : PySem.W.findCls K (.ref D) (.type "type") "__init__" = some (.val (.builtin "ValueError.__init__"))
/-- a method's call whose name and brackets stand on one row -/
theorem meth_row {o : Expr} {name : Str} {apos pos : Pos} {args : List Expr} {env : Env} (hb : attributeBase o name env (eval o env) = eval o env) (hf : methodCallForm (args.length + 0) (backTo pos (starEach args env)) (backToKw pos (keywordEach [] env)) = true)
    (hl : (apos.endLine == pos.line) = true) : eval (.Call (.Attribute o name apos) args [] pos) env = (do
      let ov ← eval o env
      standAt apos.atName
      let (f, first) ← holding [ov] (getMethod ov name (do return (← importBound o env).getD true))
      callWith pos f first (backTo pos (starEach args env)) (backToKw pos (keywordEach [] env))) := by
  show (do
    let ov ← attributeBase o name env (eval o env)
    standAt apos.atName
    methodCall o name apos pos env ov (args.length + 0) (backTo pos (starEach args env)) (backToKw pos (keywordEach [] env))) = _
  rw [hb]
  unfold methodCall calleeOf methodCallPos
  rw [hf]
  simp only [hl, if_true, Bool.not_true, Bool.false_or, pure_bind]
section
variable {X : Cx} {D : Addr} {e : Expr} {es : List Expr} {ta : TA} {p1 p2 pos : Pos}
/-- DrawError.__init__(self, ..) -/
theorem pe_dinit {pl : Sem Bool} (T : DErr X.K X.mg D) (hg : Gl X "DrawError") (ha : PA X (e :: es) ta)
    (hc : eval (.Call (.Attribute (.Name "DrawError" p1) "__init__" p2) (e :: es) [] pos) X.env = (do
      let ov ← eval (.Name "DrawError" p1) X.env
      standAt p2.atName
      let (f, first) ← holding [ov] (getMethod ov "__init__" pl)
      callWith pos f first (backTo pos (starEach (e :: es) X.env)) (backToKw pos (keywordEach [] X.env))) := by rfl)
    (he : starEach (e :: es) X.env = (false, eval e X.env) :: starEach es X.env := by rfl) (hpl : (backTo pos (starEach es X.env)).any (·.1) = false := by rfl) :
    PE X (.Call (.Attribute (.Name "DrawError" p1) "__init__" p2) (e :: es) [] pos) (tVeI X.K ta) := by
  constructor
  intro pins s σ H Q I h
  refine PySem.W.methodCall_KW (ld_glob I hg T.gD ?_ (by decide)) hc
  refine PySem.W.method_cls I.kIn T.ga (PySem.W.cls_value I.kIn T.rd T.ini (by rfl) ?_)
  show wpAny _ _ (callWith pos (Value.builtin "ValueError.__init__") [] (backTo pos (starEach (e :: es) X.env)) []) _ _ _
  refine PyProof.Rows.callWith_method1 (thn (ha.run pos pins _ σ H _ (I.tok _) h) fun us s1 ⟨vs, H1, I1, r1, hh⟩ => ?_) he hpl
  obtain ⟨a, C, ws, rfl, hl, T', ea, q⟩ := hh
  cases r1 with
  | cons ra rw' =>
    cases ra
    exact oinit_ok T' I1 ea (by rw [← Paired.length rw', sizeLine_eq]; omega) fun s' J => ⟨.non, H1, J, rfl, q⟩
end

/-- the body of an error's __init__ with one value, and with none -/
abbrev errBody (msg fld : Str) (p1 p2 p3 p4 p5 p6 p7 p8 p9 p10 : Pos) (k : Nat) : List Stmt :=
  [.Expr (.Call (.Attribute (.Name "DrawError" p1) "__init__" p2) [.Name "self" p3, .Constant (.str msg) k p4] [] p5) p6,
   .Assign [.Attribute (.Name "self" p7) fld p8] (.Name fld p9) p10]
abbrev errBody0 (msg : Str) (p1 p2 p3 p4 p5 p6 : Pos) (k : Nat) : List Stmt :=
  [.Expr (.Call (.Attribute (.Name "DrawError" p1) "__init__" p2) [.Name "self" p3, .Constant (.str msg) k p4] [] p5) p6]
/-- its promise: behind it the value stands in the error's own dict -/
def spErr (K : PySem.W.Frag) (C : Addr) (fld : Str) : Sp := fun vs H Q _ => ∃ (a : Addr) (v : V), vs = [.ref a, v] ∧ H a = some (exo a C none) ∧
  ∀ d, H d = none → d ≠ a → Q .non (upd (upd H d (exd d [(fld, v)])) a (exo a C (some d)))
def spErr0 (C : Addr) : Sp := fun vs H Q _ => ∃ a : Addr, vs = [.ref a] ∧ H a = some (exo a C none) ∧ Q .non H
/-- the scope of such an __init__ -/
def scErr (fld : Str) : Scope := { kind := .function, names := [(Str.ofString "self", .local), (fld, .local), (Str.ofString "DrawError", .globalImplicit)], isGenerator := false, isCoroutine := false, more := [] }
def scErr0 : Scope := { kind := .function, names := [(Str.ofString "self", .local), (Str.ofString "DrawError", .globalImplicit)], isGenerator := false, isCoroutine := false, more := [] }
theorem scErr_ok {fld : Str} (h : (fld == ("self" : Str)) = false) : FnScope ["self", fld] ["self", fld] (scErr fld) := by
  have h2 : fld ≠ ("self" : Str) := beq_eq_false_iff_ne.mp h
  refine ⟨rfl, rfl, rfl, ?_, rfl, fun y hy => ?_, fun y hy => ?_⟩
  · exact List.nodup_cons.mpr ⟨by simpa using fun e => h2 e.symm, by simp⟩
  · simp only [List.mem_cons, List.not_mem_nil, or_false] at hy
    rcases hy with e | e
    · exact .inl (by rw [e]; rfl)
    · exact .inl (by subst e; simp only [scErr, List.lookup, h, beq_self_eq_true])
  · simp only [scErr, List.mem_cons, List.not_mem_nil, or_false] at hy
    rcases hy with e | e | e <;> (rw [e]; intro z; cases z)
theorem scErr0_ok : FnScope ["self"] ["self"] scErr0 := ⟨rfl, rfl, rfl, by decide +kernel, rfl, by decide +kernel, by decide +kernel⟩
section
variable {CX : CXT} {P : Program} {w : World} {K : PySem.W.Frag} {mg : Str → Option Value} {base : Heap} {f C D : Addr} {fd : FuncData} {x qual : Str} {pa : Arguments} {bd : List Stmt} {sc : Scope} {msg fld : Str} {p1 p2 p3 p4 p5 p6 p7 p8 p9 p10 : Pos} {kk : Nat}
theorem ok_err (F : FunD K x qual pa bd sc [] [] f fd) (hb : bd = errBody msg fld p1 p2 p3 p4 p5 p6 p7 p8 p9 p10 kk) (hs : sc = scErr fld) (hself : (fld == ("self" : Str)) = false) (hdr : (("DrawError" : Str) == fld) = false)
    (hl : (p2.endLine == p5.line) = true) (hd : (fld == ("__debug__" : Str)) = false) (hcd : (fld == ("__classdict__" : Str)) = false)
    (T : DErr K mg D) (O : OexC K C) (hno : PySem.W.findIn K (.ref C) fld = some none) : FnOk P w K mg base CX 1 f fd ["self", fld] (spErr K C fld) := by
  subst hs
  have hg : (scErr fld).names.lookup ("DrawError" : Str) = some .globalImplicit := by
    simp only [scErr, List.lookup, hdr]
    rfl
  have h1 : (scErr fld).names.lookup fld = some .local := by simp only [scErr, List.lookup, hself, beq_self_eq_true]
  refine F.ok (scErr_ok hself) (fun vs H Q E h => ?_) (fun cdv A outer s H vs Q E hr h => ?_)
  · obtain ⟨a, v, rfl, _⟩ := h
    rfl
  · obtain ⟨a, v, rfl, ha, k⟩ := h
    rw [hb]
    refine ⟨_, pss_cons (ps_expr (pe_dinit T hg (pa_cons (pe_var (i := 0) rfl (Or.inl rfl)) (pa_cons pe_str pa_nil)) (meth_row rfl rfl hl)))
      (pss_one (ps_ost (pe_var (i := 0) rfl (Or.inl rfl)) (pe_var (i := 1) rfl (Or.inl h1) hd hcd))), ?_⟩
    refine ⟨_, rfl, a, C, _, rfl, (by show 1 ≤ 1000; decide), O, ha, ?_⟩
    exact ⟨_, rfl, _, rfl, a, C, rfl, O, hno, Or.inl ⟨ha, k⟩⟩
theorem ok_err0 (F : FunD K x qual pa bd sc [] [] f fd) (hb : bd = errBody0 msg p1 p2 p3 p4 p5 p6 kk) (hs : sc = scErr0) (hl : (p2.endLine == p5.line) = true) (T : DErr K mg D) (O : OexC K C) : FnOk P w K mg base CX 1 f fd ["self"] (spErr0 C) := by
  subst hs
  refine F.ok scErr0_ok (fun vs H Q E h => ?_) (fun cdv A outer s H vs Q E hr h => ?_)
  · obtain ⟨a, rfl, _⟩ := h
    rfl
  · obtain ⟨a, rfl, ha, k⟩ := h
    rw [hb]
    refine ⟨_, pss_one (ps_expr (pe_dinit T rfl (pa_cons (pe_var (i := 0) rfl (Or.inl rfl)) (pa_cons pe_str pa_nil)) (meth_row rfl rfl hl))), ?_⟩
    exact ⟨_, rfl, a, C, _, rfl, (by show 1 ≤ 1000; decide), O, ha, k⟩
end
end J

set_option Elab.async false
set_option linter.all false
set_option maxRecDepth 100000
set_option maxHeartbeats 4000000
/-! J2: repr of data, own errors as values, isinstance, a field of an error that is held as a value. -/
namespace J
open PySem PySem.Spec PyProof.Rows L2

/-! ### repr -/
def kD : Key → PyData
  | .inl i => .int i
  | .inr x => .str x
/-- a plain value as data -/
def sD : V → PyData
  | .bl b => .bool b
  | .int i => .int i
  | .str x => .str x
  | _ => .none
def isS : V → Bool
  | .non => true
  | .bl _ => true
  | .int _ => true
  | .str _ => true
  | _ => false
theorem sD_reads {h : Heap} {v : V} {u : Value} (r : RelV v u) (hs : isS v = true) : Reads h u (sD v) [] := by
  cases v with
  | non => cases r; exact Reads.none
  | bl b => cases r; exact Reads.bool b
  | int i => obtain ⟨t, rfl⟩ := r; exact Reads.int i t
  | str x => obtain ⟨t, rfl⟩ := r; exact Reads.str x t
  | _ => cases hs
theorem kD_reads {P : Program} {w : World} {h : Heap} {k : Key} {u : Value} (r : (mixKind P w).is k u = true) : Reads h u (kD k) [] := by
  rcases keyIs_shape r with ⟨i, t, rfl, rfl⟩ | ⟨x, t, rfl, rfl⟩
  · exact Reads.int i t
  · exact Reads.str x t
theorem pairs_reads {P : Program} {w : World} {h : Heap} : ∀ {es : List DictEntry} {vs : List (Key × Value)} {kvs : List (Key × V)}, Pairs (mixKind P w) es vs → KV kvs vs → (∀ p ∈ kvs, isS p.2 = true) →
    ReadsAll h (es.map (·.key)) (kvs.map fun p => kD p.1) [] ∧ ReadsAll h (es.map (·.val)) (kvs.map fun p => sD p.2) []
  | _, _, _, .nil, .nil, _ => ⟨ReadsAll.nil, ReadsAll.nil⟩
  | _, _, _, .cons (kv := kv) h1 h2 hp, .cons (a := p) r rr, hs => by
    obtain ⟨i1, i2⟩ := pairs_reads (h := h) hp rr fun q hq => hs q (List.mem_cons_of_mem _ hq)
    refine ⟨?_, ?_⟩
    · have e : p.1 = kv.1 := r.1
      exact ReadsAll.cons (as := []) (by show Reads h _ (kD p.1) []; rw [e]; exact kD_reads h1) i1
    · have rv := r.2
      rw [← h2] at rv
      exact ReadsAll.cons (as := []) (sD_reads rv (hs p List.mem_cons_self)) i2
def dictD (kvs : List (Key × V)) : PyData := .dict (kvs.map fun p => (kD p.1, sD p.2))
section
variable {X : Cx}
/-- repr of data that is tracked: no dict in it, or a dict of plain values; where nothing is being shown -/
def rRepr (K : PySem.W.Frag) : List V → Hp → VK → Prop := fun xs H Q => ∃ (v : V) (d : PyData), xs = [v] ∧ ((Dp K H v d ∧ d.hasDict = false) ∨ ∃ (a : Addr) (kvs : List (Key × V)), v = .ref a ∧ H a = some (.dK kvs) ∧ (∀ p ∈ kvs, isS p.2 = true) ∧ d = dictD kvs) ∧
  d.showable = true ∧ d.depth ≤ 40 ∧ d.shown.length ≤ sizeLine ∧ Q (.str d.shown) H
theorem call_repr (hg : X.A.guards = some []) (hu : X.A.units + 60 < cLine) : CallR X (.builtin "repr") (rRepr X.K) := by
  intro pins s σ H xs us Q I r h
  obtain ⟨v, d, rfl, hd, h1, h3, h4, q⟩ := h
  obtain ⟨u, rfl, rx⟩ := vals1 r
  rcases hd with ⟨hd, h2⟩ | ⟨a, kvs, rfl, ha, hs, rfl⟩
  · cases hd with
    | non =>
      cases rx
      exact PySem.P.repr_of_none ⟨.str _, H, I.tok _, ⟨_, rfl⟩, q⟩
    | bl b =>
      cases rx
      cases b <;> exact PySem.P.repr_of_bool ⟨.str _, H, I.tok _, ⟨_, rfl⟩, q⟩
    | int i =>
      obtain ⟨t, rfl⟩ := rx
      exact PySem.P.repr_of_int (by simpa [PyData.showable] using h1) ⟨.str _, H, I.tok _, ⟨_, rfl⟩, q⟩
    | str x =>
      obtain ⟨t, rfl⟩ := rx
      exact PySem.P.repr_of_str ⟨.str _, H, I.tok _, ⟨_, rfl⟩, q⟩ h4
    | lst hs ha =>
      cases rx
      obtain ⟨as, rd⟩ := Dp.reads I _ _ _ (.lst hs ha) rfl
      exact repr_of_reads' rd h1 (fun z => by rw [h2] at z; cases z) hg (by omega) (fun _ _ z => z) (fun h' u tk k => ⟨.str _, H, I.kept k, ⟨_, rfl⟩, q⟩) h4
    | tup hs ha =>
      cases rx
      obtain ⟨as, rd⟩ := Dp.reads I _ _ _ (.tup hs ha) rfl
      exact repr_of_reads' rd h1 (fun z => by rw [h2] at z; cases z) hg (by omega) (fun _ _ z => z) (fun h' u tk k => ⟨.str _, H, I.kept k, ⟨_, rfl⟩, q⟩) h4
  · cases rx
    obtain ⟨_, hsys, vs, rkv, o, es, ep, ho, hex, hda, _, hp, _⟩ : kvs.length ≤ sizeLine ∧ (a == sysModules) = false ∧ ∃ vs, KV kvs vs ∧ s.heap.DictOf (mixKind X.prog X.w) a vs := I.hok a _ ha
    obtain ⟨k1, k2⟩ := pairs_reads (h := s.heap) hp rkv hs
    have rd : Reads s.heap (.ref a) (dictD kvs) (a :: [] ++ []) := by
      refine Reads.dict ho hex.1 hda ?_ ?_
      · rw [List.map_map]; exact k1
      · rw [List.map_map]; exact k2
    refine repr_of_reads' rd h1 (fun _ hm => ?_) hg (by omega) (fun _ _ z => z) (fun h' u tk k => ⟨.str _, H, I.kept k, ⟨_, rfl⟩, q⟩) h4
    have e : sysModules = a := by simpa using hm
    rw [e] at hsys
    simp at hsys
end

/-! ### isinstance of an error that is held as a value -/
/-- at e stands an error of the class at C, its own dict at d -/
def ErrO (H : Hp) (e C : Addr) : Prop := ∃ d : Option Addr, H e = some (exo e C d) ∧ ∀ dd, d = some dd → ∃ fs, H dd = some (exd dd fs)
def ErrF (H : Hp) (e C : Addr) (f : Str) (v : V) : Prop := ∃ d : Addr, H e = some (exo e C (some d)) ∧ H d = some (exd d [(f, v)])
theorem ErrF.o {H : Hp} {e C : Addr} {f : Str} {v : V} (h : ErrF H e C f v) : ErrO H e C := by
  obtain ⟨d, h1, h2⟩ := h
  exact ⟨some d, h1, fun dd q => by cases q; exact ⟨_, h2⟩⟩
theorem ErrF.ext {H H' : Hp} {e C : Addr} {f : Str} {v : V} (h : ErrF H e C f v) (k : Same H H') : ErrF H' e C f v := by
  obtain ⟨d, h1, h2⟩ := h
  exact ⟨d, k _ _ h1, k _ _ h2⟩
theorem ErrO.ext {H H' : Hp} {e C : Addr} (h : ErrO H e C) (k : Same H H') : ErrO H' e C := by
  obtain ⟨d, h1, h2⟩ := h
  exact ⟨d, k _ _ h1, fun dd q => let ⟨fs, z⟩ := h2 dd q; ⟨fs, k _ _ z⟩⟩
section
variable {X : Cx} {pins : List (Addr × Obj)} {σ : L2.St} {H : Hp} {s : Shared} {e C : Addr}
theorem err_inst (I : Inv X pins σ H s) (h : ErrO H e C) : ∃ ox od, PySem.W.InstAt s.heap e ox C od := by
  obtain ⟨d, h1, h2⟩ := h
  obtain ⟨t1, ho⟩ := exo_at I.hok h1
  cases d with
  | none => exact ⟨_, none, ho, rfl, rfl, trivial⟩
  | some dd =>
    obtain ⟨fs, h3⟩ := h2 dd rfl
    obtain ⟨mA, ⟨o, es, ep, hod, _⟩, _⟩ := exd_at I.hok h3
    exact ⟨_, some o, ho, rfl, rfl, hod⟩
/-- isinstance(e, c): e an error, c a class -/
def rIsX (K : PySem.W.Frag) : List V → Hp → VK → Prop := fun xs H Q => ∃ (e C : Addr) (c : V) (cv : Value) (b : Bool), xs = [.ref e, c] ∧ ErrO H e C ∧ ExcC K C ∧ (∀ u, RelV c u → u = cv) ∧ PySem.W.kitOne K (.ref C) cv = some b ∧ Q (.bl b) H
theorem call_isX : CallR X (.builtin "isinstance") (rIsX X.K) := by
  intro pins s σ H xs us Q I r h
  obtain ⟨e, C, c, cv, b, rfl, he, T, hcv, hb, q⟩ := h
  obtain ⟨u1, u2, rfl, r1, r2⟩ := vals2 r
  cases r1
  cases hcv _ r2
  obtain ⟨ox, od, J⟩ := err_inst I he
  have hcl : (PySem.W.clsIn X.K C).isSome = true := by
    obtain ⟨cd, hc, _⟩ := PySem.W.any_some T.hd
    rw [hc]
    rfl
  exact PySem.W.kia_one (PySem.W.kitx_exc hcl T.hg T.hk T.hs T.ha T.hn T.ht T.hm) I.kIn J hb (fun z => nomatch z) fun tk => ⟨.bl b, H, I.tok tk, rfl, q⟩
/-- e.f: e an error -/
def tErrF (K : PySem.W.Frag) (ta : TE) (f : Str) : TE := fun σ H Q => ta σ H fun x H1 => ∃ (e C : Addr) (v : V), x = .ref e ∧ ErrF H1 e C f v ∧ XfC K C ∧ PySem.W.findIn K (.ref C) f = some none ∧ Q v H1
theorem pe_errF {ex : Expr} {te : TE} {f : Str} {pos : Pos} (he : PE X ex te) (hb : attributeBase ex f X.env (eval ex X.env) = eval ex X.env := by rfl) : PE X (.Attribute ex f pos) (tErrF X.K te f) := by
  constructor
  intro pins s σ H Q I h
  refine attr_of hb (thn (he.run pins s σ H _ I h) fun u s1 ⟨x, H1, I1, r1, hh⟩ => ?_)
  obtain ⟨e, C, v, rfl, ⟨d, h1, h2⟩, T, hno, q⟩ := hh
  cases r1
  obtain ⟨t1, ho⟩ := exo_at I1.hok h1
  obtain ⟨mA, hns, hr⟩ := exd_at I1.hok h2
  obtain ⟨od, hod, hl⟩ := lookIn_ns hns
  obtain ⟨u, hu, ru⟩ := RelO.some_of (v := v) (o := mA f) (by have z := hr f; simpa [List.lookup] using z)
  have J : PySem.W.InstAt s1.heap e _ C (some od) := ⟨ho, rfl, rfl, hod⟩
  exact HandSPX.exc_get I1.kIn J T.ga T.gg T.exC (PySem.W.findObj_own T.hdC hno rfl (by rw [hl, hu])) (handed_of ru) ⟨v, H1, I1.tok _, ru, q⟩
end
end J

set_option Elab.async false
set_option linter.all false
set_option maxRecDepth 100000
set_option maxHeartbeats 4000000
/-! J3: own errors made as values, by position and by name. -/
namespace PySem
namespace HandSPX
section
variable {M : Model} {A : Around} {E : Value → Shared → Prop} {h : Heap} {g : Array GenState} {d : Drawn} {t : Nat} {os : OsState}
variable {nm q : Str} {C N : Addr} {bs bm bmB : List Value} {hdct : Bool} {sn : List Str} {sub : List Value} {ab : Bool} {col : Option Bool} {dd : Option Addr} {k0 k1 k2 k3 k5 : Option Value} {B newId initId : String} {kw : List (Str × Value)}
theorem kwj_check (F : ExcBaseFacts B newId initId bmB) (hT : ∀ X : String, bm.contains (.type X) = bmB.contains (.type X)) {rest : List Value} {Q : Unit → Shared → Prop}
    (hC : h.get? C = some (excClassObj nm q C N bs bm hdct sn sub ab col dd k0 k1 k2 k3 k5 newId)) (hq : Q () ⟨h, g, d, t, os⟩) : wpAny M A (checkBuiltinCall newId ⟨.ref C :: rest, kw⟩) Q E ⟨h, g, d, t, os⟩ := by
  have has : (Value.ref C :: bm).contains (.type B) = true := by rw [List.contains_cons, hT, F.hasB, Bool.or_true]
  have hst := F.noStar
  simp only [checkBuiltinCall, F.newKind, F.newSplit, F.newRow]
  repeat (first | refine wpAny_loadPart_at hC ?_ | (refine wpAny_isSubtype_exc hC ?_; rw [has]) | refine wpAny_staticBase_exc hC ?_ | refine wpAny_madeBy_exc hC ?_ | simp only [bne_self_eq_false, Bool.false_eq_true, if_false] | wp_step)
  exact hq
end
section
variable {prog : Program} {w : World} {A : Around} {E : Value → Shared → Prop} {R : Result → Shared → Prop} {h : Heap} {g : Array GenState} {d : Drawn} {t : Nat} {os : OsState}
variable {nm q : Str} {C N : Addr} {bs bm bmB : List Value} {hdct : Bool} {sn : List Str} {sub : List Value} {ab : Bool} {col : Option Bool} {dd : Option Addr} {k0 k1 k2 k3 k5 : Option Value} {B newId initId : String} {kw : List (Str × Value)}
theorem kwj_new (F : ExcBaseFacts B newId initId bmB) (hT : ∀ X : String, bm.contains (.type X) = bmB.contains (.type X)) {rest : List Value}
    (hC : h.get? C = some (excClassObj nm q C N bs bm hdct sn sub ab col dd k0 k1 k2 k3 k5 newId))
    (hq : R (.ok (.ret (.ref (h.objs.size + 1)))) ⟨(h.push (W.kdv_tup rest)).push (excO C h.objs.size), g, d, t, os⟩) (hrest : rest.length ≤ sizeLine) :
    codeAny (model prog w) A (.builtin newId ⟨.ref C :: rest, kw⟩) R ⟨h, g, d, t, os⟩ := by
  have ends := F.ends
  have hB : (Value.ref C :: bm).contains (.type B) = true := by rw [List.contains_cons, hT, F.hasB, Bool.or_true]
  have hA : (Value.ref C :: bm).contains (.type "AttributeError") = false := by rw [List.contains_cons, hT, F.noAttr]; rfl
  have hN : (Value.ref C :: bm).contains (.type "NameError") = false := by rw [List.contains_cons, hT, F.noName]; rfl
  refine codeAny_builtinAt F.entry ?_
  unfold Builtin.«BaseException.__new__»
  refine wpAt_bind ?_
  show wpAt _ _ _ (stack >>= _) _ _ _
  refine wpAt_bind (wpAt_stack fun p below => wpAt_of_wpAny ?_)
  wp_walk
  refine wpAt_of_wpAny ?_
  rw [F.owner]
  repeat (first | with_reducible refine wpAny_madeHere_exc F.canon hC ?_ | with_reducible refine wpAny_loadPart_at hC ?_ | (with_reducible refine wpAny_isSubtype_exc hC ?_; first | rw [hB] | rw [hA] | rw [hN]) | wp_step)
  show R _ _
  rw [Heap.size_push]
  exact hq
theorem kwj_type_call (F : ExcBaseFacts B newId initId bmB) (hT : ∀ X : String, bm.contains (.type X) = bmB.contains (.type X)) {rest : List Value} {fI : Addr} {Q : Fin → Shared → Prop}
    (hC : h.get? C = some (excClassObj nm q C N bs bm hdct sn sub ab col dd k0 k1 k2 k3 k5 newId))
    (hi : W.Looks (model prog w) h (typeLookup (.ref C) "__init__") (some (.ref fI))) (hb : ∀ self, W.Looks (model prog w) h (bindSpecial (.ref fI) self) (.ref fI, [self])) (hrest : rest.length ≤ sizeLine)
    (hq : codeAny (model prog w) A (.call (.ref fI) ⟨.ref (h.objs.size + 1) :: rest, kw⟩)
      (fun r s' => match r with | .ok (.ret v) => v = .none ∧ Q (.done (.ret (.ref (h.objs.size + 1)))) s' | .ok _ => False | .error e => E e s')
      ⟨(h.push (W.kdv_tup rest)).push (excO C h.objs.size), g, d, t, os⟩) :
    wpAny (model prog w) A (Builtin.«type.__call__» ⟨.ref C :: rest, kw⟩) Q E ⟨h, g, d, t, os⟩ := by
  repeat (first | with_reducible refine wpAny_loadPart_at hC ?_ | with_reducible refine wpAny_madeBy_exc hC ?_ | wp_step)
  refine codeAny_call_builtin_code (Code.quiet_builtin _ F.quiet) (kwj_check F hT hC ?_)
  refine kwj_new F hT hC ?_ hrest
  show wpAny _ _ _ _ _ _
  have k : ∀ b o, h.get? b = some o → ((h.push (W.kdv_tup rest)).push (excO C h.objs.size)).get? b = some o := fun b o e => Heap.get?_push_of_some _ (Heap.get?_push_of_some _ e)
  have hC2 := k _ _ hC
  have got : ((h.push (W.kdv_tup rest)).push (excO C h.objs.size)).get? (h.objs.size + 1) = some (excO C h.objs.size) := by heap_get
  have hcC : (Value.ref C :: bm).contains (.ref C) = true := by simp
  have i1 := hi.keeps k
  have b1 := (hb (.ref (h.objs.size + 1))).keeps k
  unfold isInstance
  repeat (first | with_reducible refine wpAny_loadPart_at got ?_ | (with_reducible refine wpAny_isSubtype_exc hC2 ?_; rw [hcC]) | wp_step)
  show wpAny _ _ (typeLookup (.ref C) _) _ _ _
  refine i1.at ?_
  refine wpAny_holding (wpAny_bind (b1.at ?_))
  refine wpAny_bind (wpAny_call (codeAny_mono hq fun r s' z => ?_))
  rcases r with e | (v | _ | _ | _) <;> first | exact z | exact z.elim | skip
  obtain ⟨rfl, z⟩ := z
  first
    | exact wpAny_pure (wpAny_pure z)
    | (wp_walk; exact z)
theorem kwj_call (F : ExcBaseFacts B newId initId bmB) (hT : ∀ X : String, bm.contains (.type X) = bmB.contains (.type X)) {rest : List Value} {fI : Addr}
    (hC : h.get? C = some (excClassObj nm q C N bs bm hdct sn sub ab col dd k0 k1 k2 k3 k5 newId))
    (hi : W.Looks (model prog w) h (typeLookup (.ref C) "__init__") (some (.ref fI))) (hb : ∀ self, W.Looks (model prog w) h (bindSpecial (.ref fI) self) (.ref fI, [self])) (hrest : rest.length ≤ sizeLine)
    (hq : codeAny (model prog w) (A.under (.builtin "type.__call__" ⟨.ref C :: rest, kw⟩)) (.call (.ref fI) ⟨.ref (h.objs.size + 1) :: rest, kw⟩) (W.InitBack (h.objs.size + 1) R)
      ⟨(h.push (W.kdv_tup rest)).push (excO C h.objs.size), g, d, t, os⟩) :
    codeAny (model prog w) A (.call (.ref C) ⟨rest, kw⟩) R ⟨h, g, d, t, os⟩ := by
  have f1 := tc_lookup
  have f2 := tc_bind (.ref C)
  have hTy : (⟨h, g, d, t, os⟩ : Shared).TypeIs (.ref C) "type" := ⟨_, hC, rfl⟩
  refine codeAny_of_tree ?_
  show wpAny _ _ (callAny (.ref C) _) _ _ _
  repeat (any_goals (first | assumption | with_reducible refine wpAny_loadPart_at hC ?_ | wp_step))
  refine ⟨rfl, ?_⟩
  refine codeAny_call_builtin_at (Code.quiet_builtin _ (by decide +kernel)) entry_typeCall (wpAny_check_type_call_sub hC (kwj_type_call F hT hC hi hb hrest ?_))
  refine codeAny_mono hq fun r s' z => ?_
  rcases r with e | (v | _ | _ | _) <;> exact z
end
end HandSPX
end PySem
namespace J
open PySem PySem.Spec PyProof.Rows L2
/-- what K says of an own error class C and of its __init__ at fI -/
structure ErrC (K : PySem.W.Frag) (C fI : Addr) : Prop where
  oex : OexC K C
  ini : PySem.W.findIn K (.ref C) "__init__" = some (some (.ref fI))
  fn : PySem.W.typeIn K (.ref fI) = some (.type "function")
/-- C(..) by its __init__'s promise: a new error -/
def tErr (C : Addr) (sp : Sp) (ta : TA) : TE := fun σ H Q => ta σ H fun vs H1 => vs.length ≤ 1000 ∧ ∀ a, H1 a = none → sp (.ref a :: vs) (upd H1 a (exo a C none)) (fun v H2 => v = .non ∧ Q (.ref a) H2) E0
/-- C(f = e) -/
def tErrK (C : Addr) (sp : Sp) (te : TE) : TE := fun σ H Q => tCons te tNil σ H fun vs H1 => ∃ v, vs = [v] ∧ ∀ a, H1 a = none → sp [.ref a, v] (upd H1 a (exo a C none)) (fun v H2 => v = .non ∧ Q (.ref a) H2) E0
section
variable {X : Cx} {C fI : Addr} {k : Nat} {fd : FuncData} {ps : List Str} {sp : Sp} {x : Str} {p pos kp : Pos} {e : Expr} {es : List Expr} {ta : TA} {te : TE} {nm : Str}
theorem run_err {pins : List (Addr × Obj)} {σ : L2.St} {H : Hp} {s : Shared} {Q : VK} {us : List Value} {vs : List V} {kw : List (Str × Value)} {ws : List Value} (T : ErrC X.K C fI) (F : FnOk X.prog X.w X.K X.mg X.base CX0 k fI fd ps sp) (hr : Room (k + 1) X.A)
    (I : Inv X pins σ H s) (hz : us.length ≤ 1000) (r : ∀ a, Vals (.ref a :: vs) (.ref a :: ws))
    (hb : ∀ (a : Addr) (s' : Shared), X.K.In s'.heap → (Value.ref a :: ws).length = ps.length → BindsTo s' fd ⟨.ref a :: us, kw⟩ (ps.zip (.ref a :: ws)))
    (h : ∀ a, H a = none → sp (.ref a :: vs) (upd H a (exo a C none)) (fun v H2 => v = .non ∧ Q (.ref a) H2) E0) :
    wpAny (model X.prog X.w) X.A (call (.ref C) us kw) (EP X pins σ Q) X.xe s := by
  obtain ⟨nm, q, N, bs, bm, sn, sub, ab, col, dd, k0, k1, k2, k3, k5, hC, hbm⟩ := T.oex.cls
  obtain ⟨hp, g, dr, tk, os⟩ := s
  have ge : hp.objs.size ≤ hp.objs.size + 1 := Nat.le_succ _
  have hq := h (hp.objs.size + 1) (I.hok.fresh ge)
  have kk : ∀ b o, hp.get? b = some o → ((hp.push (PySem.W.kdv_tup us)).push (PySem.HandSPX.excO C hp.objs.size)).get? b = some o := fun b o z => Heap.get?_push_of_some _ (Heap.get?_push_of_some _ z)
  have got : ((hp.push (PySem.W.kdv_tup us)).push (PySem.HandSPX.excO C hp.objs.size)).get? (hp.objs.size + 1) = some (PySem.HandSPX.excO C hp.objs.size) := by heap_get
  have I2 : Inv X pins σ (upd H (hp.objs.size + 1) (exo (hp.objs.size + 1) C none)) ⟨(hp.push (PySem.W.kdv_tup us)).push (PySem.HandSPX.excO C hp.objs.size), g, dr, tk, os⟩ :=
    I.laid (t' := tk) (a := hp.objs.size + 1) (o := exo (hp.objs.size + 1) C none) (h' := (hp.push (PySem.W.kdv_tup us)).push (PySem.HandSPX.excO C hp.objs.size)) kk ge (exo_ok got)
  have ll : (Value.ref (hp.objs.size + 1) :: ws).length = ps.length := by rw [← (r (hp.objs.size + 1)).length]; exact F.len _ _ _ _ hq
  refine wpAny_call (PySem.HandSPX.kwj_call PySem.F.excBase_ValueError (fun Y => PySem.HandSPX.refsVE_contains Y bm hbm) (I.kIn _ _ hC) (PySem.W.looks_findIn I.kIn T.ini) (fun self => PySem.W.bind_fn I.kIn self T.fn) (by rw [sizeLine_eq]; omega)
    (codeAny_mono (F.run _ X.stack _ _ ⟨Value.ref (hp.objs.size + 1) :: us, kw⟩ (Value.ref (hp.objs.size + 1) :: ws) _ _ E0 (hr.make C us kw) (I2.env0.make C us kw) (hb _ _ I2.kIn ll) (r _) hq) fun z s' hz' => ?_))
  match z, hz' with
  | .error er, hz' => exact hz'.elim
  | .ok .next, hz' => exact hz'.elim
  | .ok .brk, hz' => exact hz'.elim
  | .ok .cont, hz' => exact hz'.elim
  | .ok (.ret u), hz' =>
    obtain ⟨v, H', I3, rv, ev, q3⟩ := I2.after hz'
    subst ev
    exact ⟨rv, .ref (hp.objs.size + 1), H', I3, rfl, q3⟩
/-- C(e, ..) -/
theorem pe_err (T : ErrC X.K C fI) (F : FnOk X.prog X.w X.K X.mg X.base CX0 k fI fd ps sp) (hr : Room (k + 1) X.A) (hb : Binds X.K fd ps []) (hg : Gl X x) (hm : X.mg x = some (.ref C)) (ha : PA X (e :: es) ta)
    (hdb : (x == ("__debug__" : Str)) = false := by decide) (he : starEach (e :: es) X.env = (false, eval e X.env) :: starEach es X.env := by rfl) (hpl : (backTo pos (starEach es X.env)).any (·.1) = false := by rfl) :
    PE X (.Call (.Name x p) (e :: es) [] pos) (tErr C sp ta) := by
  constructor
  intro pins s σ H Q I h
  refine wpAny_Call_Name_kw (ld_glob I hg hm ?_ hdb)
  refine PySem.W.callWith_K (h₀ := X.base) I.ok.mod.kin T.oex.kC (thn (ha.run pos pins s σ H _ I h) fun us s1 ⟨vs, H1, I1, r, hz, q⟩ => ⟨I1.kIn, ?_⟩) he hpl
  exact run_err (us := us) (ws := us) T F hr I1 (by rw [← r.length]; exact hz) (fun a => .cons rfl r) (fun a s' K' ll => by
    have z := hb s' (.ref a :: us) K' (by simpa using ll)
    simpa using z) q
/-- C() -/
theorem pe_err0 (T : ErrC X.K C fI) (F : FnOk X.prog X.w X.K X.mg X.base CX0 k fI fd ps sp) (hr : Room (k + 1) X.A) (hb : Binds X.K fd ps []) (hg : Gl X x) (hm : X.mg x = some (.ref C))
    (hdb : (x == ("__debug__" : Str)) = false := by decide) : PE X (.Call (.Name x p) [] [] pos) (tErr C sp tNil) := by
  constructor
  intro pins s σ H Q I h
  refine wpAny_Call_Name_kw (ld_glob I hg hm ?_ hdb)
  refine PySem.W.callWith_K0 I.kIn T.oex.kC ?_
  exact run_err (us := []) (ws := []) (vs := []) T F hr I (by decide) (fun a => .cons rfl .nil) (fun a s' K' ll => by
    have z := hb s' [.ref a] K' (by simpa using ll)
    simpa using z) h.2
/-- C(f = e) -/
theorem pe_errK (T : ErrC X.K C fI) (F : FnOk X.prog X.w X.K X.mg X.base CX0 k fI fd ps sp) (hr : Room (k + 1) X.A)
    (hb : ∀ (s' : Shared) (a : Addr) (u : Value), X.K.In s'.heap → BindsTo s' fd ⟨[.ref a], [(nm, u)]⟩ (ps.zip [.ref a, u])) (hg : Gl X x) (hm : X.mg x = some (.ref C)) (he : PE X e te)
    (hdb : (x == ("__debug__" : Str)) = false := by decide) : PE X (.Call (.Name x p) [] [⟨some nm, e, kp⟩] pos) (tErrK C sp te) := by
  constructor
  intro pins s σ H Q I h
  refine wpAny_Call_Name_kw (ld_glob I hg hm ?_ hdb)
  refine PySem.W.callWith_KW0 (h₀ := X.base) I.ok.mod.kin T.oex.kC rfl ?_ rfl
  refine thn ((pk_cons he pk_nil).run pos pins s σ H _ I h) fun ws s1 ⟨vs, H1, I1, r, hh⟩ => ⟨I1.kIn, ?_⟩
  obtain ⟨v, rfl, q⟩ := hh
  obtain ⟨u, rfl, rv⟩ := vals1 r
  exact run_err (us := []) (kw := [(nm, u)]) (ws := [u]) T F hr I1 (by decide) (fun a => .cons rfl (.cons rv .nil)) (fun a s' K' ll => hb s' a u K') q
end
end J

set_option Elab.async false
set_option linter.all false
set_option maxRecDepth 100000
set_option maxHeartbeats 4000000
/-! J4: the head's facts as Bools of the written part; a law's end where nothing is being shown. -/
namespace J
open PySem PySem.Spec PyProof.Rows L2

abbrev Bf := PySem.W.Frag → Bool
/-! ### the Hook -/
def asJ (g : Addr → Option Obj) : Nat → List Addr
  | 0 => [mainGlobals, cStatics]
  | n + 1 => He.growD g (asJ g n)
def obsJ (bs : List Bf) (fn : List He.DefD) (K : PySem.W.Frag) : He.AlD := ((bs.all fun b => b K) && fn.all fun d => d.ok K, fn.map fun d => He.fnW K d.at_)
def SaysJ (bs : List Bf) (fn : List He.DefD) (K : PySem.W.Frag) : Prop := obsJ bs fn K = He.valD fn
def obsJG (n : Nat) (bs : List Bf) (fn : List He.DefD) (g : Addr → Option Obj) : He.AlD := obsJ bs fn (He.frG g (asJ g n))
def hookJ (n : Nat) (bs : List Bf) (fn : List He.DefD) : PySem.W.Hook where
  α := He.AlD
  obs := fun s => obsJG n bs fn s.heap.get?
  val := fun _ => He.valD fn
  says := fun _ h => ∃ K : PySem.W.Frag, K.In h ∧ SaysJ bs fn K
  of := fun _ _ e => ⟨_, He.frG_in, e⟩
  keeps := fun _ _ _ ⟨K, hK, c⟩ k => ⟨K, PySem.W.Frag.In.keeps hK k, c⟩
theorem obsJG_eq {n : Nat} {bs : List Bf} {fn : List He.DefD} {g : Addr → Option Obj} {s : Shared} (h : ∀ a, g a = s.heap.get? a) : obsJG n bs fn g = (hookJ n bs fn).obs s := by
  have e : g = s.heap.get? := funext h
  rw [e] <;> rfl
section
variable {bs : List Bf} {fn : List He.DefD} {K : PySem.W.Frag}
theorem SaysJ.fact (c : SaysJ bs fn K) (i : Nat) {b : Bf} (h : bs[i]? = some b := by rfl) : b K = true := by
  have c1 := (He.ba (show ((bs.all fun b => b K) && fn.all fun d => d.ok K) = true from congrArg (fun z : He.AlD => z.1) c)).1
  exact List.all_eq_true.mp c1 b (List.mem_of_getElem? h)
theorem SaysJ.def_ (c : SaysJ bs fn K) (i : Nat) {d : He.DefD} (h : fn[i]? = some d := by rfl) : ∃ fd, FunD K d.name d.qual d.params d.body d.scope (d.dvs K) (d.kws K) (He.fAd K d.at_) fd := by
  have c2 := (He.ba (show ((bs.all fun b => b K) && fn.all fun d => d.ok K) = true from congrArg (fun z : He.AlD => z.1) c)).2
  have e : fn.map (fun d => He.fnW K d.at_) = fn.map He.DefD.val := congrArg (fun z : He.AlD => z.2) c
  have e2 : (fn.map fun d => He.fnW K d.at_)[i]? = (fn.map He.DefD.val)[i]? := by rw [e]
  rw [List.getElem?_map, List.getElem?_map, h] at e2
  exact He.DefD.funD (Option.some.inj e2) (List.all_eq_true.mp c2 d (List.mem_of_getElem? h))
end

/-! ### facts of error classes -/
def oexB (K : PySem.W.Frag) (C : Addr) : Bool := (match K.lookup C with
  | some ⟨.type "type", _, .cls cd, sl⟩ => (match cd.mro, sl.toList with
    | .ref C' :: bm, [_, _, _, _, some (.builtin n), _] => C' == C && n == "ValueError.__new__" && !cd.hasDel && cd.hasDict && HandSPX.refsVE bm
    | _, _ => false)
  | _ => false) && (He.eqO (PySem.W.findIn K (.ref C) "__setattr__") (some (some (.builtin "object.__setattr__"))) && (decide (PySem.W.subIn K (.ref C) (.type "BaseException") = some true) && (decide (PySem.W.typeIn K (.ref C) = some (.type "type")) && PySem.W.keepIn K (.ref C))))
theorem oexB_ok {K : PySem.W.Frag} {C : Addr} (h : oexB K C = true) : OexC K C := by
  obtain ⟨h0, h⟩ := He.ba h
  obtain ⟨h1, h⟩ := He.ba h
  obtain ⟨h2, h⟩ := He.ba h
  obtain ⟨h3, h4⟩ := He.ba h
  refine ⟨?_, He.eqO_ok h1, of_decide_eq_true h2, of_decide_eq_true h3, h4⟩
  split at h0
  · rename_i dd cd sl ho
    split at h0
    · rename_i C' bm k0 k1 k2 k3 n k5 hm hs
      simp only [Bool.and_eq_true, beq_iff_eq, Bool.not_eq_true'] at h0
      obtain ⟨⟨⟨⟨rfl, rfl⟩, hdel⟩, hdict⟩, hv⟩ := h0
      obtain ⟨nm, bs, mro, ns, qn, hd, sn, sub, ab, col, del⟩ := cd
      dsimp only at hm hdel hdict
      subst hm hdel hdict
      have es : sl = #[k0, k1, k2, k3, some (.builtin "ValueError.__new__"), k5] := by
        obtain ⟨l⟩ := sl
        simp only at hs
        rw [hs]
      subst es
      exact ⟨nm, qn, ns, bs, bm, sn, sub, ab, col, dd, k0, k1, k2, k3, k5, ho, hv⟩
    · cases h0
  · cases h0
/-- all that is asked of an error class: it is made, its instances' class is asked, the field is read -/
def errB (x : Str) (fld : Str) : Bf := fun K =>
  He.eqO (PySem.W.nsIn K mainGlobals x) (some (some (.ref (He.ga K x)))) && (oexB K (He.ga K x) && (He.eqO (PySem.W.findIn K (.ref (He.ga K x)) "__init__") (some (some (.ref (He.ma K (He.ga K x) "__init__")))) &&
  (decide (PySem.W.typeIn K (.ref (He.ma K (He.ga K x) "__init__")) = some (.type "function")) && (xfB K (He.ga K x) && (He.eqO (PySem.W.findIn K (.ref (He.ga K x)) fld) (some none) &&
  (He.eqO (PySem.W.findIn K (.ref (He.ga K x)) "__class__") (some (some (.builtin "object.__class__"))) && (decide (PySem.W.mroIn K (He.ga K x) (.type "object") = some true)))))))) 
structure ErrN (K : PySem.W.Frag) (mg : Str → Option Value) (x fld : Str) : Prop where
  g : mg x = some (.ref (He.ga K x))
  c : ErrC K (He.ga K x) (He.ma K (He.ga K x) "__init__")
  f : XfC K (He.ga K x)
  nof : PySem.W.findIn K (.ref (He.ga K x)) fld = some none
  cl : PySem.W.findIn K (.ref (He.ga K x)) "__class__" = some (some (.builtin "object.__class__"))
  ob : PySem.W.mroIn K (He.ga K x) (.type "object") = some true
theorem errB_ok {K : PySem.W.Frag} {h : Heap} {mg : Str → Option Value} {x fld : Str} (X : K.In h) (G : h.Ns mainGlobals mg) (c : errB x fld K = true) : ErrN K mg x fld := by
  obtain ⟨h0, c⟩ := He.ba c
  obtain ⟨h1, c⟩ := He.ba c
  obtain ⟨h2, c⟩ := He.ba c
  obtain ⟨h3, c⟩ := He.ba c
  obtain ⟨h4, c⟩ := He.ba c
  obtain ⟨h5, c⟩ := He.ba c
  obtain ⟨h6, h7⟩ := He.ba c
  exact ⟨PySem.W.mg_of X G (He.eqO_ok h0), ⟨oexB_ok h1, He.eqO_ok h2, of_decide_eq_true h3⟩, xfB_ok h4, He.eqO_ok h5, He.eqO_ok h6, of_decide_eq_true h7⟩
/-- the getter of __class__, asked once -/
def clsB : Bf := fun K => He.eqO (PySem.W.specialIn K (.builtin "object.__class__") "__get__") (some (some (.builtin "getset_descriptor.__get__"))) && decide (PySem.W.takesIn K (.builtin "object.__class__") = some true)
theorem clsB_ok {K : PySem.W.Frag} (c : clsB K = true) : PySem.W.specialIn K (.builtin "object.__class__") "__get__" = some (some (.builtin "getset_descriptor.__get__")) ∧ PySem.W.takesIn K (.builtin "object.__class__") = some true := by
  obtain ⟨h0, h1⟩ := He.ba c
  exact ⟨He.eqO_ok h0, of_decide_eq_true h1⟩
theorem ErrN.is {K : PySem.W.Frag} {mg : Str → Option Value} {x fld : Str} (T : ErrN K mg x fld) (c : clsB K = true) : ExcC K (He.ga K x) :=
  ⟨T.f.ga, T.f.gg, T.f.exC, T.f.hdC, T.cl, (clsB_ok c).1, (clsB_ok c).2, T.ob⟩
/-- DrawError, whose __init__ is read off it -/
def derrB : Bf := fun K => He.eqO (PySem.W.nsIn K mainGlobals "DrawError") (some (some (.ref (He.ga K "DrawError")))) && (PySem.W.readsIn K (He.ga K "DrawError") (.type "type") &&
  (He.eqO (PySem.W.specialIn K (.ref (He.ga K "DrawError")) "__getattribute__") (some (some (.builtin "type.__getattribute__"))) &&
  (match PySem.W.findCls K (.ref (He.ga K "DrawError")) (.type "type") "__init__" with
    | some (.val v) => decide (v = .builtin "ValueError.__init__")
    | _ => false)))
theorem derrB_ok {K : PySem.W.Frag} {h : Heap} {mg : Str → Option Value} (X : K.In h) (G : h.Ns mainGlobals mg) (c : derrB K = true) : DErr K mg (He.ga K "DrawError") := by
  obtain ⟨h0, c⟩ := He.ba c
  obtain ⟨h1, c⟩ := He.ba c
  obtain ⟨h2, h3⟩ := He.ba c
  refine ⟨PySem.W.mg_of X G (He.eqO_ok h0), h1, He.eqO_ok h2, ?_⟩
  split at h3
  · rename_i v e
    rw [e, of_decide_eq_true h3]
  · cases h3
/-- a name that is none of the module's own -/
def freeB (x : Str) : Bf := fun K => He.eqO (PySem.W.nsIn K mainGlobals x) (some none)
theorem freeB_ok {K : PySem.W.Frag} {h : Heap} {mg : Str → Option Value} (X : K.In h) (G : h.Ns mainGlobals mg) {x : Str} (c : freeB x K = true) : mg x = none := PySem.W.mg_none_of X G (He.eqO_ok c)
/-- a name of the module's that stands for an object -/
def gloB (x : Str) : Bf := fun K => He.eqO (PySem.W.nsIn K mainGlobals x) (some (some (.ref (He.ga K x))))
theorem gloB_ok {K : PySem.W.Frag} {h : Heap} {mg : Str → Option Value} (X : K.In h) (G : h.Ns mainGlobals mg) {x : Str} (c : gloB x K = true) : mg x = some (.ref (He.ga K x)) := PySem.W.mg_of X G (He.eqO_ok c)

/-! ### the end -/
/-- the law's call, its promise kept where nothing is being shown -/
theorem law_callG {P : Program} {w : World} {K : PySem.W.Frag} {mg mb : Str → Option Value} {k : Nat} {fa a : Addr} {fd : FuncData} {x : Str} {sp : Sp} {s₁ : Shared} {vs : List Value} {ns : List Int}
    (KX : K.In s₁.heap) (hns : s₁.heap.Ns mainGlobals mg) (hb : s₁.heap.Ns builtinsNs mb) (hbb : ∀ x : Str, x ≠ "__name__" → mb x = bootBuiltins x) (hlim : s₁.heap.NoLimit) (hg : s₁.gens = #[])
    (ha : s₁.heap.get? a = some { cls := .type "list", data := .seq vs.toArray }) (hi : IntsAre vs ns) (hl : ns.length ≤ sizeLine) (hr : Room k callerA)
    (F : ∀ base : Heap, K.In base → base.Ns mainGlobals mg → FnG P w K mg base CX0 k fa fd [x] sp) (hbind : ∀ (s : Shared) (u : Value), BindsTo s fd ⟨[u], []⟩ [(x, u)])
    (hsp : ∀ H : Hp, Only H → SqL K H a (ns.map V.int) → sp [.ref a] H (fun v _ => v = .bl true) fun _ _ _ => False) :
    codeAny (model P w) callerA (.call (.ref fa) ⟨[.ref a], []⟩) (fun r s' => r = .ok (.ret (.bool true)) ∧ OldK s₁.heap s'.heap ∧ s'.os = s₁.os ∧ AllBare s'.gens) s₁ := by
  have rv := vals_ints hi
  have lenV := hi.length
  have core : ∀ H : Hp, Only H → SqL K H a (ns.map V.int) → HOk P w H s₁.heap → (∀ b, H b ≠ none → b = a) → (H a ≠ none → K.lookup a = none) →
      codeAny (model P w) callerA (.call (.ref fa) ⟨[.ref a], []⟩) (fun r s' => r = .ok (.ret (.bool true)) ∧ OldK s₁.heap s'.heap ∧ s'.os = s₁.os ∧ AllBare s'.gens) s₁ := by
    intro H hO hS hok hA hK
    have at_a : ∀ {b : Addr} {u : HO}, H b = some u → b = a := fun {b u} q => hA b (by rw [q]; simp)
    have noDict : ∀ {b : Addr} {o : Obj} {es : Array DictEntry} {ep : Nat}, s₁.heap.get? b = some o → o.data = .dict es ep → H b = none := fun {b o es ep} e d => by
      cases q : H b with
      | none => rfl
      | some u =>
        cases at_a q
        rw [ha] at e
        cases e
        cases (show Data.seq vs.toArray _ = Data.dict es ep from d)
    have nsK : ∀ {b : Addr} {m : Str → Option Value}, s₁.heap.Ns b m → (hidT s₁.heap H).Ns b m := fun {b m} ⟨o, es, ep, e, d, r⟩ => ⟨o, es, ep, hidT_get e (noDict e d), d, r⟩
    have inB : K.In (hidT s₁.heap H) := fun b o e => hidT_get (KX b o e) (by
      cases q : H b with
      | none => rfl
      | some u =>
        cases at_a q
        rw [hK (by rw [q]; simp)] at e
        cases e)
    have hM : Mod K mg (hidT s₁.heap H) := ⟨inB, nsK hns, ⟨mb, nsK hb, hbb⟩, let ⟨mc, h1, h2⟩ := hlim; ⟨mc, nsK h1, h2⟩⟩
    have e0 : Env0 P w K mg (hidT s₁.heap H) callerA [] s₁ H := ⟨rfl, hM, fun b o e => of_hidT e, Nat.le_of_eq (hidT_size _ _), trivial, fun b hb => absurd (show b ∈ ([] : List Addr) from hb) (by simp), hok, .of_eq hg⟩
    refine codeAny_mono ((F _ inB (nsK hns) callerA rfl hr).run [] s₁ H ⟨[.ref a], []⟩ [.ref a] [.ref a] _ _ e0 (hbind s₁ (.ref a)) (.cons rfl .nil) (hsp H hO hS)) fun r s' h => ?_
    match r, h with
    | .error e, h => exact h.elim
    | .ok .next, h => exact h.elim
    | .ok .brk, h => exact h.elim
    | .ok .cont, h => exact h.elim
    | .ok (.ret u), h =>
      obtain ⟨v, H', os, bare, un, hok', r', q⟩ := h
      cases (show v = .bl true from q)
      cases (show u = Value.bool true from r')
      refine ⟨rfl, OldK.of_keep fun b o e => ?_, os, bare⟩
      cases q : H b with
      | none => exact un.keep b o e q (by intro z; exact absurd (show b ∈ ([] : List Addr) from z) (by simp)) (by simp)
      | some u =>
        rcases hO b with z | ⟨ob, xs, z⟩
        · rw [q] at z
          cases z
        · have z2 := un.frzs b ob _ z
          obtain ⟨e1, _⟩ := hok b _ z
          obtain ⟨e2, _⟩ := hok' b _ z2
          rw [e] at e1
          cases e1
          exact e2
  cases hk : K.lookup a with
  | some o =>
    have e := KX a o hk
    rw [ha] at e
    cases e
    exact core (fun _ => none) (fun _ => .inl rfl) (.inr ⟨_, vs.toArray, _, hk, rfl, rfl, rfl, by rw [List.size_toArray, lenV]; exact hl, by simpa using rv⟩) (fun b u z => by cases (show (none : Option HO) = some u from z)) (fun b z => absurd rfl z) fun z => absurd rfl z
  | none =>
    refine core (fun b => if b = a then some (.frz { cls := .type "list", data := .seq vs.toArray } (.lst (ns.map V.int))) else none) (fun b => ?_) (.inl (.inr ⟨{ cls := .type "list", data := .seq vs.toArray }, if_pos rfl⟩)) (fun b u z => ?_) (fun b z => ?_) fun _ => hk
    · by_cases q : b = a
      · exact .inr ⟨_, _, if_pos q⟩
      · exact .inl (if_neg q)
    · by_cases q : b = a
      · cases (if_pos q).symm.trans z
        subst q
        exact ⟨ha, by rw [List.length_map]; exact hl, vs, _, rv, ha⟩
      · cases (if_neg q).symm.trans z
    · by_cases q : b = a
      · exact q
      · exact absurd (if_neg q) z
theorem walk_G {l : PySem.W.OpenLaw} {n k : Nat} {q : Program} {loose : List Str} {XP : (Str → Option Value) → Heap → Prop} {YP : World → Heap → Prop} {d : DefRec} {x : Str}
    (hn : l.most = some n) (hn2 : n ≤ sizeLine) (hdf : d.params.defaults = []) (hr : Room k callerA)
    (F : ∀ (w : World) (mg : Str → Option Value) (fa : Addr) (h : Heap), YP w h → h.Ns mainGlobals mg → mg d.name = some (.ref fa) →
      ∃ (K : PySem.W.Frag) (fd : FuncData) (sp : Sp), K.In h ∧ (∀ (s : Shared) (u : Value), BindsTo s fd ⟨[u], []⟩ [(x, u)]) ∧
        (∀ (H : Hp) (a : Addr) (ns : List Int), ns.length ≤ n → Only H → SqL K H a (ns.map V.int) → sp [.ref a] H (fun v _ => v = .bl true) fun _ _ _ => False) ∧
        ∀ base : Heap, K.In base → base.Ns mainGlobals mg → FnG l.prog w K mg base CX0 k fa fd [x] sp) :
    PySem.W.WalkO q loose XP YP l.row.toRowW d [] (fun f vs => PySem.call f vs) := by
  refine Att.attach_call hn hdf fun w s₀ s₁ mg mb fa o pm cd doc a vs ns G Y ho hd hcd hmg hobj hints hlen hg => ?_
  obtain ⟨K, fd, sp, KX, hb, hsp, hF⟩ := F w mg fa _ Y G.T.g hmg
  exact law_callG KX G.T.g G.T.b G.T.builtins G.T.nolimit hg hobj hints (Nat.le_trans hlen hn2) hr hF hb fun H hO hS => hsp H a ns hlen hO hS
end J

set_option Elab.async false
set_option linter.all false
set_option maxRecDepth 100000
set_option maxHeartbeats 4000000
/-! J5: rows of calls that make errors or ask their classes; the draws' promises. -/
namespace J
open PySem PySem.Spec PyProof.Rows L2

theorem pa_imp {X : Cx} {es : List Expr} {t u : TA} (h : PA X es t) (k : ∀ σ H Q, u σ H Q → t σ H Q) : PA X es u := ⟨fun pos pins s σ H Q I q => h.run pos pins s σ H Q I (k σ H Q q)⟩
theorem pe_imp {X : Cx} {e : Expr} {t u : TE} (h : PE X e t) (k : ∀ σ H Q, u σ H Q → t σ H Q) : PE X e u := ⟨fun pins s σ H Q I q => h.run pins s σ H Q I (k σ H Q q)⟩
theorem upS {H : Hp} {p : Addr} {o : HO} (h : H p = none) : Same H (upd H p o) := fun _ _ e => by rw [upd_ne (ne_of_none e h)]; exact e
theorem _root_.L2.Same.tupS {K : PySem.W.Frag} {H H' : Hp} {a : Addr} {xs : List V} (e : Same H H') (h : SqT K H a xs) : SqT K H' a xs :=
  h.elim (fun h => .inl (h.elim (fun h => .inl (e _ _ h)) fun ⟨o, h⟩ => .inr ⟨o, e _ _ h⟩)) fun h => .inr h
/-- steps of a reading -/
theorem seq_name {te : TE} {u : TS} {D : Ends} {σ : L2.St} {H : Hp} {i : Nat} (h : te σ H fun x H1 => u D (σ.set i (some x)) H1) : tSeq (tAsg te (gName i)) u D σ H := h
theorem seq_drop {te : TE} {u : TS} {D : Ends} {σ : L2.St} {H : Hp} (h : tDrop te { D with nx := u D } σ H) : tSeq (tDrop te) u D σ H := h
theorem lst_of {t : TA} {σ : L2.St} {H : Hp} {Q : VK} (h : t σ H fun xs H1 => xs.length ≤ sizeLine ∧ ∀ p, H1 p = none → Q (.ref p) (upd H1 p (.lst xs))) : tLst t σ H Q := h
theorem cons_of {te : TE} {ta : TA} {σ : L2.St} {H : Hp} {Q : List V → Hp → Prop} (h : te σ H fun x H1 => ta σ H1 fun xs H2 => Q (x :: xs) H2) : tCons te ta σ H Q := h
theorem op_of {r : R2} {ta tb : TE} {σ : L2.St} {H : Hp} {Q : VK} (h : ta σ H fun x H1 => tb σ H1 fun y H2 => r x y H2 Q) : tOp r ta tb σ H Q := h
theorem yes_if {A B : Hp → Prop} {σ : L2.St} {H : Hp} (h : A H) : tYes σ H (fun b H3 => if b = true then A H3 else B H3) := by
  show if true = true then A H else B H
  exact iteT h
theorem ret_of {te : TE} {D : Ends} {σ : L2.St} {H : Hp} (h : te σ H D.rt) : tRet te D σ H := h
/-- a property of each item -/
def AllJ {α : Type} (p : α → Prop) : List α → Prop
  | [] => True
  | a :: r => p a ∧ AllJ p r
/-- two rows fit, place by place -/
def fits {α β : Type} (f : α → β → Bool) : List α → List β → Bool
  | [], [] => true
  | a :: r, b :: q => f a b && fits f r q
  | _, _ => false

/-! ### what is asked of an error class with the field given -/
structure EK (P : Program) (w : World) (K : PySem.W.Frag) (mg : Str → Option Value) (base : Heap) (n : Str) : Prop where
  e : ErrN K mg n "given"
  fn : ∃ fd, FnOk P w K mg base CX0 1 (He.ma K (He.ga K n) "__init__") fd ["self", "given"] (spErr K (He.ga K n) "given") ∧ Binds K fd ["self", "given"] [] ∧
    ∀ (s : Shared) (a : Addr) (u : Value), K.In s.heap → BindsTo s fd ⟨[.ref a], [("given", u)]⟩ ((["self", "given"] : List Str).zip [.ref a, u])
  db : (n == ("__debug__" : Str)) = false
theorem kw_binds {K : PySem.W.Frag} {x qual : Str} {pa : Arguments} {bd : List Stmt} {sc : Scope} {f : Addr} {fd : FuncData} {fld : Str} (F : FunD K x qual pa bd sc [] [] f fd)
    (h : ∀ (kV doc pm : Value) (an : Option Addr) (cdv ct : Value) (a : Addr) (u : Value), bindArgs (PySem.W.fnOf x qual pa bd sc .none kV doc pm an cdv ct) ⟨[.ref a], [(fld, u)]⟩ = pure ((["self", fld] : List Str).zip [.ref a, u]))
    (s : Shared) (a : Addr) (u : Value) : BindsTo s fd ⟨[.ref a], [(fld, u)]⟩ ((["self", fld] : List Str).zip [.ref a, u]) := by
  obtain ⟨oc, od, dV, kV, doc, pm, an, cdv, ct, osl, rfl, lk, hcd, hD, hK⟩ := F.ex
  rcases hD with ⟨_, rfl⟩ | ⟨z, _⟩
  · exact .of_eq (h kV doc pm an cdv ct a u)
  · exact absurd rfl z

/-! ### [C(x), ..]: errors made of the value in slot i -/
def errCall (arg n : Str) : Expr → Bool
  | .Call (.Name m _) [.Name a _] [] _ => decide (m = n) && decide (a = arg)
  | _ => false
theorem errCall_ok {arg n : Str} {e : Expr} (h : errCall arg n e = true) : ∃ p q r, e = .Call (.Name n p) [.Name arg q] [] r := by
  unfold errCall at h
  split at h
  · obtain ⟨h1, h2⟩ := Bool.and_eq_true_iff.mp h
    have e1 := of_decide_eq_true h1
    have e2 := of_decide_eq_true h2
    subst e1 e2
    exact ⟨_, _, _, rfl⟩
  · cases h
def errCallK (arg n : Str) : Expr → Bool
  | .Call (.Name m _) [] [⟨some f, .Name a _, _⟩] _ => decide (m = n) && (decide (a = arg) && decide (f = "given"))
  | _ => false
theorem errCallK_ok {arg n : Str} {e : Expr} (h : errCallK arg n e = true) : ∃ p q r k, e = .Call (.Name n p) [] [⟨some "given", .Name arg q, k⟩] r := by
  unfold errCallK at h
  split at h
  · obtain ⟨h1, h⟩ := Bool.and_eq_true_iff.mp h
    obtain ⟨h2, h3⟩ := Bool.and_eq_true_iff.mp h
    have e1 := of_decide_eq_true h1
    have e2 := of_decide_eq_true h2
    have e3 := of_decide_eq_true h3
    subst e1 e2 e3
    exact ⟨_, _, _, _, rfl⟩
  · cases h
/-- the row of errors at as, of the classes ns, each with the value v -/
def Errs (K : PySem.W.Frag) (H : Hp) (v : V) : List Str → List Addr → Prop
  | [], [] => True
  | n :: ns, a :: as => ErrF H a (He.ga K n) "given" v ∧ Errs K H v ns as
  | _, _ => False
theorem Errs.ext {K : PySem.W.Frag} {H H' : Hp} {v : V} (k : Same H H') : ∀ {ns : List Str} {as : List Addr}, Errs K H v ns as → Errs K H' v ns as
  | [], [], _ => trivial
  | _ :: _, _ :: _, h => ⟨h.1.ext k, Errs.ext k h.2⟩
  | [], _ :: _, h => h.elim
  | _ :: _, [], h => h.elim
theorem Errs.app {K : PySem.W.Frag} {H : Hp} {v : V} : ∀ {ns : List Str} {as : List Addr} {ms : List Str} {bs : List Addr}, Errs K H v ns as → Errs K H v ms bs → Errs K H v (ns ++ ms) (as ++ bs)
  | [], [], _, _, _, h => h
  | _ :: _, _ :: _, _, _, h, h' => ⟨h.1, Errs.app h.2 h'⟩
  | [], _ :: _, _, _, h, _ => h.elim
  | _ :: _, [], _, _, h, _ => h.elim
theorem Errs.len {K : PySem.W.Frag} {H : Hp} {v : V} : ∀ {ns : List Str} {as : List Addr}, Errs K H v ns as → as.length = ns.length
  | [], [], _ => rfl
  | _ :: _, _ :: _, h => by rw [List.length_cons, List.length_cons, Errs.len h.2]
  | [], _ :: _, h => h.elim
  | _ :: _, [], h => h.elim
theorem Errs.at_ {K : PySem.W.Frag} {H : Hp} {v : V} : ∀ {ns : List Str} {as : List Addr} {j : Nat} {n : Str}, Errs K H v ns as → ns[j]? = some n → ∃ a, as[j]? = some a ∧ ErrF H a (He.ga K n) "given" v
  | _ :: _, _ :: _, 0, _, h, e => by
    cases e
    exact ⟨_, rfl, h.1⟩
  | _ :: _, _ :: _, j + 1, n, h, e => Errs.at_ (j := j) h.2 (by simpa using e)
  | [], _, _, _, _, e => by simp at e
  | _ :: _, [], _, _, h, _ => h.elim
def tErrs (K : PySem.W.Frag) (i : Nat) (ns : List Str) : TA := fun σ H Q => ∃ v, σ[i]? = some (some v) ∧ ∀ H' as, Same H H' → Errs K H' v ns as → Q (as.map V.ref) H'
theorem err_new {fld : Str} {H : Hp} {a d C : Addr} {v : V} (ha : H a = none) (hd : upd H a (exo a C none) d = none) (hda : d ≠ a) :
    Same H (upd (upd (upd H a (exo a C none)) d (exd d [(fld, v)])) a (exo a C (some d))) ∧ ErrF (upd (upd (upd H a (exo a C none)) d (exd d [(fld, v)])) a (exo a C (some d))) a C fld v := by
  have hd2 : H d = none := by rw [upd_ne hda] at hd; exact hd
  refine ⟨fun b o h => ?_, d, upd_same, ?_⟩
  · rw [upd_ne (ne_of_none h ha), upd_ne (ne_of_none h hd2), upd_ne (ne_of_none h ha)]
    exact h
  · rw [upd_ne hda, upd_same]
section
variable {X : Cx} {i : Nat} {arg : Str}
theorem pa_errs (hr : Room 2 X.A) (ha : ∀ q, PE X (.Name arg q) (tVar i)) : ∀ {ns : List Str} {es : List Expr}, fits (errCall arg) ns es = true → AllJ (EK X.prog X.w X.K X.mg X.base) ns → AllJ (Gl X) ns → PA X es (tErrs X.K i ns)
  | [], [], _, _, _ => pa_imp pa_nil fun σ H Q h => by
    obtain ⟨v, _, h⟩ := h
    exact h H [] (Same.refl _) trivial
  | n :: ns, e :: es, hf, hk, hg => by
    obtain ⟨h1, h2⟩ := Bool.and_eq_true_iff.mp hf
    obtain ⟨p, q, r, rfl⟩ := errCall_ok h1
    obtain ⟨fd, F, b, _⟩ := hk.1.fn
    refine pa_imp (pa_cons (pe_err hk.1.e.c F hr b hg.1 hk.1.e.g (pa_cons (ha q) pa_nil) hk.1.db) (pa_errs hr ha h2 hk.2 hg.2)) fun σ H Q h => ?_
    obtain ⟨v, hv, h⟩ := h
    refine ⟨v, hv, by show 1 ≤ 1000; decide, fun a na => ⟨a, v, rfl, upd_same, fun d nd hda => ⟨rfl, v, hv, fun H' as sm er => ?_⟩⟩⟩
    obtain ⟨k1, k2⟩ := err_new (v := v) na nd hda
    exact h H' (a :: as) (k1.trans sm) ⟨k2.ext sm, er⟩
  | [], _ :: _, hf, _, _ => by cases hf
  | _ :: _, [], hf, _, _ => by cases hf
theorem pa_errsK (hr : Room 2 X.A) (ha : ∀ q, PE X (.Name arg q) (tVar i)) : ∀ {ns : List Str} {es : List Expr}, fits (errCallK arg) ns es = true → AllJ (EK X.prog X.w X.K X.mg X.base) ns → AllJ (Gl X) ns → PA X es (tErrs X.K i ns)
  | [], [], _, _, _ => pa_imp pa_nil fun σ H Q h => by
    obtain ⟨v, _, h⟩ := h
    exact h H [] (Same.refl _) trivial
  | n :: ns, e :: es, hf, hk, hg => by
    obtain ⟨h1, h2⟩ := Bool.and_eq_true_iff.mp hf
    obtain ⟨p, q, r, k, rfl⟩ := errCallK_ok h1
    obtain ⟨fd, F, _, b⟩ := hk.1.fn
    refine pa_imp (pa_cons (pe_errK hk.1.e.c F hr (fun s' a u K' => b s' a u K') hg.1 hk.1.e.g (ha q) hk.1.db) (pa_errsK hr ha h2 hk.2 hg.2)) fun σ H Q h => ?_
    obtain ⟨v, hv, h⟩ := h
    refine ⟨v, hv, v, rfl, fun a na => ⟨a, v, rfl, upd_same, fun d nd hda => ⟨rfl, v, hv, fun H' as sm er => ?_⟩⟩⟩
    obtain ⟨k1, k2⟩ := err_new (v := v) na nd hda
    exact h H' (a :: as) (k1.trans sm) ⟨k2.ext sm, er⟩
  | [], _ :: _, hf, _, _ => by cases hf
  | _ :: _, [], hf, _, _ => by cases hf
end

/-! ### one error, made -/
theorem mk1C {K : PySem.W.Frag} {C : Addr} {fld : Str} {v : V} {σ : L2.St} {H : Hp} {Q : VK} (k : ∀ a H', Same H H' → ErrF H' a C fld v → Q (.ref a) H') : tErr C (spErr K C fld) (tCons (tC v) tNil) σ H Q := by
  refine ⟨(by show 1 ≤ 1000; decide), fun a na => ⟨a, v, rfl, upd_same, fun d nd hda => ⟨rfl, ?_⟩⟩⟩
  obtain ⟨k1, k2⟩ := err_new (fld := fld) (v := v) na nd hda
  exact k a _ k1 k2
theorem mk1V {K : PySem.W.Frag} {C : Addr} {fld : Str} {v : V} {i : Nat} {σ : L2.St} {H : Hp} {Q : VK} (hv : σ[i]? = some (some v)) (k : ∀ a H', Same H H' → ErrF H' a C fld v → Q (.ref a) H') : tErr C (spErr K C fld) (tCons (tVar i) tNil) σ H Q := by
  refine ⟨v, hv, (by show 1 ≤ 1000; decide), fun a na => ⟨a, v, rfl, upd_same, fun d nd hda => ⟨rfl, ?_⟩⟩⟩
  obtain ⟨k1, k2⟩ := err_new (fld := fld) (v := v) na nd hda
  exact k a _ k1 k2
theorem mkKV {K : PySem.W.Frag} {C : Addr} {fld : Str} {v : V} {i : Nat} {σ : L2.St} {H : Hp} {Q : VK} (hv : σ[i]? = some (some v)) (k : ∀ a H', Same H H' → ErrF H' a C fld v → Q (.ref a) H') : tErrK C (spErr K C fld) (tVar i) σ H Q := by
  refine ⟨v, hv, v, rfl, fun a na => ⟨a, v, rfl, upd_same, fun d nd hda => ⟨rfl, ?_⟩⟩⟩
  obtain ⟨k1, k2⟩ := err_new (fld := fld) (v := v) na nd hda
  exact k a _ k1 k2
theorem mk0 {C : Addr} {σ : L2.St} {H : Hp} {Q : VK} (k : ∀ a H', Same H H' → ErrO H' a C → Q (.ref a) H') : tErr C (spErr0 C) tNil σ H Q :=
  ⟨Nat.zero_le _, fun a na => ⟨a, rfl, upd_same, rfl, k a _ (upS na) ⟨none, upd_same, fun _ z => nomatch z⟩⟩⟩

/-! ### [isinstance(e, C), ..] -/
def isCall (arg n : Str) : Expr → Bool
  | .Call (.Name m _) [.Name a _, .Name c _] [] _ => decide (m = "isinstance") && (decide (a = arg) && decide (c = n))
  | _ => false
theorem isCall_ok {arg n : Str} {e : Expr} (h : isCall arg n e = true) : ∃ p q r s, e = .Call (.Name "isinstance" p) [.Name arg q, .Name n r] [] s := by
  unfold isCall at h
  split at h
  · obtain ⟨h1, h⟩ := Bool.and_eq_true_iff.mp h
    obtain ⟨h2, h3⟩ := Bool.and_eq_true_iff.mp h
    have e1 := of_decide_eq_true h1
    have e2 := of_decide_eq_true h2
    have e3 := of_decide_eq_true h3
    subst e1 e2 e3
    exact ⟨_, _, _, _, rfl⟩
  · cases h
/-- a class of the module's own, as isinstance is asked of it -/
structure ClsN (K : PySem.W.Frag) (mg : Str → Option Value) (n : Str) : Prop where
  g : mg n = some (.ref (He.ga K n))
  db : (n == ("__debug__" : Str)) = false
/-- the answers: C is the class at e -/
def kindsV (K : PySem.W.Frag) (C : Addr) (ns : List Str) : List V := ns.map fun n => V.bl (decide (C = He.ga K n))
def Knows (K : PySem.W.Frag) (C : Addr) (n : Str) : Prop := PySem.W.kitOne K (.ref C) (.ref (He.ga K n)) = some (decide (C = He.ga K n))
def tIsis (K : PySem.W.Frag) (i : Nat) (ns : List Str) : TA := fun σ H Q => ∃ e C, σ[i]? = some (some (.ref e)) ∧ ErrO H e C ∧ ExcC K C ∧ AllJ (Knows K C) ns ∧ Q (kindsV K C ns) H
theorem relref {a : Addr} : ∀ u, RelV (.ref a) u → u = Value.ref a := fun _ r => r
theorem pa_isis {X : Cx} {i : Nat} {arg : Str} (hi : Gl X "isinstance") (hm : X.mg "isinstance" = none) (ha : ∀ q, PE X (.Name arg q) (tVar i)) :
    ∀ {ns : List Str} {es : List Expr}, fits (isCall arg) ns es = true → AllJ (ClsN X.K X.mg) ns → AllJ (Gl X) ns → PA X es (tIsis X.K i ns)
  | [], [], _, _, _ => pa_imp pa_nil fun σ H Q h => by
    obtain ⟨e, C, _, _, _, _, h⟩ := h
    exact h
  | n :: ns, e :: es, hf, hk, hg => by
    obtain ⟨h1, h2⟩ := Bool.and_eq_true_iff.mp hf
    obtain ⟨p, q, r, s, rfl⟩ := isCall_ok h1
    refine pa_imp (pa_cons (pe_callB call_isX hi hm PyProof.Rows.boot_isinstance (pa_cons (ha q) (pa_cons (pe_glob (v := .ref (He.ga X.K n)) hg.1 hk.1.g rfl hk.1.db) pa_nil))) (pa_isis hi hm ha h2 hk.2 hg.2)) fun σ H Q h => ?_
    obtain ⟨a, C, hv, ho, hx, hw, h⟩ := h
    exact ⟨_, hv, a, C, _, _, _, rfl, ho, hx, relref, hw.1, a, C, hv, ho, hx, hw.2, h⟩
  | [], _ :: _, hf, _, _ => by cases hf
  | _ :: _, [], hf, _, _ => by cases hf
/-! ### a law's draws: cell, box, take -/
/-- a box of draws: a great number, a small one, how often the small one was mixed (at most n times) -/
def BoxAt (H : Hp) (p : Addr) (n : Int) : Prop := ∃ a b c : Int, H p = some (.lst [.int a, .int b, .int c]) ∧ 0 ≤ a ∧ 0 ≤ b ∧ b < 4294967296 ∧ 0 ≤ c ∧ c ≤ n
def spCellL (K : PySem.W.Frag) : Sp := fun vs H Q _ => ∃ (a : Addr) (ns : List Int) (k : Int), vs = [.ref a, .int k] ∧ SqL K H a (ns.map V.int) ∧ ns.length ≤ 1000 ∧ 0 ≤ k ∧ k < 1000 ∧ ∀ i : Int, Q (.int i) H
def spBoxL : Sp := fun vs H Q _ => ∃ i : Int, vs = [.int i] ∧ ∀ p H', H p = none → BoxAt H' p 0 → (∀ q, q ≠ p → H' q = H q) → Q (.ref p) H'
/-- a number from 0 on below m -/
def spTakeL : Sp := fun vs H Q _ => ∃ (p : Addr) (m n : Int), vs = [.ref p, .int m] ∧ BoxAt H p n ∧ n < 1000000 ∧ 0 < m ∧ m < 10 ^ 40 ∧ ∀ (r : Int) (H' : Hp), 0 ≤ r → r < m → BoxAt H' p (n + 1) → (∀ q, q ≠ p → H' q = H q) → Q (.int r) H'
theorem log_lt {m : Int} (h0 : 0 < m) (h : m < 10 ^ 40) : m.natAbs.log2 < 9000 := by
  have h1 : m.natAbs < 2 ^ 200 := by
    have e : (10 : Int) ^ 40 < 2 ^ 200 := by decide
    omega
  exact Nat.lt_of_lt_of_le (PySem.Flt.log2_lt_of (by decide) h1) (by decide)
theorem none_of {H H' : Hp} {p : Addr} (S : Same H H') (h : H' p = none) : H p = none := by
  cases z : H p with
  | none => rfl
  | some o =>
    rw [S p o z] at h
    cases h
def off (H : Hp) (q : Addr) : Hp := fun a => if a = q then none else H a
theorem off_same {H : Hp} {q : Addr} : Same (off H q) H := fun a o h => by
  unfold off at h
  by_cases e : a = q
  · rw [if_pos e] at h; cases h
  · rw [if_neg e] at h; exact h
theorem off_self {H : Hp} {q : Addr} : off H q q = none := if_pos rfl
theorem off_at {H : Hp} {q a : Addr} {o : HO} (h : H a = some o) (e : a ≠ q) : off H q a = some o := by
  unfold off
  rw [if_neg e]; exact h
theorem keep_off {G H H' : Hp} {q : Addr} (S : Same G H) (hq : G q = none) (k : ∀ a, a ≠ q → H' a = H a) : Same G H' := fun a o h => by
  rw [k a (ne_of_none h hq)]
  exact S a o h
theorem BoxAt.ext {H H' : Hp} {p : Addr} {n : Int} (h : BoxAt H p n) (k : Same H H') : BoxAt H' p n := by
  obtain ⟨a, b, c, h1, h2⟩ := h
  exact ⟨a, b, c, k _ _ h1, h2⟩
theorem BoxAt.ne {H : Hp} {p q : Addr} {n : Int} (h : BoxAt H p n) (hq : H q = none) : q ≠ p := by
  obtain ⟨a, b, c, h1, _⟩ := h
  exact (ne_of_none h1 hq).symm
end J

set_option Elab.async false
set_option linter.all false
set_option maxRecDepth 100000
set_option maxHeartbeats 4000000
/-! J6: operators of an own class, by the model's own steps. -/
namespace PySem.W
open PySem PySem.Calls PyProof.Rows Builtin
section
variable {prog : Program} {w : World} {A : Around} {E : Value → Shared → Prop} {s : Shared} {K : Frag} {x C f g : Addr} {ox : Obj} {od : Option Obj} {b : Value} {T : String} {nm : String}
/-- a method of two, tried: it takes -/
theorem jo_try {name : Str} {Q : Option Value → Shared → Prop} (X : K.In s.heap) (I : InstAt s.heap x ox C od) (hs : findIn K (.ref C) name = some (some (.ref f))) (hf : isFn K (.ref f) = true)
    (h : wpAny (model prog w) A (call (.ref f) [.ref x, b]) (CmpBack fun v => Q (some v)) E s) : wpAny (model prog w) A (tryMethod (.ref x) name b) Q E s := by
  unfold tryMethod
  refine wpAny_bind (special_fn X I hs (beq_iff_eq.mp hf) (wpAny_mono h (fun v s' hv => ?_) fun _ _ e => e))
  cases v <;> first | exact hv.elim | exact wpAny_pure hv
theorem jo_cmp {name : Str} {Q : Option Value → Shared → Prop} (X : K.In s.heap) (I : InstAt s.heap x ox C od) (hs : findIn K (.ref C) name = some (some (.ref f))) (hf : isFn K (.ref f) = true)
    (h : wpAny (model prog w) A (call (.ref f) [.ref x, b]) (CmpBack fun v => Q (some v)) E s) : wpAny (model prog w) A (tryCompare (.ref x) name b) Q E s := by
  unfold tryCompare
  refine wpAny_bind (ifBound_K X I hs hf (wpAny_mono h (fun v s' hv => ?_) fun _ _ e => e))
  cases v <;> first | exact hv.elim | exact wpAny_pure hv
theorem jo_num {M : Model} {h : Heap} (X : K.In h) {r : Option Value} (hs : findIn K (.ref C) (PySem.dunder nm) = some (some (.ref f))) (hr : findIn K (.ref C) (PySem.dunderR nm) = some r) (hr2 : r = none ∨ ∃ g, r = some (.ref g)) :
    Looks M h (numberSlotInPython (.ref C) nm) true := by
  intro A Q E s k q
  unfold numberSlotInPython
  refine wpAny_bind (looks_findIn X hs A _ E s k ?_)
  refine wpAny_bind (wpAny_pure ?_)
  refine wpAny_bind (looks_findIn X hr A _ E s k ?_)
  rcases hr2 with rfl | ⟨g, rfl⟩
  · refine wpAny_bind (wpAny_pure ?_)
    exact wpAny_pure q
  · refine wpAny_bind (wpAny_pure ?_)
    exact wpAny_pure q
/-- x op b, b of a type of Python's own, the class's def for op is asked -/
theorem jo_left {r rT : Option Value} {left : Bool} {Q : Option Value → Shared → Prop} (X : K.In s.heap) (I : InstAt s.heap x ox C od) (hc : selfFirst K C = true) (hb : s.TypeIs b T) (hfT : fillsNumberSlot (.type T) nm = pure left) (hsub : subIn K (.type T) (.ref C) = some false)
    (hs : findIn K (.ref C) (PySem.dunder nm) = some (some (.ref f))) (hr : findIn K (.ref C) (PySem.dunderR nm) = some r) (hr2 : r = none ∨ ∃ g, r = some (.ref g)) (hrT : typeLookup (.type T) (PySem.dunderR nm) = pure rT) (hf : isFn K (.ref f) = true)
    (h : wpAny (model prog w) A (call (.ref f) [.ref x, b]) (CmpBack fun v => Q (some v)) E s) : wpAny (model prog w) A (binaryOp1 nm (.ref x) b) Q E s := by
  obtain ⟨cd, hcd, hm⟩ := any_some hc
  obtain ⟨rest, hm⟩ : ∃ rest, cd.mro = .ref C :: rest := by
    cases q : cd.mro with
    | nil => rw [q] at hm; cases hm
    | cons a r => rw [q] at hm; exact ⟨r, by rw [List.head?_cons] at hm; cases (beq_iff_eq.mp hm); rfl⟩
  have goal2 : wpAny (model prog w) A (tryMethod (.ref x) (PySem.dunder nm) b) (fun v s' => ∃ u, v = some u ∧ Q (some u) s') E s := jo_try X I hs hf (wpAny_mono h (fun v s' hv => by
    cases v <;> first | exact hv.elim | exact ⟨_, rfl, hv⟩) fun _ _ e => e)
  unfold binaryOp1
  refine wpAny_bind (I.type.here (wpAny_bind (wpAny_typeOf hb (wpAny_bind ((fills_K X hcd hm hs).here ?_)))))
  have hne : ((Value.ref C) == (Value.type T)) = false := rfl
  simp only [hne, Bool.false_eq_true, if_false]
  refine wpAny_bind (wpAny_of_eq hfT ?_)
  have npT : numberSlotInPython (.type T) nm = pure false := rfl
  cases left with
  | false =>
    simp only [Bool.and_false, Bool.false_eq_true, if_false, Bool.false_and, Bool.true_and, if_true, pure_bind]
    refine wpAny_bind (wpAny_mono goal2 (fun v s' z => ?_) fun _ _ e => e)
    obtain ⟨u, rfl, z⟩ := z
    exact wpAny_pure z
  | true =>
    simp only [Bool.and_true, if_true]
    refine wpAny_bind ((looks_subIn X hsub).here ?_)
    simp only [Bool.false_eq_true, if_false, Bool.not_false, if_true, pure_bind, Bool.and_true]
    refine wpAny_bind ((jo_num X hs hr hr2).here ?_)
    simp only [if_true, npT, pure_bind, Bool.not_false]
    refine wpAny_bind (wpAny_of_eq hrT ?_)
    refine wpAny_bind (wpAny_mono goal2 (fun v s' z => ?_) fun _ _ e => e)
    obtain ⟨u, rfl, z⟩ := z
    exact wpAny_pure z
/-- a op x, a of a type of Python's own whose op declines: the class's reflected def is asked -/
theorem jo_right {a : Value} {id : String} {Q : Option Value → Shared → Prop} (X : K.In s.heap) (I : InstAt s.heap x ox C od) (hc : selfFirst K C = true) (ha : s.TypeIs a T) (hfT : fillsNumberSlot (.type T) nm = pure true) (hsub : subIn K (.ref C) (.type T) = some false)
    (hs : findIn K (.ref C) (PySem.dunder nm) = some (some (.ref f))) (hr : findIn K (.ref C) (PySem.dunderR nm) = some (some (.ref g))) (hl : Slot T (PySem.dunder nm) id) (hg : isFn K (.ref g) = true)
    (hd : ∀ Q' : Value → Shared → Prop, Q' .notImplemented s → wpAny (model prog w) A (call (.builtin id) [a, .ref x]) Q' E s)
    (h : wpAny (model prog w) A (call (.ref g) [.ref x, a]) (CmpBack fun v => Q (some v)) E s) : wpAny (model prog w) A (binaryOp1 nm a (.ref x)) Q E s := by
  obtain ⟨cd, hcd, hm⟩ := any_some hc
  obtain ⟨rest, hm⟩ : ∃ rest, cd.mro = .ref C :: rest := by
    cases q : cd.mro with
    | nil => rw [q] at hm; cases hm
    | cons a r => rw [q] at hm; exact ⟨r, by rw [List.head?_cons] at hm; cases (beq_iff_eq.mp hm); rfl⟩
  have goal2 : wpAny (model prog w) A (tryMethod (.ref x) (PySem.dunderR nm) a) (fun v s' => ∃ u, v = some u ∧ Q (some u) s') E s := jo_try X I hr hg (wpAny_mono h (fun v s' hv => by
    cases v <;> first | exact hv.elim | exact ⟨_, rfl, hv⟩) fun _ _ e => e)
  unfold binaryOp1
  refine wpAny_bind (wpAny_typeOf ha (wpAny_bind (I.type.here (wpAny_bind (wpAny_of_eq hfT ?_)))))
  have hne : ((Value.type T) == (Value.ref C)) = false := rfl
  simp only [hne, Bool.false_eq_true, if_false]
  refine wpAny_bind ((fills_K X hcd hm hs).here ?_)
  have npT : numberSlotInPython (.type T) nm = pure false := rfl
  simp only [Bool.and_true, if_true]
  refine wpAny_bind ((looks_subIn X hsub).here ?_)
  simp only [Bool.false_eq_true, if_false, Bool.not_false, if_true, pure_bind, Bool.and_true, npT]
  refine wpAny_bind (wpAny_tryMethod_declines ha hl (hd _ ⟨rfl, ?_⟩))
  refine wpAny_bind (wpAny_mono goal2 (fun v s' z => ?_) fun _ _ e => e)
  obtain ⟨u, rfl, z⟩ := z
  exact wpAny_bind (wpAny_rule (wpAny_pure z))
theorem jo_op {op : Operator} {a : Value} {Q : Value → Shared → Prop} (h : wpAny (model prog w) A (binaryOp1 op.info.2 a b) (fun v s' => ∃ u, v = some u ∧ Q u s') E s) : wpAny (model prog w) A (binaryOp op a b) Q E s := by
  unfold binaryOp
  refine wpAny_holding (wpAny_bind (wpAny_mono h (fun v s' z => ?_) fun _ _ e => e))
  obtain ⟨u, rfl, z⟩ := z
  exact wpAny_pure z
/-- both of the class -/
theorem jo_same {Q : Option Value → Shared → Prop} (X : K.In s.heap) (I : InstAt s.heap x ox C od) (hc : selfFirst K C = true) (hb : Looks (model prog w) s.heap (typeOf b) (.ref C))
    (hs : findIn K (.ref C) (PySem.dunder nm) = some (some (.ref f))) (hf : isFn K (.ref f) = true)
    (h : wpAny (model prog w) A (call (.ref f) [.ref x, b]) (CmpBack fun v => Q (some v)) E s) : wpAny (model prog w) A (binaryOp1 nm (.ref x) b) Q E s := by
  obtain ⟨cd, hcd, hm⟩ := any_some hc
  obtain ⟨rest, hm⟩ : ∃ rest, cd.mro = .ref C :: rest := by
    cases q : cd.mro with
    | nil => rw [q] at hm; cases hm
    | cons a r => rw [q] at hm; exact ⟨r, by rw [List.head?_cons] at hm; cases (beq_iff_eq.mp hm); rfl⟩
  have goal2 : wpAny (model prog w) A (tryMethod (.ref x) (PySem.dunder nm) b) (fun v s' => ∃ u, v = some u ∧ Q (some u) s') E s := jo_try X I hs hf (wpAny_mono h (fun v s' hv => by
    cases v <;> first | exact hv.elim | exact ⟨_, rfl, hv⟩) fun _ _ e => e)
  unfold binaryOp1
  refine wpAny_bind (I.type.here (wpAny_bind (hb.here (wpAny_bind ((fills_K X hcd hm hs).here ?_)))))
  simp only [beq_self_eq_true, if_true]
  refine wpAny_bind (wpAny_pure ?_)
  simp only [Bool.and_false, Bool.false_eq_true, if_false, Bool.false_and, pure_bind, if_true]
  refine wpAny_bind (wpAny_mono goal2 (fun v s' z => ?_) fun _ _ e => e)
  obtain ⟨u, rfl, z⟩ := z
  exact wpAny_pure z
/-- -x -/
theorem jo_neg {Q : Value → Shared → Prop} (X : K.In s.heap) (I : InstAt s.heap x ox C od) (hs : findIn K (.ref C) "__neg__" = some (some (.ref f))) (hf : isFn K (.ref f) = true)
    (h : wpAny (model prog w) A (call (.ref f) [.ref x]) Q E s) : wpAny (model prog w) A (unaryOp .USub (.ref x)) Q E s := by
  unfold unaryOp
  refine wpAny_holding ?_
  simp only [show (UnaryOp.USub == UnaryOp.Not) = false from rfl, Bool.false_eq_true, if_false, pure_bind]
  exact wpAny_bind (special_fn X I hs (beq_iff_eq.mp hf) (wpAny_mono h (fun v s' hv => wpAny_pure hv) fun _ _ e => e))
/-- x == b, x < b ..: the class's own def, b of another type or of the class -/
theorem jo_bin {op : CmpOp} {tb : Value} {Q : Value → Shared → Prop} (hu : A.units < cLine) (X : K.In s.heap) (I : InstAt s.heap x ox C od) (hb : Looks (model prog w) s.heap (typeOf b) tb) (hn : notFirst K C tb = true)
    (hs : findIn K (.ref C) (cmpInfo op).2.1 = some (some (.ref f))) (hf : isFn K (.ref f) = true)
    (h : wpAny (model prog w) A (call (.ref f) [.ref x, b]) (CmpBack Q) E s) : wpAny (model prog w) A (richCompare op (.ref x) b) Q E s := by
  have one : wpAny (model prog w) A (tryCompare (.ref x) (cmpInfo op).2.1 b) (fun r s' => ∃ v, r = some v ∧ Q v s') E s := jo_cmp X I hs hf (wpAny_mono h (fun v s' hv => by
    cases v <;> first | exact hv.elim | exact ⟨_, rfl, hv⟩) fun _ _ e => e)
  unfold richCompare
  simp only [oneThing_ref]
  refine wpAny_holding (wpAny_bind (wpAny_cRoomFor hu ?_))
  refine wpAny_bind (I.type.here (wpAny_bind (hb.here ?_)))
  split
  · rename_i q
    have e : subIn K tb (.ref C) = some false := by
      rcases Bool.or_eq_true_iff.mp hn with e | e
      · rw [beq_iff_eq.mp e] at q; simp at q
      · exact beq_iff_eq.mp e
    refine wpAny_bind ((looks_subIn X e).here ?_)
    simp only [Bool.false_eq_true, if_false]
    refine wpAny_bind (wpAny_mono one (fun r s' z => ?_) fun _ _ e => e)
    obtain ⟨v, rfl, hq⟩ := z
    exact wpAny_pure hq
  · refine wpAny_bind (wpAny_pure ?_)
    simp only [Bool.false_eq_true, if_false]
    refine wpAny_bind (wpAny_mono one (fun r s' z => ?_) fun _ _ e => e)
    obtain ⟨v, rfl, hq⟩ := z
    exact wpAny_pure hq
/-- a == x, a of a type of Python's own that declines -/
theorem jo_eqR {a : Value} {id : String} {Q : Value → Shared → Prop} (hu : A.units < cLine) (X : K.In s.heap) (I : InstAt s.heap x ox C od) (ha : s.TypeIs a T) (hsub : subIn K (.ref C) (.type T) = some false)
    (hs : findIn K (.ref C) "__eq__" = some (some (.ref f))) (hl : Slot T (cmpInfo .Eq).2.1 id) (hf : isFn K (.ref f) = true)
    (hd : ∀ Q' : Value → Shared → Prop, Q' .notImplemented s → wpAny (model prog w) A (call (.builtin id) [a, .ref x]) Q' E s)
    (h : wpAny (model prog w) A (call (.ref f) [.ref x, a]) (CmpBack Q) E s) : wpAny (model prog w) A (richCompare .Eq a (.ref x)) Q E s := by
  have one : wpAny (model prog w) A (tryCompare (.ref x) (cmpInfo .Eq).2.2 a) (fun r s' => ∃ v, r = some v ∧ Q v s') E s := jo_cmp X I hs hf (wpAny_mono h (fun v s' hv => by
    cases v <;> first | exact hv.elim | exact ⟨_, rfl, hv⟩) fun _ _ e => e)
  unfold richCompare
  simp only [ha.oneThing_none]
  refine wpAny_holding (wpAny_bind (wpAny_cRoomFor hu ?_))
  refine wpAny_bind (wpAny_typeOf ha (wpAny_bind (I.type.here ?_)))
  have hne : (Value.type T != Value.ref C) = true := rfl
  simp only [hne, if_true]
  refine wpAny_bind ((looks_subIn X hsub).here ?_)
  simp only [Bool.false_eq_true, if_false, Bool.not_false, if_true]
  refine wpAny_bind (m := tryCompare a _ (.ref x)) (wpAny_tryCompare_declines ha hl (hd _ ⟨rfl, ?_⟩))
  refine wpAny_bind (wpAny_mono one (fun r s' z => ?_) fun _ _ e => e)
  obtain ⟨v, rfl, hq⟩ := z
  exact wpAny_pure hq
/-! ### what declines an instance -/
section
variable {E' : Value → Shared → Prop}
theorem jo_inst_no {M : Model} (X : K.In s.heap) (I : InstAt s.heap x ox C od) (hsub : subIn K (.ref C) (.type T) = some false) : Looks M s.heap (isInstance (.ref x) (.type T)) false := by
  intro A Q E s' k q
  unfold isInstance
  refine wpAny_bind (I.type A _ E s' k ?_)
  exact looks_subIn X hsub A _ E s' k q
theorem jo_slotArgs {M : Model} {n : String} {a c : Value} {Q : Value × List Value → Shared → Prop} (h : Q (a, [c]) s) : wpAny M A (slotArgs n 1 ⟨[a, c], []⟩) Q E s := by
  unfold slotArgs
  simp only [List.isEmpty_nil, Bool.not_true, Bool.false_eq_true, if_false, List.length_cons, List.length_nil, bne_self_eq_false, pure_bind]
  exact wpAny_pure h
theorem jo_asInt {name : String} {fn : Int → Int → Sem Fin} {rf : Bool} {Q : Value → Shared → Prop} {a : Value} (ha : (∃ i t, a = .int i t) ∨ ∃ b, a = .bool b) (hx : s.heap.get? x = some ox) (hp : ox.data = .plain) (h : Q .notImplemented s) :
    wpAny (model prog w) A (Builtin.Int.intBinary name fn rf ⟨[a, .ref x], []⟩) (fun fin s' => ∃ v, fin = Fin.done (.ret v) ∧ Q v s') E s := by
  unfold Builtin.Int.intBinary
  refine wpAny_bind (jo_slotArgs ?_)
  unfold Builtin.Int.intOfSelf
  rcases ha with ⟨i, t, rfl⟩ | ⟨b, rfl⟩
  · refine wpAny_bind (wpAny_bind (wpAny_pure (wpAny_pure ?_)))
    unfold asInt?
    refine wpAny_bind (wpAny_bind (wpAny_load hx ?_))
    rw [hp]
    exact wpAny_pure (wpAny_bind (wpAny_rule (wpAny_pure ⟨_, rfl, h⟩)))
  · refine wpAny_bind (wpAny_bind (wpAny_pure (wpAny_pure ?_)))
    unfold asInt?
    refine wpAny_bind (wpAny_bind (wpAny_load hx ?_))
    rw [hp]
    exact wpAny_pure (wpAny_bind (wpAny_rule (wpAny_pure ⟨_, rfl, h⟩)))
variable {Q : Value → Shared → Prop}
theorem jo_add {i : Int} {t : Tok} (hx : s.heap.get? x = some ox) (hp : ox.data = .plain) (h : Q .notImplemented s) : wpAny (model prog w) A (call (.builtin "int.__add__") [.int i t, .ref x]) Q E s :=
  wpAny_call_entry PySem.F.slot_int_add (typeIs_int s i t) PySem.F.entry_int_add (jo_asInt (.inl ⟨i, t, rfl⟩) hx hp h) (PySem.F.args_int_add_2 _ _)
theorem jo_sub {i : Int} {t : Tok} (hx : s.heap.get? x = some ox) (hp : ox.data = .plain) (h : Q .notImplemented s) : wpAny (model prog w) A (call (.builtin "int.__sub__") [.int i t, .ref x]) Q E s :=
  wpAny_call_entry PySem.F.slot_int_sub (typeIs_int s i t) PySem.F.entry_int_sub (jo_asInt (.inl ⟨i, t, rfl⟩) hx hp h) (PySem.F.args_int_sub_2 _ _)
theorem jo_mul {i : Int} {t : Tok} (hx : s.heap.get? x = some ox) (hp : ox.data = .plain) (h : Q .notImplemented s) : wpAny (model prog w) A (call (.builtin "int.__mul__") [.int i t, .ref x]) Q E s :=
  wpAny_call_entry PySem.F.slot_int_mul (typeIs_int s i t) PySem.F.entry_int_mul (jo_asInt (.inl ⟨i, t, rfl⟩) hx hp h) (PySem.F.args_int_mul_2 _ _)
theorem jo_eqI {i : Int} {t : Tok} (hx : s.heap.get? x = some ox) (hp : ox.data = .plain) (h : Q .notImplemented s) : wpAny (model prog w) A (call (.builtin "int.__eq__") [.int i t, .ref x]) Q E s :=
  wpAny_call_entry PySem.F.slot_int_eq (typeIs_int s i t) PySem.F.entry_int_eq (jo_asInt (.inl ⟨i, t, rfl⟩) hx hp h) (PySem.F.args_int_eq_2 _ _)
theorem jo_eqB {b : Bool} (hx : s.heap.get? x = some ox) (hp : ox.data = .plain) (h : Q .notImplemented s) : wpAny (model prog w) A (call (.builtin "int.__eq__") [.bool b, .ref x]) Q E s :=
  wpAny_call_entry PySem.F.slot_bool_eq rfl PySem.F.entry_int_eq (jo_asInt (.inr ⟨b, rfl⟩) hx hp h) (PySem.F.args_int_eq_2 _ _)
theorem jo_eqN (h : Q .notImplemented s) : wpAny (model prog w) A (call (.builtin "NoneType.__eq__") [.none, .ref x]) Q E s := by
  refine wpAny_call_entry PySem.F.slot_NoneType_eq rfl PySem.F.entry_NoneType_eq ?_ (PySem.F.args_NoneType_eq_2 _ _)
  unfold Builtin.«NoneType.__eq__»
  exact wpAny_bind (jo_slotArgs (wpAny_pure ⟨_, rfl, h⟩))
theorem jo_eqS {z : Str} {t : Tok} (hx : s.heap.get? x = some ox) (hp : ox.data = .plain) (h : Q .notImplemented s) : wpAny (model prog w) A (call (.builtin "str.__eq__") [.str z t, .ref x]) Q E s := by
  refine wpAny_call_entry PySem.F.slot_str_eq (typeIs_str s z t) PySem.F.entry_str_eq ?_ (PySem.F.args_str_eq_2 _ _)
  unfold Builtin.«str.__eq__» Builtin.Str.strCompare Builtin.Str.strSlot
  refine wpAny_bind (wpAny_bind (jo_slotArgs (wpAny_bind (wpAny_pure (wpAny_pure ?_)))))
  unfold asStr?
  refine wpAny_bind (wpAny_bind (wpAny_load hx ?_))
  rw [hp]
  exact wpAny_pure (wpAny_bind (wpAny_rule (wpAny_pure ⟨_, rfl, h⟩)))
theorem jo_eqL {l : Addr} (X : K.In s.heap) (I : InstAt s.heap x ox C od) (hl : s.TypeIs (.ref l) "list") (hsub : subIn K (.ref C) (.type "list") = some false) (h : Q .notImplemented s) : wpAny (model prog w) A (call (.builtin "list.__eq__") [.ref l, .ref x]) Q E s := by
  refine wpAny_call_entry PySem.F.slot_list_eq hl PySem.F.entry_list_eq ?_ (PySem.F.args_list_eq_2 _ _)
  show wpAny _ _ (slotArgs "__eq__" 1 ⟨[.ref l, .ref x], []⟩ >>= _) _ _ s
  refine wpAny_bind (jo_slotArgs ?_)
  refine wpAny_bind ((jo_inst_no X I hsub).here ?_)
  exact wpAny_bind (wpAny_pure (wpAny_pure ⟨_, rfl, h⟩))
theorem jo_eqT {l : Addr} (X : K.In s.heap) (I : InstAt s.heap x ox C od) (hl : s.TypeIs (.ref l) "tuple") (hsub : subIn K (.ref C) (.type "tuple") = some false) (h : Q .notImplemented s) : wpAny (model prog w) A (call (.builtin "tuple.__eq__") [.ref l, .ref x]) Q E s := by
  refine wpAny_call_entry PySem.F.slot_tuple_eq hl PySem.F.entry_tuple_eq ?_ (PySem.F.args_tuple_eq_2 _ _)
  show wpAny _ _ (slotArgs "__eq__" 1 ⟨[.ref l, .ref x], []⟩ >>= _) _ _ s
  refine wpAny_bind (jo_slotArgs ?_)
  refine wpAny_bind ((jo_inst_no X I hsub).here ?_)
  exact wpAny_bind (wpAny_pure (wpAny_pure ⟨_, rfl, h⟩))
theorem jo_eqD {l : Addr} (X : K.In s.heap) (I : InstAt s.heap x ox C od) (hl : s.TypeIs (.ref l) "dict") (hsub : subIn K (.ref C) (.type "dict") = some false) (h : Q .notImplemented s) : wpAny (model prog w) A (call (.builtin "dict.__eq__") [.ref l, .ref x]) Q E s := by
  refine wpAny_call_entry PySem.F.slot_dict_eq hl PySem.F.entry_dict_eq ?_ (PySem.F.args_dict_eq_2 _ _)
  show wpAny _ _ (Builtin.Dict.dictSlotArgs "__eq__" ⟨[.ref l, .ref x], []⟩ >>= _) _ _ s
  refine wpAny_bind ?_
  unfold Builtin.Dict.dictSlotArgs Builtin.Dict.notOrdered
  refine wpAny_bind (wpAny_pure (wpAny_bind (jo_slotArgs (wpAny_pure ?_))))
  refine wpAny_bind ((jo_inst_no X I hsub).here ?_)
  exact wpAny_bind (wpAny_rule (wpAny_bind (wpAny_pure (wpAny_pure ⟨_, rfl, h⟩))))
/-! ### x op= b, and x != b -/
def mroTwo (K : Frag) (C : Addr) : Bool := (clsIn K C).any fun cd => cd.mro == [.ref C, .type "object"]
theorem jo_noI {M : Model} {h : Heap} {add : Bool} (X : K.In h) (hc : mroTwo K C = true) (hn : findIn K (.ref C) (PySem.dunderI nm) = some none) (ho : typeLookup (.type "object") (PySem.dunderI nm) = pure none) : Looks M h (fillsInplaceSlot (.ref C) nm add) false := by
  obtain ⟨cd, hcd, hm⟩ := any_some hc
  intro A Q E s k q
  unfold fillsInplaceSlot
  refine wpAny_bind ((looks_clsIn X hcd).andThen (f := fun cd => pure cd.mro) .now A _ E s k ?_)
  rw [eq_of_beq hm, List.anyM_cons]
  refine wpAny_bind (wpAny_bind (looks_findIn X hn A _ E s k ?_))
  refine wpAny_pure ?_
  simp only [Bool.false_eq_true, if_false]
  rw [List.anyM_cons]
  refine wpAny_bind (wpAny_bind (wpAny_of_eq ho ?_))
  refine wpAny_pure ?_
  simp only [Bool.false_eq_true, if_false, List.anyM_nil]
  exact wpAny_pure q
theorem jo_inpl {op : Operator} {Q : Value → Shared → Prop} (X : K.In s.heap) (I : InstAt s.heap x ox C od) (hc : mroTwo K C = true) (hn : findIn K (.ref C) (PySem.dunderI op.info.2) = some none) (ho : typeLookup (.type "object") (PySem.dunderI op.info.2) = pure none)
    (h : wpAny (model prog w) A (binaryOp1 op.info.2 (.ref x) b) (fun v s' => ∃ u, v = some u ∧ Q u s') E s) : wpAny (model prog w) A (inplaceOp op (.ref x) b) Q E s := by
  unfold inplaceOp
  refine wpAny_holding (wpAny_bind (I.type.here (wpAny_bind ((jo_noI X hc hn ho).here ?_))))
  simp only [Bool.false_eq_true, if_false]
  refine wpAny_bind (wpAny_mono h (fun v s' z => ?_) fun _ _ e => e)
  obtain ⟨u, rfl, z⟩ := z
  exact wpAny_pure z
theorem ne_bind (self : Value) : bindSpecial (.builtin "object.__ne__") self = pure (.builtin "object.__ne__", [self]) :=
  (Slot.of (T := "object") (name := "__ne__") (owner := "object") (n := "__ne__") (by rw [typeLookup_type, builtinLookup_eq_fast]; kernel_rfl) (by decide +kernel) (by decide +kernel) (by decide +kernel)
    (.inl (by decide +kernel)) (by rw [isSubtype_type]; kernel_rfl)).bind self
theorem ne_plain : (Code.builtin "object.__ne__" ⟨[], []⟩).quiet = true := by decide +kernel
theorem jo_ne {tb : Value} {Q : Value → Shared → Prop} (hu : A.units + 8 < cLine) (X : K.In s.heap) (I : InstAt s.heap x ox C od) (hb : Looks (model prog w) s.heap (typeOf b) tb) (hn : notFirst K C tb = true) (hob : subIn K (.ref C) (.type "object") = some true)
    (hne : findIn K (.ref C) "__ne__" = some (some (.builtin "object.__ne__"))) (hs : findIn K (.ref C) "__eq__" = some (some (.ref f))) (hf : isFn K (.ref f) = true)
    (h : wpAny (model prog w) A.in1 (call (.ref f) [.ref x, b]) (fun v s' => ∃ c, v = .bool c ∧ Q (.bool (!c)) s') E s) : wpAny (model prog w) A (richCompare .NotEq (.ref x) b) Q E s := by
  have body : wpAny (model prog w) A.in1 (Builtin.«object.__ne__» ⟨[.ref x, b], []⟩) (fun fin s' => ∃ c, fin = Fin.done (.ret (.bool c)) ∧ Q (.bool c) s') E s := by
    unfold Builtin.«object.__ne__»
    refine wpAny_bind (jo_slotArgs ?_)
    refine wpAny_bind (wpAny_cRoomFor (by show A.units + 1 < cLine; omega) ?_)
    refine wpAny_bind (ifBound_K X I hs hf (wpAny_mono h (fun v s' z => ?_) fun _ _ e => e))
    obtain ⟨c, rfl, z⟩ := z
    exact wpAny_bind (wpAny_truthy_bool (wpAny_pure ⟨_, rfl, z⟩))
  have hinst : Looks (model prog w) s.heap (isInstance (.ref x) (.type "object")) true := by
    intro A Q E s' k q
    unfold isInstance
    refine wpAny_bind (I.type A _ E s' k ?_)
    exact looks_subIn X hob A _ E s' k q
  have hcall : wpAny (model prog w) A (call (.builtin "object.__ne__") [.ref x, b]) (fun v s' => ∃ c, v = .bool c ∧ Q (.bool c) s') E s := by
    refine wpAny_call (codeAny_call_builtin (by decide +kernel) PySem.F.cmpEntry_ne (check_slot PySem.F.cmpKind_ne PySem.F.cmpSplit_ne hinst (PySem.F.cmpArgs_ne _ _) (wpAny_mono body (fun fin s' z => ?_) fun _ _ e => e)))
    obtain ⟨c, rfl, z⟩ := z
    exact ⟨c, rfl, z⟩
  have one : wpAny (model prog w) A (tryCompare (.ref x) (cmpInfo .NotEq).2.1 b) (fun r s' => ∃ v, r = some v ∧ Q v s') E s := by
    unfold tryCompare
    refine wpAny_bind ?_
    simp only [callSpecialIfBound?, bindSpecialIfBound?]
    refine wpAny_holding (wpAny_bind (wpAny_bind (wpAny_bind (I.type.here ((looks_findIn X hne).here ?_)))))
    simp only [ne_bind]
    refine wpAny_bind (wpAny_askSetting (wpAny_ite ?_))
    split
    · refine wpAny_bind (wpAny_pure (wpAny_pure ?_))
      exact wpAny_bind (wpAny_mono hcall (fun v s' z => by
        obtain ⟨c, rfl, z⟩ := z
        exact wpAny_pure (wpAny_pure ⟨_, rfl, z⟩)) fun _ _ h' => h')
    · refine wpAny_tryCatch (wpAny_bind (wpAny_pure (wpAny_pure ?_)))
      exact wpAny_bind (wpAny_mono hcall (fun v s' z => by
        obtain ⟨c, rfl, z⟩ := z
        exact wpAny_pure (wpAny_pure ⟨_, rfl, z⟩)) fun _ _ h' => h')
  unfold richCompare
  simp only [oneThing_ref]
  refine wpAny_holding (wpAny_bind (wpAny_cRoomFor (by omega) ?_))
  refine wpAny_bind (I.type.here (wpAny_bind (hb.here ?_)))
  split
  · rename_i q
    have e : subIn K tb (.ref C) = some false := by
      rcases Bool.or_eq_true_iff.mp hn with e | e
      · rw [beq_iff_eq.mp e] at q; simp at q
      · exact beq_iff_eq.mp e
    refine wpAny_bind ((looks_subIn X e).here ?_)
    simp only [Bool.false_eq_true, if_false]
    refine wpAny_bind (wpAny_mono one (fun r s' z => ?_) fun _ _ e => e)
    obtain ⟨v, rfl, hq⟩ := z
    exact wpAny_pure hq
  · refine wpAny_bind (wpAny_pure ?_)
    simp only [Bool.false_eq_true, if_false]
    refine wpAny_bind (wpAny_mono one (fun r s' z => ?_) fun _ _ e => e)
    obtain ⟨v, rfl, hq⟩ := z
    exact wpAny_pure hq
end
end
end PySem.W

set_option Elab.async false
set_option linter.all false
set_option maxRecDepth 100000
set_option maxHeartbeats 4000000
/-! J7: the operators of an own class, as rules; its making in a try. -/
namespace J
open PySem PySem.Spec PyProof.Rows L2

/-- what the class must have for op: its def and its reflected def -/
structure OpC (K : PySem.W.Frag) (C : Addr) (nm : String) (f g : Addr) : Prop where
  l : PySem.W.findIn K (.ref C) (PySem.dunder nm) = some (some (.ref f))
  lf : PySem.W.isFn K (.ref f) = true
  r : PySem.W.findIn K (.ref C) (PySem.dunderR nm) = some (some (.ref g))
  rf : PySem.W.isFn K (.ref g) = true
  no : PySem.W.findIn K (.ref C) (PySem.dunderI nm) = some none
structure OwnC (K : PySem.W.Frag) (C : Addr) : Prop where
  me : PySem.W.selfFirst K C = true
  two : PySem.W.mroTwo K C = true
  ob : PySem.W.subIn K (.ref C) (.type "object") = some true
/-- T is no class of its, nor it one of T's -/
structure Apart (K : PySem.W.Frag) (C : Addr) (T : String) : Prop where
  a : PySem.W.subIn K (.type T) (.ref C) = some false
  b : PySem.W.subIn K (.ref C) (.type T) = some false
section
variable {X : Cx} {pins : List (Addr × Obj)} {σ : L2.St} {H : Hp} {s : Shared} {x : V} {u : Value} {T : String}
theorem ty_is (I : Inv X pins σ H s) (rx : RelV x u) (ty : TyOf X.K H x (.type T)) : s.TypeIs u T := by
  cases ty with
  | non => cases (show u = Value.none from rx); rfl
  | bl y => cases (show u = Value.bool y from rx); rfl
  | int i => obtain ⟨t, q⟩ := (show ∃ t, u = Value.int i t from rx); cases q; rfl
  | str y => obtain ⟨t, q⟩ := (show ∃ t, u = Value.str y t from rx); cases q; rfl
  | flt y => obtain ⟨t, q⟩ := (show ∃ t, u = Value.float y t from rx); cases q; rfl
  | @lst a xs ea =>
    cases (show u = Value.ref a from rx)
    obtain ⟨_, _, n, _, h1⟩ := (show ObjOk X.prog X.w H s.heap a (.lst xs) from I.hok a _ ea)
    exact ⟨_, h1, rfl⟩
  | @frz a ob xs ea =>
    cases (show u = Value.ref a from rx)
    obtain ⟨_, _, _, n, _, h1⟩ := (show ObjOk X.prog X.w H s.heap a (.frz ob (.lst xs)) from I.hok a _ ea)
    exact ⟨_, h1, rfl⟩
  | @tup a xs ea =>
    cases (show u = Value.ref a from rx)
    obtain ⟨_, _, _, p⟩ := (show ObjOk X.prog X.w H s.heap a (.tup xs) from I.hok a _ ea)
    obtain ⟨o, h1, h2, _⟩ := p
    exact ⟨o, h1, h2⟩
  | @dK a kvs ea =>
    cases (show u = Value.ref a from rx)
    obtain ⟨_, _, vs, _, p⟩ := (show ObjOk X.prog X.w H s.heap a (.dK kvs) from I.hok a _ ea)
    obtain ⟨o, es, ep, h1, h2, _⟩ := p
    exact ⟨o, h1, h2.1⟩
  | @dT a kvs ea =>
    cases (show u = Value.ref a from rx)
    obtain ⟨_, _, xs, _, o, es, ep, h1, h2, _⟩ := (show ObjOk X.prog X.w H s.heap a (.dT kvs) from I.hok a _ ea)
    exact ⟨o, h1, h2.1⟩
theorem ins_inst {a C dx : Addr} {fs : List (Str × V)} (I : Inv X pins σ H s) (ea : H a = some (.ins C dx fs)) : ∃ od, PySem.W.InstAt s.heap a (PySem.W.instObj C dx) C (some od) := by
  obtain ⟨mA, O, _⟩ := ins_get I.hok ea
  obtain ⟨od, J, _⟩ := O.look
  exact ⟨od, J⟩
theorem ty_look {M : Model} (h : s.TypeIs u T) : PySem.W.Looks M s.heap (typeOf u) (.type T) := by
  intro A Q E s' k q
  refine wpAny_typeOf ?_ q
  cases u with
  | ref a => obtain ⟨o, e, c⟩ := h; exact ⟨o, k _ _ e, c⟩
  | _ => exact h
end
section
variable {X : Cx} {CX : CXT} {k : Nat} {C f g : Addr} {fd : FuncData} {ps : List Str} {sp : Sp} {E : XK} {op : Operator}
def rOwnL (C : Addr) (sp : Sp) (E : XK) : R2 := fun x y H Q => ∃ a dx fs, x = .ref a ∧ H a = some (.ins C dx fs) ∧ ((∃ i, y = .int i) ∨ ∃ b dy gs, y = .ref b ∧ H b = some (.ins C dy gs)) ∧ sp [x, y] H Q E
def rOwnR (C : Addr) (sp : Sp) (E : XK) : R2 := fun x y H Q => ∃ i a dx fs, x = .int i ∧ y = .ref a ∧ H a = some (.ins C dx fs) ∧ sp [y, x] H Q E
theorem own_some {P : Value → Shared → Prop} {z : V} {v : Value} {s' : Shared} (r : RelV z v) (h : P v s') : PySem.W.CmpBack (fun v s' => ∃ u, some v = some u ∧ P u s') v s' :=
  SlX.cmpback (P := fun v s' => ∃ u, some v = some u ∧ P u s') r ⟨v, rfl, h⟩
theorem binop1_own {rT : Option Value} {left : Bool} (O : OwnC X.K C) (S : OpC X.K C op.info.2 f g) (Ai : Apart X.K C "int") (hT : fillsNumberSlot (.type "int") op.info.2 = pure left) (hrT : typeLookup (.type "int") (PySem.dunderR op.info.2) = pure rT)
    (F : FnOk X.prog X.w X.K X.mg X.base CX k f fd ps sp) (hr : Room k X.A) (hb : Binds X.K fd ps []) (hx : Passes CX X E) {pins : List (Addr × Obj)} {σ : L2.St} {H : Hp} {s : Shared} {x y : V} {v u : Value} {Q : VK}
    (I : Inv X pins σ H s) (rx : RelV x v) (ry : RelV y u) (h : rOwnL C sp E x y H Q) :
    wpAny (model X.prog X.w) X.A (binaryOp1 op.info.2 v u) (fun v s' => ∃ u, v = some u ∧ EP X pins σ Q u s') X.xe s ∧ ∃ a dx od, v = .ref a ∧ PySem.W.InstAt s.heap a (PySem.W.instObj C dx) C (some od) := by
  obtain ⟨a, dx, fs, rfl, ha, hy, q⟩ := h
  cases (show v = Value.ref a from rx)
  obtain ⟨od, J⟩ := ins_inst I ha
  have run : wpAny (model X.prog X.w) X.A (call (.ref f) [.ref a, u]) (PySem.W.CmpBack fun v s' => ∃ u, some v = some u ∧ EP X pins σ Q u s') X.xe s :=
    wpAny_mono (run_fn (us := [.ref a, u]) (vs := [.ref a, y]) F hr hb .nil hx I (.cons rfl (.cons ry .nil)) q) (fun w s' ⟨z, H', I', rz, qz⟩ => own_some rz ⟨z, H', I', rz, qz⟩) fun _ _ e => e
  refine ⟨?_, a, dx, od, rfl, J⟩
  rcases hy with ⟨i, rfl⟩ | ⟨b, dy, gs, rfl, hb'⟩
  · obtain ⟨t, rfl⟩ := (show ∃ t, u = Value.int i t from ry)
    exact PySem.W.jo_left I.kIn J O.me (typeIs_int s i t) hT Ai.a S.l S.r (Or.inr ⟨_, rfl⟩) hrT S.lf run
  · cases (show u = Value.ref b from ry)
    obtain ⟨od', J'⟩ := ins_inst I hb'
    exact PySem.W.jo_same I.kIn J O.me J'.type S.l S.lf run
/-- x op y, x an instance of the class at C, y an int or one too -/
theorem op_ownL {rT : Option Value} {left : Bool} (O : OwnC X.K C) (S : OpC X.K C op.info.2 f g) (Ai : Apart X.K C "int") (hT : fillsNumberSlot (.type "int") op.info.2 = pure left) (hrT : typeLookup (.type "int") (PySem.dunderR op.info.2) = pure rT)
    (F : FnOk X.prog X.w X.K X.mg X.base CX k f fd ps sp) (hr : Room k X.A) (hb : Binds X.K fd ps []) (hx : Passes CX X E) : OpR X (binaryOp op) (rOwnL C sp E) :=
  fun pins s σ H x y v u Q I rx ry h => PySem.W.jo_op (binop1_own O S Ai hT hrT F hr hb hx I rx ry h).1
/-- x op= y -/
theorem iop_ownL {rT : Option Value} {left : Bool} (O : OwnC X.K C) (S : OpC X.K C op.info.2 f g) (Ai : Apart X.K C "int") (hT : fillsNumberSlot (.type "int") op.info.2 = pure left) (hrT : typeLookup (.type "int") (PySem.dunderR op.info.2) = pure rT) (ho : typeLookup (.type "object") (PySem.dunderI op.info.2) = pure none)
    (F : FnOk X.prog X.w X.K X.mg X.base CX k f fd ps sp) (hr : Room k X.A) (hb : Binds X.K fd ps []) (hx : Passes CX X E) : OpR X (inplaceOp op) (rOwnL C sp E) := by
  intro pins s σ H x y v u Q I rx ry h
  obtain ⟨h1, a, dx, od, rfl, J⟩ := binop1_own O S Ai hT hrT F hr hb hx I rx ry h
  exact PySem.W.jo_inpl I.kIn J O.two S.no ho h1
/-- x op y, x an int, y an instance: its reflected def; dec: the int's own declines -/
theorem op_ownR {id : String} (O : OwnC X.K C) (S : OpC X.K C op.info.2 f g) (Ai : Apart X.K C "int") (hT : fillsNumberSlot (.type "int") op.info.2 = pure true) (hl : Slot "int" (PySem.dunder op.info.2) id)
    (dec : ∀ (s : Shared) (a : Addr) (ox : Obj) (i : Int) (t : Tok) (Q' : Value → Shared → Prop), s.heap.get? a = some ox → ox.data = .plain → Q' .notImplemented s → wpAny (model X.prog X.w) X.A (call (.builtin id) [.int i t, .ref a]) Q' X.xe s)
    (F : FnOk X.prog X.w X.K X.mg X.base CX k g fd ps sp) (hr : Room k X.A) (hb : Binds X.K fd ps []) (hx : Passes CX X E) : OpR X (binaryOp op) (rOwnR C sp E) := by
  intro pins s σ H x y v u Q I rx ry h
  obtain ⟨i, a, dx, fs, rfl, rfl, ha, q⟩ := h
  obtain ⟨t, rfl⟩ := (show ∃ t, v = Value.int i t from rx)
  cases (show u = Value.ref a from ry)
  obtain ⟨od, J⟩ := ins_inst I ha
  refine PySem.W.jo_op (PySem.W.jo_right I.kIn J O.me (typeIs_int s i t) hT Ai.b S.l S.r hl S.rf (fun Q' q' => dec s a _ i t Q' J.at_ rfl q') ?_)
  exact wpAny_mono (run_fn (us := [.ref a, .int i t]) (vs := [.ref a, .int i]) F hr hb .nil hx I (.cons rfl (.cons ⟨t, rfl⟩ .nil)) q) (fun w s' ⟨z, H', I', rz, qz⟩ => own_some rz ⟨z, H', I', rz, qz⟩) fun _ _ e => e
def rOwnU (C : Addr) (sp : Sp) (E : XK) : V → Hp → VK → Prop := fun x H Q => ∃ a dx fs, x = .ref a ∧ H a = some (.ins C dx fs) ∧ sp [x] H Q E
/-- -x -/
theorem un_own (hs : PySem.W.findIn X.K (.ref C) "__neg__" = some (some (.ref f))) (hf : PySem.W.isFn X.K (.ref f) = true)
    (F : FnOk X.prog X.w X.K X.mg X.base CX k f fd ps sp) (hr : Room k X.A) (hb : Binds X.K fd ps []) (hx : Passes CX X E) : UnR X (unaryOp .USub) (rOwnU C sp E) := by
  intro pins s σ H x v Q I rx h
  obtain ⟨a, dx, fs, rfl, ha, q⟩ := h
  cases (show v = Value.ref a from rx)
  obtain ⟨od, J⟩ := ins_inst I ha
  exact PySem.W.jo_neg I.kIn J hs hf (run_fn (us := [.ref a]) (vs := [.ref a]) F hr hb .nil hx I (.cons rfl .nil) q)
/-- x == y, x an instance, y of another type or one too -/
def rOwnEq (K : PySem.W.Frag) (C : Addr) (sp : Sp) (E : XK) : R2 := fun x y H Q => ∃ a dx fs, x = .ref a ∧ H a = some (.ins C dx fs) ∧ ((∃ T, TyOf K H y (.type T) ∧ PySem.W.subIn K (.type T) (.ref C) = some false) ∨ ∃ b dy gs, y = .ref b ∧ H b = some (.ins C dy gs)) ∧ sp [x, y] H Q E
theorem own_tb {pins : List (Addr × Obj)} {σ : L2.St} {H : Hp} {s : Shared} {y : V} {u : Value} (I : Inv X pins σ H s) (ry : RelV y u) (h : (∃ T, TyOf X.K H y (.type T) ∧ PySem.W.subIn X.K (.type T) (.ref C) = some false) ∨ ∃ b dy gs, y = .ref b ∧ H b = some (.ins C dy gs)) :
    ∃ tb, PySem.W.Looks (model X.prog X.w) s.heap (typeOf u) tb ∧ PySem.W.notFirst X.K C tb = true := by
  rcases h with ⟨T, ty, hs⟩ | ⟨b, dy, gs, rfl, hb⟩
  · exact ⟨.type T, ty_look (ty_is I ry ty), by unfold PySem.W.notFirst; rw [hs]; simp⟩
  · cases (show u = Value.ref b from ry)
    obtain ⟨od, J⟩ := ins_inst I hb
    exact ⟨.ref C, J.type, by unfold PySem.W.notFirst; simp⟩
theorem op_ownEq (hs : PySem.W.findIn X.K (.ref C) "__eq__" = some (some (.ref f))) (hf : PySem.W.isFn X.K (.ref f) = true)
    (F : FnOk X.prog X.w X.K X.mg X.base CX k f fd ps sp) (hr : Room k X.A) (hb : Binds X.K fd ps []) (hx : Passes CX X E) : OpR X (compareOp .Eq) (rOwnEq X.K C sp E) := by
  intro pins s σ H x y v u Q I rx ry h
  obtain ⟨a, dx, fs, rfl, ha, hy, q⟩ := h
  cases (show v = Value.ref a from rx)
  obtain ⟨od, J⟩ := ins_inst I ha
  obtain ⟨tb, l, n⟩ := own_tb I ry hy
  exact PySem.W.jo_bin (op := .Eq) hr.units0 I.kIn J l n hs hf (wpAny_mono (run_fn (us := [.ref a, u]) (vs := [.ref a, y]) F hr hb .nil hx I (.cons rfl (.cons ry .nil)) q) (fun w s' ⟨z, H', I', rz, qz⟩ => SlX.cmpback rz ⟨z, H', I', rz, qz⟩) fun _ _ e => e)
/-- y == x: y of a type whose == declines -/
def eqTypes : List String := ["int", "bool", "NoneType", "str", "list", "tuple", "dict"]
def rOwnEqR (K : PySem.W.Frag) (C : Addr) (sp : Sp) (E : XK) : R2 := fun x y H Q => ∃ T a dx fs, y = .ref a ∧ H a = some (.ins C dx fs) ∧ TyOf K H x (.type T) ∧ T ∈ eqTypes ∧ PySem.W.subIn K (.ref C) (.type T) = some false ∧ sp [y, x] H Q E
theorem op_ownEqR (hs : PySem.W.findIn X.K (.ref C) "__eq__" = some (some (.ref f))) (hf : PySem.W.isFn X.K (.ref f) = true)
    (F : FnOk X.prog X.w X.K X.mg X.base CX k f fd ps sp) (hr : Room k X.A) (hb : Binds X.K fd ps []) (hx : Passes CX X E) : OpR X (compareOp .Eq) (rOwnEqR X.K C sp E) := by
  intro pins s σ H x y v u Q I rx ry h
  obtain ⟨T, a, dx, fs, rfl, ha, ty, hT, hsub, q⟩ := h
  cases (show u = Value.ref a from ry)
  obtain ⟨od, J⟩ := ins_inst I ha
  have t1 := ty_is I rx ty
  have run : wpAny (model X.prog X.w) X.A (call (.ref f) [.ref a, v]) (PySem.W.CmpBack (EP X pins σ Q)) X.xe s :=
    wpAny_mono (run_fn (us := [.ref a, v]) (vs := [.ref a, x]) F hr hb .nil hx I (.cons rfl (.cons rx .nil)) q) (fun w s' ⟨z, H', I', rz, qz⟩ => SlX.cmpback rz ⟨z, H', I', rz, qz⟩) fun _ _ e => e
  cases ty with
  | non =>
    cases (show v = Value.none from rx)
    exact PySem.W.jo_eqR hr.units0 I.kIn J t1 hsub hs PySem.F.slot_NoneType_eq hf (fun Q' q' => PySem.W.jo_eqN q') run
  | bl b =>
    cases (show v = Value.bool b from rx)
    exact PySem.W.jo_eqR hr.units0 I.kIn J t1 hsub hs PySem.F.slot_bool_eq hf (fun Q' q' => PySem.W.jo_eqB J.at_ rfl q') run
  | int i =>
    obtain ⟨t, rfl⟩ := (show ∃ t, v = Value.int i t from rx)
    exact PySem.W.jo_eqR hr.units0 I.kIn J t1 hsub hs PySem.F.slot_int_eq hf (fun Q' q' => PySem.W.jo_eqI J.at_ rfl q') run
  | str z =>
    obtain ⟨t, rfl⟩ := (show ∃ t, v = Value.str z t from rx)
    exact PySem.W.jo_eqR hr.units0 I.kIn J t1 hsub hs PySem.F.slot_str_eq hf (fun Q' q' => PySem.W.jo_eqS J.at_ rfl q') run
  | flt z => simp [eqTypes] at hT
  | @lst l xs e =>
    cases (show v = Value.ref l from rx)
    exact PySem.W.jo_eqR hr.units0 I.kIn J t1 hsub hs PySem.F.slot_list_eq hf (fun Q' q' => PySem.W.jo_eqL I.kIn J t1 hsub q') run
  | @frz l ob xs e =>
    cases (show v = Value.ref l from rx)
    exact PySem.W.jo_eqR hr.units0 I.kIn J t1 hsub hs PySem.F.slot_list_eq hf (fun Q' q' => PySem.W.jo_eqL I.kIn J t1 hsub q') run
  | @tup l xs e =>
    cases (show v = Value.ref l from rx)
    exact PySem.W.jo_eqR hr.units0 I.kIn J t1 hsub hs PySem.F.slot_tuple_eq hf (fun Q' q' => PySem.W.jo_eqT I.kIn J t1 hsub q') run
  | @dK l kvs e =>
    cases (show v = Value.ref l from rx)
    exact PySem.W.jo_eqR hr.units0 I.kIn J t1 hsub hs PySem.F.slot_dict_eq hf (fun Q' q' => PySem.W.jo_eqD I.kIn J t1 hsub q') run
  | @dT l kvs e =>
    cases (show v = Value.ref l from rx)
    exact PySem.W.jo_eqR hr.units0 I.kIn J t1 hsub hs PySem.F.slot_dict_eq hf (fun Q' q' => PySem.W.jo_eqD I.kIn J t1 hsub q') run
/-- x != y, by == -/
def rOwnNe (K : PySem.W.Frag) (C : Addr) (sp : Sp) (E : XK) : R2 := fun x y H Q => ∃ a dx fs, x = .ref a ∧ H a = some (.ins C dx fs) ∧ ((∃ T, TyOf K H y (.type T) ∧ PySem.W.subIn K (.type T) (.ref C) = some false) ∨ ∃ b dy gs, y = .ref b ∧ H b = some (.ins C dy gs)) ∧
  sp [x, y] H (fun v H' => ∃ c, v = .bl c ∧ Q (.bl (!c)) H') E
theorem op_ownNe (O : OwnC X.K C) (hne : PySem.W.findIn X.K (.ref C) "__ne__" = some (some (.builtin "object.__ne__"))) (hs : PySem.W.findIn X.K (.ref C) "__eq__" = some (some (.ref f))) (hf : PySem.W.isFn X.K (.ref f) = true)
    (F : FnOk X.prog X.w X.K X.mg X.base CX k f fd ps sp) (hr : Room (k + 1) X.A) (hb : Binds X.K fd ps []) (hx : Passes CX X E) : OpR X (compareOp .NotEq) (rOwnNe X.K C sp E) := by
  intro pins s σ H x y v u Q I rx ry h
  obtain ⟨a, dx, fs, rfl, ha, hy, q⟩ := h
  cases (show v = Value.ref a from rx)
  obtain ⟨od, J⟩ := ins_inst I ha
  obtain ⟨tb, l, n⟩ := own_tb I ry hy
  have hl : ([Value.ref a, u] ++ []).length = ps.length := F.len _ _ _ _ q
  refine PySem.W.jo_ne (by have := hr.un; omega) I.kIn J l n O.ob hne hs hf (wpAny_call (codeAny_mono (F.run X.A.in1 X.stack s H ⟨[.ref a, u], []⟩ [.ref a, u] [.ref a, y] _ E hr.in1 I.env0.in1 (hb s [.ref a, u] I.kIn hl) (.cons rfl (.cons ry .nil)) q) fun r s' hq => ?_))
  match r, hq with
  | .error e, hq => exact hx pins σ H s e s' I hq
  | .ok .next, hq => exact hq.elim
  | .ok .brk, hq => exact hq.elim
  | .ok .cont, hq => exact hq.elim
  | .ok (.ret w), hq =>
    obtain ⟨z, H', I', rz, c, rfl, qz⟩ := I.after hq
    cases (show w = Value.bool c from rz)
    exact ⟨c, rfl, .bl (!c), H', I', rfl, qz⟩
end
end J

set_option Elab.async false
set_option linter.all false
set_option maxRecDepth 100000
set_option maxHeartbeats 4000000
/-! J8: callees in one piece: a def, a method, a property, a class that is made; str of an instance; // by a negative. -/
namespace J
open PySem PySem.Spec PyProof.Rows L2

abbrev CXL (P : Program) (w : World) : CXT := L2.CX P w
theorem passE0 {X : Cx} {P : Program} {w : World} : Passes (CXL P w) X E0 := fun _ _ _ _ _ _ _ h => by
  obtain ⟨_, _, _, _, _, _, _, _, _, _, _, _, z⟩ := h
  exact z.elim
theorem FnOk.up {P : Program} {w : World} {K : PySem.W.Frag} {mg : Str → Option Value} {base : Heap} {k : Nat} {f : Addr} {fd : FuncData} {ps : List Str} {sp : Sp} (F : FnOk P w K mg base CX0 k f fd ps sp) : FnOk P w K mg base (CXL P w) k f fd ps sp :=
  ⟨F.len, fun A outer s H args us vs Q E hr e0 b r h => codeAny_mono (F.run A outer s H args us vs Q E hr e0 b r h) fun z s' hz => by
    match z, hz with
    | .error e, hz => exact hz.elim
    | .ok (.ret u), hz => exact hz
    | .ok .next, hz => exact hz.elim
    | .ok .brk, hz => exact hz.elim
    | .ok .cont, hz => exact hz.elim⟩
section
variable (P : Program) (w : World) (K : PySem.W.Frag) (mg : Str → Option Value) (base : Heap)
/-- a def of the module's own, as it is called by its name -/
structure Cal (x : Str) (ps : List Str) (k : Nat) (sp : Sp) : Prop where
  ex : ∃ f fd, mg x = some (.ref f) ∧ PySem.W.keepIn K (.ref f) = true ∧ FnOk P w K mg base (CXL P w) k f fd ps sp ∧ Binds K fd ps []
/-- a method -/
structure MCal (C : Addr) (m : Str) (ps : List Str) (k : Nat) (sp : Sp) : Prop where
  ex : ∃ f fd, Meth K C m f ∧ FnOk P w K mg base (CXL P w) k f fd ps sp ∧ Binds K fd ps []
/-- a property -/
structure PCal (C : Addr) (m : Str) (k : Nat) (sp : Sp) : Prop where
  ex : ∃ p f fd, PropOf K C m p f ∧ FnOk P w K mg base (CXL P w) k f fd ["self"] sp ∧ Binds K fd ["self"] []
/-- a class that is made; dvs: the defaults that fill up -/
structure KCal (x : Str) (C : Addr) (ps : List Str) (k : Nat) (sp : Sp) (dvs : List V) : Prop where
  ex : ∃ f fd ds, mg x = some (.ref C) ∧ Mk K C f ∧ FnOk P w K mg base (CXL P w) k f fd ps sp ∧ Binds K fd ps ds ∧ Vals dvs ds
structure KCalN (x : Str) (C : Addr) (ps : List Str) (k : Nat) (sp : Sp) (n : Nat) (ks : List Str) (gV : List V → List V → List V) : Prop where
  ex : ∃ f fd g, mg x = some (.ref C) ∧ Mk K C f ∧ FnOk P w K mg base (CXL P w) k f fd ps sp ∧ KBn K fd ps (n + 1) ks g gV
end
section
variable {X : Cx} {k n : Nat} {C : Addr} {ps ks : List Str} {sp : Sp} {x m : Str} {p pos apos : Pos} {e o : Expr} {es : List Expr} {kws : List Keyword} {ta : TE} {t tk : TA} {dvs : List V} {gV : List V → List V → List V} {W : WX}
theorem pe_cal (c : Cal X.prog X.w X.K X.mg X.base x ps k sp) (hr : Room k X.A) (hg : Gl X x) (ha : PA X (e :: es) t) (hdb : (x == ("__debug__" : Str)) = false := by decide)
    (he : starEach (e :: es) X.env = (false, eval e X.env) :: starEach es X.env := by rfl) (hpl : (backTo pos (starEach es X.env)).any (·.1) = false := by rfl) : PE X (.Call (.Name x p) (e :: es) [] pos) (tCall sp [] E0 t) := by
  obtain ⟨f, fd, h1, h2, h3, h4⟩ := c.ex
  exact pe_call h3 hr hg h1 h2 h4 .nil passE0 ha hdb he hpl
theorem pe_cal0 (c : Cal X.prog X.w X.K X.mg X.base x ps k sp) (hr : Room k X.A) (hg : Gl X x) (hdb : (x == ("__debug__" : Str)) = false := by decide) : PE X (.Call (.Name x p) [] [] pos) (tCall sp [] E0 tNil) := by
  obtain ⟨f, fd, h1, h2, h3, h4⟩ := c.ex
  exact pe_call0 h3 hr hg h1 h2 h4 .nil passE0 hdb
/-- .. that may let an exception out -/
theorem pe_calS (tk : Takes X W) (c : Cal X.prog X.w X.K X.mg X.base x ps k sp) (hr : Room k X.A) (hg : Gl X x) (ha : PA X (e :: es) t) (hdb : (x == ("__debug__" : Str)) = false := by decide)
    (he : starEach (e :: es) X.env = (false, eval e X.env) :: starEach es X.env := by rfl) (hpl : (backTo pos (starEach es X.env)).any (·.1) = false := by rfl) : PE X (.Call (.Name x p) (e :: es) [] pos) (tCallS sp (WE W) t) := by
  obtain ⟨f, fd, h1, h2, h3, h4⟩ := c.ex
  exact pe_callS h3 hr hg h1 h2 h4 (fun σ => passAt tk σ) ha hdb he hpl
theorem pe_mcal {pl : Sem Bool} (c : MCal X.prog X.w X.K X.mg X.base C m ps k sp) (cl : Cls X.K C) (hr : Room k X.A) (he : PE X o ta) (ha : PA X (e :: es) t)
    (hst : starEach (e :: es) X.env = (false, eval e X.env) :: starEach es X.env := by rfl) (hpl : (backTo pos (starEach es X.env)).any (·.1) = false := by rfl)
    (ht : eval (.Call (.Attribute o m apos) (e :: es) [] pos) X.env = (do
      let ov ← eval o X.env
      standAt apos.atName
      let (f, first) ← holding [ov] (getMethod ov m pl)
      callWith pos f first (backTo pos (starEach (e :: es) X.env)) (backToKw pos (keywordEach [] X.env))) := by rfl) : PE X (.Call (.Attribute o m apos) (e :: es) [] pos) (tMeth C m sp [] E0 ta t) := by
  obtain ⟨f, fd, h1, h2, h3⟩ := c.ex
  exact pe_meth he cl h1 h2 hr h3 .nil passE0 ha hst hpl ht
theorem pe_mcal0 {pl : Sem Bool} (c : MCal X.prog X.w X.K X.mg X.base C m ps k sp) (cl : Cls X.K C) (hr : Room k X.A) (he : PE X o ta)
    (ht : eval (.Call (.Attribute o m apos) [] [] pos) X.env = (do
      let ov ← eval o X.env
      standAt apos.atName
      let (f, first) ← holding [ov] (getMethod ov m pl)
      callWith pos f first (backTo pos (starEach [] X.env)) (backToKw pos (keywordEach [] X.env))) := by rfl) : PE X (.Call (.Attribute o m apos) [] [] pos) (tMeth C m sp [] E0 ta tNil) := by
  obtain ⟨f, fd, h1, h2, h3⟩ := c.ex
  exact pe_meth0 he cl h1 h2 hr h3 .nil passE0 ht
/-- o.m(e, ..) that may let an exception out -/
def tMethS (C : Addr) (m : Str) (sp : Sp) (E : L2.St → XK) (ta : TE) (t : TA) : TE := fun σ H Q => ta σ H fun x H1 => ∃ a dx fs, x = .ref a ∧ H1 a = some (.ins C dx fs) ∧ fs.lookup m = none ∧
  t σ H1 fun vs H2 => sp (x :: vs) H2 Q (E σ)
theorem pe_mcalS {pl : Sem Bool} (tk : Takes X W) (c : MCal X.prog X.w X.K X.mg X.base C m ps k sp) (cl : Cls X.K C) (hr : Room k X.A) (he : PE X o ta) (ha : PA X (e :: es) t)
    (hst : starEach (e :: es) X.env = (false, eval e X.env) :: starEach es X.env := by rfl) (hpl : (backTo pos (starEach es X.env)).any (·.1) = false := by rfl)
    (ht : eval (.Call (.Attribute o m apos) (e :: es) [] pos) X.env = (do
      let ov ← eval o X.env
      standAt apos.atName
      let (f, first) ← holding [ov] (getMethod ov m pl)
      callWith pos f first (backTo pos (starEach (e :: es) X.env)) (backToKw pos (keywordEach [] X.env))) := by rfl) : PE X (.Call (.Attribute o m apos) (e :: es) [] pos) (tMethS C m sp (WE W) ta t) := by
  obtain ⟨f, fd, hm, F, hb⟩ := c.ex
  refine ⟨fun pins s σ H Q I h => ?_⟩
  refine PySem.W.methodCall_KW (pl := pl) (thn (he.run pins s σ H _ I h) fun u s1 ⟨x, H1, I1, rx, a, dx, fs, ex, ea, l, q⟩ => ?_) ht
  subst ex
  obtain rfl : u = Value.ref a := rx
  refine getmeth_ok I1 ea cl hm l ?_
  refine PySem.W.callWith_K (h₀ := X.base) (first := [.ref a]) I1.ok.mod.kin hm.kp (thn (ha.run pos pins _ σ H1 _ I1 q) fun us s2 ⟨vs, H2, I2, r, q2⟩ => ⟨I2.kIn, ?_⟩) hst hpl
  exact run_fnS (us := .ref a :: us) (vs := .ref a :: vs) F hr hb (passAt tk σ) I2 (.cons rfl r) q2
theorem pe_pcal (c : PCal X.prog X.w X.K X.mg X.base C m k sp) (cl : Cls X.K C) (hr : Room (k + 1) X.A) (he : PE X e ta) (hab : attributeBase e m X.env (eval e X.env) = eval e X.env := by rfl) : PE X (.Attribute e m pos) (tProp C sp [] E0 ta) := by
  obtain ⟨p, f, fd, h1, h2, h3⟩ := c.ex
  exact pe_prop he cl h1 h2 hr h3 .nil passE0 hab
theorem pe_kcal (c : KCal X.prog X.w X.K X.mg X.base x C ps k sp dvs) (hr : Room (k + 1) X.A) (hg : Gl X x) (ha : PA X (e :: es) t) (hdb : (x == ("__debug__" : Str)) = false := by decide)
    (he : starEach (e :: es) X.env = (false, eval e X.env) :: starEach es X.env := by rfl) (hpl : (backTo pos (starEach es X.env)).any (·.1) = false := by rfl) : PE X (.Call (.Name x p) (e :: es) [] pos) (tMake C sp dvs E0 t) := by
  obtain ⟨f, fd, ds, h1, h2, h3, h4, h5⟩ := c.ex
  exact pe_make h2 h3 hr hg h1 h4 h5 passE0 ha hdb he hpl
theorem pe_kcalN (c : KCalN X.prog X.w X.K X.mg X.base x C ps k sp n ks gV) (hr : Room (k + 1) X.A) (hg : Gl X x) (ha : PA X (e :: es) t) (hkw : PK X kws tk) (hall : (backToKw pos (keywordEach kws X.env)).all (·.1.isSome) = true := by rfl)
    (hks : (backToKw pos (keywordEach kws X.env)).filterMap (·.1) = ks := by rfl) (hdb : (x == ("__debug__" : Str)) = false := by decide) (he : starEach (e :: es) X.env = (false, eval e X.env) :: starEach es X.env := by rfl)
    (hpl : ((backTo pos (starEach (e :: es) X.env)).any (·.1) || (backToKw pos (keywordEach kws X.env)).any (·.1.isNone)) = false := by rfl) : PE X (.Call (.Name x p) (e :: es) kws pos) (tMakeN C n ks.length sp gV E0 t tk) := by
  obtain ⟨f, fd, g, h1, h2, h3, h4⟩ := c.ex
  exact pe_makeN h2 h3 hr hg h1 h4 passE0 ha hkw hall hks hdb he hpl
/-- C(..) that may let an exception out -/
def tMakeS (C : Addr) (sp : Sp) (dvs : List V) (E : L2.St → XK) (t : TA) : TE := fun σ H Q => t σ H fun vs H1 => ∀ x dx, H1 x = none → H1 dx = none → dx ≠ x →
  sp (.ref x :: (vs ++ dvs)) (upd (upd H1 dx (.own x)) x (.ins C dx [])) (fun v H2 => v = .non ∧ Q (.ref x) H2) (E σ)
theorem pe_kcalS (tk : Takes X W) (c : KCal X.prog X.w X.K X.mg X.base x C ps k sp dvs) (hr : Room (k + 1) X.A) (hg : Gl X x) (ha : PA X (e :: es) t) (hdb : (x == ("__debug__" : Str)) = false := by decide)
    (he : starEach (e :: es) X.env = (false, eval e X.env) :: starEach es X.env := by rfl) (hpl : (backTo pos (starEach es X.env)).any (·.1) = false := by rfl) : PE X (.Call (.Name x p) (e :: es) [] pos) (tMakeS C sp dvs (WE W) t) := by
  obtain ⟨f, fd, ds, hm, M, F, hb, hd⟩ := c.ex
  refine ⟨fun pins s σ H Q I h => ?_⟩
  refine wpAny_Call_Name_kw (ld_glob I hg hm ?_ hdb)
  refine PySem.W.callWith_K (h₀ := X.base) I.ok.mod.kin M.kp (thn (ha.run pos pins s σ H _ I h) fun us s1 ⟨vs, H1, I1, r, h⟩ => ⟨I1.kIn, ?_⟩) he hpl
  have hq := h (s1.heap.objs.size + 1) s1.heap.objs.size (I1.hok.fresh (Nat.le_succ _)) (I1.hok.fresh (Nat.le_refl _)) (Nat.ne_of_lt (Nat.lt_succ_self _))
  have I2 := Inv.made (C := C) I1
  have r2 : Vals (V.ref (s1.heap.objs.size + 1) :: (vs ++ dvs)) (Value.ref (s1.heap.objs.size + 1) :: (us ++ ds)) := .cons rfl (r.append hd)
  have hl : (Value.ref (s1.heap.objs.size + 1) :: us ++ ds).length = ps.length := by
    have e := r2.length
    rw [F.len _ _ _ _ hq] at e
    exact e.symm
  refine wpAny_call (make_map (f := f) I1.kIn M.makes M.init (beq_iff_eq.mp M.fn) (codeAny_mono (F.run _ X.stack _ _ ⟨Value.ref (s1.heap.objs.size + 1) :: us, []⟩ (Value.ref (s1.heap.objs.size + 1) :: (us ++ ds)) _ _ (WE W σ) (hr.make C us [])
    (I2.env0.make C us []) (hb _ (Value.ref (s1.heap.objs.size + 1) :: us) I2.kIn hl) r2 hq) fun r s' hq' => ?_))
  match r, hq' with
  | .error e, hq' => exact passAt tk σ pins _ _ e s' I2 hq'
  | .ok .next, hq' => exact hq'.elim
  | .ok .brk, hq' => exact hq'.elim
  | .ok .cont, hq' => exact hq'.elim
  | .ok (.ret u), hq' =>
    obtain ⟨v, H', I3, rv, ev, q3⟩ := I2.after hq'
    subst ev
    exact ⟨rv, ⟨V.ref (s1.heap.objs.size + 1), H', I3, rfl, q3⟩⟩
end
/-! ### str of an instance -/
section
variable {X : Cx} {CX : CXT} {k : Nat} {C f : Addr} {fd : FuncData} {ps : List Str} {sp : Sp} {E : XK}
def rStrOwn (C : Addr) (sp : Sp) (E : XK) : List V → Hp → VK → Prop := fun xs H Q => ∃ a dx fs, xs = [.ref a] ∧ H a = some (.ins C dx fs) ∧ sp [.ref a] H (fun v H' => ∃ z, v = .str z ∧ Q v H') E
theorem call_strOwn (hs : PySem.W.findIn X.K (.ref C) "__str__" = some (some (.ref f))) (hf : PySem.W.isFn X.K (.ref f) = true) (F : FnOk X.prog X.w X.K X.mg X.base CX k f fd ps sp) (hr : Room (k + 2) X.A) (hb : Binds X.K fd ps []) (hx : Passes CX X E) :
    CallR X (.type "str") (rStrOwn C sp E) := by
  intro pins s σ H xs us Q I r h
  obtain ⟨a, dx, fs, rfl, ha, q⟩ := h
  obtain ⟨u, rfl, ru⟩ := vals1 r
  cases (show u = Value.ref a from ru)
  obtain ⟨od, J⟩ := ins_inst I ha
  have hl : ([Value.ref a] ++ []).length = ps.length := F.len _ _ _ _ q
  have hr2 : Room k X.A.in1.in1 := (show Room (k + 1) X.A.in1 from Room.in1 hr).in1
  refine PySem.W.kso_call hr2.units0 I.kIn J hs hf (wpAny_call (codeAny_mono (F.run X.A.in1.in1 X.stack s H ⟨[.ref a], []⟩ [.ref a] [.ref a] _ E hr2 I.env0.in1.in1 (hb s [.ref a] I.kIn hl) (.cons rfl .nil) q) fun r s' hq => ?_))
  match r, hq with
  | .error e, hq => exact hx pins σ H s e s' I hq
  | .ok .next, hq => exact hq.elim
  | .ok .brk, hq => exact hq.elim
  | .ok .cont, hq => exact hq.elim
  | .ok (.ret w), hq =>
    obtain ⟨v, H', I', rz, z, rfl, qz⟩ := I.after hq
    obtain ⟨t, rfl⟩ := (show ∃ t, w = Value.str z t from rz)
    exact ⟨.str z, H', I', ⟨t, rfl⟩, qz⟩
end
/-! ### // by any divisor -/
def CDivZ (_ j : Int) : Prop := j ≠ 0 ∧ j.natAbs.log2 < 9000
theorem op_fdivZ {X : Cx} : OpR X (binaryOp .FloorDiv) (rI CDivZ fun i j => .int (i.fdiv j)) := opI fun i j _ _ _ _ _ hc q => floordiv_int hc.1 q (.inl (PyProof.noPylong_of_log2 hc.2))
end J

set_option Elab.async false
set_option linter.all false
set_option maxRecDepth 100000
set_option maxHeartbeats 4000000
/-! J9: an own error without values, raised; isinstance of anything for one class. -/
namespace J
open PySem PySem.Spec PyProof.Rows L2

/-- isinstance(v, c), c one class -/
def rIsG (K : PySem.W.Frag) : List V → Hp → VK → Prop := fun xs H Q => ∃ (v c : V) (t cv : Value) (b : Bool), xs = [v, c] ∧ TyOf K H v t ∧ (∀ u, RelV c u → u = cv) ∧ PySem.W.kitOne K t cv = some b ∧ Q (.bl b) H
theorem call_isG {X : Cx} : CallR X (.builtin "isinstance") (rIsG X.K) := by
  intro pins s σ H xs us Q I r h
  obtain ⟨v, c, t, cv, b, rfl, ht, hc, hb, q⟩ := h
  obtain ⟨u1, u2, rfl, r1, r2⟩ := vals2 r
  cases hc _ r2
  exact isinst_ok I r1 ht hb fun tk => ⟨.bl b, H, I.tok tk, rfl, q⟩
theorem relty {n : String} : ∀ u, RelV (.ty n) u → u = Value.type n := fun _ r => r
section
variable {X : Cx} {C fI : Addr} {k : Nat} {fd : FuncData} {ps : List Str} {x : Str} {p pos : Pos}
theorem mk_end0n {pins : List (Addr × Obj)} {σ : L2.St} {H1 H2 : Hp} {hp hp2 h2 : Heap} {g1 g2 : Array GenState} {d1 d2 : Drawn} {t1 t2 : Nat} {os1 os2 : OsState} {a C : Addr} (I1 : Inv X pins σ H1 ⟨hp, g1, d1, t1, os1⟩)
    (ha : hp.objs.size ≤ a) (k : ∀ b o, hp.get? b = some o → hp2.get? b = some o) (un : Un (frs X.stack) [] (upd H1 a (exo a C none)) H2 hp2 h2) (hok : HOk X.prog X.w H2 h2) (ho : os2 = os1) (hb : AllBare g2)
    (ea : H2 a = some (exo a C none)) :
    ∃ (t0 : Addr) (G : Heap), Inv X pins σ (del H2 a) ⟨G, g2, d2, t2, os2⟩ ∧ (∀ b o, G.get? b = some o → h2.get? b = some o) ∧ G.get? a = none ∧
      h2.get? a = some ({ cls := .ref C, dict := none, data := .fields #[.ref t0, .none, .none, .none, .bool false, .none] } : Obj) ∧ (del H2 a) a = none := by
  obtain ⟨t0, hoe⟩ := exo_at hok ea
  have hn : H1 a = none := I1.hok.fresh ha
  obtain ⟨G, g1', g2'⟩ := restrict h2 fun b => decide (b ≠ a)
  have gk : ∀ b, b ≠ a → G.get? b = h2.get? b := fun b hb => g1' b (decide_eq_true hb)
  have ge : G.get? a = none := g2' a (by simp)
  have nha : ∀ {b : Addr} {o : Obj}, hp.get? b = some o → b ≠ a := fun {b o} z => Nat.ne_of_lt (Nat.lt_of_lt_of_le (Heap.lt_size z) ha)
  have up : ∀ {b : Addr}, b ≠ a → H1 b = none → upd H1 a (exo a C none) b = none := fun {b} hb n => by rw [upd_ne hb]; exact n
  have U : Un (frs X.stack) [] H1 (del H2 a) hp G := {
    keep := fun b o z n hf hx => by
      rw [gk b (nha z)]
      exact un.keep b o (k b o z) (up (nha z) n) hf hx
    slot := fun b o z n hf hx => by
      rw [gk b (nha z)]
      exact un.slot b o (k b o z) (up (nha z) n) hf hx
    free := fun b o z n hx => by
      rw [del_ne (nha z)]
      exact un.free b o (k b o z) (up (nha z) n) hx
    there := fun b o z hx => by
      rw [gk b (nha z)]
      exact un.there b o (k b o z) hx
    tups := fun b xs z => by
      rw [del_ne (ne_of_none z hn)]
      exact un.tups b xs (by rw [upd_ne (ne_of_none z hn)]; exact z)
    frzs := fun b o v z => by
      rw [del_ne (ne_of_none z hn)]
      exact un.frzs b o v (by rw [upd_ne (ne_of_none z hn)]; exact z)
    tbls := fun b ps z => by
      rw [del_ne (ne_of_none z hn)]
      exact un.tbls b ps (by rw [upd_ne (ne_of_none z hn)]; exact z) }
  have hok3 : HOk X.prog X.w (del H2 a) G := fun b o z => by
    have hba : b ≠ a := fun e => by
      rw [e, del_same] at z
      cases z
    rw [del_ne hba] at z
    have noa : ∀ {c : Addr}, H2 c = some (.own b) → c ≠ a := fun {c} hc => at_ne ea hc exo_own
    exact (hok b o z).stay (fun c v hc y => by
        have hca : c ≠ a := by
          rcases hc with hc | hc
          · rw [hc]
            exact hba
          · exact noa hc
        rw [gk c hca]
        exact y)
      (fun c hc => by rw [del_ne (noa hc)]; exact hc) (fun c xs hc => by rw [del_ne (at_ne ea hc exo_tup)]; exact hc)
  have J : Inv X pins σ (del H2 a) ⟨G, g2, d2, t2, os2⟩ := I1.call' (ch := []) ho U hok3 hb (fun b z => absurd z (by simp))
  refine ⟨t0, G, J, fun b o z => ?_, ge, hoe, del_same⟩
  by_cases hba : b = a
  · rw [hba, ge] at z
    cases z
  · exact (gk b hba).symm.trans z
theorem del_upd {H : Hp} {a : Addr} {o : HO} (h : H a = none) : del (upd H a o) a = H := by
  funext b
  by_cases e : b = a
  · subst e
    rw [del_same, h]
  · rw [del_ne e, upd_ne e]
/-- C(), its __init__ sets nothing; to be raised -/
theorem pmk_err0 (T : ErrC X.K C fI) (F : FnOk X.prog X.w X.K X.mg X.base CX0 k fI fd ps (spErr0 C)) (hr : Room (k + 1) X.A) (hb : Binds X.K fd ps []) (hg : Gl X x) (hm : X.mg x = some (.ref C)) (hdb : (x == ("__debug__" : Str)) = false := by decide) :
    PMk X (.Call (.Name x p) [] [] pos) (fun _ H Q => Q (.ref C) none H) := by
  intro pins s σ H Q I h
  obtain ⟨nm, q, N, bs, bm, sn, sub, ab, col, dd, k0, k1, k2, k3, k5, hC, hbm⟩ := T.oex.cls
  refine wpAny_Call_Name_kw (ld_glob I hg hm ?_ hdb)
  refine PySem.W.callWith_K0 I.kIn T.oex.kC ?_
  show wpAny _ _ (call (.ref C) []) _ _ _
  obtain ⟨hp, g, dr, tk, os⟩ := s
  have hsz : hp.objs.size ≤ hp.objs.size + 1 := Nat.le_succ _
  have hn : H (hp.objs.size + 1) = none := I.hok.fresh hsz
  have kk : ∀ b o, hp.get? b = some o → ((hp.push (PySem.W.kdv_tup [])).push (PySem.HandSPX.excO C hp.objs.size)).get? b = some o := fun b o e => Heap.get?_push_of_some _ (Heap.get?_push_of_some _ e)
  have hget : ((hp.push (PySem.W.kdv_tup [])).push (PySem.HandSPX.excO C hp.objs.size)).get? (hp.objs.size + 1) = some (PySem.HandSPX.excO C hp.objs.size) := by heap_get
  have I2 : Inv X pins σ (upd H (hp.objs.size + 1) (exo (hp.objs.size + 1) C none)) ⟨(hp.push (PySem.W.kdv_tup [])).push (PySem.HandSPX.excO C hp.objs.size), g, dr, tk, os⟩ :=
    I.laid (t' := tk) (a := hp.objs.size + 1) (o := exo (hp.objs.size + 1) C none) (h' := (hp.push (PySem.W.kdv_tup [])).push (PySem.HandSPX.excO C hp.objs.size)) kk hsz (exo_ok hget)
  have hq : spErr0 C [.ref (hp.objs.size + 1)] (upd H (hp.objs.size + 1) (exo (hp.objs.size + 1) C none)) (fun v H2 => v = .non ∧ H2 = upd H (hp.objs.size + 1) (exo (hp.objs.size + 1) C none)) E0 := ⟨_, rfl, upd_same, rfl, rfl⟩
  have hl : ([Value.ref (hp.objs.size + 1)] ++ []).length = ps.length := F.len _ _ _ _ hq
  refine wpAny_call (PySem.HandSPX.call_own PySem.F.excBase_ValueError (fun Y => PySem.HandSPX.refsVE_contains Y bm hbm) (I.kIn _ _ hC) (PySem.W.looks_findIn I.kIn T.ini) (fun self => PySem.W.bind_fn I.kIn self T.fn) (Nat.zero_le _)
    (codeAny_mono (F.run _ X.stack _ _ ⟨[Value.ref (hp.objs.size + 1)], []⟩ [Value.ref (hp.objs.size + 1)] [.ref (hp.objs.size + 1)] _ E0 (hr.make C [] []) (I2.env0.make C [] []) (hb _ [Value.ref (hp.objs.size + 1)] I2.kIn hl) (.cons rfl .nil) hq) fun r s' hq' => ?_))
  match r, hq' with
  | .error e, hq' => exact hq'.elim
  | .ok .next, hq' => exact hq'.elim
  | .ok .brk, hq' => exact hq'.elim
  | .ok .cont, hq' => exact hq'.elim
  | .ok (.ret u), hq' =>
    obtain ⟨v, H2, os2, bare2, un2, hok2, rv, rfl, eH⟩ := hq'
    obtain ⟨h2, g2, d2, t2, os'⟩ := s'
    obtain ⟨t0, G, J, kG, ge, hoe, na⟩ := mk_end0n (d2 := d2) (t2 := t2) I hsz kk un2 hok2 os2 bare2 (by rw [eH, upd_same])
    have eq : del H2 (hp.objs.size + 1) = H := by rw [eH]; exact del_upd hn
    rw [eq] at J na
    exact ⟨rv, hp.objs.size + 1, _, _, ⟨G, g2, d2, t2, os'⟩, _, .ref C, none, rfl, J, kG, ge, hoe, ⟨rfl, rfl⟩, rfl, rfl, na, rfl, bare2, raises_own T.oex.exC T.oex.tyC, h⟩
end
end J

set_option Elab.async false
set_option linter.all false
set_option maxRecDepth 100000
set_option maxHeartbeats 4000000
/-! J10: the Hook once more, a def's place told by a function of the written part (a property's getter too). -/
namespace J
open PySem PySem.Spec PyProof.Rows L2

structure DefJ where
  ad : PySem.W.Frag → Addr
  d : He.DefD
/-- the getter of the property f of the class x -/
def pa (x f : Str) : PySem.W.Frag → Addr := fun K => match PySem.W.recIn K (He.ma K (He.ga K x) f) "property" with
  | some (.ref g :: _) => g
  | _ => 0
/-- what a written object points to; a property's three functions too -/
def refsJ (o : Obj) : List Addr := He.refsD o ++ match o.cls, o.data with
  | .type "property", .fields vs => vs.toList.flatMap He.refV
  | _, _ => []
def growJ (g : Addr → Option Obj) (as : List Addr) : List Addr := (as ++ as.flatMap fun a => match g a with
  | some o => refsJ o
  | none => []).eraseDups
def asK (g : Addr → Option Obj) : Nat → List Addr
  | 0 => [mainGlobals, cStatics]
  | n + 1 => growJ g (asK g n)
def fnJ (K : PySem.W.Frag) (a : Addr) : He.FnW := match K.lookup a with
  | some ⟨_, _, .func fd, _⟩ => some (fd.name, fd.qualname, fd.params, fd.body, fd.scope, fd.globals, fd.closure, fd.builtins)
  | _ => none
def DefJ.ok (K : PySem.W.Frag) (q : DefJ) : Bool := PySem.W.keepIn K (.ref (q.ad K)) && (match K.lookup (q.ad K) with
  | some ⟨_, _, .func fd, _⟩ => PySem.W.codeIn K fd.code q.d.qual && (He.dflB K fd.defaults (q.d.dvs K) && He.kwdB K fd.kwdefaults (q.d.kws K))
  | _ => false)
theorem DefJ.funD {K : PySem.W.Frag} {q : DefJ} (e : fnJ K (q.ad K) = q.d.val) (c : q.ok K = true) : ∃ fd, FunD K q.d.name q.d.qual q.d.params q.d.body q.d.scope (q.d.dvs K) (q.d.kws K) (q.ad K) fd := by
  obtain ⟨ad, d⟩ := q
  obtain ⟨kp, c2⟩ := He.ba c
  unfold fnJ at e
  dsimp only at e c2 kp ⊢
  cases z : K.lookup (ad K) with
  | none =>
    rw [z] at c2
    cases c2
  | some o =>
    obtain ⟨oc, od, dt, osl⟩ := o
    rw [z] at c2 e
    cases dt with
    | func fd =>
      obtain ⟨n1, n2, n3, n4, n5, n6, n7, n8, n9, n10, n11, n12, n13, n14, n15⟩ := fd
      have e2 : (some (n1, n2, n3, n4, n5, n6, n7, n15) : He.FnW) = some (d.name, d.qual, d.params, .stmts d.body, d.scope, mainGlobals, [], builtinsNs) := e
      simp only [Option.some.injEq, Prod.mk.injEq] at e2
      obtain ⟨h1, h2, h3, h4, h5, h6, h7, h8⟩ := e2
      subst h1 h2 h3 h4 h5 h6 h7 h8
      have c3 : (PySem.W.codeIn K n13 d.qual && (He.dflB K n8 (d.dvs K) && He.kwdB K n9 (d.kws K))) = true := c2
      obtain ⟨k1, k2⟩ := He.ba c3
      obtain ⟨k3, k4⟩ := He.ba k2
      exact ⟨_, ⟨oc, od, n8, n9, n10, n11, n12, n13, n14, osl, rfl, z, k1, He.dflB_ok k3, He.kwdB_ok k4⟩, kp⟩
    | _ => cases c2
def obsK (bs : List Bf) (fn : List DefJ) (K : PySem.W.Frag) : He.AlD := ((bs.all fun b => b K) && fn.all fun q => q.ok K, fn.map fun q => fnJ K (q.ad K))
def valK (fn : List DefJ) : He.AlD := (true, fn.map fun q => q.d.val)
def SaysK (bs : List Bf) (fn : List DefJ) (K : PySem.W.Frag) : Prop := obsK bs fn K = valK fn
def obsKG (n : Nat) (bs : List Bf) (fn : List DefJ) (g : Addr → Option Obj) : He.AlD := obsK bs fn (He.frG g (asK g n))
def hookK (n : Nat) (bs : List Bf) (fn : List DefJ) : PySem.W.Hook where
  α := He.AlD
  obs := fun s => obsKG n bs fn s.heap.get?
  val := fun _ => valK fn
  says := fun _ h => ∃ K : PySem.W.Frag, K.In h ∧ SaysK bs fn K
  of := fun _ _ e => ⟨_, He.frG_in, e⟩
  keeps := fun _ _ _ ⟨K, hK, c⟩ k => ⟨K, PySem.W.Frag.In.keeps hK k, c⟩
theorem obsKG_eq {n : Nat} {bs : List Bf} {fn : List DefJ} {g : Addr → Option Obj} {s : Shared} (h : ∀ a, g a = s.heap.get? a) : obsKG n bs fn g = (hookK n bs fn).obs s := by
  have e : g = s.heap.get? := funext h
  rw [e] <;> rfl
section
variable {bs : List Bf} {fn : List DefJ} {K : PySem.W.Frag}
theorem SaysK.fact (c : SaysK bs fn K) (i : Nat) {b : Bf} (h : bs[i]? = some b := by rfl) : b K = true := by
  have c1 := (He.ba (show ((bs.all fun b => b K) && fn.all fun d => d.ok K) = true from congrArg (fun z : He.AlD => z.1) c)).1
  exact List.all_eq_true.mp c1 b (List.mem_of_getElem? h)
theorem SaysK.def_ (c : SaysK bs fn K) (i : Nat) {q : DefJ} (h : fn[i]? = some q := by rfl) : ∃ fd, FunD K q.d.name q.d.qual q.d.params q.d.body q.d.scope (q.d.dvs K) (q.d.kws K) (q.ad K) fd := by
  have c2 := (He.ba (show ((bs.all fun b => b K) && fn.all fun d => d.ok K) = true from congrArg (fun z : He.AlD => z.1) c)).2
  have e : fn.map (fun q => fnJ K (q.ad K)) = fn.map fun q => q.d.val := congrArg (fun z : He.AlD => z.2) c
  have e2 : (fn.map fun q => fnJ K (q.ad K))[i]? = (fn.map fun q => q.d.val)[i]? := by rw [e]
  rw [List.getElem?_map, List.getElem?_map, h] at e2
  exact DefJ.funD (Option.some.inj e2) (List.all_eq_true.mp c2 q (List.mem_of_getElem? h))
end
/-! ### facts of an own class as Bools -/
/-- class x is made by its __init__, its fields fs are its instances' own; isinstance is asked of it -/
def clsJ (x : Str) (fs : List Str) : Bf := fun K =>
  He.eqO (PySem.W.nsIn K mainGlobals x) (some (some (.ref (He.ga K x)))) && (PySem.W.plainGet K (He.ga K x) Str.empty && (PySem.W.hasDictIn K (He.ga K x) && (PySem.W.plainOver K (He.ga K x) &&
  (He.eqO (PySem.W.findIn K (.ref (He.ga K x)) "__setattr__") (some (some (.builtin "object.__setattr__"))) && (PySem.W.makesIn K (He.ga K x) && (He.eqO (PySem.W.findIn K (.ref (He.ga K x)) "__init__") (some (some (.ref (He.ma K (He.ga K x) "__init__")))) &&
  (PySem.W.isFn K (.ref (He.ma K (He.ga K x) "__init__")) && (PySem.W.keepIn K (.ref (He.ga K x)) && ((fs.all fun f => He.eqO (PySem.W.findIn K (.ref (He.ga K x)) f) (some none)) &&
  (He.eqO (PySem.W.findIn K (.ref (He.ga K x)) "__class__") (some (some (.builtin "object.__class__"))) && (He.eqO (PySem.W.specialIn K (.builtin "object.__class__") "__get__") (some (some (.builtin "getset_descriptor.__get__"))) &&
  (decide (PySem.W.takesIn K (.builtin "object.__class__") = some true) && decide (PySem.W.mroIn K (He.ga K x) (.type "object") = some true)))))))))))))
structure ClsJ (K : PySem.W.Frag) (mg : Str → Option Value) (x : Str) (fs : List Str) : Prop where
  g : mg x = some (.ref (He.ga K x))
  cl : Cls K (He.ga K x)
  mkc : Mk K (He.ga K x) (He.ma K (He.ga K x) "__init__")
  no : ∀ f ∈ fs, NoAttr K (He.ga K x) f
  c1 : PySem.W.findIn K (.ref (He.ga K x)) "__class__" = some (some (.builtin "object.__class__"))
  c2 : PySem.W.specialIn K (.builtin "object.__class__") "__get__" = some (some (.builtin "getset_descriptor.__get__"))
  c3 : PySem.W.takesIn K (.builtin "object.__class__") = some true
  c4 : PySem.W.mroIn K (He.ga K x) (.type "object") = some true
theorem clsJ_ok {K : PySem.W.Frag} {h : Heap} {mg : Str → Option Value} {x : Str} {fs : List Str} (X : K.In h) (G : h.Ns mainGlobals mg) (c : clsJ x fs K = true) : ClsJ K mg x fs := by
  obtain ⟨h0, c⟩ := He.ba c
  obtain ⟨h1, c⟩ := He.ba c
  obtain ⟨h2, c⟩ := He.ba c
  obtain ⟨h3, c⟩ := He.ba c
  obtain ⟨h4, c⟩ := He.ba c
  obtain ⟨h5, c⟩ := He.ba c
  obtain ⟨h6, c⟩ := He.ba c
  obtain ⟨h7, c⟩ := He.ba c
  obtain ⟨h8, c⟩ := He.ba c
  obtain ⟨h9, c⟩ := He.ba c
  obtain ⟨h10, c⟩ := He.ba c
  obtain ⟨h11, c⟩ := He.ba c
  obtain ⟨h12, h13⟩ := He.ba c
  exact ⟨PySem.W.mg_of X G (He.eqO_ok h0), ⟨h1, h2, h3, He.eqO_ok h4⟩, ⟨h5, He.eqO_ok h6, h7, h8⟩, fun f hf => He.eqO_ok (List.all_eq_true.mp h9 f hf), He.eqO_ok h10, He.eqO_ok h11, of_decide_eq_true h12, of_decide_eq_true h13⟩
theorem ClsJ.ty {K : PySem.W.Frag} {mg : Str → Option Value} {x : Str} {fs : List Str} (c : ClsJ K mg x fs) {H : Hp} {a dx : Addr} {gs : List (Str × V)} (e : H a = some (.ins (He.ga K x) dx gs)) : TyOf K H (.ref a) (.ref (He.ga K x)) := .ins e c.cl c.c1 c.c2 c.c3 c.c4
/-- a method -/
def methJ (x m : Str) : Bf := fun K => He.eqO (PySem.W.findIn K (.ref (He.ga K x)) m) (some (some (.ref (He.ma K (He.ga K x) m)))) && (PySem.W.isFn K (.ref (He.ma K (He.ga K x) m)) && PySem.W.keepIn K (.ref (He.ma K (He.ga K x) m)))
theorem methJ_ok {K : PySem.W.Frag} {x m : Str} (c : methJ x m K = true) : Meth K (He.ga K x) m (He.ma K (He.ga K x) m) := by
  obtain ⟨h0, c⟩ := He.ba c
  obtain ⟨h1, h2⟩ := He.ba c
  exact ⟨He.eqO_ok h0, h1, h2⟩
def propJ (x f : Str) : Bf := fun K => He.eqO (PySem.W.findIn K (.ref (He.ga K x)) f) (some (some (.ref (He.ma K (He.ga K x) f)))) && (He.eqO (PySem.W.specialIn K (.ref (He.ma K (He.ga K x) f)) "__get__") (some (some (.builtin "property.__get__"))) &&
  (decide (PySem.W.takesIn K (.ref (He.ma K (He.ga K x) f)) = some true) && (match PySem.W.recIn K (He.ma K (He.ga K x) f) "property" with
    | some (.ref _ :: _) => true
    | _ => false)))
theorem propJ_ok {K : PySem.W.Frag} {x f : Str} (c : propJ x f K = true) : PropOf K (He.ga K x) f (He.ma K (He.ga K x) f) (pa x f K) := by
  obtain ⟨h0, c⟩ := He.ba c
  obtain ⟨h1, c⟩ := He.ba c
  obtain ⟨h2, h3⟩ := He.ba c
  refine ⟨He.eqO_ok h0, He.eqO_ok h1, of_decide_eq_true h2, ?_⟩
  unfold pa
  split at h3
  · rename_i g rest e
    rw [e]
    exact ⟨rest, rfl⟩
  · cases h3
/-- an operator's two defs -/
def opJ (x : Str) (nm : String) : Bf := fun K => methJ x (PySem.dunder nm) K && (methJ x (PySem.dunderR nm) K && He.eqO (PySem.W.findIn K (.ref (He.ga K x)) (PySem.dunderI nm)) (some none))
theorem opJ_ok {K : PySem.W.Frag} {x : Str} {nm : String} (c : opJ x nm K = true) : OpC K (He.ga K x) nm (He.ma K (He.ga K x) (PySem.dunder nm)) (He.ma K (He.ga K x) (PySem.dunderR nm)) := by
  obtain ⟨h0, c⟩ := He.ba c
  obtain ⟨h1, h2⟩ := He.ba c
  have a := methJ_ok h0
  have b := methJ_ok h1
  exact ⟨a.at_, a.fn, b.at_, b.fn, He.eqO_ok h2⟩
def ownJ (x : Str) : Bf := fun K => PySem.W.selfFirst K (He.ga K x) && (PySem.W.mroTwo K (He.ga K x) && (decide (PySem.W.subIn K (.ref (He.ga K x)) (.type "object") = some true) && He.eqO (PySem.W.findIn K (.ref (He.ga K x)) "__ne__") (some (some (.builtin "object.__ne__")))))
theorem ownJ_ok {K : PySem.W.Frag} {x : Str} (c : ownJ x K = true) : OwnC K (He.ga K x) ∧ PySem.W.findIn K (.ref (He.ga K x)) "__ne__" = some (some (.builtin "object.__ne__")) := by
  obtain ⟨h0, c⟩ := He.ba c
  obtain ⟨h1, c⟩ := He.ba c
  obtain ⟨h2, h3⟩ := He.ba c
  exact ⟨⟨h0, h1, of_decide_eq_true h2⟩, He.eqO_ok h3⟩
/-- the class x and Python's own T have nothing to do with one another; isinstance's answers -/
def apartJ (x : Str) (T : String) : Bf := fun K => decide (PySem.W.subIn K (.type T) (.ref (He.ga K x)) = some false) && (decide (PySem.W.subIn K (.ref (He.ga K x)) (.type T) = some false) &&
  (decide (PySem.W.kitOne K (.type T) (.ref (He.ga K x)) = some false) && decide (PySem.W.kitOne K (.ref (He.ga K x)) (.type T) = some false)))
structure ApartJ (K : PySem.W.Frag) (x : Str) (T : String) : Prop where
  ap : Apart K (He.ga K x) T
  k1 : PySem.W.kitOne K (.type T) (.ref (He.ga K x)) = some false
  k2 : PySem.W.kitOne K (.ref (He.ga K x)) (.type T) = some false
theorem apartJ_ok {K : PySem.W.Frag} {x : Str} {T : String} (c : apartJ x T K = true) : ApartJ K x T := by
  obtain ⟨h0, c⟩ := He.ba c
  obtain ⟨h1, c⟩ := He.ba c
  obtain ⟨h2, h3⟩ := He.ba c
  exact ⟨⟨of_decide_eq_true h0, of_decide_eq_true h1⟩, of_decide_eq_true h2, of_decide_eq_true h3⟩
theorem kit_self {K : PySem.W.Frag} {C : Addr} : PySem.W.kitOne K (.ref C) (.ref C) = some true := by
  unfold PySem.W.kitOne
  rw [if_pos (by simp)]
end J

set_option Elab.async false
set_option linter.all false
set_option maxRecDepth 100000
set_option maxHeartbeats 4000000
namespace K02
open PySem PySem.Spec PyProof.Rows L2 J
def top (i : Nat) : Stmt := PySem.Challenge.pw_jointdraws_k02_ratios_reckoned.main.body.getD i (.Pass ⟨0, 0, 0, 0⟩)
abbrev s__wall : Stmt := top 0
abbrev s_ByZero___init__ : Stmt := inClass (top 3) 0
abbrev s_common_part : Stmt := top 5
abbrev s_is_integer : Stmt := top 6
abbrev s_Ratio___init__ : Stmt := inClass (top 7) 0
abbrev s_Ratio_top : Stmt := inClass (top 7) 1
abbrev s_Ratio_bottom : Stmt := inClass (top 7) 2
abbrev s_Ratio___add__ : Stmt := inClass (top 7) 3
abbrev s_Ratio___radd__ : Stmt := inClass (top 7) 4
abbrev s_Ratio___sub__ : Stmt := inClass (top 7) 5
abbrev s_Ratio___rsub__ : Stmt := inClass (top 7) 6
abbrev s_Ratio___mul__ : Stmt := inClass (top 7) 7
abbrev s_Ratio___rmul__ : Stmt := inClass (top 7) 8
abbrev s_Ratio___neg__ : Stmt := inClass (top 7) 9
abbrev s_Ratio___eq__ : Stmt := inClass (top 7) 10
abbrev s_Ratio___str__ : Stmt := inClass (top 7) 11
abbrev s_Ratio_over : Stmt := inClass (top 7) 12
abbrev s_Ratio_below : Stmt := inClass (top 7) 13
abbrev s_Ratio_text : Stmt := inClass (top 7) 14
abbrev s_parts_of : Stmt := top 8
abbrev s__law_cell : Stmt := top 10
abbrev s__law_box : Stmt := top 11
abbrev s__law_take : Stmt := top 12
abbrev s__law_integer : Stmt := top 13
abbrev s__law_common : Stmt := top 14
abbrev s__law_is : Stmt := top 15
abbrev s__law_no_quotient : Stmt := top 16
abbrev s__law_two_right : Stmt := top 17
abbrev s__law_integers_right : Stmt := top 18
abbrev s_law : Stmt := top 19
abbrev FnP (K : PySem.W.Frag) (x : Str) (st : Stmt) (f : Addr) (fd : FuncData) : Prop := FunD K x x (defArgs st) (defBody st) (defScope st) [] [] f fd
abbrev FnM (K : PySem.W.Frag) (m q : Str) (st : Stmt) (f : Addr) (fd : FuncData) : Prop := FunD K m q (defArgs st) (defBody st) (defScope st) [] [] f fd
theorem sl {n : Nat} (h : n ≤ 1000) : n ≤ sizeLine := Nat.le_of_lt (small1000 h)
theorem low_eq {n1 d1 n2 d2 : Int} (h1 : 0 < d1) (h2 : 0 < d2) (g1 : Int.gcd n1 d1 = 1) (g2 : Int.gcd n2 d2 = 1) (e : n1 * d2 = n2 * d1) : n1 = n2 ∧ d1 = d2 := by
  have a1 : d1 ∣ d2 := by
    have h : d1 ∣ n1 * d2 := ⟨n2, by rw [e, Int.mul_comm]⟩
    have h' := Int.natAbs_dvd_natAbs.mpr h
    rw [Int.natAbs_mul] at h'
    exact Int.natAbs_dvd_natAbs.mp (Nat.Coprime.dvd_of_dvd_mul_left (show Nat.gcd d1.natAbs n1.natAbs = 1 by rw [Nat.gcd_comm]; exact g1) h')
  have a2 : d2 ∣ d1 := by
    have h : d2 ∣ n2 * d1 := ⟨n1, by rw [← e, Int.mul_comm]⟩
    have h' := Int.natAbs_dvd_natAbs.mpr h
    rw [Int.natAbs_mul] at h'
    exact Int.natAbs_dvd_natAbs.mp (Nat.Coprime.dvd_of_dvd_mul_left (show Nat.gcd d2.natAbs n2.natAbs = 1 by rw [Nat.gcd_comm]; exact g2) h')
  have ed : d1 = d2 := Int.dvd_antisymm (by omega) (by omega) a1 a2
  subst ed
  exact ⟨Int.eq_of_mul_eq_mul_right (by omega) e, rfl⟩
theorem sign_eq {X Y P B : Int} (hP : 0 < P) (e : X * P = Y * B) : X.sign = Y.sign * B.sign := by
  have h := congrArg Int.sign e
  rw [Int.sign_mul, Int.sign_mul, Int.sign_eq_one_of_pos hP, Int.mul_one] at h
  exact h
theorem side_sign {X Y P B S : Int} (hP : 0 < P) (hB : B ≠ 0) (e : X * P = Y * B) (hS : S = X * (if 0 < B then 1 else -1)) : S.sign = Y.sign := by
  have h := sign_eq hP e
  rw [hS, Int.sign_mul, h]
  by_cases b : 0 < B
  · rw [if_pos b, Int.sign_eq_one_of_pos b]; simp
  · rw [if_neg b, Int.sign_eq_neg_one_of_neg (show B < 0 by omega)]; simp
theorem sign_lt {S Y : Int} (h : S.sign = Y.sign) : (S < 0 ↔ Y < 0) ∧ (S = 0 ↔ Y = 0) := by
  constructor
  · rw [← Int.sign_eq_neg_one_iff_neg, h, Int.sign_eq_neg_one_iff_neg]
  · rw [← Int.sign_eq_zero_iff_zero, h, Int.sign_eq_zero_iff_zero]
theorem cross_add {n1 d1 n2 d2 a b c d n D : Int} (h1 : n1 * b = a * d1) (h2 : n2 * d = c * d2) (p1 : 0 < d1) (p2 : 0 < d2) (e : n * (d1 * d2) = (n1 * d2 + n2 * d1) * D) : n * (b * d) = (a * d + c * b) * D := by
  refine Int.eq_of_mul_eq_mul_left (show d1 * d2 ≠ 0 from Int.mul_ne_zero (by omega) (by omega)) ?_
  grind
theorem cross_sub {n1 d1 n2 d2 a b c d n D : Int} (h1 : n1 * b = a * d1) (h2 : n2 * d = c * d2) (p1 : 0 < d1) (p2 : 0 < d2) (e : n * (d1 * d2) = (n1 * d2 - n2 * d1) * D) : n * (b * d) = (a * d - c * b) * D := by
  refine Int.eq_of_mul_eq_mul_left (show d1 * d2 ≠ 0 from Int.mul_ne_zero (by omega) (by omega)) ?_
  grind
theorem cross_rsub {n1 d1 n2 d2 a b c d n D : Int} (h1 : n1 * b = a * d1) (h2 : n2 * d = c * d2) (p1 : 0 < d1) (p2 : 0 < d2) (e : n * (d1 * d2) = (n2 * d1 - n1 * d2) * D) : n * (b * d) = (c * b - a * d) * D := by
  refine Int.eq_of_mul_eq_mul_left (show d1 * d2 ≠ 0 from Int.mul_ne_zero (by omega) (by omega)) ?_
  grind
theorem cross_mul {n1 d1 n2 d2 a b c d n D : Int} (h1 : n1 * b = a * d1) (h2 : n2 * d = c * d2) (p1 : 0 < d1) (p2 : 0 < d2) (e : n * (d1 * d2) = (n1 * n2) * D) : n * (b * d) = (a * c) * D := by
  refine Int.eq_of_mul_eq_mul_left (show d1 * d2 ≠ 0 from Int.mul_ne_zero (by omega) (by omega)) ?_
  grind
theorem cross_neg {n1 d1 a b n D : Int} (h1 : n1 * b = a * d1) (p1 : 0 < d1) (e : n * d1 = -n1 * D) : n * b = (0 - a) * D := by
  refine Int.eq_of_mul_eq_mul_left (show d1 ≠ 0 by omega) ?_
  grind
theorem cross_over {n1 d1 n2 d2 a b c d n D : Int} (h1 : n1 * b = a * d1) (h2 : n2 * d = c * d2) (p1 : 0 < d1) (n0 : n2 ≠ 0) (e : n * (d1 * n2) = (n1 * d2) * D) : n * (b * c) = (a * d) * D := by
  refine Int.eq_of_mul_eq_mul_left (show d1 * n2 ≠ 0 from Int.mul_ne_zero (by omega) n0) ?_
  grind
theorem zero_iff {n2 d2 c d : Int} (h2 : n2 * d = c * d2) (p2 : 0 < d2) (d0 : d ≠ 0) : n2 = 0 ↔ c = 0 := by
  constructor
  · intro z
    rw [z, Int.zero_mul] at h2
    exact (Int.mul_eq_zero.mp h2.symm).resolve_right (by omega)
  · intro z
    rw [z, Int.zero_mul] at h2
    exact (Int.mul_eq_zero.mp h2).resolve_right d0
theorem cross_eq {n1 d1 n2 d2 a b c d : Int} (h1 : n1 * b = a * d1) (h2 : n2 * d = c * d2) : (a * d - c * b) * (d1 * d2) = (n1 * d2 - n2 * d1) * (b * d) := by grind
/-! ### the class Ratio -/
abbrev RC (K : PySem.W.Frag) : Addr := He.ga K "Ratio"
abbrev BZ (K : PySem.W.Frag) : Addr := He.ga K "ByZero"
def RatAt (K : PySem.W.Frag) (H : Hp) (p : Addr) (n d : Int) : Prop := ∃ dx, H p = some (.ins (RC K) dx [("above", .int n), ("under", .int d)])
theorem RatAt.ext {K : PySem.W.Frag} {H H' : Hp} {p : Addr} {n d : Int} (h : RatAt K H p n d) (k : Same H H') : RatAt K H' p n d := let ⟨dx, e⟩ := h; ⟨dx, k _ _ e⟩
/-- in lowest terms, not too great -/
structure Rat (K : PySem.W.Frag) (H : Hp) (p : Addr) (n d : Int) (k : Nat) : Prop where
  at_ : RatAt K H p n d
  pos : 0 < d
  low : Int.gcd n d = 1
  bn : n.natAbs < 2 ^ k
  bd : d.natAbs < 2 ^ k
theorem Rat.ext {K : PySem.W.Frag} {H H' : Hp} {p : Addr} {n d : Int} {j : Nat} (h : Rat K H p n d j) (k : Same H H') : Rat K H' p n d j := ⟨h.at_.ext k, h.pos, h.low, h.bn, h.bd⟩
theorem Rat.up {K : PySem.W.Frag} {H : Hp} {p : Addr} {n d : Int} {j k : Nat} (h : Rat K H p n d j) (l : j ≤ k) : Rat K H p n d k :=
  ⟨h.at_, h.pos, h.low, Nat.lt_of_lt_of_le h.bn (Nat.pow_le_pow_right (by decide) l), Nat.lt_of_lt_of_le h.bd (Nat.pow_le_pow_right (by decide) l)⟩
/-- an integer, or a ratio -/
def NumAt (K : PySem.W.Frag) (H : Hp) (y : V) (n d : Int) (k : Nat) : Prop := (y = .int n ∧ d = 1 ∧ n.natAbs < 2 ^ k) ∨ ∃ b, y = .ref b ∧ Rat K H b n d k
theorem NumAt.ext {K : PySem.W.Frag} {H H' : Hp} {y : V} {n d : Int} {j : Nat} (h : NumAt K H y n d j) (k : Same H H') : NumAt K H' y n d j := h.elim .inl fun ⟨b, e, r⟩ => .inr ⟨b, e, r.ext k⟩
theorem NumAt.pos {K : PySem.W.Frag} {H : Hp} {y : V} {n d : Int} {j : Nat} (h : NumAt K H y n d j) : 0 < d := by
  rcases h with ⟨_, rfl, _⟩ | ⟨_, _, r⟩
  · decide
  · exact r.pos
theorem NumAt.bn {K : PySem.W.Frag} {H : Hp} {y : V} {n d : Int} {j : Nat} (h : NumAt K H y n d j) : n.natAbs < 2 ^ j := by
  rcases h with ⟨_, _, h⟩ | ⟨_, _, r⟩
  · exact h
  · exact r.bn
theorem NumAt.bd {K : PySem.W.Frag} {H : Hp} {y : V} {n d : Int} {j : Nat} (h : NumAt K H y n d j) (h0 : 0 < j) : d.natAbs < 2 ^ j := by
  rcases h with ⟨_, rfl, h⟩ | ⟨_, _, r⟩
  · exact Nat.one_lt_two_pow (by omega)
  · exact r.bd
/-! what the defs promise -/
def spGcd : Sp := fun vs H Q _ => ∃ a b : Int, vs = [.int a, .int b] ∧ Q (.int (Int.gcd a b)) H
def spIsInt (K : PySem.W.Frag) : Sp := fun vs H Q _ => ∃ (v : V) (t : Value) (b1 b2 : Bool), vs = [v] ∧ TyOf K H v t ∧ PySem.W.kitOne K t (.type "int") = some b1 ∧ PySem.W.kitOne K t (.type "bool") = some b2 ∧ Q (.bl (b1 && !b2)) H
def spInit (K : PySem.W.Frag) : Sp := fun vs H Q E => ∃ a dx t b, vs = [.ref a, .int t, .int b] ∧ H a = some (.ins (RC K) dx []) ∧ b.natAbs < 2 ^ 8000 ∧ (b = 0 → E (.ref (BZ K)) none H) ∧
  (b ≠ 0 → ∀ n d, 0 < d → Int.gcd n d = 1 → n * b = t * d → n.natAbs ≤ t.natAbs → d.natAbs ≤ b.natAbs → Q .non (upd H a (.ins (RC K) dx [("above", .int n), ("under", .int d)])))
def spParts (K : PySem.W.Frag) : Sp := fun vs H Q _ => ∃ y n d k, vs = [y] ∧ NumAt K H y n d k ∧ ∀ p H', Same H H' → H' p = some (.tup [.int n, .int d]) → Q (.ref p) H'
/-- self op other: f tells top and bottom by self's and other's -/
def spBin (K : PySem.W.Frag) (f : Int → Int → Int → Int → Int × Int) : Sp := fun vs H Q _ => ∃ a y n1 d1 n2 d2, vs = [.ref a, y] ∧ Rat K H a n1 d1 2000 ∧ NumAt K H y n2 d2 2000 ∧
  ∀ p n d H', Same H H' → Rat K H' p n d 4100 → n * (f n1 d1 n2 d2).2 = (f n1 d1 n2 d2).1 * d → Q (.ref p) H'
def fAdd : Int → Int → Int → Int → Int × Int := fun n1 d1 n2 d2 => (n1 * d2 + n2 * d1, d1 * d2)
def fSub : Int → Int → Int → Int → Int × Int := fun n1 d1 n2 d2 => (n1 * d2 - n2 * d1, d1 * d2)
def fRsub : Int → Int → Int → Int → Int × Int := fun n1 d1 n2 d2 => (n2 * d1 - n1 * d2, d1 * d2)
def fMul : Int → Int → Int → Int → Int × Int := fun n1 d1 n2 d2 => (n1 * n2, d1 * d2)
def spNeg (K : PySem.W.Frag) : Sp := fun vs H Q _ => ∃ a n1 d1 k, vs = [.ref a] ∧ Rat K H a n1 d1 k ∧ k ≤ 7000 ∧ ∀ p n d H', Same H H' → Rat K H' p n d k → n * d1 = -n1 * d → Q (.ref p) H'
def spOver (K : PySem.W.Frag) : Sp := fun vs H Q E => ∃ a y n1 d1 n2 d2, vs = [.ref a, y] ∧ Rat K H a n1 d1 2000 ∧ NumAt K H y n2 d2 2000 ∧ (n2 = 0 → ∀ H', Same H H' → E (.ref (BZ K)) none H') ∧
  (n2 ≠ 0 → ∀ p n d H', Same H H' → Rat K H' p n d 4100 → n * (d1 * n2) = (n1 * d2) * d → Q (.ref p) H')
def spBelow (K : PySem.W.Frag) : Sp := fun vs H Q _ => ∃ a y n1 d1 n2 d2, vs = [.ref a, y] ∧ Rat K H a n1 d1 2000 ∧ NumAt K H y n2 d2 2000 ∧ ∀ H', Same H H' → Q (.bl (decide (n1 * d2 < n2 * d1))) H'
def spEq (K : PySem.W.Frag) : Sp := fun vs H Q _ => ∃ a y n1 d1, vs = [.ref a, y] ∧ RatAt K H a n1 d1 ∧
  ((∃ b n2 d2, y = .ref b ∧ RatAt K H b n2 d2 ∧ Q (.bl (decide (n1 = n2) && decide (d1 = d2))) H) ∨
   ∃ T b1 b2, TyOf K H y (.type T) ∧ PySem.W.kitOne K (.type T) (.ref (RC K)) = some false ∧ PySem.W.kitOne K (.type T) (.type "int") = some b1 ∧ PySem.W.kitOne K (.type T) (.type "bool") = some b2 ∧
    ((b1 && !b2) = true → ∃ i, y = .int i ∧ Q (.bl (decide (d1 = 1) && decide (n1 = i))) H) ∧ ((b1 && !b2) = false → Q (.bl false) H))
def spStr (K : PySem.W.Frag) : Sp := fun vs H Q _ => ∃ a n d, vs = [.ref a] ∧ Rat K H a n d 1900 ∧ (d = 1 → Q (.str (toString n)) H) ∧ (d ≠ 1 → Q (.str (Str.empty ++ Str.ofString (toString n) ++ ("/" : Str) ++ Str.ofString (toString d))) H)
/-- what all of it leans on -/
structure Tr (P : Program) (w : World) (K : PySem.W.Frag) (mg : Str → Option Value) (base : Heap) : Prop where
  c : ClsJ K mg "Ratio" ["above", "under"]
  own : OwnC K (RC K)
  ne : PySem.W.findIn K (.ref (RC K)) "__ne__" = some (some (.builtin "object.__ne__"))
  aI : ApartJ K "Ratio" "int"
  aB : ApartJ K "Ratio" "bool"
  o_add : OpC K (RC K) "add" (He.ma K (RC K) "__add__") (He.ma K (RC K) "__radd__")
  o_sub : OpC K (RC K) "sub" (He.ma K (RC K) "__sub__") (He.ma K (RC K) "__rsub__")
  o_mul : OpC K (RC K) "mul" (He.ma K (RC K) "__mul__") (He.ma K (RC K) "__rmul__")
  me : ∀ m ∈ (["__neg__", "__eq__", "__str__", "over", "below"] : List Str), Meth K (RC K) m (He.ma K (RC K) m)
  bz : ErrN K mg "ByZero" "given"
  aN : ApartJ K "Ratio" "NoneType"
  aS : ApartJ K "Ratio" "str"
  aL : ApartJ K "Ratio" "list"
  aT : ApartJ K "Ratio" "tuple"
  aD : ApartJ K "Ratio" "dict"
  m_len : mg "len" = none
  m_range : mg "range" = none
  m_max : mg "max" = none
  m_min : mg "min" = none
  exz : ExcC K (BZ K)
  ez : PySem.W.exmOne K (.ref (BZ K)) (.ref (BZ K)) = some true
  kz : PySem.W.kitOne K (.ref (BZ K)) (.ref (He.ga K "DrawError")) = some true
  g_DrawError : mg "DrawError" = some (.ref (He.ga K "DrawError"))
  m_abs : mg "abs" = none
  m_isinstance : mg "isinstance" = none
  m_int : mg "int" = none
  m_bool : mg "bool" = none
  m_str : mg "str" = none
theorem Tr.g_Ratio {P : Program} {w : World} {K : PySem.W.Frag} {mg : Str → Option Value} {base : Heap} (T : Tr P w K mg base) : mg "Ratio" = some (.ref (RC K)) := T.c.g
theorem Tr.g_ByZero {P : Program} {w : World} {K : PySem.W.Frag} {mg : Str → Option Value} {base : Heap} (T : Tr P w K mg base) : mg "ByZero" = some (.ref (BZ K)) := T.bz.g
theorem Tr.cl {P : Program} {w : World} {K : PySem.W.Frag} {mg : Str → Option Value} {base : Heap} (T : Tr P w K mg base) : Cls K (RC K) := T.c.cl
theorem Tr.na {P : Program} {w : World} {K : PySem.W.Frag} {mg : Str → Option Value} {base : Heap} (T : Tr P w K mg base) : NoAttr K (RC K) "above" := T.c.no _ (by simp)
theorem Tr.nu {P : Program} {w : World} {K : PySem.W.Frag} {mg : Str → Option Value} {base : Heap} (T : Tr P w K mg base) : NoAttr K (RC K) "under" := T.c.no _ (by simp)
/-! ### plain: lowest terms -/
theorem low_terms {t b : Int} (hb : b ≠ 0) {g : Int} (hg : g = if b < 0 then -((Int.gcd t b : Nat) : Int) else ((Int.gcd t b : Nat) : Int)) :
    g ≠ 0 ∧ g.natAbs ≤ b.natAbs ∧ 0 < b.fdiv g ∧ Int.gcd (t.fdiv g) (b.fdiv g) = 1 ∧ t.fdiv g * b = t * b.fdiv g ∧ (t.fdiv g).natAbs ≤ t.natAbs ∧ (b.fdiv g).natAbs ≤ b.natAbs := by
  have hp : 0 < Int.gcd t b := Int.gcd_pos_of_ne_zero_right t hb
  have h1 : ((Int.gcd t b : Nat) : Int) ∣ t := Int.gcd_dvd_left ..
  have h2 : ((Int.gcd t b : Nat) : Int) ∣ b := Int.gcd_dvd_right ..
  have hg0 : g ≠ 0 := by
    rw [hg]
    split <;> omega
  have d1 : g ∣ t := by
    rw [hg]
    split
    · exact Int.neg_dvd.mpr h1
    · exact h1
  have d2 : g ∣ b := by
    rw [hg]
    split
    · exact Int.neg_dvd.mpr h2
    · exact h2
  have ga : g.natAbs = Int.gcd t b := by
    rw [hg]
    split <;> omega
  obtain ⟨n, hn⟩ := d1
  obtain ⟨d, hd⟩ := d2
  have e1 : t.fdiv g = n := by rw [hn]; exact Int.mul_fdiv_cancel_left _ hg0
  have e2 : b.fdiv g = d := by rw [hd]; exact Int.mul_fdiv_cancel_left _ hg0
  rw [e1, e2]
  have hd0 : d ≠ 0 := fun z => hb (by rw [hd, z, Int.mul_zero])
  have nb : b.natAbs = g.natAbs * d.natAbs := by rw [hd, Int.natAbs_mul]
  have nt : t.natAbs = g.natAbs * n.natAbs := by rw [hn, Int.natAbs_mul]
  have gp : 0 < g.natAbs := by rw [ga]; exact hp
  refine ⟨hg0, ?_, ?_, ?_, ?_, ?_, ?_⟩
  · rw [nb]
    exact Nat.le_mul_of_pos_right _ (by omega)
  · by_cases hneg : b < 0
    · have g1 : g < 0 := by rw [hg, if_pos hneg]; omega
      have := hd ▸ hneg
      by_cases z : 0 < d
      · exact z
      · have : 0 ≤ g * d := Int.mul_nonneg_of_nonpos_of_nonpos (by omega) (by omega)
        omega
    · have g1 : 0 < g := by rw [hg, if_neg hneg]; omega
      have hb2 : 0 < b := by omega
      by_cases z : 0 < d
      · exact z
      · have : g * d ≤ 0 := Int.mul_nonpos_of_nonneg_of_nonpos (by omega) (by omega)
        omega
  · have : Int.gcd t b = g.natAbs * Int.gcd n d := by
      rw [hn, hd, Int.gcd_mul_left]
    rw [ga] at this
    have h3 : Int.gcd t b * 1 = Int.gcd t b * Int.gcd n d := by rw [Nat.mul_one]; exact this
    exact (Nat.eq_of_mul_eq_mul_left hp h3).symm
  · rw [hn, hd]
    grind
  · rw [nt]
    exact Nat.le_mul_of_pos_left _ gp
  · rw [nb]
    exact Nat.le_mul_of_pos_left _ gp
/-! ### readings -/
/-- te tells v and leaves the heap -/
def EvV (te : TE) (σ : L2.St) (H : Hp) (v : V) : Prop := ∀ Q : VK, Q v H → te σ H Q
theorem ev_var {σ : L2.St} {H : Hp} {i : Nat} {v : V} (h : σ[i]? = some (some v)) : EvV (tVar i) σ H v := fun _ q => ⟨v, h, q⟩
theorem ev_c {σ : L2.St} {H : Hp} {v : V} : EvV (tC v) σ H v := fun _ q => q
theorem ev_op {C : Int → Int → Prop} {g : Int → Int → V} {ta tb : TE} {σ : L2.St} {H : Hp} {i j : Int} (h1 : EvV ta σ H (.int i)) (h2 : EvV tb σ H (.int j)) (c : C i j) : EvV (tOp (rI C g) ta tb) σ H (g i j) :=
  fun Q q => h1 _ (h2 _ ⟨i, j, rfl, rfl, c, q⟩)
theorem ev_op0 {g : Int → Int → V} {ta tb : TE} {σ : L2.St} {H : Hp} {i j : Int} (h1 : EvV ta σ H (.int i)) (h2 : EvV tb σ H (.int j)) : EvV (tOp (rI0 g) ta tb) σ H (g i j) :=
  fun Q q => h1 _ (h2 _ ⟨i, j, rfl, rfl, q⟩)
theorem ev_un {g : Int → V} {ta : TE} {σ : L2.St} {H : Hp} {i : Int} (h1 : EvV ta σ H (.int i)) : EvV (tUn (rU g) ta) σ H (g i) := fun Q q => h1 _ ⟨i, rfl, q⟩
theorem lt_mul {i j : Int} {a b : Nat} (h1 : i.natAbs < 2 ^ a) (h2 : j.natAbs < 2 ^ b) : (i * j).natAbs < 2 ^ (a + b) := wide_lt h1 h2
theorem lt_add {i j : Int} {a : Nat} (h1 : i.natAbs < 2 ^ a) (h2 : j.natAbs < 2 ^ a) : (i + j).natAbs < 2 ^ (a + 1) := by
  rw [Nat.pow_succ]
  omega
theorem lt_sub {i j : Int} {a : Nat} (h1 : i.natAbs < 2 ^ a) (h2 : j.natAbs < 2 ^ a) : (i - j).natAbs < 2 ^ (a + 1) := by
  rw [Nat.pow_succ]
  omega
theorem lt_up {i : Nat} {a b : Nat} (h : i < 2 ^ a) (l : a ≤ b) : i < 2 ^ b := Nat.lt_of_lt_of_le h (Nat.pow_le_pow_right (by decide) l)
theorem cm {i j : Int} {a b : Nat} (h1 : i.natAbs < 2 ^ a) (h2 : j.natAbs < 2 ^ b) (l1 : a + 1 ≤ 10000 := by decide) (l2 : b + 1 ≤ 10000 := by decide) : CMulW i j :=
  wide_mul (a := a + 1) (b := b + 1) (lt_up h1 (Nat.le_succ _)) (lt_up h2 (Nat.le_succ _)) (Nat.succ_pos _) (Nat.succ_pos _) (by omega)
section
variable {P : Program} {w : World} {K : PySem.W.Frag} {mg : Str → Option Value} {base : Heap} {f : Addr} {fd : FuncData} {CX : CXT}
theorem ev_above {σ : L2.St} {H : Hp} {i : Nat} {a : Addr} {n d : Int} (T : Tr P w K mg base) (hv : σ[i]? = some (some (.ref a))) (h : RatAt K H a n d) : EvV (tFld K (tVar i) "above") σ H (.int n) := fun Q q => by
  obtain ⟨dx, e⟩ := h
  exact ⟨_, hv, a, RC K, dx, _, .int n, rfl, e, T.cl, T.na, rfl, q⟩
theorem ev_under {σ : L2.St} {H : Hp} {i : Nat} {a : Addr} {n d : Int} (T : Tr P w K mg base) (hv : σ[i]? = some (some (.ref a))) (h : RatAt K H a n d) : EvV (tFld K (tVar i) "under") σ H (.int d) := fun Q q => by
  obtain ⟨dx, e⟩ := h
  exact ⟨_, hv, a, RC K, dx, _, .int d, rfl, e, T.cl, T.nu, rfl, q⟩
theorem made_same {H : Hp} {x dx : Addr} {n d : Int} (hx : H x = none) (hd : H dx = none) (ne : dx ≠ x) :
    Same H (upd (upd (upd H dx (.own x)) x (.ins (RC K) dx [])) x (.ins (RC K) dx [("above", .int n), ("under", .int d)])) ∧ RatAt K (upd (upd (upd H dx (.own x)) x (.ins (RC K) dx [])) x (.ins (RC K) dx [("above", .int n), ("under", .int d)])) x n d := by
  refine ⟨fun b o h => ?_, dx, upd_same⟩
  rw [upd_ne (ne_of_none h hx), upd_ne (ne_of_none h hx), upd_ne (ne_of_none h hd)]
  exact h
/-- what a new ratio of t and b is -/
def Res (K : PySem.W.Frag) (H : Hp) (t b : Int) (Q : VK) : Prop := ∀ p n d H', Same H H' → RatAt K H' p n d → 0 < d → Int.gcd n d = 1 → n * b = t * d → n.natAbs ≤ t.natAbs → d.natAbs ≤ b.natAbs → Q (.ref p) H'
theorem init_res {H : Hp} {t b : Int} {x dx : Addr} {Q : VK} {E : XK} (hx : H x = none) (hd : H dx = none) (ne : dx ≠ x) (b8 : b.natAbs < 2 ^ 8000) (hE : b = 0 → E (.ref (BZ K)) none (upd (upd H dx (.own x)) x (.ins (RC K) dx []))) (h : b ≠ 0 → Res K H t b Q) :
    spInit K [.ref x, .int t, .int b] (upd (upd H dx (.own x)) x (.ins (RC K) dx [])) (fun v H2 => v = .non ∧ Q (.ref x) H2) E := by
  refine ⟨x, dx, t, b, rfl, upd_same, b8, hE, fun b0 n d d0 g e l1 l2 => ⟨rfl, ?_⟩⟩
  obtain ⟨s, r⟩ := made_same (K := K) (n := n) (d := d) hx hd ne
  exact h b0 x n d _ s r d0 g e l1 l2
theorem mk_ratio {ta tb : TE} {σ : L2.St} {H : Hp} {t b : Int} {Q : VK} (h1 : EvV ta σ H (.int t)) (h2 : EvV tb σ H (.int b)) (b0 : b ≠ 0) (b8 : b.natAbs < 2 ^ 8000) (h : Res K H t b Q) : tMake (RC K) (spInit K) [] E0 (tCons ta (tCons tb tNil)) σ H Q :=
  h1 _ (h2 _ fun _ _ hx hd ne => init_res hx hd ne b8 (fun z => absurd z b0) fun _ => h)
theorem mk_ratio1 {ta : TE} {σ : L2.St} {H : Hp} {t : Int} {Q : VK} (h1 : EvV ta σ H (.int t)) (h : Res K H t 1 Q) : tMake (RC K) (spInit K) [.int 1] E0 (tCons ta tNil) σ H Q :=
  h1 _ fun _ _ hx hd ne => init_res hx hd ne (Nat.one_lt_two_pow (by decide)) (fun z => by cases z) fun _ => h
theorem mk_ratioS {ta tb : TE} {σ : L2.St} {H : Hp} {t b : Int} {Q : VK} {E : L2.St → XK} (h1 : EvV ta σ H (.int t)) (h2 : EvV tb σ H (.int b)) (b8 : b.natAbs < 2 ^ 8000) (hE : b = 0 → ∀ H', Same H H' → E σ (.ref (BZ K)) none H') (h : b ≠ 0 → Res K H t b Q) :
    tMakeS (RC K) (spInit K) [] E (tCons ta (tCons tb tNil)) σ H Q :=
  h1 _ (h2 _ fun x dx hx hd ne => init_res hx hd ne b8 (fun z => hE z _ fun c o hc => by rw [upd_ne (ne_of_none hc hx), upd_ne (ne_of_none hc hd)]; exact hc) h)
theorem num_ty {H : Hp} {y : V} {n d : Int} {k : Nat} (T : Tr P w K mg base) (h : NumAt K H y n d k) : ∃ t b, TyOf K H y t ∧ PySem.W.kitOne K t (.ref (RC K)) = some b ∧ ((b = true ∧ ∃ a, y = .ref a ∧ RatAt K H a n d) ∨ (b = false ∧ y = .int n ∧ d = 1)) := by
  rcases h with ⟨rfl, rfl, _⟩ | ⟨a, rfl, r⟩
  · exact ⟨_, false, .int _, T.aI.k1, .inr ⟨rfl, rfl, rfl⟩⟩
  · obtain ⟨dx, e⟩ := r.at_
    exact ⟨_, true, T.c.ty e, kit_self, .inl ⟨rfl, a, rfl, dx, e⟩⟩
/-! ### the walks -/
theorem gcd_step {x y : Int} (hx : 0 ≤ x) (hy : 0 < y) : Int.gcd y (x % y) = Int.gcd x y := by
  obtain ⟨m, rfl⟩ := Int.eq_ofNat_of_zero_le hx
  obtain ⟨n, rfl⟩ := Int.eq_ofNat_of_zero_le (Int.le_of_lt hy)
  show Nat.gcd n ((m : Int) % (n : Int)).natAbs = Nat.gcd m n
  have e : ((m : Int) % (n : Int)).natAbs = m % n := by omega
  rw [e, Nat.gcd_comm n, ← Nat.gcd_rec, Nat.gcd_comm]
theorem gcd_abs (a b : Int) : Int.gcd (if a < 0 then -a else a) (if b < 0 then -b else b) = Int.gcd a b := by
  split <;> split <;> simp
def gcdP (a b : Int) (H : Hp) : L2.St → Hp → Prop := fun σ H' => ∃ x y : Int, σ = [some (.int x), some (.int y)] ∧ 0 ≤ x ∧ 0 ≤ y ∧ Int.gcd x y = Int.gcd a b ∧ H' = H
def gcdM : L2.St → Hp → Nat := fun σ _ => match σ with
  | [_, some (.int y)] => y.natAbs
  | _ => 0
theorem gcd_read {H : Hp} {a b : Int} {Q : VK} (q : Q (.int (Int.gcd a b)) H) :
    tSeq (tPar 0 1 (tCons (tCB (fun xs H Q => ∃ i, xs = [.int i] ∧ Q (.int (if i < 0 then -i else i)) H) (tCons (tVar 0) tNil)) (tCons (tCB (fun xs H Q => ∃ i, xs = [.int i] ∧ Q (.int (if i < 0 then -i else i)) H) (tCons (tVar 1) tNil)) tNil)))
      (tSeq (tWhile (tTest (tOp rNe (tVar 1) (tC (.int 0)))) (tPar 0 1 (tCons (tVar 1) (tCons (tOp (rI (fun _ j => 0 < j) fun i j => .int (i % j)) (tVar 0) (tVar 1)) tNil)))) (tRet (tVar 0)))
      { nx := fun _ H' => Q .non H', rt := Q } [some (.int a), some (.int b)] H := by
  refine ⟨_, rfl, _, rfl, _, rfl, _, rfl, _, _, rfl, ?_⟩
  refine while_by (gcdP a b H) gcdM ⟨_, _, rfl, by split <;> omega, by split <;> omega, gcd_abs a b, rfl⟩ ?_ ?_
  · rintro σ H' ⟨x, y, rfl, hx, hy, hg, rfl⟩
    refine ⟨_, rfl, rfl, _, rfl, ?_⟩
    rw [show (decide (V.int y = V.int 0)) = decide (y = 0) from by rw [decide_eq_decide]; exact ⟨V.int.inj, fun e => by rw [e]⟩]
    by_cases h0 : y = 0
    · rw [decide_eq_true h0]
      refine iteF ⟨_, rfl, ?_⟩
      subst h0
      have e : x = ((Int.gcd a b : Nat) : Int) := by rw [← hg, Int.gcd_zero_right]; omega
      rw [e]
      exact q
    · rw [decide_eq_false h0]
      have hy2 : 0 < y := by omega
      have m1 := Int.emod_nonneg x (show y ≠ 0 by omega)
      have m2 := Int.emod_lt_of_pos x hy2
      exact iteT ⟨_, rfl, _, rfl, _, rfl, x, y, rfl, rfl, hy2, _, _, rfl, ⟨y, x % y, rfl, hy, m1, by rw [gcd_step hx hy2, hg], rfl⟩, by show (x % y).natAbs < y.natAbs; omega⟩
  · rintro σ H' Q1 Q2 h ⟨v, e, s, k, ek, z⟩
    exact ⟨v, e, s, k, ek, h _ _ z⟩
theorem sc_common_part : FnScope ["one", "other"] (["one", "other"] : List Str) (defScope s_common_part) := ⟨rfl, rfl, rfl, by decide +kernel, rfl, by decide +kernel, by decide +kernel⟩
theorem ok_common_part (F : FnP K "common_part" s_common_part f fd) (T : Tr P w K mg base) : FnOk P w K mg base CX 1 f fd ["one", "other"] spGcd := by
  refine F.ok sc_common_part (fun vs H Q E h => ?_) (fun cdv A outer s H vs Q E hr h => ?_)
  · obtain ⟨a, b, rfl, _⟩ := h
    rfl
  · obtain ⟨a, b, rfl, q⟩ := h
    exact ⟨_, (PSs.nox (pss_cons (ps_par (i := 0) (j := 1) rfl sc_common_part.nd rfl rfl (by decide) rfl rfl (pa_cons (pe_callB call_abs (by rfl) T.m_abs PyProof.Rows.boot_abs (pa_cons (pv 0) pa_nil)) (pa_cons (pe_callB call_abs (by rfl) T.m_abs PyProof.Rows.boot_abs (pa_cons (pv 1) pa_nil)) pa_nil)) rfl) (pss_cons (ps_while PassesOwn.never (pt_cmpR op_ne (pv 1) pe_int (nomark _)) (pss_one (ps_par (i := 0) (j := 1) rfl sc_common_part.nd rfl rfl (by decide) rfl rfl (pa_cons (pv 1) (pa_cons (pe_op op_mod (pv 0) (pv 1)) pa_nil)) rfl))) (pss_one (ps_ret (pv 0)))))), gcd_read q⟩
theorem sc_is_integer : FnScope ["value"] (["value"] : List Str) (defScope s_is_integer) := ⟨rfl, rfl, rfl, by decide +kernel, rfl, by decide +kernel, by decide +kernel⟩
theorem ok_is_integer (F : FnP K "is_integer" s_is_integer f fd) (T : Tr P w K mg base) : FnOk P w K mg base CX 1 f fd ["value"] (spIsInt K) := by
  refine F.ok sc_is_integer (fun vs H Q E h => ?_) (fun cdv A outer s H vs Q E hr h => ?_)
  · obtain ⟨v, t, b1, b2, rfl, _⟩ := h
    rfl
  · obtain ⟨v, t, b1, b2, rfl, ht, h1, h2, q⟩ := h
    refine ⟨_, (PSs.nox (pss_one (ps_ret (pe_and (pe_callB call_isG (by rfl) T.m_isinstance PyProof.Rows.boot_isinstance (pa_cons (pv 0) (pa_cons (pe_bltn (v := .ty "int") (by rfl) T.m_int (by decide +kernel) rfl) pa_nil))) (pe_one (pe_not (pe_callB call_isG (by rfl) T.m_isinstance PyProof.Rows.boot_isinstance (pa_cons (pv 0) (pa_cons (pe_bltn (v := .ty "bool") (by rfl) T.m_bool (by decide +kernel) rfl) pa_nil))))))))), ?_⟩
    refine ⟨_, rfl, v, _, t, _, b1, rfl, ht, relty, h1, b1, rfl, ite2 (fun e => ?_) (fun e => ?_)⟩
    · refine ⟨_, rfl, v, _, t, _, b2, rfl, ht, relty, h2, b2, rfl, ?_⟩
      rw [e, Bool.true_and] at q
      exact q
    · rw [Bool.not_eq_true] at e
      rw [e, Bool.false_and] at q
      exact q
theorem sc_parts_of : FnScope ["number"] (["number"] : List Str) (defScope s_parts_of) := ⟨rfl, rfl, rfl, by decide +kernel, rfl, by decide +kernel, by decide +kernel⟩
theorem ok_parts_of (F : FnP K "parts_of" s_parts_of f fd) (T : Tr P w K mg base) : FnOk P w K mg base CX 1 f fd ["number"] (spParts K) := by
  refine F.ok sc_parts_of (fun vs H Q E h => ?_) (fun cdv A outer s H vs Q E hr h => ?_)
  · obtain ⟨y, n, d, k, rfl, _⟩ := h
    rfl
  · obtain ⟨y, n, d, k, rfl, hn, q⟩ := h
    refine ⟨_, (PSs.nox (pss_one (ps_ret (pe_ifExp (pt_val (pe_callB call_isG (by rfl) T.m_isinstance PyProof.Rows.boot_isinstance (pa_cons (pv 0) (pa_cons (pe_glob (v := .ref (He.ga K "Ratio")) (by rfl) T.g_Ratio rfl) pa_nil)))) (pe_tup (pa_cons (pe_fld (pv 0) rfl) (pa_cons (pe_fld (pv 0) rfl) pa_nil))) (pe_tup (pa_cons (pv 0) (pa_cons pe_int pa_nil))))))), ?_⟩
    obtain ⟨t, b, ty, kt, hb⟩ := num_ty T hn
    refine ⟨_, rfl, y, _, t, _, b, rfl, ty, relref, kt, b, rfl, ?_⟩
    rcases hb with ⟨rfl, a, rfl, r⟩ | ⟨rfl, rfl, rfl⟩
    · refine iteT ?_
      obtain ⟨dx, e⟩ := r
      exact ⟨_, rfl, a, RC K, dx, _, .int n, rfl, e, T.cl, T.na, rfl, _, rfl, a, RC K, dx, _, .int d, rfl, e, T.cl, T.nu, rfl, sl (by show 2 ≤ 1000; decide), fun p hp => q p _ (upS hp) upd_same⟩
    · refine iteF ?_
      exact ⟨_, rfl, sl (by show 2 ≤ 1000; decide), fun p hp => q p _ (upS hp) upd_same⟩
theorem sc_Ratio___init__ : FnScope ["self", "top", "bottom", "part"] (["self", "top", "bottom"] : List Str) (defScope s_Ratio___init__) := ⟨rfl, rfl, rfl, by decide +kernel, rfl, by decide +kernel, by decide +kernel⟩
theorem ok_init {fz : FuncData} (F : FunD K "__init__" "Ratio.__init__" (defArgs s_Ratio___init__) (defBody s_Ratio___init__) (defScope s_Ratio___init__) [.int 1] [] f fd) (T : Tr P w K mg base)
    (z : FnOk P w K mg base CX0 1 (He.ma K (BZ K) "__init__") fz ["self"] (spErr0 (BZ K)) ∧ Binds K fz ["self"] []) (c_common_part : Cal P w K mg base "common_part" ["one", "other"] 1 spGcd) : FnOk P w K mg base (CXL P w) 3 f fd ["self", "top", "bottom"] (spInit K) := by
  refine F.ok sc_Ratio___init__ (fun vs H Q E h => ?_) (fun cdv A outer s H vs Q E hr h => ?_)
  · obtain ⟨a, dx, t, b, rfl, _⟩ := h
    rfl
  · obtain ⟨a, dx, t, b, rfl, ha, b8, hE, q⟩ := h
    refine ⟨_, (pss_cons (ps_if (pt_cmpR op_eq (pv 2) pe_int (nomark _)) (pss_one (ps_raise rfl (takes_of rfl rfl rfl rfl) (pmk_err0 T.bz.c z.1 (hr.mono (by decide)) z.2 (by rfl) T.bz.g))) pss_nil) (pss_cons (ps_set (i := 3) sc_Ratio___init__.nd rfl (Or.inl rfl) (pe_cal c_common_part (hr.mono (by decide)) (by rfl) (pa_cons (pv 1) (pa_cons (pv 2) pa_nil)))) (pss_cons (ps_if (pt_cmpR op_lt (pv 2) pe_int (nomark _)) (pss_one (ps_set (i := 3) sc_Ratio___init__.nd rfl (Or.inl rfl) (pe_un un_neg (pv 3)))) pss_nil) (pss_cons (ps_fld (pv 0) (pe_op op_fdivZ (pv 1) (pv 3)) rfl) (pss_one (ps_fld (pv 0) (pe_op op_fdivZ (pv 2) (pv 3)) rfl)))))), ?_⟩
    refine ⟨_, rfl, rfl, _, rfl, ?_⟩
    rw [show (decide (V.int b = V.int 0)) = decide (b = 0) from by rw [decide_eq_decide]; exact ⟨V.int.inj, fun e => by rw [e]⟩]
    refine ite2 (fun e => hE (of_decide_eq_true e)) (fun e => ?_)
    have b0 : b ≠ 0 := fun z => e (decide_eq_true z)
    refine ⟨_, rfl, _, rfl, t, b, rfl, ?_⟩
    have fin : ∀ g : Int, g = (if b < 0 then -((Int.gcd t b : Nat) : Int) else ((Int.gcd t b : Nat) : Int)) →
        tSeq (sFld K (tVar 0) (tOp (rI CDivZ fun i j => .int (i.fdiv j)) (tVar 1) (tVar 3)) "above") (sFld K (tVar 0) (tOp (rI CDivZ fun i j => .int (i.fdiv j)) (tVar 2) (tVar 3)) "under") { nx := fun _ H' => Q .non H', rt := Q } [some (.ref a), some (.int t), some (.int b), some (.int g)] H := by
      intro g hg
      obtain ⟨g0, gl, d0, gc, e, l1, l2⟩ := low_terms (t := t) b0 hg
      have g9 : g.natAbs.log2 < 9000 := Nat.lt_of_lt_of_le (PySem.Flt.log2_lt_of (by decide) (Nat.lt_of_le_of_lt gl b8)) (by decide)
      refine ⟨_, rfl, _, rfl, t, g, rfl, rfl, ⟨g0, g9⟩, _, rfl, a, RC K, dx, [], rfl, ha, T.cl, T.na, by decide, ?_⟩
      refine ⟨_, rfl, _, rfl, b, g, rfl, rfl, ⟨g0, g9⟩, _, rfl, a, RC K, dx, _, rfl, upd_same, T.cl, T.nu, (by show 1 < 1000; decide), ?_⟩
      have h := q b0 _ _ d0 gc e l1 l2
      have eu : ∀ o1 o2 : HO, upd (upd H a o1) a o2 = upd H a o2 := fun o1 o2 => by
        funext x
        by_cases z : x = a
        · rw [z, upd_same, upd_same]
        · rw [upd_ne z, upd_ne z, upd_ne z]
      show Q .non (upd (upd H a _) a _)
      rw [eu]
      exact h
    refine ⟨_, rfl, _, _, rfl, rfl, _, rfl, ite2 (fun e => ?_) (fun e => ?_)⟩
    · have e2 : b < 0 := of_decide_eq_true e
      exact ⟨_, rfl, _, rfl, fin _ (by rw [if_pos e2])⟩
    · have e2 : ¬ b < 0 := fun z => e (decide_eq_true z)
      exact fin _ (by rw [if_neg e2])
/-! ### the operators as rules -/
theorem m_same {nm : Str} {g : Addr} {f' : Addr} (h : Meth K (RC K) nm f') (e : PySem.W.findIn K (.ref (RC K)) nm = some (some (.ref g))) : f' = g := by
  have z := h.at_.symm.trans e
  cases z
  rfl
end
section
variable {X : Cx}
theorem r_add (T : Tr X.prog X.w X.K X.mg X.base) (c : MCal X.prog X.w X.K X.mg X.base (RC X.K) "__add__" ["self", "other"] 5 (spBin X.K fAdd)) (hr : Room 5 X.A) : OpR X (binaryOp .Add) (rOwnL (RC X.K) (spBin X.K fAdd) E0) := by
  obtain ⟨f, fd, hm, F, hb⟩ := c.ex
  cases m_same hm T.o_add.l
  exact op_ownL (op := .Add) T.own T.o_add T.aI.ap PySem.F.fills_int_add PySem.F.slot_int_radd.lookup F hr hb passE0
theorem ri_add (T : Tr X.prog X.w X.K X.mg X.base) (c : MCal X.prog X.w X.K X.mg X.base (RC X.K) "__add__" ["self", "other"] 5 (spBin X.K fAdd)) (hr : Room 5 X.A) : OpR X (inplaceOp .Add) (rOwnL (RC X.K) (spBin X.K fAdd) E0) := by
  obtain ⟨f, fd, hm, F, hb⟩ := c.ex
  cases m_same hm T.o_add.l
  exact iop_ownL (op := .Add) T.own T.o_add T.aI.ap PySem.F.fills_int_add PySem.F.slot_int_radd.lookup (by rw [typeLookup_type, builtinLookup_eq_fast]; kernel_rfl) F hr hb passE0
theorem rr_add (T : Tr X.prog X.w X.K X.mg X.base) (c : MCal X.prog X.w X.K X.mg X.base (RC X.K) "__radd__" ["self", "other"] 6 (spBin X.K fAdd)) (hr : Room 6 X.A) : OpR X (binaryOp .Add) (rOwnR (RC X.K) (spBin X.K fAdd) E0) := by
  obtain ⟨f, fd, hm, F, hb⟩ := c.ex
  cases m_same hm T.o_add.r
  exact op_ownR (op := .Add) T.own T.o_add T.aI.ap PySem.F.fills_int_add PySem.F.slot_int_add (fun s a ox i t Q' h1 h2 h3 => PySem.W.jo_add h1 h2 h3) F hr hb passE0
theorem r_sub (T : Tr X.prog X.w X.K X.mg X.base) (c : MCal X.prog X.w X.K X.mg X.base (RC X.K) "__sub__" ["self", "other"] 5 (spBin X.K fSub)) (hr : Room 5 X.A) : OpR X (binaryOp .Sub) (rOwnL (RC X.K) (spBin X.K fSub) E0) := by
  obtain ⟨f, fd, hm, F, hb⟩ := c.ex
  cases m_same hm T.o_sub.l
  exact op_ownL (op := .Sub) T.own T.o_sub T.aI.ap PySem.F.fills_int_sub PySem.F.slot_int_rsub.lookup F hr hb passE0
theorem ri_sub (T : Tr X.prog X.w X.K X.mg X.base) (c : MCal X.prog X.w X.K X.mg X.base (RC X.K) "__sub__" ["self", "other"] 5 (spBin X.K fSub)) (hr : Room 5 X.A) : OpR X (inplaceOp .Sub) (rOwnL (RC X.K) (spBin X.K fSub) E0) := by
  obtain ⟨f, fd, hm, F, hb⟩ := c.ex
  cases m_same hm T.o_sub.l
  exact iop_ownL (op := .Sub) T.own T.o_sub T.aI.ap PySem.F.fills_int_sub PySem.F.slot_int_rsub.lookup (by rw [typeLookup_type, builtinLookup_eq_fast]; kernel_rfl) F hr hb passE0
theorem rr_sub (T : Tr X.prog X.w X.K X.mg X.base) (c : MCal X.prog X.w X.K X.mg X.base (RC X.K) "__rsub__" ["self", "other"] 6 (spBin X.K fRsub)) (hr : Room 6 X.A) : OpR X (binaryOp .Sub) (rOwnR (RC X.K) (spBin X.K fRsub) E0) := by
  obtain ⟨f, fd, hm, F, hb⟩ := c.ex
  cases m_same hm T.o_sub.r
  exact op_ownR (op := .Sub) T.own T.o_sub T.aI.ap PySem.F.fills_int_sub PySem.F.slot_int_sub (fun s a ox i t Q' h1 h2 h3 => PySem.W.jo_sub h1 h2 h3) F hr hb passE0
theorem r_mul (T : Tr X.prog X.w X.K X.mg X.base) (c : MCal X.prog X.w X.K X.mg X.base (RC X.K) "__mul__" ["self", "other"] 5 (spBin X.K fMul)) (hr : Room 5 X.A) : OpR X (binaryOp .Mult) (rOwnL (RC X.K) (spBin X.K fMul) E0) := by
  obtain ⟨f, fd, hm, F, hb⟩ := c.ex
  cases m_same hm T.o_mul.l
  exact op_ownL (op := .Mult) T.own T.o_mul T.aI.ap PySem.F.fills_int_mul PySem.F.slot_int_rmul.lookup F hr hb passE0
theorem ri_mul (T : Tr X.prog X.w X.K X.mg X.base) (c : MCal X.prog X.w X.K X.mg X.base (RC X.K) "__mul__" ["self", "other"] 5 (spBin X.K fMul)) (hr : Room 5 X.A) : OpR X (inplaceOp .Mult) (rOwnL (RC X.K) (spBin X.K fMul) E0) := by
  obtain ⟨f, fd, hm, F, hb⟩ := c.ex
  cases m_same hm T.o_mul.l
  exact iop_ownL (op := .Mult) T.own T.o_mul T.aI.ap PySem.F.fills_int_mul PySem.F.slot_int_rmul.lookup (by rw [typeLookup_type, builtinLookup_eq_fast]; kernel_rfl) F hr hb passE0
theorem rr_mul (T : Tr X.prog X.w X.K X.mg X.base) (c : MCal X.prog X.w X.K X.mg X.base (RC X.K) "__rmul__" ["self", "other"] 6 (spBin X.K fMul)) (hr : Room 6 X.A) : OpR X (binaryOp .Mult) (rOwnR (RC X.K) (spBin X.K fMul) E0) := by
  obtain ⟨f, fd, hm, F, hb⟩ := c.ex
  cases m_same hm T.o_mul.r
  exact op_ownR (op := .Mult) T.own T.o_mul T.aI.ap PySem.F.fills_int_mul PySem.F.slot_int_mul (fun s a ox i t Q' h1 h2 h3 => PySem.W.jo_mul h1 h2 h3) F hr hb passE0
theorem r_neg (T : Tr X.prog X.w X.K X.mg X.base) (c : MCal X.prog X.w X.K X.mg X.base (RC X.K) "__neg__" ["self"] 5 (spNeg X.K)) (hr : Room 5 X.A) : UnR X (unaryOp .USub) (rOwnU (RC X.K) (spNeg X.K) E0) := by
  obtain ⟨f, fd, hm, F, hb⟩ := c.ex
  exact un_own hm.at_ hm.fn F hr hb passE0
theorem r_eq (c : MCal X.prog X.w X.K X.mg X.base (RC X.K) "__eq__" ["self", "other"] 2 (spEq X.K)) (hr : Room 2 X.A) : OpR X (compareOp .Eq) (rOwnEq X.K (RC X.K) (spEq X.K) E0) := by
  obtain ⟨f, fd, hm, F, hb⟩ := c.ex
  exact op_ownEq hm.at_ hm.fn F hr hb passE0
theorem r_eqR (c : MCal X.prog X.w X.K X.mg X.base (RC X.K) "__eq__" ["self", "other"] 2 (spEq X.K)) (hr : Room 2 X.A) : OpR X (compareOp .Eq) (rOwnEqR X.K (RC X.K) (spEq X.K) E0) := by
  obtain ⟨f, fd, hm, F, hb⟩ := c.ex
  exact op_ownEqR hm.at_ hm.fn F hr hb passE0
theorem r_ne (T : Tr X.prog X.w X.K X.mg X.base) (c : MCal X.prog X.w X.K X.mg X.base (RC X.K) "__eq__" ["self", "other"] 2 (spEq X.K)) (hr : Room 3 X.A) : OpR X (compareOp .NotEq) (rOwnNe X.K (RC X.K) (spEq X.K) E0) := by
  obtain ⟨f, fd, hm, F, hb⟩ := c.ex
  exact op_ownNe T.own T.ne hm.at_ hm.fn F hr hb passE0
theorem r_str (c : MCal X.prog X.w X.K X.mg X.base (RC X.K) "__str__" ["self"] 1 (spStr X.K)) (hr : Room 3 X.A) : CallR X (.type "str") (rStrOwn (RC X.K) (spStr X.K) E0) := by
  obtain ⟨f, fd, hm, F, hb⟩ := c.ex
  exact call_strOwn hm.at_ hm.fn F hr hb passE0
end
section
variable {P : Program} {w : World} {K : PySem.W.Frag} {mg : Str → Option Value} {base : Heap} {f : Addr} {fd : FuncData} {CX : CXT}
theorem NumAt.own {H : Hp} {y : V} {n d : Int} {k : Nat} (h : NumAt K H y n d k) : (∃ i, y = .int i) ∨ ∃ b dy gs, y = .ref b ∧ H b = some (.ins (RC K) dy gs) := by
  rcases h with ⟨rfl, _⟩ | ⟨b, rfl, r⟩
  · exact .inl ⟨_, rfl⟩
  · obtain ⟨dx, e⟩ := r.at_
    exact .inr ⟨b, dx, _, rfl, e⟩
theorem res_rat {H H' : Hp} {p : Addr} {n d t b : Int} {k : Nat} (r : RatAt K H' p n d) (d0 : 0 < d) (g : Int.gcd n d = 1) (l1 : n.natAbs ≤ t.natAbs) (l2 : d.natAbs ≤ b.natAbs) (ht : t.natAbs < 2 ^ k) (hb : b.natAbs < 2 ^ k) : Rat K H' p n d k :=
  ⟨r, d0, g, Nat.lt_of_le_of_lt l1 ht, Nat.lt_of_le_of_lt l2 hb⟩
/-- up, down = parts_of(e) -/
theorem parts_read {y : V} {n d : Int} {k : Nat} {σ : L2.St} {H : Hp} {i : Nat} {D : Ends} (hv : σ[i]? = some (some y)) (h : NumAt K H y n d k) {u : TS} (q : ∀ H', Same H H' → u D ((σ.set 2 (some (.int n))).set 3 (some (.int d))) H') :
    tSeq (tAsg (tCall (spParts K) [] E0 (tCons (tVar i) tNil)) (gTup K 2 (gCons (gName 2) (gCons (gName 3) gNil)))) u D σ H :=
  ⟨y, hv, y, n, d, k, rfl, h, fun p H' s e => ⟨p, _, rfl, SqT.of e, rfl, _, _, rfl, _, _, rfl, rfl, q H' s⟩⟩
theorem sc_Ratio___add__ : FnScope ["self", "other", "up", "down"] (["self", "other"] : List Str) (defScope s_Ratio___add__) := ⟨rfl, rfl, rfl, by decide +kernel, rfl, by decide +kernel, by decide +kernel⟩
theorem ok_add (F : FnM K "__add__" "Ratio.__add__" s_Ratio___add__ f fd) (T : Tr P w K mg base) (c_parts_of : Cal P w K mg base "parts_of" ["number"] 1 (spParts K)) (k2_Ratio : KCal P w K mg base "Ratio" (RC K) ["self", "top", "bottom"] 3 (spInit K) []) :
    FnOk P w K mg base CX 5 f fd ["self", "other"] (spBin K fAdd) := by
  refine F.ok sc_Ratio___add__ (fun vs H Q E h => ?_) (fun cdv A outer s H vs Q E hr h => ?_)
  · obtain ⟨a, y, n1, d1, n2, d2, rfl, _⟩ := h
    rfl
  · obtain ⟨a, y, n1, d1, n2, d2, rfl, h1, h2, q⟩ := h
    refine ⟨_, (PSs.nox (pss_cons (ps_asg (pe_cal c_parts_of (hr.mono (by decide)) (by rfl) (pa_cons (pv 1) pa_nil)) (pg_tup rfl (pgs_cons (pg_name (i := 2) sc_Ratio___add__.nd rfl (Or.inl rfl)) (pgs_cons (pg_name (i := 3) sc_Ratio___add__.nd rfl (Or.inl rfl)) pgs_nil)))) (pss_one (ps_ret (pe_kcal k2_Ratio (hr.mono (by decide)) (by rfl) (pa_cons (pe_op op_add (pe_op op_mulW (pe_fld (pv 0) rfl) (pv 3)) (pe_op op_mulW (pv 2) (pe_fld (pv 0) rfl))) (pa_cons (pe_op op_mulW (pe_fld (pv 0) rfl) (pv 3)) pa_nil))))))), ?_⟩
    refine parts_read rfl h2 fun H1 s1 => ?_
    have hd2 := h2.bd (by decide)
    have r1 := h1.at_.ext s1
    have b0 : d1 * d2 ≠ 0 := Int.mul_ne_zero (by have := h1.pos; omega) (by have := h2.pos; omega)
    have bb := lt_mul h1.bd hd2
    refine ret_of (mk_ratio (t := n1 * d2 + n2 * d1) (b := d1 * d2) (ev_op0 (ev_op (ev_above T rfl r1) (ev_var rfl) (cm h1.bn hd2)) (ev_op (ev_var rfl) (ev_under T rfl r1) (cm h2.bn h1.bd)))
      (ev_op (ev_under T rfl r1) (ev_var rfl) (cm h1.bd hd2)) b0 (lt_up bb (by decide)) ?_)
    intro p n d H' s2 r d0 g e l1 l2
    exact q p n d H' (s1.trans s2) (res_rat (H := H) r d0 g l1 l2 (lt_up (lt_add (lt_mul h1.bn hd2) (lt_mul h2.bn h1.bd)) (by decide)) (lt_up bb (by decide))) e
theorem sc_Ratio___sub__ : FnScope ["self", "other", "up", "down"] (["self", "other"] : List Str) (defScope s_Ratio___sub__) := ⟨rfl, rfl, rfl, by decide +kernel, rfl, by decide +kernel, by decide +kernel⟩
theorem ok_sub (F : FnM K "__sub__" "Ratio.__sub__" s_Ratio___sub__ f fd) (T : Tr P w K mg base) (c_parts_of : Cal P w K mg base "parts_of" ["number"] 1 (spParts K)) (k2_Ratio : KCal P w K mg base "Ratio" (RC K) ["self", "top", "bottom"] 3 (spInit K) []) :
    FnOk P w K mg base CX 5 f fd ["self", "other"] (spBin K fSub) := by
  refine F.ok sc_Ratio___sub__ (fun vs H Q E h => ?_) (fun cdv A outer s H vs Q E hr h => ?_)
  · obtain ⟨a, y, n1, d1, n2, d2, rfl, _⟩ := h
    rfl
  · obtain ⟨a, y, n1, d1, n2, d2, rfl, h1, h2, q⟩ := h
    refine ⟨_, (PSs.nox (pss_cons (ps_asg (pe_cal c_parts_of (hr.mono (by decide)) (by rfl) (pa_cons (pv 1) pa_nil)) (pg_tup rfl (pgs_cons (pg_name (i := 2) sc_Ratio___sub__.nd rfl (Or.inl rfl)) (pgs_cons (pg_name (i := 3) sc_Ratio___sub__.nd rfl (Or.inl rfl)) pgs_nil)))) (pss_one (ps_ret (pe_kcal k2_Ratio (hr.mono (by decide)) (by rfl) (pa_cons (pe_op op_sub (pe_op op_mulW (pe_fld (pv 0) rfl) (pv 3)) (pe_op op_mulW (pv 2) (pe_fld (pv 0) rfl))) (pa_cons (pe_op op_mulW (pe_fld (pv 0) rfl) (pv 3)) pa_nil))))))), ?_⟩
    refine parts_read rfl h2 fun H1 s1 => ?_
    have hd2 := h2.bd (by decide)
    have r1 := h1.at_.ext s1
    have b0 : d1 * d2 ≠ 0 := Int.mul_ne_zero (by have := h1.pos; omega) (by have := h2.pos; omega)
    have bb := lt_mul h1.bd hd2
    refine ret_of (mk_ratio (t := n1 * d2 - n2 * d1) (b := d1 * d2) (ev_op0 (ev_op (ev_above T rfl r1) (ev_var rfl) (cm h1.bn hd2)) (ev_op (ev_var rfl) (ev_under T rfl r1) (cm h2.bn h1.bd)))
      (ev_op (ev_under T rfl r1) (ev_var rfl) (cm h1.bd hd2)) b0 (lt_up bb (by decide)) ?_)
    intro p n d H' s2 r d0 g e l1 l2
    exact q p n d H' (s1.trans s2) (res_rat (H := H) r d0 g l1 l2 (lt_up (lt_sub (lt_mul h1.bn hd2) (lt_mul h2.bn h1.bd)) (by decide)) (lt_up bb (by decide))) e
theorem sc_Ratio___mul__ : FnScope ["self", "other", "up", "down"] (["self", "other"] : List Str) (defScope s_Ratio___mul__) := ⟨rfl, rfl, rfl, by decide +kernel, rfl, by decide +kernel, by decide +kernel⟩
theorem ok_mul (F : FnM K "__mul__" "Ratio.__mul__" s_Ratio___mul__ f fd) (T : Tr P w K mg base) (c_parts_of : Cal P w K mg base "parts_of" ["number"] 1 (spParts K)) (k2_Ratio : KCal P w K mg base "Ratio" (RC K) ["self", "top", "bottom"] 3 (spInit K) []) :
    FnOk P w K mg base CX 5 f fd ["self", "other"] (spBin K fMul) := by
  refine F.ok sc_Ratio___mul__ (fun vs H Q E h => ?_) (fun cdv A outer s H vs Q E hr h => ?_)
  · obtain ⟨a, y, n1, d1, n2, d2, rfl, _⟩ := h
    rfl
  · obtain ⟨a, y, n1, d1, n2, d2, rfl, h1, h2, q⟩ := h
    refine ⟨_, (PSs.nox (pss_cons (ps_asg (pe_cal c_parts_of (hr.mono (by decide)) (by rfl) (pa_cons (pv 1) pa_nil)) (pg_tup rfl (pgs_cons (pg_name (i := 2) sc_Ratio___mul__.nd rfl (Or.inl rfl)) (pgs_cons (pg_name (i := 3) sc_Ratio___mul__.nd rfl (Or.inl rfl)) pgs_nil)))) (pss_one (ps_ret (pe_kcal k2_Ratio (hr.mono (by decide)) (by rfl) (pa_cons (pe_op op_mulW (pe_fld (pv 0) rfl) (pv 2)) (pa_cons (pe_op op_mulW (pe_fld (pv 0) rfl) (pv 3)) pa_nil))))))), ?_⟩
    refine parts_read rfl h2 fun H1 s1 => ?_
    have hd2 := h2.bd (by decide)
    have r1 := h1.at_.ext s1
    have b0 : d1 * d2 ≠ 0 := Int.mul_ne_zero (by have := h1.pos; omega) (by have := h2.pos; omega)
    have bb := lt_mul h1.bd hd2
    refine ret_of (mk_ratio (t := n1 * n2) (b := d1 * d2) (ev_op (ev_above T rfl r1) (ev_var rfl) (cm h1.bn h2.bn))
      (ev_op (ev_under T rfl r1) (ev_var rfl) (cm h1.bd hd2)) b0 (lt_up bb (by decide)) ?_)
    intro p n d H' s2 r d0 g e l1 l2
    exact q p n d H' (s1.trans s2) (res_rat (H := H) r d0 g l1 l2 (lt_up (lt_mul h1.bn h2.bn) (by decide)) (lt_up bb (by decide))) e
theorem sc_Ratio___neg__ : FnScope ["self"] (["self"] : List Str) (defScope s_Ratio___neg__) := ⟨rfl, rfl, rfl, by decide +kernel, rfl, by decide +kernel, by decide +kernel⟩
theorem ok_neg (F : FnM K "__neg__" "Ratio.__neg__" s_Ratio___neg__ f fd) (T : Tr P w K mg base) (k2_Ratio : KCal P w K mg base "Ratio" (RC K) ["self", "top", "bottom"] 3 (spInit K) []) : FnOk P w K mg base CX 5 f fd ["self"] (spNeg K) := by
  refine F.ok sc_Ratio___neg__ (fun vs H Q E h => ?_) (fun cdv A outer s H vs Q E hr h => ?_)
  · obtain ⟨a, n1, d1, k, rfl, _⟩ := h
    rfl
  · obtain ⟨a, n1, d1, k, rfl, h1, hk, q⟩ := h
    refine ⟨_, (PSs.nox (pss_one (ps_ret (pe_kcal k2_Ratio (hr.mono (by decide)) (by rfl) (pa_cons (pe_un un_neg (pe_fld (pv 0) rfl)) (pa_cons (pe_fld (pv 0) rfl) pa_nil)))))), ?_⟩
    refine ret_of (mk_ratio (t := -n1) (b := d1) (ev_un (ev_above T rfl h1.at_)) (ev_under T rfl h1.at_) (by have := h1.pos; omega) (lt_up h1.bd (Nat.le_trans hk (by decide))) ?_)
    intro p n d H' s2 r d0 g e l1 l2
    exact q p n d H' s2 (res_rat (H := H) r d0 g (by rw [Int.natAbs_neg] at l1; exact l1) l2 h1.bn h1.bd) e
theorem sc_Ratio___radd__ : FnScope ["self", "other"] (["self", "other"] : List Str) (defScope s_Ratio___radd__) := ⟨rfl, rfl, rfl, by decide +kernel, rfl, by decide +kernel, by decide +kernel⟩
theorem ok_radd (F : FnM K "__radd__" "Ratio.__radd__" s_Ratio___radd__ f fd) (T : Tr P w K mg base) (m_add : MCal P w K mg base (RC K) "__add__" ["self", "other"] 5 (spBin K fAdd)) : FnOk P w K mg base CX 6 f fd ["self", "other"] (spBin K fAdd) := by
  refine F.ok sc_Ratio___radd__ (fun vs H Q E h => ?_) (fun cdv A outer s H vs Q E hr h => ?_)
  · obtain ⟨a, y, n1, d1, n2, d2, rfl, _⟩ := h
    rfl
  · obtain ⟨a, y, n1, d1, n2, d2, rfl, h1, h2, q⟩ := h
    refine ⟨_, (PSs.nox (pss_one (ps_ret (pe_op (r_add T m_add (hr.mono (by decide))) (pv 0) (pv 1))))), ?_⟩
    obtain ⟨dx, e⟩ := h1.at_
    exact ⟨_, rfl, _, rfl, a, dx, _, rfl, e, h2.own, a, y, n1, d1, n2, d2, rfl, h1, h2, q⟩
theorem sc_Ratio___rmul__ : FnScope ["self", "other"] (["self", "other"] : List Str) (defScope s_Ratio___rmul__) := ⟨rfl, rfl, rfl, by decide +kernel, rfl, by decide +kernel, by decide +kernel⟩
theorem ok_rmul (F : FnM K "__rmul__" "Ratio.__rmul__" s_Ratio___rmul__ f fd) (T : Tr P w K mg base) (m_mul : MCal P w K mg base (RC K) "__mul__" ["self", "other"] 5 (spBin K fMul)) : FnOk P w K mg base CX 6 f fd ["self", "other"] (spBin K fMul) := by
  refine F.ok sc_Ratio___rmul__ (fun vs H Q E h => ?_) (fun cdv A outer s H vs Q E hr h => ?_)
  · obtain ⟨a, y, n1, d1, n2, d2, rfl, _⟩ := h
    rfl
  · obtain ⟨a, y, n1, d1, n2, d2, rfl, h1, h2, q⟩ := h
    refine ⟨_, (PSs.nox (pss_one (ps_ret (pe_op (r_mul T m_mul (hr.mono (by decide))) (pv 0) (pv 1))))), ?_⟩
    obtain ⟨dx, e⟩ := h1.at_
    exact ⟨_, rfl, _, rfl, a, dx, _, rfl, e, h2.own, a, y, n1, d1, n2, d2, rfl, h1, h2, q⟩
theorem sc_Ratio___rsub__ : FnScope ["self", "other"] (["self", "other"] : List Str) (defScope s_Ratio___rsub__) := ⟨rfl, rfl, rfl, by decide +kernel, rfl, by decide +kernel, by decide +kernel⟩
theorem ok_rsub (F : FnM K "__rsub__" "Ratio.__rsub__" s_Ratio___rsub__ f fd) (T : Tr P w K mg base) (m_add : MCal P w K mg base (RC K) "__add__" ["self", "other"] 5 (spBin K fAdd)) (m_neg : MCal P w K mg base (RC K) "__neg__" ["self"] 5 (spNeg K)) :
    FnOk P w K mg base CX 6 f fd ["self", "other"] (spBin K fRsub) := by
  refine F.ok sc_Ratio___rsub__ (fun vs H Q E h => ?_) (fun cdv A outer s H vs Q E hr h => ?_)
  · obtain ⟨a, y, n1, d1, n2, d2, rfl, _⟩ := h
    rfl
  · obtain ⟨a, y, n1, d1, n2, d2, rfl, h1, h2, q⟩ := h
    refine ⟨_, (PSs.nox (pss_one (ps_ret (pe_op (r_add T m_add (hr.mono (by decide))) (pe_un (r_neg T m_neg (hr.mono (by decide))) (pv 0)) (pv 1))))), ?_⟩
    obtain ⟨dx, e⟩ := h1.at_
    refine ⟨_, rfl, a, dx, _, rfl, e, a, n1, d1, 2000, rfl, h1, by decide, fun p n d H1 s1 r1 e1 => ?_⟩
    obtain ⟨dx', e'⟩ := r1.at_
    have h2' := h2.ext s1
    refine ⟨_, rfl, p, dx', _, rfl, e', h2'.own, p, y, n, d, n2, d2, rfl, r1, h2', fun p' n' d' H2 s2 r2 e2 => q p' n' d' H2 (s1.trans s2) r2 ?_⟩
    have d0 := r1.pos
    refine Int.eq_of_mul_eq_mul_left (show d ≠ 0 by omega) ?_
    have e3 : n' * (d * d2) = (n * d2 + n2 * d) * d' := e2
    show d * (n' * (d1 * d2)) = d * ((n2 * d1 - n1 * d2) * d')
    grind
theorem sc_Ratio_over : FnScope ["self", "number", "up", "down"] (["self", "number"] : List Str) (defScope s_Ratio_over) := ⟨rfl, rfl, rfl, by decide +kernel, rfl, by decide +kernel, by decide +kernel⟩
theorem ok_over (F : FnM K "over" "Ratio.over" s_Ratio_over f fd) (T : Tr P w K mg base) (c_parts_of : Cal P w K mg base "parts_of" ["number"] 1 (spParts K)) (k2_Ratio : KCal P w K mg base "Ratio" (RC K) ["self", "top", "bottom"] 3 (spInit K) []) :
    FnOk P w K mg base (CXL P w) 5 f fd ["self", "number"] (spOver K) := by
  refine F.ok sc_Ratio_over (fun vs H Q E h => ?_) (fun cdv A outer s H vs Q E hr h => ?_)
  · obtain ⟨a, y, n1, d1, n2, d2, rfl, _⟩ := h
    rfl
  · obtain ⟨a, y, n1, d1, n2, d2, rfl, h1, h2, hE, q⟩ := h
    refine ⟨_, (pss_cons (ps_asg (pe_cal c_parts_of (hr.mono (by decide)) (by rfl) (pa_cons (pv 1) pa_nil)) (pg_tup rfl (pgs_cons (pg_name (i := 2) sc_Ratio_over.nd rfl (Or.inl rfl)) (pgs_cons (pg_name (i := 3) sc_Ratio_over.nd rfl (Or.inl rfl)) pgs_nil)))) (pss_one (ps_ret (pe_kcalS (takes_of rfl rfl rfl rfl) k2_Ratio (hr.mono (by decide)) (by rfl) (pa_cons (pe_op op_mulW (pe_fld (pv 0) rfl) (pv 3)) (pa_cons (pe_op op_mulW (pe_fld (pv 0) rfl) (pv 2)) pa_nil)))))), ?_⟩
    refine parts_read rfl h2 fun H1 s1 => ?_
    have hd2 := h2.bd (by decide)
    have r1 := h1.at_.ext s1
    have bb := lt_mul h1.bd h2.bn
    refine ret_of (mk_ratioS (t := n1 * d2) (b := d1 * n2) (ev_op (ev_above T rfl r1) (ev_var rfl) (cm h1.bn hd2)) (ev_op (ev_under T rfl r1) (ev_var rfl) (cm h1.bd h2.bn)) (lt_up bb (by decide)) (fun z H' s2 => ?_) (fun b0 => ?_))
    · have z2 : n2 = 0 := (Int.mul_eq_zero.mp z).resolve_left (by have := h1.pos; omega)
      exact hE z2 H' (s1.trans s2)
    · intro p n d H' s2 r d0 g e l1 l2
      exact q (fun z => b0 (by rw [z, Int.mul_zero])) p n d H' (s1.trans s2) (res_rat (H := H) r d0 g l1 l2 (lt_up (lt_mul h1.bn hd2) (by decide)) (lt_up bb (by decide))) e
theorem sc_Ratio_below : FnScope ["self", "number", "up", "down"] (["self", "number"] : List Str) (defScope s_Ratio_below) := ⟨rfl, rfl, rfl, by decide +kernel, rfl, by decide +kernel, by decide +kernel⟩
theorem ok_below (F : FnM K "below" "Ratio.below" s_Ratio_below f fd) (T : Tr P w K mg base) (c_parts_of : Cal P w K mg base "parts_of" ["number"] 1 (spParts K)) : FnOk P w K mg base CX 2 f fd ["self", "number"] (spBelow K) := by
  refine F.ok sc_Ratio_below (fun vs H Q E h => ?_) (fun cdv A outer s H vs Q E hr h => ?_)
  · obtain ⟨a, y, n1, d1, n2, d2, rfl, _⟩ := h
    rfl
  · obtain ⟨a, y, n1, d1, n2, d2, rfl, h1, h2, q⟩ := h
    refine ⟨_, (PSs.nox (pss_cons (ps_asg (pe_cal c_parts_of (hr.mono (by decide)) (by rfl) (pa_cons (pv 1) pa_nil)) (pg_tup rfl (pgs_cons (pg_name (i := 2) sc_Ratio_below.nd rfl (Or.inl rfl)) (pgs_cons (pg_name (i := 3) sc_Ratio_below.nd rfl (Or.inl rfl)) pgs_nil)))) (pss_one (ps_ret (pe_cmpR op_lt (pe_op op_mulW (pe_fld (pv 0) rfl) (pv 3)) (pe_op op_mulW (pv 2) (pe_fld (pv 0) rfl)) (nomark _)))))), ?_⟩
    refine parts_read rfl h2 fun H1 s1 => ?_
    have hd2 := h2.bd (by decide)
    have r1 := h1.at_.ext s1
    exact ret_of (ev_op0 (ev_op (ev_above T rfl r1) (ev_var rfl) (cm h1.bn hd2)) (ev_op (ev_var rfl) (ev_under T rfl r1) (cm h2.bn h1.bd)) _ (q H1 s1))
theorem ev_eq {ta tb : TE} {σ : L2.St} {H : Hp} {i j : Int} (h1 : EvV ta σ H (.int i)) (h2 : EvV tb σ H (.int j)) : EvV (tOp rEq ta tb) σ H (.bl (decide (i = j))) := fun Q q =>
  h1 _ (h2 _ ⟨rfl, by rw [show (decide (V.int i = V.int j)) = decide (i = j) from by rw [decide_eq_decide]; exact ⟨V.int.inj, fun e => by rw [e]⟩]; exact q⟩)
theorem ev_and {ta tb : TE} {σ : L2.St} {H : Hp} {b1 b2 : Bool} (h1 : EvV ta σ H (.bl b1)) (h2 : b1 = true → EvV tb σ H (.bl b2)) : EvV (tAndV ta tb) σ H (.bl (b1 && b2)) := fun Q q =>
  h1 _ ⟨b1, rfl, by
    cases b1 with
    | true => exact iteT (h2 rfl _ q)
    | false => exact iteF q⟩
theorem sc_Ratio___eq__ : FnScope ["self", "other"] (["self", "other"] : List Str) (defScope s_Ratio___eq__) := ⟨rfl, rfl, rfl, by decide +kernel, rfl, by decide +kernel, by decide +kernel⟩
theorem ok_eq (F : FnM K "__eq__" "Ratio.__eq__" s_Ratio___eq__ f fd) (T : Tr P w K mg base) (c_is_integer : Cal P w K mg base "is_integer" ["value"] 1 (spIsInt K)) : FnOk P w K mg base CX 2 f fd ["self", "other"] (spEq K) := by
  refine F.ok sc_Ratio___eq__ (fun vs H Q E h => ?_) (fun cdv A outer s H vs Q E hr h => ?_)
  · obtain ⟨a, y, n1, d1, rfl, _⟩ := h
    rfl
  · obtain ⟨a, y, n1, d1, rfl, r1, h⟩ := h
    refine ⟨_, (PSs.nox (pss_cons (ps_if (pt_val (pe_callB call_isG (by rfl) T.m_isinstance PyProof.Rows.boot_isinstance (pa_cons (pv 1) (pa_cons (pe_glob (v := .ref (He.ga K "Ratio")) (by rfl) T.g_Ratio rfl) pa_nil)))) (pss_one (ps_ret (pe_and (pe_cmpR op_eq (pe_fld (pv 0) rfl) (pe_fld (pv 1) rfl) (nomark _)) (pe_one (pe_cmpR op_eq (pe_fld (pv 0) rfl) (pe_fld (pv 1) rfl) (nomark _)))))) pss_nil) (pss_one (ps_ret (pe_and (pe_cal c_is_integer (hr.mono (by decide)) (by rfl) (pa_cons (pv 1) pa_nil)) (pe_and (pe_cmpR op_eq (pe_fld (pv 0) rfl) pe_int (nomark _)) (pe_one (pe_cmpR op_eq (pe_fld (pv 0) rfl) (pv 1) (nomark _))))))))), ?_⟩
    rcases h with ⟨b, n2, d2, rfl, r2, q⟩ | ⟨t, b1, b2, ty, k0, k1, k2, hi, hn⟩
    · obtain ⟨dx, e⟩ := r2
      refine ⟨_, rfl, _, _, _, _, true, rfl, T.c.ty e, relref, kit_self, true, rfl, iteT ?_⟩
      have fb : ∀ {σ : L2.St} {i : Nat}, σ[i]? = some (some (.ref b)) → EvV (tFld K (tVar i) "above") σ H (.int n2) ∧ EvV (tFld K (tVar i) "under") σ H (.int d2) := fun h => ⟨ev_above T h ⟨dx, e⟩, ev_under T h ⟨dx, e⟩⟩
      exact ev_and (ev_eq (ev_above T rfl r1) (fb rfl).1) (fun _ => ev_eq (ev_under T rfl r1) (fb rfl).2) _ q
    · refine ⟨_, rfl, _, _, _, _, false, rfl, ty, relref, k0, false, rfl, iteF ?_⟩
      refine ⟨_, rfl, _, _, _, _, rfl, ty, k1, k2, (b1 && !b2), rfl, ite2 (fun e => ?_) (fun e => hn (by simpa using e))⟩
      obtain ⟨i, rfl, q⟩ := hi e
      exact ev_and (ev_eq (ev_under T rfl r1) ev_c) (fun _ => ev_eq (ev_above T rfl r1) (ev_var rfl)) _ q
theorem str_len (a b : Str) : (a ++ b).length = a.length + b.length := PySem.Str.length_append a b
theorem sl3 {n : Nat} (h : n ≤ 1921) : Str.empty.length + n ≤ sizeLine := by rw [sizeLine_eq]; show 0 + n ≤ _; omega
theorem sl3b {n : Nat} (h : n ≤ 1921) : Str.empty.length + n + ("/" : Str).length ≤ sizeLine := by rw [sizeLine_eq]; show 0 + n + 1 ≤ _; omega
theorem sl3c {n m : Nat} (h : n ≤ 1921) (h2 : m ≤ 1921) : Str.empty.length + n + ("/" : Str).length + m ≤ sizeLine := by rw [sizeLine_eq]; show 0 + n + 1 + m ≤ _; omega
theorem sc_Ratio___str__ : FnScope ["self"] (["self"] : List Str) (defScope s_Ratio___str__) := ⟨rfl, rfl, rfl, by decide +kernel, rfl, by decide +kernel, by decide +kernel⟩
theorem ok_str (F : FnM K "__str__" "Ratio.__str__" s_Ratio___str__ f fd) (T : Tr P w K mg base) : FnOk P w K mg base CX 1 f fd ["self"] (spStr K) := by
  refine F.ok sc_Ratio___str__ (fun vs H Q E h => ?_) (fun cdv A outer s H vs Q E hr h => ?_)
  · obtain ⟨a, n, d, rfl, _⟩ := h
    rfl
  · obtain ⟨a, n, d, rfl, h1, q1, q2⟩ := h
    refine ⟨_, (PSs.nox (pss_cons (ps_if (pt_cmpR op_eq (pe_fld (pv 0) rfl) pe_int (nomark _)) (pss_one (ps_ret (pe_callTy call_str_int (by rfl) T.m_str (by decide +kernel) (pa_cons (pe_fld (pv 0) rfl) pa_nil)))) pss_nil) (pss_one (ps_ret (pe_joined (PJ.cons (pe_fmt (pe_fld (pv 0) rfl)) (PJ.cons pe_str (PJ.cons (pe_fmt (pe_fld (pv 0) rfl)) PJ.nil)))))))), ?_⟩
    have ln : n.natAbs.log2 < 1920 := Nat.lt_of_lt_of_le (PySem.Flt.log2_lt_of (by decide) h1.bn) (by decide)
    have ld : d.natAbs.log2 < 1920 := Nat.lt_of_lt_of_le (PySem.Flt.log2_lt_of (by decide) h1.bd) (by decide)
    have sn := PyProof.Rows.int_text_len_1921 ln
    have sd := PyProof.Rows.int_text_len_1921 ld
    obtain ⟨dx, e⟩ := h1.at_
    refine ⟨_, rfl, a, RC K, dx, _, .int d, rfl, e, T.cl, T.nu, rfl, rfl, _, rfl, ?_⟩
    rw [show (decide (V.int d = V.int 1)) = decide (d = 1) from by rw [decide_eq_decide]; exact ⟨V.int.inj, fun e => by rw [e]⟩]
    refine ite2 (fun e1 => ?_) (fun e1 => ?_)
    · exact ⟨_, rfl, a, RC K, dx, _, .int n, rfl, e, T.cl, T.na, rfl, n, rfl, ln, q1 (of_decide_eq_true e1)⟩
    · refine ⟨_, rfl, a, RC K, dx, _, .int n, rfl, e, T.cl, T.na, rfl, .inr ⟨n, rfl, ln, _, rfl, ?_, ?_⟩⟩
      · rw [str_len]
        exact sl3 sn
      · refine ⟨_, rfl, ?_, _, rfl, a, RC K, dx, _, .int d, rfl, e, T.cl, T.nu, rfl, .inr ⟨d, rfl, ld, _, rfl, ?_, q2 fun z => e1 (decide_eq_true z)⟩⟩
        · rw [str_len, str_len]
          exact sl3b sn
        · rw [str_len, str_len, str_len]
          exact sl3c sn sd
theorem sc_Ratio_top : FnScope ["self"] (["self"] : List Str) (defScope s_Ratio_top) := ⟨rfl, rfl, rfl, by decide +kernel, rfl, by decide +kernel, by decide +kernel⟩
theorem ok_get_top (F : FnM K "top" "Ratio.top" s_Ratio_top f fd) (T : Tr P w K mg base) : FnOk P w K mg base CX 1 f fd ["self"] (getSp (RC K) "above") := by
  refine F.ok sc_Ratio_top (fun vs H Q E h => ?_) (fun cdv A outer s H vs Q E hr h => ?_)
  · obtain ⟨a, dx, fs, v, rfl, _⟩ := h
    rfl
  · obtain ⟨a, dx, fs, v, rfl, e, l, q⟩ := h
    exact ⟨_, (PSs.nox (pss_one (ps_ret (pe_fld (pv 0) rfl)))), _, rfl, a, RC K, dx, fs, v, rfl, e, T.cl, T.na, l, q⟩
theorem sc_Ratio_bottom : FnScope ["self"] (["self"] : List Str) (defScope s_Ratio_bottom) := ⟨rfl, rfl, rfl, by decide +kernel, rfl, by decide +kernel, by decide +kernel⟩
theorem ok_get_bottom (F : FnM K "bottom" "Ratio.bottom" s_Ratio_bottom f fd) (T : Tr P w K mg base) : FnOk P w K mg base CX 1 f fd ["self"] (getSp (RC K) "under") := by
  refine F.ok sc_Ratio_bottom (fun vs H Q E h => ?_) (fun cdv A outer s H vs Q E hr h => ?_)
  · obtain ⟨a, dx, fs, v, rfl, _⟩ := h
    rfl
  · obtain ⟨a, dx, fs, v, rfl, e, l, q⟩ := h
    exact ⟨_, (PSs.nox (pss_one (ps_ret (pe_fld (pv 0) rfl)))), _, rfl, a, RC K, dx, fs, v, rfl, e, T.cl, T.nu, l, q⟩
end
end K02

set_option Elab.async false
set_option linter.all false
set_option maxRecDepth 100000
set_option maxHeartbeats 4000000
namespace K02
open PySem PySem.Spec PyProof.Rows L2 J
/-! ### cell, box, take: walked -/
section
variable {P : Program} {w : World} {K : PySem.W.Frag} {mg : Str → Option Value} {base : Heap} {f : Addr} {fd : FuncData}
theorem b01 (b : Bool) : (0 : Int) ≤ (if b = true then 1 else 0) ∧ (if b = true then (1 : Int) else 0) ≤ 1 := by cases b <;> decide
theorem b01r (b : Bool) : -(2 : Int) ^ 64 < (if b = true then 1 else 0) ∧ (if b = true then (1 : Int) else 0) < (2 : Int) ^ 64 := ⟨Int.lt_of_lt_of_le (by decide) (b01 b).1, Int.lt_of_le_of_lt (b01 b).2 (by decide)⟩
theorem scCell : FnScope ["_law_script", "_law_k"] ["_law_script", "_law_k"] (defScope s__law_cell) := ⟨rfl, rfl, rfl, by decide +kernel, rfl, by decide +kernel, by decide +kernel⟩
theorem ok_cell (F : FnP K "_law_cell" s__law_cell f fd) (mL : mg "len" = none) : FnOk P w K mg base CX0 1 f fd ["_law_script", "_law_k"] (spCellL K) := by
  refine F.ok scCell (fun vs H Q E h => ?_) (fun cdv A outer s H vs Q E hr h => ?_)
  · obtain ⟨a, ns, k, rfl, _⟩ := h
    rfl
  · obtain ⟨a, ns, k, rfl, hS, hn, h0, hk, q⟩ := h
    refine ⟨_, PSs.nox (pss_cons (ps_if (pt_cmpR op_lt (pv 1) (pe_callB call_len (by rfl) mL PySem.boot_len (pa_cons (pv 0) pa_nil)) (nomark _)) (pss_one (ps_ret (pe_ix ix_list (pv 0) (pv 1) (fun _ _ => rfl)))) pss_nil)
      (pss_one (ps_ret (pe_op op_add (pe_op op_mul pe_int (pv 1)) pe_int)))), ?_⟩
    refine ⟨_, rfl, _, rfl, .ref a, (ns.map V.int).length, rfl, Or.inl ⟨_, hS, rfl⟩, _, _, rfl, rfl, _, rfl, ?_⟩
    refine ite2 (fun h1 => ?_) (fun h1 => ?_)
    · have h2 : k < ((ns.map V.int).length : Nat) := of_decide_eq_true h1
      obtain ⟨j, rfl⟩ : ∃ j : Nat, k = (j : Int) := ⟨k.toNat, by omega⟩
      rw [List.length_map] at h2
      have h3 : j < ns.length := by omega
      exact ⟨_, rfl, _, rfl, a, _, _, _, rfl, rfl, hS, atI_nat (by rw [List.getElem?_map, List.getElem?_eq_getElem h3]; rfl), q _⟩
    · exact ⟨_, rfl, _, _, rfl, rfl, Or.inr ⟨by omega, by omega⟩, _, _, rfl, rfl, q _⟩
theorem scBox : FnScope ["_law_cell_here"] ["_law_cell_here"] (defScope s__law_box) := ⟨rfl, rfl, rfl, by decide +kernel, rfl, by decide +kernel, by decide +kernel⟩
theorem ok_box (F : FnP K "_law_box" s__law_box f fd) (mA : mg "abs" = none) (mI : mg "int" = none) : FnOk P w K mg base CX0 1 f fd ["_law_cell_here"] spBoxL := by
  refine F.ok scBox (fun vs H Q E h => ?_) (fun cdv A outer s H vs Q E hr h => ?_)
  · obtain ⟨i, rfl, _⟩ := h
    rfl
  · obtain ⟨i, rfl, q⟩ := h
    refine ⟨_, PSs.nox (pss_one (ps_ret (pe_lst (pa_cons
        (pe_op op_mul (pe_callB call_abs (by rfl) mA PyProof.Rows.boot_abs (pa_cons (pv 0) pa_nil))
          (pe_callTy call_int1 (by rfl) mI (by decide +kernel) (pa_cons (pe_cmpR op_ge (pe_callB call_abs (by rfl) mA PyProof.Rows.boot_abs (pa_cons (pv 0) pa_nil)) (pe_op op_pow pe_int pe_int) (nomark _)) pa_nil)))
      (pa_cons (pe_op op_add (pe_op op_mod (pe_callTy call_int1 (by rfl) mI (by decide +kernel) (pa_cons (pe_callB call_abs (by rfl) mA PyProof.Rows.boot_abs (pa_cons (pv 0) pa_nil)) pa_nil)) pe_int)
          (pe_callTy call_int1 (by rfl) mI (by decide +kernel) (pa_cons (pe_cmpR op_lt (pv 0) pe_int (nomark _)) pa_nil)))
      (pa_cons pe_int pa_nil)))))), ?_⟩
    refine ⟨_, rfl, _, rfl, _, rfl, _, rfl, _, _, rfl, rfl, ⟨by decide, by decide, by decide⟩, _, _, rfl, rfl, Or.inr ⟨_, rfl, _, _, rfl, rfl, Or.inr ?_, ?_⟩⟩
    · exact b01r _
    refine ⟨_, rfl, _, rfl, Or.inl ⟨_, rfl, _, _, rfl, rfl, (by show (0 : Int) < 2147483629; decide), _, rfl, _, _, rfl, rfl, Or.inr ⟨_, rfl, _, _, rfl, rfl, ?_⟩⟩⟩
    refine ⟨(by show 3 ≤ sizeLine; decide), fun p hp => ?_⟩
    refine q p _ hp ⟨_, _, _, upd_same, ?_, ?_, ?_, by decide, by decide⟩ fun z hz => upd_ne hz
    · exact Int.mul_nonneg (by split <;> omega) (b01 _).1
    · have h1 := Int.emod_nonneg (if i < 0 then -i else i) (show (2147483629 : Int) ≠ 0 by decide)
      have h2 := b01 (decide (i < 0))
      exact Int.add_nonneg h1 h2.1
    · have h1 := Int.emod_lt_of_pos (if i < 0 then -i else i) (show (0 : Int) < 2147483629 by decide)
      have h2 := b01 (decide (i < 0))
      refine Int.lt_of_lt_of_le (Int.add_lt_add_of_lt_of_le h1 h2.2) (by decide)
theorem scTake : FnScope ["_law_box_here", "_law_many", "_law_digit", "_law_mixed"] ["_law_box_here", "_law_many"] (defScope s__law_take) := ⟨rfl, rfl, rfl, by decide +kernel, rfl, by decide +kernel, by decide +kernel⟩
theorem ok_take (F : FnP K "_law_take" s__law_take f fd) (mI : mg "int" = none) : FnOk P w K mg base CX0 1 f fd ["_law_box_here", "_law_many"] spTakeL := by
  refine F.ok scTake (fun vs H Q E h => ?_) (fun cdv A outer s H vs Q E hr h => ?_)
  · obtain ⟨p, m, n, rfl, _⟩ := h
    rfl
  · obtain ⟨p, m, n, rfl, ⟨a, b, c, hp, ha, hb0, hb1, hc0, hc1⟩, hn, hm0, hm1, q⟩ := h
    refine ⟨_, PSs.nox (pss_cons (ps_if (pt_cmpR op_gt (pe_ix ix_list (pv 0) pe_int (fun _ _ => rfl)) pe_int (nomark _))
        (pss_cons (ps_set (i := 2) scTake.nd rfl (Or.inl rfl) (pe_op op_mod (pe_callTy call_int1 (by rfl) mI (by decide +kernel) (pa_cons (pe_ix ix_list (pv 0) pe_int (fun _ _ => rfl)) pa_nil)) (pv 1)))
        (pss_cons (ps_asg (pe_op op_fdivW (pe_ix ix_list (pv 0) pe_int (fun _ _ => rfl)) (pv 1)) (pg_sub (pv 0) pe_int set_list))
        (pss_one (ps_ret (pv 2))))) pss_nil)
      (pss_cons (ps_asg (pe_op op_add (pe_ix ix_list (pv 0) pe_int (fun _ _ => rfl)) pe_int) (pg_sub (pv 0) pe_int set_list))
      (pss_cons (ps_set (i := 3) scTake.nd rfl (Or.inl rfl) (pe_op op_mod (pe_op op_pow (pe_callTy call_int1 (by rfl) mI (by decide +kernel) (pa_cons
          (pe_op op_add (pe_op op_add (pe_ix ix_list (pv 0) pe_int (fun _ _ => rfl)) (pe_op op_mul pe_int (pe_ix ix_list (pv 0) pe_int (fun _ _ => rfl)))) pe_int) pa_nil)) pe_int) pe_int))
      (pss_cons (ps_set (i := 3) scTake.nd rfl (Or.inl rfl) (pe_op op_mod (pe_op op_pow (pe_callTy call_int1 (by rfl) mI (by decide +kernel) (pa_cons
          (pe_op op_add (pe_op op_add (pe_op op_fdiv (pv 3) pe_int) (pe_op op_mul pe_int (pe_ix ix_list (pv 0) pe_int (fun _ _ => rfl)))) (pe_ix ix_list (pv 0) pe_int (fun _ _ => rfl))) pa_nil)) pe_int) pe_int))
      (pss_one (ps_ret (pe_op op_mod (pe_op op_fdiv (pv 3) pe_int) (pv 1)))))))), ?_⟩
    refine ⟨_, rfl, p, _, 0, _, rfl, rfl, SqL.of hp, rfl, _, _, rfl, rfl, _, rfl, ?_⟩
    refine ite2 (fun h1 => ?_) (fun h1 => ?_)
    · have h2 : 0 < a := of_decide_eq_true h1
      refine ⟨_, rfl, p, _, 0, _, rfl, rfl, SqL.of hp, rfl, Or.inl ⟨_, rfl, _, rfl, _, _, rfl, rfl, hm0, ?_⟩⟩
      refine ⟨_, rfl, p, _, 0, _, rfl, rfl, SqL.of hp, rfl, _, rfl, _, _, rfl, rfl, ⟨hm0, log_lt hm0 hm1⟩, _, rfl, p, _, 0, 0, rfl, rfl, hp, rfl, ?_⟩
      refine ⟨_, rfl, q _ _ (Int.emod_nonneg _ (by omega)) (Int.emod_lt_of_pos _ hm0) ⟨a / m, b, c, upd_same, Int.ediv_nonneg ha (by omega), hb0, hb1, hc0, by omega⟩ fun z hz => upd_ne hz⟩
    · refine ⟨_, rfl, p, _, 2, _, rfl, rfl, SqL.of hp, rfl, _, _, rfl, rfl, _, rfl, p, _, 2, 2, rfl, rfl, hp, rfl, ?_⟩
      have hp2 : upd H p (.lst [.int a, .int b, .int (c + 1)]) p = some (.lst [.int a, .int b, .int (c + 1)]) := upd_same
      have b0 : 0 ≤ b + 48271 * (c + 1) + 11 := by omega
      have b1 : b + 48271 * (c + 1) + 11 < 2 ^ 60 := by omega
      refine ⟨_, rfl, p, _, 1, _, rfl, rfl, SqL.of hp2, rfl, _, rfl, p, _, 2, _, rfl, rfl, SqL.of hp2, rfl, _, _, rfl, rfl, Or.inl ⟨by decide, by decide⟩, _, _, rfl, rfl, _, _, rfl, rfl, Or.inl ⟨_, rfl, _, _, rfl, rfl, ⟨by decide, by decide, by omega⟩, _, _, rfl, rfl, (by show (0 : Int) < 2147483647; decide), ?_⟩⟩
      generalize hx : (b + 48271 * (c + 1) + 11) ^ (5 : Int).toNat % 2147483647 = x
      have x0 : 0 ≤ x := by rw [← hx]; exact Int.emod_nonneg _ (by decide)
      have x1 : x < 2147483647 := by rw [← hx]; exact Int.emod_lt_of_pos _ (by decide)
      have y0 : 0 ≤ x / 8 := Int.ediv_nonneg x0 (by decide)
      have y1 : x / 8 ≤ x := Int.ediv_le_self _ x0
      refine ⟨_, rfl, _, _, rfl, rfl, ⟨by decide, by decide⟩, _, rfl, p, _, 2, _, rfl, rfl, SqL.of hp2, rfl, _, _, rfl, rfl, Or.inl ⟨by decide, by decide⟩, _, _, rfl, rfl, _, rfl, p, _, 1, _, rfl, rfl, SqL.of hp2, rfl, _, _, rfl, rfl, Or.inl ⟨_, rfl, _, _, rfl, rfl, ⟨by decide, by decide, by omega⟩, _, _, rfl, rfl, (by show (0 : Int) < 2147483587; decide), ?_⟩⟩
      refine ⟨_, rfl, _, _, rfl, rfl, ⟨by decide, by decide⟩, _, rfl, _, _, rfl, rfl, hm0, ?_⟩
      exact q _ _ (Int.emod_nonneg _ (by omega)) (Int.emod_lt_of_pos _ hm0) ⟨a, b, c + 1, hp2, ha, hb0, hb1, by omega, by omega⟩ fun z hz => upd_ne hz
end
/-! ### the law's own defs -/
/-- p holds a/b -/
def Of (K : PySem.W.Frag) (H : Hp) (p : Addr) (a b : Int) : Prop := ∃ n d, Rat K H p n d 200 ∧ n * b = a * d
theorem Of.ext {K : PySem.W.Frag} {H H' : Hp} {p : Addr} {a b : Int} (h : Of K H p a b) (k : Same H H') : Of K H' p a b := let ⟨n, d, r, e⟩ := h; ⟨n, d, r.ext k, e⟩
def spInteger : Sp := fun vs H Q _ => ∃ p n, vs = [.ref p] ∧ BoxAt H p n ∧ n < 900000 ∧ ∀ (i : Int) (H' : Hp), i.natAbs < 2 ^ 98 → BoxAt H' p (n + 3) → (∀ G, Same G H → G p = none → Same G H') → Q (.int i) H'
def spLawIs (K : PySem.W.Frag) : Sp := fun vs H Q _ => ∃ p n d t u, vs = [.ref p, .int t, .int u] ∧ Rat K H p n d 8000 ∧ t.natAbs < 2 ^ 8000 ∧ u.natAbs < 2 ^ 8000 ∧ n * u = t * d ∧ Q (.bl true) H
def spTwo (K : PySem.W.Frag) : Sp := fun vs H Q _ => ∃ p q a b c d, vs = [.ref p, .ref q, .int a, .int b, .int c, .int d] ∧ Of K H p a b ∧ Of K H q c d ∧ b ≠ 0 ∧ d ≠ 0 ∧ a.natAbs < 2 ^ 200 ∧ b.natAbs < 2 ^ 200 ∧ c.natAbs < 2 ^ 200 ∧ d.natAbs < 2 ^ 200 ∧
  ∀ H', Same H H' → Q (.bl true) H'
def spInts (K : PySem.W.Frag) : Sp := fun vs H Q _ => ∃ p a b m, vs = [.ref p, .int a, .int b, .int m] ∧ Of K H p a b ∧ b ≠ 0 ∧ a.natAbs < 2 ^ 200 ∧ b.natAbs < 2 ^ 200 ∧ m.natAbs < 2 ^ 200 ∧ ∀ H', Same H H' → Q (.bl true) H'
def spNoQ (K : PySem.W.Frag) : Sp := fun vs H Q _ => ∃ t p a b, vs = [.int t, .ref p] ∧ Of K H p a b ∧ t.natAbs < 2 ^ 200 ∧ ∀ H', Same H H' → Q (.bl true) H'
def spLaw (K : PySem.W.Frag) : Sp := fun vs H Q _ => ∃ (a : Addr) (ns : List Int), vs = [.ref a] ∧ SqL K H a (ns.map V.int) ∧ ns.length ≤ 63 ∧ ∀ H', Q (.bl true) H'
section
variable {P : Program} {w : World} {K : PySem.W.Frag} {mg : Str → Option Value} {base : Heap} {f : Addr} {fd : FuncData} {CX : CXT}
theorem at4 {x y z u : V} {r : Int} (h0 : 0 ≤ r) (h1 : r < 4) : ∃ v, atI [x, y, z, u] r = some v ∧ (v = x ∨ v = y ∨ v = z ∨ v = u) := by
  obtain ⟨j, rfl⟩ : ∃ j : Nat, r = (j : Int) := ⟨r.toNat, by omega⟩
  have hj : j < 4 := by omega
  have : j = 0 ∨ j = 1 ∨ j = 2 ∨ j = 3 := by omega
  rcases this with rfl | rfl | rfl | rfl
  · exact ⟨x, atI_nat rfl, .inl rfl⟩
  · exact ⟨y, atI_nat rfl, .inr (.inl rfl)⟩
  · exact ⟨z, atI_nat rfl, .inr (.inr (.inl rfl))⟩
  · exact ⟨u, atI_nat rfl, .inr (.inr (.inr rfl))⟩
theorem sc__law_integer : FnScope ["_law_box_here", "_law_size"] (["_law_box_here"] : List Str) (defScope s__law_integer) := ⟨rfl, rfl, rfl, by decide +kernel, rfl, by decide +kernel, by decide +kernel⟩
theorem ok__law_integer (F : FnP K "_law_integer" s__law_integer f fd) (T : Tr P w K mg base) (c__law_take : Cal P w K mg base "_law_take" ["_law_box_here", "_law_many"] 1 spTakeL) : FnOk P w K mg base CX 2 f fd ["_law_box_here"] spInteger := by
  refine F.ok sc__law_integer (fun vs H Q E h => ?_) (fun cdv A outer s H vs Q E hr h => ?_)
  · obtain ⟨p, n, rfl, _⟩ := h
    rfl
  · obtain ⟨p, n, rfl, hb, hn, q⟩ := h
    refine ⟨_, (PSs.nox (pss_cons (ps_set (i := 1) sc__law_integer.nd rfl (Or.inl rfl) (pe_ix ix_list (pe_lst (pa_cons pe_int (pa_cons pe_int (pa_cons (pe_op op_pow pe_int pe_int) (pa_cons (pe_op op_pow pe_int pe_int) pa_nil))))) (pe_cal c__law_take (hr.mono (by decide)) (by rfl) (pa_cons (pv 0) (pa_cons pe_int pa_nil))) (fun _ _ => rfl))) (pss_one (ps_ret (pe_op op_mulW (pe_cal c__law_take (hr.mono (by decide)) (by rfl) (pa_cons (pv 0) (pa_cons (pv 1) pa_nil))) (pe_ix ix_list (pe_lst (pa_cons pe_int (pa_cons (pe_un un_neg pe_int) (pa_cons pe_int (pa_cons pe_int pa_nil))))) (pe_cal c__law_take (hr.mono (by decide)) (by rfl) (pa_cons (pv 0) (pa_cons pe_int pa_nil))) (fun _ _ => rfl))))))), ?_⟩
    refine ⟨10, 15, rfl, rfl, ⟨by decide, by decide, by decide⟩, 10, 29, rfl, rfl, ⟨by decide, by decide, by decide⟩, sl (by show 4 ≤ 1000; decide), fun l1 n1 => ?_⟩
    have B1 := hb.ext (upS (o := .lst [.int 10, .int 1000, .int ((10 : Int) ^ (15 : Int).toNat), .int ((10 : Int) ^ (29 : Int).toNat)]) n1)
    refine ⟨_, rfl, p, 4, n, rfl, B1, by omega, by decide, by decide, fun r H1 r0 r1 B2 k1 => ?_⟩
    have nl1 : l1 ≠ p := hb.ne n1
    obtain ⟨v, hv, hv4⟩ := at4 (x := .int 10) (y := .int 1000) (z := .int ((10 : Int) ^ (15 : Int).toNat)) (u := .int ((10 : Int) ^ (29 : Int).toNat)) r0 r1
    obtain ⟨m, rfl, m0, m1⟩ : ∃ m : Int, v = .int m ∧ 0 < m ∧ m ≤ 10 ^ 29 := by
      rcases hv4 with rfl | rfl | rfl | rfl
      · exact ⟨_, rfl, by decide, by decide⟩
      · exact ⟨_, rfl, by decide, by decide⟩
      · exact ⟨_, rfl, by decide, by decide⟩
      · exact ⟨_, rfl, by decide, by decide⟩
    refine ⟨l1, _, r, .int m, rfl, rfl, SqL.of (by rw [k1 l1 nl1, upd_same]), hv, ?_⟩
    refine ⟨_, rfl, _, rfl, p, m, n + 1, rfl, B2, by omega, m0, Int.lt_of_le_of_lt m1 (by decide), fun i H2 i0 i1 B3 k2 => ?_⟩
    refine ⟨1, rfl, sl (by show 4 ≤ 1000; decide), fun l2 n2 => ?_⟩
    have B4 := B3.ext (upS (o := .lst [.int 1, .int (-1), .int 1, .int 0]) n2)
    refine ⟨_, rfl, p, 4, n + 1 + 1, rfl, B4, by omega, by decide, by decide, fun r' H3 r0' r1' B5 k3 => ?_⟩
    have nl2 : l2 ≠ p := B3.ne n2
    obtain ⟨v', hv', hv4'⟩ := at4 (x := .int 1) (y := .int (-1)) (z := .int 1) (u := .int 0) r0' r1'
    obtain ⟨g, rfl, g0, g1⟩ : ∃ g : Int, v' = .int g ∧ -1 ≤ g ∧ g ≤ 1 := by
      rcases hv4' with rfl | rfl | rfl | rfl
      · exact ⟨_, rfl, by decide, by decide⟩
      · exact ⟨_, rfl, by decide, by decide⟩
      · exact ⟨_, rfl, by decide, by decide⟩
      · exact ⟨_, rfl, by decide, by decide⟩
    refine ⟨l2, _, r', .int g, rfl, rfl, SqL.of (by rw [k3 l2 nl2, upd_same]), hv', ?_⟩
    have hi : i.natAbs < 2 ^ 97 := by
      have : (10 : Int) ^ 29 < 2 ^ 97 := by decide
      omega
    have hg : g.natAbs < 2 ^ 1 := by omega
    refine ⟨i, g, rfl, rfl, cm hi hg, q _ H3 (lt_mul hi hg) (by have := B5; rwa [show n + 1 + 1 + 1 = n + 3 from by omega] at this) fun G hG hp => ?_⟩
    have s2 := keep_off (hG.trans (upS n1)) hp k1
    have s3 := keep_off s2 hp k2
    exact keep_off (s3.trans (upS n2)) hp k3
theorem sc__law_common : FnScope ["_law_one", "_law_other"] (["_law_one", "_law_other"] : List Str) (defScope s__law_common) := ⟨rfl, rfl, rfl, by decide +kernel, rfl, by decide +kernel, by decide +kernel⟩
theorem ok__law_common (F : FnP K "_law_common" s__law_common f fd) (T : Tr P w K mg base) : FnOk P w K mg base CX 1 f fd ["_law_one", "_law_other"] spGcd := by
  refine F.ok sc__law_common (fun vs H Q E h => ?_) (fun cdv A outer s H vs Q E hr h => ?_)
  · obtain ⟨a, b, rfl, _⟩ := h
    rfl
  · obtain ⟨a, b, rfl, q⟩ := h
    exact ⟨_, (PSs.nox (pss_cons (ps_par (i := 0) (j := 1) rfl sc__law_common.nd rfl rfl (by decide) rfl rfl (pa_cons (pe_callB call_abs (by rfl) T.m_abs PyProof.Rows.boot_abs (pa_cons (pv 0) pa_nil)) (pa_cons (pe_callB call_abs (by rfl) T.m_abs PyProof.Rows.boot_abs (pa_cons (pv 1) pa_nil)) pa_nil)) rfl) (pss_cons (ps_while PassesOwn.never (pt_cmpR op_ne (pv 1) pe_int (nomark _)) (pss_one (ps_par (i := 0) (j := 1) rfl sc__law_common.nd rfl rfl (by decide) rfl rfl (pa_cons (pv 1) (pa_cons (pe_op op_mod (pv 0) (pv 1)) pa_nil)) rfl))) (pss_one (ps_ret (pv 0)))))), gcd_read q⟩
theorem ev_prop {σ : L2.St} {H : Hp} {i : Nat} {a : Addr} {n d : Int} (hv : σ[i]? = some (some (.ref a))) (h : RatAt K H a n d) : EvV (tProp (RC K) (getSp (RC K) "above") [] E0 (tVar i)) σ H (.int n) ∧ EvV (tProp (RC K) (getSp (RC K) "under") [] E0 (tVar i)) σ H (.int d) := by
  obtain ⟨dx, e⟩ := h
  exact ⟨fun Q q => ⟨_, hv, a, dx, _, rfl, e, a, dx, _, .int n, rfl, e, rfl, q⟩, fun Q q => ⟨_, hv, a, dx, _, rfl, e, a, dx, _, .int d, rfl, e, rfl, q⟩⟩
theorem no_is {te : TE} {σ : L2.St} {H : Hp} {v c : V} {t cv : Value} {Q : Bool → Hp → Prop} (h : EvV te σ H v) (ty : TyOf K H v t) (rc : ∀ u, RelV c u → u = cv) (k : PySem.W.kitOne K t cv = some true) (q : Q false H) :
    tNot (tB (tCB (rIsG K) (tCons te (tCons (tC c) tNil)))) σ H Q := h _ ⟨v, c, t, cv, true, rfl, ty, rc, k, true, rfl, q⟩
theorem seq_if {c : TT} {t u v : TS} {D : Ends} {σ : L2.St} {H : Hp} (h : c σ H fun b H1 => if b = true then t { D with nx := v D } σ H1 else u { D with nx := v D } σ H1) : tSeq (tIfS c t u) v D σ H := h
theorem if_of {c : TT} {t u : TS} {D : Ends} {σ : L2.St} {H : Hp} (h : c σ H fun b H1 => if b = true then t D σ H1 else u D σ H1) : tIfS c t u D σ H := h
theorem or_of {t u : TT} {σ : L2.St} {H : Hp} {Q : Bool → Hp → Prop} (h : t σ H fun c H1 => if c = true then Q true H1 else u σ H1 Q) : tOr t u σ H Q := h
theorem test_op {r : R2} {ta tb : TE} {σ : L2.St} {H : Hp} {x y : V} {Q : Bool → Hp → Prop} (h1 : EvV ta σ H x) (h2 : EvV tb σ H y) (q : r x y H fun z H' => ∃ k, z = .bl k ∧ Q k H') : tTest (tOp r ta tb) σ H Q := h1 _ (h2 _ q)
theorem no_if {c : TT} {A B : Hp → Prop} {σ : L2.St} {H : Hp} (h : ∀ Q' : Bool → Hp → Prop, (∀ H', Same H H' → Q' false H') → c σ H Q') (k : ∀ H', Same H H' → A H') : c σ H (fun b H1 => if b = true then B H1 else A H1) := h _ fun H' s => iteF (k H' s)
theorem seq_of {t u : TS} {D : Ends} {σ : L2.St} {H : Hp} (h : t { D with nx := u D } σ H) : tSeq t u D σ H := h
theorem drop_of {te : TE} {D : Ends} {σ : L2.St} {H : Hp} (h : te σ H fun _ H1 => D.nx σ H1) : tDrop te D σ H := h
theorem next_of {D : Ends} {σ : L2.St} {H : Hp} (h : D.nx σ H) : tNext D σ H := h
theorem iteN {A : Prop} {D : Ends} {σ : L2.St} {H : Hp} (h : D.nx σ H) : if false = true then A else tNext D σ H := iteF h
theorem kit_ii : PySem.W.kitOne K (.type "int") (.type "int") = some true := by unfold PySem.W.kitOne; rw [if_pos (by simp)]
theorem sc__law_is : FnScope ["_law_ratio", "_law_top", "_law_under"] (["_law_ratio", "_law_top", "_law_under"] : List Str) (defScope s__law_is) := ⟨rfl, rfl, rfl, by decide +kernel, rfl, by decide +kernel, by decide +kernel⟩
theorem ok__law_is (F : FnP K "_law_is" s__law_is f fd) (T : Tr P w K mg base) (c__law_common : Cal P w K mg base "_law_common" ["_law_one", "_law_other"] 1 spGcd) (p_top : PCal P w K mg base (RC K) "top" 1 (getSp (RC K) "above")) (p_bottom : PCal P w K mg base (RC K) "bottom" 1 (getSp (RC K) "under")) :
    FnOk P w K mg base CX 3 f fd ["_law_ratio", "_law_top", "_law_under"] (spLawIs K) := by
  refine F.ok sc__law_is (fun vs H Q E h => ?_) (fun cdv A outer s H vs Q E hr h => ?_)
  · obtain ⟨p, n, d, t, u, rfl, _⟩ := h
    rfl
  · obtain ⟨p, n, d, t, u, rfl, hr1, ht, hu, e, q⟩ := h
    refine ⟨_, (PSs.nox (pss_cons (ps_if (PW.pt (pw_or (pt_not (pt_val (pe_callB call_isG (by rfl) T.m_isinstance PyProof.Rows.boot_isinstance (pa_cons (pv 0) (pa_cons (pe_glob (v := .ref (He.ga K "Ratio")) (by rfl) T.g_Ratio rfl) pa_nil))))) (pw_or (pt_not (pt_val (pe_callB call_isG (by rfl) T.m_isinstance PyProof.Rows.boot_isinstance (pa_cons (pe_pcal p_top T.cl (hr.mono (by decide)) (pv 0)) (pa_cons (pe_bltn (v := .ty "int") (by rfl) T.m_int (by decide +kernel) rfl) pa_nil))))) (pw_or1 (pt_not (pt_val (pe_callB call_isG (by rfl) T.m_isinstance PyProof.Rows.boot_isinstance (pa_cons (pe_pcal p_bottom T.cl (hr.mono (by decide)) (pv 0)) (pa_cons (pe_bltn (v := .ty "int") (by rfl) T.m_int (by decide +kernel) rfl) pa_nil))))))))) (pss_one (ps_ret pe_bl)) pss_nil) (pss_cons (ps_if (PW.pt (pw_or (pt_cmpR op_lt (pe_pcal p_bottom T.cl (hr.mono (by decide)) (pv 0)) pe_int (nomark _)) (pw_or1 (pt_cmpR op_ne (pe_cal c__law_common (hr.mono (by decide)) (by rfl) (pa_cons (pe_pcal p_top T.cl (hr.mono (by decide)) (pv 0)) (pa_cons (pe_pcal p_bottom T.cl (hr.mono (by decide)) (pv 0)) pa_nil))) pe_int (nomark _))))) (pss_one (ps_ret pe_bl)) pss_nil) (pss_one (ps_ret (pe_cmpR op_eq (pe_op op_mulW (pe_pcal p_top T.cl (hr.mono (by decide)) (pv 0)) (pv 2)) (pe_op op_mulW (pv 1) (pe_pcal p_bottom T.cl (hr.mono (by decide)) (pv 0))) (nomark _))))))), ?_⟩
    have tp := fun {σ : L2.St} {i : Nat} (h : σ[i]? = some (some (.ref p))) => ev_prop (K := K) h hr1.at_
    obtain ⟨dx, ea⟩ := hr1.at_
    refine seq_if (or_of (no_is (ev_var rfl) (T.c.ty ea) relref kit_self ?_))
    refine iteF (or_of (no_is (tp rfl).1 (.int n) relty kit_ii ?_))
    refine iteF (no_is (tp rfl).2 (.int d) relty kit_ii ?_)
    refine iteF ?_
    refine seq_if (or_of (test_op (tp rfl).2 ev_c ⟨d, 1, rfl, rfl, _, rfl, ?_⟩))
    rw [decide_eq_false (show ¬ d < 1 from by have := hr1.pos; omega)]
    refine iteF ?_
    refine (tp rfl).1 _ ?_
    refine (tp rfl).2 _ ?_
    refine ⟨n, d, rfl, rfl, _, rfl, ?_⟩
    rw [hr1.low]
    refine iteF ?_
    have h := ev_eq (ev_op (C := CMulW) (g := fun i j => .int (i * j)) (tp (σ := [some (.ref p), some (.int t), some (.int u)]) (i := 0) rfl).1 (ev_var (i := 2) (v := .int u) rfl) (cm hr1.bn hu)) (ev_op (C := CMulW) (g := fun i j => .int (i * j)) (ev_var (i := 1) (v := .int t) rfl) (tp (i := 0) rfl).2 (cm ht hr1.bd))
    exact h _ (by rw [decide_eq_true e]; exact q)
/-! readings of one check -/
theorem is_read {te ta tb : TE} {σ : L2.St} {H : Hp} {t u : Int} {Q : VK} (hte : ∀ Q' : VK, (∀ p n d H', Same H H' → Rat K H' p n d 4100 → n * u = t * d → Q' (.ref p) H') → te σ H Q')
    (h1 : ∀ H', EvV ta σ H' (.int t)) (h2 : ∀ H', EvV tb σ H' (.int u)) (ht : t.natAbs < 2 ^ 8000) (hu : u.natAbs < 2 ^ 8000) (q : ∀ H', Same H H' → Q (.bl true) H') : tCall (spLawIs K) [] E0 (tCons te (tCons ta (tCons tb tNil))) σ H Q :=
  hte _ fun p n d H' s r e => h1 H' _ (h2 H' _ ⟨p, n, d, t, u, rfl, r.up (by decide), ht, hu, e, q H' s⟩)
theorem no_read {te ta tb : TE} {σ : L2.St} {H : Hp} {t u : Int} {Q : Bool → Hp → Prop} (hte : ∀ Q' : VK, (∀ p n d H', Same H H' → Rat K H' p n d 4100 → n * u = t * d → Q' (.ref p) H') → te σ H Q')
    (h1 : ∀ H', EvV ta σ H' (.int t)) (h2 : ∀ H', EvV tb σ H' (.int u)) (ht : t.natAbs < 2 ^ 8000) (hu : u.natAbs < 2 ^ 8000) (q : ∀ H', Same H H' → Q false H') : tNot (tB (tCall (spLawIs K) [] E0 (tCons te (tCons ta (tCons tb tNil))))) σ H Q :=
  is_read hte h1 h2 ht hu fun H' s => ⟨true, rfl, q H' s⟩
theorem bin_core {g : Int → Int → Int → Int → Int × Int} {H : Hp} {p : Addr} {y : V} {n1 d1 n2 d2 t u : Int} {Q' : VK} (r1 : Rat K H p n1 d1 200) (r2 : NumAt K H y n2 d2 200)
    (e : ∀ n d : Int, n * (g n1 d1 n2 d2).2 = (g n1 d1 n2 d2).1 * d → n * u = t * d) (q : ∀ p n d H', Same H H' → Rat K H' p n d 4100 → n * u = t * d → Q' (.ref p) H') : rOwnL (RC K) (spBin K g) E0 (.ref p) y H Q' := by
  obtain ⟨dx, ea⟩ := r1.at_
  refine ⟨p, dx, _, rfl, ea, r2.own, p, y, n1, d1, n2, d2, rfl, r1.up (by decide), ?_, fun p' n d H' s r e' => q p' n d H' s r (e n d e')⟩
  rcases r2 with ⟨a, b, c⟩ | ⟨b, rfl, r⟩
  · exact .inl ⟨a, b, lt_up c (by decide)⟩
  · exact .inr ⟨b, rfl, r.up (by decide)⟩
theorem bin_read {g : Int → Int → Int → Int → Int × Int} {σ : L2.St} {H : Hp} {i j : Nat} {p : Addr} {y : V} {n1 d1 n2 d2 t u : Int} {Q' : VK} (hi : σ[i]? = some (some (.ref p))) (hj : σ[j]? = some (some y)) (r1 : Rat K H p n1 d1 200) (r2 : NumAt K H y n2 d2 200)
    (e : ∀ n d : Int, n * (g n1 d1 n2 d2).2 = (g n1 d1 n2 d2).1 * d → n * u = t * d) (q : ∀ p n d H', Same H H' → Rat K H' p n d 4100 → n * u = t * d → Q' (.ref p) H') : tOp (rOwnL (RC K) (spBin K g) E0) (tVar i) (tVar j) σ H Q' :=
  ⟨_, hi, _, hj, bin_core r1 r2 e q⟩
theorem binR_read {g : Int → Int → Int → Int → Int × Int} {σ : L2.St} {H : Hp} {i j : Nat} {p : Addr} {m : Int} {n1 d1 t u : Int} {Q' : VK} (hi : σ[i]? = some (some (.ref p))) (hj : σ[j]? = some (some (.int m))) (r1 : Rat K H p n1 d1 200) (hm : m.natAbs < 2 ^ 200)
    (e : ∀ n d : Int, n * (g n1 d1 m 1).2 = (g n1 d1 m 1).1 * d → n * u = t * d) (q : ∀ p n d H', Same H H' → Rat K H' p n d 4100 → n * u = t * d → Q' (.ref p) H') : tOp (rOwnR (RC K) (spBin K g) E0) (tVar j) (tVar i) σ H Q' := by
  obtain ⟨dx, ea⟩ := r1.at_
  exact ⟨_, hj, _, hi, m, p, dx, _, rfl, rfl, ea, p, .int m, n1, d1, m, 1, rfl, r1.up (by decide), .inl ⟨rfl, rfl, lt_up hm (by decide)⟩, fun p' n d H' s r e' => q p' n d H' s r (e n d e')⟩
theorem neg_read {σ : L2.St} {H : Hp} {i : Nat} {p : Addr} {n1 d1 t u : Int} {Q' : VK} (hi : σ[i]? = some (some (.ref p))) (r1 : Rat K H p n1 d1 200) (e : ∀ n d : Int, n * d1 = -n1 * d → n * u = t * d)
    (q : ∀ p n d H', Same H H' → Rat K H' p n d 4100 → n * u = t * d → Q' (.ref p) H') : tUn (rOwnU (RC K) (spNeg K) E0) (tVar i) σ H Q' := by
  obtain ⟨dx, ea⟩ := r1.at_
  exact ⟨_, hi, p, dx, _, rfl, ea, p, n1, d1, 200, rfl, r1, by decide, fun p' n d H' s r e' => q p' n d H' s (r.up (by decide)) (e n d e')⟩
theorem num_up {H : Hp} {y : V} {n d : Int} (h : NumAt K H y n d 200) : NumAt K H y n d 2000 := by
  rcases h with ⟨a, b, c⟩ | ⟨b, rfl, r⟩
  · exact .inl ⟨a, b, lt_up c (by decide)⟩
  · exact .inr ⟨b, rfl, r.up (by decide)⟩
theorem over_read {σ : L2.St} {H : Hp} {i j : Nat} {p : Addr} {y : V} {n1 d1 n2 d2 t u : Int} {Q' : VK} (hi : σ[i]? = some (some (.ref p))) (hj : σ[j]? = some (some y)) (r1 : Rat K H p n1 d1 200) (r2 : NumAt K H y n2 d2 200) (n0 : n2 ≠ 0)
    (e : ∀ n d : Int, n * (d1 * n2) = (n1 * d2) * d → n * u = t * d) (q : ∀ p n d H', Same H H' → Rat K H' p n d 4100 → n * u = t * d → Q' (.ref p) H') : tMeth (RC K) "over" (spOver K) [] E0 (tVar i) (tCons (tVar j) tNil) σ H Q' := by
  obtain ⟨dx, ea⟩ := r1.at_
  exact ⟨_, hi, p, dx, _, rfl, ea, rfl, _, hj, p, y, n1, d1, n2, d2, rfl, r1.up (by decide), num_up r2, fun z => absurd z n0, fun _ p' n d H' s r e' => q p' n d H' s r (e n d e')⟩
theorem var_read {σ : L2.St} {H : Hp} {i : Nat} {p : Addr} {n1 d1 t u : Int} {k : Nat} {Q' : VK} (hi : σ[i]? = some (some (.ref p))) (r1 : Rat K H p n1 d1 k) (hk : k ≤ 4100) (e : n1 * u = t * d1)
    (q : ∀ p n d H', Same H H' → Rat K H' p n d 4100 → n * u = t * d → Q' (.ref p) H') : tVar i σ H Q' := ⟨_, hi, q p n1 d1 H (Same.refl _) (r1.up hk) e⟩
theorem b3_ne {H : Hp} {l m : Addr} {x y z : Bool} {Q : VK} (h1 : H l = some (.lst [.bl x, .bl y, .bl z])) (h2 : H m = some (.lst [.bl x, .bl y, .bl z])) (q : Q (.bl false) H) : rNeD K (.ref l) (.ref m) H Q := by
  refine ⟨.list [.bool x, .bool y, .bool z], .list [.bool x, .bool y, .bool z], .lst (SqL.of h1) (.cons (.bl _) (.cons (.bl _) (.cons (.bl _) .nil))), .lst (SqL.of h2) (.cons (.bl _) (.cons (.bl _) (.cons (.bl _) .nil))), ?_, ?_, ?_⟩
  · cases x <;> cases y <;> cases z <;> decide +kernel
  · cases x <;> cases y <;> cases z <;> decide +kernel
  · rw [SeqAt.eqv_refl _ (by cases x <;> cases y <;> cases z <;> decide +kernel)]
    exact q
theorem sgn_read {D : Ends} : True := trivial
/-- the side: (a d - c b) (1 if b d > 0 else -1) -/
theorem ev_side {ta tp : TE} {σ : L2.St} {H : Hp} {X B : Int} (h1 : EvV ta σ H (.int X)) (h2 : EvV tp σ H (.int B)) (hX : X.natAbs < 2 ^ 900) :
    EvV (tOp (rI CMulW fun i j => .int (i * j)) ta (tIf (tTest (tOp (rI0 fun i j => .bl (decide (j < i))) tp (tC (.int 0)))) (tC (.int 1)) (tUn (rU fun i => .int (-i)) (tC (.int 1))))) σ H (.int (X * (if 0 < B then 1 else -1))) := by
  intro Q q
  refine h1 _ (h2 _ ⟨B, 0, rfl, rfl, _, rfl, ite2 (fun e => ?_) (fun e => ?_)⟩)
  · have e2 : 0 < B := of_decide_eq_true e
    rw [if_pos e2] at q
    exact ⟨X, 1, rfl, rfl, cm hX (show (1 : Int).natAbs < 2 ^ 1 by decide), q⟩
  · have e2 : ¬ 0 < B := fun z => e (decide_eq_true z)
    rw [if_neg e2] at q
    exact ⟨1, rfl, X, -1, rfl, rfl, cm hX (show (-1 : Int).natAbs < 2 ^ 1 by decide), q⟩
theorem dec_c {x y : Prop} [Decidable x] [Decidable y] (h : x ↔ y) : decide x = decide y := by rw [decide_eq_decide]; exact h
theorem ne0 {S : Int} : (!decide (V.int S = V.int 0)) = !decide (S = 0) := by rw [dec_c ⟨V.int.inj, fun e => by rw [e]⟩]
abbrev M2 : List Str := ["self", "other"]
theorem sc__law_two_right : FnScope ["_law_one", "_law_other", "_law_a", "_law_b", "_law_c", "_law_d", "_law_side", "_law_joined", "_law_less", "_law_more"] (["_law_one", "_law_other", "_law_a", "_law_b", "_law_c", "_law_d"] : List Str) (defScope s__law_two_right) := ⟨rfl, rfl, rfl, by decide +kernel, rfl, by decide +kernel, by decide +kernel⟩
theorem ok__law_two_right (F : FnP K "_law_two_right" s__law_two_right f fd) (T : Tr P w K mg base) (c__law_is : Cal P w K mg base "_law_is" ["_law_ratio", "_law_top", "_law_under"] 3 (spLawIs K))
    (m_add : MCal P w K mg base (RC K) "__add__" M2 5 (spBin K fAdd)) (m_sub : MCal P w K mg base (RC K) "__sub__" M2 5 (spBin K fSub)) (m_mul : MCal P w K mg base (RC K) "__mul__" M2 5 (spBin K fMul)) (m_neg : MCal P w K mg base (RC K) "__neg__" ["self"] 5 (spNeg K))
    (m_eq : MCal P w K mg base (RC K) "__eq__" M2 2 (spEq K)) (m_over : MCal P w K mg base (RC K) "over" ["self", "number"] 5 (spOver K)) (m_below : MCal P w K mg base (RC K) "below" ["self", "number"] 2 (spBelow K)) :
    FnOk P w K mg base CX 7 f fd ["_law_one", "_law_other", "_law_a", "_law_b", "_law_c", "_law_d"] (spTwo K) := by
  refine F.ok sc__law_two_right (fun vs H Q E h => ?_) (fun cdv A outer s H vs Q E hr h => ?_)
  · obtain ⟨p, q, a, b, c, d, rfl, _⟩ := h
    rfl
  · obtain ⟨p, q, a, b, c, d, rfl, ⟨n1, d1, r1, e1⟩, ⟨n2, d2, r2, e2⟩, b0, d0, ha, hb, hc, hd, k⟩ := h
    have hu64 : (A.deeper (envOfC "_law_two_right" (defScope s__law_two_right) s.heap.objs.size f cdv)).units + 64 < cLine := by have := hr.un; omega
    refine ⟨_, (PSs.nox (pss_cons (ps_if (PW.pt (pw_or (pt_not (pt_val (pe_cal c__law_is (hr.mono (by decide)) (by rfl) (pa_cons (pe_op (r_add T m_add (hr.mono (by decide))) (pv 0) (pv 1)) (pa_cons (pe_op op_add (pe_op op_mulW (pv 2) (pv 5)) (pe_op op_mulW (pv 4) (pv 3))) (pa_cons (pe_op op_mulW (pv 3) (pv 5)) pa_nil)))))) (pw_or1 (pt_not (pt_val (pe_cal c__law_is (hr.mono (by decide)) (by rfl) (pa_cons (pe_op (r_sub T m_sub (hr.mono (by decide))) (pv 0) (pv 1)) (pa_cons (pe_op op_sub (pe_op op_mulW (pv 2) (pv 5)) (pe_op op_mulW (pv 4) (pv 3))) (pa_cons (pe_op op_mulW (pv 3) (pv 5)) pa_nil))))))))) (pss_one (ps_ret pe_bl)) pss_nil) (pss_cons (ps_if (PW.pt (pw_or (pt_not (pt_val (pe_cal c__law_is (hr.mono (by decide)) (by rfl) (pa_cons (pe_op (r_mul T m_mul (hr.mono (by decide))) (pv 0) (pv 1)) (pa_cons (pe_op op_mulW (pv 2) (pv 4)) (pa_cons (pe_op op_mulW (pv 3) (pv 5)) pa_nil)))))) (pw_or1 (pt_not (pt_val (pe_cal c__law_is (hr.mono (by decide)) (by rfl) (pa_cons (pe_un (r_neg T m_neg (hr.mono (by decide))) (pv 0)) (pa_cons (pe_op op_sub pe_int (pv 2)) (pa_cons (pv 3) pa_nil))))))))) (pss_one (ps_ret pe_bl)) pss_nil) (pss_cons (ps_if (PW.pt (pw_and (pt_cmpR op_ne (pv 4) pe_int (nomark _)) (pw_and1 (pt_not (pt_val (pe_cal c__law_is (hr.mono (by decide)) (by rfl) (pa_cons (pe_mcal m_over T.cl (hr.mono (by decide)) (pv 0) (pa_cons (pv 1) pa_nil)) (pa_cons (pe_op op_mulW (pv 2) (pv 5)) (pa_cons (pe_op op_mulW (pv 3) (pv 4)) pa_nil))))))))) (pss_one (ps_ret pe_bl)) pss_nil) (pss_cons (ps_set (i := 6) sc__law_two_right.nd rfl (Or.inl rfl) (pe_op op_mulW (pe_op op_sub (pe_op op_mulW (pv 2) (pv 5)) (pe_op op_mulW (pv 4) (pv 3))) (pe_ifExp (pt_cmpR op_gt (pe_op op_mulW (pv 3) (pv 5)) pe_int (nomark _)) pe_int (pe_un un_neg pe_int)))) (pss_cons (ps_if (pt_cmpR (op_neD hu64) (pe_lst (pa_cons (pe_mcal m_below T.cl (hr.mono (by decide)) (pv 0) (pa_cons (pv 1) pa_nil)) (pa_cons (pe_cmpR (r_eq m_eq (hr.mono (by decide))) (pv 0) (pv 1) (nomark _)) (pa_cons (pe_cmpR (r_ne T m_eq (hr.mono (by decide))) (pv 0) (pv 1) (nomark _)) pa_nil)))) (pe_lst (pa_cons (pe_cmpR op_lt (pv 6) pe_int (nomark _)) (pa_cons (pe_cmpR op_eq (pv 6) pe_int (nomark _)) (pa_cons (pe_cmpR op_ne (pv 6) pe_int (nomark _)) pa_nil)))) (nomark _)) (pss_one (ps_ret pe_bl)) pss_nil) (pss_cons (ps_par3 (i := 7) (j := 8) (l := 9) rfl sc__law_two_right.nd rfl rfl rfl (by decide) (by decide) (by decide) rfl rfl rfl (pa_cons (pv 0) (pa_cons (pv 0) (pa_cons (pv 0) pa_nil))) rfl) (pss_cons (ps_aug (i := 7) sc__law_two_right.nd rfl (Or.inl rfl) (pv 1) (ri_add T m_add (hr.mono (by decide)))) (pss_cons (ps_aug (i := 8) sc__law_two_right.nd rfl (Or.inl rfl) (pv 1) (ri_sub T m_sub (hr.mono (by decide)))) (pss_cons (ps_aug (i := 9) sc__law_two_right.nd rfl (Or.inl rfl) (pv 1) (ri_mul T m_mul (hr.mono (by decide)))) (pss_cons (ps_if (PW.pt (pw_or (pt_not (pt_val (pe_cal c__law_is (hr.mono (by decide)) (by rfl) (pa_cons (pv 7) (pa_cons (pe_op op_add (pe_op op_mulW (pv 2) (pv 5)) (pe_op op_mulW (pv 4) (pv 3))) (pa_cons (pe_op op_mulW (pv 3) (pv 5)) pa_nil)))))) (pw_or1 (pt_not (pt_val (pe_cal c__law_is (hr.mono (by decide)) (by rfl) (pa_cons (pv 8) (pa_cons (pe_op op_sub (pe_op op_mulW (pv 2) (pv 5)) (pe_op op_mulW (pv 4) (pv 3))) (pa_cons (pe_op op_mulW (pv 3) (pv 5)) pa_nil))))))))) (pss_one (ps_ret pe_bl)) pss_nil) (pss_one (ps_ret (pe_and (pe_cal c__law_is (hr.mono (by decide)) (by rfl) (pa_cons (pv 0) (pa_cons (pv 2) (pa_cons (pv 3) pa_nil)))) (pe_and (pe_cal c__law_is (hr.mono (by decide)) (by rfl) (pa_cons (pv 1) (pa_cons (pv 4) (pa_cons (pv 5) pa_nil)))) (pe_one (pe_cal c__law_is (hr.mono (by decide)) (by rfl) (pa_cons (pv 9) (pa_cons (pe_op op_mulW (pv 2) (pv 4)) (pa_cons (pe_op op_mulW (pv 3) (pv 5)) pa_nil)))))))))))))))))))), ?_⟩
    have N2 : ∀ {H' : Hp}, Same H H' → NumAt K H' (.ref q) n2 d2 200 := fun s => .inr ⟨q, rfl, r2.ext s⟩
    have eAdd : ∀ {σ : L2.St} {H' : Hp}, σ[2]? = some (some (.int a)) → σ[3]? = some (some (.int b)) → σ[4]? = some (some (.int c)) → σ[5]? = some (some (.int d)) → EvV (tOp (rI0 fun i j => .int (i + j)) (tOp (rI CMulW fun i j => .int (i * j)) (tVar 2) (tVar 5)) (tOp (rI CMulW fun i j => .int (i * j)) (tVar 4) (tVar 3))) σ H' (.int (a * d + c * b)) :=
      fun h2 h3 h4 h5 => ev_op0 (ev_op (ev_var h2) (ev_var h5) (cm ha hd)) (ev_op (ev_var h4) (ev_var h3) (cm hc hb))
    have eSub : ∀ {σ : L2.St} {H' : Hp}, σ[2]? = some (some (.int a)) → σ[3]? = some (some (.int b)) → σ[4]? = some (some (.int c)) → σ[5]? = some (some (.int d)) → EvV (tOp (rI0 fun i j => .int (i - j)) (tOp (rI CMulW fun i j => .int (i * j)) (tVar 2) (tVar 5)) (tOp (rI CMulW fun i j => .int (i * j)) (tVar 4) (tVar 3))) σ H' (.int (a * d - c * b)) :=
      fun h2 h3 h4 h5 => ev_op0 (ev_op (ev_var h2) (ev_var h5) (cm ha hd)) (ev_op (ev_var h4) (ev_var h3) (cm hc hb))
    have eMul : ∀ {σ : L2.St} {H' : Hp} {i j : Nat} {x y : Int}, σ[i]? = some (some (.int x)) → σ[j]? = some (some (.int y)) → x.natAbs < 2 ^ 200 → y.natAbs < 2 ^ 200 → EvV (tOp (rI CMulW fun i j => .int (i * j)) (tVar i) (tVar j)) σ H' (.int (x * y)) :=
      fun h1 h2 b1 b2 => ev_op (ev_var h1) (ev_var h2) (cm b1 b2)
    have bAdd : (a * d + c * b).natAbs < 2 ^ 8000 := lt_up (lt_add (lt_mul ha hd) (lt_mul hc hb)) (by decide)
    have bSub : (a * d - c * b).natAbs < 2 ^ 8000 := lt_up (lt_sub (lt_mul ha hd) (lt_mul hc hb)) (by decide)
    have bM : ∀ {x y : Int}, x.natAbs < 2 ^ 200 → y.natAbs < 2 ^ 200 → (x * y).natAbs < 2 ^ 8000 := fun b1 b2 => lt_up (lt_mul b1 b2) (by decide)
    have cA : ∀ n D : Int, n * (fAdd n1 d1 n2 d2).2 = (fAdd n1 d1 n2 d2).1 * D → n * (b * d) = (a * d + c * b) * D := fun n D e => cross_add e1 e2 r1.pos r2.pos e
    have cS : ∀ n D : Int, n * (fSub n1 d1 n2 d2).2 = (fSub n1 d1 n2 d2).1 * D → n * (b * d) = (a * d - c * b) * D := fun n D e => cross_sub e1 e2 r1.pos r2.pos e
    have cM : ∀ n D : Int, n * (fMul n1 d1 n2 d2).2 = (fMul n1 d1 n2 d2).1 * D → n * (b * d) = (a * c) * D := fun n D e => cross_mul e1 e2 r1.pos r2.pos e
    -- sums, differences
    refine seq_if (or_of (no_read (fun Q' k => bin_read rfl rfl r1 (N2 (Same.refl _)) cA k) (fun _ => eAdd rfl rfl rfl rfl) (fun _ => eMul rfl rfl hb hd) bAdd (bM hb hd) fun H1 s1 => ?_))
    refine iteF (no_read (fun Q' k => bin_read rfl rfl (r1.ext s1) (N2 s1) cS k) (fun _ => eSub rfl rfl rfl rfl) (fun _ => eMul rfl rfl hb hd) bSub (bM hb hd) fun H2 s2 => ?_)
    have S2 := s1.trans s2
    refine iteF ?_
    -- products, opposites
    refine seq_if (or_of (no_read (fun Q' k => bin_read rfl rfl (r1.ext S2) (N2 S2) cM k) (fun _ => eMul rfl rfl ha hc) (fun _ => eMul rfl rfl hb hd) (bM ha hc) (bM hb hd) fun H3 s3 => ?_))
    have S3 := S2.trans s3
    refine iteF (no_read (fun Q' k => neg_read rfl (r1.ext S3) (fun n D e => cross_neg e1 r1.pos e) k) (fun _ => ev_op0 ev_c (ev_var rfl)) (fun _ => ev_var rfl) (lt_up (lt_sub (i := 0) (Nat.two_pow_pos _) ha) (by decide)) (lt_up hb (by decide)) fun H4 s4 => ?_)
    have S4 := S3.trans s4
    refine iteN ?_
    -- quotients
    dsimp only
    refine seq_if ?_
    refine no_if (fun Q' kk => ?_) fun H5 s5 => ?_
    · refine ⟨_, rfl, rfl, _, rfl, ?_⟩
      rw [ne0]
      by_cases z : c = 0
      · rw [decide_eq_true z]
        exact iteF (kk H4 (Same.refl _))
      · rw [decide_eq_false z]
        have n20 : n2 ≠ 0 := fun y => z ((zero_iff e2 r2.pos d0).mp y)
        exact iteT (no_read (fun Q' k => over_read rfl rfl (r1.ext S4) (N2 S4) n20 (fun n D e => cross_over e1 e2 r1.pos n20 e) k) (fun _ => eMul rfl rfl ha hd) (fun _ => eMul rfl rfl hb hc) (bM ha hd) (bM hb hc) kk)
    have S5 := S4.trans s5
    -- the side
    have hB : b * d ≠ 0 := Int.mul_ne_zero b0 d0
    have hP : 0 < d1 * d2 := Int.mul_pos r1.pos r2.pos
    refine seq_name (ev_side (X := a * d - c * b) (B := b * d) (eSub rfl rfl rfl rfl) (eMul rfl rfl hb hd) (lt_up (lt_sub (lt_mul ha hd) (lt_mul hc hb)) (by decide)) _ ?_)
    generalize hS : (a * d - c * b) * (if 0 < b * d then 1 else -1) = S
    obtain ⟨g1, g2⟩ := sign_lt (side_sign hP hB (cross_eq e1 e2) hS.symm)
    have hlt : decide (S < 0) = decide (n1 * d2 < n2 * d1) := dec_c (g1.trans ⟨fun h => by omega, fun h => by omega⟩)
    have heq : decide (V.int S = V.int 0) = (decide (n1 = n2) && decide (d1 = d2)) := by
      rw [← Bool.decide_and]
      refine dec_c ⟨fun h => ?_, fun h => ?_⟩
      · exact low_eq r1.pos r2.pos r1.low r2.low (by have := g2.mp (V.int.inj h); omega)
      · obtain ⟨rfl, rfl⟩ := h
        rw [g2.mpr (Int.sub_self _)]
    obtain ⟨dx, ea⟩ := (r1.ext S5).at_
    obtain ⟨dy, eb⟩ := (r2.ext S5).at_
    refine seq_if ?_
    refine no_if (fun Q' kk => ?_) fun H7 s7 => ?_
    · refine ⟨_, rfl, p, dx, _, rfl, ea, rfl, _, rfl, p, .ref q, n1, d1, n2, d2, rfl, (r1.ext S5).up (by decide), num_up (N2 S5), fun H6 s6 => ?_⟩
      have ea6 := s6 _ _ ea
      have eb6 := s6 _ _ eb
      refine ⟨_, rfl, _, rfl, p, dx, _, rfl, ea6, .inr ⟨q, dy, _, rfl, eb6⟩, p, .ref q, n1, d1, rfl, ⟨dx, ea6⟩, .inl ⟨q, n2, d2, rfl, ⟨dy, eb6⟩, ?_⟩⟩
      refine ⟨_, rfl, _, rfl, p, dx, _, rfl, ea6, .inr ⟨q, dy, _, rfl, eb6⟩, p, .ref q, n1, d1, rfl, ⟨dx, ea6⟩, .inl ⟨q, n2, d2, rfl, ⟨dy, eb6⟩, _, rfl, ?_⟩⟩
      refine ⟨sl (by show 3 ≤ 1000; decide), fun l hl => ?_⟩
      refine ⟨_, rfl, _, _, rfl, rfl, _, rfl, rfl, _, rfl, rfl, sl (by show 3 ≤ 1000; decide), fun m hm => ?_⟩
      refine b3_ne (x := decide (n1 * d2 < n2 * d1)) (y := decide (n1 = n2) && decide (d1 = d2)) (z := !(decide (n1 = n2) && decide (d1 = d2))) (upS hm _ _ upd_same) (by rw [upd_same]; show some (HO.lst [V.bl (decide (S < 0)), V.bl (decide (V.int S = V.int 0)), V.bl (!decide (V.int S = V.int 0))]) = _; rw [hlt, heq]) ?_
      exact ⟨false, rfl, kk _ (s6.trans ((upS hl).trans (upS hm)))⟩
    have S7 := S5.trans s7
    -- the augmented ones
    refine ⟨_, rfl, _, rfl, _, rfl, _, _, _, rfl, ?_⟩
    refine ⟨_, rfl, _, rfl, bin_core (r1.ext S7) (N2 S7) cA fun pA nA dA HA sA rA eA => ?_⟩
    have SA := S7.trans sA
    refine ⟨_, rfl, _, rfl, bin_core (r1.ext SA) (N2 SA) cS fun pB nB dB HB sB rB eB => ?_⟩
    have SB := SA.trans sB
    refine ⟨_, rfl, _, rfl, bin_core (r1.ext SB) (N2 SB) cM fun pC nC dC HC sC rC eC => ?_⟩
    have SC := SB.trans sC
    refine seq_if (or_of (no_read (fun Q' k => var_read rfl ((rA.ext sB).ext sC) (Nat.le_refl _) eA k) (fun _ => eAdd rfl rfl rfl rfl) (fun _ => eMul rfl rfl hb hd) bAdd (bM hb hd) fun H8 s8 => ?_))
    refine iteF (no_read (fun Q' k => var_read rfl ((rB.ext sC).ext s8) (Nat.le_refl _) eB k) (fun _ => eSub rfl rfl rfl rfl) (fun _ => eMul rfl rfl hb hd) bSub (bM hb hd) fun H9 s9 => ?_)
    have S9 := (SC.trans s8).trans s9
    refine iteF ?_
    refine is_read (fun Q' k => var_read rfl (r1.ext S9) (by decide) e1 k) (fun _ => ev_var rfl) (fun _ => ev_var rfl) (lt_up ha (by decide)) (lt_up hb (by decide)) fun Hx sx => ⟨true, rfl, iteT ?_⟩
    have Sx := S9.trans sx
    refine is_read (fun Q' k => var_read rfl (r2.ext Sx) (by decide) e2 k) (fun _ => ev_var rfl) (fun _ => ev_var rfl) (lt_up hc (by decide)) (lt_up hd (by decide)) fun Hy sy => ⟨true, rfl, iteT ?_⟩
    exact is_read (fun Q' k => var_read rfl (rC.ext (((s8.trans s9).trans sx).trans sy)) (Nat.le_refl _) eC k) (fun _ => eMul rfl rfl ha hc) (fun _ => eMul rfl rfl hb hd) (bM ha hc) (bM hb hd) fun Hz sz => k Hz ((Sx.trans sy).trans sz)
theorem ci_add {n1 d1 a b m n D : Int} (h1 : n1 * b = a * d1) (p1 : 0 < d1) (e : n * (d1 * 1) = (n1 * 1 + m * d1) * D) : n * b = (a + m * b) * D := by
  refine Int.eq_of_mul_eq_mul_left (show d1 ≠ 0 by omega) ?_
  grind
theorem ci_sub {n1 d1 a b m n D : Int} (h1 : n1 * b = a * d1) (p1 : 0 < d1) (e : n * (d1 * 1) = (n1 * 1 - m * d1) * D) : n * b = (a - m * b) * D := by
  refine Int.eq_of_mul_eq_mul_left (show d1 ≠ 0 by omega) ?_
  grind
theorem ci_rsub {n1 d1 a b m n D : Int} (h1 : n1 * b = a * d1) (p1 : 0 < d1) (e : n * (d1 * 1) = (m * d1 - n1 * 1) * D) : n * b = (m * b - a) * D := by
  refine Int.eq_of_mul_eq_mul_left (show d1 ≠ 0 by omega) ?_
  grind
theorem ci_mul {n1 d1 a b m n D : Int} (h1 : n1 * b = a * d1) (p1 : 0 < d1) (e : n * (d1 * 1) = (n1 * m) * D) : n * b = (a * m) * D := by
  refine Int.eq_of_mul_eq_mul_left (show d1 ≠ 0 by omega) ?_
  grind
theorem ci_over {n1 d1 a b m n D : Int} (h1 : n1 * b = a * d1) (p1 : 0 < d1) (e : n * (d1 * m) = (n1 * 1) * D) : n * (b * m) = a * D := by
  refine Int.eq_of_mul_eq_mul_left (show d1 ≠ 0 by omega) ?_
  grind
theorem ci_eq {n1 d1 a b m : Int} (h1 : n1 * b = a * d1) : (a - m * b) * d1 = (n1 - m * d1) * b := by grind
theorem kit_ib : PySem.W.kitOne K (.type "int") (.type "bool") = some false := by rfl
theorem sc__law_integers_right : FnScope ["_law_one", "_law_a", "_law_b", "_law_number", "_law_side"] (["_law_one", "_law_a", "_law_b", "_law_number"] : List Str) (defScope s__law_integers_right) := ⟨rfl, rfl, rfl, by decide +kernel, rfl, by decide +kernel, by decide +kernel⟩
theorem ok__law_integers_right (F : FnP K "_law_integers_right" s__law_integers_right f fd) (T : Tr P w K mg base) (c__law_is : Cal P w K mg base "_law_is" ["_law_ratio", "_law_top", "_law_under"] 3 (spLawIs K))
    (m_add : MCal P w K mg base (RC K) "__add__" M2 5 (spBin K fAdd)) (m_sub : MCal P w K mg base (RC K) "__sub__" M2 5 (spBin K fSub)) (m_mul : MCal P w K mg base (RC K) "__mul__" M2 5 (spBin K fMul))
    (m_radd : MCal P w K mg base (RC K) "__radd__" M2 6 (spBin K fAdd)) (m_rsub : MCal P w K mg base (RC K) "__rsub__" M2 6 (spBin K fRsub)) (m_rmul : MCal P w K mg base (RC K) "__rmul__" M2 6 (spBin K fMul))
    (m_eq : MCal P w K mg base (RC K) "__eq__" M2 2 (spEq K)) (m_over : MCal P w K mg base (RC K) "over" ["self", "number"] 5 (spOver K)) (m_below : MCal P w K mg base (RC K) "below" ["self", "number"] 2 (spBelow K))
    (k1_Ratio : KCal P w K mg base "Ratio" (RC K) ["self", "top", "bottom"] 3 (spInit K) [.int 1]) :
    FnOk P w K mg base CX 7 f fd ["_law_one", "_law_a", "_law_b", "_law_number"] (spInts K) := by
  refine F.ok sc__law_integers_right (fun vs H Q E h => ?_) (fun cdv A outer s H vs Q E hr h => ?_)
  · obtain ⟨p, a, b, m, rfl, _⟩ := h
    rfl
  · obtain ⟨p, a, b, m, rfl, ⟨n1, d1, r1, e1⟩, b0, ha, hb, hm, k⟩ := h
    have hu64 : (A.deeper (envOfC "_law_integers_right" (defScope s__law_integers_right) s.heap.objs.size f cdv)).units + 64 < cLine := by have := hr.un; omega
    refine ⟨_, (PSs.nox (pss_cons (ps_if (PW.pt (pw_or (pt_not (pt_val (pe_cal c__law_is (hr.mono (by decide)) (by rfl) (pa_cons (pe_op (r_add T m_add (hr.mono (by decide))) (pv 0) (pv 3)) (pa_cons (pe_op op_add (pv 1) (pe_op op_mulW (pv 3) (pv 2))) (pa_cons (pv 2) pa_nil)))))) (pw_or1 (pt_not (pt_val (pe_cal c__law_is (hr.mono (by decide)) (by rfl) (pa_cons (pe_op (rr_add T m_radd (hr.mono (by decide))) (pv 3) (pv 0)) (pa_cons (pe_op op_add (pv 1) (pe_op op_mulW (pv 3) (pv 2))) (pa_cons (pv 2) pa_nil))))))))) (pss_one (ps_ret pe_bl)) pss_nil) (pss_cons (ps_if (PW.pt (pw_or (pt_not (pt_val (pe_cal c__law_is (hr.mono (by decide)) (by rfl) (pa_cons (pe_op (r_sub T m_sub (hr.mono (by decide))) (pv 0) (pv 3)) (pa_cons (pe_op op_sub (pv 1) (pe_op op_mulW (pv 3) (pv 2))) (pa_cons (pv 2) pa_nil)))))) (pw_or1 (pt_not (pt_val (pe_cal c__law_is (hr.mono (by decide)) (by rfl) (pa_cons (pe_op (rr_sub T m_rsub (hr.mono (by decide))) (pv 3) (pv 0)) (pa_cons (pe_op op_sub (pe_op op_mulW (pv 3) (pv 2)) (pv 1)) (pa_cons (pv 2) pa_nil))))))))) (pss_one (ps_ret pe_bl)) pss_nil) (pss_cons (ps_if (PW.pt (pw_or (pt_not (pt_val (pe_cal c__law_is (hr.mono (by decide)) (by rfl) (pa_cons (pe_op (r_mul T m_mul (hr.mono (by decide))) (pv 0) (pv 3)) (pa_cons (pe_op op_mulW (pv 1) (pv 3)) (pa_cons (pv 2) pa_nil)))))) (pw_or1 (pt_not (pt_val (pe_cal c__law_is (hr.mono (by decide)) (by rfl) (pa_cons (pe_op (rr_mul T m_rmul (hr.mono (by decide))) (pv 3) (pv 0)) (pa_cons (pe_op op_mulW (pv 1) (pv 3)) (pa_cons (pv 2) pa_nil))))))))) (pss_one (ps_ret pe_bl)) pss_nil) (pss_cons (ps_if (PW.pt (pw_and (pt_cmpR op_ne (pv 3) pe_int (nomark _)) (pw_and1 (pt_not (pt_val (pe_cal c__law_is (hr.mono (by decide)) (by rfl) (pa_cons (pe_mcal m_over T.cl (hr.mono (by decide)) (pv 0) (pa_cons (pv 3) pa_nil)) (pa_cons (pv 1) (pa_cons (pe_op op_mulW (pv 2) (pv 3)) pa_nil))))))))) (pss_one (ps_ret pe_bl)) pss_nil) (pss_cons (ps_set (i := 4) sc__law_integers_right.nd rfl (Or.inl rfl) (pe_op op_mulW (pe_op op_sub (pv 1) (pe_op op_mulW (pv 3) (pv 2))) (pe_ifExp (pt_cmpR op_gt (pv 2) pe_int (nomark _)) pe_int (pe_un un_neg pe_int)))) (pss_cons (ps_if (pt_cmpR (op_neD hu64) (pe_lst (pa_cons (pe_mcal m_below T.cl (hr.mono (by decide)) (pv 0) (pa_cons (pv 3) pa_nil)) (pa_cons (pe_cmpR (r_eq m_eq (hr.mono (by decide))) (pv 0) (pv 3) (nomark _)) (pa_cons (pe_cmpR (r_eqR m_eq (hr.mono (by decide))) (pv 3) (pv 0) (nomark _)) pa_nil)))) (pe_lst (pa_cons (pe_cmpR op_lt (pv 4) pe_int (nomark _)) (pa_cons (pe_cmpR op_eq (pv 4) pe_int (nomark _)) (pa_cons (pe_cmpR op_eq (pv 4) pe_int (nomark _)) pa_nil)))) (nomark _)) (pss_one (ps_ret pe_bl)) pss_nil) (pss_one (ps_ret (pe_cal c__law_is (hr.mono (by decide)) (by rfl) (pa_cons (pe_kcal k1_Ratio (hr.mono (by decide)) (by rfl) (pa_cons (pv 3) pa_nil)) (pa_cons (pv 3) (pa_cons pe_int pa_nil))))))))))))), ?_⟩
    have N2 : ∀ {H' : Hp}, NumAt K H' (.int m) m 1 200 := .inl ⟨rfl, rfl, hm⟩
    have p1 := r1.pos
    have eMB : ∀ {σ : L2.St} {H' : Hp}, σ[2]? = some (some (.int b)) → σ[3]? = some (some (.int m)) → EvV (tOp (rI CMulW fun i j => .int (i * j)) (tVar 3) (tVar 2)) σ H' (.int (m * b)) := fun h2 h3 => ev_op (ev_var h3) (ev_var h2) (cm hm hb)
    have ha4 : a.natAbs < 2 ^ 400 := lt_up ha (by decide)
    have bAdd : (a + m * b).natAbs < 2 ^ 8000 := lt_up (lt_add ha4 (lt_mul hm hb)) (by decide)
    have bSub : (a - m * b).natAbs < 2 ^ 8000 := lt_up (lt_sub ha4 (lt_mul hm hb)) (by decide)
    have bRs : (m * b - a).natAbs < 2 ^ 8000 := lt_up (lt_sub (lt_mul hm hb) ha4) (by decide)
    have bM : ∀ {x y : Int}, x.natAbs < 2 ^ 200 → y.natAbs < 2 ^ 200 → (x * y).natAbs < 2 ^ 8000 := fun b1 b2 => lt_up (lt_mul b1 b2) (by decide)
    have b8 : b.natAbs < 2 ^ 8000 := lt_up hb (by decide)
    refine seq_if (or_of (no_read (fun Q' k => bin_read rfl rfl r1 N2 (fun n D e => ci_add e1 p1 e) k) (fun _ => ev_op0 (ev_var rfl) (eMB rfl rfl)) (fun _ => ev_var rfl) bAdd b8 fun H1 s1 => ?_))
    refine iteF (no_read (fun Q' k => binR_read rfl rfl (r1.ext s1) hm (fun n D e => ci_add e1 p1 e) k) (fun _ => ev_op0 (ev_var rfl) (eMB rfl rfl)) (fun _ => ev_var rfl) bAdd b8 fun H2 s2 => ?_)
    have S2 := s1.trans s2
    refine iteN ?_
    dsimp only
    refine seq_if (or_of (no_read (fun Q' k => bin_read rfl rfl (r1.ext S2) N2 (fun n D e => ci_sub e1 p1 e) k) (fun _ => ev_op0 (ev_var rfl) (eMB rfl rfl)) (fun _ => ev_var rfl) bSub b8 fun H3 s3 => ?_))
    refine iteF (no_read (fun Q' k => binR_read rfl rfl (r1.ext (S2.trans s3)) hm (fun n D e => ci_rsub e1 p1 e) k) (fun _ => ev_op0 (eMB rfl rfl) (ev_var rfl)) (fun _ => ev_var rfl) bRs b8 fun H4 s4 => ?_)
    have S4 := (S2.trans s3).trans s4
    refine iteN ?_
    dsimp only
    refine seq_if (or_of (no_read (fun Q' k => bin_read rfl rfl (r1.ext S4) N2 (fun n D e => ci_mul e1 p1 e) k) (fun _ => ev_op (ev_var rfl) (ev_var rfl) (cm ha hm)) (fun _ => ev_var rfl) (bM ha hm) b8 fun H5 s5 => ?_))
    refine iteF (no_read (fun Q' k => binR_read rfl rfl (r1.ext (S4.trans s5)) hm (fun n D e => ci_mul e1 p1 e) k) (fun _ => ev_op (ev_var rfl) (ev_var rfl) (cm ha hm)) (fun _ => ev_var rfl) (bM ha hm) b8 fun H6 s6 => ?_)
    have S6 := (S4.trans s5).trans s6
    refine iteN ?_
    dsimp only
    refine seq_if ?_
    refine no_if (fun Q' kk => ?_) fun H7 s7 => ?_
    · refine ⟨_, rfl, rfl, _, rfl, ?_⟩
      rw [ne0]
      by_cases z : m = 0
      · rw [decide_eq_true z]
        exact iteF (kk H6 (Same.refl _))
      · rw [decide_eq_false z]
        exact iteT (no_read (fun Q' k => over_read rfl rfl (r1.ext S6) N2 z (fun n D e => ci_over e1 p1 e) k) (fun _ => ev_var rfl) (fun _ => ev_op (ev_var rfl) (ev_var rfl) (cm hb hm)) (lt_up ha (by decide)) (bM hb hm) kk)
    have S7 := S6.trans s7
    refine next_of ?_
    dsimp only
    refine seq_name ?_
    refine ev_side (X := a - m * b) (B := b) (ev_op0 (ev_var ?_) (eMB ?_ ?_)) (ev_var (i := 2) ?_) (lt_up (lt_sub ha4 (lt_mul hm hb)) (by decide)) _ ?_
    · rfl
    · rfl
    · rfl
    · rfl
    generalize hS : (a - m * b) * (if 0 < b then 1 else -1) = S
    obtain ⟨g1, g2⟩ := sign_lt (side_sign p1 b0 (ci_eq e1) hS.symm)
    have hlt : decide (S < 0) = decide (n1 * 1 < m * d1) := dec_c (g1.trans ⟨fun h => by omega, fun h => by omega⟩)
    have heq : decide (V.int S = V.int 0) = (decide (d1 = 1) && decide (n1 = m)) := by
      rw [← Bool.decide_and]
      refine dec_c ⟨fun h => ?_, fun h => ?_⟩
      · have h2 := g2.mp (V.int.inj h)
        obtain ⟨h3, h4⟩ := low_eq (n2 := m) (d2 := 1) p1 (by decide) r1.low (by simp) (by omega)
        exact ⟨h4, h3⟩
      · obtain ⟨rfl, rfl⟩ := h
        rw [g2.mpr (by omega)]
    obtain ⟨dx, ea⟩ := (r1.ext S7).at_
    refine seq_if ?_
    refine no_if (fun Q' kk => ?_) fun H9 s9 => ?_
    · refine ⟨_, rfl, p, dx, _, rfl, ea, rfl, _, rfl, p, .int m, n1, d1, m, 1, rfl, (r1.ext S7).up (by decide), num_up N2, fun H8 s8 => ?_⟩
      have ea8 := s8 _ _ ea
      refine ⟨_, rfl, _, rfl, p, dx, _, rfl, ea8, .inl ⟨"int", .int m, T.aI.ap.a⟩, p, .int m, n1, d1, rfl, ⟨dx, ea8⟩, .inr ⟨"int", true, false, .int m, T.aI.k1, kit_ii, kit_ib, fun _ => ⟨m, rfl, ?_⟩, fun z => by cases z⟩⟩
      refine ⟨_, rfl, _, rfl, "int", p, dx, _, rfl, ea8, .int m, by decide, T.aI.ap.b, p, .int m, n1, d1, rfl, ⟨dx, ea8⟩, .inr ⟨"int", true, false, .int m, T.aI.k1, kit_ii, kit_ib, fun _ => ⟨m, rfl, ?_⟩, fun z => by cases z⟩⟩
      refine ⟨sl (by show 3 ≤ 1000; decide), fun l hl => ?_⟩
      refine ⟨_, rfl, _, _, rfl, rfl, _, rfl, rfl, _, rfl, rfl, sl (by show 3 ≤ 1000; decide), fun l2 hl2 => ?_⟩
      refine b3_ne (x := decide (n1 * 1 < m * d1)) (y := decide (d1 = 1) && decide (n1 = m)) (z := decide (d1 = 1) && decide (n1 = m)) (upS hl2 _ _ upd_same) (by rw [upd_same]; show some (HO.lst [V.bl (decide (S < 0)), V.bl (decide (V.int S = V.int 0)), V.bl (decide (V.int S = V.int 0))]) = _; rw [hlt, heq]) ?_
      exact ⟨false, rfl, kk _ (s8.trans ((upS hl).trans (upS hl2)))⟩
    refine is_read (t := m) (u := 1) (fun Q' k => mk_ratio1 (ev_var rfl) fun p' n d H' s' r d0 g e l1 l2 => k p' n d H' s' (res_rat (H := H') r d0 g l1 l2 (lt_up hm (by decide)) (Nat.one_lt_two_pow (by decide))) e) (fun _ => ev_var rfl) (fun _ => ev_c) (lt_up hm (by decide)) (Nat.one_lt_two_pow (by decide)) fun Hz sz => k Hz ((S7.trans s9).trans sz)
/-- isinstance of a caught error, its class told by the reading -/
def rIsEv (K : PySem.W.Frag) (D a : Addr) (cls : Value) (d : Option Addr) : List V → Hp → VK → Prop := fun xs H Q => (cls = .ref D ∧ d = none) ∧ rIsE K D a xs H Q
theorem call_isEv {X : Cx} {a D : Addr} {oe : Obj} {pn : List (Addr × Obj)} {cls : Value} {d : Option Addr} (C : ExcC X.K D) (hz : Zc cls d oe) (hf : ∃ vs, oe.data = .fields vs) : CallR (X.suite a ((a, oe) :: pn)) (.builtin "isinstance") (rIsEv X.K D a cls d) := by
  intro pins s σ H xs us Q I r h
  obtain ⟨⟨rfl, rfl⟩, q⟩ := h
  exact call_isE C hz hf pins s σ H xs us Q I r q
theorem sc__law_no_quotient : FnScope ["_law_top", "_law_ratio", "_law_told", "e"] (["_law_top", "_law_ratio"] : List Str) (defScope s__law_no_quotient) := ⟨rfl, rfl, rfl, by decide +kernel, rfl, by decide +kernel, by decide +kernel⟩
theorem ok__law_no_quotient (F : FnP K "_law_no_quotient" s__law_no_quotient f fd) (T : Tr P w K mg base) (k2_Ratio : KCal P w K mg base "Ratio" (RC K) ["self", "top", "bottom"] 3 (spInit K) [])
    (m_over : MCal P w K mg base (RC K) "over" ["self", "number"] 5 (spOver K)) : FnOk P w K mg base CX 6 f fd ["_law_top", "_law_ratio"] (spNoQ K) := by
  refine F.ok sc__law_no_quotient (fun vs H Q E h => ?_) (fun cdv A outer s H vs Q E hr h => ?_)
  · obtain ⟨t, p, a, b, rfl, _⟩ := h
    rfl
  · obtain ⟨t, p, a, b, rfl, ⟨n1, d1, r1, e1⟩, ht, k⟩ := h
    refine ⟨_, (PSs.nox (pss_cons (ps_set (i := 2) sc__law_no_quotient.nd rfl (Or.inl rfl) pe_int) (pss_cons (ps_try_as (i := 3) rfl rfl sc__law_no_quotient.nd rfl rfl ⟨rfl, by decide, .inl T.g_ByZero⟩ takes0 (fun W pn xe tk _ => (pss_one (ps_expr (pe_kcalS tk k2_Ratio (hr.mono (by decide)) (by rfl) (pa_cons (pv 0) (pa_cons pe_int pa_nil)))))) (fun a oe cls d pn hz hf => (pss_one (ps_set (i := 2) sc__law_no_quotient.nd rfl (Or.inl rfl) (pe_op op_add (pv 2) (pe_callTy call_int1 (by rfl) T.m_int (by decide +kernel) (pa_cons (pe_callB (call_isEv T.exz hz hf) (by rfl) T.m_isinstance PyProof.Rows.boot_isinstance (pa_cons (pv 3) (pa_cons (pe_glob (v := .ref (He.ga K "DrawError")) (by rfl) T.g_DrawError rfl) pa_nil))) pa_nil))))))) (pss_cons (ps_try_only rfl rfl ⟨rfl, by decide, .inl T.g_ByZero⟩ takes0 (fun W pn xe tk _ => (pss_one (ps_expr (pe_mcalS tk m_over T.cl (hr.mono (by decide)) (pv 1) (pa_cons (pe_kcalS tk k2_Ratio (hr.mono (by decide)) (by rfl) (pa_cons pe_int (pa_cons pe_int pa_nil))) pa_nil))))) (fun a oe cls d pn _ _ => (pss_one (ps_set (i := 2) sc__law_no_quotient.nd rfl (Or.inl rfl) (pe_op op_add (pv 2) pe_int))))) (pss_cons (ps_try_only rfl rfl ⟨rfl, by decide, .inl T.g_ByZero⟩ takes0 (fun W pn xe tk _ => (pss_one (ps_expr (pe_mcalS tk m_over T.cl (hr.mono (by decide)) (pv 1) (pa_cons pe_int pa_nil))))) (fun a oe cls d pn _ _ => (pss_one (ps_set (i := 2) sc__law_no_quotient.nd rfl (Or.inl rfl) (pe_op op_add (pv 2) pe_int))))) (pss_one (ps_ret (pe_cmpR op_eq (pv 2) pe_int (nomark _))))))))), ?_⟩
    obtain ⟨dx, ea⟩ := r1.at_
    refine seq_name ?_
    refine seq_of ?_
    refine drop_of (mk_ratioS (t := t) (b := 0) (ev_var ?_) ev_c (by decide) (fun _ H1 s1 => ?_) (fun z => absurd rfl z))
    · rfl
    refine ⟨true, T.ez, fun _ x hx => ?_, fun z => Bool.noConfusion z⟩
    refine ⟨_, rfl, _, rfl, ⟨rfl, rfl⟩, .ref (He.ga K "DrawError"), _, true, rfl, relref, T.kz, Or.inr ⟨true, rfl, _, _, rfl, rfl, ?_⟩⟩
    dsimp only [gName]
    refine seq_of ?_
    refine drop_of ⟨_, rfl, p, dx, _, rfl, s1 _ _ ea, rfl, ?_⟩
    refine mk_ratioS (t := 0) (b := 7) ev_c ev_c (by decide) (fun z => by cases z) (fun _ => ?_)
    intro p' n d H2 s2 r d0 g e l1 l2
    have n0 : n = 0 := by omega
    refine ⟨p, .ref p', n1, d1, n, d, rfl, ((r1.ext s1).ext s2).up (by decide), .inr ⟨p', rfl, res_rat (H := H2) (t := 0) (b := 7) r d0 g l1 l2 (Nat.two_pow_pos _) (lt_up (a := 3) (by decide) (by decide))⟩, fun _ H3 s3 => ?_, fun z => absurd n0 z⟩
    refine ⟨true, T.ez, fun _ x2 hx2 => ?_, fun z => Bool.noConfusion z⟩
    refine ⟨_, rfl, _, _, rfl, rfl, ?_⟩
    have S3 := (s1.trans s2).trans s3
    dsimp only [gName]
    refine seq_of ?_
    refine drop_of ⟨_, rfl, p, dx, _, rfl, S3 _ _ ea, rfl, ?_⟩
    refine ⟨p, .int 0, n1, d1, 0, 1, rfl, (r1.ext S3).up (by decide), .inl ⟨rfl, rfl, Nat.two_pow_pos _⟩, fun _ H4 s4 => ?_, fun z => absurd rfl z⟩
    refine ⟨true, T.ez, fun _ x3 hx3 => ?_, fun z => Bool.noConfusion z⟩
    refine ⟨_, rfl, _, _, rfl, rfl, ?_⟩
    dsimp only [gName]
    refine ⟨_, rfl, rfl, ?_⟩
    exact k H4 (S3.trans s4)
end
end K02

set_option Elab.async false
set_option linter.all false
set_option maxRecDepth 100000
set_option maxHeartbeats 4000000
namespace K02
open PySem PySem.Spec PyProof.Rows L2 J
/-! ### the law -/
def gKw : List V → List V → List V := fun vs zs => vs ++ zs
/-- a value that is no number: its type's facts -/
def Strange (K : PySem.W.Frag) (H : Hp) (x : V) : Prop := ∃ T b1 b2, TyOf K H x (.type T) ∧ T ∈ eqTypes ∧ PySem.W.subIn K (.type T) (.ref (RC K)) = some false ∧ PySem.W.subIn K (.ref (RC K)) (.type T) = some false ∧ PySem.W.kitOne K (.type T) (.ref (RC K)) = some false ∧
  PySem.W.kitOne K (.type T) (.type "int") = some b1 ∧ PySem.W.kitOne K (.type T) (.type "bool") = some b2 ∧ (b1 && !b2) = false
section
variable {P : Program} {w : World} {K : PySem.W.Frag} {mg : Str → Option Value} {base : Heap} {f : Addr} {fd : FuncData} {CX : CXT}
theorem mk_ratioN {ta tb : TE} {σ : L2.St} {H : Hp} {t b : Int} {Q : VK} (h1 : EvV ta σ H (.int t)) (h2 : EvV tb σ H (.int b)) (b0 : b ≠ 0) (b8 : b.natAbs < 2 ^ 8000) (h : Res K H t b Q) : tMakeN (RC K) 1 1 (spInit K) gKw E0 (tCons ta tNil) (tCons tb tNil) σ H Q :=
  h1 _ (h2 _ ⟨rfl, rfl, fun _ _ hx hd ne => init_res hx hd ne b8 (fun z => absurd z b0) fun _ => h⟩)
theorem of_res {H : Hp} {t b : Int} {Q : VK} (ht : t.natAbs < 2 ^ 200) (hb : b.natAbs < 2 ^ 200) (h : ∀ p H', Same H H' → Of K H' p t b → Q (.ref p) H') : Res K H t b Q :=
  fun p n d H' s r d0 g e l1 l2 => h p H' s ⟨n, d, res_rat (H := H') r d0 g l1 l2 ht hb, e⟩
theorem Of.ty {H : Hp} {p : Addr} {a b : Int} (h : Of K H p a b) : ∃ n d dx, RatAt K H p n d ∧ H p = some (.ins (RC K) dx [("above", .int n), ("under", .int d)]) := by
  obtain ⟨n, d, r, _⟩ := h
  obtain ⟨dx, e⟩ := r.at_
  exact ⟨n, d, dx, r.at_, e⟩
/-- a == x, x == a, not a != x -/
theorem strange_no {σ : L2.St} {H : Hp} {p : Addr} {a b : Int} {x : V} {i j : Nat} {Q : Bool → Hp → Prop} (h : Of K H p a b) (s : Strange K H x) (hi : σ[i]? = some (some (.ref p))) (hj : σ[j]? = some (some x)) (q : Q false H) :
    tTest (tOp (rOwnEq K (RC K) (spEq K) E0) (tVar i) (tVar j)) σ H Q := by
  obtain ⟨n, d, dx, r, e⟩ := h.ty
  obtain ⟨T, b1, b2, ty, _, s1, _, k0, k1, k2, hb⟩ := s
  exact ⟨_, hi, _, hj, p, dx, _, rfl, e, .inl ⟨T, ty, s1⟩, p, x, n, d, rfl, r, .inr ⟨T, b1, b2, ty, k0, k1, k2, (fun z => by rw [hb] at z; cases z), fun _ => ⟨false, rfl, q⟩⟩⟩
theorem strangeR_no {σ : L2.St} {H : Hp} {p : Addr} {a b : Int} {x : V} {i j : Nat} {Q : Bool → Hp → Prop} (h : Of K H p a b) (s : Strange K H x) (hi : σ[i]? = some (some (.ref p))) (hj : σ[j]? = some (some x)) (q : Q false H) :
    tTest (tOp (rOwnEqR K (RC K) (spEq K) E0) (tVar j) (tVar i)) σ H Q := by
  obtain ⟨n, d, dx, r, e⟩ := h.ty
  obtain ⟨T, b1, b2, ty, tm, _, s2, k0, k1, k2, hb⟩ := s
  exact ⟨_, hj, _, hi, T, p, dx, _, rfl, e, ty, tm, s2, p, x, n, d, rfl, r, .inr ⟨T, b1, b2, ty, k0, k1, k2, (fun z => by rw [hb] at z; cases z), fun _ => ⟨false, rfl, q⟩⟩⟩
theorem strangeN_no {σ : L2.St} {H : Hp} {p : Addr} {a b : Int} {x : V} {i j : Nat} {Q : Bool → Hp → Prop} (h : Of K H p a b) (s : Strange K H x) (hi : σ[i]? = some (some (.ref p))) (hj : σ[j]? = some (some x)) (q : Q false H) :
    tNot (tTest (tOp (rOwnNe K (RC K) (spEq K) E0) (tVar i) (tVar j))) σ H Q := by
  obtain ⟨n, d, dx, r, e⟩ := h.ty
  obtain ⟨T, b1, b2, ty, _, s1, _, k0, k1, k2, hb⟩ := s
  exact ⟨_, hi, _, hj, p, dx, _, rfl, e, .inl ⟨T, ty, s1⟩, p, x, n, d, rfl, r, .inr ⟨T, b1, b2, ty, k0, k1, k2, (fun z => by rw [hb] at z; cases z), fun _ => ⟨false, rfl, true, rfl, q⟩⟩⟩
theorem stN (T : Tr P w K mg base) {H : Hp} : Strange K H .non := ⟨"NoneType", false, false, .non, by decide, T.aN.ap.a, T.aN.ap.b, T.aN.k1, by rfl, by rfl, rfl⟩
theorem stS (T : Tr P w K mg base) {H : Hp} {z : Str} : Strange K H (.str z) := ⟨"str", false, false, .str z, by decide, T.aS.ap.a, T.aS.ap.b, T.aS.k1, by rfl, by rfl, rfl⟩
theorem stB (T : Tr P w K mg base) {H : Hp} {z : Bool} : Strange K H (.bl z) := ⟨"bool", true, true, .bl z, by decide, T.aB.ap.a, T.aB.ap.b, T.aB.k1, by rfl, by rfl, rfl⟩
theorem stT (T : Tr P w K mg base) {H : Hp} {p : Addr} {xs : List V} (h : H p = some (.tup xs)) : Strange K H (.ref p) := ⟨"tuple", false, false, .tup h, by decide, T.aT.ap.a, T.aT.ap.b, T.aT.k1, by rfl, by rfl, rfl⟩
theorem stL (T : Tr P w K mg base) {H : Hp} {p : Addr} {xs : List V} (h : H p = some (.lst xs)) : Strange K H (.ref p) := ⟨"list", false, false, .lst h, by decide, T.aL.ap.a, T.aL.ap.b, T.aL.k1, by rfl, by rfl, rfl⟩
theorem stD (T : Tr P w K mg base) {H : Hp} {p : Addr} {kvs : List (Key × V)} (h : H p = some (.dK kvs)) : Strange K H (.ref p) := ⟨"dict", false, false, .dK h, by decide, T.aD.ap.a, T.aD.ap.b, T.aD.k1, by rfl, by rfl, rfl⟩
theorem Strange.ext {H H' : Hp} {x : V} (h : Strange K H x) (k : Same H H') : Strange K H' x := by
  obtain ⟨T, b1, b2, ty, r⟩ := h
  refine ⟨T, b1, b2, ?_, r⟩
  cases ty with
  | non => exact .non
  | bl x => exact .bl x
  | int i => exact .int i
  | str x => exact .str x
  | flt x => exact .flt x
  | lst e => exact .lst (k _ _ e)
  | frz e => exact .frz (k _ _ e)
  | tup e => exact .tup (k _ _ e)
  | dK e => exact .dK (k _ _ e)
  | dT e => exact .dT (k _ _ e)
theorem str_read {σ : L2.St} {H : Hp} {i : Nat} {p : Addr} {a b : Int} {Q : VK} (h : Of K H p a b) (hi : σ[i]? = some (some (.ref p))) (q : ∀ z : Str, Q (.str z) H) : tCB (rStrOwn (RC K) (spStr K) E0) (tCons (tVar i) tNil) σ H Q := by
  obtain ⟨n, d, r, _⟩ := h
  obtain ⟨dx, e⟩ := r.at_
  exact ⟨_, hi, p, dx, _, rfl, e, p, n, d, rfl, r.up (by decide), fun _ => ⟨_, rfl, q _⟩, fun _ => ⟨_, rfl, q _⟩⟩
theorem for_of {wi : TI} {g : TG} {tb : TS} {D : Ends} {σ : L2.St} {H : Hp} (h : wi σ H fun J H1 => ∃ W : Nat → Nat → L2.St → Hp → Prop, (∃ m, W 0 m σ H1) ∧ ∀ i m σ H, W i m σ H →
    (J.stop i H ∧ D.nx σ H) ∨ (J.go i H ∧ ∃ N : L2.St → Hp → Prop, (∀ σ' H', N σ' H' → ∃ m', m' < m ∧ W (i + 1) m' σ' H') ∧ ∀ x H', J.yld i H x H' → g x σ H' fun σ2 H2 => tb { D with nx := N, ct := N, bk := D.nx } σ2 H2)) : tFor wi g tb D σ H := h
theorem ilist_of {tl : TE} {σ : L2.St} {H : Hp} {R : It → Hp → Prop} (h : tl σ H fun x H1 => ∃ a, x = .ref a ∧ (∃ xs, SqL K H1 a xs) ∧ R (Itl K a) H1) : iList K tl σ H R := h
theorem par_of {i j : Nat} {ta : TA} {u : TS} {D : Ends} {σ : L2.St} {H : Hp} (h : ta σ H fun vs H1 => ∃ v w, vs = [v, w] ∧ u D ((σ.set i (some v)).set j (some w)) H1) : tSeq (tPar i j ta) u D σ H := h
theorem b01n (b : Bool) : (if b = true then (1 : Int) else 0).natAbs < 2 ^ 1 := by cases b <;> decide
theorem nz_by {w y : Int} (h : 1 ≤ y) : w + (if decide (V.int w = V.int 0) = true then 1 else 0) * y ≠ 0 := by
  by_cases e : w = 0
  · subst e
    rw [decide_eq_true rfl, if_pos rfl]
    omega
  · rw [decide_eq_false (fun z => e (V.int.inj z)), if_neg Bool.false_ne_true]
    omega
theorem nz_one {w : Int} : w + (if decide (V.int w = V.int 0) = true then 1 else 0) ≠ 0 := by
  have h := nz_by (w := w) (y := 1) (by decide)
  rwa [Int.mul_one] at h
theorem sc_law : FnScope ["_law_script", "_law_k", "_law_box_here", "_law_by", "_law_a", "_law_c", "_law_b", "_law_d", "_law_one", "_law_other", "_law_number", "_law_strange", "_law_plain"] (["_law_script"] : List Str) (defScope s_law) := ⟨rfl, rfl, rfl, by decide +kernel, rfl, by decide +kernel, by decide +kernel⟩
theorem ok_law (F : FnP K "law" s_law f fd) (T : Tr P w K mg base) (c__law_cell : Cal P w K mg base "_law_cell" ["_law_script", "_law_k"] 1 (spCellL K)) (c__law_box : Cal P w K mg base "_law_box" ["_law_cell_here"] 1 spBoxL)
    (c__law_take : Cal P w K mg base "_law_take" ["_law_box_here", "_law_many"] 1 spTakeL) (c__law_integer : Cal P w K mg base "_law_integer" ["_law_box_here"] 2 spInteger)
    (c__law_is : Cal P w K mg base "_law_is" ["_law_ratio", "_law_top", "_law_under"] 3 (spLawIs K)) (c__law_two_right : Cal P w K mg base "_law_two_right" ["_law_one", "_law_other", "_law_a", "_law_b", "_law_c", "_law_d"] 7 (spTwo K))
    (c__law_integers_right : Cal P w K mg base "_law_integers_right" ["_law_one", "_law_a", "_law_b", "_law_number"] 7 (spInts K)) (c__law_no_quotient : Cal P w K mg base "_law_no_quotient" ["_law_top", "_law_ratio"] 6 (spNoQ K))
    (m_eq : MCal P w K mg base (RC K) "__eq__" M2 2 (spEq K)) (m_str : MCal P w K mg base (RC K) "__str__" ["self"] 1 (spStr K))
    (k1_Ratio : KCal P w K mg base "Ratio" (RC K) ["self", "top", "bottom"] 3 (spInit K) [.int 1]) (k2_Ratio : KCal P w K mg base "Ratio" (RC K) ["self", "top", "bottom"] 3 (spInit K) []) (kn_Ratio : KCalN P w K mg base "Ratio" (RC K) ["self", "top", "bottom"] 3 (spInit K) 1 ["bottom"] gKw) :
    FnOk P w K mg base CX 8 f fd ["_law_script"] (spLaw K) := by
  refine F.ok sc_law (fun vs H Q E h => ?_) (fun cdv A outer s H vs Q E hr h => ?_)
  · obtain ⟨a, ns, rfl, _⟩ := h
    rfl
  · obtain ⟨a, ns, rfl, hS, hn, q⟩ := h
    have hu64 : (A.deeper (envOfC "law" (defScope s_law) s.heap.objs.size f cdv)).units + 64 < cLine := by have := hr.un; omega
    refine ⟨_, (PSs.nox (pss_cons (ps_for PassesOwn.never rfl (pi_range1 (by rfl) T.m_range (pa_cons (pe_callB (call_max2 rfl) (by rfl) T.m_max PyProof.Rows.boot_max (pa_cons pe_int (pa_cons (pe_callB (call_min2 rfl) (by rfl) T.m_min PyProof.Rows.boot_min (pa_cons pe_int (pa_cons (pe_callB call_len_seq (by rfl) T.m_len PySem.boot_len (pa_cons (pv 0) pa_nil)) pa_nil))) pa_nil))) pa_nil)) (pg_name (i := 1) sc_law.nd rfl (Or.inl rfl)) (pss_cons (ps_set (i := 2) sc_law.nd rfl (Or.inl rfl) (pe_cal c__law_box (hr.mono (by decide)) (by rfl) (pa_cons (pe_cal c__law_cell (hr.mono (by decide)) (by rfl) (pa_cons (pv 0) (pa_cons (pv 1) pa_nil))) pa_nil))) (pss_cons (ps_set (i := 3) sc_law.nd rfl (Or.inl rfl) (pe_op op_add pe_int (pe_cal c__law_take (hr.mono (by decide)) (by rfl) (pa_cons (pv 2) (pa_cons pe_int pa_nil))))) (pss_cons (ps_par (i := 4) (j := 5) rfl sc_law.nd rfl rfl (by decide) rfl rfl (pa_cons (pe_op op_mulW (pe_cal c__law_integer (hr.mono (by decide)) (by rfl) (pa_cons (pv 2) pa_nil)) (pv 3)) (pa_cons (pe_cal c__law_integer (hr.mono (by decide)) (by rfl) (pa_cons (pv 2) pa_nil)) pa_nil)) rfl) (pss_cons (ps_par (i := 6) (j := 7) rfl sc_law.nd rfl rfl (by decide) rfl rfl (pa_cons (pe_op op_mulW (pe_cal c__law_integer (hr.mono (by decide)) (by rfl) (pa_cons (pv 2) pa_nil)) (pv 3)) (pa_cons (pe_cal c__law_integer (hr.mono (by decide)) (by rfl) (pa_cons (pv 2) pa_nil)) pa_nil)) rfl) (pss_cons (ps_par (i := 6) (j := 7) rfl sc_law.nd rfl rfl (by decide) rfl rfl (pa_cons (pe_op op_add (pv 6) (pe_op op_mulW (pe_callTy call_int1 (by rfl) T.m_int (by decide +kernel) (pa_cons (pe_cmpR op_eq (pv 6) pe_int (nomark _)) pa_nil)) (pv 3))) (pa_cons (pe_op op_add (pv 7) (pe_callTy call_int1 (by rfl) T.m_int (by decide +kernel) (pa_cons (pe_cmpR op_eq (pv 7) pe_int (nomark _)) pa_nil))) pa_nil)) rfl) (pss_cons (ps_par (i := 8) (j := 9) rfl sc_law.nd rfl rfl (by decide) rfl rfl (pa_cons (pe_kcal k2_Ratio (hr.mono (by decide)) (by rfl) (pa_cons (pv 4) (pa_cons (pv 6) pa_nil))) (pa_cons (pe_kcalN kn_Ratio (hr.mono (by decide)) (by rfl) (pa_cons (pv 5) pa_nil) (pk_cons (pv 7) pk_nil)) pa_nil)) rfl) (pss_cons (ps_if (PW.pt (pw_or (pt_not (pt_val (pe_cal c__law_is (hr.mono (by decide)) (by rfl) (pa_cons (pv 8) (pa_cons (pv 4) (pa_cons (pv 6) pa_nil)))))) (pw_or1 (pt_not (pt_val (pe_cal c__law_two_right (hr.mono (by decide)) (by rfl) (pa_cons (pv 8) (pa_cons (pv 9) (pa_cons (pv 4) (pa_cons (pv 6) (pa_cons (pv 5) (pa_cons (pv 7) pa_nil)))))))))))) (pss_one (ps_ret pe_bl)) pss_nil) (pss_cons (ps_if (PW.pt (pw_or (pt_not (pt_val (pe_cal c__law_two_right (hr.mono (by decide)) (by rfl) (pa_cons (pv 8) (pa_cons (pe_kcal k2_Ratio (hr.mono (by decide)) (by rfl) (pa_cons (pv 4) (pa_cons (pv 6) pa_nil))) (pa_cons (pv 4) (pa_cons (pv 6) (pa_cons (pv 4) (pa_cons (pv 6) pa_nil))))))))) (pw_or1 (pt_not (pt_val (pe_cal c__law_two_right (hr.mono (by decide)) (by rfl) (pa_cons (pv 9) (pa_cons (pv 8) (pa_cons (pv 5) (pa_cons (pv 7) (pa_cons (pv 4) (pa_cons (pv 6) pa_nil)))))))))))) (pss_one (ps_ret pe_bl)) pss_nil) (pss_cons (ps_for PassesOwn.never rfl (pi_list (pe_lst (pa_cons pe_int (pa_cons pe_int (pa_cons (pe_un un_neg pe_int) (pa_cons (pv 5) (pa_cons (pv 4) pa_nil))))))) (pg_name (i := 10) sc_law.nd rfl (Or.inl rfl)) (pss_one (ps_if (pt_not (pt_val (pe_cal c__law_integers_right (hr.mono (by decide)) (by rfl) (pa_cons (pv 8) (pa_cons (pv 4) (pa_cons (pv 6) (pa_cons (pv 10) pa_nil))))))) (pss_one (ps_ret pe_bl)) pss_nil))) (pss_cons (ps_for PassesOwn.never rfl (pi_list (pe_lst (pa_cons pe_non (pa_cons pe_str (pa_cons (pe_tup (pa_cons (pv 4) (pa_cons (pv 6) pa_nil))) (pa_cons (pe_lst (pa_cons (pv 8) pa_nil)) (pa_cons pe_dnewK (pa_cons (pe_callTy (r_str m_str (hr.mono (by decide))) (by rfl) T.m_str (by decide +kernel) (pa_cons (pv 8) pa_nil)) (pa_cons pe_bl (pa_cons pe_bl pa_nil)))))))))) (pg_name (i := 11) sc_law.nd rfl (Or.inl rfl)) (pss_one (ps_if (PW.pt (pw_or (pt_cmpR (r_eq m_eq (hr.mono (by decide))) (pv 8) (pv 11) (nomark _)) (pw_or (pt_cmpR (r_eqR m_eq (hr.mono (by decide))) (pv 11) (pv 8) (nomark _)) (pw_or1 (pt_not (pt_cmpR (r_ne T m_eq (hr.mono (by decide))) (pv 8) (pv 11) (nomark _))))))) (pss_one (ps_ret pe_bl)) pss_nil))) (pss_cons (ps_for PassesOwn.never rfl (pi_list (pe_lst (pa_cons (pe_kcal k1_Ratio (hr.mono (by decide)) (by rfl) (pa_cons pe_int pa_nil)) (pa_cons (pe_kcal k1_Ratio (hr.mono (by decide)) (by rfl) (pa_cons pe_int pa_nil)) pa_nil)))) (pg_name (i := 12) sc_law.nd rfl (Or.inr rfl)) (pss_one (ps_if (pt_cmpR (op_neD hu64) (pe_lc (own := [("_law_strange", 11)]) (g := gName 11) (tt := (tOr (tTest (tOp (rOwnEq K (RC K) (spEq K) E0) (tVar 12) (tVar 11))) (tTest (tOp (rOwnEqR K (RC K) (spEq K) E0) (tVar 11) (tVar 12))))) rfl sc_law.nd (pi_list (pe_lst (pa_cons pe_bl (pa_cons pe_bl pa_nil)))) (blkOk_by (N := ["_law_script", "_law_k", "_law_box_here", "_law_by", "_law_a", "_law_c", "_law_b", "_law_d", "_law_one", "_law_other", "_law_number", "_law_strange", "_law_plain"]) (sc := defScope s_law) (by decide +kernel)) (fun _ _ _ _ _ => pg_name (i := 11) sc_law.nd rfl (Or.inl rfl)) (fun _ _ _ _ _ => (pts_one (PW.pt (pw_or (pt_cmpR (r_eq m_eq (hr.mono (by decide))) (pv 12) (pv 11) (nomark _)) (pw_or1 (pt_cmpR (r_eqR m_eq (hr.mono (by decide))) (pv 11) (pv 12) (nomark _))))))) (fun _ _ _ _ _ => (pv 11))) (pe_lst pa_nil) (nomark _)) (pss_one (ps_ret pe_bl)) pss_nil))) (pss_one (ps_if (pt_not (pt_val (pe_cal c__law_no_quotient (hr.mono (by decide)) (by rfl) (pa_cons (pv 4) (pa_cons (pv 8) pa_nil))))) (pss_one (ps_ret pe_bl)) pss_nil)))))))))))))) (pss_one (ps_ret pe_bl)))), ?_⟩
    refine ⟨_, rfl, a, _, rfl, .inl hS, 12, _, rfl, 2, _, rfl, ?_⟩
    generalize hj : (if (if ((ns.map V.int).length : Int) < 12 then ((ns.map V.int).length : Int) else 12) > 2 then (if ((ns.map V.int).length : Int) < 12 then ((ns.map V.int).length : Int) else 12) else 2) = j
    have j0 : 0 ≤ j := by rw [← hj]; split <;> split <;> omega
    have j1 : j ≤ 12 := by rw [← hj]; split <;> split <;> omega
    refine ⟨j, rfl, by omega, by omega, for_range (lo := 0) (n := j.toNat) (fun _ σ H' => (∃ x1 x2 x3 x4 x5 x6 x7 x8 x9 x10 x11 x12, σ = [some (.ref a), x1, x2, x3, x4, x5, x6, x7, x8, x9, x10, x11, x12]) ∧ SqL K H' a (ns.map V.int)) ⟨⟨_, _, _, _, _, _, _, _, _, _, _, _, rfl⟩, hS⟩ ?_ ?_⟩
    · intro i σ H0 hi hp
      obtain ⟨⟨x1, x2, x3, x4, x5, x6, x7, x8, x9, x10, x11, x12, rfl⟩, hS'⟩ := hp
      refine seq_name ⟨_, rfl, _, rfl, a, ns, _, rfl, hS', by omega, by omega, by omega, fun cc => ?_⟩
      refine ⟨cc, rfl, fun p H1 np hb hq => ?_⟩
      have SG1 : Same H0 H1 := fun z o h => by rw [hq z (ne_of_none h np)]; exact h
      refine seq_name ⟨_, rfl, p, 9, 0, rfl, hb, by decide, by decide, by decide, fun r H2 r0 r1 B2 k2 => ⟨1, r, rfl, rfl, ?_⟩⟩
      have SG2 := keep_off SG1 np k2
      have by1 : 1 ≤ 1 + r := by omega
      have by2 : (1 + r).natAbs < 2 ^ 4 := by omega
      dsimp only
      generalize 1 + r = y at by1 by2 ⊢
      refine ⟨_, rfl, p, _, rfl, B2, by decide, fun i1 H3 b1 B3 g3 => ⟨_, rfl, i1, y, rfl, rfl, cm b1 by2, _, rfl, p, _, rfl, B3, by decide, fun i2 H4 b2 B4 g4 => ⟨_, _, rfl, ?_⟩⟩⟩
      have SG4 := g4 _ (g3 _ SG2 np) np
      have ha := lt_mul b1 by2
      dsimp only
      generalize i1 * y = va at ha ⊢
      generalize i2 = vc at b2 ⊢
      refine ⟨_, rfl, p, _, rfl, B4, by decide, fun i3 H5 b3 B5 g5 => ⟨_, rfl, i3, y, rfl, rfl, cm b3 by2, _, rfl, p, _, rfl, B5, by decide, fun i4 H6 b4 B6 g6 => ⟨_, _, rfl, ?_⟩⟩⟩
      have SG6 := g6 _ (g5 _ SG4 np) np
      have hb0 := lt_mul b3 by2
      dsimp only
      generalize i3 * y = w3 at hb0 ⊢
      -- bottoms that are not 0
      refine ⟨_, rfl, _, rfl, rfl, Or.inr ⟨_, rfl, _, rfl, _, _, rfl, rfl, cm (b01n (decide (V.int w3 = V.int 0))) by2, _, _, rfl, rfl, _, rfl, _, rfl, rfl, Or.inr ⟨_, rfl, _, _, rfl, rfl, _, _, rfl, ?_⟩⟩⟩
      have nb := nz_by (w := w3) by1
      have nd := nz_one (w := i4)
      have lb : (w3 + (if decide (V.int w3 = V.int 0) = true then 1 else 0) * y).natAbs < 2 ^ 103 := lt_add hb0 (lt_up (lt_mul (b01n (decide (V.int w3 = V.int 0))) by2) (by decide))
      have ld : (i4 + (if decide (V.int i4 = V.int 0) = true then 1 else 0)).natAbs < 2 ^ 99 := lt_add b4 (lt_up (b01n (decide (V.int i4 = V.int 0))) (by decide))
      dsimp only
      generalize w3 + (if decide (V.int w3 = V.int 0) = true then 1 else 0) * y = vb at nb lb ⊢
      generalize i4 + (if decide (V.int i4 = V.int 0) = true then 1 else 0) = vd at nd ld ⊢
      have ha2 : va.natAbs < 2 ^ 200 := lt_up ha (by decide)
      have hb2 : vb.natAbs < 2 ^ 200 := lt_up lb (by decide)
      have hc2 : vc.natAbs < 2 ^ 200 := lt_up b2 (by decide)
      have hd2 : vd.natAbs < 2 ^ 200 := lt_up ld (by decide)
      -- the two ratios
      refine par_of (cons_of ?_)
      refine mk_ratio (t := va) (b := vb) (ev_var ?_) (ev_var ?_) nb (lt_up hb2 (by decide)) (of_res ha2 hb2 fun p1 H7 s7 o1 => ?_)
      · rfl
      · rfl
      refine cons_of ?_
      refine mk_ratioN (t := vc) (b := vd) (ev_var ?_) (ev_var ?_) nd (lt_up hd2 (by decide)) (of_res hc2 hd2 fun p2 H8 s8 o2 => ?_)
      · rfl
      · rfl
      refine ⟨_, _, rfl, ?_⟩
      have O1 := o1.ext s8
      have SG8 := (SG6.trans s7).trans s8
      try dsimp only
      refine seq_if ?_
      refine no_if (fun Q' kk => ?_) fun H9 s9 => ?_
      · obtain ⟨n1, d1, r1, e1⟩ := O1
        refine or_of (no_read (t := va) (u := vb) (fun Q' k => var_read ?_ r1 (by decide) e1 k) (fun _ => ev_var ?_) (fun _ => ev_var ?_) (lt_up ha2 (by decide)) (lt_up hb2 (by decide)) fun Ha sa => ?_)
        · rfl
        · rfl
        · rfl
        refine iteF ?_
        exact ⟨_, rfl, _, rfl, _, rfl, _, rfl, _, rfl, _, rfl, p1, p2, va, vb, vc, vd, rfl, ⟨n1, d1, r1.ext sa, e1⟩, o2.ext sa, nb, nd, ha2, hb2, hc2, hd2, fun H' s => ⟨true, rfl, kk H' (sa.trans s)⟩⟩
      have O1' := O1.ext s9
      have O2' := o2.ext s9
      have SG9 := SG8.trans s9
      refine next_of ?_
      try dsimp only
      refine seq_if ?_
      refine no_if (fun Q' kk => ?_) fun H10 s10 => ?_
      · refine or_of ⟨_, rfl, ?_⟩
        refine cons_of ?_
        refine mk_ratio (t := va) (b := vb) (ev_var ?_) (ev_var ?_) nb (lt_up hb2 (by decide)) (of_res ha2 hb2 fun p3 Hb sb o3 => ?_)
        · rfl
        · rfl
        refine ⟨_, rfl, _, rfl, _, rfl, _, rfl, p1, p3, va, vb, va, vb, rfl, O1'.ext sb, o3, nb, nb, ha2, hb2, ha2, hb2, fun Hc sc => ⟨true, rfl, iteF ?_⟩⟩
        exact ⟨_, rfl, _, rfl, _, rfl, _, rfl, _, rfl, _, rfl, p2, p1, vc, vd, va, vb, rfl, (O2'.ext sb).ext sc, (O1'.ext sb).ext sc, nd, nb, hc2, hd2, ha2, hb2, fun H' s => ⟨true, rfl, kk H' ((sb.trans sc).trans s)⟩⟩
      have O1a := O1'.ext s10
      have SG10 := SG9.trans s10
      refine next_of ?_
      try dsimp only
      -- the integers
      refine ⟨1, rfl, _, rfl, _, rfl, sl (by show 5 ≤ 1000; decide), fun p4 n4 => ⟨p4, rfl, ⟨_, SqL.of upd_same⟩, ?_⟩⟩
      have S4 : Same H10 (upd H10 p4 (.lst [.int 0, .int 1, .int (-1), .int vc, .int va])) := upS n4
      refine for_list (xs := [.int 0, .int 1, .int (-1), .int vc, .int va]) (fun _ σ H'' => (∃ y1 y2 y3, σ = [some (.ref a), some (.int ((0 : Int) + (i : Int))), some (.ref p), some (.int y), some (.int va), some (.int vc), some (.int vb), some (.int vd), some (.ref p1), some (.ref p2), y1, y2, y3]) ∧ Same (upd H10 p4 (.lst [.int 0, .int 1, .int (-1), .int vc, .int va])) H'')
        ⟨⟨_, _, _, rfl⟩, Same.refl _⟩ (fun _ σ H'' _ hp => SqL.of (hp.2 _ _ upd_same)) ?_ ?_
      · intro l x σ Hd hx hp
        obtain ⟨⟨y1, y2, y3, rfl⟩, sd⟩ := hp
        obtain ⟨m, rfl, hm⟩ : ∃ m : Int, x = .int m ∧ m.natAbs < 2 ^ 200 := by
          have h := List.mem_of_getElem? hx
          simp only [List.mem_cons, List.not_mem_nil, or_false] at h
          rcases h with rfl | rfl | rfl | rfl | rfl
          · exact ⟨_, rfl, by decide⟩
          · exact ⟨_, rfl, by decide⟩
          · exact ⟨_, rfl, by decide⟩
          · exact ⟨_, rfl, hc2⟩
          · exact ⟨_, rfl, ha2⟩
        exact ⟨_, rfl, _, rfl, _, rfl, _, rfl, p1, va, vb, m, rfl, (O1a.ext S4).ext sd, nb, ha2, hb2, hm, fun H' s => ⟨true, rfl, iteF ⟨⟨_, _, _, rfl⟩, sd.trans s⟩⟩⟩
      intro σ H11 hp
      obtain ⟨⟨y1, y2, y3, rfl⟩, s11⟩ := hp
      have O1b := (O1a.ext S4).ext s11
      have SG11 := (SG10.trans S4).trans s11
      -- strange things
      refine ⟨_, rfl, _, rfl, sl (by show 2 ≤ 1000; decide), fun q1 m1 => ⟨_, rfl, sl (by show 1 ≤ 1000; decide), fun q2 m2 => fun q3 m3 => ?_⟩⟩
      have t1 := upS (o := .tup [.int va, .int vb]) m1
      have t2 := upS (o := .lst [.ref p1]) m2
      have t3 := upS (o := .dK []) m3
      refine cons_of (str_read (((O1b.ext t1).ext t2).ext t3) rfl fun z => ?_)
      refine ⟨sl (by show 8 ≤ 1000; decide), fun p5 n5 => ⟨p5, rfl, ⟨_, SqL.of upd_same⟩, ?_⟩⟩
      have t5 := upS (o := .lst [.non, .str "1/2", .ref q1, .ref q2, .ref q3, .str z, .bl false, .bl true]) n5
      have hst : ∀ x ∈ ([.non, .str "1/2", .ref q1, .ref q2, .ref q3, .str z, .bl false, .bl true] : List V), Strange K (upd (upd (upd (upd H11 q1 (.tup [.int va, .int vb])) q2 (.lst [.ref p1])) q3 (.dK [])) p5 (.lst [.non, .str "1/2", .ref q1, .ref q2, .ref q3, .str z, .bl false, .bl true])) x := by
        intro x hx
        simp only [List.mem_cons, List.not_mem_nil, or_false] at hx
        rcases hx with rfl | rfl | rfl | rfl | rfl | rfl | rfl | rfl
        · exact stN T
        · exact stS T
        · exact stT T (t5 _ _ (t3 _ _ (t2 _ _ upd_same)))
        · exact stL T (t5 _ _ (t3 _ _ upd_same))
        · exact stD T (t5 _ _ upd_same)
        · exact stS T
        · exact stB T
        · exact stB T
      have s12 := ((t1.trans t2).trans t3).trans t5
      have hl5 : (upd (upd (upd (upd H11 q1 (.tup [.int va, .int vb])) q2 (.lst [.ref p1])) q3 (.dK [])) p5 (.lst [.non, .str "1/2", .ref q1, .ref q2, .ref q3, .str z, .bl false, .bl true])) p5 = some (.lst [.non, .str "1/2", .ref q1, .ref q2, .ref q3, .str z, .bl false, .bl true]) := upd_same
      generalize upd (upd (upd (upd H11 q1 (.tup [.int va, .int vb])) q2 (.lst [.ref p1])) q3 (.dK [])) p5 (.lst [.non, .str "1/2", .ref q1, .ref q2, .ref q3, .str z, .bl false, .bl true]) = H12 at hst s12 hl5 ⊢
      refine for_list (xs := [.non, .str "1/2", .ref q1, .ref q2, .ref q3, .str z, .bl false, .bl true]) (fun _ σ H'' => (∃ y1 y2 y3, σ = [some (.ref a), some (.int ((0 : Int) + (i : Int))), some (.ref p), some (.int y), some (.int va), some (.int vc), some (.int vb), some (.int vd), some (.ref p1), some (.ref p2), y1, y2, y3]) ∧ Same H12 H'')
        ⟨⟨_, _, _, rfl⟩, Same.refl _⟩ (fun _ σ H'' _ hp => SqL.of (hp.2 _ _ hl5)) ?_ ?_
      · intro l x σ Hd hx hp
        obtain ⟨⟨y1, y2, y3, rfl⟩, sd⟩ := hp
        have st := (hst x (List.mem_of_getElem? hx)).ext sd
        have od := (O1b.ext s12).ext sd
        refine if_of (or_of (strange_no od st rfl rfl ?_))
        refine iteF (or_of (strangeR_no od st rfl rfl ?_))
        refine iteF (strangeN_no od st rfl rfl ?_)
        exact iteF ⟨⟨_, _, _, rfl⟩, sd⟩
      intro σ H13 hp
      obtain ⟨⟨y1, y2, y3, rfl⟩, s13⟩ := hp
      have O1c := (O1b.ext s12).ext s13
      have SG13 := (SG11.trans s12).trans s13
      -- 1 and 0
      try dsimp only
      refine seq_of ?_
      refine for_of ?_
      refine ilist_of ?_
      refine lst_of ?_
      refine cons_of ?_
      refine mk_ratio1 ev_c (of_res (t := 1) (b := 1) (by decide) (by decide) fun u1 Hx1 sx1 ox1 => ?_)
      refine cons_of ?_
      refine mk_ratio1 ev_c (of_res (t := 0) (b := 1) (by decide) (by decide) fun u2 Hx2 sx2 ox2 => ?_)
      refine ⟨sl (by show 2 ≤ 1000; decide), fun p6 n6 => ⟨p6, rfl, ⟨_, SqL.of upd_same⟩, ?_⟩⟩
      have t6 := upS (o := .lst [.ref u1, .ref u2]) n6
      have ou1 := (ox1.ext sx2).ext t6
      have ou2 := ox2.ext t6
      have s14 := (sx1.trans sx2).trans t6
      have hl6 : (upd Hx2 p6 (.lst [.ref u1, .ref u2])) p6 = some (.lst [.ref u1, .ref u2]) := upd_same
      generalize upd Hx2 p6 (.lst [.ref u1, .ref u2]) = H14 at ou1 ou2 s14 hl6 ⊢
      refine for_list (xs := [.ref u1, .ref u2]) (fun _ σ H'' => (∃ y1 y2 y3, σ = [some (.ref a), some (.int ((0 : Int) + (i : Int))), some (.ref p), some (.int y), some (.int va), some (.int vc), some (.int vb), some (.int vd), some (.ref p1), some (.ref p2), y1, y2, y3]) ∧ Same H14 H'')
        ⟨⟨_, _, _, rfl⟩, Same.refl _⟩ (fun _ σ H'' _ hp => SqL.of (hp.2 _ _ hl6)) ?_ ?_
      · intro l x σ Hd hx hp
        obtain ⟨⟨y1, y2, y3, rfl⟩, sd⟩ := hp
        obtain ⟨u, tt, bb, rfl, ou⟩ : ∃ u tt bb, x = .ref u ∧ Of K H14 u tt bb := by
          have h := List.mem_of_getElem? hx
          simp only [List.mem_cons, List.not_mem_nil, or_false] at h
          rcases h with rfl | rfl
          · exact ⟨_, _, _, rfl, ou1⟩
          · exact ⟨_, _, _, rfl, ou2⟩
        have oud := ou.ext sd
        refine if_of ⟨sl (by show 2 ≤ 1000; decide), fun w1 m1 => ⟨w1, rfl, ⟨_, SqL.of upd_same⟩, fun D hD => ?_⟩⟩
        have tc := upS (o := .lst [.bl true, .bl false]) m1
        have hlw : (upd Hd w1 (.lst [.bl true, .bl false])) w1 = some (.lst [.bl true, .bl false]) := upd_same
        generalize upd Hd w1 (.lst [.bl true, .bl false]) = He at hD tc hlw ⊢
        refine lc_list (xs := [.bl true, .bl false]) (fun _ H'' => Same He H'' ∧ H'' D = some (.lst [])) ⟨upS hD, upd_same⟩ (fun _ H'' _ hp => SqL.of (hp.1 _ _ hlw)) ?_ ?_
        · intro l2 x2 Hf hx2 hp
          obtain ⟨sf, df⟩ := hp
          obtain ⟨bb2, rfl⟩ : ∃ c, x2 = .bl c := by
            have h := List.mem_of_getElem? hx2
            simp only [List.mem_cons, List.not_mem_nil, or_false] at h
            rcases h with rfl | rfl
            · exact ⟨_, rfl⟩
            · exact ⟨_, rfl⟩
          have of_ := (oud.ext tc).ext sf
          refine ⟨rfl, ?_⟩
          refine or_of (strange_no of_ (stB T) rfl rfl ?_)
          refine iteF (strangeR_no of_ (stB T) rfl rfl ?_)
          exact iteF ⟨sf, df⟩
        · intro Hf hp
          obtain ⟨sf, df⟩ := hp
          exact ⟨Nat.zero_le _, fun pe ne => ⟨.list [], .list [], .lst (SqL.of (by rw [upd_ne (ne_of_none df ne)]; exact df)) .nil, .lst (SqL.of upd_same) .nil, by decide +kernel, by decide +kernel, false, congrArg V.bl (by decide +kernel), iteF ⟨⟨_, _, _, rfl⟩, ((sd.trans tc).trans sf).trans (upS ne)⟩⟩⟩
      intro σ H15 hp
      obtain ⟨⟨y1, y2, y3, rfl⟩, s15⟩ := hp
      try dsimp only
      refine if_of ?_
      refine ⟨_, rfl, _, rfl, va, p1, va, vb, rfl, (O1c.ext s14).ext s15, ha2, fun H' s => ⟨true, rfl, iteF ?_⟩⟩
      exact ⟨⟨_, _, _, _, _, _, _, _, _, _, _, _, rfl⟩, (((SG13.trans s14).trans s15).trans s).seq hS'⟩
    · intro σ H' hp
      exact q H'
end
end K02

set_option Elab.async false
set_option linter.all false
set_option maxRecDepth 100000
set_option maxHeartbeats 4000000
namespace K02
open PySem PySem.Spec PyProof.Rows L2 J
/-! ### the head -/
def exmB (x c : Str) : Bf := fun K => decide (PySem.W.exmOne K (.ref (He.ga K x)) (.ref (He.ga K c)) = some true)
def kitB (x c : Str) : Bf := fun K => decide (PySem.W.kitOne K (.ref (He.ga K x)) (.ref (He.ga K c)) = some true)
def bf : List Bf := [derrB, clsB, errB "ByZero" "given", exmB "ByZero" "ByZero", kitB "ByZero" "DrawError", clsJ "Ratio" ["above", "under"], ownJ "Ratio", apartJ "Ratio" "int", apartJ "Ratio" "bool", apartJ "Ratio" "NoneType", apartJ "Ratio" "str", apartJ "Ratio" "list", apartJ "Ratio" "tuple", apartJ "Ratio" "dict", opJ "Ratio" "add", opJ "Ratio" "sub", opJ "Ratio" "mul", methJ "Ratio" "__add__", methJ "Ratio" "__radd__", methJ "Ratio" "__sub__", methJ "Ratio" "__rsub__", methJ "Ratio" "__mul__", methJ "Ratio" "__rmul__", methJ "Ratio" "__neg__", methJ "Ratio" "__eq__", methJ "Ratio" "__str__", methJ "Ratio" "over", methJ "Ratio" "below", propJ "Ratio" "top", propJ "Ratio" "bottom", freeB "abs", freeB "isinstance", freeB "int", freeB "bool", freeB "str", freeB "len", freeB "range", freeB "max", freeB "min", gloB "common_part", gloB "is_integer", gloB "parts_of", gloB "_law_cell", gloB "_law_box", gloB "_law_take", gloB "_law_integer", gloB "_law_common", gloB "_law_is", gloB "_law_no_quotient", gloB "_law_two_right", gloB "_law_integers_right", gloB "law"]
def fn : List DefJ := [⟨fun K => He.ma K (He.ga K "ByZero") "__init__", ⟨("ByZero", some "__init__"), "__init__", "ByZero.__init__", defArgs s_ByZero___init__, defBody s_ByZero___init__, defScope s_ByZero___init__, [], []⟩⟩,
  ⟨fun K => He.ma K (He.ga K "Ratio") "__init__", ⟨("Ratio", some "__init__"), "__init__", "Ratio.__init__", defArgs s_Ratio___init__, defBody s_Ratio___init__, defScope s_Ratio___init__, [.int 1], []⟩⟩,
  ⟨fun K => He.ma K (He.ga K "Ratio") "__add__", ⟨("Ratio", some "__add__"), "__add__", "Ratio.__add__", defArgs s_Ratio___add__, defBody s_Ratio___add__, defScope s_Ratio___add__, [], []⟩⟩,
  ⟨fun K => He.ma K (He.ga K "Ratio") "__radd__", ⟨("Ratio", some "__radd__"), "__radd__", "Ratio.__radd__", defArgs s_Ratio___radd__, defBody s_Ratio___radd__, defScope s_Ratio___radd__, [], []⟩⟩,
  ⟨fun K => He.ma K (He.ga K "Ratio") "__sub__", ⟨("Ratio", some "__sub__"), "__sub__", "Ratio.__sub__", defArgs s_Ratio___sub__, defBody s_Ratio___sub__, defScope s_Ratio___sub__, [], []⟩⟩,
  ⟨fun K => He.ma K (He.ga K "Ratio") "__rsub__", ⟨("Ratio", some "__rsub__"), "__rsub__", "Ratio.__rsub__", defArgs s_Ratio___rsub__, defBody s_Ratio___rsub__, defScope s_Ratio___rsub__, [], []⟩⟩,
  ⟨fun K => He.ma K (He.ga K "Ratio") "__mul__", ⟨("Ratio", some "__mul__"), "__mul__", "Ratio.__mul__", defArgs s_Ratio___mul__, defBody s_Ratio___mul__, defScope s_Ratio___mul__, [], []⟩⟩,
  ⟨fun K => He.ma K (He.ga K "Ratio") "__rmul__", ⟨("Ratio", some "__rmul__"), "__rmul__", "Ratio.__rmul__", defArgs s_Ratio___rmul__, defBody s_Ratio___rmul__, defScope s_Ratio___rmul__, [], []⟩⟩,
  ⟨fun K => He.ma K (He.ga K "Ratio") "__neg__", ⟨("Ratio", some "__neg__"), "__neg__", "Ratio.__neg__", defArgs s_Ratio___neg__, defBody s_Ratio___neg__, defScope s_Ratio___neg__, [], []⟩⟩,
  ⟨fun K => He.ma K (He.ga K "Ratio") "__eq__", ⟨("Ratio", some "__eq__"), "__eq__", "Ratio.__eq__", defArgs s_Ratio___eq__, defBody s_Ratio___eq__, defScope s_Ratio___eq__, [], []⟩⟩,
  ⟨fun K => He.ma K (He.ga K "Ratio") "__str__", ⟨("Ratio", some "__str__"), "__str__", "Ratio.__str__", defArgs s_Ratio___str__, defBody s_Ratio___str__, defScope s_Ratio___str__, [], []⟩⟩,
  ⟨fun K => He.ma K (He.ga K "Ratio") "over", ⟨("Ratio", some "over"), "over", "Ratio.over", defArgs s_Ratio_over, defBody s_Ratio_over, defScope s_Ratio_over, [], []⟩⟩,
  ⟨fun K => He.ma K (He.ga K "Ratio") "below", ⟨("Ratio", some "below"), "below", "Ratio.below", defArgs s_Ratio_below, defBody s_Ratio_below, defScope s_Ratio_below, [], []⟩⟩,
  ⟨pa "Ratio" "top", ⟨("Ratio", some "top"), "top", "Ratio.top", defArgs s_Ratio_top, defBody s_Ratio_top, defScope s_Ratio_top, [], []⟩⟩,
  ⟨pa "Ratio" "bottom", ⟨("Ratio", some "bottom"), "bottom", "Ratio.bottom", defArgs s_Ratio_bottom, defBody s_Ratio_bottom, defScope s_Ratio_bottom, [], []⟩⟩,
  ⟨fun K => He.ga K "common_part", ⟨("common_part", none), "common_part", "common_part", defArgs s_common_part, defBody s_common_part, defScope s_common_part, [], []⟩⟩,
  ⟨fun K => He.ga K "is_integer", ⟨("is_integer", none), "is_integer", "is_integer", defArgs s_is_integer, defBody s_is_integer, defScope s_is_integer, [], []⟩⟩,
  ⟨fun K => He.ga K "parts_of", ⟨("parts_of", none), "parts_of", "parts_of", defArgs s_parts_of, defBody s_parts_of, defScope s_parts_of, [], []⟩⟩,
  ⟨fun K => He.ga K "_law_cell", ⟨("_law_cell", none), "_law_cell", "_law_cell", defArgs s__law_cell, defBody s__law_cell, defScope s__law_cell, [], []⟩⟩,
  ⟨fun K => He.ga K "_law_box", ⟨("_law_box", none), "_law_box", "_law_box", defArgs s__law_box, defBody s__law_box, defScope s__law_box, [], []⟩⟩,
  ⟨fun K => He.ga K "_law_take", ⟨("_law_take", none), "_law_take", "_law_take", defArgs s__law_take, defBody s__law_take, defScope s__law_take, [], []⟩⟩,
  ⟨fun K => He.ga K "_law_integer", ⟨("_law_integer", none), "_law_integer", "_law_integer", defArgs s__law_integer, defBody s__law_integer, defScope s__law_integer, [], []⟩⟩,
  ⟨fun K => He.ga K "_law_common", ⟨("_law_common", none), "_law_common", "_law_common", defArgs s__law_common, defBody s__law_common, defScope s__law_common, [], []⟩⟩,
  ⟨fun K => He.ga K "_law_is", ⟨("_law_is", none), "_law_is", "_law_is", defArgs s__law_is, defBody s__law_is, defScope s__law_is, [], []⟩⟩,
  ⟨fun K => He.ga K "_law_no_quotient", ⟨("_law_no_quotient", none), "_law_no_quotient", "_law_no_quotient", defArgs s__law_no_quotient, defBody s__law_no_quotient, defScope s__law_no_quotient, [], []⟩⟩,
  ⟨fun K => He.ga K "_law_two_right", ⟨("_law_two_right", none), "_law_two_right", "_law_two_right", defArgs s__law_two_right, defBody s__law_two_right, defScope s__law_two_right, [], []⟩⟩,
  ⟨fun K => He.ga K "_law_integers_right", ⟨("_law_integers_right", none), "_law_integers_right", "_law_integers_right", defArgs s__law_integers_right, defBody s__law_integers_right, defScope s__law_integers_right, [], []⟩⟩,
  ⟨fun K => He.ga K "law", ⟨("law", none), "law", "law", defArgs s_law, defBody s_law, defScope s_law, [], []⟩⟩]
abbrev R : PySem.W.OpenRow := PySem.W.OpenLaw.row PySem.Challenge.rw_jointdraws_k02_ratios_reckoned
abbrev hk : PySem.W.Hook := hookK 5 bf fn
def ob (s : PySem.W.SharedT) : He.AlD := obsKG 5 bf fn (HandSHeadRun.getT s)
theorem ob_eq (s : PySem.W.SharedT) : ob s = hk.obs s.abs := obsKG_eq (HandSHeadRun.getT_eq s)
def loose : List Str := (["_wall", "DrawError", "ByZero", "common_part", "is_integer", "Ratio", "parts_of", "_law_cell"] : List Str) ++ (["_law_box", "_law_take", "_law_integer", "_law_common", "_law_is", "_law_no_quotient", "_law_two_right", "_law_integers_right"] : List Str)
theorem run (w : World) : HandSHeadRun.RunEq R (PySem.W.view R.prog [19]) hk ob 20000 loose w := by
  intro os
  kernel_rfl
section
variable {P : Program} {w : World} {K : PySem.W.Frag} {h : Heap} {mg : Str → Option Value} {fa : Addr}
theorem facts (X : K.In h) (G : h.Ns mainGlobals mg) (hfa : mg ("law" : Str) = some (.ref fa)) (c : SaysK bf fn K) :
    ∃ fd : FuncData, (∀ (s : Shared) (v : Value), BindsTo s fd ⟨[v], []⟩ [("_law_script", v)]) ∧ ∀ base : Heap, K.In base → base.Ns mainGlobals mg → FnG P w K mg base CX0 8 fa fd ["_law_script"] (spLaw K) := by
  have TD := derrB_ok X G (c.fact 0 (b := derrB) rfl)
  have cb := c.fact 1 (b := clsB) rfl
  have EZ := errB_ok X G (c.fact 2 (b := errB "ByZero" "given") rfl)
  have ez := of_decide_eq_true (c.fact 3 (b := exmB "ByZero" "ByZero") rfl)
  have kz := of_decide_eq_true (c.fact 4 (b := kitB "ByZero" "DrawError") rfl)
  have CJ := clsJ_ok X G (c.fact 5 (b := clsJ "Ratio" ["above", "under"]) rfl)
  have OW := ownJ_ok (c.fact 6 (b := ownJ "Ratio") rfl)
  have a_int := apartJ_ok (c.fact 7 (b := apartJ "Ratio" "int") rfl)
  have a_bool := apartJ_ok (c.fact 8 (b := apartJ "Ratio" "bool") rfl)
  have a_NoneType := apartJ_ok (c.fact 9 (b := apartJ "Ratio" "NoneType") rfl)
  have a_str := apartJ_ok (c.fact 10 (b := apartJ "Ratio" "str") rfl)
  have a_list := apartJ_ok (c.fact 11 (b := apartJ "Ratio" "list") rfl)
  have a_tuple := apartJ_ok (c.fact 12 (b := apartJ "Ratio" "tuple") rfl)
  have a_dict := apartJ_ok (c.fact 13 (b := apartJ "Ratio" "dict") rfl)
  have o_add := opJ_ok (c.fact 14 (b := opJ "Ratio" "add") rfl)
  have o_sub := opJ_ok (c.fact 15 (b := opJ "Ratio" "sub") rfl)
  have o_mul := opJ_ok (c.fact 16 (b := opJ "Ratio" "mul") rfl)
  have me___add__ := methJ_ok (c.fact 17 (b := methJ "Ratio" "__add__") rfl)
  have me___radd__ := methJ_ok (c.fact 18 (b := methJ "Ratio" "__radd__") rfl)
  have me___sub__ := methJ_ok (c.fact 19 (b := methJ "Ratio" "__sub__") rfl)
  have me___rsub__ := methJ_ok (c.fact 20 (b := methJ "Ratio" "__rsub__") rfl)
  have me___mul__ := methJ_ok (c.fact 21 (b := methJ "Ratio" "__mul__") rfl)
  have me___rmul__ := methJ_ok (c.fact 22 (b := methJ "Ratio" "__rmul__") rfl)
  have me___neg__ := methJ_ok (c.fact 23 (b := methJ "Ratio" "__neg__") rfl)
  have me___eq__ := methJ_ok (c.fact 24 (b := methJ "Ratio" "__eq__") rfl)
  have me___str__ := methJ_ok (c.fact 25 (b := methJ "Ratio" "__str__") rfl)
  have me_over := methJ_ok (c.fact 26 (b := methJ "Ratio" "over") rfl)
  have me_below := methJ_ok (c.fact 27 (b := methJ "Ratio" "below") rfl)
  have pr_top := propJ_ok (c.fact 28 (b := propJ "Ratio" "top") rfl)
  have pr_bottom := propJ_ok (c.fact 29 (b := propJ "Ratio" "bottom") rfl)
  have m_abs := freeB_ok X G (c.fact 30 (b := freeB "abs") rfl)
  have m_isinstance := freeB_ok X G (c.fact 31 (b := freeB "isinstance") rfl)
  have m_int := freeB_ok X G (c.fact 32 (b := freeB "int") rfl)
  have m_bool := freeB_ok X G (c.fact 33 (b := freeB "bool") rfl)
  have m_str := freeB_ok X G (c.fact 34 (b := freeB "str") rfl)
  have m_len := freeB_ok X G (c.fact 35 (b := freeB "len") rfl)
  have m_range := freeB_ok X G (c.fact 36 (b := freeB "range") rfl)
  have m_max := freeB_ok X G (c.fact 37 (b := freeB "max") rfl)
  have m_min := freeB_ok X G (c.fact 38 (b := freeB "min") rfl)
  have g_common_part := gloB_ok X G (c.fact 39 (b := gloB "common_part") rfl)
  have g_is_integer := gloB_ok X G (c.fact 40 (b := gloB "is_integer") rfl)
  have g_parts_of := gloB_ok X G (c.fact 41 (b := gloB "parts_of") rfl)
  have g__law_cell := gloB_ok X G (c.fact 42 (b := gloB "_law_cell") rfl)
  have g__law_box := gloB_ok X G (c.fact 43 (b := gloB "_law_box") rfl)
  have g__law_take := gloB_ok X G (c.fact 44 (b := gloB "_law_take") rfl)
  have g__law_integer := gloB_ok X G (c.fact 45 (b := gloB "_law_integer") rfl)
  have g__law_common := gloB_ok X G (c.fact 46 (b := gloB "_law_common") rfl)
  have g__law_is := gloB_ok X G (c.fact 47 (b := gloB "_law_is") rfl)
  have g__law_no_quotient := gloB_ok X G (c.fact 48 (b := gloB "_law_no_quotient") rfl)
  have g__law_two_right := gloB_ok X G (c.fact 49 (b := gloB "_law_two_right") rfl)
  have g__law_integers_right := gloB_ok X G (c.fact 50 (b := gloB "_law_integers_right") rfl)
  have g_law := gloB_ok X G (c.fact 51 (b := gloB "law") rfl)
  obtain ⟨fd_bz, F0_bz⟩ := c.def_ 0
  have F_bz : FunD K "__init__" "ByZero.__init__" (defArgs s_ByZero___init__) (defBody s_ByZero___init__) (defScope s_ByZero___init__) [] [] (He.ma K (BZ K) "__init__") fd_bz := F0_bz
  clear F0_bz
  obtain ⟨fd_init, F0_init⟩ := c.def_ 1
  have F_init : FunD K "__init__" "Ratio.__init__" (defArgs s_Ratio___init__) (defBody s_Ratio___init__) (defScope s_Ratio___init__) [.int 1] [] (He.ma K (RC K) "__init__") fd_init := F0_init
  clear F0_init
  obtain ⟨fd___add__, F0___add__⟩ := c.def_ 2
  have F___add__ : FunD K "__add__" "Ratio.__add__" (defArgs s_Ratio___add__) (defBody s_Ratio___add__) (defScope s_Ratio___add__) [] [] (He.ma K (RC K) "__add__") fd___add__ := F0___add__
  clear F0___add__
  obtain ⟨fd___radd__, F0___radd__⟩ := c.def_ 3
  have F___radd__ : FunD K "__radd__" "Ratio.__radd__" (defArgs s_Ratio___radd__) (defBody s_Ratio___radd__) (defScope s_Ratio___radd__) [] [] (He.ma K (RC K) "__radd__") fd___radd__ := F0___radd__
  clear F0___radd__
  obtain ⟨fd___sub__, F0___sub__⟩ := c.def_ 4
  have F___sub__ : FunD K "__sub__" "Ratio.__sub__" (defArgs s_Ratio___sub__) (defBody s_Ratio___sub__) (defScope s_Ratio___sub__) [] [] (He.ma K (RC K) "__sub__") fd___sub__ := F0___sub__
  clear F0___sub__
  obtain ⟨fd___rsub__, F0___rsub__⟩ := c.def_ 5
  have F___rsub__ : FunD K "__rsub__" "Ratio.__rsub__" (defArgs s_Ratio___rsub__) (defBody s_Ratio___rsub__) (defScope s_Ratio___rsub__) [] [] (He.ma K (RC K) "__rsub__") fd___rsub__ := F0___rsub__
  clear F0___rsub__
  obtain ⟨fd___mul__, F0___mul__⟩ := c.def_ 6
  have F___mul__ : FunD K "__mul__" "Ratio.__mul__" (defArgs s_Ratio___mul__) (defBody s_Ratio___mul__) (defScope s_Ratio___mul__) [] [] (He.ma K (RC K) "__mul__") fd___mul__ := F0___mul__
  clear F0___mul__
  obtain ⟨fd___rmul__, F0___rmul__⟩ := c.def_ 7
  have F___rmul__ : FunD K "__rmul__" "Ratio.__rmul__" (defArgs s_Ratio___rmul__) (defBody s_Ratio___rmul__) (defScope s_Ratio___rmul__) [] [] (He.ma K (RC K) "__rmul__") fd___rmul__ := F0___rmul__
  clear F0___rmul__
  obtain ⟨fd___neg__, F0___neg__⟩ := c.def_ 8
  have F___neg__ : FunD K "__neg__" "Ratio.__neg__" (defArgs s_Ratio___neg__) (defBody s_Ratio___neg__) (defScope s_Ratio___neg__) [] [] (He.ma K (RC K) "__neg__") fd___neg__ := F0___neg__
  clear F0___neg__
  obtain ⟨fd___eq__, F0___eq__⟩ := c.def_ 9
  have F___eq__ : FunD K "__eq__" "Ratio.__eq__" (defArgs s_Ratio___eq__) (defBody s_Ratio___eq__) (defScope s_Ratio___eq__) [] [] (He.ma K (RC K) "__eq__") fd___eq__ := F0___eq__
  clear F0___eq__
  obtain ⟨fd___str__, F0___str__⟩ := c.def_ 10
  have F___str__ : FunD K "__str__" "Ratio.__str__" (defArgs s_Ratio___str__) (defBody s_Ratio___str__) (defScope s_Ratio___str__) [] [] (He.ma K (RC K) "__str__") fd___str__ := F0___str__
  clear F0___str__
  obtain ⟨fd_over, F0_over⟩ := c.def_ 11
  have F_over : FunD K "over" "Ratio.over" (defArgs s_Ratio_over) (defBody s_Ratio_over) (defScope s_Ratio_over) [] [] (He.ma K (RC K) "over") fd_over := F0_over
  clear F0_over
  obtain ⟨fd_below, F0_below⟩ := c.def_ 12
  have F_below : FunD K "below" "Ratio.below" (defArgs s_Ratio_below) (defBody s_Ratio_below) (defScope s_Ratio_below) [] [] (He.ma K (RC K) "below") fd_below := F0_below
  clear F0_below
  obtain ⟨fd_top, F0_top⟩ := c.def_ 13
  have F_top : FunD K "top" "Ratio.top" (defArgs s_Ratio_top) (defBody s_Ratio_top) (defScope s_Ratio_top) [] [] (pa "Ratio" "top" K) fd_top := F0_top
  clear F0_top
  obtain ⟨fd_bottom, F0_bottom⟩ := c.def_ 14
  have F_bottom : FunD K "bottom" "Ratio.bottom" (defArgs s_Ratio_bottom) (defBody s_Ratio_bottom) (defScope s_Ratio_bottom) [] [] (pa "Ratio" "bottom" K) fd_bottom := F0_bottom
  clear F0_bottom
  obtain ⟨fd_common_part, F0_common_part⟩ := c.def_ 15
  have F_common_part : FunD K "common_part" "common_part" (defArgs s_common_part) (defBody s_common_part) (defScope s_common_part) [] [] (He.ga K "common_part") fd_common_part := F0_common_part
  clear F0_common_part
  obtain ⟨fd_is_integer, F0_is_integer⟩ := c.def_ 16
  have F_is_integer : FunD K "is_integer" "is_integer" (defArgs s_is_integer) (defBody s_is_integer) (defScope s_is_integer) [] [] (He.ga K "is_integer") fd_is_integer := F0_is_integer
  clear F0_is_integer
  obtain ⟨fd_parts_of, F0_parts_of⟩ := c.def_ 17
  have F_parts_of : FunD K "parts_of" "parts_of" (defArgs s_parts_of) (defBody s_parts_of) (defScope s_parts_of) [] [] (He.ga K "parts_of") fd_parts_of := F0_parts_of
  clear F0_parts_of
  obtain ⟨fd__law_cell, F0__law_cell⟩ := c.def_ 18
  have F__law_cell : FunD K "_law_cell" "_law_cell" (defArgs s__law_cell) (defBody s__law_cell) (defScope s__law_cell) [] [] (He.ga K "_law_cell") fd__law_cell := F0__law_cell
  clear F0__law_cell
  obtain ⟨fd__law_box, F0__law_box⟩ := c.def_ 19
  have F__law_box : FunD K "_law_box" "_law_box" (defArgs s__law_box) (defBody s__law_box) (defScope s__law_box) [] [] (He.ga K "_law_box") fd__law_box := F0__law_box
  clear F0__law_box
  obtain ⟨fd__law_take, F0__law_take⟩ := c.def_ 20
  have F__law_take : FunD K "_law_take" "_law_take" (defArgs s__law_take) (defBody s__law_take) (defScope s__law_take) [] [] (He.ga K "_law_take") fd__law_take := F0__law_take
  clear F0__law_take
  obtain ⟨fd__law_integer, F0__law_integer⟩ := c.def_ 21
  have F__law_integer : FunD K "_law_integer" "_law_integer" (defArgs s__law_integer) (defBody s__law_integer) (defScope s__law_integer) [] [] (He.ga K "_law_integer") fd__law_integer := F0__law_integer
  clear F0__law_integer
  obtain ⟨fd__law_common, F0__law_common⟩ := c.def_ 22
  have F__law_common : FunD K "_law_common" "_law_common" (defArgs s__law_common) (defBody s__law_common) (defScope s__law_common) [] [] (He.ga K "_law_common") fd__law_common := F0__law_common
  clear F0__law_common
  obtain ⟨fd__law_is, F0__law_is⟩ := c.def_ 23
  have F__law_is : FunD K "_law_is" "_law_is" (defArgs s__law_is) (defBody s__law_is) (defScope s__law_is) [] [] (He.ga K "_law_is") fd__law_is := F0__law_is
  clear F0__law_is
  obtain ⟨fd__law_no_quotient, F0__law_no_quotient⟩ := c.def_ 24
  have F__law_no_quotient : FunD K "_law_no_quotient" "_law_no_quotient" (defArgs s__law_no_quotient) (defBody s__law_no_quotient) (defScope s__law_no_quotient) [] [] (He.ga K "_law_no_quotient") fd__law_no_quotient := F0__law_no_quotient
  clear F0__law_no_quotient
  obtain ⟨fd__law_two_right, F0__law_two_right⟩ := c.def_ 25
  have F__law_two_right : FunD K "_law_two_right" "_law_two_right" (defArgs s__law_two_right) (defBody s__law_two_right) (defScope s__law_two_right) [] [] (He.ga K "_law_two_right") fd__law_two_right := F0__law_two_right
  clear F0__law_two_right
  obtain ⟨fd__law_integers_right, F0__law_integers_right⟩ := c.def_ 26
  have F__law_integers_right : FunD K "_law_integers_right" "_law_integers_right" (defArgs s__law_integers_right) (defBody s__law_integers_right) (defScope s__law_integers_right) [] [] (He.ga K "_law_integers_right") fd__law_integers_right := F0__law_integers_right
  clear F0__law_integers_right
  obtain ⟨fd_law, F0_law⟩ := c.def_ 27
  have F_law : FunD K "law" "law" (defArgs s_law) (defBody s_law) (defScope s_law) [] [] (He.ga K "law") fd_law := F0_law
  clear F0_law
  have e := hfa.symm.trans g_law
  cases e
  refine ⟨fd_law, fun s v => FunD.bindsA (ps := ["_law_script"]) F_law (fun _ _ _ _ _ _ us hl => match us, hl with | [_], _ => rfl) s [v] rfl, fun base _ _ => ?_⟩
  have hme : ∀ m ∈ (["__neg__", "__eq__", "__str__", "over", "below"] : List Str), Meth K (RC K) m (He.ma K (RC K) m) := by
    intro m hm
    simp only [List.mem_cons, List.not_mem_nil, or_false] at hm
    rcases hm with rfl | rfl | rfl | rfl | rfl
    · exact me___neg__
    · exact me___eq__
    · exact me___str__
    · exact me_over
    · exact me_below
  have T : Tr P w K mg base := ⟨CJ, OW.1, OW.2, a_int, a_bool, o_add, o_sub, o_mul, hme, EZ, a_NoneType, a_str, a_list, a_tuple, a_dict, m_len, m_range, m_max, m_min, EZ.is cb, ez, kz, TD.gD, m_abs, m_isinstance, m_int, m_bool, m_str⟩
  have z : FnOk P w K mg base CX0 1 (He.ma K (BZ K) "__init__") fd_bz ["self"] (spErr0 (BZ K)) ∧ Binds K fd_bz ["self"] [] :=
    ⟨ok_err0 F_bz rfl rfl (by decide) TD EZ.c.oex, F_bz.bindsN fun _ _ _ _ _ _ us hl => match us, hl with | [_], _ => rfl⟩
  have c_common_part : Cal P w K mg base "common_part" ["one", "other"] 1 spGcd := ⟨_, fd_common_part, g_common_part, F_common_part.kp, (ok_common_part F_common_part T), F_common_part.bindsN fun _ _ _ _ _ _ us hl => match us, hl with | [_, _], _ => rfl⟩
  have c_is_integer : Cal P w K mg base "is_integer" ["value"] 1 (spIsInt K) := ⟨_, fd_is_integer, g_is_integer, F_is_integer.kp, (ok_is_integer F_is_integer T), F_is_integer.bindsN fun _ _ _ _ _ _ us hl => match us, hl with | [_], _ => rfl⟩
  have c_parts_of : Cal P w K mg base "parts_of" ["number"] 1 (spParts K) := ⟨_, fd_parts_of, g_parts_of, F_parts_of.kp, (ok_parts_of F_parts_of T), F_parts_of.bindsN fun _ _ _ _ _ _ us hl => match us, hl with | [_], _ => rfl⟩
  have FI := ok_init F_init T z c_common_part
  obtain ⟨ds1, hd1, hb1⟩ := F_init.binds1 (ps := ["self", "top", "bottom"]) 2 0 (by simp) rfl (fun T kV doc pm an cdv ct us its l1 l2 => match us, its, l1, l2 with | [_, _], [_], _, _ => ⟨_, rfl, rfl⟩)
  obtain ⟨ds2, hd2, hb2⟩ := F_init.binds1 (ps := ["self", "top", "bottom"]) 3 1 (by simp) rfl (fun T kV doc pm an cdv ct us its l1 l2 => match us, its, l1, l2 with | [_, _, _], [_], _, _ => ⟨_, rfl, rfl⟩)
  have k1_Ratio : KCal P w K mg base "Ratio" (RC K) ["self", "top", "bottom"] 3 (spInit K) [.int 1] := ⟨_, fd_init, ds1, CJ.g, CJ.mkc, FI, hb1, hd1⟩
  have k2_Ratio : KCal P w K mg base "Ratio" (RC K) ["self", "top", "bottom"] 3 (spInit K) [] := ⟨_, fd_init, ds2, CJ.g, CJ.mkc, FI, hb2, hd2⟩
  obtain ⟨itsN, hbN⟩ := F_init.kbindsD (ps := ["self", "top", "bottom"]) 2 ["bottom"] (fun us _ ws => us ++ ws) (by simp) (fun r1 _ r3 => r1.append r3) (fun T kV doc pm an cdv ct us its ws l1 l2 l3 => match us, its, ws, l1, l2, l3 with | [_, _], [_], [_], _, _, _ => ⟨_, rfl, rfl⟩)
  have kn_Ratio : KCalN P w K mg base "Ratio" (RC K) ["self", "top", "bottom"] 3 (spInit K) 1 ["bottom"] gKw := ⟨_, fd_init, _, CJ.g, CJ.mkc, FI, hbN⟩
  have m_add : MCal P w K mg base (RC K) "__add__" ["self", "other"] 5 (spBin K fAdd) := ⟨_, fd___add__, me___add__, ok_add F___add__ T c_parts_of k2_Ratio, F___add__.bindsN fun _ _ _ _ _ _ us hl => match us, hl with | [_, _], _ => rfl⟩
  have m_sub : MCal P w K mg base (RC K) "__sub__" ["self", "other"] 5 (spBin K fSub) := ⟨_, fd___sub__, me___sub__, ok_sub F___sub__ T c_parts_of k2_Ratio, F___sub__.bindsN fun _ _ _ _ _ _ us hl => match us, hl with | [_, _], _ => rfl⟩
  have m_mul : MCal P w K mg base (RC K) "__mul__" ["self", "other"] 5 (spBin K fMul) := ⟨_, fd___mul__, me___mul__, ok_mul F___mul__ T c_parts_of k2_Ratio, F___mul__.bindsN fun _ _ _ _ _ _ us hl => match us, hl with | [_, _], _ => rfl⟩
  have m_neg : MCal P w K mg base (RC K) "__neg__" ["self"] 5 (spNeg K) := ⟨_, fd___neg__, me___neg__, ok_neg F___neg__ T k2_Ratio, F___neg__.bindsN fun _ _ _ _ _ _ us hl => match us, hl with | [_], _ => rfl⟩
  have m_radd : MCal P w K mg base (RC K) "__radd__" ["self", "other"] 6 (spBin K fAdd) := ⟨_, fd___radd__, me___radd__, ok_radd F___radd__ T m_add, F___radd__.bindsN fun _ _ _ _ _ _ us hl => match us, hl with | [_, _], _ => rfl⟩
  have m_rsub : MCal P w K mg base (RC K) "__rsub__" ["self", "other"] 6 (spBin K fRsub) := ⟨_, fd___rsub__, me___rsub__, ok_rsub F___rsub__ T m_add m_neg, F___rsub__.bindsN fun _ _ _ _ _ _ us hl => match us, hl with | [_, _], _ => rfl⟩
  have m_rmul : MCal P w K mg base (RC K) "__rmul__" ["self", "other"] 6 (spBin K fMul) := ⟨_, fd___rmul__, me___rmul__, ok_rmul F___rmul__ T m_mul, F___rmul__.bindsN fun _ _ _ _ _ _ us hl => match us, hl with | [_, _], _ => rfl⟩
  have m_eq : MCal P w K mg base (RC K) "__eq__" ["self", "other"] 2 (spEq K) := ⟨_, fd___eq__, me___eq__, ok_eq F___eq__ T c_is_integer, F___eq__.bindsN fun _ _ _ _ _ _ us hl => match us, hl with | [_, _], _ => rfl⟩
  have m_strm : MCal P w K mg base (RC K) "__str__" ["self"] 1 (spStr K) := ⟨_, fd___str__, me___str__, ok_str F___str__ T, F___str__.bindsN fun _ _ _ _ _ _ us hl => match us, hl with | [_], _ => rfl⟩
  have m_over : MCal P w K mg base (RC K) "over" ["self", "number"] 5 (spOver K) := ⟨_, fd_over, me_over, ok_over F_over T c_parts_of k2_Ratio, F_over.bindsN fun _ _ _ _ _ _ us hl => match us, hl with | [_, _], _ => rfl⟩
  have m_below : MCal P w K mg base (RC K) "below" ["self", "number"] 2 (spBelow K) := ⟨_, fd_below, me_below, ok_below F_below T c_parts_of, F_below.bindsN fun _ _ _ _ _ _ us hl => match us, hl with | [_, _], _ => rfl⟩
  have p_top : PCal P w K mg base (RC K) "top" 1 (getSp (RC K) "above") := ⟨_, _, fd_top, pr_top, ok_get_top F_top T, F_top.bindsN fun _ _ _ _ _ _ us hl => match us, hl with | [_], _ => rfl⟩
  have p_bottom : PCal P w K mg base (RC K) "bottom" 1 (getSp (RC K) "under") := ⟨_, _, fd_bottom, pr_bottom, ok_get_bottom F_bottom T, F_bottom.bindsN fun _ _ _ _ _ _ us hl => match us, hl with | [_], _ => rfl⟩
  have c__law_cell : Cal P w K mg base "_law_cell" ["_law_script", "_law_k"] 1 (spCellL K) := ⟨_, fd__law_cell, g__law_cell, F__law_cell.kp, FnOk.up (ok_cell F__law_cell m_len), F__law_cell.bindsN fun _ _ _ _ _ _ us hl => match us, hl with | [_, _], _ => rfl⟩
  have c__law_box : Cal P w K mg base "_law_box" ["_law_cell_here"] 1 spBoxL := ⟨_, fd__law_box, g__law_box, F__law_box.kp, FnOk.up (ok_box F__law_box m_abs m_int), F__law_box.bindsN fun _ _ _ _ _ _ us hl => match us, hl with | [_], _ => rfl⟩
  have c__law_take : Cal P w K mg base "_law_take" ["_law_box_here", "_law_many"] 1 spTakeL := ⟨_, fd__law_take, g__law_take, F__law_take.kp, FnOk.up (ok_take F__law_take m_int), F__law_take.bindsN fun _ _ _ _ _ _ us hl => match us, hl with | [_, _], _ => rfl⟩
  have c__law_integer : Cal P w K mg base "_law_integer" ["_law_box_here"] 2 spInteger := ⟨_, fd__law_integer, g__law_integer, F__law_integer.kp, (ok__law_integer F__law_integer T c__law_take), F__law_integer.bindsN fun _ _ _ _ _ _ us hl => match us, hl with | [_], _ => rfl⟩
  have c__law_common : Cal P w K mg base "_law_common" ["_law_one", "_law_other"] 1 spGcd := ⟨_, fd__law_common, g__law_common, F__law_common.kp, (ok__law_common F__law_common T), F__law_common.bindsN fun _ _ _ _ _ _ us hl => match us, hl with | [_, _], _ => rfl⟩
  have c__law_is : Cal P w K mg base "_law_is" ["_law_ratio", "_law_top", "_law_under"] 3 (spLawIs K) := ⟨_, fd__law_is, g__law_is, F__law_is.kp, (ok__law_is F__law_is T c__law_common p_top p_bottom), F__law_is.bindsN fun _ _ _ _ _ _ us hl => match us, hl with | [_, _, _], _ => rfl⟩
  have c__law_two_right : Cal P w K mg base "_law_two_right" ["_law_one", "_law_other", "_law_a", "_law_b", "_law_c", "_law_d"] 7 (spTwo K) := ⟨_, fd__law_two_right, g__law_two_right, F__law_two_right.kp, (ok__law_two_right F__law_two_right T c__law_is m_add m_sub m_mul m_neg m_eq m_over m_below), F__law_two_right.bindsN fun _ _ _ _ _ _ us hl => match us, hl with | [_, _, _, _, _, _], _ => rfl⟩
  have c__law_integers_right : Cal P w K mg base "_law_integers_right" ["_law_one", "_law_a", "_law_b", "_law_number"] 7 (spInts K) := ⟨_, fd__law_integers_right, g__law_integers_right, F__law_integers_right.kp, (ok__law_integers_right F__law_integers_right T c__law_is m_add m_sub m_mul m_radd m_rsub m_rmul m_eq m_over m_below k1_Ratio), F__law_integers_right.bindsN fun _ _ _ _ _ _ us hl => match us, hl with | [_, _, _, _], _ => rfl⟩
  have c__law_no_quotient : Cal P w K mg base "_law_no_quotient" ["_law_top", "_law_ratio"] 6 (spNoQ K) := ⟨_, fd__law_no_quotient, g__law_no_quotient, F__law_no_quotient.kp, (ok__law_no_quotient F__law_no_quotient T k2_Ratio m_over), F__law_no_quotient.bindsN fun _ _ _ _ _ _ us hl => match us, hl with | [_, _], _ => rfl⟩
  exact g_of (ok_law F_law T c__law_cell c__law_box c__law_take c__law_integer c__law_is c__law_two_right c__law_integers_right c__law_no_quotient m_eq m_strm k1_Ratio k2_Ratio kn_Ratio)
end
end K02
open PySem PySem.W PySem.Calls PyProof.Rows
theorem PySem.Challenge.cw_jointdraws_k02_ratios_reckoned_holds : PySem.Challenge.rw_jointdraws_k02_ratios_reckoned.Holds := by
  w_on; o_law
  refine HandSHeadRun.head_any (r := OpenLaw.row PySem.Challenge.rw_jointdraws_k02_ratios_reckoned) (q := view (OpenLaw.row PySem.Challenge.rw_jointdraws_k02_ratios_reckoned).prog [19]) (H := K02.hk) (ob := K02.ob) (M := 20000) (loose := K02.loose) (d := HandSHeadRun.topDef (OpenLaw.row PySem.Challenge.rw_jointdraws_k02_ratios_reckoned).prog 19) (kwd := []) K02.ob_eq
    (by kernel_rfl) (fun s => by kernel_rfl) K02.run (by kernel_rfl) (by kernel_rfl) (by kernel_rfl) (by rfl) (by first | assumption | decide +kernel) (by decide +kernel) ⟨rfl, rfl, rfl, rfl, rfl, by decide +kernel⟩ ?hw ?hc
  case hw => w_witness2
  case hc =>
    refine J.walk_G (l := PySem.Challenge.rw_jointdraws_k02_ratios_reckoned) (n := 63) (k := 8) (x := "_law_script") rfl (by decide) (by kernel_rfl) ⟨rfl, by decide, by decide⟩ ?F
    intro w mg fa h Y G hmg0
    obtain ⟨K, KX, c⟩ := Y
    have hmg : mg ("law" : PySem.Str) = some (.ref fa) := by
      have e : (HandSHeadRun.topDef (OpenLaw.row PySem.Challenge.rw_jointdraws_k02_ratios_reckoned).prog 19).name = ("law" : PySem.Str) := by kernel_rfl
      rw [← e]
      exact hmg0
    obtain ⟨fd, hb, hF⟩ := K02.facts (P := (PySem.Challenge.rw_jointdraws_k02_ratios_reckoned).prog) (w := w) KX G hmg c
    exact ⟨K, fd, K02.spLaw K, KX, hb, fun H a ns hl _ hS => ⟨a, ns, rfl, hS, hl, fun _ => rfl⟩, hF⟩
#print axioms PySem.Challenge.cw_jointdraws_k02_ratios_reckoned_holds

