import PyProof.Rows.All
import Wide.All
import OpenK.AllK
import Wide.FinOn
import KE.KIsAll
import KE.KExcIs
import KE.KTryMore
import KE.KStateDown
import HandS.ForMost
import HandS.ForExc
import HandS.Defaults
import HandS.Wide
import HandS.ExcInit
import HandS.ExcIs
import HandS.ExcField
import HandS.ClsMeth
import HandS.Head0
import HandS.Head1
import HandS.Head2
import HandS.HeadEnd
import HandS.HeadHook1
import HandS.HeadHook2
import PySem.Challenge.RW_jointdraws_k01_errors
set_option Elab.async false
set_option linter.all false
set_option maxRecDepth 100000
set_option maxHeartbeats 4000000
/-! J1: promises at given surroundings (so that it may be known that nothing is being shown), own errors as values, a law's draws. -/
namespace J
open PySem PySem.Spec PyProof.Rows L2

/-! ### a promise at the surroundings A -/
/-- at the surroundings A the def at f keeps the promise sp -/
structure FnAt (P : Program) (w : World) (K : PySem.W.Frag) (mg : Str → Option Value) (base : Heap) (CX : CXT) (A : Around) (f : Addr) (fd : FuncData) (ps : List Str) (sp : Sp) : Prop where
  len : ∀ vs H Q E, sp vs H Q E → vs.length = ps.length
  run : ∀ (outer : List Env) (s : Shared) (H : Hp) (args : Args) (us : List Value) (vs : List V) (Q : VK) (E : XK), Env0 P w K mg base A outer s H → BindsTo s fd args (ps.zip us) → Vals vs us → sp vs H Q E →
    codeAny (model P w) A (.call (.ref f) args) (CR CX outer P w H s Q E) s
/-- .. wherever there is room for k calls and nothing is being shown -/
def FnG (P : Program) (w : World) (K : PySem.W.Frag) (mg : Str → Option Value) (base : Heap) (CX : CXT) (k : Nat) (f : Addr) (fd : FuncData) (ps : List Str) (sp : Sp) : Prop :=
  ∀ A : Around, A.guards = some [] → Room k A → FnAt P w K mg base CX A f fd ps sp
section
variable {P : Program} {w : World} {K : PySem.W.Frag} {mg : Str → Option Value} {base : Heap} {CX : CXT} {j k : Nat} {A : Around} {f : Addr} {fd : FuncData} {ps : List Str} {sp sp' : Sp}
theorem at_of (F : FnOk P w K mg base CX k f fd ps sp) (hr : Room k A) : FnAt P w K mg base CX A f fd ps sp :=
  ⟨F.len, fun outer s H args us vs Q E => F.run A outer s H args us vs Q E hr⟩
theorem g_of (F : FnOk P w K mg base CX k f fd ps sp) : FnG P w K mg base CX k f fd ps sp := fun _ _ hr => at_of F hr
theorem FnG.mono (F : FnG P w K mg base CX j f fd ps sp) (h : j ≤ k) : FnG P w K mg base CX k f fd ps sp := fun A hg hr => F A hg (hr.mono h)

/-- a def by its body, at A -/
theorem fnAt_of {name qual : Str} {params : Arguments} {body : List Stmt} {scope : Scope} {dV kV doc pm cdv ct oc : Value} {an od : Option Addr} {osl : Array (Option Value)} {N : List Str}
    (lk : K.lookup f = some ⟨oc, od, .func (PySem.W.fnOf name qual params body scope dV kV doc pm an cdv ct), osl⟩) (hcd : PySem.W.codeIn K cdv qual = true) (S : FnScope N ps scope) (dep : A.depth < recursionLimit) (hh : A.handled = none)
    (len : ∀ vs H Q E, sp vs H Q E → vs.length = ps.length)
    (hbody : ∀ (outer : List Env) (s : Shared) (H : Hp) (vs : List V) (Q : VK) (E : XK), sp vs H Q E →
      ∃ t, PSs (cxOf CX P w K mg base N qual scope f cdv A outer s H E) body t ∧ t { nx := fun _ H' => Q .non H', rt := Q } (start N vs) H) :
    FnAt P w K mg base CX A f (PySem.W.fnOf name qual params body scope dV kV doc pm an cdv ct) ps sp := by
  constructor
  · exact len
  · intro outer s H args us vs Q E e0 hb hv hsp
    have inK : K.In s.heap := e0.mod.kin.keeps fun b o z => (e0.bs b o z).1
    have noL : s.heap.NoLimit := e0.mod.nolimit.keeps fun b o z => (e0.bs b o z).1
    have kinds : ∀ y ∈ ps.zip us, scope.names.lookup y.1 = some .local ∨ (scope.names.lookup y.1 = some .cell ∧ ((cellsFrom (s.heap.objs.size + 1) scope.names []).lookup y.1).isSome = true) := by
      intro y hy
      rcases S.par y.1 (List.of_mem_zip hy).1 with q | q
      · exact Or.inl q
      · exact Or.inr ⟨q, PySem.W.cellsFrom_some _ _ _ (Or.inl q)⟩
    refine codeAny_call_function dep (inK _ _ lk) rfl S.co S.gen rfl (PySem.W.codeRec_of inK hcd) (hb _ _ _ _ ?_)
    refine wpAny_newFunctionEnv_cells S.kind kinds fun env he s1 x => ?_
    subst he
    refine ⟨noL.keeps x.toInCall.keep, codeAny_func ?_⟩
    obtain ⟨t, ht, hq⟩ := hbody outer s H vs Q E hsp
    have I : Inv (cxOf CX P w K mg base N qual scope f cdv A outer s H E) [] (start N vs) H s1 := inv_start S hh e0 (len _ _ _ _ hsp) hv x
    refine wpAny_mono (ht.run [] s1 (start N vs) H _ I hq) (fun fl s' hs => ?_) fun e s' hs => hs
    match fl, hs with
    | .ret u, ⟨v, σ', H', J, rv, q⟩ => exact ⟨v, H', J.os, J.bare, J.base, J.hok, rv, q⟩
    | .next, ⟨σ', H', J, q⟩ => exact ⟨V.non, H', J.os, J.bare, J.base, J.hok, rfl, q⟩
    | .brk, ⟨_, _, _, q⟩ => exact q.elim
    | .cont, ⟨_, _, _, q⟩ => exact q.elim
/-- .. of a def that stands behind the top -/
theorem fnG_of {x qual : Str} {params : Arguments} {body : List Stmt} {scope : Scope} {dvs : List V} {kws : List (Str × V)} {N : List Str} (F : FunD K x qual params body scope dvs kws f fd) (S : FnScope N ps scope) (len : ∀ vs H Q E, sp vs H Q E → vs.length = ps.length)
    (hbody : ∀ (cdv : Value) (A : Around) (outer : List Env) (s : Shared) (H : Hp) (vs : List V) (Q : VK) (E : XK), A.guards = some [] → Room k (A.deeper (envOfC qual scope s.heap.objs.size f cdv)) → sp vs H Q E →
      ∃ t, PSs (cxOf CX P w K mg base N qual scope f cdv A outer s H E) body t ∧ t { nx := fun _ H' => Q .non H', rt := Q } (start N vs) H) : FnG P w K mg base CX (k + 1) f fd ps sp := by
  intro A hg hr
  obtain ⟨oc, od, dV, kV, doc, pm, an, cdv, ct, osl, rfl, lk, hcd, _, _⟩ := F.ex
  exact fnAt_of lk hcd S hr.depth hr.hd len fun outer s H vs Q E hsp => hbody cdv A outer s H vs Q E hg (hr.deeper _) hsp
end

section
variable {X : Cx} {CX : CXT} {k : Nat} {f C : Addr} {fd : FuncData} {ps : List Str} {sp : Sp} {dvs : List V} {ds : List Value} {E : XK} {x m : Str} {p pos apos : Pos} {e o : Expr} {es : List Expr} {ta : TE} {t : TA}
theorem run_at {pins : List (Addr × Obj)} {σ : L2.St} {H : Hp} {s : Shared} {Q : VK} {us : List Value} {vs : List V} (F : FnAt X.prog X.w X.K X.mg X.base CX X.A f fd ps sp) (hb : Binds X.K fd ps ds) (hd : Vals dvs ds) (hx : Passes CX X E)
    (I : Inv X pins σ H s) (r : Vals vs us) (h : sp (vs ++ dvs) H Q E) : wpAny (model X.prog X.w) X.A (call (.ref f) us) (EP X pins σ Q) X.xe s := by
  have rr : Vals (vs ++ dvs) (us ++ ds) := r.append hd
  have ll : (us ++ ds).length = ps.length := by rw [← rr.length]; exact F.len _ _ _ _ h
  refine wpAny_call (codeAny_mono (F.run X.stack s H ⟨us, []⟩ (us ++ ds) (vs ++ dvs) Q E I.env0 (hb s us I.kIn ll) rr h) fun z s' hz => ?_)
  match z, hz with
  | .error e, hz => exact hx pins σ H s e s' I hz
  | .ok (.ret u), hz => exact I.after hz
  | .ok .next, hz => exact hz.elim
  | .ok .brk, hz => exact hz.elim
  | .ok .cont, hz => exact hz.elim
/-- f(e, ..), f's promise at these surroundings -/
theorem pe_callA (F : FnAt X.prog X.w X.K X.mg X.base CX X.A f fd ps sp) (hg : Gl X x) (hm : X.mg x = some (.ref f)) (hk : PySem.W.keepIn X.K (.ref f) = true) (hb : Binds X.K fd ps ds) (hd : Vals dvs ds) (hx : Passes CX X E)
    (ha : PA X (e :: es) t) (hdb : (x == ("__debug__" : Str)) = false := by decide) (he : starEach (e :: es) X.env = (false, eval e X.env) :: starEach es X.env := by rfl) (hpl : (backTo pos (starEach es X.env)).any (·.1) = false := by rfl) :
    PE X (.Call (.Name x p) (e :: es) [] pos) (tCall sp dvs E t) := by
  constructor
  intro pins s σ H Q I h
  refine wpAny_Call_Name_kw (ld_glob I hg hm ?_ hdb)
  exact PySem.W.callWith_K (h₀ := X.base) I.ok.mod.kin hk (thn (ha.run pos pins s σ H _ I h) fun us s1 ⟨vs, H1, I1, r, q⟩ => ⟨I1.kIn, run_at F hb hd hx I1 r q⟩) he hpl
/-- f() -/
theorem pe_callA0 (F : FnAt X.prog X.w X.K X.mg X.base CX X.A f fd ps sp) (hg : Gl X x) (hm : X.mg x = some (.ref f)) (hk : PySem.W.keepIn X.K (.ref f) = true) (hb : Binds X.K fd ps ds) (hd : Vals dvs ds) (hx : Passes CX X E)
    (hdb : (x == ("__debug__" : Str)) = false := by decide) : PE X (.Call (.Name x p) [] [] pos) (tCall sp dvs E tNil) := by
  constructor
  intro pins s σ H Q I h
  refine wpAny_Call_Name_kw (ld_glob I hg hm ?_ hdb)
  exact PySem.W.callWith_K0 I.kIn hk (run_at (us := []) F hb hd hx I .nil h)
end

/-! ### own errors -/
/-- what of DrawError's class is asked where its __init__ is read off it -/
structure DErr (K : PySem.W.Frag) (mg : Str → Option Value) (D : Addr) : Prop where
  gD : mg "DrawError" = some (.ref D)
  rd : PySem.W.readsIn K D (.type "type") = true
  ga : PySem.W.specialIn K (.ref D) "__getattribute__" = some (some (.builtin "type.__getattribute__"))
  ini : PySem.W.findCls K (.ref D) (.type "type") "__init__" = some (.val (.builtin "ValueError.__init__"))
/-- a method's call whose name and brackets stand on one row -/
theorem meth_row {o : Expr} {name : Str} {apos pos : Pos} {args : List Expr} {env : Env} (hb : attributeBase o name env (eval o env) = eval o env) (hf : methodCallForm (args.length + 0) (backTo pos (starEach args env)) (backToKw pos (keywordEach [] env)) = true)
    (hl : (apos.endLine == pos.line) = true) : eval (.Call (.Attribute o name apos) args [] pos) env = (do
      let ov ← eval o env
      standAt apos.atName
      let (f, first) ← holding [ov] (getMethod ov name (do return (← importBound o env).getD true))
      callWith pos f first (backTo pos (starEach args env)) (backToKw pos (keywordEach [] env))) := by
  show (do
    let ov ← attributeBase o name env (eval o env)
    standAt apos.atName
    methodCall o name apos pos env ov (args.length + 0) (backTo pos (starEach args env)) (backToKw pos (keywordEach [] env))) = _
  rw [hb]
  unfold methodCall calleeOf methodCallPos
  rw [hf]
  simp only [hl, if_true, Bool.not_true, Bool.false_or, pure_bind]
section
variable {X : Cx} {D : Addr} {e : Expr} {es : List Expr} {ta : TA} {p1 p2 pos : Pos}
/-- DrawError.__init__(self, ..) -/
theorem pe_dinit {pl : Sem Bool} (T : DErr X.K X.mg D) (hg : Gl X "DrawError") (ha : PA X (e :: es) ta)
    (hc : eval (.Call (.Attribute (.Name "DrawError" p1) "__init__" p2) (e :: es) [] pos) X.env = (do
      let ov ← eval (.Name "DrawError" p1) X.env
      standAt p2.atName
      let (f, first) ← holding [ov] (getMethod ov "__init__" pl)
      callWith pos f first (backTo pos (starEach (e :: es) X.env)) (backToKw pos (keywordEach [] X.env))) := by rfl)
    (he : starEach (e :: es) X.env = (false, eval e X.env) :: starEach es X.env := by rfl) (hpl : (backTo pos (starEach es X.env)).any (·.1) = false := by rfl) :
    PE X (.Call (.Attribute (.Name "DrawError" p1) "__init__" p2) (e :: es) [] pos) (tVeI X.K ta) := by
  constructor
  intro pins s σ H Q I h
  refine PySem.W.methodCall_KW (ld_glob I hg T.gD ?_ (by decide)) hc
  refine PySem.W.method_cls I.kIn T.ga (PySem.W.cls_value I.kIn T.rd T.ini (by rfl) ?_)
  show wpAny _ _ (callWith pos (Value.builtin "ValueError.__init__") [] (backTo pos (starEach (e :: es) X.env)) []) _ _ _
  refine PyProof.Rows.callWith_method1 (thn (ha.run pos pins _ σ H _ (I.tok _) h) fun us s1 ⟨vs, H1, I1, r1, hh⟩ => ?_) he hpl
  obtain ⟨a, C, ws, rfl, hl, T', ea, q⟩ := hh
  cases r1 with
  | cons ra rw' =>
    cases ra
    exact oinit_ok T' I1 ea (by rw [← Paired.length rw', sizeLine_eq]; omega) fun s' J => ⟨.non, H1, J, rfl, q⟩
end

/-- the body of an error's __init__ with one value, and with none -/
abbrev errBody (msg fld : Str) (p1 p2 p3 p4 p5 p6 p7 p8 p9 p10 : Pos) (k : Nat) : List Stmt :=
  [.Expr (.Call (.Attribute (.Name "DrawError" p1) "__init__" p2) [.Name "self" p3, .Constant (.str msg) k p4] [] p5) p6,
   .Assign [.Attribute (.Name "self" p7) fld p8] (.Name fld p9) p10]
abbrev errBody0 (msg : Str) (p1 p2 p3 p4 p5 p6 : Pos) (k : Nat) : List Stmt :=
  [.Expr (.Call (.Attribute (.Name "DrawError" p1) "__init__" p2) [.Name "self" p3, .Constant (.str msg) k p4] [] p5) p6]
/-- its promise: behind it the value stands in the error's own dict -/
def spErr (K : PySem.W.Frag) (C : Addr) (fld : Str) : Sp := fun vs H Q _ => ∃ (a : Addr) (v : V), vs = [.ref a, v] ∧ H a = some (exo a C none) ∧
  ∀ d, H d = none → d ≠ a → Q .non (upd (upd H d (exd d [(fld, v)])) a (exo a C (some d)))
def spErr0 (C : Addr) : Sp := fun vs H Q _ => ∃ a : Addr, vs = [.ref a] ∧ H a = some (exo a C none) ∧ Q .non H
/-- the scope of such an __init__ -/
def scErr (fld : Str) : Scope := { kind := .function, names := [(Str.ofString "self", .local), (fld, .local), (Str.ofString "DrawError", .globalImplicit)], isGenerator := false, isCoroutine := false, more := [] }
def scErr0 : Scope := { kind := .function, names := [(Str.ofString "self", .local), (Str.ofString "DrawError", .globalImplicit)], isGenerator := false, isCoroutine := false, more := [] }
theorem scErr_ok {fld : Str} (h : (fld == ("self" : Str)) = false) : FnScope ["self", fld] ["self", fld] (scErr fld) := by
  have h2 : fld ≠ ("self" : Str) := beq_eq_false_iff_ne.mp h
  refine ⟨rfl, rfl, rfl, ?_, rfl, fun y hy => ?_, fun y hy => ?_⟩
  · exact List.nodup_cons.mpr ⟨by simpa using fun e => h2 e.symm, by simp⟩
  · simp only [List.mem_cons, List.not_mem_nil, or_false] at hy
    rcases hy with e | e
    · exact .inl (by rw [e]; rfl)
    · exact .inl (by subst e; simp only [scErr, List.lookup, h, beq_self_eq_true])
  · simp only [scErr, List.mem_cons, List.not_mem_nil, or_false] at hy
    rcases hy with e | e | e <;> (rw [e]; intro z; cases z)
theorem scErr0_ok : FnScope ["self"] ["self"] scErr0 := ⟨rfl, rfl, rfl, by decide +kernel, rfl, by decide +kernel, by decide +kernel⟩
section
variable {CX : CXT} {P : Program} {w : World} {K : PySem.W.Frag} {mg : Str → Option Value} {base : Heap} {f C D : Addr} {fd : FuncData} {x qual : Str} {pa : Arguments} {bd : List Stmt} {sc : Scope} {msg fld : Str} {p1 p2 p3 p4 p5 p6 p7 p8 p9 p10 : Pos} {kk : Nat}
theorem ok_err (F : FunD K x qual pa bd sc [] [] f fd) (hb : bd = errBody msg fld p1 p2 p3 p4 p5 p6 p7 p8 p9 p10 kk) (hs : sc = scErr fld) (hself : (fld == ("self" : Str)) = false) (hdr : (("DrawError" : Str) == fld) = false)
    (hl : (p2.endLine == p5.line) = true) (hd : (fld == ("__debug__" : Str)) = false) (hcd : (fld == ("__classdict__" : Str)) = false)
    (T : DErr K mg D) (O : OexC K C) (hno : PySem.W.findIn K (.ref C) fld = some none) : FnOk P w K mg base CX 1 f fd ["self", fld] (spErr K C fld) := by
  subst hs
  have hg : (scErr fld).names.lookup ("DrawError" : Str) = some .globalImplicit := by
    simp only [scErr, List.lookup, hdr]
    rfl
  have h1 : (scErr fld).names.lookup fld = some .local := by simp only [scErr, List.lookup, hself, beq_self_eq_true]
  refine F.ok (scErr_ok hself) (fun vs H Q E h => ?_) (fun cdv A outer s H vs Q E hr h => ?_)
  · obtain ⟨a, v, rfl, _⟩ := h
    rfl
  · obtain ⟨a, v, rfl, ha, k⟩ := h
    rw [hb]
    refine ⟨_, pss_cons (ps_expr (pe_dinit T hg (pa_cons (pe_var (i := 0) rfl (Or.inl rfl)) (pa_cons pe_str pa_nil)) (meth_row rfl rfl hl)))
      (pss_one (ps_ost (pe_var (i := 0) rfl (Or.inl rfl)) (pe_var (i := 1) rfl (Or.inl h1) hd hcd))), ?_⟩
    refine ⟨_, rfl, a, C, _, rfl, (by show 1 ≤ 1000; decide), O, ha, ?_⟩
    exact ⟨_, rfl, _, rfl, a, C, rfl, O, hno, Or.inl ⟨ha, k⟩⟩
theorem ok_err0 (F : FunD K x qual pa bd sc [] [] f fd) (hb : bd = errBody0 msg p1 p2 p3 p4 p5 p6 kk) (hs : sc = scErr0) (hl : (p2.endLine == p5.line) = true) (T : DErr K mg D) (O : OexC K C) : FnOk P w K mg base CX 1 f fd ["self"] (spErr0 C) := by
  subst hs
  refine F.ok scErr0_ok (fun vs H Q E h => ?_) (fun cdv A outer s H vs Q E hr h => ?_)
  · obtain ⟨a, rfl, _⟩ := h
    rfl
  · obtain ⟨a, rfl, ha, k⟩ := h
    rw [hb]
    refine ⟨_, pss_one (ps_expr (pe_dinit T rfl (pa_cons (pe_var (i := 0) rfl (Or.inl rfl)) (pa_cons pe_str pa_nil)) (meth_row rfl rfl hl))), ?_⟩
    exact ⟨_, rfl, a, C, _, rfl, (by show 1 ≤ 1000; decide), O, ha, k⟩
end
end J

set_option Elab.async false
set_option linter.all false
set_option maxRecDepth 100000
set_option maxHeartbeats 4000000
/-! J2: repr of data, own errors as values, isinstance, a field of an error that is held as a value. -/
namespace J
open PySem PySem.Spec PyProof.Rows L2

/-! ### repr -/
def kD : Key → PyData
  | .inl i => .int i
  | .inr x => .str x
/-- a plain value as data -/
def sD : V → PyData
  | .bl b => .bool b
  | .int i => .int i
  | .str x => .str x
  | _ => .none
def isS : V → Bool
  | .non => true
  | .bl _ => true
  | .int _ => true
  | .str _ => true
  | _ => false
theorem sD_reads {h : Heap} {v : V} {u : Value} (r : RelV v u) (hs : isS v = true) : Reads h u (sD v) [] := by
  cases v with
  | non => cases r; exact Reads.none
  | bl b => cases r; exact Reads.bool b
  | int i => obtain ⟨t, rfl⟩ := r; exact Reads.int i t
  | str x => obtain ⟨t, rfl⟩ := r; exact Reads.str x t
  | _ => cases hs
theorem kD_reads {P : Program} {w : World} {h : Heap} {k : Key} {u : Value} (r : (mixKind P w).is k u = true) : Reads h u (kD k) [] := by
  rcases keyIs_shape r with ⟨i, t, rfl, rfl⟩ | ⟨x, t, rfl, rfl⟩
  · exact Reads.int i t
  · exact Reads.str x t
theorem pairs_reads {P : Program} {w : World} {h : Heap} : ∀ {es : List DictEntry} {vs : List (Key × Value)} {kvs : List (Key × V)}, Pairs (mixKind P w) es vs → KV kvs vs → (∀ p ∈ kvs, isS p.2 = true) →
    ReadsAll h (es.map (·.key)) (kvs.map fun p => kD p.1) [] ∧ ReadsAll h (es.map (·.val)) (kvs.map fun p => sD p.2) []
  | _, _, _, .nil, .nil, _ => ⟨ReadsAll.nil, ReadsAll.nil⟩
  | _, _, _, .cons (kv := kv) h1 h2 hp, .cons (a := p) r rr, hs => by
    obtain ⟨i1, i2⟩ := pairs_reads (h := h) hp rr fun q hq => hs q (List.mem_cons_of_mem _ hq)
    refine ⟨?_, ?_⟩
    · have e : p.1 = kv.1 := r.1
      exact ReadsAll.cons (as := []) (by show Reads h _ (kD p.1) []; rw [e]; exact kD_reads h1) i1
    · have rv := r.2
      rw [← h2] at rv
      exact ReadsAll.cons (as := []) (sD_reads rv (hs p List.mem_cons_self)) i2
def dictD (kvs : List (Key × V)) : PyData := .dict (kvs.map fun p => (kD p.1, sD p.2))
section
variable {X : Cx}
/-- repr of data that is tracked: no dict in it, or a dict of plain values; where nothing is being shown -/
def rRepr (K : PySem.W.Frag) : List V → Hp → VK → Prop := fun xs H Q => ∃ (v : V) (d : PyData), xs = [v] ∧ ((Dp K H v d ∧ d.hasDict = false) ∨ ∃ (a : Addr) (kvs : List (Key × V)), v = .ref a ∧ H a = some (.dK kvs) ∧ (∀ p ∈ kvs, isS p.2 = true) ∧ d = dictD kvs) ∧
  d.showable = true ∧ d.depth ≤ 40 ∧ d.shown.length ≤ sizeLine ∧ Q (.str d.shown) H
theorem call_repr (hg : X.A.guards = some []) (hu : X.A.units + 60 < cLine) : CallR X (.builtin "repr") (rRepr X.K) := by
  intro pins s σ H xs us Q I r h
  obtain ⟨v, d, rfl, hd, h1, h3, h4, q⟩ := h
  obtain ⟨u, rfl, rx⟩ := vals1 r
  rcases hd with ⟨hd, h2⟩ | ⟨a, kvs, rfl, ha, hs, rfl⟩
  · cases hd with
    | non =>
      cases rx
      exact PySem.P.repr_of_none ⟨.str _, H, I.tok _, ⟨_, rfl⟩, q⟩
    | bl b =>
      cases rx
      cases b <;> exact PySem.P.repr_of_bool ⟨.str _, H, I.tok _, ⟨_, rfl⟩, q⟩
    | int i =>
      obtain ⟨t, rfl⟩ := rx
      exact PySem.P.repr_of_int (by simpa [PyData.showable] using h1) ⟨.str _, H, I.tok _, ⟨_, rfl⟩, q⟩
    | str x =>
      obtain ⟨t, rfl⟩ := rx
      exact PySem.P.repr_of_str ⟨.str _, H, I.tok _, ⟨_, rfl⟩, q⟩ h4
    | lst hs ha =>
      cases rx
      obtain ⟨as, rd⟩ := Dp.reads I _ _ _ (.lst hs ha) rfl
      exact repr_of_reads' rd h1 (fun z => by rw [h2] at z; cases z) hg (by omega) (fun _ _ z => z) (fun h' u tk k => ⟨.str _, H, I.kept k, ⟨_, rfl⟩, q⟩) h4
    | tup hs ha =>
      cases rx
      obtain ⟨as, rd⟩ := Dp.reads I _ _ _ (.tup hs ha) rfl
      exact repr_of_reads' rd h1 (fun z => by rw [h2] at z; cases z) hg (by omega) (fun _ _ z => z) (fun h' u tk k => ⟨.str _, H, I.kept k, ⟨_, rfl⟩, q⟩) h4
  · cases rx
    obtain ⟨_, hsys, vs, rkv, o, es, ep, ho, hex, hda, _, hp, _⟩ : kvs.length ≤ sizeLine ∧ (a == sysModules) = false ∧ ∃ vs, KV kvs vs ∧ s.heap.DictOf (mixKind X.prog X.w) a vs := I.hok a _ ha
    obtain ⟨k1, k2⟩ := pairs_reads (h := s.heap) hp rkv hs
    have rd : Reads s.heap (.ref a) (dictD kvs) (a :: [] ++ []) := by
      refine Reads.dict ho hex.1 hda ?_ ?_
      · rw [List.map_map]; exact k1
      · rw [List.map_map]; exact k2
    refine repr_of_reads' rd h1 (fun _ hm => ?_) hg (by omega) (fun _ _ z => z) (fun h' u tk k => ⟨.str _, H, I.kept k, ⟨_, rfl⟩, q⟩) h4
    have e : sysModules = a := by simpa using hm
    rw [e] at hsys
    simp at hsys
end

/-! ### isinstance of an error that is held as a value -/
/-- at e stands an error of the class at C, its own dict at d -/
def ErrO (H : Hp) (e C : Addr) : Prop := ∃ d : Option Addr, H e = some (exo e C d) ∧ ∀ dd, d = some dd → ∃ fs, H dd = some (exd dd fs)
def ErrF (H : Hp) (e C : Addr) (f : Str) (v : V) : Prop := ∃ d : Addr, H e = some (exo e C (some d)) ∧ H d = some (exd d [(f, v)])
theorem ErrF.o {H : Hp} {e C : Addr} {f : Str} {v : V} (h : ErrF H e C f v) : ErrO H e C := by
  obtain ⟨d, h1, h2⟩ := h
  exact ⟨some d, h1, fun dd q => by cases q; exact ⟨_, h2⟩⟩
theorem ErrF.ext {H H' : Hp} {e C : Addr} {f : Str} {v : V} (h : ErrF H e C f v) (k : Same H H') : ErrF H' e C f v := by
  obtain ⟨d, h1, h2⟩ := h
  exact ⟨d, k _ _ h1, k _ _ h2⟩
theorem ErrO.ext {H H' : Hp} {e C : Addr} (h : ErrO H e C) (k : Same H H') : ErrO H' e C := by
  obtain ⟨d, h1, h2⟩ := h
  exact ⟨d, k _ _ h1, fun dd q => let ⟨fs, z⟩ := h2 dd q; ⟨fs, k _ _ z⟩⟩
section
variable {X : Cx} {pins : List (Addr × Obj)} {σ : L2.St} {H : Hp} {s : Shared} {e C : Addr}
theorem err_inst (I : Inv X pins σ H s) (h : ErrO H e C) : ∃ ox od, PySem.W.InstAt s.heap e ox C od := by
  obtain ⟨d, h1, h2⟩ := h
  obtain ⟨t1, ho⟩ := exo_at I.hok h1
  cases d with
  | none => exact ⟨_, none, ho, rfl, rfl, trivial⟩
  | some dd =>
    obtain ⟨fs, h3⟩ := h2 dd rfl
    obtain ⟨mA, ⟨o, es, ep, hod, _⟩, _⟩ := exd_at I.hok h3
    exact ⟨_, some o, ho, rfl, rfl, hod⟩
/-- isinstance(e, c): e an error, c a class -/
def rIsX (K : PySem.W.Frag) : List V → Hp → VK → Prop := fun xs H Q => ∃ (e C : Addr) (c : V) (cv : Value) (b : Bool), xs = [.ref e, c] ∧ ErrO H e C ∧ ExcC K C ∧ (∀ u, RelV c u → u = cv) ∧ PySem.W.kitOne K (.ref C) cv = some b ∧ Q (.bl b) H
theorem call_isX : CallR X (.builtin "isinstance") (rIsX X.K) := by
  intro pins s σ H xs us Q I r h
  obtain ⟨e, C, c, cv, b, rfl, he, T, hcv, hb, q⟩ := h
  obtain ⟨u1, u2, rfl, r1, r2⟩ := vals2 r
  cases r1
  cases hcv _ r2
  obtain ⟨ox, od, J⟩ := err_inst I he
  have hcl : (PySem.W.clsIn X.K C).isSome = true := by
    obtain ⟨cd, hc, _⟩ := PySem.W.any_some T.hd
    rw [hc]
    rfl
  exact PySem.W.kia_one (PySem.W.kitx_exc hcl T.hg T.hk T.hs T.ha T.hn T.ht T.hm) I.kIn J hb (fun z => nomatch z) fun tk => ⟨.bl b, H, I.tok tk, rfl, q⟩
/-- e.f: e an error -/
def tErrF (K : PySem.W.Frag) (ta : TE) (f : Str) : TE := fun σ H Q => ta σ H fun x H1 => ∃ (e C : Addr) (v : V), x = .ref e ∧ ErrF H1 e C f v ∧ XfC K C ∧ PySem.W.findIn K (.ref C) f = some none ∧ Q v H1
theorem pe_errF {ex : Expr} {te : TE} {f : Str} {pos : Pos} (he : PE X ex te) (hb : attributeBase ex f X.env (eval ex X.env) = eval ex X.env := by rfl) : PE X (.Attribute ex f pos) (tErrF X.K te f) := by
  constructor
  intro pins s σ H Q I h
  refine attr_of hb (thn (he.run pins s σ H _ I h) fun u s1 ⟨x, H1, I1, r1, hh⟩ => ?_)
  obtain ⟨e, C, v, rfl, ⟨d, h1, h2⟩, T, hno, q⟩ := hh
  cases r1
  obtain ⟨t1, ho⟩ := exo_at I1.hok h1
  obtain ⟨mA, hns, hr⟩ := exd_at I1.hok h2
  obtain ⟨od, hod, hl⟩ := lookIn_ns hns
  obtain ⟨u, hu, ru⟩ := RelO.some_of (v := v) (o := mA f) (by have z := hr f; simpa [List.lookup] using z)
  have J : PySem.W.InstAt s1.heap e _ C (some od) := ⟨ho, rfl, rfl, hod⟩
  exact HandSPX.exc_get I1.kIn J T.ga T.gg T.exC (PySem.W.findObj_own T.hdC hno rfl (by rw [hl, hu])) (handed_of ru) ⟨v, H1, I1.tok _, ru, q⟩
end
end J

set_option Elab.async false
set_option linter.all false
set_option maxRecDepth 100000
set_option maxHeartbeats 4000000
/-! J3: own errors made as values, by position and by name. -/
namespace PySem
namespace HandSPX
section
variable {M : Model} {A : Around} {E : Value → Shared → Prop} {h : Heap} {g : Array GenState} {d : Drawn} {t : Nat} {os : OsState}
variable {nm q : Str} {C N : Addr} {bs bm bmB : List Value} {hdct : Bool} {sn : List Str} {sub : List Value} {ab : Bool} {col : Option Bool} {dd : Option Addr} {k0 k1 k2 k3 k5 : Option Value} {B newId initId : String} {kw : List (Str × Value)}
theorem kwj_check (F : ExcBaseFacts B newId initId bmB) (hT : ∀ X : String, bm.contains (.type X) = bmB.contains (.type X)) {rest : List Value} {Q : Unit → Shared → Prop}
    (hC : h.get? C = some (excClassObj nm q C N bs bm hdct sn sub ab col dd k0 k1 k2 k3 k5 newId)) (hq : Q () ⟨h, g, d, t, os⟩) : wpAny M A (checkBuiltinCall newId ⟨.ref C :: rest, kw⟩) Q E ⟨h, g, d, t, os⟩ := by
  have has : (Value.ref C :: bm).contains (.type B) = true := by rw [List.contains_cons, hT, F.hasB, Bool.or_true]
  have hst := F.noStar
  simp only [checkBuiltinCall, F.newKind, F.newSplit, F.newRow]
  repeat (first | refine wpAny_loadPart_at hC ?_ | (refine wpAny_isSubtype_exc hC ?_; rw [has]) | refine wpAny_staticBase_exc hC ?_ | refine wpAny_madeBy_exc hC ?_ | simp only [bne_self_eq_false, Bool.false_eq_true, if_false] | wp_step)
  exact hq
end
section
variable {prog : Program} {w : World} {A : Around} {E : Value → Shared → Prop} {R : Result → Shared → Prop} {h : Heap} {g : Array GenState} {d : Drawn} {t : Nat} {os : OsState}
variable {nm q : Str} {C N : Addr} {bs bm bmB : List Value} {hdct : Bool} {sn : List Str} {sub : List Value} {ab : Bool} {col : Option Bool} {dd : Option Addr} {k0 k1 k2 k3 k5 : Option Value} {B newId initId : String} {kw : List (Str × Value)}
theorem kwj_new (F : ExcBaseFacts B newId initId bmB) (hT : ∀ X : String, bm.contains (.type X) = bmB.contains (.type X)) {rest : List Value}
    (hC : h.get? C = some (excClassObj nm q C N bs bm hdct sn sub ab col dd k0 k1 k2 k3 k5 newId))
    (hq : R (.ok (.ret (.ref (h.objs.size + 1)))) ⟨(h.push (W.kdv_tup rest)).push (excO C h.objs.size), g, d, t, os⟩) (hrest : rest.length ≤ sizeLine) :
    codeAny (model prog w) A (.builtin newId ⟨.ref C :: rest, kw⟩) R ⟨h, g, d, t, os⟩ := by
  have ends := F.ends
  have hB : (Value.ref C :: bm).contains (.type B) = true := by rw [List.contains_cons, hT, F.hasB, Bool.or_true]
  have hA : (Value.ref C :: bm).contains (.type "AttributeError") = false := by rw [List.contains_cons, hT, F.noAttr]; rfl
  have hN : (Value.ref C :: bm).contains (.type "NameError") = false := by rw [List.contains_cons, hT, F.noName]; rfl
  refine codeAny_builtinAt F.entry ?_
  unfold Builtin.«BaseException.__new__»
  refine wpAt_bind ?_
  show wpAt _ _ _ (stack >>= _) _ _ _
  refine wpAt_bind (wpAt_stack fun p below => wpAt_of_wpAny ?_)
  wp_walk
  refine wpAt_of_wpAny ?_
  rw [F.owner]
  repeat (first | with_reducible refine wpAny_madeHere_exc F.canon hC ?_ | with_reducible refine wpAny_loadPart_at hC ?_ | (with_reducible refine wpAny_isSubtype_exc hC ?_; first | rw [hB] | rw [hA] | rw [hN]) | wp_step)
  show R _ _
  rw [Heap.size_push]
  exact hq
theorem kwj_type_call (F : ExcBaseFacts B newId initId bmB) (hT : ∀ X : String, bm.contains (.type X) = bmB.contains (.type X)) {rest : List Value} {fI : Addr} {Q : Fin → Shared → Prop}
    (hC : h.get? C = some (excClassObj nm q C N bs bm hdct sn sub ab col dd k0 k1 k2 k3 k5 newId))
    (hi : W.Looks (model prog w) h (typeLookup (.ref C) "__init__") (some (.ref fI))) (hb : ∀ self, W.Looks (model prog w) h (bindSpecial (.ref fI) self) (.ref fI, [self])) (hrest : rest.length ≤ sizeLine)
    (hq : codeAny (model prog w) A (.call (.ref fI) ⟨.ref (h.objs.size + 1) :: rest, kw⟩)
      (fun r s' => match r with | .ok (.ret v) => v = .none ∧ Q (.done (.ret (.ref (h.objs.size + 1)))) s' | .ok _ => False | .error e => E e s')
      ⟨(h.push (W.kdv_tup rest)).push (excO C h.objs.size), g, d, t, os⟩) :
    wpAny (model prog w) A (Builtin.«type.__call__» ⟨.ref C :: rest, kw⟩) Q E ⟨h, g, d, t, os⟩ := by
  repeat (first | with_reducible refine wpAny_loadPart_at hC ?_ | with_reducible refine wpAny_madeBy_exc hC ?_ | wp_step)
  refine codeAny_call_builtin_code (Code.quiet_builtin _ F.quiet) (kwj_check F hT hC ?_)
  refine kwj_new F hT hC ?_ hrest
  show wpAny _ _ _ _ _ _
  have k : ∀ b o, h.get? b = some o → ((h.push (W.kdv_tup rest)).push (excO C h.objs.size)).get? b = some o := fun b o e => Heap.get?_push_of_some _ (Heap.get?_push_of_some _ e)
  have hC2 := k _ _ hC
  have got : ((h.push (W.kdv_tup rest)).push (excO C h.objs.size)).get? (h.objs.size + 1) = some (excO C h.objs.size) := by heap_get
  have hcC : (Value.ref C :: bm).contains (.ref C) = true := by simp
  have i1 := hi.keeps k
  have b1 := (hb (.ref (h.objs.size + 1))).keeps k
  unfold isInstance
  repeat (first | with_reducible refine wpAny_loadPart_at got ?_ | (with_reducible refine wpAny_isSubtype_exc hC2 ?_; rw [hcC]) | wp_step)
  show wpAny _ _ (typeLookup (.ref C) _) _ _ _
  refine i1.at ?_
  refine wpAny_holding (wpAny_bind (b1.at ?_))
  refine wpAny_bind (wpAny_call (codeAny_mono hq fun r s' z => ?_))
  rcases r with e | (v | _ | _ | _) <;> first | exact z | exact z.elim | skip
  obtain ⟨rfl, z⟩ := z
  first
    | exact wpAny_pure (wpAny_pure z)
    | (wp_walk; exact z)
theorem kwj_call (F : ExcBaseFacts B newId initId bmB) (hT : ∀ X : String, bm.contains (.type X) = bmB.contains (.type X)) {rest : List Value} {fI : Addr}
    (hC : h.get? C = some (excClassObj nm q C N bs bm hdct sn sub ab col dd k0 k1 k2 k3 k5 newId))
    (hi : W.Looks (model prog w) h (typeLookup (.ref C) "__init__") (some (.ref fI))) (hb : ∀ self, W.Looks (model prog w) h (bindSpecial (.ref fI) self) (.ref fI, [self])) (hrest : rest.length ≤ sizeLine)
    (hq : codeAny (model prog w) (A.under (.builtin "type.__call__" ⟨.ref C :: rest, kw⟩)) (.call (.ref fI) ⟨.ref (h.objs.size + 1) :: rest, kw⟩) (W.InitBack (h.objs.size + 1) R)
      ⟨(h.push (W.kdv_tup rest)).push (excO C h.objs.size), g, d, t, os⟩) :
    codeAny (model prog w) A (.call (.ref C) ⟨rest, kw⟩) R ⟨h, g, d, t, os⟩ := by
  have f1 := tc_lookup
  have f2 := tc_bind (.ref C)
  have hTy : (⟨h, g, d, t, os⟩ : Shared).TypeIs (.ref C) "type" := ⟨_, hC, rfl⟩
  refine codeAny_of_tree ?_
  show wpAny _ _ (callAny (.ref C) _) _ _ _
  repeat (any_goals (first | assumption | with_reducible refine wpAny_loadPart_at hC ?_ | wp_step))
  refine ⟨rfl, ?_⟩
  refine codeAny_call_builtin_at (Code.quiet_builtin _ (by decide +kernel)) entry_typeCall (wpAny_check_type_call_sub hC (kwj_type_call F hT hC hi hb hrest ?_))
  refine codeAny_mono hq fun r s' z => ?_
  rcases r with e | (v | _ | _ | _) <;> exact z
end
end HandSPX
end PySem
namespace J
open PySem PySem.Spec PyProof.Rows L2
/-- what K says of an own error class C and of its __init__ at fI -/
structure ErrC (K : PySem.W.Frag) (C fI : Addr) : Prop where
  oex : OexC K C
  ini : PySem.W.findIn K (.ref C) "__init__" = some (some (.ref fI))
  fn : PySem.W.typeIn K (.ref fI) = some (.type "function")
/-- C(..) by its __init__'s promise: a new error -/
def tErr (C : Addr) (sp : Sp) (ta : TA) : TE := fun σ H Q => ta σ H fun vs H1 => vs.length ≤ 1000 ∧ ∀ a, H1 a = none → sp (.ref a :: vs) (upd H1 a (exo a C none)) (fun v H2 => v = .non ∧ Q (.ref a) H2) E0
/-- C(f = e) -/
def tErrK (C : Addr) (sp : Sp) (te : TE) : TE := fun σ H Q => tCons te tNil σ H fun vs H1 => ∃ v, vs = [v] ∧ ∀ a, H1 a = none → sp [.ref a, v] (upd H1 a (exo a C none)) (fun v H2 => v = .non ∧ Q (.ref a) H2) E0
section
variable {X : Cx} {C fI : Addr} {k : Nat} {fd : FuncData} {ps : List Str} {sp : Sp} {x : Str} {p pos kp : Pos} {e : Expr} {es : List Expr} {ta : TA} {te : TE} {nm : Str}
theorem run_err {pins : List (Addr × Obj)} {σ : L2.St} {H : Hp} {s : Shared} {Q : VK} {us : List Value} {vs : List V} {kw : List (Str × Value)} {ws : List Value} (T : ErrC X.K C fI) (F : FnOk X.prog X.w X.K X.mg X.base CX0 k fI fd ps sp) (hr : Room (k + 1) X.A)
    (I : Inv X pins σ H s) (hz : us.length ≤ 1000) (r : ∀ a, Vals (.ref a :: vs) (.ref a :: ws))
    (hb : ∀ (a : Addr) (s' : Shared), X.K.In s'.heap → (Value.ref a :: ws).length = ps.length → BindsTo s' fd ⟨.ref a :: us, kw⟩ (ps.zip (.ref a :: ws)))
    (h : ∀ a, H a = none → sp (.ref a :: vs) (upd H a (exo a C none)) (fun v H2 => v = .non ∧ Q (.ref a) H2) E0) :
    wpAny (model X.prog X.w) X.A (call (.ref C) us kw) (EP X pins σ Q) X.xe s := by
  obtain ⟨nm, q, N, bs, bm, sn, sub, ab, col, dd, k0, k1, k2, k3, k5, hC, hbm⟩ := T.oex.cls
  obtain ⟨hp, g, dr, tk, os⟩ := s
  have ge : hp.objs.size ≤ hp.objs.size + 1 := Nat.le_succ _
  have hq := h (hp.objs.size + 1) (I.hok.fresh ge)
  have kk : ∀ b o, hp.get? b = some o → ((hp.push (PySem.W.kdv_tup us)).push (PySem.HandSPX.excO C hp.objs.size)).get? b = some o := fun b o z => Heap.get?_push_of_some _ (Heap.get?_push_of_some _ z)
  have got : ((hp.push (PySem.W.kdv_tup us)).push (PySem.HandSPX.excO C hp.objs.size)).get? (hp.objs.size + 1) = some (PySem.HandSPX.excO C hp.objs.size) := by heap_get
  have I2 : Inv X pins σ (upd H (hp.objs.size + 1) (exo (hp.objs.size + 1) C none)) ⟨(hp.push (PySem.W.kdv_tup us)).push (PySem.HandSPX.excO C hp.objs.size), g, dr, tk, os⟩ :=
    I.laid (t' := tk) (a := hp.objs.size + 1) (o := exo (hp.objs.size + 1) C none) (h' := (hp.push (PySem.W.kdv_tup us)).push (PySem.HandSPX.excO C hp.objs.size)) kk ge (exo_ok got)
  have ll : (Value.ref (hp.objs.size + 1) :: ws).length = ps.length := by rw [← (r (hp.objs.size + 1)).length]; exact F.len _ _ _ _ hq
  refine wpAny_call (PySem.HandSPX.kwj_call PySem.F.excBase_ValueError (fun Y => PySem.HandSPX.refsVE_contains Y bm hbm) (I.kIn _ _ hC) (PySem.W.looks_findIn I.kIn T.ini) (fun self => PySem.W.bind_fn I.kIn self T.fn) (by rw [sizeLine_eq]; omega)
    (codeAny_mono (F.run _ X.stack _ _ ⟨Value.ref (hp.objs.size + 1) :: us, kw⟩ (Value.ref (hp.objs.size + 1) :: ws) _ _ E0 (hr.make C us kw) (I2.env0.make C us kw) (hb _ _ I2.kIn ll) (r _) hq) fun z s' hz' => ?_))
  match z, hz' with
  | .error er, hz' => exact hz'.elim
  | .ok .next, hz' => exact hz'.elim
  | .ok .brk, hz' => exact hz'.elim
  | .ok .cont, hz' => exact hz'.elim
  | .ok (.ret u), hz' =>
    obtain ⟨v, H', I3, rv, ev, q3⟩ := I2.after hz'
    subst ev
    exact ⟨rv, .ref (hp.objs.size + 1), H', I3, rfl, q3⟩
/-- C(e, ..) -/
theorem pe_err (T : ErrC X.K C fI) (F : FnOk X.prog X.w X.K X.mg X.base CX0 k fI fd ps sp) (hr : Room (k + 1) X.A) (hb : Binds X.K fd ps []) (hg : Gl X x) (hm : X.mg x = some (.ref C)) (ha : PA X (e :: es) ta)
    (hdb : (x == ("__debug__" : Str)) = false := by decide) (he : starEach (e :: es) X.env = (false, eval e X.env) :: starEach es X.env := by rfl) (hpl : (backTo pos (starEach es X.env)).any (·.1) = false := by rfl) :
    PE X (.Call (.Name x p) (e :: es) [] pos) (tErr C sp ta) := by
  constructor
  intro pins s σ H Q I h
  refine wpAny_Call_Name_kw (ld_glob I hg hm ?_ hdb)
  refine PySem.W.callWith_K (h₀ := X.base) I.ok.mod.kin T.oex.kC (thn (ha.run pos pins s σ H _ I h) fun us s1 ⟨vs, H1, I1, r, hz, q⟩ => ⟨I1.kIn, ?_⟩) he hpl
  exact run_err (us := us) (ws := us) T F hr I1 (by rw [← r.length]; exact hz) (fun a => .cons rfl r) (fun a s' K' ll => by
    have z := hb s' (.ref a :: us) K' (by simpa using ll)
    simpa using z) q
/-- C() -/
theorem pe_err0 (T : ErrC X.K C fI) (F : FnOk X.prog X.w X.K X.mg X.base CX0 k fI fd ps sp) (hr : Room (k + 1) X.A) (hb : Binds X.K fd ps []) (hg : Gl X x) (hm : X.mg x = some (.ref C))
    (hdb : (x == ("__debug__" : Str)) = false := by decide) : PE X (.Call (.Name x p) [] [] pos) (tErr C sp tNil) := by
  constructor
  intro pins s σ H Q I h
  refine wpAny_Call_Name_kw (ld_glob I hg hm ?_ hdb)
  refine PySem.W.callWith_K0 I.kIn T.oex.kC ?_
  exact run_err (us := []) (ws := []) (vs := []) T F hr I (by decide) (fun a => .cons rfl .nil) (fun a s' K' ll => by
    have z := hb s' [.ref a] K' (by simpa using ll)
    simpa using z) h.2
/-- C(f = e) -/
theorem pe_errK (T : ErrC X.K C fI) (F : FnOk X.prog X.w X.K X.mg X.base CX0 k fI fd ps sp) (hr : Room (k + 1) X.A)
    (hb : ∀ (s' : Shared) (a : Addr) (u : Value), X.K.In s'.heap → BindsTo s' fd ⟨[.ref a], [(nm, u)]⟩ (ps.zip [.ref a, u])) (hg : Gl X x) (hm : X.mg x = some (.ref C)) (he : PE X e te)
    (hdb : (x == ("__debug__" : Str)) = false := by decide) : PE X (.Call (.Name x p) [] [⟨some nm, e, kp⟩] pos) (tErrK C sp te) := by
  constructor
  intro pins s σ H Q I h
  refine wpAny_Call_Name_kw (ld_glob I hg hm ?_ hdb)
  refine PySem.W.callWith_KW0 (h₀ := X.base) I.ok.mod.kin T.oex.kC rfl ?_ rfl
  refine thn ((pk_cons he pk_nil).run pos pins s σ H _ I h) fun ws s1 ⟨vs, H1, I1, r, hh⟩ => ⟨I1.kIn, ?_⟩
  obtain ⟨v, rfl, q⟩ := hh
  obtain ⟨u, rfl, rv⟩ := vals1 r
  exact run_err (us := []) (kw := [(nm, u)]) (ws := [u]) T F hr I1 (by decide) (fun a => .cons rfl (.cons rv .nil)) (fun a s' K' ll => hb s' a u K') q
end
end J

set_option Elab.async false
set_option linter.all false
set_option maxRecDepth 100000
set_option maxHeartbeats 4000000
/-! J4: the head's facts as Bools of the written part; a law's end where nothing is being shown. -/
namespace J
open PySem PySem.Spec PyProof.Rows L2

abbrev Bf := PySem.W.Frag → Bool
/-! ### the Hook -/
def asJ (g : Addr → Option Obj) : Nat → List Addr
  | 0 => [mainGlobals, cStatics]
  | n + 1 => He.growD g (asJ g n)
def obsJ (bs : List Bf) (fn : List He.DefD) (K : PySem.W.Frag) : He.AlD := ((bs.all fun b => b K) && fn.all fun d => d.ok K, fn.map fun d => He.fnW K d.at_)
def SaysJ (bs : List Bf) (fn : List He.DefD) (K : PySem.W.Frag) : Prop := obsJ bs fn K = He.valD fn
def obsJG (n : Nat) (bs : List Bf) (fn : List He.DefD) (g : Addr → Option Obj) : He.AlD := obsJ bs fn (He.frG g (asJ g n))
def hookJ (n : Nat) (bs : List Bf) (fn : List He.DefD) : PySem.W.Hook where
  α := He.AlD
  obs := fun s => obsJG n bs fn s.heap.get?
  val := fun _ => He.valD fn
  says := fun _ h => ∃ K : PySem.W.Frag, K.In h ∧ SaysJ bs fn K
  of := fun _ _ e => ⟨_, He.frG_in, e⟩
  keeps := fun _ _ _ ⟨K, hK, c⟩ k => ⟨K, PySem.W.Frag.In.keeps hK k, c⟩
theorem obsJG_eq {n : Nat} {bs : List Bf} {fn : List He.DefD} {g : Addr → Option Obj} {s : Shared} (h : ∀ a, g a = s.heap.get? a) : obsJG n bs fn g = (hookJ n bs fn).obs s := by
  have e : g = s.heap.get? := funext h
  rw [e] <;> rfl
section
variable {bs : List Bf} {fn : List He.DefD} {K : PySem.W.Frag}
theorem SaysJ.fact (c : SaysJ bs fn K) (i : Nat) {b : Bf} (h : bs[i]? = some b := by rfl) : b K = true := by
  have c1 := (He.ba (show ((bs.all fun b => b K) && fn.all fun d => d.ok K) = true from congrArg (fun z : He.AlD => z.1) c)).1
  exact List.all_eq_true.mp c1 b (List.mem_of_getElem? h)
theorem SaysJ.def_ (c : SaysJ bs fn K) (i : Nat) {d : He.DefD} (h : fn[i]? = some d := by rfl) : ∃ fd, FunD K d.name d.qual d.params d.body d.scope (d.dvs K) (d.kws K) (He.fAd K d.at_) fd := by
  have c2 := (He.ba (show ((bs.all fun b => b K) && fn.all fun d => d.ok K) = true from congrArg (fun z : He.AlD => z.1) c)).2
  have e : fn.map (fun d => He.fnW K d.at_) = fn.map He.DefD.val := congrArg (fun z : He.AlD => z.2) c
  have e2 : (fn.map fun d => He.fnW K d.at_)[i]? = (fn.map He.DefD.val)[i]? := by rw [e]
  rw [List.getElem?_map, List.getElem?_map, h] at e2
  exact He.DefD.funD (Option.some.inj e2) (List.all_eq_true.mp c2 d (List.mem_of_getElem? h))
end

/-! ### facts of error classes -/
def oexB (K : PySem.W.Frag) (C : Addr) : Bool := (match K.lookup C with
  | some ⟨.type "type", _, .cls cd, sl⟩ => (match cd.mro, sl.toList with
    | .ref C' :: bm, [_, _, _, _, some (.builtin n), _] => C' == C && n == "ValueError.__new__" && !cd.hasDel && cd.hasDict && HandSPX.refsVE bm
    | _, _ => false)
  | _ => false) && (He.eqO (PySem.W.findIn K (.ref C) "__setattr__") (some (some (.builtin "object.__setattr__"))) && (decide (PySem.W.subIn K (.ref C) (.type "BaseException") = some true) && (decide (PySem.W.typeIn K (.ref C) = some (.type "type")) && PySem.W.keepIn K (.ref C))))
theorem oexB_ok {K : PySem.W.Frag} {C : Addr} (h : oexB K C = true) : OexC K C := by
  obtain ⟨h0, h⟩ := He.ba h
  obtain ⟨h1, h⟩ := He.ba h
  obtain ⟨h2, h⟩ := He.ba h
  obtain ⟨h3, h4⟩ := He.ba h
  refine ⟨?_, He.eqO_ok h1, of_decide_eq_true h2, of_decide_eq_true h3, h4⟩
  split at h0
  · rename_i dd cd sl ho
    split at h0
    · rename_i C' bm k0 k1 k2 k3 n k5 hm hs
      simp only [Bool.and_eq_true, beq_iff_eq, Bool.not_eq_true'] at h0
      obtain ⟨⟨⟨⟨rfl, rfl⟩, hdel⟩, hdict⟩, hv⟩ := h0
      obtain ⟨nm, bs, mro, ns, qn, hd, sn, sub, ab, col, del⟩ := cd
      dsimp only at hm hdel hdict
      subst hm hdel hdict
      have es : sl = #[k0, k1, k2, k3, some (.builtin "ValueError.__new__"), k5] := by
        obtain ⟨l⟩ := sl
        simp only at hs
        rw [hs]
      subst es
      exact ⟨nm, qn, ns, bs, bm, sn, sub, ab, col, dd, k0, k1, k2, k3, k5, ho, hv⟩
    · cases h0
  · cases h0
/-- all that is asked of an error class: it is made, its instances' class is asked, the field is read -/
def errB (x : Str) (fld : Str) : Bf := fun K =>
  He.eqO (PySem.W.nsIn K mainGlobals x) (some (some (.ref (He.ga K x)))) && (oexB K (He.ga K x) && (He.eqO (PySem.W.findIn K (.ref (He.ga K x)) "__init__") (some (some (.ref (He.ma K (He.ga K x) "__init__")))) &&
  (decide (PySem.W.typeIn K (.ref (He.ma K (He.ga K x) "__init__")) = some (.type "function")) && (xfB K (He.ga K x) && (He.eqO (PySem.W.findIn K (.ref (He.ga K x)) fld) (some none) &&
  (He.eqO (PySem.W.findIn K (.ref (He.ga K x)) "__class__") (some (some (.builtin "object.__class__"))) && (decide (PySem.W.mroIn K (He.ga K x) (.type "object") = some true)))))))) 
structure ErrN (K : PySem.W.Frag) (mg : Str → Option Value) (x fld : Str) : Prop where
  g : mg x = some (.ref (He.ga K x))
  c : ErrC K (He.ga K x) (He.ma K (He.ga K x) "__init__")
  f : XfC K (He.ga K x)
  nof : PySem.W.findIn K (.ref (He.ga K x)) fld = some none
  cl : PySem.W.findIn K (.ref (He.ga K x)) "__class__" = some (some (.builtin "object.__class__"))
  ob : PySem.W.mroIn K (He.ga K x) (.type "object") = some true
theorem errB_ok {K : PySem.W.Frag} {h : Heap} {mg : Str → Option Value} {x fld : Str} (X : K.In h) (G : h.Ns mainGlobals mg) (c : errB x fld K = true) : ErrN K mg x fld := by
  obtain ⟨h0, c⟩ := He.ba c
  obtain ⟨h1, c⟩ := He.ba c
  obtain ⟨h2, c⟩ := He.ba c
  obtain ⟨h3, c⟩ := He.ba c
  obtain ⟨h4, c⟩ := He.ba c
  obtain ⟨h5, c⟩ := He.ba c
  obtain ⟨h6, h7⟩ := He.ba c
  exact ⟨PySem.W.mg_of X G (He.eqO_ok h0), ⟨oexB_ok h1, He.eqO_ok h2, of_decide_eq_true h3⟩, xfB_ok h4, He.eqO_ok h5, He.eqO_ok h6, of_decide_eq_true h7⟩
/-- the getter of __class__, asked once -/
def clsB : Bf := fun K => He.eqO (PySem.W.specialIn K (.builtin "object.__class__") "__get__") (some (some (.builtin "getset_descriptor.__get__"))) && decide (PySem.W.takesIn K (.builtin "object.__class__") = some true)
theorem clsB_ok {K : PySem.W.Frag} (c : clsB K = true) : PySem.W.specialIn K (.builtin "object.__class__") "__get__" = some (some (.builtin "getset_descriptor.__get__")) ∧ PySem.W.takesIn K (.builtin "object.__class__") = some true := by
  obtain ⟨h0, h1⟩ := He.ba c
  exact ⟨He.eqO_ok h0, of_decide_eq_true h1⟩
theorem ErrN.is {K : PySem.W.Frag} {mg : Str → Option Value} {x fld : Str} (T : ErrN K mg x fld) (c : clsB K = true) : ExcC K (He.ga K x) :=
  ⟨T.f.ga, T.f.gg, T.f.exC, T.f.hdC, T.cl, (clsB_ok c).1, (clsB_ok c).2, T.ob⟩
/-- DrawError, whose __init__ is read off it -/
def derrB : Bf := fun K => He.eqO (PySem.W.nsIn K mainGlobals "DrawError") (some (some (.ref (He.ga K "DrawError")))) && (PySem.W.readsIn K (He.ga K "DrawError") (.type "type") &&
  (He.eqO (PySem.W.specialIn K (.ref (He.ga K "DrawError")) "__getattribute__") (some (some (.builtin "type.__getattribute__"))) &&
  (match PySem.W.findCls K (.ref (He.ga K "DrawError")) (.type "type") "__init__" with
    | some (.val v) => decide (v = .builtin "ValueError.__init__")
    | _ => false)))
theorem derrB_ok {K : PySem.W.Frag} {h : Heap} {mg : Str → Option Value} (X : K.In h) (G : h.Ns mainGlobals mg) (c : derrB K = true) : DErr K mg (He.ga K "DrawError") := by
  obtain ⟨h0, c⟩ := He.ba c
  obtain ⟨h1, c⟩ := He.ba c
  obtain ⟨h2, h3⟩ := He.ba c
  refine ⟨PySem.W.mg_of X G (He.eqO_ok h0), h1, He.eqO_ok h2, ?_⟩
  split at h3
  · rename_i v e
    rw [e, of_decide_eq_true h3]
  · cases h3
/-- a name that is none of the module's own -/
def freeB (x : Str) : Bf := fun K => He.eqO (PySem.W.nsIn K mainGlobals x) (some none)
theorem freeB_ok {K : PySem.W.Frag} {h : Heap} {mg : Str → Option Value} (X : K.In h) (G : h.Ns mainGlobals mg) {x : Str} (c : freeB x K = true) : mg x = none := PySem.W.mg_none_of X G (He.eqO_ok c)
/-- a name of the module's that stands for an object -/
def gloB (x : Str) : Bf := fun K => He.eqO (PySem.W.nsIn K mainGlobals x) (some (some (.ref (He.ga K x))))
theorem gloB_ok {K : PySem.W.Frag} {h : Heap} {mg : Str → Option Value} (X : K.In h) (G : h.Ns mainGlobals mg) {x : Str} (c : gloB x K = true) : mg x = some (.ref (He.ga K x)) := PySem.W.mg_of X G (He.eqO_ok c)

/-! ### the end -/
/-- the law's call, its promise kept where nothing is being shown -/
theorem law_callG {P : Program} {w : World} {K : PySem.W.Frag} {mg mb : Str → Option Value} {k : Nat} {fa a : Addr} {fd : FuncData} {x : Str} {sp : Sp} {s₁ : Shared} {vs : List Value} {ns : List Int}
    (KX : K.In s₁.heap) (hns : s₁.heap.Ns mainGlobals mg) (hb : s₁.heap.Ns builtinsNs mb) (hbb : ∀ x : Str, x ≠ "__name__" → mb x = bootBuiltins x) (hlim : s₁.heap.NoLimit) (hg : s₁.gens = #[])
    (ha : s₁.heap.get? a = some { cls := .type "list", data := .seq vs.toArray }) (hi : IntsAre vs ns) (hl : ns.length ≤ sizeLine) (hr : Room k callerA)
    (F : ∀ base : Heap, K.In base → base.Ns mainGlobals mg → FnG P w K mg base CX0 k fa fd [x] sp) (hbind : ∀ (s : Shared) (u : Value), BindsTo s fd ⟨[u], []⟩ [(x, u)])
    (hsp : ∀ H : Hp, Only H → SqL K H a (ns.map V.int) → sp [.ref a] H (fun v _ => v = .bl true) fun _ _ _ => False) :
    codeAny (model P w) callerA (.call (.ref fa) ⟨[.ref a], []⟩) (fun r s' => r = .ok (.ret (.bool true)) ∧ OldK s₁.heap s'.heap ∧ s'.os = s₁.os ∧ AllBare s'.gens) s₁ := by
  have rv := vals_ints hi
  have lenV := hi.length
  have core : ∀ H : Hp, Only H → SqL K H a (ns.map V.int) → HOk P w H s₁.heap → (∀ b, H b ≠ none → b = a) → (H a ≠ none → K.lookup a = none) →
      codeAny (model P w) callerA (.call (.ref fa) ⟨[.ref a], []⟩) (fun r s' => r = .ok (.ret (.bool true)) ∧ OldK s₁.heap s'.heap ∧ s'.os = s₁.os ∧ AllBare s'.gens) s₁ := by
    intro H hO hS hok hA hK
    have at_a : ∀ {b : Addr} {u : HO}, H b = some u → b = a := fun {b u} q => hA b (by rw [q]; simp)
    have noDict : ∀ {b : Addr} {o : Obj} {es : Array DictEntry} {ep : Nat}, s₁.heap.get? b = some o → o.data = .dict es ep → H b = none := fun {b o es ep} e d => by
      cases q : H b with
      | none => rfl
      | some u =>
        cases at_a q
        rw [ha] at e
        cases e
        cases (show Data.seq vs.toArray _ = Data.dict es ep from d)
    have nsK : ∀ {b : Addr} {m : Str → Option Value}, s₁.heap.Ns b m → (hidT s₁.heap H).Ns b m := fun {b m} ⟨o, es, ep, e, d, r⟩ => ⟨o, es, ep, hidT_get e (noDict e d), d, r⟩
    have inB : K.In (hidT s₁.heap H) := fun b o e => hidT_get (KX b o e) (by
      cases q : H b with
      | none => rfl
      | some u =>
        cases at_a q
        rw [hK (by rw [q]; simp)] at e
        cases e)
    have hM : Mod K mg (hidT s₁.heap H) := ⟨inB, nsK hns, ⟨mb, nsK hb, hbb⟩, let ⟨mc, h1, h2⟩ := hlim; ⟨mc, nsK h1, h2⟩⟩
    have e0 : Env0 P w K mg (hidT s₁.heap H) callerA [] s₁ H := ⟨rfl, hM, fun b o e => of_hidT e, Nat.le_of_eq (hidT_size _ _), trivial, fun b hb => absurd (show b ∈ ([] : List Addr) from hb) (by simp), hok, .of_eq hg⟩
    refine codeAny_mono ((F _ inB (nsK hns) callerA rfl hr).run [] s₁ H ⟨[.ref a], []⟩ [.ref a] [.ref a] _ _ e0 (hbind s₁ (.ref a)) (.cons rfl .nil) (hsp H hO hS)) fun r s' h => ?_
    match r, h with
    | .error e, h => exact h.elim
    | .ok .next, h => exact h.elim
    | .ok .brk, h => exact h.elim
    | .ok .cont, h => exact h.elim
    | .ok (.ret u), h =>
      obtain ⟨v, H', os, bare, un, hok', r', q⟩ := h
      cases (show v = .bl true from q)
      cases (show u = Value.bool true from r')
      refine ⟨rfl, OldK.of_keep fun b o e => ?_, os, bare⟩
      cases q : H b with
      | none => exact un.keep b o e q (by intro z; exact absurd (show b ∈ ([] : List Addr) from z) (by simp)) (by simp)
      | some u =>
        rcases hO b with z | ⟨ob, xs, z⟩
        · rw [q] at z
          cases z
        · have z2 := un.frzs b ob _ z
          obtain ⟨e1, _⟩ := hok b _ z
          obtain ⟨e2, _⟩ := hok' b _ z2
          rw [e] at e1
          cases e1
          exact e2
  cases hk : K.lookup a with
  | some o =>
    have e := KX a o hk
    rw [ha] at e
    cases e
    exact core (fun _ => none) (fun _ => .inl rfl) (.inr ⟨_, vs.toArray, _, hk, rfl, rfl, rfl, by rw [List.size_toArray, lenV]; exact hl, by simpa using rv⟩) (fun b u z => by cases (show (none : Option HO) = some u from z)) (fun b z => absurd rfl z) fun z => absurd rfl z
  | none =>
    refine core (fun b => if b = a then some (.frz { cls := .type "list", data := .seq vs.toArray } (.lst (ns.map V.int))) else none) (fun b => ?_) (.inl (.inr ⟨{ cls := .type "list", data := .seq vs.toArray }, if_pos rfl⟩)) (fun b u z => ?_) (fun b z => ?_) fun _ => hk
    · by_cases q : b = a
      · exact .inr ⟨_, _, if_pos q⟩
      · exact .inl (if_neg q)
    · by_cases q : b = a
      · cases (if_pos q).symm.trans z
        subst q
        exact ⟨ha, by rw [List.length_map]; exact hl, vs, _, rv, ha⟩
      · cases (if_neg q).symm.trans z
    · by_cases q : b = a
      · exact q
      · exact absurd (if_neg q) z
theorem walk_G {l : PySem.W.OpenLaw} {n k : Nat} {q : Program} {loose : List Str} {XP : (Str → Option Value) → Heap → Prop} {YP : World → Heap → Prop} {d : DefRec} {x : Str}
    (hn : l.most = some n) (hn2 : n ≤ sizeLine) (hdf : d.params.defaults = []) (hr : Room k callerA)
    (F : ∀ (w : World) (mg : Str → Option Value) (fa : Addr) (h : Heap), YP w h → h.Ns mainGlobals mg → mg d.name = some (.ref fa) →
      ∃ (K : PySem.W.Frag) (fd : FuncData) (sp : Sp), K.In h ∧ (∀ (s : Shared) (u : Value), BindsTo s fd ⟨[u], []⟩ [(x, u)]) ∧
        (∀ (H : Hp) (a : Addr) (ns : List Int), ns.length ≤ n → Only H → SqL K H a (ns.map V.int) → sp [.ref a] H (fun v _ => v = .bl true) fun _ _ _ => False) ∧
        ∀ base : Heap, K.In base → base.Ns mainGlobals mg → FnG l.prog w K mg base CX0 k fa fd [x] sp) :
    PySem.W.WalkO q loose XP YP l.row.toRowW d [] (fun f vs => PySem.call f vs) := by
  refine Att.attach_call hn hdf fun w s₀ s₁ mg mb fa o pm cd doc a vs ns G Y ho hd hcd hmg hobj hints hlen hg => ?_
  obtain ⟨K, fd, sp, KX, hb, hsp, hF⟩ := F w mg fa _ Y G.T.g hmg
  exact law_callG KX G.T.g G.T.b G.T.builtins G.T.nolimit hg hobj hints (Nat.le_trans hlen hn2) hr hF hb fun H hO hS => hsp H a ns hlen hO hS
end J

set_option Elab.async false
set_option linter.all false
set_option maxRecDepth 100000
set_option maxHeartbeats 4000000
/-! J5: rows of calls that make errors or ask their classes; the draws' promises. -/
namespace J
open PySem PySem.Spec PyProof.Rows L2

theorem pa_imp {X : Cx} {es : List Expr} {t u : TA} (h : PA X es t) (k : ∀ σ H Q, u σ H Q → t σ H Q) : PA X es u := ⟨fun pos pins s σ H Q I q => h.run pos pins s σ H Q I (k σ H Q q)⟩
theorem pe_imp {X : Cx} {e : Expr} {t u : TE} (h : PE X e t) (k : ∀ σ H Q, u σ H Q → t σ H Q) : PE X e u := ⟨fun pins s σ H Q I q => h.run pins s σ H Q I (k σ H Q q)⟩
theorem upS {H : Hp} {p : Addr} {o : HO} (h : H p = none) : Same H (upd H p o) := fun _ _ e => by rw [upd_ne (ne_of_none e h)]; exact e
theorem _root_.L2.Same.tupS {K : PySem.W.Frag} {H H' : Hp} {a : Addr} {xs : List V} (e : Same H H') (h : SqT K H a xs) : SqT K H' a xs :=
  h.elim (fun h => .inl (h.elim (fun h => .inl (e _ _ h)) fun ⟨o, h⟩ => .inr ⟨o, e _ _ h⟩)) fun h => .inr h
/-- steps of a reading -/
theorem seq_name {te : TE} {u : TS} {D : Ends} {σ : L2.St} {H : Hp} {i : Nat} (h : te σ H fun x H1 => u D (σ.set i (some x)) H1) : tSeq (tAsg te (gName i)) u D σ H := h
theorem seq_drop {te : TE} {u : TS} {D : Ends} {σ : L2.St} {H : Hp} (h : tDrop te { D with nx := u D } σ H) : tSeq (tDrop te) u D σ H := h
theorem lst_of {t : TA} {σ : L2.St} {H : Hp} {Q : VK} (h : t σ H fun xs H1 => xs.length ≤ sizeLine ∧ ∀ p, H1 p = none → Q (.ref p) (upd H1 p (.lst xs))) : tLst t σ H Q := h
theorem cons_of {te : TE} {ta : TA} {σ : L2.St} {H : Hp} {Q : List V → Hp → Prop} (h : te σ H fun x H1 => ta σ H1 fun xs H2 => Q (x :: xs) H2) : tCons te ta σ H Q := h
theorem op_of {r : R2} {ta tb : TE} {σ : L2.St} {H : Hp} {Q : VK} (h : ta σ H fun x H1 => tb σ H1 fun y H2 => r x y H2 Q) : tOp r ta tb σ H Q := h
theorem yes_if {A B : Hp → Prop} {σ : L2.St} {H : Hp} (h : A H) : tYes σ H (fun b H3 => if b = true then A H3 else B H3) := by
  show if true = true then A H else B H
  exact iteT h
theorem ret_of {te : TE} {D : Ends} {σ : L2.St} {H : Hp} (h : te σ H D.rt) : tRet te D σ H := h
/-- a property of each item -/
def AllJ {α : Type} (p : α → Prop) : List α → Prop
  | [] => True
  | a :: r => p a ∧ AllJ p r
/-- two rows fit, place by place -/
def fits {α β : Type} (f : α → β → Bool) : List α → List β → Bool
  | [], [] => true
  | a :: r, b :: q => f a b && fits f r q
  | _, _ => false

/-! ### what is asked of an error class with the field given -/
structure EK (P : Program) (w : World) (K : PySem.W.Frag) (mg : Str → Option Value) (base : Heap) (n : Str) : Prop where
  e : ErrN K mg n "given"
  fn : ∃ fd, FnOk P w K mg base CX0 1 (He.ma K (He.ga K n) "__init__") fd ["self", "given"] (spErr K (He.ga K n) "given") ∧ Binds K fd ["self", "given"] [] ∧
    ∀ (s : Shared) (a : Addr) (u : Value), K.In s.heap → BindsTo s fd ⟨[.ref a], [("given", u)]⟩ ((["self", "given"] : List Str).zip [.ref a, u])
  db : (n == ("__debug__" : Str)) = false
theorem kw_binds {K : PySem.W.Frag} {x qual : Str} {pa : Arguments} {bd : List Stmt} {sc : Scope} {f : Addr} {fd : FuncData} {fld : Str} (F : FunD K x qual pa bd sc [] [] f fd)
    (h : ∀ (kV doc pm : Value) (an : Option Addr) (cdv ct : Value) (a : Addr) (u : Value), bindArgs (PySem.W.fnOf x qual pa bd sc .none kV doc pm an cdv ct) ⟨[.ref a], [(fld, u)]⟩ = pure ((["self", fld] : List Str).zip [.ref a, u]))
    (s : Shared) (a : Addr) (u : Value) : BindsTo s fd ⟨[.ref a], [(fld, u)]⟩ ((["self", fld] : List Str).zip [.ref a, u]) := by
  obtain ⟨oc, od, dV, kV, doc, pm, an, cdv, ct, osl, rfl, lk, hcd, hD, hK⟩ := F.ex
  rcases hD with ⟨_, rfl⟩ | ⟨z, _⟩
  · exact .of_eq (h kV doc pm an cdv ct a u)
  · exact absurd rfl z

/-! ### [C(x), ..]: errors made of the value in slot i -/
def errCall (arg n : Str) : Expr → Bool
  | .Call (.Name m _) [.Name a _] [] _ => decide (m = n) && decide (a = arg)
  | _ => false
theorem errCall_ok {arg n : Str} {e : Expr} (h : errCall arg n e = true) : ∃ p q r, e = .Call (.Name n p) [.Name arg q] [] r := by
  unfold errCall at h
  split at h
  · obtain ⟨h1, h2⟩ := Bool.and_eq_true_iff.mp h
    have e1 := of_decide_eq_true h1
    have e2 := of_decide_eq_true h2
    subst e1 e2
    exact ⟨_, _, _, rfl⟩
  · cases h
def errCallK (arg n : Str) : Expr → Bool
  | .Call (.Name m _) [] [⟨some f, .Name a _, _⟩] _ => decide (m = n) && (decide (a = arg) && decide (f = "given"))
  | _ => false
theorem errCallK_ok {arg n : Str} {e : Expr} (h : errCallK arg n e = true) : ∃ p q r k, e = .Call (.Name n p) [] [⟨some "given", .Name arg q, k⟩] r := by
  unfold errCallK at h
  split at h
  · obtain ⟨h1, h⟩ := Bool.and_eq_true_iff.mp h
    obtain ⟨h2, h3⟩ := Bool.and_eq_true_iff.mp h
    have e1 := of_decide_eq_true h1
    have e2 := of_decide_eq_true h2
    have e3 := of_decide_eq_true h3
    subst e1 e2 e3
    exact ⟨_, _, _, _, rfl⟩
  · cases h
/-- the row of errors at as, of the classes ns, each with the value v -/
def Errs (K : PySem.W.Frag) (H : Hp) (v : V) : List Str → List Addr → Prop
  | [], [] => True
  | n :: ns, a :: as => ErrF H a (He.ga K n) "given" v ∧ Errs K H v ns as
  | _, _ => False
theorem Errs.ext {K : PySem.W.Frag} {H H' : Hp} {v : V} (k : Same H H') : ∀ {ns : List Str} {as : List Addr}, Errs K H v ns as → Errs K H' v ns as
  | [], [], _ => trivial
  | _ :: _, _ :: _, h => ⟨h.1.ext k, Errs.ext k h.2⟩
  | [], _ :: _, h => h.elim
  | _ :: _, [], h => h.elim
theorem Errs.app {K : PySem.W.Frag} {H : Hp} {v : V} : ∀ {ns : List Str} {as : List Addr} {ms : List Str} {bs : List Addr}, Errs K H v ns as → Errs K H v ms bs → Errs K H v (ns ++ ms) (as ++ bs)
  | [], [], _, _, _, h => h
  | _ :: _, _ :: _, _, _, h, h' => ⟨h.1, Errs.app h.2 h'⟩
  | [], _ :: _, _, _, h, _ => h.elim
  | _ :: _, [], _, _, h, _ => h.elim
theorem Errs.len {K : PySem.W.Frag} {H : Hp} {v : V} : ∀ {ns : List Str} {as : List Addr}, Errs K H v ns as → as.length = ns.length
  | [], [], _ => rfl
  | _ :: _, _ :: _, h => by rw [List.length_cons, List.length_cons, Errs.len h.2]
  | [], _ :: _, h => h.elim
  | _ :: _, [], h => h.elim
theorem Errs.at_ {K : PySem.W.Frag} {H : Hp} {v : V} : ∀ {ns : List Str} {as : List Addr} {j : Nat} {n : Str}, Errs K H v ns as → ns[j]? = some n → ∃ a, as[j]? = some a ∧ ErrF H a (He.ga K n) "given" v
  | _ :: _, _ :: _, 0, _, h, e => by
    cases e
    exact ⟨_, rfl, h.1⟩
  | _ :: _, _ :: _, j + 1, n, h, e => Errs.at_ (j := j) h.2 (by simpa using e)
  | [], _, _, _, _, e => by simp at e
  | _ :: _, [], _, _, h, _ => h.elim
def tErrs (K : PySem.W.Frag) (i : Nat) (ns : List Str) : TA := fun σ H Q => ∃ v, σ[i]? = some (some v) ∧ ∀ H' as, Same H H' → Errs K H' v ns as → Q (as.map V.ref) H'
theorem err_new {fld : Str} {H : Hp} {a d C : Addr} {v : V} (ha : H a = none) (hd : upd H a (exo a C none) d = none) (hda : d ≠ a) :
    Same H (upd (upd (upd H a (exo a C none)) d (exd d [(fld, v)])) a (exo a C (some d))) ∧ ErrF (upd (upd (upd H a (exo a C none)) d (exd d [(fld, v)])) a (exo a C (some d))) a C fld v := by
  have hd2 : H d = none := by rw [upd_ne hda] at hd; exact hd
  refine ⟨fun b o h => ?_, d, upd_same, ?_⟩
  · rw [upd_ne (ne_of_none h ha), upd_ne (ne_of_none h hd2), upd_ne (ne_of_none h ha)]
    exact h
  · rw [upd_ne hda, upd_same]
section
variable {X : Cx} {i : Nat} {arg : Str}
theorem pa_errs (hr : Room 2 X.A) (ha : ∀ q, PE X (.Name arg q) (tVar i)) : ∀ {ns : List Str} {es : List Expr}, fits (errCall arg) ns es = true → AllJ (EK X.prog X.w X.K X.mg X.base) ns → AllJ (Gl X) ns → PA X es (tErrs X.K i ns)
  | [], [], _, _, _ => pa_imp pa_nil fun σ H Q h => by
    obtain ⟨v, _, h⟩ := h
    exact h H [] (Same.refl _) trivial
  | n :: ns, e :: es, hf, hk, hg => by
    obtain ⟨h1, h2⟩ := Bool.and_eq_true_iff.mp hf
    obtain ⟨p, q, r, rfl⟩ := errCall_ok h1
    obtain ⟨fd, F, b, _⟩ := hk.1.fn
    refine pa_imp (pa_cons (pe_err hk.1.e.c F hr b hg.1 hk.1.e.g (pa_cons (ha q) pa_nil) hk.1.db) (pa_errs hr ha h2 hk.2 hg.2)) fun σ H Q h => ?_
    obtain ⟨v, hv, h⟩ := h
    refine ⟨v, hv, by show 1 ≤ 1000; decide, fun a na => ⟨a, v, rfl, upd_same, fun d nd hda => ⟨rfl, v, hv, fun H' as sm er => ?_⟩⟩⟩
    obtain ⟨k1, k2⟩ := err_new (v := v) na nd hda
    exact h H' (a :: as) (k1.trans sm) ⟨k2.ext sm, er⟩
  | [], _ :: _, hf, _, _ => by cases hf
  | _ :: _, [], hf, _, _ => by cases hf
theorem pa_errsK (hr : Room 2 X.A) (ha : ∀ q, PE X (.Name arg q) (tVar i)) : ∀ {ns : List Str} {es : List Expr}, fits (errCallK arg) ns es = true → AllJ (EK X.prog X.w X.K X.mg X.base) ns → AllJ (Gl X) ns → PA X es (tErrs X.K i ns)
  | [], [], _, _, _ => pa_imp pa_nil fun σ H Q h => by
    obtain ⟨v, _, h⟩ := h
    exact h H [] (Same.refl _) trivial
  | n :: ns, e :: es, hf, hk, hg => by
    obtain ⟨h1, h2⟩ := Bool.and_eq_true_iff.mp hf
    obtain ⟨p, q, r, k, rfl⟩ := errCallK_ok h1
    obtain ⟨fd, F, _, b⟩ := hk.1.fn
    refine pa_imp (pa_cons (pe_errK hk.1.e.c F hr (fun s' a u K' => b s' a u K') hg.1 hk.1.e.g (ha q) hk.1.db) (pa_errsK hr ha h2 hk.2 hg.2)) fun σ H Q h => ?_
    obtain ⟨v, hv, h⟩ := h
    refine ⟨v, hv, v, rfl, fun a na => ⟨a, v, rfl, upd_same, fun d nd hda => ⟨rfl, v, hv, fun H' as sm er => ?_⟩⟩⟩
    obtain ⟨k1, k2⟩ := err_new (v := v) na nd hda
    exact h H' (a :: as) (k1.trans sm) ⟨k2.ext sm, er⟩
  | [], _ :: _, hf, _, _ => by cases hf
  | _ :: _, [], hf, _, _ => by cases hf
end

/-! ### one error, made -/
theorem mk1C {K : PySem.W.Frag} {C : Addr} {fld : Str} {v : V} {σ : L2.St} {H : Hp} {Q : VK} (k : ∀ a H', Same H H' → ErrF H' a C fld v → Q (.ref a) H') : tErr C (spErr K C fld) (tCons (tC v) tNil) σ H Q := by
  refine ⟨(by show 1 ≤ 1000; decide), fun a na => ⟨a, v, rfl, upd_same, fun d nd hda => ⟨rfl, ?_⟩⟩⟩
  obtain ⟨k1, k2⟩ := err_new (fld := fld) (v := v) na nd hda
  exact k a _ k1 k2
theorem mk1V {K : PySem.W.Frag} {C : Addr} {fld : Str} {v : V} {i : Nat} {σ : L2.St} {H : Hp} {Q : VK} (hv : σ[i]? = some (some v)) (k : ∀ a H', Same H H' → ErrF H' a C fld v → Q (.ref a) H') : tErr C (spErr K C fld) (tCons (tVar i) tNil) σ H Q := by
  refine ⟨v, hv, (by show 1 ≤ 1000; decide), fun a na => ⟨a, v, rfl, upd_same, fun d nd hda => ⟨rfl, ?_⟩⟩⟩
  obtain ⟨k1, k2⟩ := err_new (fld := fld) (v := v) na nd hda
  exact k a _ k1 k2
theorem mkKV {K : PySem.W.Frag} {C : Addr} {fld : Str} {v : V} {i : Nat} {σ : L2.St} {H : Hp} {Q : VK} (hv : σ[i]? = some (some v)) (k : ∀ a H', Same H H' → ErrF H' a C fld v → Q (.ref a) H') : tErrK C (spErr K C fld) (tVar i) σ H Q := by
  refine ⟨v, hv, v, rfl, fun a na => ⟨a, v, rfl, upd_same, fun d nd hda => ⟨rfl, ?_⟩⟩⟩
  obtain ⟨k1, k2⟩ := err_new (fld := fld) (v := v) na nd hda
  exact k a _ k1 k2
theorem mk0 {C : Addr} {σ : L2.St} {H : Hp} {Q : VK} (k : ∀ a H', Same H H' → ErrO H' a C → Q (.ref a) H') : tErr C (spErr0 C) tNil σ H Q :=
  ⟨Nat.zero_le _, fun a na => ⟨a, rfl, upd_same, rfl, k a _ (upS na) ⟨none, upd_same, fun _ z => nomatch z⟩⟩⟩

/-! ### [isinstance(e, C), ..] -/
def isCall (arg n : Str) : Expr → Bool
  | .Call (.Name m _) [.Name a _, .Name c _] [] _ => decide (m = "isinstance") && (decide (a = arg) && decide (c = n))
  | _ => false
theorem isCall_ok {arg n : Str} {e : Expr} (h : isCall arg n e = true) : ∃ p q r s, e = .Call (.Name "isinstance" p) [.Name arg q, .Name n r] [] s := by
  unfold isCall at h
  split at h
  · obtain ⟨h1, h⟩ := Bool.and_eq_true_iff.mp h
    obtain ⟨h2, h3⟩ := Bool.and_eq_true_iff.mp h
    have e1 := of_decide_eq_true h1
    have e2 := of_decide_eq_true h2
    have e3 := of_decide_eq_true h3
    subst e1 e2 e3
    exact ⟨_, _, _, _, rfl⟩
  · cases h
/-- a class of the module's own, as isinstance is asked of it -/
structure ClsN (K : PySem.W.Frag) (mg : Str → Option Value) (n : Str) : Prop where
  g : mg n = some (.ref (He.ga K n))
  db : (n == ("__debug__" : Str)) = false
/-- the answers: C is the class at e -/
def kindsV (K : PySem.W.Frag) (C : Addr) (ns : List Str) : List V := ns.map fun n => V.bl (decide (C = He.ga K n))
def Knows (K : PySem.W.Frag) (C : Addr) (n : Str) : Prop := PySem.W.kitOne K (.ref C) (.ref (He.ga K n)) = some (decide (C = He.ga K n))
def tIsis (K : PySem.W.Frag) (i : Nat) (ns : List Str) : TA := fun σ H Q => ∃ e C, σ[i]? = some (some (.ref e)) ∧ ErrO H e C ∧ ExcC K C ∧ AllJ (Knows K C) ns ∧ Q (kindsV K C ns) H
theorem relref {a : Addr} : ∀ u, RelV (.ref a) u → u = Value.ref a := fun _ r => r
theorem pa_isis {X : Cx} {i : Nat} {arg : Str} (hi : Gl X "isinstance") (hm : X.mg "isinstance" = none) (ha : ∀ q, PE X (.Name arg q) (tVar i)) :
    ∀ {ns : List Str} {es : List Expr}, fits (isCall arg) ns es = true → AllJ (ClsN X.K X.mg) ns → AllJ (Gl X) ns → PA X es (tIsis X.K i ns)
  | [], [], _, _, _ => pa_imp pa_nil fun σ H Q h => by
    obtain ⟨e, C, _, _, _, _, h⟩ := h
    exact h
  | n :: ns, e :: es, hf, hk, hg => by
    obtain ⟨h1, h2⟩ := Bool.and_eq_true_iff.mp hf
    obtain ⟨p, q, r, s, rfl⟩ := isCall_ok h1
    refine pa_imp (pa_cons (pe_callB call_isX hi hm PyProof.Rows.boot_isinstance (pa_cons (ha q) (pa_cons (pe_glob (v := .ref (He.ga X.K n)) hg.1 hk.1.g rfl hk.1.db) pa_nil))) (pa_isis hi hm ha h2 hk.2 hg.2)) fun σ H Q h => ?_
    obtain ⟨a, C, hv, ho, hx, hw, h⟩ := h
    exact ⟨_, hv, a, C, _, _, _, rfl, ho, hx, relref, hw.1, a, C, hv, ho, hx, hw.2, h⟩
  | [], _ :: _, hf, _, _ => by cases hf
  | _ :: _, [], hf, _, _ => by cases hf
/-! ### a law's draws: cell, box, take -/
/-- a box of draws: a great number, a small one, how often the small one was mixed (at most n times) -/
def BoxAt (H : Hp) (p : Addr) (n : Int) : Prop := ∃ a b c : Int, H p = some (.lst [.int a, .int b, .int c]) ∧ 0 ≤ a ∧ 0 ≤ b ∧ b < 4294967296 ∧ 0 ≤ c ∧ c ≤ n
def spCellL (K : PySem.W.Frag) : Sp := fun vs H Q _ => ∃ (a : Addr) (ns : List Int) (k : Int), vs = [.ref a, .int k] ∧ SqL K H a (ns.map V.int) ∧ ns.length ≤ 1000 ∧ 0 ≤ k ∧ k < 1000 ∧ ∀ i : Int, Q (.int i) H
def spBoxL : Sp := fun vs H Q _ => ∃ i : Int, vs = [.int i] ∧ ∀ p H', H p = none → BoxAt H' p 0 → (∀ q, q ≠ p → H' q = H q) → Q (.ref p) H'
/-- a number from 0 on below m -/
def spTakeL : Sp := fun vs H Q _ => ∃ (p : Addr) (m n : Int), vs = [.ref p, .int m] ∧ BoxAt H p n ∧ n < 1000000 ∧ 0 < m ∧ m < 10 ^ 40 ∧ ∀ (r : Int) (H' : Hp), 0 ≤ r → r < m → BoxAt H' p (n + 1) → (∀ q, q ≠ p → H' q = H q) → Q (.int r) H'
theorem log_lt {m : Int} (h0 : 0 < m) (h : m < 10 ^ 40) : m.natAbs.log2 < 9000 := by
  have h1 : m.natAbs < 2 ^ 200 := by
    have e : (10 : Int) ^ 40 < 2 ^ 200 := by decide
    omega
  exact Nat.lt_of_lt_of_le (PySem.Flt.log2_lt_of (by decide) h1) (by decide)
theorem none_of {H H' : Hp} {p : Addr} (S : Same H H') (h : H' p = none) : H p = none := by
  cases z : H p with
  | none => rfl
  | some o =>
    rw [S p o z] at h
    cases h
def off (H : Hp) (q : Addr) : Hp := fun a => if a = q then none else H a
theorem off_same {H : Hp} {q : Addr} : Same (off H q) H := fun a o h => by
  unfold off at h
  by_cases e : a = q
  · rw [if_pos e] at h; cases h
  · rw [if_neg e] at h; exact h
theorem off_self {H : Hp} {q : Addr} : off H q q = none := if_pos rfl
theorem off_at {H : Hp} {q a : Addr} {o : HO} (h : H a = some o) (e : a ≠ q) : off H q a = some o := by
  unfold off
  rw [if_neg e]; exact h
theorem keep_off {G H H' : Hp} {q : Addr} (S : Same G H) (hq : G q = none) (k : ∀ a, a ≠ q → H' a = H a) : Same G H' := fun a o h => by
  rw [k a (ne_of_none h hq)]
  exact S a o h
theorem BoxAt.ext {H H' : Hp} {p : Addr} {n : Int} (h : BoxAt H p n) (k : Same H H') : BoxAt H' p n := by
  obtain ⟨a, b, c, h1, h2⟩ := h
  exact ⟨a, b, c, k _ _ h1, h2⟩
theorem BoxAt.ne {H : Hp} {p q : Addr} {n : Int} (h : BoxAt H p n) (hq : H q = none) : q ≠ p := by
  obtain ⟨a, b, c, h1, _⟩ := h
  exact (ne_of_none h1 hq).symm
end J

set_option Elab.async false
set_option linter.all false
set_option maxRecDepth 100000
set_option maxHeartbeats 4000000
/-! K01: all errors keep the very value, each is below DrawError and ValueError, none below another one. -/
namespace K01
open PySem PySem.Spec PyProof.Rows L2 J
def top (i : Nat) : Stmt := PySem.Challenge.pw_jointdraws_k01_errors.main.body.getD i (.Pass ⟨0, 0, 0, 0⟩)
abbrev s_ByZero___init__ : Stmt := inClass (top 2) 0
abbrev s_BadNumber___init__ : Stmt := inClass (top 3) 0
abbrev s_BadText___init__ : Stmt := inClass (top 4) 0
abbrev s_BadName___init__ : Stmt := inClass (top 5) 0
abbrev s_BadKind___init__ : Stmt := inClass (top 6) 0
abbrev s_BadGivers___init__ : Stmt := inClass (top 7) 0
abbrev s_Twice___init__ : Stmt := inClass (top 8) 0
abbrev s_BadShares___init__ : Stmt := inClass (top 9) 0
abbrev s_BadStandIn___init__ : Stmt := inClass (top 10) 0
abbrev s_BadDraws___init__ : Stmt := inClass (top 11) 0
abbrev s_TooMany___init__ : Stmt := inClass (top 12) 0
abbrev s_BadPath___init__ : Stmt := inClass (top 13) 0
abbrev s_BadWish___init__ : Stmt := inClass (top 14) 0
abbrev s_BadStake___init__ : Stmt := inClass (top 15) 0
abbrev s_NoEnd___init__ : Stmt := inClass (top 16) 0
abbrev s_NoPerson___init__ : Stmt := inClass (top 17) 0
abbrev s_BadLiars___init__ : Stmt := inClass (top 18) 0
abbrev s_BadPlan___init__ : Stmt := inClass (top 19) 0
abbrev s_BadCount___init__ : Stmt := inClass (top 20) 0
abbrev s_BadCorner___init__ : Stmt := inClass (top 21) 0
abbrev s_BadFamily___init__ : Stmt := inClass (top 22) 0
abbrev s_BadBounds___init__ : Stmt := inClass (top 23) 0
abbrev s_BadPrices___init__ : Stmt := inClass (top 24) 0
abbrev s_BadNames___init__ : Stmt := inClass (top 25) 0
abbrev s_NotTurns___init__ : Stmt := inClass (top 26) 0
abbrev s_UnlikeEnds___init__ : Stmt := inClass (top 27) 0
abbrev s_NotNow___init__ : Stmt := inClass (top 28) 0
abbrev s_NothingToUndo___init__ : Stmt := inClass (top 29) 0
abbrev s__law_cell : Stmt := top 31
abbrev s__law_box : Stmt := top 32
abbrev s__law_take : Stmt := top 33
abbrev s__law_first : Stmt := top 34
abbrev s__law_kinds : Stmt := top 35
abbrev s__law_made : Stmt := top 36
abbrev s__law_named : Stmt := top 37
abbrev s__law_same : Stmt := top 38
abbrev s__law_bases_right : Stmt := top 39
abbrev s_law : Stmt := top 40
abbrev FnP (K : PySem.W.Frag) (x : Str) (st : Stmt) (f : Addr) (fd : FuncData) : Prop := FunD K x x (defArgs st) (defBody st) (defScope st) [] [] f fd
abbrev FnI (K : PySem.W.Frag) (q : Str) (st : Stmt) (f : Addr) (fd : FuncData) : Prop := FunD K "__init__" q (defArgs st) (defBody st) (defScope st) [] [] f fd
/-! ### cell, box, take: walked -/
section
variable {P : Program} {w : World} {K : PySem.W.Frag} {mg : Str → Option Value} {base : Heap} {f : Addr} {fd : FuncData}
theorem b01 (b : Bool) : (0 : Int) ≤ (if b = true then 1 else 0) ∧ (if b = true then (1 : Int) else 0) ≤ 1 := by cases b <;> decide
theorem b01r (b : Bool) : -(2 : Int) ^ 64 < (if b = true then 1 else 0) ∧ (if b = true then (1 : Int) else 0) < (2 : Int) ^ 64 := ⟨Int.lt_of_lt_of_le (by decide) (b01 b).1, Int.lt_of_le_of_lt (b01 b).2 (by decide)⟩
theorem scCell : FnScope ["_law_script", "_law_k"] ["_law_script", "_law_k"] (defScope s__law_cell) := ⟨rfl, rfl, rfl, by decide +kernel, rfl, by decide +kernel, by decide +kernel⟩
theorem ok_cell (F : FnP K "_law_cell" s__law_cell f fd) (mL : mg "len" = none) : FnOk P w K mg base CX0 1 f fd ["_law_script", "_law_k"] (spCellL K) := by
  refine F.ok scCell (fun vs H Q E h => ?_) (fun cdv A outer s H vs Q E hr h => ?_)
  · obtain ⟨a, ns, k, rfl, _⟩ := h
    rfl
  · obtain ⟨a, ns, k, rfl, hS, hn, h0, hk, q⟩ := h
    refine ⟨_, PSs.nox (pss_cons (ps_if (pt_cmpR op_lt (pv 1) (pe_callB call_len (by rfl) mL PySem.boot_len (pa_cons (pv 0) pa_nil)) (nomark _)) (pss_one (ps_ret (pe_ix ix_list (pv 0) (pv 1) (fun _ _ => rfl)))) pss_nil)
      (pss_one (ps_ret (pe_op op_add (pe_op op_mul pe_int (pv 1)) pe_int)))), ?_⟩
    refine ⟨_, rfl, _, rfl, .ref a, (ns.map V.int).length, rfl, Or.inl ⟨_, hS, rfl⟩, _, _, rfl, rfl, _, rfl, ?_⟩
    refine ite2 (fun h1 => ?_) (fun h1 => ?_)
    · have h2 : k < ((ns.map V.int).length : Nat) := of_decide_eq_true h1
      obtain ⟨j, rfl⟩ : ∃ j : Nat, k = (j : Int) := ⟨k.toNat, by omega⟩
      rw [List.length_map] at h2
      have h3 : j < ns.length := by omega
      exact ⟨_, rfl, _, rfl, a, _, _, _, rfl, rfl, hS, atI_nat (by rw [List.getElem?_map, List.getElem?_eq_getElem h3]; rfl), q _⟩
    · exact ⟨_, rfl, _, _, rfl, rfl, Or.inr ⟨by omega, by omega⟩, _, _, rfl, rfl, q _⟩
theorem scBox : FnScope ["_law_cell_here"] ["_law_cell_here"] (defScope s__law_box) := ⟨rfl, rfl, rfl, by decide +kernel, rfl, by decide +kernel, by decide +kernel⟩
theorem ok_box (F : FnP K "_law_box" s__law_box f fd) (mA : mg "abs" = none) (mI : mg "int" = none) : FnOk P w K mg base CX0 1 f fd ["_law_cell_here"] spBoxL := by
  refine F.ok scBox (fun vs H Q E h => ?_) (fun cdv A outer s H vs Q E hr h => ?_)
  · obtain ⟨i, rfl, _⟩ := h
    rfl
  · obtain ⟨i, rfl, q⟩ := h
    refine ⟨_, PSs.nox (pss_one (ps_ret (pe_lst (pa_cons
        (pe_op op_mul (pe_callB call_abs (by rfl) mA PyProof.Rows.boot_abs (pa_cons (pv 0) pa_nil))
          (pe_callTy call_int1 (by rfl) mI (by decide +kernel) (pa_cons (pe_cmpR op_ge (pe_callB call_abs (by rfl) mA PyProof.Rows.boot_abs (pa_cons (pv 0) pa_nil)) (pe_op op_pow pe_int pe_int) (nomark _)) pa_nil)))
      (pa_cons (pe_op op_add (pe_op op_mod (pe_callTy call_int1 (by rfl) mI (by decide +kernel) (pa_cons (pe_callB call_abs (by rfl) mA PyProof.Rows.boot_abs (pa_cons (pv 0) pa_nil)) pa_nil)) pe_int)
          (pe_callTy call_int1 (by rfl) mI (by decide +kernel) (pa_cons (pe_cmpR op_lt (pv 0) pe_int (nomark _)) pa_nil)))
      (pa_cons pe_int pa_nil)))))), ?_⟩
    refine ⟨_, rfl, _, rfl, _, rfl, _, rfl, _, _, rfl, rfl, ⟨by decide, by decide, by decide⟩, _, _, rfl, rfl, Or.inr ⟨_, rfl, _, _, rfl, rfl, Or.inr ?_, ?_⟩⟩
    · exact b01r _
    refine ⟨_, rfl, _, rfl, Or.inl ⟨_, rfl, _, _, rfl, rfl, (by show (0 : Int) < 2147483629; decide), _, rfl, _, _, rfl, rfl, Or.inr ⟨_, rfl, _, _, rfl, rfl, ?_⟩⟩⟩
    refine ⟨(by show 3 ≤ sizeLine; decide), fun p hp => ?_⟩
    refine q p _ hp ⟨_, _, _, upd_same, ?_, ?_, ?_, by decide, by decide⟩ fun z hz => upd_ne hz
    · exact Int.mul_nonneg (by split <;> omega) (b01 _).1
    · have h1 := Int.emod_nonneg (if i < 0 then -i else i) (show (2147483629 : Int) ≠ 0 by decide)
      have h2 := b01 (decide (i < 0))
      exact Int.add_nonneg h1 h2.1
    · have h1 := Int.emod_lt_of_pos (if i < 0 then -i else i) (show (0 : Int) < 2147483629 by decide)
      have h2 := b01 (decide (i < 0))
      refine Int.lt_of_lt_of_le (Int.add_lt_add_of_lt_of_le h1 h2.2) (by decide)
theorem scTake : FnScope ["_law_box_here", "_law_many", "_law_digit", "_law_mixed"] ["_law_box_here", "_law_many"] (defScope s__law_take) := ⟨rfl, rfl, rfl, by decide +kernel, rfl, by decide +kernel, by decide +kernel⟩
theorem ok_take (F : FnP K "_law_take" s__law_take f fd) (mI : mg "int" = none) : FnOk P w K mg base CX0 1 f fd ["_law_box_here", "_law_many"] spTakeL := by
  refine F.ok scTake (fun vs H Q E h => ?_) (fun cdv A outer s H vs Q E hr h => ?_)
  · obtain ⟨p, m, n, rfl, _⟩ := h
    rfl
  · obtain ⟨p, m, n, rfl, ⟨a, b, c, hp, ha, hb0, hb1, hc0, hc1⟩, hn, hm0, hm1, q⟩ := h
    refine ⟨_, PSs.nox (pss_cons (ps_if (pt_cmpR op_gt (pe_ix ix_list (pv 0) pe_int (fun _ _ => rfl)) pe_int (nomark _))
        (pss_cons (ps_set (i := 2) scTake.nd rfl (Or.inl rfl) (pe_op op_mod (pe_callTy call_int1 (by rfl) mI (by decide +kernel) (pa_cons (pe_ix ix_list (pv 0) pe_int (fun _ _ => rfl)) pa_nil)) (pv 1)))
        (pss_cons (ps_asg (pe_op op_fdivW (pe_ix ix_list (pv 0) pe_int (fun _ _ => rfl)) (pv 1)) (pg_sub (pv 0) pe_int set_list))
        (pss_one (ps_ret (pv 2))))) pss_nil)
      (pss_cons (ps_asg (pe_op op_add (pe_ix ix_list (pv 0) pe_int (fun _ _ => rfl)) pe_int) (pg_sub (pv 0) pe_int set_list))
      (pss_cons (ps_set (i := 3) scTake.nd rfl (Or.inl rfl) (pe_op op_mod (pe_op op_pow (pe_callTy call_int1 (by rfl) mI (by decide +kernel) (pa_cons
          (pe_op op_add (pe_op op_add (pe_ix ix_list (pv 0) pe_int (fun _ _ => rfl)) (pe_op op_mul pe_int (pe_ix ix_list (pv 0) pe_int (fun _ _ => rfl)))) pe_int) pa_nil)) pe_int) pe_int))
      (pss_cons (ps_set (i := 3) scTake.nd rfl (Or.inl rfl) (pe_op op_mod (pe_op op_pow (pe_callTy call_int1 (by rfl) mI (by decide +kernel) (pa_cons
          (pe_op op_add (pe_op op_add (pe_op op_fdiv (pv 3) pe_int) (pe_op op_mul pe_int (pe_ix ix_list (pv 0) pe_int (fun _ _ => rfl)))) (pe_ix ix_list (pv 0) pe_int (fun _ _ => rfl))) pa_nil)) pe_int) pe_int))
      (pss_one (ps_ret (pe_op op_mod (pe_op op_fdiv (pv 3) pe_int) (pv 1)))))))), ?_⟩
    refine ⟨_, rfl, p, _, 0, _, rfl, rfl, SqL.of hp, rfl, _, _, rfl, rfl, _, rfl, ?_⟩
    refine ite2 (fun h1 => ?_) (fun h1 => ?_)
    · have h2 : 0 < a := of_decide_eq_true h1
      refine ⟨_, rfl, p, _, 0, _, rfl, rfl, SqL.of hp, rfl, Or.inl ⟨_, rfl, _, rfl, _, _, rfl, rfl, hm0, ?_⟩⟩
      refine ⟨_, rfl, p, _, 0, _, rfl, rfl, SqL.of hp, rfl, _, rfl, _, _, rfl, rfl, ⟨hm0, log_lt hm0 hm1⟩, _, rfl, p, _, 0, 0, rfl, rfl, hp, rfl, ?_⟩
      refine ⟨_, rfl, q _ _ (Int.emod_nonneg _ (by omega)) (Int.emod_lt_of_pos _ hm0) ⟨a / m, b, c, upd_same, Int.ediv_nonneg ha (by omega), hb0, hb1, hc0, by omega⟩ fun z hz => upd_ne hz⟩
    · refine ⟨_, rfl, p, _, 2, _, rfl, rfl, SqL.of hp, rfl, _, _, rfl, rfl, _, rfl, p, _, 2, 2, rfl, rfl, hp, rfl, ?_⟩
      have hp2 : upd H p (.lst [.int a, .int b, .int (c + 1)]) p = some (.lst [.int a, .int b, .int (c + 1)]) := upd_same
      have b0 : 0 ≤ b + 48271 * (c + 1) + 11 := by omega
      have b1 : b + 48271 * (c + 1) + 11 < 2 ^ 60 := by omega
      refine ⟨_, rfl, p, _, 1, _, rfl, rfl, SqL.of hp2, rfl, _, rfl, p, _, 2, _, rfl, rfl, SqL.of hp2, rfl, _, _, rfl, rfl, Or.inl ⟨by decide, by decide⟩, _, _, rfl, rfl, _, _, rfl, rfl, Or.inl ⟨_, rfl, _, _, rfl, rfl, ⟨by decide, by decide, by omega⟩, _, _, rfl, rfl, (by show (0 : Int) < 2147483647; decide), ?_⟩⟩
      generalize hx : (b + 48271 * (c + 1) + 11) ^ (5 : Int).toNat % 2147483647 = x
      have x0 : 0 ≤ x := by rw [← hx]; exact Int.emod_nonneg _ (by decide)
      have x1 : x < 2147483647 := by rw [← hx]; exact Int.emod_lt_of_pos _ (by decide)
      have y0 : 0 ≤ x / 8 := Int.ediv_nonneg x0 (by decide)
      have y1 : x / 8 ≤ x := Int.ediv_le_self _ x0
      refine ⟨_, rfl, _, _, rfl, rfl, ⟨by decide, by decide⟩, _, rfl, p, _, 2, _, rfl, rfl, SqL.of hp2, rfl, _, _, rfl, rfl, Or.inl ⟨by decide, by decide⟩, _, _, rfl, rfl, _, rfl, p, _, 1, _, rfl, rfl, SqL.of hp2, rfl, _, _, rfl, rfl, Or.inl ⟨_, rfl, _, _, rfl, rfl, ⟨by decide, by decide, by omega⟩, _, _, rfl, rfl, (by show (0 : Int) < 2147483587; decide), ?_⟩⟩
      refine ⟨_, rfl, _, _, rfl, rfl, ⟨by decide, by decide⟩, _, rfl, _, _, rfl, rfl, hm0, ?_⟩
      exact q _ _ (Int.emod_nonneg _ (by omega)) (Int.emod_lt_of_pos _ hm0) ⟨a, b, c + 1, hp2, ha, hb0, hb1, by omega, by omega⟩ fun z hz => upd_ne hz
end
/-! ### the errors -/
abbrev n22 : List Str := ["BadBounds", "BadCorner", "BadCount", "BadDraws", "BadFamily", "BadGivers", "BadKind", "BadLiars", "BadName", "BadNames", "BadNumber", "BadPath", "BadPlan", "BadPrices", "BadShares", "BadStake", "BadStandIn", "BadText", "BadWish", "NoEnd", "NoPerson", "NotNow"]
abbrev n28 : List Str := n22 ++ (["Twice", "TooMany", "ByZero", "NothingToUndo", "NotTurns", "UnlikeEnds"] : List Str)
section
variable {P : Program} {w : World} {K : PySem.W.Frag} {mg : Str → Option Value} {base : Heap} {f : Addr} {fd : FuncData}
theorem e_BadBounds (F : FnI K "BadBounds.__init__" s_BadBounds___init__ f fd) (T : DErr K mg (He.ga K "DrawError")) (E : ErrN K mg "BadBounds" "given") : FnOk P w K mg base CX0 1 f fd ["self", "given"] (spErr K (He.ga K "BadBounds") "given") ∧ Binds K fd ["self", "given"] [] :=
  ⟨ok_err F rfl rfl (by decide) (by decide) (by decide) (by decide) (by decide) T E.c.oex E.nof, F.bindsN fun _ _ _ _ _ _ us hl => match us, hl with | [_, _], _ => rfl⟩
theorem e_BadCorner (F : FnI K "BadCorner.__init__" s_BadCorner___init__ f fd) (T : DErr K mg (He.ga K "DrawError")) (E : ErrN K mg "BadCorner" "given") : FnOk P w K mg base CX0 1 f fd ["self", "given"] (spErr K (He.ga K "BadCorner") "given") ∧ Binds K fd ["self", "given"] [] :=
  ⟨ok_err F rfl rfl (by decide) (by decide) (by decide) (by decide) (by decide) T E.c.oex E.nof, F.bindsN fun _ _ _ _ _ _ us hl => match us, hl with | [_, _], _ => rfl⟩
theorem e_BadCount (F : FnI K "BadCount.__init__" s_BadCount___init__ f fd) (T : DErr K mg (He.ga K "DrawError")) (E : ErrN K mg "BadCount" "given") : FnOk P w K mg base CX0 1 f fd ["self", "given"] (spErr K (He.ga K "BadCount") "given") ∧ Binds K fd ["self", "given"] [] :=
  ⟨ok_err F rfl rfl (by decide) (by decide) (by decide) (by decide) (by decide) T E.c.oex E.nof, F.bindsN fun _ _ _ _ _ _ us hl => match us, hl with | [_, _], _ => rfl⟩
theorem e_BadDraws (F : FnI K "BadDraws.__init__" s_BadDraws___init__ f fd) (T : DErr K mg (He.ga K "DrawError")) (E : ErrN K mg "BadDraws" "given") : FnOk P w K mg base CX0 1 f fd ["self", "given"] (spErr K (He.ga K "BadDraws") "given") ∧ Binds K fd ["self", "given"] [] :=
  ⟨ok_err F rfl rfl (by decide) (by decide) (by decide) (by decide) (by decide) T E.c.oex E.nof, F.bindsN fun _ _ _ _ _ _ us hl => match us, hl with | [_, _], _ => rfl⟩
theorem e_BadFamily (F : FnI K "BadFamily.__init__" s_BadFamily___init__ f fd) (T : DErr K mg (He.ga K "DrawError")) (E : ErrN K mg "BadFamily" "given") : FnOk P w K mg base CX0 1 f fd ["self", "given"] (spErr K (He.ga K "BadFamily") "given") ∧ Binds K fd ["self", "given"] [] :=
  ⟨ok_err F rfl rfl (by decide) (by decide) (by decide) (by decide) (by decide) T E.c.oex E.nof, F.bindsN fun _ _ _ _ _ _ us hl => match us, hl with | [_, _], _ => rfl⟩
theorem e_BadGivers (F : FnI K "BadGivers.__init__" s_BadGivers___init__ f fd) (T : DErr K mg (He.ga K "DrawError")) (E : ErrN K mg "BadGivers" "given") : FnOk P w K mg base CX0 1 f fd ["self", "given"] (spErr K (He.ga K "BadGivers") "given") ∧ Binds K fd ["self", "given"] [] :=
  ⟨ok_err F rfl rfl (by decide) (by decide) (by decide) (by decide) (by decide) T E.c.oex E.nof, F.bindsN fun _ _ _ _ _ _ us hl => match us, hl with | [_, _], _ => rfl⟩
theorem e_BadKind (F : FnI K "BadKind.__init__" s_BadKind___init__ f fd) (T : DErr K mg (He.ga K "DrawError")) (E : ErrN K mg "BadKind" "given") : FnOk P w K mg base CX0 1 f fd ["self", "given"] (spErr K (He.ga K "BadKind") "given") ∧ Binds K fd ["self", "given"] [] :=
  ⟨ok_err F rfl rfl (by decide) (by decide) (by decide) (by decide) (by decide) T E.c.oex E.nof, F.bindsN fun _ _ _ _ _ _ us hl => match us, hl with | [_, _], _ => rfl⟩
theorem e_BadLiars (F : FnI K "BadLiars.__init__" s_BadLiars___init__ f fd) (T : DErr K mg (He.ga K "DrawError")) (E : ErrN K mg "BadLiars" "given") : FnOk P w K mg base CX0 1 f fd ["self", "given"] (spErr K (He.ga K "BadLiars") "given") ∧ Binds K fd ["self", "given"] [] :=
  ⟨ok_err F rfl rfl (by decide) (by decide) (by decide) (by decide) (by decide) T E.c.oex E.nof, F.bindsN fun _ _ _ _ _ _ us hl => match us, hl with | [_, _], _ => rfl⟩
theorem e_BadName (F : FnI K "BadName.__init__" s_BadName___init__ f fd) (T : DErr K mg (He.ga K "DrawError")) (E : ErrN K mg "BadName" "given") : FnOk P w K mg base CX0 1 f fd ["self", "given"] (spErr K (He.ga K "BadName") "given") ∧ Binds K fd ["self", "given"] [] :=
  ⟨ok_err F rfl rfl (by decide) (by decide) (by decide) (by decide) (by decide) T E.c.oex E.nof, F.bindsN fun _ _ _ _ _ _ us hl => match us, hl with | [_, _], _ => rfl⟩
theorem e_BadNames (F : FnI K "BadNames.__init__" s_BadNames___init__ f fd) (T : DErr K mg (He.ga K "DrawError")) (E : ErrN K mg "BadNames" "given") : FnOk P w K mg base CX0 1 f fd ["self", "given"] (spErr K (He.ga K "BadNames") "given") ∧ Binds K fd ["self", "given"] [] :=
  ⟨ok_err F rfl rfl (by decide) (by decide) (by decide) (by decide) (by decide) T E.c.oex E.nof, F.bindsN fun _ _ _ _ _ _ us hl => match us, hl with | [_, _], _ => rfl⟩
theorem e_BadNumber (F : FnI K "BadNumber.__init__" s_BadNumber___init__ f fd) (T : DErr K mg (He.ga K "DrawError")) (E : ErrN K mg "BadNumber" "given") : FnOk P w K mg base CX0 1 f fd ["self", "given"] (spErr K (He.ga K "BadNumber") "given") ∧ Binds K fd ["self", "given"] [] :=
  ⟨ok_err F rfl rfl (by decide) (by decide) (by decide) (by decide) (by decide) T E.c.oex E.nof, F.bindsN fun _ _ _ _ _ _ us hl => match us, hl with | [_, _], _ => rfl⟩
theorem e_BadPath (F : FnI K "BadPath.__init__" s_BadPath___init__ f fd) (T : DErr K mg (He.ga K "DrawError")) (E : ErrN K mg "BadPath" "given") : FnOk P w K mg base CX0 1 f fd ["self", "given"] (spErr K (He.ga K "BadPath") "given") ∧ Binds K fd ["self", "given"] [] :=
  ⟨ok_err F rfl rfl (by decide) (by decide) (by decide) (by decide) (by decide) T E.c.oex E.nof, F.bindsN fun _ _ _ _ _ _ us hl => match us, hl with | [_, _], _ => rfl⟩
theorem e_BadPlan (F : FnI K "BadPlan.__init__" s_BadPlan___init__ f fd) (T : DErr K mg (He.ga K "DrawError")) (E : ErrN K mg "BadPlan" "given") : FnOk P w K mg base CX0 1 f fd ["self", "given"] (spErr K (He.ga K "BadPlan") "given") ∧ Binds K fd ["self", "given"] [] :=
  ⟨ok_err F rfl rfl (by decide) (by decide) (by decide) (by decide) (by decide) T E.c.oex E.nof, F.bindsN fun _ _ _ _ _ _ us hl => match us, hl with | [_, _], _ => rfl⟩
theorem e_BadPrices (F : FnI K "BadPrices.__init__" s_BadPrices___init__ f fd) (T : DErr K mg (He.ga K "DrawError")) (E : ErrN K mg "BadPrices" "given") : FnOk P w K mg base CX0 1 f fd ["self", "given"] (spErr K (He.ga K "BadPrices") "given") ∧ Binds K fd ["self", "given"] [] :=
  ⟨ok_err F rfl rfl (by decide) (by decide) (by decide) (by decide) (by decide) T E.c.oex E.nof, F.bindsN fun _ _ _ _ _ _ us hl => match us, hl with | [_, _], _ => rfl⟩
theorem e_BadShares (F : FnI K "BadShares.__init__" s_BadShares___init__ f fd) (T : DErr K mg (He.ga K "DrawError")) (E : ErrN K mg "BadShares" "given") : FnOk P w K mg base CX0 1 f fd ["self", "given"] (spErr K (He.ga K "BadShares") "given") ∧ Binds K fd ["self", "given"] [] :=
  ⟨ok_err F rfl rfl (by decide) (by decide) (by decide) (by decide) (by decide) T E.c.oex E.nof, F.bindsN fun _ _ _ _ _ _ us hl => match us, hl with | [_, _], _ => rfl⟩
theorem e_BadStake (F : FnI K "BadStake.__init__" s_BadStake___init__ f fd) (T : DErr K mg (He.ga K "DrawError")) (E : ErrN K mg "BadStake" "given") : FnOk P w K mg base CX0 1 f fd ["self", "given"] (spErr K (He.ga K "BadStake") "given") ∧ Binds K fd ["self", "given"] [] :=
  ⟨ok_err F rfl rfl (by decide) (by decide) (by decide) (by decide) (by decide) T E.c.oex E.nof, F.bindsN fun _ _ _ _ _ _ us hl => match us, hl with | [_, _], _ => rfl⟩
theorem e_BadStandIn (F : FnI K "BadStandIn.__init__" s_BadStandIn___init__ f fd) (T : DErr K mg (He.ga K "DrawError")) (E : ErrN K mg "BadStandIn" "given") : FnOk P w K mg base CX0 1 f fd ["self", "given"] (spErr K (He.ga K "BadStandIn") "given") ∧ Binds K fd ["self", "given"] [] :=
  ⟨ok_err F rfl rfl (by decide) (by decide) (by decide) (by decide) (by decide) T E.c.oex E.nof, F.bindsN fun _ _ _ _ _ _ us hl => match us, hl with | [_, _], _ => rfl⟩
theorem e_BadText (F : FnI K "BadText.__init__" s_BadText___init__ f fd) (T : DErr K mg (He.ga K "DrawError")) (E : ErrN K mg "BadText" "given") : FnOk P w K mg base CX0 1 f fd ["self", "given"] (spErr K (He.ga K "BadText") "given") ∧ Binds K fd ["self", "given"] [] :=
  ⟨ok_err F rfl rfl (by decide) (by decide) (by decide) (by decide) (by decide) T E.c.oex E.nof, F.bindsN fun _ _ _ _ _ _ us hl => match us, hl with | [_, _], _ => rfl⟩
theorem e_BadWish (F : FnI K "BadWish.__init__" s_BadWish___init__ f fd) (T : DErr K mg (He.ga K "DrawError")) (E : ErrN K mg "BadWish" "given") : FnOk P w K mg base CX0 1 f fd ["self", "given"] (spErr K (He.ga K "BadWish") "given") ∧ Binds K fd ["self", "given"] [] :=
  ⟨ok_err F rfl rfl (by decide) (by decide) (by decide) (by decide) (by decide) T E.c.oex E.nof, F.bindsN fun _ _ _ _ _ _ us hl => match us, hl with | [_, _], _ => rfl⟩
theorem e_NoEnd (F : FnI K "NoEnd.__init__" s_NoEnd___init__ f fd) (T : DErr K mg (He.ga K "DrawError")) (E : ErrN K mg "NoEnd" "given") : FnOk P w K mg base CX0 1 f fd ["self", "given"] (spErr K (He.ga K "NoEnd") "given") ∧ Binds K fd ["self", "given"] [] :=
  ⟨ok_err F rfl rfl (by decide) (by decide) (by decide) (by decide) (by decide) T E.c.oex E.nof, F.bindsN fun _ _ _ _ _ _ us hl => match us, hl with | [_, _], _ => rfl⟩
theorem e_NoPerson (F : FnI K "NoPerson.__init__" s_NoPerson___init__ f fd) (T : DErr K mg (He.ga K "DrawError")) (E : ErrN K mg "NoPerson" "given") : FnOk P w K mg base CX0 1 f fd ["self", "given"] (spErr K (He.ga K "NoPerson") "given") ∧ Binds K fd ["self", "given"] [] :=
  ⟨ok_err F rfl rfl (by decide) (by decide) (by decide) (by decide) (by decide) T E.c.oex E.nof, F.bindsN fun _ _ _ _ _ _ us hl => match us, hl with | [_, _], _ => rfl⟩
theorem e_NotNow (F : FnI K "NotNow.__init__" s_NotNow___init__ f fd) (T : DErr K mg (He.ga K "DrawError")) (E : ErrN K mg "NotNow" "given") : FnOk P w K mg base CX0 1 f fd ["self", "given"] (spErr K (He.ga K "NotNow") "given") ∧ Binds K fd ["self", "given"] [] :=
  ⟨ok_err F rfl rfl (by decide) (by decide) (by decide) (by decide) (by decide) T E.c.oex E.nof, F.bindsN fun _ _ _ _ _ _ us hl => match us, hl with | [_, _], _ => rfl⟩
theorem e_Twice (F : FnI K "Twice.__init__" s_Twice___init__ f fd) (T : DErr K mg (He.ga K "DrawError")) (E : ErrN K mg "Twice" "person") : FnOk P w K mg base CX0 1 f fd ["self", "person"] (spErr K (He.ga K "Twice") "person") ∧ Binds K fd ["self", "person"] [] :=
  ⟨ok_err F rfl rfl (by decide) (by decide) (by decide) (by decide) (by decide) T E.c.oex E.nof, F.bindsN fun _ _ _ _ _ _ us hl => match us, hl with | [_, _], _ => rfl⟩
theorem e_TooMany (F : FnI K "TooMany.__init__" s_TooMany___init__ f fd) (T : DErr K mg (He.ga K "DrawError")) (E : ErrN K mg "TooMany" "count") : FnOk P w K mg base CX0 1 f fd ["self", "count"] (spErr K (He.ga K "TooMany") "count") ∧ Binds K fd ["self", "count"] [] :=
  ⟨ok_err F rfl rfl (by decide) (by decide) (by decide) (by decide) (by decide) T E.c.oex E.nof, F.bindsN fun _ _ _ _ _ _ us hl => match us, hl with | [_, _], _ => rfl⟩
theorem e_ByZero (F : FnI K "ByZero.__init__" s_ByZero___init__ f fd) (T : DErr K mg (He.ga K "DrawError")) (E : ErrN K mg "ByZero" "given") : FnOk P w K mg base CX0 1 f fd ["self"] (spErr0 (He.ga K "ByZero")) ∧ Binds K fd ["self"] [] :=
  ⟨ok_err0 F rfl rfl (by decide) T E.c.oex, F.bindsN fun _ _ _ _ _ _ us hl => match us, hl with | [_], _ => rfl⟩
theorem e_NothingToUndo (F : FnI K "NothingToUndo.__init__" s_NothingToUndo___init__ f fd) (T : DErr K mg (He.ga K "DrawError")) (E : ErrN K mg "NothingToUndo" "given") : FnOk P w K mg base CX0 1 f fd ["self"] (spErr0 (He.ga K "NothingToUndo")) ∧ Binds K fd ["self"] [] :=
  ⟨ok_err0 F rfl rfl (by decide) T E.c.oex, F.bindsN fun _ _ _ _ _ _ us hl => match us, hl with | [_], _ => rfl⟩
theorem e_NotTurns (F : FnI K "NotTurns.__init__" s_NotTurns___init__ f fd) (T : DErr K mg (He.ga K "DrawError")) (E : ErrN K mg "NotTurns" "given") : FnOk P w K mg base CX0 1 f fd ["self"] (spErr0 (He.ga K "NotTurns")) ∧ Binds K fd ["self"] [] :=
  ⟨ok_err0 F rfl rfl (by decide) T E.c.oex, F.bindsN fun _ _ _ _ _ _ us hl => match us, hl with | [_], _ => rfl⟩
theorem e_UnlikeEnds (F : FnI K "UnlikeEnds.__init__" s_UnlikeEnds___init__ f fd) (T : DErr K mg (He.ga K "DrawError")) (E : ErrN K mg "UnlikeEnds" "given") : FnOk P w K mg base CX0 1 f fd ["self"] (spErr0 (He.ga K "UnlikeEnds")) ∧ Binds K fd ["self"] [] :=
  ⟨ok_err0 F rfl rfl (by decide) T E.c.oex, F.bindsN fun _ _ _ _ _ _ us hl => match us, hl with | [_], _ => rfl⟩
theorem k_BadBounds (F : FnI K "BadBounds.__init__" s_BadBounds___init__ (He.ma K (He.ga K "BadBounds") "__init__") fd) (T : DErr K mg (He.ga K "DrawError")) (E : ErrN K mg "BadBounds" "given") : EK P w K mg base "BadBounds" :=
  ⟨E, ⟨fd, (e_BadBounds (P := P) (w := w) (base := base) F T E).1, (e_BadBounds (P := P) (w := w) (base := base) F T E).2, fun s a u _ => kw_binds F (fun _ _ _ _ _ _ _ _ => rfl) s a u⟩, by decide⟩
theorem k_BadCorner (F : FnI K "BadCorner.__init__" s_BadCorner___init__ (He.ma K (He.ga K "BadCorner") "__init__") fd) (T : DErr K mg (He.ga K "DrawError")) (E : ErrN K mg "BadCorner" "given") : EK P w K mg base "BadCorner" :=
  ⟨E, ⟨fd, (e_BadCorner (P := P) (w := w) (base := base) F T E).1, (e_BadCorner (P := P) (w := w) (base := base) F T E).2, fun s a u _ => kw_binds F (fun _ _ _ _ _ _ _ _ => rfl) s a u⟩, by decide⟩
theorem k_BadCount (F : FnI K "BadCount.__init__" s_BadCount___init__ (He.ma K (He.ga K "BadCount") "__init__") fd) (T : DErr K mg (He.ga K "DrawError")) (E : ErrN K mg "BadCount" "given") : EK P w K mg base "BadCount" :=
  ⟨E, ⟨fd, (e_BadCount (P := P) (w := w) (base := base) F T E).1, (e_BadCount (P := P) (w := w) (base := base) F T E).2, fun s a u _ => kw_binds F (fun _ _ _ _ _ _ _ _ => rfl) s a u⟩, by decide⟩
theorem k_BadDraws (F : FnI K "BadDraws.__init__" s_BadDraws___init__ (He.ma K (He.ga K "BadDraws") "__init__") fd) (T : DErr K mg (He.ga K "DrawError")) (E : ErrN K mg "BadDraws" "given") : EK P w K mg base "BadDraws" :=
  ⟨E, ⟨fd, (e_BadDraws (P := P) (w := w) (base := base) F T E).1, (e_BadDraws (P := P) (w := w) (base := base) F T E).2, fun s a u _ => kw_binds F (fun _ _ _ _ _ _ _ _ => rfl) s a u⟩, by decide⟩
theorem k_BadFamily (F : FnI K "BadFamily.__init__" s_BadFamily___init__ (He.ma K (He.ga K "BadFamily") "__init__") fd) (T : DErr K mg (He.ga K "DrawError")) (E : ErrN K mg "BadFamily" "given") : EK P w K mg base "BadFamily" :=
  ⟨E, ⟨fd, (e_BadFamily (P := P) (w := w) (base := base) F T E).1, (e_BadFamily (P := P) (w := w) (base := base) F T E).2, fun s a u _ => kw_binds F (fun _ _ _ _ _ _ _ _ => rfl) s a u⟩, by decide⟩
theorem k_BadGivers (F : FnI K "BadGivers.__init__" s_BadGivers___init__ (He.ma K (He.ga K "BadGivers") "__init__") fd) (T : DErr K mg (He.ga K "DrawError")) (E : ErrN K mg "BadGivers" "given") : EK P w K mg base "BadGivers" :=
  ⟨E, ⟨fd, (e_BadGivers (P := P) (w := w) (base := base) F T E).1, (e_BadGivers (P := P) (w := w) (base := base) F T E).2, fun s a u _ => kw_binds F (fun _ _ _ _ _ _ _ _ => rfl) s a u⟩, by decide⟩
theorem k_BadKind (F : FnI K "BadKind.__init__" s_BadKind___init__ (He.ma K (He.ga K "BadKind") "__init__") fd) (T : DErr K mg (He.ga K "DrawError")) (E : ErrN K mg "BadKind" "given") : EK P w K mg base "BadKind" :=
  ⟨E, ⟨fd, (e_BadKind (P := P) (w := w) (base := base) F T E).1, (e_BadKind (P := P) (w := w) (base := base) F T E).2, fun s a u _ => kw_binds F (fun _ _ _ _ _ _ _ _ => rfl) s a u⟩, by decide⟩
theorem k_BadLiars (F : FnI K "BadLiars.__init__" s_BadLiars___init__ (He.ma K (He.ga K "BadLiars") "__init__") fd) (T : DErr K mg (He.ga K "DrawError")) (E : ErrN K mg "BadLiars" "given") : EK P w K mg base "BadLiars" :=
  ⟨E, ⟨fd, (e_BadLiars (P := P) (w := w) (base := base) F T E).1, (e_BadLiars (P := P) (w := w) (base := base) F T E).2, fun s a u _ => kw_binds F (fun _ _ _ _ _ _ _ _ => rfl) s a u⟩, by decide⟩
theorem k_BadName (F : FnI K "BadName.__init__" s_BadName___init__ (He.ma K (He.ga K "BadName") "__init__") fd) (T : DErr K mg (He.ga K "DrawError")) (E : ErrN K mg "BadName" "given") : EK P w K mg base "BadName" :=
  ⟨E, ⟨fd, (e_BadName (P := P) (w := w) (base := base) F T E).1, (e_BadName (P := P) (w := w) (base := base) F T E).2, fun s a u _ => kw_binds F (fun _ _ _ _ _ _ _ _ => rfl) s a u⟩, by decide⟩
theorem k_BadNames (F : FnI K "BadNames.__init__" s_BadNames___init__ (He.ma K (He.ga K "BadNames") "__init__") fd) (T : DErr K mg (He.ga K "DrawError")) (E : ErrN K mg "BadNames" "given") : EK P w K mg base "BadNames" :=
  ⟨E, ⟨fd, (e_BadNames (P := P) (w := w) (base := base) F T E).1, (e_BadNames (P := P) (w := w) (base := base) F T E).2, fun s a u _ => kw_binds F (fun _ _ _ _ _ _ _ _ => rfl) s a u⟩, by decide⟩
theorem k_BadNumber (F : FnI K "BadNumber.__init__" s_BadNumber___init__ (He.ma K (He.ga K "BadNumber") "__init__") fd) (T : DErr K mg (He.ga K "DrawError")) (E : ErrN K mg "BadNumber" "given") : EK P w K mg base "BadNumber" :=
  ⟨E, ⟨fd, (e_BadNumber (P := P) (w := w) (base := base) F T E).1, (e_BadNumber (P := P) (w := w) (base := base) F T E).2, fun s a u _ => kw_binds F (fun _ _ _ _ _ _ _ _ => rfl) s a u⟩, by decide⟩
theorem k_BadPath (F : FnI K "BadPath.__init__" s_BadPath___init__ (He.ma K (He.ga K "BadPath") "__init__") fd) (T : DErr K mg (He.ga K "DrawError")) (E : ErrN K mg "BadPath" "given") : EK P w K mg base "BadPath" :=
  ⟨E, ⟨fd, (e_BadPath (P := P) (w := w) (base := base) F T E).1, (e_BadPath (P := P) (w := w) (base := base) F T E).2, fun s a u _ => kw_binds F (fun _ _ _ _ _ _ _ _ => rfl) s a u⟩, by decide⟩
theorem k_BadPlan (F : FnI K "BadPlan.__init__" s_BadPlan___init__ (He.ma K (He.ga K "BadPlan") "__init__") fd) (T : DErr K mg (He.ga K "DrawError")) (E : ErrN K mg "BadPlan" "given") : EK P w K mg base "BadPlan" :=
  ⟨E, ⟨fd, (e_BadPlan (P := P) (w := w) (base := base) F T E).1, (e_BadPlan (P := P) (w := w) (base := base) F T E).2, fun s a u _ => kw_binds F (fun _ _ _ _ _ _ _ _ => rfl) s a u⟩, by decide⟩
theorem k_BadPrices (F : FnI K "BadPrices.__init__" s_BadPrices___init__ (He.ma K (He.ga K "BadPrices") "__init__") fd) (T : DErr K mg (He.ga K "DrawError")) (E : ErrN K mg "BadPrices" "given") : EK P w K mg base "BadPrices" :=
  ⟨E, ⟨fd, (e_BadPrices (P := P) (w := w) (base := base) F T E).1, (e_BadPrices (P := P) (w := w) (base := base) F T E).2, fun s a u _ => kw_binds F (fun _ _ _ _ _ _ _ _ => rfl) s a u⟩, by decide⟩
theorem k_BadShares (F : FnI K "BadShares.__init__" s_BadShares___init__ (He.ma K (He.ga K "BadShares") "__init__") fd) (T : DErr K mg (He.ga K "DrawError")) (E : ErrN K mg "BadShares" "given") : EK P w K mg base "BadShares" :=
  ⟨E, ⟨fd, (e_BadShares (P := P) (w := w) (base := base) F T E).1, (e_BadShares (P := P) (w := w) (base := base) F T E).2, fun s a u _ => kw_binds F (fun _ _ _ _ _ _ _ _ => rfl) s a u⟩, by decide⟩
theorem k_BadStake (F : FnI K "BadStake.__init__" s_BadStake___init__ (He.ma K (He.ga K "BadStake") "__init__") fd) (T : DErr K mg (He.ga K "DrawError")) (E : ErrN K mg "BadStake" "given") : EK P w K mg base "BadStake" :=
  ⟨E, ⟨fd, (e_BadStake (P := P) (w := w) (base := base) F T E).1, (e_BadStake (P := P) (w := w) (base := base) F T E).2, fun s a u _ => kw_binds F (fun _ _ _ _ _ _ _ _ => rfl) s a u⟩, by decide⟩
theorem k_BadStandIn (F : FnI K "BadStandIn.__init__" s_BadStandIn___init__ (He.ma K (He.ga K "BadStandIn") "__init__") fd) (T : DErr K mg (He.ga K "DrawError")) (E : ErrN K mg "BadStandIn" "given") : EK P w K mg base "BadStandIn" :=
  ⟨E, ⟨fd, (e_BadStandIn (P := P) (w := w) (base := base) F T E).1, (e_BadStandIn (P := P) (w := w) (base := base) F T E).2, fun s a u _ => kw_binds F (fun _ _ _ _ _ _ _ _ => rfl) s a u⟩, by decide⟩
theorem k_BadText (F : FnI K "BadText.__init__" s_BadText___init__ (He.ma K (He.ga K "BadText") "__init__") fd) (T : DErr K mg (He.ga K "DrawError")) (E : ErrN K mg "BadText" "given") : EK P w K mg base "BadText" :=
  ⟨E, ⟨fd, (e_BadText (P := P) (w := w) (base := base) F T E).1, (e_BadText (P := P) (w := w) (base := base) F T E).2, fun s a u _ => kw_binds F (fun _ _ _ _ _ _ _ _ => rfl) s a u⟩, by decide⟩
theorem k_BadWish (F : FnI K "BadWish.__init__" s_BadWish___init__ (He.ma K (He.ga K "BadWish") "__init__") fd) (T : DErr K mg (He.ga K "DrawError")) (E : ErrN K mg "BadWish" "given") : EK P w K mg base "BadWish" :=
  ⟨E, ⟨fd, (e_BadWish (P := P) (w := w) (base := base) F T E).1, (e_BadWish (P := P) (w := w) (base := base) F T E).2, fun s a u _ => kw_binds F (fun _ _ _ _ _ _ _ _ => rfl) s a u⟩, by decide⟩
theorem k_NoEnd (F : FnI K "NoEnd.__init__" s_NoEnd___init__ (He.ma K (He.ga K "NoEnd") "__init__") fd) (T : DErr K mg (He.ga K "DrawError")) (E : ErrN K mg "NoEnd" "given") : EK P w K mg base "NoEnd" :=
  ⟨E, ⟨fd, (e_NoEnd (P := P) (w := w) (base := base) F T E).1, (e_NoEnd (P := P) (w := w) (base := base) F T E).2, fun s a u _ => kw_binds F (fun _ _ _ _ _ _ _ _ => rfl) s a u⟩, by decide⟩
theorem k_NoPerson (F : FnI K "NoPerson.__init__" s_NoPerson___init__ (He.ma K (He.ga K "NoPerson") "__init__") fd) (T : DErr K mg (He.ga K "DrawError")) (E : ErrN K mg "NoPerson" "given") : EK P w K mg base "NoPerson" :=
  ⟨E, ⟨fd, (e_NoPerson (P := P) (w := w) (base := base) F T E).1, (e_NoPerson (P := P) (w := w) (base := base) F T E).2, fun s a u _ => kw_binds F (fun _ _ _ _ _ _ _ _ => rfl) s a u⟩, by decide⟩
theorem k_NotNow (F : FnI K "NotNow.__init__" s_NotNow___init__ (He.ma K (He.ga K "NotNow") "__init__") fd) (T : DErr K mg (He.ga K "DrawError")) (E : ErrN K mg "NotNow" "given") : EK P w K mg base "NotNow" :=
  ⟨E, ⟨fd, (e_NotNow (P := P) (w := w) (base := base) F T E).1, (e_NotNow (P := P) (w := w) (base := base) F T E).2, fun s a u _ => kw_binds F (fun _ _ _ _ _ _ _ _ => rfl) s a u⟩, by decide⟩
end
end K01

set_option Elab.async false
set_option linter.all false
set_option maxRecDepth 100000
set_option maxHeartbeats 4000000
namespace K01
open PySem PySem.Spec PyProof.Rows L2 J
/-! ### data that stays -/
mutual
theorem dp_ext {K : PySem.W.Frag} {H H' : Hp} (k : Same H H') : ∀ {d : PyData} {v : V}, Dp K H v d → Dp K H' v d
  | _, _, .non => .non
  | _, _, .bl b => .bl b
  | _, _, .int i => .int i
  | _, _, .str x => .str x
  | _, _, .lst hs ha => .lst (k.seq hs) (dpAll_ext k ha)
  | _, _, .tup hs ha => .tup (k.tupS hs) (dpAll_ext k ha)
theorem dpAll_ext {K : PySem.W.Frag} {H H' : Hp} (k : Same H H') : ∀ {ds : List PyData} {vs : List V}, DpAll K H vs ds → DpAll K H' vs ds
  | _, _, .nil => .nil
  | _, _, .cons h1 h2 => .cons (dp_ext k h1) (dpAll_ext k h2)
end
/-- a thing that may be handed to an error: its text can be told, and whether it is a bool -/
structure Th (K : PySem.W.Frag) (H : Hp) (v : V) : Prop where
  sh : ∃ d : PyData, ((Dp K H v d ∧ d.hasDict = false) ∨ ∃ (a : Addr) (kvs : List (Key × V)), v = .ref a ∧ H a = some (.dK kvs) ∧ (∀ p ∈ kvs, isS p.2 = true) ∧ d = dictD kvs) ∧ d.showable = true ∧ d.depth ≤ 40 ∧ d.shown.length ≤ sizeLine
  ty : ∃ t b, TyOf K H v t ∧ PySem.W.kitOne K t (.type "bool") = some b
theorem Th.ext {K : PySem.W.Frag} {H H' : Hp} {v : V} (h : Th K H v) (k : Same H H') : Th K H' v := by
  obtain ⟨⟨d, hd, h1, h2, h3⟩, t, b, ht, hb⟩ := h
  refine ⟨⟨d, ?_, h1, h2, h3⟩, t, b, ?_, hb⟩
  · rcases hd with ⟨hd, z⟩ | ⟨a, kvs, e, ha, hs, ed⟩
    · exact .inl ⟨dp_ext k hd, z⟩
    · exact .inr ⟨a, kvs, e, k _ _ ha, hs, ed⟩
  · cases ht with
    | non => exact .non
    | bl x => exact .bl x
    | int i => exact .int i
    | str x => exact .str x
    | flt x => exact .flt x
    | lst e => exact .lst (k _ _ e)
    | frz e => exact .frz (k _ _ e)
    | tup e => exact .tup (k _ _ e)
    | dK e => exact .dK (k _ _ e)
    | dT e => exact .dT (k _ _ e)
    | ins e a1 a2 a3 a4 a5 => exact .ins (k _ _ e) a1 a2 a3 a4 a5
/-- isinstance(v, T), T a class of Python's own -/
def rIsT (K : PySem.W.Frag) : List V → Hp → VK → Prop := fun xs H Q => ∃ (v : V) (n : String) (t : Value) (b : Bool), xs = [v, .ty n] ∧ TyOf K H v t ∧ PySem.W.kitOne K t (.type n) = some b ∧ Q (.bl b) H
theorem call_isT {X : Cx} : CallR X (.builtin "isinstance") (rIsT X.K) := by
  intro pins s σ H xs us Q I r h
  obtain ⟨v, n, t, b, rfl, ht, hb, q⟩ := h
  obtain ⟨u1, u2, rfl, r1, r2⟩ := vals2 r
  cases r2
  exact isinst_ok I r1 ht hb fun tk => ⟨.bl b, H, I.tok tk, rfl, q⟩
/-! ### what the classes must say of one another -/
def mroB (x : Str) : Bf := fun K => (match PySem.W.clsIn K (He.ga K x) with
  | some cd => decide (cd.mro = .ref (He.ga K x) :: .ref (He.ga K "DrawError") :: HandSPX.veTail)
  | _ => false) && decide (PySem.W.typeIn K (.ref (He.ga K x)) = some (.type "type"))
structure MroN (K : PySem.W.Frag) (n : Str) : Prop where
  m : ∃ cd, PySem.W.clsIn K (He.ga K n) = some cd ∧ cd.mro = .ref (He.ga K n) :: .ref (He.ga K "DrawError") :: HandSPX.veTail
  t : PySem.W.typeIn K (.ref (He.ga K n)) = some (.type "type")
theorem mroB_ok {K : PySem.W.Frag} {x : Str} (c : mroB x K = true) : MroN K x := by
  obtain ⟨h0, h1⟩ := He.ba c
  refine ⟨?_, of_decide_eq_true h1⟩
  split at h0
  · rename_i cd e
    exact ⟨cd, e, of_decide_eq_true h0⟩
  · cases h0
/-- the classes stand at unlike addresses -/
def ndB : Bf := fun K => decide ((He.ga K "DrawError" :: n28.map (He.ga K)).Nodup)
theorem ndB_ok {K : PySem.W.Frag} (c : ndB K = true) : (He.ga K "DrawError" :: n28.map (He.ga K)).Nodup := of_decide_eq_true c
def dclB : Bf := fun K => (PySem.W.clsIn K (He.ga K "DrawError")).isSome && decide (PySem.W.typeIn K (.ref (He.ga K "DrawError")) = some (.type "type"))
theorem dclB_ok {K : PySem.W.Frag} (c : dclB K = true) : (PySem.W.clsIn K (He.ga K "DrawError")).isSome = true ∧ PySem.W.typeIn K (.ref (He.ga K "DrawError")) = some (.type "type") := by
  obtain ⟨h0, h1⟩ := He.ba c
  exact ⟨h0, of_decide_eq_true h1⟩
section
variable {K : PySem.W.Frag}
theorem ga_inj (nd : (He.ga K "DrawError" :: n28.map (He.ga K)).Nodup) {i j : Nat} {n m : Str} (hi : n28[i]? = some n) (hj : n28[j]? = some m) (e : He.ga K n = He.ga K m) : i = j := by
  have h2 := (List.nodup_cons.mp nd).2
  have a : (n28.map (He.ga K))[i]? = some (He.ga K n) := by rw [List.getElem?_map, hi]; rfl
  have b : (n28.map (He.ga K))[j]? = some (He.ga K n) := by rw [List.getElem?_map, hj, e]; rfl
  obtain ⟨h1, e1⟩ := List.getElem?_eq_some_iff.mp a
  obtain ⟨h3, e3⟩ := List.getElem?_eq_some_iff.mp b
  exact (List.getElem_inj h2).mp (e1.trans e3.symm)
theorem ga_ne (nd : (He.ga K "DrawError" :: n28.map (He.ga K)).Nodup) {n : Str} (hn : n ∈ n28) : He.ga K n ≠ He.ga K "DrawError" := fun e => (List.nodup_cons.mp nd).1 (e ▸ List.mem_map_of_mem hn)
theorem sub_mro {n : Str} (M : MroN K n) (c : Value) : PySem.W.subIn K (.ref (He.ga K n)) c = some ((.ref (He.ga K n) :: .ref (He.ga K "DrawError") :: HandSPX.veTail : List Value).contains c) := by
  obtain ⟨cd, e, em⟩ := M.m
  show PySem.W.mroIn K (He.ga K n) c = _
  unfold PySem.W.mroIn
  rw [e, Option.bind_some, em]
  rfl
theorem knows (nd : (He.ga K "DrawError" :: n28.map (He.ga K)).Nodup) {n m : Str} (hm : m ∈ n28) (M : MroN K n) (Mm : MroN K m) : Knows K (He.ga K n) m := by
  unfold Knows PySem.W.kitOne
  by_cases e : He.ga K n = He.ga K m
  · rw [e, if_pos (by simp), decide_eq_true rfl]
  · have e1 : (Value.ref (He.ga K n) == Value.ref (He.ga K m)) = false := by
      rw [beq_eq_false_iff_ne]
      exact fun z => e (Value.ref.inj z)
    rw [e1, if_neg Bool.false_ne_true, decide_eq_false e]
    obtain ⟨cd, ec, _⟩ := Mm.m
    have e2 : ((PySem.W.clsIn K (He.ga K m)).isSome && PySem.W.typeIn K (.ref (He.ga K m)) == some (.type "type")) = true := by rw [ec, Mm.t]; rfl
    show (if ((PySem.W.clsIn K (He.ga K m)).isSome && PySem.W.typeIn K (.ref (He.ga K m)) == some (.type "type")) = true then PySem.W.subIn K (.ref (He.ga K n)) (.ref (He.ga K m)) else none) = some false
    rw [if_pos e2, sub_mro M]
    have h1 : ¬ (Value.ref (He.ga K m) = Value.ref (He.ga K n)) := fun z => e (Value.ref.inj z).symm
    have h2 : ¬ (Value.ref (He.ga K m) = Value.ref (He.ga K "DrawError")) := fun z => ga_ne nd hm (Value.ref.inj z)
    congr 1
    rw [Bool.eq_false_iff]
    intro z
    have z2 := List.contains_iff_mem.mp z
    rcases List.mem_cons.mp z2 with z3 | z3
    · exact h1 z3
    · rcases List.mem_cons.mp z3 with z4 | z4
      · exact h2 z4
      · simp [HandSPX.veTail] at z4
theorem below_draw {n : Str} (dc : (PySem.W.clsIn K (He.ga K "DrawError")).isSome = true ∧ PySem.W.typeIn K (.ref (He.ga K "DrawError")) = some (.type "type")) (M : MroN K n) : PySem.W.kitOne K (.ref (He.ga K n)) (.ref (He.ga K "DrawError")) = some true := by
  unfold PySem.W.kitOne
  split
  · rfl
  · have e2 : ((PySem.W.clsIn K (He.ga K "DrawError")).isSome && PySem.W.typeIn K (.ref (He.ga K "DrawError")) == some (.type "type")) = true := by rw [dc.1, dc.2]; rfl
    show (if ((PySem.W.clsIn K (He.ga K "DrawError")).isSome && PySem.W.typeIn K (.ref (He.ga K "DrawError")) == some (.type "type")) = true then PySem.W.subIn K (.ref (He.ga K n)) (.ref (He.ga K "DrawError")) else none) = some true
    rw [if_pos e2, sub_mro M]
    simp
theorem below_value {n : Str} (M : MroN K n) : PySem.W.kitOne K (.ref (He.ga K n)) (.type "ValueError") = some true := by
  unfold PySem.W.kitOne
  rw [if_neg (by simp)]
  have e2 : PySem.W.kitMeta "ValueError" = true := by decide +kernel
  show (if PySem.W.kitMeta "ValueError" = true then PySem.W.subIn K (.ref (He.ga K n)) (.type "ValueError") else none) = some true
  rw [if_pos e2, sub_mro M]
  simp [HandSPX.veTail]
end
/-! ### the promises of the law's helpers -/
/-- the answers of all classes -/
def spIs (K : PySem.W.Frag) (ns : List Str) : Sp := fun vs H Q _ => ∃ (e C : Addr), vs = [.ref e] ∧ ErrO H e C ∧ ExcC K C ∧ AllJ (Knows K C) ns ∧ ∀ p H', Same H H' → H' p = some (.lst (kindsV K C ns)) → Q (.ref p) H'
def spMade (K : PySem.W.Frag) : Sp := fun vs H Q _ => ∃ v : V, vs = [v] ∧ ∀ p as H', Same H H' → H' p = some (.lst (as.map V.ref)) → Errs K H' v n22 as → Q (.ref p) H'
def spSame (K : PySem.W.Frag) : Sp := fun vs H Q _ => ∃ v : V, vs = [v, v] ∧ Th K H v ∧ Q (.bl true) H
def spYes : Sp := fun vs H Q _ => vs = [] ∧ ∀ H', Same H H' → Q (.bl true) H'
def spLaw (K : PySem.W.Frag) : Sp := fun vs H Q _ => ∃ (a : Addr) (ns : List Int), vs = [.ref a] ∧ SqL K H a (ns.map V.int) ∧ ns.length ≤ 63 ∧ ∀ H', Q (.bl true) H'
/-- what all of it leans on -/
structure Tx (P : Program) (w : World) (K : PySem.W.Frag) (mg : Str → Option Value) (base : Heap) : Prop where
  ek : AllJ (EK P w K mg base) n22
  cls : AllJ (ClsN K mg) n28
  isx : ∀ n ∈ n28, ExcC K (He.ga K n)
  mro : ∀ n ∈ n28, MroN K n
  nd : (He.ga K "DrawError" :: n28.map (He.ga K)).Nodup
  dc : (PySem.W.clsIn K (He.ga K "DrawError")).isSome = true ∧ PySem.W.typeIn K (.ref (He.ga K "DrawError")) = some (.type "type")
  len : mg "len" = none
  abs : mg "abs" = none
  int : mg "int" = none
  isi : mg "isinstance" = none
  repr : mg "repr" = none
  range : mg "range" = none
  bool : mg "bool" = none
  ve : mg "ValueError" = none
  gD : mg "DrawError" = some (.ref (He.ga K "DrawError"))
theorem sl {n : Nat} (h : n ≤ 1000) : n ≤ sizeLine := Nat.le_of_lt (small1000 h)
section
variable {P : Program} {w : World} {K : PySem.W.Frag} {mg : Str → Option Value} {base : Heap} {f : Addr} {fd : FuncData}
theorem allJ_take {α : Type} {p : α → Prop} : ∀ {l : List α}, AllJ p l → ∀ a ∈ l, p a
  | _ :: _, h, a, ha => by
    rcases List.mem_cons.mp ha with e | ha
    · rw [e]; exact h.1
    · exact allJ_take h.2 a ha
theorem allJ_of {α : Type} {p : α → Prop} : ∀ {l : List α}, (∀ a ∈ l, p a) → AllJ p l
  | [], _ => trivial
  | _ :: _, h => ⟨h _ List.mem_cons_self, allJ_of fun a ha => h a (List.mem_cons_of_mem _ ha)⟩
theorem allJ_sub {α : Type} {p : α → Prop} {l m : List α} (h : AllJ p m) (k : ∀ a ∈ l, a ∈ m) : AllJ p l := allJ_of fun a ha => allJ_take h a (k a ha)
theorem scSame : FnScope ["_law_found", "_law_thing"] ["_law_found", "_law_thing"] (defScope s__law_same) := ⟨rfl, rfl, rfl, by decide +kernel, rfl, by decide +kernel, by decide +kernel⟩
theorem ok_same (F : FnP K "_law_same" s__law_same f fd) (T : Tx P w K mg base) : FnG P w K mg base CX0 1 f fd ["_law_found", "_law_thing"] (spSame K) := by
  refine fnG_of F scSame (fun vs H Q E h => ?_) (fun cdv A outer s H vs Q E hg hr h => ?_)
  · obtain ⟨v, rfl, _⟩ := h
    rfl
  · obtain ⟨v, rfl, ⟨⟨d, hd, h1, h2, h3⟩, t, b, ht, hb⟩, q⟩ := h
    have hu : (A.deeper (envOfC "_law_same" (defScope s__law_same) s.heap.objs.size f cdv)).units + 60 < cLine := by have := hr.units; omega
    refine ⟨_, PSs.nox (pss_one (ps_ret (pe_and (pe_cmpR op_eq (pe_callB (call_repr hg hu) (by rfl) T.repr PyProof.Rows.boot_repr (pa_cons (pv 0) pa_nil)) (pe_callB (call_repr hg hu) (by rfl) T.repr PyProof.Rows.boot_repr (pa_cons (pv 1) pa_nil)) (nomark _))
      (pe_one (pe_cmpR op_eq (pe_callB call_isT (by rfl) T.isi PyProof.Rows.boot_isinstance (pa_cons (pv 0) (pa_cons (pe_bltn (v := .ty "bool") (by rfl) T.bool (by decide +kernel) rfl) pa_nil)))
        (pe_callB call_isT (by rfl) T.isi PyProof.Rows.boot_isinstance (pa_cons (pv 1) (pa_cons (pe_bltn (v := .ty "bool") (by rfl) T.bool (by decide +kernel) rfl) pa_nil))) (nomark _)))))), ?_⟩
    refine ⟨_, rfl, v, d, rfl, hd, h1, h2, h3, _, rfl, v, d, rfl, hd, h1, h2, h3, rfl, _, rfl, ?_⟩
    rw [decide_eq_true rfl]
    refine iteT ?_
    refine ⟨_, rfl, v, "bool", t, b, rfl, ht, hb, _, rfl, v, "bool", t, b, rfl, ht, hb, ?_⟩
    refine ⟨by cases b <;> rfl, ?_⟩
    rw [decide_eq_true rfl]
    exact q
end
/-! ### rows of errors put together -/
section
variable {K : PySem.W.Frag} {H : Hp} {σ : L2.St} {Q : VK} {v : V} {p e C : Addr} {ns ms : List Str} {as : List Addr} {i j : Nat}
theorem first_errs (hv : σ[i]? = some (some v)) (hl : ms.length ≤ 100) (k : ∀ p' as' H', Same H H' → H' p' = some (.lst (as'.map V.ref)) → Errs K H' v ms as' → Q (.ref p') H') : tLst (tErrs K i ms) σ H Q := by
  refine ⟨v, hv, fun H1 as1 s1 e1 => ⟨sl (by rw [List.length_map, e1.len]; omega), fun l hl1 => ?_⟩⟩
  exact k l as1 _ (s1.trans (upS hl1)) upd_same (e1.ext (upS hl1))
theorem more_errs (hp : σ[j]? = some (some (.ref p))) (hv : σ[i]? = some (some v)) (hH : H p = some (.lst (as.map V.ref))) (he : Errs K H v ns as) (hl : ns.length + ms.length ≤ 100)
    (k : ∀ p' as' H', Same H H' → H' p' = some (.lst (as'.map V.ref)) → Errs K H' v (ns ++ ms) as' → Q (.ref p') H') : tOp rCat (tVar j) (tLst (tErrs K i ms)) σ H Q := by
  refine ⟨_, hp, v, hv, fun H1 as1 s1 e1 => ⟨sl (by rw [List.length_map, e1.len]; omega), fun l hl1 => ?_⟩⟩
  have sm : Same H (upd H1 l (.lst (as1.map V.ref))) := s1.trans (upS hl1)
  refine ⟨p, l, _, _, rfl, rfl, sm _ _ hH, upd_same, sl (by rw [List.length_map, List.length_map, e1.len, he.len]; omega), fun q hq => ?_⟩
  have s2 : Same (upd H1 l (.lst (as1.map V.ref))) (upd (upd H1 l (.lst (as1.map V.ref))) q (.lst (as.map V.ref ++ as1.map V.ref))) := upS hq
  refine k q (as ++ as1) _ (sm.trans s2) (by rw [upd_same, List.map_append]) ?_
  exact (he.ext (sm.trans s2)).app (e1.ext ((show Same H1 (upd H1 l (.lst (as1.map V.ref))) from upS hl1).trans s2))
theorem first_kinds (hv : σ[i]? = some (some (.ref e))) (ho : ErrO H e C) (hx : ExcC K C) (hw : AllJ (Knows K C) ms) (hl : ms.length ≤ 100) (k : ∀ p' H', Same H H' → H p' = none → H' p' = some (.lst (kindsV K C ms)) → Q (.ref p') H') : tLst (tIsis K i ms) σ H Q := by
  refine ⟨e, C, hv, ho, hx, hw, sl (by unfold kindsV; rw [List.length_map]; omega), fun l hl1 => ?_⟩
  exact k l _ (upS hl1) hl1 upd_same
theorem cat_kinds {x : V} {H0 : Hp} {l : Addr} (hx0 : x = .ref p) (S : Same H0 H) (hH : H p = some (.lst (kindsV K C ns))) (hm : H l = some (.lst (kindsV K C ms))) (hl : ns.length + ms.length ≤ 100)
    (k : ∀ p' H', Same H0 H' → H0 p' = none → H' p' = some (.lst (kindsV K C (ns ++ ms))) → Q (.ref p') H') : rCat x (.ref l) H Q := by
  refine ⟨p, l, _, _, hx0, rfl, hH, hm, sl (by unfold kindsV; rw [List.length_map, List.length_map]; omega), fun q hq => ?_⟩
  exact k q _ (S.trans (upS hq)) (none_of S hq) (by rw [upd_same]; unfold kindsV; rw [List.map_append])
theorem more_kinds {H0 : Hp} (hp : σ[j]? = some (some (.ref p))) (hv : σ[i]? = some (some (.ref e))) (S : Same H0 H) (hH : H p = some (.lst (kindsV K C ns))) (ho : ErrO H0 e C) (hx : ExcC K C) (hw : AllJ (Knows K C) ms) (hl : ns.length + ms.length ≤ 100)
    (k : ∀ p' H', Same H0 H' → H0 p' = none → H' p' = some (.lst (kindsV K C (ns ++ ms))) → Q (.ref p') H') : tOp rCat (tVar j) (tLst (tIsis K i ms)) σ H Q := by
  refine ⟨_, hp, e, C, hv, ho.ext S, hx, hw, sl (by unfold kindsV; rw [List.length_map]; omega), fun l hl1 => ?_⟩
  have sm : Same H (upd H l (.lst (kindsV K C ms))) := upS hl1
  exact cat_kinds rfl (S.trans sm) (sm _ _ hH) upd_same hl k
/-- xs.append(isinstance(e, C)) -/
theorem app_kind {n : Str} {D : Ends} {H0 : Hp} (hp : σ[j]? = some (some (.ref p))) (hv : σ[i]? = some (some (.ref e))) (S : Same H0 H) (hp0 : H0 p = none) (hH : H p = some (.lst (kindsV K C ns))) (ho : ErrO H0 e C) (hx : ExcC K C) (hw : Knows K C n) (hl : ns.length ≤ 100)
    (k : ∀ H', Same H0 H' → H' p = some (.lst (kindsV K C (ns ++ [n]))) → D.nx σ H') :
    tDrop (tBM K "list" rAppend (tVar j) (tCons (tCB (rIsX K) (tCons (tVar i) (tCons (tC (.ref (He.ga K n))) tNil))) tNil)) D σ H := by
  refine ⟨_, hp, Or.inl ⟨rfl, _, SqL.of hH⟩, _, hv, e, C, _, _, _, rfl, ho.ext S, hx, relref, hw, p, _, _, rfl, rfl, hH, small1000 (by unfold kindsV; rw [List.length_map]; omega), ?_⟩
  exact k _ (fun b o h => by rw [upd_ne (ne_of_none h hp0)]; exact S b o h) (by rw [upd_same]; unfold kindsV; rw [List.map_append]; rfl)
end
section
variable {P : Program} {w : World} {K : PySem.W.Frag} {mg : Str → Option Value} {base : Heap} {f : Addr} {fd : FuncData}
theorem scMade : FnScope ["_law_thing", "_law_found"] ["_law_thing"] (defScope s__law_made) := ⟨rfl, rfl, rfl, by decide +kernel, rfl, by decide +kernel, by decide +kernel⟩
theorem scNamed : FnScope ["_law_thing", "_law_found"] ["_law_thing"] (defScope s__law_named) := ⟨rfl, rfl, rfl, by decide +kernel, rfl, by decide +kernel, by decide +kernel⟩
theorem ok_made (F : FnP K "_law_made" s__law_made f fd) (T : Tx P w K mg base) : FnOk P w K mg base CX0 3 f fd ["_law_thing"] (spMade K) := by
  refine F.ok scMade (fun vs H Q E h => ?_) (fun cdv A outer s H vs Q E hr h => ?_)
  · obtain ⟨v, rfl, _⟩ := h
    rfl
  · obtain ⟨v, rfl, q⟩ := h
    refine ⟨_, PSs.nox (pss_cons (ps_set (i := 1) scMade.nd rfl (Or.inl rfl) (pe_lst (pa_errs (ns := n22.take 6) hr (fun q => pv 0) (by decide +kernel) (allJ_sub T.ek (by decide)) ⟨rfl, rfl, rfl, rfl, rfl, rfl, trivial⟩)))
      (pss_cons (ps_set (i := 1) scMade.nd rfl (Or.inl rfl) (pe_op op_cat (pv 1) (pe_lst (pa_errs (ns := (n22.drop 6).take 6) hr (fun q => pv 0) (by decide +kernel) (allJ_sub T.ek (by decide)) ⟨rfl, rfl, rfl, rfl, rfl, rfl, trivial⟩))))
      (pss_cons (ps_set (i := 1) scMade.nd rfl (Or.inl rfl) (pe_op op_cat (pv 1) (pe_lst (pa_errs (ns := (n22.drop 12).take 5) hr (fun q => pv 0) (by decide +kernel) (allJ_sub T.ek (by decide)) ⟨rfl, rfl, rfl, rfl, rfl, trivial⟩))))
      (pss_one (ps_ret (pe_op op_cat (pv 1) (pe_lst (pa_errs (ns := n22.drop 17) hr (fun q => pv 0) (by decide +kernel) (allJ_sub T.ek (by decide)) ⟨rfl, rfl, rfl, rfl, rfl, trivial⟩)))))))), ?_⟩
    refine seq_name (first_errs (v := v) (hv := ?v0) (hl := ?l0) fun p1 a1 H1 m1 l1 e1 => ?_)
    case v0 => rfl
    case l0 => decide
    refine seq_name (more_errs rfl rfl l1 e1 (by decide) fun p2 a2 H2 m2 l2 e2 => ?_)
    refine seq_name (more_errs rfl rfl l2 e2 (by decide) fun p3 a3 H3 m3 l3 e3 => ?_)
    refine ret_of (more_errs rfl rfl l3 e3 (by decide) fun p4 a4 H4 m4 l4 e4 => ?_)
    exact q p4 a4 H4 (((m1.trans m2).trans m3).trans m4) l4 e4
theorem ok_named (F : FnP K "_law_named" s__law_named f fd) (T : Tx P w K mg base) : FnOk P w K mg base CX0 3 f fd ["_law_thing"] (spMade K) := by
  refine F.ok scNamed (fun vs H Q E h => ?_) (fun cdv A outer s H vs Q E hr h => ?_)
  · obtain ⟨v, rfl, _⟩ := h
    rfl
  · obtain ⟨v, rfl, q⟩ := h
    refine ⟨_, PSs.nox (pss_cons (ps_set (i := 1) scNamed.nd rfl (Or.inl rfl) (pe_lst (pa_errsK (ns := n22.take 4) hr (fun q => pv 0) (by decide +kernel) (allJ_sub T.ek (by decide)) ⟨rfl, rfl, rfl, rfl, trivial⟩)))
      (pss_cons (ps_set (i := 1) scNamed.nd rfl (Or.inl rfl) (pe_op op_cat (pv 1) (pe_lst (pa_errsK (ns := (n22.drop 4).take 4) hr (fun q => pv 0) (by decide +kernel) (allJ_sub T.ek (by decide)) ⟨rfl, rfl, rfl, rfl, trivial⟩))))
      (pss_cons (ps_set (i := 1) scNamed.nd rfl (Or.inl rfl) (pe_op op_cat (pv 1) (pe_lst (pa_errsK (ns := (n22.drop 8).take 4) hr (fun q => pv 0) (by decide +kernel) (allJ_sub T.ek (by decide)) ⟨rfl, rfl, rfl, rfl, trivial⟩))))
      (pss_cons (ps_set (i := 1) scNamed.nd rfl (Or.inl rfl) (pe_op op_cat (pv 1) (pe_lst (pa_errsK (ns := (n22.drop 12).take 4) hr (fun q => pv 0) (by decide +kernel) (allJ_sub T.ek (by decide)) ⟨rfl, rfl, rfl, rfl, trivial⟩))))
      (pss_cons (ps_set (i := 1) scNamed.nd rfl (Or.inl rfl) (pe_op op_cat (pv 1) (pe_lst (pa_errsK (ns := (n22.drop 16).take 4) hr (fun q => pv 0) (by decide +kernel) (allJ_sub T.ek (by decide)) ⟨rfl, rfl, rfl, rfl, trivial⟩))))
      (pss_one (ps_ret (pe_op op_cat (pv 1) (pe_lst (pa_errsK (ns := n22.drop 20) hr (fun q => pv 0) (by decide +kernel) (allJ_sub T.ek (by decide)) ⟨rfl, rfl, trivial⟩)))))))))), ?_⟩
    refine seq_name (first_errs (v := v) (hv := ?v0) (hl := ?l0) fun p1 a1 H1 m1 l1 e1 => ?_)
    case v0 => rfl
    case l0 => decide
    refine seq_name (more_errs rfl rfl l1 e1 (by decide) fun p2 a2 H2 m2 l2 e2 => ?_)
    refine seq_name (more_errs rfl rfl l2 e2 (by decide) fun p3 a3 H3 m3 l3 e3 => ?_)
    refine seq_name (more_errs rfl rfl l3 e3 (by decide) fun p4 a4 H4 m4 l4 e4 => ?_)
    refine seq_name (more_errs rfl rfl l4 e4 (by decide) fun p5 a5 H5 m5 l5 e5 => ?_)
    refine ret_of (more_errs rfl rfl l5 e5 (by decide) fun p6 a6 H6 m6 l6 e6 => ?_)
    exact q p6 a6 H6 (((((m1.trans m2).trans m3).trans m4).trans m5).trans m6) l6 e6
theorem scFirst : FnScope ["_law_e", "_law_found"] ["_law_e"] (defScope s__law_first) := ⟨rfl, rfl, rfl, by decide +kernel, rfl, by decide +kernel, by decide +kernel⟩
theorem scKinds : FnScope ["_law_e", "_law_found"] ["_law_e"] (defScope s__law_kinds) := ⟨rfl, rfl, rfl, by decide +kernel, rfl, by decide +kernel, by decide +kernel⟩
theorem ok_first (F : FnP K "_law_first" s__law_first f fd) (T : Tx P w K mg base) : FnOk P w K mg base CX0 1 f fd ["_law_e"] (spIs K (n28.take 24)) := by
  refine F.ok scFirst (fun vs H Q E h => ?_) (fun cdv A outer s H vs Q E hr h => ?_)
  · obtain ⟨e, C, rfl, _⟩ := h
    rfl
  · obtain ⟨e, C, rfl, ho, hx, hw, q⟩ := h
    have G : ∀ n ∈ n28, mg n = some (.ref (He.ga K n)) := fun n hn => (allJ_take T.cls n hn).g
    refine ⟨_, PSs.nox (pss_cons (ps_set (i := 1) scFirst.nd rfl (Or.inl rfl) (pe_lst (pa_isis (ns := n28.take 4) (by rfl) T.isi (fun q => pv 0) (by decide +kernel) (allJ_sub T.cls (by decide)) ⟨rfl, rfl, rfl, rfl, trivial⟩)))
      (pss_cons (ps_set (i := 1) scFirst.nd rfl (Or.inl rfl) (pe_op op_cat (pv 1) (pe_lst (pa_isis (ns := (n28.drop 4).take 3) (by rfl) T.isi (fun q => pv 0) (by decide +kernel) (allJ_sub T.cls (by decide)) ⟨rfl, rfl, rfl, trivial⟩))))
      (pss_cons (ps_expr (pe_bm PySem.F.plainAttrs_list PySem.F.slot_list_append PySem.F.type_list_append mt_append (pv 1) (pa_cons (pe_callB call_isX (by rfl) T.isi PyProof.Rows.boot_isinstance (pa_cons (pv 0) (pa_cons (pe_glob (v := .ref (He.ga K "BadLiars")) (by rfl) (G "BadLiars" (by decide)) rfl) pa_nil))) pa_nil)))
      (pss_cons (ps_set (i := 1) scFirst.nd rfl (Or.inl rfl) (pe_op op_cat (pv 1) (pe_lst (pa_isis (ns := (n28.drop 8).take 4) (by rfl) T.isi (fun q => pv 0) (by decide +kernel) (allJ_sub T.cls (by decide)) ⟨rfl, rfl, rfl, rfl, trivial⟩))))
      (pss_cons (ps_set (i := 1) scFirst.nd rfl (Or.inl rfl) (pe_op op_cat (pv 1) (pe_lst (pa_isis (ns := (n28.drop 12).take 3) (by rfl) T.isi (fun q => pv 0) (by decide +kernel) (allJ_sub T.cls (by decide)) ⟨rfl, rfl, rfl, trivial⟩))))
      (pss_cons (ps_expr (pe_bm PySem.F.plainAttrs_list PySem.F.slot_list_append PySem.F.type_list_append mt_append (pv 1) (pa_cons (pe_callB call_isX (by rfl) T.isi PyProof.Rows.boot_isinstance (pa_cons (pv 0) (pa_cons (pe_glob (v := .ref (He.ga K "BadStake")) (by rfl) (G "BadStake" (by decide)) rfl) pa_nil))) pa_nil)))
      (pss_cons (ps_set (i := 1) scFirst.nd rfl (Or.inl rfl) (pe_op op_cat (pv 1) (pe_lst (pa_isis (ns := (n28.drop 16).take 4) (by rfl) T.isi (fun q => pv 0) (by decide +kernel) (allJ_sub T.cls (by decide)) ⟨rfl, rfl, rfl, rfl, trivial⟩))))
      (pss_one (ps_ret (pe_op op_cat (pv 1) (pe_lst (pa_isis (ns := (n28.drop 20).take 4) (by rfl) T.isi (fun q => pv 0) (by decide +kernel) (allJ_sub T.cls (by decide)) ⟨rfl, rfl, rfl, rfl, trivial⟩)))))))))))), ?_⟩
    have kw : ∀ ms : List Str, (∀ a ∈ ms, a ∈ n28.take 24) → AllJ (Knows K C) ms := fun ms k => allJ_sub hw k
    refine seq_name (first_kinds (hv := ?v0) (ho := ho) (hx := hx) (hw := ?w0) (hl := ?l0) fun p1 H1 m1 f1 l1 => ?_)
    case v0 => rfl
    case w0 => exact kw _ (by decide)
    case l0 => decide
    refine seq_name (more_kinds rfl rfl m1 l1 ho hx (kw _ (by decide)) (by decide) fun p2 H2 m2 f2 l2 => ?_)
    refine seq_drop (app_kind (n := "BadLiars") rfl rfl m2 f2 l2 ho hx (allJ_take hw _ (by decide)) (by decide) fun H3 m3 l3 => ?_)
    refine seq_name (more_kinds rfl rfl m3 l3 ho hx (kw _ (by decide)) (by decide) fun p4 H4 m4 f4 l4 => ?_)
    refine seq_name (more_kinds rfl rfl m4 l4 ho hx (kw _ (by decide)) (by decide) fun p5 H5 m5 f5 l5 => ?_)
    refine seq_drop (app_kind (n := "BadStake") rfl rfl m5 f5 l5 ho hx (allJ_take hw _ (by decide)) (by decide) fun H6 m6 l6 => ?_)
    refine seq_name (more_kinds rfl rfl m6 l6 ho hx (kw _ (by decide)) (by decide) fun p7 H7 m7 f7 l7 => ?_)
    refine ret_of (more_kinds rfl rfl m7 l7 ho hx (kw _ (by decide)) (by decide) fun p8 H8 m8 f8 l8 => ?_)
    exact q p8 H8 m8 l8
theorem ok_kinds (F : FnP K "_law_kinds" s__law_kinds f fd) (T : Tx P w K mg base) {f1 : Addr} {fd1 : FuncData} (F1 : FnP K "_law_first" s__law_first f1 fd1) (g1 : mg "_law_first" = some (.ref f1)) : FnOk P w K mg base CX0 2 f fd ["_law_e"] (spIs K n28) := by
  refine F.ok scKinds (fun vs H Q E h => ?_) (fun cdv A outer s H vs Q E hr h => ?_)
  · obtain ⟨e, C, rfl, _⟩ := h
    rfl
  · obtain ⟨e, C, rfl, ho, hx, hw, q⟩ := h
    refine ⟨_, PSs.nox (pss_cons (ps_set (i := 1) scKinds.nd rfl (Or.inl rfl) (pe_op op_cat
        (pe_call (ok_first F1 T) hr (by rfl) g1 F1.kp (F1.bindsN fun _ _ _ _ _ _ us hl => match us, hl with | [_], _ => rfl) .nil pass0 (pa_cons (pv 0) pa_nil))
        (pe_lst (pa_isis (ns := (n28.drop 24).take 3) (by rfl) T.isi (fun q => pv 0) (by decide +kernel) (allJ_sub T.cls (by decide)) ⟨rfl, rfl, rfl, trivial⟩))))
      (pss_one (ps_ret (pe_op op_cat (pv 1) (pe_lst (pa_isis (ns := n28.drop 27) (by rfl) T.isi (fun q => pv 0) (by decide +kernel) (allJ_sub T.cls (by decide)) ⟨rfl, trivial⟩)))))), ?_⟩
    refine ⟨_, rfl, e, C, rfl, ho, hx, allJ_sub hw (by decide), fun p1 H1 m1 l1 => ?_⟩
    refine ⟨e, C, rfl, ho.ext m1, hx, allJ_sub hw (by decide), sl (by show 3 ≤ 1000; decide), fun l hl1 => ?_⟩
    have sm : Same H1 (upd H1 l (.lst (kindsV K C ((n28.drop 24).take 3)))) := upS hl1
    refine cat_kinds (ns := n28.take 24) rfl (m1.trans sm) (sm _ _ l1) upd_same (by decide) fun p2 H2 m2 f2 l2 => ?_
    refine ret_of (more_kinds rfl rfl m2 l2 ho hx (allJ_sub hw (by decide)) (by decide) fun p3 H3 m3 f3 l3 => ?_)
    exact q p3 H3 m3 l3
end
end K01

set_option Elab.async false
set_option linter.all false
set_option maxRecDepth 100000
set_option maxHeartbeats 4000000
namespace K01
open PySem PySem.Spec PyProof.Rows L2 J
/-! ### the law's own defs -/
/-- an error class with one value, and one with none -/
structure EW (P : Program) (w : World) (K : PySem.W.Frag) (mg : Str → Option Value) (base : Heap) (n fld : Str) : Prop where
  e : ErrN K mg n fld
  fn : ∃ fd, (FnOk P w K mg base CX0 1 (He.ma K (He.ga K n) "__init__") fd ["self", fld] (spErr K (He.ga K n) fld) ∧ Binds K fd ["self", fld] []) ∧
    ∀ (s : Shared) (a : Addr) (u : Value), K.In s.heap → BindsTo s fd ⟨[.ref a], [(fld, u)]⟩ ((["self", fld] : List Str).zip [.ref a, u])
structure EW0 (P : Program) (w : World) (K : PySem.W.Frag) (mg : Str → Option Value) (base : Heap) (n : Str) : Prop where
  e : ErrN K mg n "given"
  fn : ∃ fd, FnOk P w K mg base CX0 1 (He.ma K (He.ga K n) "__init__") fd ["self"] (spErr0 (He.ga K n)) ∧ Binds K fd ["self"] []
structure Ty (P : Program) (w : World) (K : PySem.W.Frag) (mg : Str → Option Value) (base : Heap) : Prop where
  tw : EW P w K mg base "Twice" "person"
  tm : EW P w K mg base "TooMany" "count"
  bz : EW0 P w K mg base "ByZero"
  nu : EW0 P w K mg base "NothingToUndo"
  nt : EW0 P w K mg base "NotTurns"
  ue : EW0 P w K mg base "UnlikeEnds"
/-! ### 28 errors, one of each class -/
def ErrOs (K : PySem.W.Frag) (H : Hp) : List Str → List Addr → Prop
  | [], [] => True
  | n :: ns, a :: as => ErrO H a (He.ga K n) ∧ ErrOs K H ns as
  | _, _ => False
theorem ErrOs.at_ {K : PySem.W.Frag} {H : Hp} : ∀ {ns : List Str} {as : List Addr} {j : Nat} {n : Str}, ErrOs K H ns as → ns[j]? = some n → ∃ a, as[j]? = some a ∧ ErrO H a (He.ga K n)
  | _ :: _, _ :: _, 0, _, h, e => by
    cases e
    exact ⟨_, rfl, h.1⟩
  | _ :: _, _ :: _, j + 1, n, h, e => ErrOs.at_ (j := j) h.2 (by simpa using e)
  | [], _, _, _, _, e => by simp at e
  | _ :: _, [], _, _, h, _ => h.elim
theorem ErrOs.of {K : PySem.W.Frag} {H : Hp} {v : V} : ∀ {ns : List Str} {as : List Addr} {ms : List Str} {bs : List Addr}, Errs K H v ns as → ErrOs K H ms bs → ErrOs K H (ns ++ ms) (as ++ bs)
  | [], [], _, _, _, h => h
  | _ :: _, _ :: _, _, _, h, h' => ⟨h.1.o, ErrOs.of h.2 h'⟩
  | [], _ :: _, _, _, h, _ => h.elim
  | _ :: _, [], _, _, h, _ => h.elim
def bD (bs : List Bool) : PyData := .list (bs.map .bool)
theorem bD_all {K : PySem.W.Frag} {H : Hp} : ∀ bs : List Bool, DpAll K H (bs.map V.bl) (bs.map .bool)
  | [] => .nil
  | b :: r => .cons (.bl b) (bD_all r)
theorem bD_dp {K : PySem.W.Frag} {H : Hp} {a : Addr} {bs : List Bool} (h : H a = some (.lst (bs.map V.bl))) : Dp K H (.ref a) (bD bs) := .lst (SqL.of h) (bD_all bs)
def rowB (k m : Nat) : List Bool := (List.range m).map fun j => decide (j = k)
theorem rowB_ok : ∀ k, k < 28 → SeqAt.shaped (bD (rowB k 28)) = true := by decide +kernel
theorem eqv_self {d : PyData} (h : SeqAt.shaped d = true) : PyData.eqv d d = true := SeqAt.eqv_refl d (Bool.and_eq_true_iff.mp h).1
theorem kinds_row {K : PySem.W.Frag} (nd : (He.ga K "DrawError" :: n28.map (He.ga K)).Nodup) {k : Nat} {n : Str} (hk : n28[k]? = some n) : kindsV K (He.ga K n) n28 = (rowB k 28).map V.bl := by
  refine List.ext_getElem? fun j => ?_
  unfold kindsV rowB
  rw [List.getElem?_map, List.getElem?_map, List.getElem?_map]
  by_cases hj : j < 28
  · have h2 : n28[j]? = some n28[j] := List.getElem?_eq_getElem hj
    rw [h2, List.getElem?_range hj]
    show some (V.bl (decide (He.ga K n = He.ga K n28[j]))) = some (V.bl (decide (j = k)))
    congr 2
    rw [decide_eq_decide]
    constructor
    · intro e
      exact (ga_inj nd hk h2 e).symm
    · intro e
      subst e
      rw [h2] at hk
      cases hk
      rfl
  · rw [List.getElem?_eq_none (show n28.length ≤ j from Nat.le_of_not_lt hj), List.getElem?_eq_none (by rw [List.length_range]; omega)]
    rfl
section
variable {P : Program} {w : World} {K : PySem.W.Frag} {mg : Str → Option Value} {base : Heap} {f : Addr} {fd : FuncData}
theorem scBases : FnScope ["_law_made_here", "_law_k", "_law_other"] [] (defScope s__law_bases_right) := ⟨rfl, rfl, rfl, by decide +kernel, rfl, by decide +kernel, by decide +kernel⟩
theorem ok_bases (F : FnP K "_law_bases_right" s__law_bases_right f fd) (T : Tx P w K mg base) (T2 : Ty P w K mg base) {f1 f2 f3 : Addr} {fd1 fd2 fd3 : FuncData} (F1 : FnP K "_law_made" s__law_made f1 fd1) (g1 : mg "_law_made" = some (.ref f1))
    (F2 : FnP K "_law_kinds" s__law_kinds f2 fd2) (g2 : mg "_law_kinds" = some (.ref f2)) (F3 : FnP K "_law_first" s__law_first f3 fd3) (g3 : mg "_law_first" = some (.ref f3)) : FnOk P w K mg base CX0 4 f fd [] spYes := by
  refine F.ok scBases (fun vs H Q E h => ?_) (fun cdv A outer s H vs Q E hr h => ?_)
  · obtain ⟨rfl, _⟩ := h
    rfl
  · obtain ⟨rfl, q⟩ := h
    obtain ⟨fd4, ⟨F4, b4⟩, _⟩ := T2.tw.fn
    obtain ⟨fd5, ⟨F5, b5⟩, _⟩ := T2.tm.fn
    obtain ⟨fd6, F6, b6⟩ := T2.bz.fn
    obtain ⟨fd7, F7, b7⟩ := T2.nu.fn
    obtain ⟨fd8, F8, b8⟩ := T2.nt.fn
    obtain ⟨fd9, F9, b9⟩ := T2.ue.fn
    have hr2 := hr.mono (show 2 ≤ 3 by decide)
    have hu : (A.deeper (envOfC "_law_bases_right" (defScope s__law_bases_right) s.heap.objs.size f cdv)).units + 64 < cLine := by have := hr.un; omega
    refine ⟨_, PSs.nox (pss_cons (ps_set (i := 0) scBases.nd rfl (Or.inl rfl) (pe_op op_cat
        (pe_call (ok_made F1 T) hr (by rfl) g1 F1.kp (F1.bindsN fun _ _ _ _ _ _ us hl => match us, hl with | [_], _ => rfl) .nil pass0 (pa_cons pe_str pa_nil))
        (pe_lst (pa_cons (pe_err T2.tw.e.c F4 hr2 b4 (by rfl) T2.tw.e.g (pa_cons pe_str pa_nil)) (pa_cons (pe_err T2.tm.e.c F5 hr2 b5 (by rfl) T2.tm.e.g (pa_cons pe_int pa_nil))
          (pa_cons (pe_err0 T2.bz.e.c F6 hr2 b6 (by rfl) T2.bz.e.g) (pa_cons (pe_err0 T2.nu.e.c F7 hr2 b7 (by rfl) T2.nu.e.g) (pa_cons (pe_err0 T2.nt.e.c F8 hr2 b8 (by rfl) T2.nt.e.g) (pa_cons (pe_err0 T2.ue.e.c F9 hr2 b9 (by rfl) T2.ue.e.g) pa_nil)))))))))
      (pss_cons (ps_for PassesOwn.never rfl (pi_range1 (by rfl) T.range (pa_cons pe_int pa_nil)) (pg_name (i := 1) scBases.nd rfl (Or.inr rfl))
        (pss_cons (ps_if (pw_or (pt_not (pt_val (pe_callB call_isX (by rfl) T.isi PyProof.Rows.boot_isinstance (pa_cons (pe_ix ix_list (pv 0) (pv 1) (fun _ _ => rfl)) (pa_cons (pe_glob (v := .ref (He.ga K "DrawError")) (by rfl) T.gD rfl) pa_nil)))))
            (pw_or1 (pt_not (pt_val (pe_callB call_isX (by rfl) T.isi PyProof.Rows.boot_isinstance (pa_cons (pe_ix ix_list (pv 0) (pv 1) (fun _ _ => rfl)) (pa_cons (pe_bltn (v := .ty "ValueError") (by rfl) T.ve (by decide +kernel) rfl) pa_nil))))))).pt
          (pss_one (ps_ret pe_bl)) pss_nil)
        (pss_one (ps_if (pt_cmpR (op_neD hu) (pe_call (ok_kinds F2 T F3 g3) hr2 (by rfl) g2 F2.kp (F2.bindsN fun _ _ _ _ _ _ us hl => match us, hl with | [_], _ => rfl) .nil pass0 (pa_cons (pe_ix ix_list (pv 0) (pv 1) (fun _ _ => rfl)) pa_nil))
            (pe_lc (own := [("_law_other", 2)]) (g := gName 2) (tt := tYes) rfl scBases.nd (pi_range1 (by rfl) T.range (pa_cons pe_int pa_nil)) (blkOk_by (N := ["_law_made_here", "_law_k", "_law_other"]) (sc := defScope s__law_bases_right) (by decide +kernel))
              (fun _ _ _ _ _ => pg_name (i := 2) scBases.nd rfl (Or.inl rfl)) (fun _ _ _ _ _ => pts_nil) (fun _ _ _ _ _ => pe_cmpR op_eq (pv 2) (pv 1) (nomark _))) (nomark _))
          (pss_one (ps_ret pe_bl)) pss_nil))))
      (pss_one (ps_ret pe_bl)))), ?_⟩
    refine seq_name ⟨.str "x", rfl, fun p1 as1 H1 m1 l1 e1 => ?_⟩
    refine lst_of (cons_of (mk1C fun a2 H2 m2 e2 => ?_))
    refine cons_of (mk1C fun a3 H3 m3 e3 => ?_)
    refine cons_of (mk0 fun a4 H4 m4 e4 => ?_)
    refine cons_of (mk0 fun a5 H5 m5 e5 => ?_)
    refine cons_of (mk0 fun a6 H6 m6 e6 => ?_)
    refine cons_of (mk0 fun a7 H7 m7 e7 => ?_)
    refine ⟨(by show 6 ≤ sizeLine; exact sl (by decide)), fun l hl => ?_⟩
    have M7 : Same H7 (upd H7 l (.lst [.ref a2, .ref a3, .ref a4, .ref a5, .ref a6, .ref a7])) := upS hl
    have M6 := m7.trans M7
    have M5 := m6.trans M6
    have M4 := m5.trans M5
    have M3 := m4.trans M4
    have M2 := m3.trans M3
    have M1 := m2.trans M2
    refine ⟨p1, l, _, _, rfl, rfl, M1 _ _ l1, upd_same, sl (by rw [List.length_map, e1.len]; show 22 + 6 ≤ 1000; decide), fun p hp => ?_⟩
    generalize hHa : upd H7 l (.lst [.ref a2, .ref a3, .ref a4, .ref a5, .ref a6, .ref a7]) = Ha at *
    have Mp : Same Ha (upd Ha p (.lst (as1.map V.ref ++ [.ref a2, .ref a3, .ref a4, .ref a5, .ref a6, .ref a7]))) := upS hp
    have eo : ErrOs K (upd Ha p (.lst (as1.map V.ref ++ [.ref a2, .ref a3, .ref a4, .ref a5, .ref a6, .ref a7]))) n28 (as1 ++ [a2, a3, a4, a5, a6, a7]) :=
      ErrOs.of (e1.ext (M1.trans Mp)) ⟨(e2.ext (M2.trans Mp)).o, (e3.ext (M3.trans Mp)).o, e4.ext (M4.trans Mp), e5.ext (M5.trans Mp), e6.ext (M6.trans Mp), e7.ext (M7.trans Mp), trivial⟩
    have hpl : (upd Ha p (.lst (as1.map V.ref ++ [.ref a2, .ref a3, .ref a4, .ref a5, .ref a6, .ref a7]))) p = some (.lst ((as1 ++ [a2, a3, a4, a5, a6, a7]).map V.ref)) := by rw [upd_same, List.map_append]; rfl
    have mS : Same H (upd Ha p (.lst (as1.map V.ref ++ [.ref a2, .ref a3, .ref a4, .ref a5, .ref a6, .ref a7]))) := (m1.trans M1).trans Mp
    generalize upd Ha p (.lst (as1.map V.ref ++ [.ref a2, .ref a3, .ref a4, .ref a5, .ref a6, .ref a7])) = Hm at eo hpl mS ⊢
    generalize as1 ++ [a2, a3, a4, a5, a6, a7] = as at eo hpl ⊢
    refine ⟨28, rfl, by decide, by decide, for_range (lo := 0) (n := 28) (fun _ σ H' => (∃ x, σ = [some (.ref p), x, none]) ∧ Same Hm H') ⟨⟨_, rfl⟩, Same.refl _⟩ ?_ ?_⟩
    · intro i σ H' hi hp'
      obtain ⟨⟨x, rfl⟩, sm⟩ := hp'
      obtain ⟨n, hn⟩ : ∃ n, n28[i]? = some n := ⟨_, List.getElem?_eq_getElem hi⟩
      obtain ⟨a, ha, eoa⟩ := eo.at_ hn
      have hmem : n ∈ n28 := List.mem_of_getElem? hn
      have hat : atI (as.map V.ref) ((0 : Int) + (i : Int)) = some (.ref a) := by
        rw [Int.zero_add]
        exact atI_nat (by rw [List.getElem?_map, ha]; rfl)
      have hix : ∀ {Q' : VK} {H'' : Hp}, Same Hm H'' → Q' (.ref a) H'' → tOp (rIxL K) (tVar 0) (tVar 1) [some (.ref p), some (.int ((0 : Int) + (i : Int))), none] H'' Q' :=
        fun {Q' H''} sm' z => ⟨_, rfl, _, rfl, p, _, _, _, rfl, rfl, SqL.of (sm' _ _ hpl), hat, z⟩
      refine hix sm ⟨a, He.ga K n, .ref (He.ga K "DrawError"), _, _, rfl, eoa.ext sm, T.isx n hmem, relref, below_draw T.dc (T.mro n hmem), true, rfl, ?_⟩
      refine iteF ?_
      refine hix sm ⟨a, He.ga K n, .ty "ValueError", .type "ValueError", _, rfl, eoa.ext sm, T.isx n hmem, fun _ r => r, below_value (T.mro n hmem), true, rfl, ?_⟩
      refine iteF ?_
      refine hix sm ⟨a, He.ga K n, rfl, eoa.ext sm, T.isx n hmem, allJ_of fun m hm => knows T.nd hm (T.mro n hmem) (T.mro m hm), fun p2 H2 s2 l2 => ?_⟩
      refine ⟨28, rfl, by decide, by decide, fun D hD => ?_⟩
      refine lc_range (lo := 0) (n := 28) (fun j H'' => Same H2 H'' ∧ H'' D = some (.lst ((rowB i j).map V.bl))) ⟨upS hD, upd_same⟩ ?_ ?_
      · intro j H'' hj hp''
        obtain ⟨sm2, hDl⟩ := hp''
        refine ⟨rfl, ?_⟩
        refine yes_if ?_
        refine ⟨_, rfl, _, rfl, rfl, (rowB i j).map V.bl, hDl, Nat.lt_of_le_of_lt (show _ ≤ 100 by unfold rowB; rw [List.length_map, List.length_map, List.length_range]; omega) (Nat.lt_of_lt_of_le (show 100 < 1000 by decide) (sl (by decide))), ?_, ?_⟩
        · intro b o hb
          rw [upd_ne (ne_of_none hb hD)]
          exact sm2 b o hb
        · rw [upd_same]
          unfold rowB
          rw [List.range_succ, List.map_append, List.map_append]
          congr 4
          show V.bl (decide (V.int ((0 : Int) + (j : Int)) = V.int ((0 : Int) + (i : Int)))) = V.bl (decide (j = i))
          congr 1
          rw [decide_eq_decide]
          constructor
          · intro e
            have e2 := V.int.inj e
            omega
          · intro e
            rw [e]
      · intro H'' hp''
        obtain ⟨sm2, hDl⟩ := hp''
        refine ⟨bD (rowB i 28), bD (rowB i 28), bD_dp ((sm2 _ _ l2).trans (congrArg (fun z => some (HO.lst z)) (kinds_row T.nd hn))), bD_dp hDl, rowB_ok i hi, rowB_ok i hi, _, rfl, ?_⟩
        rw [eqv_self (rowB_ok i hi)]
        exact iteF ⟨⟨_, rfl⟩, (sm.trans s2).trans sm2⟩
    · intro σ H' hp'
      exact q H' (mS.trans hp'.2)
theorem scLaw : FnScope ["_law_script", "_law_k", "_law_box_here", "_law_some", "_law_one", "_law_other", "_law_thing", "_law_e"] ["_law_script"] (defScope s_law) := ⟨rfl, rfl, rfl, by decide +kernel, rfl, by decide +kernel, by decide +kernel⟩
theorem th_plain {H : Hp} {v : V} {d : PyData} {t : Value} {b : Bool} (h : Dp K H v d) (h0 : d.hasDict = false) (h1 : d.showable = true) (h2 : d.depth ≤ 40) (h3 : d.shown.length ≤ 1000) (ht : TyOf K H v t) (hb : PySem.W.kitOne K t (.type "bool") = some b) : Th K H v :=
  ⟨⟨d, .inl ⟨h, h0⟩, h1, h2, sl h3⟩, t, b, ht, hb⟩
/-- the twelve things -/
def things (p1 p2 p3 p5 : Addr) : List V := [.str "p", .int 0, .non, .int (-3), .ref p1, .ref p2, .bl true, .ref p3, .int (10 ^ 29), .str "", .bl false, .ref p5]
structure Made (H : Hp) (p1 p2 p3 p4 p5 : Addr) : Prop where
  a1 : H p1 = some (.tup [.int 1, .int 2])
  a2 : H p2 = some (.lst [.str "x"])
  a3 : H p3 = some (.dK [(.inr "k", .int 1)])
  a4 : H p4 = some (.tup [.int 0])
  a5 : H p5 = some (.tup [.ref p4])
theorem Made.ths {H : Hp} {p1 p2 p3 p4 p5 : Addr} (m : Made H p1 p2 p3 p4 p5) : ∀ v ∈ things p1 p2 p3 p5, Th K H v := by
  intro v hv
  simp only [things, List.mem_cons, List.not_mem_nil, or_false] at hv
  rcases hv with rfl | rfl | rfl | rfl | rfl | rfl | rfl | rfl | rfl | rfl | rfl | rfl
  · exact th_plain (.str _) (by decide +kernel) (by decide +kernel) (by decide +kernel) (by decide +kernel) (.str _) (b := false) (by rfl)
  · exact th_plain (.int _) (by decide +kernel) (by decide +kernel) (by decide +kernel) (by decide +kernel) (.int _) (b := false) (by rfl)
  · exact th_plain .non (by decide +kernel) (by decide +kernel) (by decide +kernel) (by decide +kernel) .non (b := false) (by rfl)
  · exact th_plain (.int _) (by decide +kernel) (by decide +kernel) (by decide +kernel) (by decide +kernel) (.int _) (b := false) (by rfl)
  · exact th_plain (d := .tuple [.int 1, .int 2]) (.tup (SqT.of m.a1) (.cons (.int _) (.cons (.int _) .nil))) (by decide +kernel) (by decide +kernel) (by decide +kernel) (by decide +kernel) (.tup m.a1) (b := false) (by rfl)
  · exact th_plain (d := .list [.str "x"]) (.lst (SqL.of m.a2) (.cons (.str _) .nil)) (by decide +kernel) (by decide +kernel) (by decide +kernel) (by decide +kernel) (.lst m.a2) (b := false) (by rfl)
  · exact th_plain (.bl _) (by decide +kernel) (by decide +kernel) (by decide +kernel) (by decide +kernel) (.bl _) (b := true) (by rfl)
  · exact ⟨⟨_, .inr ⟨p3, _, rfl, m.a3, by decide, rfl⟩, by decide +kernel, by decide +kernel, sl (by decide +kernel)⟩, _, false, .dK m.a3, by rfl⟩
  · exact th_plain (.int _) (by decide +kernel) (by decide +kernel) (by decide +kernel) (by decide +kernel) (.int _) (b := false) (by rfl)
  · exact th_plain (.str _) (by decide +kernel) (by decide +kernel) (by decide +kernel) (by decide +kernel) (.str _) (b := false) (by rfl)
  · exact th_plain (.bl _) (by decide +kernel) (by decide +kernel) (by decide +kernel) (by decide +kernel) (.bl _) (b := true) (by rfl)
  · exact th_plain (d := .tuple [.tuple [.int 0]]) (.tup (SqT.of m.a5) (.cons (.tup (SqT.of m.a4) (.cons (.int _) .nil)) .nil)) (by decide +kernel) (by decide +kernel) (by decide +kernel) (by decide +kernel) (.tup m.a5) (b := false) (by rfl)
theorem errs_at {H : Hp} {v : V} {as bs : List Addr} (h1 : Errs K H v n22 as) (h2 : Errs K H v n22 bs) {j : Nat} (hj : j < (as ++ bs).length) : ∃ n a, n ∈ n22 ∧ (as ++ bs)[j]? = some a ∧ ErrF H a (He.ga K n) "given" v := by
  have h := h1.app h2
  have hj2 : j < (n22 ++ n22).length := by rw [← h.len]; exact hj
  obtain ⟨a, ha, he⟩ := h.at_ (List.getElem?_eq_getElem hj2)
  refine ⟨_, a, ?_, ha, he⟩
  rcases List.mem_append.mp (List.getElem_mem hj2) with z | z <;> exact z
/-- not same(made(v).f, v) comes out false -/
theorem lawErr {H : Hp} {v : V} {n fld : Str} {te : TE} {i : Nat} {σ : L2.St} {Q : Bool → Hp → Prop} {G : Hp} (E : ErrN K mg n fld) (hth : Th K G v) (S : Same G H) (hi : σ[i]? = some (some v))
    (ht : ∀ Q' : VK, (∀ a H', Same H H' → ErrF H' a (He.ga K n) fld v → Q' (.ref a) H') → te σ H Q') (q : ∀ H', Same H H' → Q false H') :
    tNot (tB (tCall (spSame K) [] E0 (tCons (tErrF K te fld) (tCons (tVar i) tNil)))) σ H Q := by
  refine ht _ fun a H' s' e' => ⟨a, He.ga K n, v, rfl, e', E.f, E.nof, v, hi, v, rfl, hth.ext (S.trans s'), true, rfl, q H' s'⟩
theorem Made.off_ {H : Hp} {p1 p2 p3 p4 p5 q : Addr} (m : Made H p1 p2 p3 p4 p5) (h1 : p1 ≠ q) (h2 : p2 ≠ q) (h3 : p3 ≠ q) (h4 : p4 ≠ q) (h5 : p5 ≠ q) : Made (off H q) p1 p2 p3 p4 p5 :=
  ⟨off_at m.a1 h1, off_at m.a2 h2, off_at m.a3 h3, off_at m.a4 h4, off_at m.a5 h5⟩
theorem twelve {H1 H2 : Hp} {p1 p2 p3 p4 p5 p6 : Addr} {o : HO} (n1 : H1 p1 = none) (n2 : upd H1 p1 (.tup [.int 1, .int 2]) p2 = none) (n3 : upd (upd H1 p1 (.tup [.int 1, .int 2])) p2 (.lst [.str "x"]) p3 = none)
    (n4 : upd (upd (upd (upd H1 p1 (.tup [.int 1, .int 2])) p2 (.lst [.str "x"])) p3 (.dK [])) p3 (.dK [(.inr "k", .int 1)]) p4 = none)
    (n5 : upd (upd (upd (upd (upd H1 p1 (.tup [.int 1, .int 2])) p2 (.lst [.str "x"])) p3 (.dK [])) p3 (.dK [(.inr "k", .int 1)])) p4 (.tup [.int 0]) p5 = none)
    (n6 : upd (upd (upd (upd (upd (upd H1 p1 (.tup [.int 1, .int 2])) p2 (.lst [.str "x"])) p3 (.dK [])) p3 (.dK [(.inr "k", .int 1)])) p4 (.tup [.int 0])) p5 (.tup [.ref p4]) p6 = none)
    (e : H2 = upd (upd (upd (upd (upd (upd (upd H1 p1 (.tup [.int 1, .int 2])) p2 (.lst [.str "x"])) p3 (.dK [])) p3 (.dK [(.inr "k", .int 1)])) p4 (.tup [.int 0])) p5 (.tup [.ref p4])) p6 o) :
    Same H1 H2 ∧ Made H2 p1 p2 p3 p4 p5 ∧ H2 p6 = some o ∧ H1 p1 = none ∧ H1 p2 = none ∧ H1 p3 = none ∧ H1 p4 = none ∧ H1 p5 = none ∧ H1 p6 = none := by
  have S1 := upS (o := .tup [.int 1, .int 2]) n1
  have S2 := upS (o := .lst [.str "x"]) n2
  have S3 : Same (upd (upd H1 p1 (.tup [.int 1, .int 2])) p2 (.lst [.str "x"])) (upd (upd (upd (upd H1 p1 (.tup [.int 1, .int 2])) p2 (.lst [.str "x"])) p3 (.dK [])) p3 (.dK [(.inr "k", .int 1)])) := fun b u h => by
    rw [upd_ne (ne_of_none h n3), upd_ne (ne_of_none h n3)]
    exact h
  have S4 := upS (o := .tup [.int 0]) n4
  have S5 := upS (o := .tup [.ref p4]) n5
  have S6 := upS (o := o) n6
  have T5 := S5.trans S6
  have T4 := S4.trans T5
  have T3 := S3.trans T4
  have T2 := S2.trans T3
  subst e
  exact ⟨S1.trans T2, ⟨T2 _ _ upd_same, T3 _ _ upd_same, T4 _ _ upd_same, T5 _ _ upd_same, S6 _ _ upd_same⟩, upd_same, n1, none_of S1 n2, none_of (S1.trans S2) n3, none_of ((S1.trans S2).trans S3) n4, none_of (((S1.trans S2).trans S3).trans S4) n5, none_of ((((S1.trans S2).trans S3).trans S4).trans S5) n6⟩
theorem thing_at {p1 p2 p3 p5 : Addr} {r : Int} (h0 : 0 ≤ r) (h1 : r < 12) : ∃ v, atI (things p1 p2 p3 p5) r = some v ∧ v ∈ things p1 p2 p3 p5 := by
  obtain ⟨j, rfl⟩ : ∃ j : Nat, r = (j : Int) := ⟨r.toNat, by omega⟩
  have hj : j < (things p1 p2 p3 p5).length := by show j < 12; omega
  exact ⟨_, atI_nat (List.getElem?_eq_getElem hj), List.getElem_mem hj⟩
theorem if_of {c : TT} {t u : TS} {D : Ends} {σ : L2.St} {H : Hp} (h : c σ H fun b H1 => if b = true then t D σ H1 else u D σ H1) : tIfS c t u D σ H := h
theorem or_of {t u : TT} {σ : L2.St} {H : Hp} {Q : Bool → Hp → Prop} (h : t σ H fun c H1 => if c = true then Q true H1 else u σ H1 Q) : tOr t u σ H Q := h
theorem ok_law (F : FnP K "law" s_law f fd) (T : Tx P w K mg base) (T2 : Ty P w K mg base) {f0 f1 f2 f3 f4 f5 f6 f7 f8 : Addr} {fd0 fd1 fd2 fd3 fd4 fd5 fd6 fd7 fd8 : FuncData}
    (F0 : FnP K "_law_cell" s__law_cell f0 fd0) (g0 : mg "_law_cell" = some (.ref f0)) (F1 : FnP K "_law_box" s__law_box f1 fd1) (g1 : mg "_law_box" = some (.ref f1)) (F2 : FnP K "_law_take" s__law_take f2 fd2) (g2 : mg "_law_take" = some (.ref f2))
    (F3 : FnP K "_law_first" s__law_first f3 fd3) (g3 : mg "_law_first" = some (.ref f3)) (F4 : FnP K "_law_kinds" s__law_kinds f4 fd4) (g4 : mg "_law_kinds" = some (.ref f4)) (F5 : FnP K "_law_made" s__law_made f5 fd5) (g5 : mg "_law_made" = some (.ref f5))
    (F6 : FnP K "_law_named" s__law_named f6 fd6) (g6 : mg "_law_named" = some (.ref f6)) (F7 : FnP K "_law_same" s__law_same f7 fd7) (g7 : mg "_law_same" = some (.ref f7)) (F8 : FnP K "_law_bases_right" s__law_bases_right f8 fd8) (g8 : mg "_law_bases_right" = some (.ref f8)) :
    FnG P w K mg base CX0 8 f fd ["_law_script"] (spLaw K) := by
  refine fnG_of F scLaw (fun vs H Q E h => ?_) (fun cdv A outer s H vs Q E hg hr h => ?_)
  · obtain ⟨a, ns, rfl, _⟩ := h
    rfl
  · obtain ⟨a, ns, rfl, hS, hn, q⟩ := h
    obtain ⟨fdt, ⟨Ft, bt⟩, kt⟩ := T2.tw.fn
    obtain ⟨fdm, ⟨Fm, bm⟩, km⟩ := T2.tm.fn
    have hr1 := hr.mono (show 1 ≤ 7 by decide)
    have hr2 := hr.mono (show 2 ≤ 7 by decide)
    have hr3 := hr.mono (show 3 ≤ 7 by decide)
    have hr4 := hr.mono (show 4 ≤ 7 by decide)
    have hu : (A.deeper (envOfC "law" (defScope s_law) s.heap.objs.size f cdv)).units + 64 < cLine := by have := hr.un; omega
    have SM := ok_same (P := P) (w := w) (base := base) F7 T (A.deeper (envOfC "law" (defScope s_law) s.heap.objs.size f cdv)) hg hr1
    have b7 : Binds K fd7 ["_law_found", "_law_thing"] [] := F7.bindsN fun _ _ _ _ _ _ us hl => match us, hl with | [_, _], _ => rfl
    refine ⟨_, PSs.nox (pss_cons (ps_for PassesOwn.never rfl (pi_range1 (by rfl) T.range (pa_cons pe_int pa_nil)) (pg_name (i := 1) scLaw.nd rfl (Or.inl rfl))
        (pss_cons (ps_set (i := 2) scLaw.nd rfl (Or.inl rfl) (pe_call (ok_box F1 T.abs T.int) hr1 (by rfl) g1 F1.kp (F1.bindsN fun _ _ _ _ _ _ us hl => match us, hl with | [_], _ => rfl) .nil pass0
            (pa_cons (pe_call (ok_cell F0 T.len) hr1 (by rfl) g0 F0.kp (F0.bindsN fun _ _ _ _ _ _ us hl => match us, hl with | [_, _], _ => rfl) .nil pass0 (pa_cons (pv 0) (pa_cons (pv 1) pa_nil))) pa_nil)))
        (pss_cons (ps_set (i := 3) scLaw.nd rfl (Or.inl rfl) (pe_lst (pa_cons pe_str (pa_cons pe_int (pa_cons pe_non (pa_cons (pe_un un_neg pe_int) (pa_cons (pe_tup (pa_cons pe_int (pa_cons pe_int pa_nil))) (pa_cons (pe_lst (pa_cons pe_str pa_nil)) (pa_cons pe_bl
            (pa_cons (pe_disp (pps_cons pe_str pe_int pps_nil) rfl rfl (by simp) (by decide)) (pa_cons (pe_op op_pow pe_int pe_int) (pa_cons pe_str (pa_cons pe_bl (pa_cons (pe_tup (pa_cons (pe_tup (pa_cons pe_int pa_nil)) pa_nil)) pa_nil))))))))))))))
        (pss_cons (ps_par (i := 4) (j := 5) rfl scLaw.nd rfl rfl (by decide) rfl rfl
            (pa_cons (pe_ix ix_list (pv 3) (pe_call (ok_take F2 T.int) hr1 (by rfl) g2 F2.kp (F2.bindsN fun _ _ _ _ _ _ us hl => match us, hl with | [_, _], _ => rfl) .nil pass0 (pa_cons (pv 2) (pa_cons pe_int pa_nil))) (fun _ _ => rfl))
            (pa_cons (pe_ix ix_list (pv 3) (pe_call (ok_take F2 T.int) hr1 (by rfl) g2 F2.kp (F2.bindsN fun _ _ _ _ _ _ us hl => match us, hl with | [_, _], _ => rfl) .nil pass0 (pa_cons (pv 2) (pa_cons pe_int pa_nil))) (fun _ _ => rfl)) pa_nil)) rfl)
        (pss_cons (ps_for PassesOwn.never rfl (pi_list (pe_lst (pa_cons (pv 4) (pa_cons (pv 5) pa_nil)))) (pg_name (i := 6) scLaw.nd rfl (Or.inr rfl))
            (pss_cons (ps_if (pt_cmpR (op_neD hu)
                (pe_lc (own := [("_law_e", 7)]) (g := gName 7) (tt := tNot (tB (tCall (spSame K) [] E0 (tCons (tErrF K (tVar 7) "given") (tCons (tVar 6) tNil))))) rfl scLaw.nd
                  (pi_list (pe_op op_cat (pe_call (ok_made F5 T) hr3 (by rfl) g5 F5.kp (F5.bindsN fun _ _ _ _ _ _ us hl => match us, hl with | [_], _ => rfl) .nil pass0 (pa_cons (pv 6) pa_nil))
                    (pe_call (ok_named F6 T) hr3 (by rfl) g6 F6.kp (F6.bindsN fun _ _ _ _ _ _ us hl => match us, hl with | [_], _ => rfl) .nil pass0 (pa_cons (pv 6) pa_nil))))
                  (blkOk_by (N := ["_law_script", "_law_k", "_law_box_here", "_law_some", "_law_one", "_law_other", "_law_thing", "_law_e"]) (sc := defScope s_law) (by decide +kernel))
                  (fun _ _ _ _ _ => pg_name (i := 7) scLaw.nd rfl (Or.inl rfl))
                  (fun _ _ _ _ _ => pts_one (pt_not (pt_val (pe_callA SM (by rfl) g7 F7.kp b7 .nil pass0 (pa_cons (pe_errF (pv 7)) (pa_cons (pv 6) pa_nil))))))
                  (fun _ _ _ _ _ => pv 7))
                (pe_lst pa_nil) (nomark _)) (pss_one (ps_ret pe_bl)) pss_nil)
            (pss_one (ps_if (pw_or (pt_not (pt_val (pe_callA SM (by rfl) g7 F7.kp b7 .nil pass0 (pa_cons (pe_errF (pe_errK T2.tw.e.c Ft hr2 (fun s' a u K' => kt s' a u K') (by rfl) T2.tw.e.g (pv 6))) (pa_cons (pv 6) pa_nil)))))
                (pw_or1 (pt_not (pt_val (pe_callA SM (by rfl) g7 F7.kp b7 .nil pass0 (pa_cons (pe_errF (pe_errK T2.tm.e.c Fm hr2 (fun s' a u K' => km s' a u K') (by rfl) T2.tm.e.g (pv 6))) (pa_cons (pv 6) pa_nil))))))).pt
              (pss_one (ps_ret pe_bl)) pss_nil))))
        (pss_one (ps_if (pw_or (pt_not (pt_val (pe_callA SM (by rfl) g7 F7.kp b7 .nil pass0 (pa_cons (pe_errF (pe_err T2.tw.e.c Ft hr2 bt (by rfl) T2.tw.e.g (pa_cons (pv 4) pa_nil))) (pa_cons (pv 4) pa_nil)))))
            (pw_or1 (pt_not (pt_val (pe_callA SM (by rfl) g7 F7.kp b7 .nil pass0 (pa_cons (pe_errF (pe_err T2.tm.e.c Fm hr2 bm (by rfl) T2.tm.e.g (pa_cons (pv 5) pa_nil))) (pa_cons (pv 5) pa_nil))))))).pt
          (pss_one (ps_ret pe_bl)) pss_nil)))))))
      (pss_one (ps_ret (pe_call0 (ok_bases F8 T T2 F5 g5 F4 g4 F3 g3) hr4 (by rfl) g8 F8.kp (F8.bindsN fun _ _ _ _ _ _ us hl => match us, hl with | [], _ => rfl) .nil pass0)))), ?_⟩
    refine ⟨2, rfl, by decide, by decide, for_range (lo := 0) (n := 2) (fun _ σ H' => (∃ x1 x2 x3 x4 x5 x6, σ = [some (.ref a), x1, x2, x3, x4, x5, x6, none]) ∧ SqL K H' a (ns.map V.int)) ⟨⟨_, _, _, _, _, _, rfl⟩, hS⟩ ?_ ?_⟩
    · intro i σ H' hi hp
      obtain ⟨⟨x1, x2, x3, x4, x5, x6, rfl⟩, hS'⟩ := hp
      have hcell : ∀ Q' : VK, (∀ i : Int, Q' (.int i) H') → tCall (spCellL K) [] E0 (tCons (tVar 0) (tCons (tVar 1) tNil)) [some (.ref a), some (.int ((0 : Int) + (i : Int))), x2, x3, x4, x5, x6, none] H' Q' :=
        fun Q' z => ⟨_, rfl, _, rfl, a, ns, _, rfl, hS', by omega, by omega, by omega, z⟩
      refine seq_name (cons_of (hcell _ fun c => ?_))
      refine ⟨c, rfl, fun p H1 np hb hq => ?_⟩
      have SH : Same H' H1 := fun z o h => by rw [hq z (ne_of_none h np)]; exact h
      -- the twelve things
      refine seq_name (lst_of ?_)
      refine ⟨3, rfl, sl (by show 2 ≤ 1000; decide), fun p1 n1 => ⟨sl (by show 1 ≤ 1000; decide), fun p2 n2 p3 n3 => ⟨upd_same, [(.inr "k", .int 1)], rfl, by decide, 10, 29, rfl, rfl, ⟨by decide, by decide, by decide⟩,
        sl (by show 1 ≤ 1000; decide), fun p4 n4 => ⟨sl (by show 1 ≤ 1000; decide), fun p5 n5 => ⟨sl (by show 12 ≤ 1000; decide), fun p6 n6 => ?_⟩⟩⟩⟩⟩
      obtain ⟨S2, M2, l6, z1, z2, z3, z4, z5, z6⟩ := twelve (o := .lst (things p1 p2 p3 p5)) n1 n2 n3 n4 n5 n6 rfl
      have nb : ∀ {z : Addr}, H1 z = none → z ≠ p := fun {z} h => hb.ne h
      have B2 := hb.ext S2
      have MG := M2.off_ (nb z1) (nb z2) (nb z3) (nb z4) (nb z5)
      have l6p : p6 ≠ p := nb z6
      have SG : Same H' (off (upd (upd (upd (upd (upd (upd (upd H1 p1 (.tup [.int 1, .int 2])) p2 (.lst [.str "x"])) p3 (.dK [])) p3 (.dK [(.inr "k", .int 1)])) p4 (.tup [.int 0])) p5 (.tup [.ref p4])) p6 (.lst (things p1 p2 p3 p5))) p) :=
        fun z o h => off_at (S2 _ _ (SH _ _ h)) (ne_of_none h np)
      have SGm := off_same (H := upd (upd (upd (upd (upd (upd (upd H1 p1 (.tup [.int 1, .int 2])) p2 (.lst [.str "x"])) p3 (.dK [])) p3 (.dK [(.inr "k", .int 1)])) p4 (.tup [.int 0])) p5 (.tup [.ref p4])) p6 (.lst (things p1 p2 p3 p5))) (q := p)
      have Gp := off_self (H := upd (upd (upd (upd (upd (upd (upd H1 p1 (.tup [.int 1, .int 2])) p2 (.lst [.str "x"])) p3 (.dK [])) p3 (.dK [(.inr "k", .int 1)])) p4 (.tup [.int 0])) p5 (.tup [.ref p4])) p6 (.lst (things p1 p2 p3 p5))) (q := p)
      have G6 := off_at l6 l6p
      have HG := hS'
      show tSeq (tPar 4 5 _) _ _ _ (upd (upd (upd (upd (upd (upd (upd H1 p1 (.tup [.int 1, .int 2])) p2 (.lst [.str "x"])) p3 (.dK [])) p3 (.dK [(.inr "k", .int 1)])) p4 (.tup [.int 0])) p5 (.tup [.ref p4])) p6 (.lst (things p1 p2 p3 p5)))
      generalize upd (upd (upd (upd (upd (upd (upd H1 p1 (.tup [.int 1, .int 2])) p2 (.lst [.str "x"])) p3 (.dK [])) p3 (.dK [(.inr "k", .int 1)])) p4 (.tup [.int 0])) p5 (.tup [.ref p4])) p6 (.lst (things p1 p2 p3 p5)) = H2 at B2 MG SG SGm Gp G6 ⊢
      generalize off H2 p = G at MG SG SGm Gp G6
      have TH := MG.ths (K := K)
      -- two of them
      refine ⟨_, rfl, _, rfl, p, 12, 0, rfl, B2, by decide, by decide, by decide, fun r1 H3 r10 r11 B3 k3 => ?_⟩
      have SG3 := keep_off SGm Gp k3
      obtain ⟨v1, hv1, m1⟩ := thing_at (p1 := p1) (p2 := p2) (p3 := p3) (p5 := p5) r10 r11
      refine ⟨p6, _, r1, v1, rfl, rfl, SqL.of (SG3 _ _ G6), hv1, ?_⟩
      refine ⟨_, rfl, _, rfl, p, 12, 1, rfl, B3, by decide, by decide, by decide, fun r2 H4 r20 r21 B4 k4 => ?_⟩
      have SG4 := keep_off SG3 Gp k4
      obtain ⟨v2, hv2, m2⟩ := thing_at (p1 := p1) (p2 := p2) (p3 := p3) (p5 := p5) r20 r21
      refine ⟨p6, _, r2, v2, rfl, rfl, SqL.of (SG4 _ _ G6), hv2, ?_⟩
      refine ⟨v1, v2, rfl, ?_⟩
      -- each of the two
      refine ⟨v1, rfl, v2, rfl, sl (by show 2 ≤ 1000; decide), fun p7 n7 => ⟨p7, rfl, ⟨_, SqL.of upd_same⟩, ?_⟩⟩
      have SG5 : Same G (upd H4 p7 (.lst [v1, v2])) := SG4.trans (upS n7)
      refine for_list (xs := [v1, v2]) (fun _ σ H'' => (∃ x6, σ = [some (.ref a), some (.int ((0 : Int) + (i : Int))), some (.ref p), some (.ref p6), some v1, some v2, x6, none]) ∧ Same (upd H4 p7 (.lst [v1, v2])) H'') ⟨⟨_, rfl⟩, Same.refl _⟩
        (fun _ σ H'' _ hp => SqL.of (hp.2 _ _ upd_same)) ?_ ?_
      · intro j v σ H5 hv hp
        obtain ⟨⟨x6, rfl⟩, S5⟩ := hp
        have hm : v ∈ things p1 p2 p3 p5 := by
          have := List.mem_of_getElem? hv
          simp only [List.mem_cons, List.not_mem_nil, or_false] at this
          rcases this with e | e <;> (rw [e]; assumption)
        have th := TH v hm
        have SG6 := SG5.trans S5
        refine ⟨v, rfl, v, rfl, fun pa as Ha sa la ea => ?_⟩
        refine ⟨v, rfl, v, rfl, fun pb bs Hb sb lb eb => ?_⟩
        refine ⟨pa, pb, _, _, rfl, rfl, sb _ _ la, lb, sl (by rw [List.length_map, List.length_map, ea.len, eb.len]; show 22 + 22 ≤ 1000; decide), fun pc npc => ?_⟩
        refine ⟨pc, rfl, ⟨_, SqL.of upd_same⟩, fun D hD => ?_⟩
        have Sc : Same Hb (upd Hb pc (.lst (as.map V.ref ++ bs.map V.ref))) := upS npc
        have ea2 := (ea.ext sb).ext Sc
        have eb2 := eb.ext Sc
        have lc : upd Hb pc (.lst (as.map V.ref ++ bs.map V.ref)) pc = some (.lst (as.map V.ref ++ bs.map V.ref)) := upd_same
        have S6 : Same H5 (upd Hb pc (.lst (as.map V.ref ++ bs.map V.ref))) := (sa.trans sb).trans Sc
        generalize upd Hb pc (.lst (as.map V.ref ++ bs.map V.ref)) = Hc at hD ea2 eb2 lc S6 ⊢
        refine lc_list (xs := as.map V.ref ++ bs.map V.ref) (fun _ H'' => Same Hc H'' ∧ H'' D = some (.lst [])) ⟨upS hD, upd_same⟩ (fun _ H'' _ hp => SqL.of (hp.1 _ _ lc)) ?_ ?_
        · intro l x H6 hx hp
          obtain ⟨s6, d6⟩ := hp
          rw [← List.map_append, List.getElem?_map] at hx
          obtain ⟨e, he, rfl⟩ := Option.map_eq_some_iff.mp hx
          obtain ⟨n, e', hn, he', fe⟩ := errs_at ea2 eb2 (List.getElem?_eq_some_iff.mp he).1
          cases he.symm.trans he'
          have EE := (allJ_take T.ek n hn).e
          refine ⟨rfl, ?_⟩
          refine ⟨.ref e, rfl, e, He.ga K n, v, rfl, fe.ext s6, EE.f, EE.nof, v, rfl, v, rfl, th.ext ((SG6.trans S6).trans s6), true, rfl, ?_⟩
          exact iteF ⟨s6, d6⟩
        · intro H6 hp
          obtain ⟨s6, d6⟩ := hp
          refine ⟨Nat.zero_le _, fun pe ne => ⟨.list [], .list [], .lst (SqL.of (by rw [upd_ne (ne_of_none d6 ne)]; exact d6)) .nil, .lst (SqL.of upd_same) .nil, by decide +kernel, by decide +kernel, false, congrArg V.bl (by decide +kernel), iteF ?_⟩⟩
          have S7 := (S6.trans s6).trans (upS (o := .lst []) ne)
          refine if_of (or_of (lawErr T2.tw.e th (SG6.trans S7) rfl (fun Q' z => mkKV rfl z) fun H7 s7 => ?_))
          refine iteF ?_
          refine lawErr T2.tm.e th ((SG6.trans S7).trans s7) rfl (fun Q' z => mkKV rfl z) fun H8 s8 => ?_
          refine iteF ?_
          exact ⟨⟨_, rfl⟩, ((S5.trans S7).trans s7).trans s8⟩
      · intro σ H5 hp
        obtain ⟨⟨x6, rfl⟩, S5⟩ := hp
        have SG6 := SG5.trans S5
        refine if_of (or_of (lawErr T2.tw.e (TH v1 m1) SG6 rfl (fun Q' z => mk1V rfl z) fun H7 s7 => ?_))
        refine iteF ?_
        refine lawErr T2.tm.e (TH v2 m2) (SG6.trans s7) rfl (fun Q' z => mk1V rfl z) fun H8 s8 => ?_
        refine iteF ?_
        exact ⟨⟨_, _, _, _, _, _, rfl⟩, (SG.trans ((SG6.trans s7).trans s8)).seq hS'⟩
    · intro σ H' hp
      exact ⟨rfl, fun H'' _ => q H''⟩
end
end K01

set_option Elab.async false
set_option linter.all false
set_option maxRecDepth 100000
set_option maxHeartbeats 4000000
namespace K01
open PySem PySem.Spec PyProof.Rows L2 J
/-! ### the head -/
def bf : List Bf := [derrB, clsB, errB "BadBounds" "given", errB "BadCorner" "given", errB "BadCount" "given", errB "BadDraws" "given", errB "BadFamily" "given", errB "BadGivers" "given", errB "BadKind" "given", errB "BadLiars" "given", errB "BadName" "given", errB "BadNames" "given", errB "BadNumber" "given", errB "BadPath" "given", errB "BadPlan" "given", errB "BadPrices" "given", errB "BadShares" "given", errB "BadStake" "given", errB "BadStandIn" "given", errB "BadText" "given", errB "BadWish" "given", errB "NoEnd" "given", errB "NoPerson" "given", errB "NotNow" "given", errB "Twice" "person", errB "TooMany" "count", errB "ByZero" "given", errB "NothingToUndo" "given", errB "NotTurns" "given", errB "UnlikeEnds" "given", ndB, dclB, mroB "BadBounds", mroB "BadCorner", mroB "BadCount", mroB "BadDraws", mroB "BadFamily", mroB "BadGivers", mroB "BadKind", mroB "BadLiars", mroB "BadName", mroB "BadNames", mroB "BadNumber", mroB "BadPath", mroB "BadPlan", mroB "BadPrices", mroB "BadShares", mroB "BadStake", mroB "BadStandIn", mroB "BadText", mroB "BadWish", mroB "NoEnd", mroB "NoPerson", mroB "NotNow", mroB "Twice", mroB "TooMany", mroB "ByZero", mroB "NothingToUndo", mroB "NotTurns", mroB "UnlikeEnds", freeB "len", freeB "abs", freeB "int", freeB "isinstance", freeB "repr", freeB "range", freeB "bool", freeB "ValueError", gloB "_law_cell", gloB "_law_box", gloB "_law_take", gloB "_law_first", gloB "_law_kinds", gloB "_law_made", gloB "_law_named", gloB "_law_same", gloB "_law_bases_right", gloB "law"]
def fn : List He.DefD := [⟨("BadBounds", some "__init__"), "__init__", "BadBounds.__init__", defArgs s_BadBounds___init__, defBody s_BadBounds___init__, defScope s_BadBounds___init__, [], []⟩,
  ⟨("BadCorner", some "__init__"), "__init__", "BadCorner.__init__", defArgs s_BadCorner___init__, defBody s_BadCorner___init__, defScope s_BadCorner___init__, [], []⟩,
  ⟨("BadCount", some "__init__"), "__init__", "BadCount.__init__", defArgs s_BadCount___init__, defBody s_BadCount___init__, defScope s_BadCount___init__, [], []⟩,
  ⟨("BadDraws", some "__init__"), "__init__", "BadDraws.__init__", defArgs s_BadDraws___init__, defBody s_BadDraws___init__, defScope s_BadDraws___init__, [], []⟩,
  ⟨("BadFamily", some "__init__"), "__init__", "BadFamily.__init__", defArgs s_BadFamily___init__, defBody s_BadFamily___init__, defScope s_BadFamily___init__, [], []⟩,
  ⟨("BadGivers", some "__init__"), "__init__", "BadGivers.__init__", defArgs s_BadGivers___init__, defBody s_BadGivers___init__, defScope s_BadGivers___init__, [], []⟩,
  ⟨("BadKind", some "__init__"), "__init__", "BadKind.__init__", defArgs s_BadKind___init__, defBody s_BadKind___init__, defScope s_BadKind___init__, [], []⟩,
  ⟨("BadLiars", some "__init__"), "__init__", "BadLiars.__init__", defArgs s_BadLiars___init__, defBody s_BadLiars___init__, defScope s_BadLiars___init__, [], []⟩,
  ⟨("BadName", some "__init__"), "__init__", "BadName.__init__", defArgs s_BadName___init__, defBody s_BadName___init__, defScope s_BadName___init__, [], []⟩,
  ⟨("BadNames", some "__init__"), "__init__", "BadNames.__init__", defArgs s_BadNames___init__, defBody s_BadNames___init__, defScope s_BadNames___init__, [], []⟩,
  ⟨("BadNumber", some "__init__"), "__init__", "BadNumber.__init__", defArgs s_BadNumber___init__, defBody s_BadNumber___init__, defScope s_BadNumber___init__, [], []⟩,
  ⟨("BadPath", some "__init__"), "__init__", "BadPath.__init__", defArgs s_BadPath___init__, defBody s_BadPath___init__, defScope s_BadPath___init__, [], []⟩,
  ⟨("BadPlan", some "__init__"), "__init__", "BadPlan.__init__", defArgs s_BadPlan___init__, defBody s_BadPlan___init__, defScope s_BadPlan___init__, [], []⟩,
  ⟨("BadPrices", some "__init__"), "__init__", "BadPrices.__init__", defArgs s_BadPrices___init__, defBody s_BadPrices___init__, defScope s_BadPrices___init__, [], []⟩,
  ⟨("BadShares", some "__init__"), "__init__", "BadShares.__init__", defArgs s_BadShares___init__, defBody s_BadShares___init__, defScope s_BadShares___init__, [], []⟩,
  ⟨("BadStake", some "__init__"), "__init__", "BadStake.__init__", defArgs s_BadStake___init__, defBody s_BadStake___init__, defScope s_BadStake___init__, [], []⟩,
  ⟨("BadStandIn", some "__init__"), "__init__", "BadStandIn.__init__", defArgs s_BadStandIn___init__, defBody s_BadStandIn___init__, defScope s_BadStandIn___init__, [], []⟩,
  ⟨("BadText", some "__init__"), "__init__", "BadText.__init__", defArgs s_BadText___init__, defBody s_BadText___init__, defScope s_BadText___init__, [], []⟩,
  ⟨("BadWish", some "__init__"), "__init__", "BadWish.__init__", defArgs s_BadWish___init__, defBody s_BadWish___init__, defScope s_BadWish___init__, [], []⟩,
  ⟨("NoEnd", some "__init__"), "__init__", "NoEnd.__init__", defArgs s_NoEnd___init__, defBody s_NoEnd___init__, defScope s_NoEnd___init__, [], []⟩,
  ⟨("NoPerson", some "__init__"), "__init__", "NoPerson.__init__", defArgs s_NoPerson___init__, defBody s_NoPerson___init__, defScope s_NoPerson___init__, [], []⟩,
  ⟨("NotNow", some "__init__"), "__init__", "NotNow.__init__", defArgs s_NotNow___init__, defBody s_NotNow___init__, defScope s_NotNow___init__, [], []⟩,
  ⟨("Twice", some "__init__"), "__init__", "Twice.__init__", defArgs s_Twice___init__, defBody s_Twice___init__, defScope s_Twice___init__, [], []⟩,
  ⟨("TooMany", some "__init__"), "__init__", "TooMany.__init__", defArgs s_TooMany___init__, defBody s_TooMany___init__, defScope s_TooMany___init__, [], []⟩,
  ⟨("ByZero", some "__init__"), "__init__", "ByZero.__init__", defArgs s_ByZero___init__, defBody s_ByZero___init__, defScope s_ByZero___init__, [], []⟩,
  ⟨("NothingToUndo", some "__init__"), "__init__", "NothingToUndo.__init__", defArgs s_NothingToUndo___init__, defBody s_NothingToUndo___init__, defScope s_NothingToUndo___init__, [], []⟩,
  ⟨("NotTurns", some "__init__"), "__init__", "NotTurns.__init__", defArgs s_NotTurns___init__, defBody s_NotTurns___init__, defScope s_NotTurns___init__, [], []⟩,
  ⟨("UnlikeEnds", some "__init__"), "__init__", "UnlikeEnds.__init__", defArgs s_UnlikeEnds___init__, defBody s_UnlikeEnds___init__, defScope s_UnlikeEnds___init__, [], []⟩,
  ⟨("_law_cell", none), "_law_cell", "_law_cell", defArgs s__law_cell, defBody s__law_cell, defScope s__law_cell, [], []⟩,
  ⟨("_law_box", none), "_law_box", "_law_box", defArgs s__law_box, defBody s__law_box, defScope s__law_box, [], []⟩,
  ⟨("_law_take", none), "_law_take", "_law_take", defArgs s__law_take, defBody s__law_take, defScope s__law_take, [], []⟩,
  ⟨("_law_first", none), "_law_first", "_law_first", defArgs s__law_first, defBody s__law_first, defScope s__law_first, [], []⟩,
  ⟨("_law_kinds", none), "_law_kinds", "_law_kinds", defArgs s__law_kinds, defBody s__law_kinds, defScope s__law_kinds, [], []⟩,
  ⟨("_law_made", none), "_law_made", "_law_made", defArgs s__law_made, defBody s__law_made, defScope s__law_made, [], []⟩,
  ⟨("_law_named", none), "_law_named", "_law_named", defArgs s__law_named, defBody s__law_named, defScope s__law_named, [], []⟩,
  ⟨("_law_same", none), "_law_same", "_law_same", defArgs s__law_same, defBody s__law_same, defScope s__law_same, [], []⟩,
  ⟨("_law_bases_right", none), "_law_bases_right", "_law_bases_right", defArgs s__law_bases_right, defBody s__law_bases_right, defScope s__law_bases_right, [], []⟩,
  ⟨("law", none), "law", "law", defArgs s_law, defBody s_law, defScope s_law, [], []⟩]
abbrev R : PySem.W.OpenRow := PySem.W.OpenLaw.row PySem.Challenge.rw_jointdraws_k01_errors
abbrev hk : PySem.W.Hook := hookJ 5 bf fn
def ob (s : PySem.W.SharedT) : He.AlD := obsJG 5 bf fn (HandSHeadRun.getT s)
theorem ob_eq (s : PySem.W.SharedT) : ob s = hk.obs s.abs := obsJG_eq (HandSHeadRun.getT_eq s)
def loose : List Str := (["DrawError", "ByZero", "BadNumber", "BadText", "BadName", "BadKind", "BadGivers", "Twice", "BadShares", "BadStandIn", "BadDraws", "TooMany", "BadPath", "BadWish", "BadStake", "NoEnd", "NoPerson", "BadLiars", "BadPlan"] : List Str) ++ (["BadCount", "BadCorner", "BadFamily", "BadBounds", "BadPrices", "BadNames", "NotTurns", "UnlikeEnds", "NotNow", "NothingToUndo", "_law_cell", "_law_box", "_law_take", "_law_first", "_law_kinds", "_law_made", "_law_named", "_law_same", "_law_bases_right"] : List Str)
theorem run (w : World) : HandSHeadRun.RunEq R (PySem.W.view R.prog [40]) hk ob 20000 loose w := by
  intro os
  kernel_rfl
section
variable {P : Program} {w : World} {K : PySem.W.Frag} {h : Heap} {mg : Str → Option Value} {fa : Addr}
theorem facts (X : K.In h) (G : h.Ns mainGlobals mg) (hfa : mg ("law" : Str) = some (.ref fa)) (c : SaysJ bf fn K) :
    ∃ fd : FuncData, (∀ (s : Shared) (v : Value), BindsTo s fd ⟨[v], []⟩ [("_law_script", v)]) ∧ ∀ base : Heap, K.In base → base.Ns mainGlobals mg → FnG P w K mg base CX0 8 fa fd ["_law_script"] (spLaw K) := by
  have T := derrB_ok X G (c.fact 0 (b := derrB) rfl)
  have cb := c.fact 1 (b := clsB) rfl
  have E_BadBounds := errB_ok X G (c.fact 2 (b := errB "BadBounds" "given") rfl)
  have M_BadBounds := mroB_ok (c.fact 32 (b := mroB "BadBounds") rfl)
  obtain ⟨fd_BadBounds, F_BadBounds⟩ := c.def_ 0
  have E_BadCorner := errB_ok X G (c.fact 3 (b := errB "BadCorner" "given") rfl)
  have M_BadCorner := mroB_ok (c.fact 33 (b := mroB "BadCorner") rfl)
  obtain ⟨fd_BadCorner, F_BadCorner⟩ := c.def_ 1
  have E_BadCount := errB_ok X G (c.fact 4 (b := errB "BadCount" "given") rfl)
  have M_BadCount := mroB_ok (c.fact 34 (b := mroB "BadCount") rfl)
  obtain ⟨fd_BadCount, F_BadCount⟩ := c.def_ 2
  have E_BadDraws := errB_ok X G (c.fact 5 (b := errB "BadDraws" "given") rfl)
  have M_BadDraws := mroB_ok (c.fact 35 (b := mroB "BadDraws") rfl)
  obtain ⟨fd_BadDraws, F_BadDraws⟩ := c.def_ 3
  have E_BadFamily := errB_ok X G (c.fact 6 (b := errB "BadFamily" "given") rfl)
  have M_BadFamily := mroB_ok (c.fact 36 (b := mroB "BadFamily") rfl)
  obtain ⟨fd_BadFamily, F_BadFamily⟩ := c.def_ 4
  have E_BadGivers := errB_ok X G (c.fact 7 (b := errB "BadGivers" "given") rfl)
  have M_BadGivers := mroB_ok (c.fact 37 (b := mroB "BadGivers") rfl)
  obtain ⟨fd_BadGivers, F_BadGivers⟩ := c.def_ 5
  have E_BadKind := errB_ok X G (c.fact 8 (b := errB "BadKind" "given") rfl)
  have M_BadKind := mroB_ok (c.fact 38 (b := mroB "BadKind") rfl)
  obtain ⟨fd_BadKind, F_BadKind⟩ := c.def_ 6
  have E_BadLiars := errB_ok X G (c.fact 9 (b := errB "BadLiars" "given") rfl)
  have M_BadLiars := mroB_ok (c.fact 39 (b := mroB "BadLiars") rfl)
  obtain ⟨fd_BadLiars, F_BadLiars⟩ := c.def_ 7
  have E_BadName := errB_ok X G (c.fact 10 (b := errB "BadName" "given") rfl)
  have M_BadName := mroB_ok (c.fact 40 (b := mroB "BadName") rfl)
  obtain ⟨fd_BadName, F_BadName⟩ := c.def_ 8
  have E_BadNames := errB_ok X G (c.fact 11 (b := errB "BadNames" "given") rfl)
  have M_BadNames := mroB_ok (c.fact 41 (b := mroB "BadNames") rfl)
  obtain ⟨fd_BadNames, F_BadNames⟩ := c.def_ 9
  have E_BadNumber := errB_ok X G (c.fact 12 (b := errB "BadNumber" "given") rfl)
  have M_BadNumber := mroB_ok (c.fact 42 (b := mroB "BadNumber") rfl)
  obtain ⟨fd_BadNumber, F_BadNumber⟩ := c.def_ 10
  have E_BadPath := errB_ok X G (c.fact 13 (b := errB "BadPath" "given") rfl)
  have M_BadPath := mroB_ok (c.fact 43 (b := mroB "BadPath") rfl)
  obtain ⟨fd_BadPath, F_BadPath⟩ := c.def_ 11
  have E_BadPlan := errB_ok X G (c.fact 14 (b := errB "BadPlan" "given") rfl)
  have M_BadPlan := mroB_ok (c.fact 44 (b := mroB "BadPlan") rfl)
  obtain ⟨fd_BadPlan, F_BadPlan⟩ := c.def_ 12
  have E_BadPrices := errB_ok X G (c.fact 15 (b := errB "BadPrices" "given") rfl)
  have M_BadPrices := mroB_ok (c.fact 45 (b := mroB "BadPrices") rfl)
  obtain ⟨fd_BadPrices, F_BadPrices⟩ := c.def_ 13
  have E_BadShares := errB_ok X G (c.fact 16 (b := errB "BadShares" "given") rfl)
  have M_BadShares := mroB_ok (c.fact 46 (b := mroB "BadShares") rfl)
  obtain ⟨fd_BadShares, F_BadShares⟩ := c.def_ 14
  have E_BadStake := errB_ok X G (c.fact 17 (b := errB "BadStake" "given") rfl)
  have M_BadStake := mroB_ok (c.fact 47 (b := mroB "BadStake") rfl)
  obtain ⟨fd_BadStake, F_BadStake⟩ := c.def_ 15
  have E_BadStandIn := errB_ok X G (c.fact 18 (b := errB "BadStandIn" "given") rfl)
  have M_BadStandIn := mroB_ok (c.fact 48 (b := mroB "BadStandIn") rfl)
  obtain ⟨fd_BadStandIn, F_BadStandIn⟩ := c.def_ 16
  have E_BadText := errB_ok X G (c.fact 19 (b := errB "BadText" "given") rfl)
  have M_BadText := mroB_ok (c.fact 49 (b := mroB "BadText") rfl)
  obtain ⟨fd_BadText, F_BadText⟩ := c.def_ 17
  have E_BadWish := errB_ok X G (c.fact 20 (b := errB "BadWish" "given") rfl)
  have M_BadWish := mroB_ok (c.fact 50 (b := mroB "BadWish") rfl)
  obtain ⟨fd_BadWish, F_BadWish⟩ := c.def_ 18
  have E_NoEnd := errB_ok X G (c.fact 21 (b := errB "NoEnd" "given") rfl)
  have M_NoEnd := mroB_ok (c.fact 51 (b := mroB "NoEnd") rfl)
  obtain ⟨fd_NoEnd, F_NoEnd⟩ := c.def_ 19
  have E_NoPerson := errB_ok X G (c.fact 22 (b := errB "NoPerson" "given") rfl)
  have M_NoPerson := mroB_ok (c.fact 52 (b := mroB "NoPerson") rfl)
  obtain ⟨fd_NoPerson, F_NoPerson⟩ := c.def_ 20
  have E_NotNow := errB_ok X G (c.fact 23 (b := errB "NotNow" "given") rfl)
  have M_NotNow := mroB_ok (c.fact 53 (b := mroB "NotNow") rfl)
  obtain ⟨fd_NotNow, F_NotNow⟩ := c.def_ 21
  have E_Twice := errB_ok X G (c.fact 24 (b := errB "Twice" "person") rfl)
  have M_Twice := mroB_ok (c.fact 54 (b := mroB "Twice") rfl)
  obtain ⟨fd_Twice, F_Twice⟩ := c.def_ 22
  have E_TooMany := errB_ok X G (c.fact 25 (b := errB "TooMany" "count") rfl)
  have M_TooMany := mroB_ok (c.fact 55 (b := mroB "TooMany") rfl)
  obtain ⟨fd_TooMany, F_TooMany⟩ := c.def_ 23
  have E_ByZero := errB_ok X G (c.fact 26 (b := errB "ByZero" "given") rfl)
  have M_ByZero := mroB_ok (c.fact 56 (b := mroB "ByZero") rfl)
  obtain ⟨fd_ByZero, F_ByZero⟩ := c.def_ 24
  have E_NothingToUndo := errB_ok X G (c.fact 27 (b := errB "NothingToUndo" "given") rfl)
  have M_NothingToUndo := mroB_ok (c.fact 57 (b := mroB "NothingToUndo") rfl)
  obtain ⟨fd_NothingToUndo, F_NothingToUndo⟩ := c.def_ 25
  have E_NotTurns := errB_ok X G (c.fact 28 (b := errB "NotTurns" "given") rfl)
  have M_NotTurns := mroB_ok (c.fact 58 (b := mroB "NotTurns") rfl)
  obtain ⟨fd_NotTurns, F_NotTurns⟩ := c.def_ 26
  have E_UnlikeEnds := errB_ok X G (c.fact 29 (b := errB "UnlikeEnds" "given") rfl)
  have M_UnlikeEnds := mroB_ok (c.fact 59 (b := mroB "UnlikeEnds") rfl)
  obtain ⟨fd_UnlikeEnds, F_UnlikeEnds⟩ := c.def_ 27
  have nd := ndB_ok (c.fact 30 (b := ndB) rfl)
  have dc := dclB_ok (c.fact 31 (b := dclB) rfl)
  have m_len := freeB_ok X G (c.fact 60 (b := freeB "len") rfl)
  have m_abs := freeB_ok X G (c.fact 61 (b := freeB "abs") rfl)
  have m_int := freeB_ok X G (c.fact 62 (b := freeB "int") rfl)
  have m_isinstance := freeB_ok X G (c.fact 63 (b := freeB "isinstance") rfl)
  have m_repr := freeB_ok X G (c.fact 64 (b := freeB "repr") rfl)
  have m_range := freeB_ok X G (c.fact 65 (b := freeB "range") rfl)
  have m_bool := freeB_ok X G (c.fact 66 (b := freeB "bool") rfl)
  have m_ValueError := freeB_ok X G (c.fact 67 (b := freeB "ValueError") rfl)
  have g__law_cell := gloB_ok X G (c.fact 68 (b := gloB "_law_cell") rfl)
  obtain ⟨fd__law_cell, F__law_cell⟩ := c.def_ 28
  have g__law_box := gloB_ok X G (c.fact 69 (b := gloB "_law_box") rfl)
  obtain ⟨fd__law_box, F__law_box⟩ := c.def_ 29
  have g__law_take := gloB_ok X G (c.fact 70 (b := gloB "_law_take") rfl)
  obtain ⟨fd__law_take, F__law_take⟩ := c.def_ 30
  have g__law_first := gloB_ok X G (c.fact 71 (b := gloB "_law_first") rfl)
  obtain ⟨fd__law_first, F__law_first⟩ := c.def_ 31
  have g__law_kinds := gloB_ok X G (c.fact 72 (b := gloB "_law_kinds") rfl)
  obtain ⟨fd__law_kinds, F__law_kinds⟩ := c.def_ 32
  have g__law_made := gloB_ok X G (c.fact 73 (b := gloB "_law_made") rfl)
  obtain ⟨fd__law_made, F__law_made⟩ := c.def_ 33
  have g__law_named := gloB_ok X G (c.fact 74 (b := gloB "_law_named") rfl)
  obtain ⟨fd__law_named, F__law_named⟩ := c.def_ 34
  have g__law_same := gloB_ok X G (c.fact 75 (b := gloB "_law_same") rfl)
  obtain ⟨fd__law_same, F__law_same⟩ := c.def_ 35
  have g__law_bases_right := gloB_ok X G (c.fact 76 (b := gloB "_law_bases_right") rfl)
  obtain ⟨fd__law_bases_right, F__law_bases_right⟩ := c.def_ 36
  have g_law := gloB_ok X G (c.fact 77 (b := gloB "law") rfl)
  obtain ⟨fd_law, F_law⟩ := c.def_ 37
  have e := hfa.symm.trans g_law
  cases e
  have hX : ∀ n ∈ n28, ExcC K (He.ga K n) := by
    intro n hn
    simp only [n28, n22, List.cons_append, List.nil_append, List.mem_cons, List.not_mem_nil, or_false] at hn
    rcases hn with rfl | rfl | rfl | rfl | rfl | rfl | rfl | rfl | rfl | rfl | rfl | rfl | rfl | rfl | rfl | rfl | rfl | rfl | rfl | rfl | rfl | rfl | rfl | rfl | rfl | rfl | rfl | rfl
    · exact E_BadBounds.is cb
    · exact E_BadCorner.is cb
    · exact E_BadCount.is cb
    · exact E_BadDraws.is cb
    · exact E_BadFamily.is cb
    · exact E_BadGivers.is cb
    · exact E_BadKind.is cb
    · exact E_BadLiars.is cb
    · exact E_BadName.is cb
    · exact E_BadNames.is cb
    · exact E_BadNumber.is cb
    · exact E_BadPath.is cb
    · exact E_BadPlan.is cb
    · exact E_BadPrices.is cb
    · exact E_BadShares.is cb
    · exact E_BadStake.is cb
    · exact E_BadStandIn.is cb
    · exact E_BadText.is cb
    · exact E_BadWish.is cb
    · exact E_NoEnd.is cb
    · exact E_NoPerson.is cb
    · exact E_NotNow.is cb
    · exact E_Twice.is cb
    · exact E_TooMany.is cb
    · exact E_ByZero.is cb
    · exact E_NothingToUndo.is cb
    · exact E_NotTurns.is cb
    · exact E_UnlikeEnds.is cb
  have hM : ∀ n ∈ n28, MroN K n := by
    intro n hn
    simp only [n28, n22, List.cons_append, List.nil_append, List.mem_cons, List.not_mem_nil, or_false] at hn
    rcases hn with rfl | rfl | rfl | rfl | rfl | rfl | rfl | rfl | rfl | rfl | rfl | rfl | rfl | rfl | rfl | rfl | rfl | rfl | rfl | rfl | rfl | rfl | rfl | rfl | rfl | rfl | rfl | rfl
    · exact M_BadBounds
    · exact M_BadCorner
    · exact M_BadCount
    · exact M_BadDraws
    · exact M_BadFamily
    · exact M_BadGivers
    · exact M_BadKind
    · exact M_BadLiars
    · exact M_BadName
    · exact M_BadNames
    · exact M_BadNumber
    · exact M_BadPath
    · exact M_BadPlan
    · exact M_BadPrices
    · exact M_BadShares
    · exact M_BadStake
    · exact M_BadStandIn
    · exact M_BadText
    · exact M_BadWish
    · exact M_NoEnd
    · exact M_NoPerson
    · exact M_NotNow
    · exact M_Twice
    · exact M_TooMany
    · exact M_ByZero
    · exact M_NothingToUndo
    · exact M_NotTurns
    · exact M_UnlikeEnds
  have hC : AllJ (ClsN K mg) n28 := ⟨⟨E_BadBounds.g, by decide⟩, ⟨E_BadCorner.g, by decide⟩, ⟨E_BadCount.g, by decide⟩, ⟨E_BadDraws.g, by decide⟩, ⟨E_BadFamily.g, by decide⟩, ⟨E_BadGivers.g, by decide⟩, ⟨E_BadKind.g, by decide⟩, ⟨E_BadLiars.g, by decide⟩, ⟨E_BadName.g, by decide⟩, ⟨E_BadNames.g, by decide⟩, ⟨E_BadNumber.g, by decide⟩, ⟨E_BadPath.g, by decide⟩, ⟨E_BadPlan.g, by decide⟩, ⟨E_BadPrices.g, by decide⟩, ⟨E_BadShares.g, by decide⟩, ⟨E_BadStake.g, by decide⟩, ⟨E_BadStandIn.g, by decide⟩, ⟨E_BadText.g, by decide⟩, ⟨E_BadWish.g, by decide⟩, ⟨E_NoEnd.g, by decide⟩, ⟨E_NoPerson.g, by decide⟩, ⟨E_NotNow.g, by decide⟩, ⟨E_Twice.g, by decide⟩, ⟨E_TooMany.g, by decide⟩, ⟨E_ByZero.g, by decide⟩, ⟨E_NothingToUndo.g, by decide⟩, ⟨E_NotTurns.g, by decide⟩, ⟨E_UnlikeEnds.g, by decide⟩, trivial⟩
  refine ⟨fd_law, fun s v => FunD.bindsA (ps := ["_law_script"]) F_law (fun _ _ _ _ _ _ us hl => match us, hl with | [_], _ => rfl) s [v] rfl, fun base _ _ => ?_⟩
  have hE : AllJ (EK P w K mg base) n22 := ⟨k_BadBounds F_BadBounds T E_BadBounds, k_BadCorner F_BadCorner T E_BadCorner, k_BadCount F_BadCount T E_BadCount, k_BadDraws F_BadDraws T E_BadDraws, k_BadFamily F_BadFamily T E_BadFamily, k_BadGivers F_BadGivers T E_BadGivers, k_BadKind F_BadKind T E_BadKind, k_BadLiars F_BadLiars T E_BadLiars, k_BadName F_BadName T E_BadName, k_BadNames F_BadNames T E_BadNames, k_BadNumber F_BadNumber T E_BadNumber, k_BadPath F_BadPath T E_BadPath, k_BadPlan F_BadPlan T E_BadPlan, k_BadPrices F_BadPrices T E_BadPrices, k_BadShares F_BadShares T E_BadShares, k_BadStake F_BadStake T E_BadStake, k_BadStandIn F_BadStandIn T E_BadStandIn, k_BadText F_BadText T E_BadText, k_BadWish F_BadWish T E_BadWish, k_NoEnd F_NoEnd T E_NoEnd, k_NoPerson F_NoPerson T E_NoPerson, k_NotNow F_NotNow T E_NotNow, trivial⟩
  refine ok_law F_law ⟨hE, hC, hX, hM, nd, dc, m_len, m_abs, m_int, m_isinstance, m_repr, m_range, m_bool, m_ValueError, T.gD⟩
    ⟨⟨E_Twice, fd_Twice, e_Twice F_Twice T E_Twice, fun s a u _ => kw_binds F_Twice (fun _ _ _ _ _ _ _ _ => rfl) s a u⟩, ⟨E_TooMany, fd_TooMany, e_TooMany F_TooMany T E_TooMany, fun s a u _ => kw_binds F_TooMany (fun _ _ _ _ _ _ _ _ => rfl) s a u⟩,
      ⟨E_ByZero, fd_ByZero, e_ByZero F_ByZero T E_ByZero⟩, ⟨E_NothingToUndo, fd_NothingToUndo, e_NothingToUndo F_NothingToUndo T E_NothingToUndo⟩, ⟨E_NotTurns, fd_NotTurns, e_NotTurns F_NotTurns T E_NotTurns⟩, ⟨E_UnlikeEnds, fd_UnlikeEnds, e_UnlikeEnds F_UnlikeEnds T E_UnlikeEnds⟩⟩
    F__law_cell g__law_cell F__law_box g__law_box F__law_take g__law_take F__law_first g__law_first F__law_kinds g__law_kinds F__law_made g__law_made F__law_named g__law_named F__law_same g__law_same F__law_bases_right g__law_bases_right
end
end K01
open PySem PySem.W PySem.Calls PyProof.Rows
theorem PySem.Challenge.cw_jointdraws_k01_errors_holds : PySem.Challenge.rw_jointdraws_k01_errors.Holds := by
  w_on; o_law
  refine HandSHeadRun.head_any (r := OpenLaw.row PySem.Challenge.rw_jointdraws_k01_errors) (q := view (OpenLaw.row PySem.Challenge.rw_jointdraws_k01_errors).prog [40]) (H := K01.hk) (ob := K01.ob) (M := 20000) (loose := K01.loose) (d := HandSHeadRun.topDef (OpenLaw.row PySem.Challenge.rw_jointdraws_k01_errors).prog 40) (kwd := []) K01.ob_eq
    (by kernel_rfl) (fun s => by kernel_rfl) K01.run (by kernel_rfl) (by kernel_rfl) (by kernel_rfl) (by rfl) (by first | assumption | decide +kernel) (by decide +kernel) ⟨rfl, rfl, rfl, rfl, rfl, by decide +kernel⟩ ?hw ?hc
  case hw => w_witness2
  case hc =>
    refine J.walk_G (l := PySem.Challenge.rw_jointdraws_k01_errors) (n := 63) (k := 8) (x := "_law_script") rfl (by decide) (by kernel_rfl) ⟨rfl, by decide, by decide⟩ ?F
    intro w mg fa h Y G hmg0
    obtain ⟨K, KX, c⟩ := Y
    have hmg : mg ("law" : PySem.Str) = some (.ref fa) := by
      have e : (HandSHeadRun.topDef (OpenLaw.row PySem.Challenge.rw_jointdraws_k01_errors).prog 40).name = ("law" : PySem.Str) := by kernel_rfl
      rw [← e]
      exact hmg0
    obtain ⟨fd, hb, hF⟩ := K01.facts (P := (PySem.Challenge.rw_jointdraws_k01_errors).prog) (w := w) KX G hmg c
    exact ⟨K, fd, K01.spLaw K, KX, hb, fun H a ns hl _ hS => ⟨a, ns, rfl, hS, hl, fun _ => rfl⟩, hF⟩
#print axioms PySem.Challenge.cw_jointdraws_k01_errors_holds

