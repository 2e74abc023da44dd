import PyProof.Rows.All
import Wide.All
import OpenK.AllK
import Wide.FinOn
import KE.KIsAll
import KE.KExcIs
import KE.KTryMore
import KE.KStateDown
import HandS.ForMost
import HandS.ForExc
import HandS.Defaults
import HandS.Wide
import HandS.ExcInit
import HandS.ExcIs
import HandS.ExcField
import HandS.ClsMeth
import HandS.Head0
import HandS.Head1
import HandS.Head2
import HandS.HeadEnd
import HandS.HeadHook1
import HandS.HeadHook2
import HandS.Property
import HandS.MakeKw
import HandS.SlotsOwn
import KE.KCallOwn
import HandS.FStr
import HandS.Style
import HandS.Text
import HandS.IsInst
import PySem.Challenge.RW_jointdraws_k03_ratios_written
import KE.IntTextText
import KE.IntText
import HandS.Codes
set_option Elab.async false
set_option linter.all false
set_option maxRecDepth 100000
set_option maxHeartbeats 4000000
/-! J1: promises at given surroundings (so that it may be known that nothing is being shown), own errors as values, a law's draws. -/
namespace J
open PySem PySem.Spec PyProof.Rows L2

/-! ### a promise at the surroundings A -/
/-- at the surroundings A the def at f keeps the promise sp -/
structure FnAt (P : Program) (w : World) (K : PySem.W.Frag) (mg : Str → Option Value) (base : Heap) (CX : CXT) (A : Around) (f : Addr) (fd : FuncData) (ps : List Str) (sp : Sp) : Prop where
  len : ∀ vs H Q E, sp vs H Q E → vs.length = ps.length
  run : ∀ (outer : List Env) (s : Shared) (H : Hp) (args : Args) (us : List Value) (vs : List V) (Q : VK) (E : XK), Env0 P w K mg base A outer s H → BindsTo s fd args (ps.zip us) → Vals vs us → sp vs H Q E →
    codeAny (model P w) A (.call (.ref f) args) (CR CX outer P w H s Q E) s
/-- .. wherever there is room for k calls and nothing is being shown -/
def FnG (P : Program) (w : World) (K : PySem.W.Frag) (mg : Str → Option Value) (base : Heap) (CX : CXT) (k : Nat) (f : Addr) (fd : FuncData) (ps : List Str) (sp : Sp) : Prop :=
  ∀ A : Around, A.guards = some [] → Room k A → FnAt P w K mg base CX A f fd ps sp
section
variable {P : Program} {w : World} {K : PySem.W.Frag} {mg : Str → Option Value} {base : Heap} {CX : CXT} {j k : Nat} {A : Around} {f : Addr} {fd : FuncData} {ps : List Str} {sp sp' : Sp}
theorem at_of (F : FnOk P w K mg base CX k f fd ps sp) (hr : Room k A) : FnAt P w K mg base CX A f fd ps sp :=
  ⟨F.len, fun outer s H args us vs Q E => F.run A outer s H args us vs Q E hr⟩
theorem g_of (F : FnOk P w K mg base CX k f fd ps sp) : FnG P w K mg base CX k f fd ps sp := fun _ _ hr => at_of F hr
theorem FnG.mono (F : FnG P w K mg base CX j f fd ps sp) (h : j ≤ k) : FnG P w K mg base CX k f fd ps sp := fun A hg hr => F A hg (hr.mono h)

/-- a def by its body, at A -/
theorem fnAt_of {name qual : Str} {params : Arguments} {body : List Stmt} {scope : Scope} {dV kV doc pm cdv ct oc : Value} {an od : Option Addr} {osl : Array (Option Value)} {N : List Str}
    (lk : K.lookup f = some ⟨oc, od, .func (PySem.W.fnOf name qual params body scope dV kV doc pm an cdv ct), osl⟩) (hcd : PySem.W.codeIn K cdv qual = true) (S : FnScope N ps scope) (dep : A.depth < recursionLimit) (hh : A.handled = none)
    (len : ∀ vs H Q E, sp vs H Q E → vs.length = ps.length)
    (hbody : ∀ (outer : List Env) (s : Shared) (H : Hp) (vs : List V) (Q : VK) (E : XK), sp vs H Q E →
      ∃ t, PSs (cxOf CX P w K mg base N qual scope f cdv A outer s H E) body t ∧ t { nx := fun _ H' => Q .non H', rt := Q } (start N vs) H) :
    FnAt P w K mg base CX A f (PySem.W.fnOf name qual params body scope dV kV doc pm an cdv ct) ps sp := by
  constructor
  · exact len
  · intro outer s H args us vs Q E e0 hb hv hsp
    have inK : K.In s.heap := e0.mod.kin.keeps fun b o z => (e0.bs b o z).1
    have noL : s.heap.NoLimit := e0.mod.nolimit.keeps fun b o z => (e0.bs b o z).1
    have kinds : ∀ y ∈ ps.zip us, scope.names.lookup y.1 = some .local ∨ (scope.names.lookup y.1 = some .cell ∧ ((cellsFrom (s.heap.objs.size + 1) scope.names []).lookup y.1).isSome = true) := by
      intro y hy
      rcases S.par y.1 (List.of_mem_zip hy).1 with q | q
      · exact Or.inl q
      · exact Or.inr ⟨q, PySem.W.cellsFrom_some _ _ _ (Or.inl q)⟩
    refine codeAny_call_function dep (inK _ _ lk) rfl S.co S.gen rfl (PySem.W.codeRec_of inK hcd) (hb _ _ _ _ ?_)
    refine wpAny_newFunctionEnv_cells S.kind kinds fun env he s1 x => ?_
    subst he
    refine ⟨noL.keeps x.toInCall.keep, codeAny_func ?_⟩
    obtain ⟨t, ht, hq⟩ := hbody outer s H vs Q E hsp
    have I : Inv (cxOf CX P w K mg base N qual scope f cdv A outer s H E) [] (start N vs) H s1 := inv_start S hh e0 (len _ _ _ _ hsp) hv x
    refine wpAny_mono (ht.run [] s1 (start N vs) H _ I hq) (fun fl s' hs => ?_) fun e s' hs => hs
    match fl, hs with
    | .ret u, ⟨v, σ', H', J, rv, q⟩ => exact ⟨v, H', J.os, J.bare, J.base, J.hok, rv, q⟩
    | .next, ⟨σ', H', J, q⟩ => exact ⟨V.non, H', J.os, J.bare, J.base, J.hok, rfl, q⟩
    | .brk, ⟨_, _, _, q⟩ => exact q.elim
    | .cont, ⟨_, _, _, q⟩ => exact q.elim
/-- .. of a def that stands behind the top -/
theorem fnG_of {x qual : Str} {params : Arguments} {body : List Stmt} {scope : Scope} {dvs : List V} {kws : List (Str × V)} {N : List Str} (F : FunD K x qual params body scope dvs kws f fd) (S : FnScope N ps scope) (len : ∀ vs H Q E, sp vs H Q E → vs.length = ps.length)
    (hbody : ∀ (cdv : Value) (A : Around) (outer : List Env) (s : Shared) (H : Hp) (vs : List V) (Q : VK) (E : XK), A.guards = some [] → Room k (A.deeper (envOfC qual scope s.heap.objs.size f cdv)) → sp vs H Q E →
      ∃ t, PSs (cxOf CX P w K mg base N qual scope f cdv A outer s H E) body t ∧ t { nx := fun _ H' => Q .non H', rt := Q } (start N vs) H) : FnG P w K mg base CX (k + 1) f fd ps sp := by
  intro A hg hr
  obtain ⟨oc, od, dV, kV, doc, pm, an, cdv, ct, osl, rfl, lk, hcd, _, _⟩ := F.ex
  exact fnAt_of lk hcd S hr.depth hr.hd len fun outer s H vs Q E hsp => hbody cdv A outer s H vs Q E hg (hr.deeper _) hsp
end

section
variable {X : Cx} {CX : CXT} {k : Nat} {f C : Addr} {fd : FuncData} {ps : List Str} {sp : Sp} {dvs : List V} {ds : List Value} {E : XK} {x m : Str} {p pos apos : Pos} {e o : Expr} {es : List Expr} {ta : TE} {t : TA}
theorem run_at {pins : List (Addr × Obj)} {σ : L2.St} {H : Hp} {s : Shared} {Q : VK} {us : List Value} {vs : List V} (F : FnAt X.prog X.w X.K X.mg X.base CX X.A f fd ps sp) (hb : Binds X.K fd ps ds) (hd : Vals dvs ds) (hx : Passes CX X E)
    (I : Inv X pins σ H s) (r : Vals vs us) (h : sp (vs ++ dvs) H Q E) : wpAny (model X.prog X.w) X.A (call (.ref f) us) (EP X pins σ Q) X.xe s := by
  have rr : Vals (vs ++ dvs) (us ++ ds) := r.append hd
  have ll : (us ++ ds).length = ps.length := by rw [← rr.length]; exact F.len _ _ _ _ h
  refine wpAny_call (codeAny_mono (F.run X.stack s H ⟨us, []⟩ (us ++ ds) (vs ++ dvs) Q E I.env0 (hb s us I.kIn ll) rr h) fun z s' hz => ?_)
  match z, hz with
  | .error e, hz => exact hx pins σ H s e s' I hz
  | .ok (.ret u), hz => exact I.after hz
  | .ok .next, hz => exact hz.elim
  | .ok .brk, hz => exact hz.elim
  | .ok .cont, hz => exact hz.elim
/-- f(e, ..), f's promise at these surroundings -/
theorem pe_callA (F : FnAt X.prog X.w X.K X.mg X.base CX X.A f fd ps sp) (hg : Gl X x) (hm : X.mg x = some (.ref f)) (hk : PySem.W.keepIn X.K (.ref f) = true) (hb : Binds X.K fd ps ds) (hd : Vals dvs ds) (hx : Passes CX X E)
    (ha : PA X (e :: es) t) (hdb : (x == ("__debug__" : Str)) = false := by decide) (he : starEach (e :: es) X.env = (false, eval e X.env) :: starEach es X.env := by rfl) (hpl : (backTo pos (starEach es X.env)).any (·.1) = false := by rfl) :
    PE X (.Call (.Name x p) (e :: es) [] pos) (tCall sp dvs E t) := by
  constructor
  intro pins s σ H Q I h
  refine wpAny_Call_Name_kw (ld_glob I hg hm ?_ hdb)
  exact PySem.W.callWith_K (h₀ := X.base) I.ok.mod.kin hk (thn (ha.run pos pins s σ H _ I h) fun us s1 ⟨vs, H1, I1, r, q⟩ => ⟨I1.kIn, run_at F hb hd hx I1 r q⟩) he hpl
/-- f() -/
theorem pe_callA0 (F : FnAt X.prog X.w X.K X.mg X.base CX X.A f fd ps sp) (hg : Gl X x) (hm : X.mg x = some (.ref f)) (hk : PySem.W.keepIn X.K (.ref f) = true) (hb : Binds X.K fd ps ds) (hd : Vals dvs ds) (hx : Passes CX X E)
    (hdb : (x == ("__debug__" : Str)) = false := by decide) : PE X (.Call (.Name x p) [] [] pos) (tCall sp dvs E tNil) := by
  constructor
  intro pins s σ H Q I h
  refine wpAny_Call_Name_kw (ld_glob I hg hm ?_ hdb)
  exact PySem.W.callWith_K0 I.kIn hk (run_at (us := []) F hb hd hx I .nil h)
end

/-! ### own errors -/
/-- what of DrawError's class is asked where its __init__ is read off it -/
structure DErr (K : PySem.W.Frag) (mg : Str → Option Value) (D : Addr) : Prop where
  gD : mg "DrawError" = some (.ref D)
  rd : PySem.W.readsIn K D (.type "type") = true
  ga : PySem.W.specialIn K (.ref D) "__getattribute__" = some (some (.builtin "type.__getattribute__"))
  ini : PySem.W.findCls K (.ref D) (.type "type") "__init__" = some (.val (.builtin "ValueError.__init__"))
/-- a method's call whose name and brackets stand on one row -/
theorem meth_row {o : Expr} {name : Str} {apos pos : Pos} {args : List Expr} {env : Env} (hb : attributeBase o name env (eval o env) = eval o env) (hf : methodCallForm (args.length + 0) (backTo pos (starEach args env)) (backToKw pos (keywordEach [] env)) = true)
    (hl : (apos.endLine == pos.line) = true) : eval (.Call (.Attribute o name apos) args [] pos) env = (do
      let ov ← eval o env
      standAt apos.atName
      let (f, first) ← holding [ov] (getMethod ov name (do return (← importBound o env).getD true))
      callWith pos f first (backTo pos (starEach args env)) (backToKw pos (keywordEach [] env))) := by
  show (do
    let ov ← attributeBase o name env (eval o env)
    standAt apos.atName
    methodCall o name apos pos env ov (args.length + 0) (backTo pos (starEach args env)) (backToKw pos (keywordEach [] env))) = _
  rw [hb]
  unfold methodCall calleeOf methodCallPos
  rw [hf]
  simp only [hl, if_true, Bool.not_true, Bool.false_or, pure_bind]
section
variable {X : Cx} {D : Addr} {e : Expr} {es : List Expr} {ta : TA} {p1 p2 pos : Pos}
/-- DrawError.__init__(self, ..) -/
theorem pe_dinit {pl : Sem Bool} (T : DErr X.K X.mg D) (hg : Gl X "DrawError") (ha : PA X (e :: es) ta)
    (hc : eval (.Call (.Attribute (.Name "DrawError" p1) "__init__" p2) (e :: es) [] pos) X.env = (do
      let ov ← eval (.Name "DrawError" p1) X.env
      standAt p2.atName
      let (f, first) ← holding [ov] (getMethod ov "__init__" pl)
      callWith pos f first (backTo pos (starEach (e :: es) X.env)) (backToKw pos (keywordEach [] X.env))) := by rfl)
    (he : starEach (e :: es) X.env = (false, eval e X.env) :: starEach es X.env := by rfl) (hpl : (backTo pos (starEach es X.env)).any (·.1) = false := by rfl) :
    PE X (.Call (.Attribute (.Name "DrawError" p1) "__init__" p2) (e :: es) [] pos) (tVeI X.K ta) := by
  constructor
  intro pins s σ H Q I h
  refine PySem.W.methodCall_KW (ld_glob I hg T.gD ?_ (by decide)) hc
  refine PySem.W.method_cls I.kIn T.ga (PySem.W.cls_value I.kIn T.rd T.ini (by rfl) ?_)
  show wpAny _ _ (callWith pos (Value.builtin "ValueError.__init__") [] (backTo pos (starEach (e :: es) X.env)) []) _ _ _
  refine PyProof.Rows.callWith_method1 (thn (ha.run pos pins _ σ H _ (I.tok _) h) fun us s1 ⟨vs, H1, I1, r1, hh⟩ => ?_) he hpl
  obtain ⟨a, C, ws, rfl, hl, T', ea, q⟩ := hh
  cases r1 with
  | cons ra rw' =>
    cases ra
    exact oinit_ok T' I1 ea (by rw [← Paired.length rw', sizeLine_eq]; omega) fun s' J => ⟨.non, H1, J, rfl, q⟩
end

/-- the body of an error's __init__ with one value, and with none -/
abbrev errBody (msg fld : Str) (p1 p2 p3 p4 p5 p6 p7 p8 p9 p10 : Pos) (k : Nat) : List Stmt :=
  [.Expr (.Call (.Attribute (.Name "DrawError" p1) "__init__" p2) [.Name "self" p3, .Constant (.str msg) k p4] [] p5) p6,
   .Assign [.Attribute (.Name "self" p7) fld p8] (.Name fld p9) p10]
abbrev errBody0 (msg : Str) (p1 p2 p3 p4 p5 p6 : Pos) (k : Nat) : List Stmt :=
  [.Expr (.Call (.Attribute (.Name "DrawError" p1) "__init__" p2) [.Name "self" p3, .Constant (.str msg) k p4] [] p5) p6]
/-- its promise: behind it the value stands in the error's own dict -/
def spErr (K : PySem.W.Frag) (C : Addr) (fld : Str) : Sp := fun vs H Q _ => ∃ (a : Addr) (v : V), vs = [.ref a, v] ∧ H a = some (exo a C none) ∧
  ∀ d, H d = none → d ≠ a → Q .non (upd (upd H d (exd d [(fld, v)])) a (exo a C (some d)))
def spErr0 (C : Addr) : Sp := fun vs H Q _ => ∃ a : Addr, vs = [.ref a] ∧ H a = some (exo a C none) ∧ Q .non H
/-- the scope of such an __init__ -/
def scErr (fld : Str) : Scope := { kind := .function, names := [(Str.ofString "self", .local), (fld, .local), (Str.ofString "DrawError", .globalImplicit)], isGenerator := false, isCoroutine := false, more := [] }
def scErr0 : Scope := { kind := .function, names := [(Str.ofString "self", .local), (Str.ofString "DrawError", .globalImplicit)], isGenerator := false, isCoroutine := false, more := [] }
theorem scErr_ok {fld : Str} (h : (fld == ("self" : Str)) = false) : FnScope ["self", fld] ["self", fld] (scErr fld) := by
  have h2 : fld ≠ ("self" : Str) := beq_eq_false_iff_ne.mp h
  refine ⟨rfl, rfl, rfl, ?_, rfl, fun y hy => ?_, fun y hy => ?_⟩
  · exact List.nodup_cons.mpr ⟨by simpa using fun e => h2 e.symm, by simp⟩
  · simp only [List.mem_cons, List.not_mem_nil, or_false] at hy
    rcases hy with e | e
    · exact .inl (by rw [e]; rfl)
    · exact .inl (by subst e; simp only [scErr, List.lookup, h, beq_self_eq_true])
  · simp only [scErr, List.mem_cons, List.not_mem_nil, or_false] at hy
    rcases hy with e | e | e <;> (rw [e]; intro z; cases z)
theorem scErr0_ok : FnScope ["self"] ["self"] scErr0 := ⟨rfl, rfl, rfl, by decide +kernel, rfl, by decide +kernel, by decide +kernel⟩
section
variable {CX : CXT} {P : Program} {w : World} {K : PySem.W.Frag} {mg : Str → Option Value} {base : Heap} {f C D : Addr} {fd : FuncData} {x qual : Str} {pa : Arguments} {bd : List Stmt} {sc : Scope} {msg fld : Str} {p1 p2 p3 p4 p5 p6 p7 p8 p9 p10 : Pos} {kk : Nat}
theorem ok_err (F : FunD K x qual pa bd sc [] [] f fd) (hb : bd = errBody msg fld p1 p2 p3 p4 p5 p6 p7 p8 p9 p10 kk) (hs : sc = scErr fld) (hself : (fld == ("self" : Str)) = false) (hdr : (("DrawError" : Str) == fld) = false)
    (hl : (p2.endLine == p5.line) = true) (hd : (fld == ("__debug__" : Str)) = false) (hcd : (fld == ("__classdict__" : Str)) = false)
    (T : DErr K mg D) (O : OexC K C) (hno : PySem.W.findIn K (.ref C) fld = some none) : FnOk P w K mg base CX 1 f fd ["self", fld] (spErr K C fld) := by
  subst hs
  have hg : (scErr fld).names.lookup ("DrawError" : Str) = some .globalImplicit := by
    simp only [scErr, List.lookup, hdr]
    rfl
  have h1 : (scErr fld).names.lookup fld = some .local := by simp only [scErr, List.lookup, hself, beq_self_eq_true]
  refine F.ok (scErr_ok hself) (fun vs H Q E h => ?_) (fun cdv A outer s H vs Q E hr h => ?_)
  · obtain ⟨a, v, rfl, _⟩ := h
    rfl
  · obtain ⟨a, v, rfl, ha, k⟩ := h
    rw [hb]
    refine ⟨_, pss_cons (ps_expr (pe_dinit T hg (pa_cons (pe_var (i := 0) rfl (Or.inl rfl)) (pa_cons pe_str pa_nil)) (meth_row rfl rfl hl)))
      (pss_one (ps_ost (pe_var (i := 0) rfl (Or.inl rfl)) (pe_var (i := 1) rfl (Or.inl h1) hd hcd))), ?_⟩
    refine ⟨_, rfl, a, C, _, rfl, (by show 1 ≤ 1000; decide), O, ha, ?_⟩
    exact ⟨_, rfl, _, rfl, a, C, rfl, O, hno, Or.inl ⟨ha, k⟩⟩
theorem ok_err0 (F : FunD K x qual pa bd sc [] [] f fd) (hb : bd = errBody0 msg p1 p2 p3 p4 p5 p6 kk) (hs : sc = scErr0) (hl : (p2.endLine == p5.line) = true) (T : DErr K mg D) (O : OexC K C) : FnOk P w K mg base CX 1 f fd ["self"] (spErr0 C) := by
  subst hs
  refine F.ok scErr0_ok (fun vs H Q E h => ?_) (fun cdv A outer s H vs Q E hr h => ?_)
  · obtain ⟨a, rfl, _⟩ := h
    rfl
  · obtain ⟨a, rfl, ha, k⟩ := h
    rw [hb]
    refine ⟨_, pss_one (ps_expr (pe_dinit T rfl (pa_cons (pe_var (i := 0) rfl (Or.inl rfl)) (pa_cons pe_str pa_nil)) (meth_row rfl rfl hl))), ?_⟩
    exact ⟨_, rfl, a, C, _, rfl, (by show 1 ≤ 1000; decide), O, ha, k⟩
end
end J

set_option Elab.async false
set_option linter.all false
set_option maxRecDepth 100000
set_option maxHeartbeats 4000000
/-! J2: repr of data, own errors as values, isinstance, a field of an error that is held as a value. -/
namespace J
open PySem PySem.Spec PyProof.Rows L2

/-! ### repr -/
def kD : Key → PyData
  | .inl i => .int i
  | .inr x => .str x
/-- a plain value as data -/
def sD : V → PyData
  | .bl b => .bool b
  | .int i => .int i
  | .str x => .str x
  | _ => .none
def isS : V → Bool
  | .non => true
  | .bl _ => true
  | .int _ => true
  | .str _ => true
  | _ => false
theorem sD_reads {h : Heap} {v : V} {u : Value} (r : RelV v u) (hs : isS v = true) : Reads h u (sD v) [] := by
  cases v with
  | non => cases r; exact Reads.none
  | bl b => cases r; exact Reads.bool b
  | int i => obtain ⟨t, rfl⟩ := r; exact Reads.int i t
  | str x => obtain ⟨t, rfl⟩ := r; exact Reads.str x t
  | _ => cases hs
theorem kD_reads {P : Program} {w : World} {h : Heap} {k : Key} {u : Value} (r : (mixKind P w).is k u = true) : Reads h u (kD k) [] := by
  rcases keyIs_shape r with ⟨i, t, rfl, rfl⟩ | ⟨x, t, rfl, rfl⟩
  · exact Reads.int i t
  · exact Reads.str x t
theorem pairs_reads {P : Program} {w : World} {h : Heap} : ∀ {es : List DictEntry} {vs : List (Key × Value)} {kvs : List (Key × V)}, Pairs (mixKind P w) es vs → KV kvs vs → (∀ p ∈ kvs, isS p.2 = true) →
    ReadsAll h (es.map (·.key)) (kvs.map fun p => kD p.1) [] ∧ ReadsAll h (es.map (·.val)) (kvs.map fun p => sD p.2) []
  | _, _, _, .nil, .nil, _ => ⟨ReadsAll.nil, ReadsAll.nil⟩
  | _, _, _, .cons (kv := kv) h1 h2 hp, .cons (a := p) r rr, hs => by
    obtain ⟨i1, i2⟩ := pairs_reads (h := h) hp rr fun q hq => hs q (List.mem_cons_of_mem _ hq)
    refine ⟨?_, ?_⟩
    · have e : p.1 = kv.1 := r.1
      exact ReadsAll.cons (as := []) (by show Reads h _ (kD p.1) []; rw [e]; exact kD_reads h1) i1
    · have rv := r.2
      rw [← h2] at rv
      exact ReadsAll.cons (as := []) (sD_reads rv (hs p List.mem_cons_self)) i2
def dictD (kvs : List (Key × V)) : PyData := .dict (kvs.map fun p => (kD p.1, sD p.2))
section
variable {X : Cx}
/-- repr of data that is tracked: no dict in it, or a dict of plain values; where nothing is being shown -/
def rRepr (K : PySem.W.Frag) : List V → Hp → VK → Prop := fun xs H Q => ∃ (v : V) (d : PyData), xs = [v] ∧ ((Dp K H v d ∧ d.hasDict = false) ∨ ∃ (a : Addr) (kvs : List (Key × V)), v = .ref a ∧ H a = some (.dK kvs) ∧ (∀ p ∈ kvs, isS p.2 = true) ∧ d = dictD kvs) ∧
  d.showable = true ∧ d.depth ≤ 40 ∧ d.shown.length ≤ sizeLine ∧ Q (.str d.shown) H
theorem call_repr (hg : X.A.guards = some []) (hu : X.A.units + 60 < cLine) : CallR X (.builtin "repr") (rRepr X.K) := by
  intro pins s σ H xs us Q I r h
  obtain ⟨v, d, rfl, hd, h1, h3, h4, q⟩ := h
  obtain ⟨u, rfl, rx⟩ := vals1 r
  rcases hd with ⟨hd, h2⟩ | ⟨a, kvs, rfl, ha, hs, rfl⟩
  · cases hd with
    | non =>
      cases rx
      exact PySem.P.repr_of_none ⟨.str _, H, I.tok _, ⟨_, rfl⟩, q⟩
    | bl b =>
      cases rx
      cases b <;> exact PySem.P.repr_of_bool ⟨.str _, H, I.tok _, ⟨_, rfl⟩, q⟩
    | int i =>
      obtain ⟨t, rfl⟩ := rx
      exact PySem.P.repr_of_int (by simpa [PyData.showable] using h1) ⟨.str _, H, I.tok _, ⟨_, rfl⟩, q⟩
    | str x =>
      obtain ⟨t, rfl⟩ := rx
      exact PySem.P.repr_of_str ⟨.str _, H, I.tok _, ⟨_, rfl⟩, q⟩ h4
    | lst hs ha =>
      cases rx
      obtain ⟨as, rd⟩ := Dp.reads I _ _ _ (.lst hs ha) rfl
      exact repr_of_reads' rd h1 (fun z => by rw [h2] at z; cases z) hg (by omega) (fun _ _ z => z) (fun h' u tk k => ⟨.str _, H, I.kept k, ⟨_, rfl⟩, q⟩) h4
    | tup hs ha =>
      cases rx
      obtain ⟨as, rd⟩ := Dp.reads I _ _ _ (.tup hs ha) rfl
      exact repr_of_reads' rd h1 (fun z => by rw [h2] at z; cases z) hg (by omega) (fun _ _ z => z) (fun h' u tk k => ⟨.str _, H, I.kept k, ⟨_, rfl⟩, q⟩) h4
  · cases rx
    obtain ⟨_, hsys, vs, rkv, o, es, ep, ho, hex, hda, _, hp, _⟩ : kvs.length ≤ sizeLine ∧ (a == sysModules) = false ∧ ∃ vs, KV kvs vs ∧ s.heap.DictOf (mixKind X.prog X.w) a vs := I.hok a _ ha
    obtain ⟨k1, k2⟩ := pairs_reads (h := s.heap) hp rkv hs
    have rd : Reads s.heap (.ref a) (dictD kvs) (a :: [] ++ []) := by
      refine Reads.dict ho hex.1 hda ?_ ?_
      · rw [List.map_map]; exact k1
      · rw [List.map_map]; exact k2
    refine repr_of_reads' rd h1 (fun _ hm => ?_) hg (by omega) (fun _ _ z => z) (fun h' u tk k => ⟨.str _, H, I.kept k, ⟨_, rfl⟩, q⟩) h4
    have e : sysModules = a := by simpa using hm
    rw [e] at hsys
    simp at hsys
end

/-! ### isinstance of an error that is held as a value -/
/-- at e stands an error of the class at C, its own dict at d -/
def ErrO (H : Hp) (e C : Addr) : Prop := ∃ d : Option Addr, H e = some (exo e C d) ∧ ∀ dd, d = some dd → ∃ fs, H dd = some (exd dd fs)
def ErrF (H : Hp) (e C : Addr) (f : Str) (v : V) : Prop := ∃ d : Addr, H e = some (exo e C (some d)) ∧ H d = some (exd d [(f, v)])
theorem ErrF.o {H : Hp} {e C : Addr} {f : Str} {v : V} (h : ErrF H e C f v) : ErrO H e C := by
  obtain ⟨d, h1, h2⟩ := h
  exact ⟨some d, h1, fun dd q => by cases q; exact ⟨_, h2⟩⟩
theorem ErrF.ext {H H' : Hp} {e C : Addr} {f : Str} {v : V} (h : ErrF H e C f v) (k : Same H H') : ErrF H' e C f v := by
  obtain ⟨d, h1, h2⟩ := h
  exact ⟨d, k _ _ h1, k _ _ h2⟩
theorem ErrO.ext {H H' : Hp} {e C : Addr} (h : ErrO H e C) (k : Same H H') : ErrO H' e C := by
  obtain ⟨d, h1, h2⟩ := h
  exact ⟨d, k _ _ h1, fun dd q => let ⟨fs, z⟩ := h2 dd q; ⟨fs, k _ _ z⟩⟩
section
variable {X : Cx} {pins : List (Addr × Obj)} {σ : L2.St} {H : Hp} {s : Shared} {e C : Addr}
theorem err_inst (I : Inv X pins σ H s) (h : ErrO H e C) : ∃ ox od, PySem.W.InstAt s.heap e ox C od := by
  obtain ⟨d, h1, h2⟩ := h
  obtain ⟨t1, ho⟩ := exo_at I.hok h1
  cases d with
  | none => exact ⟨_, none, ho, rfl, rfl, trivial⟩
  | some dd =>
    obtain ⟨fs, h3⟩ := h2 dd rfl
    obtain ⟨mA, ⟨o, es, ep, hod, _⟩, _⟩ := exd_at I.hok h3
    exact ⟨_, some o, ho, rfl, rfl, hod⟩
/-- isinstance(e, c): e an error, c a class -/
def rIsX (K : PySem.W.Frag) : List V → Hp → VK → Prop := fun xs H Q => ∃ (e C : Addr) (c : V) (cv : Value) (b : Bool), xs = [.ref e, c] ∧ ErrO H e C ∧ ExcC K C ∧ (∀ u, RelV c u → u = cv) ∧ PySem.W.kitOne K (.ref C) cv = some b ∧ Q (.bl b) H
theorem call_isX : CallR X (.builtin "isinstance") (rIsX X.K) := by
  intro pins s σ H xs us Q I r h
  obtain ⟨e, C, c, cv, b, rfl, he, T, hcv, hb, q⟩ := h
  obtain ⟨u1, u2, rfl, r1, r2⟩ := vals2 r
  cases r1
  cases hcv _ r2
  obtain ⟨ox, od, J⟩ := err_inst I he
  have hcl : (PySem.W.clsIn X.K C).isSome = true := by
    obtain ⟨cd, hc, _⟩ := PySem.W.any_some T.hd
    rw [hc]
    rfl
  exact PySem.W.kia_one (PySem.W.kitx_exc hcl T.hg T.hk T.hs T.ha T.hn T.ht T.hm) I.kIn J hb (fun z => nomatch z) fun tk => ⟨.bl b, H, I.tok tk, rfl, q⟩
/-- e.f: e an error -/
def tErrF (K : PySem.W.Frag) (ta : TE) (f : Str) : TE := fun σ H Q => ta σ H fun x H1 => ∃ (e C : Addr) (v : V), x = .ref e ∧ ErrF H1 e C f v ∧ XfC K C ∧ PySem.W.findIn K (.ref C) f = some none ∧ Q v H1
theorem pe_errF {ex : Expr} {te : TE} {f : Str} {pos : Pos} (he : PE X ex te) (hb : attributeBase ex f X.env (eval ex X.env) = eval ex X.env := by rfl) : PE X (.Attribute ex f pos) (tErrF X.K te f) := by
  constructor
  intro pins s σ H Q I h
  refine attr_of hb (thn (he.run pins s σ H _ I h) fun u s1 ⟨x, H1, I1, r1, hh⟩ => ?_)
  obtain ⟨e, C, v, rfl, ⟨d, h1, h2⟩, T, hno, q⟩ := hh
  cases r1
  obtain ⟨t1, ho⟩ := exo_at I1.hok h1
  obtain ⟨mA, hns, hr⟩ := exd_at I1.hok h2
  obtain ⟨od, hod, hl⟩ := lookIn_ns hns
  obtain ⟨u, hu, ru⟩ := RelO.some_of (v := v) (o := mA f) (by have z := hr f; simpa [List.lookup] using z)
  have J : PySem.W.InstAt s1.heap e _ C (some od) := ⟨ho, rfl, rfl, hod⟩
  exact HandSPX.exc_get I1.kIn J T.ga T.gg T.exC (PySem.W.findObj_own T.hdC hno rfl (by rw [hl, hu])) (handed_of ru) ⟨v, H1, I1.tok _, ru, q⟩
end
end J

set_option Elab.async false
set_option linter.all false
set_option maxRecDepth 100000
set_option maxHeartbeats 4000000
/-! J3: own errors made as values, by position and by name. -/
namespace PySem
namespace HandSPX
section
variable {M : Model} {A : Around} {E : Value → Shared → Prop} {h : Heap} {g : Array GenState} {d : Drawn} {t : Nat} {os : OsState}
variable {nm q : Str} {C N : Addr} {bs bm bmB : List Value} {hdct : Bool} {sn : List Str} {sub : List Value} {ab : Bool} {col : Option Bool} {dd : Option Addr} {k0 k1 k2 k3 k5 : Option Value} {B newId initId : String} {kw : List (Str × Value)}
theorem kwj_check (F : ExcBaseFacts B newId initId bmB) (hT : ∀ X : String, bm.contains (.type X) = bmB.contains (.type X)) {rest : List Value} {Q : Unit → Shared → Prop}
    (hC : h.get? C = some (excClassObj nm q C N bs bm hdct sn sub ab col dd k0 k1 k2 k3 k5 newId)) (hq : Q () ⟨h, g, d, t, os⟩) : wpAny M A (checkBuiltinCall newId ⟨.ref C :: rest, kw⟩) Q E ⟨h, g, d, t, os⟩ := by
  have has : (Value.ref C :: bm).contains (.type B) = true := by rw [List.contains_cons, hT, F.hasB, Bool.or_true]
  have hst := F.noStar
  simp only [checkBuiltinCall, F.newKind, F.newSplit, F.newRow]
  repeat (first | refine wpAny_loadPart_at hC ?_ | (refine wpAny_isSubtype_exc hC ?_; rw [has]) | refine wpAny_staticBase_exc hC ?_ | refine wpAny_madeBy_exc hC ?_ | simp only [bne_self_eq_false, Bool.false_eq_true, if_false] | wp_step)
  exact hq
end
section
variable {prog : Program} {w : World} {A : Around} {E : Value → Shared → Prop} {R : Result → Shared → Prop} {h : Heap} {g : Array GenState} {d : Drawn} {t : Nat} {os : OsState}
variable {nm q : Str} {C N : Addr} {bs bm bmB : List Value} {hdct : Bool} {sn : List Str} {sub : List Value} {ab : Bool} {col : Option Bool} {dd : Option Addr} {k0 k1 k2 k3 k5 : Option Value} {B newId initId : String} {kw : List (Str × Value)}
theorem kwj_new (F : ExcBaseFacts B newId initId bmB) (hT : ∀ X : String, bm.contains (.type X) = bmB.contains (.type X)) {rest : List Value}
    (hC : h.get? C = some (excClassObj nm q C N bs bm hdct sn sub ab col dd k0 k1 k2 k3 k5 newId))
    (hq : R (.ok (.ret (.ref (h.objs.size + 1)))) ⟨(h.push (W.kdv_tup rest)).push (excO C h.objs.size), g, d, t, os⟩) (hrest : rest.length ≤ sizeLine) :
    codeAny (model prog w) A (.builtin newId ⟨.ref C :: rest, kw⟩) R ⟨h, g, d, t, os⟩ := by
  have ends := F.ends
  have hB : (Value.ref C :: bm).contains (.type B) = true := by rw [List.contains_cons, hT, F.hasB, Bool.or_true]
  have hA : (Value.ref C :: bm).contains (.type "AttributeError") = false := by rw [List.contains_cons, hT, F.noAttr]; rfl
  have hN : (Value.ref C :: bm).contains (.type "NameError") = false := by rw [List.contains_cons, hT, F.noName]; rfl
  refine codeAny_builtinAt F.entry ?_
  unfold Builtin.«BaseException.__new__»
  refine wpAt_bind ?_
  show wpAt _ _ _ (stack >>= _) _ _ _
  refine wpAt_bind (wpAt_stack fun p below => wpAt_of_wpAny ?_)
  wp_walk
  refine wpAt_of_wpAny ?_
  rw [F.owner]
  repeat (first | with_reducible refine wpAny_madeHere_exc F.canon hC ?_ | with_reducible refine wpAny_loadPart_at hC ?_ | (with_reducible refine wpAny_isSubtype_exc hC ?_; first | rw [hB] | rw [hA] | rw [hN]) | wp_step)
  show R _ _
  rw [Heap.size_push]
  exact hq
theorem kwj_type_call (F : ExcBaseFacts B newId initId bmB) (hT : ∀ X : String, bm.contains (.type X) = bmB.contains (.type X)) {rest : List Value} {fI : Addr} {Q : Fin → Shared → Prop}
    (hC : h.get? C = some (excClassObj nm q C N bs bm hdct sn sub ab col dd k0 k1 k2 k3 k5 newId))
    (hi : W.Looks (model prog w) h (typeLookup (.ref C) "__init__") (some (.ref fI))) (hb : ∀ self, W.Looks (model prog w) h (bindSpecial (.ref fI) self) (.ref fI, [self])) (hrest : rest.length ≤ sizeLine)
    (hq : codeAny (model prog w) A (.call (.ref fI) ⟨.ref (h.objs.size + 1) :: rest, kw⟩)
      (fun r s' => match r with | .ok (.ret v) => v = .none ∧ Q (.done (.ret (.ref (h.objs.size + 1)))) s' | .ok _ => False | .error e => E e s')
      ⟨(h.push (W.kdv_tup rest)).push (excO C h.objs.size), g, d, t, os⟩) :
    wpAny (model prog w) A (Builtin.«type.__call__» ⟨.ref C :: rest, kw⟩) Q E ⟨h, g, d, t, os⟩ := by
  repeat (first | with_reducible refine wpAny_loadPart_at hC ?_ | with_reducible refine wpAny_madeBy_exc hC ?_ | wp_step)
  refine codeAny_call_builtin_code (Code.quiet_builtin _ F.quiet) (kwj_check F hT hC ?_)
  refine kwj_new F hT hC ?_ hrest
  show wpAny _ _ _ _ _ _
  have k : ∀ b o, h.get? b = some o → ((h.push (W.kdv_tup rest)).push (excO C h.objs.size)).get? b = some o := fun b o e => Heap.get?_push_of_some _ (Heap.get?_push_of_some _ e)
  have hC2 := k _ _ hC
  have got : ((h.push (W.kdv_tup rest)).push (excO C h.objs.size)).get? (h.objs.size + 1) = some (excO C h.objs.size) := by heap_get
  have hcC : (Value.ref C :: bm).contains (.ref C) = true := by simp
  have i1 := hi.keeps k
  have b1 := (hb (.ref (h.objs.size + 1))).keeps k
  unfold isInstance
  repeat (first | with_reducible refine wpAny_loadPart_at got ?_ | (with_reducible refine wpAny_isSubtype_exc hC2 ?_; rw [hcC]) | wp_step)
  show wpAny _ _ (typeLookup (.ref C) _) _ _ _
  refine i1.at ?_
  refine wpAny_holding (wpAny_bind (b1.at ?_))
  refine wpAny_bind (wpAny_call (codeAny_mono hq fun r s' z => ?_))
  rcases r with e | (v | _ | _ | _) <;> first | exact z | exact z.elim | skip
  obtain ⟨rfl, z⟩ := z
  first
    | exact wpAny_pure (wpAny_pure z)
    | (wp_walk; exact z)
theorem kwj_call (F : ExcBaseFacts B newId initId bmB) (hT : ∀ X : String, bm.contains (.type X) = bmB.contains (.type X)) {rest : List Value} {fI : Addr}
    (hC : h.get? C = some (excClassObj nm q C N bs bm hdct sn sub ab col dd k0 k1 k2 k3 k5 newId))
    (hi : W.Looks (model prog w) h (typeLookup (.ref C) "__init__") (some (.ref fI))) (hb : ∀ self, W.Looks (model prog w) h (bindSpecial (.ref fI) self) (.ref fI, [self])) (hrest : rest.length ≤ sizeLine)
    (hq : codeAny (model prog w) (A.under (.builtin "type.__call__" ⟨.ref C :: rest, kw⟩)) (.call (.ref fI) ⟨.ref (h.objs.size + 1) :: rest, kw⟩) (W.InitBack (h.objs.size + 1) R)
      ⟨(h.push (W.kdv_tup rest)).push (excO C h.objs.size), g, d, t, os⟩) :
    codeAny (model prog w) A (.call (.ref C) ⟨rest, kw⟩) R ⟨h, g, d, t, os⟩ := by
  have f1 := tc_lookup
  have f2 := tc_bind (.ref C)
  have hTy : (⟨h, g, d, t, os⟩ : Shared).TypeIs (.ref C) "type" := ⟨_, hC, rfl⟩
  refine codeAny_of_tree ?_
  show wpAny _ _ (callAny (.ref C) _) _ _ _
  repeat (any_goals (first | assumption | with_reducible refine wpAny_loadPart_at hC ?_ | wp_step))
  refine ⟨rfl, ?_⟩
  refine codeAny_call_builtin_at (Code.quiet_builtin _ (by decide +kernel)) entry_typeCall (wpAny_check_type_call_sub hC (kwj_type_call F hT hC hi hb hrest ?_))
  refine codeAny_mono hq fun r s' z => ?_
  rcases r with e | (v | _ | _ | _) <;> exact z
end
end HandSPX
end PySem
namespace J
open PySem PySem.Spec PyProof.Rows L2
/-- what K says of an own error class C and of its __init__ at fI -/
structure ErrC (K : PySem.W.Frag) (C fI : Addr) : Prop where
  oex : OexC K C
  ini : PySem.W.findIn K (.ref C) "__init__" = some (some (.ref fI))
  fn : PySem.W.typeIn K (.ref fI) = some (.type "function")
/-- C(..) by its __init__'s promise: a new error -/
def tErr (C : Addr) (sp : Sp) (ta : TA) : TE := fun σ H Q => ta σ H fun vs H1 => vs.length ≤ 1000 ∧ ∀ a, H1 a = none → sp (.ref a :: vs) (upd H1 a (exo a C none)) (fun v H2 => v = .non ∧ Q (.ref a) H2) E0
/-- C(f = e) -/
def tErrK (C : Addr) (sp : Sp) (te : TE) : TE := fun σ H Q => tCons te tNil σ H fun vs H1 => ∃ v, vs = [v] ∧ ∀ a, H1 a = none → sp [.ref a, v] (upd H1 a (exo a C none)) (fun v H2 => v = .non ∧ Q (.ref a) H2) E0
section
variable {X : Cx} {C fI : Addr} {k : Nat} {fd : FuncData} {ps : List Str} {sp : Sp} {x : Str} {p pos kp : Pos} {e : Expr} {es : List Expr} {ta : TA} {te : TE} {nm : Str}
theorem run_err {pins : List (Addr × Obj)} {σ : L2.St} {H : Hp} {s : Shared} {Q : VK} {us : List Value} {vs : List V} {kw : List (Str × Value)} {ws : List Value} (T : ErrC X.K C fI) (F : FnOk X.prog X.w X.K X.mg X.base CX0 k fI fd ps sp) (hr : Room (k + 1) X.A)
    (I : Inv X pins σ H s) (hz : us.length ≤ 1000) (r : ∀ a, Vals (.ref a :: vs) (.ref a :: ws))
    (hb : ∀ (a : Addr) (s' : Shared), X.K.In s'.heap → (Value.ref a :: ws).length = ps.length → BindsTo s' fd ⟨.ref a :: us, kw⟩ (ps.zip (.ref a :: ws)))
    (h : ∀ a, H a = none → sp (.ref a :: vs) (upd H a (exo a C none)) (fun v H2 => v = .non ∧ Q (.ref a) H2) E0) :
    wpAny (model X.prog X.w) X.A (call (.ref C) us kw) (EP X pins σ Q) X.xe s := by
  obtain ⟨nm, q, N, bs, bm, sn, sub, ab, col, dd, k0, k1, k2, k3, k5, hC, hbm⟩ := T.oex.cls
  obtain ⟨hp, g, dr, tk, os⟩ := s
  have ge : hp.objs.size ≤ hp.objs.size + 1 := Nat.le_succ _
  have hq := h (hp.objs.size + 1) (I.hok.fresh ge)
  have kk : ∀ b o, hp.get? b = some o → ((hp.push (PySem.W.kdv_tup us)).push (PySem.HandSPX.excO C hp.objs.size)).get? b = some o := fun b o z => Heap.get?_push_of_some _ (Heap.get?_push_of_some _ z)
  have got : ((hp.push (PySem.W.kdv_tup us)).push (PySem.HandSPX.excO C hp.objs.size)).get? (hp.objs.size + 1) = some (PySem.HandSPX.excO C hp.objs.size) := by heap_get
  have I2 : Inv X pins σ (upd H (hp.objs.size + 1) (exo (hp.objs.size + 1) C none)) ⟨(hp.push (PySem.W.kdv_tup us)).push (PySem.HandSPX.excO C hp.objs.size), g, dr, tk, os⟩ :=
    I.laid (t' := tk) (a := hp.objs.size + 1) (o := exo (hp.objs.size + 1) C none) (h' := (hp.push (PySem.W.kdv_tup us)).push (PySem.HandSPX.excO C hp.objs.size)) kk ge (exo_ok got)
  have ll : (Value.ref (hp.objs.size + 1) :: ws).length = ps.length := by rw [← (r (hp.objs.size + 1)).length]; exact F.len _ _ _ _ hq
  refine wpAny_call (PySem.HandSPX.kwj_call PySem.F.excBase_ValueError (fun Y => PySem.HandSPX.refsVE_contains Y bm hbm) (I.kIn _ _ hC) (PySem.W.looks_findIn I.kIn T.ini) (fun self => PySem.W.bind_fn I.kIn self T.fn) (by rw [sizeLine_eq]; omega)
    (codeAny_mono (F.run _ X.stack _ _ ⟨Value.ref (hp.objs.size + 1) :: us, kw⟩ (Value.ref (hp.objs.size + 1) :: ws) _ _ E0 (hr.make C us kw) (I2.env0.make C us kw) (hb _ _ I2.kIn ll) (r _) hq) fun z s' hz' => ?_))
  match z, hz' with
  | .error er, hz' => exact hz'.elim
  | .ok .next, hz' => exact hz'.elim
  | .ok .brk, hz' => exact hz'.elim
  | .ok .cont, hz' => exact hz'.elim
  | .ok (.ret u), hz' =>
    obtain ⟨v, H', I3, rv, ev, q3⟩ := I2.after hz'
    subst ev
    exact ⟨rv, .ref (hp.objs.size + 1), H', I3, rfl, q3⟩
/-- C(e, ..) -/
theorem pe_err (T : ErrC X.K C fI) (F : FnOk X.prog X.w X.K X.mg X.base CX0 k fI fd ps sp) (hr : Room (k + 1) X.A) (hb : Binds X.K fd ps []) (hg : Gl X x) (hm : X.mg x = some (.ref C)) (ha : PA X (e :: es) ta)
    (hdb : (x == ("__debug__" : Str)) = false := by decide) (he : starEach (e :: es) X.env = (false, eval e X.env) :: starEach es X.env := by rfl) (hpl : (backTo pos (starEach es X.env)).any (·.1) = false := by rfl) :
    PE X (.Call (.Name x p) (e :: es) [] pos) (tErr C sp ta) := by
  constructor
  intro pins s σ H Q I h
  refine wpAny_Call_Name_kw (ld_glob I hg hm ?_ hdb)
  refine PySem.W.callWith_K (h₀ := X.base) I.ok.mod.kin T.oex.kC (thn (ha.run pos pins s σ H _ I h) fun us s1 ⟨vs, H1, I1, r, hz, q⟩ => ⟨I1.kIn, ?_⟩) he hpl
  exact run_err (us := us) (ws := us) T F hr I1 (by rw [← r.length]; exact hz) (fun a => .cons rfl r) (fun a s' K' ll => by
    have z := hb s' (.ref a :: us) K' (by simpa using ll)
    simpa using z) q
/-- C() -/
theorem pe_err0 (T : ErrC X.K C fI) (F : FnOk X.prog X.w X.K X.mg X.base CX0 k fI fd ps sp) (hr : Room (k + 1) X.A) (hb : Binds X.K fd ps []) (hg : Gl X x) (hm : X.mg x = some (.ref C))
    (hdb : (x == ("__debug__" : Str)) = false := by decide) : PE X (.Call (.Name x p) [] [] pos) (tErr C sp tNil) := by
  constructor
  intro pins s σ H Q I h
  refine wpAny_Call_Name_kw (ld_glob I hg hm ?_ hdb)
  refine PySem.W.callWith_K0 I.kIn T.oex.kC ?_
  exact run_err (us := []) (ws := []) (vs := []) T F hr I (by decide) (fun a => .cons rfl .nil) (fun a s' K' ll => by
    have z := hb s' [.ref a] K' (by simpa using ll)
    simpa using z) h.2
/-- C(f = e) -/
theorem pe_errK (T : ErrC X.K C fI) (F : FnOk X.prog X.w X.K X.mg X.base CX0 k fI fd ps sp) (hr : Room (k + 1) X.A)
    (hb : ∀ (s' : Shared) (a : Addr) (u : Value), X.K.In s'.heap → BindsTo s' fd ⟨[.ref a], [(nm, u)]⟩ (ps.zip [.ref a, u])) (hg : Gl X x) (hm : X.mg x = some (.ref C)) (he : PE X e te)
    (hdb : (x == ("__debug__" : Str)) = false := by decide) : PE X (.Call (.Name x p) [] [⟨some nm, e, kp⟩] pos) (tErrK C sp te) := by
  constructor
  intro pins s σ H Q I h
  refine wpAny_Call_Name_kw (ld_glob I hg hm ?_ hdb)
  refine PySem.W.callWith_KW0 (h₀ := X.base) I.ok.mod.kin T.oex.kC rfl ?_ rfl
  refine thn ((pk_cons he pk_nil).run pos pins s σ H _ I h) fun ws s1 ⟨vs, H1, I1, r, hh⟩ => ⟨I1.kIn, ?_⟩
  obtain ⟨v, rfl, q⟩ := hh
  obtain ⟨u, rfl, rv⟩ := vals1 r
  exact run_err (us := []) (kw := [(nm, u)]) (ws := [u]) T F hr I1 (by decide) (fun a => .cons rfl (.cons rv .nil)) (fun a s' K' ll => hb s' a u K') q
end
end J

set_option Elab.async false
set_option linter.all false
set_option maxRecDepth 100000
set_option maxHeartbeats 4000000
/-! J4: the head's facts as Bools of the written part; a law's end where nothing is being shown. -/
namespace J
open PySem PySem.Spec PyProof.Rows L2

abbrev Bf := PySem.W.Frag → Bool
/-! ### the Hook -/
def asJ (g : Addr → Option Obj) : Nat → List Addr
  | 0 => [mainGlobals, cStatics]
  | n + 1 => He.growD g (asJ g n)
def obsJ (bs : List Bf) (fn : List He.DefD) (K : PySem.W.Frag) : He.AlD := ((bs.all fun b => b K) && fn.all fun d => d.ok K, fn.map fun d => He.fnW K d.at_)
def SaysJ (bs : List Bf) (fn : List He.DefD) (K : PySem.W.Frag) : Prop := obsJ bs fn K = He.valD fn
def obsJG (n : Nat) (bs : List Bf) (fn : List He.DefD) (g : Addr → Option Obj) : He.AlD := obsJ bs fn (He.frG g (asJ g n))
def hookJ (n : Nat) (bs : List Bf) (fn : List He.DefD) : PySem.W.Hook where
  α := He.AlD
  obs := fun s => obsJG n bs fn s.heap.get?
  val := fun _ => He.valD fn
  says := fun _ h => ∃ K : PySem.W.Frag, K.In h ∧ SaysJ bs fn K
  of := fun _ _ e => ⟨_, He.frG_in, e⟩
  keeps := fun _ _ _ ⟨K, hK, c⟩ k => ⟨K, PySem.W.Frag.In.keeps hK k, c⟩
theorem obsJG_eq {n : Nat} {bs : List Bf} {fn : List He.DefD} {g : Addr → Option Obj} {s : Shared} (h : ∀ a, g a = s.heap.get? a) : obsJG n bs fn g = (hookJ n bs fn).obs s := by
  have e : g = s.heap.get? := funext h
  rw [e] <;> rfl
section
variable {bs : List Bf} {fn : List He.DefD} {K : PySem.W.Frag}
theorem SaysJ.fact (c : SaysJ bs fn K) (i : Nat) {b : Bf} (h : bs[i]? = some b := by rfl) : b K = true := by
  have c1 := (He.ba (show ((bs.all fun b => b K) && fn.all fun d => d.ok K) = true from congrArg (fun z : He.AlD => z.1) c)).1
  exact List.all_eq_true.mp c1 b (List.mem_of_getElem? h)
theorem SaysJ.def_ (c : SaysJ bs fn K) (i : Nat) {d : He.DefD} (h : fn[i]? = some d := by rfl) : ∃ fd, FunD K d.name d.qual d.params d.body d.scope (d.dvs K) (d.kws K) (He.fAd K d.at_) fd := by
  have c2 := (He.ba (show ((bs.all fun b => b K) && fn.all fun d => d.ok K) = true from congrArg (fun z : He.AlD => z.1) c)).2
  have e : fn.map (fun d => He.fnW K d.at_) = fn.map He.DefD.val := congrArg (fun z : He.AlD => z.2) c
  have e2 : (fn.map fun d => He.fnW K d.at_)[i]? = (fn.map He.DefD.val)[i]? := by rw [e]
  rw [List.getElem?_map, List.getElem?_map, h] at e2
  exact He.DefD.funD (Option.some.inj e2) (List.all_eq_true.mp c2 d (List.mem_of_getElem? h))
end

/-! ### facts of error classes -/
def oexB (K : PySem.W.Frag) (C : Addr) : Bool := (match K.lookup C with
  | some ⟨.type "type", _, .cls cd, sl⟩ => (match cd.mro, sl.toList with
    | .ref C' :: bm, [_, _, _, _, some (.builtin n), _] => C' == C && n == "ValueError.__new__" && !cd.hasDel && cd.hasDict && HandSPX.refsVE bm
    | _, _ => false)
  | _ => false) && (He.eqO (PySem.W.findIn K (.ref C) "__setattr__") (some (some (.builtin "object.__setattr__"))) && (decide (PySem.W.subIn K (.ref C) (.type "BaseException") = some true) && (decide (PySem.W.typeIn K (.ref C) = some (.type "type")) && PySem.W.keepIn K (.ref C))))
theorem oexB_ok {K : PySem.W.Frag} {C : Addr} (h : oexB K C = true) : OexC K C := by
  obtain ⟨h0, h⟩ := He.ba h
  obtain ⟨h1, h⟩ := He.ba h
  obtain ⟨h2, h⟩ := He.ba h
  obtain ⟨h3, h4⟩ := He.ba h
  refine ⟨?_, He.eqO_ok h1, of_decide_eq_true h2, of_decide_eq_true h3, h4⟩
  split at h0
  · rename_i dd cd sl ho
    split at h0
    · rename_i C' bm k0 k1 k2 k3 n k5 hm hs
      simp only [Bool.and_eq_true, beq_iff_eq, Bool.not_eq_true'] at h0
      obtain ⟨⟨⟨⟨rfl, rfl⟩, hdel⟩, hdict⟩, hv⟩ := h0
      obtain ⟨nm, bs, mro, ns, qn, hd, sn, sub, ab, col, del⟩ := cd
      dsimp only at hm hdel hdict
      subst hm hdel hdict
      have es : sl = #[k0, k1, k2, k3, some (.builtin "ValueError.__new__"), k5] := by
        obtain ⟨l⟩ := sl
        simp only at hs
        rw [hs]
      subst es
      exact ⟨nm, qn, ns, bs, bm, sn, sub, ab, col, dd, k0, k1, k2, k3, k5, ho, hv⟩
    · cases h0
  · cases h0
/-- all that is asked of an error class: it is made, its instances' class is asked, the field is read -/
def errB (x : Str) (fld : Str) : Bf := fun K =>
  He.eqO (PySem.W.nsIn K mainGlobals x) (some (some (.ref (He.ga K x)))) && (oexB K (He.ga K x) && (He.eqO (PySem.W.findIn K (.ref (He.ga K x)) "__init__") (some (some (.ref (He.ma K (He.ga K x) "__init__")))) &&
  (decide (PySem.W.typeIn K (.ref (He.ma K (He.ga K x) "__init__")) = some (.type "function")) && (xfB K (He.ga K x) && (He.eqO (PySem.W.findIn K (.ref (He.ga K x)) fld) (some none) &&
  (He.eqO (PySem.W.findIn K (.ref (He.ga K x)) "__class__") (some (some (.builtin "object.__class__"))) && (decide (PySem.W.mroIn K (He.ga K x) (.type "object") = some true)))))))) 
structure ErrN (K : PySem.W.Frag) (mg : Str → Option Value) (x fld : Str) : Prop where
  g : mg x = some (.ref (He.ga K x))
  c : ErrC K (He.ga K x) (He.ma K (He.ga K x) "__init__")
  f : XfC K (He.ga K x)
  nof : PySem.W.findIn K (.ref (He.ga K x)) fld = some none
  cl : PySem.W.findIn K (.ref (He.ga K x)) "__class__" = some (some (.builtin "object.__class__"))
  ob : PySem.W.mroIn K (He.ga K x) (.type "object") = some true
theorem errB_ok {K : PySem.W.Frag} {h : Heap} {mg : Str → Option Value} {x fld : Str} (X : K.In h) (G : h.Ns mainGlobals mg) (c : errB x fld K = true) : ErrN K mg x fld := by
  obtain ⟨h0, c⟩ := He.ba c
  obtain ⟨h1, c⟩ := He.ba c
  obtain ⟨h2, c⟩ := He.ba c
  obtain ⟨h3, c⟩ := He.ba c
  obtain ⟨h4, c⟩ := He.ba c
  obtain ⟨h5, c⟩ := He.ba c
  obtain ⟨h6, h7⟩ := He.ba c
  exact ⟨PySem.W.mg_of X G (He.eqO_ok h0), ⟨oexB_ok h1, He.eqO_ok h2, of_decide_eq_true h3⟩, xfB_ok h4, He.eqO_ok h5, He.eqO_ok h6, of_decide_eq_true h7⟩
/-- the getter of __class__, asked once -/
def clsB : Bf := fun K => He.eqO (PySem.W.specialIn K (.builtin "object.__class__") "__get__") (some (some (.builtin "getset_descriptor.__get__"))) && decide (PySem.W.takesIn K (.builtin "object.__class__") = some true)
theorem clsB_ok {K : PySem.W.Frag} (c : clsB K = true) : PySem.W.specialIn K (.builtin "object.__class__") "__get__" = some (some (.builtin "getset_descriptor.__get__")) ∧ PySem.W.takesIn K (.builtin "object.__class__") = some true := by
  obtain ⟨h0, h1⟩ := He.ba c
  exact ⟨He.eqO_ok h0, of_decide_eq_true h1⟩
theorem ErrN.is {K : PySem.W.Frag} {mg : Str → Option Value} {x fld : Str} (T : ErrN K mg x fld) (c : clsB K = true) : ExcC K (He.ga K x) :=
  ⟨T.f.ga, T.f.gg, T.f.exC, T.f.hdC, T.cl, (clsB_ok c).1, (clsB_ok c).2, T.ob⟩
/-- DrawError, whose __init__ is read off it -/
def derrB : Bf := fun K => He.eqO (PySem.W.nsIn K mainGlobals "DrawError") (some (some (.ref (He.ga K "DrawError")))) && (PySem.W.readsIn K (He.ga K "DrawError") (.type "type") &&
  (He.eqO (PySem.W.specialIn K (.ref (He.ga K "DrawError")) "__getattribute__") (some (some (.builtin "type.__getattribute__"))) &&
  (match PySem.W.findCls K (.ref (He.ga K "DrawError")) (.type "type") "__init__" with
    | some (.val v) => decide (v = .builtin "ValueError.__init__")
    | _ => false)))
theorem derrB_ok {K : PySem.W.Frag} {h : Heap} {mg : Str → Option Value} (X : K.In h) (G : h.Ns mainGlobals mg) (c : derrB K = true) : DErr K mg (He.ga K "DrawError") := by
  obtain ⟨h0, c⟩ := He.ba c
  obtain ⟨h1, c⟩ := He.ba c
  obtain ⟨h2, h3⟩ := He.ba c
  refine ⟨PySem.W.mg_of X G (He.eqO_ok h0), h1, He.eqO_ok h2, ?_⟩
  split at h3
  · rename_i v e
    rw [e, of_decide_eq_true h3]
  · cases h3
/-- a name that is none of the module's own -/
def freeB (x : Str) : Bf := fun K => He.eqO (PySem.W.nsIn K mainGlobals x) (some none)
theorem freeB_ok {K : PySem.W.Frag} {h : Heap} {mg : Str → Option Value} (X : K.In h) (G : h.Ns mainGlobals mg) {x : Str} (c : freeB x K = true) : mg x = none := PySem.W.mg_none_of X G (He.eqO_ok c)
/-- a name of the module's that stands for an object -/
def gloB (x : Str) : Bf := fun K => He.eqO (PySem.W.nsIn K mainGlobals x) (some (some (.ref (He.ga K x))))
theorem gloB_ok {K : PySem.W.Frag} {h : Heap} {mg : Str → Option Value} (X : K.In h) (G : h.Ns mainGlobals mg) {x : Str} (c : gloB x K = true) : mg x = some (.ref (He.ga K x)) := PySem.W.mg_of X G (He.eqO_ok c)

/-! ### the end -/
/-- the law's call, its promise kept where nothing is being shown -/
theorem law_callG {P : Program} {w : World} {K : PySem.W.Frag} {mg mb : Str → Option Value} {k : Nat} {fa a : Addr} {fd : FuncData} {x : Str} {sp : Sp} {s₁ : Shared} {vs : List Value} {ns : List Int}
    (KX : K.In s₁.heap) (hns : s₁.heap.Ns mainGlobals mg) (hb : s₁.heap.Ns builtinsNs mb) (hbb : ∀ x : Str, x ≠ "__name__" → mb x = bootBuiltins x) (hlim : s₁.heap.NoLimit) (hg : s₁.gens = #[])
    (ha : s₁.heap.get? a = some { cls := .type "list", data := .seq vs.toArray }) (hi : IntsAre vs ns) (hl : ns.length ≤ sizeLine) (hr : Room k callerA)
    (F : ∀ base : Heap, K.In base → base.Ns mainGlobals mg → FnG P w K mg base CX0 k fa fd [x] sp) (hbind : ∀ (s : Shared) (u : Value), BindsTo s fd ⟨[u], []⟩ [(x, u)])
    (hsp : ∀ H : Hp, Only H → SqL K H a (ns.map V.int) → sp [.ref a] H (fun v _ => v = .bl true) fun _ _ _ => False) :
    codeAny (model P w) callerA (.call (.ref fa) ⟨[.ref a], []⟩) (fun r s' => r = .ok (.ret (.bool true)) ∧ OldK s₁.heap s'.heap ∧ s'.os = s₁.os ∧ AllBare s'.gens) s₁ := by
  have rv := vals_ints hi
  have lenV := hi.length
  have core : ∀ H : Hp, Only H → SqL K H a (ns.map V.int) → HOk P w H s₁.heap → (∀ b, H b ≠ none → b = a) → (H a ≠ none → K.lookup a = none) →
      codeAny (model P w) callerA (.call (.ref fa) ⟨[.ref a], []⟩) (fun r s' => r = .ok (.ret (.bool true)) ∧ OldK s₁.heap s'.heap ∧ s'.os = s₁.os ∧ AllBare s'.gens) s₁ := by
    intro H hO hS hok hA hK
    have at_a : ∀ {b : Addr} {u : HO}, H b = some u → b = a := fun {b u} q => hA b (by rw [q]; simp)
    have noDict : ∀ {b : Addr} {o : Obj} {es : Array DictEntry} {ep : Nat}, s₁.heap.get? b = some o → o.data = .dict es ep → H b = none := fun {b o es ep} e d => by
      cases q : H b with
      | none => rfl
      | some u =>
        cases at_a q
        rw [ha] at e
        cases e
        cases (show Data.seq vs.toArray _ = Data.dict es ep from d)
    have nsK : ∀ {b : Addr} {m : Str → Option Value}, s₁.heap.Ns b m → (hidT s₁.heap H).Ns b m := fun {b m} ⟨o, es, ep, e, d, r⟩ => ⟨o, es, ep, hidT_get e (noDict e d), d, r⟩
    have inB : K.In (hidT s₁.heap H) := fun b o e => hidT_get (KX b o e) (by
      cases q : H b with
      | none => rfl
      | some u =>
        cases at_a q
        rw [hK (by rw [q]; simp)] at e
        cases e)
    have hM : Mod K mg (hidT s₁.heap H) := ⟨inB, nsK hns, ⟨mb, nsK hb, hbb⟩, let ⟨mc, h1, h2⟩ := hlim; ⟨mc, nsK h1, h2⟩⟩
    have e0 : Env0 P w K mg (hidT s₁.heap H) callerA [] s₁ H := ⟨rfl, hM, fun b o e => of_hidT e, Nat.le_of_eq (hidT_size _ _), trivial, fun b hb => absurd (show b ∈ ([] : List Addr) from hb) (by simp), hok, .of_eq hg⟩
    refine codeAny_mono ((F _ inB (nsK hns) callerA rfl hr).run [] s₁ H ⟨[.ref a], []⟩ [.ref a] [.ref a] _ _ e0 (hbind s₁ (.ref a)) (.cons rfl .nil) (hsp H hO hS)) fun r s' h => ?_
    match r, h with
    | .error e, h => exact h.elim
    | .ok .next, h => exact h.elim
    | .ok .brk, h => exact h.elim
    | .ok .cont, h => exact h.elim
    | .ok (.ret u), h =>
      obtain ⟨v, H', os, bare, un, hok', r', q⟩ := h
      cases (show v = .bl true from q)
      cases (show u = Value.bool true from r')
      refine ⟨rfl, OldK.of_keep fun b o e => ?_, os, bare⟩
      cases q : H b with
      | none => exact un.keep b o e q (by intro z; exact absurd (show b ∈ ([] : List Addr) from z) (by simp)) (by simp)
      | some u =>
        rcases hO b with z | ⟨ob, xs, z⟩
        · rw [q] at z
          cases z
        · have z2 := un.frzs b ob _ z
          obtain ⟨e1, _⟩ := hok b _ z
          obtain ⟨e2, _⟩ := hok' b _ z2
          rw [e] at e1
          cases e1
          exact e2
  cases hk : K.lookup a with
  | some o =>
    have e := KX a o hk
    rw [ha] at e
    cases e
    exact core (fun _ => none) (fun _ => .inl rfl) (.inr ⟨_, vs.toArray, _, hk, rfl, rfl, rfl, by rw [List.size_toArray, lenV]; exact hl, by simpa using rv⟩) (fun b u z => by cases (show (none : Option HO) = some u from z)) (fun b z => absurd rfl z) fun z => absurd rfl z
  | none =>
    refine core (fun b => if b = a then some (.frz { cls := .type "list", data := .seq vs.toArray } (.lst (ns.map V.int))) else none) (fun b => ?_) (.inl (.inr ⟨{ cls := .type "list", data := .seq vs.toArray }, if_pos rfl⟩)) (fun b u z => ?_) (fun b z => ?_) fun _ => hk
    · by_cases q : b = a
      · exact .inr ⟨_, _, if_pos q⟩
      · exact .inl (if_neg q)
    · by_cases q : b = a
      · cases (if_pos q).symm.trans z
        subst q
        exact ⟨ha, by rw [List.length_map]; exact hl, vs, _, rv, ha⟩
      · cases (if_neg q).symm.trans z
    · by_cases q : b = a
      · exact q
      · exact absurd (if_neg q) z
theorem walk_G {l : PySem.W.OpenLaw} {n k : Nat} {q : Program} {loose : List Str} {XP : (Str → Option Value) → Heap → Prop} {YP : World → Heap → Prop} {d : DefRec} {x : Str}
    (hn : l.most = some n) (hn2 : n ≤ sizeLine) (hdf : d.params.defaults = []) (hr : Room k callerA)
    (F : ∀ (w : World) (mg : Str → Option Value) (fa : Addr) (h : Heap), YP w h → h.Ns mainGlobals mg → mg d.name = some (.ref fa) →
      ∃ (K : PySem.W.Frag) (fd : FuncData) (sp : Sp), K.In h ∧ (∀ (s : Shared) (u : Value), BindsTo s fd ⟨[u], []⟩ [(x, u)]) ∧
        (∀ (H : Hp) (a : Addr) (ns : List Int), ns.length ≤ n → Only H → SqL K H a (ns.map V.int) → sp [.ref a] H (fun v _ => v = .bl true) fun _ _ _ => False) ∧
        ∀ base : Heap, K.In base → base.Ns mainGlobals mg → FnG l.prog w K mg base CX0 k fa fd [x] sp) :
    PySem.W.WalkO q loose XP YP l.row.toRowW d [] (fun f vs => PySem.call f vs) := by
  refine Att.attach_call hn hdf fun w s₀ s₁ mg mb fa o pm cd doc a vs ns G Y ho hd hcd hmg hobj hints hlen hg => ?_
  obtain ⟨K, fd, sp, KX, hb, hsp, hF⟩ := F w mg fa _ Y G.T.g hmg
  exact law_callG KX G.T.g G.T.b G.T.builtins G.T.nolimit hg hobj hints (Nat.le_trans hlen hn2) hr hF hb fun H hO hS => hsp H a ns hlen hO hS
end J

set_option Elab.async false
set_option linter.all false
set_option maxRecDepth 100000
set_option maxHeartbeats 4000000
/-! J5: rows of calls that make errors or ask their classes; the draws' promises. -/
namespace J
open PySem PySem.Spec PyProof.Rows L2

theorem pa_imp {X : Cx} {es : List Expr} {t u : TA} (h : PA X es t) (k : ∀ σ H Q, u σ H Q → t σ H Q) : PA X es u := ⟨fun pos pins s σ H Q I q => h.run pos pins s σ H Q I (k σ H Q q)⟩
theorem pe_imp {X : Cx} {e : Expr} {t u : TE} (h : PE X e t) (k : ∀ σ H Q, u σ H Q → t σ H Q) : PE X e u := ⟨fun pins s σ H Q I q => h.run pins s σ H Q I (k σ H Q q)⟩
theorem upS {H : Hp} {p : Addr} {o : HO} (h : H p = none) : Same H (upd H p o) := fun _ _ e => by rw [upd_ne (ne_of_none e h)]; exact e
theorem _root_.L2.Same.tupS {K : PySem.W.Frag} {H H' : Hp} {a : Addr} {xs : List V} (e : Same H H') (h : SqT K H a xs) : SqT K H' a xs :=
  h.elim (fun h => .inl (h.elim (fun h => .inl (e _ _ h)) fun ⟨o, h⟩ => .inr ⟨o, e _ _ h⟩)) fun h => .inr h
/-- steps of a reading -/
theorem seq_name {te : TE} {u : TS} {D : Ends} {σ : L2.St} {H : Hp} {i : Nat} (h : te σ H fun x H1 => u D (σ.set i (some x)) H1) : tSeq (tAsg te (gName i)) u D σ H := h
theorem seq_drop {te : TE} {u : TS} {D : Ends} {σ : L2.St} {H : Hp} (h : tDrop te { D with nx := u D } σ H) : tSeq (tDrop te) u D σ H := h
theorem lst_of {t : TA} {σ : L2.St} {H : Hp} {Q : VK} (h : t σ H fun xs H1 => xs.length ≤ sizeLine ∧ ∀ p, H1 p = none → Q (.ref p) (upd H1 p (.lst xs))) : tLst t σ H Q := h
theorem cons_of {te : TE} {ta : TA} {σ : L2.St} {H : Hp} {Q : List V → Hp → Prop} (h : te σ H fun x H1 => ta σ H1 fun xs H2 => Q (x :: xs) H2) : tCons te ta σ H Q := h
theorem op_of {r : R2} {ta tb : TE} {σ : L2.St} {H : Hp} {Q : VK} (h : ta σ H fun x H1 => tb σ H1 fun y H2 => r x y H2 Q) : tOp r ta tb σ H Q := h
theorem yes_if {A B : Hp → Prop} {σ : L2.St} {H : Hp} (h : A H) : tYes σ H (fun b H3 => if b = true then A H3 else B H3) := by
  show if true = true then A H else B H
  exact iteT h
theorem ret_of {te : TE} {D : Ends} {σ : L2.St} {H : Hp} (h : te σ H D.rt) : tRet te D σ H := h
/-- a property of each item -/
def AllJ {α : Type} (p : α → Prop) : List α → Prop
  | [] => True
  | a :: r => p a ∧ AllJ p r
/-- two rows fit, place by place -/
def fits {α β : Type} (f : α → β → Bool) : List α → List β → Bool
  | [], [] => true
  | a :: r, b :: q => f a b && fits f r q
  | _, _ => false

/-! ### what is asked of an error class with the field given -/
structure EK (P : Program) (w : World) (K : PySem.W.Frag) (mg : Str → Option Value) (base : Heap) (n : Str) : Prop where
  e : ErrN K mg n "given"
  fn : ∃ fd, FnOk P w K mg base CX0 1 (He.ma K (He.ga K n) "__init__") fd ["self", "given"] (spErr K (He.ga K n) "given") ∧ Binds K fd ["self", "given"] [] ∧
    ∀ (s : Shared) (a : Addr) (u : Value), K.In s.heap → BindsTo s fd ⟨[.ref a], [("given", u)]⟩ ((["self", "given"] : List Str).zip [.ref a, u])
  db : (n == ("__debug__" : Str)) = false
theorem kw_binds {K : PySem.W.Frag} {x qual : Str} {pa : Arguments} {bd : List Stmt} {sc : Scope} {f : Addr} {fd : FuncData} {fld : Str} (F : FunD K x qual pa bd sc [] [] f fd)
    (h : ∀ (kV doc pm : Value) (an : Option Addr) (cdv ct : Value) (a : Addr) (u : Value), bindArgs (PySem.W.fnOf x qual pa bd sc .none kV doc pm an cdv ct) ⟨[.ref a], [(fld, u)]⟩ = pure ((["self", fld] : List Str).zip [.ref a, u]))
    (s : Shared) (a : Addr) (u : Value) : BindsTo s fd ⟨[.ref a], [(fld, u)]⟩ ((["self", fld] : List Str).zip [.ref a, u]) := by
  obtain ⟨oc, od, dV, kV, doc, pm, an, cdv, ct, osl, rfl, lk, hcd, hD, hK⟩ := F.ex
  rcases hD with ⟨_, rfl⟩ | ⟨z, _⟩
  · exact .of_eq (h kV doc pm an cdv ct a u)
  · exact absurd rfl z

/-! ### [C(x), ..]: errors made of the value in slot i -/
def errCall (arg n : Str) : Expr → Bool
  | .Call (.Name m _) [.Name a _] [] _ => decide (m = n) && decide (a = arg)
  | _ => false
theorem errCall_ok {arg n : Str} {e : Expr} (h : errCall arg n e = true) : ∃ p q r, e = .Call (.Name n p) [.Name arg q] [] r := by
  unfold errCall at h
  split at h
  · obtain ⟨h1, h2⟩ := Bool.and_eq_true_iff.mp h
    have e1 := of_decide_eq_true h1
    have e2 := of_decide_eq_true h2
    subst e1 e2
    exact ⟨_, _, _, rfl⟩
  · cases h
def errCallK (arg n : Str) : Expr → Bool
  | .Call (.Name m _) [] [⟨some f, .Name a _, _⟩] _ => decide (m = n) && (decide (a = arg) && decide (f = "given"))
  | _ => false
theorem errCallK_ok {arg n : Str} {e : Expr} (h : errCallK arg n e = true) : ∃ p q r k, e = .Call (.Name n p) [] [⟨some "given", .Name arg q, k⟩] r := by
  unfold errCallK at h
  split at h
  · obtain ⟨h1, h⟩ := Bool.and_eq_true_iff.mp h
    obtain ⟨h2, h3⟩ := Bool.and_eq_true_iff.mp h
    have e1 := of_decide_eq_true h1
    have e2 := of_decide_eq_true h2
    have e3 := of_decide_eq_true h3
    subst e1 e2 e3
    exact ⟨_, _, _, _, rfl⟩
  · cases h
/-- the row of errors at as, of the classes ns, each with the value v -/
def Errs (K : PySem.W.Frag) (H : Hp) (v : V) : List Str → List Addr → Prop
  | [], [] => True
  | n :: ns, a :: as => ErrF H a (He.ga K n) "given" v ∧ Errs K H v ns as
  | _, _ => False
theorem Errs.ext {K : PySem.W.Frag} {H H' : Hp} {v : V} (k : Same H H') : ∀ {ns : List Str} {as : List Addr}, Errs K H v ns as → Errs K H' v ns as
  | [], [], _ => trivial
  | _ :: _, _ :: _, h => ⟨h.1.ext k, Errs.ext k h.2⟩
  | [], _ :: _, h => h.elim
  | _ :: _, [], h => h.elim
theorem Errs.app {K : PySem.W.Frag} {H : Hp} {v : V} : ∀ {ns : List Str} {as : List Addr} {ms : List Str} {bs : List Addr}, Errs K H v ns as → Errs K H v ms bs → Errs K H v (ns ++ ms) (as ++ bs)
  | [], [], _, _, _, h => h
  | _ :: _, _ :: _, _, _, h, h' => ⟨h.1, Errs.app h.2 h'⟩
  | [], _ :: _, _, _, h, _ => h.elim
  | _ :: _, [], _, _, h, _ => h.elim
theorem Errs.len {K : PySem.W.Frag} {H : Hp} {v : V} : ∀ {ns : List Str} {as : List Addr}, Errs K H v ns as → as.length = ns.length
  | [], [], _ => rfl
  | _ :: _, _ :: _, h => by rw [List.length_cons, List.length_cons, Errs.len h.2]
  | [], _ :: _, h => h.elim
  | _ :: _, [], h => h.elim
theorem Errs.at_ {K : PySem.W.Frag} {H : Hp} {v : V} : ∀ {ns : List Str} {as : List Addr} {j : Nat} {n : Str}, Errs K H v ns as → ns[j]? = some n → ∃ a, as[j]? = some a ∧ ErrF H a (He.ga K n) "given" v
  | _ :: _, _ :: _, 0, _, h, e => by
    cases e
    exact ⟨_, rfl, h.1⟩
  | _ :: _, _ :: _, j + 1, n, h, e => Errs.at_ (j := j) h.2 (by simpa using e)
  | [], _, _, _, _, e => by simp at e
  | _ :: _, [], _, _, h, _ => h.elim
def tErrs (K : PySem.W.Frag) (i : Nat) (ns : List Str) : TA := fun σ H Q => ∃ v, σ[i]? = some (some v) ∧ ∀ H' as, Same H H' → Errs K H' v ns as → Q (as.map V.ref) H'
theorem err_new {fld : Str} {H : Hp} {a d C : Addr} {v : V} (ha : H a = none) (hd : upd H a (exo a C none) d = none) (hda : d ≠ a) :
    Same H (upd (upd (upd H a (exo a C none)) d (exd d [(fld, v)])) a (exo a C (some d))) ∧ ErrF (upd (upd (upd H a (exo a C none)) d (exd d [(fld, v)])) a (exo a C (some d))) a C fld v := by
  have hd2 : H d = none := by rw [upd_ne hda] at hd; exact hd
  refine ⟨fun b o h => ?_, d, upd_same, ?_⟩
  · rw [upd_ne (ne_of_none h ha), upd_ne (ne_of_none h hd2), upd_ne (ne_of_none h ha)]
    exact h
  · rw [upd_ne hda, upd_same]
section
variable {X : Cx} {i : Nat} {arg : Str}
theorem pa_errs (hr : Room 2 X.A) (ha : ∀ q, PE X (.Name arg q) (tVar i)) : ∀ {ns : List Str} {es : List Expr}, fits (errCall arg) ns es = true → AllJ (EK X.prog X.w X.K X.mg X.base) ns → AllJ (Gl X) ns → PA X es (tErrs X.K i ns)
  | [], [], _, _, _ => pa_imp pa_nil fun σ H Q h => by
    obtain ⟨v, _, h⟩ := h
    exact h H [] (Same.refl _) trivial
  | n :: ns, e :: es, hf, hk, hg => by
    obtain ⟨h1, h2⟩ := Bool.and_eq_true_iff.mp hf
    obtain ⟨p, q, r, rfl⟩ := errCall_ok h1
    obtain ⟨fd, F, b, _⟩ := hk.1.fn
    refine pa_imp (pa_cons (pe_err hk.1.e.c F hr b hg.1 hk.1.e.g (pa_cons (ha q) pa_nil) hk.1.db) (pa_errs hr ha h2 hk.2 hg.2)) fun σ H Q h => ?_
    obtain ⟨v, hv, h⟩ := h
    refine ⟨v, hv, by show 1 ≤ 1000; decide, fun a na => ⟨a, v, rfl, upd_same, fun d nd hda => ⟨rfl, v, hv, fun H' as sm er => ?_⟩⟩⟩
    obtain ⟨k1, k2⟩ := err_new (v := v) na nd hda
    exact h H' (a :: as) (k1.trans sm) ⟨k2.ext sm, er⟩
  | [], _ :: _, hf, _, _ => by cases hf
  | _ :: _, [], hf, _, _ => by cases hf
theorem pa_errsK (hr : Room 2 X.A) (ha : ∀ q, PE X (.Name arg q) (tVar i)) : ∀ {ns : List Str} {es : List Expr}, fits (errCallK arg) ns es = true → AllJ (EK X.prog X.w X.K X.mg X.base) ns → AllJ (Gl X) ns → PA X es (tErrs X.K i ns)
  | [], [], _, _, _ => pa_imp pa_nil fun σ H Q h => by
    obtain ⟨v, _, h⟩ := h
    exact h H [] (Same.refl _) trivial
  | n :: ns, e :: es, hf, hk, hg => by
    obtain ⟨h1, h2⟩ := Bool.and_eq_true_iff.mp hf
    obtain ⟨p, q, r, k, rfl⟩ := errCallK_ok h1
    obtain ⟨fd, F, _, b⟩ := hk.1.fn
    refine pa_imp (pa_cons (pe_errK hk.1.e.c F hr (fun s' a u K' => b s' a u K') hg.1 hk.1.e.g (ha q) hk.1.db) (pa_errsK hr ha h2 hk.2 hg.2)) fun σ H Q h => ?_
    obtain ⟨v, hv, h⟩ := h
    refine ⟨v, hv, v, rfl, fun a na => ⟨a, v, rfl, upd_same, fun d nd hda => ⟨rfl, v, hv, fun H' as sm er => ?_⟩⟩⟩
    obtain ⟨k1, k2⟩ := err_new (v := v) na nd hda
    exact h H' (a :: as) (k1.trans sm) ⟨k2.ext sm, er⟩
  | [], _ :: _, hf, _, _ => by cases hf
  | _ :: _, [], hf, _, _ => by cases hf
end

/-! ### one error, made -/
theorem mk1C {K : PySem.W.Frag} {C : Addr} {fld : Str} {v : V} {σ : L2.St} {H : Hp} {Q : VK} (k : ∀ a H', Same H H' → ErrF H' a C fld v → Q (.ref a) H') : tErr C (spErr K C fld) (tCons (tC v) tNil) σ H Q := by
  refine ⟨(by show 1 ≤ 1000; decide), fun a na => ⟨a, v, rfl, upd_same, fun d nd hda => ⟨rfl, ?_⟩⟩⟩
  obtain ⟨k1, k2⟩ := err_new (fld := fld) (v := v) na nd hda
  exact k a _ k1 k2
theorem mk1V {K : PySem.W.Frag} {C : Addr} {fld : Str} {v : V} {i : Nat} {σ : L2.St} {H : Hp} {Q : VK} (hv : σ[i]? = some (some v)) (k : ∀ a H', Same H H' → ErrF H' a C fld v → Q (.ref a) H') : tErr C (spErr K C fld) (tCons (tVar i) tNil) σ H Q := by
  refine ⟨v, hv, (by show 1 ≤ 1000; decide), fun a na => ⟨a, v, rfl, upd_same, fun d nd hda => ⟨rfl, ?_⟩⟩⟩
  obtain ⟨k1, k2⟩ := err_new (fld := fld) (v := v) na nd hda
  exact k a _ k1 k2
theorem mkKV {K : PySem.W.Frag} {C : Addr} {fld : Str} {v : V} {i : Nat} {σ : L2.St} {H : Hp} {Q : VK} (hv : σ[i]? = some (some v)) (k : ∀ a H', Same H H' → ErrF H' a C fld v → Q (.ref a) H') : tErrK C (spErr K C fld) (tVar i) σ H Q := by
  refine ⟨v, hv, v, rfl, fun a na => ⟨a, v, rfl, upd_same, fun d nd hda => ⟨rfl, ?_⟩⟩⟩
  obtain ⟨k1, k2⟩ := err_new (fld := fld) (v := v) na nd hda
  exact k a _ k1 k2
theorem mk0 {C : Addr} {σ : L2.St} {H : Hp} {Q : VK} (k : ∀ a H', Same H H' → ErrO H' a C → Q (.ref a) H') : tErr C (spErr0 C) tNil σ H Q :=
  ⟨Nat.zero_le _, fun a na => ⟨a, rfl, upd_same, rfl, k a _ (upS na) ⟨none, upd_same, fun _ z => nomatch z⟩⟩⟩

/-! ### [isinstance(e, C), ..] -/
def isCall (arg n : Str) : Expr → Bool
  | .Call (.Name m _) [.Name a _, .Name c _] [] _ => decide (m = "isinstance") && (decide (a = arg) && decide (c = n))
  | _ => false
theorem isCall_ok {arg n : Str} {e : Expr} (h : isCall arg n e = true) : ∃ p q r s, e = .Call (.Name "isinstance" p) [.Name arg q, .Name n r] [] s := by
  unfold isCall at h
  split at h
  · obtain ⟨h1, h⟩ := Bool.and_eq_true_iff.mp h
    obtain ⟨h2, h3⟩ := Bool.and_eq_true_iff.mp h
    have e1 := of_decide_eq_true h1
    have e2 := of_decide_eq_true h2
    have e3 := of_decide_eq_true h3
    subst e1 e2 e3
    exact ⟨_, _, _, _, rfl⟩
  · cases h
/-- a class of the module's own, as isinstance is asked of it -/
structure ClsN (K : PySem.W.Frag) (mg : Str → Option Value) (n : Str) : Prop where
  g : mg n = some (.ref (He.ga K n))
  db : (n == ("__debug__" : Str)) = false
/-- the answers: C is the class at e -/
def kindsV (K : PySem.W.Frag) (C : Addr) (ns : List Str) : List V := ns.map fun n => V.bl (decide (C = He.ga K n))
def Knows (K : PySem.W.Frag) (C : Addr) (n : Str) : Prop := PySem.W.kitOne K (.ref C) (.ref (He.ga K n)) = some (decide (C = He.ga K n))
def tIsis (K : PySem.W.Frag) (i : Nat) (ns : List Str) : TA := fun σ H Q => ∃ e C, σ[i]? = some (some (.ref e)) ∧ ErrO H e C ∧ ExcC K C ∧ AllJ (Knows K C) ns ∧ Q (kindsV K C ns) H
theorem relref {a : Addr} : ∀ u, RelV (.ref a) u → u = Value.ref a := fun _ r => r
theorem pa_isis {X : Cx} {i : Nat} {arg : Str} (hi : Gl X "isinstance") (hm : X.mg "isinstance" = none) (ha : ∀ q, PE X (.Name arg q) (tVar i)) :
    ∀ {ns : List Str} {es : List Expr}, fits (isCall arg) ns es = true → AllJ (ClsN X.K X.mg) ns → AllJ (Gl X) ns → PA X es (tIsis X.K i ns)
  | [], [], _, _, _ => pa_imp pa_nil fun σ H Q h => by
    obtain ⟨e, C, _, _, _, _, h⟩ := h
    exact h
  | n :: ns, e :: es, hf, hk, hg => by
    obtain ⟨h1, h2⟩ := Bool.and_eq_true_iff.mp hf
    obtain ⟨p, q, r, s, rfl⟩ := isCall_ok h1
    refine pa_imp (pa_cons (pe_callB call_isX hi hm PyProof.Rows.boot_isinstance (pa_cons (ha q) (pa_cons (pe_glob (v := .ref (He.ga X.K n)) hg.1 hk.1.g rfl hk.1.db) pa_nil))) (pa_isis hi hm ha h2 hk.2 hg.2)) fun σ H Q h => ?_
    obtain ⟨a, C, hv, ho, hx, hw, h⟩ := h
    exact ⟨_, hv, a, C, _, _, _, rfl, ho, hx, relref, hw.1, a, C, hv, ho, hx, hw.2, h⟩
  | [], _ :: _, hf, _, _ => by cases hf
  | _ :: _, [], hf, _, _ => by cases hf
/-! ### a law's draws: cell, box, take -/
/-- a box of draws: a great number, a small one, how often the small one was mixed (at most n times) -/
def BoxAt (H : Hp) (p : Addr) (n : Int) : Prop := ∃ a b c : Int, H p = some (.lst [.int a, .int b, .int c]) ∧ 0 ≤ a ∧ 0 ≤ b ∧ b < 4294967296 ∧ 0 ≤ c ∧ c ≤ n
def spCellL (K : PySem.W.Frag) : Sp := fun vs H Q _ => ∃ (a : Addr) (ns : List Int) (k : Int), vs = [.ref a, .int k] ∧ SqL K H a (ns.map V.int) ∧ ns.length ≤ 1000 ∧ 0 ≤ k ∧ k < 1000 ∧ ∀ i : Int, Q (.int i) H
def spBoxL : Sp := fun vs H Q _ => ∃ i : Int, vs = [.int i] ∧ ∀ p H', H p = none → BoxAt H' p 0 → (∀ q, q ≠ p → H' q = H q) → Q (.ref p) H'
/-- a number from 0 on below m -/
def spTakeL : Sp := fun vs H Q _ => ∃ (p : Addr) (m n : Int), vs = [.ref p, .int m] ∧ BoxAt H p n ∧ n < 1000000 ∧ 0 < m ∧ m < 10 ^ 40 ∧ ∀ (r : Int) (H' : Hp), 0 ≤ r → r < m → BoxAt H' p (n + 1) → (∀ q, q ≠ p → H' q = H q) → Q (.int r) H'
theorem log_lt {m : Int} (h0 : 0 < m) (h : m < 10 ^ 40) : m.natAbs.log2 < 9000 := by
  have h1 : m.natAbs < 2 ^ 200 := by
    have e : (10 : Int) ^ 40 < 2 ^ 200 := by decide
    omega
  exact Nat.lt_of_lt_of_le (PySem.Flt.log2_lt_of (by decide) h1) (by decide)
theorem none_of {H H' : Hp} {p : Addr} (S : Same H H') (h : H' p = none) : H p = none := by
  cases z : H p with
  | none => rfl
  | some o =>
    rw [S p o z] at h
    cases h
def off (H : Hp) (q : Addr) : Hp := fun a => if a = q then none else H a
theorem off_same {H : Hp} {q : Addr} : Same (off H q) H := fun a o h => by
  unfold off at h
  by_cases e : a = q
  · rw [if_pos e] at h; cases h
  · rw [if_neg e] at h; exact h
theorem off_self {H : Hp} {q : Addr} : off H q q = none := if_pos rfl
theorem off_at {H : Hp} {q a : Addr} {o : HO} (h : H a = some o) (e : a ≠ q) : off H q a = some o := by
  unfold off
  rw [if_neg e]; exact h
theorem keep_off {G H H' : Hp} {q : Addr} (S : Same G H) (hq : G q = none) (k : ∀ a, a ≠ q → H' a = H a) : Same G H' := fun a o h => by
  rw [k a (ne_of_none h hq)]
  exact S a o h
theorem BoxAt.ext {H H' : Hp} {p : Addr} {n : Int} (h : BoxAt H p n) (k : Same H H') : BoxAt H' p n := by
  obtain ⟨a, b, c, h1, h2⟩ := h
  exact ⟨a, b, c, k _ _ h1, h2⟩
theorem BoxAt.ne {H : Hp} {p q : Addr} {n : Int} (h : BoxAt H p n) (hq : H q = none) : q ≠ p := by
  obtain ⟨a, b, c, h1, _⟩ := h
  exact (ne_of_none h1 hq).symm
end J

set_option Elab.async false
set_option linter.all false
set_option maxRecDepth 100000
set_option maxHeartbeats 4000000
/-! J6: operators of an own class, by the model's own steps. -/
namespace PySem.W
open PySem PySem.Calls PyProof.Rows Builtin
section
variable {prog : Program} {w : World} {A : Around} {E : Value → Shared → Prop} {s : Shared} {K : Frag} {x C f g : Addr} {ox : Obj} {od : Option Obj} {b : Value} {T : String} {nm : String}
/-- a method of two, tried: it takes -/
theorem jo_try {name : Str} {Q : Option Value → Shared → Prop} (X : K.In s.heap) (I : InstAt s.heap x ox C od) (hs : findIn K (.ref C) name = some (some (.ref f))) (hf : isFn K (.ref f) = true)
    (h : wpAny (model prog w) A (call (.ref f) [.ref x, b]) (CmpBack fun v => Q (some v)) E s) : wpAny (model prog w) A (tryMethod (.ref x) name b) Q E s := by
  unfold tryMethod
  refine wpAny_bind (special_fn X I hs (beq_iff_eq.mp hf) (wpAny_mono h (fun v s' hv => ?_) fun _ _ e => e))
  cases v <;> first | exact hv.elim | exact wpAny_pure hv
theorem jo_cmp {name : Str} {Q : Option Value → Shared → Prop} (X : K.In s.heap) (I : InstAt s.heap x ox C od) (hs : findIn K (.ref C) name = some (some (.ref f))) (hf : isFn K (.ref f) = true)
    (h : wpAny (model prog w) A (call (.ref f) [.ref x, b]) (CmpBack fun v => Q (some v)) E s) : wpAny (model prog w) A (tryCompare (.ref x) name b) Q E s := by
  unfold tryCompare
  refine wpAny_bind (ifBound_K X I hs hf (wpAny_mono h (fun v s' hv => ?_) fun _ _ e => e))
  cases v <;> first | exact hv.elim | exact wpAny_pure hv
theorem jo_num {M : Model} {h : Heap} (X : K.In h) {r : Option Value} (hs : findIn K (.ref C) (PySem.dunder nm) = some (some (.ref f))) (hr : findIn K (.ref C) (PySem.dunderR nm) = some r) (hr2 : r = none ∨ ∃ g, r = some (.ref g)) :
    Looks M h (numberSlotInPython (.ref C) nm) true := by
  intro A Q E s k q
  unfold numberSlotInPython
  refine wpAny_bind (looks_findIn X hs A _ E s k ?_)
  refine wpAny_bind (wpAny_pure ?_)
  refine wpAny_bind (looks_findIn X hr A _ E s k ?_)
  rcases hr2 with rfl | ⟨g, rfl⟩
  · refine wpAny_bind (wpAny_pure ?_)
    exact wpAny_pure q
  · refine wpAny_bind (wpAny_pure ?_)
    exact wpAny_pure q
/-- x op b, b of a type of Python's own, the class's def for op is asked -/
theorem jo_left {r rT : Option Value} {left : Bool} {Q : Option Value → Shared → Prop} (X : K.In s.heap) (I : InstAt s.heap x ox C od) (hc : selfFirst K C = true) (hb : s.TypeIs b T) (hfT : fillsNumberSlot (.type T) nm = pure left) (hsub : subIn K (.type T) (.ref C) = some false)
    (hs : findIn K (.ref C) (PySem.dunder nm) = some (some (.ref f))) (hr : findIn K (.ref C) (PySem.dunderR nm) = some r) (hr2 : r = none ∨ ∃ g, r = some (.ref g)) (hrT : typeLookup (.type T) (PySem.dunderR nm) = pure rT) (hf : isFn K (.ref f) = true)
    (h : wpAny (model prog w) A (call (.ref f) [.ref x, b]) (CmpBack fun v => Q (some v)) E s) : wpAny (model prog w) A (binaryOp1 nm (.ref x) b) Q E s := by
  obtain ⟨cd, hcd, hm⟩ := any_some hc
  obtain ⟨rest, hm⟩ : ∃ rest, cd.mro = .ref C :: rest := by
    cases q : cd.mro with
    | nil => rw [q] at hm; cases hm
    | cons a r => rw [q] at hm; exact ⟨r, by rw [List.head?_cons] at hm; cases (beq_iff_eq.mp hm); rfl⟩
  have goal2 : wpAny (model prog w) A (tryMethod (.ref x) (PySem.dunder nm) b) (fun v s' => ∃ u, v = some u ∧ Q (some u) s') E s := jo_try X I hs hf (wpAny_mono h (fun v s' hv => by
    cases v <;> first | exact hv.elim | exact ⟨_, rfl, hv⟩) fun _ _ e => e)
  unfold binaryOp1
  refine wpAny_bind (I.type.here (wpAny_bind (wpAny_typeOf hb (wpAny_bind ((fills_K X hcd hm hs).here ?_)))))
  have hne : ((Value.ref C) == (Value.type T)) = false := rfl
  simp only [hne, Bool.false_eq_true, if_false]
  refine wpAny_bind (wpAny_of_eq hfT ?_)
  have npT : numberSlotInPython (.type T) nm = pure false := rfl
  cases left with
  | false =>
    simp only [Bool.and_false, Bool.false_eq_true, if_false, Bool.false_and, Bool.true_and, if_true, pure_bind]
    refine wpAny_bind (wpAny_mono goal2 (fun v s' z => ?_) fun _ _ e => e)
    obtain ⟨u, rfl, z⟩ := z
    exact wpAny_pure z
  | true =>
    simp only [Bool.and_true, if_true]
    refine wpAny_bind ((looks_subIn X hsub).here ?_)
    simp only [Bool.false_eq_true, if_false, Bool.not_false, if_true, pure_bind, Bool.and_true]
    refine wpAny_bind ((jo_num X hs hr hr2).here ?_)
    simp only [if_true, npT, pure_bind, Bool.not_false]
    refine wpAny_bind (wpAny_of_eq hrT ?_)
    refine wpAny_bind (wpAny_mono goal2 (fun v s' z => ?_) fun _ _ e => e)
    obtain ⟨u, rfl, z⟩ := z
    exact wpAny_pure z
/-- a op x, a of a type of Python's own whose op declines: the class's reflected def is asked -/
theorem jo_right {a : Value} {id : String} {Q : Option Value → Shared → Prop} (X : K.In s.heap) (I : InstAt s.heap x ox C od) (hc : selfFirst K C = true) (ha : s.TypeIs a T) (hfT : fillsNumberSlot (.type T) nm = pure true) (hsub : subIn K (.ref C) (.type T) = some false)
    (hs : findIn K (.ref C) (PySem.dunder nm) = some (some (.ref f))) (hr : findIn K (.ref C) (PySem.dunderR nm) = some (some (.ref g))) (hl : Slot T (PySem.dunder nm) id) (hg : isFn K (.ref g) = true)
    (hd : ∀ Q' : Value → Shared → Prop, Q' .notImplemented s → wpAny (model prog w) A (call (.builtin id) [a, .ref x]) Q' E s)
    (h : wpAny (model prog w) A (call (.ref g) [.ref x, a]) (CmpBack fun v => Q (some v)) E s) : wpAny (model prog w) A (binaryOp1 nm a (.ref x)) Q E s := by
  obtain ⟨cd, hcd, hm⟩ := any_some hc
  obtain ⟨rest, hm⟩ : ∃ rest, cd.mro = .ref C :: rest := by
    cases q : cd.mro with
    | nil => rw [q] at hm; cases hm
    | cons a r => rw [q] at hm; exact ⟨r, by rw [List.head?_cons] at hm; cases (beq_iff_eq.mp hm); rfl⟩
  have goal2 : wpAny (model prog w) A (tryMethod (.ref x) (PySem.dunderR nm) a) (fun v s' => ∃ u, v = some u ∧ Q (some u) s') E s := jo_try X I hr hg (wpAny_mono h (fun v s' hv => by
    cases v <;> first | exact hv.elim | exact ⟨_, rfl, hv⟩) fun _ _ e => e)
  unfold binaryOp1
  refine wpAny_bind (wpAny_typeOf ha (wpAny_bind (I.type.here (wpAny_bind (wpAny_of_eq hfT ?_)))))
  have hne : ((Value.type T) == (Value.ref C)) = false := rfl
  simp only [hne, Bool.false_eq_true, if_false]
  refine wpAny_bind ((fills_K X hcd hm hs).here ?_)
  have npT : numberSlotInPython (.type T) nm = pure false := rfl
  simp only [Bool.and_true, if_true]
  refine wpAny_bind ((looks_subIn X hsub).here ?_)
  simp only [Bool.false_eq_true, if_false, Bool.not_false, if_true, pure_bind, Bool.and_true, npT]
  refine wpAny_bind (wpAny_tryMethod_declines ha hl (hd _ ⟨rfl, ?_⟩))
  refine wpAny_bind (wpAny_mono goal2 (fun v s' z => ?_) fun _ _ e => e)
  obtain ⟨u, rfl, z⟩ := z
  exact wpAny_bind (wpAny_rule (wpAny_pure z))
theorem jo_op {op : Operator} {a : Value} {Q : Value → Shared → Prop} (h : wpAny (model prog w) A (binaryOp1 op.info.2 a b) (fun v s' => ∃ u, v = some u ∧ Q u s') E s) : wpAny (model prog w) A (binaryOp op a b) Q E s := by
  unfold binaryOp
  refine wpAny_holding (wpAny_bind (wpAny_mono h (fun v s' z => ?_) fun _ _ e => e))
  obtain ⟨u, rfl, z⟩ := z
  exact wpAny_pure z
/-- both of the class -/
theorem jo_same {Q : Option Value → Shared → Prop} (X : K.In s.heap) (I : InstAt s.heap x ox C od) (hc : selfFirst K C = true) (hb : Looks (model prog w) s.heap (typeOf b) (.ref C))
    (hs : findIn K (.ref C) (PySem.dunder nm) = some (some (.ref f))) (hf : isFn K (.ref f) = true)
    (h : wpAny (model prog w) A (call (.ref f) [.ref x, b]) (CmpBack fun v => Q (some v)) E s) : wpAny (model prog w) A (binaryOp1 nm (.ref x) b) Q E s := by
  obtain ⟨cd, hcd, hm⟩ := any_some hc
  obtain ⟨rest, hm⟩ : ∃ rest, cd.mro = .ref C :: rest := by
    cases q : cd.mro with
    | nil => rw [q] at hm; cases hm
    | cons a r => rw [q] at hm; exact ⟨r, by rw [List.head?_cons] at hm; cases (beq_iff_eq.mp hm); rfl⟩
  have goal2 : wpAny (model prog w) A (tryMethod (.ref x) (PySem.dunder nm) b) (fun v s' => ∃ u, v = some u ∧ Q (some u) s') E s := jo_try X I hs hf (wpAny_mono h (fun v s' hv => by
    cases v <;> first | exact hv.elim | exact ⟨_, rfl, hv⟩) fun _ _ e => e)
  unfold binaryOp1
  refine wpAny_bind (I.type.here (wpAny_bind (hb.here (wpAny_bind ((fills_K X hcd hm hs).here ?_)))))
  simp only [beq_self_eq_true, if_true]
  refine wpAny_bind (wpAny_pure ?_)
  simp only [Bool.and_false, Bool.false_eq_true, if_false, Bool.false_and, pure_bind, if_true]
  refine wpAny_bind (wpAny_mono goal2 (fun v s' z => ?_) fun _ _ e => e)
  obtain ⟨u, rfl, z⟩ := z
  exact wpAny_pure z
/-- -x -/
theorem jo_neg {Q : Value → Shared → Prop} (X : K.In s.heap) (I : InstAt s.heap x ox C od) (hs : findIn K (.ref C) "__neg__" = some (some (.ref f))) (hf : isFn K (.ref f) = true)
    (h : wpAny (model prog w) A (call (.ref f) [.ref x]) Q E s) : wpAny (model prog w) A (unaryOp .USub (.ref x)) Q E s := by
  unfold unaryOp
  refine wpAny_holding ?_
  simp only [show (UnaryOp.USub == UnaryOp.Not) = false from rfl, Bool.false_eq_true, if_false, pure_bind]
  exact wpAny_bind (special_fn X I hs (beq_iff_eq.mp hf) (wpAny_mono h (fun v s' hv => wpAny_pure hv) fun _ _ e => e))
/-- x == b, x < b ..: the class's own def, b of another type or of the class -/
theorem jo_bin {op : CmpOp} {tb : Value} {Q : Value → Shared → Prop} (hu : A.units < cLine) (X : K.In s.heap) (I : InstAt s.heap x ox C od) (hb : Looks (model prog w) s.heap (typeOf b) tb) (hn : notFirst K C tb = true)
    (hs : findIn K (.ref C) (cmpInfo op).2.1 = some (some (.ref f))) (hf : isFn K (.ref f) = true)
    (h : wpAny (model prog w) A (call (.ref f) [.ref x, b]) (CmpBack Q) E s) : wpAny (model prog w) A (richCompare op (.ref x) b) Q E s := by
  have one : wpAny (model prog w) A (tryCompare (.ref x) (cmpInfo op).2.1 b) (fun r s' => ∃ v, r = some v ∧ Q v s') E s := jo_cmp X I hs hf (wpAny_mono h (fun v s' hv => by
    cases v <;> first | exact hv.elim | exact ⟨_, rfl, hv⟩) fun _ _ e => e)
  unfold richCompare
  simp only [oneThing_ref]
  refine wpAny_holding (wpAny_bind (wpAny_cRoomFor hu ?_))
  refine wpAny_bind (I.type.here (wpAny_bind (hb.here ?_)))
  split
  · rename_i q
    have e : subIn K tb (.ref C) = some false := by
      rcases Bool.or_eq_true_iff.mp hn with e | e
      · rw [beq_iff_eq.mp e] at q; simp at q
      · exact beq_iff_eq.mp e
    refine wpAny_bind ((looks_subIn X e).here ?_)
    simp only [Bool.false_eq_true, if_false]
    refine wpAny_bind (wpAny_mono one (fun r s' z => ?_) fun _ _ e => e)
    obtain ⟨v, rfl, hq⟩ := z
    exact wpAny_pure hq
  · refine wpAny_bind (wpAny_pure ?_)
    simp only [Bool.false_eq_true, if_false]
    refine wpAny_bind (wpAny_mono one (fun r s' z => ?_) fun _ _ e => e)
    obtain ⟨v, rfl, hq⟩ := z
    exact wpAny_pure hq
/-- a == x, a of a type of Python's own that declines -/
theorem jo_eqR {a : Value} {id : String} {Q : Value → Shared → Prop} (hu : A.units < cLine) (X : K.In s.heap) (I : InstAt s.heap x ox C od) (ha : s.TypeIs a T) (hsub : subIn K (.ref C) (.type T) = some false)
    (hs : findIn K (.ref C) "__eq__" = some (some (.ref f))) (hl : Slot T (cmpInfo .Eq).2.1 id) (hf : isFn K (.ref f) = true)
    (hd : ∀ Q' : Value → Shared → Prop, Q' .notImplemented s → wpAny (model prog w) A (call (.builtin id) [a, .ref x]) Q' E s)
    (h : wpAny (model prog w) A (call (.ref f) [.ref x, a]) (CmpBack Q) E s) : wpAny (model prog w) A (richCompare .Eq a (.ref x)) Q E s := by
  have one : wpAny (model prog w) A (tryCompare (.ref x) (cmpInfo .Eq).2.2 a) (fun r s' => ∃ v, r = some v ∧ Q v s') E s := jo_cmp X I hs hf (wpAny_mono h (fun v s' hv => by
    cases v <;> first | exact hv.elim | exact ⟨_, rfl, hv⟩) fun _ _ e => e)
  unfold richCompare
  simp only [ha.oneThing_none]
  refine wpAny_holding (wpAny_bind (wpAny_cRoomFor hu ?_))
  refine wpAny_bind (wpAny_typeOf ha (wpAny_bind (I.type.here ?_)))
  have hne : (Value.type T != Value.ref C) = true := rfl
  simp only [hne, if_true]
  refine wpAny_bind ((looks_subIn X hsub).here ?_)
  simp only [Bool.false_eq_true, if_false, Bool.not_false, if_true]
  refine wpAny_bind (m := tryCompare a _ (.ref x)) (wpAny_tryCompare_declines ha hl (hd _ ⟨rfl, ?_⟩))
  refine wpAny_bind (wpAny_mono one (fun r s' z => ?_) fun _ _ e => e)
  obtain ⟨v, rfl, hq⟩ := z
  exact wpAny_pure hq
/-! ### what declines an instance -/
section
variable {E' : Value → Shared → Prop}
theorem jo_inst_no {M : Model} (X : K.In s.heap) (I : InstAt s.heap x ox C od) (hsub : subIn K (.ref C) (.type T) = some false) : Looks M s.heap (isInstance (.ref x) (.type T)) false := by
  intro A Q E s' k q
  unfold isInstance
  refine wpAny_bind (I.type A _ E s' k ?_)
  exact looks_subIn X hsub A _ E s' k q
theorem jo_slotArgs {M : Model} {n : String} {a c : Value} {Q : Value × List Value → Shared → Prop} (h : Q (a, [c]) s) : wpAny M A (slotArgs n 1 ⟨[a, c], []⟩) Q E s := by
  unfold slotArgs
  simp only [List.isEmpty_nil, Bool.not_true, Bool.false_eq_true, if_false, List.length_cons, List.length_nil, bne_self_eq_false, pure_bind]
  exact wpAny_pure h
theorem jo_asInt {name : String} {fn : Int → Int → Sem Fin} {rf : Bool} {Q : Value → Shared → Prop} {a : Value} (ha : (∃ i t, a = .int i t) ∨ ∃ b, a = .bool b) (hx : s.heap.get? x = some ox) (hp : ox.data = .plain) (h : Q .notImplemented s) :
    wpAny (model prog w) A (Builtin.Int.intBinary name fn rf ⟨[a, .ref x], []⟩) (fun fin s' => ∃ v, fin = Fin.done (.ret v) ∧ Q v s') E s := by
  unfold Builtin.Int.intBinary
  refine wpAny_bind (jo_slotArgs ?_)
  unfold Builtin.Int.intOfSelf
  rcases ha with ⟨i, t, rfl⟩ | ⟨b, rfl⟩
  · refine wpAny_bind (wpAny_bind (wpAny_pure (wpAny_pure ?_)))
    unfold asInt?
    refine wpAny_bind (wpAny_bind (wpAny_load hx ?_))
    rw [hp]
    exact wpAny_pure (wpAny_bind (wpAny_rule (wpAny_pure ⟨_, rfl, h⟩)))
  · refine wpAny_bind (wpAny_bind (wpAny_pure (wpAny_pure ?_)))
    unfold asInt?
    refine wpAny_bind (wpAny_bind (wpAny_load hx ?_))
    rw [hp]
    exact wpAny_pure (wpAny_bind (wpAny_rule (wpAny_pure ⟨_, rfl, h⟩)))
variable {Q : Value → Shared → Prop}
theorem jo_add {i : Int} {t : Tok} (hx : s.heap.get? x = some ox) (hp : ox.data = .plain) (h : Q .notImplemented s) : wpAny (model prog w) A (call (.builtin "int.__add__") [.int i t, .ref x]) Q E s :=
  wpAny_call_entry PySem.F.slot_int_add (typeIs_int s i t) PySem.F.entry_int_add (jo_asInt (.inl ⟨i, t, rfl⟩) hx hp h) (PySem.F.args_int_add_2 _ _)
theorem jo_sub {i : Int} {t : Tok} (hx : s.heap.get? x = some ox) (hp : ox.data = .plain) (h : Q .notImplemented s) : wpAny (model prog w) A (call (.builtin "int.__sub__") [.int i t, .ref x]) Q E s :=
  wpAny_call_entry PySem.F.slot_int_sub (typeIs_int s i t) PySem.F.entry_int_sub (jo_asInt (.inl ⟨i, t, rfl⟩) hx hp h) (PySem.F.args_int_sub_2 _ _)
theorem jo_mul {i : Int} {t : Tok} (hx : s.heap.get? x = some ox) (hp : ox.data = .plain) (h : Q .notImplemented s) : wpAny (model prog w) A (call (.builtin "int.__mul__") [.int i t, .ref x]) Q E s :=
  wpAny_call_entry PySem.F.slot_int_mul (typeIs_int s i t) PySem.F.entry_int_mul (jo_asInt (.inl ⟨i, t, rfl⟩) hx hp h) (PySem.F.args_int_mul_2 _ _)
theorem jo_eqI {i : Int} {t : Tok} (hx : s.heap.get? x = some ox) (hp : ox.data = .plain) (h : Q .notImplemented s) : wpAny (model prog w) A (call (.builtin "int.__eq__") [.int i t, .ref x]) Q E s :=
  wpAny_call_entry PySem.F.slot_int_eq (typeIs_int s i t) PySem.F.entry_int_eq (jo_asInt (.inl ⟨i, t, rfl⟩) hx hp h) (PySem.F.args_int_eq_2 _ _)
theorem jo_eqB {b : Bool} (hx : s.heap.get? x = some ox) (hp : ox.data = .plain) (h : Q .notImplemented s) : wpAny (model prog w) A (call (.builtin "int.__eq__") [.bool b, .ref x]) Q E s :=
  wpAny_call_entry PySem.F.slot_bool_eq rfl PySem.F.entry_int_eq (jo_asInt (.inr ⟨b, rfl⟩) hx hp h) (PySem.F.args_int_eq_2 _ _)
theorem jo_eqN (h : Q .notImplemented s) : wpAny (model prog w) A (call (.builtin "NoneType.__eq__") [.none, .ref x]) Q E s := by
  refine wpAny_call_entry PySem.F.slot_NoneType_eq rfl PySem.F.entry_NoneType_eq ?_ (PySem.F.args_NoneType_eq_2 _ _)
  unfold Builtin.«NoneType.__eq__»
  exact wpAny_bind (jo_slotArgs (wpAny_pure ⟨_, rfl, h⟩))
theorem jo_eqS {z : Str} {t : Tok} (hx : s.heap.get? x = some ox) (hp : ox.data = .plain) (h : Q .notImplemented s) : wpAny (model prog w) A (call (.builtin "str.__eq__") [.str z t, .ref x]) Q E s := by
  refine wpAny_call_entry PySem.F.slot_str_eq (typeIs_str s z t) PySem.F.entry_str_eq ?_ (PySem.F.args_str_eq_2 _ _)
  unfold Builtin.«str.__eq__» Builtin.Str.strCompare Builtin.Str.strSlot
  refine wpAny_bind (wpAny_bind (jo_slotArgs (wpAny_bind (wpAny_pure (wpAny_pure ?_)))))
  unfold asStr?
  refine wpAny_bind (wpAny_bind (wpAny_load hx ?_))
  rw [hp]
  exact wpAny_pure (wpAny_bind (wpAny_rule (wpAny_pure ⟨_, rfl, h⟩)))
theorem jo_eqL {l : Addr} (X : K.In s.heap) (I : InstAt s.heap x ox C od) (hl : s.TypeIs (.ref l) "list") (hsub : subIn K (.ref C) (.type "list") = some false) (h : Q .notImplemented s) : wpAny (model prog w) A (call (.builtin "list.__eq__") [.ref l, .ref x]) Q E s := by
  refine wpAny_call_entry PySem.F.slot_list_eq hl PySem.F.entry_list_eq ?_ (PySem.F.args_list_eq_2 _ _)
  show wpAny _ _ (slotArgs "__eq__" 1 ⟨[.ref l, .ref x], []⟩ >>= _) _ _ s
  refine wpAny_bind (jo_slotArgs ?_)
  refine wpAny_bind ((jo_inst_no X I hsub).here ?_)
  exact wpAny_bind (wpAny_pure (wpAny_pure ⟨_, rfl, h⟩))
theorem jo_eqT {l : Addr} (X : K.In s.heap) (I : InstAt s.heap x ox C od) (hl : s.TypeIs (.ref l) "tuple") (hsub : subIn K (.ref C) (.type "tuple") = some false) (h : Q .notImplemented s) : wpAny (model prog w) A (call (.builtin "tuple.__eq__") [.ref l, .ref x]) Q E s := by
  refine wpAny_call_entry PySem.F.slot_tuple_eq hl PySem.F.entry_tuple_eq ?_ (PySem.F.args_tuple_eq_2 _ _)
  show wpAny _ _ (slotArgs "__eq__" 1 ⟨[.ref l, .ref x], []⟩ >>= _) _ _ s
  refine wpAny_bind (jo_slotArgs ?_)
  refine wpAny_bind ((jo_inst_no X I hsub).here ?_)
  exact wpAny_bind (wpAny_pure (wpAny_pure ⟨_, rfl, h⟩))
theorem jo_eqD {l : Addr} (X : K.In s.heap) (I : InstAt s.heap x ox C od) (hl : s.TypeIs (.ref l) "dict") (hsub : subIn K (.ref C) (.type "dict") = some false) (h : Q .notImplemented s) : wpAny (model prog w) A (call (.builtin "dict.__eq__") [.ref l, .ref x]) Q E s := by
  refine wpAny_call_entry PySem.F.slot_dict_eq hl PySem.F.entry_dict_eq ?_ (PySem.F.args_dict_eq_2 _ _)
  show wpAny _ _ (Builtin.Dict.dictSlotArgs "__eq__" ⟨[.ref l, .ref x], []⟩ >>= _) _ _ s
  refine wpAny_bind ?_
  unfold Builtin.Dict.dictSlotArgs Builtin.Dict.notOrdered
  refine wpAny_bind (wpAny_pure (wpAny_bind (jo_slotArgs (wpAny_pure ?_))))
  refine wpAny_bind ((jo_inst_no X I hsub).here ?_)
  exact wpAny_bind (wpAny_rule (wpAny_bind (wpAny_pure (wpAny_pure ⟨_, rfl, h⟩))))
/-! ### x op= b, and x != b -/
def mroTwo (K : Frag) (C : Addr) : Bool := (clsIn K C).any fun cd => cd.mro == [.ref C, .type "object"]
theorem jo_noI {M : Model} {h : Heap} {add : Bool} (X : K.In h) (hc : mroTwo K C = true) (hn : findIn K (.ref C) (PySem.dunderI nm) = some none) (ho : typeLookup (.type "object") (PySem.dunderI nm) = pure none) : Looks M h (fillsInplaceSlot (.ref C) nm add) false := by
  obtain ⟨cd, hcd, hm⟩ := any_some hc
  intro A Q E s k q
  unfold fillsInplaceSlot
  refine wpAny_bind ((looks_clsIn X hcd).andThen (f := fun cd => pure cd.mro) .now A _ E s k ?_)
  rw [eq_of_beq hm, List.anyM_cons]
  refine wpAny_bind (wpAny_bind (looks_findIn X hn A _ E s k ?_))
  refine wpAny_pure ?_
  simp only [Bool.false_eq_true, if_false]
  rw [List.anyM_cons]
  refine wpAny_bind (wpAny_bind (wpAny_of_eq ho ?_))
  refine wpAny_pure ?_
  simp only [Bool.false_eq_true, if_false, List.anyM_nil]
  exact wpAny_pure q
theorem jo_inpl {op : Operator} {Q : Value → Shared → Prop} (X : K.In s.heap) (I : InstAt s.heap x ox C od) (hc : mroTwo K C = true) (hn : findIn K (.ref C) (PySem.dunderI op.info.2) = some none) (ho : typeLookup (.type "object") (PySem.dunderI op.info.2) = pure none)
    (h : wpAny (model prog w) A (binaryOp1 op.info.2 (.ref x) b) (fun v s' => ∃ u, v = some u ∧ Q u s') E s) : wpAny (model prog w) A (inplaceOp op (.ref x) b) Q E s := by
  unfold inplaceOp
  refine wpAny_holding (wpAny_bind (I.type.here (wpAny_bind ((jo_noI X hc hn ho).here ?_))))
  simp only [Bool.false_eq_true, if_false]
  refine wpAny_bind (wpAny_mono h (fun v s' z => ?_) fun _ _ e => e)
  obtain ⟨u, rfl, z⟩ := z
  exact wpAny_pure z
theorem ne_bind (self : Value) : bindSpecial (.builtin "object.__ne__") self = pure (.builtin "object.__ne__", [self]) :=
  (Slot.of (T := "object") (name := "__ne__") (owner := "object") (n := "__ne__") (by rw [typeLookup_type, builtinLookup_eq_fast]; kernel_rfl) (by decide +kernel) (by decide +kernel) (by decide +kernel)
    (.inl (by decide +kernel)) (by rw [isSubtype_type]; kernel_rfl)).bind self
theorem ne_plain : (Code.builtin "object.__ne__" ⟨[], []⟩).quiet = true := by decide +kernel
theorem jo_ne {tb : Value} {Q : Value → Shared → Prop} (hu : A.units + 8 < cLine) (X : K.In s.heap) (I : InstAt s.heap x ox C od) (hb : Looks (model prog w) s.heap (typeOf b) tb) (hn : notFirst K C tb = true) (hob : subIn K (.ref C) (.type "object") = some true)
    (hne : findIn K (.ref C) "__ne__" = some (some (.builtin "object.__ne__"))) (hs : findIn K (.ref C) "__eq__" = some (some (.ref f))) (hf : isFn K (.ref f) = true)
    (h : wpAny (model prog w) A.in1 (call (.ref f) [.ref x, b]) (fun v s' => ∃ c, v = .bool c ∧ Q (.bool (!c)) s') E s) : wpAny (model prog w) A (richCompare .NotEq (.ref x) b) Q E s := by
  have body : wpAny (model prog w) A.in1 (Builtin.«object.__ne__» ⟨[.ref x, b], []⟩) (fun fin s' => ∃ c, fin = Fin.done (.ret (.bool c)) ∧ Q (.bool c) s') E s := by
    unfold Builtin.«object.__ne__»
    refine wpAny_bind (jo_slotArgs ?_)
    refine wpAny_bind (wpAny_cRoomFor (by show A.units + 1 < cLine; omega) ?_)
    refine wpAny_bind (ifBound_K X I hs hf (wpAny_mono h (fun v s' z => ?_) fun _ _ e => e))
    obtain ⟨c, rfl, z⟩ := z
    exact wpAny_bind (wpAny_truthy_bool (wpAny_pure ⟨_, rfl, z⟩))
  have hinst : Looks (model prog w) s.heap (isInstance (.ref x) (.type "object")) true := by
    intro A Q E s' k q
    unfold isInstance
    refine wpAny_bind (I.type A _ E s' k ?_)
    exact looks_subIn X hob A _ E s' k q
  have hcall : wpAny (model prog w) A (call (.builtin "object.__ne__") [.ref x, b]) (fun v s' => ∃ c, v = .bool c ∧ Q (.bool c) s') E s := by
    refine wpAny_call (codeAny_call_builtin (by decide +kernel) PySem.F.cmpEntry_ne (check_slot PySem.F.cmpKind_ne PySem.F.cmpSplit_ne hinst (PySem.F.cmpArgs_ne _ _) (wpAny_mono body (fun fin s' z => ?_) fun _ _ e => e)))
    obtain ⟨c, rfl, z⟩ := z
    exact ⟨c, rfl, z⟩
  have one : wpAny (model prog w) A (tryCompare (.ref x) (cmpInfo .NotEq).2.1 b) (fun r s' => ∃ v, r = some v ∧ Q v s') E s := by
    unfold tryCompare
    refine wpAny_bind ?_
    simp only [callSpecialIfBound?, bindSpecialIfBound?]
    refine wpAny_holding (wpAny_bind (wpAny_bind (wpAny_bind (I.type.here ((looks_findIn X hne).here ?_)))))
    simp only [ne_bind]
    refine wpAny_bind (wpAny_askSetting (wpAny_ite ?_))
    split
    · refine wpAny_bind (wpAny_pure (wpAny_pure ?_))
      exact wpAny_bind (wpAny_mono hcall (fun v s' z => by
        obtain ⟨c, rfl, z⟩ := z
        exact wpAny_pure (wpAny_pure ⟨_, rfl, z⟩)) fun _ _ h' => h')
    · refine wpAny_tryCatch (wpAny_bind (wpAny_pure (wpAny_pure ?_)))
      exact wpAny_bind (wpAny_mono hcall (fun v s' z => by
        obtain ⟨c, rfl, z⟩ := z
        exact wpAny_pure (wpAny_pure ⟨_, rfl, z⟩)) fun _ _ h' => h')
  unfold richCompare
  simp only [oneThing_ref]
  refine wpAny_holding (wpAny_bind (wpAny_cRoomFor (by omega) ?_))
  refine wpAny_bind (I.type.here (wpAny_bind (hb.here ?_)))
  split
  · rename_i q
    have e : subIn K tb (.ref C) = some false := by
      rcases Bool.or_eq_true_iff.mp hn with e | e
      · rw [beq_iff_eq.mp e] at q; simp at q
      · exact beq_iff_eq.mp e
    refine wpAny_bind ((looks_subIn X e).here ?_)
    simp only [Bool.false_eq_true, if_false]
    refine wpAny_bind (wpAny_mono one (fun r s' z => ?_) fun _ _ e => e)
    obtain ⟨v, rfl, hq⟩ := z
    exact wpAny_pure hq
  · refine wpAny_bind (wpAny_pure ?_)
    simp only [Bool.false_eq_true, if_false]
    refine wpAny_bind (wpAny_mono one (fun r s' z => ?_) fun _ _ e => e)
    obtain ⟨v, rfl, hq⟩ := z
    exact wpAny_pure hq
end
end
end PySem.W

set_option Elab.async false
set_option linter.all false
set_option maxRecDepth 100000
set_option maxHeartbeats 4000000
/-! J7: the operators of an own class, as rules; its making in a try. -/
namespace J
open PySem PySem.Spec PyProof.Rows L2

/-- what the class must have for op: its def and its reflected def -/
structure OpC (K : PySem.W.Frag) (C : Addr) (nm : String) (f g : Addr) : Prop where
  l : PySem.W.findIn K (.ref C) (PySem.dunder nm) = some (some (.ref f))
  lf : PySem.W.isFn K (.ref f) = true
  r : PySem.W.findIn K (.ref C) (PySem.dunderR nm) = some (some (.ref g))
  rf : PySem.W.isFn K (.ref g) = true
  no : PySem.W.findIn K (.ref C) (PySem.dunderI nm) = some none
structure OwnC (K : PySem.W.Frag) (C : Addr) : Prop where
  me : PySem.W.selfFirst K C = true
  two : PySem.W.mroTwo K C = true
  ob : PySem.W.subIn K (.ref C) (.type "object") = some true
/-- T is no class of its, nor it one of T's -/
structure Apart (K : PySem.W.Frag) (C : Addr) (T : String) : Prop where
  a : PySem.W.subIn K (.type T) (.ref C) = some false
  b : PySem.W.subIn K (.ref C) (.type T) = some false
section
variable {X : Cx} {pins : List (Addr × Obj)} {σ : L2.St} {H : Hp} {s : Shared} {x : V} {u : Value} {T : String}
theorem ty_is (I : Inv X pins σ H s) (rx : RelV x u) (ty : TyOf X.K H x (.type T)) : s.TypeIs u T := by
  cases ty with
  | non => cases (show u = Value.none from rx); rfl
  | bl y => cases (show u = Value.bool y from rx); rfl
  | int i => obtain ⟨t, q⟩ := (show ∃ t, u = Value.int i t from rx); cases q; rfl
  | str y => obtain ⟨t, q⟩ := (show ∃ t, u = Value.str y t from rx); cases q; rfl
  | flt y => obtain ⟨t, q⟩ := (show ∃ t, u = Value.float y t from rx); cases q; rfl
  | @lst a xs ea =>
    cases (show u = Value.ref a from rx)
    obtain ⟨_, _, n, _, h1⟩ := (show ObjOk X.prog X.w H s.heap a (.lst xs) from I.hok a _ ea)
    exact ⟨_, h1, rfl⟩
  | @frz a ob xs ea =>
    cases (show u = Value.ref a from rx)
    obtain ⟨_, _, _, n, _, h1⟩ := (show ObjOk X.prog X.w H s.heap a (.frz ob (.lst xs)) from I.hok a _ ea)
    exact ⟨_, h1, rfl⟩
  | @tup a xs ea =>
    cases (show u = Value.ref a from rx)
    obtain ⟨_, _, _, p⟩ := (show ObjOk X.prog X.w H s.heap a (.tup xs) from I.hok a _ ea)
    obtain ⟨o, h1, h2, _⟩ := p
    exact ⟨o, h1, h2⟩
  | @dK a kvs ea =>
    cases (show u = Value.ref a from rx)
    obtain ⟨_, _, vs, _, p⟩ := (show ObjOk X.prog X.w H s.heap a (.dK kvs) from I.hok a _ ea)
    obtain ⟨o, es, ep, h1, h2, _⟩ := p
    exact ⟨o, h1, h2.1⟩
  | @dT a kvs ea =>
    cases (show u = Value.ref a from rx)
    obtain ⟨_, _, xs, _, o, es, ep, h1, h2, _⟩ := (show ObjOk X.prog X.w H s.heap a (.dT kvs) from I.hok a _ ea)
    exact ⟨o, h1, h2.1⟩
theorem ins_inst {a C dx : Addr} {fs : List (Str × V)} (I : Inv X pins σ H s) (ea : H a = some (.ins C dx fs)) : ∃ od, PySem.W.InstAt s.heap a (PySem.W.instObj C dx) C (some od) := by
  obtain ⟨mA, O, _⟩ := ins_get I.hok ea
  obtain ⟨od, J, _⟩ := O.look
  exact ⟨od, J⟩
theorem ty_look {M : Model} (h : s.TypeIs u T) : PySem.W.Looks M s.heap (typeOf u) (.type T) := by
  intro A Q E s' k q
  refine wpAny_typeOf ?_ q
  cases u with
  | ref a => obtain ⟨o, e, c⟩ := h; exact ⟨o, k _ _ e, c⟩
  | _ => exact h
end
section
variable {X : Cx} {CX : CXT} {k : Nat} {C f g : Addr} {fd : FuncData} {ps : List Str} {sp : Sp} {E : XK} {op : Operator}
def rOwnL (C : Addr) (sp : Sp) (E : XK) : R2 := fun x y H Q => ∃ a dx fs, x = .ref a ∧ H a = some (.ins C dx fs) ∧ ((∃ i, y = .int i) ∨ ∃ b dy gs, y = .ref b ∧ H b = some (.ins C dy gs)) ∧ sp [x, y] H Q E
def rOwnR (C : Addr) (sp : Sp) (E : XK) : R2 := fun x y H Q => ∃ i a dx fs, x = .int i ∧ y = .ref a ∧ H a = some (.ins C dx fs) ∧ sp [y, x] H Q E
theorem own_some {P : Value → Shared → Prop} {z : V} {v : Value} {s' : Shared} (r : RelV z v) (h : P v s') : PySem.W.CmpBack (fun v s' => ∃ u, some v = some u ∧ P u s') v s' :=
  SlX.cmpback (P := fun v s' => ∃ u, some v = some u ∧ P u s') r ⟨v, rfl, h⟩
theorem binop1_own {rT : Option Value} {left : Bool} (O : OwnC X.K C) (S : OpC X.K C op.info.2 f g) (Ai : Apart X.K C "int") (hT : fillsNumberSlot (.type "int") op.info.2 = pure left) (hrT : typeLookup (.type "int") (PySem.dunderR op.info.2) = pure rT)
    (F : FnOk X.prog X.w X.K X.mg X.base CX k f fd ps sp) (hr : Room k X.A) (hb : Binds X.K fd ps []) (hx : Passes CX X E) {pins : List (Addr × Obj)} {σ : L2.St} {H : Hp} {s : Shared} {x y : V} {v u : Value} {Q : VK}
    (I : Inv X pins σ H s) (rx : RelV x v) (ry : RelV y u) (h : rOwnL C sp E x y H Q) :
    wpAny (model X.prog X.w) X.A (binaryOp1 op.info.2 v u) (fun v s' => ∃ u, v = some u ∧ EP X pins σ Q u s') X.xe s ∧ ∃ a dx od, v = .ref a ∧ PySem.W.InstAt s.heap a (PySem.W.instObj C dx) C (some od) := by
  obtain ⟨a, dx, fs, rfl, ha, hy, q⟩ := h
  cases (show v = Value.ref a from rx)
  obtain ⟨od, J⟩ := ins_inst I ha
  have run : wpAny (model X.prog X.w) X.A (call (.ref f) [.ref a, u]) (PySem.W.CmpBack fun v s' => ∃ u, some v = some u ∧ EP X pins σ Q u s') X.xe s :=
    wpAny_mono (run_fn (us := [.ref a, u]) (vs := [.ref a, y]) F hr hb .nil hx I (.cons rfl (.cons ry .nil)) q) (fun w s' ⟨z, H', I', rz, qz⟩ => own_some rz ⟨z, H', I', rz, qz⟩) fun _ _ e => e
  refine ⟨?_, a, dx, od, rfl, J⟩
  rcases hy with ⟨i, rfl⟩ | ⟨b, dy, gs, rfl, hb'⟩
  · obtain ⟨t, rfl⟩ := (show ∃ t, u = Value.int i t from ry)
    exact PySem.W.jo_left I.kIn J O.me (typeIs_int s i t) hT Ai.a S.l S.r (Or.inr ⟨_, rfl⟩) hrT S.lf run
  · cases (show u = Value.ref b from ry)
    obtain ⟨od', J'⟩ := ins_inst I hb'
    exact PySem.W.jo_same I.kIn J O.me J'.type S.l S.lf run
/-- x op y, x an instance of the class at C, y an int or one too -/
theorem op_ownL {rT : Option Value} {left : Bool} (O : OwnC X.K C) (S : OpC X.K C op.info.2 f g) (Ai : Apart X.K C "int") (hT : fillsNumberSlot (.type "int") op.info.2 = pure left) (hrT : typeLookup (.type "int") (PySem.dunderR op.info.2) = pure rT)
    (F : FnOk X.prog X.w X.K X.mg X.base CX k f fd ps sp) (hr : Room k X.A) (hb : Binds X.K fd ps []) (hx : Passes CX X E) : OpR X (binaryOp op) (rOwnL C sp E) :=
  fun pins s σ H x y v u Q I rx ry h => PySem.W.jo_op (binop1_own O S Ai hT hrT F hr hb hx I rx ry h).1
/-- x op= y -/
theorem iop_ownL {rT : Option Value} {left : Bool} (O : OwnC X.K C) (S : OpC X.K C op.info.2 f g) (Ai : Apart X.K C "int") (hT : fillsNumberSlot (.type "int") op.info.2 = pure left) (hrT : typeLookup (.type "int") (PySem.dunderR op.info.2) = pure rT) (ho : typeLookup (.type "object") (PySem.dunderI op.info.2) = pure none)
    (F : FnOk X.prog X.w X.K X.mg X.base CX k f fd ps sp) (hr : Room k X.A) (hb : Binds X.K fd ps []) (hx : Passes CX X E) : OpR X (inplaceOp op) (rOwnL C sp E) := by
  intro pins s σ H x y v u Q I rx ry h
  obtain ⟨h1, a, dx, od, rfl, J⟩ := binop1_own O S Ai hT hrT F hr hb hx I rx ry h
  exact PySem.W.jo_inpl I.kIn J O.two S.no ho h1
/-- x op y, x an int, y an instance: its reflected def; dec: the int's own declines -/
theorem op_ownR {id : String} (O : OwnC X.K C) (S : OpC X.K C op.info.2 f g) (Ai : Apart X.K C "int") (hT : fillsNumberSlot (.type "int") op.info.2 = pure true) (hl : Slot "int" (PySem.dunder op.info.2) id)
    (dec : ∀ (s : Shared) (a : Addr) (ox : Obj) (i : Int) (t : Tok) (Q' : Value → Shared → Prop), s.heap.get? a = some ox → ox.data = .plain → Q' .notImplemented s → wpAny (model X.prog X.w) X.A (call (.builtin id) [.int i t, .ref a]) Q' X.xe s)
    (F : FnOk X.prog X.w X.K X.mg X.base CX k g fd ps sp) (hr : Room k X.A) (hb : Binds X.K fd ps []) (hx : Passes CX X E) : OpR X (binaryOp op) (rOwnR C sp E) := by
  intro pins s σ H x y v u Q I rx ry h
  obtain ⟨i, a, dx, fs, rfl, rfl, ha, q⟩ := h
  obtain ⟨t, rfl⟩ := (show ∃ t, v = Value.int i t from rx)
  cases (show u = Value.ref a from ry)
  obtain ⟨od, J⟩ := ins_inst I ha
  refine PySem.W.jo_op (PySem.W.jo_right I.kIn J O.me (typeIs_int s i t) hT Ai.b S.l S.r hl S.rf (fun Q' q' => dec s a _ i t Q' J.at_ rfl q') ?_)
  exact wpAny_mono (run_fn (us := [.ref a, .int i t]) (vs := [.ref a, .int i]) F hr hb .nil hx I (.cons rfl (.cons ⟨t, rfl⟩ .nil)) q) (fun w s' ⟨z, H', I', rz, qz⟩ => own_some rz ⟨z, H', I', rz, qz⟩) fun _ _ e => e
def rOwnU (C : Addr) (sp : Sp) (E : XK) : V → Hp → VK → Prop := fun x H Q => ∃ a dx fs, x = .ref a ∧ H a = some (.ins C dx fs) ∧ sp [x] H Q E
/-- -x -/
theorem un_own (hs : PySem.W.findIn X.K (.ref C) "__neg__" = some (some (.ref f))) (hf : PySem.W.isFn X.K (.ref f) = true)
    (F : FnOk X.prog X.w X.K X.mg X.base CX k f fd ps sp) (hr : Room k X.A) (hb : Binds X.K fd ps []) (hx : Passes CX X E) : UnR X (unaryOp .USub) (rOwnU C sp E) := by
  intro pins s σ H x v Q I rx h
  obtain ⟨a, dx, fs, rfl, ha, q⟩ := h
  cases (show v = Value.ref a from rx)
  obtain ⟨od, J⟩ := ins_inst I ha
  exact PySem.W.jo_neg I.kIn J hs hf (run_fn (us := [.ref a]) (vs := [.ref a]) F hr hb .nil hx I (.cons rfl .nil) q)
/-- x == y, x an instance, y of another type or one too -/
def rOwnEq (K : PySem.W.Frag) (C : Addr) (sp : Sp) (E : XK) : R2 := fun x y H Q => ∃ a dx fs, x = .ref a ∧ H a = some (.ins C dx fs) ∧ ((∃ T, TyOf K H y (.type T) ∧ PySem.W.subIn K (.type T) (.ref C) = some false) ∨ ∃ b dy gs, y = .ref b ∧ H b = some (.ins C dy gs)) ∧ sp [x, y] H Q E
theorem own_tb {pins : List (Addr × Obj)} {σ : L2.St} {H : Hp} {s : Shared} {y : V} {u : Value} (I : Inv X pins σ H s) (ry : RelV y u) (h : (∃ T, TyOf X.K H y (.type T) ∧ PySem.W.subIn X.K (.type T) (.ref C) = some false) ∨ ∃ b dy gs, y = .ref b ∧ H b = some (.ins C dy gs)) :
    ∃ tb, PySem.W.Looks (model X.prog X.w) s.heap (typeOf u) tb ∧ PySem.W.notFirst X.K C tb = true := by
  rcases h with ⟨T, ty, hs⟩ | ⟨b, dy, gs, rfl, hb⟩
  · exact ⟨.type T, ty_look (ty_is I ry ty), by unfold PySem.W.notFirst; rw [hs]; simp⟩
  · cases (show u = Value.ref b from ry)
    obtain ⟨od, J⟩ := ins_inst I hb
    exact ⟨.ref C, J.type, by unfold PySem.W.notFirst; simp⟩
theorem op_ownEq (hs : PySem.W.findIn X.K (.ref C) "__eq__" = some (some (.ref f))) (hf : PySem.W.isFn X.K (.ref f) = true)
    (F : FnOk X.prog X.w X.K X.mg X.base CX k f fd ps sp) (hr : Room k X.A) (hb : Binds X.K fd ps []) (hx : Passes CX X E) : OpR X (compareOp .Eq) (rOwnEq X.K C sp E) := by
  intro pins s σ H x y v u Q I rx ry h
  obtain ⟨a, dx, fs, rfl, ha, hy, q⟩ := h
  cases (show v = Value.ref a from rx)
  obtain ⟨od, J⟩ := ins_inst I ha
  obtain ⟨tb, l, n⟩ := own_tb I ry hy
  exact PySem.W.jo_bin (op := .Eq) hr.units0 I.kIn J l n hs hf (wpAny_mono (run_fn (us := [.ref a, u]) (vs := [.ref a, y]) F hr hb .nil hx I (.cons rfl (.cons ry .nil)) q) (fun w s' ⟨z, H', I', rz, qz⟩ => SlX.cmpback rz ⟨z, H', I', rz, qz⟩) fun _ _ e => e)
/-- y == x: y of a type whose == declines -/
def eqTypes : List String := ["int", "bool", "NoneType", "str", "list", "tuple", "dict"]
def rOwnEqR (K : PySem.W.Frag) (C : Addr) (sp : Sp) (E : XK) : R2 := fun x y H Q => ∃ T a dx fs, y = .ref a ∧ H a = some (.ins C dx fs) ∧ TyOf K H x (.type T) ∧ T ∈ eqTypes ∧ PySem.W.subIn K (.ref C) (.type T) = some false ∧ sp [y, x] H Q E
theorem op_ownEqR (hs : PySem.W.findIn X.K (.ref C) "__eq__" = some (some (.ref f))) (hf : PySem.W.isFn X.K (.ref f) = true)
    (F : FnOk X.prog X.w X.K X.mg X.base CX k f fd ps sp) (hr : Room k X.A) (hb : Binds X.K fd ps []) (hx : Passes CX X E) : OpR X (compareOp .Eq) (rOwnEqR X.K C sp E) := by
  intro pins s σ H x y v u Q I rx ry h
  obtain ⟨T, a, dx, fs, rfl, ha, ty, hT, hsub, q⟩ := h
  cases (show u = Value.ref a from ry)
  obtain ⟨od, J⟩ := ins_inst I ha
  have t1 := ty_is I rx ty
  have run : wpAny (model X.prog X.w) X.A (call (.ref f) [.ref a, v]) (PySem.W.CmpBack (EP X pins σ Q)) X.xe s :=
    wpAny_mono (run_fn (us := [.ref a, v]) (vs := [.ref a, x]) F hr hb .nil hx I (.cons rfl (.cons rx .nil)) q) (fun w s' ⟨z, H', I', rz, qz⟩ => SlX.cmpback rz ⟨z, H', I', rz, qz⟩) fun _ _ e => e
  cases ty with
  | non =>
    cases (show v = Value.none from rx)
    exact PySem.W.jo_eqR hr.units0 I.kIn J t1 hsub hs PySem.F.slot_NoneType_eq hf (fun Q' q' => PySem.W.jo_eqN q') run
  | bl b =>
    cases (show v = Value.bool b from rx)
    exact PySem.W.jo_eqR hr.units0 I.kIn J t1 hsub hs PySem.F.slot_bool_eq hf (fun Q' q' => PySem.W.jo_eqB J.at_ rfl q') run
  | int i =>
    obtain ⟨t, rfl⟩ := (show ∃ t, v = Value.int i t from rx)
    exact PySem.W.jo_eqR hr.units0 I.kIn J t1 hsub hs PySem.F.slot_int_eq hf (fun Q' q' => PySem.W.jo_eqI J.at_ rfl q') run
  | str z =>
    obtain ⟨t, rfl⟩ := (show ∃ t, v = Value.str z t from rx)
    exact PySem.W.jo_eqR hr.units0 I.kIn J t1 hsub hs PySem.F.slot_str_eq hf (fun Q' q' => PySem.W.jo_eqS J.at_ rfl q') run
  | flt z => simp [eqTypes] at hT
  | @lst l xs e =>
    cases (show v = Value.ref l from rx)
    exact PySem.W.jo_eqR hr.units0 I.kIn J t1 hsub hs PySem.F.slot_list_eq hf (fun Q' q' => PySem.W.jo_eqL I.kIn J t1 hsub q') run
  | @frz l ob xs e =>
    cases (show v = Value.ref l from rx)
    exact PySem.W.jo_eqR hr.units0 I.kIn J t1 hsub hs PySem.F.slot_list_eq hf (fun Q' q' => PySem.W.jo_eqL I.kIn J t1 hsub q') run
  | @tup l xs e =>
    cases (show v = Value.ref l from rx)
    exact PySem.W.jo_eqR hr.units0 I.kIn J t1 hsub hs PySem.F.slot_tuple_eq hf (fun Q' q' => PySem.W.jo_eqT I.kIn J t1 hsub q') run
  | @dK l kvs e =>
    cases (show v = Value.ref l from rx)
    exact PySem.W.jo_eqR hr.units0 I.kIn J t1 hsub hs PySem.F.slot_dict_eq hf (fun Q' q' => PySem.W.jo_eqD I.kIn J t1 hsub q') run
  | @dT l kvs e =>
    cases (show v = Value.ref l from rx)
    exact PySem.W.jo_eqR hr.units0 I.kIn J t1 hsub hs PySem.F.slot_dict_eq hf (fun Q' q' => PySem.W.jo_eqD I.kIn J t1 hsub q') run
/-- x != y, by == -/
def rOwnNe (K : PySem.W.Frag) (C : Addr) (sp : Sp) (E : XK) : R2 := fun x y H Q => ∃ a dx fs, x = .ref a ∧ H a = some (.ins C dx fs) ∧ ((∃ T, TyOf K H y (.type T) ∧ PySem.W.subIn K (.type T) (.ref C) = some false) ∨ ∃ b dy gs, y = .ref b ∧ H b = some (.ins C dy gs)) ∧
  sp [x, y] H (fun v H' => ∃ c, v = .bl c ∧ Q (.bl (!c)) H') E
theorem op_ownNe (O : OwnC X.K C) (hne : PySem.W.findIn X.K (.ref C) "__ne__" = some (some (.builtin "object.__ne__"))) (hs : PySem.W.findIn X.K (.ref C) "__eq__" = some (some (.ref f))) (hf : PySem.W.isFn X.K (.ref f) = true)
    (F : FnOk X.prog X.w X.K X.mg X.base CX k f fd ps sp) (hr : Room (k + 1) X.A) (hb : Binds X.K fd ps []) (hx : Passes CX X E) : OpR X (compareOp .NotEq) (rOwnNe X.K C sp E) := by
  intro pins s σ H x y v u Q I rx ry h
  obtain ⟨a, dx, fs, rfl, ha, hy, q⟩ := h
  cases (show v = Value.ref a from rx)
  obtain ⟨od, J⟩ := ins_inst I ha
  obtain ⟨tb, l, n⟩ := own_tb I ry hy
  have hl : ([Value.ref a, u] ++ []).length = ps.length := F.len _ _ _ _ q
  refine PySem.W.jo_ne (by have := hr.un; omega) I.kIn J l n O.ob hne hs hf (wpAny_call (codeAny_mono (F.run X.A.in1 X.stack s H ⟨[.ref a, u], []⟩ [.ref a, u] [.ref a, y] _ E hr.in1 I.env0.in1 (hb s [.ref a, u] I.kIn hl) (.cons rfl (.cons ry .nil)) q) fun r s' hq => ?_))
  match r, hq with
  | .error e, hq => exact hx pins σ H s e s' I hq
  | .ok .next, hq => exact hq.elim
  | .ok .brk, hq => exact hq.elim
  | .ok .cont, hq => exact hq.elim
  | .ok (.ret w), hq =>
    obtain ⟨z, H', I', rz, c, rfl, qz⟩ := I.after hq
    cases (show w = Value.bool c from rz)
    exact ⟨c, rfl, .bl (!c), H', I', rfl, qz⟩
end
end J

set_option Elab.async false
set_option linter.all false
set_option maxRecDepth 100000
set_option maxHeartbeats 4000000
/-! J8: callees in one piece: a def, a method, a property, a class that is made; str of an instance; // by a negative. -/
namespace J
open PySem PySem.Spec PyProof.Rows L2

abbrev CXL (P : Program) (w : World) : CXT := L2.CX P w
theorem passE0 {X : Cx} {P : Program} {w : World} : Passes (CXL P w) X E0 := fun _ _ _ _ _ _ _ h => by
  obtain ⟨_, _, _, _, _, _, _, _, _, _, _, _, z⟩ := h
  exact z.elim
theorem FnOk.up {P : Program} {w : World} {K : PySem.W.Frag} {mg : Str → Option Value} {base : Heap} {k : Nat} {f : Addr} {fd : FuncData} {ps : List Str} {sp : Sp} (F : FnOk P w K mg base CX0 k f fd ps sp) : FnOk P w K mg base (CXL P w) k f fd ps sp :=
  ⟨F.len, fun A outer s H args us vs Q E hr e0 b r h => codeAny_mono (F.run A outer s H args us vs Q E hr e0 b r h) fun z s' hz => by
    match z, hz with
    | .error e, hz => exact hz.elim
    | .ok (.ret u), hz => exact hz
    | .ok .next, hz => exact hz.elim
    | .ok .brk, hz => exact hz.elim
    | .ok .cont, hz => exact hz.elim⟩
section
variable (P : Program) (w : World) (K : PySem.W.Frag) (mg : Str → Option Value) (base : Heap)
/-- a def of the module's own, as it is called by its name -/
structure Cal (x : Str) (ps : List Str) (k : Nat) (sp : Sp) : Prop where
  ex : ∃ f fd, mg x = some (.ref f) ∧ PySem.W.keepIn K (.ref f) = true ∧ FnOk P w K mg base (CXL P w) k f fd ps sp ∧ Binds K fd ps []
/-- a method -/
structure MCal (C : Addr) (m : Str) (ps : List Str) (k : Nat) (sp : Sp) : Prop where
  ex : ∃ f fd, Meth K C m f ∧ FnOk P w K mg base (CXL P w) k f fd ps sp ∧ Binds K fd ps []
/-- a property -/
structure PCal (C : Addr) (m : Str) (k : Nat) (sp : Sp) : Prop where
  ex : ∃ p f fd, PropOf K C m p f ∧ FnOk P w K mg base (CXL P w) k f fd ["self"] sp ∧ Binds K fd ["self"] []
/-- a class that is made; dvs: the defaults that fill up -/
structure KCal (x : Str) (C : Addr) (ps : List Str) (k : Nat) (sp : Sp) (dvs : List V) : Prop where
  ex : ∃ f fd ds, mg x = some (.ref C) ∧ Mk K C f ∧ FnOk P w K mg base (CXL P w) k f fd ps sp ∧ Binds K fd ps ds ∧ Vals dvs ds
structure KCalN (x : Str) (C : Addr) (ps : List Str) (k : Nat) (sp : Sp) (n : Nat) (ks : List Str) (gV : List V → List V → List V) : Prop where
  ex : ∃ f fd g, mg x = some (.ref C) ∧ Mk K C f ∧ FnOk P w K mg base (CXL P w) k f fd ps sp ∧ KBn K fd ps (n + 1) ks g gV
end
section
variable {X : Cx} {k n : Nat} {C : Addr} {ps ks : List Str} {sp : Sp} {x m : Str} {p pos apos : Pos} {e o : Expr} {es : List Expr} {kws : List Keyword} {ta : TE} {t tk : TA} {dvs : List V} {gV : List V → List V → List V} {W : WX}
theorem pe_cal (c : Cal X.prog X.w X.K X.mg X.base x ps k sp) (hr : Room k X.A) (hg : Gl X x) (ha : PA X (e :: es) t) (hdb : (x == ("__debug__" : Str)) = false := by decide)
    (he : starEach (e :: es) X.env = (false, eval e X.env) :: starEach es X.env := by rfl) (hpl : (backTo pos (starEach es X.env)).any (·.1) = false := by rfl) : PE X (.Call (.Name x p) (e :: es) [] pos) (tCall sp [] E0 t) := by
  obtain ⟨f, fd, h1, h2, h3, h4⟩ := c.ex
  exact pe_call h3 hr hg h1 h2 h4 .nil passE0 ha hdb he hpl
theorem pe_cal0 (c : Cal X.prog X.w X.K X.mg X.base x ps k sp) (hr : Room k X.A) (hg : Gl X x) (hdb : (x == ("__debug__" : Str)) = false := by decide) : PE X (.Call (.Name x p) [] [] pos) (tCall sp [] E0 tNil) := by
  obtain ⟨f, fd, h1, h2, h3, h4⟩ := c.ex
  exact pe_call0 h3 hr hg h1 h2 h4 .nil passE0 hdb
/-- .. that may let an exception out -/
theorem pe_calS (tk : Takes X W) (c : Cal X.prog X.w X.K X.mg X.base x ps k sp) (hr : Room k X.A) (hg : Gl X x) (ha : PA X (e :: es) t) (hdb : (x == ("__debug__" : Str)) = false := by decide)
    (he : starEach (e :: es) X.env = (false, eval e X.env) :: starEach es X.env := by rfl) (hpl : (backTo pos (starEach es X.env)).any (·.1) = false := by rfl) : PE X (.Call (.Name x p) (e :: es) [] pos) (tCallS sp (WE W) t) := by
  obtain ⟨f, fd, h1, h2, h3, h4⟩ := c.ex
  exact pe_callS h3 hr hg h1 h2 h4 (fun σ => passAt tk σ) ha hdb he hpl
theorem pe_mcal {pl : Sem Bool} (c : MCal X.prog X.w X.K X.mg X.base C m ps k sp) (cl : Cls X.K C) (hr : Room k X.A) (he : PE X o ta) (ha : PA X (e :: es) t)
    (hst : starEach (e :: es) X.env = (false, eval e X.env) :: starEach es X.env := by rfl) (hpl : (backTo pos (starEach es X.env)).any (·.1) = false := by rfl)
    (ht : eval (.Call (.Attribute o m apos) (e :: es) [] pos) X.env = (do
      let ov ← eval o X.env
      standAt apos.atName
      let (f, first) ← holding [ov] (getMethod ov m pl)
      callWith pos f first (backTo pos (starEach (e :: es) X.env)) (backToKw pos (keywordEach [] X.env))) := by rfl) : PE X (.Call (.Attribute o m apos) (e :: es) [] pos) (tMeth C m sp [] E0 ta t) := by
  obtain ⟨f, fd, h1, h2, h3⟩ := c.ex
  exact pe_meth he cl h1 h2 hr h3 .nil passE0 ha hst hpl ht
theorem pe_mcal0 {pl : Sem Bool} (c : MCal X.prog X.w X.K X.mg X.base C m ps k sp) (cl : Cls X.K C) (hr : Room k X.A) (he : PE X o ta)
    (ht : eval (.Call (.Attribute o m apos) [] [] pos) X.env = (do
      let ov ← eval o X.env
      standAt apos.atName
      let (f, first) ← holding [ov] (getMethod ov m pl)
      callWith pos f first (backTo pos (starEach [] X.env)) (backToKw pos (keywordEach [] X.env))) := by rfl) : PE X (.Call (.Attribute o m apos) [] [] pos) (tMeth C m sp [] E0 ta tNil) := by
  obtain ⟨f, fd, h1, h2, h3⟩ := c.ex
  exact pe_meth0 he cl h1 h2 hr h3 .nil passE0 ht
/-- o.m(e, ..) that may let an exception out -/
def tMethS (C : Addr) (m : Str) (sp : Sp) (E : L2.St → XK) (ta : TE) (t : TA) : TE := fun σ H Q => ta σ H fun x H1 => ∃ a dx fs, x = .ref a ∧ H1 a = some (.ins C dx fs) ∧ fs.lookup m = none ∧
  t σ H1 fun vs H2 => sp (x :: vs) H2 Q (E σ)
theorem pe_mcalS {pl : Sem Bool} (tk : Takes X W) (c : MCal X.prog X.w X.K X.mg X.base C m ps k sp) (cl : Cls X.K C) (hr : Room k X.A) (he : PE X o ta) (ha : PA X (e :: es) t)
    (hst : starEach (e :: es) X.env = (false, eval e X.env) :: starEach es X.env := by rfl) (hpl : (backTo pos (starEach es X.env)).any (·.1) = false := by rfl)
    (ht : eval (.Call (.Attribute o m apos) (e :: es) [] pos) X.env = (do
      let ov ← eval o X.env
      standAt apos.atName
      let (f, first) ← holding [ov] (getMethod ov m pl)
      callWith pos f first (backTo pos (starEach (e :: es) X.env)) (backToKw pos (keywordEach [] X.env))) := by rfl) : PE X (.Call (.Attribute o m apos) (e :: es) [] pos) (tMethS C m sp (WE W) ta t) := by
  obtain ⟨f, fd, hm, F, hb⟩ := c.ex
  refine ⟨fun pins s σ H Q I h => ?_⟩
  refine PySem.W.methodCall_KW (pl := pl) (thn (he.run pins s σ H _ I h) fun u s1 ⟨x, H1, I1, rx, a, dx, fs, ex, ea, l, q⟩ => ?_) ht
  subst ex
  obtain rfl : u = Value.ref a := rx
  refine getmeth_ok I1 ea cl hm l ?_
  refine PySem.W.callWith_K (h₀ := X.base) (first := [.ref a]) I1.ok.mod.kin hm.kp (thn (ha.run pos pins _ σ H1 _ I1 q) fun us s2 ⟨vs, H2, I2, r, q2⟩ => ⟨I2.kIn, ?_⟩) hst hpl
  exact run_fnS (us := .ref a :: us) (vs := .ref a :: vs) F hr hb (passAt tk σ) I2 (.cons rfl r) q2
theorem pe_pcal (c : PCal X.prog X.w X.K X.mg X.base C m k sp) (cl : Cls X.K C) (hr : Room (k + 1) X.A) (he : PE X e ta) (hab : attributeBase e m X.env (eval e X.env) = eval e X.env := by rfl) : PE X (.Attribute e m pos) (tProp C sp [] E0 ta) := by
  obtain ⟨p, f, fd, h1, h2, h3⟩ := c.ex
  exact pe_prop he cl h1 h2 hr h3 .nil passE0 hab
theorem pe_kcal (c : KCal X.prog X.w X.K X.mg X.base x C ps k sp dvs) (hr : Room (k + 1) X.A) (hg : Gl X x) (ha : PA X (e :: es) t) (hdb : (x == ("__debug__" : Str)) = false := by decide)
    (he : starEach (e :: es) X.env = (false, eval e X.env) :: starEach es X.env := by rfl) (hpl : (backTo pos (starEach es X.env)).any (·.1) = false := by rfl) : PE X (.Call (.Name x p) (e :: es) [] pos) (tMake C sp dvs E0 t) := by
  obtain ⟨f, fd, ds, h1, h2, h3, h4, h5⟩ := c.ex
  exact pe_make h2 h3 hr hg h1 h4 h5 passE0 ha hdb he hpl
theorem pe_kcalN (c : KCalN X.prog X.w X.K X.mg X.base x C ps k sp n ks gV) (hr : Room (k + 1) X.A) (hg : Gl X x) (ha : PA X (e :: es) t) (hkw : PK X kws tk) (hall : (backToKw pos (keywordEach kws X.env)).all (·.1.isSome) = true := by rfl)
    (hks : (backToKw pos (keywordEach kws X.env)).filterMap (·.1) = ks := by rfl) (hdb : (x == ("__debug__" : Str)) = false := by decide) (he : starEach (e :: es) X.env = (false, eval e X.env) :: starEach es X.env := by rfl)
    (hpl : ((backTo pos (starEach (e :: es) X.env)).any (·.1) || (backToKw pos (keywordEach kws X.env)).any (·.1.isNone)) = false := by rfl) : PE X (.Call (.Name x p) (e :: es) kws pos) (tMakeN C n ks.length sp gV E0 t tk) := by
  obtain ⟨f, fd, g, h1, h2, h3, h4⟩ := c.ex
  exact pe_makeN h2 h3 hr hg h1 h4 passE0 ha hkw hall hks hdb he hpl
/-- C(..) that may let an exception out -/
def tMakeS (C : Addr) (sp : Sp) (dvs : List V) (E : L2.St → XK) (t : TA) : TE := fun σ H Q => t σ H fun vs H1 => ∀ x dx, H1 x = none → H1 dx = none → dx ≠ x →
  sp (.ref x :: (vs ++ dvs)) (upd (upd H1 dx (.own x)) x (.ins C dx [])) (fun v H2 => v = .non ∧ Q (.ref x) H2) (E σ)
theorem pe_kcalS (tk : Takes X W) (c : KCal X.prog X.w X.K X.mg X.base x C ps k sp dvs) (hr : Room (k + 1) X.A) (hg : Gl X x) (ha : PA X (e :: es) t) (hdb : (x == ("__debug__" : Str)) = false := by decide)
    (he : starEach (e :: es) X.env = (false, eval e X.env) :: starEach es X.env := by rfl) (hpl : (backTo pos (starEach es X.env)).any (·.1) = false := by rfl) : PE X (.Call (.Name x p) (e :: es) [] pos) (tMakeS C sp dvs (WE W) t) := by
  obtain ⟨f, fd, ds, hm, M, F, hb, hd⟩ := c.ex
  refine ⟨fun pins s σ H Q I h => ?_⟩
  refine wpAny_Call_Name_kw (ld_glob I hg hm ?_ hdb)
  refine PySem.W.callWith_K (h₀ := X.base) I.ok.mod.kin M.kp (thn (ha.run pos pins s σ H _ I h) fun us s1 ⟨vs, H1, I1, r, h⟩ => ⟨I1.kIn, ?_⟩) he hpl
  have hq := h (s1.heap.objs.size + 1) s1.heap.objs.size (I1.hok.fresh (Nat.le_succ _)) (I1.hok.fresh (Nat.le_refl _)) (Nat.ne_of_lt (Nat.lt_succ_self _))
  have I2 := Inv.made (C := C) I1
  have r2 : Vals (V.ref (s1.heap.objs.size + 1) :: (vs ++ dvs)) (Value.ref (s1.heap.objs.size + 1) :: (us ++ ds)) := .cons rfl (r.append hd)
  have hl : (Value.ref (s1.heap.objs.size + 1) :: us ++ ds).length = ps.length := by
    have e := r2.length
    rw [F.len _ _ _ _ hq] at e
    exact e.symm
  refine wpAny_call (make_map (f := f) I1.kIn M.makes M.init (beq_iff_eq.mp M.fn) (codeAny_mono (F.run _ X.stack _ _ ⟨Value.ref (s1.heap.objs.size + 1) :: us, []⟩ (Value.ref (s1.heap.objs.size + 1) :: (us ++ ds)) _ _ (WE W σ) (hr.make C us [])
    (I2.env0.make C us []) (hb _ (Value.ref (s1.heap.objs.size + 1) :: us) I2.kIn hl) r2 hq) fun r s' hq' => ?_))
  match r, hq' with
  | .error e, hq' => exact passAt tk σ pins _ _ e s' I2 hq'
  | .ok .next, hq' => exact hq'.elim
  | .ok .brk, hq' => exact hq'.elim
  | .ok .cont, hq' => exact hq'.elim
  | .ok (.ret u), hq' =>
    obtain ⟨v, H', I3, rv, ev, q3⟩ := I2.after hq'
    subst ev
    exact ⟨rv, ⟨V.ref (s1.heap.objs.size + 1), H', I3, rfl, q3⟩⟩
end
/-! ### str of an instance -/
section
variable {X : Cx} {CX : CXT} {k : Nat} {C f : Addr} {fd : FuncData} {ps : List Str} {sp : Sp} {E : XK}
def rStrOwn (C : Addr) (sp : Sp) (E : XK) : List V → Hp → VK → Prop := fun xs H Q => ∃ a dx fs, xs = [.ref a] ∧ H a = some (.ins C dx fs) ∧ sp [.ref a] H (fun v H' => ∃ z, v = .str z ∧ Q v H') E
theorem call_strOwn (hs : PySem.W.findIn X.K (.ref C) "__str__" = some (some (.ref f))) (hf : PySem.W.isFn X.K (.ref f) = true) (F : FnOk X.prog X.w X.K X.mg X.base CX k f fd ps sp) (hr : Room (k + 2) X.A) (hb : Binds X.K fd ps []) (hx : Passes CX X E) :
    CallR X (.type "str") (rStrOwn C sp E) := by
  intro pins s σ H xs us Q I r h
  obtain ⟨a, dx, fs, rfl, ha, q⟩ := h
  obtain ⟨u, rfl, ru⟩ := vals1 r
  cases (show u = Value.ref a from ru)
  obtain ⟨od, J⟩ := ins_inst I ha
  have hl : ([Value.ref a] ++ []).length = ps.length := F.len _ _ _ _ q
  have hr2 : Room k X.A.in1.in1 := (show Room (k + 1) X.A.in1 from Room.in1 hr).in1
  refine PySem.W.kso_call hr2.units0 I.kIn J hs hf (wpAny_call (codeAny_mono (F.run X.A.in1.in1 X.stack s H ⟨[.ref a], []⟩ [.ref a] [.ref a] _ E hr2 I.env0.in1.in1 (hb s [.ref a] I.kIn hl) (.cons rfl .nil) q) fun r s' hq => ?_))
  match r, hq with
  | .error e, hq => exact hx pins σ H s e s' I hq
  | .ok .next, hq => exact hq.elim
  | .ok .brk, hq => exact hq.elim
  | .ok .cont, hq => exact hq.elim
  | .ok (.ret w), hq =>
    obtain ⟨v, H', I', rz, z, rfl, qz⟩ := I.after hq
    obtain ⟨t, rfl⟩ := (show ∃ t, w = Value.str z t from rz)
    exact ⟨.str z, H', I', ⟨t, rfl⟩, qz⟩
end
/-! ### // by any divisor -/
def CDivZ (_ j : Int) : Prop := j ≠ 0 ∧ j.natAbs.log2 < 9000
theorem op_fdivZ {X : Cx} : OpR X (binaryOp .FloorDiv) (rI CDivZ fun i j => .int (i.fdiv j)) := opI fun i j _ _ _ _ _ hc q => floordiv_int hc.1 q (.inl (PyProof.noPylong_of_log2 hc.2))
end J

set_option Elab.async false
set_option linter.all false
set_option maxRecDepth 100000
set_option maxHeartbeats 4000000
/-! J9: an own error without values, raised; isinstance of anything for one class. -/
namespace J
open PySem PySem.Spec PyProof.Rows L2

/-- isinstance(v, c), c one class -/
def rIsG (K : PySem.W.Frag) : List V → Hp → VK → Prop := fun xs H Q => ∃ (v c : V) (t cv : Value) (b : Bool), xs = [v, c] ∧ TyOf K H v t ∧ (∀ u, RelV c u → u = cv) ∧ PySem.W.kitOne K t cv = some b ∧ Q (.bl b) H
theorem call_isG {X : Cx} : CallR X (.builtin "isinstance") (rIsG X.K) := by
  intro pins s σ H xs us Q I r h
  obtain ⟨v, c, t, cv, b, rfl, ht, hc, hb, q⟩ := h
  obtain ⟨u1, u2, rfl, r1, r2⟩ := vals2 r
  cases hc _ r2
  exact isinst_ok I r1 ht hb fun tk => ⟨.bl b, H, I.tok tk, rfl, q⟩
theorem relty {n : String} : ∀ u, RelV (.ty n) u → u = Value.type n := fun _ r => r
section
variable {X : Cx} {C fI : Addr} {k : Nat} {fd : FuncData} {ps : List Str} {x : Str} {p pos : Pos}
theorem mk_end0n {pins : List (Addr × Obj)} {σ : L2.St} {H1 H2 : Hp} {hp hp2 h2 : Heap} {g1 g2 : Array GenState} {d1 d2 : Drawn} {t1 t2 : Nat} {os1 os2 : OsState} {a C : Addr} (I1 : Inv X pins σ H1 ⟨hp, g1, d1, t1, os1⟩)
    (ha : hp.objs.size ≤ a) (k : ∀ b o, hp.get? b = some o → hp2.get? b = some o) (un : Un (frs X.stack) [] (upd H1 a (exo a C none)) H2 hp2 h2) (hok : HOk X.prog X.w H2 h2) (ho : os2 = os1) (hb : AllBare g2)
    (ea : H2 a = some (exo a C none)) :
    ∃ (t0 : Addr) (G : Heap), Inv X pins σ (del H2 a) ⟨G, g2, d2, t2, os2⟩ ∧ (∀ b o, G.get? b = some o → h2.get? b = some o) ∧ G.get? a = none ∧
      h2.get? a = some ({ cls := .ref C, dict := none, data := .fields #[.ref t0, .none, .none, .none, .bool false, .none] } : Obj) ∧ (del H2 a) a = none := by
  obtain ⟨t0, hoe⟩ := exo_at hok ea
  have hn : H1 a = none := I1.hok.fresh ha
  obtain ⟨G, g1', g2'⟩ := restrict h2 fun b => decide (b ≠ a)
  have gk : ∀ b, b ≠ a → G.get? b = h2.get? b := fun b hb => g1' b (decide_eq_true hb)
  have ge : G.get? a = none := g2' a (by simp)
  have nha : ∀ {b : Addr} {o : Obj}, hp.get? b = some o → b ≠ a := fun {b o} z => Nat.ne_of_lt (Nat.lt_of_lt_of_le (Heap.lt_size z) ha)
  have up : ∀ {b : Addr}, b ≠ a → H1 b = none → upd H1 a (exo a C none) b = none := fun {b} hb n => by rw [upd_ne hb]; exact n
  have U : Un (frs X.stack) [] H1 (del H2 a) hp G := {
    keep := fun b o z n hf hx => by
      rw [gk b (nha z)]
      exact un.keep b o (k b o z) (up (nha z) n) hf hx
    slot := fun b o z n hf hx => by
      rw [gk b (nha z)]
      exact un.slot b o (k b o z) (up (nha z) n) hf hx
    free := fun b o z n hx => by
      rw [del_ne (nha z)]
      exact un.free b o (k b o z) (up (nha z) n) hx
    there := fun b o z hx => by
      rw [gk b (nha z)]
      exact un.there b o (k b o z) hx
    tups := fun b xs z => by
      rw [del_ne (ne_of_none z hn)]
      exact un.tups b xs (by rw [upd_ne (ne_of_none z hn)]; exact z)
    frzs := fun b o v z => by
      rw [del_ne (ne_of_none z hn)]
      exact un.frzs b o v (by rw [upd_ne (ne_of_none z hn)]; exact z)
    tbls := fun b ps z => by
      rw [del_ne (ne_of_none z hn)]
      exact un.tbls b ps (by rw [upd_ne (ne_of_none z hn)]; exact z) }
  have hok3 : HOk X.prog X.w (del H2 a) G := fun b o z => by
    have hba : b ≠ a := fun e => by
      rw [e, del_same] at z
      cases z
    rw [del_ne hba] at z
    have noa : ∀ {c : Addr}, H2 c = some (.own b) → c ≠ a := fun {c} hc => at_ne ea hc exo_own
    exact (hok b o z).stay (fun c v hc y => by
        have hca : c ≠ a := by
          rcases hc with hc | hc
          · rw [hc]
            exact hba
          · exact noa hc
        rw [gk c hca]
        exact y)
      (fun c hc => by rw [del_ne (noa hc)]; exact hc) (fun c xs hc => by rw [del_ne (at_ne ea hc exo_tup)]; exact hc)
  have J : Inv X pins σ (del H2 a) ⟨G, g2, d2, t2, os2⟩ := I1.call' (ch := []) ho U hok3 hb (fun b z => absurd z (by simp))
  refine ⟨t0, G, J, fun b o z => ?_, ge, hoe, del_same⟩
  by_cases hba : b = a
  · rw [hba, ge] at z
    cases z
  · exact (gk b hba).symm.trans z
theorem del_upd {H : Hp} {a : Addr} {o : HO} (h : H a = none) : del (upd H a o) a = H := by
  funext b
  by_cases e : b = a
  · subst e
    rw [del_same, h]
  · rw [del_ne e, upd_ne e]
/-- C(), its __init__ sets nothing; to be raised -/
theorem pmk_err0 (T : ErrC X.K C fI) (F : FnOk X.prog X.w X.K X.mg X.base CX0 k fI fd ps (spErr0 C)) (hr : Room (k + 1) X.A) (hb : Binds X.K fd ps []) (hg : Gl X x) (hm : X.mg x = some (.ref C)) (hdb : (x == ("__debug__" : Str)) = false := by decide) :
    PMk X (.Call (.Name x p) [] [] pos) (fun _ H Q => Q (.ref C) none H) := by
  intro pins s σ H Q I h
  obtain ⟨nm, q, N, bs, bm, sn, sub, ab, col, dd, k0, k1, k2, k3, k5, hC, hbm⟩ := T.oex.cls
  refine wpAny_Call_Name_kw (ld_glob I hg hm ?_ hdb)
  refine PySem.W.callWith_K0 I.kIn T.oex.kC ?_
  show wpAny _ _ (call (.ref C) []) _ _ _
  obtain ⟨hp, g, dr, tk, os⟩ := s
  have hsz : hp.objs.size ≤ hp.objs.size + 1 := Nat.le_succ _
  have hn : H (hp.objs.size + 1) = none := I.hok.fresh hsz
  have kk : ∀ b o, hp.get? b = some o → ((hp.push (PySem.W.kdv_tup [])).push (PySem.HandSPX.excO C hp.objs.size)).get? b = some o := fun b o e => Heap.get?_push_of_some _ (Heap.get?_push_of_some _ e)
  have hget : ((hp.push (PySem.W.kdv_tup [])).push (PySem.HandSPX.excO C hp.objs.size)).get? (hp.objs.size + 1) = some (PySem.HandSPX.excO C hp.objs.size) := by heap_get
  have I2 : Inv X pins σ (upd H (hp.objs.size + 1) (exo (hp.objs.size + 1) C none)) ⟨(hp.push (PySem.W.kdv_tup [])).push (PySem.HandSPX.excO C hp.objs.size), g, dr, tk, os⟩ :=
    I.laid (t' := tk) (a := hp.objs.size + 1) (o := exo (hp.objs.size + 1) C none) (h' := (hp.push (PySem.W.kdv_tup [])).push (PySem.HandSPX.excO C hp.objs.size)) kk hsz (exo_ok hget)
  have hq : spErr0 C [.ref (hp.objs.size + 1)] (upd H (hp.objs.size + 1) (exo (hp.objs.size + 1) C none)) (fun v H2 => v = .non ∧ H2 = upd H (hp.objs.size + 1) (exo (hp.objs.size + 1) C none)) E0 := ⟨_, rfl, upd_same, rfl, rfl⟩
  have hl : ([Value.ref (hp.objs.size + 1)] ++ []).length = ps.length := F.len _ _ _ _ hq
  refine wpAny_call (PySem.HandSPX.call_own PySem.F.excBase_ValueError (fun Y => PySem.HandSPX.refsVE_contains Y bm hbm) (I.kIn _ _ hC) (PySem.W.looks_findIn I.kIn T.ini) (fun self => PySem.W.bind_fn I.kIn self T.fn) (Nat.zero_le _)
    (codeAny_mono (F.run _ X.stack _ _ ⟨[Value.ref (hp.objs.size + 1)], []⟩ [Value.ref (hp.objs.size + 1)] [.ref (hp.objs.size + 1)] _ E0 (hr.make C [] []) (I2.env0.make C [] []) (hb _ [Value.ref (hp.objs.size + 1)] I2.kIn hl) (.cons rfl .nil) hq) fun r s' hq' => ?_))
  match r, hq' with
  | .error e, hq' => exact hq'.elim
  | .ok .next, hq' => exact hq'.elim
  | .ok .brk, hq' => exact hq'.elim
  | .ok .cont, hq' => exact hq'.elim
  | .ok (.ret u), hq' =>
    obtain ⟨v, H2, os2, bare2, un2, hok2, rv, rfl, eH⟩ := hq'
    obtain ⟨h2, g2, d2, t2, os'⟩ := s'
    obtain ⟨t0, G, J, kG, ge, hoe, na⟩ := mk_end0n (d2 := d2) (t2 := t2) I hsz kk un2 hok2 os2 bare2 (by rw [eH, upd_same])
    have eq : del H2 (hp.objs.size + 1) = H := by rw [eH]; exact del_upd hn
    rw [eq] at J na
    exact ⟨rv, hp.objs.size + 1, _, _, ⟨G, g2, d2, t2, os'⟩, _, .ref C, none, rfl, J, kG, ge, hoe, ⟨rfl, rfl⟩, rfl, rfl, na, rfl, bare2, raises_own T.oex.exC T.oex.tyC, h⟩
end
end J

set_option Elab.async false
set_option linter.all false
set_option maxRecDepth 100000
set_option maxHeartbeats 4000000
/-! J10: the Hook once more, a def's place told by a function of the written part (a property's getter too). -/
namespace J
open PySem PySem.Spec PyProof.Rows L2

structure DefJ where
  ad : PySem.W.Frag → Addr
  d : He.DefD
/-- the getter of the property f of the class x -/
def pa (x f : Str) : PySem.W.Frag → Addr := fun K => match PySem.W.recIn K (He.ma K (He.ga K x) f) "property" with
  | some (.ref g :: _) => g
  | _ => 0
/-- what a written object points to; a property's three functions too -/
def refsJ (o : Obj) : List Addr := He.refsD o ++ match o.cls, o.data with
  | .type "property", .fields vs => vs.toList.flatMap He.refV
  | _, _ => []
def growJ (g : Addr → Option Obj) (as : List Addr) : List Addr := (as ++ as.flatMap fun a => match g a with
  | some o => refsJ o
  | none => []).eraseDups
def asK (g : Addr → Option Obj) : Nat → List Addr
  | 0 => [mainGlobals, cStatics]
  | n + 1 => growJ g (asK g n)
def fnJ (K : PySem.W.Frag) (a : Addr) : He.FnW := match K.lookup a with
  | some ⟨_, _, .func fd, _⟩ => some (fd.name, fd.qualname, fd.params, fd.body, fd.scope, fd.globals, fd.closure, fd.builtins)
  | _ => none
def DefJ.ok (K : PySem.W.Frag) (q : DefJ) : Bool := PySem.W.keepIn K (.ref (q.ad K)) && (match K.lookup (q.ad K) with
  | some ⟨_, _, .func fd, _⟩ => PySem.W.codeIn K fd.code q.d.qual && (He.dflB K fd.defaults (q.d.dvs K) && He.kwdB K fd.kwdefaults (q.d.kws K))
  | _ => false)
theorem DefJ.funD {K : PySem.W.Frag} {q : DefJ} (e : fnJ K (q.ad K) = q.d.val) (c : q.ok K = true) : ∃ fd, FunD K q.d.name q.d.qual q.d.params q.d.body q.d.scope (q.d.dvs K) (q.d.kws K) (q.ad K) fd := by
  obtain ⟨ad, d⟩ := q
  obtain ⟨kp, c2⟩ := He.ba c
  unfold fnJ at e
  dsimp only at e c2 kp ⊢
  cases z : K.lookup (ad K) with
  | none =>
    rw [z] at c2
    cases c2
  | some o =>
    obtain ⟨oc, od, dt, osl⟩ := o
    rw [z] at c2 e
    cases dt with
    | func fd =>
      obtain ⟨n1, n2, n3, n4, n5, n6, n7, n8, n9, n10, n11, n12, n13, n14, n15⟩ := fd
      have e2 : (some (n1, n2, n3, n4, n5, n6, n7, n15) : He.FnW) = some (d.name, d.qual, d.params, .stmts d.body, d.scope, mainGlobals, [], builtinsNs) := e
      simp only [Option.some.injEq, Prod.mk.injEq] at e2
      obtain ⟨h1, h2, h3, h4, h5, h6, h7, h8⟩ := e2
      subst h1 h2 h3 h4 h5 h6 h7 h8
      have c3 : (PySem.W.codeIn K n13 d.qual && (He.dflB K n8 (d.dvs K) && He.kwdB K n9 (d.kws K))) = true := c2
      obtain ⟨k1, k2⟩ := He.ba c3
      obtain ⟨k3, k4⟩ := He.ba k2
      exact ⟨_, ⟨oc, od, n8, n9, n10, n11, n12, n13, n14, osl, rfl, z, k1, He.dflB_ok k3, He.kwdB_ok k4⟩, kp⟩
    | _ => cases c2
def obsK (bs : List Bf) (fn : List DefJ) (K : PySem.W.Frag) : He.AlD := ((bs.all fun b => b K) && fn.all fun q => q.ok K, fn.map fun q => fnJ K (q.ad K))
def valK (fn : List DefJ) : He.AlD := (true, fn.map fun q => q.d.val)
def SaysK (bs : List Bf) (fn : List DefJ) (K : PySem.W.Frag) : Prop := obsK bs fn K = valK fn
def obsKG (n : Nat) (bs : List Bf) (fn : List DefJ) (g : Addr → Option Obj) : He.AlD := obsK bs fn (He.frG g (asK g n))
def hookK (n : Nat) (bs : List Bf) (fn : List DefJ) : PySem.W.Hook where
  α := He.AlD
  obs := fun s => obsKG n bs fn s.heap.get?
  val := fun _ => valK fn
  says := fun _ h => ∃ K : PySem.W.Frag, K.In h ∧ SaysK bs fn K
  of := fun _ _ e => ⟨_, He.frG_in, e⟩
  keeps := fun _ _ _ ⟨K, hK, c⟩ k => ⟨K, PySem.W.Frag.In.keeps hK k, c⟩
theorem obsKG_eq {n : Nat} {bs : List Bf} {fn : List DefJ} {g : Addr → Option Obj} {s : Shared} (h : ∀ a, g a = s.heap.get? a) : obsKG n bs fn g = (hookK n bs fn).obs s := by
  have e : g = s.heap.get? := funext h
  rw [e] <;> rfl
section
variable {bs : List Bf} {fn : List DefJ} {K : PySem.W.Frag}
theorem SaysK.fact (c : SaysK bs fn K) (i : Nat) {b : Bf} (h : bs[i]? = some b := by rfl) : b K = true := by
  have c1 := (He.ba (show ((bs.all fun b => b K) && fn.all fun d => d.ok K) = true from congrArg (fun z : He.AlD => z.1) c)).1
  exact List.all_eq_true.mp c1 b (List.mem_of_getElem? h)
theorem SaysK.def_ (c : SaysK bs fn K) (i : Nat) {q : DefJ} (h : fn[i]? = some q := by rfl) : ∃ fd, FunD K q.d.name q.d.qual q.d.params q.d.body q.d.scope (q.d.dvs K) (q.d.kws K) (q.ad K) fd := by
  have c2 := (He.ba (show ((bs.all fun b => b K) && fn.all fun d => d.ok K) = true from congrArg (fun z : He.AlD => z.1) c)).2
  have e : fn.map (fun q => fnJ K (q.ad K)) = fn.map fun q => q.d.val := congrArg (fun z : He.AlD => z.2) c
  have e2 : (fn.map fun q => fnJ K (q.ad K))[i]? = (fn.map fun q => q.d.val)[i]? := by rw [e]
  rw [List.getElem?_map, List.getElem?_map, h] at e2
  exact DefJ.funD (Option.some.inj e2) (List.all_eq_true.mp c2 q (List.mem_of_getElem? h))
end
/-! ### facts of an own class as Bools -/
/-- class x is made by its __init__, its fields fs are its instances' own; isinstance is asked of it -/
def clsJ (x : Str) (fs : List Str) : Bf := fun K =>
  He.eqO (PySem.W.nsIn K mainGlobals x) (some (some (.ref (He.ga K x)))) && (PySem.W.plainGet K (He.ga K x) Str.empty && (PySem.W.hasDictIn K (He.ga K x) && (PySem.W.plainOver K (He.ga K x) &&
  (He.eqO (PySem.W.findIn K (.ref (He.ga K x)) "__setattr__") (some (some (.builtin "object.__setattr__"))) && (PySem.W.makesIn K (He.ga K x) && (He.eqO (PySem.W.findIn K (.ref (He.ga K x)) "__init__") (some (some (.ref (He.ma K (He.ga K x) "__init__")))) &&
  (PySem.W.isFn K (.ref (He.ma K (He.ga K x) "__init__")) && (PySem.W.keepIn K (.ref (He.ga K x)) && ((fs.all fun f => He.eqO (PySem.W.findIn K (.ref (He.ga K x)) f) (some none)) &&
  (He.eqO (PySem.W.findIn K (.ref (He.ga K x)) "__class__") (some (some (.builtin "object.__class__"))) && (He.eqO (PySem.W.specialIn K (.builtin "object.__class__") "__get__") (some (some (.builtin "getset_descriptor.__get__"))) &&
  (decide (PySem.W.takesIn K (.builtin "object.__class__") = some true) && decide (PySem.W.mroIn K (He.ga K x) (.type "object") = some true)))))))))))))
structure ClsJ (K : PySem.W.Frag) (mg : Str → Option Value) (x : Str) (fs : List Str) : Prop where
  g : mg x = some (.ref (He.ga K x))
  cl : Cls K (He.ga K x)
  mkc : Mk K (He.ga K x) (He.ma K (He.ga K x) "__init__")
  no : ∀ f ∈ fs, NoAttr K (He.ga K x) f
  c1 : PySem.W.findIn K (.ref (He.ga K x)) "__class__" = some (some (.builtin "object.__class__"))
  c2 : PySem.W.specialIn K (.builtin "object.__class__") "__get__" = some (some (.builtin "getset_descriptor.__get__"))
  c3 : PySem.W.takesIn K (.builtin "object.__class__") = some true
  c4 : PySem.W.mroIn K (He.ga K x) (.type "object") = some true
theorem clsJ_ok {K : PySem.W.Frag} {h : Heap} {mg : Str → Option Value} {x : Str} {fs : List Str} (X : K.In h) (G : h.Ns mainGlobals mg) (c : clsJ x fs K = true) : ClsJ K mg x fs := by
  obtain ⟨h0, c⟩ := He.ba c
  obtain ⟨h1, c⟩ := He.ba c
  obtain ⟨h2, c⟩ := He.ba c
  obtain ⟨h3, c⟩ := He.ba c
  obtain ⟨h4, c⟩ := He.ba c
  obtain ⟨h5, c⟩ := He.ba c
  obtain ⟨h6, c⟩ := He.ba c
  obtain ⟨h7, c⟩ := He.ba c
  obtain ⟨h8, c⟩ := He.ba c
  obtain ⟨h9, c⟩ := He.ba c
  obtain ⟨h10, c⟩ := He.ba c
  obtain ⟨h11, c⟩ := He.ba c
  obtain ⟨h12, h13⟩ := He.ba c
  exact ⟨PySem.W.mg_of X G (He.eqO_ok h0), ⟨h1, h2, h3, He.eqO_ok h4⟩, ⟨h5, He.eqO_ok h6, h7, h8⟩, fun f hf => He.eqO_ok (List.all_eq_true.mp h9 f hf), He.eqO_ok h10, He.eqO_ok h11, of_decide_eq_true h12, of_decide_eq_true h13⟩
theorem ClsJ.ty {K : PySem.W.Frag} {mg : Str → Option Value} {x : Str} {fs : List Str} (c : ClsJ K mg x fs) {H : Hp} {a dx : Addr} {gs : List (Str × V)} (e : H a = some (.ins (He.ga K x) dx gs)) : TyOf K H (.ref a) (.ref (He.ga K x)) := .ins e c.cl c.c1 c.c2 c.c3 c.c4
/-- a method -/
def methJ (x m : Str) : Bf := fun K => He.eqO (PySem.W.findIn K (.ref (He.ga K x)) m) (some (some (.ref (He.ma K (He.ga K x) m)))) && (PySem.W.isFn K (.ref (He.ma K (He.ga K x) m)) && PySem.W.keepIn K (.ref (He.ma K (He.ga K x) m)))
theorem methJ_ok {K : PySem.W.Frag} {x m : Str} (c : methJ x m K = true) : Meth K (He.ga K x) m (He.ma K (He.ga K x) m) := by
  obtain ⟨h0, c⟩ := He.ba c
  obtain ⟨h1, h2⟩ := He.ba c
  exact ⟨He.eqO_ok h0, h1, h2⟩
def propJ (x f : Str) : Bf := fun K => He.eqO (PySem.W.findIn K (.ref (He.ga K x)) f) (some (some (.ref (He.ma K (He.ga K x) f)))) && (He.eqO (PySem.W.specialIn K (.ref (He.ma K (He.ga K x) f)) "__get__") (some (some (.builtin "property.__get__"))) &&
  (decide (PySem.W.takesIn K (.ref (He.ma K (He.ga K x) f)) = some true) && (match PySem.W.recIn K (He.ma K (He.ga K x) f) "property" with
    | some (.ref _ :: _) => true
    | _ => false)))
theorem propJ_ok {K : PySem.W.Frag} {x f : Str} (c : propJ x f K = true) : PropOf K (He.ga K x) f (He.ma K (He.ga K x) f) (pa x f K) := by
  obtain ⟨h0, c⟩ := He.ba c
  obtain ⟨h1, c⟩ := He.ba c
  obtain ⟨h2, h3⟩ := He.ba c
  refine ⟨He.eqO_ok h0, He.eqO_ok h1, of_decide_eq_true h2, ?_⟩
  unfold pa
  split at h3
  · rename_i g rest e
    rw [e]
    exact ⟨rest, rfl⟩
  · cases h3
/-- an operator's two defs -/
def opJ (x : Str) (nm : String) : Bf := fun K => methJ x (PySem.dunder nm) K && (methJ x (PySem.dunderR nm) K && He.eqO (PySem.W.findIn K (.ref (He.ga K x)) (PySem.dunderI nm)) (some none))
theorem opJ_ok {K : PySem.W.Frag} {x : Str} {nm : String} (c : opJ x nm K = true) : OpC K (He.ga K x) nm (He.ma K (He.ga K x) (PySem.dunder nm)) (He.ma K (He.ga K x) (PySem.dunderR nm)) := by
  obtain ⟨h0, c⟩ := He.ba c
  obtain ⟨h1, h2⟩ := He.ba c
  have a := methJ_ok h0
  have b := methJ_ok h1
  exact ⟨a.at_, a.fn, b.at_, b.fn, He.eqO_ok h2⟩
def ownJ (x : Str) : Bf := fun K => PySem.W.selfFirst K (He.ga K x) && (PySem.W.mroTwo K (He.ga K x) && (decide (PySem.W.subIn K (.ref (He.ga K x)) (.type "object") = some true) && He.eqO (PySem.W.findIn K (.ref (He.ga K x)) "__ne__") (some (some (.builtin "object.__ne__")))))
theorem ownJ_ok {K : PySem.W.Frag} {x : Str} (c : ownJ x K = true) : OwnC K (He.ga K x) ∧ PySem.W.findIn K (.ref (He.ga K x)) "__ne__" = some (some (.builtin "object.__ne__")) := by
  obtain ⟨h0, c⟩ := He.ba c
  obtain ⟨h1, c⟩ := He.ba c
  obtain ⟨h2, h3⟩ := He.ba c
  exact ⟨⟨h0, h1, of_decide_eq_true h2⟩, He.eqO_ok h3⟩
/-- the class x and Python's own T have nothing to do with one another; isinstance's answers -/
def apartJ (x : Str) (T : String) : Bf := fun K => decide (PySem.W.subIn K (.type T) (.ref (He.ga K x)) = some false) && (decide (PySem.W.subIn K (.ref (He.ga K x)) (.type T) = some false) &&
  (decide (PySem.W.kitOne K (.type T) (.ref (He.ga K x)) = some false) && decide (PySem.W.kitOne K (.ref (He.ga K x)) (.type T) = some false)))
structure ApartJ (K : PySem.W.Frag) (x : Str) (T : String) : Prop where
  ap : Apart K (He.ga K x) T
  k1 : PySem.W.kitOne K (.type T) (.ref (He.ga K x)) = some false
  k2 : PySem.W.kitOne K (.ref (He.ga K x)) (.type T) = some false
theorem apartJ_ok {K : PySem.W.Frag} {x : Str} {T : String} (c : apartJ x T K = true) : ApartJ K x T := by
  obtain ⟨h0, c⟩ := He.ba c
  obtain ⟨h1, c⟩ := He.ba c
  obtain ⟨h2, h3⟩ := He.ba c
  exact ⟨⟨of_decide_eq_true h0, of_decide_eq_true h1⟩, of_decide_eq_true h2, of_decide_eq_true h3⟩
theorem kit_self {K : PySem.W.Frag} {C : Addr} : PySem.W.kitOne K (.ref C) (.ref C) = some true := by
  unfold PySem.W.kitOne
  rw [if_pos (by simp)]
end J

set_option Elab.async false
set_option linter.all false
set_option maxRecDepth 100000
set_option maxHeartbeats 4000000
/-! N1: values as pure data, settled and unsettled heaps, the mirror's monad, readings by pure slots. -/
namespace N
open PySem PySem.Spec PyProof.Rows L2 J

/-! ### data -/
inductive D where
  | non | bl (b : Bool) | int (i : Int) | str (s : Str)
  | tup (xs : List D) | lst (xs : List D) | ins (c : Str) (fs : List (Str × D)) | dic (kvs : List (Key × D))
mutual
/-- v is d in the settled heap G -/
inductive Rep (K : PySem.W.Frag) (G : Hp) : V → D → Prop
  | non : Rep K G .non .non
  | bl (b : Bool) : Rep K G (.bl b) (.bl b)
  | int (i : Int) : Rep K G (.int i) (.int i)
  | str (s : Str) : Rep K G (.str s) (.str s)
  | tup {p : Addr} {xs : List V} {ds : List D} : SqT K G p xs → Reps K G xs ds → Rep K G (.ref p) (.tup ds)
  | lst {p : Addr} {xs : List V} {ds : List D} : G p = some (.lst xs) → Reps K G xs ds → Rep K G (.ref p) (.lst ds)
  | ins {p dx : Addr} {c : Str} {fs : List (Str × V)} {ds : List (Str × D)} : G p = some (.ins (He.ga K c) dx fs) → RepF K G fs ds → Rep K G (.ref p) (.ins c ds)
  | dic {p : Addr} {kvs : List (Key × V)} {ds : List (Key × D)} : G p = some (.dK kvs) → RepK K G kvs ds → Rep K G (.ref p) (.dic ds)
inductive Reps (K : PySem.W.Frag) (G : Hp) : List V → List D → Prop
  | nil : Reps K G [] []
  | cons {v : V} {d : D} {vs : List V} {ds : List D} : Rep K G v d → Reps K G vs ds → Reps K G (v :: vs) (d :: ds)
inductive RepF (K : PySem.W.Frag) (G : Hp) : List (Str × V) → List (Str × D) → Prop
  | nil : RepF K G [] []
  | cons {n : Str} {v : V} {d : D} {vs : List (Str × V)} {ds : List (Str × D)} : Rep K G v d → RepF K G vs ds → RepF K G ((n, v) :: vs) ((n, d) :: ds)
inductive RepK (K : PySem.W.Frag) (G : Hp) : List (Key × V) → List (Key × D) → Prop
  | nil : RepK K G [] []
  | cons {n : Key} {v : V} {d : D} {vs : List (Key × V)} {ds : List (Key × D)} : Rep K G v d → RepK K G vs ds → RepK K G ((n, v) :: vs) ((n, d) :: ds)
end
section
variable {K : PySem.W.Frag} {G G' : Hp}
mutual
theorem Rep.ext (s : Same G G') : ∀ {v : V} {d : D}, Rep K G v d → Rep K G' v d
  | _, _, .non => .non
  | _, _, .bl b => .bl b
  | _, _, .int i => .int i
  | _, _, .str z => .str z
  | _, _, .tup h r => .tup (s.tupS h) (Reps.ext s r)
  | _, _, .lst h r => .lst (s _ _ h) (Reps.ext s r)
  | _, _, .ins h r => .ins (s _ _ h) (RepF.ext s r)
  | _, _, .dic h r => .dic (s _ _ h) (RepK.ext s r)
theorem Reps.ext (s : Same G G') : ∀ {v : List V} {d : List D}, Reps K G v d → Reps K G' v d
  | _, _, .nil => .nil
  | _, _, .cons h r => .cons (Rep.ext s h) (Reps.ext s r)
theorem RepF.ext (s : Same G G') : ∀ {v : List (Str × V)} {d : List (Str × D)}, RepF K G v d → RepF K G' v d
  | _, _, .nil => .nil
  | _, _, .cons h r => .cons (Rep.ext s h) (RepF.ext s r)
theorem RepK.ext (s : Same G G') : ∀ {v : List (Key × V)} {d : List (Key × D)}, RepK K G v d → RepK K G' v d
  | _, _, .nil => .nil
  | _, _, .cons h r => .cons (Rep.ext s h) (RepK.ext s r)
end
theorem Reps.length : ∀ {vs : List V} {ds : List D}, Reps K G vs ds → vs.length = ds.length
  | _, _, .nil => rfl
  | _, _, .cons _ r => by rw [List.length_cons, List.length_cons, r.length]
theorem Reps.get : ∀ {vs : List V} {ds : List D} {i : Nat} {d : D}, Reps K G vs ds → ds[i]? = some d → ∃ v, vs[i]? = some v ∧ Rep K G v d
  | _, _, _, _, .nil, e => by simp at e
  | _, _, 0, _, .cons r _, e => by simp at e; subst e; exact ⟨_, rfl, r⟩
  | _, _, i + 1, d, .cons _ t, e => by
    obtain ⟨u, h1, h2⟩ := Reps.get (i := i) (d := d) t (by simpa using e)
    exact ⟨u, by simpa using h1, h2⟩
theorem Reps.getV : ∀ {vs : List V} {ds : List D} {i : Nat} {v : V}, Reps K G vs ds → vs[i]? = some v → ∃ d, ds[i]? = some d ∧ Rep K G v d
  | _, _, _, _, .nil, e => by simp at e
  | _, _, 0, _, .cons r _, e => by simp at e; subst e; exact ⟨_, rfl, r⟩
  | _, _, i + 1, d, .cons _ t, e => by
    obtain ⟨u, h1, h2⟩ := Reps.getV (i := i) (v := d) t (by simpa using e)
    exact ⟨u, by simpa using h1, h2⟩
theorem Reps.append : ∀ {vs ws : List V} {ds es : List D}, Reps K G vs ds → Reps K G ws es → Reps K G (vs ++ ws) (ds ++ es)
  | _, _, _, _, .nil, s => s
  | _, _, _, _, .cons h r, s => .cons h (Reps.append r s)
theorem RepF.look : ∀ {vs : List (Str × V)} {ds : List (Str × D)} {n : Str} {d : D}, RepF K G vs ds → ds.lookup n = some d → ∃ v, vs.lookup n = some v ∧ Rep K G v d
  | _, _, _, _, .nil, e => by simp at e
  | _, _, n, d, .cons (n := m) h r, e => by
    by_cases q : n = m
    · subst q
      simp only [List.lookup, beq_self_eq_true] at e ⊢
      cases e
      exact ⟨_, rfl, h⟩
    · have q2 : (n == m) = false := by simpa using q
      simp only [List.lookup, q2] at e ⊢
      exact r.look e
end

/-- Lean's types as data -/
class ToD (α : Type) where
  d : α → D
open ToD (d)
instance : ToD D := ⟨id⟩
instance : ToD Int := ⟨.int⟩
instance : ToD Bool := ⟨.bl⟩
instance : ToD Str := ⟨.str⟩
instance : ToD Unit := ⟨fun _ => .non⟩
instance {α : Type} [ToD α] : ToD (List α) := ⟨fun xs => .lst (xs.map d)⟩
instance {α β : Type} [ToD α] [ToD β] : ToD (α × β) := ⟨fun p => .tup [d p.1, d p.2]⟩
/-- a tuple of any length -/
structure VT (α : Type) where
  l : List α
instance {α : Type} [ToD α] : ToD (VT α) := ⟨fun p => .tup (p.l.map d)⟩
structure T3 (α β γ : Type) where
  a : α
  b : β
  c : γ
instance {α β γ : Type} [ToD α] [ToD β] [ToD γ] : ToD (T3 α β γ) := ⟨fun p => .tup [d p.a, d p.b, d p.c]⟩

/-! ### the mirror's monad: box state, errors, stuck -/
inductive Res (α : Type) where
  | ok (a : α) | err (c : Str) (fs : List (Str × D)) | stuck
abbrev Bx := Int × Int × Int
def M (α : Type) := Bx → Bx × Res α
namespace M
variable {α β : Type}
def bind' (m : M α) (f : α → M β) : M β := fun b => match m b with
  | (b', .ok a) => f a b'
  | (b', .err c fs) => (b', .err c fs)
  | (b', .stuck) => (b', .stuck)
instance : Monad M where
  pure a := fun b => (b, .ok a)
  bind := bind'
theorem bind_def (m : M α) (f : α → M β) (b : Bx) : (m >>= f) b = match m b with
  | (b', .ok a) => f a b'
  | (b', .err c fs) => (b', .err c fs)
  | (b', .stuck) => (b', .stuck) := rfl
theorem pure_def (a : α) (b : Bx) : (pure a : M α) b = (b, .ok a) := rfl
instance : LawfulMonad M := LawfulMonad.mk' M
  (id_map := fun x => by
    funext b
    show bind' x (fun a => pure (id a)) b = x b
    unfold bind'
    split <;> rename_i h <;> rw [h] <;> rfl)
  (pure_bind := fun _ _ => rfl)
  (bind_assoc := fun x f g => by
    funext b
    show bind' (bind' x f) g b = bind' x (fun a => bind' (f a) g) b
    unfold bind'
    cases h : x b with
    | mk b' r => cases r <;> rfl)
def stuck : M α := fun b => (b, .stuck)
def raise (c : Str) (fs : List (Str × D)) : M α := fun b => (b, .err c fs)
def lft (r : Res α) : M α := fun b => (b, r)
def run (m : M α) : Res α := (m (0, 0, 0)).2
theorem run_pure (a : α) : run (pure a) = .ok a := rfl
theorem run_raise (c : Str) (fs : List (Str × D)) : run (raise c fs : M α) = .err c fs := rfl
theorem lft_ok (a : α) : lft (.ok a) = (pure a : M α) := rfl
theorem lft_err (c : Str) (fs : List (Str × D)) : lft (.err c fs) = (raise c fs : M α) := rfl
theorem raise_bind (c : Str) (fs : List (Str × D)) (f : α → M β) : (raise c fs : M α) >>= f = raise c fs := rfl
end M
open M

/-! ### what becomes of the heaps -/
/-- G: settled; all else that is tracked is kept but the box -/
structure Ex (x : Option Addr) (G H G' H' : Hp) : Prop where
  g : Same G G'
  gh : Same G' H'
  keep : ∀ p o, x ≠ some p → H p = some o → H' p = some o
  uns : ∀ p o, x ≠ some p → H p = some o → G p = none → G' p = none
theorem Ex.refl {x : Option Addr} {G H : Hp} (s : Same G H) : Ex x G H G H := ⟨Same.refl _, s, fun _ _ _ h => h, fun _ _ _ _ h => h⟩
theorem Ex.trans {x : Option Addr} {G H G1 H1 G2 H2 : Hp} (a : Ex x G H G1 H1) (b : Ex x G1 H1 G2 H2) : Ex x G H G2 H2 :=
  ⟨a.g.trans b.g, b.gh, fun p o n h => b.keep p o n (a.keep p o n h), fun p o n h g => b.uns p o n (a.keep p o n h) (a.uns p o n h g)⟩
/-- a new object, settled at once -/
theorem Ex.new {x : Option Addr} {G H : Hp} {p : Addr} {o : HO} (s : Same G H) (hp : H p = none) : Ex x G H (upd G p o) (upd H p o) := by
  have gp : G p = none := s.free hp
  refine ⟨fun a u h => ?_, fun a u h => ?_, fun a u _ h => ?_, fun a u _ h g => ?_⟩
  · rw [upd_ne (ne_of_none h gp)]; exact h
  · by_cases e : a = p
    · subst e; rw [upd_same] at h ⊢; exact h
    · rw [upd_ne e] at h ⊢; exact s _ _ h
  · rw [upd_ne (ne_of_none h hp)]; exact h
  · rw [upd_ne (ne_of_none h hp)]; exact g
/-- new, unsettled -/
theorem Ex.raw {x : Option Addr} {G H : Hp} {p : Addr} {o : HO} (s : Same G H) (hp : H p = none) : Ex x G H G (upd H p o) :=
  ⟨Same.refl _, fun a u h => by rw [upd_ne (ne_of_none (s _ _ h) hp)]; exact s _ _ h, fun a u _ h => by rw [upd_ne (ne_of_none h hp)]; exact h, fun _ _ _ _ g => g⟩
def BoxSt (x : Option Addr) (G H : Hp) (b : Bx) : Prop := ∀ p, x = some p → G p = none ∧ H p = some (.lst [.int b.1, .int b.2.1, .int b.2.2])
theorem boxNone {G H : Hp} {b : Bx} : BoxSt none G H b := fun _ e => nomatch e
theorem BoxSt.new {x : Option Addr} {G H : Hp} {b : Bx} {p : Addr} {o : HO} (h : BoxSt x G H b) (hp : H p = none) : BoxSt x (upd G p o) (upd H p o) b := fun q e => by
  obtain ⟨h1, h2⟩ := h q e
  have n : q ≠ p := ne_of_none h2 hp
  rw [upd_ne n, upd_ne n]; exact ⟨h1, h2⟩
theorem BoxSt.raw {x : Option Addr} {G H : Hp} {b : Bx} {p : Addr} {o : HO} (h : BoxSt x G H b) (hp : H p = none) : BoxSt x G (upd H p o) b := fun q e => by
  obtain ⟨h1, h2⟩ := h q e
  rw [upd_ne (ne_of_none h2 hp)]; exact ⟨h1, h2⟩
/-- an error's own dict -/
def RepX (K : PySem.W.Frag) (G : Hp) (dd : Option Addr) (fs : List (Str × D)) : Prop := (dd = none ∧ fs = []) ∨ ∃ a vs, dd = some a ∧ G a = some (.xd vs) ∧ RepF K G vs fs ∧ fs ≠ []
theorem RepX.ext {K : PySem.W.Frag} {G G' : Hp} {dd : Option Addr} {fs : List (Str × D)} (s : Same G G') : RepX K G dd fs → RepX K G' dd fs
  | .inl h => .inl h
  | .inr ⟨a, vs, e, h, r, n⟩ => .inr ⟨a, vs, e, s _ _ h, r.ext s, n⟩

/-! ### slots -/
inductive Sl where
  | any | val (d : D) | own (ds : List D) | box | slf (a dx : Addr) (c : Str) (fs : List (Str × D)) | exc (a : Addr) (dd : Option Addr) (c : Str) (fs : List (Str × D)) | dct (kvs : List (Key × D)) | fix (v : V)
def Sl.isOwn : Sl → Bool
  | .own _ => true
  | .slf _ _ _ _ => true
  | .dct _ => true
  | _ => false
def SlOk (K : PySem.W.Frag) (x : Option Addr) (G H : Hp) (o : Option V) : Sl → Prop
  | .any => True
  | .val d => ∃ v, o = some v ∧ Rep K G v d
  | .own ds => ∃ p xs, o = some (.ref p) ∧ G p = none ∧ H p = some (.lst xs) ∧ Reps K G xs ds
  | .box => ∃ p, o = some (.ref p) ∧ x = some p
  | .slf p dx c fs => ∃ vs, o = some (.ref p) ∧ G p = none ∧ H p = some (.ins (He.ga K c) dx vs) ∧ RepF K G vs fs
  | .exc a dd _ fs => o = some (.ref a) ∧ RepX K G dd fs
  | .dct kvs => ∃ p ks, o = some (.ref p) ∧ G p = none ∧ H p = some (.dK ks) ∧ RepK K G ks kvs
  | .fix v => o = some v
structure Env (K : PySem.W.Frag) (x : Option Addr) (σ : L2.St) (Γ : List Sl) (G H : Hp) : Prop where
  len : σ.length = Γ.length
  at_ : ∀ (i : Nat) (s : Sl) (o : Option V), Γ[i]? = some s → σ[i]? = some o → SlOk K x G H o s
  dis : ∀ (i j : Nat) (p : Addr) (s t : Sl), i ≠ j → Γ[i]? = some s → Γ[j]? = some t → s.isOwn = true → t.isOwn = true → σ[i]? = some (some (.ref p)) → σ[j]? = some (some (.ref p)) → False
  xne : ∀ (i : Nat) (p : Addr) (s : Sl), Γ[i]? = some s → s.isOwn = true → σ[i]? = some (some (.ref p)) → x ≠ some p
section
variable {K : PySem.W.Frag} {x : Option Addr} {σ : L2.St} {Γ : List Sl} {G H G' H' : Hp}
theorem SlOk.ext {o : Option V} {s : Sl} (e : Ex x G H G' H') (hx : s.isOwn = true → ∀ p, o = some (.ref p) → x ≠ some p) (h : SlOk K x G H o s) : SlOk K x G' H' o s := by
  cases s with
  | any => trivial
  | val d => obtain ⟨v, a, r⟩ := h; exact ⟨v, a, r.ext e.g⟩
  | own ds =>
    obtain ⟨p, xs, a, b, c, r⟩ := h
    exact ⟨p, xs, a, e.uns p _ (hx rfl p a) c b, e.keep p _ (hx rfl p a) c, r.ext e.g⟩
  | box => exact h
  | slf p dx c fs =>
    obtain ⟨vs, a, b, c, r⟩ := h
    exact ⟨vs, a, e.uns p _ (hx rfl p a) c b, e.keep p _ (hx rfl p a) c, r.ext e.g⟩
  | exc a dd c fs => exact ⟨h.1, h.2.ext e.g⟩
  | fix v => exact h
  | dct kvs =>
    obtain ⟨p, ks, a, b, c, r⟩ := h
    exact ⟨p, ks, a, e.uns p _ (hx rfl p a) c b, e.keep p _ (hx rfl p a) c, r.ext e.g⟩
theorem Env.ext (E : Env K x σ Γ G H) (e : Ex x G H G' H') : Env K x σ Γ G' H' :=
  ⟨E.len, fun i s o h1 h2 => (E.at_ i s o h1 h2).ext e fun hs p ho => E.xne i p s h1 hs (by rw [h2, ho]), E.dis, E.xne⟩
theorem Env.get (E : Env K x σ Γ G H) {i : Nat} {s : Sl} (h : Γ[i]? = some s) : ∃ o, σ[i]? = some o ∧ SlOk K x G H o s := by
  have l : i < σ.length := by rw [E.len]; exact (List.getElem?_eq_some_iff.mp h).1
  exact ⟨σ[i], List.getElem?_eq_getElem l, E.at_ i s _ h (List.getElem?_eq_getElem l)⟩
theorem Env.val (E : Env K x σ Γ G H) {i : Nat} {d : D} (h : Γ[i]? = some (.val d)) : ∃ v, σ[i]? = some (some v) ∧ Rep K G v d := by
  obtain ⟨o, h1, v, rfl, r⟩ := E.get h
  exact ⟨v, h1, r⟩
theorem Env.set (E : Env K x σ Γ G H) {i : Nat} {v : V} {s : Sl} (h : SlOk K x G H (some v) s) (hs : s.isOwn = false) : Env K x (σ.set i (some v)) (Γ.set i s) G H := by
  refine ⟨by rw [List.length_set, List.length_set, E.len], fun j t o h1 h2 => ?_, fun j k p t u ne h1 h2 o1 o2 e1 e2 => ?_, fun j p t h1 o1 e1 => ?_⟩
  · by_cases z : i = j
    · subst z
      by_cases l : i < Γ.length
      · rw [List.getElem?_set_self l] at h1
        rw [List.getElem?_set_self (by rw [E.len]; exact l)] at h2
        cases h1; cases h2; exact h
      · rw [List.getElem?_eq_none (by rw [List.length_set]; omega)] at h1; cases h1
    · rw [List.getElem?_set_ne z] at h1 h2
      exact E.at_ j t o h1 h2
  · have nj : i ≠ j := fun z => by
      subst z
      by_cases l : i < Γ.length
      · rw [List.getElem?_set_self l] at h1; cases h1; rw [hs] at o1; cases o1
      · rw [List.getElem?_eq_none (by rw [List.length_set]; omega)] at h1; cases h1
    have nk : i ≠ k := fun z => by
      subst z
      by_cases l : i < Γ.length
      · rw [List.getElem?_set_self l] at h2; cases h2; rw [hs] at o2; cases o2
      · rw [List.getElem?_eq_none (by rw [List.length_set]; omega)] at h2; cases h2
    rw [List.getElem?_set_ne nj] at h1 e1
    rw [List.getElem?_set_ne nk] at h2 e2
    exact E.dis j k p t u ne h1 h2 o1 o2 e1 e2
  · have nj : i ≠ j := fun z => by
      subst z
      by_cases l : i < Γ.length
      · rw [List.getElem?_set_self l] at h1; cases h1; rw [hs] at o1; cases o1
      · rw [List.getElem?_eq_none (by rw [List.length_set]; omega)] at h1; cases h1
    rw [List.getElem?_set_ne nj] at h1 e1
    exact E.xne j p t h1 o1 e1
theorem Env.setVal (E : Env K x σ Γ G H) {i : Nat} {v : V} {d : D} (r : Rep K G v d) : Env K x (σ.set i (some v)) (Γ.set i (.val d)) G H := E.set ⟨v, rfl, r⟩ rfl
/-- what is known may be forgotten -/
inductive Wk : List Sl → List Sl → Prop
  | nil : Wk [] []
  | any {s : Sl} {Γ Δ : List Sl} : Wk Γ Δ → Wk (s :: Γ) (.any :: Δ)
  | eq {s : Sl} {Γ Δ : List Sl} : Wk Γ Δ → Wk (s :: Γ) (s :: Δ)
theorem Wk.length : ∀ {Γ Δ : List Sl}, Wk Γ Δ → Γ.length = Δ.length
  | _, _, .nil => rfl
  | _, _, .any h => by rw [List.length_cons, List.length_cons, h.length]
  | _, _, .eq h => by rw [List.length_cons, List.length_cons, h.length]
theorem Wk.at_ : ∀ {Γ Δ : List Sl} {i : Nat} {t : Sl}, Wk Γ Δ → Δ[i]? = some t → t = .any ∨ Γ[i]? = some t
  | _, _, _, _, .nil, h => by simp at h
  | _, _, 0, _, .any w, h => .inl (by simpa using h.symm)
  | _, _, 0, _, .eq w, h => .inr (by simpa using h)
  | _, _, i + 1, t, .any w, h => by
    rcases Wk.at_ (i := i) (t := t) w (by simpa using h) with e | e
    · exact .inl e
    · exact .inr (by simpa using e)
  | _, _, i + 1, t, .eq w, h => by
    rcases Wk.at_ (i := i) (t := t) w (by simpa using h) with e | e
    · exact .inl e
    · exact .inr (by simpa using e)
theorem Wk.refl : ∀ (Γ : List Sl), Wk Γ Γ
  | [] => .nil
  | _ :: r => .eq (Wk.refl r)
theorem Env.wk {Δ : List Sl} (E : Env K x σ Γ G H) (w : Wk Γ Δ) : Env K x σ Δ G H := by
  refine ⟨by rw [E.len, w.length], fun i s o h1 h2 => ?_, fun i j p s t ne h1 h2 o1 o2 e1 e2 => ?_, fun i p s h1 o1 e1 => ?_⟩
  · rcases w.at_ h1 with rfl | e
    · trivial
    · exact E.at_ i s o e h2
  · rcases w.at_ h1 with rfl | f1
    · cases o1
    · rcases w.at_ h2 with rfl | f2
      · cases o2
      · exact E.dis i j p s t ne f1 f2 o1 o2 e1 e2
  · rcases w.at_ h1 with rfl | f1
    · cases o1
    · exact E.xne i p s f1 o1 e1
end

/-! ### readings -/
def FinE {α : Type} [ToD α] (K : PySem.W.Frag) (W : WX) (x : Option Addr) (σ : L2.St) (G H : Hp) (Q : VK) : Bx × Res α → Prop
  | (b', .ok a) => ∀ v G' H', Ex x G H G' H' → BoxSt x G' H' b' → Rep K G' v (d a) → Q v H'
  | (b', .err c fs) => ∀ dd G' H', Ex x G H G' H' → BoxSt x G' H' b' → RepX K G' dd fs → W (.ref (He.ga K c)) dd σ H'
  | (_, .stuck) => False
/-- te tells what m says, wherever the slots are as Γ says -/
def EvR {α : Type} [ToD α] (K : PySem.W.Frag) (W : WX) (te : TE) (Γ : List Sl) (m : M α) : Prop :=
  ∀ x σ G H b Q, Env K x σ Γ G H → Same G H → BoxSt x G H b → FinE K W x σ G H Q (m b) → te σ H Q
def FinT (K : PySem.W.Frag) (W : WX) (x : Option Addr) (σ : L2.St) (G H : Hp) (Q : Bool → Hp → Prop) : Bx × Res Bool → Prop
  | (b', .ok a) => ∀ G' H', Ex x G H G' H' → BoxSt x G' H' b' → Q a H'
  | (b', .err c fs) => ∀ dd G' H', Ex x G H G' H' → BoxSt x G' H' b' → RepX K G' dd fs → W (.ref (He.ga K c)) dd σ H'
  | (_, .stuck) => False
def EvT (K : PySem.W.Frag) (W : WX) (tt : TT) (Γ : List Sl) (m : M Bool) : Prop :=
  ∀ x σ G H b Q, Env K x σ Γ G H → Same G H → BoxSt x G H b → FinT K W x σ G H Q (m b) → tt σ H Q
section
variable {α β γ : Type} [ToD α] [ToD β] [ToD γ] {K : PySem.W.Frag} {W : WX} {te ta tb : TE} {Γ : List Sl} {m : M α}
theorem FinE.ex {x : Option Addr} {σ : L2.St} {G H G' H' : Hp} {Q : VK} {r : Bx × Res α} (e : Ex x G H G' H') (h : FinE K W x σ G H Q r) : FinE K W x σ G' H' Q r := by
  obtain ⟨b', r⟩ := r
  cases r with
  | ok a => exact fun v G1 H1 e1 => h v G1 H1 (e.trans e1)
  | err c fs => exact fun dd G1 H1 e1 => h dd G1 H1 (e.trans e1)
  | stuck => exact h
theorem FinT.ex {x : Option Addr} {σ : L2.St} {G H G' H' : Hp} {Q : Bool → Hp → Prop} {r : Bx × Res Bool} (e : Ex x G H G' H') (h : FinT K W x σ G H Q r) : FinT K W x σ G' H' Q r := by
  obtain ⟨b', r⟩ := r
  cases r with
  | ok a => exact fun G1 H1 e1 => h G1 H1 (e.trans e1)
  | err c fs => exact fun dd G1 H1 e1 => h dd G1 H1 (e.trans e1)
  | stuck => exact h
/-- what may be asked behind a step: kept by the heaps' growth, errors go out, never stuck -/
structure Good (K : PySem.W.Frag) (W : WX) (x : Option Addr) (σ : L2.St) {γ : Type} (F : Hp → Hp → Bx × Res γ → Prop) : Prop where
  ex : ∀ {G H G' H' : Hp} {r : Bx × Res γ}, Ex x G H G' H' → F G H r → F G' H' r
  er : ∀ {G H : Hp} {b' : Bx} {c : Str} {fs : List (Str × D)}, F G H (b', .err c fs) → ∀ dd G' H', Ex x G H G' H' → BoxSt x G' H' b' → RepX K G' dd fs → W (.ref (He.ga K c)) dd σ H'
  st : ∀ {G H : Hp} {b' : Bx}, F G H (b', .stuck) → False
theorem good_E {x : Option Addr} {σ : L2.St} {Q : VK} : Good K W x σ (fun G H r => FinE (α := β) K W x σ G H Q r) := ⟨fun e h => h.ex e, fun h => h, fun h => h⟩
theorem good_T {x : Option Addr} {σ : L2.St} {Q : Bool → Hp → Prop} : Good K W x σ (fun G H r => FinT K W x σ G H Q r) := ⟨fun e h => h.ex e, fun h => h, fun h => h⟩
section
variable {δ : Type}
/-- evaluate, then go on -/
theorem go {x : Option Addr} {σ : L2.St} {G H : Hp} {b : Bx} {Q : VK} {ma : M α} {F : Hp → Hp → Bx × Res δ → Prop} (g : Good K W x σ F) (hr : EvR K W te Γ ma) (E : Env K x σ Γ G H) (s : Same G H) (B : BoxSt x G H b) {f : α → M δ}
    (h : F G H ((ma >>= f) b)) (k : ∀ a b' v G' H', F G' H' (f a b') → Ex x G H G' H' → Env K x σ Γ G' H' → Same G' H' → BoxSt x G' H' b' → Rep K G' v (d a) → Q v H') : te σ H Q := by
  refine hr x σ G H b Q E s B ?_
  rw [M.bind_def] at h
  cases e : ma b with
  | mk b' r =>
    rw [e] at h
    cases r with
    | ok a => exact fun v G' H' e1 B1 r1 => k a b' v G' H' (g.ex e1 h) e1 (E.ext e1) e1.gh B1 r1
    | err c fs => exact g.er h
    | stuck => exact g.st h
theorem goT {x : Option Addr} {σ : L2.St} {G H : Hp} {b : Bx} {Q : Bool → Hp → Prop} {t : TT} {ma : M Bool} {F : Hp → Hp → Bx × Res δ → Prop} (g : Good K W x σ F) (hr : EvT K W t Γ ma) (E : Env K x σ Γ G H) (s : Same G H) (B : BoxSt x G H b) {f : Bool → M δ}
    (h : F G H ((ma >>= f) b)) (k : ∀ a b' G' H', F G' H' (f a b') → Ex x G H G' H' → Env K x σ Γ G' H' → Same G' H' → BoxSt x G' H' b' → Q a H') : t σ H Q := by
  refine hr x σ G H b Q E s B ?_
  rw [M.bind_def] at h
  cases e : ma b with
  | mk b' r =>
    rw [e] at h
    cases r with
    | ok a => exact fun G' H' e1 B1 => k a b' G' H' (g.ex e1 h) e1 (E.ext e1) e1.gh B1
    | err c fs => exact g.er h
    | stuck => exact g.st h
end
theorem step_E {x : Option Addr} {σ : L2.St} {G H : Hp} {b : Bx} {Q Q2 : VK} {ma : M α} (hr : EvR K W te Γ ma) (E : Env K x σ Γ G H) (s : Same G H) (B : BoxSt x G H b) {f : α → M β}
    (h : FinE K W x σ G H Q2 ((ma >>= f) b)) (k : ∀ a b' v G' H', FinE K W x σ G' H' Q2 (f a b') → Ex x G H G' H' → Env K x σ Γ G' H' → Same G' H' → BoxSt x G' H' b' → Rep K G' v (d a) → Q v H') : te σ H Q := go good_E hr E s B h k
theorem stepT_E {x : Option Addr} {σ : L2.St} {G H : Hp} {b : Bx} {Q : Bool → Hp → Prop} {Q2 : VK} {t : TT} {ma : M Bool} (hr : EvT K W t Γ ma) (E : Env K x σ Γ G H) (s : Same G H) (B : BoxSt x G H b) {f : Bool → M β}
    (h : FinE K W x σ G H Q2 ((ma >>= f) b)) (k : ∀ a b' G' H', FinE K W x σ G' H' Q2 (f a b') → Ex x G H G' H' → Env K x σ Γ G' H' → Same G' H' → BoxSt x G' H' b' → Q a H') : t σ H Q := goT good_E hr E s B h k
theorem stepT_T {x : Option Addr} {σ : L2.St} {G H : Hp} {b : Bx} {Q : Bool → Hp → Prop} {Q2 : Bool → Hp → Prop} {t : TT} {ma : M Bool} (hr : EvT K W t Γ ma) (E : Env K x σ Γ G H) (s : Same G H) (B : BoxSt x G H b) {f : Bool → M Bool}
    (h : FinT K W x σ G H Q2 ((ma >>= f) b)) (k : ∀ a b' G' H', FinT K W x σ G' H' Q2 (f a b') → Ex x G H G' H' → Env K x σ Γ G' H' → Same G' H' → BoxSt x G' H' b' → Q a H') : t σ H Q := goT good_T hr E s B h k
/-- the end of a reading: a value that needs nothing new -/
theorem FinE.here {x : Option Addr} {σ : L2.St} {G H : Hp} {Q : VK} {b : Bx} {a : α} {v : V} (h : FinE K W x σ G H Q ((pure a : M α) b)) (s : Same G H) (B : BoxSt x G H b) (r : Rep K G v (d a)) : Q v H := h v G H (Ex.refl s) B r
theorem FinE.new {x : Option Addr} {σ : L2.St} {G H : Hp} {Q : VK} {b : Bx} {a : α} {p : Addr} {o : HO} (h : FinE K W x σ G H Q ((pure a : M α) b)) (s : Same G H) (B : BoxSt x G H b) (hp : H p = none) (r : Rep K (upd G p o) (.ref p) (d a)) : Q (.ref p) (upd H p o) :=
  h (.ref p) _ _ (Ex.new s hp) (B.new hp) r
theorem FinT.here {x : Option Addr} {σ : L2.St} {G H : Hp} {Q : Bool → Hp → Prop} {b : Bx} {a : Bool} (h : FinT K W x σ G H Q ((pure a : M Bool) b)) (s : Same G H) (B : BoxSt x G H b) : Q a H := h G H (Ex.refl s) B
theorem FinE.stuck {x : Option Addr} {σ : L2.St} {G H : Hp} {Q : VK} {b : Bx} (h : FinE K W x σ G H Q ((M.stuck : M α) b)) : False := h
end
/-- a condition that must hold -/
noncomputable def need (p : Prop) : M Unit := open Classical in if p then pure () else M.stuck
theorem need_T {p : Prop} (h : p) : need p = pure () := if_pos h
end N

set_option Elab.async false
set_option linter.all false
set_option maxRecDepth 100000
set_option maxHeartbeats 4000000
/-! N2: expressions by the mirror. -/
namespace N
open PySem PySem.Spec PyProof.Rows L2 J
open ToD (d)
open M

/-! ### names, constants -/
section
variable {α β γ : Type} [ToD α] [ToD β] [ToD γ] {K : PySem.W.Frag} {W : WX} {te ta tb : TE} {Γ : List Sl}
theorem ev_var {i : Nat} {a : α} (h : Γ[i]? = some (.val (d a)) := by rfl) : EvR K W (tVar i) Γ (pure a) := fun x σ G H b Q E s B h' => by
  obtain ⟨v, h1, r⟩ := E.val h
  exact ⟨v, h1, h'.here s B r⟩
theorem ev_int {i : Int} : EvR K W (tC (.int i)) Γ (pure i) := fun x σ G H b Q E s B h' => h'.here s B (.int i)
theorem ev_str {i : Str} : EvR K W (tC (.str i)) Γ (pure i) := fun x σ G H b Q E s B h' => h'.here s B (.str i)
theorem ev_bl {i : Bool} : EvR K W (tC (.bl i)) Γ (pure i) := fun x σ G H b Q E s B h' => h'.here s B (.bl i)
theorem ev_non : EvR K W (tC .non) Γ (pure ()) := fun x σ G H b Q E s B h' => h'.here s B .non
/-- the same value under another type -/
theorem ev_as {m : M α} {f : α → β} (h : EvR K W te Γ m) (hf : ∀ a, d a = d (f a)) : EvR K W te Γ (do let a ← m; pure (f a)) := fun x σ G H b Q E s B h' =>
  step_E h E s B h' fun a b' v G' H' h2 e E2 s2 B2 r => h2.here s2 B2 (by rw [← hf]; exact r)

/-! ### operators by values -/
def OpM (K : PySem.W.Frag) (r : R2) (f : α → β → M γ) : Prop := ∀ (W : WX) x σ G H b Q a c v w, Same G H → BoxSt x G H b → Rep K G v (d a) → Rep K G w (d c) → FinE K W x σ G H Q (f a c b) → r v w H Q
def UnM (K : PySem.W.Frag) (r : V → Hp → VK → Prop) (f : α → M γ) : Prop := ∀ (W : WX) x σ G H b Q a v, Same G H → BoxSt x G H b → Rep K G v (d a) → FinE K W x σ G H Q (f a b) → r v H Q
theorem ev_op {r : R2} {f : α → β → M γ} {ma : M α} {mb : M β} (hr : OpM K r f) (h1 : EvR K W ta Γ ma) (h2 : EvR K W tb Γ mb) : EvR K W (tOp r ta tb) Γ (do let a ← ma; let b ← mb; f a b) := fun x σ G H b Q E s B h =>
  step_E (te := ta) h1 E s B h fun a b' v G' H' h' e E' s' B' ra => step_E (te := tb) h2 E' s' B' h' fun c b'' w G'' H'' h'' e' E'' s'' B'' rc => hr W x σ G'' H'' b'' Q a c v w s'' B'' (ra.ext e'.g) rc h''
theorem ev_un {r : V → Hp → VK → Prop} {f : α → M γ} {ma : M α} (hr : UnM K r f) (h1 : EvR K W ta Γ ma) : EvR K W (tUn r ta) Γ (do let a ← ma; f a) := fun x σ G H b Q E s B h =>
  step_E (te := ta) h1 E s B h fun a b' v G' H' h' e E' s' B' ra => hr W x σ G' H' b' Q a v s' B' ra h'
theorem om_pure {r : R2} {g : α → β → γ} (h : ∀ G H Q a c v w, Same G H → Rep K G v (d a) → Rep K G w (d c) → (∀ z, Rep K G z (d (g a c)) → Q z H) → r v w H Q) : OpM K r (fun a c => (pure (g a c) : M γ)) :=
  fun W x σ G H b Q a c v w s B ra rc hf => h G H Q a c v w s ra rc fun z rz => hf.here s B rz
theorem rep_int {G : Hp} {v : V} {i : Int} (h : Rep K G v (d i)) : v = .int i := by cases h; rfl
theorem rep_str {G : Hp} {v : V} {i : Str} (h : Rep K G v (d i)) : v = .str i := by cases h; rfl
theorem rep_bl {G : Hp} {v : V} {i : Bool} (h : Rep K G v (d i)) : v = .bl i := by cases h; rfl
theorem rep_non {G : Hp} {v : V} {i : Unit} (h : Rep K G v (d i)) : v = .non := by cases h; rfl
theorem rep_lst {G : Hp} {v : V} {xs : List α} (h : Rep K G v (d xs)) : ∃ p vs, v = .ref p ∧ G p = some (.lst vs) ∧ Reps K G vs (xs.map d) := by cases h with | lst h r => exact ⟨_, _, rfl, h, r⟩
theorem rep_tup {G : Hp} {v : V} {ds : List D} (h : Rep K G v (.tup ds)) : ∃ p vs, v = .ref p ∧ SqT K G p vs ∧ Reps K G vs ds := by cases h with | tup h r => exact ⟨_, _, rfl, h, r⟩
theorem rep_ins {G : Hp} {v : V} {c : Str} {fs : List (Str × D)} (h : Rep K G v (.ins c fs)) : ∃ p dx vs, v = .ref p ∧ G p = some (.ins (He.ga K c) dx vs) ∧ RepF K G vs fs := by cases h with | ins h r => exact ⟨_, _, _, rfl, h, r⟩
theorem Same.sqT {H H' : Hp} {a : Addr} {xs : List V} (e : Same H H') (h : SqT K H a xs) : SqT K H' a xs := e.tupS h
theorem sqL_H {G H : Hp} {p : Addr} {vs : List V} (s : Same G H) (h : SqL K G p vs) : SqL K H p vs := s.seq h
theorem sqT_H {G H : Hp} {p : Addr} {vs : List V} (s : Same G H) (h : SqT K G p vs) : SqT K H p vs := s.tupS h
section
theorem om_addI : OpM K (rI0 fun i j => .int (i + j)) (fun (i j : Int) => (pure (i + j) : M Int)) := om_pure fun G H Q a c v w s ra rc k => by
  cases rep_int ra; cases rep_int rc
  exact ⟨a, c, rfl, rfl, k _ (.int _)⟩
theorem om_subI : OpM K (rI0 fun i j => .int (i - j)) (fun (i j : Int) => (pure (i - j) : M Int)) := om_pure fun G H Q a c v w s ra rc k => by
  cases rep_int ra; cases rep_int rc
  exact ⟨a, c, rfl, rfl, k _ (.int _)⟩
/-- int op int under a condition -/
noncomputable def guI (C : Int → Int → Prop) (g : Int → Int → Int) (i j : Int) : M Int := do need (C i j); pure (g i j)
theorem om_guI {C : Int → Int → Prop} {g : Int → Int → Int} : OpM K (rI C fun i j => .int (g i j)) (guI C g) := fun W x σ G H b Q a c v w s B ra rc hf => by
  cases rep_int ra; cases rep_int rc
  unfold guI need at hf
  by_cases h : C a c
  · rw [if_pos h] at hf
    exact ⟨a, c, rfl, rfl, h, FinE.here (α := Int) (b := b) hf s B (.int _)⟩
  · rw [if_neg h] at hf
    exact False.elim hf
theorem um_neg : UnM K (rU fun i => .int (-i)) (fun (i : Int) => (pure (-i) : M Int)) := fun W x σ G H b Q a v s B ra hf => by
  cases rep_int ra
  exact ⟨a, rfl, hf.here s B (.int _)⟩
theorem decV {a c : Int} : decide (V.int a = V.int c) = decide (a = c) := by rw [decide_eq_decide]; exact ⟨V.int.inj, fun e => by rw [e]⟩
theorem decS {a c : Str} : decide (V.str a = V.str c) = decide (a = c) := by rw [decide_eq_decide]; exact ⟨V.str.inj, fun e => by rw [e]⟩
theorem om_eqI : OpM K rEq (fun (i j : Int) => (pure (decide (i = j)) : M Bool)) := om_pure fun G H Q a c v w s ra rc k => by
  cases rep_int ra; cases rep_int rc
  exact ⟨rfl, by rw [decV]; exact k _ (.bl _)⟩
theorem om_neI : OpM K rNe (fun (i j : Int) => (pure (!decide (i = j)) : M Bool)) := om_pure fun G H Q a c v w s ra rc k => by
  cases rep_int ra; cases rep_int rc
  exact ⟨rfl, by rw [decV]; exact k _ (.bl _)⟩
theorem om_eqS : OpM K rEq (fun (i j : Str) => (pure (decide (i = j)) : M Bool)) := om_pure fun G H Q a c v w s ra rc k => by
  cases rep_str ra; cases rep_str rc
  exact ⟨rfl, by rw [decS]; exact k _ (.bl _)⟩
theorem om_neS : OpM K rNe (fun (i j : Str) => (pure (!decide (i = j)) : M Bool)) := om_pure fun G H Q a c v w s ra rc k => by
  cases rep_str ra; cases rep_str rc
  exact ⟨rfl, by rw [decS]; exact k _ (.bl _)⟩
theorem om_cmpI {p : Int → Int → Bool} : OpM K (rI0 fun i j => .bl (p i j)) (fun (i j : Int) => (pure (p i j) : M Bool)) := om_pure fun G H Q a c v w s ra rc k => by
  cases rep_int ra; cases rep_int rc
  exact ⟨a, c, rfl, rfl, k _ (.bl _)⟩
end
theorem ev_bind_as {m : M α} (h : EvR K W te Γ m) {m' : M α} (e : m' = m) : EvR K W te Γ m' := by rw [e]; exact h

/-! ### tests -/
theorem et_val {m : M Bool} (h : EvR K W te Γ m) : EvT K W (tB te) Γ m := fun x σ G H b Q E s B h' => by
  refine h x σ G H b _ E s B ?_
  cases e : m b with
  | mk b' r =>
    rw [e] at h'
    cases r with
    | ok a => exact fun v G' H' e1 B1 r1 => ⟨a, rep_bl r1, h' G' H' e1 B1⟩
    | err c fs => exact h'
    | stuck => exact h'
theorem et_test {m : M Bool} (h : EvR K W te Γ m) : EvT K W (tTest te) Γ m := fun x σ G H b Q E s B h' => by
  refine h x σ G H b _ E s B ?_
  cases e : m b with
  | mk b' r =>
    rw [e] at h'
    cases r with
    | ok a => exact fun v G' H' e1 B1 r1 => ⟨a, rep_bl r1, h' G' H' e1 B1⟩
    | err c fs => exact h'
    | stuck => exact h'
theorem et_not {t : TT} {m : M Bool} (h : EvT K W t Γ m) : EvT K W (tNot t) Γ (do let a ← m; pure (!a)) := fun x σ G H b Q E s B h' =>
  stepT_T (t := t) h E s B h' fun a b' G' H' h2 e E2 s2 B2 => h2.here s2 B2
theorem et_and {t u : TT} {m n : M Bool} (h : EvT K W t Γ m) (h2 : EvT K W u Γ n) : EvT K W (tAnd t u) Γ (do let a ← m; if a = true then n else pure false) := fun x σ G H b Q E s B h' =>
  stepT_T (t := t) h E s B h' fun a b' G' H' h3 e E2 s2 B2 => by
    cases a with
    | true => exact iteT (h2 x σ G' H' b' Q E2 s2 B2 h3)
    | false => exact iteF (FinT.here (b := b') h3 s2 B2)
theorem et_or {t u : TT} {m n : M Bool} (h : EvT K W t Γ m) (h2 : EvT K W u Γ n) : EvT K W (tOr t u) Γ (do let a ← m; if a = true then pure true else n) := fun x σ G H b Q E s B h' =>
  stepT_T (t := t) h E s B h' fun a b' G' H' h3 e E2 s2 B2 => by
    cases a with
    | true => exact iteT (FinT.here (b := b') h3 s2 B2)
    | false => exact iteF (h2 x σ G' H' b' Q E2 s2 B2 h3)
/-- and, or, not as values -/
theorem ev_and {m n : M Bool} (h : EvR K W ta Γ m) (h2 : EvR K W tb Γ n) : EvR K W (tAndV ta tb) Γ (do let a ← m; if a = true then n else pure false) := fun x σ G H b Q E s B h' =>
  step_E (te := ta) h E s B h' fun a b' v G' H' h3 e E2 s2 B2 r => ⟨a, rep_bl r, by
    cases a with
    | true => exact iteT (h2 x σ G' H' b' Q E2 s2 B2 h3)
    | false => exact iteF (FinE.here (b := b') h3 s2 B2 (.bl false))⟩
theorem ev_or {m n : M Bool} (h : EvR K W ta Γ m) (h2 : EvR K W tb Γ n) : EvR K W (tOrV ta tb) Γ (do let a ← m; if a = true then pure true else n) := fun x σ G H b Q E s B h' =>
  step_E (te := ta) h E s B h' fun a b' v G' H' h3 e E2 s2 B2 r => ⟨a, rep_bl r, by
    cases a with
    | true => exact iteT (FinE.here (b := b') h3 s2 B2 (.bl true))
    | false => exact iteF (h2 x σ G' H' b' Q E2 s2 B2 h3)⟩
theorem ev_not {m : M Bool} (h : EvR K W ta Γ m) : EvR K W (tNotV ta) Γ (do let a ← m; pure (!a)) := fun x σ G H b Q E s B h' =>
  step_E (te := ta) h E s B h' fun a b' v G' H' h3 e E2 s2 B2 r => ⟨a, rep_bl r, h3.here s2 B2 (.bl (!a))⟩
theorem ev_if {t : TT} {mt : M Bool} {m n : M α} (h : EvT K W t Γ mt) (h1 : EvR K W ta Γ m) (h2 : EvR K W tb Γ n) : EvR K W (tIf t ta tb) Γ (do let c ← mt; if c = true then m else n) := fun x σ G H b Q E s B h' =>
  stepT_E (t := t) h E s B h' fun a b' G' H' h3 e E2 s2 B2 => by
    cases a with
    | true => exact iteT (h1 x σ G' H' b' Q E2 s2 B2 h3)
    | false => exact iteF (h2 x σ G' H' b' Q E2 s2 B2 h3)

/-! ### arguments, typed -/
class ToDs (ι : Type) where
  ds : ι → List D
open ToDs (ds)
instance : ToDs Unit := ⟨fun _ => []⟩
instance {α ι : Type} [ToD α] [ToDs ι] : ToDs (α × ι) := ⟨fun p => d p.1 :: ds p.2⟩
/-- t tells the arguments that mk hands on -/
def EvC {ι : Type} [ToDs ι] (K : PySem.W.Frag) (W : WX) (t : TA) (Γ : List Sl) (mk : ∀ {γ : Type}, (ι → M γ) → M γ) : Prop :=
  ∀ (γ : Type) x σ (F : Hp → Hp → Bx × Res γ → Prop) (_ : Good K W x σ F) (k : ι → M γ) G H b (Q : List V → Hp → Prop), Env K x σ Γ G H → Same G H → BoxSt x G H b → F G H (mk k b) →
    (∀ i b' vs G' H', F G' H' (k i b') → Ex x G H G' H' → Env K x σ Γ G' H' → Same G' H' → BoxSt x G' H' b' → Reps K G' vs (ds i) → Q vs H') → t σ H Q
theorem ec_nil : EvC (ι := Unit) K W tNil Γ (fun k => k ()) := fun γ x σ F g k G H b Q E s B h kk => kk () b [] G H h (Ex.refl s) E s B .nil
theorem ec_cons {ι : Type} [ToDs ι] {t : TA} {m : M α} {mk : ∀ {γ : Type}, (ι → M γ) → M γ} (h : EvR K W te Γ m) (h2 : EvC K W t Γ mk) : EvC (ι := α × ι) K W (tCons te t) Γ (fun k => do let a ← m; mk fun r => k (a, r)) := fun γ x σ F g k G H b Q E s B hf kk =>
  go (te := te) g h E s B hf fun a b' v G' H' h3 e E2 s2 B2 r => h2 γ x σ F g (fun r => k (a, r)) G' H' b' _ E2 s2 B2 h3 fun i b3 vs G3 H3 h4 e3 E3 s3 B3 rs => kk (a, i) b3 (v :: vs) G3 H3 h4 (e.trans e3) E3 s3 B3 (.cons (r.ext e3.g) rs)
/-- displays -/
theorem small_sl {n : Nat} (h : n ≤ 1000) : n ≤ sizeLine := Nat.le_of_lt (small1000 h)
theorem ev_lst {ι : Type} [ToDs ι] {t : TA} {mk : ∀ {γ : Type}, (ι → M γ) → M γ} (h : EvC K W t Γ mk) (f : ι → List α) (hf : ∀ i, ds i = (f i).map d := by intros; rfl) (hl : ∀ i, (f i).length ≤ 1000 := by intro _; exact Nat.le_of_ble_eq_true rfl) :
    EvR K W (tLst t) Γ (mk fun i => pure (f i)) := fun x σ G H b Q E s B h' =>
  h (List α) x σ _ good_E _ G H b _ E s B h' fun i b' vs G' H' h2 e E2 s2 B2 rs => by
    rw [hf] at rs
    refine ⟨small_sl (by rw [rs.length, List.length_map]; exact hl i), fun p hp => h2.new s2 B2 hp ?_⟩
    exact .lst upd_same (rs.ext (upS (s2.free hp)))
theorem ev_tup {τ : Type} [ToD τ] {ι : Type} [ToDs ι] {t : TA} {mk : ∀ {γ : Type}, (ι → M γ) → M γ} (h : EvC K W t Γ mk) (f : ι → τ) (hf : ∀ i, d (f i) = .tup (ds i) := by intros; rfl) (hl : ∀ i : ι, (ds i).length ≤ 1000 := by intro _; exact Nat.le_of_ble_eq_true rfl) :
    EvR K W (tTup t) Γ (mk fun i => pure (f i)) := fun x σ G H b Q E s B h' =>
  h τ x σ _ good_E _ G H b _ E s B h' fun i b' vs G' H' h2 e E2 s2 B2 rs => by
    refine ⟨small_sl (by rw [rs.length]; exact hl i), fun p hp => h2.new s2 B2 hp ?_⟩
    rw [hf]
    exact .tup (.inl (.inl upd_same)) (rs.ext (upS (s2.free hp)))

/-! ### calls -/
/-- what a def promises: f of the arguments i -/
def FinP (K : PySem.W.Frag) (G H : Hp) (Q : VK) (E : XK) : Res γ → Prop
  | .ok a => ∀ v G' H', Ex none G H G' H' → Rep K G' v (d a) → Q v H'
  | .err c fs => ∀ dd G' H', Ex none G H G' H' → RepX K G' dd fs → E (.ref (He.ga K c)) dd H'
  | .stuck => False
def spG {ι : Type} [ToDs ι] (K : PySem.W.Frag) (f : ι → Res γ) : Sp := fun vs H Q E => ∃ i G, Same G H ∧ Reps K G vs (ds i) ∧ FinP K G H Q E (f i)
theorem Ex.box {x : Option Addr} {G H G' H' : Hp} (e : Ex none G H G' H') : Ex x G H G' H' := ⟨e.g, e.gh, fun p o _ => e.keep p o (by simp), fun p o _ => e.uns p o (by simp)⟩
theorem BoxSt.none_ex {x : Option Addr} {G H G' H' : Hp} {b : Bx} (B : BoxSt x G H b) (e : Ex none G H G' H') : BoxSt x G' H' b := fun p h => by
  obtain ⟨h1, h2⟩ := B p h
  exact ⟨e.uns p _ (by simp) h2 h1, e.keep p _ (by simp) h2⟩
theorem spG_of {ι : Type} [ToDs ι] {f : ι → Res γ} {x : Option Addr} {σ : L2.St} {G H : Hp} {b : Bx} {Q : VK} {i : ι} {vs : List V} (s : Same G H) (B : BoxSt x G H b) (rs : Reps K G vs (ds i)) (h : FinE K W x σ G H Q (lft (f i) b)) :
    spG K f vs H Q (fun c dd H' => W c dd σ H') := by
  refine ⟨i, G, s, rs, ?_⟩
  unfold lft at h
  cases e : f i with
  | ok a => rw [e] at h; exact fun v G' H' e1 r => h v G' H' e1.box (B.none_ex e1) r
  | err c fs => rw [e] at h; exact fun dd G' H' e1 r => h dd G' H' e1.box (B.none_ex e1) r
  | stuck => rw [e] at h; exact h
theorem ev_call {ι : Type} [ToDs ι] {t : TA} {mk : ∀ {γ : Type}, (ι → M γ) → M γ} {f : ι → Res γ} (h : EvC K W t Γ mk) : EvR K W (tCallS (spG K f) (fun σ c dd H => W c dd σ H) t) Γ (mk fun i => lft (f i)) := fun x σ G H b Q E s B h' =>
  h γ x σ _ good_E _ G H b _ E s B h' fun i b' vs G' H' h2 e E2 s2 B2 rs => spG_of s2 B2 rs h2
/-- a built-in's call -/
def CallM {ι : Type} [ToDs ι] (K : PySem.W.Frag) (r : List V → Hp → VK → Prop) (f : ι → M γ) : Prop := ∀ (W : WX) x σ G H b Q i vs, Same G H → BoxSt x G H b → Reps K G vs (ds i) → FinE K W x σ G H Q (f i b) → r vs H Q
theorem ev_cb {ι : Type} [ToDs ι] {t : TA} {mk : ∀ {γ : Type}, (ι → M γ) → M γ} {r : List V → Hp → VK → Prop} {f : ι → M γ} (hr : CallM K r f) (h : EvC K W t Γ mk) : EvR K W (tCB r t) Γ (mk f) := fun x σ G H b Q E s B h' =>
  h γ x σ _ good_E _ G H b _ E s B h' fun i b' vs G' H' h2 e E2 s2 B2 rs => hr W x σ G' H' b' Q i vs s2 B2 rs h2
theorem reps1 {G : Hp} {vs : List V} {a : α} (h : Reps K G vs (ds (a, ()))) : ∃ v, vs = [v] ∧ Rep K G v (d a) := by
  cases h with | cons r t => cases t with | nil => exact ⟨_, rfl, r⟩
theorem reps2 {G : Hp} {vs : List V} {a : α} {c : β} (h : Reps K G vs (ds (a, c, ()))) : ∃ v w, vs = [v, w] ∧ Rep K G v (d a) ∧ Rep K G w (d c) := by
  cases h with | cons r t => cases t with | cons r2 t2 => cases t2 with | nil => exact ⟨_, _, rfl, r, r2⟩

/-! ### built-ins -/
theorem cm_absI : CallM K (fun xs H Q => ∃ i, xs = [.int i] ∧ Q (.int (if i < 0 then -i else i)) H) (fun (i : Int × Unit) => (pure (if i.1 < 0 then -i.1 else i.1) : M Int)) := fun W x σ G H b Q i vs s B rs h => by
  obtain ⟨a, u⟩ := i
  obtain ⟨v, rfl, r⟩ := reps1 rs
  cases rep_int r
  exact ⟨a, rfl, h.here s B (.int _)⟩
theorem cm_intI : CallM K (fun xs H Q => (∃ i, xs = [.int i] ∧ Q (.int i) H) ∨ ∃ k, xs = [.bl k] ∧ Q (.int (if k = true then 1 else 0)) H) (fun (i : Int × Unit) => (pure i.1 : M Int)) := fun W x σ G H b Q i vs s B rs h => by
  obtain ⟨a, u⟩ := i
  obtain ⟨v, rfl, r⟩ := reps1 rs
  cases rep_int r
  exact .inl ⟨a, rfl, h.here s B (.int _)⟩
theorem cm_intB : CallM K (fun xs H Q => (∃ i, xs = [.int i] ∧ Q (.int i) H) ∨ ∃ k, xs = [.bl k] ∧ Q (.int (if k = true then 1 else 0)) H) (fun (i : Bool × Unit) => (pure (if i.1 = true then 1 else 0) : M Int)) := fun W x σ G H b Q i vs s B rs h => by
  obtain ⟨a, u⟩ := i
  obtain ⟨v, rfl, r⟩ := reps1 rs
  cases rep_bl r
  exact .inr ⟨a, rfl, h.here s B (.int _)⟩
/-- a condition, then a value -/
theorem need_fin {x : Option Addr} {σ : L2.St} {G H : Hp} {Q : VK} {b : Bx} {p : Prop} {m : M γ} (h : FinE K W x σ G H Q ((do need p; m) b)) : p ∧ FinE K W x σ G H Q (m b) := by
  unfold need at h
  by_cases q : p
  · rw [if_pos q] at h
    exact ⟨q, h⟩
  · rw [if_neg q] at h
    exact False.elim h
theorem cm_strI : CallM K (fun xs H Q => ∃ i, xs = [.int i] ∧ i.natAbs.log2 < 1920 ∧ Q (.str (toString i)) H) (fun (i : Int × Unit) => (do need (i.1.natAbs.log2 < 1920); pure (toString i.1 : Str) : M Str)) := fun W x σ G H b Q i vs s B rs h => by
  obtain ⟨a, u⟩ := i
  obtain ⟨v, rfl, r⟩ := reps1 rs
  cases rep_int r
  obtain ⟨h1, h2⟩ := need_fin h
  exact ⟨a, rfl, h1, h2.here s B (.str _)⟩
end
end N

set_option Elab.async false
set_option linter.all false
set_option maxRecDepth 100000
set_option maxHeartbeats 4000000
/-! N3: what is walked, comprehensions, statements, loops, defs. -/
namespace N
open PySem PySem.Spec PyProof.Rows L2 J
open ToD (d)
open ToDs (ds)
open M

/-! ### slots wiped -/
def wipeS (Γ : List Sl) : List Nat → List Sl
  | [] => Γ
  | v :: vs => (wipeS Γ vs).set v .any
section
variable {K : PySem.W.Frag} {x : Option Addr} {σ : L2.St} {Γ : List Sl} {G H : Hp}
theorem Env.drop1 (E : Env K x σ Γ G H) (i : Nat) (o : Option V) : Env K x (σ.set i o) (Γ.set i .any) G H := by
  refine ⟨by rw [List.length_set, List.length_set, E.len], fun j t o' h1 h2 => ?_, fun j k p t u ne h1 h2 o1 o2 e1 e2 => ?_, fun j p t h1 o1 e1 => ?_⟩
  · by_cases z : i = j
    · subst z
      by_cases l : i < Γ.length
      · rw [List.getElem?_set_self l] at h1
        cases h1; trivial
      · rw [List.getElem?_eq_none (by rw [List.length_set]; omega)] at h1; cases h1
    · rw [List.getElem?_set_ne z] at h1 h2
      exact E.at_ j t o' h1 h2
  · have nj : i ≠ j := fun z => by
      subst z
      by_cases l : i < Γ.length
      · rw [List.getElem?_set_self l] at h1; cases h1; cases o1
      · rw [List.getElem?_eq_none (by rw [List.length_set]; omega)] at h1; cases h1
    have nk : i ≠ k := fun z => by
      subst z
      by_cases l : i < Γ.length
      · rw [List.getElem?_set_self l] at h2; cases h2; cases o2
      · rw [List.getElem?_eq_none (by rw [List.length_set]; omega)] at h2; cases h2
    rw [List.getElem?_set_ne nj] at h1 e1
    rw [List.getElem?_set_ne nk] at h2 e2
    exact E.dis j k p t u ne h1 h2 o1 o2 e1 e2
  · have nj : i ≠ j := fun z => by
      subst z
      by_cases l : i < Γ.length
      · rw [List.getElem?_set_self l] at h1; cases h1; cases o1
      · rw [List.getElem?_eq_none (by rw [List.length_set]; omega)] at h1; cases h1
    rw [List.getElem?_set_ne nj] at h1 e1
    exact E.xne j p t h1 o1 e1
theorem Env.wipe (E : Env K x σ Γ G H) : ∀ vs : List Nat, Env K x (wipe σ vs) (wipeS Γ vs) G H
  | [] => E
  | v :: vs => (Env.wipe E vs).drop1 v none
end
theorem wipe_at {σ : L2.St} : ∀ {vs : List Nat} {j : Nat}, (wipe σ vs)[j]? = if j ∈ vs ∧ j < σ.length then some none else σ[j]?
  | [], j => by rw [if_neg (by simp)]; rfl
  | v :: vs, j => by
    show ((wipe σ vs).set v none)[j]? = _
    by_cases e : v = j
    · subst e
      by_cases l : v < σ.length
      · rw [List.getElem?_set_self (by rw [wipe_length]; exact l), if_pos ⟨List.mem_cons_self, l⟩]
      · rw [List.getElem?_eq_none (by rw [List.length_set, wipe_length]; omega), if_neg (fun h => l h.2), List.getElem?_eq_none (by omega)]
    · rw [List.getElem?_set_ne e, wipe_at (vs := vs) (j := j)]
      by_cases c : j ∈ vs ∧ j < σ.length
      · rw [if_pos c, if_pos ⟨List.mem_cons_of_mem _ c.1, c.2⟩]
      · rw [if_neg c, if_neg]
        intro ⟨h1, h2⟩
        rcases List.mem_cons.mp h1 with z | z
        · exact e z.symm
        · exact c ⟨z, h2⟩
theorem wipe_wipe {σ : L2.St} {vs : List Nat} : wipe (wipe σ vs) vs = wipe σ vs := by
  apply List.ext_getElem?
  intro j
  rw [wipe_at, wipe_length, wipe_at]
  by_cases c : j ∈ vs ∧ j < σ.length
  · rw [if_pos c, if_pos c]
  · rw [if_neg c]
theorem wipe_set {σ : L2.St} {vs : List Nat} {i : Nat} {o : Option V} (h : i ∈ vs) : wipe (σ.set i o) vs = wipe σ vs := by
  apply List.ext_getElem?
  intro j
  rw [wipe_at, wipe_at, List.length_set]
  by_cases c : j ∈ vs ∧ j < σ.length
  · rw [if_pos c, if_pos c]
  · rw [if_neg c, if_neg c]
    by_cases e : i = j
    · subst e
      have l : ¬ i < σ.length := fun l => c ⟨h, l⟩
      rw [List.getElem?_eq_none (by rw [List.length_set]; omega), List.getElem?_eq_none (by omega)]
    · rw [List.getElem?_set_ne e]

/-! ### targets -/
def TgOk {α : Type} [ToD α] (K : PySem.W.Frag) (g : TG) (vs : List Nat) (up : α → List Sl → List Sl) : Prop := ∀ x σ Γ G H v a (Q : L2.St → Hp → Prop), Env K x σ Γ G H → Same G H → Rep K G v (d a) →
  (∀ σ', wipe σ' vs = wipe σ vs → Env K x σ' (up a Γ) G H → (∀ j p, j ∉ vs → σ'[j]? = some (some (.ref p)) → σ[j]? = some (some (.ref p))) → Q σ' H) → g v σ H Q
section
variable {α β γ : Type} [ToD α] [ToD β] [ToD γ] {K : PySem.W.Frag}
theorem set_back {σ : L2.St} {i : Nat} {v : V} : ∀ j p, j ∉ [i] → (σ.set i (some v))[j]? = some (some (V.ref p)) → σ[j]? = some (some (V.ref p)) := fun j p hj h => by
  rw [List.getElem?_set_ne (fun e => hj (by simp [e]))] at h
  exact h
theorem tg_name {i : Nat} : TgOk (α := α) K (gName i) [i] (fun a Γ => Γ.set i (.val (d a))) := fun x σ Γ G H v a Q E s r k =>
  k _ (wipe_set (by simp)) (E.setVal r) set_back
theorem tg_2 {i j : Nat} : TgOk (α := α × β) K (gTup K 2 (gCons (gName i) (gCons (gName j) gNil))) [i, j] (fun a Γ => (Γ.set i (.val (d a.1))).set j (.val (d a.2))) := fun x σ Γ G H v a Q E s r k => by
  obtain ⟨p, ys, rfl, hp, rs⟩ := rep_tup r
  cases rs with | cons r1 t => cases t with | cons r2 t2 => cases t2 with | nil =>
  refine ⟨p, _, rfl, sqT_H s hp, rfl, _, _, rfl, _, _, rfl, rfl, k _ ?_ ((E.setVal r1).setVal r2) ?_⟩
  · rw [wipe_set (by simp), wipe_set (by simp)]
  · intro j' p' hj h
    rw [List.getElem?_set_ne (fun e => hj (by simp [e])), List.getElem?_set_ne (fun e => hj (by simp [e]))] at h
    exact h
theorem tg_3 {i j l : Nat} : TgOk (α := T3 α β γ) K (gTup K 3 (gCons (gName i) (gCons (gName j) (gCons (gName l) gNil)))) [i, j, l] (fun a Γ => ((Γ.set i (.val (d a.a))).set j (.val (d a.b))).set l (.val (d a.c))) := fun x σ Γ G H v a Q E s r k => by
  obtain ⟨p, ys, rfl, hp, rs⟩ := rep_tup r
  cases rs with | cons r1 t => cases t with | cons r2 t2 => cases t2 with | cons r3 t3 => cases t3 with | nil =>
  refine ⟨p, _, rfl, sqT_H s hp, rfl, _, _, rfl, _, _, rfl, _, _, rfl, rfl, k _ ?_ (((E.setVal r1).setVal r2).setVal r3) ?_⟩
  · rw [wipe_set (by simp), wipe_set (by simp), wipe_set (by simp)]
  · intro j' p' hj h
    rw [List.getElem?_set_ne (fun e => hj (by simp [e])), List.getElem?_set_ne (fun e => hj (by simp [e])), List.getElem?_set_ne (fun e => hj (by simp [e]))] at h
    exact h
end

/-! ### what is walked -/
section
variable {α β γ : Type} [ToD α] [ToD β] [ToD γ] {K : PySem.W.Frag} {W : WX} {te ta tb : TE} {Γ : List Sl}
def Walks (K : PySem.W.Frag) (J : It) (xs : List α) (R : Hp → Hp → Prop) : Prop := ∀ i G' H', R G' H' →
  (∀ a, xs[i]? = some a → J.go i H' ∧ ∀ y H2, J.yld i H' y H2 → ∃ G2, Ex none G' H' G2 H2 ∧ Rep K G2 y (d a)) ∧ (xs.length = i → J.stop i H')
def RS (G H : Hp) (G' H' : Hp) : Prop := Same G G' ∧ Same G' H'
def RE (x : Option Addr) (G H : Hp) (G' H' : Hp) : Prop := Ex x G H G' H'
/-- wi walks the items that m tells; settled things alone are walked -/
def EvI (K : PySem.W.Frag) (W : WX) (wi : TI) (Γ : List Sl) (m : M (List α)) : Prop :=
  ∀ (δ : Type) x σ (F : Hp → Hp → Bx × Res δ → Prop) (_ : Good K W x σ F) (k : List α → M δ) G H b (R : It → Hp → Prop), Env K x σ Γ G H → Same G H → BoxSt x G H b → F G H ((m >>= k) b) →
    (∀ xs b' J G' H', F G' H' (k xs b') → Ex x G H G' H' → Env K x σ Γ G' H' → Same G' H' → BoxSt x G' H' b' → Walks K J xs (RS G' H') → R J H') → wi σ H R
/-- .. unsettled ones too, while expressions are evaluated -/
def EvIE (K : PySem.W.Frag) (W : WX) (wi : TI) (Γ : List Sl) (m : M (List α)) : Prop :=
  ∀ (δ : Type) x σ (F : Hp → Hp → Bx × Res δ → Prop) (_ : Good K W x σ F) (k : List α → M δ) G H b (R : It → Hp → Prop), Env K x σ Γ G H → Same G H → BoxSt x G H b → F G H ((m >>= k) b) →
    (∀ xs b' J G' H', F G' H' (k xs b') → Ex x G H G' H' → Env K x σ Γ G' H' → Same G' H' → BoxSt x G' H' b' → Walks K J xs (RE x G' H') → R J H') → wi σ H R
theorem ei_up {wi : TI} {m : M (List α)} (h : EvI K W wi Γ m) : EvIE K W wi Γ m := fun δ x σ F g k G H b R E s B hf kk =>
  h δ x σ F g k G H b R E s B hf fun xs b' J G' H' h1 e E2 s2 B2 w => kk xs b' J G' H' h1 e E2 s2 B2 fun i G2 H2 (r : Ex x G' H' G2 H2) => w i G2 H2 ⟨r.g, r.gh⟩
theorem walk_list {G H : Hp} {p : Addr} {vs : List V} {xs : List α} (hs : ∀ G' H', RS G H G' H' → SqL K H' p vs) (rs : Reps K G vs (xs.map d)) : Walks K (Itl K p) xs (RS G H) := fun i G' H' r => by
  have hq := hs G' H' r
  refine ⟨fun a ha => ?_, fun e => ⟨vs, hq, by rw [rs.length, List.length_map]; omega⟩⟩
  obtain ⟨v, hv, rv⟩ := rs.get (i := i) (d := d a) (by rw [List.getElem?_map, ha]; rfl)
  exact ⟨⟨vs, v, hq, hv⟩, fun y H2 ⟨e, hy⟩ => by
    subst e
    have := hy vs hq
    rw [hv] at this
    cases this
    exact ⟨G', Ex.refl r.2, rv.ext r.1⟩⟩
theorem walk_tup {G H : Hp} {p : Addr} {vs : List V} {xs : List α} (hs : ∀ G' H', RS G H G' H' → SqT K H' p vs) (rs : Reps K G vs (xs.map d)) : Walks K (Itt K p) xs (RS G H) := fun i G' H' r => by
  have hq := hs G' H' r
  refine ⟨fun a ha => ?_, fun e => ⟨vs, hq, by rw [rs.length, List.length_map]; omega⟩⟩
  obtain ⟨v, hv, rv⟩ := rs.get (i := i) (d := d a) (by rw [List.getElem?_map, ha]; rfl)
  exact ⟨⟨vs, v, hq, hv⟩, fun y H2 ⟨e, hy⟩ => by
    subst e
    have := hy vs hq
    rw [hv] at this
    cases this
    exact ⟨G', Ex.refl r.2, rv.ext r.1⟩⟩
theorem ei_list {m : M (List α)} (h : EvR K W te Γ m) : EvI K W (iList K te) Γ m := fun δ x σ F g k G H b R E s B hf kk =>
  go (te := te) g h E s B hf fun xs b' v G' H' h1 e E2 s2 B2 r => by
    obtain ⟨p, vs, rfl, hp, rs⟩ := rep_lst r
    exact ⟨p, rfl, ⟨vs, sqL_H s2 (SqL.of hp)⟩, kk xs b' _ G' H' h1 e E2 s2 B2 (walk_list (fun G2 H2 r2 => sqL_H r2.2 (sqL_H r2.1 (SqL.of hp))) rs)⟩
theorem ei_tup {m : M (VT α)} (h : EvR K W te Γ m) : EvI K W (iTup K te) Γ (do let t ← m; pure t.l) := fun δ x σ F g k G H b R E s B hf kk =>
  go (te := te) g h E s B (f := fun t => k t.l) (by rw [bind_assoc] at hf; exact hf) fun xs b' v G' H' h1 e E2 s2 B2 r => by
    obtain ⟨p, vs, rfl, hp, rs⟩ := rep_tup r
    exact ⟨p, rfl, ⟨vs, sqT_H s2 hp⟩, kk xs.l b' _ G' H' h1 e E2 s2 B2 (walk_tup (fun G2 H2 r2 => sqT_H r2.2 (sqT_H r2.1 hp)) rs)⟩
/-- lo, lo + 1, .. below hi -/
def rng (lo hi : Int) : List Int := (List.range (hi - lo).toNat).map fun (k : Nat) => lo + (k : Int)
theorem rng_len {lo hi : Int} : (rng lo hi).length = (hi - lo).toNat := by unfold rng; rw [List.length_map, List.length_range]
theorem rng_at {lo hi : Int} {i : Nat} {a : Int} (h : (rng lo hi)[i]? = some a) : i < (hi - lo).toNat ∧ a = lo + i := by
  unfold rng at h
  rw [List.getElem?_map] at h
  cases e : (List.range (hi - lo).toNat)[i]? with
  | none => rw [e] at h; cases h
  | some k =>
    rw [e] at h
    have := List.getElem?_eq_some_iff.mp e
    obtain ⟨l, q⟩ := this
    rw [List.length_range] at l
    rw [List.getElem_range] at q
    subst q
    cases h
    exact ⟨l, rfl⟩
theorem walk_rng {lo hi : Int} {n : Nat} (hn : n = (hi - lo).toNat) {G H : Hp} : Walks (α := Int) K (Itr lo n) (rng lo hi) (RS G H) := fun i G' H' r => by
  subst hn
  refine ⟨fun a ha => ?_, fun e => ?_⟩
  · obtain ⟨l, rfl⟩ := rng_at ha
    exact ⟨l, fun y H2 ⟨e, hy⟩ => by subst e; subst hy; exact ⟨G', Ex.refl r.2, .int _⟩⟩
  · show _ ≤ i
    rw [rng_len] at e
    omega
theorem ei_range1 {m : M Int} (h : EvR K W te Γ m) : EvI (α := Int) K W (iRng1 (tCons te tNil)) Γ (do let j ← m; need (-(2 ^ 62) ≤ j ∧ j < 2 ^ 62); pure (rng 0 j)) := fun δ x σ F g k G H b R E s B hf kk =>
  go (te := te) g h E s B (f := fun j => (do need (-(2 ^ 62) ≤ j ∧ j < 2 ^ 62); pure (rng 0 j)) >>= k) (by rw [bind_assoc] at hf; exact hf) fun j b' v G' H' h1 e E2 s2 B2 r => by
    cases rep_int r
    unfold need at h1
    by_cases q : -(2 ^ 62) ≤ j ∧ j < 2 ^ 62
    · rw [if_pos q] at h1
      exact ⟨j, rfl, q.1, q.2, kk _ b' _ G' H' h1 e E2 s2 B2 (walk_rng (by omega))⟩
    · rw [if_neg q] at h1
      exact (g.st h1).elim
theorem ei_range2 {m n : M Int} (h : EvR K W te Γ m) (h2 : EvR K W ta Γ n) : EvI (α := Int) K W (iRng2 (tCons te (tCons ta tNil))) Γ (do let i ← m; let j ← n; need (-(2 ^ 62) ≤ i ∧ i < 2 ^ 62 ∧ -(2 ^ 62) ≤ j ∧ j < 2 ^ 62); pure (rng i j)) := fun δ x σ F g k G H b R E s B hf kk =>
  go (te := te) g h E s B (f := fun i => (do let j ← n; need (-(2 ^ 62) ≤ i ∧ i < 2 ^ 62 ∧ -(2 ^ 62) ≤ j ∧ j < 2 ^ 62); pure (rng i j)) >>= k) (by rw [bind_assoc] at hf; exact hf) fun i b' v G' H' h1 e E2 s2 B2 r =>
  go (te := ta) g h2 E2 s2 B2 (f := fun j => (do need (-(2 ^ 62) ≤ i ∧ i < 2 ^ 62 ∧ -(2 ^ 62) ≤ j ∧ j < 2 ^ 62); pure (rng i j)) >>= k) (by rw [bind_assoc] at h1; exact h1) fun j b3 w G3 H3 h3 e3 E3 s3 B3 r3 => by
    cases rep_int r
    cases rep_int r3
    unfold need at h3
    by_cases q : -(2 ^ 62) ≤ i ∧ i < 2 ^ 62 ∧ -(2 ^ 62) ≤ j ∧ j < 2 ^ 62
    · rw [if_pos q] at h3
      exact ⟨i, j, rfl, q, kk _ b3 _ G3 H3 h3 (e.trans e3) E3 s3 B3 (walk_rng rfl)⟩
    · rw [if_neg q] at h3
      exact (g.st h3).elim
/-- an own list, walked while it stands -/
theorem ei_own {i : Nat} {xs : List α} (h : Γ[i]? = some (.own (xs.map d)) := by rfl) : EvIE K W (iList K (tVar i)) Γ (pure xs) := fun δ x σ F g k G H b R E s B hf kk => by
  obtain ⟨o, h1, p, vs, rfl, gp, hp, rs⟩ := E.get h
  have nx : x ≠ some p := E.xne i p _ h rfl h1
  refine ⟨_, h1, p, rfl, ⟨vs, SqL.of hp⟩, kk xs b _ G H hf (Ex.refl s) E s B fun j G2 H2 r => ?_⟩
  have r : Ex x G H G2 H2 := r
  have hq : SqL K H2 p vs := SqL.of (r.keep p _ nx hp)
  refine ⟨fun a ha => ?_, fun e => ⟨vs, hq, by rw [rs.length, List.length_map]; omega⟩⟩
  obtain ⟨v, hv, rv⟩ := rs.get (i := j) (d := d a) (by rw [List.getElem?_map, ha]; rfl)
  exact ⟨⟨vs, v, hq, hv⟩, fun y H3 ⟨e, hy⟩ => by
    subst e
    have := hy vs hq
    rw [hv] at this
    cases this
    exact ⟨G2, Ex.refl r.gh, rv.ext r.g⟩⟩

/-! ### comprehensions -/
abbrev WF : WX := fun _ _ _ _ => False
def strict {α : Type} (m : M α) : M α := fun b => match m b with
  | (b', .err _ _) => (b', .stuck)
  | r => r
theorem strict_pure {α : Type} (a : α) : strict (pure a : M α) = pure a := rfl
def lcA {α β : Type} (t : α → M Bool) (f : α → M β) : List β → List α → M (List β)
  | acc, [] => pure acc
  | acc, a :: r => do
    let c ← strict (t a)
    if c = true then do
      let y ← strict (f a)
      lcA t f (acc ++ [y]) r
    else lcA t f acc r
noncomputable def lcM {α β : Type} (t : α → M Bool) (f : α → M β) (xs : List α) : M (List β) := do
  need (xs.length ≤ sizeLine)
  lcA t f [] xs
theorem strict_E {x : Option Addr} {σ : L2.St} {G H : Hp} {Q : VK} {b : Bx} {m : M α} (h : FinE K W x σ G H Q (strict m b)) : FinE K WF x σ G H Q (m b) := by
  unfold strict at h
  cases e : m b with
  | mk b' r =>
    rw [e] at h
    cases r with
    | ok a => exact h
    | err c fs => exact False.elim h
    | stuck => exact h
theorem et_yes : EvT K W tYes Γ (pure true) := fun x σ G H b Q E s B h => h.here s B
theorem ev_lc {wi : TI} {g : TG} {tt : TT} {vs : List Nat} {mi : M (List α)} {up : α → List Sl → List Sl} {mt : α → M Bool} {me : α → M β} (hi : EvIE K W wi Γ mi) (hg : TgOk K g vs up)
    (ht : ∀ a, EvT K WF tt (up a (wipeS Γ vs)) (mt a)) (he : ∀ a, EvR K WF te (up a (wipeS Γ vs)) (me a)) : EvR K W (tLc wi g tt te vs) Γ (do let xs ← mi; lcM mt me xs) := fun x σ G H b Q E s B h =>
  hi (List β) x σ _ good_E _ G H b _ E s B h fun xs b1 J G1 H1 h1 e1 E1 s1 B1 wk D nD => by
    obtain ⟨hl, h1⟩ := need_fin h1
    refine ⟨fun i m H' => ∃ G' b' acc ys, m = xs.length - i ∧ i ≤ xs.length ∧ Ex x G1 H1 G' H' ∧ G' D = none ∧ H' D = some (.lst acc) ∧ Reps K G' acc (ys.map d) ∧ BoxSt x G' H' b' ∧ acc.length ≤ i ∧ FinE K W x σ G1 H1 Q (lcA mt me ys (xs.drop i) b'),
      ⟨_, G1, b1, [], [], rfl, Nat.zero_le _, Ex.raw s1 nD, s1.free nD, upd_same, .nil, B1.raw nD, Nat.le_refl _, h1⟩, ?_⟩
    rintro i m H' ⟨G', b', acc, ys, rfl, hi', ex, gD, hD, rs, B', hacc, hf⟩
    have xD : x ≠ some D := fun z => by
      have := (B1 D z).2
      rw [nD] at this
      cases this
    by_cases hlt : i < xs.length
    · have hd : xs.drop i = xs[i] :: xs.drop (i + 1) := List.drop_eq_getElem_cons hlt
      obtain ⟨hgo, hy⟩ := (wk i G' H' ex).1 xs[i] (List.getElem?_eq_getElem hlt)
      refine .inr ⟨hgo, fun H'' => ∃ G' b' acc ys, i + 1 ≤ xs.length ∧ Ex x G1 H1 G' H'' ∧ G' D = none ∧ H'' D = some (.lst acc) ∧ Reps K G' acc (ys.map d) ∧ BoxSt x G' H'' b' ∧ acc.length ≤ i + 1 ∧ FinE K W x σ G1 H1 Q (lcA mt me ys (xs.drop (i + 1)) b'),
        fun H'' ⟨G'', b'', acc', ys', c1, c2⟩ => ⟨xs.length - (i + 1), by omega, G'', b'', acc', ys', rfl, c1, c2⟩, fun y H2 hyld => ?_⟩
      obtain ⟨G2, ex2, ry⟩ := hy y H2 hyld
      have B2 := B'.none_ex ex2
      have ex12 := ex.trans (ex2.box (x := x))
      have gD2 : G2 D = none := ex2.uns D _ (by simp) hD gD
      have hD2 := ex2.keep D _ (by simp) hD
      have E2 : Env K x (wipe σ vs) (wipeS Γ vs) G2 H2 := (E1.ext ex12).wipe vs
      refine hg x (wipe σ vs) (wipeS Γ vs) G2 H2 y xs[i] _ E2 ex2.gh ry fun σ' hw E3 _ => ⟨hw.trans wipe_wipe, ?_⟩
      rw [hd] at hf
      have hf2 : FinE K W x σ G1 H1 Q ((strict (mt xs[i]) >>= fun c => if c = true then (do let y ← strict (me xs[i]); lcA mt me (ys ++ [y]) (xs.drop (i + 1))) else lcA mt me ys (xs.drop (i + 1))) b') := hf
      rw [M.bind_def] at hf2
      refine ht xs[i] x σ' G2 H2 b' _ E3 ex2.gh B2 ?_
      unfold strict at hf2
      cases q : mt xs[i] b' with
      | mk b3 r =>
        rw [q] at hf2
        cases r with
        | err c fs => exact False.elim hf2
        | stuck => exact False.elim hf2
        | ok c =>
          intro G3 H3 ex3 B3
          have ex13 := ex12.trans ex3
          have gD3 : G3 D = none := ex3.uns D _ xD hD2 gD2
          have hD3 := ex3.keep D _ xD hD2
          cases c with
          | false => exact iteF ⟨G3, b3, acc, ys, hlt, ex13, gD3, hD3, (rs.ext ex2.g).ext ex3.g, B3, by omega, hf2⟩
          | true =>
            refine iteT (he xs[i] x σ' G3 H3 b3 _ (E3.ext ex3) ex3.gh B3 ?_)
            have hf3 : FinE K W x σ G1 H1 Q ((strict (me xs[i]) >>= fun y => lcA mt me (ys ++ [y]) (xs.drop (i + 1))) b3) := hf2
            rw [M.bind_def] at hf3
            unfold strict at hf3
            cases q2 : me xs[i] b3 with
            | mk b4 r2 =>
              rw [q2] at hf3
              cases r2 with
              | err c fs => exact False.elim hf3
              | stuck => exact False.elim hf3
              | ok z =>
                intro w G4 H4 ex4 B4 rw4
                have ex14 := ex13.trans ex4
                have gD4 : G4 D = none := ex4.uns D _ xD hD3 gD3
                have hD4 := ex4.keep D _ xD hD3
                refine ⟨acc, hD4, by omega, G4, b4, acc ++ [w], ys ++ [z], hlt, ?_, gD4, upd_same, ?_, ?_, by rw [List.length_append, List.length_singleton]; omega, hf3⟩
                · refine ⟨ex14.g, fun a o ha => ?_, fun p o nx hp => ?_, fun p o nx hp => ex14.uns p o nx hp⟩
                  · rw [upd_ne (fun z => by rw [z, gD4] at ha; cases ha)]
                    exact ex14.gh a o ha
                  · rw [upd_ne (fun z => by rw [z, nD] at hp; cases hp)]
                    exact ex14.keep p o nx hp
                · rw [List.map_append]
                  exact (((rs.ext ex2.g).ext ex3.g).ext ex4.g).append (.cons rw4 .nil)
                · intro p hp
                  obtain ⟨c1, c2⟩ := B4 p hp
                  exact ⟨c1, by rw [upd_ne (fun z => xD (by rw [← z]; exact hp))]; exact c2⟩
    · have hi2 : xs.length = i := by omega
      refine .inl ⟨(wk i G' H' ex).2 hi2, ?_⟩
      rw [List.drop_eq_nil_of_le (by omega)] at hf
      refine hf (.ref D) (upd G' D (.lst acc)) H' ?_ ?_ (.lst upd_same (rs.ext (upS gD)))
      · refine ⟨ex.g.trans (upS gD), fun a o ha => ?_, fun p o nx hp => ex.keep p o nx hp, fun p o nx hp hg => ?_⟩
        · by_cases z : a = D
          · subst z; rw [upd_same] at ha; cases ha; exact hD
          · rw [upd_ne z] at ha; exact ex.gh a o ha
        · rw [upd_ne (fun z => by rw [z, nD] at hp; cases hp)]
          exact ex.uns p o nx hp hg
      · intro p hp
        obtain ⟨c1, c2⟩ := B' p hp
        exact ⟨by rw [upd_ne (fun z => xD (by rw [← z]; exact hp))]; exact c1, c2⟩
end
end N

set_option Elab.async false
set_option linter.all false
set_option maxRecDepth 100000
set_option maxHeartbeats 4000000
/-! N4: statements, loops, defs. -/
namespace N
open PySem PySem.Spec PyProof.Rows L2 J
open ToD (d)
open ToDs (ds)
open M

/-! ### statements -/
/-- where a block stands: the entry's heaps, the settled part at the block's own start, now -/
structure Pt (x : Option Addr) (G0 H0 Gs G H : Hp) : Prop where
  ex : Ex x G0 H0 G H
  gs : Same Gs G
theorem Pt.step {x : Option Addr} {G0 H0 Gs G H G' H' : Hp} (p : Pt x G0 H0 Gs G H) (e : Ex x G H G' H') : Pt x G0 H0 Gs G' H' := ⟨p.ex.trans e, p.gs.trans e.g⟩
abbrev Post (ω : Type) := ω → Ends → Option Addr → Hp → Hp → Hp → Prop
/-- unsettled things of the slots are not among those of the entry -/
def Fr (σ : L2.St) (Γ : List Sl) (H0 : Hp) : Prop := ∀ (i : Nat) (p : Addr) (s : Sl), Γ[i]? = some s → s.isOwn = true → σ[i]? = some (some (.ref p)) → H0 p = none
def FinS {ω : Type} (K : PySem.W.Frag) (W : WX) (P : Post ω) (x : Option Addr) (G0 H0 Gs : Hp) (L : Ends) : Bx × Res ω → Prop
  | (b', .ok w) => ∀ G' H', Pt x G0 H0 Gs G' H' → BoxSt x G' H' b' → P w L x H0 G' H'
  | (b', .err c fs) => ∀ σ' dd G' H', Pt x G0 H0 Gs G' H' → BoxSt x G' H' b' → RepX K G' dd fs → W (.ref (He.ga K c)) dd σ' H'
  | (_, .stuck) => False
def Rd {ω : Type} (K : PySem.W.Frag) (W : WX) (P : Post ω) (ts : TS) (Γ : List Sl) (m : M ω) : Prop :=
  ∀ x σ G0 H0 Gs G H b L, Env K x σ Γ G H → Fr σ Γ H0 → Same G H → BoxSt x G H b → Pt x G0 H0 Gs G H → FinS K W P x G0 H0 Gs L (m b) → ts L σ H
section
variable {ω : Type} {α β γ S : Type} [ToD α] [ToD β] [ToD γ] {K : PySem.W.Frag} {W : WX} {P : Post ω} {te ta tb : TE} {Γ : List Sl} {ts rest : TS}
theorem good_S {x : Option Addr} {σ : L2.St} {G0 H0 Gs : Hp} {L : Ends} : Good K W x σ (fun G H (r : Bx × Res ω) => Pt x G0 H0 Gs G H ∧ FinS K W P x G0 H0 Gs L r) :=
  ⟨fun e h => ⟨h.1.step e, h.2⟩, fun h dd G' H' e B r => h.2 _ dd G' H' (h.1.step e) B r, fun h => h.2⟩
theorem Fr.set {σ : L2.St} {H0 : Hp} (F : Fr σ Γ H0) {i : Nat} {o : Option V} {s : Sl} (hs : s.isOwn = false) : Fr (σ.set i o) (Γ.set i s) H0 := fun j p t h1 o1 e1 => by
  by_cases z : i = j
  · subst z
    by_cases l : i < Γ.length
    · rw [List.getElem?_set_self l] at h1; cases h1; rw [hs] at o1; cases o1
    · rw [List.getElem?_eq_none (by rw [List.length_set]; omega)] at h1; cases h1
  · rw [List.getElem?_set_ne z] at h1 e1
    exact F j p t h1 o1 e1
theorem Fr.wk {σ : L2.St} {H0 : Hp} {Δ : List Sl} (F : Fr σ Γ H0) (w : Wk Γ Δ) : Fr σ Δ H0 := fun j p t h1 o1 e1 => by
  rcases w.at_ h1 with rfl | e
  · cases o1
  · exact F j p t e o1 e1
theorem rd_wk {Δ : List Sl} {m : M ω} (w : Wk Γ Δ) (h : Rd K W P ts Δ m) : Rd K W P ts Γ m := fun x σ G0 H0 Gs G H b L E F s B e hf => h x σ G0 H0 Gs G H b L (E.wk w) (F.wk w) s B e hf
theorem rd_eq {m m' : M ω} (e : m' = m) (h : Rd K W P ts Γ m) : Rd K W P ts Γ m' := by rw [e]; exact h
/-- x = e -/
theorem rd_set {i : Nat} {m : M α} {k : α → M ω} (h : EvR K W te Γ m) (hr : ∀ a, Rd K W P rest (Γ.set i (.val (d a))) (k a)) : Rd K W P (tSeq (tAsg te (gName i)) rest) Γ (m >>= k) := fun x σ G0 H0 Gs G H b L E F s B e hf =>
  go (te := te) good_S h E s B (f := k) ⟨e, hf⟩ fun a b' v G' H' h2 e2 E2 s2 B2 r => hr a x _ G0 H0 Gs G' H' b' L (E2.setVal r) (F.set rfl) s2 B2 h2.1 h2.2
/-- e as a statement -/
theorem rd_drop {m : M α} {k : α → M ω} (h : EvR K W te Γ m) (hr : ∀ a, Rd K W P rest Γ (k a)) : Rd K W P (tSeq (tDrop te) rest) Γ (m >>= k) := fun x σ G0 H0 Gs G H b L E F s B e hf =>
  go (te := te) good_S h E s B (f := k) ⟨e, hf⟩ fun a b' v G' H' h2 e2 E2 s2 B2 r => hr a x _ G0 H0 Gs G' H' b' L E2 F s2 B2 h2.1 h2.2
/-- what a target leaves of the slots -/
abbrev UpOk {α : Type} (vs : List Nat) (up : α → List Sl → List Sl) (Γ : List Sl) : Prop := ∀ a j s, (up a Γ)[j]? = some s → s.isOwn = true → j ∉ vs ∧ Γ[j]? = some s
theorem up_set {vs : List Nat} {Γ : List Sl} {i : Nat} {t : Sl} (h : i ∈ vs) (ht : t.isOwn = false) {Δ : List Sl} (hd : ∀ j s, Δ[j]? = some s → s.isOwn = true → (j ∉ vs ∨ True) ∧ Γ[j]? = some s) : ∀ j s, (Δ.set i t)[j]? = some s → s.isOwn = true → j ≠ i ∧ Γ[j]? = some s := fun j s h1 o => by
  by_cases z : i = j
  · subst z
    by_cases l : i < Δ.length
    · rw [List.getElem?_set_self l] at h1; cases h1; rw [ht] at o; cases o
    · rw [List.getElem?_eq_none (by rw [List.length_set]; omega)] at h1; cases h1
  · rw [List.getElem?_set_ne z] at h1
    exact ⟨fun e => z e.symm, (hd j s h1 o).2⟩
theorem up1 {i : Nat} : UpOk (α := α) [i] (fun a Γ => Γ.set i (.val (d a))) Γ := fun a j s h o => by
  obtain ⟨h1, h2⟩ := up_set (vs := [i]) (by simp) rfl (fun j s h _ => ⟨.inr trivial, h⟩) j s h o
  exact ⟨by simpa using h1, h2⟩
theorem up2 {i j : Nat} : UpOk (α := α × β) [i, j] (fun a Γ => (Γ.set i (.val (d a.1))).set j (.val (d a.2))) Γ := fun a l s h o => by
  obtain ⟨h1, h2⟩ := up_set (vs := [j]) (Γ := Γ.set i (.val (d a.1))) (by simp) rfl (fun j s h _ => ⟨.inr trivial, h⟩) l s h o
  obtain ⟨h3, h4⟩ := up_set (vs := [i]) (by simp) rfl (fun j s h _ => ⟨.inr trivial, h⟩) l s h2 o
  exact ⟨by simp [h1, h3], h4⟩
theorem up3 {i j l : Nat} : UpOk (α := T3 α β γ) [i, j, l] (fun a Γ => ((Γ.set i (.val (d a.a))).set j (.val (d a.b))).set l (.val (d a.c))) Γ := fun a n s h o => by
  obtain ⟨h1, h2⟩ := up_set (vs := [l]) (Γ := (Γ.set i (.val (d a.a))).set j (.val (d a.b))) (by simp) rfl (fun j s h _ => ⟨.inr trivial, h⟩) n s h o
  obtain ⟨h3, h4⟩ := up2 (α := α) (β := β) (a.a, a.b) n s h2 o
  simp only [List.mem_cons, List.not_mem_nil, or_false, not_or] at h3
  exact ⟨by simp [h1, h3.1, h3.2], h4⟩
/-- a, b = e: any target -/
theorem rd_tg {g : TG} {vs : List Nat} {up : α → List Sl → List Sl} {m : M α} {k : α → M ω} (hg : TgOk K g vs up) (hfr : UpOk vs up Γ) (h : EvR K W te Γ m) (hr : ∀ a, Rd K W P rest (up a Γ) (k a)) :
    Rd K W P (tSeq (tAsg te g) rest) Γ (m >>= k) := fun x σ G0 H0 Gs G H b L E F s B e hf =>
  go (te := te) good_S h E s B (f := k) ⟨e, hf⟩ fun a b' v G' H' h2 e2 E2 s2 B2 r => hg x σ Γ G' H' v a _ E2 s2 r fun σ' _ E3 bk => hr a x _ G0 H0 Gs G' H' b' L E3 (fun j p t h1 o1 e1 => by
    obtain ⟨c1, c2⟩ := hfr a j t h1 o1
    exact F j p t c2 o1 (bk j p c1 e1)) s2 B2 h2.1 h2.2
/-- a, b = e1, e2 -/
theorem rd_par {i j : Nat} {t : TA} {mk : ∀ {θ : Type}, (α × β × Unit → M θ) → M θ} {k : α × β × Unit → M ω} (h : EvC (ι := α × β × Unit) K W t Γ mk) (hr : ∀ a b, Rd K W P rest ((Γ.set i (.val (d a))).set j (.val (d b))) (k (a, b, ()))) :
    Rd K W P (tSeq (tPar i j t) rest) Γ (mk k) := fun x σ G0 H0 Gs G H b L E F s B e hf =>
  h ω x σ _ good_S k G H b _ E s B ⟨e, hf⟩ fun i' b' vs G' H' h2 e2 E2 s2 B2 rs => by
    obtain ⟨a, c, u⟩ := i'
    obtain ⟨v, w, rfl, r1, r2⟩ := reps2 rs
    exact ⟨v, w, rfl, hr a c x _ G0 H0 Gs G' H' b' L ((E2.setVal r1).setVal r2) ((F.set rfl).set rfl) s2 B2 h2.1 h2.2⟩
theorem reps3 {G : Hp} {vs : List V} {a : α} {c : β} {c2 : γ} (h : Reps K G vs (ds (a, c, c2, ()))) : ∃ v w u, vs = [v, w, u] ∧ Rep K G v (d a) ∧ Rep K G w (d c) ∧ Rep K G u (d c2) := by
  cases h with | cons r t => cases t with | cons r2 t2 => cases t2 with | cons r3 t3 => cases t3 with | nil => exact ⟨_, _, _, rfl, r, r2, r3⟩
theorem rd_par3 {i j l : Nat} {t : TA} {mk : ∀ {θ : Type}, (α × β × γ × Unit → M θ) → M θ} {k : α × β × γ × Unit → M ω} (h : EvC (ι := α × β × γ × Unit) K W t Γ mk) (hr : ∀ a b c, Rd K W P rest (((Γ.set i (.val (d a))).set j (.val (d b))).set l (.val (d c))) (k (a, b, c, ()))) :
    Rd K W P (tSeq (tPar3 i j l t) rest) Γ (mk k) := fun x σ G0 H0 Gs G H b L E F s B e hf =>
  h ω x σ _ good_S k G H b _ E s B ⟨e, hf⟩ fun i' b' vs G' H' h2 e2 E2 s2 B2 rs => by
    obtain ⟨a, c, c2, u⟩ := i'
    obtain ⟨v, w, w2, rfl, r1, r2, r3⟩ := reps3 rs
    exact ⟨v, w, w2, rfl, hr a c c2 x _ G0 H0 Gs G' H' b' L (((E2.setVal r1).setVal r2).setVal r3) (((F.set rfl).set rfl).set rfl) s2 B2 h2.1 h2.2⟩
/-- if -/
theorem rd_if {t : TT} {u v : TS} {mc : M Bool} {m1 m2 : M ω} (hc : EvT K W t Γ mc) (h1 : Rd K W P (tSeq u rest) Γ m1) (h2 : Rd K W P (tSeq v rest) Γ m2) : Rd K W P (tSeq (tIfS t u v) rest) Γ (do let c ← mc; if c = true then m1 else m2) := fun x σ G0 H0 Gs G H b L E F s B e hf =>
  goT (t := t) good_S hc E s B (f := fun c => if c = true then m1 else m2) ⟨e, hf⟩ fun a b' G' H' h3 e2 E2 s2 B2 => by
    cases a with
    | true => exact iteT (h1 x σ G0 H0 Gs G' H' b' L E2 F s2 B2 h3.1 h3.2)
    | false => exact iteF (h2 x σ G0 H0 Gs G' H' b' L E2 F s2 B2 h3.1 h3.2)
/-- what a block leaves to what follows -/
def PJ {S : Type} (K : PySem.W.Frag) (Γn : S → List Sl) : Post S := fun s L x H0 G H => ∀ σ', Env K x σ' (Γn s) G H → Fr σ' (Γn s) H0 → L.nx σ' H
theorem rd_next {Γn : S → List Sl} {s : S} (w : Wk Γ (Γn s)) : Rd K W (PJ K Γn) tNext Γ (pure s) := fun x σ G0 H0 Gs G H b L E F s B e hf => hf G H e B σ (E.wk w) (F.wk w)
theorem rd_join {t : TT} {u v : TS} {Γn : S → List Sl} {mc : M Bool} {m1 m2 : M S} {k : S → M ω} (hc : EvT K W t Γ mc) (h1 : Rd K W (PJ K Γn) u Γ m1) (h2 : Rd K W (PJ K Γn) v Γ m2) (hr : ∀ s, Rd K W P rest (Γn s) (k s)) :
    Rd K W P (tSeq (tIfS t u v) rest) Γ (do let c ← mc; let s ← (if c = true then m1 else m2); k s) := fun x σ G0 H0 Gs G H b L E F s B e hf =>
  goT (t := t) good_S hc E s B (f := fun c => do let s ← (if c = true then m1 else m2); k s) ⟨e, hf⟩ fun a b' G' H' h3 e2 E2 s2 B2 => by
    have part : ∀ (ts : TS) (m : M S), Rd K W (PJ K Γn) ts Γ m → FinS K W P x G0 H0 Gs L ((m >>= k) b') → ts { L with nx := rest L } σ H' := fun ts m hm hf2 => by
      refine hm x σ G0 H0 Gs G' H' b' _ E2 F s2 B2 h3.1 ?_
      rw [M.bind_def] at hf2
      cases q : m b' with
      | mk b3 r =>
        rw [q] at hf2
        cases r with
        | ok w => exact fun G3 H3 e3 B3 σ' E3 F3 => hr w x σ' G0 H0 Gs G3 H3 b3 L E3 F3 e3.ex.gh B3 e3 hf2
        | err c fs => exact hf2
        | stuck => exact hf2
    cases a with
    | true => exact iteT (part u m1 h1 h3.2)
    | false => exact iteF (part v m2 h2 h3.2)
/-- return -/
def PRet {α : Type} [ToD α] (K : PySem.W.Frag) : Post α := fun w L x H0 G H => ∀ v, Rep K G v (d w) → L.rt v H
abbrev RetOk {ω α : Type} [ToD α] (K : PySem.W.Frag) (P : Post ω) (rk : α → ω) : Prop := ∀ w L x H0 G H, P (rk w) L x H0 G H → ∀ v, Rep K G v (d w) → L.rt v H
theorem rk_id : RetOk (α := α) K (PRet K) id := fun _ _ _ _ _ _ h => h
theorem rd_ret {m : M α} (h : EvR K W te Γ m) : Rd K W (PRet K) (tRet te) Γ m := fun x σ G0 H0 Gs G H b L E F s B e hf => by
  refine h x σ G H b _ E s B ?_
  cases q : m b with
  | mk b' r =>
    rw [q] at hf
    cases r with
    | ok a => exact fun v G' H' e2 B2 r => hf G' H' (e.step e2) B2 v r
    | err c fs => exact fun dd G' H' e2 B2 r => hf σ dd G' H' (e.step e2) B2 r
    | stuck => exact hf
/-- return, within a loop -/
theorem rd_retk {m : M α} {rk : α → ω} (hP : RetOk K P rk) (h : EvR K W te Γ m) : Rd K W P (tRet te) Γ (do let a ← m; pure (rk a)) := fun x σ G0 H0 Gs G H b L E F s B e hf =>
  go (te := te) good_S h E s B (f := fun a => pure (rk a)) ⟨e, hf⟩ fun a b' v G' H' h2 e2 E2 s2 B2 r => hP _ _ _ _ _ _ (h2.2 G' H' h2.1 B2) v r
theorem rd_retN {rk : Unit → ω} (hP : RetOk K P rk) : Rd K W P tRetN Γ (pure (rk ())) := fun x σ G0 H0 Gs G H b L E F s B e hf => hP _ _ _ _ _ _ (hf G H e B) .non .non

/-! ### loops -/
inductive Step (S ρ : Type) where
  | nx (s : S) | rt (w : ρ)
def PB {S ρ : Type} [ToD ρ] (K : PySem.W.Frag) (Γn : S → List Sl) : Post (Step S ρ)
  | .nx s, L, x, H0, G, H => ∀ σ', Env K x σ' (Γn s) G H → Fr σ' (Γn s) H0 → L.nx σ' H ∧ L.ct σ' H
  | .rt w, L, _, _, G, H => ∀ v, Rep K G v (d w) → L.rt v H
theorem rk_rt {ρ : Type} [ToD ρ] {Γn : S → List Sl} : RetOk (α := ρ) K (PB K Γn) Step.rt := fun _ _ _ _ _ _ h => h
theorem rd_nx {ρ : Type} [ToD ρ] {Γn : S → List Sl} {s : S} (w : Wk Γ (Γn s)) : Rd K W (PB (ρ := ρ) K Γn) tNext Γ (pure (.nx s)) := fun x σ G0 H0 Gs G H b L E F s B e hf => (hf G H e B σ (E.wk w) (F.wk w)).1
theorem rd_cont {ρ : Type} [ToD ρ] {Γn : S → List Sl} {s : S} (w : Wk Γ (Γn s)) : Rd K W (PB (ρ := ρ) K Γn) tCont Γ (pure (.nx s)) := fun x σ G0 H0 Gs G H b L E F s B e hf => (hf G H e B σ (E.wk w) (F.wk w)).2
def forM {ι S ρ : Type} (body : ι → S → M (Step S ρ)) : List ι → S → M (Step S ρ)
  | [], s => pure (.nx s)
  | a :: r, s => do
    match ← body a s with
    | .nx s' => forM body r s'
    | .rt w => pure (.rt w)
def after {S ρ ω : Type} (m : M (Step S ρ)) (k : S → M ω) (rk : ρ → ω) : M ω := do
  match ← m with
  | .nx s => k s
  | .rt w => pure (rk w)
theorem rd_for {ρ : Type} [ToD ρ] {wi : TI} {g : TG} {tb : TS} {vs : List Nat} {up : α → List Sl → List Sl} {Γn : S → List Sl} {s0 : S} {mi : M (List α)} {body : α → S → M (Step S ρ)} {k : S → M ω} {rk : ρ → ω}
    (w0 : Wk Γ (Γn s0)) (hP : RetOk K P rk) (hi : EvI K W wi Γ mi) (hg : TgOk K g vs up) (hfr : ∀ s, UpOk vs up (Γn s)) (hb : ∀ a s, Rd K W (PB K Γn) tb (up a (Γn s)) (body a s)) (hr : ∀ s, Rd K W P rest (Γn s) (k s)) :
    Rd K W P (tSeq (tFor wi g tb) rest) Γ (do let xs ← mi; after (forM body xs s0) k rk) := fun x σ G0 H0 Gs G H b L E F s B e hf =>
  hi ω x σ _ good_S _ G H b _ E s B ⟨e, hf⟩ fun xs b1 J G1 H1 h1 e1 E1 s1 B1 wk => by
    obtain ⟨p1, h1⟩ := h1
    refine ⟨fun i m σ' H' => ∃ G' b' s, m = xs.length - i ∧ i ≤ xs.length ∧ Env K x σ' (Γn s) G' H' ∧ Fr σ' (Γn s) H0 ∧ Same G1 G' ∧ Same G' H' ∧ BoxSt x G' H' b' ∧ Pt x G0 H0 Gs G' H' ∧ FinS K W P x G0 H0 Gs L (after (forM body (xs.drop i) s) k rk b'),
      ⟨_, G1, b1, s0, rfl, Nat.zero_le _, E1.wk w0, F.wk w0, Same.refl _, s1, B1, p1, h1⟩, ?_⟩
    rintro i m σ' H' ⟨G', b', st, rfl, hi', E', F', sg, sh, B', p', hf'⟩
    by_cases hlt : i < xs.length
    · have hd : xs.drop i = xs[i] :: xs.drop (i + 1) := List.drop_eq_getElem_cons hlt
      obtain ⟨hgo, hy⟩ := (wk i G' H' ⟨sg, sh⟩).1 xs[i] (List.getElem?_eq_getElem hlt)
      refine .inr ⟨hgo, fun σ'' H'' => ∃ G' b' s, i + 1 ≤ xs.length ∧ Env K x σ'' (Γn s) G' H'' ∧ Fr σ'' (Γn s) H0 ∧ Same G1 G' ∧ Same G' H'' ∧ BoxSt x G' H'' b' ∧ Pt x G0 H0 Gs G' H'' ∧ FinS K W P x G0 H0 Gs L (after (forM body (xs.drop (i + 1)) s) k rk b'),
        fun σ'' H'' ⟨G'', b'', s'', c⟩ => ⟨xs.length - (i + 1), by omega, G'', b'', s'', rfl, c⟩, fun y H2 hyld => ?_⟩
      obtain ⟨G2, ex2, ry⟩ := hy y H2 hyld
      have B2 := B'.none_ex ex2
      have ex2 := ex2.box (x := x)
      refine hg x σ' (Γn st) G2 H2 y xs[i] _ (E'.ext ex2) ex2.gh ry fun σ3 _ E3 bk => ?_
      rw [hd] at hf'
      have F3 : Fr σ3 (up xs[i] (Γn st)) H0 := fun j p t h1 o1 e1 => by
        obtain ⟨c1, c2⟩ := hfr st xs[i] j t h1 o1
        exact F' j p t c2 o1 (bk j p c1 e1)
      refine hb xs[i] st x σ3 G0 H0 G2 G2 H2 b' _ E3 F3 ex2.gh B2 ⟨p'.ex.trans ex2, Same.refl _⟩ ?_
      have hf2 : FinS K W P x G0 H0 Gs L (((body xs[i] st >>= fun r => match r with
        | .nx s' => forM body (xs.drop (i + 1)) s'
        | .rt w => pure (.rt w)) >>= fun r => match r with
        | .nx s => k s
        | .rt w => pure (rk w)) b') := hf'
      rw [bind_assoc, M.bind_def] at hf2
      cases q : body xs[i] st b' with
      | mk b3 r =>
        rw [q] at hf2
        cases r with
        | stuck => exact hf2
        | err c fs => exact fun σ4 dd G4 H4 p4 B4 r4 => hf2 σ4 dd G4 H4 ⟨p4.ex, (p'.gs.trans ex2.g).trans p4.gs⟩ B4 r4
        | ok w =>
          cases w with
          | nx s' => exact fun G4 H4 p4 B4 σ4 E4 F4 =>
              have z : ∃ G' b' s, i + 1 ≤ xs.length ∧ Env K x σ4 (Γn s) G' H4 ∧ Fr σ4 (Γn s) H0 ∧ Same G1 G' ∧ Same G' H4 ∧ BoxSt x G' H4 b' ∧ Pt x G0 H0 Gs G' H4 ∧ FinS K W P x G0 H0 Gs L (after (forM body (xs.drop (i + 1)) s) k rk b') :=
                ⟨G4, b3, s', hlt, E4, F4, (sg.trans ex2.g).trans p4.gs, p4.ex.gh, B4, ⟨p4.ex, (p'.gs.trans ex2.g).trans p4.gs⟩, hf2⟩
              ⟨z, z⟩
          | rt w => exact fun G4 H4 p4 B4 => hP w L x H0 G4 H4 (hf2 G4 H4 ⟨p4.ex, (p'.gs.trans ex2.g).trans p4.gs⟩ B4)
    · have hi2 : xs.length = i := by omega
      refine .inl ⟨(wk i G' H' ⟨sg, sh⟩).2 hi2, ?_⟩
      rw [List.drop_eq_nil_of_le (by omega)] at hf'
      exact hr st x σ' G0 H0 Gs G' H' b' L E' F' sh B' p' hf'
/-- for, nothing returned within -/
def foldM {ι S : Type} (body : ι → S → M S) : List ι → S → M S
  | [], s => pure s
  | a :: r, s => do
    let s' ← body a s
    foldM body r s'
theorem rd_nxj {ρ : Type} [ToD ρ] {Γn : S → List Sl} {m : M S} (h : Rd K W (PJ K Γn) ts Γ m) : Rd K W (PB (ρ := ρ) K Γn) ts Γ (do let s ← m; pure (.nx s)) := fun x σ G0 H0 Gs G H b L E F s B e hf => by
  refine h x σ G0 H0 Gs G H b L E F s B e ?_
  rw [M.bind_def] at hf
  cases q : m b with
  | mk b' r =>
    rw [q] at hf
    cases r with
    | ok w => exact fun G' H' p' B' σ' E' F' => (hf G' H' p' B' σ' E' F').1
    | err c fs => exact hf
    | stuck => exact hf
theorem fold_for {ι ρ : Type} {body : ι → S → M S} {k : S → M ω} {rk : ρ → ω} : ∀ (xs : List ι) (s : S), after (forM (fun a s => do let s' ← body a s; pure (.nx s')) xs s) k rk = (do let s' ← foldM body xs s; k s')
  | [], s => by simp [after, forM, foldM]
  | a :: r, s => by
    have ih := fun s => fold_for (body := body) (k := k) (rk := rk) r s
    simp only [after, forM, foldM, bind_assoc, pure_bind] at ih ⊢
    congr 1
    funext s'
    exact ih s'
instance : ToD Empty := ⟨fun e => nomatch e⟩
theorem rd_fold {wi : TI} {g : TG} {tb : TS} {vs : List Nat} {up : α → List Sl → List Sl} {Γn : S → List Sl} {s0 : S} {mi : M (List α)} {body : α → S → M S} {k : S → M ω}
    (w0 : Wk Γ (Γn s0)) (hi : EvI K W wi Γ mi) (hg : TgOk K g vs up) (hfr : ∀ s, UpOk vs up (Γn s)) (hb : ∀ a s, Rd K W (PJ K Γn) tb (up a (Γn s)) (body a s)) (hr : ∀ s, Rd K W P rest (Γn s) (k s)) :
    Rd K W P (tSeq (tFor wi g tb) rest) Γ (do let xs ← mi; let s ← foldM body xs s0; k s) := by
  have h := rd_for (ρ := Empty) (P := P) (rk := fun e => nomatch e) w0 (fun e => nomatch e) hi hg hfr (fun a s => rd_nxj (hb a s)) hr
  simp only [fold_for] at h
  exact h
/-- while -/
def whileM {S ρ : Type} (c : S → M Bool) (body : S → M (Step S ρ)) : Nat → S → M (Step S ρ)
  | 0, _ => M.stuck
  | n + 1, s => do
    let b ← c s
    if b = true then do
      match ← body s with
      | .nx s' => whileM c body n s'
      | .rt w => pure (.rt w)
    else pure (.nx s)
theorem rd_while {ρ : Type} [ToD ρ] {t : TT} {tb : TS} {Γn : S → List Sl} {s0 : S} {mc : S → M Bool} {body : S → M (Step S ρ)} {k : S → M ω} {rk : ρ → ω} {n : Nat}
    (w0 : Wk Γ (Γn s0)) (hP : RetOk K P rk) (hc : ∀ s, EvT K W t (Γn s) (mc s)) (hb : ∀ s, Rd K W (PB K Γn) tb (Γn s) (body s)) (hr : ∀ s, Rd K W P rest (Γn s) (k s)) :
    Rd K W P (tSeq (tWhile t tb) rest) Γ (after (whileM mc body n s0) k rk) := fun x σ G0 H0 Gs G H b L E F s B e hf => by
  refine ⟨fun m σ' H' => ∃ G' b' st, Env K x σ' (Γn st) G' H' ∧ Fr σ' (Γn st) H0 ∧ Same G' H' ∧ BoxSt x G' H' b' ∧ Pt x G0 H0 Gs G' H' ∧ FinS K W P x G0 H0 Gs L (after (whileM mc body m st) k rk b'),
    ⟨n, G, b, s0, E.wk w0, F.wk w0, s, B, e, hf⟩, ?_⟩
  rintro m σ' H' ⟨G', b', st, E', F', s', B', p', hf'⟩
  cases m with
  | zero => exact False.elim hf'
  | succ m =>
    have hf2 : FinS K W P x G0 H0 Gs L (((mc st >>= fun b => if b = true then (body st >>= fun r => match r with
      | .nx s' => whileM mc body m s'
      | .rt w => pure (.rt w)) else pure (.nx st)) >>= fun r => match r with
      | .nx s => k s
      | .rt w => pure (rk w)) b') := hf'
    rw [bind_assoc] at hf2
    refine goT (t := t) good_S (hc st) E' s' B' ⟨p', hf2⟩ fun c b2 G2 H2 h2 ex2 E2 s2 B2 => ?_
    obtain ⟨p2, h2⟩ := h2
    cases c with
    | false => exact iteF (hr st x σ' G0 H0 Gs G2 H2 b2 L E2 F' s2 B2 p2 h2)
    | true =>
      have h3 : FinS K W P x G0 H0 Gs L (((body st >>= fun r => match r with
        | .nx s' => whileM mc body m s'
        | .rt w => pure (.rt w)) >>= fun r => match r with
        | .nx s => k s
        | .rt w => pure (rk w)) b2) := h2
      rw [bind_assoc, M.bind_def] at h3
      refine iteT ⟨fun σ4 H4 => ∃ G' b' st, Env K x σ4 (Γn st) G' H4 ∧ Fr σ4 (Γn st) H0 ∧ Same G' H4 ∧ BoxSt x G' H4 b' ∧ Pt x G0 H0 Gs G' H4 ∧ FinS K W P x G0 H0 Gs L (after (whileM mc body m st) k rk b'),
        fun σ4 H4 z => ⟨m, Nat.lt_succ_self _, z⟩, hb st x σ' G0 H0 Gs G2 H2 b2 _ E2 F' s2 B2 p2 ?_⟩
      cases q : body st b2 with
      | mk b3 r =>
        rw [q] at h3
        cases r with
        | stuck => exact h3
        | err c fs => exact h3
        | ok w =>
          cases w with
          | nx s3 => exact fun G4 H4 p4 B4 σ4 E4 F4 => ⟨⟨G4, b3, s3, E4, F4, p4.ex.gh, B4, p4, h3⟩, ⟨G4, b3, s3, E4, F4, p4.ex.gh, B4, p4, h3⟩⟩
          | rt w => exact fun G4 H4 p4 B4 => hP w L x H0 G4 H4 (h3 G4 H4 p4 B4)

/-! ### a def from its body -/
def slots (ds : List D) (n : Nat) : List Sl := ds.map .val ++ List.replicate n .any
theorem env_start {N : List Str} {vs : List V} {ds : List D} {n : Nat} {G H : Hp} (r : Reps K G vs ds) (hn : N.length - vs.length = n) : Env K none (L2.start N vs) (slots ds n) G H := by
  subst hn
  unfold L2.start slots
  have hl := r.length
  refine ⟨by simp [hl], fun i s o h1 h2 => ?_, fun i j p s t ne h1 h2 o1 => ?_, fun i p s h1 o1 => ?_⟩
  · by_cases l : i < ds.length
    · rw [List.getElem?_append_left (by simpa using l), List.getElem?_map] at h1
      rw [List.getElem?_append_left (by simpa [hl] using l), List.getElem?_map] at h2
      cases e1 : ds[i]? with
      | none => rw [e1] at h1; cases h1
      | some dd =>
        rw [e1] at h1
        cases h1
        obtain ⟨v, e2, rv⟩ := r.get e1
        rw [e2] at h2
        cases h2
        exact ⟨v, rfl, rv⟩
    · rw [List.getElem?_append_right (by simpa using l)] at h1
      have := List.mem_of_getElem? h1
      rw [List.eq_of_mem_replicate this]
      trivial
  all_goals
    exfalso
    have hm := List.mem_of_getElem? h1
    rcases List.mem_append.mp hm with z | z
    · obtain ⟨a, _, rfl⟩ := List.mem_map.mp z; cases o1
    · rw [List.eq_of_mem_replicate z] at o1; cases o1
theorem fr_start {σ : L2.St} {ds : List D} {n : Nat} {H0 : Hp} : Fr σ (slots ds n) H0 := fun i p s h1 o1 => by
  exfalso
  have hm := List.mem_of_getElem? h1
  rcases List.mem_append.mp hm with z | z
  · obtain ⟨a, _, rfl⟩ := List.mem_map.mp z; cases o1
  · rw [List.eq_of_mem_replicate z] at o1; cases o1
abbrev WE1 (E : XK) : WX := fun c dd _ H => E c dd H
/-- the reading of a def's whole body -/
theorem fn_rd {ι : Type} [ToDs ι] {ts : TS} {N : List Str} {f : ι → Res γ} {mb : ι → M γ} {n : Nat} {H : Hp} {vs : List V} {Q : VK} {E : XK} (h : spG K f vs H Q E) (hm : ∀ i, f i = M.run (mb i)) (hn : ∀ i : ι, N.length - (ds i).length = n)
    (hb : ∀ i, Rd K (WE1 E) (PRet K) ts (slots (ds i) n) (mb i)) : ts { nx := fun _ H' => Q .non H', rt := Q } (L2.start N vs) H := by
  obtain ⟨i, G, s, rs, hf⟩ := h
  refine hb i none _ G H G G H (0, 0, 0) _ (env_start rs (by rw [rs.length]; exact hn i)) fr_start s boxNone ⟨Ex.refl s, Same.refl _⟩ ?_
  rw [hm] at hf
  unfold M.run at hf
  cases q : mb i (0, 0, 0) with
  | mk b' r =>
    rw [q] at hf
    cases r with
    | ok a => exact fun G' H' p' _ v rv => hf v G' H' p'.ex rv
    | err c fs => exact fun σ' dd G' H' p' _ rx => hf dd G' H' p'.ex rx
    | stuck => exact hf
theorem spG_len {ι : Type} [ToDs ι] {f : ι → Res γ} {vs : List V} {H : Hp} {Q : VK} {E : XK} {n : Nat} (h : spG K f vs H Q E) (hn : ∀ i : ι, (ds i).length = n) : vs.length = n := by
  obtain ⟨i, G, s, rs, hf⟩ := h
  rw [rs.length, hn]
end
end N

set_option Elab.async false
set_option linter.all false
set_option maxRecDepth 100000
set_option maxHeartbeats 4000000
/-! N5: instances, fields, methods, makings, isinstance, errors. -/
namespace N
open PySem PySem.Spec PyProof.Rows L2 J
open ToD (d)
open ToDs (ds)
open M

section
variable {ω : Type} {α β γ S : Type} [ToD α] [ToD β] [ToD γ] {K : PySem.W.Frag} {W : WX} {P : Post ω} {te ta tb : TE} {Γ : List Sl} {ts rest : TS}
/-! ### fields, properties, methods -/
/-- α's values are instances of the class named c -/
class InsOf (α : Type) [ToD α] (c : outParam Str) where
  fs : α → List (Str × D)
  eq : ∀ a, d a = .ins c (fs a)
theorem ev_fld {c f : Str} [InsOf α c] {m : M α} {g : α → β} (h : EvR K W te Γ m) (cl : Cls K (He.ga K c)) (na : NoAttr K (He.ga K c) f) (hg : ∀ a, (InsOf.fs (α := α) a).lookup f = some (d (g a)) := by intro _; rfl) :
    EvR K W (tFld K te f) Γ (do let a ← m; pure (g a)) := fun x σ G H b Q E s B h' =>
  step_E (te := te) h E s B h' fun a b' v G' H' h2 e E2 s2 B2 r => by
    rw [InsOf.eq] at r
    obtain ⟨p, dx, vs, rfl, hp, rf⟩ := rep_ins r
    obtain ⟨w, hw, rw'⟩ := rf.look (hg a)
    exact ⟨p, _, dx, vs, w, rfl, s2 _ _ hp, cl, na, hw, h2.here s2 B2 rw'⟩
/-- a getter that hands back a field -/
theorem ev_prop {c f : Str} [InsOf α c] {C : Addr} (hC : He.ga K c = C) {m : M α} {g : α → β} (h : EvR K W te Γ m) (hg : ∀ a, (InsOf.fs (α := α) a).lookup f = some (d (g a)) := by intro _; rfl) :
    EvR K W (tProp C (getSp C f) [] E0 te) Γ (do let a ← m; pure (g a)) := fun x σ G H b Q E s B h' =>
  step_E (te := te) h E s B h' fun a b' v G' H' h2 e E2 s2 B2 r => by
    subst hC
    rw [InsOf.eq] at r
    obtain ⟨p, dx, vs, rfl, hp, rf⟩ := rep_ins r
    obtain ⟨w, hw, rw'⟩ := rf.look (hg a)
    exact ⟨p, dx, vs, rfl, s2 _ _ hp, p, dx, vs, w, rfl, s2 _ _ hp, hw, h2.here s2 B2 rw'⟩
theorem lookup_none {vs : List (Str × V)} {fs : List (Str × D)} {n : Str} {G : Hp} (r : RepF K G vs fs) (h : fs.lookup n = none) : vs.lookup n = none := by
  induction fs generalizing vs with
  | nil => cases r; rfl
  | cons q t ih =>
    cases r with | cons r1 r2 =>
    rename_i m _ _ _
    by_cases z : n = m
    · subst z
      simp [List.lookup] at h
    · have z2 : (n == m) = false := by simpa using z
      simp only [List.lookup, z2] at h ⊢
      exact ih r2 h
theorem ev_meth {c n : Str} [InsOf α c] {C : Addr} (hC : He.ga K c = C) {ι : Type} [ToDs ι] {t : TA} {mk : ∀ {θ : Type}, (ι → M θ) → M θ} {f : α × ι → Res γ} {m : M α} (h : EvR K W te Γ m) (h2 : EvC K W t Γ mk) (hn : ∀ a, (InsOf.fs (α := α) a).lookup n = none := by intro _; rfl) :
    EvR K W (tMethS C n (spG K f) (WE W) te t) Γ (do let a ← m; mk fun i => lft (f (a, i))) := fun x σ G H b Q E s B h' =>
  step_E (te := te) h E s B h' fun a b' v G' H' h3 e E2 s2 B2 r => by
    subst hC
    have r0 := r
    rw [InsOf.eq] at r
    obtain ⟨p, dx, vs, rfl, hp, rf⟩ := rep_ins r
    exact ⟨p, dx, vs, rfl, s2 _ _ hp, lookup_none rf (hn a), h2 γ x σ _ good_E _ G' H' b' _ E2 s2 B2 h3 fun i b3 ws G3 H3 h4 e3 E3 s3 B3 rs => spG_of (i := (a, i)) s3 B3 (.cons (r0.ext e3.g) rs) h4⟩
/-- x op y of an own class, by its def -/
theorem om_own {c : Str} [InsOf α c] {C : Addr} (hC : He.ga K c = C) {f : α × β × Unit → Res γ} (hb : ∀ G H v b, Same G H → Rep K G v (d (b : β)) → (∃ i, v = .int i) ∨ ∃ p dy gs, v = .ref p ∧ H p = some (.ins C dy gs)) :
    OpM K (rOwnL C (spG K f) E0) (fun (a : α) (b : β) => strict (lft (f (a, b, ())))) := fun W x σ G H b Q a c' v w s B ra rc h => by
  have r0 := ra
  rw [InsOf.eq] at ra
  obtain ⟨p, dx, vs, rfl, hp, rf⟩ := rep_ins ra
  rw [hC] at hp
  refine ⟨p, dx, vs, rfl, s _ _ hp, hb G H w c' s rc, ?_⟩
  have h2 := strict_E h
  have h3 := spG_of (i := (a, c', ())) s B (.cons r0 (.cons rc .nil)) h2
  exact h3
theorem um_own {c : Str} [InsOf α c] {C : Addr} (hC : He.ga K c = C) {f : α × Unit → Res γ} : UnM K (rOwnU C (spG K f) E0) (fun (a : α) => strict (lft (f (a, ())))) := fun W x σ G H b Q a v s B ra h => by
  have r0 := ra
  rw [InsOf.eq] at ra
  obtain ⟨p, dx, vs, rfl, hp, rf⟩ := rep_ins ra
  rw [hC] at hp
  refine ⟨p, dx, vs, rfl, s _ _ hp, ?_⟩
  exact spG_of (i := (a, ())) s B (.cons r0 .nil) (strict_E h)
theorem cm_strOwn {c : Str} [InsOf α c] {C : Addr} (hC : He.ga K c = C) {f : α × Unit → Res Str} : CallM K (rStrOwn C (spG K f) E0) (fun (i : α × Unit) => strict (lft (f i))) := fun W x σ G H b Q i vs s B rs h => by
  obtain ⟨a, u⟩ := i
  obtain ⟨v, rfl, ra⟩ := reps1 rs
  have r0 := ra
  rw [InsOf.eq] at ra
  obtain ⟨p, dx, ws, rfl, hp, rf⟩ := rep_ins ra
  rw [hC] at hp
  refine ⟨p, dx, ws, rfl, s _ _ hp, (a, ()), G, s, .cons r0 .nil, ?_⟩
  have h2 := strict_E h
  unfold lft at h2
  cases e : f (a, ()) with
  | ok z => rw [e] at h2; exact fun v G' H' e1 r => ⟨z, rep_str r, by rw [rep_str r]; exact h2 (.str z) G' H' e1.box (B.none_ex e1) (.str z)⟩
  | err c fs => rw [e] at h2; exact fun dd G' H' e1 r => h2 dd G' H' e1.box (B.none_ex e1) r
  | stuck => rw [e] at h2; exact h2

/-! ### an instance is made -/
def FinI (K : PySem.W.Frag) (C dx a : Addr) (G H : Hp) (Q : VK) (E : XK) : Res (List (Str × D)) → Prop
  | .ok fs => ∀ G' H' gs, Ex none G (off H a) G' (off H' a) → H' a = some (.ins C dx gs) → RepF K G' gs fs → Q .non H'
  | .err c fs => ∀ dd G' H', Ex none G (off H a) G' H' → RepX K G' dd fs → E (.ref (He.ga K c)) dd H'
  | .stuck => False
/-- __init__ of the class at C on an instance with the fields fs0: f tells the fields behind it -/
def spI {ι : Type} [ToDs ι] (K : PySem.W.Frag) (C : Addr) (fs0 : List (Str × D)) (f : ι → Res (List (Str × D))) : Sp := fun vs H Q E => ∃ a dx gs0 ws i G, vs = .ref a :: ws ∧ H a = some (.ins C dx gs0) ∧ RepF K G gs0 fs0 ∧ G a = none ∧ Same G H ∧ Reps K G ws (ds i) ∧
  FinI K C dx a G H Q E (f i)
theorem off_upd {H : Hp} {a : Addr} {o : HO} (h : H a = none) : off (upd H a o) a = H := by
  funext p
  unfold off
  by_cases e : p = a
  · rw [if_pos e, e, h]
  · rw [if_neg e, upd_ne e]
theorem ev_make {c : Str} {C : Addr} (hC : He.ga K c = C) {ι : Type} [ToDs ι] {t : TA} {mk : ∀ {θ : Type}, (ι → M θ) → M θ} {g : ι → Res α} (h : EvC K W t Γ mk) {dvs : List V} {κ : Type} [ToDs κ] {fk : κ → Res (List (Str × D))} (j : ι → κ)
    (hj : ∀ G vs i, Reps K G vs (ds i) → Reps K G (vs ++ dvs) (ds (j i))) (hf : ∀ i, match fk (j i), g i with | .ok fs, .ok a => d a = .ins c fs | .err c fs, r => r = .err c fs | _, r => r = .stuck) :
    EvR K W (tMakeS C (spI K C [] fk) dvs (WE W) t) Γ (mk fun i => lft (g i)) := fun x σ G H b Q E s B h' =>
  h α x σ _ good_E _ G H b _ E s B h' fun i b' vs G' H' h2 e E2 s2 B2 rs y dx hy hdx ne => by
    subst hC
    have gy : G' y = none := s2.free hy
    have hy' : (upd H' dx (.own y)) y = none := by rw [upd_ne ne.symm]; exact hy
    have sU : Same G' (upd (upd H' dx (.own y)) y (.ins (He.ga K c) dx [])) := fun q o hq => by
      rw [upd_ne (fun z => by rw [z, gy] at hq; cases hq), upd_ne (fun z => by rw [z, s2.free hdx] at hq; cases hq)]
      exact s2 _ _ hq
    refine ⟨y, dx, [], vs ++ dvs, j i, G', rfl, upd_same, .nil, gy, sU, hj _ _ _ rs, ?_⟩
    have hfi := hf i
    have xy : x ≠ some y := fun z => by have := (B2 y z).2; rw [hy] at this; cases this
    have xdx : x ≠ some dx := fun z => by have := (B2 dx z).2; rw [hdx] at this; cases this
    have keep : ∀ {G3 H3 : Hp}, Ex none G' (off (upd (upd H' dx (.own y)) y (.ins (He.ga K c) dx [])) y) G3 (off H3 y) → (∀ p o, H' p = some o → H3 p = some o) ∧ (∀ p o, H' p = some o → G' p = none → G3 p = none) ∧ G3 y = none := fun {G3 H3} e3 => by
      rw [off_upd hy'] at e3
      have hk : ∀ p o, H' p = some o → off H3 y p = some o := fun p o hp => e3.keep p o (by simp) (by rw [upd_ne (fun z => by rw [z, hdx] at hp; cases hp)]; exact hp)
      refine ⟨fun p o hp => ?_, fun p o hp hg => e3.uns p o (by simp) (by rw [upd_ne (fun z => by rw [z, hdx] at hp; cases hp)]; exact hp) hg, ?_⟩
      · have := hk p o hp
        unfold off at this
        by_cases z : p = y
        · rw [if_pos z] at this; cases this
        · rw [if_neg z] at this; exact this
      · cases q : G3 y with
        | none => rfl
        | some o =>
          have := e3.gh y o q
          unfold off at this
          rw [if_pos rfl] at this
          cases this
    cases q : fk (j i) with
    | stuck =>
      rw [q] at hfi
      dsimp only at hfi
      unfold lft at h2
      rw [hfi] at h2
      exact h2
    | err cc fs =>
      rw [q] at hfi
      dsimp only at hfi
      unfold lft at h2
      rw [hfi] at h2
      intro dd G3 H3 e3 rx
      rw [off_upd hy'] at e3
      have k1 : ∀ p o, H' p = some o → H3 p = some o := fun p o hp => e3.keep p o (by simp) (by rw [upd_ne (fun z => by rw [z, hdx] at hp; cases hp)]; exact hp)
      have k2 : ∀ p o, H' p = some o → G' p = none → G3 p = none := fun p o hp hg => e3.uns p o (by simp) (by rw [upd_ne (fun z => by rw [z, hdx] at hp; cases hp)]; exact hp) hg
      refine h2 dd G3 H3 ⟨e3.g, e3.gh, fun p o _ hp => k1 p o hp, fun p o _ hp hg => k2 p o hp hg⟩ (fun p hp => ?_) rx
      obtain ⟨c1, c2⟩ := B2 p hp
      exact ⟨k2 p _ c2 c1, k1 p _ c2⟩
    | ok fs =>
      rw [q] at hfi
      unfold lft at h2
      cases q2 : g i with
      | stuck => rw [q2] at h2; exact False.elim h2
      | err cc fs2 => rw [q2] at hfi; cases hfi
      | ok a =>
        rw [q2] at hfi h2
        dsimp only at hfi
        intro G3 H3 gs e3 hH3 rf
        obtain ⟨k1, k2, k3⟩ := keep e3
        refine ⟨rfl, h2 (.ref y) (upd G3 y (.ins (He.ga K c) dx gs)) H3 ⟨e3.g.trans (upS k3), fun p o hp => ?_, fun p o _ hp => k1 p o hp, fun p o _ hp hg => ?_⟩ (fun p hp => ?_) ?_⟩
        · by_cases z : p = y
          · subst z; rw [upd_same] at hp; cases hp; exact hH3
          · rw [upd_ne z] at hp
            have := e3.gh p o hp
            unfold off at this
            rw [if_neg z] at this
            exact this
        · rw [upd_ne (fun z => by rw [z, hy] at hp; cases hp)]
          exact k2 p o hp hg
        · obtain ⟨c1, c2⟩ := B2 p hp
          refine ⟨?_, k1 p _ c2⟩
          rw [upd_ne (fun z => by rw [z, hy] at c2; cases c2)]
          exact k2 p _ c2 c1
        · rw [hfi]
          exact .ins upd_same (rf.ext (upS k3))

/-! ### within __init__: self -/
def putD (f : Str) (v : D) : List (Str × D) → List (Str × D)
  | [] => [(f, v)]
  | (g, x) :: r => if g = f then (g, v) :: r else (g, x) :: putD f v r
theorem RepF.put {G : Hp} {f : Str} {v : V} {dd : D} (r : Rep K G v dd) : ∀ {vs : List (Str × V)} {fs : List (Str × D)}, RepF K G vs fs → RepF K G (putF f v vs) (putD f dd fs)
  | _, _, .nil => .cons r .nil
  | _, _, .cons (n := n) h t => by
    show RepF K G (if n = f then _ else _) (if n = f then _ else _)
    by_cases z : n = f
    · rw [if_pos z, if_pos z]; exact .cons r t
    · rw [if_neg z, if_neg z]; exact .cons h (RepF.put r t)
theorem RepF.length {G : Hp} : ∀ {vs : List (Str × V)} {fs : List (Str × D)}, RepF K G vs fs → vs.length = fs.length
  | _, _, .nil => rfl
  | _, _, .cons _ t => by rw [List.length_cons, List.length_cons, t.length]
/-- an unsettled thing of slot i is put anew -/
theorem Env.mut {x : Option Addr} {σ : L2.St} {G H : Hp} (E : Env K x σ Γ G H) {i : Nat} {p : Addr} {s s' : Sl} {o : HO} (h : Γ[i]? = some s) (hs : s.isOwn = true) (hσ : σ[i]? = some (some (.ref p))) (hs' : s'.isOwn = true)
    (ho : SlOk K x G (upd H p o) (some (.ref p)) s') : Env K x σ (Γ.set i s') G (upd H p o) := by
  have li : i < Γ.length := (List.getElem?_eq_some_iff.mp h).1
  refine ⟨by rw [List.length_set, E.len], fun j t ov h1 h2 => ?_, fun j k q t u ne h1 h2 o1 o2 e1 e2 => ?_, fun j q t h1 o1 e1 => ?_⟩
  · by_cases z : i = j
    · subst z
      rw [List.getElem?_set_self li] at h1
      cases h1
      rw [hσ] at h2
      cases h2
      exact ho
    · rw [List.getElem?_set_ne z] at h1
      have h3 := E.at_ j t ov h1 h2
      have other : ∀ q, t.isOwn = true → ov = some (.ref q) → q ≠ p := fun q ht hq e => E.dis i j p s t z h h1 hs ht hσ (by rw [h2, hq, e])
      cases t with
      | any => trivial
      | val dd => exact h3
      | own ds =>
        obtain ⟨q, xs, a, b, c, r⟩ := h3
        exact ⟨q, xs, a, b, by rw [upd_ne (other q rfl a)]; exact c, r⟩
      | box => exact h3
      | slf q dx c fs =>
        obtain ⟨vs, a, b, c, r⟩ := h3
        exact ⟨vs, a, b, by rw [upd_ne (other q rfl a)]; exact c, r⟩
      | exc a dd c fs => exact h3
      | fix v => exact h3
      | dct kvs =>
        obtain ⟨q, ks, a, b, c, r⟩ := h3
        exact ⟨q, ks, a, b, by rw [upd_ne (other q rfl a)]; exact c, r⟩
  · have old : ∀ {l : Nat} {t : Sl}, (Γ.set i s')[l]? = some t → t.isOwn = true → ∃ t', Γ[l]? = some t' ∧ t'.isOwn = true := fun {l t} h1 o1 => by
      by_cases z : i = l
      · subst z; exact ⟨s, h, hs⟩
      · rw [List.getElem?_set_ne z] at h1; exact ⟨t, h1, o1⟩
    obtain ⟨t', g1, p1⟩ := old h1 o1
    obtain ⟨u', g2, p2⟩ := old h2 o2
    exact E.dis j k q t' u' ne g1 g2 p1 p2 e1 e2
  · by_cases z : i = j
    · subst z; exact E.xne i q s h hs e1
    · rw [List.getElem?_set_ne z] at h1; exact E.xne j q t h1 o1 e1
theorem Fr.mut {σ : L2.St} {H0 : Hp} (F : Fr σ Γ H0) {i : Nat} {s s' : Sl} (h : Γ[i]? = some s) (hs : s.isOwn = true) : Fr σ (Γ.set i s') H0 := fun j p t h1 o1 e1 => by
  by_cases z : i = j
  · subst z; exact F i p s h hs e1
  · rw [List.getElem?_set_ne z] at h1; exact F j p t h1 o1 e1
/-- the heaps behind such a change -/
theorem Pt.mut {x : Option Addr} {G0 H0 Gs G H : Hp} {p : Addr} {o : HO} (e : Pt x G0 H0 Gs G H) (gp : G p = none) (h0 : H0 p = none) (s : Same G H) : Pt x G0 H0 Gs G (upd H p o) ∧ Same G (upd H p o) := by
  have sU : Same G (upd H p o) := fun q u hq => by rw [upd_ne (fun z => by rw [z, gp] at hq; cases hq)]; exact s _ _ hq
  refine ⟨⟨⟨e.ex.g, sU, fun q u nx hq => ?_, fun q u nx hq hg => e.ex.uns q u nx hq hg⟩, e.gs⟩, sU⟩
  rw [upd_ne (fun z => by rw [z, h0] at hq; cases hq)]
  exact e.ex.keep q u nx hq
theorem putD_lt {n : Nat} {f : Str} {v : D} {fs : List (Str × D)} (h : fs.length < n) : (putD f v fs).length < n + 1 := by
  have : ∀ fs : List (Str × D), (putD f v fs).length ≤ fs.length + 1 := fun fs => by
    induction fs with
    | nil => exact Nat.le_refl _
    | cons q t ih =>
      obtain ⟨g, x⟩ := q
      show (if g = f then (g, v) :: t else (g, x) :: putD f v t).length ≤ _
      split
      · simp
      · simp only [List.length_cons]; omega
  have := this fs
  omega
theorem rd_sfld {i : Nat} {c f : Str} {p dx : Addr} {fs : List (Str × D)} {m : M α} {k : α → M ω} (cl : Cls K (He.ga K c)) (na : NoAttr K (He.ga K c) f) (h : EvR K W te Γ m)
    (hr : ∀ a, Rd K W P rest (Γ.set i (.slf p dx c (putD f (d a) fs))) (k a)) (hΓ : Γ[i]? = some (.slf p dx c fs) := by rfl) (hl : fs.length < 1000 := by repeat' (first | decide | refine putD_lt ?_)) : Rd K W P (tSeq (sFld K (tVar i) te f) rest) Γ (m >>= k) := fun x σ G0 H0 Gs G H b L E F s B e hf =>
  go (te := te) good_S h E s B (f := k) ⟨e, hf⟩ fun a b' v G' H' h2 e2 E2 s2 B2 r => by
    obtain ⟨o, h1, vs, rfl, gp, hp, rf⟩ := E2.get hΓ
    have xp : x ≠ some p := E2.xne i p _ hΓ rfl h1
    have h0 : H0 p = none := F i p _ hΓ rfl h1
    obtain ⟨p3, s3⟩ := h2.1.mut (o := .ins (He.ga K c) dx (putF f v vs)) gp h0 s2
    refine ⟨_, h1, p, _, dx, vs, rfl, hp, cl, na, by rw [rf.length]; exact hl, ?_⟩
    refine hr a x σ G0 H0 Gs G' _ b' L (E2.mut hΓ rfl h1 rfl ⟨putF f v vs, rfl, gp, upd_same, rf.put r⟩) (F.mut hΓ rfl) s3 (fun q hq => ?_) p3 h2.2
    obtain ⟨c1, c2⟩ := B2 q hq
    exact ⟨c1, by rw [upd_ne (fun z => xp (by rw [← z]; exact hq))]; exact c2⟩
/-- __init__'s end -/
def PIn (K : PySem.W.Frag) (p dx : Addr) (c : Str) (n : Nat) : Post (List (Str × D)) := fun fs L x H0 G H => ∀ σ', Env K x σ' (.slf p dx c fs :: List.replicate n .any) G H → L.nx σ' H
theorem rd_ini {p dx : Addr} {c : Str} {fs : List (Str × D)} {n : Nat} (w : Wk Γ (.slf p dx c fs :: List.replicate n .any)) : Rd K W (PIn K p dx c n) tNext Γ (pure fs) := fun x σ G0 H0 Gs G H b L E F s B e hf => hf G H e B σ (E.wk w)
theorem rd_nil {m : M ω} (h : Rd K W P (tSeq ts tNext) Γ m) : Rd K W P ts Γ m := h
end
end N

set_option Elab.async false
set_option linter.all false
set_option maxRecDepth 100000
set_option maxHeartbeats 4000000
/-! N6: __init__'s defs, raise, try, own lists. -/
namespace N
open PySem PySem.Spec PyProof.Rows L2 J
open ToD (d)
open ToDs (ds)
open M

section
variable {ω : Type} {α β γ S : Type} [ToD α] [ToD β] [ToD γ] {K : PySem.W.Frag} {W : WX} {P : Post ω} {te ta tb : TE} {Γ : List Sl} {ts rest : TS}
/-! ### __init__ as a def -/
theorem Env.cons {x : Option Addr} {σ : L2.St} {G H : Hp} {p : Addr} {s : Sl} (E : Env K x σ Γ G H) (h : SlOk K x G H (some (.ref p)) s) (hn : ∀ t ∈ Γ, t.isOwn = false) (hx : x ≠ some p) : Env K x (some (.ref p) :: σ) (s :: Γ) G H := by
  refine ⟨by rw [List.length_cons, List.length_cons, E.len], fun i t o h1 h2 => ?_, fun i j q t u ne h1 h2 o1 o2 e1 e2 => ?_, fun i q t h1 o1 e1 => ?_⟩
  · cases i with
    | zero => simp at h1 h2; subst h1; subst h2; exact h
    | succ i => exact E.at_ i t o (by simpa using h1) (by simpa using h2)
  · have own : ∀ {l : Nat} {t : Sl}, (s :: Γ)[l]? = some t → t.isOwn = true → l = 0 := fun {l t} h1 o1 => by
      cases l with
      | zero => rfl
      | succ l =>
        have := hn t (List.mem_of_getElem? (show Γ[l]? = some t by simpa using h1))
        rw [this] at o1; cases o1
    exact ne ((own h1 o1).trans (own h2 o2).symm)
  · cases i with
    | zero => simp at e1; subst e1; exact hx
    | succ i =>
      have := hn t (List.mem_of_getElem? (show Γ[i]? = some t by simpa using h1))
      rw [this] at o1; cases o1
theorem slots_no {ds : List D} {n : Nat} : ∀ t ∈ slots ds n, t.isOwn = false := fun t ht => by
  rcases List.mem_append.mp ht with z | z
  · obtain ⟨a, _, rfl⟩ := List.mem_map.mp z; rfl
  · rw [List.eq_of_mem_replicate z]; rfl
theorem fn_ini {ι : Type} [ToDs ι] {c : Str} {C : Addr} (hC : He.ga K c = C) {fs0 : List (Str × D)} {ts : TS} {N : List Str} {f : ι → Res (List (Str × D))} {mb : ι → M (List (Str × D))} {n n2 : Nat} {H : Hp} {vs : List V} {Q : VK} {E : XK} {x0 : Str}
    (h : spI K C fs0 f vs H Q E) (hm : ∀ i, f i = M.run (mb i)) (hn : ∀ i : ι, N.length - (ds i).length = n) (hn2 : n2 = N.length)
    (hb : ∀ a dx i, Rd K (WE1 E) (PIn K a dx c n2) ts (.slf a dx c fs0 :: slots (ds i) n) (mb i)) : ts { nx := fun _ H' => Q .non H', rt := Q } (L2.start (x0 :: N) vs) H := by
  subst hC
  obtain ⟨a, dx, gs0, ws, i, G, rfl, hH, rf0, gA, s, rs, hf⟩ := h
  have hoff : ∀ p o, off H a p = some o → H p = some o ∧ p ≠ a := fun p o hp => by
    unfold off at hp
    by_cases z : p = a
    · rw [if_pos z] at hp; cases hp
    · rw [if_neg z] at hp; exact ⟨hp, z⟩
  have sO : Same G (off H a) := fun p o hp => off_at (s p o hp) (fun z => by rw [z, gA] at hp; cases hp)
  have e0 : Env K none (L2.start (x0 :: N) (.ref a :: ws)) (.slf a dx c fs0 :: slots (ds i) n) G H := by
    have e1 : L2.start (x0 :: N) (.ref a :: ws) = some (.ref a) :: L2.start N ws := by
      unfold L2.start
      simp
    rw [e1]
    exact Env.cons (env_start rs (by rw [rs.length]; exact hn i)) ⟨gs0, rfl, gA, hH, rf0⟩ slots_no (by simp)
  have fr : Fr (L2.start (x0 :: N) (.ref a :: ws)) (.slf a dx c fs0 :: slots (ds i) n) (off H a) := fun j p t h1 o1 e1 => by
    cases j with
    | zero =>
      simp [L2.start] at e1
      subst e1
      exact off_self
    | succ j =>
      have := slots_no t (List.mem_of_getElem? (show (slots (ds i) n)[j]? = some t by simpa using h1))
      rw [this] at o1; cases o1
  refine hb a dx i none _ G (off H a) G G H (0, 0, 0) _ e0 fr s boxNone ⟨⟨Same.refl _, s, fun p o _ hp => (hoff p o hp).1, fun p o _ hp hg => hg⟩, Same.refl _⟩ ?_
  rw [hm] at hf
  unfold M.run at hf
  have same_off : ∀ {G' H' : Hp}, Pt none G (off H a) G G' H' → G' a = none → Ex none G (off H a) G' (off H' a) := fun {G' H'} p' gA' =>
    ⟨p'.ex.g, fun p o hp => off_at (p'.ex.gh p o hp) (fun z => by rw [z, gA'] at hp; cases hp), fun p o nx hp => off_at (p'.ex.keep p o nx hp) (hoff p o hp).2, fun p o nx hp hg => p'.ex.uns p o nx hp hg⟩
  cases q : mb i (0, 0, 0) with
  | mk b' r =>
    rw [q] at hf
    cases r with
    | stuck => exact hf
    | ok fs =>
      exact fun G' H' p' _ σ' E' => by
        obtain ⟨o, h1, vs, _, gA', hA, rf⟩ := E'.get (i := 0) rfl
        exact hf G' H' vs (same_off p' gA') hA rf
    | err cc fs => exact fun σ' dd G' H' p' _ rx => hf dd G' H' p'.ex rx

/-! ### raise -/
theorem exo_gone {H : Hp} {a dd C : Addr} {e0 e1 e2 o : HO} (ha : H a = none) (hda : dd ≠ a) : upd (del (upd (upd (upd H a e0) dd e1) a e2) a) dd o = upd H dd o := by
  funext p
  by_cases z : p = dd
  · rw [z, upd_same, upd_same]
  · rw [upd_ne z, upd_ne z]
    by_cases y : p = a
    · rw [y, del_same, ha]
    · rw [del_ne y, upd_ne y, upd_ne z, upd_ne y]
theorem rd_raise {c fld : Str} {C : Addr} (hC : He.ga K c = C) {m : M α} {P : Post ω} (h : EvR K W te Γ m) :
    Rd K W P (tSeq (fun _ σ H => tMkO C (spErr K C fld) [] (tCons te tNil) σ H fun cls dd H' => W cls dd σ H') rest) Γ (do let a ← m; M.raise c [(fld, d a)]) := fun x σ G0 H0 Gs G H b L E F s B e hf =>
  go (te := te) good_S h E s B (f := fun a => M.raise c [(fld, d a)]) ⟨e, hf⟩ fun a b' v G' H' h2 e2 E2 s2 B2 r => by
    subst hC
    refine ⟨by show 1 ≤ 1000; decide, fun q hq => ⟨q, v, rfl, upd_same, fun dd hdd hda => ⟨rfl, dd, _, upd_same, by rw [upd_ne hda, upd_same], ?_, ?_⟩⟩⟩
    · rw [upd_ne hda] at hdd; exact hdd
    · rw [upd_ne hda] at hdd
      rw [exo_gone (C := dd) hq hda]
      exact h2.2 σ (some dd) _ _ (h2.1.step (Ex.new s2 hdd)) (B2.new hdd) (.inr ⟨dd, _, rfl, upd_same, .cons (r.ext (upS (s2.free hdd))) .nil, by simp⟩)
theorem rd_raise0 {c : Str} {C : Addr} (hC : He.ga K c = C) {P : Post ω} : Rd K W P (tSeq (fun _ σ H => W (.ref C) none σ H) rest) Γ (M.raise c []) := fun x σ G0 H0 Gs G H b L E F s B e hf => by
  subst hC
  exact hf σ none G H e B (.inl ⟨rfl, rfl⟩)
theorem rd_rets {m : M α} (h : EvR K W te Γ m) : Rd K W (PRet K) (tSeq (tRet te) rest) Γ m := fun x σ G0 H0 Gs G H b L E F s B e hf => by
  refine h x σ G H b _ E s B ?_
  cases q : m b with
  | mk b' r =>
    rw [q] at hf
    cases r with
    | ok a => exact fun v G' H' e2 B2 r => hf G' H' (e.step e2) B2 v r
    | err c fs => exact fun dd G' H' e2 B2 r => hf σ dd G' H' (e.step e2) B2 r
    | stuck => exact hf
theorem rd_retks {P : Post ω} {m : M α} {rk : α → ω} (hP : RetOk K P rk) (h : EvR K W te Γ m) : Rd K W P (tSeq (tRet te) rest) Γ (do let a ← m; pure (rk a)) := fun x σ G0 H0 Gs G H b L E F s B e hf =>
  go (te := te) good_S h E s B (f := fun a => pure (rk a)) ⟨e, hf⟩ fun a b' v G' H' h2 e2 E2 s2 B2 r => hP _ _ _ _ _ _ (h2.2 G' H' h2.1 B2) v r

/-! ### try: x = e; except C as n: return e2 -/
/-- what is caught is named; anything else must not come -/
def tryM {α β : Type} (cs : List Str) (m : M α) (k : α → M β) (h : Str → List (Str × D) → M β) : M β := fun b => match m b with
  | (b', .ok a) => k a b'
  | (b', .err c fs) => if c ∈ cs then h c fs b' else (b', .stuck)
  | (b', .stuck) => (b', .stuck)
theorem Env.exc {x : Option Addr} {σ : L2.St} {G H : Hp} (E : Env K x σ Γ G H) {i : Nat} {a : Addr} {dd : Option Addr} {c : Str} {fs : List (Str × D)} (r : RepX K G dd fs) : Env K x (σ.set i (some (.ref a))) (Γ.set i (.exc a dd c fs)) G H := E.set ⟨rfl, r⟩ rfl
/-- the suite is one return -/
theorem suite_ret {ρ : Type} [ToD ρ] {P : Post ω} {rk : ρ → ω} {i : Nat} {c : Str} {C : Value} {ts : Addr → Value → Option Addr → TE} {cs : List Str} {x : Option Addr} {σ : L2.St} {G0 H0 Gs G H : Hp} {L L2 : Ends} (hL : L2.rt = L.rt) (hP : RetOk K P rk) {Wo W : WX}
    (hx : ∀ c ∈ cs, PySem.W.exmOne K (.ref (He.ga K c)) C = some true) {mh : Str → List (Str × D) → M ρ}
    (hs : ∀ a dd c' fs, c' ∈ cs → EvR K WF (ts a (.ref (He.ga K c')) dd) (Γ.set i (.exc a dd c' fs)) (mh c' fs)) (E : Env K x σ Γ G H) (s : Same G H) (e : Pt x G0 H0 Gs G H)
    {b' : Bx} {c' : Str} {fs : List (Str × D)} (hf : FinS K W P x G0 H0 Gs L ((if c' ∈ cs then (do let v ← strict (mh c' fs); pure (rk v)) else M.stuck : M ω) b')) (dd : Option Addr) (G' H' : Hp) (e1 : Ex x G H G' H') (B1 : BoxSt x G' H' b') (rx : RepX K G' dd fs) :
    wAs K C i (fun a cls d => tRet (ts a cls d)) Wo L2 (.ref (He.ga K c')) dd σ H' := by
  by_cases hc : c' ∈ cs
  · rw [if_pos hc] at hf
    refine ⟨true, hx c' hc, fun _ a na => ?_, fun z => Bool.noConfusion z⟩
    have hf2 : FinS K W P x G0 H0 Gs L ((strict (mh c' fs) >>= fun v => pure (rk v)) b') := hf
    rw [M.bind_def] at hf2
    refine hs a dd c' fs hc x _ G' H' b' _ ((E.ext e1).exc rx) e1.gh B1 ?_
    unfold strict at hf2
    cases q : mh c' fs b' with
    | mk b3 r =>
      rw [q] at hf2
      cases r with
      | ok w =>
        intro v G3 H3 e3 B3 r3
        show L2.rt v H3
        rw [hL]
        exact hP w L x H0 G3 H3 (hf2 G3 H3 ((e.step e1).step e3) B3) v r3
      | err _ _ => exact False.elim hf2
      | stuck => exact hf2
  · rw [if_neg hc] at hf
    exact False.elim hf
theorem rd_try_set {ρ : Type} [ToD ρ] {P : Post ω} {rk : ρ → ω} (hP : RetOk K P rk) {i j : Nat} {C : Value} {tb : WX → TE} {ts : Addr → Value → Option Addr → TE} {cs : List Str} (hx : ∀ c ∈ cs, PySem.W.exmOne K (.ref (He.ga K c)) C = some true)
    {m : M α} {k : α → M ω} {mh : Str → List (Str × D) → M ρ} (h : ∀ W', EvR K W' (tb W') Γ m) (hs : ∀ a dd c' fs, c' ∈ cs → EvR K WF (ts a (.ref (He.ga K c')) dd) (Γ.set i (.exc a dd c' fs)) (mh c' fs))
    (hr : ∀ a, Rd K W P rest (Γ.set j (.val (d a))) (k a)) :
    Rd K W P (tSeq (fun L σ H => tAsg (tb (wAs K C i (fun a cls d => tRet (ts a cls d)) W L)) (gName j) L σ H) rest) Γ (tryM cs m k fun c fs => do let v ← strict (mh c fs); pure (rk v)) := fun x σ G0 H0 Gs G H b L E F s B e hf => by
  refine h _ x σ G H b _ E s B ?_
  unfold tryM at hf
  cases q : m b with
  | mk b' r =>
    rw [q] at hf
    cases r with
    | stuck => exact hf
    | ok a => exact fun v G' H' e1 B1 r1 => hr a x _ G0 H0 Gs G' H' b' L ((E.ext e1).setVal r1) (F.set rfl) e1.gh B1 (e.step e1) hf
    | err c' fs => exact fun dd G' H' e1 B1 rx => suite_ret (W := W) (c := c') (L := L) rfl hP hx hs E s e (by
        by_cases hc : c' ∈ cs
        · rw [if_pos hc]
          dsimp only at hf
          rw [if_pos hc] at hf
          revert hf
          generalize ((strict (mh c' fs) >>= fun v => pure (rk v)) b') = z
          intro hf
          exact hf
        · dsimp only at hf
          rw [if_neg hc] at hf
          exact False.elim hf) dd G' H' e1 B1 rx
end
end N

set_option Elab.async false
set_option linter.all false
set_option maxRecDepth 100000
set_option maxHeartbeats 4000000
/-! N7: texts, lists, equality of data, isinstance, repr, own lists. -/
namespace N
open PySem PySem.Spec PyProof.Rows L2 J
open ToD (d)
open ToDs (ds)
open M

/-! ### plain data -/
mutual
def pyD : D → Option PyData
  | .non => some .none
  | .bl b => some (.bool b)
  | .int i => some (.int i)
  | .str s => some (.str s)
  | .tup xs => (pyDs xs).map .tuple
  | .lst xs => (pyDs xs).map .list
  | _ => none
def pyDs : List D → Option (List PyData)
  | [] => some []
  | x :: r => match pyD x, pyDs r with
    | some a, some b => some (a :: b)
    | _, _ => none
end
mutual
theorem rep_dp {K : PySem.W.Frag} {G H : Hp} (s : Same G H) : ∀ {v : V} {x : D} {p : PyData}, Rep K G v x → pyD x = some p → Dp K H v p
  | _, _, _, .non, e => by cases e; exact .non
  | _, _, _, .bl b, e => by cases e; exact .bl b
  | _, _, _, .int i, e => by cases e; exact .int i
  | _, _, _, .str z, e => by cases e; exact .str z
  | _, _, _, .tup (ds := xs) h r, e => by
    unfold pyD at e
    cases q : pyDs xs with
    | none => rw [q] at e; cases e
    | some ys => rw [q] at e; cases e; exact .tup (sqT_H s h) (reps_dp s r q)
  | _, _, _, .lst (ds := xs) h r, e => by
    unfold pyD at e
    cases q : pyDs xs with
    | none => rw [q] at e; cases e
    | some ys => rw [q] at e; cases e; exact .lst (SqL.of (s _ _ h)) (reps_dp s r q)
  | _, _, _, .ins h r, e => by unfold pyD at e; cases e
  | _, _, _, .dic h r, e => by unfold pyD at e; cases e
theorem reps_dp {K : PySem.W.Frag} {G H : Hp} (s : Same G H) : ∀ {vs : List V} {xs : List D} {ps : List PyData}, Reps K G vs xs → pyDs xs = some ps → DpAll K H vs ps
  | _, _, _, .nil, e => by unfold pyDs at e; cases e; exact .nil
  | _, _, _, .cons (d := x) (ds := r) h t, e => by
    unfold pyDs at e
    cases q : pyD x with
    | none => rw [q] at e; cases e
    | some a =>
      cases q2 : pyDs r with
      | none => rw [q, q2] at e; cases e
      | some b => rw [q, q2] at e; cases e; exact .cons (rep_dp s h q) (reps_dp s t q2)
end
/-- == of plain data -/
noncomputable def eqD (a b : D) : M Bool := match pyD a, pyD b with
  | some p, some q => do
    need (SeqAt.shaped p = true ∧ SeqAt.shaped q = true)
    pure (PyData.eqv p q)
  | _, _ => M.stuck
noncomputable def neD (a b : D) : M Bool := match pyD a, pyD b with
  | some p, some q => do
    need (SeqAt.shaped p = true ∧ SeqAt.shaped q = true)
    pure (!PyData.eqv p q)
  | _, _ => M.stuck
section
variable {ω : Type} {α β γ S : Type} [ToD α] [ToD β] [ToD γ] {K : PySem.W.Frag} {W : WX} {P : Post ω} {te ta tb : TE} {Γ : List Sl} {ts rest : TS}
theorem om_eqD : OpM K (rEqD K) (fun (a : α) (b : β) => eqD (d a) (d b)) := fun W x σ G H b Q a c v w s B ra rc h => by
  dsimp only at h
  unfold eqD at h
  cases q : pyD (d a) with
  | none => rw [q] at h; exact False.elim h
  | some p =>
    cases q2 : pyD (d c) with
    | none => rw [q, q2] at h; exact False.elim h
    | some p2 =>
      rw [q, q2] at h
      obtain ⟨⟨h1, h2⟩, h3⟩ := need_fin h
      exact ⟨p, p2, rep_dp s ra q, rep_dp s rc q2, h1, h2, h3.here s B (.bl _)⟩
theorem om_neD : OpM K (rNeD K) (fun (a : α) (b : β) => neD (d a) (d b)) := fun W x σ G H b Q a c v w s B ra rc h => by
  dsimp only at h
  unfold neD at h
  cases q : pyD (d a) with
  | none => rw [q] at h; exact False.elim h
  | some p =>
    cases q2 : pyD (d c) with
    | none => rw [q, q2] at h; exact False.elim h
    | some p2 =>
      rw [q, q2] at h
      obtain ⟨⟨h1, h2⟩, h3⟩ := need_fin h
      exact ⟨p, p2, rep_dp s ra q, rep_dp s rc q2, h1, h2, h3.here s B (.bl _)⟩
/-- an option: None or a value -/
instance : ToD (Option α) := ⟨fun o => match o with
  | none => .non
  | some a => d a⟩
/-- values that are never None -/
class NotNon (α : Type) [ToD α] : Prop where
  h : ∀ a : α, d a ≠ .non
instance : NotNon Int := ⟨fun _ z => nomatch z⟩
instance : NotNon Str := ⟨fun _ z => nomatch z⟩
instance : NotNon (List α) := ⟨fun _ z => nomatch z⟩
instance : NotNon (α × β) := ⟨fun _ z => nomatch z⟩
instance : NotNon (VT α) := ⟨fun _ z => nomatch z⟩
instance : NotNon (T3 α β γ) := ⟨fun _ z => nomatch z⟩
theorem rep_isN [NotNon α] {G : Hp} {v : V} {o : Option α} (r : Rep K G v (d o)) : decide (v = .non) = o.isNone := by
  cases o with
  | none => cases r; rfl
  | some a =>
    have hn := NotNon.h a
    have r' : Rep K G v (d a) := r
    cases e : d a with
    | non => exact absurd e hn
    | _ => rw [e] at r'; cases r' <;> rfl
theorem om_isN [NotNon α] : OpM K (fun x y H Q => y = .non ∧ Q (.bl (decide (x = .non))) H) (fun (a : Option α) (_ : Unit) => (pure a.isNone : M Bool)) := fun W x σ G H b Q a c v w s B ra rc h => by
  cases rc
  exact ⟨rfl, by rw [rep_isN ra]; exact h.here s B (.bl _)⟩
theorem om_notN [NotNon α] : OpM K (fun x y H Q => y = .non ∧ Q (.bl (!decide (x = .non))) H) (fun (a : Option α) (_ : Unit) => (pure (!a.isNone) : M Bool)) := fun W x σ G H b Q a c v w s B ra rc h => by
  cases rc
  exact ⟨rfl, by rw [rep_isN ra]; exact h.here s B (.bl _)⟩

/-! ### texts -/
/-- one sign -/
structure Ch where
  c : Nat
instance : ToD Ch := ⟨fun a => .str ⟨#[a.c]⟩⟩
def Ch.s (a : Ch) : Str := ⟨#[a.c]⟩
theorem ch_s (a : Ch) : d a = d a.s := rfl
theorem om_addS : OpM K (fun x y H Q => ∃ i j, x = .str i ∧ y = .str j ∧ i.length + j.length ≤ sizeLine ∧ Q (.str (i ++ j)) H) (fun (a b : Str) => (do need (a.length + b.length ≤ sizeLine); pure (a ++ b) : M Str)) := fun W x σ G H b Q a c v w s B ra rc h => by
  cases rep_str ra; cases rep_str rc
  obtain ⟨h1, h2⟩ := need_fin h
  exact ⟨a, c, rfl, rfl, h1, h2.here s B (.str _)⟩
theorem om_inCh : OpM K (fun x y H Q => ∃ (c : Nat) (z : Str), x = .str ⟨#[c]⟩ ∧ y = .str z ∧ Q (.bl (decide (c ∈ z.cps.toList))) H) (fun (a : Ch) (b : Str) => (pure (decide (a.c ∈ b.cps.toList)) : M Bool)) := fun W x σ G H b Q a c v w s B ra rc h => by
  cases ra; cases rep_str rc
  exact ⟨a.c, c, rfl, rfl, h.here s B (.bl _)⟩
theorem om_ninCh : OpM K (fun x y H Q => ∃ (c : Nat) (z : Str), x = .str ⟨#[c]⟩ ∧ y = .str z ∧ Q (.bl (!decide (c ∈ z.cps.toList))) H) (fun (a : Ch) (b : Str) => (pure (!decide (a.c ∈ b.cps.toList)) : M Bool)) := fun W x σ G H b Q a c v w s B ra rc h => by
  cases ra; cases rep_str rc
  exact ⟨a.c, c, rfl, rfl, h.here s B (.bl _)⟩
theorem om_ixS : OpM K rIxS (fun (a : Str) (i : Int) => (do need (a.length ≤ sizeLine); match atI a.cps.toList i with | some c => pure ⟨c⟩ | none => M.stuck : M Ch)) := fun W x σ G H b Q a c v w s B ra rc h => by
  cases rep_str ra; cases rep_int rc
  obtain ⟨h1, h2⟩ := need_fin h
  cases q : atI a.cps.toList c with
  | none => rw [q] at h2; exact False.elim h2
  | some z => rw [q] at h2; exact ⟨a, c, z, rfl, rfl, h1, q, FinE.here (b := b) h2 s B (.str _)⟩
/-- xs[i] -/
def getM (xs : List α) (i : Int) : M α := match atI xs i with
  | some a => pure a
  | none => M.stuck
theorem atI_map {f : α → β} (xs : List α) (i : Int) : atI (xs.map f) i = (atI xs i).map f := by
  unfold atI
  rw [List.length_map]
  cases ixN xs.length i with
  | none => rfl
  | some j => simp
theorem reps_atI {G : Hp} {vs : List V} {xs : List D} {i : Int} {x : D} (r : Reps K G vs xs) (h : atI xs i = some x) : ∃ v, atI vs i = some v ∧ Rep K G v x := by
  unfold atI at h ⊢
  rw [r.length]
  cases q : ixN xs.length i with
  | none => rw [q] at h; cases h
  | some j =>
    rw [q] at h
    exact r.get h
theorem om_ixL : OpM K (rIxL K) (fun (a : List α) (i : Int) => getM a i) := fun W x σ G H b Q a c v w s B ra rc h => by
  obtain ⟨p, vs, rfl, hp, rs⟩ := rep_lst ra
  cases rep_int rc
  dsimp only at h
  unfold getM at h
  cases q : atI a c with
  | none => rw [q] at h; exact False.elim h
  | some z =>
    rw [q] at h
    obtain ⟨u, hu, ru⟩ := reps_atI (x := d z) rs (by rw [atI_map, q]; rfl)
    exact ⟨p, vs, c, u, rfl, rfl, SqL.of (s _ _ hp), hu, FinE.here (b := b) h s B ru⟩
theorem om_ixV : OpM K (rIxT K) (fun (a : VT α) (i : Int) => getM a.l i) := fun W x σ G H b Q a c v w s B ra rc h => by
  obtain ⟨p, vs, rfl, hp, rs⟩ := rep_tup ra
  cases rep_int rc
  dsimp only at h
  unfold getM at h
  cases q : atI a.l c with
  | none => rw [q] at h; exact False.elim h
  | some z =>
    rw [q] at h
    obtain ⟨u, hu, ru⟩ := reps_atI (x := d z) rs (by rw [atI_map, q]; rfl)
    exact ⟨p, vs, c, u, rfl, rfl, sqT_H s hp, hu, FinE.here (b := b) h s B ru⟩
/-- t[0], t[1] of a tuple whose places are typed; j written -/
theorem ev_ixT {τ : Type} [ToD τ] {m : M τ} {j : Nat} {xs : τ → List D} {g : τ → α} (h : EvR K W te Γ m) (hd : ∀ t, d t = .tup (xs t) := by intro _; rfl) (hj : ∀ t, (xs t)[j]? = some (d (g t)) := by intro _; rfl) :
    EvR K W (tOp (rIxT K) te (tC (.int (j : Nat)))) Γ (do let t ← m; pure (g t)) := fun x σ G H b Q E s B h' =>
  step_E (te := te) h E s B h' fun a b' v G' H' h2 e E2 s2 B2 r => by
    rw [hd] at r
    obtain ⟨p, vs, rfl, hp, rs⟩ := rep_tup r
    obtain ⟨u, hu, ru⟩ := rs.get (hj a)
    exact ⟨p, vs, j, u, rfl, rfl, sqT_H s2 hp, atI_nat hu, h2.here s2 B2 ru⟩
/-- slices -/
def EvO (K : PySem.W.Frag) (W : WX) (to : TO) (Γ : List Sl) (m : M (Option Int)) : Prop := ∀ (δ : Type) x σ (F : Hp → Hp → Bx × Res δ → Prop) (_ : Good K W x σ F) (k : Option Int → M δ) G H b (Q : Option Int → Hp → Prop), Env K x σ Γ G H → Same G H → BoxSt x G H b → F G H ((m >>= k) b) →
  (∀ o b' G' H', F G' H' (k o b') → Ex x G H G' H' → Env K x σ Γ G' H' → Same G' H' → BoxSt x G' H' b' → Q o H') → to σ H Q
theorem eo_none : EvO K W tNoPart Γ (pure none) := fun δ x σ F g k G H b Q E s B h kk => kk none b G H h (Ex.refl s) E s B
theorem eo_some {m : M Int} (h : EvR K W te Γ m) : EvO K W (tPart te) Γ (do let i ← m; pure (some i)) := fun δ x σ F g k G H b Q E s B hf kk =>
  go (te := te) g h E s B (f := fun i => k (some i)) (by rw [bind_assoc] at hf; exact hf) fun a b' v G' H' h2 e E2 s2 B2 r => ⟨a, rep_int r, kk (some a) b' G' H' h2 e E2 s2 B2⟩
def SlM (K : PySem.W.Frag) (r : V → Option Int → Option Int → Hp → VK → Prop) (f : α → Option Int → Option Int → M γ) : Prop := ∀ (W : WX) x σ G H b Q a lo hi v, Same G H → BoxSt x G H b → Rep K G v (d a) → FinE K W x σ G H Q (f a lo hi b) → r v lo hi H Q
theorem ev_sl {r : V → Option Int → Option Int → Hp → VK → Prop} {f : α → Option Int → Option Int → M γ} {m : M α} {tl th : TO} {ml mh : M (Option Int)} (hr : SlM K r f) (h : EvR K W te Γ m) (h1 : EvO K W tl Γ ml) (h2 : EvO K W th Γ mh) :
    EvR K W (tSl r te tl th) Γ (do let a ← m; let lo ← ml; let hi ← mh; f a lo hi) := fun x σ G H b Q E s B h' =>
  step_E (te := te) h E s B h' fun a b' v G' H' h3 e E2 s2 B2 ra => h1 γ x σ _ good_E _ G' H' b' _ E2 s2 B2 h3 fun lo b3 G3 H3 h4 e3 E3 s3 B3 => h2 γ x σ _ good_E _ G3 H3 b3 _ E3 s3 B3 h4 fun hi b4 G4 H4 h5 e4 E4 s4 B4 =>
    hr W x σ G4 H4 b4 Q a lo hi v s4 B4 ((ra.ext e3.g).ext e4.g) h5
theorem sm_str : SlM K rSlS (fun (a : Str) lo hi => (do need (a.length ≤ sizeLine); pure (cutS a lo hi) : M Str)) := fun W x σ G H b Q a lo hi v s B ra h => by
  cases rep_str ra
  obtain ⟨h1, h2⟩ := need_fin h
  exact ⟨a, rfl, h1, h2.here s B (.str _)⟩
/-- str methods -/
def MtM1 (r : V → List V → Hp → VK → Prop) (K : PySem.W.Frag) (f : α → β → M γ) : Prop := ∀ (W : WX) x σ G H b Q a c v w, Same G H → BoxSt x G H b → Rep K G v (d a) → Rep K G w (d c) → FinE K W x σ G H Q (f a c b) → r v [w] H Q
theorem ev_m1 {r : V → List V → Hp → VK → Prop} {f : Str → β → M γ} {m : M Str} {n : M β} (hr : MtM1 r K f) (h : EvR K W ta Γ m) (h2 : EvR K W tb Γ n) : EvR K W (tM1 r ta tb) Γ (do let a ← m; let b ← n; f a b) := fun x σ G H b Q E s B h' =>
  step_E (te := ta) h E s B h' fun a b' v G' H' h3 e E2 s2 B2 ra => ⟨⟨a, rep_str ra⟩, step_E (te := tb) h2 E2 s2 B2 h3 fun c b'' w G'' H'' h4 e' E'' s'' B'' rc => hr W x σ G'' H'' b'' Q a c v w s'' B'' (ra.ext e'.g) rc h4⟩
theorem mm_starts : MtM1 (fun x xs H Q => ∃ a b, x = .str a ∧ xs = [.str b] ∧ Q (.bl (Txt.startswith a b)) H) K (fun (a b : Str) => (pure (Txt.startswith a b) : M Bool)) := fun W x σ G H b Q a c v w s B ra rc h => by
  cases rep_str ra; cases rep_str rc
  exact ⟨a, c, rfl, rfl, h.here s B (.bl _)⟩
theorem reps_strs {G : Hp} (ys : List Str) : Reps K G (ys.map V.str) (ys.map d) := by
  induction ys with
  | nil => exact .nil
  | cons y r ih => exact .cons (.str y) ih
theorem mm_split : MtM1 (fun x xs H Q => ∃ a b, x = .str a ∧ xs = [.str b] ∧ (b.length == 0) = false ∧ a.length + 2 ≤ sizeLine ∧ rNewStrs (Txt.split a b) H Q) K (fun (a b : Str) => (do need ((b.length == 0) = false ∧ a.length + 2 ≤ sizeLine); pure (Txt.split a b) : M (List Str))) :=
  fun W x σ G H b Q a c v w s B ra rc h => by
    cases rep_str ra; cases rep_str rc
    obtain ⟨⟨h1, h2⟩, h3⟩ := need_fin h
    exact ⟨a, c, rfl, rfl, h1, h2, fun p hp => h3.new s B hp (.lst upd_same (reps_strs _))⟩
/-- int(text) -/
theorem cm_intS : CallM K (fun xs H Q => ∃ a n, xs = [.str a] ∧ PySem.intText? a = some n ∧ a.length ≤ 640 ∧ Q (.int n) H) (fun (i : Str × Unit) => (do need (i.1.length ≤ 640); match PySem.intText? i.1 with | some n => pure n | none => M.stuck : M Int)) := fun W x σ G H b Q i vs s B rs h => by
  obtain ⟨a, u⟩ := i
  obtain ⟨v, rfl, r⟩ := reps1 rs
  cases rep_str r
  obtain ⟨h1, h2⟩ := need_fin h
  dsimp only at h2
  cases q : PySem.intText? a with
  | none => rw [q] at h2; exact False.elim h2
  | some n => rw [q] at h2; exact ⟨a, n, rfl, q, h1, FinE.here (b := b) h2 s B (.int n)⟩
/-- len -/
theorem cm_lenS : CallM K (fun xs H Q => ∃ z, xs = [.str z] ∧ z.length ≤ sizeLine ∧ Q (.int z.length) H) (fun (i : Str × Unit) => (do need (i.1.length ≤ sizeLine); pure (i.1.length : Int) : M Int)) := fun W x σ G H b Q i vs s B rs h => by
  obtain ⟨a, u⟩ := i
  obtain ⟨v, rfl, r⟩ := reps1 rs
  cases rep_str r
  obtain ⟨h1, h2⟩ := need_fin h
  exact ⟨a, rfl, h1, h2.here s B (.int _)⟩
theorem cm_lenL : CallM K (fun xs H Q => ∃ p ys, xs = [.ref p] ∧ (SqL K H p ys ∨ SqT K H p ys) ∧ Q (.int ys.length) H) (fun (i : List α × Unit) => (pure (i.1.length : Int) : M Int)) := fun W x σ G H b Q i vs s B rs h => by
  obtain ⟨a, u⟩ := i
  obtain ⟨v, rfl, r⟩ := reps1 rs
  obtain ⟨p, ws, rfl, hp, rs⟩ := rep_lst r
  exact ⟨p, ws, rfl, .inl (SqL.of (s _ _ hp)), h.here s B (by rw [rs.length, List.length_map]; exact .int _)⟩
theorem cm_lenV : CallM K (fun xs H Q => ∃ p ys, xs = [.ref p] ∧ (SqL K H p ys ∨ SqT K H p ys) ∧ Q (.int ys.length) H) (fun (i : VT α × Unit) => (pure (i.1.l.length : Int) : M Int)) := fun W x σ G H b Q i vs s B rs h => by
  obtain ⟨a, u⟩ := i
  obtain ⟨v, rfl, r⟩ := reps1 rs
  obtain ⟨p, ws, rfl, hp, rs⟩ := rep_tup r
  exact ⟨p, ws, rfl, .inr (sqT_H s hp), h.here s B (by rw [rs.length, List.length_map]; exact .int _)⟩
/-- all of a list of bools -/
theorem reps_bools {G : Hp} : ∀ {vs : List V} {bs : List Bool}, Reps K G vs (bs.map d) → vs = bs.map V.bl
  | _, [], .nil => rfl
  | _, b :: r, .cons h t => by
    cases h
    rw [reps_bools t]
    rfl
theorem cm_all : CallM K (rAll K) (fun (i : List Bool × Unit) => (pure (i.1.all id) : M Bool)) := fun W x σ G H b Q i vs s B rs h => by
  obtain ⟨a, u⟩ := i
  obtain ⟨v, rfl, r⟩ := reps1 rs
  obtain ⟨p, ws, rfl, hp, rs⟩ := rep_lst r
  have e := reps_bools rs
  subst e
  exact ⟨p, a, rfl, SqL.of (s _ _ hp), h.here s B (.bl _)⟩
/-- a text, sign by sign -/
theorem ei_str {m : M Str} (h : EvR K W te Γ m) : EvI K W (iStr te) Γ (do let z ← m; pure (z.cps.toList.map Ch.mk)) := fun δ x σ F g k G H b R E s B hf kk =>
  go (te := te) g h E s B (f := fun z => k (z.cps.toList.map Ch.mk)) (by rw [bind_assoc] at hf; exact hf) fun z b' v G' H' h1 e E2 s2 B2 r => by
    cases rep_str r
    refine ⟨z, rfl, kk _ b' _ G' H' h1 e E2 s2 B2 fun i G2 H2 r2 => ⟨fun a ha => ?_, fun hl => ?_⟩⟩
    · rw [List.getElem?_map] at ha
      cases q : z.cps.toList[i]? with
      | none => rw [q] at ha; cases ha
      | some c =>
        rw [q] at ha
        cases ha
        have l : i < z.cps.size := by have := (List.getElem?_eq_some_iff.mp q).1; simpa using this
        refine ⟨l, fun y H3 ⟨e3, c', hc, hy⟩ => ?_⟩
        subst e3 hy
        have : c' = c := by
          have q' : z.cps[i]? = some c := by simpa using q
          rw [hc] at q'
          exact Option.some.inj q'
        subst this
        exact ⟨G2, Ex.refl r2.2, .str _⟩
    · show z.cps.size ≤ i
      rw [List.length_map] at hl
      simp at hl
      omega
/-- f-strings -/
def EvJ (K : PySem.W.Frag) (W : WX) (ts : List TE) (Γ : List Sl) (mk : Str → M Str) : Prop :=
  ∀ (δ : Type) x σ (F : Hp → Hp → Bx × Res δ → Prop) (_ : Good K W x σ F) (k : Str → M δ) G H b (acc : Str) (Q : Str → Hp → Prop), Env K x σ Γ G H → Same G H → BoxSt x G H b → F G H ((mk acc >>= k) b) →
    (∀ z b' G' H', F G' H' (k z b') → Ex x G H G' H' → Env K x σ Γ G' H' → Same G' H' → BoxSt x G' H' b' → Q z H') → tJs ts acc σ H Q
theorem ej_nil : EvJ K W [] Γ (fun acc => pure acc) := fun δ x σ F g k G H b acc Q E s B h kk => kk acc b G H h (Ex.refl s) E s B
theorem ej_cons {tes : List TE} {m : M Str} {mk : Str → M Str} (h : EvR K W te Γ m) (h2 : EvJ K W tes Γ mk) : EvJ K W (te :: tes) Γ (fun acc => do let y ← m; need ((acc ++ y).length ≤ sizeLine); mk (acc ++ y)) := fun δ x σ F g k G H b acc Q E s B hf kk =>
  go (te := te) g h E s B (f := fun y => (do need ((acc ++ y).length ≤ sizeLine); mk (acc ++ y)) >>= k) (by rw [bind_assoc] at hf; exact hf) fun y b' v G' H' h1 e E2 s2 B2 r => by
    unfold need at h1
    by_cases q : (acc ++ y).length ≤ sizeLine
    · rw [if_pos q] at h1
      exact ⟨y, rep_str r, q, h2 δ x σ F g k G' H' b' (acc ++ y) Q E2 s2 B2 h1 fun z b3 G3 H3 h3 e3 E3 s3 B3 => kk z b3 G3 H3 h3 (e.trans e3) E3 s3 B3⟩
    · rw [if_neg q] at h1
      exact (g.st h1).elim
theorem ev_joined {tes : List TE} {mk : Str → M Str} (h : EvJ K W tes Γ mk) : EvR K W (fun σ H Q => tJs tes Str.empty σ H fun out H1 => Q (.str out) H1) Γ (mk Str.empty) := fun x σ G H b Q E s B h' => by
  refine h Str x σ _ good_E pure G H b _ _ E s B (by rw [bind_pure]; exact h') fun z b' G' H' h2 e E2 s2 B2 => h2.here s2 B2 (.str z)
theorem ev_fmtS {m : M Str} (h : EvR K W te Γ m) : EvR K W (tFmt te) Γ (do let y ← m; need (y.length ≤ sizeLine); pure y) := fun x σ G H b Q E s B h' =>
  step_E (te := te) h E s B h' fun a b' v G' H' h2 e E2 s2 B2 r => by
    obtain ⟨h3, h4⟩ := need_fin h2
    exact .inl ⟨a, rep_str r, h3, by have := h4.here s2 B2 (.str a); exact this⟩
theorem ev_fmtI {m : M Int} (h : EvR K W te Γ m) : EvR K W (tFmt te) Γ (do let y ← m; need (y.natAbs.log2 < 1920); pure (toString y : Str)) := fun x σ G H b Q E s B h' =>
  step_E (te := te) h E s B h' fun a b' v G' H' h2 e E2 s2 B2 r => by
    obtain ⟨h3, h4⟩ := need_fin h2
    exact .inr ⟨a, rep_int r, h3, by have := h4.here s2 B2 (.str (toString a : Str)); exact this⟩

/-! ### isinstance -/
def tyD (K : PySem.W.Frag) : D → Value
  | .non => .type "NoneType"
  | .bl _ => .type "bool"
  | .int _ => .type "int"
  | .str _ => .type "str"
  | .tup _ => .type "tuple"
  | .lst _ => .type "list"
  | .ins c _ => .ref (He.ga K c)
  | .dic _ => .type "dict"
/-- what isinstance asks of an own class -/
structure InsC (K : PySem.W.Frag) (c : Str) : Prop where
  cl : Cls K (He.ga K c)
  c1 : PySem.W.findIn K (.ref (He.ga K c)) "__class__" = some (some (.builtin "object.__class__"))
  c2 : PySem.W.specialIn K (.builtin "object.__class__") "__get__" = some (some (.builtin "getset_descriptor.__get__"))
  c3 : PySem.W.takesIn K (.builtin "object.__class__") = some true
  c4 : PySem.W.mroIn K (He.ga K c) (.type "object") = some true
/-- the own classes within the reach -/
def KnownD (cs : List Str) : D → Prop
  | .ins c _ => c ∈ cs
  | _ => True
theorem rep_ty {cs : List Str} (hc : ∀ c ∈ cs, InsC K c) {G H : Hp} {v : V} {x : D} (s : Same G H) (r : Rep K G v x) (hk : KnownD cs x) : TyX K H v (tyD K x) := by
  cases r with
  | non => exact .base .non
  | bl b => exact .base (.bl b)
  | int i => exact .base (.int i)
  | str z => exact .base (.str z)
  | tup h r =>
    rcases h with (h | ⟨o, h⟩) | ⟨o, its, n, h, hcl, _⟩
    · exact .base (.tup (s _ _ h))
    · exact .fTuple (s _ _ h)
    · exact .kTuple h hcl
  | lst h r => exact .base (.lst (s _ _ h))
  | ins h r =>
    have f := hc _ hk
    exact .base (.ins (s _ _ h) f.cl f.c1 f.c2 f.c3 f.c4)
  | dic h r => exact .base (.dK (s _ _ h))
end
end N

set_option Elab.async false
set_option linter.all false
set_option maxRecDepth 100000
set_option maxHeartbeats 4000000
/-! N8: the box of draws, isinstance, repr, what a suite reads. -/
namespace N
open PySem PySem.Spec PyProof.Rows L2 J
open ToD (d)
open ToDs (ds)
open M

section
variable {ω : Type} {α β γ S : Type} [ToD α] [ToD β] [ToD γ] {K : PySem.W.Frag} {W : WX} {P : Post ω} {te ta tb : TE} {Γ : List Sl} {ts rest : TS}
/-! ### defs that draw -/
def FinB (K : PySem.W.Frag) (x : Option Addr) (G H : Hp) (Q : VK) (E : XK) : Bx × Res γ → Prop
  | (b', .ok a) => ∀ v G' H', Ex x G H G' H' → BoxSt x G' H' b' → Rep K G' v (d a) → Q v H'
  | (b', .err c fs) => ∀ dd G' H', Ex x G H G' H' → BoxSt x G' H' b' → RepX K G' dd fs → E (.ref (He.ga K c)) dd H'
  | (_, .stuck) => False
def spB {ι : Type} [ToDs ι] (K : PySem.W.Frag) (f : ι → M γ) : Sp := fun vs H Q E => ∃ i G b p ws, vs = .ref p :: ws ∧ Same G H ∧ BoxSt (some p) G H b ∧ Reps K G ws (ds i) ∧ FinB K (some p) G H Q E (f i b)
theorem ev_callB {ι : Type} [ToDs ι] {t : TA} {mk : ∀ {θ : Type}, (ι → M θ) → M θ} {f : ι → M γ} {j : Nat} (h : EvC K W t Γ mk) (hj : Γ[j]? = some .box := by rfl) : EvR K W (tCallS (spB K f) (WE W) (tCons (tVar j) t)) Γ (mk f) := fun x σ G H b Q E s B h' => by
  obtain ⟨o, h1, p, rfl, rfl⟩ := E.get hj
  refine ⟨_, h1, h γ _ σ _ good_E _ G H b _ E s B h' fun i b' vs G' H' h2 e E2 s2 B2 rs => ⟨i, G', b', p, vs, rfl, s2, B2, rs, ?_⟩⟩
  cases q : f i b' with
  | mk b3 r =>
    rw [q] at h2
    cases r with
    | ok a => exact h2
    | err c fs => exact h2
    | stuck => exact h2
theorem fn_rdB {ι : Type} [ToDs ι] {ts : TS} {N : List Str} {f : ι → M γ} {n : Nat} {H : Hp} {vs : List V} {Q : VK} {E : XK} {x0 : Str} (h : spB K f vs H Q E) (hn : ∀ i : ι, N.length - (ds i).length = n)
    (hb : ∀ i, Rd K (WE1 E) (PRet K) ts (.box :: slots (ds i) n) (f i)) : ts { nx := fun _ H' => Q .non H', rt := Q } (L2.start (x0 :: N) vs) H := by
  obtain ⟨i, G, b, p, ws, rfl, s, B, rs, hf⟩ := h
  have e1 : L2.start (x0 :: N) (.ref p :: ws) = some (.ref p) :: L2.start N ws := by
    unfold L2.start
    simp
  have up : ∀ {x : Option Addr} {σ : L2.St} {Δ : List Sl}, Env K none σ Δ G H → (∀ t ∈ Δ, t.isOwn = false) → Env K x σ Δ G H := fun {x σ Δ} E hn => ⟨E.len, fun j t o h1 h2 => by
    have h3 := E.at_ j t o h1 h2
    cases t with
    | box => obtain ⟨q, _, z⟩ := h3; cases z
    | _ => exact h3, E.dis, fun j q t h1 o1 => by rw [hn t (List.mem_of_getElem? h1)] at o1; cases o1⟩
  have E0 : Env K (some p) (some (.ref p) :: L2.start N ws) (.box :: slots (ds i) n) G H := by
    have E1 := up (x := some p) (env_start (N := N) (n := n) rs (by rw [rs.length]; exact hn i)) slots_no
    refine ⟨by rw [List.length_cons, List.length_cons, E1.len], fun j t o h1 h2 => ?_, fun j k q t u ne h1 h2 o1 => ?_, fun j q t h1 o1 => ?_⟩
    · cases j with
      | zero => simp at h1 h2; subst h1; subst h2; exact ⟨p, rfl, rfl⟩
      | succ j => exact E1.at_ j t o (by simpa using h1) (by simpa using h2)
    all_goals
      exfalso
      cases j with
      | zero => simp at h1; subst h1; cases o1
      | succ j =>
        rw [slots_no t (List.mem_of_getElem? (show (slots (ds i) n)[j]? = some t by simpa using h1))] at o1
        cases o1
  rw [e1]
  refine hb i (some p) _ G H G G H b _ E0 (fun j q t h1 o1 => ?_) s B ⟨Ex.refl s, Same.refl _⟩ ?_
  · exfalso
    cases j with
    | zero => simp at h1; subst h1; cases o1
    | succ j =>
      rw [slots_no t (List.mem_of_getElem? (show (slots (ds i) n)[j]? = some t by simpa using h1))] at o1
      cases o1
  · cases q : f i b with
    | mk b' r =>
      rw [q] at hf
      cases r with
      | ok a => exact fun G' H' p' B' v rv => hf v G' H' p'.ex B' rv
      | err c fs => exact fun σ' dd G' H' p' B' rx => hf dd G' H' p'.ex B' rx
      | stuck => exact hf
theorem spB_len {ι : Type} [ToDs ι] {f : ι → M γ} {vs : List V} {H : Hp} {Q : VK} {E : XK} {n : Nat} (h : spB K f vs H Q E) (hn : ∀ i : ι, (ds i).length = n) : vs.length = n + 1 := by
  obtain ⟨i, G, b, p, ws, rfl, s, B, rs, hf⟩ := h
  rw [List.length_cons, rs.length, hn]
/-- a number below m is drawn -/
def mixV (b c : Int) : Int := ((b + 48271 * c + 11) ^ 5 % 2147483647 / 8 + 69621 * c + b) ^ 3 % 2147483587 / 16
noncomputable def takeM (m : Int) : M Int := open Classical in fun s =>
  if 0 < s.1 then (if 0 < m ∧ m.natAbs.log2 < 9000 then ((s.1 / m, s.2.1, s.2.2), .ok (s.1 % m)) else (s, .stuck))
  else (if 0 < m ∧ 0 ≤ s.2.1 ∧ s.2.1 < 4294967296 ∧ 0 ≤ s.2.2 ∧ s.2.2 < 1000000 then ((s.1, s.2.1, s.2.2 + 1), .ok (mixV s.2.1 (s.2.2 + 1) % m)) else (s, .stuck))
/-- the box is in order: at most n numbers were mixed -/
def InvB (n : Int) (s : Bx) : Prop := 0 ≤ s.1 ∧ 0 ≤ s.2.1 ∧ s.2.1 < 4294967296 ∧ 0 ≤ s.2.2 ∧ s.2.2 ≤ n
theorem take_ok {m n : Int} {s : Bx} (h : InvB n s) (hn : n < 1000000) (hm : 0 < m) (hm2 : m < 10 ^ 40) : ∃ r s', takeM m s = (s', .ok r) ∧ 0 ≤ r ∧ r < m ∧ InvB (n + 1) s' := by
  obtain ⟨a, b, c⟩ := s
  obtain ⟨h1, h2, h3, h4, h5⟩ := h
  dsimp only at h1 h2 h3 h4 h5
  unfold takeM
  dsimp only
  by_cases q : 0 < a
  · rw [if_pos q, if_pos ⟨hm, log_lt hm hm2⟩]
    exact ⟨_, _, rfl, Int.emod_nonneg _ (by omega), Int.emod_lt_of_pos _ hm, Int.ediv_nonneg h1 (by omega), h2, h3, h4, by show c ≤ n + 1; omega⟩
  · rw [if_neg q, if_pos ⟨hm, h2, h3, h4, by omega⟩]
    refine ⟨_, _, rfl, Int.emod_nonneg _ (by omega), Int.emod_lt_of_pos _ hm, h1, h2, h3, ?_, ?_⟩
    · show 0 ≤ c + 1; omega
    · show c + 1 ≤ n + 1; omega
/-- what m gives, wherever the box is in order; at most k numbers are mixed -/
def Tri {α : Type} (k : Int) (m : M α) (P : α → Prop) : Prop := ∀ (n : Int) (s : Bx), InvB n s → 0 ≤ n → n + k ≤ 1000000 → ∃ a s', m s = (s', .ok a) ∧ P a ∧ InvB (n + k) s'
theorem InvB.up {m n : Int} {s : Bx} (h : InvB m s) (l : m ≤ n) : InvB n s := ⟨h.1, h.2.1, h.2.2.1, h.2.2.2.1, by have := h.2.2.2.2; omega⟩
theorem tri_take {m : Int} (hm : 0 < m) (hm2 : m < 10 ^ 40) : Tri 1 (takeM m) (fun r => 0 ≤ r ∧ r < m) := fun n s h h0 hn => by
  obtain ⟨r, s', e, a, b, c⟩ := take_ok h (by omega) hm hm2
  exact ⟨r, s', e, ⟨a, b⟩, c⟩
theorem tri_pure {α : Type} {a : α} {P : α → Prop} (h : P a) : Tri 0 (pure a) P := fun n s hi _ _ => ⟨a, s, rfl, h, by rw [Int.add_zero]; exact hi⟩
theorem tri_bind {α β : Type} {k l : Int} {m : M α} {f : α → M β} {P : α → Prop} {Q : β → Prop} (h1 : Tri k m P) (hk : 0 ≤ k) (hl : 0 ≤ l) (h2 : ∀ a, P a → Tri l (f a) Q) : Tri (k + l) (m >>= f) Q := fun n s hi h0 hn => by
  obtain ⟨a, s1, e1, pa, i1⟩ := h1 n s hi h0 (by omega)
  obtain ⟨c, s2, e2, qc, i2⟩ := h2 a pa (n + k) s1 i1 (by omega) (by omega)
  exact ⟨c, s2, by rw [M.bind_def, e1]; exact e2, qc, by rw [← Int.add_assoc]; exact i2⟩
theorem tri_up {α : Type} {k l : Int} {m : M α} {P : α → Prop} (h : Tri k m P) (hl : k ≤ l) : Tri l m P := fun n s hi h0 hn => by
  obtain ⟨a, s1, e1, pa, i1⟩ := h n s hi h0 (by omega)
  exact ⟨a, s1, e1, pa, i1.up (by omega)⟩
theorem tri_imp {α : Type} {k : Int} {m : M α} {P Q : α → Prop} (h : Tri k m P) (hp : ∀ a, P a → Q a) : Tri k m Q := fun n s hi h0 hn => by
  obtain ⟨a, s1, e1, pa, i1⟩ := h n s hi h0 hn
  exact ⟨a, s1, e1, hp a pa, i1⟩
theorem tri_lcA {ι β : Type} {t : ι → M Bool} {f : ι → M β} {k : Int} (hk : 0 ≤ k) {P : β → Prop} : ∀ (xs : List ι) (acc : List β), (∀ a ∈ xs, t a = pure true) → (∀ a ∈ xs, Tri k (f a) P) → (∀ y ∈ acc, P y) →
    Tri (k * xs.length) (lcA t f acc xs) (fun ys => (∀ y ∈ ys, P y) ∧ ys.length = acc.length + xs.length)
  | [], acc, _, _, ha => by
    have := tri_pure (a := acc) (P := fun ys => (∀ y ∈ ys, P y) ∧ ys.length = acc.length + ([] : List ι).length) ⟨ha, rfl⟩
    simpa [lcA] using this
  | a :: r, acc, ht, hf, ha => by
    intro n s hi h0 hn
    have hl : k * ((a :: r).length : Int) = k + k * (r.length : Int) := by
      rw [List.length_cons]
      have : ((r.length + 1 : Nat) : Int) = (r.length : Int) + 1 := by omega
      rw [this, Int.mul_add, Int.mul_one, Int.add_comm]
    have hr0 : 0 ≤ k * (r.length : Int) := Int.mul_nonneg hk (by omega)
    rw [hl] at hn ⊢
    obtain ⟨y, s1, e1, py, i1⟩ := hf a List.mem_cons_self n s hi h0 (by omega)
    obtain ⟨zs, s2, e2, ⟨pz, lz⟩, i2⟩ := tri_lcA hk r (acc ++ [y]) (fun b hb => ht b (List.mem_cons_of_mem _ hb)) (fun b hb => hf b (List.mem_cons_of_mem _ hb)) (fun z hz => by
      rcases List.mem_append.mp hz with q | q
      · exact ha z q
      · rw [List.mem_singleton.mp q]; exact py) (n + k) s1 i1 (by omega) (by omega)
    refine ⟨zs, s2, ?_, ⟨pz, by rw [lz]; simp; omega⟩, by rw [← Int.add_assoc]; exact i2⟩
    unfold lcA
    rw [ht a List.mem_cons_self, strict_pure]
    show (strict (f a) >>= fun y => lcA t f (acc ++ [y]) r) s = _
    rw [M.bind_def]
    unfold strict
    rw [e1]
    exact e2
theorem tri_lcM {ι β : Type} {t : ι → M Bool} {f : ι → M β} {k : Int} (hk : 0 ≤ k) {P : β → Prop} {xs : List ι} (hx : xs.length ≤ 1000) (ht : ∀ a ∈ xs, t a = pure true) (hf : ∀ a ∈ xs, Tri k (f a) P) :
    Tri (k * xs.length) (lcM t f xs) (fun ys => (∀ y ∈ ys, P y) ∧ ys.length = xs.length) := by
  unfold lcM
  rw [need_T (small_sl hx)]
  have := tri_lcA hk (P := P) xs [] ht hf (fun y hy => by cases hy)
  simpa using this
end
end N

set_option Elab.async false
set_option linter.all false
set_option maxRecDepth 100000
set_option maxHeartbeats 4000000
/-! N9: isinstance, repr, what a suite reads, lists put together, the script, a box made. -/
namespace N
open PySem PySem.Spec PyProof.Rows L2 J
open ToD (d)
open ToDs (ds)
open M

/-- isinstance of a caught error that has a dict of its own -/
def rIsEd (K : PySem.W.Frag) (a : Addr) (cls : Value) (dd : Option Addr) : List V → Hp → VK → Prop := fun xs H Q => ∃ (C : Addr) (c : V) (cv : Value) (b : Bool) (da : Addr) (fs : List (Str × V)), xs = [.ref a, c] ∧ cls = .ref C ∧ ExcC K C ∧ dd = some da ∧ H da = some (.xd fs) ∧ (∀ u, RelV c u → u = cv) ∧ PySem.W.kitOne K (.ref C) cv = some b ∧ Q (.bl b) H
theorem call_isEd {X : Cx} {a : Addr} {oe : Obj} {pn : List (Addr × Obj)} {cls : Value} {dd : Option Addr} (hz : Zc cls dd oe) (hf : ∃ vs, oe.data = .fields vs) : CallR (X.suite a ((a, oe) :: pn)) (.builtin "isinstance") (rIsEd X.K a cls dd) := by
  intro pins s σ H xs us Q I r h
  obtain ⟨C, c, cv, b, da, fs, rfl, rfl, T, rfl, ea, hcv, e, q⟩ := h
  obtain ⟨u1, u2, rfl, r1, r2⟩ := vals2 r
  cases r1
  cases hcv _ r2
  obtain ⟨hget, _⟩ := I.pin (a, oe) (List.mem_append.mpr (.inl List.mem_cons_self))
  obtain ⟨vs, hd⟩ := hf
  have hx : ObjOk X.prog X.w H s.heap da (.xd fs) := I.hok da _ ea
  obtain ⟨mA, hns, hr⟩ := hx
  obtain ⟨od, ho, hl⟩ := lookIn_ns hns
  have J : PySem.W.InstAt s.heap a oe C (some od) := ⟨hget, hz.1, by unfold PySem.W.notCls; rw [hd] <;> rfl, by rw [hz.2]; exact ho⟩
  have hcl : (PySem.W.clsIn X.K C).isSome = true := by
    obtain ⟨cd, hc, _⟩ := PySem.W.any_some T.hd
    rw [hc]
    rfl
  exact PySem.W.kia_one (PySem.W.kitx_exc hcl T.hg T.hk T.hs T.ha T.hn T.ht T.hm) I.kIn J e (fun z => nomatch z) fun tk => ⟨.bl b, H, I.tok tk, rfl, q⟩

section
variable {ω : Type} {α β γ S : Type} [ToD α] [ToD β] [ToD γ] {K : PySem.W.Frag} {W : WX} {P : Post ω} {te ta tb : TE} {Γ : List Sl} {ts rest : TS}
/-! ### isinstance -/
theorem ev_isi {cs : List Str} {c : V} {u : Value} {bf : α → Bool} {m : M α} (hcs : ∀ c ∈ cs, InsC K c) (hc : ClsV c u) (hk : ∀ a, KnownD cs (d (a : α))) (hb : ∀ a : α, PySem.W.kitOne K (tyD K (d a)) u = some (bf a)) (h : EvR K W te Γ m) :
    EvR K W (tCB (rIsi K) (tCons te (tCons (tC c) tNil))) Γ (do let a ← m; pure (bf a)) := fun x σ G H b Q E s B h' =>
  step_E (te := te) h E s B h' fun a b' v G' H' h2 e E2 s2 B2 r => ⟨v, c, _, u, bf a, rfl, hc, rep_ty hcs s2 r (hk a), hb a, h2.here s2 B2 (.bl _)⟩
/-! ### repr -/
noncomputable def reprM (x : D) : M Str := match x with
  | .dic [] => do
    need ((dictD []).showable = true ∧ (dictD []).depth ≤ 40 ∧ (dictD []).shown.length ≤ sizeLine)
    pure (dictD []).shown
  | x => match pyD x with
    | some p => do
      need (p.hasDict = false ∧ p.showable = true ∧ p.depth ≤ 40 ∧ p.shown.length ≤ sizeLine)
      pure p.shown
    | none => M.stuck
theorem cm_repr : CallM K (rRepr K) (fun (i : α × Unit) => reprM (d i.1)) := fun W x σ G H b Q i vs s B rs h => by
  obtain ⟨a, u⟩ := i
  obtain ⟨v, rfl, r⟩ := reps1 rs
  dsimp only at h
  generalize d a = z at h r
  have plain : ∀ p, pyD z = some p → FinE K W x σ G H Q ((do need (p.hasDict = false ∧ p.showable = true ∧ p.depth ≤ 40 ∧ p.shown.length ≤ sizeLine); pure p.shown : M Str) b) → rRepr K [v] H Q := fun p hp hf => by
    obtain ⟨⟨h1, h2, h3, h4⟩, h5⟩ := need_fin hf
    exact ⟨v, p, rfl, .inl ⟨rep_dp s r hp, h1⟩, h2, h3, h4, h5.here s B (.str _)⟩
  unfold reprM at h
  split at h
  · cases r with
    | dic hp rk =>
      cases rk
      obtain ⟨⟨h2, h3, h4⟩, h5⟩ := need_fin h
      exact ⟨_, dictD [], rfl, .inr ⟨_, [], rfl, s _ _ hp, (fun p hp => by cases hp), rfl⟩, h2, h3, h4, h5.here s B (.str _)⟩
  · cases q : pyD z with
    | none => rw [q] at h; exact False.elim h
    | some p => rw [q] at h; exact plain p q h
/-! ### a suite -/
def xfM (fs : List (Str × D)) (f : Str) : M D := match fs.lookup f with
  | some x => pure x
  | none => M.stuck
theorem ev_xf {i : Nat} {a : Addr} {dd : Option Addr} {c f : Str} {C : Addr} {fs : List (Str × D)} (hC : He.ga K c = C) (hΓ : Γ[i]? = some (.exc a dd c fs)) : EvR K W (tXf a (.ref (He.ga K c)) dd C f (tVar i)) Γ (xfM fs f) := fun x σ G H b Q E s B h => by
  subst hC
  obtain ⟨o, h1, rfl, rx⟩ := E.get hΓ
  unfold xfM at h
  rcases rx with ⟨rfl, rfl⟩ | ⟨da, vs, rfl, hd, rf, _⟩
  · exact False.elim h
  · cases q : fs.lookup f with
    | none => rw [q] at h; exact False.elim h
    | some z =>
      rw [q] at h
      obtain ⟨v, hv, rv⟩ := rf.look q
      exact ⟨_, h1, rfl, rfl, da, vs, v, rfl, s _ _ hd, hv, FinE.here (b := b) h s B rv⟩
theorem ev_isE {i : Nat} {a : Addr} {dd : Option Addr} {c : Str} {cv : V} {u : Value} {bb : Bool} {fs : List (Str × D)} (T : ExcC K (He.ga K c)) (hΓ : Γ[i]? = some (.exc a dd c fs)) (hcv : ∀ w, RelV cv w → w = u) (hk : PySem.W.kitOne K (.ref (He.ga K c)) u = some bb) :
    EvR K W (tCB (rIsEd K a (.ref (He.ga K c)) dd) (tCons (tVar i) (tCons (tC cv) tNil))) Γ (do need (fs ≠ []); pure bb) := fun x σ G H b Q E s B h => by
  obtain ⟨o, h1, rfl, rx⟩ := E.get hΓ
  obtain ⟨hne, h2⟩ := need_fin h
  rcases rx with ⟨rfl, rfl⟩ | ⟨da, vs, rfl, hd, rf, _⟩
  · exact absurd rfl hne
  · exact ⟨_, h1, _, cv, u, bb, da, vs, rfl, rfl, T, rfl, s _ _ hd, hcv, hk, h2.here s B (.bl _)⟩
/-! ### lists put together -/
theorem om_cat : OpM K rCat (fun (a b : List α) => (do need (a.length + b.length ≤ sizeLine); pure (a ++ b) : M (List α))) := fun W x σ G H b Q a c v w s B ra rc h => by
  obtain ⟨p, vs, rfl, hp, rs⟩ := rep_lst ra
  obtain ⟨q, ws, rfl, hq, rt⟩ := rep_lst rc
  obtain ⟨h1, h2⟩ := need_fin h
  have l1 := rs.length
  have l2 := rt.length
  rw [List.length_map] at l1 l2
  refine ⟨p, q, vs, ws, rfl, rfl, s _ _ hp, s _ _ hq, by omega, fun r hr => h2.new s B hr (.lst upd_same ?_)⟩
  rw [List.map_append]
  exact (rs.append rt).ext (upS (s.free hr))
/-- a new empty dict -/
theorem ev_dnew : EvR K W (fun _ H Q => ∀ p, H p = none → Q (.ref p) (upd H p (.dK []))) Γ (pure (D.dic [])) := fun x σ G H b Q E s B h p hp => h.new s B hp (.dic upd_same .nil)
theorem ev_call0 {f : Unit → Res γ} : EvR K W (tCallS (spG K f) (WE W) tNil) Γ (lft (f ())) := fun x σ G H b Q E s B h' => spG_of s B (i := ()) (vs := []) .nil h'
/-- tuple(xs), list(xs) -/
theorem cm_tupL : CallM K (fun xs H Q => ∃ p ys, xs = [.ref p] ∧ ((SqL K H p ys ∧ ∀ l, H l = none → Q (.ref l) (upd H l (.tup ys))) ∨ (SqT K H p ys ∧ Q (.ref p) H))) (fun (i : List α × Unit) => (pure ⟨i.1⟩ : M (VT α))) := fun W x σ G H b Q i vs s B rs h => by
  obtain ⟨a, u⟩ := i
  obtain ⟨v, rfl, r⟩ := reps1 rs
  obtain ⟨p, ws, rfl, hp, rs⟩ := rep_lst r
  exact ⟨p, ws, rfl, .inl ⟨SqL.of (s _ _ hp), fun l hl => h.new s B hl (.tup (.inl (.inl upd_same)) (rs.ext (upS (s.free hl))))⟩⟩
theorem rd_stuck : Rd K W P ts Γ M.stuck := fun x σ G0 H0 Gs G H b L E F s B e hf => False.elim hf
end
/-! ### a list or a tuple, walked -/
theorem pi_or {X : Cx} {tg iter : Expr} {w1 w2 : TI} (h1 : PI X tg iter w1) (h2 : PI X tg iter w2) : PI X tg iter (fun σ H R => w1 σ H R ∨ w2 σ H R) :=
  ⟨fun pins s σ H R I h => h.elim (h1.run pins s σ H R I) (h2.run pins s σ H R I)⟩
/-- a list or a tuple -/
inductive Sq (α : Type) where
  | l (xs : List α) | t (xs : List α)
def Sq.xs {α : Type} : Sq α → List α
  | .l xs => xs
  | .t xs => xs
instance {α : Type} [ToD α] : ToD (Sq α) := ⟨fun s => match s with
  | .l xs => .lst (xs.map d)
  | .t xs => .tup (xs.map d)⟩
section
variable {ω : Type} {α β γ S : Type} [ToD α] [ToD β] [ToD γ] {K : PySem.W.Frag} {W : WX} {P : Post ω} {te ta tb : TE} {Γ : List Sl} {ts rest : TS}
theorem ei_sq {i : Nat} {q : Sq α} (hΓ : Γ[i]? = some (.val (d q)) := by rfl) : EvI K W (fun σ H R => iList K (tVar i) σ H R ∨ iTup K (tVar i) σ H R) Γ (pure q.xs) := fun δ x σ F g k G H b R E s B hf kk => by
  obtain ⟨v, h1, r⟩ := E.val hΓ
  cases q with
  | l xs =>
    obtain ⟨p, vs, rfl, hp, rs⟩ := rep_lst (xs := xs) r
    exact .inl ⟨_, h1, p, rfl, ⟨vs, sqL_H s (SqL.of hp)⟩, kk xs b _ G H hf (Ex.refl s) E s B (walk_list (fun G2 H2 r2 => sqL_H r2.2 (sqL_H r2.1 (SqL.of hp))) rs)⟩
  | t xs =>
    obtain ⟨p, vs, rfl, hp, rs⟩ := rep_tup (ds := xs.map d) r
    exact .inr ⟨_, h1, p, rfl, ⟨vs, sqT_H s hp⟩, kk xs b _ G H hf (Ex.refl s) E s B (walk_tup (fun G2 H2 r2 => sqT_H r2.2 (sqT_H r2.1 hp)) rs)⟩
theorem om_ixQ : OpM K (rIx K) (fun (a : Sq α) (i : Int) => getM a.xs i) := fun W x σ G H b Q a c v w s B ra rc h => by
  cases a with
  | l xs => exact .inl (om_ixL W x σ G H b Q xs c v w s B ra rc h)
  | t xs => exact .inr (.inl (om_ixV W x σ G H b Q ⟨xs⟩ c v w s B ra rc h))
end
end N

set_option Elab.async false
set_option linter.all false
set_option maxRecDepth 100000
set_option maxHeartbeats 4000000
/-! N10: the words that printed mirrors use; forms of the rules that a printed reading uses. -/
namespace N
open PySem PySem.Spec PyProof.Rows L2 J
open ToD (d)
open ToDs (ds)
open M

/-! ### words of mirrors -/
noncomputable def mulM (i j : Int) : M Int := guI CMulW (fun i j => i * j) i j
noncomputable def fdivM (i j : Int) : M Int := guI CDivZ (fun i j => i.fdiv j) i j
noncomputable def modM (i j : Int) : M Int := guI (fun _ j => 0 < j) (fun i j => i % j) i j
noncomputable def powM (i j : Int) : M Int := guI CPow (fun i j => i ^ j.toNat) i j
noncomputable def addS (a b : Str) : M Str := do need (a.length + b.length ≤ sizeLine); pure (a ++ b)
noncomputable def catM {α : Type} (a b : List α) : M (List α) := do need (a.length + b.length ≤ sizeLine); pure (a ++ b)
noncomputable def ixS (a : Str) (i : Int) : M Ch := do need (a.length ≤ sizeLine); match atI a.cps.toList i with | some c => pure ⟨c⟩ | none => M.stuck
noncomputable def slS (a : Str) (lo hi : Option Int) : M Str := do need (a.length ≤ sizeLine); pure (cutS a lo hi)
noncomputable def lenS (a : Str) : M Int := do need (a.length ≤ sizeLine); pure (a.length : Int)
noncomputable def fmtI (i : Int) : M Str := do need (i.natAbs.log2 < 1920); pure (toString i : Str)
noncomputable def fmtS (y : Str) : M Str := do need (y.length ≤ sizeLine); pure y
noncomputable def intM (a : Str) : M Int := do need (a.length ≤ 640); match PySem.intText? a with | some n => pure n | none => M.stuck
noncomputable def splitM (a b : Str) : M (List Str) := do need ((b.length == 0) = false ∧ a.length + 2 ≤ sizeLine); pure (Txt.split a b)
noncomputable def rng1 (j : Int) : M (List Int) := do need (-(2 ^ 62) ≤ j ∧ j < 2 ^ 62); pure (rng 0 j)
noncomputable def rng2 (i j : Int) : M (List Int) := do need (-(2 ^ 62) ≤ i ∧ i < 2 ^ 62 ∧ -(2 ^ 62) ≤ j ∧ j < 2 ^ 62); pure (rng i j)
noncomputable def joinM : List (M Str) → Str → M Str
  | [], acc => pure acc
  | m :: r, acc => do
    let y ← m
    need ((acc ++ y).length ≤ sizeLine)
    joinM r (acc ++ y)
def cutL {α : Type} (xs : List α) (lo hi : Option Int) : List α := (xs.drop (HT.sIx xs.length 0 lo)).take (HT.sIx xs.length xs.length hi - HT.sIx xs.length 0 lo)

section
variable {ω : Type} {α β γ S : Type} [ToD α] [ToD β] [ToD γ] {K : PySem.W.Frag} {W : WX} {P : Post ω} {te ta tb : TE} {Γ : List Sl} {ts rest : TS}
theorem om_mulW : OpM K (rI CMulW fun i j => .int (i * j)) mulM := om_guI
theorem om_fdivZ : OpM K (rI CDivZ fun i j => .int (i.fdiv j)) fdivM := om_guI
theorem om_mod : OpM K (rI (fun _ j => 0 < j) fun i j => .int (i % j)) modM := om_guI
theorem om_pow : OpM K (rI CPow fun i j => .int (i ^ j.toNat)) powM := om_guI
theorem om_ltI : OpM K (rI0 fun i j => .bl (decide (i < j))) (fun (i j : Int) => (pure (decide (i < j)) : M Bool)) := om_cmpI
theorem om_leI : OpM K (rI0 fun i j => .bl (decide (i ≤ j))) (fun (i j : Int) => (pure (decide (i ≤ j)) : M Bool)) := om_cmpI
theorem om_gtI : OpM K (rI0 fun i j => .bl (decide (j < i))) (fun (i j : Int) => (pure (decide (i > j)) : M Bool)) := om_cmpI
theorem om_geI : OpM K (rI0 fun i j => .bl (decide (j ≤ i))) (fun (i j : Int) => (pure (decide (i ≥ j)) : M Bool)) := om_cmpI
theorem cm_minI : CallM K (fun xs H Q => ∃ i j, xs = [.int i, .int j] ∧ Q (.int (if j < i then j else i)) H) (fun (i : Int × Int × Unit) => (pure (if i.2.1 < i.1 then i.2.1 else i.1) : M Int)) := fun W x σ G H b Q i vs s B rs h => by
  obtain ⟨a, c, u⟩ := i
  obtain ⟨v, w, rfl, r, r2⟩ := reps2 rs
  cases rep_int r; cases rep_int r2
  exact ⟨a, c, rfl, h.here s B (.int _)⟩
theorem cm_maxI : CallM K (fun xs H Q => ∃ i j, xs = [.int i, .int j] ∧ Q (.int (if j > i then j else i)) H) (fun (i : Int × Int × Unit) => (pure (if i.2.1 > i.1 then i.2.1 else i.1) : M Int)) := fun W x σ G H b Q i vs s B rs h => by
  obtain ⟨a, c, u⟩ := i
  obtain ⟨v, w, rfl, r, r2⟩ := reps2 rs
  cases rep_int r; cases rep_int r2
  exact ⟨a, c, rfl, h.here s B (.int _)⟩
theorem map_cut {f : α → β} (xs : List α) (lo hi : Option Int) : (cutL xs lo hi).map f = cutL (xs.map f) lo hi := by
  unfold cutL
  rw [List.map_take, List.map_drop, List.length_map]
theorem reps_cut {G : Hp} {vs : List V} {xs : List D} (r : Reps K G vs xs) (lo hi : Option Int) : Reps K G (cutV vs lo hi) (cutL xs lo hi) := by
  have hd : ∀ {vs : List V} {xs : List D} (n : Nat), Reps K G vs xs → Reps K G (vs.drop n) (xs.drop n) := fun {vs xs} n => by
    induction n generalizing vs xs with
    | zero => exact fun r => r
    | succ n ih => intro r; cases r with
      | nil => exact .nil
      | cons h t => exact ih t
  have ht : ∀ {vs : List V} {xs : List D} (n : Nat), Reps K G vs xs → Reps K G (vs.take n) (xs.take n) := fun {vs xs} n => by
    induction n generalizing vs xs with
    | zero => exact fun r => .nil
    | succ n ih => intro r; cases r with
      | nil => exact .nil
      | cons h t => exact .cons h (ih t)
  unfold cutV cutL
  rw [r.length]
  exact ht _ (hd _ r)
theorem sm_list : SlM K (rSlL K) (fun (a : List α) lo hi => (pure (cutL a lo hi) : M (List α))) := fun W x σ G H b Q a lo hi v s B ra h => by
  obtain ⟨p, vs, rfl, hp, rs⟩ := rep_lst ra
  refine ⟨p, vs, rfl, SqL.of (s _ _ hp), fun q hq => h.new s B hq (.lst upd_same ?_)⟩
  rw [map_cut]
  exact (reps_cut rs lo hi).ext (upS (s.free hq))
/-! ### forms -/
theorem ev_lst' {ι : Type} [ToDs ι] {t : TA} {mk : ∀ {θ : Type}, (ι → M θ) → M θ} {m : M (List α)} (h : EvC K W t Γ mk) (f : ι → List α) (e : m = mk fun i => pure (f i) := by rfl) (hf : ∀ i, ds i = (f i).map d := by intros; rfl) (hl : ∀ i, (f i).length ≤ 1000 := by intro _; exact Nat.le_of_ble_eq_true rfl) :
    EvR K W (tLst t) Γ m := by rw [e]; exact ev_lst h f hf hl
theorem ev_tup' {τ : Type} [ToD τ] {ι : Type} [ToDs ι] {t : TA} {mk : ∀ {θ : Type}, (ι → M θ) → M θ} {m : M τ} (h : EvC K W t Γ mk) (f : ι → τ) (e : m = mk fun i => pure (f i) := by rfl) (hf : ∀ i, d (f i) = .tup (ds i) := by intros; rfl) (hl : ∀ i : ι, (ds i).length ≤ 1000 := by intro _; exact Nat.le_of_ble_eq_true rfl) :
    EvR K W (tTup t) Γ m := by rw [e]; exact ev_tup h f hf hl
theorem ev_call' {ι : Type} [ToDs ι] {t : TA} {mk : ∀ {θ : Type}, (ι → M θ) → M θ} {f : ι → Res γ} {m : M γ} (h : EvC K W t Γ mk) (e : m = mk fun i => lft (f i) := by rfl) : EvR K W (tCallS (spG K f) (WE W) t) Γ m := by rw [e]; exact ev_call h
theorem ev_callB' {ι : Type} [ToDs ι] {t : TA} {mk : ∀ {θ : Type}, (ι → M θ) → M θ} {f : ι → M γ} {j : Nat} {m : M γ} (h : EvC K W t Γ mk) (e : m = mk f := by rfl) (hj : Γ[j]? = some .box := by rfl) : EvR K W (tCallS (spB K f) (WE W) (tCons (tVar j) t)) Γ m := by rw [e]; exact ev_callB h hj
theorem ev_cb' {ι : Type} [ToDs ι] {t : TA} {mk : ∀ {θ : Type}, (ι → M θ) → M θ} {r : List V → Hp → VK → Prop} {f : ι → M γ} {m : M γ} (hr : CallM K r f) (h : EvC K W t Γ mk) (e : m = mk f := by rfl) : EvR K W (tCB r t) Γ m := by rw [e]; exact ev_cb hr h
theorem ev_meth' {c n : Str} [InsOf α c] {C : Addr} (hC : He.ga K c = C) {ι : Type} [ToDs ι] {t : TA} {mk : ∀ {θ : Type}, (ι → M θ) → M θ} {f : α × ι → Res γ} {m : M α} {m2 : M γ} (h : EvR K W te Γ m) (h2 : EvC K W t Γ mk) (e : m2 = (do let a ← m; mk fun i => lft (f (a, i))) := by rfl) (hn : ∀ a, (InsOf.fs (α := α) a).lookup n = none := by intro _; rfl) :
    EvR K W (tMethS C n (spG K f) (WE W) te t) Γ m2 := by rw [e]; exact ev_meth hC h h2 hn
theorem ev_meth0 {c n : Str} [InsOf α c] {C : Addr} (hC : He.ga K c = C) {f : α × Unit → Res γ} {m : M α} (h : EvR K W te Γ m) (hn : ∀ a, (InsOf.fs (α := α) a).lookup n = none := by intro _; rfl) :
    EvR K W (tMeth C n (spG K f) [] E0 te tNil) Γ (do let a ← m; strict (lft (f (a, ())))) := fun x σ G H b Q E s B h' =>
  step_E (te := te) h E s B h' fun a b' v G' H' h3 e E2 s2 B2 r => by
    subst hC
    have r0 := r
    rw [InsOf.eq] at r
    obtain ⟨p, dx, vs, rfl, hp, rf⟩ := rep_ins r
    exact ⟨p, dx, vs, rfl, s2 _ _ hp, lookup_none rf (hn a), spG_of (i := (a, ())) s2 B2 (.cons r0 .nil) (strict_E h3)⟩
theorem ev_joined' {tes : List TE} {mk : Str → M Str} {m : M Str} (h : EvJ K W tes Γ mk) (e : m = mk Str.empty := by rfl) : EvR K W (fun σ H Q => tJs tes Str.empty σ H fun out H1 => Q (.str out) H1) Γ m := by rw [e]; exact ev_joined h
theorem rd_par' {i j : Nat} {t : TA} {mk : ∀ {θ : Type}, (α × β × Unit → M θ) → M θ} {m : M ω} {k : α → β → M ω} (h : EvC (ι := α × β × Unit) K W t Γ mk) (hr : ∀ a b, Rd K W P rest ((Γ.set i (.val (d a))).set j (.val (d b))) (k a b)) (e : m = mk fun i => k i.1 i.2.1 := by rfl) :
    Rd K W P (tSeq (tPar i j t) rest) Γ m := by rw [e]; exact rd_par h fun a b => hr a b
theorem rd_par3' {i j l : Nat} {t : TA} {mk : ∀ {θ : Type}, (α × β × γ × Unit → M θ) → M θ} {m : M ω} {k : α → β → γ → M ω} (h : EvC (ι := α × β × γ × Unit) K W t Γ mk) (hr : ∀ a b c, Rd K W P rest (((Γ.set i (.val (d a))).set j (.val (d b))).set l (.val (d c))) (k a b c)) (e : m = mk fun i => k i.1 i.2.1 i.2.2.1 := by rfl) :
    Rd K W P (tSeq (tPar3 i j l t) rest) Γ m := by rw [e]; exact rd_par3 h fun a b c => hr a b c
theorem rd_skip {m : M ω} (h : Rd K W P rest Γ m) : Rd K W P (tSeq tNext rest) Γ m := h
theorem rd_assoc {a b : TS} {m : M ω} (h : Rd K W P (tSeq a (tSeq b rest)) Γ m) : Rd K W P (tSeq (tSeq a b) rest) Γ m := h
theorem takesF {X : Cx} : Takes X WF := fun u s' ⟨_, _, _, _, _, _, _, _, _, _, _, _, _, _, _, _, w⟩ => w.elim
/-- (the ways that are never taken) -/
theorem ev_as' {m : M α} (f : α → β) (h : EvR K W te Γ m) (hf : ∀ a, d a = d (f a) := by intro _; rfl) : EvR K W te Γ (do let a ← m; pure (f a)) := ev_as h hf
/-! ### a made instance whose class has a plain constructor -/
theorem ev_make' {c : Str} {C : Addr} (hC : He.ga K c = C) {ι : Type} [ToDs ι] {t : TA} {mk : ∀ {θ : Type}, (ι → M θ) → M θ} {g : ι → Res α} {m : M α} {dvs : List V} {κ : Type} [ToDs κ] {fk : κ → Res (List (Str × D))} (j : ι → κ)
    (hj : ∀ G vs i, Reps K G vs (ds i) → Reps K G (vs ++ dvs) (ds (j i))) (hf : ∀ i, match fk (j i), g i with | .ok fs, .ok a => d a = .ins c fs | .err c fs, r => r = .err c fs | _, r => r = .stuck) (h : EvC K W t Γ mk) (e : m = mk fun i => lft (g i) := by rfl) :
    EvR K W (tMakeS C (spI K C [] fk) dvs (WE W) t) Γ m := by rw [e]; exact ev_make hC h j hj hf
end
end N

set_option Elab.async false
set_option linter.all false
set_option maxRecDepth 100000
set_option maxHeartbeats 4000000
/-! N11: Ratios and numbers as data, their operators as rules; errors raised; a box made; the script. -/
namespace N
open PySem PySem.Spec PyProof.Rows L2 J
open ToD (d)
open ToDs (ds)
open M

/-! ### Ratios -/
structure Rt where
  n : Int
  u : Int
instance : ToD Rt := ⟨fun q => .ins "Ratio" [("above", .int q.n), ("under", .int q.u)]⟩
instance : InsOf Rt "Ratio" := ⟨fun q => [("above", .int q.n), ("under", .int q.u)], fun _ => rfl⟩
instance : NotNon Rt := ⟨fun _ z => nomatch z⟩
/-- an integer or a Ratio -/
inductive Nm where
  | i (n : Int) | r (q : Rt)
instance : ToD Nm := ⟨fun x => match x with
  | .i n => .int n
  | .r q => d q⟩
instance : NotNon Nm := ⟨fun a z => by cases a <;> cases z⟩
def Nm.n : Nm → Int
  | .i n => n
  | .r q => q.n
def Nm.u : Nm → Int
  | .i _ => 1
  | .r q => q.u
/-- an instance's fields read back -/
class UnIns (α : Type) (c : outParam Str) [ToD α] [InsOf α c] where
  un : List (Str × D) → Option α
  eq : ∀ fs a, un fs = some a → fs = InsOf.fs a
instance : UnIns Rt "Ratio" := ⟨fun fs => match fs with
  | [(a, .int n), (b, .int u)] => if a = "above" ∧ b = "under" then some ⟨n, u⟩ else none
  | _ => none, fun fs a h => by
    split at h
    · rename_i x n y u
      split at h
      · rename_i hc
        obtain ⟨rfl, rfl⟩ := hc
        cases h
        rfl
      · cases h
    · cases h⟩
def newOf {α : Type} {c : Str} [ToD α] [InsOf α c] [UnIns α c] : Res (List (Str × D)) → Res α
  | .ok fs => match UnIns.un fs with
    | some a => .ok a
    | none => .stuck
  | .err c fs => .err c fs
  | .stuck => .stuck
theorem newOf_ok {α : Type} {c : Str} [ToD α] [InsOf α c] [UnIns α c] (r : Res (List (Str × D))) : match r, (newOf r : Res α) with
  | .ok fs, .ok a => d a = .ins c fs
  | .err c fs, r => r = .err c fs
  | _, r => r = .stuck := by
  cases r with
  | err c fs => rfl
  | stuck => rfl
  | ok fs =>
    unfold newOf
    cases h : (UnIns.un fs : Option α) with
    | none => simp only [h]
    | some a =>
      simp only [h]
      rw [UnIns.eq fs a h]
      exact InsOf.eq a
section
variable {X : Cx} {k : Nat} {sp : Sp} {ps : List Str}
/-- what the operators lean on -/
structure OpsR (K : PySem.W.Frag) : Prop where
  own : OwnC K (He.ga K "Ratio")
  aI : Apart K (He.ga K "Ratio") "int"
  o_add : OpC K (He.ga K "Ratio") "add" (He.ma K (He.ga K "Ratio") "__add__") (He.ma K (He.ga K "Ratio") "__radd__")
  o_sub : OpC K (He.ga K "Ratio") "sub" (He.ma K (He.ga K "Ratio") "__sub__") (He.ma K (He.ga K "Ratio") "__rsub__")
  o_mul : OpC K (He.ga K "Ratio") "mul" (He.ma K (He.ga K "Ratio") "__mul__") (He.ma K (He.ga K "Ratio") "__rmul__")
theorem mS {K : PySem.W.Frag} {C : Addr} {nm : Str} {g f' : Addr} (h : Meth K C nm f') (e : PySem.W.findIn K (.ref C) nm = some (some (.ref g))) : f' = g := by
  have z := h.at_.symm.trans e
  cases z
  rfl
theorem nr_add (T : OpsR X.K) (c : MCal X.prog X.w X.K X.mg X.base (He.ga X.K "Ratio") "__add__" ps k sp) (hr : Room k X.A) : OpR X (binaryOp .Add) (rOwnL (He.ga X.K "Ratio") sp E0) := by
  obtain ⟨f, fd, hm, F, hb⟩ := c.ex
  cases mS hm T.o_add.l
  exact op_ownL (op := .Add) T.own T.o_add T.aI PySem.F.fills_int_add PySem.F.slot_int_radd.lookup F hr hb passE0
theorem nr_sub (T : OpsR X.K) (c : MCal X.prog X.w X.K X.mg X.base (He.ga X.K "Ratio") "__sub__" ps k sp) (hr : Room k X.A) : OpR X (binaryOp .Sub) (rOwnL (He.ga X.K "Ratio") sp E0) := by
  obtain ⟨f, fd, hm, F, hb⟩ := c.ex
  cases mS hm T.o_sub.l
  exact op_ownL (op := .Sub) T.own T.o_sub T.aI PySem.F.fills_int_sub PySem.F.slot_int_rsub.lookup F hr hb passE0
theorem nr_mul (T : OpsR X.K) (c : MCal X.prog X.w X.K X.mg X.base (He.ga X.K "Ratio") "__mul__" ps k sp) (hr : Room k X.A) : OpR X (binaryOp .Mult) (rOwnL (He.ga X.K "Ratio") sp E0) := by
  obtain ⟨f, fd, hm, F, hb⟩ := c.ex
  cases mS hm T.o_mul.l
  exact op_ownL (op := .Mult) T.own T.o_mul T.aI PySem.F.fills_int_mul PySem.F.slot_int_rmul.lookup F hr hb passE0
theorem nr_neg (c : MCal X.prog X.w X.K X.mg X.base (He.ga X.K "Ratio") "__neg__" ps k sp) (hr : Room k X.A) : UnR X (unaryOp .USub) (rOwnU (He.ga X.K "Ratio") sp E0) := by
  obtain ⟨f, fd, hm, F, hb⟩ := c.ex
  exact un_own hm.at_ hm.fn F hr hb passE0
theorem un_or {f : Value → Sem Value} {r1 r2 : V → Hp → VK → Prop} (h1 : UnR X f r1) (h2 : UnR X f r2) : UnR X f (fun x H Q => r1 x H Q ∨ r2 x H Q) := fun pins s σ H x v Q I rx h =>
  h.elim (h1 pins s σ H x v Q I rx) (h2 pins s σ H x v Q I rx)
theorem nr_str {c : Str} (m : MCal X.prog X.w X.K X.mg X.base (He.ga X.K c) "__str__" ps k sp) (hr : Room (k + 2) X.A) : CallR X (.type "str") (rStrOwn (He.ga X.K c) sp E0) := by
  obtain ⟨f, fd, hm, F, hb⟩ := m.ex
  exact call_strOwn hm.at_ hm.fn F hr hb passE0
/-! ### raise C(e) -/
structure ErrZ (P : Program) (w : World) (K : PySem.W.Frag) (mg : Str → Option Value) (base : Heap) (n fld : Str) : Prop where
  e : ErrN K mg n fld
  z : ∃ fd, FnOk P w K mg base (CXL P w) 1 (He.ma K (He.ga K n) "__init__") fd ["self", fld] (spErr K (He.ga K n) fld) ∧ Binds K fd ["self", fld] []
  db : (n == ("__debug__" : Str)) = false
theorem ps_raiseE {W : WX} {n fld : Str} {e : Expr} {te : TE} {p pos pos2 : Pos} (hc : X.calm = true) (tk : Takes X W) (T : ErrZ X.prog X.w X.K X.mg X.base n fld) (hr : Room 2 X.A) (hg : Gl X n) (he : PE X e te)
    (hst : starEach [e] X.env = (false, eval e X.env) :: starEach [] X.env := by rfl) (hpl : (backTo pos (starEach [] X.env)).any (·.1) = false := by rfl) :
    PS X (.Raise (some (.Call (.Name n p) [e] [] pos)) none pos2) (fun _ σ H => tMkO (He.ga X.K n) (spErr X.K (He.ga X.K n) fld) [] (tCons te tNil) σ H fun cls dd H' => W cls dd σ H') := by
  obtain ⟨fd, F, b⟩ := T.z
  exact ps_raise hc tk (pmk_oex T.e.c.oex T.e.c.ini T.e.c.fn F hr b .nil passE0 hg T.e.g (pa_cons he pa_nil hst) T.db hst hpl)
structure ErrZ0 (P : Program) (w : World) (K : PySem.W.Frag) (mg : Str → Option Value) (base : Heap) (n : Str) : Prop where
  e : ErrN K mg n "given"
  z : ∃ fd, FnOk P w K mg base CX0 1 (He.ma K (He.ga K n) "__init__") fd ["self"] (spErr0 (He.ga K n)) ∧ Binds K fd ["self"] []
  db : (n == ("__debug__" : Str)) = false
theorem ps_raiseE0 {W : WX} {n : Str} {p pos pos2 : Pos} (hc : X.calm = true) (tk : Takes X W) (T : ErrZ0 X.prog X.w X.K X.mg X.base n) (hr : Room 2 X.A) (hg : Gl X n) :
    PS X (.Raise (some (.Call (.Name n p) [] [] pos)) none pos2) (fun _ σ H => W (.ref (He.ga X.K n)) none σ H) := by
  obtain ⟨fd, F, b⟩ := T.z
  exact ps_raise (t := fun _ H Q => Q (.ref (He.ga X.K n)) none H) hc tk (pmk_err0 T.e.c F hr b hg T.e.g T.db)
end
/-! ### numbers -/
section
variable {ω : Type} {α β γ S : Type} [ToD α] [ToD β] [ToD γ] {K : PySem.W.Frag} {W : WX} {P : Post ω} {te ta tb : TE} {Γ : List Sl} {ts rest : TS}
theorem nm_own {G H : Hp} {v : V} {b : Nm} (s : Same G H) (r : Rep K G v (d b)) : (∃ i, v = .int i) ∨ ∃ p dy gs, v = .ref p ∧ H p = some (.ins (He.ga K "Ratio") dy gs) := by
  cases b with
  | i n => exact .inl ⟨n, rep_int (i := n) r⟩
  | r q =>
    obtain ⟨p, dx, vs, rfl, hp, _⟩ := rep_ins (c := "Ratio") (fs := InsOf.fs q) r
    exact .inr ⟨p, dx, vs, rfl, s _ _ hp⟩
theorem om_ownN {f : Rt × Nm × Unit → Res γ} : OpM K (rOwnL (He.ga K "Ratio") (spG K f) E0) (fun (a : Rt) (b : Nm) => strict (lft (f (a, b, ())))) := om_own rfl fun _ _ _ _ s r => nm_own s r
theorem um_negN {f : Rt × Unit → Res Rt} : UnM K (fun x H Q => rU (fun i => .int (-i)) x H Q ∨ rOwnU (He.ga K "Ratio") (spG K f) E0 x H Q) (fun (a : Nm) => (match a with
    | .i n => pure (.i (-n))
    | .r q => do let z ← strict (lft (f (q, ()))); pure (.r z) : M Nm)) := fun W x σ G H b Q a v s B ra h => by
  cases a with
  | i n => exact .inl ⟨n, rep_int (i := n) ra, FinE.here (α := Nm) (a := .i (-n)) (b := b) h s B (.int (-n))⟩
  | r q =>
    refine .inr (um_own (α := Rt) rfl W x σ G H b Q q v s B ra ?_)
    dsimp only at h
    rw [M.bind_def] at h
    show FinE K W x σ G H Q (strict (lft (f (q, ()))) b)
    cases z : strict (lft (f (q, ()))) b with
    | mk b' r =>
      rw [z] at h
      cases r with
      | ok y => exact h
      | err c fs => exact h
      | stuck => exact h
theorem lst_co {f : α → β} (h : ∀ y, d y = d (f y)) (xs : List α) : d xs = d (xs.map f) := by
  show D.lst (xs.map d) = D.lst ((xs.map f).map d)
  rw [List.map_map]
  congr 1
  exact List.map_congr_left fun y _ => h y
/-- an option that holds something -/
def unopt {α : Type} (o : Option α) : M α := match o with
  | some a => pure a
  | none => M.stuck
theorem ev_unopt {m : M (Option α)} (h : EvR K W te Γ m) : EvR K W te Γ (do let o ← m; unopt o) := fun x σ G H b Q E s B h' =>
  step_E (te := te) h E s B h' fun a b' v G' H' h2 e E2 s2 B2 r => by
    cases a with
    | none => exact False.elim h2
    | some z => exact FinE.here (b := b') h2 s2 B2 r
/-- isinstance of anything -/
theorem ev_isiD {cs : List Str} {c : V} {u : Value} {bf : D → Bool} {m : M D} (hcs : ∀ c ∈ cs, InsC K c) (hc : ClsV c u) (hb : ∀ a, KnownD cs a → PySem.W.kitOne K (tyD K a) u = some (bf a)) (h : EvR K W te Γ m) :
    EvR K W (tCB (rIsi K) (tCons te (tCons (tC c) tNil))) Γ (do let a ← m; need (KnownD cs a); pure (bf a)) := fun x σ G H b Q E s B h' =>
  step_E (te := te) h E s B h' fun a b' v G' H' h2 e E2 s2 B2 r => by
    obtain ⟨hk, h3⟩ := need_fin h2
    exact ⟨v, c, _, u, bf a, rfl, hc, rep_ty hcs s2 r hk, hb a hk, h3.here s2 B2 (.bl _)⟩
theorem rd_try_drop {ρ : Type} [ToD ρ] {P : Post ω} {rk : ρ → ω} (hP : RetOk K P rk) {i : Nat} {C : Value} {tb : WX → TE} {ts : Addr → Value → Option Addr → TE} {cs : List Str} (hx : ∀ c ∈ cs, PySem.W.exmOne K (.ref (He.ga K c)) C = some true)
    {m : M α} {k : α → M ω} {mh : Str → List (Str × D) → M ρ} (h : ∀ W', EvR K W' (tb W') Γ m) (hs : ∀ a dd c' fs, c' ∈ cs → EvR K WF (ts a (.ref (He.ga K c')) dd) (Γ.set i (.exc a dd c' fs)) (mh c' fs))
    (hr : ∀ a, Rd K W P rest Γ (k a)) :
    Rd K W P (tSeq (fun L σ H => tDrop (tb (wAs K C i (fun a cls d => tRet (ts a cls d)) W L)) L σ H) rest) Γ (tryM cs m k fun c fs => do let v ← strict (mh c fs); pure (rk v)) := fun x σ G0 H0 Gs G H b L E F s B e hf => by
  refine h _ x σ G H b _ E s B ?_
  unfold tryM at hf
  cases q : m b with
  | mk b' r =>
    rw [q] at hf
    cases r with
    | stuck => exact hf
    | ok a => exact fun v G' H' e1 B1 r1 => hr a x _ G0 H0 Gs G' H' b' L (E.ext e1) F e1.gh B1 (e.step e1) hf
    | err c' fs => exact fun dd G' H' e1 B1 rx => suite_ret (W := W) (c := c') (L := L) rfl hP hx hs E s e (by
        by_cases hc : c' ∈ cs
        · rw [if_pos hc]
          dsimp only at hf
          rw [if_pos hc] at hf
          revert hf
          generalize ((strict (mh c' fs) >>= fun v => pure (rk v)) b') = z
          intro hf
          exact hf
        · dsimp only at hf
          rw [if_neg hc] at hf
          exact False.elim hf) dd G' H' e1 B1 rx
theorem spI_len {ι : Type} [ToDs ι] {C : Addr} {fs0 : List (Str × D)} {f : ι → Res (List (Str × D))} {vs : List V} {H : Hp} {Q : VK} {E : XK} {n : Nat} (h : spI K C fs0 f vs H Q E) (hn : ∀ i : ι, (ds i).length = n) : vs.length = n + 1 := by
  obtain ⟨a, dx, gs0, ws, i, G, rfl, _, _, _, _, rs, _⟩ := h
  rw [List.length_cons, rs.length, hn]
theorem call_or {X : Cx} {f : Value} {r1 r2 : List V → Hp → VK → Prop} (h1 : CallR X f r1) (h2 : CallR X f r2) : CallR X f (fun xs H Q => r1 xs H Q ∨ r2 xs H Q) := fun pins s σ H xs us Q I rx h =>
  h.elim (h1 pins s σ H xs us Q I rx) (h2 pins s σ H xs us Q I rx)
/-- str of a number -/
noncomputable def strN (f : Rt → Res Str) (a : Nm) : M Str := match a with
  | .i n => fmtI n
  | .r q => strict (lft (f q))
theorem cm_strN {f : Rt × Unit → Res Str} : CallM K (fun xs H Q => (∃ i, xs = [.int i] ∧ i.natAbs.log2 < 1920 ∧ Q (.str (toString i)) H) ∨ rStrOwn (He.ga K "Ratio") (spG K f) E0 xs H Q) (fun (i : Nm × Unit) => strN (fun q => f (q, ())) i.1) := fun W x σ G H b Q i vs s B rs h => by
  obtain ⟨a, u⟩ := i
  cases a with
  | i n => exact .inl (cm_strI W x σ G H b Q (n, ()) vs s B rs h)
  | r q => exact .inr (cm_strOwn (α := Rt) rfl W x σ G H b Q (q, ()) vs s B rs h)
noncomputable def negN (f : Rt → Res Rt) (a : Nm) : M Nm := match a with
  | .i n => pure (.i (-n))
  | .r q => do
    let z ← strict (lft (f q))
    pure (.r z)
/-! ### what a value of any kind is -/
def isIntB : D → Bool
  | .int _ => true
  | .bl _ => true
  | _ => false
def isBlB : D → Bool
  | .bl _ => true
  | _ => false
def isStrB : D → Bool
  | .str _ => true
  | _ => false
def isInsB (c : Str) : D → Bool
  | .ins c' _ => decide (c' = c)
  | _ => false
def toStr : D → Option Str
  | .str s => some s
  | _ => none
theorem toStr_eq {x : D} {s : Str} (h : toStr x = some s) : x = d s := by
  cases x <;> cases h
  rfl
def toNm : D → Option Nm
  | .int n => some (.i n)
  | .ins c fs => if c = "Ratio" then (UnIns.un (α := Rt) fs).map .r else none
  | _ => none
theorem toNm_eq {x : D} {a : Nm} (h : toNm x = some a) : x = d a := by
  unfold toNm at h
  split at h
  · cases h; rfl
  · split at h
    · rename_i c fs hc
      cases q : UnIns.un (α := Rt) fs with
      | none => rw [q] at h; cases h
      | some r =>
        rw [q] at h
        cases h
        rw [hc, UnIns.eq fs r q]
        rfl
    · cases h
  · cases h
theorem kit_tt {T : String} : PySem.W.kitOne K (.type T) (.type T) = some true := by unfold PySem.W.kitOne; rw [if_pos (by simp)]
theorem isi_int (hR : PySem.W.kitOne K (.ref (He.ga K "Ratio")) (.type "int") = some false) : ∀ a, KnownD ["Ratio"] a → PySem.W.kitOne K (tyD K a) (.type "int") = some (isIntB a) := by
  intro a h
  cases a with
  | int _ => exact kit_tt
  | ins c fs => cases List.mem_singleton.mp h; exact hR
  | _ => rfl
theorem isi_bool (hR : PySem.W.kitOne K (.ref (He.ga K "Ratio")) (.type "bool") = some false) : ∀ a, KnownD ["Ratio"] a → PySem.W.kitOne K (tyD K a) (.type "bool") = some (isBlB a) := by
  intro a h
  cases a with
  | bl _ => exact kit_tt
  | ins c fs => cases List.mem_singleton.mp h; exact hR
  | _ => rfl
theorem isi_str (hR : PySem.W.kitOne K (.ref (He.ga K "Ratio")) (.type "str") = some false) : ∀ a, KnownD ["Ratio"] a → PySem.W.kitOne K (tyD K a) (.type "str") = some (isStrB a) := by
  intro a h
  cases a with
  | str _ => exact kit_tt
  | ins c fs => cases List.mem_singleton.mp h; exact hR
  | _ => rfl
theorem isi_Ratio (h1 : ∀ T ∈ (["int", "bool", "NoneType", "str", "list", "tuple", "dict"] : List String), PySem.W.kitOne K (.type T) (.ref (He.ga K "Ratio")) = some false) : ∀ a, KnownD ["Ratio"] a → PySem.W.kitOne K (tyD K a) (.ref (He.ga K "Ratio")) = some (isInsB "Ratio" a) := by
  intro a h
  cases a with
  | ins c fs =>
    cases List.mem_singleton.mp h
    show PySem.W.kitOne K (.ref (He.ga K "Ratio")) (.ref (He.ga K "Ratio")) = some (decide (("Ratio" : Str) = "Ratio"))
    rw [decide_eq_true rfl]
    exact kit_self
  | _ => exact h1 _ (by simp [tyD])
end
theorem passes_cx {P : Program} {w : World} {K : PySem.W.Frag} {mg : Str → Option Value} {base : Heap} {N : List Str} {qual : Str} {scope : Scope} {f : Addr} {cdv : Value} {A : Around} {outer : List PySem.Env} {s : Shared} {H : Hp} {E : XK} :
    PassesOwn (model P w) (cxOf (CXL P w) P w K mg base N qual scope f cdv A outer s H E).A (cxOf (CXL P w) P w K mg base N qual scope f cdv A outer s H E).env (cxOf (CXL P w) P w K mg base N qual scope f cdv A outer s H E).xe := passes_of rfl
theorem takes_cx {P : Program} {w : World} {K : PySem.W.Frag} {mg : Str → Option Value} {base : Heap} {N : List Str} {qual : Str} {scope : Scope} {f : Addr} {cdv : Value} {A : Around} {outer : List PySem.Env} {s : Shared} {H : Hp} {E : XK} :
    Takes (cxOf (CXL P w) P w K mg base N qual scope f cdv A outer s H E) (fun cls d _ H => E cls d H) := takes_of rfl rfl rfl rfl
end N

set_option Elab.async false
set_option linter.all false
set_option maxRecDepth 100000
set_option maxHeartbeats 4000000
/-! N12: rules whose readings name the written part, that part told apart (so that they serve within a comprehension). -/
namespace N
open PySem PySem.Spec PyProof.Rows L2 J
section
variable {X : Cx} {K : PySem.W.Frag} {k : Nat} {sp : Sp} {ps : List Str} {e : Expr} {ta : TE} {f : Str} {pos : Pos}
theorem ix_listK (hK : X.K = K) : IxR X (rIxL K) := hK ▸ ix_list
theorem ix_tupK (hK : X.K = K) : IxR X (rIxT K) := hK ▸ ix_tup
theorem ix_seqK (hK : X.K = K) : IxR X (rIx K) := hK ▸ ix_seq
theorem sl_listK (hK : X.K = K) : SlR X (rSlL K) := hK ▸ sl_list
theorem pe_fldK (hK : X.K = K) (he : PE X e ta) (hb : attributeBase e f X.env (eval e X.env) = eval e X.env := by rfl) : PE X (.Attribute e f pos) (tFld K ta f) := hK ▸ pe_fld he hb
theorem call_len_seqK (hK : X.K = K) : CallR X (.builtin "len") (fun xs H Q => ∃ p ys, xs = [.ref p] ∧ (SqL K H p ys ∨ SqT K H p ys) ∧ Q (.int ys.length) H) := hK ▸ call_len_seq
theorem cr_allK (hK : X.K = K) (hc : X.calm = true) : CallR X (.builtin "all") (rAll K) := hK ▸ cr_all hc
theorem call_isiK' (hK : X.K = K) : CallR X (.builtin "isinstance") (rIsi K) := hK ▸ call_isi
theorem call_reprK (hK : X.K = K) (hg : X.A.guards = some []) (hu : X.A.units + 60 < cLine) : CallR X (.builtin "repr") (rRepr K) := hK ▸ call_repr hg hu
theorem op_eqDK (hK : X.K = K) (hu : X.A.units + 64 < cLine) : OpR X (compareOp .Eq) (rEqD K) := hK ▸ op_eqD hu
theorem op_neDK (hK : X.K = K) (hu : X.A.units + 64 < cLine) : OpR X (compareOp .NotEq) (rNeD K) := hK ▸ op_neD hu
theorem call_tuple_ofK (hK : X.K = K) : CallR X (.type "tuple") (fun xs H Q => ∃ p ys, xs = [.ref p] ∧ ((SqL K H p ys ∧ ∀ l, H l = none → Q (.ref l) (upd H l (.tup ys))) ∨ (SqT K H p ys ∧ Q (.ref p) H))) := hK ▸ call_tuple_of
theorem call_list_ofK (hK : X.K = K) : CallR X (.type "list") (fun xs H Q => ∃ p ys, xs = [.ref p] ∧ (SqL K H p ys ∨ SqT K H p ys) ∧ ∀ l, H l = none → Q (.ref l) (upd H l (.lst ys))) := hK ▸ call_list_of
theorem pi_listK {tg iter : Expr} (hK : X.K = K) (he : PE X iter ta) : PI X tg iter (iList K ta) := hK ▸ pi_list he
theorem pi_tupK {tg iter : Expr} (hK : X.K = K) (he : PE X iter ta) : PI X tg iter (iTup K ta) := hK ▸ pi_tup he
theorem nr_addK (hK : X.K = K) (T : OpsR X.K) (c : MCal X.prog X.w X.K X.mg X.base (He.ga X.K "Ratio") "__add__" ps k sp) (hr : Room k X.A) : OpR X (binaryOp .Add) (rOwnL (He.ga K "Ratio") sp E0) := hK ▸ nr_add T c hr
theorem nr_subK (hK : X.K = K) (T : OpsR X.K) (c : MCal X.prog X.w X.K X.mg X.base (He.ga X.K "Ratio") "__sub__" ps k sp) (hr : Room k X.A) : OpR X (binaryOp .Sub) (rOwnL (He.ga K "Ratio") sp E0) := hK ▸ nr_sub T c hr
theorem nr_mulK (hK : X.K = K) (T : OpsR X.K) (c : MCal X.prog X.w X.K X.mg X.base (He.ga X.K "Ratio") "__mul__" ps k sp) (hr : Room k X.A) : OpR X (binaryOp .Mult) (rOwnL (He.ga K "Ratio") sp E0) := hK ▸ nr_mul T c hr
theorem nr_negK (hK : X.K = K) (c : MCal X.prog X.w X.K X.mg X.base (He.ga X.K "Ratio") "__neg__" ps k sp) (hr : Room k X.A) : UnR X (unaryOp .USub) (rOwnU (He.ga K "Ratio") sp E0) := hK ▸ nr_neg c hr
theorem nr_strK {c : Str} (hK : X.K = K) (m : MCal X.prog X.w X.K X.mg X.base (He.ga X.K c) "__str__" ps k sp) (hr : Room (k + 2) X.A) : CallR X (.type "str") (rStrOwn (He.ga K c) sp E0) := hK ▸ nr_str m hr
end
end N

set_option Elab.async false
set_option linter.all false
set_option maxRecDepth 100000
set_option maxHeartbeats 4000000
/-! N13: callees that want nothing to be shown. -/
namespace N
open PySem PySem.Spec PyProof.Rows L2 J
structure CalG (P : Program) (w : World) (K : PySem.W.Frag) (mg : Str → Option Value) (base : Heap) (x : Str) (ps : List Str) (k : Nat) (sp : Sp) : Prop where
  ex : ∃ f fd, mg x = some (.ref f) ∧ PySem.W.keepIn K (.ref f) = true ∧ FnG P w K mg base (CXL P w) k f fd ps sp ∧ Binds K fd ps []
section
variable {X : Cx} {W : WX} {k : Nat} {ps : List Str} {sp : Sp} {x : Str} {p pos : Pos} {e : Expr} {es : List Expr} {t : TA}
theorem pe_calGS (tk : Takes X W) (c : CalG X.prog X.w X.K X.mg X.base x ps k sp) (hgd : X.A.guards = some []) (hr : Room k X.A) (hg : Gl X x) (ha : PA X (e :: es) t) (hdb : (x == ("__debug__" : Str)) = false := by decide)
    (he : starEach (e :: es) X.env = (false, eval e X.env) :: starEach es X.env := by rfl) (hpl : (backTo pos (starEach es X.env)).any (·.1) = false := by rfl) : PE X (.Call (.Name x p) (e :: es) [] pos) (tCallS sp (WE W) t) := by
  obtain ⟨f, fd, hm, hk, F0, hb⟩ := c.ex
  have F := F0 X.A hgd hr
  refine ⟨fun pins s σ H Q I h => ?_⟩
  refine wpAny_Call_Name_kw (ld_glob I hg hm ?_ hdb)
  refine PySem.W.callWith_K (h₀ := X.base) I.ok.mod.kin hk (thn (ha.run pos pins s σ H _ I h) fun us s1 ⟨vs, H1, I1, r, q⟩ => ⟨I1.kIn, ?_⟩) he hpl
  have ll : us.length = ps.length := by rw [← r.length]; exact F.len _ _ _ _ q
  have hb' := hb s1 us I1.kIn (by simpa using ll)
  rw [List.append_nil] at hb'
  refine wpAny_call (codeAny_mono (F.run X.stack s1 H1 ⟨us, []⟩ us vs Q (WE W σ) I1.env0 hb' r q) fun z s' hz => ?_)
  match z, hz with
  | .error e, hz => exact passAt tk σ pins _ _ e s' I1 hz
  | .ok (.ret u), hz => exact I1.after hz
  | .ok .next, hz => exact hz.elim
  | .ok .brk, hz => exact hz.elim
  | .ok .cont, hz => exact hz.elim
end
theorem calG_of {P : Program} {w : World} {K : PySem.W.Frag} {mg : Str → Option Value} {base : Heap} {x : Str} {ps : List Str} {k : Nat} {sp : Sp} (c : Cal P w K mg base x ps k sp) : CalG P w K mg base x ps k sp := by
  obtain ⟨f, fd, a, b, c, e⟩ := c.ex
  exact ⟨f, fd, a, b, g_of c, e⟩
end N

set_option Elab.async false
set_option linter.all false
set_option maxRecDepth 100000
set_option maxHeartbeats 4000000
/-! N14: a law's own loop over its cells. -/
namespace N
open PySem PySem.Spec PyProof.Rows L2 J
open ToD (d)
open ToDs (ds)
open M

def bodyG (a : Addr) (k : Int) (n : Nat) : List Sl := .fix (.ref a) :: .val (d k) :: .box :: List.replicate n .any
theorem bodyG_at {a : Addr} {k : Int} {n : Nat} {i : Nat} {s : Sl} (h : (bodyG a k n)[i]? = some s) : (i = 0 ∧ s = .fix (.ref a)) ∨ s = .any ∨ (i = 1 ∧ s = .val (d k)) ∨ (i = 2 ∧ s = .box) := by
  match i, h with
  | 0, h => exact .inl ⟨rfl, (Option.some.inj h).symm⟩
  | 1, h => exact .inr (.inr (.inl ⟨rfl, (Option.some.inj h).symm⟩))
  | 2, h => exact .inr (.inr (.inr ⟨rfl, (Option.some.inj h).symm⟩))
  | i + 3, h =>
    have h2 : (List.replicate n Sl.any)[i]? = some s := h
    exact .inr (.inl (List.eq_of_mem_replicate (List.mem_of_getElem? h2)))
theorem law_loop {K : PySem.W.Frag} {W W2 : WX} {a : Addr} {ns : List Int} {n : Nat} {wi : TI} {TB : TS} {mb : Int → M (Step Unit Bool)} {Q : VK}
    (hwi : ∀ σ H R, σ[0]? = some (some (.ref a)) → SqL K H a (ns.map V.int) → (∀ j : Int, 0 ≤ j → j ≤ 1000 → R (Itr 0 j.toNat) H) → wi σ H R)
    (hn : ns.length ≤ 1000) (hbody : ∀ k : Int, Rd K W (PB (ρ := Bool) K (fun _ : Unit => .fix (.ref a) :: List.replicate (n + 2) .any)) TB (bodyG a k n) (mb k))
    (hok : ∀ (k : Int) (b : Bx), InvB 0 b → ∃ b', mb k b = (b', .ok (.nx ()))) (hQ : ∀ H', Q (.bl true) H') {L : Ends} (hL : L.rt = Q) {σ : L2.St} {H : Hp} (hσ : σ.length = n + 3) (h0 : σ[0]? = some (some (.ref a))) (hS : SqL K H a (ns.map V.int)) :
    tSeq (tFor wi (gName 1) (tSeq (tAsg (tCallS spBoxL (WE W2) (tCons (tCallS (spCellL K) (WE W2) (tCons (tVar 0) (tCons (tVar 1) tNil))) tNil)) (gName 2)) TB)) (tRet (tC (.bl true))) L σ H := by
  refine hwi σ H _ h0 hS fun j j0 j1 => ?_
  refine for_range (lo := 0) (n := j.toNat) (fun _ σ H' => σ.length = n + 3 ∧ σ[0]? = some (some (.ref a)) ∧ SqL K H' a (ns.map V.int)) ⟨hσ, h0, hS⟩ ?_ ?_
  · intro i σ H' hi hp
    obtain ⟨hl, hz, hS'⟩ := hp
    have g0 : (σ.set 1 (some (V.int (0 + (i : Int)))))[0]? = some (some (.ref a)) := by rw [List.getElem?_set_ne (by decide)]; exact hz
    have g1 : (σ.set 1 (some (V.int (0 + (i : Int)))))[1]? = some (some (.int (0 + (i : Int)))) := List.getElem?_set_self (by omega)
    show (tSeq _ TB) _ (σ.set 1 (some (V.int (0 + (i : Int))))) H'
    refine ⟨_, g0, _, g1, a, ns, _, rfl, hS', hn, by omega, by omega, fun cc => ?_⟩
    refine ⟨cc, rfl, fun p H1 np hb hq => ?_⟩
    obtain ⟨ba, bb, bc, e, a1, a2, a3, a4, a5⟩ := hb
    have hB : InvB 0 (ba, bb, bc) := ⟨a1, a2, a3, a4, a5⟩
    obtain ⟨b', hres⟩ := hok (0 + (i : Int)) (ba, bb, bc) hB
    have sH : Same H' H1 := fun z o hz => by rw [hq z (ne_of_none hz np)]; exact hz
    have hat : ∀ (m : Nat) (o : Option V), ((σ.set 1 (some (V.int (0 + (i : Int))))).set 2 (some (.ref p)))[m]? = some o → (m = 1 → o = some (.int (0 + (i : Int)))) ∧ (m = 2 → o = some (.ref p)) := fun m o h => by
      refine ⟨fun e => ?_, fun e => ?_⟩
      · subst e
        rw [List.getElem?_set_ne (by decide), g1] at h
        exact (Option.some.inj h).symm
      · subst e
        rw [List.getElem?_set_self (by rw [List.length_set]; omega)] at h
        exact (Option.some.inj h).symm
    have noOwn : ∀ (m : Nat) (s : Sl), (bodyG a (0 + (i : Int)) n)[m]? = some s → s.isOwn = false := fun m s h => by
      rcases bodyG_at h with ⟨_, rfl⟩ | rfl | ⟨_, rfl⟩ | ⟨_, rfl⟩ <;> rfl
    have E1 : Env K (some p) ((σ.set 1 (some (V.int (0 + (i : Int))))).set 2 (some (.ref p))) (bodyG a (0 + (i : Int)) n) H' H1 := by
      refine ⟨by rw [List.length_set, List.length_set, hl]; simp [bodyG], fun m s o h1 h2 => ?_, fun m k q s t _ h1 _ o1 => ?_, fun m q s h1 o1 => ?_⟩
      · rcases bodyG_at h1 with ⟨rfl, rfl⟩ | rfl | ⟨rfl, rfl⟩ | ⟨rfl, rfl⟩
        · rw [List.getElem?_set_ne (by decide), g0] at h2
          exact (Option.some.inj h2).symm
        · trivial
        · exact ⟨_, (hat 1 o h2).1 rfl, .int _⟩
        · exact ⟨p, (hat 2 o h2).2 rfl, rfl⟩
      · rw [noOwn m s h1] at o1; cases o1
      · rw [noOwn m s h1] at o1; cases o1
    refine hbody (0 + (i : Int)) (some p) _ H' H' H' H' H1 (ba, bb, bc) _ E1 (fun m q s h1 o1 => by rw [noOwn m s h1] at o1; cases o1) sH (fun z hz => by cases hz; exact ⟨np, e⟩)
      ⟨⟨Same.refl _, sH, fun z o _ hz => sH z o hz, fun z o _ hz hg => by rw [hz] at hg; cases hg⟩, Same.refl _⟩ ?_
    rw [hres]
    intro G2 H2 p2 B2 σ2 E2 F2
    have keepA : SqL K H2 a (ns.map V.int) := by
      rcases hS' with (hh | ⟨o, hh⟩) | hh
      · exact .inl (.inl (p2.ex.keep a _ (by intro z; cases z; rw [np] at hh; cases hh) hh))
      · exact .inl (.inr ⟨o, p2.ex.keep a _ (by intro z; cases z; rw [np] at hh; cases hh) hh⟩)
      · exact .inr hh
    have z : σ2.length = n + 3 ∧ σ2[0]? = some (some (.ref a)) ∧ SqL K H2 a (ns.map V.int) := by
      refine ⟨by rw [E2.len]; simp, ?_, keepA⟩
      obtain ⟨o, h1, h2⟩ := E2.get (i := 0) (s := .fix (.ref a)) rfl
      rw [h1, h2]
    exact ⟨z, z⟩
  · intro σ H' hp
    show L.rt (.bl true) H'
    rw [hL]
    exact hQ H'
end N

set_option Elab.async false
set_option linter.all false
set_option maxRecDepth 100000
set_option maxHeartbeats 4000000
namespace K03
open PySem PySem.Spec PyProof.Rows L2 J N
open M
open ToD (d)
open ToDs (ds)
def top (i : Nat) : Stmt := PySem.Challenge.pw_jointdraws_k03_ratios_written.main.body.getD i (.Pass ⟨0, 0, 0, 0⟩)
abbrev s__wall : Stmt := top 0
abbrev s_ByZero___init__ : Stmt := inClass (top 3) 0
abbrev s_BadNumber___init__ : Stmt := inClass (top 4) 0
abbrev s_BadText___init__ : Stmt := inClass (top 5) 0
abbrev s_common_part : Stmt := top 8
abbrev s_is_integer : Stmt := top 9
abbrev s_Ratio___init__ : Stmt := inClass (top 10) 0
abbrev s_Ratio_top : Stmt := inClass (top 10) 1
abbrev s_Ratio_bottom : Stmt := inClass (top 10) 2
abbrev s_Ratio___add__ : Stmt := inClass (top 10) 3
abbrev s_Ratio___radd__ : Stmt := inClass (top 10) 4
abbrev s_Ratio___sub__ : Stmt := inClass (top 10) 5
abbrev s_Ratio___rsub__ : Stmt := inClass (top 10) 6
abbrev s_Ratio___mul__ : Stmt := inClass (top 10) 7
abbrev s_Ratio___rmul__ : Stmt := inClass (top 10) 8
abbrev s_Ratio___neg__ : Stmt := inClass (top 10) 9
abbrev s_Ratio___eq__ : Stmt := inClass (top 10) 10
abbrev s_Ratio___str__ : Stmt := inClass (top 10) 11
abbrev s_Ratio_over : Stmt := inClass (top 10) 12
abbrev s_Ratio_below : Stmt := inClass (top 10) 13
abbrev s_Ratio_text : Stmt := inClass (top 10) 14
abbrev s_parts_of : Stmt := top 11
abbrev s_is_number : Stmt := top 12
abbrev s_as_ratio : Stmt := top 13
abbrev s_is_plain : Stmt := top 14
abbrev s_read_ratio : Stmt := top 15
abbrev s_total : Stmt := top 16
abbrev s_greatest : Stmt := top 17
abbrev s_least : Stmt := top 18
abbrev s__law_cell : Stmt := top 20
abbrev s__law_box : Stmt := top 21
abbrev s__law_take : Stmt := top 22
abbrev s__law_low : Stmt := top 23
abbrev s__law_plus : Stmt := top 24
abbrev s__law_less : Stmt := top 25
abbrev s__law_is : Stmt := top 26
abbrev s__law_pair : Stmt := top 27
abbrev s__law_written : Stmt := top 28
abbrev s__law_plain : Stmt := top 29
abbrev s__law_due : Stmt := top 30
abbrev s__law_near : Stmt := top 31
abbrev s__law_read_right : Stmt := top 32
abbrev s__law_no_number : Stmt := top 33
abbrev s__law_lists_right : Stmt := top 34
abbrev s_law : Stmt := top 35
abbrev FnP (K : PySem.W.Frag) (x : Str) (st : Stmt) (f : Addr) (fd : FuncData) : Prop := FunD K x x (defArgs st) (defBody st) (defScope st) [] [] f fd
abbrev FnM (K : PySem.W.Frag) (m q : Str) (st : Stmt) (f : Addr) (fd : FuncData) : Prop := FunD K m q (defArgs st) (defBody st) (defScope st) [] [] f fd
structure TT (P : Program) (w : World) (K : PySem.W.Frag) (mg : Str → Option Value) (base : Heap) : Prop where
  cl_Ratio : Cls K (He.ga K "Ratio")
  no_Ratio_above : NoAttr K (He.ga K "Ratio") "above"
  no_Ratio_under : NoAttr K (He.ga K "Ratio") "under"
  g_Ratio : mg "Ratio" = some (.ref (He.ga K "Ratio"))
  g_DrawError : mg "DrawError" = some (.ref (He.ga K "DrawError"))
  ops : OpsR K
  e_ByZero : ErrZ0 P w K mg base "ByZero"
  insc : ∀ c ∈ (["Ratio"] : List Str), InsC K c
  kR_int : PySem.W.kitOne K (.ref (He.ga K "Ratio")) (.type "int") = some false
  kR_bool : PySem.W.kitOne K (.ref (He.ga K "Ratio")) (.type "bool") = some false
  kR_str : PySem.W.kitOne K (.ref (He.ga K "Ratio")) (.type "str") = some false
  kT_Ratio : ∀ T ∈ (["int", "bool", "NoneType", "str", "list", "tuple", "dict"] : List String), PySem.W.kitOne K (.type T) (.ref (He.ga K "Ratio")) = some false
  m_abs : mg "abs" = none
  m_len : mg "len" = none
  m_int : mg "int" = none
  m_bool : mg "bool" = none
  m_str : mg "str" = none
  m_min : mg "min" = none
  m_max : mg "max" = none
  m_range : mg "range" = none
  m_repr : mg "repr" = none
  m_all : mg "all" = none
  m_isinstance : mg "isinstance" = none
  m_tuple : mg "tuple" = none
  e_BadNumber : ErrZ P w K mg base "BadNumber" "given"
  e_BadText : ErrZ P w K mg base "BadText" "given"
  g_BadNumber : mg "BadNumber" = some (.ref (He.ga K "BadNumber"))
  x_BadNumber : ExcC K (He.ga K "BadNumber")
  exm_BadNumber : PySem.W.exmOne K (.ref (He.ga K "BadNumber")) (.ref (He.ga K "BadNumber")) = some true
  kit_BadNumber_DrawError : PySem.W.kitOne K (.ref (He.ga K "BadNumber")) (.ref (He.ga K "DrawError")) = some true
  g_BadText : mg "BadText" = some (.ref (He.ga K "BadText"))
  x_BadText : ExcC K (He.ga K "BadText")
  exm_BadText : PySem.W.exmOne K (.ref (He.ga K "BadText")) (.ref (He.ga K "BadText")) = some true
  kit_BadText_DrawError : PySem.W.kitOne K (.ref (He.ga K "BadText")) (.ref (He.ga K "DrawError")) = some true
  g_DIGITS : ∃ u, mg "DIGITS" = some u ∧ RelV (.str "0123456789") u
section
variable {P : Program} {w : World} {K : PySem.W.Frag} {mg : Str → Option Value} {base : Heap} {f : Addr} {fd : FuncData}
theorem sc_common_part : FnScope ["one", "other"] (["one", "other"] : List Str) (defScope s_common_part) := ⟨rfl, rfl, rfl, by decide +kernel, rfl, by decide +kernel, by decide +kernel⟩
noncomputable def B_common_part (v_one : Int) (v_other : Int) : M Int := (((pure v_one) >>= fun a1 => pure (if a1 < 0 then -a1 else a1)) >>= fun a3 => (((pure v_other) >>= fun a2 => pure (if a2 < 0 then -a2 else a2)) >>= fun a4 => (after (whileM (fun (s5 : Int × Int) => ((pure s5.2) >>= fun x6 => ((pure (0 : Int)) >>= fun x7 => pure (!decide (x6 = x7))))) (fun s5 => ((pure s5.2) >>= fun a10 => (((pure s5.1) >>= fun x8 => ((pure s5.2) >>= fun x9 => modM x8 x9)) >>= fun a11 => pure (.nx (a10, a11))))) (v_other.natAbs + 2) (a3, a4)) (fun s5 => pure s5.1) id)))
noncomputable def m_common_part (v_one : Int) (v_other : Int) : Res Int := M.run (B_common_part v_one v_other)
abbrev sp_common_part (K : PySem.W.Frag) : Sp := spG K fun (i : Int × Int × Unit) => m_common_part i.1 i.2.1
theorem ok_common_part (F : FnP K "common_part" s_common_part f fd) (T : TT P w K mg base)  : FnOk P w K mg base (CXL P w) 1 f fd ["one", "other"] (sp_common_part K) := by
  refine F.ok sc_common_part (fun vs H Q E h => spG_len h (fun _ => rfl)) (fun cdv A outer s H vs Q E hr h => ?_)
  refine ⟨_, (pss_cons (ps_par (i := 0) (j := 1) rfl sc_common_part.nd rfl rfl (by decide) rfl rfl (pa_cons (pe_callB call_abs (by rfl) T.m_abs PyProof.Rows.boot_abs (pa_cons (pv 0) pa_nil)) (pa_cons (pe_callB call_abs (by rfl) T.m_abs PyProof.Rows.boot_abs (pa_cons (pv 1) pa_nil)) pa_nil)) rfl) (pss_cons (ps_while passes_cx (pt_cmpR op_ne (pv 1) pe_int (nomark _)) (pss_one (ps_par (i := 0) (j := 1) rfl sc_common_part.nd rfl rfl (by decide) rfl rfl (pa_cons (pv 1) (pa_cons (pe_op op_mod (pv 0) (pv 1)) pa_nil)) rfl))) (pss_one (ps_ret (pv 0))))), ?_⟩
  refine fn_rd (n := 0) (mb := fun i => B_common_part i.1 i.2.1) h (fun i => by show m_common_part i.1 i.2.1 = M.run (B_common_part i.1 i.2.1); unfold m_common_part; rfl) (fun _ => rfl) (fun i => ?_)
  obtain ⟨v_one, v_other, _⟩ := i
  show Rd K _ _ _ [.val (d v_one), .val (d v_other)] (B_common_part v_one v_other)
  unfold B_common_part
  exact (rd_par' (ec_cons (ev_cb' cm_absI (ec_cons (ev_var (i := 0) (a := v_one)) ec_nil)) (ec_cons (ev_cb' cm_absI (ec_cons (ev_var (i := 1) (a := v_other)) ec_nil)) ec_nil)) (fun (a3 : Int) (a4 : Int) => (rd_while (S := Int × Int) (ρ := Int) (rk := id) (n := v_other.natAbs + 2) (Γn := fun s5 => [.val (d s5.1), .val (d s5.2)]) (s0 := (a3, a4)) (.eq (.eq .nil)) rk_id (fun s5 => (et_test (ev_op om_neI (ev_var (i := 1) (a := s5.2)) ev_int))) (fun s5 => (rd_nil (rd_par' (ec_cons (ev_var (i := 1) (a := s5.2)) (ec_cons (ev_op om_mod (ev_var (i := 0) (a := s5.1)) (ev_var (i := 1) (a := s5.2))) ec_nil)) (fun (a10 : Int) (a11 : Int) => (rd_nx (s := (a10, a11)) (.eq (.eq .nil))))))) (fun s5 => (rd_nil (rd_rets (ev_var (i := 0) (a := s5.1))))))))
theorem sc_is_integer : FnScope ["value"] (["value"] : List Str) (defScope s_is_integer) := ⟨rfl, rfl, rfl, by decide +kernel, rfl, by decide +kernel, by decide +kernel⟩
noncomputable def B_is_integer (v_value : D) : M Bool := (((pure v_value) >>= fun x1 => ((need (KnownD ["Ratio"] x1)) >>= fun _ => pure (isIntB x1))) >>= fun x4 => if x4 = true then (((pure v_value) >>= fun x2 => ((need (KnownD ["Ratio"] x2)) >>= fun _ => pure (isBlB x2))) >>= fun x3 => pure (!x3)) else pure false)
noncomputable def m_is_integer (v_value : D) : Res Bool := M.run (B_is_integer v_value)
abbrev sp_is_integer (K : PySem.W.Frag) : Sp := spG K fun (i : D × Unit) => m_is_integer i.1
theorem ok_is_integer (F : FnP K "is_integer" s_is_integer f fd) (T : TT P w K mg base)  : FnOk P w K mg base (CXL P w) 1 f fd ["value"] (sp_is_integer K) := by
  refine F.ok sc_is_integer (fun vs H Q E h => spG_len h (fun _ => rfl)) (fun cdv A outer s H vs Q E hr h => ?_)
  refine ⟨_, (pss_one (ps_ret (pe_and (pe_callB (call_isiK' (K := K) rfl) (by rfl) T.m_isinstance PyProof.Rows.boot_isinstance (pa_cons (pv 0) (pa_cons (pe_bltn (v := .ty "int") (by rfl) T.m_int (by decide +kernel) rfl) pa_nil))) (pe_one (pe_not (pe_callB (call_isiK' (K := K) rfl) (by rfl) T.m_isinstance PyProof.Rows.boot_isinstance (pa_cons (pv 0) (pa_cons (pe_bltn (v := .ty "bool") (by rfl) T.m_bool (by decide +kernel) rfl) pa_nil)))))))), ?_⟩
  refine fn_rd (n := 0) (mb := fun i => B_is_integer i.1) h (fun i => by show m_is_integer i.1 = M.run (B_is_integer i.1); unfold m_is_integer; rfl) (fun _ => rfl) (fun i => ?_)
  obtain ⟨v_value, _⟩ := i
  show Rd K _ _ _ [.val (d v_value)] (B_is_integer v_value)
  unfold B_is_integer
  exact (rd_nil (rd_rets (ev_and (ev_isiD (bf := fun x => isIntB x) T.insc (ClsV.ty _) (isi_int T.kR_int) (ev_var (i := 0) (a := v_value))) (ev_not (ev_isiD (bf := fun x => isBlB x) T.insc (ClsV.ty _) (isi_bool T.kR_bool) (ev_var (i := 0) (a := v_value)))))))
theorem sc_Ratio___init__ : FnScope ["self", "top", "bottom", "part"] (["self", "top", "bottom"] : List Str) (defScope s_Ratio___init__) := ⟨rfl, rfl, rfl, by decide +kernel, rfl, by decide +kernel, by decide +kernel⟩
noncomputable def B_Ratio___init__ (v_top : Int) (v_bottom : Int) : M (List (Str × D)) := (((pure v_bottom) >>= fun x1 => ((pure (0 : Int)) >>= fun x2 => pure (decide (x1 = x2)))) >>= fun c3 => if c3 = true then (M.raise "ByZero" []) else (((pure v_top) >>= fun a4 => ((pure v_bottom) >>= fun a5 => lft (m_common_part a4 a5))) >>= fun v_part => (((pure v_bottom) >>= fun x6 => ((pure (0 : Int)) >>= fun x7 => pure (decide (x6 < x7)))) >>= fun c8 => ((if c8 = true then (((pure v_part) >>= fun x10 => pure (-x10)) >>= fun v_part => pure v_part) else pure v_part) >>= fun s9 => (((pure v_top) >>= fun x11 => ((pure s9) >>= fun x12 => fdivM x11 x12)) >>= fun x13 => (((pure v_bottom) >>= fun x14 => ((pure s9) >>= fun x15 => fdivM x14 x15)) >>= fun x16 => pure (putD "under" (d x16) (putD "above" (d x13) []))))))))
noncomputable def m_Ratio___init__ (v_top : Int) (v_bottom : Int) : Res (List (Str × D)) := M.run (B_Ratio___init__ v_top v_bottom)
abbrev sp_Ratio___init__ (K : PySem.W.Frag) : Sp := spI K (He.ga K "Ratio") [] fun (i : Int × Int × Unit) => m_Ratio___init__ i.1 i.2.1
theorem ok_Ratio___init__ (F : FunD K "__init__" "Ratio.__init__" (defArgs s_Ratio___init__) (defBody s_Ratio___init__) (defScope s_Ratio___init__) [.int 1] [] f fd) (T : TT P w K mg base) (c_common_part : Cal P w K mg base "common_part" ["one", "other"] 1 (sp_common_part K)) : FnOk P w K mg base (CXL P w) 3 f fd ["self", "top", "bottom"] (sp_Ratio___init__ K) := by
  refine F.ok sc_Ratio___init__ (fun vs H Q E h => spI_len h (fun _ => rfl)) (fun cdv A outer s H vs Q E hr h => ?_)
  refine ⟨_, (pss_cons (ps_if (pt_cmpR op_eq (pv 2) pe_int (nomark _)) (pss_one (ps_raiseE0 rfl takes_cx T.e_ByZero (hr.mono (by decide)) (by rfl))) pss_nil) (pss_cons (ps_set (i := 3) sc_Ratio___init__.nd rfl (Or.inl rfl) (pe_calS takes_cx c_common_part (hr.mono (by decide)) (by rfl) (pa_cons (pv 1) (pa_cons (pv 2) pa_nil)))) (pss_cons (ps_if (pt_cmpR op_lt (pv 2) pe_int (nomark _)) (pss_one (ps_set (i := 3) sc_Ratio___init__.nd rfl (Or.inl rfl) (pe_un un_neg (pv 3)))) pss_nil) (pss_cons (ps_fld (pv 0) (pe_op op_fdivZ (pv 1) (pv 3)) rfl) (pss_one (ps_fld (pv 0) (pe_op op_fdivZ (pv 2) (pv 3)) rfl)))))), ?_⟩
  refine fn_ini (n := 1) (n2 := 3) (mb := fun i => B_Ratio___init__ i.1 i.2.1) rfl h (fun i => by show m_Ratio___init__ i.1 i.2.1 = M.run (B_Ratio___init__ i.1 i.2.1); unfold m_Ratio___init__; rfl) (fun _ => rfl) rfl (fun a dx i => ?_)
  obtain ⟨v_top, v_bottom, _⟩ := i
  show Rd K _ _ _ [.slf a dx "Ratio" [], .val (d v_top), .val (d v_bottom), .any] (B_Ratio___init__ v_top v_bottom)
  unfold B_Ratio___init__
  exact (rd_if (et_test (ev_op om_eqI (ev_var (i := 2) (a := v_bottom)) ev_int)) (rd_raise0 (c := "ByZero") rfl) (rd_skip (rd_set (ev_call' (ec_cons (ev_var (i := 1) (a := v_top)) (ec_cons (ev_var (i := 2) (a := v_bottom)) ec_nil))) (fun (v_part : Int) => (rd_join (S := Int) (Γn := fun s9 => [.slf a dx "Ratio" [], .val (d v_top), .val (d v_bottom), .val (d s9)]) (et_test (ev_op om_ltI (ev_var (i := 2) (a := v_bottom)) ev_int)) (rd_nil (rd_set (ev_un um_neg (ev_var (i := 3) (a := v_part))) (fun (v_part : Int) => (rd_next (s := v_part) (.eq (.eq (.eq (.eq .nil)))))))) (rd_next (s := v_part) (.eq (.eq (.eq (.eq .nil))))) (fun s9 => (rd_sfld (p := a) (dx := dx) (fs := []) T.cl_Ratio T.no_Ratio_above (ev_op om_fdivZ (ev_var (i := 1) (a := v_top)) (ev_var (i := 3) (a := s9))) (fun (x13 : Int) => (rd_nil (rd_sfld (p := a) (dx := dx) (fs := (putD "above" (d x13) [])) T.cl_Ratio T.no_Ratio_under (ev_op om_fdivZ (ev_var (i := 2) (a := v_bottom)) (ev_var (i := 3) (a := s9))) (fun (x16 : Int) => (rd_ini (fs := (putD "under" (d x16) (putD "above" (d x13) []))) (n := 3) (.eq (.any (.any (.any .nil))))))))))))))))
noncomputable def newRt (t b : Int) : Res Rt := newOf (m_Ratio___init__ t b)
noncomputable def newRt1 (t : Int) : Res Rt := newOf (m_Ratio___init__ t 1)
section
variable {W : WX} {Γ : List Sl} {K : PySem.W.Frag}
theorem mk2_Ratio {t : TA} {mk : ∀ {θ : Type}, (Int × Int × Unit → M θ) → M θ} {m : M Rt} (h : EvC (ι := Int × Int × Unit) K W t Γ mk) (e : m = mk fun i => lft (newRt i.1 i.2.1) := by rfl) : EvR K W (tMakeS (He.ga K "Ratio") (sp_Ratio___init__ K) [] (WE W) t) Γ m :=
  ev_make' (α := Rt) rfl (fun i => i) (fun G vs i r => by rw [List.append_nil]; exact r) (fun i => newOf_ok _) h e
theorem mk1_Ratio {t : TA} {mk : ∀ {θ : Type}, (Int × Unit → M θ) → M θ} {m : M Rt} (h : EvC (ι := Int × Unit) K W t Γ mk) (e : m = mk fun i => lft (newRt1 i.1) := by rfl) : EvR K W (tMakeS (He.ga K "Ratio") (sp_Ratio___init__ K) [.int 1] (WE W) t) Γ m :=
  ev_make' (α := Rt) rfl (fun (i : Int × Unit) => ((i.1, 1, ()) : Int × Int × Unit)) (fun G vs i r => by
    obtain ⟨v, rfl, r1⟩ := reps1 (a := i.1) r
    exact .cons r1 (.cons (.int 1) .nil)) (fun i => newOf_ok _) h e
end
theorem sc_Ratio_top : FnScope ["self"] (["self"] : List Str) (defScope s_Ratio_top) := ⟨rfl, rfl, rfl, by decide +kernel, rfl, by decide +kernel, by decide +kernel⟩
theorem ok_Ratio_top (F : FnM K "top" "Ratio.top" s_Ratio_top f fd) (T : TT P w K mg base) : FnOk P w K mg base (CXL P w) 1 f fd ["self"] (getSp (He.ga K "Ratio") "above") := by
  refine F.ok sc_Ratio_top (fun vs H Q E h => ?_) (fun cdv A outer s H vs Q E hr h => ?_)
  · obtain ⟨a, dx, fs, v, rfl, _⟩ := h
    rfl
  · obtain ⟨a, dx, fs, v, rfl, e, l, q⟩ := h
    exact ⟨_, PSs.nox (pss_one (ps_ret (pe_fld (pv 0) rfl))), _, rfl, a, _, dx, fs, v, rfl, e, T.cl_Ratio, T.no_Ratio_above, l, q⟩
theorem sc_Ratio_bottom : FnScope ["self"] (["self"] : List Str) (defScope s_Ratio_bottom) := ⟨rfl, rfl, rfl, by decide +kernel, rfl, by decide +kernel, by decide +kernel⟩
theorem ok_Ratio_bottom (F : FnM K "bottom" "Ratio.bottom" s_Ratio_bottom f fd) (T : TT P w K mg base) : FnOk P w K mg base (CXL P w) 1 f fd ["self"] (getSp (He.ga K "Ratio") "under") := by
  refine F.ok sc_Ratio_bottom (fun vs H Q E h => ?_) (fun cdv A outer s H vs Q E hr h => ?_)
  · obtain ⟨a, dx, fs, v, rfl, _⟩ := h
    rfl
  · obtain ⟨a, dx, fs, v, rfl, e, l, q⟩ := h
    exact ⟨_, PSs.nox (pss_one (ps_ret (pe_fld (pv 0) rfl))), _, rfl, a, _, dx, fs, v, rfl, e, T.cl_Ratio, T.no_Ratio_under, l, q⟩
theorem sc_parts_of : FnScope ["number"] (["number"] : List Str) (defScope s_parts_of) := ⟨rfl, rfl, rfl, by decide +kernel, rfl, by decide +kernel, by decide +kernel⟩
def m_parts_of (v_number : Nm) : Res (Int × Int) := .ok (v_number.n, v_number.u)
abbrev sp_parts_of (K : PySem.W.Frag) : Sp := spG K fun (i : Nm × Unit) => m_parts_of i.1
theorem ok_parts_of (F : FnP K "parts_of" s_parts_of f fd) (T : TT P w K mg base) : FnOk P w K mg base (CXL P w) 1 f fd ["number"] (sp_parts_of K) := by
  refine F.ok sc_parts_of (fun vs H Q E h => spG_len h (fun _ => rfl)) (fun cdv A outer s H vs Q E hr h => ?_)
  refine ⟨_, (pss_one (ps_ret (pe_ifExp (pt_val (pe_callB call_isi (by rfl) T.m_isinstance PyProof.Rows.boot_isinstance (pa_cons (pv 0) (pa_cons (pe_glob (v := .ref (He.ga K "Ratio")) (by rfl) T.g_Ratio rfl) pa_nil)))) (pe_tup (pa_cons (pe_fld (pv 0) rfl) (pa_cons (pe_fld (pv 0) rfl) pa_nil))) (pe_tup (pa_cons (pv 0) (pa_cons pe_int pa_nil)))))), ?_⟩
  obtain ⟨⟨x, _⟩, G, s, rs, hf⟩ := h
  obtain ⟨v, rfl, r⟩ := reps1 rs
  have done : ∀ p, H p = none → Q (.ref p) (upd H p (.tup [.int x.n, .int x.u])) := fun p hp => hf _ _ _ (Ex.new s hp) (.tup (.inl (.inl upd_same)) (.cons (.int _) (.cons (.int _) .nil)))
  cases x with
  | i n =>
    cases rep_int (i := n) r
    exact ⟨_, rfl, .int n, _, _, _, false, rfl, .own _, .base (.int n), T.kT_Ratio _ (by simp), false, rfl, iteF ⟨_, rfl, small_sl (by show 2 ≤ 1000; decide), done⟩⟩
  | r q =>
    obtain ⟨p, dx, vs, rfl, hp, rf⟩ := rep_ins (c := "Ratio") (fs := InsOf.fs q) r
    have f := T.insc "Ratio" (List.mem_singleton.mpr rfl)
    obtain ⟨w1, l1, r1⟩ := rf.look (n := "above") (d := .int q.n) rfl
    obtain ⟨w2, l2, r2⟩ := rf.look (n := "under") (d := .int q.u) rfl
    cases r1; cases r2
    have e := s _ _ hp
    exact ⟨_, rfl, .ref p, _, _, _, true, rfl, .own _, .base (.ins e f.cl f.c1 f.c2 f.c3 f.c4), kit_self, true, rfl, iteT ⟨_, rfl, p, _, dx, vs, _, rfl, e, T.cl_Ratio, T.no_Ratio_above, l1, _, rfl, p, _, dx, vs, _, rfl, e, T.cl_Ratio, T.no_Ratio_under, l2, small_sl (by show 2 ≤ 1000; decide), done⟩⟩
theorem sc_Ratio___add__ : FnScope ["self", "other", "up", "down"] (["self", "other"] : List Str) (defScope s_Ratio___add__) := ⟨rfl, rfl, rfl, by decide +kernel, rfl, by decide +kernel, by decide +kernel⟩
noncomputable def B_Ratio___add__ (v_self : Rt) (v_other : Nm) : M Rt := (((pure v_other) >>= fun a1 => lft (m_parts_of a1)) >>= fun p2 => (((((pure v_self) >>= fun x3 => pure x3.n) >>= fun x4 => ((pure p2.2) >>= fun x5 => mulM x4 x5)) >>= fun x9 => (((pure p2.1) >>= fun x7 => (((pure v_self) >>= fun x6 => pure x6.u) >>= fun x8 => mulM x7 x8)) >>= fun x10 => pure (x9 + x10))) >>= fun a14 => ((((pure v_self) >>= fun x11 => pure x11.u) >>= fun x12 => ((pure p2.2) >>= fun x13 => mulM x12 x13)) >>= fun a15 => lft (newRt a14 a15))))
noncomputable def m_Ratio___add__ (v_self : Rt) (v_other : Nm) : Res Rt := M.run (B_Ratio___add__ v_self v_other)
abbrev sp_Ratio___add__ (K : PySem.W.Frag) : Sp := spG K fun (i : Rt × Nm × Unit) => m_Ratio___add__ i.1 i.2.1
theorem ok_Ratio___add__ (F : FnM K "__add__" "Ratio.__add__" s_Ratio___add__ f fd) (T : TT P w K mg base) (c_parts_of : Cal P w K mg base "parts_of" ["number"] 1 (sp_parts_of K)) (k2_Ratio : KCal P w K mg base "Ratio" (He.ga K "Ratio") ["self", "top", "bottom"] 3 (sp_Ratio___init__ K) []) : FnOk P w K mg base (CXL P w) 5 f fd ["self", "other"] (sp_Ratio___add__ K) := by
  refine F.ok sc_Ratio___add__ (fun vs H Q E h => spG_len h (fun _ => rfl)) (fun cdv A outer s H vs Q E hr h => ?_)
  refine ⟨_, (pss_cons (ps_asg (pe_calS takes_cx c_parts_of (hr.mono (by decide)) (by rfl) (pa_cons (pv 1) pa_nil)) (pg_tup rfl (pgs_cons (pg_name (i := 2) sc_Ratio___add__.nd rfl (Or.inl rfl)) (pgs_cons (pg_name (i := 3) sc_Ratio___add__.nd rfl (Or.inl rfl)) pgs_nil)))) (pss_one (ps_ret (pe_kcalS takes_cx k2_Ratio (hr.mono (by decide)) (by rfl) (pa_cons (pe_op op_add (pe_op op_mulW (pe_fldK (K := K) rfl (pv 0) rfl) (pv 3)) (pe_op op_mulW (pv 2) (pe_fldK (K := K) rfl (pv 0) rfl))) (pa_cons (pe_op op_mulW (pe_fldK (K := K) rfl (pv 0) rfl) (pv 3)) pa_nil)))))), ?_⟩
  refine fn_rd (n := 2) (mb := fun i => B_Ratio___add__ i.1 i.2.1) h (fun i => by show m_Ratio___add__ i.1 i.2.1 = M.run (B_Ratio___add__ i.1 i.2.1); unfold m_Ratio___add__; rfl) (fun _ => rfl) (fun i => ?_)
  obtain ⟨v_self, v_other, _⟩ := i
  show Rd K _ _ _ [.val (d v_self), .val (d v_other), .any, .any] (B_Ratio___add__ v_self v_other)
  unfold B_Ratio___add__
  exact (rd_tg tg_2 up2 (ev_call' (ec_cons (ev_var (i := 1) (a := v_other)) ec_nil)) (fun (p2 : (Int × Int)) => (rd_nil (rd_rets (mk2_Ratio (ec_cons (ev_op om_addI (ev_op om_mulW (ev_fld (g := fun x => x.n) (ev_var (i := 0) (a := v_self)) T.cl_Ratio T.no_Ratio_above) (ev_var (i := 3) (a := p2.2))) (ev_op om_mulW (ev_var (i := 2) (a := p2.1)) (ev_fld (g := fun x => x.u) (ev_var (i := 0) (a := v_self)) T.cl_Ratio T.no_Ratio_under))) (ec_cons (ev_op om_mulW (ev_fld (g := fun x => x.u) (ev_var (i := 0) (a := v_self)) T.cl_Ratio T.no_Ratio_under) (ev_var (i := 3) (a := p2.2))) ec_nil)))))))
theorem sc_Ratio___neg__ : FnScope ["self"] (["self"] : List Str) (defScope s_Ratio___neg__) := ⟨rfl, rfl, rfl, by decide +kernel, rfl, by decide +kernel, by decide +kernel⟩
noncomputable def B_Ratio___neg__ (v_self : Rt) : M Rt := ((((pure v_self) >>= fun x1 => pure x1.n) >>= fun x2 => pure (-x2)) >>= fun a4 => (((pure v_self) >>= fun x3 => pure x3.u) >>= fun a5 => lft (newRt a4 a5)))
noncomputable def m_Ratio___neg__ (v_self : Rt) : Res Rt := M.run (B_Ratio___neg__ v_self)
abbrev sp_Ratio___neg__ (K : PySem.W.Frag) : Sp := spG K fun (i : Rt × Unit) => m_Ratio___neg__ i.1
theorem ok_Ratio___neg__ (F : FnM K "__neg__" "Ratio.__neg__" s_Ratio___neg__ f fd) (T : TT P w K mg base) (k2_Ratio : KCal P w K mg base "Ratio" (He.ga K "Ratio") ["self", "top", "bottom"] 3 (sp_Ratio___init__ K) []) : FnOk P w K mg base (CXL P w) 5 f fd ["self"] (sp_Ratio___neg__ K) := by
  refine F.ok sc_Ratio___neg__ (fun vs H Q E h => spG_len h (fun _ => rfl)) (fun cdv A outer s H vs Q E hr h => ?_)
  refine ⟨_, (pss_one (ps_ret (pe_kcalS takes_cx k2_Ratio (hr.mono (by decide)) (by rfl) (pa_cons (pe_un un_neg (pe_fldK (K := K) rfl (pv 0) rfl)) (pa_cons (pe_fldK (K := K) rfl (pv 0) rfl) pa_nil))))), ?_⟩
  refine fn_rd (n := 0) (mb := fun i => B_Ratio___neg__ i.1) h (fun i => by show m_Ratio___neg__ i.1 = M.run (B_Ratio___neg__ i.1); unfold m_Ratio___neg__; rfl) (fun _ => rfl) (fun i => ?_)
  obtain ⟨v_self, _⟩ := i
  show Rd K _ _ _ [.val (d v_self)] (B_Ratio___neg__ v_self)
  unfold B_Ratio___neg__
  exact (rd_nil (rd_rets (mk2_Ratio (ec_cons (ev_un um_neg (ev_fld (g := fun x => x.n) (ev_var (i := 0) (a := v_self)) T.cl_Ratio T.no_Ratio_above)) (ec_cons (ev_fld (g := fun x => x.u) (ev_var (i := 0) (a := v_self)) T.cl_Ratio T.no_Ratio_under) ec_nil)))))
theorem sc_Ratio___str__ : FnScope ["self"] (["self"] : List Str) (defScope s_Ratio___str__) := ⟨rfl, rfl, rfl, by decide +kernel, rfl, by decide +kernel, by decide +kernel⟩
noncomputable def B_Ratio___str__ (v_self : Rt) : M Str := ((((pure v_self) >>= fun x1 => pure x1.u) >>= fun x2 => ((pure (1 : Int)) >>= fun x3 => pure (decide (x2 = x3)))) >>= fun c4 => if c4 = true then (((pure v_self) >>= fun x5 => pure x5.n) >>= fun a6 => fmtI a6) else (joinM [(((pure v_self) >>= fun x7 => pure x7.n) >>= fun x8 => fmtI x8), pure ("/" : Str), (((pure v_self) >>= fun x9 => pure x9.u) >>= fun x10 => fmtI x10)] Str.empty))
noncomputable def m_Ratio___str__ (v_self : Rt) : Res Str := M.run (B_Ratio___str__ v_self)
abbrev sp_Ratio___str__ (K : PySem.W.Frag) : Sp := spG K fun (i : Rt × Unit) => m_Ratio___str__ i.1
theorem ok_Ratio___str__ (F : FnM K "__str__" "Ratio.__str__" s_Ratio___str__ f fd) (T : TT P w K mg base)  : FnOk P w K mg base (CXL P w) 1 f fd ["self"] (sp_Ratio___str__ K) := by
  refine F.ok sc_Ratio___str__ (fun vs H Q E h => spG_len h (fun _ => rfl)) (fun cdv A outer s H vs Q E hr h => ?_)
  refine ⟨_, (pss_cons (ps_if (pt_cmpR op_eq (pe_fldK (K := K) rfl (pv 0) rfl) pe_int (nomark _)) (pss_one (ps_ret (pe_callTy call_str_int (by rfl) T.m_str (by decide +kernel) (pa_cons (pe_fldK (K := K) rfl (pv 0) rfl) pa_nil)))) pss_nil) (pss_one (ps_ret (pe_joined (PJ.cons (pe_fmt (pe_fldK (K := K) rfl (pv 0) rfl)) (PJ.cons pe_str (PJ.cons (pe_fmt (pe_fldK (K := K) rfl (pv 0) rfl)) PJ.nil))))))), ?_⟩
  refine fn_rd (n := 0) (mb := fun i => B_Ratio___str__ i.1) h (fun i => by show m_Ratio___str__ i.1 = M.run (B_Ratio___str__ i.1); unfold m_Ratio___str__; rfl) (fun _ => rfl) (fun i => ?_)
  obtain ⟨v_self, _⟩ := i
  show Rd K _ _ _ [.val (d v_self)] (B_Ratio___str__ v_self)
  unfold B_Ratio___str__
  exact (rd_if (et_test (ev_op om_eqI (ev_fld (g := fun x => x.u) (ev_var (i := 0) (a := v_self)) T.cl_Ratio T.no_Ratio_under) ev_int)) (rd_rets (ev_cb' cm_strI (ec_cons (ev_fld (g := fun x => x.n) (ev_var (i := 0) (a := v_self)) T.cl_Ratio T.no_Ratio_above) ec_nil))) (rd_skip (rd_nil (rd_rets (ev_joined' (ej_cons (ev_fmtI (ev_fld (g := fun x => x.n) (ev_var (i := 0) (a := v_self)) T.cl_Ratio T.no_Ratio_above)) (ej_cons ev_str (ej_cons (ev_fmtI (ev_fld (g := fun x => x.u) (ev_var (i := 0) (a := v_self)) T.cl_Ratio T.no_Ratio_under)) ej_nil))))))))
theorem sc_Ratio_below : FnScope ["self", "number", "up", "down"] (["self", "number"] : List Str) (defScope s_Ratio_below) := ⟨rfl, rfl, rfl, by decide +kernel, rfl, by decide +kernel, by decide +kernel⟩
noncomputable def B_Ratio_below (v_self : Rt) (v_number : Nm) : M Bool := (((pure v_number) >>= fun a1 => lft (m_parts_of a1)) >>= fun p2 => ((((pure v_self) >>= fun x3 => pure x3.n) >>= fun x4 => ((pure p2.2) >>= fun x5 => mulM x4 x5)) >>= fun x9 => (((pure p2.1) >>= fun x7 => (((pure v_self) >>= fun x6 => pure x6.u) >>= fun x8 => mulM x7 x8)) >>= fun x10 => pure (decide (x9 < x10)))))
noncomputable def m_Ratio_below (v_self : Rt) (v_number : Nm) : Res Bool := M.run (B_Ratio_below v_self v_number)
abbrev sp_Ratio_below (K : PySem.W.Frag) : Sp := spG K fun (i : Rt × Nm × Unit) => m_Ratio_below i.1 i.2.1
theorem ok_Ratio_below (F : FnM K "below" "Ratio.below" s_Ratio_below f fd) (T : TT P w K mg base) (c_parts_of : Cal P w K mg base "parts_of" ["number"] 1 (sp_parts_of K)) : FnOk P w K mg base (CXL P w) 2 f fd ["self", "number"] (sp_Ratio_below K) := by
  refine F.ok sc_Ratio_below (fun vs H Q E h => spG_len h (fun _ => rfl)) (fun cdv A outer s H vs Q E hr h => ?_)
  refine ⟨_, (pss_cons (ps_asg (pe_calS takes_cx c_parts_of (hr.mono (by decide)) (by rfl) (pa_cons (pv 1) pa_nil)) (pg_tup rfl (pgs_cons (pg_name (i := 2) sc_Ratio_below.nd rfl (Or.inl rfl)) (pgs_cons (pg_name (i := 3) sc_Ratio_below.nd rfl (Or.inl rfl)) pgs_nil)))) (pss_one (ps_ret (pe_cmpR op_lt (pe_op op_mulW (pe_fldK (K := K) rfl (pv 0) rfl) (pv 3)) (pe_op op_mulW (pv 2) (pe_fldK (K := K) rfl (pv 0) rfl)) (nomark _))))), ?_⟩
  refine fn_rd (n := 2) (mb := fun i => B_Ratio_below i.1 i.2.1) h (fun i => by show m_Ratio_below i.1 i.2.1 = M.run (B_Ratio_below i.1 i.2.1); unfold m_Ratio_below; rfl) (fun _ => rfl) (fun i => ?_)
  obtain ⟨v_self, v_number, _⟩ := i
  show Rd K _ _ _ [.val (d v_self), .val (d v_number), .any, .any] (B_Ratio_below v_self v_number)
  unfold B_Ratio_below
  exact (rd_tg tg_2 up2 (ev_call' (ec_cons (ev_var (i := 1) (a := v_number)) ec_nil)) (fun (p2 : (Int × Int)) => (rd_nil (rd_rets (ev_op om_ltI (ev_op om_mulW (ev_fld (g := fun x => x.n) (ev_var (i := 0) (a := v_self)) T.cl_Ratio T.no_Ratio_above) (ev_var (i := 3) (a := p2.2))) (ev_op om_mulW (ev_var (i := 2) (a := p2.1)) (ev_fld (g := fun x => x.u) (ev_var (i := 0) (a := v_self)) T.cl_Ratio T.no_Ratio_under)))))))
theorem sc_Ratio_text : FnScope ["self"] (["self"] : List Str) (defScope s_Ratio_text) := ⟨rfl, rfl, rfl, by decide +kernel, rfl, by decide +kernel, by decide +kernel⟩
noncomputable def B_Ratio_text (v_self : Rt) : M Str := ((pure v_self) >>= fun a1 => strict (lft (m_Ratio___str__ a1)))
noncomputable def m_Ratio_text (v_self : Rt) : Res Str := M.run (B_Ratio_text v_self)
abbrev sp_Ratio_text (K : PySem.W.Frag) : Sp := spG K fun (i : Rt × Unit) => m_Ratio_text i.1
theorem ok_Ratio_text (F : FnM K "text" "Ratio.text" s_Ratio_text f fd) (T : TT P w K mg base) (m_Ratio___str__ : MCal P w K mg base (He.ga K "Ratio") "__str__" ["self"] 1 (sp_Ratio___str__ K)) : FnOk P w K mg base (CXL P w) 4 f fd ["self"] (sp_Ratio_text K) := by
  refine F.ok sc_Ratio_text (fun vs H Q E h => spG_len h (fun _ => rfl)) (fun cdv A outer s H vs Q E hr h => ?_)
  refine ⟨_, (pss_one (ps_ret (pe_callTy (nr_strK (K := K) rfl m_Ratio___str__ (hr.mono (by decide))) (by rfl) T.m_str (by decide +kernel) (pa_cons (pv 0) pa_nil)))), ?_⟩
  refine fn_rd (n := 0) (mb := fun i => B_Ratio_text i.1) h (fun i => by show m_Ratio_text i.1 = M.run (B_Ratio_text i.1); unfold m_Ratio_text; rfl) (fun _ => rfl) (fun i => ?_)
  obtain ⟨v_self, _⟩ := i
  show Rd K _ _ _ [.val (d v_self)] (B_Ratio_text v_self)
  unfold B_Ratio_text
  exact (rd_nil (rd_rets (ev_cb' (cm_strOwn (α := Rt) rfl) (ec_cons (ev_var (i := 0) (a := v_self)) ec_nil))))
theorem sc_is_number : FnScope ["value"] (["value"] : List Str) (defScope s_is_number) := ⟨rfl, rfl, rfl, by decide +kernel, rfl, by decide +kernel, by decide +kernel⟩
noncomputable def B_is_number (v_value : D) : M Bool := (((pure v_value) >>= fun a1 => lft (m_is_integer a1)) >>= fun x3 => if x3 = true then pure true else ((pure v_value) >>= fun x2 => ((need (KnownD ["Ratio"] x2)) >>= fun _ => pure (isInsB "Ratio" x2))))
noncomputable def m_is_number (v_value : D) : Res Bool := M.run (B_is_number v_value)
abbrev sp_is_number (K : PySem.W.Frag) : Sp := spG K fun (i : D × Unit) => m_is_number i.1
theorem ok_is_number (F : FnP K "is_number" s_is_number f fd) (T : TT P w K mg base) (c_is_integer : Cal P w K mg base "is_integer" ["value"] 1 (sp_is_integer K)) : FnOk P w K mg base (CXL P w) 2 f fd ["value"] (sp_is_number K) := by
  refine F.ok sc_is_number (fun vs H Q E h => spG_len h (fun _ => rfl)) (fun cdv A outer s H vs Q E hr h => ?_)
  refine ⟨_, (pss_one (ps_ret (pe_or (pe_calS takes_cx c_is_integer (hr.mono (by decide)) (by rfl) (pa_cons (pv 0) pa_nil)) (pe_one (pe_callB (call_isiK' (K := K) rfl) (by rfl) T.m_isinstance PyProof.Rows.boot_isinstance (pa_cons (pv 0) (pa_cons (pe_glob (v := .ref (He.ga K "Ratio")) (by rfl) T.g_Ratio rfl) pa_nil))))))), ?_⟩
  refine fn_rd (n := 0) (mb := fun i => B_is_number i.1) h (fun i => by show m_is_number i.1 = M.run (B_is_number i.1); unfold m_is_number; rfl) (fun _ => rfl) (fun i => ?_)
  obtain ⟨v_value, _⟩ := i
  show Rd K _ _ _ [.val (d v_value)] (B_is_number v_value)
  unfold B_is_number
  exact (rd_nil (rd_rets (ev_or (ev_call' (ec_cons (ev_var (i := 0) (a := v_value)) ec_nil)) (ev_isiD (bf := fun x => isInsB "Ratio" x) T.insc (ClsV.own _) (isi_Ratio T.kT_Ratio) (ev_var (i := 0) (a := v_value))))))
theorem sc_as_ratio : FnScope ["value", "up", "down"] (["value"] : List Str) (defScope s_as_ratio) := ⟨rfl, rfl, rfl, by decide +kernel, rfl, by decide +kernel, by decide +kernel⟩
noncomputable def B_as_ratio (v_value : Nm) : M Rt := (((((pure v_value) >>= fun x1 => pure ((d x1 : D))) >>= fun a2 => lft (m_is_number a2)) >>= fun x3 => pure (!x3)) >>= fun c4 => if c4 = true then ((pure v_value) >>= fun x5 => M.raise "BadNumber" [("given", d x5)]) else (((pure v_value) >>= fun a6 => lft (m_parts_of a6)) >>= fun p7 => ((pure p7.1) >>= fun a8 => ((pure p7.2) >>= fun a9 => lft (newRt a8 a9)))))
noncomputable def B2_as_ratio (v_value : D) : M Rt := ((((pure v_value) >>= fun a1 => lft (m_is_number a1)) >>= fun x2 => pure (!x2)) >>= fun c => if c = true then ((pure v_value) >>= fun x3 => M.raise "BadNumber" [("given", d x3)]) else M.stuck)
noncomputable def m_as_ratio (v_value : D) : Res Rt := M.run (match toNm v_value with | some a => B_as_ratio a | none => B2_as_ratio v_value)
abbrev sp_as_ratio (K : PySem.W.Frag) : Sp := spG K fun (i : D × Unit) => m_as_ratio i.1
theorem ok_as_ratio (F : FnP K "as_ratio" s_as_ratio f fd) (T : TT P w K mg base) (c_is_number : Cal P w K mg base "is_number" ["value"] 2 (sp_is_number K)) (c_parts_of : Cal P w K mg base "parts_of" ["number"] 1 (sp_parts_of K)) (k2_Ratio : KCal P w K mg base "Ratio" (He.ga K "Ratio") ["self", "top", "bottom"] 3 (sp_Ratio___init__ K) []) : FnOk P w K mg base (CXL P w) 5 f fd ["value"] (sp_as_ratio K) := by
  refine F.ok sc_as_ratio (fun vs H Q E h => spG_len h (fun _ => rfl)) (fun cdv A outer s H vs Q E hr h => ?_)
  refine ⟨_, (pss_cons (ps_if (pt_not (pt_val (pe_calS takes_cx c_is_number (hr.mono (by decide)) (by rfl) (pa_cons (pv 0) pa_nil)))) (pss_one (ps_raiseE rfl takes_cx T.e_BadNumber (hr.mono (by decide)) (by rfl) (pv 0))) pss_nil) (pss_cons (ps_asg (pe_calS takes_cx c_parts_of (hr.mono (by decide)) (by rfl) (pa_cons (pv 0) pa_nil)) (pg_tup rfl (pgs_cons (pg_name (i := 1) sc_as_ratio.nd rfl (Or.inl rfl)) (pgs_cons (pg_name (i := 2) sc_as_ratio.nd rfl (Or.inl rfl)) pgs_nil)))) (pss_one (ps_ret (pe_kcalS takes_cx k2_Ratio (hr.mono (by decide)) (by rfl) (pa_cons (pv 1) (pa_cons (pv 2) pa_nil))))))), ?_⟩
  refine fn_rd (n := 2) (mb := fun i => match toNm i.1 with | some a => B_as_ratio a | none => B2_as_ratio i.1) h (fun i => by show m_as_ratio i.1 = M.run (match toNm i.1 with | some a => B_as_ratio a | none => B2_as_ratio i.1); unfold m_as_ratio; rfl) (fun _ => rfl) (fun i => ?_)
  obtain ⟨v_value, _⟩ := i
  show Rd K _ _ _ [.val (d v_value), .any, .any] (match toNm v_value with | some a => B_as_ratio a | none => B2_as_ratio v_value)
  cases hto : toNm v_value with
  | some b =>
    rw [toNm_eq hto]
    clear hto
    revert b
    intro v_value
    show Rd K _ _ _ [.val (d v_value), .any, .any] (B_as_ratio v_value)
    unfold B_as_ratio
    exact (rd_if (et_not (et_val (ev_call' (ec_cons (ev_as (α := Nm) (β := D) (f := fun x => ((d x : D))) (ev_var (i := 0) (a := v_value)) (fun _ => rfl)) ec_nil)))) (rd_raise (c := "BadNumber") (fld := "given") rfl (ev_var (i := 0) (a := v_value))) (rd_skip (rd_tg tg_2 up2 (ev_call' (ec_cons (ev_var (i := 0) (a := v_value)) ec_nil)) (fun (p7 : (Int × Int)) => (rd_nil (rd_rets (mk2_Ratio (ec_cons (ev_var (i := 1) (a := p7.1)) (ec_cons (ev_var (i := 2) (a := p7.2)) ec_nil)))))))))
  | none =>
    show Rd K _ _ _ [.val (d v_value), .any, .any] (B2_as_ratio v_value)
    unfold B2_as_ratio
    exact (rd_if (et_not (et_val (ev_call' (ec_cons (ev_var (i := 0) (a := v_value)) ec_nil)))) (rd_raise (c := "BadNumber") (fld := "given") rfl (ev_var (i := 0) (a := v_value))) (rd_skip rd_stuck))
end
end K03


set_option Elab.async false
set_option linter.all false
set_option maxRecDepth 100000
set_option maxHeartbeats 4000000
namespace K03
open PySem PySem.Spec PyProof.Rows L2 J N
open M
open ToD (d)
open ToDs (ds)
section
variable {P : Program} {w : World} {K : PySem.W.Frag} {mg : Str → Option Value} {base : Heap} {f : Addr} {fd : FuncData}
theorem sc_is_plain : FnScope ["word", "sign"] (["word"] : List Str) (defScope s_is_plain) := ⟨rfl, rfl, rfl, by decide +kernel, rfl, by decide +kernel, by decide +kernel⟩
noncomputable def B_is_plain (v_word : Str) : M Bool := ((((pure v_word) >>= fun x1 => ((pure ("" : Str)) >>= fun x2 => pure (decide (x1 = x2)))) >>= fun x9 => if x9 = true then pure true else (((((pure v_word) >>= fun x3 => pure (x3.cps.toList.map Ch.mk)) >>= fun xs6 => lcM (fun (v_sign : Ch) => pure true) (fun (v_sign : Ch) => ((pure v_sign) >>= fun x4 => ((pure ("0123456789" : Str)) >>= fun x5 => pure (decide (x4.c ∈ x5.cps.toList))))) xs6) >>= fun a7 => pure (a7.all id)) >>= fun x8 => pure (!x8))) >>= fun c10 => if c10 = true then pure false else (((pure v_word) >>= fun x11 => ((pure ("0" : Str)) >>= fun x12 => pure (decide (x11 = x12)))) >>= fun x20 => if x20 = true then pure true else ((((pure v_word) >>= fun x13 => ((pure (0 : Int)) >>= fun x14 => ixS x13 x14)) >>= fun x17 => pure (Ch.s x17)) >>= fun x18 => ((pure ("0" : Str)) >>= fun x19 => pure (!decide (x18 = x19))))))
noncomputable def m_is_plain (v_word : Str) : Res Bool := M.run (B_is_plain v_word)
abbrev sp_is_plain (K : PySem.W.Frag) : Sp := spG K fun (i : Str × Unit) => m_is_plain i.1
theorem ok_is_plain (F : FnP K "is_plain" s_is_plain f fd) (T : TT P w K mg base)  : FnOk P w K mg base (CXL P w) 1 f fd ["word"] (sp_is_plain K) := by
  refine F.ok sc_is_plain (fun vs H Q E h => spG_len h (fun _ => rfl)) (fun cdv A outer s H vs Q E hr h => ?_)
  refine ⟨_, (pss_cons (ps_if (PW.pt (pw_or (pt_cmpR op_eq (pv 0) pe_str (nomark _)) (pw_or1 (pt_not (pt_val (pe_callB (cr_allK (K := K) rfl rfl) (by rfl) T.m_all PyProof.Rows.boot_all (pa_cons (pe_lc (own := [("sign", 1)]) (g := gName 1) (tt := tYes) rfl sc_is_plain.nd (pi_str (pv 0)) (blkOk_by (N := ["word", "sign"]) (sc := defScope s_is_plain) (by decide +kernel)) (fun _ _ _ _ _ => pg_name (i := 1) sc_is_plain.nd rfl (Or.inl rfl)) (fun _ _ _ _ _ => pts_nil) (fun _ _ _ _ _ => (pe_cmpR op_in_sign (pv 1) (pe_glob (v := .str "0123456789") (by rfl) T.g_DIGITS.choose_spec.1 T.g_DIGITS.choose_spec.2) rfl))) pa_nil))))))) (pss_one (ps_ret pe_bl)) pss_nil) (pss_one (ps_ret (pe_or (pe_cmpR op_eq (pv 0) pe_str (nomark _)) (pe_one (pe_cmpR op_ne (pe_ix ix_str (pv 0) pe_int (fun _ _ => rfl)) pe_str (nomark _))))))), ?_⟩
  refine fn_rd (n := 1) (mb := fun i => B_is_plain i.1) h (fun i => by show m_is_plain i.1 = M.run (B_is_plain i.1); unfold m_is_plain; rfl) (fun _ => rfl) (fun i => ?_)
  obtain ⟨v_word, _⟩ := i
  show Rd K _ _ _ [.val (d v_word), .any] (B_is_plain v_word)
  unfold B_is_plain
  exact (rd_if (et_or (et_test (ev_op om_eqS (ev_var (i := 0) (a := v_word)) ev_str)) (et_not (et_val (ev_cb' cm_all (ec_cons (ev_lc (ei_up (ei_str (ev_var (i := 0) (a := v_word)))) tg_name (fun (v_sign : Ch) => et_yes) (fun (v_sign : Ch) => (ev_op om_inCh (ev_var (i := 1) (a := v_sign)) ev_str))) ec_nil))))) (rd_rets ev_bl) (rd_skip (rd_nil (rd_rets (ev_or (ev_op om_eqS (ev_var (i := 0) (a := v_word)) ev_str) (ev_op om_neS (ev_as (α := Ch) (β := Str) (f := fun x => (Ch.s x)) (ev_op om_ixS (ev_var (i := 0) (a := v_word)) ev_int) (fun _ => rfl)) ev_str))))))
theorem sc_read_ratio : FnScope ["text", "words", "numbers", "sign", "found", "word"] (["text"] : List Str) (defScope s_read_ratio) := ⟨rfl, rfl, rfl, by decide +kernel, rfl, by decide +kernel, by decide +kernel⟩
noncomputable def B_read_ratio (v_text : Str) : M Rt := ((((pure v_text) >>= fun x1 => pure ((fun (_ : Str) => true) x1)) >>= fun x2 => pure (!x2)) >>= fun c3 => if c3 = true then ((pure v_text) >>= fun x4 => M.raise "BadText" [("given", d x4)]) else ((((pure v_text) >>= fun x5 => ((pure ("-" : Str)) >>= fun x6 => pure (Txt.startswith x5 x6))) >>= fun x15 => if x15 = true then (((pure v_text) >>= fun x8 => (((pure (1 : Int)) >>= fun x7 => pure (some x7)) >>= fun x9 => ((pure none) >>= fun x10 => slS x8 x9 x10))) >>= fun x11 => ((pure ("/" : Str)) >>= fun x12 => splitM x11 x12)) else ((pure v_text) >>= fun x13 => ((pure ("/" : Str)) >>= fun x14 => splitM x13 x14))) >>= fun v_words => (((((pure v_words) >>= fun a16 => pure (a16.length : Int)) >>= fun x17 => ((pure (2 : Int)) >>= fun x18 => pure (decide (x17 > x18)))) >>= fun x33 => if x33 = true then pure true else (((((pure v_words) >>= fun xs20 => lcM (fun (v_word : Str) => pure true) (fun (v_word : Str) => ((pure v_word) >>= fun a19 => lft (m_is_plain a19))) xs20) >>= fun a21 => pure (a21.all id)) >>= fun x22 => pure (!x22)) >>= fun x32 => if x32 = true then pure true else ((((pure v_words) >>= fun x24 => (((pure (1 : Int)) >>= fun x23 => pure (-x23)) >>= fun x25 => getM x24 x25)) >>= fun x26 => ((pure ("0" : Str)) >>= fun x27 => pure (decide (x26 = x27)))) >>= fun x31 => if x31 = true then (((pure v_words) >>= fun a28 => pure (a28.length : Int)) >>= fun x29 => ((pure (2 : Int)) >>= fun x30 => pure (decide (x29 = x30)))) else pure false))) >>= fun c34 => if c34 = true then ((pure v_text) >>= fun x35 => M.raise "BadText" [("given", d x35)]) else (((pure v_words) >>= fun xs37 => lcM (fun (v_word : Str) => pure true) (fun (v_word : Str) => ((pure v_word) >>= fun a36 => intM a36)) xs37) >>= fun v_numbers => ((((pure v_text) >>= fun x38 => ((pure ("-" : Str)) >>= fun x39 => pure (Txt.startswith x38 x39))) >>= fun x41 => if x41 = true then ((pure (1 : Int)) >>= fun x40 => pure (-x40)) else pure (1 : Int)) >>= fun v_sign => ((((pure v_sign) >>= fun x44 => (((pure v_numbers) >>= fun x42 => ((pure (0 : Int)) >>= fun x43 => getM x42 x43)) >>= fun x45 => mulM x44 x45)) >>= fun a52 => (((((pure v_numbers) >>= fun a46 => pure (a46.length : Int)) >>= fun x47 => ((pure (2 : Int)) >>= fun x48 => pure (decide (x47 = x48)))) >>= fun x51 => if x51 = true then ((pure v_numbers) >>= fun x49 => ((pure (1 : Int)) >>= fun x50 => getM x49 x50)) else pure (1 : Int)) >>= fun a53 => lft (newRt a52 a53))) >>= fun v_found => ((((pure v_found) >>= fun x54 => strict (lft (m_Ratio_text x54))) >>= fun x55 => ((pure v_text) >>= fun x56 => pure (!decide (x55 = x56)))) >>= fun c57 => if c57 = true then ((pure v_text) >>= fun x58 => M.raise "BadText" [("given", d x58)]) else pure v_found)))))))
noncomputable def B2_read_ratio (v_text : D) : M Rt := ((((pure v_text) >>= fun x1 => ((need (KnownD ["Ratio"] x1)) >>= fun _ => pure (isStrB x1))) >>= fun x2 => pure (!x2)) >>= fun c => if c = true then ((pure v_text) >>= fun x3 => M.raise "BadText" [("given", d x3)]) else M.stuck)
noncomputable def m_read_ratio (v_text : D) : Res Rt := M.run (match toStr v_text with | some a => B_read_ratio a | none => B2_read_ratio v_text)
abbrev sp_read_ratio (K : PySem.W.Frag) : Sp := spG K fun (i : D × Unit) => m_read_ratio i.1
theorem ok_read_ratio (F : FnP K "read_ratio" s_read_ratio f fd) (T : TT P w K mg base) (c_is_plain : Cal P w K mg base "is_plain" ["word"] 1 (sp_is_plain K)) (k2_Ratio : KCal P w K mg base "Ratio" (He.ga K "Ratio") ["self", "top", "bottom"] 3 (sp_Ratio___init__ K) []) (m_Ratio_text : MCal P w K mg base (He.ga K "Ratio") "text" ["self"] 4 (sp_Ratio_text K)) : FnOk P w K mg base (CXL P w) 5 f fd ["text"] (sp_read_ratio K) := by
  refine F.ok sc_read_ratio (fun vs H Q E h => spG_len h (fun _ => rfl)) (fun cdv A outer s H vs Q E hr h => ?_)
  refine ⟨_, (pss_cons (ps_if (pt_not (pt_val (pe_callB (call_isiK' (K := K) rfl) (by rfl) T.m_isinstance PyProof.Rows.boot_isinstance (pa_cons (pv 0) (pa_cons (pe_bltn (v := .ty "str") (by rfl) T.m_str (by decide +kernel) rfl) pa_nil))))) (pss_one (ps_raiseE rfl takes_cx T.e_BadText (hr.mono (by decide)) (by rfl) (pv 0))) pss_nil) (pss_cons (ps_set (i := 1) sc_read_ratio.nd rfl (Or.inl rfl) (pe_ifExp (pt_val (pe_m1 PySem.F.slot_str_startswith PySem.F.type_str_startswith mt_startswith (pv 0) pe_str)) (pe_split (pe_slice sl_str (pv 0) (po_some pe_int) po_none) pe_str) (pe_split (pv 0) pe_str))) (pss_cons (ps_if (PW.pt (pw_or (pt_cmpR op_gt (pe_callB (call_len_seqK (K := K) rfl) (by rfl) T.m_len PySem.boot_len (pa_cons (pv 1) pa_nil)) pe_int (nomark _)) (pw_or (pt_not (pt_val (pe_callB (cr_allK (K := K) rfl rfl) (by rfl) T.m_all PyProof.Rows.boot_all (pa_cons (pe_lc (own := [("word", 5)]) (g := gName 5) (tt := tYes) rfl sc_read_ratio.nd (pi_listK (K := K) rfl (pv 1)) (blkOk_by (N := ["text", "words", "numbers", "sign", "found", "word"]) (sc := defScope s_read_ratio) (by decide +kernel)) (fun _ _ _ _ _ => pg_name (i := 5) sc_read_ratio.nd rfl (Or.inl rfl)) (fun _ _ _ _ _ => pts_nil) (fun _ _ _ _ _ => (pe_calS takesF c_is_plain (hr.mono (by decide)) (by rfl) (pa_cons (pv 5) pa_nil)))) pa_nil)))) (pw_or1 (PW.pt (pw_and (pt_cmpR op_eq (pe_ix (ix_listK (K := K) rfl) (pv 1) (pe_un un_neg pe_int) (fun _ _ => rfl)) pe_str (nomark _)) (pw_and1 (pt_cmpR op_eq (pe_callB (call_len_seqK (K := K) rfl) (by rfl) T.m_len PySem.boot_len (pa_cons (pv 1) pa_nil)) pe_int (nomark _))))))))) (pss_one (ps_raiseE rfl takes_cx T.e_BadText (hr.mono (by decide)) (by rfl) (pv 0))) pss_nil) (pss_cons (ps_setLc (i := 2) (own := [("word", 5)]) (g := gName 5) (tt := tYes) rfl sc_read_ratio.nd rfl rfl (sw_true rfl rfl rfl (by decide +kernel)) (pi_listK (K := K) rfl (pv 1)) (blkOk_by (N := ["text", "words", "numbers", "sign", "found", "word"]) (sc := defScope s_read_ratio) (by decide +kernel)) (fun _ _ _ _ _ => pg_name (i := 5) sc_read_ratio.nd rfl (Or.inl rfl)) (fun _ _ _ _ _ => pts_nil) (fun _ _ _ _ _ => (pe_callTy call_int_str (by rfl) T.m_int (by decide +kernel) (pa_cons (pv 5) pa_nil)))) (pss_cons (ps_set (i := 3) sc_read_ratio.nd rfl (Or.inl rfl) (pe_ifExp (pt_val (pe_m1 PySem.F.slot_str_startswith PySem.F.type_str_startswith mt_startswith (pv 0) pe_str)) (pe_un un_neg pe_int) pe_int)) (pss_cons (ps_set (i := 4) sc_read_ratio.nd rfl (Or.inl rfl) (pe_kcalS takes_cx k2_Ratio (hr.mono (by decide)) (by rfl) (pa_cons (pe_op op_mulW (pv 3) (pe_ix (ix_listK (K := K) rfl) (pv 2) pe_int (fun _ _ => rfl))) (pa_cons (pe_ifExp (pt_cmpR op_eq (pe_callB (call_len_seqK (K := K) rfl) (by rfl) T.m_len PySem.boot_len (pa_cons (pv 2) pa_nil)) pe_int (nomark _)) (pe_ix (ix_listK (K := K) rfl) (pv 2) pe_int (fun _ _ => rfl)) pe_int) pa_nil)))) (pss_cons (ps_if (pt_cmpR op_ne (pe_mcal0 m_Ratio_text T.cl_Ratio (hr.mono (by decide)) (pv 4)) (pv 0) (nomark _)) (pss_one (ps_raiseE rfl takes_cx T.e_BadText (hr.mono (by decide)) (by rfl) (pv 0))) pss_nil) (pss_one (ps_ret (pv 4)))))))))), ?_⟩
  refine fn_rd (n := 5) (mb := fun i => match toStr i.1 with | some a => B_read_ratio a | none => B2_read_ratio i.1) h (fun i => by show m_read_ratio i.1 = M.run (match toStr i.1 with | some a => B_read_ratio a | none => B2_read_ratio i.1); unfold m_read_ratio; rfl) (fun _ => rfl) (fun i => ?_)
  obtain ⟨v_text, _⟩ := i
  show Rd K _ _ _ [.val (d v_text), .any, .any, .any, .any, .any] (match toStr v_text with | some a => B_read_ratio a | none => B2_read_ratio v_text)
  cases hto : toStr v_text with
  | some b =>
    rw [toStr_eq hto]
    clear hto
    revert b
    intro v_text
    show Rd K _ _ _ [.val (d v_text), .any, .any, .any, .any, .any] (B_read_ratio v_text)
    unfold B_read_ratio
    exact (rd_if (et_not (et_val (ev_isi (bf := fun x => (fun (_ : Str) => true) x) T.insc (ClsV.ty _) (fun _ => trivial) (fun _ => kit_tt) (ev_var (i := 0) (a := v_text))))) (rd_raise (c := "BadText") (fld := "given") rfl (ev_var (i := 0) (a := v_text))) (rd_skip (rd_set (ev_if (et_val (ev_m1 mm_starts (ev_var (i := 0) (a := v_text)) ev_str)) (ev_m1 mm_split (ev_sl sm_str (ev_var (i := 0) (a := v_text)) (eo_some ev_int) eo_none) ev_str) (ev_m1 mm_split (ev_var (i := 0) (a := v_text)) ev_str)) (fun (v_words : (List Str)) => (rd_if (et_or (et_test (ev_op om_gtI (ev_cb' cm_lenL (ec_cons (ev_var (i := 1) (a := v_words)) ec_nil)) ev_int)) (et_or (et_not (et_val (ev_cb' cm_all (ec_cons (ev_lc (ei_up (ei_list (ev_var (i := 1) (a := v_words)))) tg_name (fun (v_word : Str) => et_yes) (fun (v_word : Str) => (ev_call' (ec_cons (ev_var (i := 5) (a := v_word)) ec_nil)))) ec_nil)))) (et_and (et_test (ev_op om_eqS (ev_op om_ixL (ev_var (i := 1) (a := v_words)) (ev_un um_neg ev_int)) ev_str)) (et_test (ev_op om_eqI (ev_cb' cm_lenL (ec_cons (ev_var (i := 1) (a := v_words)) ec_nil)) ev_int))))) (rd_raise (c := "BadText") (fld := "given") rfl (ev_var (i := 0) (a := v_text))) (rd_skip (rd_set (ev_lc (ei_up (ei_list (ev_var (i := 1) (a := v_words)))) tg_name (fun (v_word : Str) => et_yes) (fun (v_word : Str) => (ev_cb' cm_intS (ec_cons (ev_var (i := 5) (a := v_word)) ec_nil)))) (fun (v_numbers : (List Int)) => (rd_set (ev_if (et_val (ev_m1 mm_starts (ev_var (i := 0) (a := v_text)) ev_str)) (ev_un um_neg ev_int) ev_int) (fun (v_sign : Int) => (rd_set (mk2_Ratio (ec_cons (ev_op om_mulW (ev_var (i := 3) (a := v_sign)) (ev_op om_ixL (ev_var (i := 2) (a := v_numbers)) ev_int)) (ec_cons (ev_if (et_test (ev_op om_eqI (ev_cb' cm_lenL (ec_cons (ev_var (i := 2) (a := v_numbers)) ec_nil)) ev_int)) (ev_op om_ixL (ev_var (i := 2) (a := v_numbers)) ev_int) ev_int) ec_nil))) (fun (v_found : Rt) => (rd_if (et_test (ev_op om_neS (ev_meth0 rfl (ev_var (i := 4) (a := v_found))) (ev_var (i := 0) (a := v_text)))) (rd_raise (c := "BadText") (fld := "given") rfl (ev_var (i := 0) (a := v_text))) (rd_skip (rd_nil (rd_rets (ev_var (i := 4) (a := v_found))))))))))))))))))
  | none =>
    show Rd K _ _ _ [.val (d v_text), .any, .any, .any, .any, .any] (B2_read_ratio v_text)
    unfold B2_read_ratio
    exact (rd_if (et_not (et_val (ev_isiD (bf := fun x => isStrB x) T.insc (ClsV.ty _) (isi_str T.kR_str) (ev_var (i := 0) (a := v_text))))) (rd_raise (c := "BadText") (fld := "given") rfl (ev_var (i := 0) (a := v_text))) (rd_skip rd_stuck))
theorem sc_total : FnScope ["numbers", "found", "number"] (["numbers"] : List Str) (defScope s_total) := ⟨rfl, rfl, rfl, by decide +kernel, rfl, by decide +kernel, by decide +kernel⟩
noncomputable def B_total (v_numbers : (Sq Nm)) : M Rt := (((pure (0 : Int)) >>= fun a1 => lft (newRt1 a1)) >>= fun v_found => ((pure v_numbers.xs) >>= fun xs3 => ((foldM (fun (v_number : Nm) (s2 : Rt) => (((pure s2) >>= fun x4 => ((pure v_number) >>= fun x5 => strict (lft (m_Ratio___add__ x4 x5)))) >>= fun v_found => pure v_found)) xs3 v_found) >>= fun s2 => pure s2)))
noncomputable def m_total (v_numbers : (Sq Nm)) : Res Rt := M.run (B_total v_numbers)
abbrev sp_total (K : PySem.W.Frag) : Sp := spG K fun (i : (Sq Nm) × Unit) => m_total i.1
theorem ok_total (F : FnP K "total" s_total f fd) (T : TT P w K mg base) (k1_Ratio : KCal P w K mg base "Ratio" (He.ga K "Ratio") ["self", "top", "bottom"] 3 (sp_Ratio___init__ K) [.int 1]) (m_Ratio___add__ : MCal P w K mg base (He.ga K "Ratio") "__add__" ["self", "other"] 5 (sp_Ratio___add__ K)) : FnOk P w K mg base (CXL P w) 6 f fd ["numbers"] (sp_total K) := by
  refine F.ok sc_total (fun vs H Q E h => spG_len h (fun _ => rfl)) (fun cdv A outer s H vs Q E hr h => ?_)
  refine ⟨_, (pss_cons (ps_set (i := 1) sc_total.nd rfl (Or.inl rfl) (pe_kcalS takes_cx k1_Ratio (hr.mono (by decide)) (by rfl) (pa_cons pe_int pa_nil))) (pss_cons (ps_for passes_cx rfl (pi_or (pi_listK (K := K) rfl (pv 0)) (pi_tupK (K := K) rfl (pv 0))) (pg_name (i := 2) sc_total.nd rfl (Or.inl rfl)) (pss_one (ps_set (i := 1) sc_total.nd rfl (Or.inl rfl) (pe_op (nr_addK (K := K) rfl T.ops m_Ratio___add__ (hr.mono (by decide))) (pv 1) (pv 2))))) (pss_one (ps_ret (pv 1))))), ?_⟩
  refine fn_rd (n := 2) (mb := fun i => B_total i.1) h (fun i => by show m_total i.1 = M.run (B_total i.1); unfold m_total; rfl) (fun _ => rfl) (fun i => ?_)
  obtain ⟨v_numbers, _⟩ := i
  show Rd K _ _ _ [.val (d v_numbers), .any, .any] (B_total v_numbers)
  unfold B_total
  exact (rd_set (mk1_Ratio (ec_cons ev_int ec_nil)) (fun (v_found : Rt) => (rd_fold (S := Rt) (Γn := fun s2 => [.val (d v_numbers), .val (d s2), .any]) (s0 := v_found) (.eq (.eq (.any .nil))) (ei_sq (i := 0) (q := v_numbers)) tg_name (fun _ => up1) (fun (v_number : Nm) s2 => (rd_nil (rd_set (ev_op om_ownN (ev_var (i := 1) (a := s2)) (ev_var (i := 2) (a := v_number))) (fun (v_found : Rt) => (rd_next (s := v_found) (.eq (.eq (.any .nil)))))))) (fun s2 => (rd_nil (rd_rets (ev_var (i := 1) (a := s2))))))))
theorem sc_greatest : FnScope ["numbers", "found", "number"] (["numbers"] : List Str) (defScope s_greatest) := ⟨rfl, rfl, rfl, by decide +kernel, rfl, by decide +kernel, by decide +kernel⟩
noncomputable def B_greatest (v_numbers : (Sq Nm)) : M Rt := (((((pure v_numbers) >>= fun x1 => ((pure (0 : Int)) >>= fun x2 => getM x1.xs x2)) >>= fun x3 => pure ((d x3 : D))) >>= fun a4 => lft (m_as_ratio a4)) >>= fun v_found => ((pure v_numbers.xs) >>= fun xs6 => ((foldM (fun (v_number : Nm) (s5 : Rt) => (((pure s5) >>= fun x8 => ((pure v_number) >>= fun a7 => lft (m_Ratio_below x8 a7))) >>= fun c9 => ((if c9 = true then ((((pure v_number) >>= fun x11 => pure ((d x11 : D))) >>= fun a12 => lft (m_as_ratio a12)) >>= fun v_found => pure v_found) else pure s5) >>= fun s10 => pure s10))) xs6 v_found) >>= fun s5 => pure s5)))
noncomputable def m_greatest (v_numbers : (Sq Nm)) : Res Rt := M.run (B_greatest v_numbers)
abbrev sp_greatest (K : PySem.W.Frag) : Sp := spG K fun (i : (Sq Nm) × Unit) => m_greatest i.1
theorem ok_greatest (F : FnP K "greatest" s_greatest f fd) (T : TT P w K mg base) (c_as_ratio : Cal P w K mg base "as_ratio" ["value"] 5 (sp_as_ratio K)) (m_Ratio_below : MCal P w K mg base (He.ga K "Ratio") "below" ["self", "number"] 2 (sp_Ratio_below K)) : FnOk P w K mg base (CXL P w) 6 f fd ["numbers"] (sp_greatest K) := by
  refine F.ok sc_greatest (fun vs H Q E h => spG_len h (fun _ => rfl)) (fun cdv A outer s H vs Q E hr h => ?_)
  refine ⟨_, (pss_cons (ps_set (i := 1) sc_greatest.nd rfl (Or.inl rfl) (pe_calS takes_cx c_as_ratio (hr.mono (by decide)) (by rfl) (pa_cons (pe_ix (ix_seqK (K := K) rfl) (pv 0) pe_int (fun _ _ => rfl)) pa_nil))) (pss_cons (ps_for passes_cx rfl (pi_or (pi_listK (K := K) rfl (pv 0)) (pi_tupK (K := K) rfl (pv 0))) (pg_name (i := 2) sc_greatest.nd rfl (Or.inl rfl)) (pss_one (ps_if (pt_val (pe_mcalS takes_cx m_Ratio_below T.cl_Ratio (hr.mono (by decide)) (pv 1) (pa_cons (pv 2) pa_nil))) (pss_one (ps_set (i := 1) sc_greatest.nd rfl (Or.inl rfl) (pe_calS takes_cx c_as_ratio (hr.mono (by decide)) (by rfl) (pa_cons (pv 2) pa_nil)))) pss_nil))) (pss_one (ps_ret (pv 1))))), ?_⟩
  refine fn_rd (n := 2) (mb := fun i => B_greatest i.1) h (fun i => by show m_greatest i.1 = M.run (B_greatest i.1); unfold m_greatest; rfl) (fun _ => rfl) (fun i => ?_)
  obtain ⟨v_numbers, _⟩ := i
  show Rd K _ _ _ [.val (d v_numbers), .any, .any] (B_greatest v_numbers)
  unfold B_greatest
  exact (rd_set (ev_call' (ec_cons (ev_as (α := Nm) (β := D) (f := fun x => ((d x : D))) (ev_op om_ixQ (ev_var (i := 0) (a := v_numbers)) ev_int) (fun _ => rfl)) ec_nil)) (fun (v_found : Rt) => (rd_fold (S := Rt) (Γn := fun s5 => [.val (d v_numbers), .val (d s5), .any]) (s0 := v_found) (.eq (.eq (.any .nil))) (ei_sq (i := 0) (q := v_numbers)) tg_name (fun _ => up1) (fun (v_number : Nm) s5 => (rd_nil (rd_join (S := Rt) (Γn := fun s10 => [.val (d v_numbers), .val (d s10), .val (d v_number)]) (et_val (ev_meth' rfl (ev_var (i := 1) (a := s5)) (ec_cons (ev_var (i := 2) (a := v_number)) ec_nil))) (rd_nil (rd_set (ev_call' (ec_cons (ev_as (α := Nm) (β := D) (f := fun x => ((d x : D))) (ev_var (i := 2) (a := v_number)) (fun _ => rfl)) ec_nil)) (fun (v_found : Rt) => (rd_next (s := v_found) (.eq (.eq (.eq .nil))))))) (rd_next (s := s5) (.eq (.eq (.eq .nil)))) (fun s10 => (rd_next (s := s10) (.eq (.eq (.any .nil)))))))) (fun s5 => (rd_nil (rd_rets (ev_var (i := 1) (a := s5))))))))
theorem sc_least : FnScope ["numbers", "number"] (["numbers"] : List Str) (defScope s_least) := ⟨rfl, rfl, rfl, by decide +kernel, rfl, by decide +kernel, by decide +kernel⟩
noncomputable def B_least (v_numbers : (Sq Nm)) : M Rt := (((((pure v_numbers.xs) >>= fun xs2 => lcM (fun (v_number : Nm) => pure true) (fun (v_number : Nm) => ((pure v_number) >>= fun x1 => negN m_Ratio___neg__ x1)) xs2) >>= fun x3 => pure (Sq.l x3)) >>= fun a4 => lft (m_greatest a4)) >>= fun x5 => strict (lft (m_Ratio___neg__ x5)))
noncomputable def m_least (v_numbers : (Sq Nm)) : Res Rt := M.run (B_least v_numbers)
abbrev sp_least (K : PySem.W.Frag) : Sp := spG K fun (i : (Sq Nm) × Unit) => m_least i.1
theorem ok_least (F : FnP K "least" s_least f fd) (T : TT P w K mg base) (c_greatest : Cal P w K mg base "greatest" ["numbers"] 6 (sp_greatest K)) (m_Ratio___neg__ : MCal P w K mg base (He.ga K "Ratio") "__neg__" ["self"] 5 (sp_Ratio___neg__ K)) : FnOk P w K mg base (CXL P w) 7 f fd ["numbers"] (sp_least K) := by
  refine F.ok sc_least (fun vs H Q E h => spG_len h (fun _ => rfl)) (fun cdv A outer s H vs Q E hr h => ?_)
  refine ⟨_, (pss_one (ps_ret (pe_un (nr_negK (K := K) rfl m_Ratio___neg__ (hr.mono (by decide))) (pe_calS takes_cx c_greatest (hr.mono (by decide)) (by rfl) (pa_cons (pe_lc (own := [("number", 1)]) (g := gName 1) (tt := tYes) rfl sc_least.nd (pi_or (pi_listK (K := K) rfl (pv 0)) (pi_tupK (K := K) rfl (pv 0))) (blkOk_by (N := ["numbers", "number"]) (sc := defScope s_least) (by decide +kernel)) (fun _ _ _ _ _ => pg_name (i := 1) sc_least.nd rfl (Or.inl rfl)) (fun _ _ _ _ _ => pts_nil) (fun _ _ _ _ _ => (pe_un (un_or un_neg (nr_negK (K := K) rfl m_Ratio___neg__ (hr.mono (by decide)))) (pv 1)))) pa_nil))))), ?_⟩
  refine fn_rd (n := 1) (mb := fun i => B_least i.1) h (fun i => by show m_least i.1 = M.run (B_least i.1); unfold m_least; rfl) (fun _ => rfl) (fun i => ?_)
  obtain ⟨v_numbers, _⟩ := i
  show Rd K _ _ _ [.val (d v_numbers), .any] (B_least v_numbers)
  unfold B_least
  exact (rd_nil (rd_rets (ev_un (um_own rfl) (ev_call' (ec_cons (ev_as (α := (List Nm)) (β := (Sq Nm)) (f := fun x => (Sq.l x)) (ev_lc (ei_up (ei_sq (i := 0) (q := v_numbers))) tg_name (fun (v_number : Nm) => et_yes) (fun (v_number : Nm) => (ev_un um_negN (ev_var (i := 1) (a := v_number))))) (fun _ => rfl)) ec_nil)))))
end
end K03


set_option Elab.async false
set_option linter.all false
set_option maxRecDepth 100000
set_option maxHeartbeats 4000000
namespace K03
open PySem PySem.Spec PyProof.Rows L2 J N
open M
open ToD (d)
open ToDs (ds)
section
variable {P : Program} {w : World} {K : PySem.W.Frag} {mg : Str → Option Value} {base : Heap} {f : Addr} {fd : FuncData}
noncomputable def m__law_take (m : Int) : M Int := takeM m
theorem scTake : FnScope ["_law_box_here", "_law_many", "_law_digit", "_law_mixed"] ["_law_box_here", "_law_many"] (defScope s__law_take) := ⟨rfl, rfl, rfl, by decide +kernel, rfl, by decide +kernel, by decide +kernel⟩
theorem ok__law_take (F : FnP K "_law_take" s__law_take f fd) (T : TT P w K mg base) : FnOk P w K mg base (CXL P w) 1 f fd ["_law_box_here", "_law_many"] (spB K fun (i : Int × Unit) => m__law_take i.1) := by
  refine F.ok scTake (fun vs H Q E h => spB_len h (fun _ => rfl)) (fun cdv A outer s H vs Q E hr h => ?_)
  obtain ⟨⟨m, _⟩, G, ⟨a, b, c⟩, p, ws, rfl, sg, B, rs, hf⟩ := h
  obtain ⟨v, rfl, r⟩ := reps1 rs
  cases rep_int r
  obtain ⟨gp, hp⟩ := B p rfl
  have hp : H p = some (.lst [.int a, .int b, .int c]) := hp
  have hf : FinB K (some p) G H Q E (takeM m (a, b, c)) := hf
  have k1 : 0 < a → (0 < m ∧ m.natAbs.log2 < 9000) ∧ takeM m (a, b, c) = ((a / m, b, c), .ok (a % m)) := fun h => by
    unfold takeM at hf ⊢
    dsimp only at hf ⊢
    rw [if_pos h] at hf ⊢
    by_cases z : 0 < m ∧ m.natAbs.log2 < 9000
    · exact ⟨z, if_pos z⟩
    · rw [if_neg z] at hf; exact False.elim hf
  have k2 : ¬ 0 < a → (0 < m ∧ 0 ≤ b ∧ b < 4294967296 ∧ 0 ≤ c ∧ c < 1000000) ∧ takeM m (a, b, c) = ((a, b, c + 1), .ok (mixV b (c + 1) % m)) := fun h => by
    unfold takeM at hf ⊢
    dsimp only at hf ⊢
    rw [if_neg h] at hf ⊢
    by_cases z : 0 < m ∧ 0 ≤ b ∧ b < 4294967296 ∧ 0 ≤ c ∧ c < 1000000
    · exact ⟨z, if_pos z⟩
    · rw [if_neg z] at hf; exact False.elim hf
  have fin : ∀ (r : Int) (b' : Bx) (H' : Hp), takeM m (a, b, c) = (b', .ok r) → H' p = some (.lst [.int b'.1, .int b'.2.1, .int b'.2.2]) → (∀ z, z ≠ p → H' z = H z) → Q (.int r) H' := by
    intro r b' H' e hp' hk
    rw [e] at hf
    refine hf (.int r) G H' ⟨Same.refl _, fun z o hz => ?_, fun z o nx hz => ?_, fun z o _ _ g => g⟩ (fun z hz => ?_) (.int r)
    · rw [hk z (fun e => by rw [e, gp] at hz; cases hz)]; exact sg z o hz
    · rw [hk z (fun e => nx (by rw [e]))]; exact hz
    · cases hz; exact ⟨gp, hp'⟩
  clear hf
  refine ⟨_, PSs.nox (pss_cons (ps_if (pt_cmpR op_gt (pe_ix ix_list (pv 0) pe_int (fun _ _ => rfl)) pe_int (nomark _))
      (pss_cons (ps_set (i := 2) scTake.nd rfl (Or.inl rfl) (pe_op op_mod (pe_callTy call_int1 (by rfl) T.m_int (by decide +kernel) (pa_cons (pe_ix ix_list (pv 0) pe_int (fun _ _ => rfl)) pa_nil)) (pv 1)))
      (pss_cons (ps_asg (pe_op op_fdivW (pe_ix ix_list (pv 0) pe_int (fun _ _ => rfl)) (pv 1)) (pg_sub (pv 0) pe_int set_list))
      (pss_one (ps_ret (pv 2))))) pss_nil)
    (pss_cons (ps_asg (pe_op op_add (pe_ix ix_list (pv 0) pe_int (fun _ _ => rfl)) pe_int) (pg_sub (pv 0) pe_int set_list))
    (pss_cons (ps_set (i := 3) scTake.nd rfl (Or.inl rfl) (pe_op op_mod (pe_op op_pow (pe_callTy call_int1 (by rfl) T.m_int (by decide +kernel) (pa_cons
        (pe_op op_add (pe_op op_add (pe_ix ix_list (pv 0) pe_int (fun _ _ => rfl)) (pe_op op_mul pe_int (pe_ix ix_list (pv 0) pe_int (fun _ _ => rfl)))) pe_int) pa_nil)) pe_int) pe_int))
    (pss_cons (ps_set (i := 3) scTake.nd rfl (Or.inl rfl) (pe_op op_mod (pe_op op_pow (pe_callTy call_int1 (by rfl) T.m_int (by decide +kernel) (pa_cons
        (pe_op op_add (pe_op op_add (pe_op op_fdiv (pv 3) pe_int) (pe_op op_mul pe_int (pe_ix ix_list (pv 0) pe_int (fun _ _ => rfl)))) (pe_ix ix_list (pv 0) pe_int (fun _ _ => rfl))) pa_nil)) pe_int) pe_int))
    (pss_one (ps_ret (pe_op op_mod (pe_op op_fdiv (pv 3) pe_int) (pv 1)))))))), ?_⟩
  refine ⟨_, rfl, p, _, 0, _, rfl, rfl, SqL.of hp, rfl, _, _, rfl, rfl, _, rfl, ?_⟩
  refine ite2 (fun h1 => ?_) (fun h1 => ?_)
  · obtain ⟨⟨hm0, hm1⟩, e⟩ := k1 (of_decide_eq_true h1)
    refine ⟨_, rfl, p, _, 0, _, rfl, rfl, SqL.of hp, rfl, Or.inl ⟨_, rfl, _, rfl, _, _, rfl, rfl, hm0, ?_⟩⟩
    refine ⟨_, rfl, p, _, 0, _, rfl, rfl, SqL.of hp, rfl, _, rfl, _, _, rfl, rfl, ⟨hm0, hm1⟩, _, rfl, p, _, 0, 0, rfl, rfl, hp, rfl, ?_⟩
    exact ⟨_, rfl, fin _ _ _ e upd_same fun z hz => upd_ne hz⟩
  · obtain ⟨⟨hm0, hb0, hb1, hc0, hc1⟩, e⟩ := k2 (fun z => h1 (decide_eq_true z))
    refine ⟨_, rfl, p, _, 2, _, rfl, rfl, SqL.of hp, rfl, _, _, rfl, rfl, _, rfl, p, _, 2, 2, rfl, rfl, hp, rfl, ?_⟩
    have hp2 : upd H p (.lst [.int a, .int b, .int (c + 1)]) p = some (.lst [.int a, .int b, .int (c + 1)]) := upd_same
    refine ⟨_, rfl, p, _, 1, _, rfl, rfl, SqL.of hp2, rfl, _, rfl, p, _, 2, _, rfl, rfl, SqL.of hp2, rfl, _, _, rfl, rfl, Or.inl ⟨by decide, by decide⟩, _, _, rfl, rfl, _, _, rfl, rfl, Or.inl ⟨_, rfl, _, _, rfl, rfl, ⟨by decide, by decide, by omega⟩, _, _, rfl, rfl, (by show (0 : Int) < 2147483647; decide), ?_⟩⟩
    have hx1 : (b + 48271 * (c + 1) + 11) ^ (5 : Int).toNat = (b + 48271 * (c + 1) + 11) ^ 5 := rfl
    have x0 : 0 ≤ (b + 48271 * (c + 1) + 11) ^ (5 : Int).toNat % 2147483647 := Int.emod_nonneg _ (by decide)
    have x1 : (b + 48271 * (c + 1) + 11) ^ (5 : Int).toNat % 2147483647 < 2147483647 := Int.emod_lt_of_pos _ (by decide)
    have y0 := Int.ediv_nonneg x0 (show (0 : Int) ≤ 8 by decide)
    have y1 := Int.ediv_le_self 8 x0
    refine ⟨_, rfl, _, _, rfl, rfl, ⟨by decide, by decide⟩, _, rfl, p, _, 2, _, rfl, rfl, SqL.of hp2, rfl, _, _, rfl, rfl, Or.inl ⟨by decide, by decide⟩, _, _, rfl, rfl, _, rfl, p, _, 1, _, rfl, rfl, SqL.of hp2, rfl, _, _, rfl, rfl, Or.inl ⟨_, rfl, _, _, rfl, rfl, ⟨by decide, by decide, by omega⟩, _, _, rfl, rfl, (by show (0 : Int) < 2147483587; decide), ?_⟩⟩
    refine ⟨_, rfl, _, _, rfl, rfl, ⟨by decide, by decide⟩, _, rfl, _, _, rfl, rfl, hm0, ?_⟩
    exact fin _ _ _ e hp2 fun z hz => upd_ne hz
theorem sc__law_low : FnScope ["_law_top", "_law_bottom", "_law_one", "_law_other"] (["_law_top", "_law_bottom"] : List Str) (defScope s__law_low) := ⟨rfl, rfl, rfl, by decide +kernel, rfl, by decide +kernel, by decide +kernel⟩
noncomputable def B__law_low (v_top : Int) (v_bottom : Int) : M (Int × Int) := (((pure v_top) >>= fun a1 => pure (if a1 < 0 then -a1 else a1)) >>= fun a2 => ((pure v_bottom) >>= fun a3 => (after (whileM (fun (s4 : Int × Int) => ((pure s4.2) >>= fun x5 => ((pure (0 : Int)) >>= fun x6 => pure (!decide (x5 = x6))))) (fun s4 => ((pure s4.2) >>= fun a9 => (((pure s4.1) >>= fun x7 => ((pure s4.2) >>= fun x8 => modM x7 x8)) >>= fun a10 => pure (.nx (a9, a10))))) (v_bottom.natAbs + 2) (a2, a3)) (fun s4 => (((pure v_top) >>= fun x11 => ((pure s4.1) >>= fun x12 => fdivM x11 x12)) >>= fun a15 => (((pure v_bottom) >>= fun x13 => ((pure s4.1) >>= fun x14 => fdivM x13 x14)) >>= fun a16 => pure (a15, a16)))) id)))
noncomputable def m__law_low (v_top : Int) (v_bottom : Int) : Res (Int × Int) := M.run (B__law_low v_top v_bottom)
abbrev sp__law_low (K : PySem.W.Frag) : Sp := spG K fun (i : Int × Int × Unit) => m__law_low i.1 i.2.1
theorem ok__law_low (F : FnP K "_law_low" s__law_low f fd) (T : TT P w K mg base)  : FnOk P w K mg base (CXL P w) 1 f fd ["_law_top", "_law_bottom"] (sp__law_low K) := by
  refine F.ok sc__law_low (fun vs H Q E h => spG_len h (fun _ => rfl)) (fun cdv A outer s H vs Q E hr h => ?_)
  refine ⟨_, (pss_cons (ps_par (i := 2) (j := 3) rfl sc__law_low.nd rfl rfl (by decide) rfl rfl (pa_cons (pe_callB call_abs (by rfl) T.m_abs PyProof.Rows.boot_abs (pa_cons (pv 0) pa_nil)) (pa_cons (pv 1) pa_nil)) rfl) (pss_cons (ps_while passes_cx (pt_cmpR op_ne (pv 3) pe_int (nomark _)) (pss_one (ps_par (i := 2) (j := 3) rfl sc__law_low.nd rfl rfl (by decide) rfl rfl (pa_cons (pv 3) (pa_cons (pe_op op_mod (pv 2) (pv 3)) pa_nil)) rfl))) (pss_one (ps_ret (pe_tup (pa_cons (pe_op op_fdivZ (pv 0) (pv 2)) (pa_cons (pe_op op_fdivZ (pv 1) (pv 2)) pa_nil))))))), ?_⟩
  refine fn_rd (n := 2) (mb := fun i => B__law_low i.1 i.2.1) h (fun i => by show m__law_low i.1 i.2.1 = M.run (B__law_low i.1 i.2.1); unfold m__law_low; rfl) (fun _ => rfl) (fun i => ?_)
  obtain ⟨v_top, v_bottom, _⟩ := i
  show Rd K _ _ _ [.val (d v_top), .val (d v_bottom), .any, .any] (B__law_low v_top v_bottom)
  unfold B__law_low
  exact (rd_par' (ec_cons (ev_cb' cm_absI (ec_cons (ev_var (i := 0) (a := v_top)) ec_nil)) (ec_cons (ev_var (i := 1) (a := v_bottom)) ec_nil)) (fun (a2 : Int) (a3 : Int) => (rd_while (S := Int × Int) (ρ := (Int × Int)) (rk := id) (n := v_bottom.natAbs + 2) (Γn := fun s4 => [.val (d v_top), .val (d v_bottom), .val (d s4.1), .val (d s4.2)]) (s0 := (a2, a3)) (.eq (.eq (.eq (.eq .nil)))) rk_id (fun s4 => (et_test (ev_op om_neI (ev_var (i := 3) (a := s4.2)) ev_int))) (fun s4 => (rd_nil (rd_par' (ec_cons (ev_var (i := 3) (a := s4.2)) (ec_cons (ev_op om_mod (ev_var (i := 2) (a := s4.1)) (ev_var (i := 3) (a := s4.2))) ec_nil)) (fun (a9 : Int) (a10 : Int) => (rd_nx (s := (a9, a10)) (.eq (.eq (.eq (.eq .nil))))))))) (fun s4 => (rd_nil (rd_rets (ev_tup' (ec_cons (ev_op om_fdivZ (ev_var (i := 0) (a := v_top)) (ev_var (i := 2) (a := s4.1))) (ec_cons (ev_op om_fdivZ (ev_var (i := 1) (a := v_bottom)) (ev_var (i := 2) (a := s4.1))) ec_nil)) (fun i => (i.1, i.2.1)))))))))
theorem sc__law_plus : FnScope ["_law_one", "_law_other"] (["_law_one", "_law_other"] : List Str) (defScope s__law_plus) := ⟨rfl, rfl, rfl, by decide +kernel, rfl, by decide +kernel, by decide +kernel⟩
noncomputable def B__law_plus (v_one : (Int × Int)) (v_other : (Int × Int)) : M (Int × Int) := (((((pure v_one) >>= fun x1 => pure x1.1) >>= fun x3 => (((pure v_other) >>= fun x2 => pure x2.2) >>= fun x4 => mulM x3 x4)) >>= fun x9 => ((((pure v_other) >>= fun x5 => pure x5.1) >>= fun x7 => (((pure v_one) >>= fun x6 => pure x6.2) >>= fun x8 => mulM x7 x8)) >>= fun x10 => pure (x9 + x10))) >>= fun a15 => ((((pure v_one) >>= fun x11 => pure x11.2) >>= fun x13 => (((pure v_other) >>= fun x12 => pure x12.2) >>= fun x14 => mulM x13 x14)) >>= fun a16 => lft (m__law_low a15 a16)))
noncomputable def m__law_plus (v_one : (Int × Int)) (v_other : (Int × Int)) : Res (Int × Int) := M.run (B__law_plus v_one v_other)
abbrev sp__law_plus (K : PySem.W.Frag) : Sp := spG K fun (i : (Int × Int) × (Int × Int) × Unit) => m__law_plus i.1 i.2.1
theorem ok__law_plus (F : FnP K "_law_plus" s__law_plus f fd) (T : TT P w K mg base) (c__law_low : Cal P w K mg base "_law_low" ["_law_top", "_law_bottom"] 1 (sp__law_low K)) : FnOk P w K mg base (CXL P w) 2 f fd ["_law_one", "_law_other"] (sp__law_plus K) := by
  refine F.ok sc__law_plus (fun vs H Q E h => spG_len h (fun _ => rfl)) (fun cdv A outer s H vs Q E hr h => ?_)
  refine ⟨_, (pss_one (ps_ret (pe_calS takes_cx c__law_low (hr.mono (by decide)) (by rfl) (pa_cons (pe_op op_add (pe_op op_mulW (pe_ix (ix_tupK (K := K) rfl) (pv 0) pe_int (fun _ _ => rfl)) (pe_ix (ix_tupK (K := K) rfl) (pv 1) pe_int (fun _ _ => rfl))) (pe_op op_mulW (pe_ix (ix_tupK (K := K) rfl) (pv 1) pe_int (fun _ _ => rfl)) (pe_ix (ix_tupK (K := K) rfl) (pv 0) pe_int (fun _ _ => rfl)))) (pa_cons (pe_op op_mulW (pe_ix (ix_tupK (K := K) rfl) (pv 0) pe_int (fun _ _ => rfl)) (pe_ix (ix_tupK (K := K) rfl) (pv 1) pe_int (fun _ _ => rfl))) pa_nil))))), ?_⟩
  refine fn_rd (n := 0) (mb := fun i => B__law_plus i.1 i.2.1) h (fun i => by show m__law_plus i.1 i.2.1 = M.run (B__law_plus i.1 i.2.1); unfold m__law_plus; rfl) (fun _ => rfl) (fun i => ?_)
  obtain ⟨v_one, v_other, _⟩ := i
  show Rd K _ _ _ [.val (d v_one), .val (d v_other)] (B__law_plus v_one v_other)
  unfold B__law_plus
  exact (rd_nil (rd_rets (ev_call' (ec_cons (ev_op om_addI (ev_op om_mulW (ev_ixT (j := 0) (g := fun x => x.1) (ev_var (i := 0) (a := v_one))) (ev_ixT (j := 1) (g := fun x => x.2) (ev_var (i := 1) (a := v_other)))) (ev_op om_mulW (ev_ixT (j := 0) (g := fun x => x.1) (ev_var (i := 1) (a := v_other))) (ev_ixT (j := 1) (g := fun x => x.2) (ev_var (i := 0) (a := v_one))))) (ec_cons (ev_op om_mulW (ev_ixT (j := 1) (g := fun x => x.2) (ev_var (i := 0) (a := v_one))) (ev_ixT (j := 1) (g := fun x => x.2) (ev_var (i := 1) (a := v_other)))) ec_nil)))))
theorem sc__law_less : FnScope ["_law_one", "_law_other"] (["_law_one", "_law_other"] : List Str) (defScope s__law_less) := ⟨rfl, rfl, rfl, by decide +kernel, rfl, by decide +kernel, by decide +kernel⟩
noncomputable def B__law_less (v_one : (Int × Int)) (v_other : (Int × Int)) : M Bool := ((((pure v_one) >>= fun x1 => pure x1.1) >>= fun x3 => (((pure v_other) >>= fun x2 => pure x2.2) >>= fun x4 => mulM x3 x4)) >>= fun x9 => ((((pure v_other) >>= fun x5 => pure x5.1) >>= fun x7 => (((pure v_one) >>= fun x6 => pure x6.2) >>= fun x8 => mulM x7 x8)) >>= fun x10 => pure (decide (x9 < x10))))
noncomputable def m__law_less (v_one : (Int × Int)) (v_other : (Int × Int)) : Res Bool := M.run (B__law_less v_one v_other)
abbrev sp__law_less (K : PySem.W.Frag) : Sp := spG K fun (i : (Int × Int) × (Int × Int) × Unit) => m__law_less i.1 i.2.1
theorem ok__law_less (F : FnP K "_law_less" s__law_less f fd) (T : TT P w K mg base)  : FnOk P w K mg base (CXL P w) 1 f fd ["_law_one", "_law_other"] (sp__law_less K) := by
  refine F.ok sc__law_less (fun vs H Q E h => spG_len h (fun _ => rfl)) (fun cdv A outer s H vs Q E hr h => ?_)
  refine ⟨_, (pss_one (ps_ret (pe_cmpR op_lt (pe_op op_mulW (pe_ix (ix_tupK (K := K) rfl) (pv 0) pe_int (fun _ _ => rfl)) (pe_ix (ix_tupK (K := K) rfl) (pv 1) pe_int (fun _ _ => rfl))) (pe_op op_mulW (pe_ix (ix_tupK (K := K) rfl) (pv 1) pe_int (fun _ _ => rfl)) (pe_ix (ix_tupK (K := K) rfl) (pv 0) pe_int (fun _ _ => rfl))) (nomark _)))), ?_⟩
  refine fn_rd (n := 0) (mb := fun i => B__law_less i.1 i.2.1) h (fun i => by show m__law_less i.1 i.2.1 = M.run (B__law_less i.1 i.2.1); unfold m__law_less; rfl) (fun _ => rfl) (fun i => ?_)
  obtain ⟨v_one, v_other, _⟩ := i
  show Rd K _ _ _ [.val (d v_one), .val (d v_other)] (B__law_less v_one v_other)
  unfold B__law_less
  exact (rd_nil (rd_rets (ev_op om_ltI (ev_op om_mulW (ev_ixT (j := 0) (g := fun x => x.1) (ev_var (i := 0) (a := v_one))) (ev_ixT (j := 1) (g := fun x => x.2) (ev_var (i := 1) (a := v_other)))) (ev_op om_mulW (ev_ixT (j := 0) (g := fun x => x.1) (ev_var (i := 1) (a := v_other))) (ev_ixT (j := 1) (g := fun x => x.2) (ev_var (i := 0) (a := v_one)))))))
theorem sc__law_is : FnScope ["_law_ratio", "_law_pair_here"] (["_law_ratio", "_law_pair_here"] : List Str) (defScope s__law_is) := ⟨rfl, rfl, rfl, by decide +kernel, rfl, by decide +kernel, by decide +kernel⟩
noncomputable def B__law_is (v_ratio : Rt) (v_pair_here : (Int × Int)) : M Bool := (((pure v_ratio) >>= fun x1 => pure ((fun (_ : Rt) => true) x1)) >>= fun x8 => if x8 = true then ((((pure v_ratio) >>= fun x2 => pure x2.n) >>= fun a4 => (((pure v_ratio) >>= fun x3 => pure x3.u) >>= fun a5 => pure (a4, a5))) >>= fun x6 => ((pure v_pair_here) >>= fun x7 => eqD (d x6) (d x7))) else pure false)
noncomputable def m__law_is (v_ratio : Rt) (v_pair_here : (Int × Int)) : Res Bool := M.run (B__law_is v_ratio v_pair_here)
abbrev sp__law_is (K : PySem.W.Frag) : Sp := spG K fun (i : Rt × (Int × Int) × Unit) => m__law_is i.1 i.2.1
theorem ok__law_is (F : FnP K "_law_is" s__law_is f fd) (T : TT P w K mg base) (p_Ratio_top : PCal P w K mg base (He.ga K "Ratio") "top" 1 (getSp (He.ga K "Ratio") "above")) (p_Ratio_bottom : PCal P w K mg base (He.ga K "Ratio") "bottom" 1 (getSp (He.ga K "Ratio") "under")) : FnOk P w K mg base (CXL P w) 3 f fd ["_law_ratio", "_law_pair_here"] (sp__law_is K) := by
  refine F.ok sc__law_is (fun vs H Q E h => spG_len h (fun _ => rfl)) (fun cdv A outer s H vs Q E hr h => ?_)
  have hu64 : (A.deeper (envOfC "_law_is" (defScope s__law_is) s.heap.objs.size f cdv)).units + 64 < cLine := by have := hr.un; omega
  refine ⟨_, (pss_one (ps_ret (pe_and (pe_callB (call_isiK' (K := K) rfl) (by rfl) T.m_isinstance PyProof.Rows.boot_isinstance (pa_cons (pv 0) (pa_cons (pe_glob (v := .ref (He.ga K "Ratio")) (by rfl) T.g_Ratio rfl) pa_nil))) (pe_one (pe_cmpR (op_eqDK (K := K) rfl hu64) (pe_tup (pa_cons (pe_pcal p_Ratio_top T.cl_Ratio (hr.mono (by decide)) (pv 0)) (pa_cons (pe_pcal p_Ratio_bottom T.cl_Ratio (hr.mono (by decide)) (pv 0)) pa_nil))) (pv 1) (nomark _)))))), ?_⟩
  refine fn_rd (n := 0) (mb := fun i => B__law_is i.1 i.2.1) h (fun i => by show m__law_is i.1 i.2.1 = M.run (B__law_is i.1 i.2.1); unfold m__law_is; rfl) (fun _ => rfl) (fun i => ?_)
  obtain ⟨v_ratio, v_pair_here, _⟩ := i
  show Rd K _ _ _ [.val (d v_ratio), .val (d v_pair_here)] (B__law_is v_ratio v_pair_here)
  unfold B__law_is
  exact (rd_nil (rd_rets (ev_and (ev_isi (bf := fun x => (fun (_ : Rt) => true) x) T.insc (ClsV.own _) (fun _ => List.mem_singleton.mpr rfl) (fun _ => kit_self) (ev_var (i := 0) (a := v_ratio))) (ev_op om_eqD (ev_tup' (ec_cons (ev_prop rfl (g := fun x => x.n) (ev_var (i := 0) (a := v_ratio))) (ec_cons (ev_prop rfl (g := fun x => x.u) (ev_var (i := 0) (a := v_ratio))) ec_nil)) (fun i => (i.1, i.2.1))) (ev_var (i := 1) (a := v_pair_here))))))
theorem sc__law_pair : FnScope ["_law_box_here", "_law_size", "_law_top"] (["_law_box_here"] : List Str) (defScope s__law_pair) := ⟨rfl, rfl, rfl, by decide +kernel, rfl, by decide +kernel, by decide +kernel⟩
noncomputable def m__law_pair  : M (Int × Int) := ((((pure (10 : Int)) >>= fun a5 => ((pure (1000 : Int)) >>= fun a6 => (((pure (10 : Int)) >>= fun x1 => ((pure (15 : Int)) >>= fun x2 => powM x1 x2)) >>= fun a7 => (((pure (10 : Int)) >>= fun x3 => ((pure (29 : Int)) >>= fun x4 => powM x3 x4)) >>= fun a8 => pure [a5, a6, a7, a8])))) >>= fun x10 => (((pure (4 : Int)) >>= fun a9 => m__law_take a9) >>= fun x11 => getM x10 x11)) >>= fun v_size => ((((pure v_size) >>= fun a12 => m__law_take a12) >>= fun x21 => ((((pure (1 : Int)) >>= fun a14 => (((pure (1 : Int)) >>= fun x13 => pure (-x13)) >>= fun a15 => ((pure (1 : Int)) >>= fun a16 => ((pure (0 : Int)) >>= fun a17 => pure [a14, a15, a16, a17])))) >>= fun x19 => (((pure (4 : Int)) >>= fun a18 => m__law_take a18) >>= fun x20 => getM x19 x20)) >>= fun x22 => mulM x21 x22)) >>= fun v_top => ((pure v_top) >>= fun a35 => (((pure (1 : Int)) >>= fun x33 => (((((pure (1 : Int)) >>= fun a25 => ((pure (9 : Int)) >>= fun a26 => ((pure (1000 : Int)) >>= fun a27 => (((pure (10 : Int)) >>= fun x23 => ((pure (29 : Int)) >>= fun x24 => powM x23 x24)) >>= fun a28 => pure [a25, a26, a27, a28])))) >>= fun x30 => (((pure (4 : Int)) >>= fun a29 => m__law_take a29) >>= fun x31 => getM x30 x31)) >>= fun a32 => m__law_take a32) >>= fun x34 => pure (x33 + x34))) >>= fun a36 => lft (m__law_low a35 a36)))))
abbrev sp__law_pair (K : PySem.W.Frag) : Sp := spB K fun (i : Unit) => m__law_pair
theorem ok__law_pair (F : FnP K "_law_pair" s__law_pair f fd) (T : TT P w K mg base) (c__law_take : Cal P w K mg base "_law_take" ["_law_box_here", "_law_many"] 1 (spB K fun (i : Int × Unit) => m__law_take i.1)) (c__law_low : Cal P w K mg base "_law_low" ["_law_top", "_law_bottom"] 1 (sp__law_low K)) : FnOk P w K mg base (CXL P w) 2 f fd ["_law_box_here"] (sp__law_pair K) := by
  refine F.ok sc__law_pair (fun vs H Q E h => spB_len h (fun _ => rfl)) (fun cdv A outer s H vs Q E hr h => ?_)
  refine ⟨_, (pss_cons (ps_set (i := 1) sc__law_pair.nd rfl (Or.inl rfl) (pe_ix (ix_listK (K := K) rfl) (pe_lst (pa_cons pe_int (pa_cons pe_int (pa_cons (pe_op op_pow pe_int pe_int) (pa_cons (pe_op op_pow pe_int pe_int) pa_nil))))) (pe_calS takes_cx c__law_take (hr.mono (by decide)) (by rfl) (pa_cons (pv 0) (pa_cons pe_int pa_nil))) (fun _ _ => rfl))) (pss_cons (ps_set (i := 2) sc__law_pair.nd rfl (Or.inl rfl) (pe_op op_mulW (pe_calS takes_cx c__law_take (hr.mono (by decide)) (by rfl) (pa_cons (pv 0) (pa_cons (pv 1) pa_nil))) (pe_ix (ix_listK (K := K) rfl) (pe_lst (pa_cons pe_int (pa_cons (pe_un un_neg pe_int) (pa_cons pe_int (pa_cons pe_int pa_nil))))) (pe_calS takes_cx c__law_take (hr.mono (by decide)) (by rfl) (pa_cons (pv 0) (pa_cons pe_int pa_nil))) (fun _ _ => rfl)))) (pss_one (ps_ret (pe_calS takes_cx c__law_low (hr.mono (by decide)) (by rfl) (pa_cons (pv 2) (pa_cons (pe_op op_add pe_int (pe_calS takes_cx c__law_take (hr.mono (by decide)) (by rfl) (pa_cons (pv 0) (pa_cons (pe_ix (ix_listK (K := K) rfl) (pe_lst (pa_cons pe_int (pa_cons pe_int (pa_cons pe_int (pa_cons (pe_op op_pow pe_int pe_int) pa_nil))))) (pe_calS takes_cx c__law_take (hr.mono (by decide)) (by rfl) (pa_cons (pv 0) (pa_cons pe_int pa_nil))) (fun _ _ => rfl)) pa_nil)))) pa_nil))))))), ?_⟩
  refine fn_rdB (n := 2) h (fun _ => rfl) (fun i => ?_)
  show Rd K _ _ _ [.box, .any, .any] (m__law_pair )
  unfold m__law_pair
  exact (rd_set (ev_op om_ixL (ev_lst' (ec_cons ev_int (ec_cons ev_int (ec_cons (ev_op om_pow ev_int ev_int) (ec_cons (ev_op om_pow ev_int ev_int) ec_nil)))) (fun i => [i.1, i.2.1, i.2.2.1, i.2.2.2.1])) (ev_callB' (j := 0) (ec_cons ev_int ec_nil))) (fun (v_size : Int) => (rd_set (ev_op om_mulW (ev_callB' (j := 0) (ec_cons (ev_var (i := 1) (a := v_size)) ec_nil)) (ev_op om_ixL (ev_lst' (ec_cons ev_int (ec_cons (ev_un um_neg ev_int) (ec_cons ev_int (ec_cons ev_int ec_nil)))) (fun i => [i.1, i.2.1, i.2.2.1, i.2.2.2.1])) (ev_callB' (j := 0) (ec_cons ev_int ec_nil)))) (fun (v_top : Int) => (rd_nil (rd_rets (ev_call' (ec_cons (ev_var (i := 2) (a := v_top)) (ec_cons (ev_op om_addI ev_int (ev_callB' (j := 0) (ec_cons (ev_op om_ixL (ev_lst' (ec_cons ev_int (ec_cons ev_int (ec_cons ev_int (ec_cons (ev_op om_pow ev_int ev_int) ec_nil)))) (fun i => [i.1, i.2.1, i.2.2.1, i.2.2.2.1])) (ev_callB' (j := 0) (ec_cons ev_int ec_nil))) ec_nil))) ec_nil)))))))))
theorem sc__law_written : FnScope ["_law_pair_here"] (["_law_pair_here"] : List Str) (defScope s__law_written) := ⟨rfl, rfl, rfl, by decide +kernel, rfl, by decide +kernel, by decide +kernel⟩
noncomputable def B__law_written (v_pair_here : (Int × Int)) : M Str := ((((pure v_pair_here) >>= fun x1 => pure x1.2) >>= fun x2 => ((pure (1 : Int)) >>= fun x3 => pure (decide (x2 = x3)))) >>= fun x14 => if x14 = true then (((pure v_pair_here) >>= fun x4 => pure x4.1) >>= fun a5 => fmtI a5) else (((((pure v_pair_here) >>= fun x6 => pure x6.1) >>= fun a7 => fmtI a7) >>= fun x8 => ((pure ("/" : Str)) >>= fun x9 => addS x8 x9)) >>= fun x12 => ((((pure v_pair_here) >>= fun x10 => pure x10.2) >>= fun a11 => fmtI a11) >>= fun x13 => addS x12 x13)))
noncomputable def m__law_written (v_pair_here : (Int × Int)) : Res Str := M.run (B__law_written v_pair_here)
abbrev sp__law_written (K : PySem.W.Frag) : Sp := spG K fun (i : (Int × Int) × Unit) => m__law_written i.1
theorem ok__law_written (F : FnP K "_law_written" s__law_written f fd) (T : TT P w K mg base)  : FnOk P w K mg base (CXL P w) 1 f fd ["_law_pair_here"] (sp__law_written K) := by
  refine F.ok sc__law_written (fun vs H Q E h => spG_len h (fun _ => rfl)) (fun cdv A outer s H vs Q E hr h => ?_)
  refine ⟨_, (pss_one (ps_ret (pe_ifExp (pt_cmpR op_eq (pe_ix (ix_tupK (K := K) rfl) (pv 0) pe_int (fun _ _ => rfl)) pe_int (nomark _)) (pe_callTy call_str_int (by rfl) T.m_str (by decide +kernel) (pa_cons (pe_ix (ix_tupK (K := K) rfl) (pv 0) pe_int (fun _ _ => rfl)) pa_nil)) (pe_op op_add_str (pe_op op_add_str (pe_callTy call_str_int (by rfl) T.m_str (by decide +kernel) (pa_cons (pe_ix (ix_tupK (K := K) rfl) (pv 0) pe_int (fun _ _ => rfl)) pa_nil)) pe_str) (pe_callTy call_str_int (by rfl) T.m_str (by decide +kernel) (pa_cons (pe_ix (ix_tupK (K := K) rfl) (pv 0) pe_int (fun _ _ => rfl)) pa_nil)))))), ?_⟩
  refine fn_rd (n := 0) (mb := fun i => B__law_written i.1) h (fun i => by show m__law_written i.1 = M.run (B__law_written i.1); unfold m__law_written; rfl) (fun _ => rfl) (fun i => ?_)
  obtain ⟨v_pair_here, _⟩ := i
  show Rd K _ _ _ [.val (d v_pair_here)] (B__law_written v_pair_here)
  unfold B__law_written
  exact (rd_nil (rd_rets (ev_if (et_test (ev_op om_eqI (ev_ixT (j := 1) (g := fun x => x.2) (ev_var (i := 0) (a := v_pair_here))) ev_int)) (ev_cb' cm_strI (ec_cons (ev_ixT (j := 0) (g := fun x => x.1) (ev_var (i := 0) (a := v_pair_here))) ec_nil)) (ev_op om_addS (ev_op om_addS (ev_cb' cm_strI (ec_cons (ev_ixT (j := 0) (g := fun x => x.1) (ev_var (i := 0) (a := v_pair_here))) ec_nil)) ev_str) (ev_cb' cm_strI (ec_cons (ev_ixT (j := 1) (g := fun x => x.2) (ev_var (i := 0) (a := v_pair_here))) ec_nil))))))
theorem sc__law_plain : FnScope ["_law_word", "_law_sign"] (["_law_word"] : List Str) (defScope s__law_plain) := ⟨rfl, rfl, rfl, by decide +kernel, rfl, by decide +kernel, by decide +kernel⟩
noncomputable def B__law_plain (v_word : Str) : M Bool := ((((pure v_word) >>= fun x1 => ((pure ("" : Str)) >>= fun x2 => pure (decide (x1 = x2)))) >>= fun x9 => if x9 = true then pure true else ((((pure v_word) >>= fun x3 => pure (x3.cps.toList.map Ch.mk)) >>= fun xs6 => lcM (fun (v_sign : Ch) => ((pure v_sign) >>= fun x4 => ((pure ("0123456789" : Str)) >>= fun x5 => pure (!decide (x4.c ∈ x5.cps.toList))))) (fun (v_sign : Ch) => pure v_sign) xs6) >>= fun x7 => ((pure ([] : List Ch)) >>= fun x8 => neD (d x7) (d x8)))) >>= fun c10 => if c10 = true then pure false else (((pure v_word) >>= fun x11 => ((pure ("0" : Str)) >>= fun x12 => pure (decide (x11 = x12)))) >>= fun x20 => if x20 = true then pure true else ((((pure v_word) >>= fun x13 => ((pure (0 : Int)) >>= fun x14 => ixS x13 x14)) >>= fun x17 => pure (Ch.s x17)) >>= fun x18 => ((pure ("0" : Str)) >>= fun x19 => pure (!decide (x18 = x19))))))
noncomputable def m__law_plain (v_word : Str) : Res Bool := M.run (B__law_plain v_word)
abbrev sp__law_plain (K : PySem.W.Frag) : Sp := spG K fun (i : Str × Unit) => m__law_plain i.1
theorem ok__law_plain (F : FnP K "_law_plain" s__law_plain f fd) (T : TT P w K mg base)  : FnOk P w K mg base (CXL P w) 1 f fd ["_law_word"] (sp__law_plain K) := by
  refine F.ok sc__law_plain (fun vs H Q E h => spG_len h (fun _ => rfl)) (fun cdv A outer s H vs Q E hr h => ?_)
  have hu64 : (A.deeper (envOfC "_law_plain" (defScope s__law_plain) s.heap.objs.size f cdv)).units + 64 < cLine := by have := hr.un; omega
  refine ⟨_, (pss_cons (ps_if (PW.pt (pw_or (pt_cmpR op_eq (pv 0) pe_str (nomark _)) (pw_or1 (pt_cmpR (op_neDK (K := K) rfl hu64) (pe_lc (own := [("_law_sign", 1)]) (g := gName 1) (tt := _) rfl sc__law_plain.nd (pi_str (pv 0)) (blkOk_by (N := ["_law_word", "_law_sign"]) (sc := defScope s__law_plain) (by decide +kernel)) (fun _ _ _ _ _ => pg_name (i := 1) sc__law_plain.nd rfl (Or.inl rfl)) (fun _ _ _ _ _ => (pts_one (pt_cmpR op_notIn_sign (pv 1) pe_str rfl))) (fun _ _ _ _ _ => (pv 1))) (pe_lst pa_nil) (nomark _))))) (pss_one (ps_ret pe_bl)) pss_nil) (pss_one (ps_ret (pe_or (pe_cmpR op_eq (pv 0) pe_str (nomark _)) (pe_one (pe_cmpR op_ne (pe_ix ix_str (pv 0) pe_int (fun _ _ => rfl)) pe_str (nomark _))))))), ?_⟩
  refine fn_rd (n := 1) (mb := fun i => B__law_plain i.1) h (fun i => by show m__law_plain i.1 = M.run (B__law_plain i.1); unfold m__law_plain; rfl) (fun _ => rfl) (fun i => ?_)
  obtain ⟨v_word, _⟩ := i
  show Rd K _ _ _ [.val (d v_word), .any] (B__law_plain v_word)
  unfold B__law_plain
  exact (rd_if (et_or (et_test (ev_op om_eqS (ev_var (i := 0) (a := v_word)) ev_str)) (et_test (ev_op om_neD (ev_lc (ei_up (ei_str (ev_var (i := 0) (a := v_word)))) tg_name (fun (v_sign : Ch) => (et_test (ev_op om_ninCh (ev_var (i := 1) (a := v_sign)) ev_str))) (fun (v_sign : Ch) => (ev_var (i := 1) (a := v_sign)))) (ev_lst' ec_nil (fun _ => ([] : List Ch)))))) (rd_rets ev_bl) (rd_skip (rd_nil (rd_rets (ev_or (ev_op om_eqS (ev_var (i := 0) (a := v_word)) ev_str) (ev_op om_neS (ev_as (α := Ch) (β := Str) (f := fun x => (Ch.s x)) (ev_op om_ixS (ev_var (i := 0) (a := v_word)) ev_int) (fun _ => rfl)) ev_str))))))
end
end K03


set_option Elab.async false
set_option linter.all false
set_option maxRecDepth 100000
set_option maxHeartbeats 4000000
namespace K03
open PySem PySem.Spec PyProof.Rows L2 J N
open M
open ToD (d)
open ToDs (ds)
section
variable {P : Program} {w : World} {K : PySem.W.Frag} {mg : Str → Option Value} {base : Heap} {f : Addr} {fd : FuncData}
theorem sc__law_due : FnScope ["_law_text", "_law_minus", "_law_words", "_law_numbers", "_law_word"] (["_law_text"] : List Str) (defScope s__law_due) := ⟨rfl, rfl, rfl, by decide +kernel, rfl, by decide +kernel, by decide +kernel⟩
noncomputable def B__law_due (v_text : Str) : M (Option (Int × Int)) := ((((pure v_text) >>= fun x1 => pure ((fun (_ : Str) => true) x1)) >>= fun x2 => pure (!x2)) >>= fun c3 => if c3 = true then ((pure ()) >>= fun x4 => pure ((fun _ => none : Unit → (Option (Int × Int))) x4)) else ((((pure v_text) >>= fun x6 => ((pure none) >>= fun x7 => (((pure (1 : Int)) >>= fun x5 => pure (some x5)) >>= fun x8 => slS x6 x7 x8))) >>= fun x9 => ((pure ("-" : Str)) >>= fun x10 => pure (decide (x9 = x10)))) >>= fun v_minus => ((((pure v_text) >>= fun x13 => ((((pure v_minus) >>= fun a11 => pure (if a11 = true then (1 : Int) else 0)) >>= fun x12 => pure (some x12)) >>= fun x14 => ((pure none) >>= fun x15 => slS x13 x14 x15))) >>= fun x16 => ((pure ("/" : Str)) >>= fun x17 => splitM x16 x17)) >>= fun v_words => (((((pure v_words) >>= fun a18 => pure (a18.length : Int)) >>= fun x19 => ((pure (2 : Int)) >>= fun x20 => pure (decide (x19 > x20)))) >>= fun x26 => if x26 = true then pure true else (((pure v_words) >>= fun xs23 => lcM (fun (v_word : Str) => (((pure v_word) >>= fun a21 => lft (m__law_plain a21)) >>= fun x22 => pure (!x22))) (fun (v_word : Str) => pure v_word) xs23) >>= fun x24 => ((pure ([] : List Str)) >>= fun x25 => neD (d x24) (d x25)))) >>= fun c27 => if c27 = true then ((pure ()) >>= fun x28 => pure ((fun _ => none : Unit → (Option (Int × Int))) x28)) else (((pure v_words) >>= fun xs30 => lcM (fun (v_word : Str) => pure true) (fun (v_word : Str) => ((pure v_word) >>= fun a29 => intM a29)) xs30) >>= fun v_numbers => (((pure v_minus) >>= fun x35 => if x35 = true then (((pure v_numbers) >>= fun x31 => ((pure (0 : Int)) >>= fun x32 => getM x31 x32)) >>= fun x33 => ((pure (0 : Int)) >>= fun x34 => pure (decide (x33 = x34)))) else pure false) >>= fun c36 => if c36 = true then ((pure ()) >>= fun x37 => pure ((fun _ => none : Unit → (Option (Int × Int))) x37)) else ((((pure v_words) >>= fun a38 => pure (a38.length : Int)) >>= fun x39 => ((pure (1 : Int)) >>= fun x40 => pure (decide (x39 = x40)))) >>= fun c41 => if c41 = true then (((((pure v_numbers) >>= fun x42 => ((pure (0 : Int)) >>= fun x43 => getM x42 x43)) >>= fun x49 => (((pure (1 : Int)) >>= fun x47 => (((pure (2 : Int)) >>= fun x45 => (((pure v_minus) >>= fun a44 => pure (if a44 = true then (1 : Int) else 0)) >>= fun x46 => mulM x45 x46)) >>= fun x48 => pure (x47 - x48))) >>= fun x50 => mulM x49 x50)) >>= fun a51 => ((pure (1 : Int)) >>= fun a52 => pure (a51, a52))) >>= fun x53 => pure (some x53)) else (((((pure v_numbers) >>= fun x54 => ((pure (1 : Int)) >>= fun x55 => getM x54 x55)) >>= fun x56 => ((pure (2 : Int)) >>= fun x57 => pure (decide (x56 < x57)))) >>= fun x72 => if x72 = true then pure true else ((((pure v_numbers) >>= fun x58 => ((pure (0 : Int)) >>= fun x59 => getM x58 x59)) >>= fun a62 => (((pure v_numbers) >>= fun x60 => ((pure (1 : Int)) >>= fun x61 => getM x60 x61)) >>= fun a63 => lft (m__law_low a62 a63))) >>= fun x70 => ((((pure v_numbers) >>= fun x64 => ((pure (0 : Int)) >>= fun x65 => getM x64 x65)) >>= fun a68 => (((pure v_numbers) >>= fun x66 => ((pure (1 : Int)) >>= fun x67 => getM x66 x67)) >>= fun a69 => pure (a68, a69))) >>= fun x71 => neD (d x70) (d x71)))) >>= fun c73 => if c73 = true then ((pure ()) >>= fun x74 => pure ((fun _ => none : Unit → (Option (Int × Int))) x74)) else (((((pure v_numbers) >>= fun x75 => ((pure (0 : Int)) >>= fun x76 => getM x75 x76)) >>= fun x82 => (((pure (1 : Int)) >>= fun x80 => (((pure (2 : Int)) >>= fun x78 => (((pure v_minus) >>= fun a77 => pure (if a77 = true then (1 : Int) else 0)) >>= fun x79 => mulM x78 x79)) >>= fun x81 => pure (x80 - x81))) >>= fun x83 => mulM x82 x83)) >>= fun a86 => (((pure v_numbers) >>= fun x84 => ((pure (1 : Int)) >>= fun x85 => getM x84 x85)) >>= fun a87 => pure (a86, a87))) >>= fun x88 => pure (some x88))))))))))
noncomputable def B2__law_due (v_text : D) : M (Option (Int × Int)) := ((((pure v_text) >>= fun x1 => ((need (KnownD ["Ratio"] x1)) >>= fun _ => pure (isStrB x1))) >>= fun x2 => pure (!x2)) >>= fun c => if c = true then ((pure ()) >>= fun x3 => pure ((fun _ => none : Unit → (Option (Int × Int))) x3)) else M.stuck)
noncomputable def m__law_due (v_text : D) : Res (Option (Int × Int)) := M.run (match toStr v_text with | some a => B__law_due a | none => B2__law_due v_text)
abbrev sp__law_due (K : PySem.W.Frag) : Sp := spG K fun (i : D × Unit) => m__law_due i.1
theorem ok__law_due (F : FnP K "_law_due" s__law_due f fd) (T : TT P w K mg base) (c__law_plain : Cal P w K mg base "_law_plain" ["_law_word"] 1 (sp__law_plain K)) (c__law_low : Cal P w K mg base "_law_low" ["_law_top", "_law_bottom"] 1 (sp__law_low K)) : FnOk P w K mg base (CXL P w) 2 f fd ["_law_text"] (sp__law_due K) := by
  refine F.ok sc__law_due (fun vs H Q E h => spG_len h (fun _ => rfl)) (fun cdv A outer s H vs Q E hr h => ?_)
  have hu64 : (A.deeper (envOfC "_law_due" (defScope s__law_due) s.heap.objs.size f cdv)).units + 64 < cLine := by have := hr.un; omega
  refine ⟨_, (pss_cons (ps_if (pt_not (pt_val (pe_callB (call_isiK' (K := K) rfl) (by rfl) T.m_isinstance PyProof.Rows.boot_isinstance (pa_cons (pv 0) (pa_cons (pe_bltn (v := .ty "str") (by rfl) T.m_str (by decide +kernel) rfl) pa_nil))))) (pss_one (ps_ret pe_non)) pss_nil) (pss_cons (ps_set (i := 1) sc__law_due.nd rfl (Or.inl rfl) (pe_cmpR op_eq (pe_slice sl_str (pv 0) po_none (po_some pe_int)) pe_str (nomark _))) (pss_cons (ps_set (i := 2) sc__law_due.nd rfl (Or.inl rfl) (pe_split (pe_slice sl_str (pv 0) (po_some (pe_callTy call_int1 (by rfl) T.m_int (by decide +kernel) (pa_cons (pv 1) pa_nil))) po_none) pe_str)) (pss_cons (ps_if (PW.pt (pw_or (pt_cmpR op_gt (pe_callB (call_len_seqK (K := K) rfl) (by rfl) T.m_len PySem.boot_len (pa_cons (pv 2) pa_nil)) pe_int (nomark _)) (pw_or1 (pt_cmpR (op_neDK (K := K) rfl hu64) (pe_lc (own := [("_law_word", 4)]) (g := gName 4) (tt := _) rfl sc__law_due.nd (pi_listK (K := K) rfl (pv 2)) (blkOk_by (N := ["_law_text", "_law_minus", "_law_words", "_law_numbers", "_law_word"]) (sc := defScope s__law_due) (by decide +kernel)) (fun _ _ _ _ _ => pg_name (i := 4) sc__law_due.nd rfl (Or.inl rfl)) (fun _ _ _ _ _ => (pts_one (pt_not (pt_val (pe_calS takesF c__law_plain (hr.mono (by decide)) (by rfl) (pa_cons (pv 4) pa_nil)))))) (fun _ _ _ _ _ => (pv 4))) (pe_lst pa_nil) (nomark _))))) (pss_one (ps_ret pe_non)) pss_nil) (pss_cons (ps_setLc (i := 3) (own := [("_law_word", 4)]) (g := gName 4) (tt := tYes) rfl sc__law_due.nd rfl rfl (sw_true rfl rfl rfl (by decide +kernel)) (pi_listK (K := K) rfl (pv 2)) (blkOk_by (N := ["_law_text", "_law_minus", "_law_words", "_law_numbers", "_law_word"]) (sc := defScope s__law_due) (by decide +kernel)) (fun _ _ _ _ _ => pg_name (i := 4) sc__law_due.nd rfl (Or.inl rfl)) (fun _ _ _ _ _ => pts_nil) (fun _ _ _ _ _ => (pe_callTy call_int_str (by rfl) T.m_int (by decide +kernel) (pa_cons (pv 4) pa_nil)))) (pss_cons (ps_if (PW.pt (pw_and (pt_val (pv 1)) (pw_and1 (pt_cmpR op_eq (pe_ix (ix_listK (K := K) rfl) (pv 3) pe_int (fun _ _ => rfl)) pe_int (nomark _))))) (pss_one (ps_ret pe_non)) pss_nil) (pss_cons (ps_if (pt_cmpR op_eq (pe_callB (call_len_seqK (K := K) rfl) (by rfl) T.m_len PySem.boot_len (pa_cons (pv 2) pa_nil)) pe_int (nomark _)) (pss_one (ps_ret (pe_tup (pa_cons (pe_op op_mulW (pe_ix (ix_listK (K := K) rfl) (pv 3) pe_int (fun _ _ => rfl)) (pe_op op_sub pe_int (pe_op op_mulW pe_int (pe_callTy call_int1 (by rfl) T.m_int (by decide +kernel) (pa_cons (pv 1) pa_nil))))) (pa_cons pe_int pa_nil))))) pss_nil) (pss_cons (ps_if (PW.pt (pw_or (pt_cmpR op_lt (pe_ix (ix_listK (K := K) rfl) (pv 3) pe_int (fun _ _ => rfl)) pe_int (nomark _)) (pw_or1 (pt_cmpR (op_neDK (K := K) rfl hu64) (pe_calS takes_cx c__law_low (hr.mono (by decide)) (by rfl) (pa_cons (pe_ix (ix_listK (K := K) rfl) (pv 3) pe_int (fun _ _ => rfl)) (pa_cons (pe_ix (ix_listK (K := K) rfl) (pv 3) pe_int (fun _ _ => rfl)) pa_nil))) (pe_tup (pa_cons (pe_ix (ix_listK (K := K) rfl) (pv 3) pe_int (fun _ _ => rfl)) (pa_cons (pe_ix (ix_listK (K := K) rfl) (pv 3) pe_int (fun _ _ => rfl)) pa_nil))) (nomark _))))) (pss_one (ps_ret pe_non)) pss_nil) (pss_one (ps_ret (pe_tup (pa_cons (pe_op op_mulW (pe_ix (ix_listK (K := K) rfl) (pv 3) pe_int (fun _ _ => rfl)) (pe_op op_sub pe_int (pe_op op_mulW pe_int (pe_callTy call_int1 (by rfl) T.m_int (by decide +kernel) (pa_cons (pv 1) pa_nil))))) (pa_cons (pe_ix (ix_listK (K := K) rfl) (pv 3) pe_int (fun _ _ => rfl)) pa_nil))))))))))))), ?_⟩
  refine fn_rd (n := 4) (mb := fun i => match toStr i.1 with | some a => B__law_due a | none => B2__law_due i.1) h (fun i => by show m__law_due i.1 = M.run (match toStr i.1 with | some a => B__law_due a | none => B2__law_due i.1); unfold m__law_due; rfl) (fun _ => rfl) (fun i => ?_)
  obtain ⟨v_text, _⟩ := i
  show Rd K _ _ _ [.val (d v_text), .any, .any, .any, .any] (match toStr v_text with | some a => B__law_due a | none => B2__law_due v_text)
  cases hto : toStr v_text with
  | some b =>
    rw [toStr_eq hto]
    clear hto
    revert b
    intro v_text
    show Rd K _ _ _ [.val (d v_text), .any, .any, .any, .any] (B__law_due v_text)
    unfold B__law_due
    exact (rd_if (et_not (et_val (ev_isi (bf := fun x => (fun (_ : Str) => true) x) T.insc (ClsV.ty _) (fun _ => trivial) (fun _ => kit_tt) (ev_var (i := 0) (a := v_text))))) (rd_rets (ev_as (α := Unit) (β := (Option (Int × Int))) (f := fun x => ((fun _ => none : Unit → (Option (Int × Int))) x)) ev_non (fun _ => rfl))) (rd_skip (rd_set (ev_op om_eqS (ev_sl sm_str (ev_var (i := 0) (a := v_text)) eo_none (eo_some ev_int)) ev_str) (fun (v_minus : Bool) => (rd_set (ev_m1 mm_split (ev_sl sm_str (ev_var (i := 0) (a := v_text)) (eo_some (ev_cb' cm_intB (ec_cons (ev_var (i := 1) (a := v_minus)) ec_nil))) eo_none) ev_str) (fun (v_words : (List Str)) => (rd_if (et_or (et_test (ev_op om_gtI (ev_cb' cm_lenL (ec_cons (ev_var (i := 2) (a := v_words)) ec_nil)) ev_int)) (et_test (ev_op om_neD (ev_lc (ei_up (ei_list (ev_var (i := 2) (a := v_words)))) tg_name (fun (v_word : Str) => (et_not (et_val (ev_call' (ec_cons (ev_var (i := 4) (a := v_word)) ec_nil))))) (fun (v_word : Str) => (ev_var (i := 4) (a := v_word)))) (ev_lst' ec_nil (fun _ => ([] : List Str)))))) (rd_rets (ev_as (α := Unit) (β := (Option (Int × Int))) (f := fun x => ((fun _ => none : Unit → (Option (Int × Int))) x)) ev_non (fun _ => rfl))) (rd_skip (rd_set (ev_lc (ei_up (ei_list (ev_var (i := 2) (a := v_words)))) tg_name (fun (v_word : Str) => et_yes) (fun (v_word : Str) => (ev_cb' cm_intS (ec_cons (ev_var (i := 4) (a := v_word)) ec_nil)))) (fun (v_numbers : (List Int)) => (rd_if (et_and (et_val (ev_var (i := 1) (a := v_minus))) (et_test (ev_op om_eqI (ev_op om_ixL (ev_var (i := 3) (a := v_numbers)) ev_int) ev_int))) (rd_rets (ev_as (α := Unit) (β := (Option (Int × Int))) (f := fun x => ((fun _ => none : Unit → (Option (Int × Int))) x)) ev_non (fun _ => rfl))) (rd_skip (rd_if (et_test (ev_op om_eqI (ev_cb' cm_lenL (ec_cons (ev_var (i := 2) (a := v_words)) ec_nil)) ev_int)) (rd_rets (ev_as (α := (Int × Int)) (β := (Option (Int × Int))) (f := fun x => (some x)) (ev_tup' (ec_cons (ev_op om_mulW (ev_op om_ixL (ev_var (i := 3) (a := v_numbers)) ev_int) (ev_op om_subI ev_int (ev_op om_mulW ev_int (ev_cb' cm_intB (ec_cons (ev_var (i := 1) (a := v_minus)) ec_nil))))) (ec_cons ev_int ec_nil)) (fun i => (i.1, i.2.1))) (fun _ => rfl))) (rd_skip (rd_if (et_or (et_test (ev_op om_ltI (ev_op om_ixL (ev_var (i := 3) (a := v_numbers)) ev_int) ev_int)) (et_test (ev_op om_neD (ev_call' (ec_cons (ev_op om_ixL (ev_var (i := 3) (a := v_numbers)) ev_int) (ec_cons (ev_op om_ixL (ev_var (i := 3) (a := v_numbers)) ev_int) ec_nil))) (ev_tup' (ec_cons (ev_op om_ixL (ev_var (i := 3) (a := v_numbers)) ev_int) (ec_cons (ev_op om_ixL (ev_var (i := 3) (a := v_numbers)) ev_int) ec_nil)) (fun i => (i.1, i.2.1)))))) (rd_rets (ev_as (α := Unit) (β := (Option (Int × Int))) (f := fun x => ((fun _ => none : Unit → (Option (Int × Int))) x)) ev_non (fun _ => rfl))) (rd_skip (rd_nil (rd_rets (ev_as (α := (Int × Int)) (β := (Option (Int × Int))) (f := fun x => (some x)) (ev_tup' (ec_cons (ev_op om_mulW (ev_op om_ixL (ev_var (i := 3) (a := v_numbers)) ev_int) (ev_op om_subI ev_int (ev_op om_mulW ev_int (ev_cb' cm_intB (ec_cons (ev_var (i := 1) (a := v_minus)) ec_nil))))) (ec_cons (ev_op om_ixL (ev_var (i := 3) (a := v_numbers)) ev_int) ec_nil)) (fun i => (i.1, i.2.1))) (fun _ => rfl))))))))))))))))))))
  | none =>
    show Rd K _ _ _ [.val (d v_text), .any, .any, .any, .any] (B2__law_due v_text)
    unfold B2__law_due
    exact (rd_if (et_not (et_val (ev_isiD (bf := fun x => isStrB x) T.insc (ClsV.ty _) (isi_str T.kR_str) (ev_var (i := 0) (a := v_text))))) (rd_rets (ev_as (α := Unit) (β := (Option (Int × Int))) (f := fun x => ((fun _ => none : Unit → (Option (Int × Int))) x)) ev_non (fun _ => rfl))) (rd_skip rd_stuck))
theorem sc__law_near : FnScope ["_law_box_here", "_law_text", "_law_signs", "_law_turn", "_law_at", "_law_sign"] (["_law_box_here", "_law_text"] : List Str) (defScope s__law_near) := ⟨rfl, rfl, rfl, by decide +kernel, rfl, by decide +kernel, by decide +kernel⟩
noncomputable def m__law_near (v_text : Str) : M Str := ((pure ("0123456789/-+ .a," : Str)) >>= fun v_signs => ((((pure (1 : Int)) >>= fun x2 => (((pure (2 : Int)) >>= fun a1 => m__law_take a1) >>= fun x3 => pure (x2 + x3))) >>= fun x5 => rng1 x5) >>= fun xs7 => ((foldM (fun (v_turn : Int) (s6 : Str) => (((((pure s6) >>= fun a8 => lenS a8) >>= fun x9 => ((pure (1 : Int)) >>= fun x10 => pure (x9 + x10))) >>= fun a11 => m__law_take a11) >>= fun v_at => (((pure v_signs) >>= fun x13 => (((pure (17 : Int)) >>= fun a12 => m__law_take a12) >>= fun x14 => ixS x13 x14)) >>= fun v_sign => (((((pure s6) >>= fun x16 => ((pure none) >>= fun x17 => (((pure v_at) >>= fun x15 => pure (some x15)) >>= fun x18 => slS x16 x17 x18))) >>= fun x27 => (((((pure v_sign) >>= fun x19 => pure (Ch.s x19)) >>= fun a21 => ((pure ("" : Str)) >>= fun a22 => (((pure v_sign) >>= fun x20 => pure (Ch.s x20)) >>= fun a23 => pure [a21, a22, a23]))) >>= fun x25 => (((pure (3 : Int)) >>= fun a24 => m__law_take a24) >>= fun x26 => getM x25 x26)) >>= fun x28 => addS x27 x28)) >>= fun x36 => (((pure s6) >>= fun x33 => ((((pure v_at) >>= fun x30 => (((pure (2 : Int)) >>= fun a29 => m__law_take a29) >>= fun x31 => pure (x30 + x31))) >>= fun x32 => pure (some x32)) >>= fun x34 => ((pure none) >>= fun x35 => slS x33 x34 x35))) >>= fun x37 => addS x36 x37)) >>= fun v_text => pure v_text)))) xs7 v_text) >>= fun s6 => pure s6)))
abbrev sp__law_near (K : PySem.W.Frag) : Sp := spB K fun (i : Str × Unit) => m__law_near i.1
theorem ok__law_near (F : FnP K "_law_near" s__law_near f fd) (T : TT P w K mg base) (c__law_take : Cal P w K mg base "_law_take" ["_law_box_here", "_law_many"] 1 (spB K fun (i : Int × Unit) => m__law_take i.1)) : FnOk P w K mg base (CXL P w) 2 f fd ["_law_box_here", "_law_text"] (sp__law_near K) := by
  refine F.ok sc__law_near (fun vs H Q E h => spB_len h (fun _ => rfl)) (fun cdv A outer s H vs Q E hr h => ?_)
  refine ⟨_, (pss_cons (ps_set (i := 2) sc__law_near.nd rfl (Or.inl rfl) pe_str) (pss_cons (ps_for passes_cx rfl (pi_range1 (by rfl) T.m_range (pa_cons (pe_op op_add pe_int (pe_calS takes_cx c__law_take (hr.mono (by decide)) (by rfl) (pa_cons (pv 0) (pa_cons pe_int pa_nil)))) pa_nil)) (pg_name (i := 3) sc__law_near.nd rfl (Or.inl rfl)) (pss_cons (ps_set (i := 4) sc__law_near.nd rfl (Or.inl rfl) (pe_calS takes_cx c__law_take (hr.mono (by decide)) (by rfl) (pa_cons (pv 0) (pa_cons (pe_op op_add (pe_callB call_len_str (by rfl) T.m_len PySem.boot_len (pa_cons (pv 1) pa_nil)) pe_int) pa_nil)))) (pss_cons (ps_set (i := 5) sc__law_near.nd rfl (Or.inl rfl) (pe_ix ix_str (pv 2) (pe_calS takes_cx c__law_take (hr.mono (by decide)) (by rfl) (pa_cons (pv 0) (pa_cons pe_int pa_nil))) (fun _ _ => rfl))) (pss_one (ps_set (i := 1) sc__law_near.nd rfl (Or.inl rfl) (pe_op op_add_str (pe_op op_add_str (pe_slice sl_str (pv 1) po_none (po_some (pv 4))) (pe_ix (ix_listK (K := K) rfl) (pe_lst (pa_cons (pv 5) (pa_cons pe_str (pa_cons (pv 5) pa_nil)))) (pe_calS takes_cx c__law_take (hr.mono (by decide)) (by rfl) (pa_cons (pv 0) (pa_cons pe_int pa_nil))) (fun _ _ => rfl))) (pe_slice sl_str (pv 1) (po_some (pe_op op_add (pv 4) (pe_calS takes_cx c__law_take (hr.mono (by decide)) (by rfl) (pa_cons (pv 0) (pa_cons pe_int pa_nil))))) po_none))))))) (pss_one (ps_ret (pv 1))))), ?_⟩
  refine fn_rdB (n := 4) h (fun _ => rfl) (fun i => ?_)
  obtain ⟨v_text, _⟩ := i
  show Rd K _ _ _ [.box, .val (d v_text), .any, .any, .any, .any] (m__law_near v_text)
  unfold m__law_near
  exact (rd_set ev_str (fun (v_signs : Str) => (rd_fold (S := Str) (Γn := fun s6 => [.box, .val (d s6), .val (d v_signs), .any, .any, .any]) (s0 := v_text) (.eq (.eq (.eq (.any (.any (.any .nil)))))) (ei_range1 (ev_op om_addI ev_int (ev_callB' (j := 0) (ec_cons ev_int ec_nil)))) tg_name (fun _ => up1) (fun (v_turn : Int) s6 => (rd_set (ev_callB' (j := 0) (ec_cons (ev_op om_addI (ev_cb' cm_lenS (ec_cons (ev_var (i := 1) (a := s6)) ec_nil)) ev_int) ec_nil)) (fun (v_at : Int) => (rd_set (ev_op om_ixS (ev_var (i := 2) (a := v_signs)) (ev_callB' (j := 0) (ec_cons ev_int ec_nil))) (fun (v_sign : Ch) => (rd_nil (rd_set (ev_op om_addS (ev_op om_addS (ev_sl sm_str (ev_var (i := 1) (a := s6)) eo_none (eo_some (ev_var (i := 4) (a := v_at)))) (ev_op om_ixL (ev_lst' (ec_cons (ev_as (α := Ch) (β := Str) (f := fun x => (Ch.s x)) (ev_var (i := 5) (a := v_sign)) (fun _ => rfl)) (ec_cons ev_str (ec_cons (ev_as (α := Ch) (β := Str) (f := fun x => (Ch.s x)) (ev_var (i := 5) (a := v_sign)) (fun _ => rfl)) ec_nil))) (fun i => [i.1, i.2.1, i.2.2.1])) (ev_callB' (j := 0) (ec_cons ev_int ec_nil)))) (ev_sl sm_str (ev_var (i := 1) (a := s6)) (eo_some (ev_op om_addI (ev_var (i := 4) (a := v_at)) (ev_callB' (j := 0) (ec_cons ev_int ec_nil)))) eo_none)) (fun (v_text : Str) => (rd_next (s := v_text) (.eq (.eq (.eq (.any (.any (.any .nil))))))))))))))) (fun s6 => (rd_nil (rd_rets (ev_var (i := 1) (a := s6))))))))
theorem sc__law_read_right : FnScope ["_law_text", "_law_due_here", "_law_found", "e"] (["_law_text"] : List Str) (defScope s__law_read_right) := ⟨rfl, rfl, rfl, by decide +kernel, rfl, by decide +kernel, by decide +kernel⟩
noncomputable def B__law_read_right (v_text : D) : M Bool := (((pure v_text) >>= fun a1 => lft (m__law_due a1)) >>= fun v_due_here => (tryM ["BadText"] ((pure v_text) >>= fun a2 => lft (m_read_ratio a2)) (fun v_found => (((pure v_due_here) >>= fun x12 => ((pure ()) >>= fun x13 => pure (!x12.isNone))) >>= fun x17 => if x17 = true then ((pure v_found) >>= fun a15 => (((pure v_due_here) >>= fun x14 => unopt x14) >>= fun a16 => lft (m__law_is a15 a16))) else pure false)) fun c fs => do let w11 ← strict ((((pure v_due_here) >>= fun x3 => ((pure ()) >>= fun x4 => pure x3.isNone)) >>= fun x10 => if x10 = true then ((((xfM fs "given") >>= fun a5 => reprM (d a5)) >>= fun x7 => (((pure v_text) >>= fun a6 => reprM (d a6)) >>= fun x8 => pure (decide (x7 = x8)))) >>= fun x9 => if x9 = true then ((need (fs ≠ [])) >>= fun _ => pure true) else pure false) else pure false)); pure (id w11)))
noncomputable def m__law_read_right (v_text : D) : Res Bool := M.run (B__law_read_right v_text)
abbrev sp__law_read_right (K : PySem.W.Frag) : Sp := spG K fun (i : D × Unit) => m__law_read_right i.1
theorem ok__law_read_right (F : FnP K "_law_read_right" s__law_read_right f fd) (T : TT P w K mg base) (c__law_due : Cal P w K mg base "_law_due" ["_law_text"] 2 (sp__law_due K)) (c_read_ratio : Cal P w K mg base "read_ratio" ["text"] 5 (sp_read_ratio K)) (c__law_is : Cal P w K mg base "_law_is" ["_law_ratio", "_law_pair_here"] 3 (sp__law_is K)) : FnG P w K mg base (CXL P w) 6 f fd ["_law_text"] (sp__law_read_right K) := by
  refine fnG_of F sc__law_read_right (fun vs H Q E h => spG_len h (fun _ => rfl)) (fun cdv A outer s H vs Q E hg hr h => ?_)
  have hu60 : (A.deeper (envOfC "_law_read_right" (defScope s__law_read_right) s.heap.objs.size f cdv)).units + 60 < cLine := by have := hr.un; omega
  refine ⟨_, (pss_cons (ps_set (i := 1) sc__law_read_right.nd rfl (Or.inl rfl) (pe_calS takes_cx c__law_due (hr.mono (by decide)) (by rfl) (pa_cons (pv 0) pa_nil))) (pss_cons (ps_try_as (i := 3) rfl rfl sc__law_read_right.nd rfl rfl ⟨rfl, by decide, .inl T.g_BadText⟩ takes_cx (fun W pn xe tk _ => (pss_one (ps_set (i := 2) sc__law_read_right.nd rfl (Or.inl rfl) (pe_calS tk c_read_ratio (hr.mono (by decide)) (by rfl) (pa_cons (pv 0) pa_nil))))) (fun a oe cls dd pn hz hf => (pss_one (ps_ret (pe_and (pe_cmpR op_isN (pv 1) pe_non (nomark _)) (pe_and (pe_cmpR op_eq (pe_callB (call_reprK (K := K) rfl hg hu60) (by rfl) T.m_repr PyProof.Rows.boot_repr (pa_cons (pe_xf T.e_BadText.e.f T.e_BadText.e.nof hz hf (pv 3)) pa_nil)) (pe_callB (call_reprK (K := K) rfl hg hu60) (by rfl) T.m_repr PyProof.Rows.boot_repr (pa_cons (pv 0) pa_nil)) (nomark _)) (pe_one (pe_callB (call_isEd hz hf) (by rfl) T.m_isinstance PyProof.Rows.boot_isinstance (pa_cons (pv 3) (pa_cons (pe_glob (v := .ref (He.ga K "DrawError")) (by rfl) T.g_DrawError rfl) pa_nil)))))))))) (pss_one (ps_ret (pe_and (pe_cmpR op_notN (pv 1) pe_non (nomark _)) (pe_one (pe_calS takes_cx c__law_is (hr.mono (by decide)) (by rfl) (pa_cons (pv 2) (pa_cons (pv 1) pa_nil))))))))), ?_⟩
  refine fn_rd (n := 3) (mb := fun i => B__law_read_right i.1) h (fun i => by show m__law_read_right i.1 = M.run (B__law_read_right i.1); unfold m__law_read_right; rfl) (fun _ => rfl) (fun i => ?_)
  obtain ⟨v_text, _⟩ := i
  show Rd K _ _ _ [.val (d v_text), .any, .any, .any] (B__law_read_right v_text)
  unfold B__law_read_right
  exact (rd_set (ev_call' (ec_cons (ev_var (i := 0) (a := v_text)) ec_nil)) (fun (v_due_here : (Option (Int × Int))) => (rd_try_set rk_id (fun c hc => by cases List.mem_singleton.mp hc; exact T.exm_BadText) (fun W' => (ev_call' (ec_cons (ev_var (i := 0) (a := v_text)) ec_nil))) (fun a dd c' fs hc => by cases List.mem_singleton.mp hc; exact (ev_and (ev_op om_isN (ev_var (i := 1) (a := v_due_here)) ev_non) (ev_and (ev_op om_eqS (ev_cb' cm_repr (ec_cons (ev_xf (i := 3) (c := "BadText") (fs := fs) rfl rfl) ec_nil)) (ev_cb' cm_repr (ec_cons (ev_var (i := 0) (a := v_text)) ec_nil))) (ev_isE (i := 3) (c := "BadText") (fs := fs) T.x_BadText rfl relref T.kit_BadText_DrawError)))) (fun (v_found : Rt) => (rd_nil (rd_rets (ev_and (ev_op om_notN (ev_var (i := 1) (a := v_due_here)) ev_non) (ev_call' (ec_cons (ev_var (i := 2) (a := v_found)) (ec_cons (ev_unopt (ev_var (i := 1) (a := v_due_here))) ec_nil))))))))))
theorem sc__law_no_number : FnScope ["_law_thing", "e"] (["_law_thing"] : List Str) (defScope s__law_no_number) := ⟨rfl, rfl, rfl, by decide +kernel, rfl, by decide +kernel, by decide +kernel⟩
noncomputable def B__law_no_number (v_thing : D) : M Bool := (tryM ["BadNumber"] ((pure v_thing) >>= fun a1 => lft (m_as_ratio a1)) (fun x8 => pure false) fun c fs => do let w7 ← strict (((((xfM fs "given") >>= fun a2 => reprM (d a2)) >>= fun x4 => (((pure v_thing) >>= fun a3 => reprM (d a3)) >>= fun x5 => pure (decide (x4 = x5)))) >>= fun x6 => if x6 = true then ((need (fs ≠ [])) >>= fun _ => pure true) else pure false)); pure (id w7))
noncomputable def m__law_no_number (v_thing : D) : Res Bool := M.run (B__law_no_number v_thing)
abbrev sp__law_no_number (K : PySem.W.Frag) : Sp := spG K fun (i : D × Unit) => m__law_no_number i.1
theorem ok__law_no_number (F : FnP K "_law_no_number" s__law_no_number f fd) (T : TT P w K mg base) (c_as_ratio : Cal P w K mg base "as_ratio" ["value"] 5 (sp_as_ratio K)) : FnG P w K mg base (CXL P w) 6 f fd ["_law_thing"] (sp__law_no_number K) := by
  refine fnG_of F sc__law_no_number (fun vs H Q E h => spG_len h (fun _ => rfl)) (fun cdv A outer s H vs Q E hg hr h => ?_)
  have hu60 : (A.deeper (envOfC "_law_no_number" (defScope s__law_no_number) s.heap.objs.size f cdv)).units + 60 < cLine := by have := hr.un; omega
  refine ⟨_, (pss_cons (ps_try_as (i := 1) rfl rfl sc__law_no_number.nd rfl rfl ⟨rfl, by decide, .inl T.g_BadNumber⟩ takes_cx (fun W pn xe tk _ => (pss_one (ps_expr (pe_calS tk c_as_ratio (hr.mono (by decide)) (by rfl) (pa_cons (pv 0) pa_nil))))) (fun a oe cls dd pn hz hf => (pss_one (ps_ret (pe_and (pe_cmpR op_eq (pe_callB (call_reprK (K := K) rfl hg hu60) (by rfl) T.m_repr PyProof.Rows.boot_repr (pa_cons (pe_xf T.e_BadNumber.e.f T.e_BadNumber.e.nof hz hf (pv 1)) pa_nil)) (pe_callB (call_reprK (K := K) rfl hg hu60) (by rfl) T.m_repr PyProof.Rows.boot_repr (pa_cons (pv 0) pa_nil)) (nomark _)) (pe_one (pe_callB (call_isEd hz hf) (by rfl) T.m_isinstance PyProof.Rows.boot_isinstance (pa_cons (pv 1) (pa_cons (pe_glob (v := .ref (He.ga K "DrawError")) (by rfl) T.g_DrawError rfl) pa_nil))))))))) (pss_one (ps_ret pe_bl))), ?_⟩
  refine fn_rd (n := 1) (mb := fun i => B__law_no_number i.1) h (fun i => by show m__law_no_number i.1 = M.run (B__law_no_number i.1); unfold m__law_no_number; rfl) (fun _ => rfl) (fun i => ?_)
  obtain ⟨v_thing, _⟩ := i
  show Rd K _ _ _ [.val (d v_thing), .any] (B__law_no_number v_thing)
  unfold B__law_no_number
  exact (rd_try_drop rk_id (fun c hc => by cases List.mem_singleton.mp hc; exact T.exm_BadNumber) (fun W' => (ev_call' (ec_cons (ev_var (i := 0) (a := v_thing)) ec_nil))) (fun a dd c' fs hc => by cases List.mem_singleton.mp hc; exact (ev_and (ev_op om_eqS (ev_cb' cm_repr (ec_cons (ev_xf (i := 1) (c := "BadNumber") (fs := fs) rfl rfl) ec_nil)) (ev_cb' cm_repr (ec_cons (ev_var (i := 0) (a := v_thing)) ec_nil))) (ev_isE (i := 1) (c := "BadNumber") (fs := fs) T.x_BadNumber rfl relref T.kit_BadNumber_DrawError))) (fun (x8 : Rt) => (rd_nil (rd_rets ev_bl))))
theorem sc__law_lists_right : FnScope ["_law_box_here", "_law_pairs", "_law_numbers", "_law_kept", "_law_whole", "_law_most", "_law_fewest", "_law_pair_here", "_law_told", "_law_number"] (["_law_box_here", "_law_pairs"] : List Str) (defScope s__law_lists_right) := ⟨rfl, rfl, rfl, by decide +kernel, rfl, by decide +kernel, by decide +kernel⟩
noncomputable def m__law_lists_right (v_pairs : (List (Int × Int))) : M Bool := (((pure v_pairs) >>= fun xs16 => lcM (fun (v_pair_here : (Int × Int)) => pure true) (fun (v_pair_here : (Int × Int)) => (((((pure v_pair_here) >>= fun x1 => pure x1.2) >>= fun x2 => ((pure (1 : Int)) >>= fun x3 => pure (decide (x2 > x3)))) >>= fun x7 => if x7 = true then pure true else (((pure (2 : Int)) >>= fun a4 => m__law_take a4) >>= fun x5 => ((pure (0 : Int)) >>= fun x6 => pure (decide (x5 = x6))))) >>= fun x15 => if x15 = true then ((((pure v_pair_here) >>= fun x8 => pure x8.1) >>= fun a10 => (((pure v_pair_here) >>= fun x9 => pure x9.2) >>= fun a11 => lft (newRt a10 a11))) >>= fun x13 => pure (Nm.r x13)) else (((pure v_pair_here) >>= fun x12 => pure x12.1) >>= fun x14 => pure (Nm.i x14)))) xs16) >>= fun v_numbers => (((pure v_numbers) >>= fun xs18 => lcM (fun (v_number : Nm) => pure true) (fun (v_number : Nm) => ((pure v_number) >>= fun a17 => strN m_Ratio___str__ a17)) xs18) >>= fun v_kept => (((pure (0 : Int)) >>= fun a19 => ((pure (1 : Int)) >>= fun a20 => pure (a19, a20))) >>= fun a25 => (((pure v_pairs) >>= fun x21 => ((pure (0 : Int)) >>= fun x22 => getM x21 x22)) >>= fun a26 => (((pure v_pairs) >>= fun x23 => ((pure (0 : Int)) >>= fun x24 => getM x23 x24)) >>= fun a27 => ((pure v_pairs) >>= fun xs29 => ((foldM (fun (v_pair_here : (Int × Int)) (s28 : (Int × Int) × (Int × Int) × (Int × Int)) => (((pure s28.1) >>= fun a30 => ((pure v_pair_here) >>= fun a31 => lft (m__law_plus a30 a31))) >>= fun v_whole => ((((pure s28.2.1) >>= fun a32 => ((pure v_pair_here) >>= fun a33 => lft (m__law_less a32 a33))) >>= fun x34 => if x34 = true then pure v_pair_here else pure s28.2.1) >>= fun v_most => ((((pure v_pair_here) >>= fun a35 => ((pure s28.2.2) >>= fun a36 => lft (m__law_less a35 a36))) >>= fun x37 => if x37 = true then pure v_pair_here else pure s28.2.2) >>= fun v_fewest => pure (v_whole, v_most, v_fewest))))) xs29 (a25, a26, a27)) >>= fun s28 => ((((pure v_numbers) >>= fun x39 => pure (Sq.l x39)) >>= fun a41 => ((((pure v_numbers) >>= fun a38 => pure (VT.mk a38)) >>= fun x40 => pure (Sq.t x40.l)) >>= fun a42 => pure [a41, a42])) >>= fun xs44 => after (N.forM (fun (v_told : (Sq Nm)) (s43 : Unit) => ((((((pure v_told) >>= fun a45 => lft (m_total a45)) >>= fun a46 => ((pure s28.1) >>= fun a47 => lft (m__law_is a46 a47))) >>= fun x48 => pure (!x48)) >>= fun x58 => if x58 = true then pure true else (((((pure v_told) >>= fun a49 => lft (m_greatest a49)) >>= fun a50 => ((pure s28.2.1) >>= fun a51 => lft (m__law_is a50 a51))) >>= fun x52 => pure (!x52)) >>= fun x57 => if x57 = true then pure true else ((((pure v_told) >>= fun a53 => lft (m_least a53)) >>= fun a54 => ((pure s28.2.2) >>= fun a55 => lft (m__law_is a54 a55))) >>= fun x56 => pure (!x56)))) >>= fun c59 => if c59 = true then ((pure false) >>= fun x60 => pure (.rt x60)) else pure (.nx ()))) xs44 ()) (fun s43 => ((((pure v_numbers) >>= fun xs62 => lcM (fun (v_number : Nm) => pure true) (fun (v_number : Nm) => ((pure v_number) >>= fun a61 => strN m_Ratio___str__ a61)) xs62) >>= fun x63 => ((pure v_kept) >>= fun x64 => eqD (d x63) (d x64))) >>= fun x71 => if x71 = true then ((((pure ([] : List Nm)) >>= fun x65 => pure (Sq.l x65)) >>= fun a66 => lft (m_total a66)) >>= fun a69 => (((pure (0 : Int)) >>= fun a67 => ((pure (1 : Int)) >>= fun a68 => pure (a67, a68))) >>= fun a70 => lft (m__law_is a69 a70))) else pure false)) id))))))))
abbrev sp__law_lists_right (K : PySem.W.Frag) : Sp := spB K fun (i : (List (Int × Int)) × Unit) => m__law_lists_right i.1
theorem ok__law_lists_right (F : FnP K "_law_lists_right" s__law_lists_right f fd) (T : TT P w K mg base) (c__law_take : Cal P w K mg base "_law_take" ["_law_box_here", "_law_many"] 1 (spB K fun (i : Int × Unit) => m__law_take i.1)) (k2_Ratio : KCal P w K mg base "Ratio" (He.ga K "Ratio") ["self", "top", "bottom"] 3 (sp_Ratio___init__ K) []) (m_Ratio___str__ : MCal P w K mg base (He.ga K "Ratio") "__str__" ["self"] 1 (sp_Ratio___str__ K)) (c__law_plus : Cal P w K mg base "_law_plus" ["_law_one", "_law_other"] 2 (sp__law_plus K)) (c__law_less : Cal P w K mg base "_law_less" ["_law_one", "_law_other"] 1 (sp__law_less K)) (c__law_is : Cal P w K mg base "_law_is" ["_law_ratio", "_law_pair_here"] 3 (sp__law_is K)) (c_total : Cal P w K mg base "total" ["numbers"] 6 (sp_total K)) (c_greatest : Cal P w K mg base "greatest" ["numbers"] 6 (sp_greatest K)) (c_least : Cal P w K mg base "least" ["numbers"] 7 (sp_least K)) : FnOk P w K mg base (CXL P w) 8 f fd ["_law_box_here", "_law_pairs"] (sp__law_lists_right K) := by
  refine F.ok sc__law_lists_right (fun vs H Q E h => spB_len h (fun _ => rfl)) (fun cdv A outer s H vs Q E hr h => ?_)
  have hu64 : (A.deeper (envOfC "_law_lists_right" (defScope s__law_lists_right) s.heap.objs.size f cdv)).units + 64 < cLine := by have := hr.un; omega
  refine ⟨_, (pss_cons (ps_setLc (i := 2) (own := [("_law_pair_here", 7)]) (g := gName 7) (tt := tYes) rfl sc__law_lists_right.nd rfl rfl (sw_true rfl rfl rfl (by decide +kernel)) (pi_listK (K := K) rfl (pv 1)) (blkOk_by (N := ["_law_box_here", "_law_pairs", "_law_numbers", "_law_kept", "_law_whole", "_law_most", "_law_fewest", "_law_pair_here", "_law_told", "_law_number"]) (sc := defScope s__law_lists_right) (by decide +kernel)) (fun _ _ _ _ _ => pg_name (i := 7) sc__law_lists_right.nd rfl (Or.inl rfl)) (fun _ _ _ _ _ => pts_nil) (fun _ _ _ _ _ => (pe_ifExp (PW.pt (pw_or (pt_cmpR op_gt (pe_ix (ix_tupK (K := K) rfl) (pv 7) pe_int (fun _ _ => rfl)) pe_int (nomark _)) (pw_or1 (pt_cmpR op_eq (pe_calS takesF c__law_take (hr.mono (by decide)) (by rfl) (pa_cons (pv 0) (pa_cons pe_int pa_nil))) pe_int (nomark _))))) (pe_kcalS takesF k2_Ratio (hr.mono (by decide)) (by rfl) (pa_cons (pe_ix (ix_tupK (K := K) rfl) (pv 7) pe_int (fun _ _ => rfl)) (pa_cons (pe_ix (ix_tupK (K := K) rfl) (pv 7) pe_int (fun _ _ => rfl)) pa_nil))) (pe_ix (ix_tupK (K := K) rfl) (pv 7) pe_int (fun _ _ => rfl))))) (pss_cons (ps_setLc (i := 3) (own := [("_law_number", 9)]) (g := gName 9) (tt := tYes) rfl sc__law_lists_right.nd rfl rfl (sw_true rfl rfl rfl (by decide +kernel)) (pi_listK (K := K) rfl (pv 2)) (blkOk_by (N := ["_law_box_here", "_law_pairs", "_law_numbers", "_law_kept", "_law_whole", "_law_most", "_law_fewest", "_law_pair_here", "_law_told", "_law_number"]) (sc := defScope s__law_lists_right) (by decide +kernel)) (fun _ _ _ _ _ => pg_name (i := 9) sc__law_lists_right.nd rfl (Or.inl rfl)) (fun _ _ _ _ _ => pts_nil) (fun _ _ _ _ _ => (pe_callTy (call_or call_str_int (nr_strK (K := K) rfl m_Ratio___str__ (hr.mono (by decide)))) (by rfl) T.m_str (by decide +kernel) (pa_cons (pv 9) pa_nil)))) (pss_cons (ps_par3 (i := 4) (j := 5) (l := 6) rfl sc__law_lists_right.nd rfl rfl rfl (by decide) (by decide) (by decide) rfl rfl rfl (pa_cons (pe_tup (pa_cons pe_int (pa_cons pe_int pa_nil))) (pa_cons (pe_ix (ix_listK (K := K) rfl) (pv 1) pe_int (fun _ _ => rfl)) (pa_cons (pe_ix (ix_listK (K := K) rfl) (pv 1) pe_int (fun _ _ => rfl)) pa_nil))) rfl) (pss_cons (ps_for passes_cx rfl (pi_listK (K := K) rfl (pv 1)) (pg_name (i := 7) sc__law_lists_right.nd rfl (Or.inl rfl)) (pss_cons (ps_set (i := 4) sc__law_lists_right.nd rfl (Or.inl rfl) (pe_calS takes_cx c__law_plus (hr.mono (by decide)) (by rfl) (pa_cons (pv 4) (pa_cons (pv 7) pa_nil)))) (pss_cons (ps_set (i := 5) sc__law_lists_right.nd rfl (Or.inl rfl) (pe_ifExp (pt_val (pe_calS takes_cx c__law_less (hr.mono (by decide)) (by rfl) (pa_cons (pv 5) (pa_cons (pv 7) pa_nil)))) (pv 7) (pv 5))) (pss_one (ps_set (i := 6) sc__law_lists_right.nd rfl (Or.inl rfl) (pe_ifExp (pt_val (pe_calS takes_cx c__law_less (hr.mono (by decide)) (by rfl) (pa_cons (pv 7) (pa_cons (pv 6) pa_nil)))) (pv 7) (pv 6))))))) (pss_cons (ps_for passes_cx rfl (pi_listK (K := K) rfl (pe_lst (pa_cons (pv 2) (pa_cons (pe_callTy (call_tuple_ofK (K := K) rfl) (by rfl) T.m_tuple (by decide +kernel) (pa_cons (pv 2) pa_nil)) pa_nil)))) (pg_name (i := 8) sc__law_lists_right.nd rfl (Or.inl rfl)) (pss_one (ps_if (PW.pt (pw_or (pt_not (pt_val (pe_calS takes_cx c__law_is (hr.mono (by decide)) (by rfl) (pa_cons (pe_calS takes_cx c_total (hr.mono (by decide)) (by rfl) (pa_cons (pv 8) pa_nil)) (pa_cons (pv 4) pa_nil))))) (pw_or (pt_not (pt_val (pe_calS takes_cx c__law_is (hr.mono (by decide)) (by rfl) (pa_cons (pe_calS takes_cx c_greatest (hr.mono (by decide)) (by rfl) (pa_cons (pv 8) pa_nil)) (pa_cons (pv 5) pa_nil))))) (pw_or1 (pt_not (pt_val (pe_calS takes_cx c__law_is (hr.mono (by decide)) (by rfl) (pa_cons (pe_calS takes_cx c_least (hr.mono (by decide)) (by rfl) (pa_cons (pv 8) pa_nil)) (pa_cons (pv 6) pa_nil))))))))) (pss_one (ps_ret pe_bl)) pss_nil))) (pss_one (ps_ret (pe_and (pe_cmpR (op_eqDK (K := K) rfl hu64) (pe_lc (own := [("_law_number", 9)]) (g := gName 9) (tt := tYes) rfl sc__law_lists_right.nd (pi_listK (K := K) rfl (pv 2)) (blkOk_by (N := ["_law_box_here", "_law_pairs", "_law_numbers", "_law_kept", "_law_whole", "_law_most", "_law_fewest", "_law_pair_here", "_law_told", "_law_number"]) (sc := defScope s__law_lists_right) (by decide +kernel)) (fun _ _ _ _ _ => pg_name (i := 9) sc__law_lists_right.nd rfl (Or.inl rfl)) (fun _ _ _ _ _ => pts_nil) (fun _ _ _ _ _ => (pe_callTy (call_or call_str_int (nr_strK (K := K) rfl m_Ratio___str__ (hr.mono (by decide)))) (by rfl) T.m_str (by decide +kernel) (pa_cons (pv 9) pa_nil)))) (pv 3) (nomark _)) (pe_one (pe_calS takes_cx c__law_is (hr.mono (by decide)) (by rfl) (pa_cons (pe_calS takes_cx c_total (hr.mono (by decide)) (by rfl) (pa_cons (pe_lst pa_nil) pa_nil)) (pa_cons (pe_tup (pa_cons pe_int (pa_cons pe_int pa_nil))) pa_nil)))))))))))), ?_⟩
  refine fn_rdB (n := 8) h (fun _ => rfl) (fun i => ?_)
  obtain ⟨v_pairs, _⟩ := i
  show Rd K _ _ _ [.box, .val (d v_pairs), .any, .any, .any, .any, .any, .any, .any, .any] (m__law_lists_right v_pairs)
  unfold m__law_lists_right
  exact (rd_set (ev_lc (ei_up (ei_list (ev_var (i := 1) (a := v_pairs)))) tg_name (fun (v_pair_here : (Int × Int)) => et_yes) (fun (v_pair_here : (Int × Int)) => (ev_if (et_or (et_test (ev_op om_gtI (ev_ixT (j := 1) (g := fun x => x.2) (ev_var (i := 7) (a := v_pair_here))) ev_int)) (et_test (ev_op om_eqI (ev_callB' (j := 0) (ec_cons ev_int ec_nil)) ev_int))) (ev_as (α := Rt) (β := Nm) (f := fun x => (Nm.r x)) (mk2_Ratio (ec_cons (ev_ixT (j := 0) (g := fun x => x.1) (ev_var (i := 7) (a := v_pair_here))) (ec_cons (ev_ixT (j := 1) (g := fun x => x.2) (ev_var (i := 7) (a := v_pair_here))) ec_nil))) (fun _ => rfl)) (ev_as (α := Int) (β := Nm) (f := fun x => (Nm.i x)) (ev_ixT (j := 0) (g := fun x => x.1) (ev_var (i := 7) (a := v_pair_here))) (fun _ => rfl))))) (fun (v_numbers : (List Nm)) => (rd_set (ev_lc (ei_up (ei_list (ev_var (i := 2) (a := v_numbers)))) tg_name (fun (v_number : Nm) => et_yes) (fun (v_number : Nm) => (ev_cb' cm_strN (ec_cons (ev_var (i := 9) (a := v_number)) ec_nil)))) (fun (v_kept : (List Str)) => (rd_par3' (ec_cons (ev_tup' (ec_cons ev_int (ec_cons ev_int ec_nil)) (fun i => (i.1, i.2.1))) (ec_cons (ev_op om_ixL (ev_var (i := 1) (a := v_pairs)) ev_int) (ec_cons (ev_op om_ixL (ev_var (i := 1) (a := v_pairs)) ev_int) ec_nil))) (fun (a25 : (Int × Int)) (a26 : (Int × Int)) (a27 : (Int × Int)) => (rd_fold (S := (Int × Int) × (Int × Int) × (Int × Int)) (Γn := fun s28 => [.box, .val (d v_pairs), .val (d v_numbers), .val (d v_kept), .val (d s28.1), .val (d s28.2.1), .val (d s28.2.2), .any, .any, .any]) (s0 := (a25, a26, a27)) (.eq (.eq (.eq (.eq (.eq (.eq (.eq (.any (.any (.any .nil)))))))))) (ei_list (ev_var (i := 1) (a := v_pairs))) tg_name (fun _ => up1) (fun (v_pair_here : (Int × Int)) s28 => (rd_set (ev_call' (ec_cons (ev_var (i := 4) (a := s28.1)) (ec_cons (ev_var (i := 7) (a := v_pair_here)) ec_nil))) (fun (v_whole : (Int × Int)) => (rd_set (ev_if (et_val (ev_call' (ec_cons (ev_var (i := 5) (a := s28.2.1)) (ec_cons (ev_var (i := 7) (a := v_pair_here)) ec_nil)))) (ev_var (i := 7) (a := v_pair_here)) (ev_var (i := 5) (a := s28.2.1))) (fun (v_most : (Int × Int)) => (rd_nil (rd_set (ev_if (et_val (ev_call' (ec_cons (ev_var (i := 7) (a := v_pair_here)) (ec_cons (ev_var (i := 6) (a := s28.2.2)) ec_nil)))) (ev_var (i := 7) (a := v_pair_here)) (ev_var (i := 6) (a := s28.2.2))) (fun (v_fewest : (Int × Int)) => (rd_next (s := (v_whole, v_most, v_fewest)) (.eq (.eq (.eq (.eq (.eq (.eq (.eq (.any (.any (.any .nil))))))))))))))))))) (fun s28 => (rd_for (S := Unit) (ρ := Bool) (rk := id) (Γn := fun s43 => [.box, .val (d v_pairs), .val (d v_numbers), .val (d v_kept), .val (d s28.1), .val (d s28.2.1), .val (d s28.2.2), .any, .any, .any]) (s0 := ()) (.eq (.eq (.eq (.eq (.eq (.eq (.eq (.any (.any (.any .nil)))))))))) rk_id (ei_list (ev_lst' (ec_cons (ev_as (α := (List Nm)) (β := (Sq Nm)) (f := fun x => (Sq.l x)) (ev_var (i := 2) (a := v_numbers)) (fun _ => rfl)) (ec_cons (ev_as (α := (VT Nm)) (β := (Sq Nm)) (f := fun x => (Sq.t x.l)) (ev_cb' cm_tupL (ec_cons (ev_var (i := 2) (a := v_numbers)) ec_nil)) (fun _ => rfl)) ec_nil)) (fun i => [i.1, i.2.1]))) tg_name (fun _ => up1) (fun (v_told : (Sq Nm)) s43 => (rd_nil (rd_if (et_or (et_not (et_val (ev_call' (ec_cons (ev_call' (ec_cons (ev_var (i := 8) (a := v_told)) ec_nil)) (ec_cons (ev_var (i := 4) (a := s28.1)) ec_nil))))) (et_or (et_not (et_val (ev_call' (ec_cons (ev_call' (ec_cons (ev_var (i := 8) (a := v_told)) ec_nil)) (ec_cons (ev_var (i := 5) (a := s28.2.1)) ec_nil))))) (et_not (et_val (ev_call' (ec_cons (ev_call' (ec_cons (ev_var (i := 8) (a := v_told)) ec_nil)) (ec_cons (ev_var (i := 6) (a := s28.2.2)) ec_nil))))))) (rd_retks rk_rt ev_bl) (rd_skip (rd_nx (s := ()) (.eq (.eq (.eq (.eq (.eq (.eq (.eq (.any (.any (.any .nil))))))))))))))) (fun s43 => (rd_nil (rd_rets (ev_and (ev_op om_eqD (ev_lc (ei_up (ei_list (ev_var (i := 2) (a := v_numbers)))) tg_name (fun (v_number : Nm) => et_yes) (fun (v_number : Nm) => (ev_cb' cm_strN (ec_cons (ev_var (i := 9) (a := v_number)) ec_nil)))) (ev_var (i := 3) (a := v_kept))) (ev_call' (ec_cons (ev_call' (ec_cons (ev_as (α := (List Nm)) (β := (Sq Nm)) (f := fun x => (Sq.l x)) (ev_lst' ec_nil (fun _ => ([] : List Nm))) (fun _ => rfl)) ec_nil)) (ec_cons (ev_tup' (ec_cons ev_int (ec_cons ev_int ec_nil)) (fun i => (i.1, i.2.1))) ec_nil))))))))))))))))
end
end K03


set_option Elab.async false
set_option linter.all false
set_option maxRecDepth 100000
set_option maxHeartbeats 4000000
namespace K03
open PySem PySem.Spec PyProof.Rows L2 J N
open M
open ToD (d)
open ToDs (ds)
section
variable {P : Program} {w : World} {K : PySem.W.Frag} {mg : Str → Option Value} {base : Heap} {f : Addr} {fd : FuncData}
theorem b01 (b : Bool) : (0 : Int) ≤ (if b = true then 1 else 0) ∧ (if b = true then (1 : Int) else 0) ≤ 1 := by cases b <;> decide
theorem b01r (b : Bool) : -(2 : Int) ^ 64 < (if b = true then 1 else 0) ∧ (if b = true then (1 : Int) else 0) < (2 : Int) ^ 64 := ⟨Int.lt_of_lt_of_le (by decide) (b01 b).1, Int.lt_of_le_of_lt (b01 b).2 (by decide)⟩
theorem scCell : FnScope ["_law_script", "_law_k"] ["_law_script", "_law_k"] (defScope s__law_cell) := ⟨rfl, rfl, rfl, by decide +kernel, rfl, by decide +kernel, by decide +kernel⟩
theorem ok_cell (F : FnP K "_law_cell" s__law_cell f fd) (mL : mg "len" = none) : FnOk P w K mg base CX0 1 f fd ["_law_script", "_law_k"] (spCellL K) := by
  refine F.ok scCell (fun vs H Q E h => ?_) (fun cdv A outer s H vs Q E hr h => ?_)
  · obtain ⟨a, ns, k, rfl, _⟩ := h
    rfl
  · obtain ⟨a, ns, k, rfl, hS, hn, h0, hk, q⟩ := h
    refine ⟨_, PSs.nox (pss_cons (ps_if (pt_cmpR op_lt (pv 1) (pe_callB call_len (by rfl) mL PySem.boot_len (pa_cons (pv 0) pa_nil)) (nomark _)) (pss_one (ps_ret (pe_ix ix_list (pv 0) (pv 1) (fun _ _ => rfl)))) pss_nil)
      (pss_one (ps_ret (pe_op op_add (pe_op op_mul pe_int (pv 1)) pe_int)))), ?_⟩
    refine ⟨_, rfl, _, rfl, .ref a, (ns.map V.int).length, rfl, Or.inl ⟨_, hS, rfl⟩, _, _, rfl, rfl, _, rfl, ?_⟩
    refine ite2 (fun h1 => ?_) (fun h1 => ?_)
    · have h2 : k < ((ns.map V.int).length : Nat) := of_decide_eq_true h1
      obtain ⟨j, rfl⟩ : ∃ j : Nat, k = (j : Int) := ⟨k.toNat, by omega⟩
      rw [List.length_map] at h2
      have h3 : j < ns.length := by omega
      exact ⟨_, rfl, _, rfl, a, _, _, _, rfl, rfl, hS, atI_nat (by rw [List.getElem?_map, List.getElem?_eq_getElem h3]; rfl), q _⟩
    · exact ⟨_, rfl, _, _, rfl, rfl, Or.inr ⟨by omega, by omega⟩, _, _, rfl, rfl, q _⟩
theorem scBox : FnScope ["_law_cell_here"] ["_law_cell_here"] (defScope s__law_box) := ⟨rfl, rfl, rfl, by decide +kernel, rfl, by decide +kernel, by decide +kernel⟩
theorem ok_box (F : FnP K "_law_box" s__law_box f fd) (mA : mg "abs" = none) (mI : mg "int" = none) : FnOk P w K mg base CX0 1 f fd ["_law_cell_here"] spBoxL := by
  refine F.ok scBox (fun vs H Q E h => ?_) (fun cdv A outer s H vs Q E hr h => ?_)
  · obtain ⟨i, rfl, _⟩ := h
    rfl
  · obtain ⟨i, rfl, q⟩ := h
    refine ⟨_, PSs.nox (pss_one (ps_ret (pe_lst (pa_cons
        (pe_op op_mul (pe_callB call_abs (by rfl) mA PyProof.Rows.boot_abs (pa_cons (pv 0) pa_nil))
          (pe_callTy call_int1 (by rfl) mI (by decide +kernel) (pa_cons (pe_cmpR op_ge (pe_callB call_abs (by rfl) mA PyProof.Rows.boot_abs (pa_cons (pv 0) pa_nil)) (pe_op op_pow pe_int pe_int) (nomark _)) pa_nil)))
      (pa_cons (pe_op op_add (pe_op op_mod (pe_callTy call_int1 (by rfl) mI (by decide +kernel) (pa_cons (pe_callB call_abs (by rfl) mA PyProof.Rows.boot_abs (pa_cons (pv 0) pa_nil)) pa_nil)) pe_int)
          (pe_callTy call_int1 (by rfl) mI (by decide +kernel) (pa_cons (pe_cmpR op_lt (pv 0) pe_int (nomark _)) pa_nil)))
      (pa_cons pe_int pa_nil)))))), ?_⟩
    refine ⟨_, rfl, _, rfl, _, rfl, _, rfl, _, _, rfl, rfl, ⟨by decide, by decide, by decide⟩, _, _, rfl, rfl, Or.inr ⟨_, rfl, _, _, rfl, rfl, Or.inr ?_, ?_⟩⟩
    · exact b01r _
    refine ⟨_, rfl, _, rfl, Or.inl ⟨_, rfl, _, _, rfl, rfl, (by show (0 : Int) < 2147483629; decide), _, rfl, _, _, rfl, rfl, Or.inr ⟨_, rfl, _, _, rfl, rfl, ?_⟩⟩⟩
    refine ⟨(by show 3 ≤ sizeLine; decide), fun p hp => ?_⟩
    refine q p _ hp ⟨_, _, _, upd_same, ?_, ?_, ?_, by decide, by decide⟩ fun z hz => upd_ne hz
    · exact Int.mul_nonneg (by split <;> omega) (b01 _).1
    · have h1 := Int.emod_nonneg (if i < 0 then -i else i) (show (2147483629 : Int) ≠ 0 by decide)
      have h2 := b01 (decide (i < 0))
      exact Int.add_nonneg h1 h2.1
    · have h1 := Int.emod_lt_of_pos (if i < 0 then -i else i) (show (0 : Int) < 2147483629 by decide)
      have h2 := b01 (decide (i < 0))
      refine Int.lt_of_lt_of_le (Int.add_lt_add_of_lt_of_le h1 h2.2) (by decide)
theorem sc_law : FnScope ["_law_script", "_law_k", "_law_box_here", "_law_pairs", "_law_pair_here", "_law_ratio", "_law_text", "_law_some", "_law_odd", "_law_thing", "_law_turn"] (["_law_script"] : List Str) (defScope s_law) := ⟨rfl, rfl, rfl, by decide +kernel, rfl, by decide +kernel, by decide +kernel⟩
def spLaw (K : PySem.W.Frag) : Sp := fun vs H Q _ => ∃ (a : Addr) (ns : List Int), vs = [.ref a] ∧ SqL K H a (ns.map V.int) ∧ ns.length ≤ 63 ∧ ∀ H', Q (.bl true) H'
noncomputable def B_law (v_k : Int) : M (Step Unit Bool) := (((((pure (1 : Int)) >>= fun x2 => (((pure (5 : Int)) >>= fun a1 => m__law_take a1) >>= fun x3 => pure (x2 + x3))) >>= fun x5 => rng1 x5) >>= fun xs6 => lcM (fun (v_turn : Int) => pure true) (fun (v_turn : Int) => m__law_pair) xs6) >>= fun v_pairs => (((pure v_pairs) >>= fun x7 => ((pure (0 : Int)) >>= fun x8 => getM x7 x8)) >>= fun v_pair_here => (((((pure v_pair_here) >>= fun x9 => pure x9.1) >>= fun x10 => ((pure (6 : Int)) >>= fun x11 => mulM x10 x11)) >>= fun a15 => ((((pure v_pair_here) >>= fun x12 => pure x12.2) >>= fun x13 => ((pure (6 : Int)) >>= fun x14 => mulM x13 x14)) >>= fun a16 => lft (newRt a15 a16))) >>= fun v_ratio => (((pure v_pair_here) >>= fun a17 => lft (m__law_written a17)) >>= fun v_text => (((((pure v_ratio) >>= fun x18 => strict (lft (m_Ratio_text x18))) >>= fun x19 => ((pure v_text) >>= fun x20 => pure (!decide (x19 = x20)))) >>= fun x30 => if x30 = true then pure true else ((((pure v_ratio) >>= fun a21 => strict (lft (m_Ratio___str__ a21))) >>= fun x22 => ((pure v_text) >>= fun x23 => pure (!decide (x22 = x23)))) >>= fun x29 => if x29 = true then pure true else (((((pure v_ratio) >>= fun x24 => pure ((d x24 : D))) >>= fun a25 => lft (m_as_ratio a25)) >>= fun a26 => ((pure v_pair_here) >>= fun a27 => lft (m__law_is a26 a27))) >>= fun x28 => pure (!x28)))) >>= fun c31 => if c31 = true then ((pure false) >>= fun x32 => pure (.rt x32)) else (((((((pure v_pair_here) >>= fun x33 => pure x33.1) >>= fun x34 => pure ((d x34 : D))) >>= fun a35 => lft (m_as_ratio a35)) >>= fun a39 => ((((pure v_pair_here) >>= fun x36 => pure x36.1) >>= fun a37 => ((pure (1 : Int)) >>= fun a38 => pure (a37, a38))) >>= fun a40 => lft (m__law_is a39 a40))) >>= fun x41 => pure (!x41)) >>= fun c42 => if c42 = true then ((pure false) >>= fun x43 => pure (.rt x43)) else (((pure v_text) >>= fun a52 => (((pure v_text) >>= fun a44 => m__law_near a44) >>= fun a53 => (((pure v_text) >>= fun a45 => m__law_near a45) >>= fun a54 => (((pure ("+" : Str)) >>= fun x46 => ((pure v_text) >>= fun x47 => addS x46 x47)) >>= fun a55 => (((pure ("0" : Str)) >>= fun x48 => ((pure v_text) >>= fun x49 => addS x48 x49)) >>= fun a56 => (((pure v_text) >>= fun x50 => ((pure ("/1" : Str)) >>= fun x51 => addS x50 x51)) >>= fun a57 => ((pure ("-0" : Str)) >>= fun a58 => ((pure ("2/4" : Str)) >>= fun a59 => ((pure ("" : Str)) >>= fun a60 => pure [a52, a53, a54, a55, a56, a57, a58, a59, a60]))))))))) >>= fun v_some => (((((pure ()) >>= fun x65 => pure ((d x65 : D))) >>= fun a76 => (((pure (3 : Int)) >>= fun x66 => pure ((d x66 : D))) >>= fun a77 => (((pure true) >>= fun x67 => pure ((d x67 : D))) >>= fun a78 => ((((pure v_text) >>= fun a61 => pure [a61]) >>= fun x68 => pure ((d x68 : D))) >>= fun a79 => ((((pure v_text) >>= fun a62 => pure (VT.mk [a62])) >>= fun x69 => pure ((d x69 : D))) >>= fun a80 => ((pure (D.dic [])) >>= fun a81 => (((pure ("/" : Str)) >>= fun x70 => pure ((d x70 : D))) >>= fun a82 => (((pure ("-" : Str)) >>= fun x71 => pure ((d x71 : D))) >>= fun a83 => (((pure ("1/0" : Str)) >>= fun x72 => pure ((d x72 : D))) >>= fun a84 => (((pure ("--1" : Str)) >>= fun x73 => pure ((d x73 : D))) >>= fun a85 => (((pure ("1/-2" : Str)) >>= fun x74 => pure ((d x74 : D))) >>= fun a86 => ((((pure ("-" : Str)) >>= fun x63 => ((pure v_text) >>= fun x64 => addS x63 x64)) >>= fun x75 => pure ((d x75 : D))) >>= fun a87 => pure [a76, a77, a78, a79, a80, a81, a82, a83, a84, a85, a86, a87])))))))))))) >>= fun x89 => (((pure (12 : Int)) >>= fun a88 => m__law_take a88) >>= fun x90 => getM x89 x90)) >>= fun v_odd => ((((pure v_some) >>= fun x106 => pure (x106.map (fun (y107 : Str) => (d y107 : D)))) >>= fun x109 => (((pure v_odd) >>= fun a103 => ((((pure v_text) >>= fun x91 => ((pure (" " : Str)) >>= fun x92 => addS x91 x92)) >>= fun x101 => pure ((d x101 : D))) >>= fun a104 => (((((((pure v_pair_here) >>= fun x93 => pure x93.1) >>= fun a94 => fmtI a94) >>= fun x95 => ((pure ("/" : Str)) >>= fun x96 => addS x95 x96)) >>= fun x99 => ((((pure v_pair_here) >>= fun x97 => pure x97.2) >>= fun a98 => fmtI a98) >>= fun x100 => addS x99 x100)) >>= fun x102 => pure ((d x102 : D))) >>= fun a105 => pure [a103, a104, a105]))) >>= fun x110 => catM x109 x110)) >>= fun xs112 => after (N.forM (fun (v_thing : D) (s111 : Unit) => ((((pure v_thing) >>= fun a113 => lft (m__law_read_right a113)) >>= fun x114 => pure (!x114)) >>= fun c115 => if c115 = true then ((pure false) >>= fun x116 => pure (.rt x116)) else pure (.nx ()))) xs112 ()) (fun s111 => ((((pure ()) >>= fun x120 => pure ((d x120 : D))) >>= fun a126 => (((pure true) >>= fun x121 => pure ((d x121 : D))) >>= fun a127 => (((pure false) >>= fun x122 => pure ((d x122 : D))) >>= fun a128 => (((pure v_text) >>= fun x123 => pure ((d x123 : D))) >>= fun a129 => ((((pure (1 : Int)) >>= fun a117 => pure [a117]) >>= fun x124 => pure ((d x124 : D))) >>= fun a130 => ((((pure (1 : Int)) >>= fun a118 => ((pure (2 : Int)) >>= fun a119 => pure (a118, a119))) >>= fun x125 => pure ((d x125 : D))) >>= fun a131 => ((pure (D.dic [])) >>= fun a132 => pure [a126, a127, a128, a129, a130, a131, a132]))))))) >>= fun xs134 => after (N.forM (fun (v_thing : D) (s133 : Unit) => ((((pure v_thing) >>= fun a135 => lft (m__law_no_number a135)) >>= fun x136 => pure (!x136)) >>= fun c137 => if c137 = true then ((pure false) >>= fun x138 => pure (.rt x138)) else pure (.nx ()))) xs134 ()) (fun s133 => ((((pure v_pairs) >>= fun a139 => m__law_lists_right a139) >>= fun x140 => pure (!x140)) >>= fun c141 => if c141 = true then ((pure false) >>= fun x142 => pure (.rt x142)) else pure (.nx ()))) Step.rt)) Step.rt)))))))))
theorem ok_law (hlaw : ∀ (k : Int) (b : Bx), InvB 0 b → ∃ b', B_law k b = (b', .ok (.nx ()))) (F : FnP K "law" s_law f fd) (T : TT P w K mg base) (c__law_take : Cal P w K mg base "_law_take" ["_law_box_here", "_law_many"] 1 (spB K fun (i : Int × Unit) => m__law_take i.1)) (c__law_pair : Cal P w K mg base "_law_pair" ["_law_box_here"] 2 (sp__law_pair K)) (k2_Ratio : KCal P w K mg base "Ratio" (He.ga K "Ratio") ["self", "top", "bottom"] 3 (sp_Ratio___init__ K) []) (c__law_written : Cal P w K mg base "_law_written" ["_law_pair_here"] 1 (sp__law_written K)) (m_Ratio_text : MCal P w K mg base (He.ga K "Ratio") "text" ["self"] 4 (sp_Ratio_text K)) (m_Ratio___str__ : MCal P w K mg base (He.ga K "Ratio") "__str__" ["self"] 1 (sp_Ratio___str__ K)) (c__law_is : Cal P w K mg base "_law_is" ["_law_ratio", "_law_pair_here"] 3 (sp__law_is K)) (c_as_ratio : Cal P w K mg base "as_ratio" ["value"] 5 (sp_as_ratio K)) (c__law_near : Cal P w K mg base "_law_near" ["_law_box_here", "_law_text"] 2 (sp__law_near K)) (c__law_read_right : CalG P w K mg base "_law_read_right" ["_law_text"] 6 (sp__law_read_right K)) (c__law_no_number : CalG P w K mg base "_law_no_number" ["_law_thing"] 6 (sp__law_no_number K)) (c__law_lists_right : Cal P w K mg base "_law_lists_right" ["_law_box_here", "_law_pairs"] 8 (sp__law_lists_right K)) (c__law_cell : Cal P w K mg base "_law_cell" ["_law_script", "_law_k"] 1 (spCellL K)) (c__law_box : Cal P w K mg base "_law_box" ["_law_cell_here"] 1 spBoxL) : FnG P w K mg base (CXL P w) 9 f fd ["_law_script"] (spLaw K) := by
  refine fnG_of F sc_law (fun vs H Q E h => by obtain ⟨a, ns, rfl, _⟩ := h; rfl) (fun cdv A outer s H vs Q E hg hr h => ?_)
  refine ⟨_, (pss_cons (ps_for passes_cx rfl (pi_range1 (by rfl) T.m_range (pa_cons (pe_callB (call_max2 rfl) (by rfl) T.m_max PyProof.Rows.boot_max (pa_cons pe_int (pa_cons (pe_callB (call_min2 rfl) (by rfl) T.m_min PyProof.Rows.boot_min (pa_cons pe_int (pa_cons (pe_callB (call_len_seqK (K := K) rfl) (by rfl) T.m_len PySem.boot_len (pa_cons (pv 0) pa_nil)) pa_nil))) pa_nil))) pa_nil)) (pg_name (i := 1) sc_law.nd rfl (Or.inl rfl)) (pss_cons (ps_set (i := 2) sc_law.nd rfl (Or.inr rfl) (pe_calS takes_cx c__law_box (hr.mono (by decide)) (by rfl) (pa_cons (pe_calS takes_cx c__law_cell (hr.mono (by decide)) (by rfl) (pa_cons (pv 0) (pa_cons (pv 1) pa_nil))) pa_nil))) (pss_cons (ps_setLc (i := 3) (own := [("_law_turn", 10)]) (g := gName 10) (tt := tYes) rfl sc_law.nd rfl rfl (sw_true rfl rfl rfl (by decide +kernel)) (pi_range1 (by rfl) T.m_range (pa_cons (pe_op op_add pe_int (pe_calS takes_cx c__law_take (hr.mono (by decide)) (by rfl) (pa_cons (pv 2) (pa_cons pe_int pa_nil)))) pa_nil)) (blkOk_by (N := ["_law_script", "_law_k", "_law_box_here", "_law_pairs", "_law_pair_here", "_law_ratio", "_law_text", "_law_some", "_law_odd", "_law_thing", "_law_turn"]) (sc := defScope s_law) (by decide +kernel)) (fun _ _ _ _ _ => pg_name (i := 10) sc_law.nd rfl (Or.inl rfl)) (fun _ _ _ _ _ => pts_nil) (fun _ _ _ _ _ => (pe_calS takesF c__law_pair (hr.mono (by decide)) (by rfl) (pa_cons (pv 2) pa_nil)))) (pss_cons (ps_set (i := 4) sc_law.nd rfl (Or.inl rfl) (pe_ix (ix_listK (K := K) rfl) (pv 3) pe_int (fun _ _ => rfl))) (pss_cons (ps_set (i := 5) sc_law.nd rfl (Or.inl rfl) (pe_kcalS takes_cx k2_Ratio (hr.mono (by decide)) (by rfl) (pa_cons (pe_op op_mulW (pe_ix (ix_tupK (K := K) rfl) (pv 4) pe_int (fun _ _ => rfl)) pe_int) (pa_cons (pe_op op_mulW (pe_ix (ix_tupK (K := K) rfl) (pv 4) pe_int (fun _ _ => rfl)) pe_int) pa_nil)))) (pss_cons (ps_set (i := 6) sc_law.nd rfl (Or.inl rfl) (pe_calS takes_cx c__law_written (hr.mono (by decide)) (by rfl) (pa_cons (pv 4) pa_nil))) (pss_cons (ps_if (PW.pt (pw_or (pt_cmpR op_ne (pe_mcal0 m_Ratio_text T.cl_Ratio (hr.mono (by decide)) (pv 5)) (pv 6) (nomark _)) (pw_or (pt_cmpR op_ne (pe_callTy (nr_strK (K := K) rfl m_Ratio___str__ (hr.mono (by decide))) (by rfl) T.m_str (by decide +kernel) (pa_cons (pv 5) pa_nil)) (pv 6) (nomark _)) (pw_or1 (pt_not (pt_val (pe_calS takes_cx c__law_is (hr.mono (by decide)) (by rfl) (pa_cons (pe_calS takes_cx c_as_ratio (hr.mono (by decide)) (by rfl) (pa_cons (pv 5) pa_nil)) (pa_cons (pv 4) pa_nil))))))))) (pss_one (ps_ret pe_bl)) pss_nil) (pss_cons (ps_if (pt_not (pt_val (pe_calS takes_cx c__law_is (hr.mono (by decide)) (by rfl) (pa_cons (pe_calS takes_cx c_as_ratio (hr.mono (by decide)) (by rfl) (pa_cons (pe_ix (ix_tupK (K := K) rfl) (pv 4) pe_int (fun _ _ => rfl)) pa_nil)) (pa_cons (pe_tup (pa_cons (pe_ix (ix_tupK (K := K) rfl) (pv 4) pe_int (fun _ _ => rfl)) (pa_cons pe_int pa_nil))) pa_nil))))) (pss_one (ps_ret pe_bl)) pss_nil) (pss_cons (ps_set (i := 7) sc_law.nd rfl (Or.inl rfl) (pe_lst (pa_cons (pv 6) (pa_cons (pe_calS takes_cx c__law_near (hr.mono (by decide)) (by rfl) (pa_cons (pv 2) (pa_cons (pv 6) pa_nil))) (pa_cons (pe_calS takes_cx c__law_near (hr.mono (by decide)) (by rfl) (pa_cons (pv 2) (pa_cons (pv 6) pa_nil))) (pa_cons (pe_op op_add_str pe_str (pv 6)) (pa_cons (pe_op op_add_str pe_str (pv 6)) (pa_cons (pe_op op_add_str (pv 6) pe_str) (pa_cons pe_str (pa_cons pe_str (pa_cons pe_str pa_nil))))))))))) (pss_cons (ps_set (i := 8) sc_law.nd rfl (Or.inl rfl) (pe_ix (ix_listK (K := K) rfl) (pe_lst (pa_cons pe_non (pa_cons pe_int (pa_cons pe_bl (pa_cons (pe_lst (pa_cons (pv 6) pa_nil)) (pa_cons (pe_tup (pa_cons (pv 6) pa_nil)) (pa_cons pe_dnewK (pa_cons pe_str (pa_cons pe_str (pa_cons pe_str (pa_cons pe_str (pa_cons pe_str (pa_cons (pe_op op_add_str pe_str (pv 6)) pa_nil))))))))))))) (pe_calS takes_cx c__law_take (hr.mono (by decide)) (by rfl) (pa_cons (pv 2) (pa_cons pe_int pa_nil))) (fun _ _ => rfl))) (pss_cons (ps_for passes_cx rfl (pi_listK (K := K) rfl (pe_op op_cat (pv 7) (pe_lst (pa_cons (pv 8) (pa_cons (pe_op op_add_str (pv 6) pe_str) (pa_cons (pe_op op_add_str (pe_op op_add_str (pe_callTy call_str_int (by rfl) T.m_str (by decide +kernel) (pa_cons (pe_ix (ix_tupK (K := K) rfl) (pv 4) pe_int (fun _ _ => rfl)) pa_nil)) pe_str) (pe_callTy call_str_int (by rfl) T.m_str (by decide +kernel) (pa_cons (pe_ix (ix_tupK (K := K) rfl) (pv 4) pe_int (fun _ _ => rfl)) pa_nil))) pa_nil)))))) (pg_name (i := 9) sc_law.nd rfl (Or.inl rfl)) (pss_one (ps_if (pt_not (pt_val (pe_calGS takes_cx c__law_read_right hg (hr.mono (by decide)) (by rfl) (pa_cons (pv 9) pa_nil)))) (pss_one (ps_ret pe_bl)) pss_nil))) (pss_cons (ps_for passes_cx rfl (pi_listK (K := K) rfl (pe_lst (pa_cons pe_non (pa_cons pe_bl (pa_cons pe_bl (pa_cons (pv 6) (pa_cons (pe_lst (pa_cons pe_int pa_nil)) (pa_cons (pe_tup (pa_cons pe_int (pa_cons pe_int pa_nil))) (pa_cons pe_dnewK pa_nil))))))))) (pg_name (i := 9) sc_law.nd rfl (Or.inl rfl)) (pss_one (ps_if (pt_not (pt_val (pe_calGS takes_cx c__law_no_number hg (hr.mono (by decide)) (by rfl) (pa_cons (pv 9) pa_nil)))) (pss_one (ps_ret pe_bl)) pss_nil))) (pss_one (ps_if (pt_not (pt_val (pe_calS takes_cx c__law_lists_right (hr.mono (by decide)) (by rfl) (pa_cons (pv 2) (pa_cons (pv 3) pa_nil))))) (pss_one (ps_ret pe_bl)) pss_nil)))))))))))))) (pss_one (ps_ret pe_bl))), ?_⟩
  obtain ⟨a, ns, rfl, hS, hn, q⟩ := h
  refine law_loop (n := 8) (mb := B_law) (W := WE1 E) (fun σ H R h0 hS hR => ?_) (by omega) (fun v_k => ?_) hlaw q rfl (by rfl) rfl hS
  · refine ⟨_, h0, a, _, rfl, .inl hS, 12, _, rfl, 2, _, rfl, _, rfl, ?_, ?_, hR _ ?_ ?_⟩ <;> (split <;> split <;> omega)
  · show Rd K _ _ _ [.fix (.ref a), .val (d v_k), .box, .any, .any, .any, .any, .any, .any, .any, .any] (B_law v_k)
    unfold B_law
    exact (rd_set (ev_lc (ei_up (ei_range1 (ev_op om_addI ev_int (ev_callB' (j := 2) (ec_cons ev_int ec_nil))))) tg_name (fun (v_turn : Int) => et_yes) (fun (v_turn : Int) => (ev_callB' (j := 2) ec_nil))) (fun (v_pairs : (List (Int × Int))) => (rd_set (ev_op om_ixL (ev_var (i := 3) (a := v_pairs)) ev_int) (fun (v_pair_here : (Int × Int)) => (rd_set (mk2_Ratio (ec_cons (ev_op om_mulW (ev_ixT (j := 0) (g := fun x => x.1) (ev_var (i := 4) (a := v_pair_here))) ev_int) (ec_cons (ev_op om_mulW (ev_ixT (j := 1) (g := fun x => x.2) (ev_var (i := 4) (a := v_pair_here))) ev_int) ec_nil))) (fun (v_ratio : Rt) => (rd_set (ev_call' (ec_cons (ev_var (i := 4) (a := v_pair_here)) ec_nil)) (fun (v_text : Str) => (rd_if (et_or (et_test (ev_op om_neS (ev_meth0 rfl (ev_var (i := 5) (a := v_ratio))) (ev_var (i := 6) (a := v_text)))) (et_or (et_test (ev_op om_neS (ev_cb' (cm_strOwn (α := Rt) rfl) (ec_cons (ev_var (i := 5) (a := v_ratio)) ec_nil)) (ev_var (i := 6) (a := v_text)))) (et_not (et_val (ev_call' (ec_cons (ev_call' (ec_cons (ev_as (α := Rt) (β := D) (f := fun x => ((d x : D))) (ev_var (i := 5) (a := v_ratio)) (fun _ => rfl)) ec_nil)) (ec_cons (ev_var (i := 4) (a := v_pair_here)) ec_nil))))))) (rd_retks rk_rt ev_bl) (rd_skip (rd_if (et_not (et_val (ev_call' (ec_cons (ev_call' (ec_cons (ev_as (α := Int) (β := D) (f := fun x => ((d x : D))) (ev_ixT (j := 0) (g := fun x => x.1) (ev_var (i := 4) (a := v_pair_here))) (fun _ => rfl)) ec_nil)) (ec_cons (ev_tup' (ec_cons (ev_ixT (j := 0) (g := fun x => x.1) (ev_var (i := 4) (a := v_pair_here))) (ec_cons ev_int ec_nil)) (fun i => (i.1, i.2.1))) ec_nil))))) (rd_retks rk_rt ev_bl) (rd_skip (rd_set (ev_lst' (ec_cons (ev_var (i := 6) (a := v_text)) (ec_cons (ev_callB' (j := 2) (ec_cons (ev_var (i := 6) (a := v_text)) ec_nil)) (ec_cons (ev_callB' (j := 2) (ec_cons (ev_var (i := 6) (a := v_text)) ec_nil)) (ec_cons (ev_op om_addS ev_str (ev_var (i := 6) (a := v_text))) (ec_cons (ev_op om_addS ev_str (ev_var (i := 6) (a := v_text))) (ec_cons (ev_op om_addS (ev_var (i := 6) (a := v_text)) ev_str) (ec_cons ev_str (ec_cons ev_str (ec_cons ev_str ec_nil))))))))) (fun i => [i.1, i.2.1, i.2.2.1, i.2.2.2.1, i.2.2.2.2.1, i.2.2.2.2.2.1, i.2.2.2.2.2.2.1, i.2.2.2.2.2.2.2.1, i.2.2.2.2.2.2.2.2.1])) (fun (v_some : (List Str)) => (rd_set (ev_op om_ixL (ev_lst' (ec_cons (ev_as (α := Unit) (β := D) (f := fun x => ((d x : D))) ev_non (fun _ => rfl)) (ec_cons (ev_as (α := Int) (β := D) (f := fun x => ((d x : D))) ev_int (fun _ => rfl)) (ec_cons (ev_as (α := Bool) (β := D) (f := fun x => ((d x : D))) ev_bl (fun _ => rfl)) (ec_cons (ev_as (α := (List Str)) (β := D) (f := fun x => ((d x : D))) (ev_lst' (ec_cons (ev_var (i := 6) (a := v_text)) ec_nil) (fun i => [i.1])) (fun _ => rfl)) (ec_cons (ev_as (α := (VT Str)) (β := D) (f := fun x => ((d x : D))) (ev_tup' (ec_cons (ev_var (i := 6) (a := v_text)) ec_nil) (fun i => VT.mk [i.1])) (fun _ => rfl)) (ec_cons ev_dnew (ec_cons (ev_as (α := Str) (β := D) (f := fun x => ((d x : D))) ev_str (fun _ => rfl)) (ec_cons (ev_as (α := Str) (β := D) (f := fun x => ((d x : D))) ev_str (fun _ => rfl)) (ec_cons (ev_as (α := Str) (β := D) (f := fun x => ((d x : D))) ev_str (fun _ => rfl)) (ec_cons (ev_as (α := Str) (β := D) (f := fun x => ((d x : D))) ev_str (fun _ => rfl)) (ec_cons (ev_as (α := Str) (β := D) (f := fun x => ((d x : D))) ev_str (fun _ => rfl)) (ec_cons (ev_as (α := Str) (β := D) (f := fun x => ((d x : D))) (ev_op om_addS ev_str (ev_var (i := 6) (a := v_text))) (fun _ => rfl)) ec_nil)))))))))))) (fun i => [i.1, i.2.1, i.2.2.1, i.2.2.2.1, i.2.2.2.2.1, i.2.2.2.2.2.1, i.2.2.2.2.2.2.1, i.2.2.2.2.2.2.2.1, i.2.2.2.2.2.2.2.2.1, i.2.2.2.2.2.2.2.2.2.1, i.2.2.2.2.2.2.2.2.2.2.1, i.2.2.2.2.2.2.2.2.2.2.2.1])) (ev_callB' (j := 2) (ec_cons ev_int ec_nil))) (fun (v_odd : D) => (rd_for (S := Unit) (ρ := Bool) (rk := Step.rt) (Γn := fun s111 => [.fix (.ref a), .val (d v_k), .box, .val (d v_pairs), .val (d v_pair_here), .val (d v_ratio), .val (d v_text), .val (d v_some), .val (d v_odd), .any, .any]) (s0 := ()) (.eq (.eq (.eq (.eq (.eq (.eq (.eq (.eq (.eq (.any (.any .nil))))))))))) rk_rt (ei_list (ev_op om_cat (ev_as (α := (List Str)) (β := (List D)) (f := fun x => x.map (fun (y107 : Str) => (d y107 : D))) (ev_var (i := 7) (a := v_some)) (lst_co (α := Str) (β := D) (f := (fun (y107 : Str) => (d y107 : D))) fun _ => rfl)) (ev_lst' (ec_cons (ev_var (i := 8) (a := v_odd)) (ec_cons (ev_as (α := Str) (β := D) (f := fun x => ((d x : D))) (ev_op om_addS (ev_var (i := 6) (a := v_text)) ev_str) (fun _ => rfl)) (ec_cons (ev_as (α := Str) (β := D) (f := fun x => ((d x : D))) (ev_op om_addS (ev_op om_addS (ev_cb' cm_strI (ec_cons (ev_ixT (j := 0) (g := fun x => x.1) (ev_var (i := 4) (a := v_pair_here))) ec_nil)) ev_str) (ev_cb' cm_strI (ec_cons (ev_ixT (j := 1) (g := fun x => x.2) (ev_var (i := 4) (a := v_pair_here))) ec_nil))) (fun _ => rfl)) ec_nil))) (fun i => [i.1, i.2.1, i.2.2.1])))) tg_name (fun _ => up1) (fun (v_thing : D) s111 => (rd_nil (rd_if (et_not (et_val (ev_call' (ec_cons (ev_var (i := 9) (a := v_thing)) ec_nil)))) (rd_retks rk_rt ev_bl) (rd_skip (rd_nx (s := ()) (.eq (.eq (.eq (.eq (.eq (.eq (.eq (.eq (.eq (.any (.any .nil)))))))))))))))) (fun s111 => (rd_for (S := Unit) (ρ := Bool) (rk := Step.rt) (Γn := fun s133 => [.fix (.ref a), .val (d v_k), .box, .val (d v_pairs), .val (d v_pair_here), .val (d v_ratio), .val (d v_text), .val (d v_some), .val (d v_odd), .any, .any]) (s0 := ()) (.eq (.eq (.eq (.eq (.eq (.eq (.eq (.eq (.eq (.any (.any .nil))))))))))) rk_rt (ei_list (ev_lst' (ec_cons (ev_as (α := Unit) (β := D) (f := fun x => ((d x : D))) ev_non (fun _ => rfl)) (ec_cons (ev_as (α := Bool) (β := D) (f := fun x => ((d x : D))) ev_bl (fun _ => rfl)) (ec_cons (ev_as (α := Bool) (β := D) (f := fun x => ((d x : D))) ev_bl (fun _ => rfl)) (ec_cons (ev_as (α := Str) (β := D) (f := fun x => ((d x : D))) (ev_var (i := 6) (a := v_text)) (fun _ => rfl)) (ec_cons (ev_as (α := (List Int)) (β := D) (f := fun x => ((d x : D))) (ev_lst' (ec_cons ev_int ec_nil) (fun i => [i.1])) (fun _ => rfl)) (ec_cons (ev_as (α := (Int × Int)) (β := D) (f := fun x => ((d x : D))) (ev_tup' (ec_cons ev_int (ec_cons ev_int ec_nil)) (fun i => (i.1, i.2.1))) (fun _ => rfl)) (ec_cons ev_dnew ec_nil))))))) (fun i => [i.1, i.2.1, i.2.2.1, i.2.2.2.1, i.2.2.2.2.1, i.2.2.2.2.2.1, i.2.2.2.2.2.2.1]))) tg_name (fun _ => up1) (fun (v_thing : D) s133 => (rd_nil (rd_if (et_not (et_val (ev_call' (ec_cons (ev_var (i := 9) (a := v_thing)) ec_nil)))) (rd_retks rk_rt ev_bl) (rd_skip (rd_nx (s := ()) (.eq (.eq (.eq (.eq (.eq (.eq (.eq (.eq (.eq (.any (.any .nil)))))))))))))))) (fun s133 => (rd_nil (rd_if (et_not (et_val (ev_callB' (j := 2) (ec_cons (ev_var (i := 3) (a := v_pairs)) ec_nil)))) (rd_retks rk_rt ev_bl) (rd_skip (rd_nx (Γn := fun _ : Unit => .fix (.ref a) :: List.replicate 10 .any) (s := ()) (.eq (.any (.any (.any (.any (.any (.any (.any (.any (.any (.any .nil)))))))))))))))))))))))))))))))))))
end
end K03

set_option Elab.async false
set_option linter.all false
set_option maxRecDepth 100000
set_option maxHeartbeats 4000000
/-! N15: plain facts: numbers in mirrors, the greatest common part, words of digits, texts cut at a sign. -/
namespace N
open PySem PySem.Spec PyProof.Rows L2 J
open ToD (d)
open ToDs (ds)
open M

theorem run_lft {α : Type} (m : M α) (a : α) (h : m = pure a) : lft (M.run m) = pure a := by rw [h]; rfl
theorem mulM_ok {i j : Int} (h : CMulW i j) : mulM i j = pure (i * j) := by
  unfold mulM guI
  rw [need_T h]
  rfl
theorem mulM_lt {i j : Int} {a b : Nat} (h1 : i.natAbs < 2 ^ a) (h2 : j.natAbs < 2 ^ b) (l : a + b + 2 ≤ 1000000) : mulM i j = pure (i * j) :=
  mulM_ok (wide_mul (a := a + 1) (b := b + 1) (Nat.lt_of_lt_of_le h1 (Nat.pow_le_pow_right (by decide) (Nat.le_succ _))) (Nat.lt_of_lt_of_le h2 (Nat.pow_le_pow_right (by decide) (Nat.le_succ _))) (Nat.succ_pos _) (Nat.succ_pos _) (by omega))
theorem fdivM_ok {i j : Int} (h : j ≠ 0) (h2 : j.natAbs < 2 ^ 8000) : fdivM i j = pure (i.fdiv j) := by
  unfold fdivM guI
  rw [need_T ⟨h, Nat.lt_of_lt_of_le (PySem.Flt.log2_lt_of (by decide) h2) (by decide)⟩]
  rfl
theorem modM_ok {i j : Int} (h : 0 < j) : modM i j = pure (i % j) := by
  unfold modM guI
  rw [need_T h]
  rfl
theorem powM_ok {i j : Int} (h : CPow i j) : powM i j = pure (i ^ j.toNat) := by
  unfold powM guI
  rw [need_T h]
  rfl
theorem fmtI_ok {i : Int} (h : i.natAbs < 2 ^ 1900) : fmtI i = pure (toString i : Str) := by
  unfold fmtI
  rw [need_T (Nat.lt_of_lt_of_le (PySem.Flt.log2_lt_of (by decide) h) (by decide))]
  rfl
theorem sizeLine_big : 1000000 ≤ sizeLine := by rw [sizeLine_eq]; omega
theorem addS_ok {a b : Str} (h : a.length + b.length ≤ 1000000) : addS a b = pure (a ++ b) := by
  unfold addS
  rw [need_T (Nat.le_trans h sizeLine_big)]
  rfl
theorem lenS_ok {a : Str} (h : a.length ≤ 1000000) : lenS a = pure (a.length : Int) := by
  unfold lenS
  rw [need_T (Nat.le_trans h sizeLine_big)]
  rfl
theorem slS_ok {a : Str} {lo hi : Option Int} (h : a.length ≤ 1000000) : slS a lo hi = pure (cutS a lo hi) := by
  unfold slS
  rw [need_T (Nat.le_trans h sizeLine_big)]
  rfl
theorem catM_ok {α : Type} {a b : List α} (h : a.length + b.length ≤ 1000000) : catM a b = pure (a ++ b) := by
  unfold catM
  rw [need_T (Nat.le_trans h sizeLine_big)]
  rfl
theorem rng1_ok {j : Int} (h : 0 ≤ j) (h2 : j ≤ 1000000) : rng1 j = pure (rng 0 j) := by
  unfold rng1
  rw [need_T ⟨by omega, by omega⟩]
  rfl
theorem gcdStep {x y : Int} (hx : 0 ≤ x) (hy : 0 < y) : Int.gcd y (x % y) = Int.gcd x y := by
  obtain ⟨m, rfl⟩ := Int.eq_ofNat_of_zero_le hx
  obtain ⟨n, rfl⟩ := Int.eq_ofNat_of_zero_le (Int.le_of_lt hy)
  show Nat.gcd n ((m : Int) % (n : Int)).natAbs = Nat.gcd m n
  have e : ((m : Int) % (n : Int)).natAbs = m % n := by omega
  rw [e, Nat.gcd_comm n, ← Nat.gcd_rec, Nat.gcd_comm]
theorem while_gcd {ρ : Type} : ∀ (n : Nat) (x y : Int), 0 ≤ x → 0 ≤ y → y.natAbs + 1 ≤ n →
    whileM (ρ := ρ) (fun s : Int × Int => pure (!decide (s.2 = 0))) (fun s => modM s.1 s.2 >>= fun r => pure (.nx (s.2, r))) n (x, y) = pure (.nx (((Int.gcd x y : Nat) : Int), 0))
  | 0, x, y, _, _, h => by omega
  | n + 1, x, y, hx, hy, h => by
    unfold whileM
    simp only [pure_bind]
    by_cases z : y = 0
    · subst z
      simp only [decide_true, Bool.not_true, Bool.false_eq_true, if_false]
      have e : ((Int.gcd x 0 : Nat) : Int) = x := by rw [Int.gcd_zero_right]; omega
      rw [e]
    · simp only [z, decide_false, Bool.not_false, if_true]
      have hp : 0 < y := by omega
      rw [modM_ok hp]
      simp only [pure_bind]
      have m1 := Int.emod_nonneg x z
      have m2 := Int.emod_lt_of_pos x hp
      rw [while_gcd n y (x % y) hy m1 (by omega), gcdStep hx hp]
theorem gcdAbs (a b : Int) : Int.gcd (if a < 0 then -a else a) (if b < 0 then -b else b) = Int.gcd a b := by
  split <;> split <;> simp

/-! ### words of digits -/
def plainL (l : List Nat) : Bool := !l.isEmpty && (l.all (fun c => decide (48 ≤ c ∧ c ≤ 57)) && (l == [48] || !(l.head? == some 48)))
theorem plain_numL {l : List Nat} (h : plainL l = true) : ∃ n : Nat, l = TL.numL n := by
  unfold plainL at h
  simp only [Bool.and_eq_true, Bool.not_eq_true', Bool.or_eq_true, beq_iff_eq] at h
  obtain ⟨h0, h1, h2⟩ := h
  have hd : PySem.NumText.AllDigits l := fun c hc => by
    have := List.all_eq_true.mp h1 c hc
    simpa using this
  refine ⟨PySem.NumText.digitsVal l, ?_⟩
  unfold TL.numL
  rw [PySem.NumText.toDigits_all l hd]
  cases l with
  | nil => simp at h0
  | cons c r =>
    rcases h2 with h2 | h2
    · cases h2
      decide
    · have hc : c ≠ 48 := by
        intro e
        rw [e] at h2
        simp at h2
      have e : (c :: r).dropWhile (· == 48) = c :: r := by rw [List.dropWhile_cons, if_neg (by simpa using hc)]
      rw [e]
      show c :: r = ((c :: r).map Char.ofNat).map Char.toNat
      rw [List.map_map]
      have : ∀ x ∈ c :: r, (Char.toNat ∘ Char.ofNat) x = x := fun x hx => by
        have hx2 := hd x hx
        have all : ∀ k : Nat, k < 58 → (Char.ofNat k).toNat = k := by decide
        exact all x (by omega)
      rw [List.map_congr_left this]
      simp
theorem numL_plain (n : Nat) : plainL (TL.numL n) = true := by
  unfold plainL
  have hne := TL.numL_ne n
  have hd := TL.numL_digits n
  simp only [Bool.and_eq_true, Bool.not_eq_true', Bool.or_eq_true, beq_iff_eq]
  refine ⟨by cases h : TL.numL n with | nil => exact absurd h hne | cons _ _ => rfl, List.all_eq_true.mpr fun c hc => by simpa using hd c hc, ?_⟩
  have e := PySem.NumText.toDigits_all (TL.numL n) hd
  rw [TL.numL_val] at e
  cases hl : TL.numL n with
  | nil => exact absurd hl hne
  | cons c r =>
    by_cases hc : c = 48
    · subst hc
      left
      have e2 : TL.numL n = (match (48 :: r).dropWhile (· == 48) with | [] => ['0'] | c :: r => (c :: r).map Char.ofNat).map Char.toNat := by
        show (Nat.toDigits 10 n).map Char.toNat = _
        rw [e, hl]
        rfl
      have hlen : (TL.numL n).length = r.length + 1 := by rw [hl]; rfl
      cases hw : (48 :: r).dropWhile (· == 48) with
      | nil =>
        rw [hw] at e2
        have : (TL.numL n).length = 1 := by rw [e2]; rfl
        have : r = [] := List.length_eq_zero_iff.mp (by omega)
        rw [this]
      | cons c' r' =>
        rw [hw] at e2
        have h1 : (TL.numL n).length = r'.length + 1 := by rw [e2]; simp
        have h2 : ((48 :: r).dropWhile (· == 48)).length ≤ r.length := by
          rw [List.dropWhile_cons, if_pos (show (48 == 48) = true from rfl)]
          exact List.Sublist.length_le (List.dropWhile_sublist _)
        rw [hw, List.length_cons] at h2
        omega
    · right
      simpa using hc
/-- the signs of a number's text -/
theorem tl_int (i : Int) : TL.tl (toString i : Str) = if 0 ≤ i then TL.numL i.natAbs else 45 :: TL.numL i.natAbs := by
  cases i with
  | ofNat n =>
    rw [if_pos (show 0 ≤ Int.ofNat n from Int.natCast_nonneg n)]
    exact TL.tl_num n
  | negSucc n =>
    rw [if_neg (by omega)]
    show TL.tl (Str.ofString (toString (Int.negSucc n))) = _
    rw [TL.tl_ofString]
    have e : toString (Int.negSucc n) = "-" ++ toString (n + 1) := rfl
    rw [e, String.toList_append, List.map_append]
    show [45] ++ (toString (n + 1)).toList.map Char.toNat = 45 :: TL.numL (n + 1)
    have h := TL.tl_num (n + 1)
    rw [TL.tl_ofString] at h
    have e2 : toString (((n + 1 : Nat)) : Int) = toString (n + 1) := rfl
    rw [e2] at h
    rw [h]
    rfl
theorem int_plain {w : Str} {n : Nat} (h : TL.tl w = TL.numL n) (hl : w.length ≤ 640) : intM w = pure (n : Int) := by
  have hw : w = Str.ofString (toString ((n : Nat) : Int)) := TL.ext_tl (by rw [h, TL.tl_num])
  unfold intM
  rw [need_T hl]
  simp only [pure_bind]
  rw [hw, TL.int_num (by rw [← h, ← TL.len_tl]; omega)]
/-! ### cut at a sign -/
theorem join_spl (s : Nat) : ∀ (l acc : List Nat), TL.joinL [s] (TL.spl [s] 0 acc l) = acc ++ l ∧ TL.spl [s] 0 acc l ≠ []
  | [], acc => by rw [TL.spl_nil]; simp [TL.joinL]
  | c :: r, acc => by
    by_cases h : c = s
    · subst h
      have hp : TL.pre [c] (c :: r) = true := by simp [TL.pre]
      rw [TL.spl_hit hp]
      obtain ⟨h1, h2⟩ := join_spl c r []
      refine ⟨?_, by simp⟩
      cases q : TL.spl [c] 0 [] r with
      | nil => exact absurd q h2
      | cons x y =>
        show TL.joinL [c] (acc :: TL.spl [c] 0 [] r) = _
        rw [q] at h1 ⊢
        show acc ++ ([c] ++ TL.joinL [c] (x :: y)) = acc ++ c :: r
        rw [h1]
        simp
    · have hp : TL.pre [s] (c :: r) = false := TL.pre_of_head [] r h
      rw [TL.spl_miss hp]
      obtain ⟨h1, h2⟩ := join_spl s r (acc ++ [c])
      exact ⟨by rw [h1]; simp, h2⟩
end N

set_option Elab.async false
set_option linter.all false
set_option maxRecDepth 100000
set_option maxHeartbeats 4000000
/-! N16: plain facts: lists that are made, comparisons of plain data, repr, lowest terms, texts by their signs. -/
namespace N
open PySem PySem.Spec PyProof.Rows L2 J
open ToD (d)
open ToDs (ds)
open M

theorem strict_lft {α : Type} (a : α) : strict (lft (.ok a)) = (pure a : M α) := rfl
theorem run_eq {α : Type} {m : M α} {a : α} (h : m = pure a) : M.run m = .ok a := by rw [h]; rfl
theorem run_err {α : Type} {m : M α} {c : Str} {fs : List (Str × D)} (h : m = M.raise c fs) : M.run m = .err c fs := by rw [h]; rfl
theorem ifTT {α : Type} {a b : α} : (if (true : Bool) = true then a else b) = a := rfl
theorem ifFF {α : Type} {a b : α} : (if (false : Bool) = true then a else b) = b := rfl
/-! ### lists that are made -/
theorem lcA_all {α β : Type} {g : α → β} : ∀ (xs : List α) (acc : List β), lcA (fun _ => pure true) (fun a => pure (g a)) acc xs = pure (acc ++ xs.map g)
  | [], acc => by unfold lcA; simp
  | a :: r, acc => by
    unfold lcA
    simp only [strict_pure, pure_bind, ifTT]
    rw [lcA_all r]
    simp
theorem lcM_all {α β : Type} {g : α → β} {f : α → M β} {xs : List α} (h : xs.length ≤ 1000) (hf : ∀ a ∈ xs, f a = pure (g a)) : lcM (fun _ => pure true) f xs = pure (xs.map g) := by
  unfold lcM
  rw [need_T (small_sl h)]
  simp only [pure_bind]
  have : ∀ (xs : List α) (acc : List β), (∀ a ∈ xs, f a = pure (g a)) → lcA (fun _ => pure true) f acc xs = lcA (fun _ => pure true) (fun a => pure (g a)) acc xs := fun xs => by
    induction xs with
    | nil => intro acc _; rfl
    | cons a r ih =>
      intro acc hh
      unfold lcA
      rw [hh a List.mem_cons_self]
      simp only [strict_pure, pure_bind, ifTT]
      exact ih _ fun b hb => hh b (List.mem_cons_of_mem _ hb)
  rw [this xs [] hf, lcA_all, List.nil_append]
theorem lcA_fil {α β : Type} {t : α → Bool} {T : α → M Bool} {g : α → β} {f : α → M β} : ∀ (xs : List α) (acc : List β), (∀ a ∈ xs, T a = pure (t a)) → (∀ a ∈ xs, f a = pure (g a)) → lcA T f acc xs = pure (acc ++ (xs.filter t).map g)
  | [], acc, _, _ => by unfold lcA; simp
  | a :: r, acc, hT, hf => by
    unfold lcA
    rw [hT a List.mem_cons_self, hf a List.mem_cons_self]
    simp only [strict_pure, pure_bind]
    have h1 := fun b hb => hT b (List.mem_cons_of_mem a hb)
    have h2 := fun b hb => hf b (List.mem_cons_of_mem a hb)
    cases h : t a with
    | true =>
      rw [ifTT, lcA_fil r _ h1 h2, List.filter_cons, if_pos h]
      simp
    | false =>
      rw [ifFF, lcA_fil r _ h1 h2, List.filter_cons, if_neg (by rw [h]; exact Bool.false_ne_true)]
theorem lcM_fil {α β : Type} {t : α → Bool} {T : α → M Bool} {g : α → β} {f : α → M β} {xs : List α} (h : xs.length ≤ 1000) (hT : ∀ a ∈ xs, T a = pure (t a)) (hf : ∀ a ∈ xs, f a = pure (g a)) : lcM T f xs = pure ((xs.filter t).map g) := by
  unfold lcM
  rw [need_T (small_sl h)]
  simp only [pure_bind]
  rw [lcA_fil xs [] hT hf, List.nil_append]
theorem getM_nat {α : Type} {xs : List α} {n : Nat} {a : α} (h : xs[n]? = some a) (l : n < 1000000) : getM xs (n : Int) = pure a := by
  unfold getM
  rw [atI_nat h]
theorem foldM_pure {ι S : Type} {body : ι → S → M S} {g : ι → S → S} : ∀ (xs : List ι) (s : S), (∀ a ∈ xs, ∀ s, body a s = pure (g a s)) → foldM body xs s = pure (xs.foldl (fun s a => g a s) s)
  | [], s, _ => rfl
  | a :: r, s, h => by
    unfold foldM
    rw [h a List.mem_cons_self]
    simp only [pure_bind]
    exact foldM_pure r _ fun b hb => h b (List.mem_cons_of_mem _ hb)
/-! ### comparisons -/
theorem eqD_pair (a b x y : Int) : eqD (d (a, b)) (d (x, y)) = pure (decide ((a, b) = (x, y))) := by
  show (do need (SeqAt.shaped (.tuple [.int a, .int b]) = true ∧ SeqAt.shaped (.tuple [.int x, .int y]) = true); pure (PyData.eqv (.tuple [.int a, .int b]) (.tuple [.int x, .int y])) : M Bool) = _
  rw [need_T ⟨rfl, rfl⟩]
  simp only [pure_bind, PyData.eqv, PyData.eqvAll, Bool.and_true, Prod.mk.injEq]
  congr 1
  by_cases h1 : a = x <;> by_cases h2 : b = y <;> simp [h1, h2]
theorem neD_pair (a b x y : Int) : neD (d (a, b)) (d (x, y)) = pure (!decide ((a, b) = (x, y))) := by
  show (do need (SeqAt.shaped (.tuple [.int a, .int b]) = true ∧ SeqAt.shaped (.tuple [.int x, .int y]) = true); pure (!PyData.eqv (.tuple [.int a, .int b]) (.tuple [.int x, .int y])) : M Bool) = _
  rw [need_T ⟨rfl, rfl⟩]
  simp only [pure_bind, PyData.eqv, PyData.eqvAll, Bool.and_true, Prod.mk.injEq]
  congr 1
  by_cases h1 : a = x <;> by_cases h2 : b = y <;> simp [h1, h2]
theorem pyDs_strs : ∀ xs : List Str, pyDs (xs.map d) = some (xs.map .str)
  | [] => rfl
  | x :: r => by
    show (match pyD (D.str x), pyDs (r.map d) with | some a, some b => some (a :: b) | _, _ => none) = _
    rw [pyDs_strs r]
    rfl
def plainTx (s : Str) : Prop := s.length ≤ 1000 ∧ ∀ c ∈ TL.tl s, c < 128
theorem strOk_plain {s : Str} (h : plainTx s) : PyData.strOk s = true := by
  show (s.cps.all fun c => decide (c < 0x110000)) = true
  rw [← Array.all_toList]
  exact List.all_eq_true.mpr fun c hc => by
    have := h.2 c hc
    simp only [decide_eq_true_eq]
    omega
theorem canLay_strs : ∀ xs : List Str, (∀ x ∈ xs, plainTx x) → PyData.canLayAll0 (xs.map .str) = true
  | [], _ => rfl
  | x :: r, h => by
    rw [List.map_cons, PyData.canLayAll0, canLay_strs r fun y hy => h y (List.mem_cons_of_mem _ hy), PyData.canLay0, strOk_plain (h x List.mem_cons_self)]
    rfl
theorem depth_strs : ∀ xs : List Str, PyData.depthAll (xs.map .str) = 0
  | [] => rfl
  | x :: r => by
    rw [List.map_cons, PyData.depthAll, depth_strs r]
    rfl
theorem shaped_strs {xs : List Str} (h : ∀ x ∈ xs, plainTx x) : SeqAt.shaped (.list (xs.map .str)) = true := by
  unfold SeqAt.shaped
  rw [PyData.canLay0, canLay_strs xs h, PyData.depth, depth_strs]
  rfl
theorem eqv_strs : ∀ xs ys : List Str, PyData.eqvAll (xs.map .str) (ys.map .str) = decide (xs = ys)
  | [], [] => rfl
  | [], _ :: _ => rfl
  | _ :: _, [] => rfl
  | x :: xs, y :: ys => by
    rw [List.map_cons, List.map_cons, PyData.eqvAll, eqv_strs xs ys, PyData.eqv]
    by_cases h1 : x = y <;> by_cases h2 : xs = ys <;> simp [h1, h2]
theorem eqD_strs {xs ys : List Str} (hx : ∀ x ∈ xs, plainTx x) (hy : ∀ x ∈ ys, plainTx x) : eqD (d xs) (d ys) = pure (decide (xs = ys)) := by
  show (match (pyDs (xs.map d)).map PyData.list, (pyDs (ys.map d)).map PyData.list with | some p, some q => (do need (SeqAt.shaped p = true ∧ SeqAt.shaped q = true); pure (PyData.eqv p q) : M Bool) | _, _ => M.stuck) = _
  rw [pyDs_strs, pyDs_strs]
  show (do need (SeqAt.shaped (.list (xs.map .str)) = true ∧ SeqAt.shaped (.list (ys.map .str)) = true); pure (PyData.eqv (.list (xs.map .str)) (.list (ys.map .str))) : M Bool) = _
  rw [need_T ⟨shaped_strs hx, shaped_strs hy⟩]
  simp only [pure_bind]
  rw [PyData.eqv, eqv_strs]
theorem neD_strs {xs ys : List Str} (hx : ∀ x ∈ xs, plainTx x) (hy : ∀ x ∈ ys, plainTx x) : neD (d xs) (d ys) = pure (!decide (xs = ys)) := by
  show (match (pyDs (xs.map d)).map PyData.list, (pyDs (ys.map d)).map PyData.list with | some p, some q => (do need (SeqAt.shaped p = true ∧ SeqAt.shaped q = true); pure (!PyData.eqv p q) : M Bool) | _, _ => M.stuck) = _
  rw [pyDs_strs, pyDs_strs]
  show (do need (SeqAt.shaped (.list (xs.map .str)) = true ∧ SeqAt.shaped (.list (ys.map .str)) = true); pure (!PyData.eqv (.list (xs.map .str)) (.list (ys.map .str))) : M Bool) = _
  rw [need_T ⟨shaped_strs hx, shaped_strs hy⟩]
  simp only [pure_bind]
  rw [PyData.eqv, eqv_strs]
theorem d_chs (xs : List Ch) : (d xs : D) = d (xs.map Ch.s) := by
  show D.lst (xs.map d) = D.lst ((xs.map Ch.s).map d)
  rw [List.map_map]
  rfl
/-! ### repr -/
theorem repr_len {s : Str} (h : plainTx s) : (reprText s).length ≤ 20000 := by
  have := PySem.StrLaws.reprText_len s fun c hc => Nat.lt_trans (h.2 c hc) (by decide)
  have := h.1
  omega
theorem reprM_str {s : Str} (h : plainTx s) : reprM (d s) = pure (reprText s) := by
  have hl : (reprText s).length ≤ sizeLine := Nat.le_trans (repr_len h) (Nat.le_trans (by decide) sizeLine_big)
  show (do need ((PyData.str s).hasDict = false ∧ (PyData.str s).showable = true ∧ (PyData.str s).depth ≤ 40 ∧ (PyData.str s).shown.length ≤ sizeLine); pure (PyData.str s).shown : M Str) = _
  rw [need_T ⟨by rw [PyData.hasDict], by rw [PyData.showable], by rw [PyData.depth]; decide, by rw [PyData.shown]; exact hl⟩]
  simp only [pure_bind, PyData.shown]
theorem reprM_of {x : D} {p : PyData} (hx : pyD x = some p) (h1 : p.hasDict = false) (h2 : p.showable = true) (h3 : p.depth ≤ 40) (h4 : p.shown.length ≤ 1000000) : reprM x = pure p.shown := by
  cases x with
  | dic l => cases hx
  | _ =>
    unfold reprM
    dsimp only
    rw [hx]
    dsimp only
    rw [need_T ⟨h1, h2, h3, Nat.le_trans h4 sizeLine_big⟩]
    rfl
end N

set_option Elab.async false
set_option linter.all false
set_option maxRecDepth 100000
set_option maxHeartbeats 4000000
/-! N17: plain facts: texts by their signs, words, numbers in texts. -/
namespace N
open PySem PySem.Spec PyProof.Rows L2 J
open ToD (d)
open ToDs (ds)
open M
theorem pite {α : Type} {c : Prop} [Decidable c] (a b : α) : (if c then (pure a : M α) else pure b) = pure (if c then a else b) := by split <;> rfl
theorem decStr (w y : Str) : decide (w = y) = decide (TL.tl w = TL.tl y) := decide_eq_decide.mpr ⟨fun e => by rw [e], TL.ext_tl⟩
theorem tl_take (s : Str) (i : Nat) : TL.tl (cutS s none (some (i : Int))) = (TL.tl s).take i := by
  rw [C8.cutS_slice, ← SX.S_tl s, SX.slice_to (by omega)]
  rfl
theorem tl_drop (s : Str) (i : Nat) : TL.tl (cutS s (some (i : Int)) none) = (TL.tl s).drop i := by
  rw [C8.cutS_slice, ← SX.S_tl s, SX.slice_from (by omega)]
  rfl
theorem starts_tl (s y : Str) : Txt.startswith s y = ((TL.tl s).take (TL.tl y).length == TL.tl y) := by
  show (decide (0 + y.length ≤ s.length) && PySem.Builtin.Str.subAt s y 0) = _
  rw [PySem.StrLaws.subAt_eq, List.drop_zero, TL.len_tl y, TL.len_tl s]
  by_cases h : 0 + (TL.tl y).length ≤ (TL.tl s).length
  · rw [decide_eq_true h, Bool.true_and]
  · rw [decide_eq_false h, Bool.false_and]
    refine (beq_eq_false_iff_ne.mpr fun e => h ?_).symm
    have := congrArg List.length e
    rw [List.length_take] at this
    omega
theorem splitM_ok {a b : Str} (h1 : (b.length == 0) = false) (h2 : a.length ≤ 10000) : splitM a b = pure (Txt.split a b) := by
  unfold splitM
  rw [need_T ⟨h1, Nat.le_trans (show a.length + 2 ≤ 1000000 by omega) sizeLine_big⟩]
  rfl
theorem split_tl {s y : Str} (hy : TL.tl y ≠ []) (hk : y.cps.all (· < 256) = true) : (Txt.split s y).map TL.tl = TL.spl (TL.tl y) 0 [] (TL.tl s) := TL.split_spl s y hy (TL.kind_ok hk)
theorem join_mem (S : List Nat) : ∀ ws : List (List Nat), (∀ w ∈ ws, (∀ c ∈ w, c ∈ TL.joinL S ws) ∧ w.length ≤ (TL.joinL S ws).length) ∧ (S ≠ [] → ws.length ≤ (TL.joinL S ws).length + 1)
  | [] => ⟨fun w h => absurd h List.not_mem_nil, fun _ => Nat.zero_le _⟩
  | [w] => ⟨fun v h => by rw [List.mem_singleton.mp h]; exact ⟨fun c h => h, Nat.le_refl _⟩, fun _ => Nat.succ_le_succ (Nat.zero_le _)⟩
  | w :: v :: r => by
    obtain ⟨h1, h2⟩ := join_mem S (v :: r)
    have e : TL.joinL S (w :: v :: r) = w ++ (S ++ TL.joinL S (v :: r)) := rfl
    rw [e]
    refine ⟨fun u hu => ?_, fun hS => ?_⟩
    · rcases List.mem_cons.mp hu with rfl | hu
      · exact ⟨fun c h => List.mem_append.mpr (.inl h), by simp⟩
      · obtain ⟨a, b⟩ := h1 u hu
        exact ⟨fun c h => List.mem_append.mpr (.inr (List.mem_append.mpr (.inr (a c h)))), by simp; omega⟩
    · have := h2 hS
      have : 0 < S.length := List.length_pos_iff.mpr hS
      simp only [List.length_append, List.length_cons] at *
      omega
theorem append_cut {s : Nat} : ∀ {a a' b b' : List Nat}, s ∉ a → s ∉ a' → a ++ s :: b = a' ++ s :: b' → a = a' ∧ b = b'
  | [], [], b, b', _, _, e => ⟨rfl, (List.cons.inj e).2⟩
  | [], c :: r, b, b', _, h, e => absurd (show s ∈ c :: r by rw [(List.cons.inj e).1]; exact List.mem_cons_self) h
  | c :: r, [], b, b', h, _, e => absurd (show s ∈ c :: r by rw [← (List.cons.inj e).1]; exact List.mem_cons_self) h
  | c :: r, c' :: r', b, b', h, h', e => by
    obtain ⟨e1, e2⟩ := List.cons.inj e
    obtain ⟨e3, e4⟩ := append_cut (fun m => h (List.mem_cons_of_mem _ m)) (fun m => h' (List.mem_cons_of_mem _ m)) e2
    exact ⟨by rw [e1, e3], e4⟩
/-! ### numbers in texts -/
/-- the signs of an integer -/
def sgL (i : Int) : List Nat := if 0 ≤ i then TL.numL i.natAbs else 45 :: TL.numL i.natAbs
theorem tl_sg (i : Int) : TL.tl (toString i : Str) = sgL i := tl_int i
theorem sg_free {i : Int} : 47 ∉ sgL i := by
  unfold sgL
  split
  · exact TL.numL_free (.inl (by decide))
  · exact fun h => (List.mem_cons.mp h).elim (by decide) (TL.numL_free (.inl (by decide)))
theorem num45 {n : Nat} {r : List Nat} (h : TL.numL n = 45 :: r) : False := TL.numL_free (n := n) (s := 45) (.inl (by decide)) (by rw [h]; exact List.mem_cons_self)
/-- what is a sign and a plain word is a number's text just if it is not -0 -/
theorem sg_eq {i : Int} {n : Nat} {neg : Bool} (h : sgL i = if neg = true then 45 :: TL.numL n else TL.numL n) : i = (if neg = true then -(n : Int) else (n : Int)) ∧ (neg = true → n ≠ 0) := by
  unfold sgL at h
  cases neg with
  | true =>
    rw [if_pos rfl] at h ⊢
    by_cases hi : 0 ≤ i
    · rw [if_pos hi] at h
      exact (num45 h).elim
    · rw [if_neg hi] at h
      have := TL.numL_inj (List.cons.inj h).2
      exact ⟨by omega, fun _ => by omega⟩
  | false =>
    rw [if_neg Bool.false_ne_true] at h ⊢
    by_cases hi : 0 ≤ i
    · rw [if_pos hi] at h
      have := TL.numL_inj h
      exact ⟨by omega, fun z => by cases z⟩
    · rw [if_neg hi] at h
      exact (num45 h.symm).elim
theorem sg_of {n : Nat} {neg : Bool} (h : neg = true → n ≠ 0) : sgL (if neg = true then -(n : Int) else (n : Int)) = if neg = true then 45 :: TL.numL n else TL.numL n := by
  unfold sgL
  cases neg with
  | true =>
    have := h rfl
    rw [if_pos rfl, if_pos rfl, if_neg (by omega), show (-(n : Int)).natAbs = n by omega]
  | false =>
    rw [if_neg Bool.false_ne_true, if_neg Bool.false_ne_true, if_pos (by omega), show ((n : Int)).natAbs = n by omega]
theorem num_len {n k : Nat} (hk : 0 < k) (h : n < 2 ^ k) : (TL.numL n).length ≤ k := TL.numL_len hk (Nat.lt_of_lt_of_le h (Nat.pow_le_pow_left (by decide) k))
theorem num_lt {n k : Nat} (h : (TL.numL n).length ≤ k) : n < 10 ^ k := by
  have h1 : ∀ (l : List Nat), PySem.NumText.AllDigits l → PySem.NumText.digitsVal l < 10 ^ l.length := fun l => by
    have aux : ∀ (l : List Nat) (a : Nat), PySem.NumText.AllDigits l → l.foldl (fun acc c => acc * 10 + (c - 48)) a < (a + 1) * 10 ^ l.length := fun l => by
      induction l with
      | nil => intro a _; simp
      | cons c r ih =>
        intro a h
        have hc := h c List.mem_cons_self
        have := ih (a * 10 + (c - 48)) fun x hx => h x (List.mem_cons_of_mem _ hx)
        rw [List.foldl_cons, List.length_cons, Nat.pow_succ]
        refine Nat.lt_of_lt_of_le this ?_
        rw [Nat.mul_comm (10 ^ r.length) 10, ← Nat.mul_assoc]
        exact Nat.mul_le_mul_right _ (by omega)
    intro h
    have := aux l 0 h
    rw [Nat.zero_add, Nat.one_mul] at this
    exact this
  have := h1 _ (TL.numL_digits n)
  rw [TL.numL_val] at this
  exact Nat.lt_of_lt_of_le this (Nat.pow_le_pow_right (by decide) h)
theorem sg_len {i : Int} {k : Nat} (hk : 0 < k) (h : i.natAbs < 2 ^ k) : (sgL i).length ≤ k + 1 := by
  have := num_len hk h
  unfold sgL
  split
  · omega
  · simp only [List.length_cons]; omega
theorem sg_ascii {i : Int} : ∀ c ∈ sgL i, c < 128 := by
  have h : ∀ c ∈ TL.numL i.natAbs, c < 128 := fun c hc => by
    have := TL.numL_digits i.natAbs c hc
    omega
  unfold sgL
  split
  · exact h
  · exact fun c hc => (List.mem_cons.mp hc).elim (fun e => by rw [e]; decide) (h c)
end N

set_option Elab.async false
set_option linter.all false
set_option maxRecDepth 100000
set_option maxHeartbeats 4000000
namespace K03
open PySem PySem.Spec PyProof.Rows L2 J N
open M
open ToD (d)
open ToDs (ds)
/-! ### numbers -/
def lowP (t b : Int) : Int × Int := (t.fdiv (Int.gcd t b : Nat), b.fdiv (Int.gcd t b : Nat))
theorem low_facts {t b : Int} (hb : 0 < b) : ((Int.gcd t b : Nat) : Int) ≠ 0 ∧ ((Int.gcd t b : Nat) : Int).natAbs ≤ b.natAbs ∧ 0 < (lowP t b).2 ∧ Int.gcd (lowP t b).1 (lowP t b).2 = 1 ∧
    (lowP t b).1 * b = t * (lowP t b).2 ∧ (lowP t b).1.natAbs ≤ t.natAbs ∧ (lowP t b).2.natAbs ≤ b.natAbs := by
  have hp : 0 < Int.gcd t b := Int.gcd_pos_of_ne_zero_right t (by omega)
  have h1 : ((Int.gcd t b : Nat) : Int) ∣ t := Int.gcd_dvd_left ..
  have h2 : ((Int.gcd t b : Nat) : Int) ∣ b := Int.gcd_dvd_right ..
  unfold lowP
  dsimp only
  have hgg : Int.gcd t b = ((Int.gcd t b : Nat) : Int).natAbs := by omega
  generalize hg : ((Int.gcd t b : Nat) : Int) = g at h1 h2
  have g1 : 0 < g := by omega
  obtain ⟨n, hn⟩ := h1
  obtain ⟨q, hq⟩ := h2
  have e1 : t.fdiv g = n := by rw [hn]; exact Int.mul_fdiv_cancel_left _ (by omega)
  have e2 : b.fdiv g = q := by rw [hq]; exact Int.mul_fdiv_cancel_left _ (by omega)
  rw [e1, e2]
  have hq0 : q ≠ 0 := fun z => by rw [hq, z, Int.mul_zero] at hb; omega
  have nb : b.natAbs = g.natAbs * q.natAbs := by rw [hq, Int.natAbs_mul]
  have nt : t.natAbs = g.natAbs * n.natAbs := by rw [hn, Int.natAbs_mul]
  have gp : 0 < g.natAbs := by omega
  refine ⟨by omega, ?_, ?_, ?_, ?_, ?_, ?_⟩
  · rw [nb]
    exact Nat.le_mul_of_pos_right _ (by omega)
  · by_cases z : 0 < q
    · exact z
    · have : g * q ≤ 0 := Int.mul_nonpos_of_nonneg_of_nonpos (by omega) (by omega)
      omega
  · have h4 : Int.gcd t b = g.natAbs * Int.gcd n q := by
      rw [hn, hq, Int.gcd_mul_left]
    have h5 : Int.gcd t b = g.natAbs := by omega
    rw [h5] at h4
    have h3 : g.natAbs * 1 = g.natAbs * Int.gcd n q := by rw [Nat.mul_one]; exact h4
    exact (Nat.eq_of_mul_eq_mul_left gp h3).symm
  · rw [hn, hq]
    grind
  · rw [nt]
    exact Nat.le_mul_of_pos_left _ gp
  · rw [nb]
    exact Nat.le_mul_of_pos_left _ gp
theorem low_self {p : Int × Int} (h : Int.gcd p.1 p.2 = 1) : lowP p.1 p.2 = p := by
  unfold lowP
  rw [h]
  simp [Int.fdiv_one]
def mkR (p : Int × Int) : Rt := ⟨p.1, p.2⟩
theorem mkR_n (p : Int × Int) : (mkR p).n = p.1 := rfl
theorem mkR_u (p : Int × Int) : (mkR p).u = p.2 := rfl
theorem gcd_ok (t b : Int) : m_common_part t b = .ok (Int.gcd t b : Nat) := by
  refine run_eq ?_
  unfold B_common_part
  simp only [pure_bind]
  rw [while_gcd _ _ _ (by split <;> omega) (by split <;> omega) (by split <;> omega), gcdAbs]
  rfl
theorem lt8 {b : Int} (h : b.natAbs < 2 ^ 4000) : b.natAbs < 2 ^ 8000 := Nat.lt_trans h (Nat.pow_lt_pow_right (by decide) (by decide))
theorem new_ok {t b : Int} (hb : 0 < b) (h2 : b.natAbs < 2 ^ 4000) : newRt t b = .ok (mkR (lowP t b)) := by
  obtain ⟨f1, f2, f3, _, _, _, _⟩ := low_facts (t := t) hb
  have e : B_Ratio___init__ t b = pure [(("above" : Str), D.int (lowP t b).1), (("under" : Str), D.int (lowP t b).2)] := by
    unfold B_Ratio___init__
    simp only [pure_bind, gcd_ok, M.lft_ok]
    rw [show decide (b = 0) = false from decide_eq_false (by omega), ifFF, show decide (b < 0) = false from decide_eq_false (by omega), ifFF]
    simp only [pure_bind]
    rw [fdivM_ok f1 (lt8 (Nat.lt_of_le_of_lt f2 h2)), fdivM_ok f1 (lt8 (Nat.lt_of_le_of_lt f2 h2))]
    simp only [pure_bind]
    rfl
  unfold newRt m_Ratio___init__
  rw [run_eq e]
  rfl
theorem new1_ok (t : Int) : newRt1 t = .ok (mkR (t, 1)) := by
  have h := new_ok (t := t) (b := 1) (by decide) (by decide +kernel)
  rw [low_self (p := (t, 1)) (by simp)] at h
  exact h
theorem low_ok {t b : Int} (hb : 0 < b) (h2 : b.natAbs < 2 ^ 4000) : m__law_low t b = .ok (lowP t b) := by
  obtain ⟨f1, f2, f3, _, _, _, _⟩ := low_facts (t := t) hb
  refine run_eq ?_
  unfold B__law_low
  simp only [pure_bind]
  have gA : Int.gcd (if t < 0 then -t else t) b = Int.gcd t b := by split <;> simp
  rw [while_gcd _ _ _ (by split <;> omega) (by omega) (by omega), gA]
  unfold after
  simp only [pure_bind]
  rw [fdivM_ok f1 (lt8 (Nat.lt_of_le_of_lt f2 h2)), fdivM_ok f1 (lt8 (Nat.lt_of_le_of_lt f2 h2))]
  simp only [pure_bind]
  rfl
/-! ### small numbers -/
structure Lo (k : Nat) (p : Int × Int) : Prop where
  pos : 0 < p.2
  low : Int.gcd p.1 p.2 = 1
  bn : p.1.natAbs < 2 ^ k
  bd : p.2.natAbs < 2 ^ k
theorem Lo.up {j k : Nat} {p : Int × Int} (h : Lo j p) (l : j ≤ k) : Lo k p :=
  ⟨h.pos, h.low, Nat.lt_of_lt_of_le h.bn (Nat.pow_le_pow_right (by decide) l), Nat.lt_of_lt_of_le h.bd (Nat.pow_le_pow_right (by decide) l)⟩
theorem lowP_lo {k : Nat} {t b : Int} (hb : 0 < b) (h1 : t.natAbs < 2 ^ k) (h2 : b.natAbs < 2 ^ k) : Lo k (lowP t b) := by
  obtain ⟨f1, f2, f3, f4, _, f5, f6⟩ := low_facts (t := t) hb
  exact ⟨f3, f4, Nat.lt_of_le_of_lt f5 h1, Nat.lt_of_le_of_lt f6 h2⟩
def plusP (p q : Int × Int) : Int × Int := lowP (p.1 * q.2 + q.1 * p.2) (p.2 * q.2)
theorem mul_abs {i j : Int} {a b : Nat} (h1 : i.natAbs < 2 ^ a) (h2 : j.natAbs < 2 ^ b) : (i * j).natAbs < 2 ^ (a + b) := by
  rw [Int.natAbs_mul, Nat.pow_add]
  exact Nat.mul_lt_mul_of_lt_of_lt h1 h2
theorem mulM_k {i j : Int} {a b : Nat} (h1 : i.natAbs < 2 ^ a) (h2 : j.natAbs < 2 ^ b) (l : a ≤ 3000 ∧ b ≤ 3000) : mulM i j = pure (i * j) := mulM_lt h1 h2 (by omega)
theorem plus_b {j k : Nat} {p q : Int × Int} (hp : Lo j p) (hq : Lo k q) : (p.1 * q.2 + q.1 * p.2).natAbs < 2 ^ (j + k + 1) ∧ (p.2 * q.2).natAbs < 2 ^ (j + k + 1) ∧ 0 < p.2 * q.2 := by
  have a1 := mul_abs hp.bn hq.bd
  have a2 := mul_abs hq.bn hp.bd
  have a3 := mul_abs hp.bd hq.bd
  rw [Nat.add_comm k j] at a2
  rw [Nat.pow_succ]
  exact ⟨by omega, by omega, Int.mul_pos hp.pos hq.pos⟩
theorem plus_lo {j k : Nat} {p q : Int × Int} (hp : Lo j p) (hq : Lo k q) : Lo (j + k + 1) (plusP p q) := by
  obtain ⟨h1, h2, h3⟩ := plus_b hp hq
  exact lowP_lo h3 h1 h2
theorem plus_ok {j k : Nat} {p q : Int × Int} (hp : Lo j p) (hq : Lo k q) (l : j + k ≤ 2000) : m__law_plus p q = .ok (plusP p q) := by
  obtain ⟨h1, h2, h3⟩ := plus_b hp hq
  refine run_eq ?_
  unfold B__law_plus
  simp only [pure_bind]
  rw [mulM_k hp.bn hq.bd (by omega), mulM_k hq.bn hp.bd (by omega), mulM_k hp.bd hq.bd (by omega)]
  simp only [pure_bind]
  rw [low_ok h3 (Nat.lt_of_lt_of_le h2 (Nat.pow_le_pow_right (by decide) (by omega)))]
  rfl
/-- a number that stands for a pair -/
def Of (x : Nm) (p : Int × Int) : Prop := x.n = p.1 ∧ x.u = p.2
theorem add_ok {j k : Nat} {p q : Int × Int} {y : Nm} (hp : Lo j p) (hq : Lo k q) (hy : Of y q) (l : j + k ≤ 2000) : m_Ratio___add__ (mkR p) y = .ok (mkR (plusP p q)) := by
  obtain ⟨h1, h2, h3⟩ := plus_b hp hq
  refine run_eq ?_
  unfold B_Ratio___add__ m_parts_of
  simp only [pure_bind, M.lft_ok, hy.1, hy.2, mkR_n, mkR_u]
  rw [mulM_k hp.bn hq.bd (by omega), mulM_k hq.bn hp.bd (by omega)]
  simp only [pure_bind]
  rw [mulM_k hp.bd hq.bd (by omega)]
  simp only [pure_bind]
  rw [new_ok h3 (Nat.lt_of_lt_of_le h2 (Nat.pow_le_pow_right (by decide) (by omega)))]
  rfl
def lessP (p q : Int × Int) : Bool := decide (p.1 * q.2 < q.1 * p.2)
theorem less_ok {j k : Nat} {p q : Int × Int} (hp : Lo j p) (hq : Lo k q) (l : j + k ≤ 2000) : m__law_less p q = .ok (lessP p q) := by
  refine run_eq ?_
  unfold B__law_less
  simp only [pure_bind]
  rw [mulM_k hp.bn hq.bd (by omega), mulM_k hq.bn hp.bd (by omega)]
  simp only [pure_bind]
  rfl
theorem below_ok {j k : Nat} {p q : Int × Int} {y : Nm} (hp : Lo j p) (hq : Lo k q) (hy : Of y q) (l : j + k ≤ 2000) : m_Ratio_below (mkR p) y = .ok (lessP p q) := by
  refine run_eq ?_
  unfold B_Ratio_below m_parts_of
  simp only [pure_bind, M.lft_ok, hy.1, hy.2, mkR_n, mkR_u]
  rw [mulM_k hp.bn hq.bd (by omega), mulM_k hq.bn hp.bd (by omega)]
  simp only [pure_bind]
  rfl
def negP (p : Int × Int) : Int × Int := (-p.1, p.2)
theorem neg_lo {k : Nat} {p : Int × Int} (h : Lo k p) : Lo k (negP p) := ⟨h.pos, by show Int.gcd (-p.1) p.2 = 1; rw [Int.neg_gcd]; exact h.low, by show (-p.1).natAbs < _; rw [Int.natAbs_neg]; exact h.bn, h.bd⟩
theorem neg_ok {k : Nat} {p : Int × Int} (h : Lo k p) (l : k ≤ 2000) : m_Ratio___neg__ (mkR p) = .ok (mkR (negP p)) := by
  refine run_eq ?_
  unfold B_Ratio___neg__
  simp only [pure_bind]
  show lft (newRt (negP p).1 (negP p).2) = _
  rw [new_ok (neg_lo h).pos (Nat.lt_of_lt_of_le (neg_lo h).bd (Nat.pow_le_pow_right (by decide) (by omega))), low_self (neg_lo h).low]
  rfl
theorem isnum_int (i : Int) : m_is_number (.int i) = .ok true := by
  have : m_is_integer (.int i) = .ok true := by
    refine run_eq ?_
    unfold B_is_integer
    simp only [pure_bind]
    rw [need_T (show KnownD ["Ratio"] (.int i) from trivial)]
    rfl
  refine run_eq ?_
  unfold B_is_number
  simp only [pure_bind, this, M.lft_ok]
  rfl
theorem isnum_rt (r : Rt) : m_is_number (d r) = .ok true := by
  have hk : KnownD ["Ratio"] (d r) := by show ("Ratio" : Str) ∈ [("Ratio" : Str)]; exact List.mem_cons_self
  have : m_is_integer (d r) = .ok false := by
    refine run_eq ?_
    unfold B_is_integer
    simp only [pure_bind]
    rw [need_T hk]
    rfl
  refine run_eq ?_
  unfold B_is_number
  simp only [pure_bind, this, M.lft_ok]
  rw [ifFF, need_T hk]
  rfl
theorem isnum_nm (x : Nm) : m_is_number (d x) = .ok true := by
  cases x with
  | i n => exact isnum_int n
  | r q => exact isnum_rt q
theorem toNm_d (x : Nm) : toNm (d x) = some x := by
  cases x with
  | i n => rfl
  | r q =>
    show (if ("Ratio" : Str) = "Ratio" then _ else none) = _
    rw [if_pos rfl]
    rfl
theorem as_ok {k : Nat} {x : Nm} {p : Int × Int} (h : Lo k p) (hx : Of x p) (l : k ≤ 2000) : m_as_ratio (d x) = .ok (mkR p) := by
  refine run_eq ?_
  rw [toNm_d]
  show B_as_ratio x = _
  unfold B_as_ratio m_parts_of
  simp only [pure_bind, isnum_nm, M.lft_ok, Bool.not_true, ifFF]
  rw [hx.1, hx.2, new_ok h.pos (Nat.lt_of_lt_of_le h.bd (Nat.pow_le_pow_right (by decide) (by omega))), low_self h.low]
  rfl
theorem is_ok (p q : Int × Int) : m__law_is (mkR p) q = .ok (decide (p = q)) := by
  refine run_eq ?_
  unfold B__law_is
  simp only [pure_bind, ifTT]
  exact eqD_pair p.1 p.2 q.1 q.2
end K03

set_option Elab.async false
set_option linter.all false
set_option maxRecDepth 100000
set_option maxHeartbeats 4000000
namespace K03
open PySem PySem.Spec PyProof.Rows L2 J N
open M
open ToD (d)
open ToDs (ds)
/-! ### the texts of numbers -/
def txt (p : Int × Int) : Str := if p.2 = 1 then toString p.1 else toString p.1 ++ ("/" : Str) ++ toString p.2
def txL (p : Int × Int) : List Nat := if p.2 = 1 then sgL p.1 else sgL p.1 ++ 47 :: sgL p.2
theorem tl_txt (p : Int × Int) : TL.tl (txt p) = txL p := by
  unfold txt txL
  split
  · exact tl_sg _
  · rw [TL.tl_append, TL.tl_append, tl_sg, tl_sg, List.append_assoc]
    rfl
theorem txL_len {k : Nat} {p : Int × Int} (hk : 0 < k) (h : Lo k p) : (txL p).length ≤ 2 * k + 3 := by
  have h1 := sg_len hk h.bn
  have h2 := sg_len hk h.bd
  unfold txL
  split
  · omega
  · simp only [List.length_append, List.length_cons]; omega
theorem txL_ascii {p : Int × Int} : ∀ c ∈ txL p, c < 128 := by
  unfold txL
  split
  · exact sg_ascii
  · exact fun c hc => by
      rcases List.mem_append.mp hc with h | h
      · exact sg_ascii c h
      · exact (List.mem_cons.mp h).elim (fun e => by rw [e]; decide) (sg_ascii c)
theorem fmt_len {i : Int} {k : Nat} (hk : 0 < k) (h : i.natAbs < 2 ^ k) : (toString i : Str).length ≤ k + 1 := by
  rw [TL.len_tl, tl_sg]
  exact sg_len hk h
theorem lt19 {n k : Nat} (h : n < 2 ^ k) (l : k ≤ 1900) : n < 2 ^ 1900 := Nat.lt_of_lt_of_le h (Nat.pow_le_pow_right (by decide) l)
theorem joinM3 {a b c : Str} (h : a.length + b.length + c.length ≤ 100000) : joinM [pure a, pure b, pure c] Str.empty = pure (a ++ b ++ c) := by
  have e : Str.empty ++ a = a := TL.ext_tl (by rw [TL.tl_append]; rfl)
  have l1 := TL.len_tl a
  have l2 := TL.len_tl b
  have l3 := TL.len_tl c
  have n1 : a.length ≤ sizeLine := Nat.le_trans (by omega) sizeLine_big
  have n2 : (a ++ b).length ≤ sizeLine := Nat.le_trans (by rw [TL.len_tl, TL.tl_append, List.length_append]; omega) sizeLine_big
  have n3 : (a ++ b ++ c).length ≤ sizeLine := Nat.le_trans (by rw [TL.len_tl, TL.tl_append, TL.tl_append, List.length_append, List.length_append]; omega) sizeLine_big
  unfold joinM
  simp only [pure_bind, e]
  rw [need_T n1]
  unfold joinM
  simp only [pure_bind]
  rw [need_T n2]
  unfold joinM
  simp only [pure_bind]
  rw [need_T n3]
  unfold joinM
  rfl
theorem str_ok {k : Nat} {p : Int × Int} (hk : 0 < k) (h : Lo k p) (l : k ≤ 1900) : m_Ratio___str__ (mkR p) = .ok (txt p) := by
  have l1 := fmt_len hk h.bn
  have l2 := fmt_len hk h.bd
  have l3 : ("/" : Str).length = 1 := rfl
  refine run_eq ?_
  unfold B_Ratio___str__ txt
  simp only [pure_bind, mkR_n, mkR_u]
  rw [fmtI_ok (lt19 h.bn l), fmtI_ok (lt19 h.bd l)]
  by_cases q : p.2 = 1
  · rw [if_pos q, decide_eq_true q, ifTT]
  · rw [if_neg q, decide_eq_false q, ifFF]
    exact joinM3 (by omega)
theorem text_ok {k : Nat} {p : Int × Int} (hk : 0 < k) (h : Lo k p) (l : k ≤ 1900) : m_Ratio_text (mkR p) = .ok (txt p) := by
  refine run_eq ?_
  unfold B_Ratio_text
  simp only [pure_bind, str_ok hk h l]
  rfl
theorem written_ok {k : Nat} {p : Int × Int} (hk : 0 < k) (h : Lo k p) (l : k ≤ 1900) : m__law_written p = .ok (txt p) := by
  have l1 := fmt_len hk h.bn
  have l2 := fmt_len hk h.bd
  have l3 : ("/" : Str).length = 1 := rfl
  have l4 : (toString p.1 ++ ("/" : Str) : Str).length = (toString p.1 : Str).length + 1 := by rw [TL.len_tl, TL.tl_append, List.length_append, ← TL.len_tl, ← TL.len_tl]; rfl
  refine run_eq ?_
  unfold B__law_written txt
  simp only [pure_bind]
  rw [fmtI_ok (lt19 h.bn l), fmtI_ok (lt19 h.bd l)]
  by_cases q : p.2 = 1
  · rw [if_pos q, decide_eq_true q, ifTT]
  · rw [if_neg q, decide_eq_false q, ifFF]
    simp only [pure_bind]
    rw [addS_ok (by omega)]
    simp only [pure_bind]
    rw [addS_ok (by omega)]
/-! ### plain words -/
theorem digits_mem (c : Nat) : decide (c ∈ ("0123456789" : Str).cps.toList) = decide (48 ≤ c ∧ c ≤ 57) := by
  have e : ("0123456789" : Str).cps.toList = [48, 49, 50, 51, 52, 53, 54, 55, 56, 57] := by decide +kernel
  rw [e]
  refine decide_eq_decide.mpr ?_
  simp only [List.mem_cons, List.not_mem_nil, or_false]
  omega
theorem plain_first {c : Nat} {r : List Nat} (al : Bool) : (if (!al) = true then (pure false : M Bool) else pure (c :: r) >>= fun _ => pure ((c :: r == [48]) || !(c == 48))) = pure (al && ((c :: r == [48]) || !(c == 48))) := by cases al <;> rfl
theorem ix0 {w : Str} {c : Nat} {r : List Nat} (h : TL.tl w = c :: r) (l : w.length ≤ 10000) : ixS w 0 = pure ⟨c⟩ := by
  unfold ixS
  rw [need_T (Nat.le_trans (show w.length ≤ 1000000 by omega) sizeLine_big)]
  show (match atI (TL.tl w) 0 with | some c => (pure ⟨c⟩ : M Ch) | none => M.stuck) = _
  rw [h, show atI (c :: r) (0 : Int) = some c from atI_nat (j := 0) rfl]
theorem plainL_cons (c : Nat) (r : List Nat) : plainL (c :: r) = ((c :: r).all (fun c => decide (48 ≤ c ∧ c ≤ 57)) && ((c :: r == [48]) || !(c == 48))) := by
  unfold plainL
  simp only [List.isEmpty_cons, Bool.not_false, Bool.true_and, List.head?_cons]
  rfl
theorem plain_tail {w : Str} {c : Nat} {r : List Nat} (h : TL.tl w = c :: r) (l : w.length ≤ 1000) :
    ((pure (decide (w = ("0" : Str))) : M Bool) >>= fun x20 => if x20 = true then pure true else ((ixS w 0 >>= fun x17 => pure (Ch.s x17)) >>= fun x18 => pure (!decide (x18 = ("0" : Str))))) = pure ((c :: r == [48]) || !(c == 48)) := by
  rw [ix0 h (by omega), decStr, h]
  simp only [pure_bind]
  rw [decStr]
  have e0 : TL.tl ("0" : Str) = [48] := by decide +kernel
  have e1 : TL.tl (Ch.s ⟨c⟩) = [c] := rfl
  rw [e0, e1]
  have e2 : decide (c :: r = [48]) = (c :: r == [48]) := Bool.eq_iff_iff.mpr (by rw [decide_eq_true_iff, beq_iff_eq])
  have e3 : decide ([c] = [48]) = (c == 48) := Bool.eq_iff_iff.mpr (by rw [decide_eq_true_iff, beq_iff_eq, List.cons.injEq]; exact ⟨fun h => h.1, fun h => ⟨h, rfl⟩⟩)
  rw [e2, e3]
  cases (c :: r == [48]) <;> rfl
theorem isplain_ok {w : Str} (l : w.length ≤ 1000) : m_is_plain w = .ok (plainL (TL.tl w)) := by
  refine run_eq ?_
  unfold B_is_plain
  simp only [pure_bind]
  rw [lcM_all (g := fun c : Ch => decide (48 ≤ c.c ∧ c.c ≤ 57)) (by rw [List.length_map]; exact (TL.len_tl w) ▸ l) (fun a _ => by rw [digits_mem])]
  simp only [pure_bind]
  rw [decStr]
  have ee : TL.tl ("" : Str) = [] := by decide +kernel
  rw [ee]
  cases h : TL.tl w with
  | nil => rfl
  | cons c r =>
    rw [decide_eq_false (by simp), ifFF]
    simp only [pure_bind]
    have e : ((w.cps.toList.map Ch.mk).map fun c : Ch => decide (48 ≤ c.c ∧ c.c ≤ 57)).all id = (c :: r).all (fun c => decide (48 ≤ c ∧ c ≤ 57)) := by
      show (((TL.tl w).map Ch.mk).map fun c : Ch => decide (48 ≤ c.c ∧ c.c ≤ 57)).all id = _
      rw [h, List.map_map, List.all_map]
      rfl
    rw [e, plainL_cons]
    generalize (c :: r).all (fun c => decide (48 ≤ c ∧ c ≤ 57)) = al
    have pt := plain_tail h l
    simp only [pure_bind] at pt
    cases al with
    | false => rfl
    | true =>
      rw [Bool.not_true, ifFF, Bool.true_and]
      exact pt
theorem lawplain_ok {w : Str} (hw : plainTx w) : m__law_plain w = .ok (plainL (TL.tl w)) := by
  have l := hw.1
  refine run_eq ?_
  unfold B__law_plain
  simp only [pure_bind]
  rw [lcM_fil (t := fun c : Ch => !decide (48 ≤ c.c ∧ c.c ≤ 57)) (g := fun c : Ch => c) (by rw [List.length_map]; exact (TL.len_tl w) ▸ l) (fun a _ => by rw [digits_mem]) (fun a _ => rfl)]
  simp only [pure_bind]
  rw [decStr, d_chs, d_chs, neD_strs (fun x hx => ?_) (fun x hx => by cases hx)]
  · have ee : TL.tl ("" : Str) = [] := by decide +kernel
    rw [ee]
    cases h : TL.tl w with
    | nil => rfl
    | cons c r =>
      rw [decide_eq_false (by simp), ifFF]
      simp only [pure_bind]
      have e : (!decide ((((w.cps.toList.map Ch.mk).filter fun c : Ch => !decide (48 ≤ c.c ∧ c.c ≤ 57)).map fun c => c).map Ch.s = ([] : List Ch).map Ch.s)) = !((c :: r).all (fun c => decide (48 ≤ c ∧ c ≤ 57))) := by
        have e1 : w.cps.toList = c :: r := h
        rw [e1]
        generalize c :: r = l
        congr 1
        refine Bool.eq_iff_iff.mpr ?_
        rw [decide_eq_true_iff, List.map_id', List.map_nil, List.map_eq_nil_iff, List.filter_eq_nil_iff, List.all_eq_true]
        constructor
        · intro hh x hx
          have := hh ⟨x⟩ (List.mem_map.mpr ⟨x, hx, rfl⟩)
          simpa using this
        · intro hh x hx
          obtain ⟨y, hy, rfl⟩ := List.mem_map.mp hx
          have := hh y hy
          simpa using this
      rw [e, plainL_cons]
      generalize (c :: r).all (fun c => decide (48 ≤ c ∧ c ≤ 57)) = al
      have pt := plain_tail h l
      simp only [pure_bind] at pt
      cases al with
      | false => rfl
      | true =>
        rw [Bool.not_true, ifFF, Bool.true_and]
        exact pt
  · obtain ⟨y, hy, rfl⟩ := List.mem_map.mp hx
    rw [List.map_id'] at hy
    obtain ⟨z, hz, rfl⟩ := List.mem_map.mp (List.mem_filter.mp hy).1
    exact ⟨Nat.le_of_ble_eq_true rfl, fun c hc => by rw [List.mem_singleton.mp hc]; exact hw.2 z hz⟩
end K03

set_option Elab.async false
set_option linter.all false
set_option maxRecDepth 100000
set_option maxHeartbeats 4000000
namespace K03
open PySem PySem.Spec PyProof.Rows L2 J N
open M
open ToD (d)
open ToDs (ds)
/-! ### a text's words -/
def Tx (s : Str) : Prop := s.length ≤ 500 ∧ ∀ c ∈ TL.tl s, c < 128
theorem Tx.pl {s : Str} (h : Tx s) : plainTx s := ⟨Nat.le_trans h.1 (by decide), h.2⟩
def neg (s : Str) : Bool := decide ((TL.tl s).take 1 = [45])
def body (s : Str) : Str := if neg s = true then cutS s (some 1) none else s
def Ws (s : Str) : List Str := Txt.split (body s) "/"
def allP (s : Str) : Bool := (Ws s).all fun w => plainL (TL.tl w)
theorem tlm : TL.tl ("-" : Str) = [45] := by decide +kernel
theorem tls : TL.tl ("/" : Str) = [47] := by decide +kernel
theorem starts_neg (s : Str) : Txt.startswith s "-" = neg s := by
  rw [starts_tl, tlm]
  exact Bool.eq_iff_iff.mpr (by unfold neg; rw [decide_eq_true_iff, beq_iff_eq]; exact Iff.rfl)
theorem cut_neg (s : Str) : decide (cutS s none (some 1) = ("-" : Str)) = neg s := by
  rw [decStr, tlm, show cutS s none (some 1) = cutS s none (some ((1 : Nat) : Int)) from rfl, tl_take]
  rfl
theorem cut1_tl (s : Str) : TL.tl (cutS s (some 1) none) = (TL.tl s).drop 1 := tl_drop s 1
theorem cut0 (s : Str) : cutS s (some 0) none = s := TL.ext_tl ((tl_drop s 0).trans List.drop_zero)
theorem cut_body (s : Str) : cutS s (some (if neg s = true then (1 : Int) else 0)) none = body s := by
  unfold body
  cases neg s with
  | true => rw [if_pos rfl, if_pos rfl]
  | false => rw [if_neg Bool.false_ne_true, if_neg Bool.false_ne_true]; exact cut0 s
theorem tl_body (s : Str) : TL.tl s = if neg s = true then 45 :: TL.tl (body s) else TL.tl (body s) := by
  unfold body
  cases h : neg s with
  | false => rw [if_neg Bool.false_ne_true, if_neg Bool.false_ne_true]
  | true =>
    rw [if_pos rfl, if_pos rfl, cut1_tl]
    have := of_decide_eq_true h
    cases hs : TL.tl s with
    | nil => rw [hs] at this; cases this
    | cons c r =>
      rw [hs] at this
      have e : c = 45 := (List.cons.inj this).1
      rw [e]
      rfl
theorem ws_tl (s : Str) : (Ws s).map TL.tl = TL.spl [47] 0 [] (TL.tl (body s)) := by
  unfold Ws
  rw [split_tl (by rw [tls]; exact List.cons_ne_nil _ _) (by decide +kernel), tls]
theorem ws_join (s : Str) : TL.joinL [47] ((Ws s).map TL.tl) = TL.tl (body s) ∧ Ws s ≠ [] := by
  obtain ⟨h1, h2⟩ := join_spl 47 (TL.tl (body s)) []
  rw [← ws_tl] at h1 h2
  exact ⟨h1, fun z => h2 (by rw [z]; rfl)⟩
theorem body_tx {s : Str} (h : Tx s) : Tx (body s) := by
  have e := tl_body s
  refine ⟨?_, fun c hc => h.2 c ?_⟩
  · have h1 := h.1
    rw [TL.len_tl] at h1 ⊢
    rw [e] at h1
    split at h1
    · simp only [List.length_cons] at h1; omega
    · exact h1
  · rw [e]
    split
    · exact List.mem_cons_of_mem _ hc
    · exact hc
theorem ws_tx {s : Str} (h : Tx s) : (∀ w ∈ Ws s, Tx w) ∧ (Ws s).length ≤ 501 := by
  obtain ⟨h1, h2⟩ := join_mem [47] ((Ws s).map TL.tl)
  rw [(ws_join s).1] at h1 h2
  obtain ⟨b1, b2⟩ := body_tx h
  rw [TL.len_tl] at b1
  refine ⟨fun w hw => ?_, ?_⟩
  · obtain ⟨a, b⟩ := h1 _ (List.mem_map.mpr ⟨w, hw, rfl⟩)
    exact ⟨by rw [TL.len_tl]; omega, fun c hc => b2 c (a c hc)⟩
  · have := h2 (by simp)
    rw [List.length_map] at this
    omega
def gN (w : Str) : Int := ((PySem.NumText.digitsVal (TL.tl w) : Nat) : Int)
theorem gN_num {w : Str} {n : Nat} (h : TL.tl w = TL.numL n) : gN w = n := by
  unfold gN
  rw [h, TL.numL_val]
theorem int_ok {w : Str} (hw : Tx w) (h : plainL (TL.tl w) = true) : intM w = pure (gN w) := by
  obtain ⟨n, hn⟩ := plain_numL h
  rw [int_plain hn (Nat.le_trans hw.1 (by decide)), gN_num hn]
theorem split_neg {s : Str} (h : Tx s) : (if neg s = true then slS s (some 1) none >>= fun x11 => splitM x11 "/" else splitM s "/") = pure (Ws s) := by
  have hb := body_tx h
  unfold Ws body at *
  revert hb
  generalize neg s = q
  intro hb
  cases q with
  | true =>
    rw [if_pos rfl] at hb ⊢
    rw [if_pos rfl, slS_ok (Nat.le_trans h.1 (by decide))]
    simp only [pure_bind]
    exact splitM_ok rfl (Nat.le_trans hb.1 (by decide))
  | false =>
    rw [if_neg Bool.false_ne_true] at hb ⊢
    rw [if_neg Bool.false_ne_true]
    exact splitM_ok rfl (Nat.le_trans hb.1 (by decide))
theorem all_id (s : Str) : ((Ws s).map fun w => plainL (TL.tl w)).all id = allP s := by
  unfold allP
  rw [List.all_map]
  rfl
theorem fil_nil (s : Str) : (!decide ((Ws s).filter (fun w => !plainL (TL.tl w)) = [])) = !allP s := by
  congr 1
  refine Bool.eq_iff_iff.mpr ?_
  unfold allP
  rw [decide_eq_true_iff, List.filter_eq_nil_iff, List.all_eq_true]
  constructor
  · exact fun h w hw => by simpa using h w hw
  · exact fun h w hw => by simpa using h w hw
theorem toStr_d (s : Str) : toStr (d s) = some s := rfl
def bad (s : Str) : Prop := (Ws s).length > 2 ∨ allP s = false
theorem read_bad {s : Str} (h : Tx s) (hb : bad s) : m_read_ratio (d s) = .err "BadText" [("given", d s)] := by
  refine run_err ?_
  rw [toStr_d]
  show B_read_ratio s = _
  unfold B_read_ratio
  simp only [pure_bind, Bool.not_true, ifFF]
  rw [starts_neg, split_neg h]
  simp only [pure_bind]
  rw [lcM_all (g := fun w => plainL (TL.tl w)) (Nat.le_trans (ws_tx h).2 (by decide)) (fun w hw => by rw [isplain_ok ((ws_tx h).1 w hw).pl.1]; rfl)]
  simp only [pure_bind]
  rw [all_id]
  rcases hb with q | q
  · have e : decide (((Ws s).length : Int) > 2) = true := decide_eq_true (by omega)
    rw [e, ifTT]
    rfl
  · rw [q]
    by_cases e : ((Ws s).length : Int) > 2
    · rw [decide_eq_true e]; rfl
    · rw [decide_eq_false e]; rfl
theorem due_bad {s : Str} (h : Tx s) (hb : bad s) : m__law_due (d s) = .ok none := by
  refine run_eq ?_
  rw [toStr_d]
  show B__law_due s = _
  unfold B__law_due
  simp only [pure_bind, Bool.not_true, ifFF]
  rw [slS_ok (Nat.le_trans h.1 (by decide))]
  simp only [pure_bind]
  rw [cut_neg, slS_ok (Nat.le_trans h.1 (by decide)), cut_body]
  simp only [pure_bind]
  rw [splitM_ok rfl (Nat.le_trans (body_tx h).1 (by decide))]
  simp only [pure_bind]
  rw [show Txt.split (body s) ("/" : Str) = Ws s from rfl]
  rw [lcM_fil (t := fun w => !plainL (TL.tl w)) (g := fun w : Str => w) (Nat.le_trans (ws_tx h).2 (by decide)) (fun w hw => by rw [lawplain_ok ((ws_tx h).1 w hw).pl]; rfl) (fun _ _ => rfl)]
  simp only [pure_bind]
  rw [neD_strs (fun x hx => by rw [List.map_id'] at hx; exact ((ws_tx h).1 x (List.mem_filter.mp hx).1).pl) (fun x hx => by cases hx), List.map_id', fil_nil]
  rcases hb with q | q
  · have e : decide (((Ws s).length : Int) > 2) = true := decide_eq_true (by omega)
    rw [e, ifTT]
    rfl
  · rw [q]
    by_cases e : ((Ws s).length : Int) > 2
    · rw [decide_eq_true e]; rfl
    · rw [decide_eq_false e]; rfl
/-! ### one word, two words -/
def sgn (s : Str) : Int := if neg s = true then -1 else 1
theorem lt17 {n : Nat} {w : Str} (hw : Tx w) (h : TL.tl w = TL.numL n) : n < 2 ^ 1700 := by
  have h1 := num_lt (n := n) (k := 500) (by rw [← h, ← TL.len_tl]; exact hw.1)
  exact Nat.lt_of_lt_of_le h1 (by decide +kernel)
theorem sgn_abs (s : Str) : (sgn s).natAbs < 2 ^ 1 := by unfold sgn; split <;> decide
theorem sgn_mul (s : Str) (n : Nat) : sgn s * (n : Int) = if neg s = true then -(n : Int) else (n : Int) := by
  unfold sgn
  split
  · omega
  · omega
theorem abs_sg (s : Str) (n : Nat) : (sgn s * (n : Int)).natAbs = n := by
  rw [sgn_mul]
  split <;> omega
/-- what the program makes of good words -/
theorem read_good {s : Str} (h : Tx s) {ws : List Str} (hW : Ws s = ws) (ha : allP s = true) {t b : Int} (hl : ws.length ≤ 2) {w v : Str} {n : Nat} (h0 : ws = w :: v :: [] ∨ ws = [w]) (hn : TL.tl w = TL.numL n)
    (ht : t = sgn s * n) (hb : b = if ws.length = 2 then gN v else 1) (hv : ws = [w, v] → TL.tl v ≠ [48]) (b0 : 0 < b) (b1 : b.natAbs < 2 ^ 1700) :
    m_read_ratio (d s) = if txt (lowP t b) = s then .ok (mkR (lowP t b)) else .err "BadText" [("given", d s)] := by
  have hws := (ws_tx h).1
  rw [hW] at hws
  have hw0 : w ∈ ws := by rcases h0 with e | e <;> rw [e] <;> exact List.mem_cons_self
  have nb := lt17 (hws w hw0) hn
  have tb : t.natAbs < 2 ^ 1700 := by rw [ht, abs_sg]; exact nb
  have L := lowP_lo b0 tb b1
  have rd : B_read_ratio s = if txt (lowP t b) = s then pure (mkR (lowP t b)) else M.raise "BadText" [("given", d s)] := by
    unfold B_read_ratio
    simp only [pure_bind, Bool.not_true, ifFF]
    rw [starts_neg, split_neg h]
    simp only [pure_bind]
    rw [lcM_all (g := fun w => plainL (TL.tl w)) (Nat.le_trans (ws_tx h).2 (by decide)) (fun w hw => by rw [isplain_ok ((ws_tx h).1 w hw).pl.1]; rfl)]
    simp only [pure_bind]
    have hall : ∀ w ∈ Ws s, plainL (TL.tl w) = true := List.all_eq_true.mp ha
    rw [lcM_all (g := gN) (Nat.le_trans (ws_tx h).2 (by decide)) (fun w hw => by rw [int_ok ((ws_tx h).1 w hw) (hall w hw)])]
    simp only [pure_bind]
    rw [all_id, ha, hW]
    have c34 : (if decide ((ws.length : Int) > 2) = true then (pure true : M Bool) else if (!true) = true then pure true else (getM ws (-1) >>= fun x26 => pure (decide (x26 = ("0" : Str)))) >>= fun x31 => if x31 = true then pure (decide ((ws.length : Int) = 2)) else pure false) = pure false := by
      rw [decide_eq_false (by omega), ifFF, Bool.not_true, ifFF]
      rcases h0 with e | e
      · subst e
        rw [show getM [w, v] (-1) = pure v from rfl]
        simp only [pure_bind]
        rw [decStr, show TL.tl ("0" : Str) = [48] by decide +kernel, decide_eq_false (hv rfl), ifFF]
      · subst e
        rw [show getM [w] (-1) = pure w from rfl]
        simp only [pure_bind]
        rw [show decide ((([w].length : Nat) : Int) = 2) = false from rfl]
        split <;> rfl
    rw [c34]
    simp only [pure_bind, ifFF]
    have e1 : getM (ws.map gN) 0 = pure (n : Int) := by
      rcases h0 with e | e <;> subst e <;> rw [← gN_num hn] <;> rfl
    have e2 : (if decide (((ws.map gN).length : Int) = 2) = true then getM (ws.map gN) 1 else pure 1) = (pure b : M Int) := by
      rw [hb]
      rcases h0 with e | e <;> subst e <;> rfl
    rw [e1, e2]
    simp only [pite, pure_bind]
    rw [show (if neg s = true then (-1 : Int) else 1) = sgn s from rfl, mulM_k (sgn_abs s) (show ((n : Int)).natAbs < 2 ^ 1700 by rw [Int.natAbs_natCast]; exact nb) (by decide), ← ht]
    simp only [pure_bind]
    rw [new_ok b0 (Nat.lt_of_lt_of_le b1 (Nat.pow_le_pow_right (by decide) (by decide)))]
    simp only [M.lft_ok, pure_bind]
    rw [text_ok (by decide) L (by decide)]
    simp only [strict_lft, pure_bind]
    by_cases q : txt (lowP t b) = s
    · rw [if_pos q, decide_eq_true q]; rfl
    · rw [if_neg q, decide_eq_false q]; rfl
  show M.run (B_read_ratio s) = _
  rw [rd]
  split <;> rfl
end K03

set_option Elab.async false
set_option linter.all false
set_option maxRecDepth 100000
set_option maxHeartbeats 4000000
namespace K03
open PySem PySem.Spec PyProof.Rows L2 J N
open M
open ToD (d)
open ToDs (ds)
theorem read_zero {s : Str} (h : Tx s) {w v : Str} (hW : Ws s = [w, v]) (ha : allP s = true) (hv : TL.tl v = [48]) : m_read_ratio (d s) = .err "BadText" [("given", d s)] := by
  refine run_err ?_
  rw [toStr_d]
  show B_read_ratio s = _
  unfold B_read_ratio
  simp only [pure_bind, Bool.not_true, ifFF]
  rw [starts_neg, split_neg h]
  simp only [pure_bind]
  rw [lcM_all (g := fun w => plainL (TL.tl w)) (Nat.le_trans (ws_tx h).2 (by decide)) (fun w hw => by rw [isplain_ok ((ws_tx h).1 w hw).pl.1]; rfl)]
  simp only [pure_bind]
  rw [all_id, ha, hW]
  rw [show getM [w, v] (-1) = pure v from rfl]
  simp only [pure_bind]
  rw [decStr, show TL.tl ("0" : Str) = [48] by decide +kernel, decide_eq_true hv]
  rfl
theorem sg2 (s : Str) : (1 : Int) - 2 * (if neg s = true then 1 else 0) = sgn s := by unfold sgn; split <;> rfl
theorem m2 (s : Str) : mulM 2 (if neg s = true then 1 else 0) = pure (2 * (if neg s = true then 1 else 0)) := mulM_k (a := 2) (b := 1) (by decide) (by split <;> decide) (by decide)
/-- what is due for good words -/
theorem due_good {s : Str} (h : Tx s) (ha : allP s = true) {w v : Str} {n m : Nat} (h0 : Ws s = [w, v] ∨ Ws s = [w]) (hn : TL.tl w = TL.numL n) (hm : Ws s = [w, v] → TL.tl v = TL.numL m) :
    m__law_due (d s) = .ok (if neg s = true ∧ n = 0 then none else if (Ws s).length = 1 then some (n * sgn s, 1) else if m < 2 ∨ lowP n m ≠ ((n : Int), (m : Int)) then none else some (n * sgn s, (m : Int))) := by
  have hws := (ws_tx h).1
  have hw0 : w ∈ Ws s := by rcases h0 with e | e <;> rw [e] <;> exact List.mem_cons_self
  have nb := lt17 (hws w hw0) hn
  refine run_eq ?_
  rw [toStr_d]
  show B__law_due s = _
  unfold B__law_due
  simp only [pure_bind, Bool.not_true, ifFF]
  rw [slS_ok (Nat.le_trans h.1 (by decide))]
  simp only [pure_bind]
  rw [cut_neg, slS_ok (Nat.le_trans h.1 (by decide)), cut_body]
  simp only [pure_bind]
  rw [splitM_ok rfl (Nat.le_trans (body_tx h).1 (by decide))]
  simp only [pure_bind]
  rw [show Txt.split (body s) ("/" : Str) = Ws s from rfl]
  rw [lcM_fil (t := fun w => !plainL (TL.tl w)) (g := fun w : Str => w) (Nat.le_trans (ws_tx h).2 (by decide)) (fun w hw => by rw [lawplain_ok ((ws_tx h).1 w hw).pl]; rfl) (fun _ _ => rfl)]
  have hall : ∀ w ∈ Ws s, plainL (TL.tl w) = true := List.all_eq_true.mp ha
  rw [lcM_all (g := gN) (Nat.le_trans (ws_tx h).2 (by decide)) (fun w hw => by rw [int_ok ((ws_tx h).1 w hw) (hall w hw)])]
  simp only [pure_bind]
  rw [neD_strs (fun x hx => by rw [List.map_id'] at hx; exact ((ws_tx h).1 x (List.mem_filter.mp hx).1).pl) (fun x hx => by cases hx), List.map_id', fil_nil, ha, Bool.not_true, m2]
  simp only [pure_bind, sg2]
  have l2 : decide (((Ws s).length : Int) > 2) = false := by rcases h0 with e | e <;> rw [e] <;> rfl
  rw [l2, ifFF]
  simp only [pure_bind, ifFF]
  have e1 : getM ((Ws s).map gN) 0 = pure (n : Int) := by
    rcases h0 with e | e <;> rw [e, ← gN_num hn] <;> rfl
  rw [e1]
  simp only [pure_bind, pite]
  have c36 : (if neg s = true then decide ((n : Int) = 0) else false) = decide (neg s = true ∧ n = 0) := by
    cases neg s with
    | true => rw [if_pos rfl]; exact decide_eq_decide.mpr ⟨fun h => ⟨rfl, by omega⟩, fun h => by omega⟩
    | false => rw [if_neg Bool.false_ne_true]; exact (decide_eq_false fun h => Bool.false_ne_true h.1).symm
  rw [c36]
  by_cases q : neg s = true ∧ n = 0
  · rw [decide_eq_true q, ifTT, if_pos q]
  · rw [decide_eq_false q, ifFF, if_neg q]
    have ms := mulM_k (i := (n : Int)) (j := sgn s) (a := 1700) (b := 1) (by rw [Int.natAbs_natCast]; exact nb) (sgn_abs s) (by decide)
    rw [ms]
    simp only [pure_bind]
    rcases h0 with e | e
    · rw [e]
      have hv := hm e
      have mb := lt17 (hws v (by rw [e]; exact List.mem_cons_of_mem _ List.mem_cons_self)) hv
      rw [show decide ((([w, v].length : Nat) : Int) = 1) = false from rfl, ifFF, if_neg (show ¬ [w, v].length = 1 by simp), show getM ([w, v].map gN) 1 = pure (gN v) from rfl, gN_num hv]
      simp only [pure_bind]
      by_cases m2 : m < 2
      · rw [decide_eq_true (show (m : Int) < 2 by omega), ifTT, if_pos (.inl m2)]
        rfl
      · rw [decide_eq_false (show ¬ (m : Int) < 2 by omega), ifFF, low_ok (by omega) (Nat.lt_of_lt_of_le (show ((m : Int)).natAbs < 2 ^ 1700 by rw [Int.natAbs_natCast]; exact mb) (Nat.pow_le_pow_right (by decide) (by decide)))]
        simp only [M.lft_ok, pure_bind]
        rw [neD_pair]
        simp only [pure_bind]
        show (if (!decide (lowP n m = ((n : Int), (m : Int)))) = true then (pure none : M (Option (Int × Int))) else _) = _
        by_cases lq : lowP n m = ((n : Int), (m : Int))
        · rw [decide_eq_true lq, Bool.not_true, ifFF, if_neg (fun z => z.elim m2 fun a => a lq)]
        · rw [decide_eq_false lq, Bool.not_false, ifTT, if_pos (.inr lq)]
    · rw [e, if_pos (show [w].length = 1 from rfl)]
      rfl
theorem gcd_sgn (s : Str) (n m : Nat) : Int.gcd (sgn s * (n : Int)) (m : Int) = Int.gcd (n : Int) (m : Int) := by
  rw [sgn_mul]
  split
  · exact Int.neg_gcd
  · rfl
/-- the program reads what is due -/
theorem read_both {s : Str} (h : Tx s) : (m__law_due (d s) = .ok none ∧ m_read_ratio (d s) = .err "BadText" [("given", d s)]) ∨ ∃ p, m__law_due (d s) = .ok (some p) ∧ m_read_ratio (d s) = .ok (mkR p) := by
  by_cases hb : bad s
  · exact .inl ⟨due_bad h hb, read_bad h hb⟩
  have hl : (Ws s).length ≤ 2 := by
    by_cases z : (Ws s).length > 2
    · exact absurd (.inl z) hb
    · omega
  have ha : allP s = true := by
    cases z : allP s with
    | true => rfl
    | false => exact absurd (.inr z) hb
  have hall : ∀ w ∈ Ws s, plainL (TL.tl w) = true := List.all_eq_true.mp ha
  obtain ⟨hj, hne⟩ := ws_join s
  have hs := tl_body s
  rw [← hj] at hs
  match hW : Ws s, hl with
  | [], _ => exact absurd hW hne
  | [w], _ =>
    obtain ⟨n, hn⟩ := plain_numL (hall w (by rw [hW]; exact List.mem_cons_self))
    have D := due_good (v := w) (m := 0) h ha (.inr hW) hn (fun z => by rw [hW] at z; cases z)
    have R := read_good (v := w) h hW ha (Nat.le_succ 1) (.inr rfl) hn rfl (b := 1) rfl (fun z => by cases z) (by decide) (by decide +kernel)
    rw [hW] at D hs
    rw [low_self (p := (sgn s * n, 1)) (by simp)] at R
    have hs2 : TL.tl s = if neg s = true then 45 :: TL.numL n else TL.numL n := by rw [hs]; show (if neg s = true then 45 :: TL.tl w else TL.tl w) = _; rw [hn]
    have key : txt (sgn s * n, 1) = s ↔ ¬ (neg s = true ∧ n = 0) := by
      have ht : TL.tl (txt (sgn s * n, 1)) = sgL (sgn s * n) := by rw [tl_txt]; rfl
      constructor
      · intro e
        have e2 : sgL (sgn s * n) = if neg s = true then 45 :: TL.numL n else TL.numL n := by rw [← ht, e, hs2]
        have := (sg_eq e2).2
        exact fun z => this z.1 z.2
      · intro q
        refine TL.ext_tl ?_
        rw [ht, hs2, sgn_mul, sg_of fun z z2 => q ⟨z, z2⟩]
    by_cases q : neg s = true ∧ n = 0
    · rw [if_pos q] at D
      rw [if_neg fun z => (key.mp z) q] at R
      exact .inl ⟨D, R⟩
    · rw [if_neg q, if_pos (show [w].length = 1 from rfl), Int.mul_comm] at D
      rw [if_pos (key.mpr q)] at R
      exact .inr ⟨_, D, R⟩
  | [w, v], _ =>
    obtain ⟨n, hn⟩ := plain_numL (hall w (by rw [hW]; exact List.mem_cons_self))
    obtain ⟨m, hm⟩ := plain_numL (hall v (by rw [hW]; exact List.mem_cons_of_mem _ List.mem_cons_self))
    have D := due_good h ha (.inl hW) hn (fun _ => hm)
    have mb := lt17 ((ws_tx h).1 v (by rw [hW]; exact List.mem_cons_of_mem _ List.mem_cons_self)) hm
    by_cases m0 : m = 0
    · subst m0
      refine .inl ⟨?_, read_zero h hW ha (by rw [hm]; decide +kernel)⟩
      rw [D, hW, if_neg (show ¬ [w, v].length = 1 by simp), if_pos (Or.inl (show 0 < 2 by decide))]
      split <;> rfl
    · have R := read_good (v := v) h hW ha (Nat.le_refl 2) (.inl rfl) hn rfl (b := (m : Int)) (gN_num hm).symm (fun _ e => m0 (TL.numL_inj (hm.symm.trans (e.trans (show [48] = TL.numL 0 by decide +kernel))))) (by omega) (by rw [Int.natAbs_natCast]; exact mb)
      rw [hW] at D hs
      rw [if_neg (show ¬ [w, v].length = 1 by simp)] at D
      have hs2 : TL.tl s = (if neg s = true then 45 :: TL.numL n else TL.numL n) ++ 47 :: TL.numL m := by
        rw [hs]
        show (if neg s = true then 45 :: (TL.tl w ++ ([47] ++ TL.tl v)) else TL.tl w ++ ([47] ++ TL.tl v)) = _
        rw [hn, hm]
        split <;> rfl
      have f47 : 47 ∉ (if neg s = true then 45 :: TL.numL n else TL.numL n) := by
        split
        · exact fun z => (List.mem_cons.mp z).elim (by decide) (TL.numL_free (.inl (by decide)))
        · exact TL.numL_free (.inl (by decide))
      obtain ⟨-, -, lp, lg, -, -, -⟩ := low_facts (t := sgn s * n) (b := (m : Int)) (by omega)
      have key : txt (lowP (sgn s * n) m) = s ↔ (¬ (neg s = true ∧ n = 0) ∧ ¬ (m < 2 ∨ lowP n m ≠ ((n : Int), (m : Int)))) := by
        constructor
        · intro e
          have e2 : txL (lowP (sgn s * n) m) = _ := (tl_txt _).symm.trans ((congrArg TL.tl e).trans hs2)
          generalize lowP (sgn s * n) m = P at e2 lp lg
          unfold txL at e2
          by_cases u1 : P.2 = 1
          · rw [if_pos u1] at e2
            exact absurd (show 47 ∈ sgL P.1 by rw [e2]; exact List.mem_append.mpr (.inr List.mem_cons_self)) sg_free
          · rw [if_neg u1] at e2
            obtain ⟨a, b⟩ := append_cut sg_free f47 e2
            obtain ⟨a1, a2⟩ := sg_eq a
            have b1 : P.2 = (m : Int) := by
              unfold sgL at b
              rw [if_pos (by omega)] at b
              have := TL.numL_inj b
              omega
            refine ⟨fun z => a2 z.1 z.2, ?_⟩
            rintro (z | z)
            · omega
            · refine z ?_
              have g : Int.gcd (n : Int) (m : Int) = 1 := by
                rw [← gcd_sgn s, sgn_mul, ← a1, ← b1]
                exact lg
              exact low_self (p := ((n : Int), (m : Int))) g
        · rintro ⟨q1, q2⟩
          have hm2 : ¬ m < 2 := fun z => q2 (.inl z)
          have lq : lowP n m = ((n : Int), (m : Int)) := Classical.byContradiction fun z => q2 (.inr z)
          obtain ⟨-, -, -, g1, -, -, -⟩ := low_facts (t := (n : Int)) (b := (m : Int)) (by omega)
          rw [lq] at g1
          rw [low_self (p := (sgn s * n, (m : Int))) ((gcd_sgn s n m).trans g1)]
          refine TL.ext_tl ?_
          rw [tl_txt, hs2]
          unfold txL
          rw [if_neg (show ¬ (m : Int) = 1 by omega)]
          show sgL (sgn s * n) ++ 47 :: sgL (m : Int) = _
          rw [sgn_mul, sg_of fun z z2 => q1 ⟨z, z2⟩]
          unfold sgL
          rw [if_pos (show (0 : Int) ≤ (m : Int) by omega), Int.natAbs_natCast]
      by_cases q1 : neg s = true ∧ n = 0
      · rw [if_pos q1] at D
        rw [if_neg fun z => (key.mp z).1 q1] at R
        exact .inl ⟨D, R⟩
      · rw [if_neg q1] at D
        by_cases q2 : m < 2 ∨ lowP n m ≠ ((n : Int), (m : Int))
        · rw [if_pos q2] at D
          rw [if_neg fun z => (key.mp z).2 q2] at R
          exact .inl ⟨D, R⟩
        · rw [if_neg q2, Int.mul_comm] at D
          rw [if_pos (key.mpr ⟨q1, q2⟩)] at R
          have hm2 : ¬ m < 2 := fun z => q2 (.inl z)
          have lq : lowP n m = ((n : Int), (m : Int)) := Classical.byContradiction fun z => q2 (.inr z)
          obtain ⟨-, -, -, g1, -, -, -⟩ := low_facts (t := (n : Int)) (b := (m : Int)) (by omega)
          rw [lq] at g1
          rw [low_self (p := (sgn s * n, (m : Int))) ((gcd_sgn s n m).trans g1)] at R
          exact .inr ⟨_, D, R⟩
  | _ :: _ :: _ :: _, z => simp at z
end K03

set_option Elab.async false
set_option linter.all false
set_option maxRecDepth 100000
set_option maxHeartbeats 4000000
namespace K03
open PySem PySem.Spec PyProof.Rows L2 J N
open M
open ToD (d)
open ToDs (ds)
/-! ### what is no text, what is no number -/
theorem right_bad {v : D} {y : Str} (h1 : m__law_due v = .ok none) (h2 : m_read_ratio v = .err "BadText" [("given", v)]) (h3 : reprM v = pure y) : m__law_read_right v = .ok true := by
  refine run_eq ?_
  unfold B__law_read_right
  simp only [pure_bind, h1, h2, M.lft_ok]
  have e : xfM [(("given" : Str), v)] "given" = pure v := by
    unfold xfM
    rw [show List.lookup ("given" : Str) [(("given" : Str), v)] = some v by rw [List.lookup_cons, beq_self_eq_true]]
  funext b
  show tryM _ (M.raise _ _) _ _ b = _
  unfold tryM M.raise
  dsimp only
  rw [if_pos List.mem_cons_self, e]
  simp only [pure_bind]
  show ((strict (if (none : Option (Int × Int)).isNone = true then (reprM v >>= fun x7 => reprM v >>= fun x8 => pure (decide (x7 = x8))) >>= fun x9 => if x9 = true then need (_ ≠ []) >>= fun _ => pure true else pure false else pure false)) >>= fun w11 => pure (id w11)) b = _
  rw [h3]
  simp only [pure_bind]
  rw [need_T (List.cons_ne_nil _ _)]
  rfl
theorem right_text {s : Str} (h : Tx s) : m__law_read_right (d s) = .ok true := by
  rcases read_both h with ⟨h1, h2⟩ | ⟨p, h1, h2⟩
  · exact right_bad h1 h2 (reprM_str h.pl)
  · refine run_eq ?_
    unfold B__law_read_right
    simp only [pure_bind, h1, h2, M.lft_ok]
    funext b
    show ((if (!(some p).isNone) = true then unopt (some p) >>= fun a16 => lft (m__law_is (mkR p) a16) else pure false) : M Bool) b = _
    rw [show unopt (some p) = pure p from rfl]
    simp only [pure_bind, is_ok, M.lft_ok]
    rfl
theorem right_odd {v : D} {y : Str} (h1 : toStr v = none) (h2 : KnownD ["Ratio"] v) (h3 : isStrB v = false) (h4 : reprM v = pure y) : m__law_read_right v = .ok true := by
  refine right_bad (run_eq ?_) (run_err ?_) h4
  · rw [h1]
    show B2__law_due v = _
    unfold B2__law_due
    simp only [pure_bind]
    rw [need_T h2]
    simp only [pure_bind, h3, Bool.not_false, ifTT]
    rfl
  · rw [h1]
    show B2_read_ratio v = _
    unfold B2_read_ratio
    simp only [pure_bind]
    rw [need_T h2]
    simp only [pure_bind, h3, Bool.not_false, ifTT]
    rfl
theorem number_odd {v : D} {y : Str} (h1 : toNm v = none) (h2 : KnownD ["Ratio"] v) (h3 : (isIntB v && !isBlB v) = false) (h5 : isInsB "Ratio" v = false) (h4 : reprM v = pure y) : m__law_no_number v = .ok true := by
  have hi : m_is_integer v = .ok false := by
    refine run_eq ?_
    unfold B_is_integer
    simp only [pure_bind]
    rw [need_T h2]
    simp only [pure_bind]
    cases q : isIntB v with
    | false => rfl
    | true =>
      rw [q, Bool.true_and] at h3
      rw [ifTT, h3]
  have hn : m_is_number v = .ok false := by
    refine run_eq ?_
    unfold B_is_number
    simp only [pure_bind, hi, M.lft_ok]
    rw [ifFF, need_T h2]
    simp only [pure_bind]
    rw [h5]
  have ha : m_as_ratio v = .err "BadNumber" [("given", v)] := by
    refine run_err ?_
    rw [h1]
    show B2_as_ratio v = _
    unfold B2_as_ratio
    simp only [pure_bind, hn, M.lft_ok, Bool.not_false, ifTT]
    rfl
  refine run_eq ?_
  unfold B__law_no_number
  simp only [pure_bind, ha]
  have e : xfM [(("given" : Str), v)] "given" = pure v := by
    unfold xfM
    rw [show List.lookup ("given" : Str) [(("given" : Str), v)] = some v by rw [List.lookup_cons, beq_self_eq_true]]
  funext b
  show tryM _ (M.raise _ _) _ _ b = _
  unfold tryM M.raise
  dsimp only
  rw [if_pos List.mem_cons_self, e]
  simp only [pure_bind]
  show ((strict ((reprM v >>= fun x7 => reprM v >>= fun x8 => pure (decide (x7 = x8))) >>= fun x9 => if x9 = true then need (_ ≠ []) >>= fun _ => pure true else pure false)) >>= fun w11 => pure (id w11)) b = _
  rw [h4]
  simp only [pure_bind]
  rw [need_T (List.cons_ne_nil _ _)]
  rfl
/-! ### repr of the odd ones -/
theorem len_app (a b : Str) : (a ++ b).length = a.length + b.length := by rw [TL.len_tl, TL.tl_append, List.length_append, ← TL.len_tl, ← TL.len_tl]
theorem shown_str (s : Str) : PyData.shown (.str s) = reprText s := by rw [PyData.shown]
theorem repr_list1 {s : Str} (h : plainTx s) : ∃ y, reprM (d [s]) = pure y := by
  refine ⟨_, reprM_of (p := .list [.str s]) rfl (by simp [PyData.hasDict, PyData.hasDictAll]) (by simp [PyData.showable, PyData.showableAll]) (by simp [PyData.depth, PyData.depthAll]) ?_⟩
  have := repr_len h
  rw [PyData.shown, PyData.shownAll, PyData.shownAll, shown_str]
  have e : listText [reprText s] = ("[" : Str) ++ ("" : Str) ++ reprText s ++ ("]" : Str) := rfl
  rw [e, len_app, len_app, len_app]
  have l1 : ("[" : Str).length = 1 := rfl
  have l2 : ("" : Str).length = 0 := rfl
  have l3 : ("]" : Str).length = 1 := rfl
  omega
theorem repr_tup1 {s : Str} (h : plainTx s) : ∃ y, reprM (d (VT.mk [s])) = pure y := by
  refine ⟨_, reprM_of (p := .tuple [.str s]) rfl (by simp [PyData.hasDict, PyData.hasDictAll]) (by simp [PyData.showable, PyData.showableAll]) (by simp [PyData.depth, PyData.depthAll]) ?_⟩
  have := repr_len h
  rw [PyData.shown, PyData.shownAll, PyData.shownAll, shown_str]
  have e : tupleText [reprText s] = ("(" : Str) ++ reprText s ++ (",)" : Str) := rfl
  rw [e, len_app, len_app]
  have l1 : ("(" : Str).length = 1 := rfl
  have l3 : (",)" : Str).length = 2 := rfl
  omega
theorem repr_none : ∃ y, reprM (D.non) = pure y := ⟨_, reprM_of (p := .none) rfl rfl rfl (by decide) (by decide +kernel)⟩
theorem repr_bool (b : Bool) : ∃ y, reprM (D.bl b) = pure y := ⟨_, reprM_of (p := .bool b) rfl rfl rfl (by simp [PyData.depth]) (by cases b <;> decide +kernel)⟩
theorem repr_3 : ∃ y, reprM (D.int 3) = pure y := ⟨_, reprM_of (p := .int 3) rfl rfl (by decide +kernel) (by decide) (by decide +kernel)⟩
theorem repr_l1 : ∃ y, reprM (d [(1 : Int)]) = pure y := ⟨_, reprM_of (p := .list [.int 1]) rfl rfl (by decide +kernel) (by decide) (by decide +kernel)⟩
theorem repr_t12 : ∃ y, reprM (d ((1 : Int), (2 : Int))) = pure y := ⟨_, reprM_of (p := .tuple [.int 1, .int 2]) rfl rfl (by decide +kernel) (by decide) (by decide +kernel)⟩
theorem repr_dic : ∃ y, reprM (D.dic []) = pure y := by
  refine ⟨_, show (do need ((dictD []).showable = true ∧ (dictD []).depth ≤ 40 ∧ (dictD []).shown.length ≤ sizeLine); pure (dictD []).shown : M Str) = pure (dictD []).shown from ?_⟩
  rw [need_T ⟨rfl, by decide, Nat.le_trans (show (dictD []).shown.length ≤ 1000000 by decide +kernel) sizeLine_big⟩]
  simp only [pure_bind]
end K03

set_option Elab.async false
set_option linter.all false
set_option maxRecDepth 100000
set_option maxHeartbeats 4000000
/-! N18: triples of draws: chained, with lists side by side. -/
namespace N
open PySem PySem.Spec PyProof.Rows L2 J
open ToD (d)
open ToDs (ds)
open M
theorem tri_b {α β : Type} {k l n : Int} {m : M α} {f : α → M β} {P : α → Prop} {Q : β → Prop} (h1 : Tri k m P) (hk : 0 ≤ k) (hl : 0 ≤ l) (e : k + l ≤ n) (h2 : ∀ a, P a → Tri l (f a) Q) : Tri n (m >>= f) Q := tri_up (tri_bind h1 hk hl h2) e
theorem tri_tk {β : Type} {l n m : Int} {f : Int → M β} {Q : β → Prop} (hm : 0 < m) (hm2 : m < 10 ^ 40) (hl : 0 ≤ l) (e : l + 1 ≤ n) (h2 : ∀ a, 0 ≤ a → a < m → Tri l (f a) Q) : Tri n (takeM m >>= f) Q :=
  tri_b (tri_take hm hm2) (by omega) hl (by omega) fun a h => h2 a h.1 h.2
theorem tri_p {α : Type} {a : α} {P : α → Prop} {n : Int} (hn : 0 ≤ n) (h : P a) : Tri n (pure a) P := tri_up (tri_pure h) hn
/-- two lists side by side -/
inductive Al {α β : Type} (R : α → β → Prop) : List α → List β → Prop
  | nil : Al R [] []
  | cons {a : α} {b : β} {xs : List α} {ys : List β} : R a b → Al R xs ys → Al R (a :: xs) (b :: ys)
theorem Al.len {α β : Type} {R : α → β → Prop} : ∀ {xs : List α} {ys : List β}, Al R xs ys → xs.length = ys.length
  | _, _, .nil => rfl
  | _, _, .cons _ t => by rw [List.length_cons, List.length_cons, t.len]
theorem Al.right {α β : Type} {R : α → β → Prop} : ∀ {xs : List α} {ys : List β}, Al R xs ys → ∀ y ∈ ys, ∃ x ∈ xs, R x y
  | _, _, .nil, y, h => absurd h List.not_mem_nil
  | _, _, .cons r t, y, h => by
    rcases List.mem_cons.mp h with rfl | h
    · exact ⟨_, List.mem_cons_self, r⟩
    · obtain ⟨x, a, b⟩ := t.right y h
      exact ⟨x, List.mem_cons_of_mem _ a, b⟩
theorem Al.app {α β : Type} {R : α → β → Prop} : ∀ {xs us : List α} {ys vs : List β}, Al R xs ys → Al R us vs → Al R (xs ++ us) (ys ++ vs)
  | _, _, _, _, .nil, h => h
  | _, _, _, _, .cons r t, h => .cons r (t.app h)
theorem Al.mapR {α β γ : Type} {R : α → β → Prop} {S : α → γ → Prop} {g : β → γ} (hg : ∀ a b, R a b → S a (g b)) : ∀ {xs : List α} {ys : List β}, Al R xs ys → Al S xs (ys.map g)
  | _, _, .nil => .nil
  | _, _, .cons r t => .cons (hg _ _ r) (t.mapR hg)
theorem tri_lcAR {ι β : Type} {t : ι → M Bool} {f : ι → M β} {k : Int} (hk : 0 ≤ k) {P : ι → β → Prop} : ∀ (xs zs : List ι) (acc : List β), (∀ a ∈ xs, t a = pure true) → (∀ a ∈ xs, Tri k (f a) (P a)) → Al P zs acc →
    Tri (k * xs.length) (lcA t f acc xs) (fun ys => Al P (zs ++ xs) ys)
  | [], zs, acc, _, _, ha => by
    have := tri_pure (a := acc) (P := fun ys => Al P (zs ++ []) ys) (by rw [List.append_nil]; exact ha)
    simpa [lcA] using this
  | a :: r, zs, acc, ht, hf, ha => by
    intro n s hi h0 hn
    have hl : k * ((a :: r).length : Int) = k + k * (r.length : Int) := by
      rw [List.length_cons]
      have : ((r.length + 1 : Nat) : Int) = (r.length : Int) + 1 := by omega
      rw [this, Int.mul_add, Int.mul_one, Int.add_comm]
    have hr0 : 0 ≤ k * (r.length : Int) := Int.mul_nonneg hk (by omega)
    rw [hl] at hn ⊢
    obtain ⟨y, s1, e1, py, i1⟩ := hf a List.mem_cons_self n s hi h0 (by omega)
    obtain ⟨ys, s2, e2, pz, i2⟩ := tri_lcAR hk r (zs ++ [a]) (acc ++ [y]) (fun b hb => ht b (List.mem_cons_of_mem _ hb)) (fun b hb => hf b (List.mem_cons_of_mem _ hb)) (ha.app (.cons py .nil)) (n + k) s1 i1 (by omega) (by omega)
    refine ⟨ys, s2, ?_, by rw [List.append_assoc] at pz; exact pz, by rw [← Int.add_assoc]; exact i2⟩
    unfold lcA
    rw [ht a List.mem_cons_self, strict_pure]
    show (strict (f a) >>= fun y => lcA t f (acc ++ [y]) r) s = _
    rw [M.bind_def]
    unfold strict
    rw [e1]
    exact e2
theorem tri_lcR {ι β : Type} {t : ι → M Bool} {f : ι → M β} {k : Int} (hk : 0 ≤ k) {P : ι → β → Prop} {xs : List ι} (hx : xs.length ≤ 1000) (ht : ∀ a ∈ xs, t a = pure true) (hf : ∀ a ∈ xs, Tri k (f a) (P a)) :
    Tri (k * xs.length) (lcM t f xs) (fun ys => Al P xs ys) := by
  unfold lcM
  rw [need_T (small_sl hx)]
  have := tri_lcAR hk (P := P) xs [] [] ht hf .nil
  simpa using this
theorem tri_foldI {ι S : Type} {body : ι → S → M S} {k : Int} (hk : 0 ≤ k) {I : Nat → S → Prop} : ∀ (xs : List ι) (i : Nat) (s : S), (∀ a ∈ xs, ∀ j s, j < i + xs.length → I j s → Tri k (body a s) (I (j + 1))) → I i s → Tri (k * xs.length) (foldM body xs s) (I (i + xs.length))
  | [], i, s, _, h => by
    have := tri_pure (a := s) (P := I i) h
    simpa [foldM] using this
  | a :: r, i, s, hb, h => by
    have hl : k * ((a :: r).length : Int) = k + k * (r.length : Int) := by
      rw [List.length_cons]
      have : ((r.length + 1 : Nat) : Int) = (r.length : Int) + 1 := by omega
      rw [this, Int.mul_add, Int.mul_one, Int.add_comm]
    rw [hl]
    unfold foldM
    refine tri_bind (hb a List.mem_cons_self i s (by rw [List.length_cons]; omega) h) hk (Int.mul_nonneg hk (by omega)) fun s' h' => ?_
    have := tri_foldI hk r (i + 1) s' (fun b hb' j s hj => hb b (List.mem_cons_of_mem _ hb') j s (by rw [List.length_cons]; omega)) h'
    rw [List.length_cons, show i + (r.length + 1) = i + 1 + r.length by omega]
    exact this
theorem forM_nx {ι ρ : Type} {body : ι → Unit → M (Step Unit ρ)} : ∀ (xs : List ι), (∀ a ∈ xs, body a () = pure (.nx ())) → N.forM body xs () = pure (.nx ())
  | [], _ => rfl
  | a :: r, h => by
    unfold N.forM
    rw [h a List.mem_cons_self]
    simp only [pure_bind]
    exact forM_nx r fun b hb => h b (List.mem_cons_of_mem _ hb)
theorem getM_in {α : Type} {xs : List α} {i : Int} (h0 : 0 ≤ i) (h1 : i < xs.length) : ∃ a ∈ xs, getM xs i = pure a := by
  obtain ⟨n, rfl⟩ := Int.eq_ofNat_of_zero_le h0
  have l : n < xs.length := by omega
  refine ⟨xs[n], List.getElem_mem l, ?_⟩
  unfold getM
  rw [atI_nat (List.getElem?_eq_getElem l)]
end N

set_option Elab.async false
set_option linter.all false
set_option maxRecDepth 100000
set_option maxHeartbeats 4000000
namespace K03
open PySem PySem.Spec PyProof.Rows L2 J N
open M
open ToD (d)
open ToDs (ds)
/-! ### sums, the greatest, the least -/
abbrev OfP : Int × Int → Nm → Prop := fun p x => Of x p
def maxP (m p : Int × Int) : Int × Int := if lessP m p = true then p else m
def minP (m p : Int × Int) : Int × Int := if lessP p m = true then p else m
theorem maxP_lo {k : Nat} {m p : Int × Int} (h1 : Lo k m) (h2 : Lo k p) : Lo k (maxP m p) := by unfold maxP; split <;> assumption
theorem minP_lo {k : Nat} {m p : Int × Int} (h1 : Lo k m) (h2 : Lo k p) : Lo k (minP m p) := by unfold minP; split <;> assumption
theorem one_lo {j : Nat} (hj : 0 < j) : Lo j ((0 : Int), (1 : Int)) := ⟨by decide, by decide, Nat.two_pow_pos j, Nat.one_lt_two_pow (by omega)⟩
theorem total_fold : ∀ (ps : List (Int × Int)) (xs : List Nm) (j : Nat) (W : Int × Int), Al OfP ps xs → (∀ p ∈ ps, Lo 98 p) → Lo j W → j + 99 * ps.length ≤ 1900 →
    foldM (fun (v_number : Nm) (s2 : Rt) => (((pure s2) >>= fun x4 => ((pure v_number) >>= fun x5 => strict (lft (m_Ratio___add__ x4 x5)))) >>= fun v_found => pure v_found)) xs (mkR W) = pure (mkR (ps.foldl plusP W))
  | [], _, j, W, .nil, _, _, _ => rfl
  | p :: ps, x :: xs, j, W, .cons r t, hp, hW, hj => by
    rw [List.length_cons] at hj
    have h1 := hp p List.mem_cons_self
    unfold foldM
    simp only [pure_bind]
    rw [add_ok hW h1 r (by omega)]
    simp only [strict_lft, pure_bind]
    exact total_fold ps xs (j + 98 + 1) (plusP W p) t (fun q hq => hp q (List.mem_cons_of_mem _ hq)) (plus_lo hW h1) (by omega)
theorem total_ok {q : Sq Nm} {ps : List (Int × Int)} (h : Al OfP ps q.xs) (hp : ∀ p ∈ ps, Lo 98 p) (hl : ps.length ≤ 10) : m_total q = .ok (mkR (ps.foldl plusP (0, 1))) := by
  refine run_eq ?_
  unfold B_total
  simp only [pure_bind, new1_ok, M.lft_ok]
  have := total_fold ps q.xs 1 (0, 1) h hp (one_lo (by decide)) (by omega)
  simp only [pure_bind] at this
  rw [this]
  rfl
theorem great_fold : ∀ (ps : List (Int × Int)) (xs : List Nm) (W : Int × Int), Al OfP ps xs → (∀ p ∈ ps, Lo 98 p) → Lo 98 W →
    foldM (fun (v_number : Nm) (s5 : Rt) => (((pure s5) >>= fun x8 => ((pure v_number) >>= fun a7 => lft (m_Ratio_below x8 a7))) >>= fun c9 => ((if c9 = true then ((((pure v_number) >>= fun x11 => pure ((d x11 : D))) >>= fun a12 => lft (m_as_ratio a12)) >>= fun v_found => pure v_found) else pure s5) >>= fun s10 => pure s10))) xs (mkR W) = pure (mkR (ps.foldl maxP W))
  | [], _, W, .nil, _, _ => rfl
  | p :: ps, x :: xs, W, .cons r t, hp, hW => by
    have h1 := hp p List.mem_cons_self
    unfold foldM
    simp only [pure_bind]
    rw [below_ok hW h1 r (by omega), as_ok h1 r (by omega)]
    simp only [M.lft_ok, pure_bind]
    have e : (if lessP W p = true then pure (mkR p) else pure (mkR W) : M Rt) = pure (mkR (maxP W p)) := by unfold maxP; split <;> rfl
    rw [e]
    simp only [pure_bind]
    have := great_fold ps xs (maxP W p) t (fun q hq => hp q (List.mem_cons_of_mem _ hq)) (maxP_lo hW h1)
    simp only [pure_bind] at this
    exact this
theorem great_ok {q : Sq Nm} {p : Int × Int} {ps : List (Int × Int)} (h : Al OfP (p :: ps) q.xs) (hp : ∀ r ∈ p :: ps, Lo 98 r) : m_greatest q = .ok (mkR ((p :: ps).foldl maxP p)) := by
  refine run_eq ?_
  unfold B_greatest
  simp only [pure_bind]
  have h0 := hp p List.mem_cons_self
  have hg : ∃ x, getM q.xs 0 = pure x ∧ Of x p := by
    generalize q.xs = xs at h
    cases h with
    | cons r t => exact ⟨_, getM_nat (n := 0) rfl (by decide), r⟩
  obtain ⟨x, hx, hr⟩ := hg
  rw [hx]
  simp only [pure_bind]
  rw [as_ok h0 hr (by omega)]
  simp only [M.lft_ok, pure_bind]
  have := great_fold (p :: ps) q.xs p h hp h0
  simp only [pure_bind] at this
  rw [this]
  rfl
theorem negfold : ∀ (ps : List (Int × Int)) (W : Int × Int), (ps.map negP).foldl maxP (negP W) = negP (ps.foldl minP W)
  | [], W => rfl
  | p :: ps, W => by
    rw [List.map_cons, List.foldl_cons, List.foldl_cons, ← negfold ps]
    congr 1
    unfold maxP minP
    have e : lessP (negP W) (negP p) = lessP p W := by
      unfold lessP negP
      refine decide_eq_decide.mpr ?_
      dsimp only
      rw [Int.neg_mul, Int.neg_mul]
      omega
    rw [e]
    split <;> rfl
theorem negneg (p : Int × Int) : negP (negP p) = p := by unfold negP; simp
theorem least_ok {q : Sq Nm} {p : Int × Int} {ps : List (Int × Int)} (h : Al OfP (p :: ps) q.xs) (hp : ∀ r ∈ p :: ps, Lo 98 r) (hl : ps.length ≤ 10) : m_least q = .ok (mkR ((p :: ps).foldl minP p)) := by
  have key : ∀ (ps : List (Int × Int)) (xs : List Nm), Al OfP ps xs → (∀ r ∈ ps, Lo 98 r) → ∃ g : Nm → Nm, (∀ x ∈ xs, negN m_Ratio___neg__ x = pure (g x)) ∧ Al OfP (ps.map negP) (xs.map g) := fun ps xs h hp => by
    refine ⟨fun x => match x with | .i n => .i (-n) | .r r => .r ⟨-r.n, r.u⟩, fun x hx => ?_, ?_⟩
    · obtain ⟨p, h1, h2⟩ := h.right x hx
      cases x with
      | i n => rfl
      | r q =>
        have L := hp p h1
        have e : q = mkR p := by
          cases q
          obtain ⟨a, b⟩ := h2
          cases a; cases b
          rfl
        rw [e]
        show (strict (lft (m_Ratio___neg__ (mkR p))) >>= fun z => pure (Nm.r z)) = _
        rw [neg_ok L (by decide)]
        rfl
    · clear hp
      induction h with
      | nil => exact .nil
      | cons r t ih =>
        refine .cons ?_ ih
        rename_i a b _ _
        cases b with
        | i n => exact ⟨congrArg (fun z => -z) r.1, r.2⟩
        | r q => exact ⟨congrArg (fun z => -z) r.1, r.2⟩
  obtain ⟨g, h1, h2⟩ := key (p :: ps) q.xs h hp
  refine run_eq ?_
  unfold B_least
  simp only [pure_bind]
  have l := h.len
  rw [List.length_cons] at l
  rw [lcM_all (g := g) (by omega) h1]
  simp only [pure_bind]
  have hn : ∀ r ∈ (p :: ps).map negP, Lo 98 r := fun r hr => by
    obtain ⟨z, hz, rfl⟩ := List.mem_map.mp hr
    exact neg_lo (hp z hz)
  rw [List.map_cons] at h2 hn
  rw [great_ok (q := .l (q.xs.map g)) h2 hn]
  simp only [M.lft_ok, pure_bind]
  have e := negfold (p :: ps) p
  rw [List.map_cons] at e
  rw [e]
  have hf : ∀ (ps : List (Int × Int)) (W : Int × Int), (∀ p ∈ ps, Lo 98 p) → Lo 98 W → Lo 98 (ps.foldl minP W) := fun ps => by
    induction ps with
    | nil => intro W _ h; exact h
    | cons a r ih => intro W hp hW; exact ih _ (fun q hq => hp q (List.mem_cons_of_mem _ hq)) (minP_lo hW (hp a List.mem_cons_self))
  rw [neg_ok (neg_lo (hf (p :: ps) p hp (hp p List.mem_cons_self))) (by decide), negneg]
  rfl
theorem law_fold : ∀ (ps : List (Int × Int)) (j : Nat) (W A B : Int × Int), (∀ p ∈ ps, Lo 98 p) → Lo j W → Lo 98 A → Lo 98 B → j + 99 * ps.length ≤ 1900 →
    foldM (fun (v_pair_here : (Int × Int)) (s28 : (Int × Int) × (Int × Int) × (Int × Int)) => (((pure s28.1) >>= fun a30 => ((pure v_pair_here) >>= fun a31 => lft (m__law_plus a30 a31))) >>= fun v_whole => ((((pure s28.2.1) >>= fun a32 => ((pure v_pair_here) >>= fun a33 => lft (m__law_less a32 a33))) >>= fun x34 => if x34 = true then pure v_pair_here else pure s28.2.1) >>= fun v_most => ((((pure v_pair_here) >>= fun a35 => ((pure s28.2.2) >>= fun a36 => lft (m__law_less a35 a36))) >>= fun x37 => if x37 = true then pure v_pair_here else pure s28.2.2) >>= fun v_fewest => pure (v_whole, v_most, v_fewest))))) ps (W, A, B) = pure (ps.foldl plusP W, ps.foldl maxP A, ps.foldl minP B)
  | [], j, W, A, B, _, _, _, _, _ => rfl
  | p :: ps, j, W, A, B, hp, hW, hA, hB, hj => by
    rw [List.length_cons] at hj
    have h1 := hp p List.mem_cons_self
    unfold foldM
    simp only [pure_bind]
    rw [plus_ok hW h1 (by omega), less_ok hA h1 (by omega), less_ok h1 hB (by omega)]
    simp only [M.lft_ok, pure_bind, pite]
    have := law_fold ps (j + 98 + 1) (plusP W p) (maxP A p) (minP B p) (fun q hq => hp q (List.mem_cons_of_mem _ hq)) (plus_lo hW h1) (maxP_lo hA h1) (minP_lo hB h1) (by omega)
    simp only [M.lft_ok, pure_bind, pite] at this
    exact this
end K03

set_option Elab.async false
set_option linter.all false
set_option maxRecDepth 100000
set_option maxHeartbeats 4000000
namespace K03
open PySem PySem.Spec PyProof.Rows L2 J N
open M
open ToD (d)
open ToDs (ds)
theorem tx_txt {k : Nat} {p : Int × Int} (hk : 0 < k) (h : Lo k p) (l : 2 * k + 3 ≤ 1000) : plainTx (txt p) := by
  refine ⟨?_, ?_⟩
  · have := txL_len hk h
    rw [TL.len_tl, tl_txt]
    omega
  · rw [tl_txt]
    exact txL_ascii
def gS (x : Nm) : Str := txt (x.n, x.u)
theorem strN_ok {x : Nm} {p : Int × Int} (h : Lo 98 p) (hx : Of x p) : strN m_Ratio___str__ x = pure (gS x) := by
  cases x with
  | i n =>
    obtain ⟨a, b⟩ := hx
    show fmtI n = _
    have hb : n.natAbs < 2 ^ 98 := by rw [show n = p.1 from a]; exact h.bn
    rw [fmtI_ok (lt19 hb (by decide))]
    rfl
  | r q =>
    have e : q = mkR p := by
      cases q
      obtain ⟨a, b⟩ := hx
      cases a; cases b
      rfl
    rw [e]
    show strict (lft (m_Ratio___str__ (mkR p))) = _
    rw [str_ok (by decide) h (by decide)]
    rfl
theorem lists_ok {p : Int × Int} {ps : List (Int × Int)} (hp : ∀ r ∈ p :: ps, Lo 98 r) (hl : (p :: ps).length ≤ 8) : Tri 8 (m__law_lists_right (p :: ps)) (fun b => b = true) := by
  unfold m__law_lists_right
  simp only [pure_bind]
  refine tri_b (k := 1 * ((p :: ps).length : Int)) (l := 0) (P := fun xs => Al OfP (p :: ps) xs) (tri_lcR (by decide) (by omega) (fun _ _ => rfl) fun q hq => ?_) (by omega) (Int.le_refl _) (by omega) fun xs hx => ?_
  · have L := hp q hq
    have n1 : newRt q.1 q.2 = .ok (mkR q) := by rw [new_ok L.pos (Nat.lt_of_lt_of_le L.bd (Nat.pow_le_pow_right (by decide) (by decide))), low_self L.low]
    by_cases h : q.2 > 1
    · rw [decide_eq_true h, ifTT]
      simp only [pure_bind, if_true, n1]
      exact tri_p (by decide) ⟨rfl, rfl⟩
    · rw [decide_eq_false h, ifFF]
      simp only [bind_assoc, pure_bind]
      show Tri 1 (takeM 2 >>= _) _
      refine tri_tk (l := 0) (by decide) (by decide) (Int.le_refl _) (by decide) fun r _ _ => ?_
      by_cases z : r = 0
      · rw [decide_eq_true z, ifTT, n1]
        exact tri_p (Int.le_refl _) ⟨rfl, rfl⟩
      · rw [decide_eq_false z, ifFF]
        have := L.pos
        exact tri_p (Int.le_refl _) ⟨rfl, show (1 : Int) = q.2 by omega⟩
  · have l := hx.len
    have kept : lcM (fun (v_number : Nm) => (pure true : M Bool)) (fun (v_number : Nm) => strN m_Ratio___str__ v_number) xs = pure (xs.map gS) := lcM_all (by omega) fun x hxx => by
      obtain ⟨q, h1, h2⟩ := hx.right x hxx
      exact strN_ok (hp q h1) h2
    have pl : ∀ y ∈ xs.map gS, plainTx y := fun y hy => by
      obtain ⟨x, hxx, rfl⟩ := List.mem_map.mp hy
      obtain ⟨q, h1, h2⟩ := hx.right x hxx
      have e : (x.n, x.u) = q := Prod.ext h2.1 h2.2
      unfold gS
      rw [e]
      exact tx_txt (by decide) (hp q h1) (by decide)
    have lf := law_fold (p :: ps) 1 (0, 1) p p hp (one_lo (by decide)) (hp p List.mem_cons_self) (hp p List.mem_cons_self) (by omega)
    simp only [pure_bind] at lf
    have g0 : getM (p :: ps) 0 = pure p := getM_nat (n := 0) (show (p :: ps)[0]? = some p from rfl) (by decide)
    rw [kept, g0]
    simp only [pure_bind]
    rw [lf]
    simp only [pure_bind]
    have one : ∀ q : Sq Nm, q.xs = xs → (m_total q = .ok (mkR ((p :: ps).foldl plusP (0, 1))) ∧ m_greatest q = .ok (mkR ((p :: ps).foldl maxP p)) ∧ m_least q = .ok (mkR ((p :: ps).foldl minP p))) := fun q hq => by
      rw [← hq] at hx
      rw [List.length_cons] at hl
      exact ⟨total_ok hx hp (by rw [List.length_cons]; omega), great_ok hx hp, least_ok hx hp (by omega)⟩
    rw [forM_nx _ fun q hq => ?_]
    · unfold after
      simp only [pure_bind]
      rw [eqD_strs pl pl, decide_eq_true rfl]
      simp only [pure_bind, if_true]
      rw [total_ok (q := .l []) (ps := []) .nil (fun _ h => absurd h List.not_mem_nil) (by decide)]
      simp only [M.lft_ok, pure_bind, is_ok]
      exact tri_p (Int.le_refl _) (decide_eq_true rfl)
    · have hq2 : q.xs = xs := by
        rcases List.mem_cons.mp hq with rfl | hq
        · rfl
        · rw [List.mem_singleton.mp hq]; rfl
      obtain ⟨h1, h2, h3⟩ := one q hq2
      rw [h1, h2, h3]
      simp only [M.lft_ok, pure_bind, is_ok]
      simp only [decide_true, Bool.not_true, ifFF, pure_bind, pite]
/-! ### a pair, a text near a text -/
theorem ten {k : Nat} (h : 10 ^ k < 2 ^ 98 := by decide) : True := trivial
theorem pair_ok : Tri 5 m__law_pair (Lo 98) := by
  unfold m__law_pair
  simp only [bind_assoc, pure_bind]
  rw [powM_ok (show CPow 10 15 from ⟨by decide, by decide, by decide⟩), powM_ok (show CPow 10 29 from ⟨by decide, by decide, by decide⟩)]
  simp only [bind_assoc, pure_bind]
  unfold m__law_take
  refine tri_tk (l := 4) (by decide) (by decide) (by decide) (by decide) fun r r0 r1 => ?_
  obtain ⟨size, hm, hg⟩ := getM_in (xs := [(10 : Int), 1000, 10 ^ (15 : Int).toNat, 10 ^ (29 : Int).toNat]) r0 r1
  rw [hg]
  simp only [bind_assoc, pure_bind]
  have hs : 0 < size ∧ size ≤ 10 ^ 29 := by
    simp only [List.mem_cons, List.not_mem_nil, or_false] at hm
    rcases hm with rfl | rfl | rfl | rfl <;> decide
  refine tri_tk (l := 3) hs.1 (by omega) (by decide) (by decide) fun t t0 t1 => ?_
  refine tri_tk (l := 2) (by decide) (by decide) (by decide) (by decide) fun c c0 c1 => ?_
  obtain ⟨sg, hm, hg⟩ := getM_in (xs := [(1 : Int), -1, 1, 0]) c0 c1
  rw [hg]
  simp only [bind_assoc, pure_bind]
  have hsg : sg.natAbs < 2 ^ 1 := by
    simp only [List.mem_cons, List.not_mem_nil, or_false] at hm
    rcases hm with rfl | rfl | rfl | rfl <;> decide
  have t97 : t.natAbs < 2 ^ 97 := by
    have : (10 : Nat) ^ 29 < 2 ^ 97 := by decide
    have h10 : (10 : Int) ^ 29 = ((10 ^ 29 : Nat) : Int) := by norm_cast
    omega
  rw [mulM_k t97 hsg (by decide)]
  simp only [bind_assoc, pure_bind]
  refine tri_tk (l := 1) (by decide) (by decide) (by decide) (by decide) fun e e0 e1 => ?_
  obtain ⟨bs, hm, hg⟩ := getM_in (xs := [(1 : Int), 9, 1000, 10 ^ (29 : Int).toNat]) e0 e1
  rw [hg]
  simp only [bind_assoc, pure_bind]
  have hbs : 0 < bs ∧ bs ≤ 10 ^ 29 := by
    simp only [List.mem_cons, List.not_mem_nil, or_false] at hm
    rcases hm with rfl | rfl | rfl | rfl <;> decide
  refine tri_tk (l := 0) hbs.1 (by omega) (by decide) (by decide) fun b b0 b1 => ?_
  have b97 : (1 + b).natAbs < 2 ^ 98 := by
    have : (10 : Nat) ^ 29 < 2 ^ 97 := by decide
    have h10 : (10 : Int) ^ 29 = ((10 ^ 29 : Nat) : Int) := by norm_cast
    omega
  rw [low_ok (by omega) (Nat.lt_of_lt_of_le b97 (Nat.pow_le_pow_right (by decide) (by decide)))]
  exact tri_p (Int.le_refl _) (lowP_lo (by omega) (mul_abs t97 hsg) b97)
def Nr (L : Nat) (s : Str) : Prop := (TL.tl s).length ≤ L ∧ ∀ c ∈ TL.tl s, c < 128
theorem near_ok {s : Str} (h : Nr 220 s) : Tri 20 (m__law_near s) (Nr 230) := by
  unfold m__law_near
  simp only [bind_assoc, pure_bind]
  unfold m__law_take
  refine tri_tk (l := 12) (by decide) (by decide) (by decide) (by decide) fun r r0 r1 => ?_
  rw [rng1_ok (by omega) (by omega)]
  simp only [bind_assoc, pure_bind]
  have hlen : (rng 0 (1 + r)).length ≤ 2 := by rw [rng_len]; omega
  refine tri_b (k := 4 * ((rng 0 (1 + r)).length : Int)) (l := 0) (tri_foldI (k := 4) (I := fun i s => Nr (220 + i) s) (by decide) _ 0 s (fun _ _ i s hj hi => ?_) h) (by omega) (Int.le_refl _) (by omega) fun s' hs' => ?_
  · · obtain ⟨h1, h2⟩ := hi
      have sl : s.length ≤ 1000000 := by rw [TL.len_tl]; omega
      rw [lenS_ok sl]
      simp only [bind_assoc, pure_bind]
      have hl2 : (s.length : Int) + 1 < 10 ^ 40 := by
        have : s.length ≤ 1000 := by rw [TL.len_tl]; omega
        have h10 : (10 : Int) ^ 40 = ((10 ^ 40 : Nat) : Int) := by norm_cast
        have : (1001 : Nat) < 10 ^ 40 := by decide
        omega
      refine tri_tk (l := 3) (by omega) hl2 (by decide) (by decide) fun a a0 a1 => ?_
      refine tri_tk (l := 2) (by decide) (by decide) (by decide) (by decide) fun c c0 c1 => ?_
      have hx : ∃ z, z < 128 ∧ ixS ("0123456789/-+ .a," : Str) c = pure ⟨z⟩ := by
        have e : ("0123456789/-+ .a," : Str).cps.toList = [48, 49, 50, 51, 52, 53, 54, 55, 56, 57, 47, 45, 43, 32, 46, 97, 44] := by decide +kernel
        obtain ⟨z, hz, hg⟩ := getM_in (xs := [48, 49, 50, 51, 52, 53, 54, 55, 56, 57, 47, 45, 43, 32, 46, 97, 44]) c0 c1
        refine ⟨z, ?_, ?_⟩
        · have : ∀ z ∈ [48, 49, 50, 51, 52, 53, 54, 55, 56, 57, 47, 45, 43, 32, 46, 97, 44], z < 128 := by decide
          exact this z hz
        · unfold ixS
          rw [need_T (Nat.le_trans (show ("0123456789/-+ .a," : Str).length ≤ 1000000 by decide +kernel) sizeLine_big), e]
          obtain ⟨n, rfl⟩ := Int.eq_ofNat_of_zero_le c0
          unfold getM at hg
          have ln : n < [48, 49, 50, 51, 52, 53, 54, 55, 56, 57, 47, 45, 43, 32, 46, 97, 44].length := by simp only [List.length_cons, List.length_nil]; omega
          rw [atI_nat (List.getElem?_eq_getElem ln)] at hg ⊢
          have e2 := congrFun hg (0, 0, 0)
          injection e2 with _ e3
          injection e3 with e4
          rw [← e4]
          rfl
      obtain ⟨z, hz, hix⟩ := hx
      rw [hix, slS_ok sl]
      simp only [bind_assoc, pure_bind]
      refine tri_tk (l := 1) (by decide) (by decide) (by decide) (by decide) fun f f0 f1 => ?_
      obtain ⟨mid, hm, hg⟩ := getM_in (xs := [Ch.s ⟨z⟩, ("" : Str), Ch.s ⟨z⟩]) f0 f1
      rw [hg]
      simp only [bind_assoc, pure_bind]
      have hmid : Nr 1 mid := by
        simp only [List.mem_cons, List.not_mem_nil, or_false] at hm
        have e1 : Nr 1 (Ch.s ⟨z⟩) := ⟨Nat.le_refl _, fun c hc => by rw [List.mem_singleton.mp hc]; exact hz⟩
        rcases hm with rfl | rfl | rfl
        · exact e1
        · exact ⟨Nat.zero_le _, fun c hc => by rw [show TL.tl ("" : Str) = [] by decide +kernel] at hc; cases hc⟩
        · exact e1
      obtain ⟨an, rfl⟩ := Int.eq_ofNat_of_zero_le a0
      have q1 : TL.tl (cutS s none (some (an : Int))) = (TL.tl s).take an := tl_take s an
      have q1l : (cutS s none (some (an : Int))).length ≤ 230 := by rw [TL.len_tl, q1, List.length_take]; omega
      have ml : mid.length ≤ 1 := by rw [TL.len_tl]; exact hmid.1
      rw [addS_ok (by omega)]
      simp only [bind_assoc, pure_bind]
      refine tri_tk (l := 0) (by decide) (by decide) (by decide) (by decide) fun g g0 g1 => ?_
      obtain ⟨gn, rfl⟩ := Int.eq_ofNat_of_zero_le g0
      rw [show ((an : Int) + (gn : Int)) = ((an + gn : Nat) : Int) from rfl, slS_ok sl]
      simp only [bind_assoc, pure_bind]
      have q2 : TL.tl (cutS s (some ((an + gn : Nat) : Int)) none) = (TL.tl s).drop (an + gn) := tl_drop s (an + gn)
      have q2l : (cutS s (some ((an + gn : Nat) : Int)) none).length ≤ 230 := by rw [TL.len_tl, q2, List.length_drop]; omega
      rw [addS_ok (by rw [len_app]; omega)]
      simp only [bind_assoc, pure_bind]
      refine tri_p (Int.le_refl _) ⟨?_, fun c hc => ?_⟩
      · rw [TL.tl_append, TL.tl_append, q1, q2, List.length_append, List.length_append, List.length_take, List.length_drop]
        have := hmid.1
        omega
      · rw [TL.tl_append, TL.tl_append, q1, q2] at hc
        rcases List.mem_append.mp hc with hc | hc
        · rcases List.mem_append.mp hc with hc | hc
          · exact h2 c (List.mem_of_mem_take hc)
          · exact hmid.2 c hc
        · exact h2 c (List.mem_of_mem_drop hc)
  · exact tri_p (Int.le_refl _) (by
      have := hs'
      exact ⟨Nat.le_trans this.1 (by omega), this.2⟩)
end K03

set_option Elab.async false
set_option linter.all false
set_option maxRecDepth 100000
set_option maxHeartbeats 4000000
namespace K03
open PySem PySem.Spec PyProof.Rows L2 J N
open M
open ToD (d)
open ToDs (ds)
theorem Nr.tx {L : Nat} {s : Str} (h : Nr L s) (l : L ≤ 500) : Tx s := ⟨by rw [TL.len_tl]; exact Nat.le_trans h.1 l, h.2⟩
theorem Nr.up {L L' : Nat} {s : Str} (h : Nr L s) (l : L ≤ L') : Nr L' s := ⟨Nat.le_trans h.1 l, h.2⟩
theorem Nr.app {L L' : Nat} {s t : Str} (h : Nr L s) (h' : Nr L' t) : Nr (L + L') (s ++ t) := ⟨by rw [TL.tl_append, List.length_append]; exact Nat.add_le_add h.1 h'.1, fun c hc => by
  rw [TL.tl_append] at hc
  rcases List.mem_append.mp hc with q | q
  · exact h.2 c q
  · exact h'.2 c q⟩
theorem Nr.lit {s : Str} {L : Nat} (h : (decide ((TL.tl s).length ≤ L) && (TL.tl s).all (fun c => decide (c < 128))) = true) : Nr L s := by
  rw [Bool.and_eq_true] at h
  exact ⟨of_decide_eq_true h.1, fun c hc => of_decide_eq_true (List.all_eq_true.mp h.2 c hc)⟩
theorem nr_int {i : Int} (h : i.natAbs < 2 ^ 98) : Nr 99 (toString i : Str) := ⟨by rw [tl_sg]; exact sg_len (by decide) h, by rw [tl_sg]; exact sg_ascii⟩
theorem nr_txt {p : Int × Int} (h : Lo 98 p) : Nr 199 (txt p) := ⟨by rw [tl_txt]; exact txL_len (by decide) h, by rw [tl_txt]; exact txL_ascii⟩
theorem mul6 {t b : Int} (hb : 0 < b) : lowP (t * 6) (b * 6) = lowP t b := by
  unfold lowP
  have e : ((Int.gcd (t * 6) (b * 6) : Nat) : Int) = ((Int.gcd t b : Nat) : Int) * 6 := by
    rw [Int.gcd_mul_right, show Int.natAbs 6 = 6 from rfl]
    omega
  have hp : 0 < Int.gcd t b := Int.gcd_pos_of_ne_zero_right t (by omega)
  have q : ∀ i : Int, (i * 6).fdiv (((Int.gcd t b : Nat) : Int) * 6) = i.fdiv ((Int.gcd t b : Nat) : Int) := fun i => by
    rw [Int.fdiv_eq_ediv_of_nonneg _ (by omega), Int.fdiv_eq_ediv_of_nonneg _ (by omega), Int.mul_ediv_mul_of_pos_left _ _ (by decide)]
  rw [e, q, q]
theorem addS_nr {a b : Str} {L L' : Nat} (h : Nr L a) (h' : Nr L' b) (l : L + L' ≤ 1000) : addS a b = pure (a ++ b) := addS_ok (by
  rw [TL.len_tl, TL.len_tl]
  have := h.1
  have := h'.1
  omega)
theorem law_ok (k : Int) (b : Bx) (hb : InvB 0 b) : ∃ b', B_law k b = (b', .ok (.nx ())) := by
  have T : Tri 200 (B_law k) (fun a => a = .nx ()) := by
    unfold B_law
    simp only [bind_assoc, pure_bind]
    unfold m__law_take
    refine tri_tk (l := 150) (by decide) (by decide) (by decide) (by decide) fun r r0 r1 => ?_
    rw [rng1_ok (by omega) (by omega)]
    simp only [bind_assoc, pure_bind]
    have hlen : (rng 0 (1 + r)).length ≤ 5 ∧ 0 < (rng 0 (1 + r)).length := by rw [rng_len]; omega
    refine tri_b (k := 5 * ((rng 0 (1 + r)).length : Int)) (l := 100) (tri_lcM (P := Lo 98) (by decide) (by omega) (fun _ _ => rfl) fun _ _ => pair_ok) (by omega) (by decide) (by omega) fun ps hps => ?_
    obtain ⟨hp, hpl⟩ := hps
    rw [← hpl] at hlen
    clear hpl
    cases ps with
    | nil => exact absurd hlen.2 (by decide)
    | cons p ps =>
    have L := hp p List.mem_cons_self
    have lt4 : ∀ {n : Nat}, n < 2 ^ 101 → n < 2 ^ 4000 := fun h => Nat.lt_of_lt_of_le h (Nat.pow_le_pow_right (by decide) (by decide))
    have g0 : getM (p :: ps) 0 = pure p := getM_nat (n := 0) (show (p :: ps)[0]? = some p from rfl) (by decide)
    have m1 := mulM_k (j := 6) (b := 3) L.bn (by decide) (by decide)
    have m2 := mulM_k (j := 6) (b := 3) L.bd (by decide) (by decide)
    have n6 : newRt (p.1 * 6) (p.2 * 6) = .ok (mkR p) := by
      rw [new_ok (Int.mul_pos L.pos (by decide)) (lt4 (mul_abs (b := 3) L.bd (by decide))), mul6 L.pos, low_self L.low]
    rw [g0]
    simp only [bind_assoc, pure_bind]
    rw [m1, m2]
    simp only [bind_assoc, pure_bind]
    rw [n6, written_ok (by decide) L (by decide)]
    simp only [M.lft_ok, bind_assoc, pure_bind]
    have tN := nr_txt L
    have asr : m_as_ratio (d (mkR p)) = .ok (mkR p) := as_ok (x := .r (mkR p)) L ⟨rfl, rfl⟩ (by decide)
    have Li : Lo 98 (p.1, 1) := ⟨by show (0 : Int) < 1; decide, by simp, L.bn, by show (1 : Int).natAbs < _; decide⟩
    have asi : m_as_ratio (d p.1) = .ok (mkR (p.1, 1)) := as_ok (x := .i p.1) Li ⟨rfl, rfl⟩ (by decide)
    rw [text_ok (by decide) L (by decide), str_ok (by decide) L (by decide), asr, asi]
    simp only [strict_lft, strict_pure, M.lft_ok, bind_assoc, pure_bind, is_ok]
    simp only [decide_true, Bool.not_true, ifFF, bind_assoc, pure_bind, pite]
    refine tri_b (k := 20) (l := 80) (near_ok (tN.up (by decide))) (by decide) (by decide) (by decide) fun t1 h1 => ?_
    refine tri_b (k := 20) (l := 60) (near_ok (tN.up (by decide))) (by decide) (by decide) (by decide) fun t2 h2 => ?_
    have k1 : Nr 1 ("+" : Str) := Nr.lit (by decide +kernel)
    have k2 : Nr 1 ("0" : Str) := Nr.lit (by decide +kernel)
    have k3 : Nr 2 ("/1" : Str) := Nr.lit (by decide +kernel)
    have k4 : Nr 1 ("-" : Str) := Nr.lit (by decide +kernel)
    have k5 : Nr 1 (" " : Str) := Nr.lit (by decide +kernel)
    have k6 : Nr 1 ("/" : Str) := Nr.lit (by decide +kernel)
    have i1 := nr_int L.bn
    have i2 := nr_int L.bd
    rw [addS_nr k1 tN (by decide), addS_nr k2 tN (by decide), addS_nr tN k3 (by decide), addS_nr k4 tN (by decide)]
    simp only [bind_assoc, pure_bind]
    refine tri_tk (l := 50) (by decide) (by decide) (by decide) (by decide) fun o o0 o1 => ?_
    have R : ∀ {s : Str}, Nr 400 s → m__law_read_right (d s) = .ok true := fun h => right_text (h.tx (by decide))
    obtain ⟨y0, r0'⟩ := repr_none
    obtain ⟨y1, r1'⟩ := repr_3
    obtain ⟨y2, r2'⟩ := repr_bool true
    obtain ⟨y2f, r2f'⟩ := repr_bool false
    obtain ⟨y3, r3'⟩ := repr_list1 (tN.tx (by decide)).pl
    obtain ⟨y4, r4'⟩ := repr_tup1 (tN.tx (by decide)).pl
    obtain ⟨y5, r5'⟩ := repr_dic
    obtain ⟨y6, r6'⟩ := repr_l1
    obtain ⟨y7, r7'⟩ := repr_t12
    have odd : ∀ v ∈ [(d () : D), d (3 : Int), d true, d [txt p], d (VT.mk [txt p]), D.dic [], d ("/" : Str), d ("-" : Str), d ("1/0" : Str), d ("--1" : Str), d ("1/-2" : Str), d (("-" : Str) ++ txt p)], m__law_read_right v = .ok true := fun v hv => by
      simp only [List.mem_cons, List.not_mem_nil, or_false] at hv
      rcases hv with rfl | rfl | rfl | rfl | rfl | rfl | rfl | rfl | rfl | rfl | rfl | rfl
      · exact right_odd rfl trivial rfl r0'
      · exact right_odd rfl trivial rfl r1'
      · exact right_odd rfl trivial rfl r2'
      · exact right_odd rfl trivial rfl r3'
      · exact right_odd rfl trivial rfl r4'
      · exact right_odd rfl trivial rfl r5'
      · exact R (Nr.lit (by decide +kernel))
      · exact R (Nr.lit (by decide +kernel))
      · exact R (Nr.lit (by decide +kernel))
      · exact R (Nr.lit (by decide +kernel))
      · exact R (Nr.lit (by decide +kernel))
      · exact R ((k4.app tN).up (by decide))
    have hodd : ∃ v, m__law_read_right v = .ok true ∧ getM [(d () : D), d (3 : Int), d true, d [txt p], d (VT.mk [txt p]), D.dic [], d ("/" : Str), d ("-" : Str), d ("1/0" : Str), d ("--1" : Str), d ("1/-2" : Str), d (("-" : Str) ++ txt p)] o = pure v := by
      obtain ⟨v, hv, hg⟩ := getM_in (xs := [(d () : D), d (3 : Int), d true, d [txt p], d (VT.mk [txt p]), D.dic [], d ("/" : Str), d ("-" : Str), d ("1/0" : Str), d ("--1" : Str), d ("1/-2" : Str), d (("-" : Str) ++ txt p)]) o0 o1
      exact ⟨v, odd v hv, hg⟩
    clear odd
    obtain ⟨v, hv, hg⟩ := hodd
    rw [hg, addS_nr tN k5 (by decide), fmtI_ok (lt19 L.bn (by decide)), fmtI_ok (lt19 L.bd (by decide))]
    simp only [bind_assoc, pure_bind]
    rw [addS_nr i1 k6 (by decide)]
    simp only [bind_assoc, pure_bind]
    rw [addS_nr (i1.app k6) i2 (by decide)]
    simp only [bind_assoc, pure_bind]
    rw [catM_ok (by simp)]
    simp only [bind_assoc, pure_bind]
    rw [forM_nx _ fun x hx => ?_]
    · unfold after
      simp only [pure_bind]
      rw [forM_nx _ fun x hx => ?_]
      · simp only [pure_bind]
        refine tri_b (k := 8) (l := 0) (lists_ok hp (by omega)) (by decide) (by decide) (by decide) fun q hq => ?_
        subst hq
        exact tri_p (by decide) rfl
      · have : m__law_no_number x = .ok true := by
          simp only [List.mem_cons, List.not_mem_nil, or_false] at hx
          rcases hx with rfl | rfl | rfl | rfl | rfl | rfl | rfl
          · exact number_odd rfl trivial rfl rfl r0'
          · exact number_odd rfl trivial rfl rfl r2'
          · exact number_odd rfl trivial rfl rfl r2f'
          · exact number_odd rfl trivial rfl rfl (reprM_str (tN.tx (by decide)).pl)
          · exact number_odd rfl trivial rfl rfl r6'
          · exact number_odd rfl trivial rfl rfl r7'
          · exact number_odd rfl trivial rfl rfl r5'
        rw [this]
        rfl
    · have : m__law_read_right x = .ok true := by
        simp only [List.map_cons, List.map_nil, List.cons_append, List.nil_append, List.mem_cons, List.not_mem_nil, or_false] at hx
        rcases hx with rfl | rfl | rfl | rfl | rfl | rfl | rfl | rfl | rfl | rfl | rfl | rfl
        · exact R (tN.up (by decide))
        · exact R (h1.up (by decide))
        · exact R (h2.up (by decide))
        · exact R ((k1.app tN).up (by decide))
        · exact R ((k2.app tN).up (by decide))
        · exact R ((tN.app k3).up (by decide))
        · exact R (Nr.lit (by decide +kernel))
        · exact R (Nr.lit (by decide +kernel))
        · exact R (Nr.lit (by decide +kernel))
        · exact hv
        · exact R ((tN.app k5).up (by decide))
        · exact R (((i1.app k6).app i2).up (by decide))
      rw [this]
      rfl
  obtain ⟨a, b', e, rfl, _⟩ := T 0 b hb (Int.le_refl _) (by decide)
  exact ⟨b', e⟩
end K03

set_option Elab.async false
set_option linter.all false
set_option maxRecDepth 100000
set_option maxHeartbeats 4000000
/-! N19: for the head: a promise without errors, a text among the globals. -/
namespace N
open PySem PySem.Spec PyProof.Rows L2 J
theorem FnG.down {P : Program} {w : World} {K : PySem.W.Frag} {mg : Str → Option Value} {base : Heap} {k : Nat} {f : Addr} {fd : FuncData} {ps : List Str} {sp : Sp} (hE : ∀ vs H Q E E', sp vs H Q E → sp vs H Q E') (F : FnG P w K mg base (CXL P w) k f fd ps sp) : FnG P w K mg base CX0 k f fd ps sp := fun A hg hr =>
  ⟨(F A hg hr).len, fun outer s H args us vs Q E e0 b r h => codeAny_mono ((F A hg hr).run outer s H args us vs Q E0 e0 b r (hE _ _ _ _ E0 h)) fun z s' hz => by
    match z, hz with
    | .error e, hz =>
      obtain ⟨_, _, _, _, _, _, _, _, _, _, _, _, z⟩ := hz
      exact z.elim
    | .ok (.ret u), hz => exact hz
    | .ok .next, hz => exact hz.elim
    | .ok .brk, hz => exact hz.elim
    | .ok .cont, hz => exact hz.elim⟩
/-- a global that is a text -/
def strB (x z : Str) : Bf := fun K => match PySem.W.nsIn K mainGlobals x with
  | some (some (.str y _)) => decide (y = z)
  | _ => false
theorem strB_ok {K : PySem.W.Frag} {h : Heap} {mg : Str → Option Value} (X : K.In h) (G : h.Ns mainGlobals mg) {x z : Str} (c : strB x z K = true) : ∃ u, mg x = some u ∧ RelV (.str z) u := by
  unfold strB at c
  split at c
  · rename_i y t e
    have hy := of_decide_eq_true c
    subst hy
    exact ⟨_, PySem.W.mg_of X G e, ⟨t, rfl⟩⟩
  · cases c
end N

set_option Elab.async false
set_option linter.all false
set_option maxRecDepth 100000
set_option maxHeartbeats 4000000
namespace K03
open PySem PySem.Spec PyProof.Rows L2 J N
open M
open ToD (d)
open ToDs (ds)
/-! ### the head -/
def exmB (x c : Str) : Bf := fun K => decide (PySem.W.exmOne K (.ref (He.ga K x)) (.ref (He.ga K c)) = some true)
def kitB (x c : Str) : Bf := fun K => decide (PySem.W.kitOne K (.ref (He.ga K x)) (.ref (He.ga K c)) = some true)
def exmB0 (x c : Str) : Bf := fun K => decide (PySem.W.exmOne K (.ref (He.ga K x)) (.ref (He.ga K c)) = some false)
def kitB0 (x c : Str) : Bf := fun K => decide (PySem.W.kitOne K (.ref (He.ga K x)) (.ref (He.ga K c)) = some false)
def bf : List Bf := [derrB, clsB, errB "ByZero" "given", errB "BadNumber" "given", errB "BadText" "given", clsJ "Ratio" ["above", "under"], apartJ "Ratio" "int", apartJ "Ratio" "bool", apartJ "Ratio" "NoneType", apartJ "Ratio" "str", apartJ "Ratio" "list", apartJ "Ratio" "tuple", apartJ "Ratio" "dict", ownJ "Ratio", opJ "Ratio" "add", opJ "Ratio" "sub", opJ "Ratio" "mul", freeB "abs", freeB "len", freeB "int", freeB "bool", freeB "str", freeB "min", freeB "max", freeB "range", freeB "repr", freeB "all", freeB "isinstance", freeB "tuple", exmB "BadNumber" "BadNumber", kitB "BadNumber" "DrawError", exmB "BadText" "BadText", kitB "BadText" "DrawError", strB "DIGITS" "0123456789", gloB "common_part", gloB "is_integer", propJ "Ratio" "top", propJ "Ratio" "bottom", gloB "parts_of", methJ "Ratio" "__add__", methJ "Ratio" "__neg__", methJ "Ratio" "__str__", methJ "Ratio" "below", methJ "Ratio" "text", gloB "is_number", gloB "as_ratio", gloB "is_plain", gloB "read_ratio", gloB "total", gloB "greatest", gloB "least", gloB "_law_take", gloB "_law_low", gloB "_law_plus", gloB "_law_less", gloB "_law_is", gloB "_law_pair", gloB "_law_written", gloB "_law_plain", gloB "_law_due", gloB "_law_near", gloB "_law_read_right", gloB "_law_no_number", gloB "_law_lists_right", gloB "_law_cell", gloB "_law_box", gloB "law"]
def fn : List DefJ := [⟨fun K => He.ma K (He.ga K "ByZero") "__init__", ⟨("ByZero", some "__init__"), "__init__", "ByZero.__init__", defArgs s_ByZero___init__, defBody s_ByZero___init__, defScope s_ByZero___init__, [], []⟩⟩,
  ⟨fun K => He.ma K (He.ga K "BadNumber") "__init__", ⟨("BadNumber", some "__init__"), "__init__", "BadNumber.__init__", defArgs s_BadNumber___init__, defBody s_BadNumber___init__, defScope s_BadNumber___init__, [], []⟩⟩,
  ⟨fun K => He.ma K (He.ga K "BadText") "__init__", ⟨("BadText", some "__init__"), "__init__", "BadText.__init__", defArgs s_BadText___init__, defBody s_BadText___init__, defScope s_BadText___init__, [], []⟩⟩,
  ⟨fun K => He.ga K "common_part", ⟨("common_part", none), "common_part", "common_part", defArgs s_common_part, defBody s_common_part, defScope s_common_part, [], []⟩⟩,
  ⟨fun K => He.ga K "is_integer", ⟨("is_integer", none), "is_integer", "is_integer", defArgs s_is_integer, defBody s_is_integer, defScope s_is_integer, [], []⟩⟩,
  ⟨fun K => He.ma K (He.ga K "Ratio") "__init__", ⟨("Ratio", some "__init__"), "__init__", "Ratio.__init__", defArgs s_Ratio___init__, defBody s_Ratio___init__, defScope s_Ratio___init__, [.int 1], []⟩⟩,
  ⟨fun K => pa "Ratio" "top" K, ⟨("Ratio", some "top"), "top", "Ratio.top", defArgs s_Ratio_top, defBody s_Ratio_top, defScope s_Ratio_top, [], []⟩⟩,
  ⟨fun K => pa "Ratio" "bottom" K, ⟨("Ratio", some "bottom"), "bottom", "Ratio.bottom", defArgs s_Ratio_bottom, defBody s_Ratio_bottom, defScope s_Ratio_bottom, [], []⟩⟩,
  ⟨fun K => He.ga K "parts_of", ⟨("parts_of", none), "parts_of", "parts_of", defArgs s_parts_of, defBody s_parts_of, defScope s_parts_of, [], []⟩⟩,
  ⟨fun K => He.ma K (He.ga K "Ratio") "__add__", ⟨("Ratio", some "__add__"), "__add__", "Ratio.__add__", defArgs s_Ratio___add__, defBody s_Ratio___add__, defScope s_Ratio___add__, [], []⟩⟩,
  ⟨fun K => He.ma K (He.ga K "Ratio") "__neg__", ⟨("Ratio", some "__neg__"), "__neg__", "Ratio.__neg__", defArgs s_Ratio___neg__, defBody s_Ratio___neg__, defScope s_Ratio___neg__, [], []⟩⟩,
  ⟨fun K => He.ma K (He.ga K "Ratio") "__str__", ⟨("Ratio", some "__str__"), "__str__", "Ratio.__str__", defArgs s_Ratio___str__, defBody s_Ratio___str__, defScope s_Ratio___str__, [], []⟩⟩,
  ⟨fun K => He.ma K (He.ga K "Ratio") "below", ⟨("Ratio", some "below"), "below", "Ratio.below", defArgs s_Ratio_below, defBody s_Ratio_below, defScope s_Ratio_below, [], []⟩⟩,
  ⟨fun K => He.ma K (He.ga K "Ratio") "text", ⟨("Ratio", some "text"), "text", "Ratio.text", defArgs s_Ratio_text, defBody s_Ratio_text, defScope s_Ratio_text, [], []⟩⟩,
  ⟨fun K => He.ga K "is_number", ⟨("is_number", none), "is_number", "is_number", defArgs s_is_number, defBody s_is_number, defScope s_is_number, [], []⟩⟩,
  ⟨fun K => He.ga K "as_ratio", ⟨("as_ratio", none), "as_ratio", "as_ratio", defArgs s_as_ratio, defBody s_as_ratio, defScope s_as_ratio, [], []⟩⟩,
  ⟨fun K => He.ga K "is_plain", ⟨("is_plain", none), "is_plain", "is_plain", defArgs s_is_plain, defBody s_is_plain, defScope s_is_plain, [], []⟩⟩,
  ⟨fun K => He.ga K "read_ratio", ⟨("read_ratio", none), "read_ratio", "read_ratio", defArgs s_read_ratio, defBody s_read_ratio, defScope s_read_ratio, [], []⟩⟩,
  ⟨fun K => He.ga K "total", ⟨("total", none), "total", "total", defArgs s_total, defBody s_total, defScope s_total, [], []⟩⟩,
  ⟨fun K => He.ga K "greatest", ⟨("greatest", none), "greatest", "greatest", defArgs s_greatest, defBody s_greatest, defScope s_greatest, [], []⟩⟩,
  ⟨fun K => He.ga K "least", ⟨("least", none), "least", "least", defArgs s_least, defBody s_least, defScope s_least, [], []⟩⟩,
  ⟨fun K => He.ga K "_law_take", ⟨("_law_take", none), "_law_take", "_law_take", defArgs s__law_take, defBody s__law_take, defScope s__law_take, [], []⟩⟩,
  ⟨fun K => He.ga K "_law_low", ⟨("_law_low", none), "_law_low", "_law_low", defArgs s__law_low, defBody s__law_low, defScope s__law_low, [], []⟩⟩,
  ⟨fun K => He.ga K "_law_plus", ⟨("_law_plus", none), "_law_plus", "_law_plus", defArgs s__law_plus, defBody s__law_plus, defScope s__law_plus, [], []⟩⟩,
  ⟨fun K => He.ga K "_law_less", ⟨("_law_less", none), "_law_less", "_law_less", defArgs s__law_less, defBody s__law_less, defScope s__law_less, [], []⟩⟩,
  ⟨fun K => He.ga K "_law_is", ⟨("_law_is", none), "_law_is", "_law_is", defArgs s__law_is, defBody s__law_is, defScope s__law_is, [], []⟩⟩,
  ⟨fun K => He.ga K "_law_pair", ⟨("_law_pair", none), "_law_pair", "_law_pair", defArgs s__law_pair, defBody s__law_pair, defScope s__law_pair, [], []⟩⟩,
  ⟨fun K => He.ga K "_law_written", ⟨("_law_written", none), "_law_written", "_law_written", defArgs s__law_written, defBody s__law_written, defScope s__law_written, [], []⟩⟩,
  ⟨fun K => He.ga K "_law_plain", ⟨("_law_plain", none), "_law_plain", "_law_plain", defArgs s__law_plain, defBody s__law_plain, defScope s__law_plain, [], []⟩⟩,
  ⟨fun K => He.ga K "_law_due", ⟨("_law_due", none), "_law_due", "_law_due", defArgs s__law_due, defBody s__law_due, defScope s__law_due, [], []⟩⟩,
  ⟨fun K => He.ga K "_law_near", ⟨("_law_near", none), "_law_near", "_law_near", defArgs s__law_near, defBody s__law_near, defScope s__law_near, [], []⟩⟩,
  ⟨fun K => He.ga K "_law_read_right", ⟨("_law_read_right", none), "_law_read_right", "_law_read_right", defArgs s__law_read_right, defBody s__law_read_right, defScope s__law_read_right, [], []⟩⟩,
  ⟨fun K => He.ga K "_law_no_number", ⟨("_law_no_number", none), "_law_no_number", "_law_no_number", defArgs s__law_no_number, defBody s__law_no_number, defScope s__law_no_number, [], []⟩⟩,
  ⟨fun K => He.ga K "_law_lists_right", ⟨("_law_lists_right", none), "_law_lists_right", "_law_lists_right", defArgs s__law_lists_right, defBody s__law_lists_right, defScope s__law_lists_right, [], []⟩⟩,
  ⟨fun K => He.ga K "_law_cell", ⟨("_law_cell", none), "_law_cell", "_law_cell", defArgs s__law_cell, defBody s__law_cell, defScope s__law_cell, [], []⟩⟩,
  ⟨fun K => He.ga K "_law_box", ⟨("_law_box", none), "_law_box", "_law_box", defArgs s__law_box, defBody s__law_box, defScope s__law_box, [], []⟩⟩,
  ⟨fun K => He.ga K "law", ⟨("law", none), "law", "law", defArgs s_law, defBody s_law, defScope s_law, [], []⟩⟩]
abbrev R : PySem.W.OpenRow := PySem.W.OpenLaw.row PySem.Challenge.rw_jointdraws_k03_ratios_written
abbrev hk : PySem.W.Hook := hookK 5 bf fn
def ob (s : PySem.W.SharedT) : He.AlD := obsKG 5 bf fn (HandSHeadRun.getT s)
theorem ob_eq (s : PySem.W.SharedT) : ob s = hk.obs s.abs := obsKG_eq (HandSHeadRun.getT_eq s)
def loose : List Str := (["_wall", "DrawError", "ByZero", "BadNumber", "BadText", "common_part", "is_integer", "Ratio", "parts_of", "is_number", "as_ratio", "is_plain", "read_ratio", "total", "greatest", "least"] : List Str) ++ (["_law_cell", "_law_box", "_law_take", "_law_low", "_law_plus", "_law_less", "_law_is", "_law_pair", "_law_written", "_law_plain", "_law_due", "_law_near", "_law_read_right", "_law_no_number", "_law_lists_right", "DIGITS"] : List Str)
theorem run (w : World) : HandSHeadRun.RunEq R (PySem.W.view R.prog [35]) hk ob 20000 loose w := by
  intro os
  kernel_rfl
section
variable {P : Program} {w : World} {K : PySem.W.Frag} {h : Heap} {mg : Str → Option Value} {fa : Addr}
theorem facts (X : K.In h) (G : h.Ns mainGlobals mg) (hfa : mg ("law" : Str) = some (.ref fa)) (c : SaysK bf fn K) :
    ∃ fd : FuncData, (∀ (s : Shared) (v : Value), BindsTo s fd ⟨[v], []⟩ [("_law_script", v)]) ∧ ∀ base : Heap, K.In base → base.Ns mainGlobals mg → FnG P w K mg base CX0 9 fa fd ["_law_script"] (spLaw K) := by
  have TD := derrB_ok X G (c.fact 0 (b := derrB) rfl)
  have cb := (c.fact 1 (b := clsB) rfl)
  have EN_ByZero := errB_ok X G (c.fact 2 (b := errB "ByZero" "given") rfl)
  have EN_BadNumber := errB_ok X G (c.fact 3 (b := errB "BadNumber" "given") rfl)
  have EN_BadText := errB_ok X G (c.fact 4 (b := errB "BadText" "given") rfl)
  have CJ_Ratio := clsJ_ok X G (c.fact 5 (b := clsJ "Ratio" ["above", "under"]) rfl)
  have a_Ratio_int := apartJ_ok (c.fact 6 (b := apartJ "Ratio" "int") rfl)
  have a_Ratio_bool := apartJ_ok (c.fact 7 (b := apartJ "Ratio" "bool") rfl)
  have a_Ratio_NoneType := apartJ_ok (c.fact 8 (b := apartJ "Ratio" "NoneType") rfl)
  have a_Ratio_str := apartJ_ok (c.fact 9 (b := apartJ "Ratio" "str") rfl)
  have a_Ratio_list := apartJ_ok (c.fact 10 (b := apartJ "Ratio" "list") rfl)
  have a_Ratio_tuple := apartJ_ok (c.fact 11 (b := apartJ "Ratio" "tuple") rfl)
  have a_Ratio_dict := apartJ_ok (c.fact 12 (b := apartJ "Ratio" "dict") rfl)
  have OW := ownJ_ok (c.fact 13 (b := ownJ "Ratio") rfl)
  have o_add := opJ_ok (c.fact 14 (b := opJ "Ratio" "add") rfl)
  have o_sub := opJ_ok (c.fact 15 (b := opJ "Ratio" "sub") rfl)
  have o_mul := opJ_ok (c.fact 16 (b := opJ "Ratio" "mul") rfl)
  have v_insc : ∀ c ∈ (["Ratio"] : List Str), InsC K c := by
    intro x hx
    simp only [List.mem_cons, List.not_mem_nil, or_false] at hx
    rcases hx with rfl
    · exact ⟨CJ_Ratio.cl, CJ_Ratio.c1, CJ_Ratio.c2, CJ_Ratio.c3, CJ_Ratio.c4⟩
  have v_kT_Ratio : ∀ T ∈ (["int", "bool", "NoneType", "str", "list", "tuple", "dict"] : List String), PySem.W.kitOne K (.type T) (.ref (He.ga K "Ratio")) = some false := by
    intro x hx
    simp only [List.mem_cons, List.not_mem_nil, or_false] at hx
    rcases hx with rfl | rfl | rfl | rfl | rfl | rfl | rfl
    · exact a_Ratio_int.k1
    · exact a_Ratio_bool.k1
    · exact a_Ratio_NoneType.k1
    · exact a_Ratio_str.k1
    · exact a_Ratio_list.k1
    · exact a_Ratio_tuple.k1
    · exact a_Ratio_dict.k1
  have v_m_abs := freeB_ok X G (c.fact 17 (b := freeB "abs") rfl)
  have v_m_len := freeB_ok X G (c.fact 18 (b := freeB "len") rfl)
  have v_m_int := freeB_ok X G (c.fact 19 (b := freeB "int") rfl)
  have v_m_bool := freeB_ok X G (c.fact 20 (b := freeB "bool") rfl)
  have v_m_str := freeB_ok X G (c.fact 21 (b := freeB "str") rfl)
  have v_m_min := freeB_ok X G (c.fact 22 (b := freeB "min") rfl)
  have v_m_max := freeB_ok X G (c.fact 23 (b := freeB "max") rfl)
  have v_m_range := freeB_ok X G (c.fact 24 (b := freeB "range") rfl)
  have v_m_repr := freeB_ok X G (c.fact 25 (b := freeB "repr") rfl)
  have v_m_all := freeB_ok X G (c.fact 26 (b := freeB "all") rfl)
  have v_m_isinstance := freeB_ok X G (c.fact 27 (b := freeB "isinstance") rfl)
  have v_m_tuple := freeB_ok X G (c.fact 28 (b := freeB "tuple") rfl)
  have v_exm_BadNumber := of_decide_eq_true (c.fact 29 (b := exmB "BadNumber" "BadNumber") rfl)
  have v_kit_BadNumber_DrawError := of_decide_eq_true (c.fact 30 (b := kitB "BadNumber" "DrawError") rfl)
  have v_exm_BadText := of_decide_eq_true (c.fact 31 (b := exmB "BadText" "BadText") rfl)
  have v_kit_BadText_DrawError := of_decide_eq_true (c.fact 32 (b := kitB "BadText" "DrawError") rfl)
  have v_g_DIGITS := strB_ok X G (c.fact 33 (b := strB "DIGITS" "0123456789") rfl)
  have g_common_part := gloB_ok X G (c.fact 34 (b := gloB "common_part") rfl)
  have g_is_integer := gloB_ok X G (c.fact 35 (b := gloB "is_integer") rfl)
  have pr_Ratio_top := propJ_ok (c.fact 36 (b := propJ "Ratio" "top") rfl)
  have pr_Ratio_bottom := propJ_ok (c.fact 37 (b := propJ "Ratio" "bottom") rfl)
  have g_parts_of := gloB_ok X G (c.fact 38 (b := gloB "parts_of") rfl)
  have me_Ratio___add__ := methJ_ok (c.fact 39 (b := methJ "Ratio" "__add__") rfl)
  have me_Ratio___neg__ := methJ_ok (c.fact 40 (b := methJ "Ratio" "__neg__") rfl)
  have me_Ratio___str__ := methJ_ok (c.fact 41 (b := methJ "Ratio" "__str__") rfl)
  have me_Ratio_below := methJ_ok (c.fact 42 (b := methJ "Ratio" "below") rfl)
  have me_Ratio_text := methJ_ok (c.fact 43 (b := methJ "Ratio" "text") rfl)
  have g_is_number := gloB_ok X G (c.fact 44 (b := gloB "is_number") rfl)
  have g_as_ratio := gloB_ok X G (c.fact 45 (b := gloB "as_ratio") rfl)
  have g_is_plain := gloB_ok X G (c.fact 46 (b := gloB "is_plain") rfl)
  have g_read_ratio := gloB_ok X G (c.fact 47 (b := gloB "read_ratio") rfl)
  have g_total := gloB_ok X G (c.fact 48 (b := gloB "total") rfl)
  have g_greatest := gloB_ok X G (c.fact 49 (b := gloB "greatest") rfl)
  have g_least := gloB_ok X G (c.fact 50 (b := gloB "least") rfl)
  have g__law_take := gloB_ok X G (c.fact 51 (b := gloB "_law_take") rfl)
  have g__law_low := gloB_ok X G (c.fact 52 (b := gloB "_law_low") rfl)
  have g__law_plus := gloB_ok X G (c.fact 53 (b := gloB "_law_plus") rfl)
  have g__law_less := gloB_ok X G (c.fact 54 (b := gloB "_law_less") rfl)
  have g__law_is := gloB_ok X G (c.fact 55 (b := gloB "_law_is") rfl)
  have g__law_pair := gloB_ok X G (c.fact 56 (b := gloB "_law_pair") rfl)
  have g__law_written := gloB_ok X G (c.fact 57 (b := gloB "_law_written") rfl)
  have g__law_plain := gloB_ok X G (c.fact 58 (b := gloB "_law_plain") rfl)
  have g__law_due := gloB_ok X G (c.fact 59 (b := gloB "_law_due") rfl)
  have g__law_near := gloB_ok X G (c.fact 60 (b := gloB "_law_near") rfl)
  have g__law_read_right := gloB_ok X G (c.fact 61 (b := gloB "_law_read_right") rfl)
  have g__law_no_number := gloB_ok X G (c.fact 62 (b := gloB "_law_no_number") rfl)
  have g__law_lists_right := gloB_ok X G (c.fact 63 (b := gloB "_law_lists_right") rfl)
  have g__law_cell := gloB_ok X G (c.fact 64 (b := gloB "_law_cell") rfl)
  have g__law_box := gloB_ok X G (c.fact 65 (b := gloB "_law_box") rfl)
  have g_law := gloB_ok X G (c.fact 66 (b := gloB "law") rfl)
  obtain ⟨fd_ByZero___init__, F0_ByZero___init__⟩ := c.def_ 0
  have F_ByZero___init__ : FunD K "__init__" "ByZero.__init__" (defArgs s_ByZero___init__) (defBody s_ByZero___init__) (defScope s_ByZero___init__) [] [] (He.ma K (He.ga K "ByZero") "__init__") fd_ByZero___init__ := F0_ByZero___init__
  clear F0_ByZero___init__
  obtain ⟨fd_BadNumber___init__, F0_BadNumber___init__⟩ := c.def_ 1
  have F_BadNumber___init__ : FunD K "__init__" "BadNumber.__init__" (defArgs s_BadNumber___init__) (defBody s_BadNumber___init__) (defScope s_BadNumber___init__) [] [] (He.ma K (He.ga K "BadNumber") "__init__") fd_BadNumber___init__ := F0_BadNumber___init__
  clear F0_BadNumber___init__
  obtain ⟨fd_BadText___init__, F0_BadText___init__⟩ := c.def_ 2
  have F_BadText___init__ : FunD K "__init__" "BadText.__init__" (defArgs s_BadText___init__) (defBody s_BadText___init__) (defScope s_BadText___init__) [] [] (He.ma K (He.ga K "BadText") "__init__") fd_BadText___init__ := F0_BadText___init__
  clear F0_BadText___init__
  obtain ⟨fd_common_part, F0_common_part⟩ := c.def_ 3
  have F_common_part : FunD K "common_part" "common_part" (defArgs s_common_part) (defBody s_common_part) (defScope s_common_part) [] [] (He.ga K "common_part") fd_common_part := F0_common_part
  clear F0_common_part
  obtain ⟨fd_is_integer, F0_is_integer⟩ := c.def_ 4
  have F_is_integer : FunD K "is_integer" "is_integer" (defArgs s_is_integer) (defBody s_is_integer) (defScope s_is_integer) [] [] (He.ga K "is_integer") fd_is_integer := F0_is_integer
  clear F0_is_integer
  obtain ⟨fd_Ratio___init__, F0_Ratio___init__⟩ := c.def_ 5
  have F_Ratio___init__ : FunD K "__init__" "Ratio.__init__" (defArgs s_Ratio___init__) (defBody s_Ratio___init__) (defScope s_Ratio___init__) [.int 1] [] (He.ma K (He.ga K "Ratio") "__init__") fd_Ratio___init__ := F0_Ratio___init__
  clear F0_Ratio___init__
  obtain ⟨fd_Ratio_top, F0_Ratio_top⟩ := c.def_ 6
  have F_Ratio_top : FunD K "top" "Ratio.top" (defArgs s_Ratio_top) (defBody s_Ratio_top) (defScope s_Ratio_top) [] [] (pa "Ratio" "top" K) fd_Ratio_top := F0_Ratio_top
  clear F0_Ratio_top
  obtain ⟨fd_Ratio_bottom, F0_Ratio_bottom⟩ := c.def_ 7
  have F_Ratio_bottom : FunD K "bottom" "Ratio.bottom" (defArgs s_Ratio_bottom) (defBody s_Ratio_bottom) (defScope s_Ratio_bottom) [] [] (pa "Ratio" "bottom" K) fd_Ratio_bottom := F0_Ratio_bottom
  clear F0_Ratio_bottom
  obtain ⟨fd_parts_of, F0_parts_of⟩ := c.def_ 8
  have F_parts_of : FunD K "parts_of" "parts_of" (defArgs s_parts_of) (defBody s_parts_of) (defScope s_parts_of) [] [] (He.ga K "parts_of") fd_parts_of := F0_parts_of
  clear F0_parts_of
  obtain ⟨fd_Ratio___add__, F0_Ratio___add__⟩ := c.def_ 9
  have F_Ratio___add__ : FunD K "__add__" "Ratio.__add__" (defArgs s_Ratio___add__) (defBody s_Ratio___add__) (defScope s_Ratio___add__) [] [] (He.ma K (He.ga K "Ratio") "__add__") fd_Ratio___add__ := F0_Ratio___add__
  clear F0_Ratio___add__
  obtain ⟨fd_Ratio___neg__, F0_Ratio___neg__⟩ := c.def_ 10
  have F_Ratio___neg__ : FunD K "__neg__" "Ratio.__neg__" (defArgs s_Ratio___neg__) (defBody s_Ratio___neg__) (defScope s_Ratio___neg__) [] [] (He.ma K (He.ga K "Ratio") "__neg__") fd_Ratio___neg__ := F0_Ratio___neg__
  clear F0_Ratio___neg__
  obtain ⟨fd_Ratio___str__, F0_Ratio___str__⟩ := c.def_ 11
  have F_Ratio___str__ : FunD K "__str__" "Ratio.__str__" (defArgs s_Ratio___str__) (defBody s_Ratio___str__) (defScope s_Ratio___str__) [] [] (He.ma K (He.ga K "Ratio") "__str__") fd_Ratio___str__ := F0_Ratio___str__
  clear F0_Ratio___str__
  obtain ⟨fd_Ratio_below, F0_Ratio_below⟩ := c.def_ 12
  have F_Ratio_below : FunD K "below" "Ratio.below" (defArgs s_Ratio_below) (defBody s_Ratio_below) (defScope s_Ratio_below) [] [] (He.ma K (He.ga K "Ratio") "below") fd_Ratio_below := F0_Ratio_below
  clear F0_Ratio_below
  obtain ⟨fd_Ratio_text, F0_Ratio_text⟩ := c.def_ 13
  have F_Ratio_text : FunD K "text" "Ratio.text" (defArgs s_Ratio_text) (defBody s_Ratio_text) (defScope s_Ratio_text) [] [] (He.ma K (He.ga K "Ratio") "text") fd_Ratio_text := F0_Ratio_text
  clear F0_Ratio_text
  obtain ⟨fd_is_number, F0_is_number⟩ := c.def_ 14
  have F_is_number : FunD K "is_number" "is_number" (defArgs s_is_number) (defBody s_is_number) (defScope s_is_number) [] [] (He.ga K "is_number") fd_is_number := F0_is_number
  clear F0_is_number
  obtain ⟨fd_as_ratio, F0_as_ratio⟩ := c.def_ 15
  have F_as_ratio : FunD K "as_ratio" "as_ratio" (defArgs s_as_ratio) (defBody s_as_ratio) (defScope s_as_ratio) [] [] (He.ga K "as_ratio") fd_as_ratio := F0_as_ratio
  clear F0_as_ratio
  obtain ⟨fd_is_plain, F0_is_plain⟩ := c.def_ 16
  have F_is_plain : FunD K "is_plain" "is_plain" (defArgs s_is_plain) (defBody s_is_plain) (defScope s_is_plain) [] [] (He.ga K "is_plain") fd_is_plain := F0_is_plain
  clear F0_is_plain
  obtain ⟨fd_read_ratio, F0_read_ratio⟩ := c.def_ 17
  have F_read_ratio : FunD K "read_ratio" "read_ratio" (defArgs s_read_ratio) (defBody s_read_ratio) (defScope s_read_ratio) [] [] (He.ga K "read_ratio") fd_read_ratio := F0_read_ratio
  clear F0_read_ratio
  obtain ⟨fd_total, F0_total⟩ := c.def_ 18
  have F_total : FunD K "total" "total" (defArgs s_total) (defBody s_total) (defScope s_total) [] [] (He.ga K "total") fd_total := F0_total
  clear F0_total
  obtain ⟨fd_greatest, F0_greatest⟩ := c.def_ 19
  have F_greatest : FunD K "greatest" "greatest" (defArgs s_greatest) (defBody s_greatest) (defScope s_greatest) [] [] (He.ga K "greatest") fd_greatest := F0_greatest
  clear F0_greatest
  obtain ⟨fd_least, F0_least⟩ := c.def_ 20
  have F_least : FunD K "least" "least" (defArgs s_least) (defBody s_least) (defScope s_least) [] [] (He.ga K "least") fd_least := F0_least
  clear F0_least
  obtain ⟨fd__law_take, F0__law_take⟩ := c.def_ 21
  have F__law_take : FunD K "_law_take" "_law_take" (defArgs s__law_take) (defBody s__law_take) (defScope s__law_take) [] [] (He.ga K "_law_take") fd__law_take := F0__law_take
  clear F0__law_take
  obtain ⟨fd__law_low, F0__law_low⟩ := c.def_ 22
  have F__law_low : FunD K "_law_low" "_law_low" (defArgs s__law_low) (defBody s__law_low) (defScope s__law_low) [] [] (He.ga K "_law_low") fd__law_low := F0__law_low
  clear F0__law_low
  obtain ⟨fd__law_plus, F0__law_plus⟩ := c.def_ 23
  have F__law_plus : FunD K "_law_plus" "_law_plus" (defArgs s__law_plus) (defBody s__law_plus) (defScope s__law_plus) [] [] (He.ga K "_law_plus") fd__law_plus := F0__law_plus
  clear F0__law_plus
  obtain ⟨fd__law_less, F0__law_less⟩ := c.def_ 24
  have F__law_less : FunD K "_law_less" "_law_less" (defArgs s__law_less) (defBody s__law_less) (defScope s__law_less) [] [] (He.ga K "_law_less") fd__law_less := F0__law_less
  clear F0__law_less
  obtain ⟨fd__law_is, F0__law_is⟩ := c.def_ 25
  have F__law_is : FunD K "_law_is" "_law_is" (defArgs s__law_is) (defBody s__law_is) (defScope s__law_is) [] [] (He.ga K "_law_is") fd__law_is := F0__law_is
  clear F0__law_is
  obtain ⟨fd__law_pair, F0__law_pair⟩ := c.def_ 26
  have F__law_pair : FunD K "_law_pair" "_law_pair" (defArgs s__law_pair) (defBody s__law_pair) (defScope s__law_pair) [] [] (He.ga K "_law_pair") fd__law_pair := F0__law_pair
  clear F0__law_pair
  obtain ⟨fd__law_written, F0__law_written⟩ := c.def_ 27
  have F__law_written : FunD K "_law_written" "_law_written" (defArgs s__law_written) (defBody s__law_written) (defScope s__law_written) [] [] (He.ga K "_law_written") fd__law_written := F0__law_written
  clear F0__law_written
  obtain ⟨fd__law_plain, F0__law_plain⟩ := c.def_ 28
  have F__law_plain : FunD K "_law_plain" "_law_plain" (defArgs s__law_plain) (defBody s__law_plain) (defScope s__law_plain) [] [] (He.ga K "_law_plain") fd__law_plain := F0__law_plain
  clear F0__law_plain
  obtain ⟨fd__law_due, F0__law_due⟩ := c.def_ 29
  have F__law_due : FunD K "_law_due" "_law_due" (defArgs s__law_due) (defBody s__law_due) (defScope s__law_due) [] [] (He.ga K "_law_due") fd__law_due := F0__law_due
  clear F0__law_due
  obtain ⟨fd__law_near, F0__law_near⟩ := c.def_ 30
  have F__law_near : FunD K "_law_near" "_law_near" (defArgs s__law_near) (defBody s__law_near) (defScope s__law_near) [] [] (He.ga K "_law_near") fd__law_near := F0__law_near
  clear F0__law_near
  obtain ⟨fd__law_read_right, F0__law_read_right⟩ := c.def_ 31
  have F__law_read_right : FunD K "_law_read_right" "_law_read_right" (defArgs s__law_read_right) (defBody s__law_read_right) (defScope s__law_read_right) [] [] (He.ga K "_law_read_right") fd__law_read_right := F0__law_read_right
  clear F0__law_read_right
  obtain ⟨fd__law_no_number, F0__law_no_number⟩ := c.def_ 32
  have F__law_no_number : FunD K "_law_no_number" "_law_no_number" (defArgs s__law_no_number) (defBody s__law_no_number) (defScope s__law_no_number) [] [] (He.ga K "_law_no_number") fd__law_no_number := F0__law_no_number
  clear F0__law_no_number
  obtain ⟨fd__law_lists_right, F0__law_lists_right⟩ := c.def_ 33
  have F__law_lists_right : FunD K "_law_lists_right" "_law_lists_right" (defArgs s__law_lists_right) (defBody s__law_lists_right) (defScope s__law_lists_right) [] [] (He.ga K "_law_lists_right") fd__law_lists_right := F0__law_lists_right
  clear F0__law_lists_right
  obtain ⟨fd__law_cell, F0__law_cell⟩ := c.def_ 34
  have F__law_cell : FunD K "_law_cell" "_law_cell" (defArgs s__law_cell) (defBody s__law_cell) (defScope s__law_cell) [] [] (He.ga K "_law_cell") fd__law_cell := F0__law_cell
  clear F0__law_cell
  obtain ⟨fd__law_box, F0__law_box⟩ := c.def_ 35
  have F__law_box : FunD K "_law_box" "_law_box" (defArgs s__law_box) (defBody s__law_box) (defScope s__law_box) [] [] (He.ga K "_law_box") fd__law_box := F0__law_box
  clear F0__law_box
  obtain ⟨fd_law, F0_law⟩ := c.def_ 36
  have F_law : FunD K "law" "law" (defArgs s_law) (defBody s_law) (defScope s_law) [] [] (He.ga K "law") fd_law := F0_law
  clear F0_law
  have e := hfa.symm.trans g_law
  cases e
  refine ⟨fd_law, fun s v => FunD.bindsA (ps := ["_law_script"]) F_law (fun _ _ _ _ _ _ us hl => match us, hl with | [_], _ => rfl) s [v] rfl, fun base _ _ => ?_⟩
  have v_e_ByZero : ErrZ0 P w K mg base "ByZero" := ⟨EN_ByZero, ⟨fd_ByZero___init__, ok_err0 F_ByZero___init__ rfl rfl (by decide) TD EN_ByZero.c.oex, F_ByZero___init__.bindsN fun _ _ _ _ _ _ us hl => match us, hl with | [_], _ => rfl⟩, by decide⟩
  have v_e_BadNumber : ErrZ P w K mg base "BadNumber" "given" := ⟨EN_BadNumber, ⟨fd_BadNumber___init__, ok_err F_BadNumber___init__ rfl rfl (by decide) (by decide) (by decide) (by decide) (by decide) TD EN_BadNumber.c.oex EN_BadNumber.nof, F_BadNumber___init__.bindsN fun _ _ _ _ _ _ us hl => match us, hl with | [_, _], _ => rfl⟩, by decide⟩
  have v_e_BadText : ErrZ P w K mg base "BadText" "given" := ⟨EN_BadText, ⟨fd_BadText___init__, ok_err F_BadText___init__ rfl rfl (by decide) (by decide) (by decide) (by decide) (by decide) TD EN_BadText.c.oex EN_BadText.nof, F_BadText___init__.bindsN fun _ _ _ _ _ _ us hl => match us, hl with | [_, _], _ => rfl⟩, by decide⟩
  have T : TT P w K mg base := ⟨CJ_Ratio.cl, CJ_Ratio.no _ (by simp), CJ_Ratio.no _ (by simp), CJ_Ratio.g, TD.gD, ⟨OW.1, a_Ratio_int.ap, o_add, o_sub, o_mul⟩, v_e_ByZero, v_insc, a_Ratio_int.k2, a_Ratio_bool.k2, a_Ratio_str.k2, v_kT_Ratio, v_m_abs, v_m_len, v_m_int, v_m_bool, v_m_str, v_m_min, v_m_max, v_m_range, v_m_repr, v_m_all, v_m_isinstance, v_m_tuple, v_e_BadNumber, v_e_BadText, EN_BadNumber.g, EN_BadNumber.is cb, v_exm_BadNumber, v_kit_BadNumber_DrawError, EN_BadText.g, EN_BadText.is cb, v_exm_BadText, v_kit_BadText_DrawError, v_g_DIGITS⟩
  have FI_common_part := ok_common_part (P := P) (w := w) (base := base) F_common_part T 
  have FI_is_integer := ok_is_integer (P := P) (w := w) (base := base) F_is_integer T 
  have c_common_part : Cal P w K mg base "common_part" ["one", "other"] 1 (sp_common_part K) := ⟨_, fd_common_part, g_common_part, F_common_part.kp, FI_common_part, F_common_part.bindsN fun _ _ _ _ _ _ us hl => match us, hl with | [_, _], _ => rfl⟩
  have FI_Ratio___init__ := ok_Ratio___init__ (P := P) (w := w) (base := base) F_Ratio___init__ T c_common_part
  have FI_Ratio_top := ok_Ratio_top (P := P) (w := w) (base := base) F_Ratio_top T 
  have FI_Ratio_bottom := ok_Ratio_bottom (P := P) (w := w) (base := base) F_Ratio_bottom T 
  have FI_parts_of := ok_parts_of (P := P) (w := w) (base := base) F_parts_of T 
  have c_parts_of : Cal P w K mg base "parts_of" ["number"] 1 (sp_parts_of K) := ⟨_, fd_parts_of, g_parts_of, F_parts_of.kp, FI_parts_of, F_parts_of.bindsN fun _ _ _ _ _ _ us hl => match us, hl with | [_], _ => rfl⟩
  obtain ⟨ds_k2_Ratio, hd_k2_Ratio, hb_k2_Ratio⟩ := F_Ratio___init__.binds1 (ps := ["self", "top", "bottom"]) 3 1 (by simp) rfl (fun T kV doc pm an cdv ct us its l1 l2 => match us, its, l1, l2 with | [_, _, _], [_], _, _ => ⟨_, rfl, rfl⟩)
  have k2_Ratio : KCal P w K mg base "Ratio" (He.ga K "Ratio") ["self", "top", "bottom"] 3 (sp_Ratio___init__ K) [] := ⟨_, fd_Ratio___init__, ds_k2_Ratio, CJ_Ratio.g, CJ_Ratio.mkc, FI_Ratio___init__, hb_k2_Ratio, hd_k2_Ratio⟩
  have FI_Ratio___add__ := ok_Ratio___add__ (P := P) (w := w) (base := base) F_Ratio___add__ T c_parts_of k2_Ratio
  have FI_Ratio___neg__ := ok_Ratio___neg__ (P := P) (w := w) (base := base) F_Ratio___neg__ T k2_Ratio
  have FI_Ratio___str__ := ok_Ratio___str__ (P := P) (w := w) (base := base) F_Ratio___str__ T 
  have FI_Ratio_below := ok_Ratio_below (P := P) (w := w) (base := base) F_Ratio_below T c_parts_of
  have m_Ratio___str__ : MCal P w K mg base (He.ga K "Ratio") "__str__" ["self"] 1 (sp_Ratio___str__ K) := ⟨_, fd_Ratio___str__, me_Ratio___str__, FI_Ratio___str__, F_Ratio___str__.bindsN fun _ _ _ _ _ _ us hl => match us, hl with | [_], _ => rfl⟩
  have FI_Ratio_text := ok_Ratio_text (P := P) (w := w) (base := base) F_Ratio_text T m_Ratio___str__
  have c_is_integer : Cal P w K mg base "is_integer" ["value"] 1 (sp_is_integer K) := ⟨_, fd_is_integer, g_is_integer, F_is_integer.kp, FI_is_integer, F_is_integer.bindsN fun _ _ _ _ _ _ us hl => match us, hl with | [_], _ => rfl⟩
  have FI_is_number := ok_is_number (P := P) (w := w) (base := base) F_is_number T c_is_integer
  have c_is_number : Cal P w K mg base "is_number" ["value"] 2 (sp_is_number K) := ⟨_, fd_is_number, g_is_number, F_is_number.kp, FI_is_number, F_is_number.bindsN fun _ _ _ _ _ _ us hl => match us, hl with | [_], _ => rfl⟩
  have FI_as_ratio := ok_as_ratio (P := P) (w := w) (base := base) F_as_ratio T c_is_number c_parts_of k2_Ratio
  have FI_is_plain := ok_is_plain (P := P) (w := w) (base := base) F_is_plain T 
  have c_is_plain : Cal P w K mg base "is_plain" ["word"] 1 (sp_is_plain K) := ⟨_, fd_is_plain, g_is_plain, F_is_plain.kp, FI_is_plain, F_is_plain.bindsN fun _ _ _ _ _ _ us hl => match us, hl with | [_], _ => rfl⟩
  have m_Ratio_text : MCal P w K mg base (He.ga K "Ratio") "text" ["self"] 4 (sp_Ratio_text K) := ⟨_, fd_Ratio_text, me_Ratio_text, FI_Ratio_text, F_Ratio_text.bindsN fun _ _ _ _ _ _ us hl => match us, hl with | [_], _ => rfl⟩
  have FI_read_ratio := ok_read_ratio (P := P) (w := w) (base := base) F_read_ratio T c_is_plain k2_Ratio m_Ratio_text
  obtain ⟨ds_k1_Ratio, hd_k1_Ratio, hb_k1_Ratio⟩ := F_Ratio___init__.binds1 (ps := ["self", "top", "bottom"]) 2 0 (by simp) rfl (fun T kV doc pm an cdv ct us its l1 l2 => match us, its, l1, l2 with | [_, _], [_], _, _ => ⟨_, rfl, rfl⟩)
  have k1_Ratio : KCal P w K mg base "Ratio" (He.ga K "Ratio") ["self", "top", "bottom"] 3 (sp_Ratio___init__ K) [.int 1] := ⟨_, fd_Ratio___init__, ds_k1_Ratio, CJ_Ratio.g, CJ_Ratio.mkc, FI_Ratio___init__, hb_k1_Ratio, hd_k1_Ratio⟩
  have m_Ratio___add__ : MCal P w K mg base (He.ga K "Ratio") "__add__" ["self", "other"] 5 (sp_Ratio___add__ K) := ⟨_, fd_Ratio___add__, me_Ratio___add__, FI_Ratio___add__, F_Ratio___add__.bindsN fun _ _ _ _ _ _ us hl => match us, hl with | [_, _], _ => rfl⟩
  have FI_total := ok_total (P := P) (w := w) (base := base) F_total T k1_Ratio m_Ratio___add__
  have c_as_ratio : Cal P w K mg base "as_ratio" ["value"] 5 (sp_as_ratio K) := ⟨_, fd_as_ratio, g_as_ratio, F_as_ratio.kp, FI_as_ratio, F_as_ratio.bindsN fun _ _ _ _ _ _ us hl => match us, hl with | [_], _ => rfl⟩
  have m_Ratio_below : MCal P w K mg base (He.ga K "Ratio") "below" ["self", "number"] 2 (sp_Ratio_below K) := ⟨_, fd_Ratio_below, me_Ratio_below, FI_Ratio_below, F_Ratio_below.bindsN fun _ _ _ _ _ _ us hl => match us, hl with | [_, _], _ => rfl⟩
  have FI_greatest := ok_greatest (P := P) (w := w) (base := base) F_greatest T c_as_ratio m_Ratio_below
  have c_greatest : Cal P w K mg base "greatest" ["numbers"] 6 (sp_greatest K) := ⟨_, fd_greatest, g_greatest, F_greatest.kp, FI_greatest, F_greatest.bindsN fun _ _ _ _ _ _ us hl => match us, hl with | [_], _ => rfl⟩
  have m_Ratio___neg__ : MCal P w K mg base (He.ga K "Ratio") "__neg__" ["self"] 5 (sp_Ratio___neg__ K) := ⟨_, fd_Ratio___neg__, me_Ratio___neg__, FI_Ratio___neg__, F_Ratio___neg__.bindsN fun _ _ _ _ _ _ us hl => match us, hl with | [_], _ => rfl⟩
  have FI_least := ok_least (P := P) (w := w) (base := base) F_least T c_greatest m_Ratio___neg__
  have FI__law_take := ok__law_take (P := P) (w := w) (base := base) F__law_take T
  have FI__law_low := ok__law_low (P := P) (w := w) (base := base) F__law_low T 
  have c__law_low : Cal P w K mg base "_law_low" ["_law_top", "_law_bottom"] 1 (sp__law_low K) := ⟨_, fd__law_low, g__law_low, F__law_low.kp, FI__law_low, F__law_low.bindsN fun _ _ _ _ _ _ us hl => match us, hl with | [_, _], _ => rfl⟩
  have FI__law_plus := ok__law_plus (P := P) (w := w) (base := base) F__law_plus T c__law_low
  have FI__law_less := ok__law_less (P := P) (w := w) (base := base) F__law_less T 
  have p_Ratio_top : PCal P w K mg base (He.ga K "Ratio") "top" 1 (getSp (He.ga K "Ratio") "above") := ⟨_, _, fd_Ratio_top, pr_Ratio_top, FI_Ratio_top, F_Ratio_top.bindsN fun _ _ _ _ _ _ us hl => match us, hl with | [_], _ => rfl⟩
  have p_Ratio_bottom : PCal P w K mg base (He.ga K "Ratio") "bottom" 1 (getSp (He.ga K "Ratio") "under") := ⟨_, _, fd_Ratio_bottom, pr_Ratio_bottom, FI_Ratio_bottom, F_Ratio_bottom.bindsN fun _ _ _ _ _ _ us hl => match us, hl with | [_], _ => rfl⟩
  have FI__law_is := ok__law_is (P := P) (w := w) (base := base) F__law_is T p_Ratio_top p_Ratio_bottom
  have c__law_take : Cal P w K mg base "_law_take" ["_law_box_here", "_law_many"] 1 (spB K fun (i : Int × Unit) => m__law_take i.1) := ⟨_, fd__law_take, g__law_take, F__law_take.kp, FI__law_take, F__law_take.bindsN fun _ _ _ _ _ _ us hl => match us, hl with | [_, _], _ => rfl⟩
  have FI__law_pair := ok__law_pair (P := P) (w := w) (base := base) F__law_pair T c__law_take c__law_low
  have FI__law_written := ok__law_written (P := P) (w := w) (base := base) F__law_written T 
  have FI__law_plain := ok__law_plain (P := P) (w := w) (base := base) F__law_plain T 
  have c__law_plain : Cal P w K mg base "_law_plain" ["_law_word"] 1 (sp__law_plain K) := ⟨_, fd__law_plain, g__law_plain, F__law_plain.kp, FI__law_plain, F__law_plain.bindsN fun _ _ _ _ _ _ us hl => match us, hl with | [_], _ => rfl⟩
  have FI__law_due := ok__law_due (P := P) (w := w) (base := base) F__law_due T c__law_plain c__law_low
  have FI__law_near := ok__law_near (P := P) (w := w) (base := base) F__law_near T c__law_take
  have c__law_due : Cal P w K mg base "_law_due" ["_law_text"] 2 (sp__law_due K) := ⟨_, fd__law_due, g__law_due, F__law_due.kp, FI__law_due, F__law_due.bindsN fun _ _ _ _ _ _ us hl => match us, hl with | [_], _ => rfl⟩
  have c_read_ratio : Cal P w K mg base "read_ratio" ["text"] 5 (sp_read_ratio K) := ⟨_, fd_read_ratio, g_read_ratio, F_read_ratio.kp, FI_read_ratio, F_read_ratio.bindsN fun _ _ _ _ _ _ us hl => match us, hl with | [_], _ => rfl⟩
  have c__law_is : Cal P w K mg base "_law_is" ["_law_ratio", "_law_pair_here"] 3 (sp__law_is K) := ⟨_, fd__law_is, g__law_is, F__law_is.kp, FI__law_is, F__law_is.bindsN fun _ _ _ _ _ _ us hl => match us, hl with | [_, _], _ => rfl⟩
  have FI__law_read_right := ok__law_read_right (P := P) (w := w) (base := base) F__law_read_right T c__law_due c_read_ratio c__law_is
  have FI__law_no_number := ok__law_no_number (P := P) (w := w) (base := base) F__law_no_number T c_as_ratio
  have c__law_plus : Cal P w K mg base "_law_plus" ["_law_one", "_law_other"] 2 (sp__law_plus K) := ⟨_, fd__law_plus, g__law_plus, F__law_plus.kp, FI__law_plus, F__law_plus.bindsN fun _ _ _ _ _ _ us hl => match us, hl with | [_, _], _ => rfl⟩
  have c__law_less : Cal P w K mg base "_law_less" ["_law_one", "_law_other"] 1 (sp__law_less K) := ⟨_, fd__law_less, g__law_less, F__law_less.kp, FI__law_less, F__law_less.bindsN fun _ _ _ _ _ _ us hl => match us, hl with | [_, _], _ => rfl⟩
  have c_total : Cal P w K mg base "total" ["numbers"] 6 (sp_total K) := ⟨_, fd_total, g_total, F_total.kp, FI_total, F_total.bindsN fun _ _ _ _ _ _ us hl => match us, hl with | [_], _ => rfl⟩
  have c_least : Cal P w K mg base "least" ["numbers"] 7 (sp_least K) := ⟨_, fd_least, g_least, F_least.kp, FI_least, F_least.bindsN fun _ _ _ _ _ _ us hl => match us, hl with | [_], _ => rfl⟩
  have FI__law_lists_right := ok__law_lists_right (P := P) (w := w) (base := base) F__law_lists_right T c__law_take k2_Ratio m_Ratio___str__ c__law_plus c__law_less c__law_is c_total c_greatest c_least
  have FI__law_cell : FnOk P w K mg base (CXL P w) 1 _ fd__law_cell _ (spCellL K) := FnOk.up (ok_cell F__law_cell T.m_len)
  have FI__law_box : FnOk P w K mg base (CXL P w) 1 _ fd__law_box _ spBoxL := FnOk.up (ok_box F__law_box T.m_abs T.m_int)
  have c__law_pair : Cal P w K mg base "_law_pair" ["_law_box_here"] 2 (sp__law_pair K) := ⟨_, fd__law_pair, g__law_pair, F__law_pair.kp, FI__law_pair, F__law_pair.bindsN fun _ _ _ _ _ _ us hl => match us, hl with | [_], _ => rfl⟩
  have c__law_written : Cal P w K mg base "_law_written" ["_law_pair_here"] 1 (sp__law_written K) := ⟨_, fd__law_written, g__law_written, F__law_written.kp, FI__law_written, F__law_written.bindsN fun _ _ _ _ _ _ us hl => match us, hl with | [_], _ => rfl⟩
  have c__law_near : Cal P w K mg base "_law_near" ["_law_box_here", "_law_text"] 2 (sp__law_near K) := ⟨_, fd__law_near, g__law_near, F__law_near.kp, FI__law_near, F__law_near.bindsN fun _ _ _ _ _ _ us hl => match us, hl with | [_, _], _ => rfl⟩
  have c__law_read_right : CalG P w K mg base "_law_read_right" ["_law_text"] 6 (sp__law_read_right K) := ⟨_, fd__law_read_right, g__law_read_right, F__law_read_right.kp, FI__law_read_right, F__law_read_right.bindsN fun _ _ _ _ _ _ us hl => match us, hl with | [_], _ => rfl⟩
  have c__law_no_number : CalG P w K mg base "_law_no_number" ["_law_thing"] 6 (sp__law_no_number K) := ⟨_, fd__law_no_number, g__law_no_number, F__law_no_number.kp, FI__law_no_number, F__law_no_number.bindsN fun _ _ _ _ _ _ us hl => match us, hl with | [_], _ => rfl⟩
  have c__law_lists_right : Cal P w K mg base "_law_lists_right" ["_law_box_here", "_law_pairs"] 8 (sp__law_lists_right K) := ⟨_, fd__law_lists_right, g__law_lists_right, F__law_lists_right.kp, FI__law_lists_right, F__law_lists_right.bindsN fun _ _ _ _ _ _ us hl => match us, hl with | [_, _], _ => rfl⟩
  have c__law_cell : Cal P w K mg base "_law_cell" ["_law_script", "_law_k"] 1 (spCellL K) := ⟨_, fd__law_cell, g__law_cell, F__law_cell.kp, FI__law_cell, F__law_cell.bindsN fun _ _ _ _ _ _ us hl => match us, hl with | [_, _], _ => rfl⟩
  have c__law_box : Cal P w K mg base "_law_box" ["_law_cell_here"] 1 spBoxL := ⟨_, fd__law_box, g__law_box, F__law_box.kp, FI__law_box, F__law_box.bindsN fun _ _ _ _ _ _ us hl => match us, hl with | [_], _ => rfl⟩
  exact FnG.down (fun vs H Q E E' z => z) (ok_law law_ok F_law T c__law_take c__law_pair k2_Ratio c__law_written m_Ratio_text m_Ratio___str__ c__law_is c_as_ratio c__law_near c__law_read_right c__law_no_number c__law_lists_right c__law_cell c__law_box)
end
end K03
open PySem PySem.W PySem.Calls PyProof.Rows
theorem PySem.Challenge.cw_jointdraws_k03_ratios_written_holds : PySem.Challenge.rw_jointdraws_k03_ratios_written.Holds := by
  w_on; o_law
  refine HandSHeadRun.head_any (r := OpenLaw.row PySem.Challenge.rw_jointdraws_k03_ratios_written) (q := view (OpenLaw.row PySem.Challenge.rw_jointdraws_k03_ratios_written).prog [35]) (H := K03.hk) (ob := K03.ob) (M := 20000) (loose := K03.loose) (d := HandSHeadRun.topDef (OpenLaw.row PySem.Challenge.rw_jointdraws_k03_ratios_written).prog 35) (kwd := []) K03.ob_eq
    (by kernel_rfl) (fun s => by kernel_rfl) K03.run (by kernel_rfl) (by kernel_rfl) (by kernel_rfl) (by rfl) (by first | assumption | decide +kernel) (by decide +kernel) ⟨rfl, rfl, rfl, rfl, rfl, by decide +kernel⟩ ?hw ?hc
  case hw => w_witness2
  case hc =>
    refine J.walk_G (l := PySem.Challenge.rw_jointdraws_k03_ratios_written) (n := 63) (k := 9) (x := "_law_script") rfl (by decide) (by kernel_rfl) ⟨rfl, by decide, by decide⟩ ?F
    intro w mg fa h Y G hmg0
    obtain ⟨K, KX, c⟩ := Y
    have hmg : mg ("law" : PySem.Str) = some (.ref fa) := by
      have e : (HandSHeadRun.topDef (OpenLaw.row PySem.Challenge.rw_jointdraws_k03_ratios_written).prog 35).name = ("law" : PySem.Str) := by kernel_rfl
      rw [← e]
      exact hmg0
    obtain ⟨fd, hb, hF⟩ := K03.facts (P := (PySem.Challenge.rw_jointdraws_k03_ratios_written).prog) (w := w) KX G hmg c
    exact ⟨K, fd, K03.spLaw K, KX, hb, fun H a ns hl _ hS => ⟨a, ns, rfl, hS, hl, fun _ => rfl⟩, hF⟩
#print axioms PySem.Challenge.cw_jointdraws_k03_ratios_written_holds

