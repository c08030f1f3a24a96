import PyProof.Rows.All
import Wide.All
import OpenK.AllK
import Wide.FinOn
import PyProof.EqAt
import PyProof.EqKinds
import PyProof.TupleCall
import HandS.ForMost
import HandS.ForExc
import HandS.CallSlots
import HandS.New
import HandS.WideBits
import HandS.Gcd
import HandS.EndBits
import HandS.ExcInit
import HandS.ExcIs
import HandS.ExcSuper
import KE.KExcSuper
import KE.KExcMake
import KE.KExcIs
import PyProof.ReprRoads
import PyProof.CallFns
import HandS.Words
import HandS.IsInst
import HandS.TupAny
import HandS.TupMul
import HandS.Deep
import HandS.Style
import PySem.Challenge.RW_spacewebs_k01_scalars
set_option Elab.async false
set_option linter.all false
set_option maxRecDepth 100000
set_option maxHeartbeats 4000000
set_option exponentiation.threshold 256
/-! Wb0: calls under no guard (no repr is under way): the promise FnG, its rule and its calls. -/
namespace Wb
open PySem PySem.Spec PyProof.Rows L2

abbrev Frag := PySem.W.Frag
/-- a def's promise, asked where no repr is under way -/
structure FnG (P : Program) (w : World) (K : Frag) (mg : Str → Option Value) (base : Heap) (k : Nat) (f : Addr) (fd : FuncData) (ps : List Str) (sp : Sp) : Prop where
  len : ∀ vs H Q E, sp vs H Q E → vs.length = ps.length
  run : ∀ (A : Around) (outer : List Env) (s : Shared) (H : Hp) (args : Args) (us : List Value) (vs : List V) (Q : VK) (E : XK), A.guards = some [] → Room k A →
    Env0 P w K mg base A outer s H → BindsTo s fd args (ps.zip us) → Vals vs us → sp vs H Q E →
    codeAny (model P w) A (.call (.ref f) args) (CR (L2.CX P w) outer P w H s Q E) s

theorem FnG.mono {P : Program} {w : World} {K : Frag} {mg : Str → Option Value} {base : Heap} {j k : Nat} {f : Addr} {fd : FuncData} {ps : List Str} {sp : Sp}
    (F : FnG P w K mg base j f fd ps sp) (h : j ≤ k) : FnG P w K mg base k f fd ps sp :=
  ⟨F.len, fun A outer s H args us vs Q E hg hr => F.run A outer s H args us vs Q E hg (hr.mono h)⟩
theorem FnG.imp {P : Program} {w : World} {K : Frag} {mg : Str → Option Value} {base : Heap} {k : Nat} {f : Addr} {fd : FuncData} {ps : List Str} {sp sp' : Sp}
    (F : FnG P w K mg base k f fd ps sp) (h : ∀ vs H Q E, sp' vs H Q E → sp vs H Q E) : FnG P w K mg base k f fd ps sp' :=
  ⟨fun vs H Q E q => F.len vs H Q E (h _ _ _ _ q), fun A outer s H args us vs Q E hg hr he hb hv hs => F.run A outer s H args us vs Q E hg hr he hb hv (h _ _ _ _ hs)⟩

/-- a def by its body -/
theorem fnG_of {P : Program} {w : World} {K : Frag} {mg : Str → Option Value} {base : Heap} {k : Nat} {f : Addr} {fd : FuncData} {x qual : Str} {st : Stmt} {N ps : List Str} {sp : Sp}
    (F : Fun K x qual st f fd) (S : FnScope N ps (defScope st)) (len : ∀ vs H Q E, sp vs H Q E → vs.length = ps.length)
    (hbody : ∀ (cdv : Value) (A : Around) (outer : List Env) (s : Shared) (H : Hp) (vs : List V) (Q : VK) (E : XK), A.guards = some [] →
      Room k (A.deeper (envOfC qual (defScope st) s.heap.objs.size f cdv)) → sp vs H Q E →
      ∃ t, PSs (cxOf (L2.CX P w) P w K mg base N qual (defScope st) f cdv A outer s H E) (defBody st) t ∧ t { nx := fun _ H' => Q .non H', rt := Q } (start N vs) H) :
    FnG P w K mg base (k + 1) f fd ps sp := by
  obtain ⟨oc, od, kV, doc, pm, an, cdv, ct, osl, rfl, lk, hcd⟩ := F.ex
  refine ⟨len, fun A outer s H args us vs Q E hgd hr e0 hb r hsp => ?_⟩
  have hl := len _ _ _ _ hsp
  have inHeap : K.In s.heap := e0.mod.kin.keeps fun b o e => (e0.bs b o e).1
  have lim : s.heap.NoLimit := e0.mod.nolimit.keeps fun b o e => (e0.bs b o e).1
  refine codeAny_call_function hr.depth (inHeap _ _ lk) rfl S.co S.gen rfl (PySem.W.codeRec_of inHeap hcd) (hb _ _ _ _ ?_)
  refine wpAny_newFunctionEnv_cells S.kind (fun ⟨n, v⟩ hy => ?_) fun env he s1 x => ?_
  · rcases S.par n (List.of_mem_zip hy).1 with q | q
    · exact .inl q
    · exact .inr ⟨q, PySem.W.cellsFrom_some _ _ _ (.inl q)⟩
  · subst he
    refine ⟨lim.keeps x.toInCall.keep, codeAny_func ?_⟩
    obtain ⟨t, ht, hq⟩ := hbody cdv A outer s H vs Q E hgd (hr.deeper _) hsp
    have I := inv_start (CX := L2.CX P w) (P := P) (w := w) (K := K) (mg := mg) (base := base) (N := N) (qual := qual) (f := f) (cd := cdv) (E := E) S hr.hd e0 hl r x
    refine wpAny_mono (ht.run [] s1 (start N vs) H _ I hq) (fun fl s' hs => ?_) fun e s' hs => hs
    have fin : ∀ {σ' : L2.St} {H' : Hp} {v : V} {u : Value}, Inv (cxOf (L2.CX P w) P w K mg base N qual (defScope st) f cdv A outer s H E) [] σ' H' s' → RelV v u → Q v H' →
        CE outer P w H s Q u s' := fun {σ' H' v u} J rv q => ⟨v, H', J.os, J.bare, J.base, J.hok, rv, q⟩
    cases fl with
    | ret u =>
      obtain ⟨v, σ', H', J, rv, q⟩ := hs
      exact fin J rv q
    | next =>
      obtain ⟨σ', H', J, q⟩ := hs
      exact fin (v := V.non) (u := Value.none) J rfl q
    | brk =>
      obtain ⟨_, _, _, q⟩ := hs
      exact q.elim
    | cont =>
      obtain ⟨_, _, _, q⟩ := hs
      exact q.elim

section
variable {X : Cx} {W : WX} {k : Nat} {f : Addr} {fd : FuncData} {ps ks : List Str} {sp : Sp} {x : Str} {p pos : Pos} {e : Expr} {es : List Expr} {kws : List Keyword} {t tk : TA}
  {g : List Value → List Value → List Value} {gV : List V → List V → List V}
/-- a call's reading: what is raised is wished for at the slots of the caller -/
def tCallG (sp : Sp) (W : WX) (t : TA) : TE := fun σ H Q => t σ H fun vs H1 => sp vs H1 Q fun cls d H' => W cls d σ H'
def tCallGK (sp : Sp) (gV : List V → List V → List V) (W : WX) (t tk : TA) : TE := fun σ H Q => t σ H fun vs H1 => tk σ H1 fun zs H2 => sp (gV vs zs) H2 Q fun cls d H' => W cls d σ H'

theorem run_fnG {pins : List (Addr × Obj)} {σ : L2.St} {H : Hp} {s : Shared} {Q : VK} {args : Args} {us : List Value} {vs : List V} (F : FnG X.prog X.w X.K X.mg X.base k f fd ps sp)
    (hgd : X.A.guards = some []) (hr : Room k X.A) (tk : Takes X W) (I : Inv X pins σ H s) (hb : BindsTo s fd args (ps.zip us)) (r : Vals vs us)
    (h : sp vs H Q fun cls d H' => W cls d σ H') :
    codeAny (model X.prog X.w) X.A (.call (.ref f) args) (fun r s' => match r with | .ok (.ret u) => EP X pins σ Q u s' | .ok _ => False | .error e => X.xe e s') s := by
  refine codeAny_mono (F.run X.A X.stack s H args us vs Q _ hgd hr I.env0 hb r h) fun r s' hq => ?_
  cases r with
  | error e => exact tk e s' (XE.of_call I (fun _ _ _ z => z) hq)
  | ok fl =>
    cases fl with
    | ret u => exact I.after hq
    | next => exact hq.elim
    | brk => exact hq.elim
    | cont => exact hq.elim
theorem call_fnG {pins : List (Addr × Obj)} {σ : L2.St} {H : Hp} {s : Shared} {Q : VK} {us ks' : List Value} {kn : List Str} {ws : List Value} {vs : List V} (F : FnG X.prog X.w X.K X.mg X.base k f fd ps sp)
    (hgd : X.A.guards = some []) (hr : Room k X.A) (tk : Takes X W) (I : Inv X pins σ H s) (hb : BindsTo s fd ⟨us, kn.zip ws⟩ (ps.zip ks')) (r : Vals vs ks')
    (h : sp vs H Q fun cls d H' => W cls d σ H') : wpAny (model X.prog X.w) X.A (call (.ref f) us (kn.zip ws)) (EP X pins σ Q) X.xe s := by
  refine wpAny_call (codeAny_mono (run_fnG F hgd hr tk I hb r h) fun r s' hq => ?_)
  cases r with
  | error e => exact hq
  | ok fl =>
    cases fl with
    | ret u => exact hq
    | next => exact hq.elim
    | brk => exact hq.elim
    | cont => exact hq.elim
/-- f(e, ..) -/
theorem pe_callG (F : FnG X.prog X.w X.K X.mg X.base k f fd ps sp) (hgd : X.A.guards = some []) (hr : Room k X.A) (tk : Takes X W) (hg : Gl X x) (hm : X.mg x = some (.ref f)) (hk : PySem.W.keepIn X.K (.ref f) = true)
    (hb : Binds X.K fd ps []) (ha : PA X (e :: es) t) (hdb : (x == ("__debug__" : Str)) = false := by decide) (he : starEach (e :: es) X.env = (false, eval e X.env) :: starEach es X.env := by rfl)
    (hpl : (backTo pos (starEach es X.env)).any (·.1) = false := by rfl) : PE X (.Call (.Name x p) (e :: es) [] pos) (tCallG sp W t) := by
  refine ⟨fun pins s σ H Q I h => ?_⟩
  refine wpAny_Call_Name_kw (ld_glob I hg hm ?_ hdb)
  refine PySem.W.callWith_K (h₀ := X.base) I.ok.mod.kin hk (thn (ha.run pos pins s σ H _ I h) fun us s1 ⟨vs, H1, I1, r, q⟩ => ⟨I1.kIn, ?_⟩) he hpl
  have hl : (us ++ ([] : List Value)).length = ps.length := by rw [List.append_nil, ← r.length]; exact F.len _ _ _ _ q
  have b := hb s1 us I1.kIn hl
  rw [List.append_nil] at b
  exact call_fnG (kn := []) (ws := []) F hgd hr tk I1 b r q
/-- f() -/
theorem pe_callG0 (F : FnG X.prog X.w X.K X.mg X.base k f fd ps sp) (hgd : X.A.guards = some []) (hr : Room k X.A) (tk : Takes X W) (hg : Gl X x) (hm : X.mg x = some (.ref f)) (hk : PySem.W.keepIn X.K (.ref f) = true)
    (hb : Binds X.K fd ps []) (hdb : (x == ("__debug__" : Str)) = false := by decide) : PE X (.Call (.Name x p) [] [] pos) (tCallG sp W tNil) := by
  refine ⟨fun pins s σ H Q I h => ?_⟩
  refine wpAny_Call_Name_kw (ld_glob I hg hm ?_ hdb)
  have hl : ([] ++ ([] : List Value)).length = ps.length := F.len _ _ _ _ h
  exact PySem.W.callWith_K0 I.kIn hk (call_fnG (us := []) (kn := []) (ws := []) F hgd hr tk I (hb s [] I.kIn hl) .nil h)
/-- f(e, .., k = v, ..) -/
theorem pe_callGK (F : FnG X.prog X.w X.K X.mg X.base k f fd ps sp) (hgd : X.A.guards = some []) (hr : Room k X.A) (tk' : Takes X W) (hg : Gl X x) (hm : X.mg x = some (.ref f)) (hk : PySem.W.keepIn X.K (.ref f) = true)
    (hb : KBinds X.K fd ps ks g gV) (ha : PA X (e :: es) t) (hkw : PK X kws tk) (hall : (backToKw pos (keywordEach kws X.env)).all (·.1.isSome) = true := by rfl)
    (hks : (backToKw pos (keywordEach kws X.env)).filterMap (·.1) = ks := by rfl) (hdb : (x == ("__debug__" : Str)) = false := by decide)
    (he : starEach (e :: es) X.env = (false, eval e X.env) :: starEach es X.env := by rfl)
    (hpl : ((backTo pos (starEach (e :: es) X.env)).any (·.1) || (backToKw pos (keywordEach kws X.env)).any (·.1.isNone)) = false := by rfl) :
    PE X (.Call (.Name x p) (e :: es) kws pos) (tCallGK sp gV W t tk) := by
  refine ⟨fun pins s σ H Q I h => ?_⟩
  refine wpAny_Call_Name_kw (ld_glob I hg hm ?_ hdb)
  refine PySem.W.callWith_KW (h₀ := X.base) I.ok.mod.kin hk hall (thn (ha.run pos pins s σ H _ I h) fun us s1 ⟨vs, H1, I1, r, q⟩ => ?_) hpl he
  refine thn (hkw.run pos pins s1 σ H1 _ I1 q) fun ws s2 ⟨zs, H2, I2, rz, q2⟩ => ⟨I2.kIn, ?_⟩
  rw [hks]
  have r2 := hb.rel r rz
  have hl : (g us ws).length = ps.length := by rw [← r2.length]; exact F.len _ _ _ _ q2
  exact call_fnG F hgd hr tk' I2 (hb.to s2 us ws I2.kIn hl) r2 q2
/-- f(k = v, ..) -/
theorem pe_callGK0 (F : FnG X.prog X.w X.K X.mg X.base k f fd ps sp) (hgd : X.A.guards = some []) (hr : Room k X.A) (tk' : Takes X W) (hg : Gl X x) (hm : X.mg x = some (.ref f)) (hk : PySem.W.keepIn X.K (.ref f) = true)
    (hb : KBinds X.K fd ps ks g gV) (hkw : PK X kws tk) (hall : (backToKw pos (keywordEach kws X.env)).all (·.1.isSome) = true := by rfl)
    (hks : (backToKw pos (keywordEach kws X.env)).filterMap (·.1) = ks := by rfl) (hdb : (x == ("__debug__" : Str)) = false := by decide)
    (hpl : (backToKw pos (keywordEach kws X.env)).any (·.1.isNone) = false := by rfl) :
    PE X (.Call (.Name x p) [] kws pos) (tCallGK sp gV W tNil tk) := by
  refine ⟨fun pins s σ H Q I h => ?_⟩
  refine wpAny_Call_Name_kw (ld_glob I hg hm ?_ hdb)
  refine PySem.W.callWith_KW0 (h₀ := X.base) I.ok.mod.kin hk hall (thn (hkw.run pos pins s σ H _ I h) fun ws s2 ⟨zs, H2, I2, rz, q2⟩ => ⟨I2.kIn, ?_⟩) hpl
  rw [hks]
  have r2 := hb.rel (vs := []) (us := []) .nil rz
  have hl : (g [] ws).length = ps.length := by rw [← r2.length]; exact F.len _ _ _ _ q2
  exact call_fnG F hgd hr tk' I2 (hb.to s2 [] ws I2.kIn hl) r2 q2
end
end Wb
/-! Wb1: the errors of the package: class WebsError(ValueError), its __init__ by super(), the classes under it: made, raised. -/
namespace Wb
open PySem PySem.Spec PyProof.Rows L2
open PySem.W (Looks InstAt)

/-! ### the text of __init__ -/
def iA (p1 p2 : Pos) : Arguments := { posonlyargs := [], args := [{ arg := "self", annotation := none, pos := p1 }, { arg := "value", annotation := none, pos := p2 }], vararg := none, kwonlyargs := [], kw_defaults := [], kwarg := none, defaults := [] }
def iB (q0 q1 q2 q3 q4 q5 q6 q7 q8 q9 : Pos) : List Stmt :=
  [.Expr (.Call (.Attribute (.Call (.Name "super" q0) [] [] q1) "__init__" q2) [.Constant (.str "spacewebs") 0 q3] [] q4) q5,
   .Assign [.Attribute (.Name "self" q6) "value" q7] (.Name "value" q8) q9]
def iS : Scope := { kind := .function, names := [(PySem.Str.ofString "self", .local), (PySem.Str.ofString "value", .local), (PySem.Str.ofString "__class__", .free), (PySem.Str.ofString "super", .globalImplicit)], isGenerator := false, isCoroutine := false, more := [] }

/-- WebsError at D, its __init__ at fI -/
structure ErrBase (P : Program) (K : Frag) (mg : Str → Option Value) (D fI : Addr) : Prop where
  fn : ∃ (oc : Value) (od : Option Addr) (doc pm : Value) (an : Option Addr) (ct kV : Value) (osl : Array (Option Value)) (p1 p2 q0 q1 q2 q3 q4 q5 q6 q7 q8 q9 : Pos) (cda cc : Addr)
      (ccl : Value) (cdd : Option Addr) (vs : Array Value) (ccs : Array (Option Value)) (file : Str) (tf : Tok) (cl : Value) (cld : Option Addr) (csl : Array (Option Value)),
    K.lookup fI = some ⟨oc, od, .func (PySem.W.ksFn "__init__" "WebsError.__init__" (iA p1 p2) (iB q0 q1 q2 q3 q4 q5 q6 q7 q8 q9) iS .none kV doc pm an (.ref cda) ct cc), osl⟩ ∧
    PySem.W.codeIn K (.ref cda) "WebsError.__init__" = true ∧ K.lookup cda = some ⟨ccl, cdd, .fields vs, ccs⟩ ∧ vs[2]? = some (.str file tf) ∧ ((P.main.file : Str) == file) = true ∧
    K.lookup cc = some ⟨cl, cld, .cell (some (.ref D)), csl⟩ ∧ (q2.endLine == q4.line) = true
  clD : (PySem.W.clsIn K D).isSome = true
  sup : PySem.W.nsIn K mainGlobals "super" = some none
  supg : mg "super" = none
  top : (P.main.scope.names.lookup ("super" : Str)).isSome = false
  any : PySem.W.nsIn K PySem.cStatics "thirdparty.any" = some none
  tI : PySem.W.typeIn K (.ref fI) = some (.type "function")
/-- a class of the package's errors, at C -/
structure ErrCls (K : Frag) (D fI C : Addr) : Prop where
  cls : ∃ nm q N bs bm sn sub ab col dd k0 k1 k2 k3 k5, K.lookup C = some (excClassObj nm q C N bs bm true sn sub ab col dd k0 k1 k2 k3 k5 "ValueError.__new__") ∧ PySem.HandSPX.refsVE bm = true
  sa : PySem.W.findIn K (.ref C) "__setattr__" = some (some (.builtin "object.__setattr__"))
  ga : PySem.W.findIn K (.ref C) "__getattribute__" = some (some (.builtin "BaseException.__getattribute__"))
  gg : PySem.W.findIn K (.ref C) "__getattr__" = some none
  noN : PySem.W.findIn K (.ref C) "value" = some none
  iC : PySem.W.findIn K (.ref C) "__init__" = some (some (.ref fI))
  kC : PySem.W.keepIn K (.ref C) = true
  exC : PySem.W.subIn K (.ref C) (.type "BaseException") = some true
  veC : PySem.W.subIn K (.ref C) (.type "ValueError") = some true
  tyC : PySem.W.typeIn K (.ref C) = some (.type "type")
  hdC : PySem.W.hasDictIn K C = true
  mroD : PySem.W.mroIn K C (.ref D) = some true
  sup : PySem.W.ks_superIn K C D "__init__" = some (some (.builtin "ValueError.__init__"))

theorem len1 (v : Value) : [v].length ≤ sizeLine := by
  rw [sizeLine_eq]
  exact (by decide : 1 ≤ 16777216)
abbrev exR (C t : Addr) (dv : Option Addr) : Obj := PySem.W.excRec (.ref C) t dv .none .none (.bool false)
/-- what __init__ leaves of a fresh exception at x -/
structure InitEnd (h h' : Heap) (x C dx t1 : Addr) (v : Value) : Prop where
  keep : ∀ b o, b ≠ x → h.get? b = some o → h'.get? b = some o
  obj : h'.get? x = some (exR C t1 (some dx))
  dbig : h.objs.size ≤ dx
  dne : dx ≠ x
  ns : h'.Ns1 dx (fun y => if y = "value" then some v else none)
/-- a made error -/
structure ErrMade (h h' : Heap) (e C d : Addr) (v : Value) : Prop where
  keep : ∀ b o, h.get? b = some o → h'.get? b = some o
  new : h.objs.size ≤ e
  obj : ∃ oe vs, h'.get? e = some oe ∧ oe.cls = .ref C ∧ oe.dict = some d ∧ oe.data = .fields vs ∧ vs[1]? = some .none
  dbig : h.objs.size ≤ d
  dne : d ≠ e
  ns : h'.Ns1 d (fun y => if y = "value" then some v else none)

section
variable {prog : Program} {w : World} {A : Around} {E : Value → Shared → Prop} {h : Heap} {g : Array GenState} {d : Drawn} {t : Nat} {os : OsState} {K : Frag} {mg : Str → Option Value} {C D fI : Addr}
/-- the wrapper that super().__init__ gives, called -/
theorem call_mw {nm q : Str} {N : Addr} {bs bm : List Value} {sn : List Str} {sub : List Value} {ab : Bool} {col : Option Bool} {dd : Option Addr} {k0 k1 k2 k3 k5 : Option Value} {u e t0 : Addr} {rest : List Value} {Q : Value → Shared → Prop}
    (hC : h.get? C = some (excClassObj nm q C N bs bm true sn sub ab col dd k0 k1 k2 k3 k5 "ValueError.__new__")) (he : h.get? e = some (exR C t0 none)) (hu : h.get? u = some (PySem.W.kxs_mw "ValueError.__init__" e))
    (hrest : rest.length ≤ sizeLine) (hq : ∀ h' t1, (∀ b o, b ≠ e → h.get? b = some o → h'.get? b = some o) → h'.get? e = some (exR C t1 none) → Q .none ⟨h', g, d, t, os⟩) :
    wpAny (model prog w) A (call (.ref u) rest) Q E ⟨h, g, d, t, os⟩ := by
  refine wpAny_call (codeAny_of_tree ?_)
  show wpAny _ A.in1 (callAny (.ref u) _) _ _ _
  simp only [callAny]
  refine wpAny_bind (wpAny_load hu ?_)
  have hm : (Value.type "method-wrapper" == Value.type "method" || Value.type "method-wrapper" == Value.type "builtin_function_or_method" || Value.type "method-wrapper" == Value.type "method-wrapper") = true := by decide
  simp only [PySem.W.kxs_mw, hm, if_true]
  refine PySem.W.KFB.if_so (by decide) (wpAny_bind (PySem.ESX.check_bound F.excBase_ValueError hC he rfl (wpAny_bind (wpAny_pure (wpAny_pure ?_)))))
  refine ⟨plainId_quiet F.excBase_ValueError.init.plain _, codeAny_builtin F.excBase_ValueError.initEntry ?_⟩
  exact PySem.W.exc_init_tree he hrest fun h' k e' _ => hq h' _ k e'

theorem super_call_eq {q0 q1 q2 q3 q4 : Pos} {env : Env} (hl : (q2.endLine == q4.line) = true) :
    eval (.Call (.Attribute (.Call (.Name "super" q0) [] [] q1) "__init__" q2) [.Constant (.str "spacewebs") 0 q3] [] q4) env = (do
      let ov ← attributeBase (.Call (.Name "super" q0) [] [] q1) "__init__" env (eval (.Call (.Name "super" q0) [] [] q1) env)
      standAt q2.atName
      let (f, first) ← holding [ov] (getMethod ov "__init__" (do return (← importBound (.Call (.Name "super" q0) [] [] q1) env).getD true))
      callWith q4 f first (backTo q4 (starEach [.Constant (.str "spacewebs") 0 q3] env)) []) := by
  show (do
      let ov ← attributeBase (.Call (.Name "super" q0) [] [] q1) "__init__" env (eval (.Call (.Name "super" q0) [] [] q1) env)
      standAt q2.atName
      methodCall (.Call (.Name "super" q0) [] [] q1) "__init__" q2 q4 env ov 1 (backTo q4 (starEach [.Constant (.str "spacewebs") 0 q3] env)) []) = _
  unfold methodCall methodCallPos
  rw [hl, Bool.or_true, if_pos rfl]
  rfl

theorem init_run {s : Shared} {R : Result → Shared → Prop} {mb : Str → Option Value} (B : ErrBase prog K mg D fI) (T : ErrCls K D fI C) {x t0 : Addr} {v : Value} (X : K.In s.heap) (hlim : s.heap.NoLimit)
    (hG : s.heap.Ns mainGlobals mg) (hb : s.heap.Ns builtinsNs mb) (hbb : ∀ x : Str, x ≠ "__name__" → mb x = bootBuiltins x)
    (hx : s.heap.get? x = some (exR C t0 none)) (hnx : K.lookup x = none) (hng : x ≠ mainGlobals) (hroom : A.depth < recursionLimit)
    (hq : ∀ h' tk dx t1, InitEnd s.heap h' x C dx t1 v → R (.ok (.ret .none)) { s with heap := h', toks := tk }) :
    codeAny (model prog w) A (.call (.ref fI) ⟨[.ref x, v], []⟩) R s := by
  obtain ⟨oc, od, doc, pm, an, ct, kV, osl, p1, p2, q0, q1, q2, q3, q4, q5, q6, q7, q8, q9, cda, cc, ccl, cdd, vs, ccs, file, tf, cl, cld, csl, lk, hcd, lcode, hvs, hfile, lcell, hline⟩ := B.fn
  obtain ⟨nm, q, N, bs, bm, sn, sub, ab, col, dd, k0, k1, k2, k3, k5, hC, hbm⟩ := T.cls
  have hcl : PySem.W.clsIn K C = some { name := nm, bases := bs, mro := .ref C :: bm, ns := N, qualname := q, hasDict := true, slotNames := sn, subclasses := sub, abstract := ab, collection := col, hasDel := false } := by
    unfold PySem.W.clsIn; rw [hC] <;> rfl
  obtain ⟨hp, g, d, t, os⟩ := s
  have hG : hp.Ns mainGlobals mg := hG
  have hb : hp.Ns builtinsNs mb := hb
  have hx : hp.get? x = some (exR C t0 none) := hx
  have X : K.In hp := X
  refine PySem.ks_codeAny_call_defAt (fd := PySem.W.ksFn "__init__" "WebsError.__init__" (iA p1 p2) (iB q0 q1 q2 q3 q4 q5 q6 q7 q8 q9) iS .none kV doc pm an (.ref cda) ct cc)
    (binds := [("self", .ref x), ("value", v)]) hroom (X _ _ lk) rfl hlim (PySem.W.codeRec_of X hcd) rfl (BindsTo.of_eq (by first | rfl | with_unfolding_all rfl)) ?hcell ?hloc (fun h₁ hn k => ?_)
  case hcell =>
    show ∀ x ∈ iS.names, x.2 ≠ .cell
    decide +kernel
  case hloc =>
    intro y hy
    show iS.names.lookup y.1 = some .local
    rcases List.mem_cons.mp hy with rfl | hy
    · exact (by decide +kernel : iS.names.lookup ("self" : Str) = some .local)
    · rcases List.mem_cons.mp hy with rfl | hy
      · exact (by decide +kernel : iS.names.lookup ("value" : Str) = some .local)
      · cases hy
  have k : ∀ b o, hp.get? b = some o → h₁.get? b = some o := k
  have X₁ : K.In h₁ := X.keeps k
  have hx₁ := k _ _ hx
  have hC₁ := X₁ _ _ hC
  obtain ⟨cdD, hD⟩ := Option.isSome_iff_exists.mp B.clD
  obtain ⟨oD, hoD, hoDd⟩ : ∃ oD, h₁.get? D = some oD ∧ oD.data = .cls cdD := by
    unfold PySem.W.clsIn at hD
    split at hD
    · rename_i c d' cd' sl ho
      cases hD
      exact ⟨_, X₁ _ _ ho, rfl⟩
    · cases hD
  have I₁ : InstAt h₁ x (exR C t0 none) C none := ⟨hx₁, rfl, rfl, trivial⟩
  have hn : h₁.Ns hp.objs.size (fun y => [(("value" : Str), v), (("self" : Str), Value.ref x)].lookup y) := hn
  obtain ⟨env, henv⟩ : ∃ env : Env, env = PySem.W.ksEnv "WebsError.__init__" iS hp.objs.size fI (.ref cda) cc := ⟨_, rfl⟩
  have eL : env.locals = hp.objs.size := by rw [henv]
  have eks : env.kindOf "super" = some .globalImplicit := by rw [henv]; exact (by decide +kernel : iS.names.lookup ("super" : Str) = some .globalImplicit)
  have ekc : env.kindOf "__class__" = some .free := by rw [henv]; exact (by decide +kernel : iS.names.lookup ("__class__" : Str) = some .free)
  have ekf : env.kindOf "self" = some .local := by rw [henv]; exact (by decide +kernel : iS.names.lookup ("self" : Str) = some .local)
  have ekv : env.kindOf "value" = some .local := by rw [henv]; exact (by decide +kernel : iS.names.lookup ("value" : Str) = some .local)
  have efn : env.scope.kind = .function := by rw [henv]; rfl
  have eg : env.globals = mainGlobals := by rw [henv]
  have eb : env.builtins = builtinsNs := by rw [henv]
  have ec : env.cells.lookup ("__class__" : Str) = some cc := by rw [henv]; simp [List.lookup]
  show PySem.wpAt (model prog w) (A.deeper (PySem.W.ksEnv "WebsError.__init__" iS hp.objs.size fI (.ref cda) cc)) (.func (iB q0 q1 q2 q3 q4 q5 q6 q7 q8 q9) (PySem.W.ksEnv "WebsError.__init__" iS hp.objs.size fI (.ref cda) cc))
    (execs (_ :: _) (PySem.W.ksEnv "WebsError.__init__" iS hp.objs.size fI (.ref cda) cc)) _ (fun e s' => wpAny (model prog w) (A.deeper (PySem.W.ksEnv "WebsError.__init__" iS hp.objs.size fI (.ref cda) cc)) (leaving (PySem.W.ksEnv "WebsError.__init__" iS hp.objs.size fI (.ref cda) cc) e) _ _ _)
    ⟨h₁, g, d, _, os⟩
  have ef : env.func = some fI := by rw [henv]
  have eco : env.code = .ref cda := by rw [henv]
  rw [← henv]
  -- super().__init__('spacewebs')
  refine PySem.ks_wpAt_execs_cons (PySem.ks_wpAt_Expr_any (PySem.ks_wpAt_MethodCall ?_ (super_call_eq hline)) ?_ ?_)
  case refine_2 => simp [interactive, efn]
  case refine_3 => first | rfl | with_unfolding_all rfl
  refine PySem.ks_wpAt_super_base eks ekc (by decide) ef (X₁ _ _ lk) rfl rfl eco (X₁ _ _ lcode) rfl hvs hfile B.top ?_
  refine PySem.W.ks_loadName_global efn eks (Calls.loadGlobal_builtin (by rw [eg]; exact hG.keeps k) B.supg (by rw [eb]; exact hb.keeps k) ((hbb _ (by decide +kernel)).trans (by decide +kernel : bootBuiltins "super" = some (.type "super"))) ⟨rfl, ?_⟩)
  refine wpAny_loadName_free efn ekc ec ⟨_, X₁ _ _ lcell, rfl⟩ ?_
  refine wpAny_loadName_local efn ekf (by rw [eL]; exact hn) (show List.lookup ("self" : Str) [(("value" : Str), v), (("self" : Str), Value.ref x)] = some (Value.ref x) by first | rfl | decide +kernel) ?_
  refine PySem.ks_wpAny_isType_cls hoD hoDd ⟨rfl, ?_⟩
  refine PySem.ks_wpAny_call_super hoD hoDd hx₁ rfl (fun c e => by cases e) (PySem.W.looks_mroIn X₁ T.mroD) (fun h2 so2 kk2 => ?_)
  have X2 := X₁.keeps kk2
  have hsup : PySem.W.alongIn K "__init__" (((Value.ref C :: bm).dropWhile (· != .ref D)).drop 1) = some (some (.builtin "ValueError.__init__")) := by
    have z := T.sup
    unfold PySem.W.ks_superIn at z
    rw [hcl] at z
    exact z
  have hI2 : Looks (model prog w) h2 (isInstance (.ref x) (.type "ValueError")) true := (show InstAt h2 x (exR C t0 none) C none from ⟨kk2 _ _ hx₁, rfl, rfl, trivial⟩).type.andThen (PySem.W.looks_subIn X2 T.veC)
  refine PySem.W.kxs_getMethod PySem.W.kxs_ValueError so2 (PySem.W.looks_opaque X2 B.any) (fun A Q E s k q => wpAny_bind ((PySem.W.looks_clsIn X2 hcl) A _ E s k (wpAny_pure q))) rfl X2 hsup hI2 (PySem.W.ks_ne X₁ I₁ hcl) (by decide) ?_
  have hmw : (h2.push (PySem.W.kxs_mw "ValueError.__init__" x)).get? h2.objs.size = some (PySem.W.kxs_mw "ValueError.__init__" x) := Heap.get?_push_at rfl rfl
  have k3' : ∀ b o, h2.get? b = some o → (h2.push (PySem.W.kxs_mw "ValueError.__init__" x)).get? b = some o := fun b o e => Heap.get?_push_of_some _ e
  refine PySem.W.kxs_callWith (i := "ValueError.__init__") (x := x) (by first | rfl | decide) (Calls.evalArgs_plain (Calls.spliced_cons (Calls.Constant_str (k := 0) (pos := q3) (Calls.spliced_nil ⟨hmw, ?_⟩))))
  refine call_mw (X2.keeps k3' _ _ hC) (k3' _ _ (kk2 _ _ hx₁)) hmw (len1 _) (fun h4 t1 k4 e4 => ?_)
  have kk4 : ∀ b o, b ≠ x → h₁.get? b = some o → h4.get? b = some o := fun b o hb e => k4 b o hb (k3' _ _ (kk2 _ _ e))
  have hxL : hp.objs.size ≠ x := Nat.ne_of_gt (Heap.lt_size hx)
  have neK : ∀ b o, K.lookup b = some o → b ≠ x := fun b o e z => by rw [z, hnx] at e; cases e
  have X4 : K.In h4 := fun b o e => kk4 b o (neK b o e) (X₁ b o e)
  have hn4 : h4.Ns hp.objs.size (fun y => [(("value" : Str), v), (("self" : Str), Value.ref x)].lookup y) := by
    obtain ⟨oL, es, ep, hL, r⟩ := hn
    exact ⟨oL, es, ep, kk4 _ _ hxL hL, r⟩
  -- self.value = value
  refine PySem.ks_wpAt_execs_cons (wpAt_of_wpAny (plainObj_wpAny_Assign_Attribute ?_ ?_))
  case refine_2 => first | rfl | with_unfolding_all rfl
  refine wpAny_Name (wpAny_loadName_local efn ekv (by rw [eL]; exact hn4) (show _ = some v by simp [List.lookup]) ?_) (by decide)
  refine wpAny_Name (wpAny_loadName_local efn ekf (by rw [eL]; exact hn4) (show List.lookup ("self" : Str) [(("value" : Str), v), (("self" : Str), Value.ref x)] = some (Value.ref x) by first | rfl | decide +kernel) ?_) (by decide)
  refine PySem.W.set_plain X4 (ox := exR C t1 none) (od := none) ⟨e4, rfl, rfl, trivial⟩ T.sa ?_
  refine PySem.HandSPX.exc_osa X4 e4 hcl (show PySem.HandSPX.refsVE (.ref C :: bm) = true from hbm) rfl T.noN (fun h5 tk5 dx k5 dn dne hx5 hn5 => ?_)
  refine wpAt_of_wpAny (wpAny_execs_nil ?_)
  refine hq h5 tk5 dx t1 ⟨fun b o hb e => k5 b o hb (kk4 b o hb (k b o e)), hx5, ?_, dne, hn5⟩
  have z1 : hp.objs.size < h₁.objs.size := hn.lt
  obtain ⟨oL, es, ep, hL, r⟩ := hn4
  exact Nat.le_trans (Nat.le_of_lt (Heap.lt_size hL)) dn

theorem err_made {s : Shared} {R : Result → Shared → Prop} {mb : Str → Option Value} (B : ErrBase prog K mg D fI) (T : ErrCls K D fI C) {v : Value} (X : K.In s.heap) (hlim : s.heap.NoLimit)
    (hG : s.heap.Ns mainGlobals mg) (hb : s.heap.Ns builtinsNs mb) (hbb : ∀ x : Str, x ≠ "__name__" → mb x = bootBuiltins x) (hroom : A.depth + 1 < recursionLimit)
    (hq : ∀ h' tk e d, ErrMade s.heap h' e C d v → R (.ok (.ret (.ref e))) { s with heap := h', toks := tk }) : codeAny (model prog w) A (.call (.ref C) ⟨[v], []⟩) R s := by
  obtain ⟨nm, q, N, bs, bm, sn, sub, ab, col, dd, k0, k1, k2, k3, k5, hC, hbm⟩ := T.cls
  obtain ⟨hp, g, dr, tk, os⟩ := s
  have hG : hp.Ns mainGlobals mg := hG
  have k : ∀ b o, hp.get? b = some o → ((hp.push (PySem.W.kdv_tup [v])).push (PySem.HandSPX.excO C hp.objs.size)).get? b = some o := fun b o e => Heap.get?_push_of_some _ (Heap.get?_push_of_some _ e)
  have hat : ((hp.push (PySem.W.kdv_tup [v])).push (PySem.HandSPX.excO C hp.objs.size)).get? (hp.objs.size + 1) = some (exR C hp.objs.size none) := by heap_get
  have hnx : K.lookup (hp.objs.size + 1) = none := by
    cases e : K.lookup (hp.objs.size + 1) with
    | none => rfl
    | some o => exact absurd (Nat.lt_of_succ_lt (Heap.lt_size (show hp.get? (hp.objs.size + 1) = some o from X _ _ e))) (Nat.lt_irrefl _)
  have hng : hp.objs.size + 1 ≠ mainGlobals := fun z => by
    obtain ⟨o, _, _, e, _⟩ := hG
    rw [← z] at e
    exact absurd (Nat.lt_of_succ_lt (Heap.lt_size e)) (Nat.lt_irrefl _)
  have nsK : ∀ {b : Addr} {m : Str → Option Value}, hp.Ns b m → ((hp.push (PySem.W.kdv_tup [v])).push (PySem.HandSPX.excO C hp.objs.size)).Ns b m := fun {b m} z => z.keeps k
  refine PySem.HandSPX.call_own F.excBase_ValueError (fun Y => PySem.HandSPX.refsVE_contains Y bm hbm) (X _ _ hC) (PySem.W.looks_findIn X T.iC) (fun self => PySem.W.bind_fn X self B.tI) (len1 v) ?_
  refine init_run (s := ⟨(hp.push (PySem.W.kdv_tup [v])).push (PySem.HandSPX.excO C hp.objs.size), g, dr, tk, os⟩) B T (X.keeps k) (hlim.keeps k) (nsK hG) (nsK hb) hbb hat hnx hng ?_ fun h' tk' dx t1 z => ?_
  · exact hroom
  · have old : ∀ b o, hp.get? b = some o → h'.get? b = some o := fun b o e => z.keep b o (Nat.ne_of_lt (Nat.lt_succ_of_lt (Heap.lt_size e))) (k b o e)
    have z2 : hp.objs.size + 1 + 1 ≤ dx := by
      have y := z.dbig
      first
        | (simpa only [Heap.size_push] using y)
        | (rw [Heap.size_push, Heap.size_push] at y; exact y)
    refine ⟨rfl, hq h' tk' (hp.objs.size + 1) dx ⟨old, Nat.le_succ _, ⟨_, _, z.obj, rfl, rfl, rfl, rfl⟩, ?_, z.dne, z.ns⟩⟩
    show hp.objs.size ≤ dx
    omega
end
theorem relO_value {v : V} {u : Value} (r : RelV v u) (f : Str) : RelO (List.lookup f [(("value" : Str), v)]) (if f = "value" then some u else none) := by
  by_cases e : f = "value"
  · subst e
    rw [if_pos rfl]
    have z : List.lookup ("value" : Str) [(("value" : Str), v)] = some v := by simp [List.lookup]
    rw [z]
    exact r
  · have z : List.lookup f [(("value" : Str), v)] = none := by
      have e2 : (f == ("value" : Str)) = false := by simpa using e
      simp [List.lookup, e2]
    rw [if_neg e, z]
    trivial
section
variable {X : Cx} {C D fI : Addr} {W : WX}
/-- C(e) of an error's class -/
def tMkE (C : Addr) (ta : TA) : L2.St → Hp → XK → Prop := fun σ H Q => ta σ H fun vs H1 => ∃ v, vs = [v] ∧ ∀ d, H1 d = none → Q (.ref C) (some d) (upd H1 d (.xd [(("value" : Str), v)]))
theorem pmk_err {x : Str} {a : Expr} {ta : TA} {p pos : Pos} {k : Nat} (B : ErrBase X.prog X.K X.mg D fI) (T : ErrCls X.K D fI C) (hr : Room k X.A) (gC : X.mg x = some (.ref C)) (ha : PA X [a] ta) (hg : Gl X x)
    (hdb : (x == ("__debug__" : Str)) = false := by decide) (he : starEach (a :: []) X.env = (false, eval a X.env) :: starEach [] X.env := by rfl) (hpl : (backTo pos (starEach [] X.env)).any (·.1) = false := by rfl) :
    PMk X (.Call (.Name x p) [a] [] pos) (tMkE C ta) := by
  intro pins s σ H Q I h
  refine wpAny_Call_Name_kw (ld_glob I hg gC ?_ hdb)
  refine PySem.W.callWith_K (h₀ := X.base) I.ok.mod.kin T.kC (thn (ha.run pos pins s σ H _ I h) fun us s1 hh => ?_) he hpl
  obtain ⟨vs, H1, I1, r1, v, rfl, q1⟩ := hh
  refine ⟨I1.kIn, ?_⟩
  cases r1 with
  | @cons _ v' _ us' rv rn =>
    cases rn
    show wpAny _ _ (call (.ref C) [v']) _ _ _
    have hlim := I1.nolimit
    have hdp := hr.dp
    obtain ⟨mb, hmb, hbb⟩ := I1.mod.blt
    have hbk := I1.bk
    obtain ⟨hp, g, dr, tk, os⟩ := s1
    refine wpAny_call (err_made B T I1.kIn hlim (I1.mod.glob.keeps hbk) (hmb.keeps hbk) hbb (by omega) fun h' tk' e d M => ?_)
    show MkP X pins σ Q (.ref e) ⟨h', g, dr, tk', os⟩
    obtain ⟨oe, fv, hoe, hc, hd, hdat, h1⟩ := M.obj
    have hns := M.ns
    obtain ⟨Gr, g1, g2⟩ := restrict h' fun b => decide (b ≠ e)
    have gk : ∀ b, b ≠ e → Gr.get? b = h'.get? b := fun b hb => g1 b (decide_eq_true hb)
    have ge : Gr.get? e = none := g2 e (by simp)
    have old : ∀ b o, hp.get? b = some o → Gr.get? b = some o := fun b o q => (gk b (Nat.ne_of_lt (Nat.lt_of_lt_of_le (Heap.lt_size q) M.new))).trans (M.keep b o q)
    have ob : ObjOk X.prog X.w (upd H1 d (.xd [(("value" : Str), v)])) Gr d (.xd [(("value" : Str), v)]) :=
      ⟨_, hns.at (fun o q => (gk d M.dne).trans q), fun f => relO_value rv f⟩
    have J : Inv X pins σ (upd H1 d (.xd [(("value" : Str), v)])) ⟨Gr, g, dr, tk', os⟩ := I1.laid (t' := tk') old M.dbig ob
    refine ⟨e, oe, fv, ⟨Gr, g, dr, tk', os⟩, _, .ref C, some d, rfl, J, fun b o q => ?_, ge, hoe, ⟨hc, hd⟩, hdat, h1, ?_, rfl, I1.bare, raises_own T.exC T.tyC, q1 d (I1.hok.fresh M.dbig)⟩
    · by_cases hb : b = e
      · have q' : Gr.get? b = some o := q
        rw [hb, ge] at q'
        cases q'
      · exact (gk b hb).symm.trans q
    · rw [upd_ne (Ne.symm M.dne)]
      exact I1.hok.fresh M.new
/-- raise C(e) -/
theorem ps_raiseE {x : Str} {a : Expr} {ta : TA} {p pos pos2 : Pos} {k : Nat} (hc : X.calm = true) (B : ErrBase X.prog X.K X.mg D fI) (T : ErrCls X.K D fI C) (hr : Room k X.A) (tk : Takes X W) (gC : X.mg x = some (.ref C)) (ha : PA X [a] ta) (hg : Gl X x)
    (hdb : (x == ("__debug__" : Str)) = false := by decide) (he : starEach (a :: []) X.env = (false, eval a X.env) :: starEach [] X.env := by rfl) (hpl : (backTo pos (starEach [] X.env)).any (·.1) = false := by rfl) :
    PS X (.Raise (some (.Call (.Name x p) [a] [] pos)) none pos2) (fun _ σ H => tMkE C ta σ H fun cls d H' => W cls d σ H') :=
  ps_raise hc tk (pmk_err B T hr gC ha hg hdb he hpl)
end
end Wb
/-! Wb2: an error that is caught and kept: tracked; isinstance and .value of it; repr of data. -/
namespace Wb
open PySem PySem.Spec PyProof.Rows L2

/-- at a: a caught error of the class at C, its own dict at d -/
def ExcAt (C d a : Addr) : HO := .ext fun h => ∃ (oe : Obj) (vs : Array Value), h.get? a = some oe ∧ oe.cls = .ref C ∧ oe.dict = some d ∧ oe.data = .fields vs
theorem excAt_ok {P : Program} {w : World} {H : Hp} {h : Heap} {C d a : Addr} {oe : Obj} {vs : Array Value} (e : h.get? a = some oe) (hc : oe.cls = .ref C) (hd : oe.dict = some d) (hv : oe.data = .fields vs) : ObjOk P w H h a (ExcAt C d a) :=
  ⟨⟨oe, vs, e, hc, hd, hv⟩, ⟨oe, e⟩, fun h1 h2 ⟨o, ws, e1, q1, q2, q3⟩ st => ⟨o, ws, st _ e1, q1, q2, q3⟩⟩
section
variable {X : Cx} {pins : List (Addr × Obj)} {σ : L2.St} {H : Hp} {s : Shared}
/-- an object of ours that is not tracked as yet is tracked -/
theorem Inv.trackE {C d a : Addr} {oe : Obj} {vs : Array Value} (I : Inv X pins σ H s) (e : s.heap.get? a = some oe) (hc : oe.cls = .ref C) (hd : oe.dict = some d) (hv : oe.data = .fields vs) (na : H a = none) (nL : a ≠ X.env.locals)
    (n0 : X.s_0.heap.get? a = none) (np : ∀ p ∈ X.pn ++ pins, p.1 ≠ a) : Inv X pins σ (upd H a (ExcAt C d a)) s := by
  have ne0 : ∀ b o, X.s_0.heap.get? b = some o → b ≠ a := fun b o q z => by rw [z, n0] at q; cases q
  have neH : ∀ {b : Addr} {u : HO}, H b = some u → b ≠ a := fun {b u} q => ne_of_none q na
  refine ⟨I.ok, I.os, I.bare, ⟨I.base.keep, I.base.slot, fun b o q n hx => ?_, I.base.there, fun b xs q => ?_, fun b o u q => ?_, fun b ps q => ?_⟩, I.loc, I.cell, ?_, fun x c q => ?_, fun p hp => ?_, fun b u q => ?_, I.len⟩
  · rw [upd_ne (ne0 b o q)]
    exact I.base.free b o q n hx
  · have z := I.base.tups b xs q
    rw [upd_ne (neH z)]
    exact z
  · have z := I.base.frzs b o u q
    rw [upd_ne (neH z)]
    exact z
  · obtain ⟨m, z⟩ := I.base.tbls b ps q
    exact ⟨m, by rw [upd_ne (neH z)]; exact z⟩
  · rw [upd_ne (Ne.symm nL)]
    exact I.free
  · have nc : c ≠ a := fun z => by
      obtain ⟨v, o, ho, hcd⟩ := I.cell x c q
      rw [z, e] at ho
      cases ho
      rw [hv] at hcd
      cases hcd
    rw [upd_ne nc]
    exact I.freeC x c q
  · obtain ⟨q1, q2, q3⟩ := I.pin p hp
    exact ⟨q1, by rw [upd_ne (np p hp)]; exact q2, q3⟩
  · by_cases hb : b = a
    · subst hb
      rw [upd_same] at q
      cases q
      exact excAt_ok e hc hd hv
    · rw [upd_ne hb] at q
      exact (I.hok b u q).stay (fun c v _ z => z) (fun c z => by rw [upd_ne (neH z)]; exact z) fun c xs z => by rw [upd_ne (neH z)]; exact z
end

/-- what the clause 'except x as n: y = n' wishes: n in slot i, y in slot j -/
def wKeep (K : Frag) (c : Value) (i j : Nat) (Wout : WX) (D : Ends) : WX := fun cls d σ H =>
  ∃ b, PySem.W.exmOne K cls c = some b ∧
    (b = true → ∃ C dd, cls = .ref C ∧ d = some dd ∧ ∀ a, H a = none → D.nx (((σ.set i (some (.ref a))).set j (some (.ref a))).set i none) (upd H a (ExcAt C dd a))) ∧ (b = false → Wout cls d σ H)
section
variable {X : Cx} {x n y : Str} {c : Value} {i j : Nat} {body : List Stmt} {np pos pos' p1 p2 p3 : Pos} {tb : WX → TS} {Wout : WX}
theorem ps_try_keep (hs : X.stack = X.env :: X.outer) (hf : X.env.frame = some X.env.locals) (hex : X.ex = []) (hN : X.N.Nodup) (hi : X.N[i]? = some n) (hln : X.env.kindOf n = some .local) (hj : X.N[j]? = some y) (hly : X.env.kindOf y = some .local)
    (hij : i ≠ j) (hnd : (n == ("__debug__" : Str)) = false) (hnc : (n == ("__classdict__" : Str)) = false) (hc : Names X x c) (tk : Takes X Wout)
    (hb : ∀ (W : WX) (pn : List (Addr × Obj)) (xe : Value → Shared → Prop), Takes (X.tr pn xe) W → PassesOwn (model X.prog X.w) X.A X.env xe → PSs (X.tr pn xe) body (tb W))
    (hsw : swapsWith (.Name n p2) (some (.Name y p1)) p3.line X.env = pure false := by rfl) :
    PS X (.Try body [.ExceptHandler (some (.Name x np)) (some n) [.Assign [.Name y p1] (.Name n p2) p3] pos'] [] [] pos) (fun D σ H => tb (wKeep X.K c i j Wout D) D σ H) := by
  refine ⟨fun pins s σ H D I h => ?_⟩
  have ok := I.ok
  have hfr : X.A.frames = some (X.env :: X.outer) := by rw [ok.frames, hs]
  refine wpAny_Try_except ?_
  refine wpAny_mono ((hb (wKeep X.K c i j Wout D) (X.pn ++ pins) (fun e s₁ => wpAny (model X.prog X.w) X.A (noteFrame e X.env) (fun _ s₂ => wpAny (model X.prog X.w) X.A (setFlight e none) (fun _ s₃ =>
    wpAny (model X.prog X.w) X.A (handleBy e X.env [.ExceptHandler (some (.Name x np)) (some n) [.Assign [.Name y p1] (.Name n p2) p3] pos']) (SP X pins D) X.xe s₃) X.xe s₂) X.xe s₁) (fun u s' xx => ?_) PassesOwn.looking).run [] s σ H D (I.toTry _) h) (fun f s1 hsp => ?_) (fun e s1 he => he)
  · obtain ⟨a, B, sI, pins', σ', H', cls, d, rfl, J', nb, up, sky, na, os, ag, b, hb1, hyes, hno⟩ := xx
    have J : Inv X pins σ' H' sI := J'.ofTry ok
    have sky' : Sky B (X.env :: X.outer) a (Zc cls d) X.env.locals s'.heap := by rw [← hs]; exact sky
    show wpAny (model X.prog X.w) X.A (noteFrame (.ref a) X.env) _ _ _
    refine Sky.land Zc.steady hfr hf sky' fun h3 fl3 up3 => ?_
    have J3 : Inv X pins σ' H' { s' with heap := h3 } := J.landed nb fl3.1 (up.trans up3) os ag
    obtain ⟨oe3, vs3, he3, hz3, hd3⟩ := fl3.there
    have Ba : B.get? a = none := fl3.2.1
    have nfr : a ∉ frs (X.env :: X.outer) := fun hm => by
      obtain ⟨_, o', e', hnf⟩ := fl3.2.2.1.mem hm
      rw [he3] at e'
      cases e'
      exact hnf _ hd3
    have nL : a ≠ X.env.locals := fun z => nfr (List.mem_filterMap.mpr ⟨X.env, List.mem_cons_self, by rw [hf, z]⟩)
    have nF : a ∉ X.fs := fun hm => by
      obtain ⟨e, he, q⟩ := List.mem_filterMap.mp hm
      exact nfr (List.mem_filterMap.mpr ⟨e, List.mem_cons_of_mem _ he, q⟩)
    have inB : ∀ b o, sI.heap.get? b = some o → b ∉ frs X.stack → b ≠ a := fun b o q nf z => by
      have := nb b o q nf
      rw [z, Ba] at this
      cases this
    have n0 : X.s_0.heap.get? a = none := by
      cases q : X.s_0.heap.get? a with
      | none => rfl
      | some o =>
        obtain ⟨o', q'⟩ := J.base.there a o q (by rw [hex]; exact List.not_mem_nil)
        exact absurd rfl (inB a o' q' (by rw [hs]; exact nfr))
    have np' : ∀ p ∈ X.pn ++ pins, p.1 ≠ a := fun p hp => by
      obtain ⟨q1, q2, q3, q4, q5⟩ := J.pin p hp
      refine inB p.1 p.2 q1 fun hm => ?_
      rcases List.mem_cons.mp (J.stkSub p.1 hm) with z | z
      · exact q3 z
      · exact q4 z
    have S3 := J3.suite he3 hd3 na nL nF
    refine wpAny_handleBy_cons (codeAny_handlers_test ?_) (by intro q; cases q)
    have LT : PySem.W.Looks (model X.prog X.w) h3 (typeOf (.ref a)) cls := fun A Q E s k q => wpAny_typeOf_ref (k _ _ he3) (by rw [hz3.1]; exact q)
    have LM := PySem.W.exm_one (M := model X.prog X.w) (J3.kIn) LT hb1
    have test : ∀ {Q : Value → Shared → Prop} {E : Value → Shared → Prop}, Q c { s' with heap := h3 } → wpAny (model X.prog X.w) (X.A.mark (some (.ref a))) (eval (.Name x np) X.env) Q E { s' with heap := h3 } := fun {Q E} q => by
      obtain ⟨hg, hdbg, hm | ⟨hm, hv, hnn⟩⟩ := hc
      · exact ld_glob (X := X.suite a ((a, oe3) :: (X.pn ++ pins))) S3 hg hm q hdbg
      · exact ld_blt (X := X.suite a ((a, oe3) :: (X.pn ++ pins))) S3 hg hm hv q hnn hdbg
    refine test (LM.here ?_)
    cases b with
    | true =>
      obtain ⟨C, dd, rfl, rfl, hgo⟩ := hyes rfl
      refine codeAny_handlers_suite_as ?_
      refine HandSPX.lands_againZ fl3 fun h4 fl4 up4 => ?_
      have J4 : Inv X pins σ' H' { s' with heap := h4 } := J.landed nb fl4.1 ((up.trans up3).trans up4) os ag
      obtain ⟨oe4, vs4, he4, hz4, hd4⟩ := fl4.there
      have S4 := J4.suite he4 hd4 na nL nF
      refine store_ok (X := X.suite a ((a, oe4) :: (X.pn ++ pins))) (v := .ref a) S4 hN hi (.inl hln) rfl (fun s5 S5 => ?_) (.inr hln)
      have hil : i < σ'.length := by
        have := J.len
        rw [this]
        exact (List.getElem?_eq_some_iff.mp hi).1
      have body5 : PSs (X.suite a ((a, oe4) :: (X.pn ++ pins))) [.Assign [.Name y p1] (.Name n p2) p3] (tAsg (tVar i) (gName j)) :=
        pss_one (ps_set (X := X.suite a ((a, oe4) :: (X.pn ++ pins))) (i := j) hN hj (.inl hly) (pe_var (X := X.suite a ((a, oe4) :: (X.pn ++ pins))) hi (.inl hln) hnd hnc) hsw (.inr hly))
      refine wpAny_mono (body5.run [] s5 _ H' { nx := fun σ6 H6 => σ6 = (σ'.set i (some (.ref a))).set j (some (.ref a)) ∧ H6 = H', rt := fun _ _ => False } S5 ?_) (fun f s6 hsp => ?_) (fun _ _ z => z.elim)
      · refine ⟨.ref a, ?_, rfl, rfl⟩
        rw [List.getElem?_set_self hil]
      cases f with
      | next =>
        obtain ⟨σ6, H6, S6, rfl, rfl⟩ := hsp
        have I6 : Inv X ((a, oe4) :: pins) ((σ'.set i (some (.ref a))).set j (some (.ref a))) H6 s6 :=
          ⟨ok, S6.os, S6.bare, S6.base, S6.loc, S6.cell, S6.free, S6.freeC, fun p hp => S6.pin p (by
            rw [List.append_nil]
            rcases List.mem_append.mp hp with z | z
            · exact List.mem_cons_of_mem _ (List.mem_append_left _ z)
            · rcases List.mem_cons.mp z with z | z
              · rw [z]; exact List.mem_cons_self
              · exact List.mem_cons_of_mem _ (List.mem_append_right _ z)), S6.hok, S6.len⟩
        refine gone_ok I6 hN hi hln fun s7 J7 => ?_
        obtain ⟨e7, n7, _⟩ := J7.pin (a, oe4) (List.mem_append_right _ List.mem_cons_self)
        have J8 : Inv X pins _ H6 s7 := J7.pins_of fun p hp => J7.pin p (List.mem_append_right _ (List.mem_cons_of_mem _ hp))
        exact ⟨_, _, Inv.trackE J8 e7 hz4.1 hz4.2 hd4 n7 nL n0 np', hgo a n7⟩
      | brk =>
        obtain ⟨_, _, _, q⟩ := hsp
        exact False.elim q
      | cont =>
        obtain ⟨_, _, _, q⟩ := hsp
        exact False.elim q
      | ret u =>
        obtain ⟨_, _, _, _, _, q⟩ := hsp
        exact False.elim q
    | false =>
      show wpAny _ X.A (handleBy (.ref a) X.env []) _ _ _
      refine wpAny_handleBy_nil ?_
      obtain ⟨k1, k2, k3, oe, vs, T, oT, ts', he, hz, hd, h1, hr⟩ := id fl3
      unfold PySem.passOn
      refine wpAny_bind (wpAny_field he hd h1 ?_)
      rw [if_neg (show ¬ ((Value.ref T == Value.none) = true) from by simp)]
      have fin : wpAny (model X.prog X.w) X.A (setFlight (.ref a) X.env.frame) (fun _ s4 => wpAny (model X.prog X.w) X.A (throw (.ref a) : Sem Flow) (SP X pins D) X.xe s4) X.xe { s' with heap := h3 } := by
        rw [hf]
        refine HandSPX.setFlight_upZ fl3 fun h4 hh4 up4 => wpAny_throw (tk _ _ ?_)
        exact ⟨a, B, sI, pins, σ', H', cls, d, rfl, J, nb, (up.trans up3).trans up4, .inr (.inr (by rw [hs]; exact hh4)), na, os, ag, hno rfl⟩
      first
        | exact wpAny_bind (wpAny_pure (wpAny_bind fin))
        | exact wpAny_bind fin
  · cases f with
    | next =>
      obtain ⟨σ', H', J', q⟩ := hsp
      exact wpAny_execs_nil ⟨σ', H', J'.ofTry ok, q⟩
    | brk =>
      obtain ⟨σ', H', J', q⟩ := hsp
      exact ⟨σ', H', J'.ofTry ok, q⟩
    | cont =>
      obtain ⟨σ', H', J', q⟩ := hsp
      exact ⟨σ', H', J'.ofTry ok, q⟩
    | ret u =>
      obtain ⟨v, σ', H', J', r, q⟩ := hsp
      exact ⟨v, σ', H', J'.ofTry ok, r, q⟩
end

/-! ### isinstance, .value of a kept error -/
/-- what a class of errors must say for isinstance to ask its instances rightly -/
structure IsC (K : Frag) (C : Addr) : Prop where
  hcl : (PySem.W.clsIn K C).isSome = true
  hg : PySem.W.findIn K (.ref C) "__getattribute__" = some (some (.builtin "BaseException.__getattribute__"))
  hk : PySem.W.findIn K (.ref C) "__getattr__" = some none
  hs : PySem.W.subIn K (.ref C) (.type "BaseException") = some true
  ha : PySem.W.findIn K (.ref C) "__class__" = some (some (.builtin "object.__class__"))
  hn : PySem.W.specialIn K (.builtin "object.__class__") "__get__" = some (some (.builtin "getset_descriptor.__get__"))
  ht : PySem.W.takesIn K (.builtin "object.__class__") = some true
  hm : PySem.W.mroIn K C (.type "object") = some true
section
variable {X : Cx}
/-- isinstance(e, c), e a kept error -/
def rIsK (K : Frag) : List V → Hp → VK → Prop := fun xs H Q => ∃ (a C dd : Addr) (fs : List (Str × V)) (c : V) (cv : Value) (b : Bool), xs = [.ref a, c] ∧ H a = some (ExcAt C dd a) ∧ H dd = some (.xd fs) ∧ IsC K C ∧ (∀ u, RelV c u → u = cv) ∧
  PySem.W.kitOne K (.ref C) cv = some b ∧ Q (.bl b) H
theorem call_isK : CallR X (.builtin "isinstance") (rIsK X.K) := by
  intro pins s σ H xs us Q I r h
  obtain ⟨a, C, dd, fs, c, cv, b, rfl, ha, hdd, T, hcv, e, q⟩ := h
  cases r with
  | cons rx rr =>
    cases rr with
    | cons rt rr =>
      cases rr
      cases rx
      have ec := hcv _ rt
      subst ec
      obtain ⟨⟨oe, vs, e1, e2, e3, e4⟩, _⟩ := I.hok a _ ha
      obtain ⟨mA, hns, _⟩ := (show ObjOk X.prog X.w H s.heap dd (.xd fs) from I.hok dd _ hdd)
      obtain ⟨od, ho, _⟩ := lookIn_ns hns
      have J : PySem.W.InstAt s.heap a oe C (some od) := ⟨e1, e2, by unfold PySem.W.notCls; rw [e4] <;> rfl, by rw [e3]; exact ho⟩
      exact PySem.W.kia_one (PySem.W.kitx_exc T.hcl T.hg T.hk T.hs T.ha T.hn T.ht T.hm) I.kIn J e (fun z => nomatch z) fun tk => ⟨.bl b, H, I.kept (t' := tk) fun _ _ z => z, rfl, q⟩
/-- e.value, e a kept error -/
def tValue (K : Frag) (D fI : Addr) (te : TE) : TE := fun σ H Q => te σ H fun x H1 => ∃ (a C dd : Addr) (v : V), x = .ref a ∧ ErrCls K D fI C ∧ H1 a = some (ExcAt C dd a) ∧ H1 dd = some (.xd [(("value" : Str), v)]) ∧ Q v H1
theorem pe_value {D fI : Addr} {e : Expr} {te : TE} {pos : Pos} (he : PE X e te) (hb : attributeBase e "value" X.env (eval e X.env) = eval e X.env := by rfl) : PE X (.Attribute e "value" pos) (tValue X.K D fI te) := by
  refine ⟨fun pins s σ H Q I h => ?_⟩
  refine attr_of hb (thn (he.run pins s σ H _ I h) fun u s1 hh => ?_)
  obtain ⟨x, H1, I1, rx, a, C, dd, v, rfl, T, ha, hdd, q⟩ := hh
  obtain rfl : u = Value.ref a := rx
  obtain ⟨⟨oe, vs, e1, e2, e3, e4⟩, _⟩ := I1.hok a _ ha
  obtain ⟨mA, hns, hr⟩ := (show ObjOk X.prog X.w H1 s1.heap dd (.xd [(("value" : Str), v)]) from I1.hok dd _ hdd)
  obtain ⟨od, ho, hl⟩ := lookIn_ns hns
  have l : List.lookup ("value" : Str) [(("value" : Str), v)] = some v := by simp [List.lookup]
  obtain ⟨u, hu, ru⟩ := RelO.some_of (v := v) (o := mA "value") (by rw [← l]; exact hr "value")
  have J : PySem.W.InstAt s1.heap a oe C (some od) := ⟨e1, e2, by unfold PySem.W.notCls; rw [e4] <;> rfl, by rw [e3]; exact ho⟩
  exact HandSPX.exc_get I1.kIn J T.ga T.gg T.exC (PySem.W.findObj_own T.hdC T.noN rfl (by rw [hl, hu])) (handed_of ru) ⟨v, H1, I1.tok _, ru, q⟩

/-! ### repr of data -/
/-- what repr takes: the text fits -/
def ROk (d : PyData) : Prop := d.showable = true ∧ d.shown.length ≤ sizeLine ∧ d.depth ≤ 64
def rRepr (K : Frag) : List V → Hp → VK → Prop := fun xs H Q => ∃ (v : V) (d : PyData), xs = [v] ∧ Dp K H v d ∧ ROk d ∧ Q (.str d.shown) H
mutual
theorem noDict_of {K : Frag} {H : Hp} : ∀ {v : V} {d : PyData}, Dp K H v d → d.hasDict = false
  | _, _, .non => by simp only [PyData.hasDict]
  | _, _, .bl _ => by simp only [PyData.hasDict]
  | _, _, .int _ => by simp only [PyData.hasDict]
  | _, _, .str _ => by simp only [PyData.hasDict]
  | _, _, .lst _ h => by simp only [PyData.hasDict]; exact noDictAll_of h
  | _, _, .tup _ h => by simp only [PyData.hasDict]; exact noDictAll_of h
theorem noDictAll_of {K : Frag} {H : Hp} : ∀ {vs : List V} {ds : List PyData}, DpAll K H vs ds → PyData.hasDictAll ds = false
  | _, _, .nil => by simp only [PyData.hasDictAll]
  | _, _, .cons h1 h2 => by simp only [PyData.hasDictAll, noDict_of h1, noDictAll_of h2, Bool.or_self]
end
theorem call_reprD (hgd : X.A.guards = some []) (hu : X.A.units + 66 < cLine) : CallR X (.builtin "repr") (rRepr X.K) := by
  intro pins s σ H xs us Q I r h
  obtain ⟨v, d, rfl, hd, ⟨r1, r2, r3⟩, q⟩ := h
  cases r with
  | @cons _ u _ us' rx rr =>
    cases rr
    obtain ⟨as, hr⟩ := Dp.reads I d v u hd rx
    have nd := noDict_of hd
    cases hd with
    | non =>
      obtain rfl : u = Value.none := rx
      exact PySem.P.repr_of_none ⟨.str _, H, I.tok _, ⟨_, rfl⟩, q⟩
    | bl b =>
      obtain rfl : u = Value.bool b := rx
      exact PySem.P.repr_of_bool ⟨.str _, H, I.tok _, ⟨_, rfl⟩, q⟩
    | int i =>
      obtain ⟨t, rfl⟩ := rx
      have r1' : i.natAbs.log2 < 1920 := by simpa [PyData.showable] using r1
      exact PySem.P.repr_of_int r1' ⟨.str _, H, I.tok _, ⟨_, rfl⟩, q⟩
    | str x =>
      obtain ⟨t, rfl⟩ := rx
      exact PySem.P.repr_of_str ⟨.str _, H, I.tok _, ⟨_, rfl⟩, q⟩ (by simpa [PyData.shown] using r2)
    | lst hs ha =>
      obtain rfl : u = Value.ref _ := rx
      exact repr_of_reads' hr r1 (PyData.noDict_hsm nd) hgd (by omega) (fun _ _ z => z) (fun h' u' tk k => ⟨.str _, H, I.kept (h' := h') (t' := tk) k, ⟨_, rfl⟩, q⟩) r2
    | tup hs ha =>
      obtain rfl : u = Value.ref _ := rx
      exact repr_of_reads' hr r1 (PyData.noDict_hsm nd) hgd (by omega) (fun _ _ z => z) (fun h' u' tk k => ⟨.str _, H, I.kept (h' := h') (t' := tk) k, ⟨_, rfl⟩, q⟩) r2
end
end Wb
/-! Wb3: values as data. A state of a def is told by what its slots hold as data (DV), lists of its own apart; a reading is a wish about data. -/
namespace Wb
open PySem PySem.Spec PyProof.Rows L2

abbrev PD := PyData
/-- a value told as data: plain data, a kept error (its class by number, what it holds), the well -/
inductive DV where
  | d (x : PD) | exc (c : Nat) (x : PD) | well (script : Option (List Int))
/-- the well itself (with a script's ints: the script, a list that nobody may change) -/
abbrev DV.wel : DV := .well none
abbrev DV.scr (ns : List Int) : DV := .well (some ns)
/-- what a slot holds: nothing told, a value, a list of this def's own -/
inductive Sl where
  | no | v (x : DV) | own (xs : List PD)
abbrev EK := Nat → PD → Prop
abbrev DE := List Sl → (DV → Prop) → EK → Prop
abbrev DT := List Sl → (Bool → Prop) → EK → Prop
abbrev DA := List Sl → (List DV → Prop) → EK → Prop
/-- a list of one's own, new -/
abbrev DN := List Sl → (List PD → Prop) → EK → Prop
structure DEnds where
  nx : List Sl → Prop
  rt : List Sl → DV → Prop
  bk : List Sl → Prop
  ct : List Sl → Prop
  ex : List Sl → EK
abbrev DS := DEnds → List Sl → Prop

/-! ### data heaps within heaps -/
structure Post (wl : Option Addr) (S H S' H' : Hp) : Prop where
  sS : Same S S'
  fr : ∀ a, H a ≠ none → S a = none → S' a = none
  kp : ∀ a o, H a = some o → wl ≠ some a → H' a = some o
  al : ∀ a, H a ≠ none → H' a ≠ none
theorem Post.refl {wl : Option Addr} {S H : Hp} : Post wl S H S H := ⟨Same.refl S, fun _ _ h => h, fun _ _ h _ => h, fun _ h => h⟩
theorem Post.trans {wl : Option Addr} {S H S1 H1 S2 H2 : Hp} (p : Post wl S H S1 H1) (q : Post wl S1 H1 S2 H2) : Post wl S H S2 H2 :=
  ⟨p.sS.trans q.sS, fun a h s => q.fr a (p.al a h) (p.fr a h s), fun a o h w => q.kp a o (p.kp a o h w) w, fun a h => q.al a (p.al a h)⟩
theorem Post.wk {wl : Option Addr} {S H S' H' : Hp} (p : Post none S H S' H') : Post wl S H S' H' := ⟨p.sS, p.fr, fun a o h _ => p.kp a o h (by intro z; cases z), p.al⟩
/-- what grows, all else as it was -/
structure Grow (S H S' H' : Hp) : Prop where
  po : Post none S H S' H'
  sm : Same S' H'
theorem Grow.refl {S H : Hp} (h : Same S H) : Grow S H S H := ⟨Post.refl, h⟩
theorem Grow.trans {S H S1 H1 S2 H2 : Hp} (p : Grow S H S1 H1) (q : Grow S1 H1 S2 H2) : Grow S H S2 H2 := ⟨p.po.trans q.po, q.sm⟩
theorem Grow.new {S H : Hp} {p : Addr} {o : HO} (h : Same S H) (hp : H p = none) : Grow S H (upd S p o) (upd H p o) := by
  have sp : S p = none := h.free hp
  refine ⟨⟨fun b u e => ?_, fun a ha sa => ?_, fun a u e _ => ?_, fun a ha => ?_⟩, fun b u e => ?_⟩
  · rw [upd_ne (ne_of_none e sp)]; exact e
  · have : a ≠ p := fun z => ha (z ▸ hp)
    rw [upd_ne this]; exact sa
  · rw [upd_ne (ne_of_none e hp)]; exact e
  · have : a ≠ p := fun z => ha (z ▸ hp)
    rw [upd_ne this]; exact ha
  · by_cases hb : b = p
    · subst hb; rw [upd_same] at e ⊢; exact e
    · rw [upd_ne hb] at e ⊢; exact h b u e
/-- the new object stands beside, not as data -/
theorem Grow.beside {S H : Hp} {p : Addr} {o : HO} (h : Same S H) (hp : H p = none) : Grow S H S (upd H p o) := by
  refine ⟨⟨Same.refl S, fun _ _ s => s, fun a u e _ => ?_, fun a ha => ?_⟩, fun b u e => ?_⟩
  · rw [upd_ne (ne_of_none e hp)]; exact e
  · have : a ≠ p := fun z => ha (z ▸ hp)
    rw [upd_ne this]; exact ha
  · rw [upd_ne (ne_of_none (h b u e) hp)]; exact h b u e

mutual
/-- v stands for the datum, its lists tracked by S -/
inductive Dq (K : Frag) (S : Hp) : V → PD → Prop
  | non : Dq K S .non .none
  | bl (b : Bool) : Dq K S (.bl b) (.bool b)
  | int (i : Int) : Dq K S (.int i) (.int i)
  | str (x : Str) : Dq K S (.str x) (.str x)
  | lst {a : Addr} {xs : List V} {ds : List PD} : S a = some (.lst xs) → DqAll K S xs ds → Dq K S (.ref a) (.list ds)
  | tup {a : Addr} {xs : List V} {ds : List PD} : SqT K S a xs → DqAll K S xs ds → Dq K S (.ref a) (.tuple ds)
inductive DqAll (K : Frag) (S : Hp) : List V → List PD → Prop
  | nil : DqAll K S [] []
  | cons {v : V} {vs : List V} {d : PD} {ds : List PD} : Dq K S v d → DqAll K S vs ds → DqAll K S (v :: vs) (d :: ds)
end
theorem sqT_mono {K : Frag} {S S' : Hp} {a : Addr} {xs : List V} (e : Same S S') (h : SqT K S a xs) : SqT K S' a xs := by
  rcases h with (h | ⟨o, h⟩) | h
  · exact .inl (.inl (e _ _ h))
  · exact .inl (.inr ⟨o, e _ _ h⟩)
  · exact .inr h
mutual
theorem dq_mono {K : Frag} {S S' : Hp} (e : Same S S') : ∀ {v : V} {d : PD}, Dq K S v d → Dq K S' v d
  | _, _, .non => .non
  | _, _, .bl b => .bl b
  | _, _, .int i => .int i
  | _, _, .str x => .str x
  | _, _, .lst h t => .lst (e _ _ h) (dqAll_mono e t)
  | _, _, .tup h t => .tup (sqT_mono e h) (dqAll_mono e t)
theorem dqAll_mono {K : Frag} {S S' : Hp} (e : Same S S') : ∀ {vs : List V} {ds : List PD}, DqAll K S vs ds → DqAll K S' vs ds
  | _, _, .nil => .nil
  | _, _, .cons h t => .cons (dq_mono e h) (dqAll_mono e t)
end
mutual
theorem Dq.dp {K : Frag} {S : Hp} : ∀ {v : V} {d : PD}, Dq K S v d → Dp K S v d
  | _, _, .non => .non
  | _, _, .bl b => .bl b
  | _, _, .int i => .int i
  | _, _, .str x => .str x
  | _, _, .lst h t => .lst (SqL.of h) (DqAll.dp t)
  | _, _, .tup h t => .tup h (DqAll.dp t)
theorem DqAll.dp {K : Frag} {S : Hp} : ∀ {vs : List V} {ds : List PD}, DqAll K S vs ds → DpAll K S vs ds
  | _, _, .nil => .nil
  | _, _, .cons h t => .cons (Dq.dp h) (DqAll.dp t)
end
theorem DqAll.len {K : Frag} {S : Hp} : ∀ {vs : List V} {ds : List PD}, DqAll K S vs ds → vs.length = ds.length
  | _, _, .nil => rfl
  | _, _, .cons _ t => by rw [List.length_cons, List.length_cons, DqAll.len t]
theorem DqAll.app {K : Frag} {S : Hp} : ∀ {vs us : List V} {ds es : List PD}, DqAll K S vs ds → DqAll K S us es → DqAll K S (vs ++ us) (ds ++ es)
  | _, _, _, _, .nil, h => h
  | _, _, _, _, .cons a t, h => .cons a (DqAll.app t h)
theorem DqAll.at {K : Frag} {S : Hp} : ∀ {vs : List V} {ds : List PD} {i : Nat} {d : PD}, DqAll K S vs ds → ds[i]? = some d → ∃ v, vs[i]? = some v ∧ Dq K S v d
  | _, _, 0, _, .cons a _, e => by
    simp at e
    subst e
    exact ⟨_, rfl, a⟩
  | _, _, i + 1, _, .cons _ t, e => by
    obtain ⟨v, h1, h2⟩ := DqAll.at (i := i) t (by simpa using e)
    exact ⟨v, by simpa using h1, h2⟩
  | _, _, _, _, .nil, e => by simp at e
theorem DqAll.atV {K : Frag} {S : Hp} : ∀ {vs : List V} {ds : List PD} {i : Nat} {v : V}, DqAll K S vs ds → vs[i]? = some v → ∃ d, ds[i]? = some d ∧ Dq K S v d
  | _, _, 0, _, .cons a _, e => by
    simp at e
    subst e
    exact ⟨_, rfl, a⟩
  | _, _, i + 1, _, .cons _ t, e => by
    obtain ⟨v, h1, h2⟩ := DqAll.atV (i := i) t (by simpa using e)
    exact ⟨v, by simpa using h1, h2⟩
  | _, _, _, _, .nil, e => by simp at e
theorem DqAll.set {K : Frag} {S : Hp} {v : V} {d : PD} (h : Dq K S v d) : ∀ {vs : List V} {ds : List PD} (i : Nat), DqAll K S vs ds → DqAll K S (vs.set i v) (ds.set i d)
  | _, _, _, .nil => .nil
  | _, _, 0, .cons _ t => .cons h t
  | _, _, i + 1, .cons a t => .cons a (DqAll.set h i t)
theorem DqAll.take {K : Frag} {S : Hp} : ∀ {vs : List V} {ds : List PD} (i : Nat), DqAll K S vs ds → DqAll K S (vs.take i) (ds.take i)
  | _, _, 0, _ => .nil
  | _, _, _ + 1, .nil => .nil
  | _, _, i + 1, .cons a t => .cons a (DqAll.take i t)
theorem DqAll.drop {K : Frag} {S : Hp} : ∀ {vs : List V} {ds : List PD} (i : Nat), DqAll K S vs ds → DqAll K S (vs.drop i) (ds.drop i)
  | _, _, 0, h => h
  | _, _, _ + 1, .nil => .nil
  | _, _, i + 1, .cons _ t => DqAll.drop i t
theorem DqAll.rev {K : Frag} {S : Hp} : ∀ {vs : List V} {ds : List PD}, DqAll K S vs ds → DqAll K S vs.reverse ds.reverse
  | _, _, .nil => .nil
  | _, _, .cons a t => by rw [List.reverse_cons, List.reverse_cons]; exact DqAll.app (DqAll.rev t) (.cons a .nil)
theorem DqAll.repl {K : Frag} {S : Hp} {v : V} {d : PD} (h : Dq K S v d) : ∀ n, DqAll K S (List.replicate n v) (List.replicate n d)
  | 0 => .nil
  | n + 1 => .cons h (DqAll.repl h n)
theorem DqAll.ints {K : Frag} {S : Hp} : ∀ l : List Int, DqAll K S (l.map V.int) (l.map PyData.int)
  | [] => .nil
  | i :: l => .cons (.int i) (DqAll.ints l)
theorem dq_lst {K : Frag} {S : Hp} {p : Addr} {vs : List V} {ds : List PD} (h : S p = some (.lst vs)) (t : DqAll K S vs ds) : Dq K S (.ref p) (.list ds) := .lst h t
theorem dq_tup {K : Frag} {S : Hp} {p : Addr} {vs : List V} {ds : List PD} (h : S p = some (.tup vs)) (t : DqAll K S vs ds) : Dq K S (.ref p) (.tuple ds) := .tup (SqT.of h) t
/-! ### the state -/
/-- the entry of a def: the well (if it has one), the data heap and the heap there; the table of the classes of errors -/
structure En where
  CT : Nat → Addr
  wl : Option Addr
  S0 : Hp
  H0 : Hp
  pa : Addr → Prop := fun _ => True
abbrev En.of (CT : Nat → Addr) (wl : Option Addr) (S0 H0 : Hp) : En := ⟨CT, wl, S0, H0, fun _ => True⟩
def WOk (m : Nat) (a b c : Int) : Prop := 0 ≤ a ∧ 0 ≤ b ∧ 0 ≤ c ∧ a.natAbs < 2 ^ 1200000 ∧ b.natAbs < 2 ^ 200 ∧ c + (m : Int) ≤ 2 ^ 60
structure Wd (wl : Option Addr) (m : Nat) (S H : Hp) : Prop where
  sm : Same S H
  we : ∀ p, wl = some p → S p = none ∧ ∃ a b c, H p = some (.lst [.int a, .int b, .int c]) ∧ WOk m a b c
def DvOk (K : Frag) (n : En) (S : Hp) (v : V) : DV → Prop
  | .d x => Dq K S v x
  | .exc c x => ∃ a dd v', v = .ref a ∧ S a = some (ExcAt (n.CT c) dd a) ∧ S dd = some (.xd [(("value" : Str), v')]) ∧ Dq K S v' x
  | .well none => ∃ p, v = .ref p ∧ n.wl = some p
  | .well (some ns) => ∃ p, v = .ref p ∧ SqL K S p (ns.map V.int)
inductive DvAll (K : Frag) (n : En) (S : Hp) : List V → List DV → Prop
  | nil : DvAll K n S [] []
  | cons {v : V} {vs : List V} {x : DV} {xs : List DV} : DvOk K n S v x → DvAll K n S vs xs → DvAll K n S (v :: vs) (x :: xs)
def ErrOk (K : Frag) (n : En) (S H : Hp) (c : Nat) (x : PD) (cls : Value) (dx : Option Addr) : Prop := ∃ dd v, cls = .ref (n.CT c) ∧ dx = some dd ∧ S dd = some (.xd [(("value" : Str), v)]) ∧ Dq K S v x
theorem dv_mono {K : Frag} {n : En} {S S' : Hp} (e : Same S S') {v : V} : ∀ {x : DV}, DvOk K n S v x → DvOk K n S' v x
  | .d _, h => dq_mono e h
  | .exc _ _, ⟨a, dd, v', h1, h2, h3, h4⟩ => ⟨a, dd, v', h1, e _ _ h2, e _ _ h3, dq_mono e h4⟩
  | .well none, h => h
  | .well (some _), ⟨p, h1, h2⟩ => ⟨p, h1, e.seq h2⟩
theorem dvAll_mono {K : Frag} {n : En} {S S' : Hp} (e : Same S S') : ∀ {vs : List V} {xs : List DV}, DvAll K n S vs xs → DvAll K n S' vs xs
  | _, _, .nil => .nil
  | _, _, .cons h t => .cons (dv_mono e h) (dvAll_mono e t)
theorem DvAll.len {K : Frag} {n : En} {S : Hp} : ∀ {vs : List V} {xs : List DV}, DvAll K n S vs xs → vs.length = xs.length
  | _, _, .nil => rfl
  | _, _, .cons _ t => by rw [List.length_cons, List.length_cons, DvAll.len t]
def SlOk (K : Frag) (n : En) (S H : Hp) (A : Addr) (o : Option (Option V)) : Sl → Prop
  | .no => True
  | .v x => ∃ v, o = some (some v) ∧ DvOk K n S v x
  | .own xs => o = some (some (.ref A)) ∧ S A = none ∧ (n.H0 A = none ∧ n.pa A) ∧ n.wl ≠ some A ∧ ∃ vs, H A = some (.lst vs) ∧ DqAll K S vs xs
structure StOk (K : Frag) (n : En) (m : Nat) (S H : Hp) (σ : L2.St) (ρ : List Sl) : Prop where
  wd : Wd n.wl m S H
  po : Post n.wl n.S0 n.H0 S H
  len : σ.length = ρ.length
  sl : ∃ A : Nat → Addr, (∀ i s, ρ[i]? = some s → SlOk K n S H (A i) σ[i]? s) ∧ ∀ i j xs ys, ρ[i]? = some (.own xs) → ρ[j]? = some (.own ys) → A i = A j → i = j
section
variable {K : Frag} {n : En} {m m' : Nat} {S H S' H' : Hp} {σ : L2.St} {ρ : List Sl}
theorem Wd.le {wl : Option Addr} (w : Wd wl m S H) (h : m' ≤ m) : Wd wl m' S H := ⟨w.sm, fun p e => by
  obtain ⟨h1, a, b, c, h2, h3, h4, h5, h6, h7, h8⟩ := w.we p e
  exact ⟨h1, a, b, c, h2, h3, h4, h5, h6, h7, by omega⟩⟩
theorem StOk.le (s : StOk K n m S H σ ρ) (h : m' ≤ m) : StOk K n m' S H σ ρ := ⟨s.wd.le h, s.po, s.len, s.sl⟩
theorem SlOk.post {A : Addr} {o : Option (Option V)} (p : Post n.wl S H S' H') : ∀ {s : Sl}, SlOk K n S H A o s → SlOk K n S' H' A o s
  | .no, _ => trivial
  | .v _, ⟨v, h1, h2⟩ => ⟨v, h1, dv_mono p.sS h2⟩
  | .own _, ⟨h1, h2, h3, h4, vs, h5, h6⟩ => ⟨h1, p.fr A (by rw [h5]; exact Option.some_ne_none _) h2, h3, h4, vs, p.kp A _ h5 h4, dqAll_mono p.sS h6⟩
/-- behind a step that keeps this def's own -/
theorem StOk.step (s : StOk K n m S H σ ρ) (p : Post n.wl S H S' H') (w : Wd n.wl m' S' H') : StOk K n m' S' H' σ ρ :=
  ⟨w, s.po.trans p, s.len, let ⟨A, h1, h2⟩ := s.sl; ⟨A, fun i t e => (h1 i t e).post p, h2⟩⟩
theorem Wd.grow {wl : Option Addr} (w : Wd wl m S H) (g : Grow S H S' H') : Wd wl m S' H' := ⟨g.sm, fun p e => by
  obtain ⟨h1, a, b, c, h2, h3⟩ := w.we p e
  exact ⟨g.po.fr p (by rw [h2]; exact Option.some_ne_none _) h1, a, b, c, g.po.kp p _ h2 (by intro z; cases z), h3⟩⟩
theorem StOk.grow (s : StOk K n m S H σ ρ) (g : Grow S H S' H') : StOk K n m S' H' σ ρ := s.step g.po.wk (s.wd.grow g)
theorem StOk.set {i : Nat} {v : V} {x : DV} (s : StOk K n m S H σ ρ) (h : DvOk K n S v x) : StOk K n m S H (σ.set i (some v)) (ρ.set i (.v x)) := by
  refine ⟨s.wd, s.po, by rw [List.length_set, List.length_set]; exact s.len, ?_⟩
  obtain ⟨A, h1, h2⟩ := s.sl
  refine ⟨A, fun j t e => ?_, fun j k xs ys e1 e2 => ?_⟩
  · by_cases hj : i = j
    · subst hj
      have hl : i < ρ.length := by
        have := (List.getElem?_eq_some_iff.mp e).1
        rwa [List.length_set] at this
      rw [List.getElem?_set_self hl] at e
      cases e
      exact ⟨v, by rw [List.getElem?_set_self (by rw [s.len]; exact hl)], h⟩
    · rw [List.getElem?_set_ne hj] at e
      rw [List.getElem?_set_ne hj]
      exact h1 j t e
  · have no : ∀ k zs, (ρ.set i (.v x))[k]? = some (Sl.own zs) → ρ[k]? = some (Sl.own zs) := fun k zs e => by
      by_cases hj : i = k
      · subst hj
        have hl : i < ρ.length := by
          have := (List.getElem?_eq_some_iff.mp e).1
          rwa [List.length_set] at this
        rw [List.getElem?_set_self hl] at e
        cases e
      · rwa [List.getElem?_set_ne hj] at e
    exact h2 j k xs ys (no _ _ e1) (no _ _ e2)
theorem StOk.setNo {i : Nat} {w : Option V} (s : StOk K n m S H σ ρ) : StOk K n m S H (σ.set i w) (ρ.set i .no) := by
  refine ⟨s.wd, s.po, by rw [List.length_set, List.length_set]; exact s.len, ?_⟩
  obtain ⟨A, h1, h2⟩ := s.sl
  refine ⟨A, fun j t e => ?_, fun j k xs ys e1 e2 => ?_⟩
  · by_cases hj : i = j
    · subst hj
      have hl : i < ρ.length := by
        have := (List.getElem?_eq_some_iff.mp e).1
        rwa [List.length_set] at this
      rw [List.getElem?_set_self hl] at e
      cases e
      exact trivial
    · rw [List.getElem?_set_ne hj] at e
      rw [List.getElem?_set_ne hj]
      exact h1 j t e
  · have no : ∀ k zs, (ρ.set i Sl.no)[k]? = some (Sl.own zs) → ρ[k]? = some (Sl.own zs) := fun k zs e => by
      by_cases hj : i = k
      · subst hj
        have hl : i < ρ.length := by
          have := (List.getElem?_eq_some_iff.mp e).1
          rwa [List.length_set] at this
        rw [List.getElem?_set_self hl] at e
        cases e
      · rwa [List.getElem?_set_ne hj] at e
    exact h2 j k xs ys (no _ _ e1) (no _ _ e2)
/-- a new list of one's own goes to a slot -/
theorem StOk.setOwn {i : Nat} {p : Addr} {vs : List V} {xs : List PD} (s : StOk K n m S H σ ρ) (hp : H p = some (.lst vs)) (hs : S p = none) (h0 : n.H0 p = none ∧ n.pa p) (hw : n.wl ≠ some p) (hd : DqAll K S vs xs)
    (hne : ∀ (A : Nat → Addr) j ys, (∀ i s, ρ[i]? = some s → SlOk K n S H (A i) σ[i]? s) → ρ[j]? = some (.own ys) → j ≠ i → A j ≠ p) : StOk K n m S H (σ.set i (some (.ref p))) (ρ.set i (.own xs)) := by
  refine ⟨s.wd, s.po, by rw [List.length_set, List.length_set]; exact s.len, ?_⟩
  obtain ⟨A, h1, h2⟩ := s.sl
  have ne : ∀ j ys, ρ[j]? = some (Sl.own ys) → j ≠ i → A j ≠ p := fun j ys e hj => hne A j ys h1 e hj
  have hl : ∀ {t : Sl}, (ρ.set i (.own xs))[i]? = some t → i < ρ.length := fun {t} e => by
    have := (List.getElem?_eq_some_iff.mp e).1
    rwa [List.length_set] at this
  refine ⟨fun j => if j = i then p else A j, fun j t e => ?_, fun j k ys zs e1 e2 => ?_⟩
  · by_cases hj : i = j
    · subst hj
      have hl := hl e
      rw [List.getElem?_set_self hl] at e
      cases e
      show SlOk K n S H (if i = i then p else A i) _ _
      rw [if_pos rfl]
      exact ⟨by rw [List.getElem?_set_self (by rw [s.len]; exact hl)], hs, h0, hw, vs, hp, hd⟩
    · rw [List.getElem?_set_ne hj] at e
      rw [List.getElem?_set_ne hj]
      show SlOk K n S H (if j = i then p else A j) _ _
      rw [if_neg (Ne.symm hj)]
      exact h1 j t e
  · by_cases hj : j = i
    · by_cases hk : k = i
      · intro _; rw [hj, hk]
      · intro z
        have e2' : ρ[k]? = some (Sl.own zs) := by rwa [List.getElem?_set_ne (Ne.symm hk)] at e2
        have z : (if j = i then p else A j) = (if k = i then p else A k) := z
        rw [if_pos hj, if_neg hk] at z
        exact absurd z.symm (ne k zs e2' hk)
    · have e1' : ρ[j]? = some (Sl.own ys) := by rwa [List.getElem?_set_ne (Ne.symm hj)] at e1
      by_cases hk : k = i
      · intro z
        have z : (if j = i then p else A j) = (if k = i then p else A k) := z
        rw [if_neg hj, if_pos hk] at z
        exact absurd z (ne j ys e1' hj)
      · have e2' : ρ[k]? = some (Sl.own zs) := by rwa [List.getElem?_set_ne (Ne.symm hk)] at e2
        intro z
        have z : (if j = i then p else A j) = (if k = i then p else A k) := z
        rw [if_neg hj, if_neg hk] at z
        exact h2 j k ys zs e1' e2' z
/-- one's own list is changed -/
theorem StOk.write {i : Nat} {xs ys : List PD} (s : StOk K n m S H σ ρ) (hi : ρ[i]? = some (.own xs)) : ∃ p vs, σ[i]? = some (some (.ref p)) ∧ H p = some (.lst vs) ∧ DqAll K S vs xs ∧
    ∀ us, DqAll K S us ys → StOk K n m S (upd H p (.lst us)) σ (ρ.set i (.own ys)) := by
  obtain ⟨A, h1, h2⟩ := s.sl
  obtain ⟨g1, g2, g3, g4, vs, g5, g6⟩ := h1 i _ hi
  have hl : i < ρ.length := (List.getElem?_eq_some_iff.mp hi).1
  refine ⟨A i, vs, g1, g5, g6, fun us hu => ⟨⟨fun b o e => ?_, fun p e => ?_⟩, ⟨s.po.sS, s.po.fr, fun a o e w => ?_, fun a ha => ?_⟩, by rw [List.length_set]; exact s.len, A, fun j t e => ?_, fun j k ys' zs e1 e2 z => ?_⟩⟩
  · rw [upd_ne (ne_of_none e g2)]
    exact s.wd.sm b o e
  · obtain ⟨q1, a, b, c, q2, q3⟩ := s.wd.we p e
    exact ⟨q1, a, b, c, by rw [upd_ne (fun z => g4 (by rw [← z]; exact e))]; exact q2, q3⟩
  · rw [upd_ne (ne_of_none e g3.1)]
    exact s.po.kp a o e w
  · by_cases z : a = A i
    · rw [z, upd_same]; exact Option.some_ne_none _
    · rw [upd_ne z]; exact s.po.al a ha
  · by_cases hj : i = j
    · subst hj
      rw [List.getElem?_set_self hl] at e
      cases e
      exact ⟨g1, g2, g3, g4, us, upd_same, hu⟩
    · rw [List.getElem?_set_ne hj] at e
      have q := h1 j t e
      cases t with
      | no => exact trivial
      | v x => exact q
      | own zs =>
        obtain ⟨q1, q2, q3, q4, ws, q5, q6⟩ := q
        have : A j ≠ A i := fun z => hj (h2 j i zs xs e hi z).symm
        exact ⟨q1, q2, q3, q4, ws, by rw [upd_ne this]; exact q5, q6⟩
  · have oo : ∀ k zs, (ρ.set i (Sl.own ys))[k]? = some (Sl.own zs) → ∃ ws, ρ[k]? = some (Sl.own ws) := fun k zs e => by
      by_cases hk : i = k
      · subst hk; exact ⟨xs, hi⟩
      · rw [List.getElem?_set_ne hk] at e; exact ⟨zs, e⟩
    obtain ⟨_, f1⟩ := oo _ _ e1
    obtain ⟨_, f2⟩ := oo _ _ e2
    exact h2 j k _ _ f1 f2 z
/-- one's own list becomes data -/
theorem StOk.freeze {i : Nat} {xs : List PD} (s : StOk K n m S H σ ρ) (hi : ρ[i]? = some (.own xs)) : ∃ S', Same S S' ∧ StOk K n m S' H σ (ρ.set i (.v (.d (.list xs)))) := by
  obtain ⟨A, h1, h2⟩ := s.sl
  obtain ⟨g1, g2, g3, g4, vs, g5, g6⟩ := h1 i _ hi
  have hl : i < ρ.length := (List.getElem?_eq_some_iff.mp hi).1
  have sS : Same S (upd S (A i) (.lst vs)) := fun b o e => by rw [upd_ne (ne_of_none e g2)]; exact e
  refine ⟨upd S (A i) (.lst vs), sS, ⟨fun b o e => ?_, fun p e => ?_⟩, ⟨s.po.sS.trans sS, fun a ha sa => ?_, s.po.kp, s.po.al⟩, by rw [List.length_set]; exact s.len, A, fun j t e => ?_, fun j k ys zs e1 e2 => ?_⟩
  · by_cases z : b = A i
    · rw [z, upd_same] at e; rw [z, g5]; exact e
    · rw [upd_ne z] at e; exact s.wd.sm b o e
  · obtain ⟨q1, a, b, c, q2, q3⟩ := s.wd.we p e
    exact ⟨by rw [upd_ne (fun z => g4 (by rw [← z]; exact e))]; exact q1, a, b, c, q2, q3⟩
  · have : a ≠ A i := fun z => ha (by rw [z]; exact g3.1)
    rw [upd_ne this]
    exact s.po.fr a ha sa
  · by_cases hj : i = j
    · subst hj
      rw [List.getElem?_set_self hl] at e
      cases e
      exact ⟨_, g1, dq_lst upd_same (dqAll_mono sS g6)⟩
    · rw [List.getElem?_set_ne hj] at e
      have q := h1 j t e
      cases t with
      | no => exact trivial
      | v x =>
        obtain ⟨v, q1, q2⟩ := q
        exact ⟨v, q1, dv_mono sS q2⟩
      | own zs =>
        obtain ⟨q1, q2, q3, q4, ws, q5, q6⟩ := q
        have : A j ≠ A i := fun z => hj (h2 j i zs xs e hi z).symm
        exact ⟨q1, by rw [upd_ne this]; exact q2, q3, q4, ws, q5, dqAll_mono sS q6⟩
  · have no : ∀ k zs, (ρ.set i (Sl.v (.d (.list xs))))[k]? = some (Sl.own zs) → ρ[k]? = some (Sl.own zs) := fun k zs e => by
      by_cases hj : i = k
      · subst hj
        rw [List.getElem?_set_self hl] at e
        cases e
      · rwa [List.getElem?_set_ne hj] at e
    exact h2 j k ys zs (no _ _ e1) (no _ _ e2)
end

/-! ### readings -/
/-- what errors are wished for -/
abbrev KErr (K : Frag) (n : En) (W : WX) (m : Nat) (S : Hp) (σ : L2.St) (ρ : List Sl) (Er : EK) : Prop := ∀ c x cls dx S' H', Er c x → StOk K n m S' H' σ ρ → ErrOk K n S' H' c x cls dx → Same S S' → W cls dx σ H'
theorem ke_af {K : Frag} {n : En} {W : WX} {m : Nat} {S S1 : Hp} {σ : L2.St} {ρ : List Sl} {Er : EK} (q : Same S S1) (k : KErr K n W m S σ ρ Er) : KErr K n W m S1 σ ρ Er := fun c x cls dx S' H' e s er z => k c x cls dx S' H' e s er (q.trans z)
def rdE (K : Frag) (n : En) (W : WX) (κ : Nat) (f : DE) : TE := fun σ H Q => ∃ m S ρ R Er, StOk K n (m + κ) S H σ ρ ∧ f ρ R Er ∧
  (∀ x v S' H', R x → StOk K n m S' H' σ ρ → Post n.wl S H S' H' → DvOk K n S' v x → Q v H') ∧
  KErr K n W m S σ ρ Er
def rdT (K : Frag) (n : En) (W : WX) (κ : Nat) (f : DT) : TT := fun σ H Q => ∃ m S ρ R Er, StOk K n (m + κ) S H σ ρ ∧ f ρ R Er ∧
  (∀ b S' H', R b → StOk K n m S' H' σ ρ → Post n.wl S H S' H' → Q b H') ∧
  KErr K n W m S σ ρ Er
def rdA (K : Frag) (n : En) (W : WX) (κ : Nat) (f : DA) : TA := fun σ H Q => ∃ m S ρ R Er, StOk K n (m + κ) S H σ ρ ∧ f ρ R Er ∧
  (∀ xs vs S' H', R xs → StOk K n m S' H' σ ρ → Post n.wl S H S' H' → DvAll K n S' vs xs → Q vs H') ∧
  KErr K n W m S σ ρ Er
/-- a new list: at p, beside the data -/
def rdN (K : Frag) (n : En) (W : WX) (κ : Nat) (f : DN) : TE := fun σ H Q => ∃ m S ρ R Er, StOk K n (m + κ) S H σ ρ ∧ f ρ R Er ∧
  (∀ xs p vs S' H', R xs → StOk K n m S' H' σ ρ → Post n.wl S H S' H' → H p = none → S' p = none → H' p = some (.lst vs) → DqAll K S' vs xs → Q (.ref p) H') ∧
  KErr K n W m S σ ρ Er
/-- what may be read as d, data or one's own -/
def RdOk (K : Frag) (n : En) (S H : Hp) (v : V) (x : DV) : Prop := DvOk K n S v x ∨ ∃ p vs xs, v = .ref p ∧ x = .d (.list xs) ∧ n.wl ≠ some p ∧ H p = some (.lst vs) ∧ DqAll K S vs xs
def rdO (K : Frag) (n : En) (W : WX) (κ : Nat) (f : DE) : TE := fun σ H Q => ∃ m S ρ R Er, StOk K n (m + κ) S H σ ρ ∧ f ρ R Er ∧
  (∀ x v S' H', R x → StOk K n m S' H' σ ρ → Post n.wl S H S' H' → RdOk K n S' H' v x → Q v H') ∧
  KErr K n W m S σ ρ Er
/-- what a statement's ends are wished -/
structure KSt (K : Frag) (n : En) (W : WX) (m : Nat) (S : Hp) (D : Ends) (Dd : DEnds) : Prop where
  nx : ∀ ρ' σ' S' H', Dd.nx ρ' → StOk K n m S' H' σ' ρ' → Same S S' → D.nx σ' H'
  rt : ∀ ρ' σ' x v S' H', Dd.rt ρ' x → StOk K n m S' H' σ' ρ' → DvOk K n S' v x → D.rt v H'
  bk : ∀ ρ' σ' S' H', Dd.bk ρ' → StOk K n m S' H' σ' ρ' → Same S S' → D.bk σ' H'
  ct : ∀ ρ' σ' S' H', Dd.ct ρ' → StOk K n m S' H' σ' ρ' → Same S S' → D.ct σ' H'
  ex : ∀ ρ' c x cls dx σ' S' H', Dd.ex ρ' c x → StOk K n m S' H' σ' ρ' → ErrOk K n S' H' c x cls dx → Same S S' → W cls dx σ' H'
theorem KSt.af {K : Frag} {n : En} {W : WX} {m : Nat} {S S1 : Hp} {D : Ends} {Dd : DEnds} (k : KSt K n W m S D Dd) (q : Same S S1) : KSt K n W m S1 D Dd :=
  ⟨fun ρ' σ' S' H' h s z => k.nx ρ' σ' S' H' h s (q.trans z), k.rt, fun ρ' σ' S' H' h s z => k.bk ρ' σ' S' H' h s (q.trans z), fun ρ' σ' S' H' h s z => k.ct ρ' σ' S' H' h s (q.trans z), fun ρ' c x cls dx σ' S' H' h s e z => k.ex ρ' c x cls dx σ' S' H' h s e (q.trans z)⟩
theorem KSt.up {K : Frag} {n : En} {W : WX} {m m' : Nat} {S : Hp} {D : Ends} {Dd : DEnds} (k : KSt K n W m S D Dd) (q : m ≤ m') : KSt K n W m' S D Dd :=
  ⟨fun ρ' σ' S' H' h s z => k.nx ρ' σ' S' H' h (s.le q) z, fun ρ' σ' x v S' H' h s d => k.rt ρ' σ' x v S' H' h (s.le q) d, fun ρ' σ' S' H' h s z => k.bk ρ' σ' S' H' h (s.le q) z, fun ρ' σ' S' H' h s z => k.ct ρ' σ' S' H' h (s.le q) z, fun ρ' c x cls dx σ' S' H' h s e z => k.ex ρ' c x cls dx σ' S' H' h (s.le q) e z⟩
/-- an expression's errors are the statement's -/
theorem KSt.ke {K : Frag} {n : En} {W : WX} {m : Nat} {S : Hp} {D : Ends} {Dd : DEnds} {σ : L2.St} {ρ : List Sl} (k : KSt K n W m S D Dd) : KErr K n W m S σ ρ (Dd.ex ρ) := fun c x cls dx S' H' h s er z => k.ex ρ c x cls dx σ S' H' h s er z
theorem ke_up {K : Frag} {n : En} {W : WX} {m m' : Nat} {S : Hp} {σ : L2.St} {ρ : List Sl} {Er : EK} (q : m ≤ m') (k : KErr K n W m S σ ρ Er) : KErr K n W m' S σ ρ Er := fun c x cls dx S' H' e s er z => k c x cls dx S' H' e (s.le q) er z
def rdS (K : Frag) (n : En) (W : WX) (κ : Nat) (g : DS) : TS := fun D σ H => ∃ m S ρ Dd, StOk K n (m + κ) S H σ ρ ∧ g Dd ρ ∧ KSt K n W m S D Dd
section
variable {X : Cx} {e : Expr} {es : List Expr} {st : Stmt} {sts : List Stmt}
theorem PE.to {t t' : TE} (h : PE X e t) (i : ∀ σ H Q, t' σ H Q → t σ H Q) : PE X e t' := ⟨fun pins s σ H Q I q => h.run pins s σ H Q I (i σ H Q q)⟩
theorem PT.to {t t' : TT} (h : PT X e t) (i : ∀ σ H Q, t' σ H Q → t σ H Q) : PT X e t' := ⟨fun pins s σ H Q I q => h.run pins s σ H Q I (i σ H Q q)⟩
theorem PW.to {t t' : TT} (h : PW X e t) (i : ∀ σ H Q, t' σ H Q → t σ H Q) : PW X e t' := ⟨fun wh pins s σ H Q I q => h.run wh pins s σ H Q I (i σ H Q q)⟩
theorem PA.to {t t' : TA} (h : PA X es t) (i : ∀ σ H Q, t' σ H Q → t σ H Q) : PA X es t' := ⟨fun pos pins s σ H Q I q => h.run pos pins s σ H Q I (i σ H Q q)⟩
theorem PS.to {t t' : TS} (h : PS X st t) (i : ∀ D σ H, t' D σ H → t D σ H) : PS X st t' := ⟨fun pins s σ H D I q => h.run pins s σ H D I (i D σ H q)⟩
theorem PSs.to {t t' : TS} (h : PSs X sts t) (i : ∀ D σ H, t' D σ H → t D σ H) : PSs X sts t' := ⟨fun pins s σ H D I q => h.run pins s σ H D I (i D σ H q)⟩
end
abbrev JE (X : Cx) (n : En) (W : WX) (κ : Nat) (e : Expr) (f : DE) : Prop := PE X e (rdE X.K n W κ f)
abbrev JO (X : Cx) (n : En) (W : WX) (κ : Nat) (e : Expr) (f : DE) : Prop := PE X e (rdO X.K n W κ f)
abbrev JN (X : Cx) (n : En) (W : WX) (κ : Nat) (e : Expr) (f : DN) : Prop := PE X e (rdN X.K n W κ f)
abbrev JT (X : Cx) (n : En) (W : WX) (κ : Nat) (e : Expr) (f : DT) : Prop := PT X e (rdT X.K n W κ f)
abbrev JA (X : Cx) (n : En) (W : WX) (κ : Nat) (es : List Expr) (f : DA) : Prop := PA X es (rdA X.K n W κ f)
abbrev JS (X : Cx) (n : En) (W : WX) (κ : Nat) (st : Stmt) (g : DS) : Prop := PS X st (rdS X.K n W κ g)
abbrev JB (X : Cx) (n : En) (W : WX) (κ : Nat) (sts : List Stmt) (g : DS) : Prop := PSs X sts (rdS X.K n W κ g)
end Wb
/-! Wb4: expressions read as data. -/
namespace Wb
open PySem PySem.Spec PyProof.Rows L2

/-! ### the words of the readings -/
def onD : DV → (PD → Prop) → Prop
  | .d x, R => R x
  | _, _ => False
def onB : DV → (Bool → Prop) → Prop
  | .d (.bool b), R => R b
  | _, _ => False
def onI : DV → (Int → Prop) → Prop
  | .d (.int i), R => R i
  | _, _ => False
def allD : List DV → (List PD → Prop) → Prop
  | [], R => R []
  | .d x :: r, R => allD r fun xs => R (x :: xs)
  | _ :: _, _ => False
def slV : Option Sl → (DV → Prop) → Prop
  | some (.v x), R => R x
  | _, _ => False
def slO : Option Sl → (DV → Prop) → Prop
  | some (.v x), R => R x
  | some (.own xs), R => R (.d (.list xs))
  | _, _ => False
def dVar (i : Nat) : DE := fun ρ R _ => slV ρ[i]? R
def dOwn (i : Nat) : DE := fun ρ R _ => slO ρ[i]? R
def dC (x : PD) : DE := fun _ R _ => R (.d x)
def d2 (g : DV → DV → (DV → Prop) → Prop) (f h : DE) : DE := fun ρ R E => f ρ (fun x => h ρ (fun y => g x y R) E) E
def d1 (g : DV → (DV → Prop) → Prop) (f : DE) : DE := fun ρ R E => f ρ (fun x => g x R) E
def dN2 (f : DN) : DE := fun ρ R E => f ρ (fun xs => R (.d (.list xs))) E
def aNil : DA := fun _ R _ => R []
def aCons (f : DE) (g : DA) : DA := fun ρ R E => f ρ (fun x => g ρ (fun xs => R (x :: xs)) E) E
def dTup (f : DA) : DE := fun ρ R E => f ρ (fun xs => allD xs fun ds => ds.length ≤ 100000 ∧ R (.d (.tuple ds))) E
def nLst (f : DA) : DN := fun ρ R E => f ρ (fun xs => allD xs fun ds => ds.length ≤ 100000 ∧ R ds) E
/-- a def's meaning: the arguments, what is wanted of the answer, of an error -/
abbrev Fn := List DV → (DV → Prop) → EK → Prop
def dCall (g : Fn) (f : DA) : DE := fun ρ R E => f ρ (fun xs => g xs R E) E
def dBi (g : List DV → (DV → Prop) → Prop) (f : DA) : DE := fun ρ R E => f ρ (fun xs => g xs R) E
def tVal (f : DE) : DT := fun ρ R E => f ρ (fun x => onB x R) E
def tNot' (f : DT) : DT := fun ρ R E => f ρ (fun b => R (!b)) E
def tAnd' (f g : DT) : DT := fun ρ R E => f ρ (fun b => if b = true then g ρ R E else R false) E
def tOr' (f g : DT) : DT := fun ρ R E => f ρ (fun b => if b = true then R true else g ρ R E) E
def dAnd (f g : DE) : DE := fun ρ R E => f ρ (fun x => onB x fun b => if b = true then g ρ R E else R (.d (.bool false))) E
def dOr (f g : DE) : DE := fun ρ R E => f ρ (fun x => onB x fun b => if b = true then R (.d (.bool true)) else g ρ R E) E
def dNot (f : DE) : DE := fun ρ R E => f ρ (fun x => onB x fun b => R (.d (.bool (!b)))) E
def dIf (t : DT) (f g : DE) : DE := fun ρ R E => t ρ (fun b => if b = true then f ρ R E else g ρ R E) E
/-- a op b op' c -/
def dChain (g g' : DV → DV → (DV → Prop) → Prop) (f h k : DE) : DE := fun ρ R E => f ρ (fun x => h ρ (fun y => g x y fun z => onB z fun b => if b = true then k ρ (fun w => g' y w R) E else R (.d (.bool false))) E) E

/-! the operators -/
def gI (C : Int → Int → Prop) (f : Int → Int → PD) : DV → DV → (DV → Prop) → Prop
  | .d (.int i), .d (.int j), R => C i j ∧ R (.d (f i j))
  | _, _, _ => False
def gI0 (f : Int → Int → PD) : DV → DV → (DV → Prop) → Prop
  | .d (.int i), .d (.int j), R => R (.d (f i j))
  | _, _, _ => False
def gAdd : DV → DV → (DV → Prop) → Prop
  | .d (.int i), .d (.int j), R => R (.d (.int (i + j)))
  | .d (.str i), .d (.str j), R => i.length + j.length ≤ 100000 ∧ R (.d (.str (i ++ j)))
  | .d (.list i), .d (.list j), R => i.length + j.length ≤ 100000 ∧ R (.d (.list (i ++ j)))
  | .d (.tuple i), .d (.tuple j), R => i.length + j.length ≤ 100000 ∧ R (.d (.tuple (i ++ j)))
  | _, _, _ => False
abbrev gSub := gI0 fun i j => .int (i - j)
/-- the sizes that a product may have -/
def MulOk (i j : Int) : Prop := ∃ a b : Nat, i.natAbs < 2 ^ a ∧ j.natAbs < 2 ^ b ∧ a + b ≤ 134217728
def gMul : DV → DV → (DV → Prop) → Prop
  | .d (.int i), .d (.int j), R => MulOk i j ∧ R (.d (.int (i * j)))
  | .d (.list xs), .d (.int k), R => (0 ≤ k ∧ k ≤ 100000) ∧ xs.length * k.toNat ≤ 100000 ∧ R (.d (.list (List.replicate k.toNat xs).flatten))
  | _, _, _ => False
def FdivOk (i j : Int) : Prop := j ≠ 0 ∧ j.natAbs < 2 ^ 9000
abbrev gFdiv := gI FdivOk fun i j => .int (i.fdiv j)
abbrev gMod := gI (fun _ j => j ≠ 0) fun i j => .int (i.fmod j)
abbrev gPow := gI CPow fun i j => .int (i ^ j.toNat)
abbrev gLt := gI0 fun i j => .bool (decide (i < j))
abbrev gLe := gI0 fun i j => .bool (decide (i ≤ j))
abbrev gGt := gI0 fun i j => .bool (decide (j < i))
abbrev gGe := gI0 fun i j => .bool (decide (j ≤ i))
/-- what == may compare -/
def Sh (x : PD) : Prop := SeqAt.shaped x = true
def gEq : DV → DV → (DV → Prop) → Prop
  | .d (.str x), .d (.str y), R => R (.d (.bool (decide (x = y))))
  | .d x, .d y, R => Sh x ∧ Sh y ∧ R (.d (.bool (PyData.eqv x y)))
  | _, _, _ => False
def gNe : DV → DV → (DV → Prop) → Prop
  | .d (.str x), .d (.str y), R => R (.d (.bool (!decide (x = y))))
  | .d x, .d y, R => Sh x ∧ Sh y ∧ R (.d (.bool (!PyData.eqv x y)))
  | _, _, _ => False
def flatD : PD → Bool
  | .none => true
  | .bool _ => true
  | .int _ => true
  | .str _ => true
  | _ => false
def gIn : DV → DV → (DV → Prop) → Prop
  | .d x, .d (.list ys), R => Sh x ∧ Sh (.list ys) ∧ R (.d (.bool (ys.any fun z => PyData.eqv z x)))
  | .d x, .d (.tuple ys), R => flatD x = true ∧ ys.all flatD = true ∧ R (.d (.bool (ys.any fun z => PyData.eqv z x)))
  | _, _, _ => False
def gNotIn : DV → DV → (DV → Prop) → Prop
  | .d x, .d (.list ys), R => Sh x ∧ Sh (.list ys) ∧ R (.d (.bool (!ys.any fun z => PyData.eqv z x)))
  | .d x, .d (.tuple ys), R => flatD x = true ∧ ys.all flatD = true ∧ R (.d (.bool (!ys.any fun z => PyData.eqv z x)))
  | _, _, _ => False
def gIsN : DV → (DV → Prop) → Prop
  | .d .none, R => R (.d (.bool true))
  | _, R => R (.d (.bool false))
def gNotN : DV → (DV → Prop) → Prop
  | .d .none, R => R (.d (.bool false))
  | _, R => R (.d (.bool true))
def gNeg : DV → (DV → Prop) → Prop
  | .d (.int i), R => R (.d (.int (-i)))
  | _, _ => False
/-- the script, indexed -/
def gIxS : Option (List Int) → DV → (DV → Prop) → Prop
  | some ns, .d (.int i), R => ∃ y, atI ns i = some y ∧ R (.d (.int y))
  | _, _, _ => False
def gIx : DV → DV → (DV → Prop) → Prop
  | .well o, y, R => gIxS o y R
  | .d (.list xs), .d (.int i), R => ∃ y, atI xs i = some y ∧ R (.d y)
  | .d (.tuple xs), .d (.int i), R => ∃ y, atI xs i = some y ∧ R (.d y)
  | .d (.str s), .d (.int i), R => s.length ≤ 100000 ∧ ∃ c, atI s.cps.toList i = some c ∧ R (.d (.str ⟨#[c]⟩))
  | _, _, _ => False
/-- the built-in class of a datum -/
def tyD : PD → String
  | .none => "NoneType"
  | .bool _ => "bool"
  | .int _ => "int"
  | .str _ => "str"
  | .list _ => "list"
  | .tuple _ => "tuple"
  | .dict _ => "dict"
def subTy (t T : String) : Bool := t == T || (t == "bool" && T == "int")
def gIsi (T : String) : DV → (DV → Prop) → Prop
  | .d x, R => R (.d (.bool (subTy (tyD x) T)))
  | _, _ => False
def lenS : Option (List Int) → (DV → Prop) → Prop
  | some ns, R => R (.d (.int ns.length))
  | _, _ => False
def bLen : List DV → (DV → Prop) → Prop
  | [.well o], R => lenS o R
  | [.d (.list xs)], R => R (.d (.int xs.length))
  | [.d (.tuple xs)], R => R (.d (.int xs.length))
  | [.d (.str s)], R => s.length ≤ 100000 ∧ R (.d (.int s.length))
  | _, _ => False
def bAbs : List DV → (DV → Prop) → Prop
  | [.d (.int i)], R => R (.d (.int (i.natAbs : Nat)))
  | _, _ => False
def bInt : List DV → (DV → Prop) → Prop
  | [.d (.int i)], R => R (.d (.int i))
  | [.d (.bool b)], R => R (.d (.int (if b then 1 else 0)))
  | _, _ => False
def bMax2 : List DV → (DV → Prop) → Prop
  | [.d (.int i), .d (.int j)], R => R (.d (.int (if j > i then j else i)))
  | _, _ => False
def bMin2 : List DV → (DV → Prop) → Prop
  | [.d (.int i), .d (.int j)], R => R (.d (.int (if j < i then j else i)))
  | _, _ => False
def asInts : List PD → Option (List Int)
  | [] => some []
  | .int i :: r => (asInts r).map (i :: ·)
  | _ :: _ => none
def asBools : List PD → Option (List Bool)
  | [] => some []
  | .bool i :: r => (asBools r).map (i :: ·)
  | _ :: _ => none
def bSum : List DV → (DV → Prop) → Prop
  | [.d (.list xs)], R => ∃ ns, asInts xs = some ns ∧ R (.d (.int ns.sum))
  | _, _ => False
def bAll : List DV → (DV → Prop) → Prop
  | [.d (.list xs)], R => ∃ bs, asBools xs = some bs ∧ R (.d (.bool (bs.all id)))
  | _, _ => False
def bAny : List DV → (DV → Prop) → Prop
  | [.d (.list xs)], R => ∃ bs, asBools xs = some bs ∧ R (.d (.bool (bs.any id)))
  | _, _ => False
def bGcd : List DV → (DV → Prop) → Prop
  | [.d (.int i), .d (.int j)], R => R (.d (.int ((Nat.gcd i.natAbs j.natAbs : Nat) : Int)))
  | _, _ => False
def bTuple : List DV → (DV → Prop) → Prop
  | [.d (.list xs)], R => R (.d (.tuple xs))
  | [.d (.tuple xs)], R => R (.d (.tuple xs))
  | _, _ => False
def bRepr : List DV → (DV → Prop) → Prop
  | [.d x], R => ROk x ∧ R (.d (.str x.shown))
  | _, _ => False

/-! ### by values -/
section
variable {K : Frag} {n : En} {m κ κ' : Nat} {S H S' H' : Hp} {σ : L2.St} {ρ : List Sl} {v u : V} {x y : DV} {W : WX}
theorem RdOk.post (p : Post n.wl S H S' H') (h : RdOk K n S H v x) : RdOk K n S' H' v x := by
  rcases h with h | ⟨q, vs, xs, rfl, rfl, hw, hq, hd⟩
  · exact .inl (dv_mono p.sS h)
  · exact .inr ⟨q, vs, xs, rfl, rfl, hw, p.kp q _ hq hw, dqAll_mono p.sS hd⟩
/-- data read at the heap -/
theorem RdOk.dq {x : PD} (sm : Same S H) (h : RdOk K n S H v (.d x)) : Dq K H v x := by
  rcases h with h | ⟨q, vs, xs, rfl, e, hw, hq, hd⟩
  · exact dq_mono sm h
  · cases e
    exact .lst hq (dqAll_mono sm hd)
inductive RdAll (K : Frag) (n : En) (S H : Hp) : List V → List DV → Prop
  | nil : RdAll K n S H [] []
  | cons {v : V} {vs : List V} {x : DV} {xs : List DV} : RdOk K n S H v x → RdAll K n S H vs xs → RdAll K n S H (v :: vs) (x :: xs)
theorem RdAll.post (p : Post n.wl S H S' H') : ∀ {vs : List V} {xs : List DV}, RdAll K n S H vs xs → RdAll K n S' H' vs xs
  | _, _, .nil => .nil
  | _, _, .cons h t => .cons (h.post p) (RdAll.post p t)
theorem DvAll.rd : ∀ {vs : List V} {xs : List DV}, DvAll K n S vs xs → RdAll K n S H vs xs
  | _, _, .nil => .nil
  | _, _, .cons h t => .cons (.inl h) (DvAll.rd t)
/-- the list items of what is read, as data of S -/
theorem RdOk.items {xs : List PD} (sm : Same S H) (h : RdOk K n S H v (.d (.list xs))) : ∃ p vs, v = .ref p ∧ H p = some (.lst vs) ∧ DqAll K S vs xs := by
  rcases h with h | ⟨q, vs, xs', rfl, e, hw, hq, hd⟩
  · cases h with
    | lst h1 h2 => exact ⟨_, _, rfl, sm _ _ h1, h2⟩
  · cases e
    exact ⟨q, vs, rfl, hq, hd⟩
theorem RdOk.tup {xs : List PD} (h : RdOk K n S H v (.d (.tuple xs))) : ∃ p vs, v = .ref p ∧ SqT K S p vs ∧ DqAll K S vs xs := by
  rcases h with h | ⟨q, vs, xs', rfl, e, hw, hq, hd⟩
  · cases h with
    | tup h1 h2 => exact ⟨_, _, rfl, h1, h2⟩
  · cases e
theorem RdOk.int {i : Int} (h : RdOk K n S H v (.d (.int i))) : v = .int i := by
  rcases h with h | ⟨q, vs, xs', rfl, e, _⟩
  · cases h; rfl
  · cases e
theorem RdOk.bool {b : Bool} (h : RdOk K n S H v (.d (.bool b))) : v = .bl b := by
  rcases h with h | ⟨q, vs, xs', rfl, e, _⟩
  · cases h; rfl
  · cases e
theorem RdOk.str {b : Str} (h : RdOk K n S H v (.d (.str b))) : v = .str b := by
  rcases h with h | ⟨q, vs, xs', rfl, e, _⟩
  · cases h; rfl
  · cases e
/-- what a rule for two values must give -/
def OpD (K : Frag) (r : R2) (g : DV → DV → (DV → Prop) → Prop) : Prop := ∀ (n : En) (S H : Hp) (x y : DV) (v u : V) (R : DV → Prop) (Q : VK), Same S H → RdOk K n S H v x → RdOk K n S H u y → g x y R →
  (∀ z w S' H', R z → Grow S H S' H' → DvOk K n S' w z → Q w H') → r v u H Q
def UnD (K : Frag) (r : V → Hp → VK → Prop) (g : DV → (DV → Prop) → Prop) : Prop := ∀ (n : En) (S H : Hp) (x : DV) (v : V) (R : DV → Prop) (Q : VK), Same S H → RdOk K n S H v x → g x R →
  (∀ z w S' H', R z → Grow S H S' H' → DvOk K n S' w z → Q w H') → r v H Q
def CaD (K : Frag) (r : List V → Hp → VK → Prop) (g : List DV → (DV → Prop) → Prop) : Prop := ∀ (n : En) (S H : Hp) (xs : List DV) (vs : List V) (R : DV → Prop) (Q : VK), Same S H → RdAll K n S H vs xs → g xs R →
  (∀ z w S' H', R z → Grow S H S' H' → DvOk K n S' w z → Q w H') → r vs H Q
end

section
variable {K : Frag}
theorem opD_I {C : Int → Int → Prop} {f : Int → Int → PD} {fv : Int → Int → V} (hf : ∀ i j (S : Hp), Dq K S (fv i j) (f i j)) : OpD K (rI C fv) (gI C f) := by
  intro n S H x y v u R Q sm hx hy hg q
  match x, y, hg with
  | .d (.int i), .d (.int j), ⟨hc, hr⟩ => exact ⟨i, j, hx.int, hy.int, hc, q _ _ _ _ hr (Grow.refl sm) (hf i j S)⟩
theorem opD_I0 {f : Int → Int → PD} {fv : Int → Int → V} (hf : ∀ i j (S : Hp), Dq K S (fv i j) (f i j)) : OpD K (rI0 fv) (gI0 f) := by
  intro n S H x y v u R Q sm hx hy hg q
  match x, y, hg with
  | .d (.int i), .d (.int j), hr => exact ⟨i, j, hx.int, hy.int, q _ _ _ _ hr (Grow.refl sm) (hf i j S)⟩
def rAddS : R2 := fun x y H Q => ∃ i j, x = .str i ∧ y = .str j ∧ i.length + j.length ≤ sizeLine ∧ Q (.str (i ++ j)) H
def rAdd (K : Frag) : R2 := fun x y H Q => (rI0 (fun i j => .int (i + j)) x y H Q) ∨ (rAddS x y H Q ∨ (rCat x y H Q ∨ rCatA K x y H Q))
theorem line5 {a : Nat} (h : a ≤ 100000) : a ≤ sizeLine := Nat.le_trans h (by rw [sizeLine_eq]; decide)
theorem opD_add : OpD K (rAdd K) gAdd := by
  intro n S H x y v u R Q sm hx hy hg q
  match x, y, hg with
  | .d (.int i), .d (.int j), hr => exact .inl ⟨i, j, hx.int, hy.int, q _ _ _ _ hr (Grow.refl sm) (.int _)⟩
  | .d (.str i), .d (.str j), ⟨hl, hr⟩ => exact .inr (.inl ⟨i, j, hx.str, hy.str, line5 hl, q _ _ _ _ hr (Grow.refl sm) (.str _)⟩)
  | .d (.list xs), .d (.list ys), ⟨hl, hr⟩ =>
    obtain ⟨p, vs, rfl, hp, hd⟩ := hx.items sm
    obtain ⟨p2, us, rfl, hp2, hd2⟩ := hy.items sm
    refine .inr (.inr (.inl ⟨p, p2, vs, us, rfl, rfl, hp, hp2, line5 (by rw [hd.len, hd2.len]; exact hl), fun a ha => ?_⟩))
    have g := Grow.new (o := .lst (vs ++ us)) sm ha
    exact q _ _ _ _ hr g (dq_lst upd_same (dqAll_mono g.po.sS (hd.app hd2)))
  | .d (.tuple xs), .d (.tuple ys), ⟨hl, hr⟩ =>
    obtain ⟨p, vs, rfl, hp, hd⟩ := hx.tup
    obtain ⟨p2, us, rfl, hp2, hd2⟩ := hy.tup
    have hz : vs.length + us.length ≤ sizeLine := line5 (by rw [hd.len, hd2.len]; exact hl)
    have e1 : vs.length = xs.length := hd.len
    have e2 : us.length = ys.length := hd2.len
    refine .inr (.inr (.inr ⟨p, p2, vs, us, rfl, rfl, sqT_mono sm hp, sqT_mono sm hp2, hz, fun z => ?_, fun z z2 => ?_, fun _ _ a ha => ?_⟩))
    · have : xs = [] := List.length_eq_zero_iff.mp (by rw [← e1, z]; rfl)
      subst this
      exact q _ _ _ _ hr (Grow.refl sm) (.tup hp2 hd2)
    · have : ys = [] := List.length_eq_zero_iff.mp (by rw [← e2, z2]; rfl)
      subst this
      rw [List.append_nil] at hr
      exact q _ _ _ _ hr (Grow.refl sm) (.tup hp hd)
    · have g := Grow.new (o := .tup (vs ++ us)) sm ha
      exact q _ _ _ _ hr g (dq_tup upd_same (dqAll_mono g.po.sS (hd.app hd2)))
def rMulAll : R2 := fun x y H Q => rI CMulX (fun i j => .int (i * j)) x y H Q ∨ rRep x y H Q
theorem repl_dq {S : Hp} {vs : List V} {xs : List PD} (h : DqAll K S vs xs) : ∀ k, DqAll K S (List.replicate k vs).flatten (List.replicate k xs).flatten
  | 0 => .nil
  | k + 1 => by rw [List.replicate_succ, List.replicate_succ, List.flatten_cons, List.flatten_cons]; exact h.app (repl_dq h k)
theorem opD_mul : OpD K rMulAll gMul := by
  intro n S H x y v u R Q sm hx hy hg q
  match x, y, hg with
  | .d (.int i), .d (.int j), ⟨⟨a, b, h1, h2, h3⟩, hr⟩ => exact .inl ⟨i, j, hx.int, hy.int, mulx_ok h1 h2 h3, q _ _ _ _ hr (Grow.refl sm) (.int _)⟩
  | .d (.list xs), .d (.int k), ⟨⟨h0, h1⟩, hl, hr⟩ =>
    obtain ⟨p, vs, rfl, hp, hd⟩ := hx.items sm
    have e := hy.int
    subst e
    refine .inr ⟨p, k, vs, rfl, rfl, hp, by omega, by omega, line5 (by rw [hd.len]; exact hl), fun a ha => ?_⟩
    have g := Grow.new (o := .lst (List.replicate k.toNat vs).flatten) sm ha
    exact q _ _ _ _ hr g (dq_lst upd_same (dqAll_mono g.po.sS (repl_dq hd _)))
theorem opD_eq : OpD K (fun x y H Q => rEq x y H Q ∨ rEqD K x y H Q) gEq := by
  intro n S H x y v u R Q sm hx hy hg q
  have gen : ∀ a b, x = .d a → y = .d b → Sh a ∧ Sh b ∧ R (.d (.bool (PyData.eqv a b))) → (rEq v u H Q ∨ rEqD K v u H Q) := by
    rintro a b rfl rfl ⟨h1, h2, h3⟩
    exact .inr ⟨a, b, (hx.dq sm).dp, (hy.dq sm).dp, h1, h2, q _ _ _ _ h3 (Grow.refl sm) (.bl _)⟩
  cases x with
  | exc _ _ => cases hg
  | well => cases hg
  | d a =>
    cases y with
    | exc _ _ => cases a <;> cases hg
    | well => cases a <;> cases hg
    | d b =>
      by_cases hs : ∃ s t, a = .str s ∧ b = .str t
      · obtain ⟨s, t, rfl, rfl⟩ := hs
        have e1 := hx.str
        have e2 := hy.str
        subst e1 e2
        refine .inl ⟨rfl, ?_⟩
        have hg : R (.d (.bool (decide (s = t)))) := hg
        have e : decide (V.str s = V.str t) = decide (s = t) := by simp
        rw [e]
        exact q _ _ _ _ hg (Grow.refl sm) (.bl _)
      · refine gen a b rfl rfl ?_
        cases a <;> first | exact hg | (cases b <;> first | exact hg | exact absurd ⟨_, _, rfl, rfl⟩ hs)
theorem opD_ne : OpD K (fun x y H Q => rNe x y H Q ∨ rNeD K x y H Q) gNe := by
  intro n S H x y v u R Q sm hx hy hg q
  have gen : ∀ a b, x = .d a → y = .d b → Sh a ∧ Sh b ∧ R (.d (.bool (!PyData.eqv a b))) → (rNe v u H Q ∨ rNeD K v u H Q) := by
    rintro a b rfl rfl ⟨h1, h2, h3⟩
    exact .inr ⟨a, b, (hx.dq sm).dp, (hy.dq sm).dp, h1, h2, q _ _ _ _ h3 (Grow.refl sm) (.bl _)⟩
  cases x with
  | exc _ _ => cases hg
  | well => cases hg
  | d a =>
    cases y with
    | exc _ _ => cases a <;> cases hg
    | well => cases a <;> cases hg
    | d b =>
      by_cases hs : ∃ s t, a = .str s ∧ b = .str t
      · obtain ⟨s, t, rfl, rfl⟩ := hs
        have e1 := hx.str
        have e2 := hy.str
        subst e1 e2
        refine .inl ⟨rfl, ?_⟩
        have hg : R (.d (.bool (!decide (s = t)))) := hg
        have e : decide (V.str s = V.str t) = decide (s = t) := by simp
        rw [e]
        exact q _ _ _ _ hg (Grow.refl sm) (.bl _)
      · refine gen a b rfl rfl ?_
        cases a <;> first | exact hg | (cases b <;> first | exact hg | exact absurd ⟨_, _, rfl, rfl⟩ hs)
theorem flatV_of {S : Hp} {v : V} {x : PD} (h : Dq K S v x) (f : flatD x = true) : flatV v = true := by
  cases h <;> first | rfl | cases f
theorem flatAll_of {S : Hp} : ∀ {vs : List V} {xs : List PD}, DqAll K S vs xs → xs.all flatD = true → vs.all flatV = true
  | _, _, .nil, _ => rfl
  | _, _, .cons h t, f => by
    rw [List.all_cons, Bool.and_eq_true] at f ⊢
    exact ⟨flatV_of h f.1, flatAll_of t f.2⟩
theorem eqV_of {S : Hp} {v u : V} {x y : PD} (hx : Dq K S v x) (hy : Dq K S u y) (fx : flatD x = true) (fy : flatD y = true) : eqV v u = PyData.eqv x y := by
  cases hx <;> first | (cases fx; done) | (cases hy <;> first | (cases fy; done) | simp [eqV, PyData.eqv])
theorem inV_of {S : Hp} {v : V} {x : PD} (hx : Dq K S v x) (fx : flatD x = true) : ∀ {vs : List V} {xs : List PD}, DqAll K S vs xs → xs.all flatD = true → inV v vs = xs.any fun z => PyData.eqv z x
  | _, _, .nil, _ => rfl
  | _, _, .cons h t, f => by
    rw [List.all_cons, Bool.and_eq_true] at f
    unfold inV
    rw [List.any_cons, List.any_cons, eqV_of h hx f.1 fx]
    have := inV_of hx fx t f.2
    unfold inV at this
    rw [this]
theorem opD_in : OpD K (fun x y H Q => rInD K x y H Q ∨ rIn K false x y H Q) gIn := by
  intro n S H x y v u R Q sm hx hy hg q
  match x, y, hg with
  | .d x, .d (.list ys), ⟨h1, h2, hr⟩ => exact .inl ⟨x, ys, (hx.dq sm).dp, (hy.dq sm).dp, h1, h2, q _ _ _ _ hr (Grow.refl sm) (.bl _)⟩
  | .d x, .d (.tuple ys), ⟨h1, h2, hr⟩ =>
    obtain ⟨p, vs, rfl, hp, hd⟩ := hy.tup
    have hxq := hx.dq sm
    have hdH := dqAll_mono sm hd
    refine .inr ⟨p, vs, rfl, .inr (sqT_mono sm hp), flatV_of hxq h1, flatAll_of hdH h2, ?_⟩
    rw [inV_of hxq h1 hdH h2]
    exact q _ _ _ _ hr (Grow.refl sm) (.bl _)
theorem opD_notIn : OpD K (fun x y H Q => rNotInD K x y H Q ∨ rIn K true x y H Q) gNotIn := by
  intro n S H x y v u R Q sm hx hy hg q
  match x, y, hg with
  | .d x, .d (.list ys), ⟨h1, h2, hr⟩ => exact .inl ⟨x, ys, (hx.dq sm).dp, (hy.dq sm).dp, h1, h2, q _ _ _ _ hr (Grow.refl sm) (.bl _)⟩
  | .d x, .d (.tuple ys), ⟨h1, h2, hr⟩ =>
    obtain ⟨p, vs, rfl, hp, hd⟩ := hy.tup
    have hxq := hx.dq sm
    have hdH := dqAll_mono sm hd
    refine .inr ⟨p, vs, rfl, .inr (sqT_mono sm hp), flatV_of hxq h1, flatAll_of hdH h2, ?_⟩
    rw [inV_of hxq h1 hdH h2]
    exact q _ _ _ _ hr (Grow.refl sm) (.bl _)
theorem atI_dq {S : Hp} {vs : List V} {xs : List PD} {i : Int} {y : PD} (h : DqAll K S vs xs) (e : atI xs i = some y) : ∃ v, atI vs i = some v ∧ Dq K S v y := by
  unfold atI at e ⊢
  rw [h.len]
  cases q : ixN xs.length i with
  | none => rw [q] at e; cases e
  | some j =>
    rw [q] at e
    exact h.at e
theorem RdOk.scr {ns : List Int} (sm : Same S H) (h : RdOk K n S H v (.well (some ns))) : ∃ p, v = .ref p ∧ SqL K H p (ns.map V.int) := by
  rcases h with ⟨p, h1, h2⟩ | ⟨_, _, _, _, z, _⟩
  · exact ⟨p, h1, sm.seq h2⟩
  · cases z
theorem atI_map {α β : Type} (f : α → β) {l : List α} {i : Int} {y : α} (h : atI l i = some y) : atI (l.map f) i = some (f y) := by
  unfold atI at h ⊢
  rw [List.length_map]
  cases q : ixN l.length i with
  | none => rw [q] at h; cases h
  | some j =>
    rw [q] at h
    show (l.map f)[j]? = _
    rw [List.getElem?_map, show l[j]? = some y from h]
    rfl
theorem opD_ix : OpD K (rIx K) gIx := by
  intro n S H x y v u R Q sm hx hy hg q
  match x, y, hg with
  | .well o, y, hg =>
    cases o with
    | none => exact hg.elim
    | some ns =>
      have hg : gIxS (some ns) y R := hg
      match y, hg with
      | .d (.int i), ⟨y, e, hr⟩ =>
        obtain ⟨p, rfl, hp⟩ := hx.scr sm
        exact .inl ⟨p, _, i, _, rfl, hy.int, hp, atI_map V.int e, q _ _ _ _ hr (Grow.refl sm) (.int _)⟩
  | .d (.list xs), .d (.int i), ⟨y, e, hr⟩ =>
    obtain ⟨p, vs, rfl, hp, hd⟩ := hx.items sm
    obtain ⟨w, e2, hw⟩ := atI_dq hd e
    exact .inl ⟨p, vs, i, w, rfl, hy.int, SqL.of hp, e2, q _ _ _ _ hr (Grow.refl sm) hw⟩
  | .d (.tuple xs), .d (.int i), ⟨y, e, hr⟩ =>
    obtain ⟨p, vs, rfl, hp, hd⟩ := hx.tup
    obtain ⟨w, e2, hw⟩ := atI_dq hd e
    exact .inr (.inl ⟨p, vs, i, w, rfl, hy.int, sqT_mono sm hp, e2, q _ _ _ _ hr (Grow.refl sm) hw⟩)
  | .d (.str s), .d (.int i), ⟨hl, c, e, hr⟩ => exact .inr (.inr ⟨s, i, c, hx.str, hy.int, line5 hl, e, q _ _ _ _ hr (Grow.refl sm) (.str _)⟩)
theorem unD_neg : UnD K (rU fun i => .int (-i)) gNeg := by
  intro n S H x v R Q sm hx hg q
  match x, hg with
  | .d (.int i), hr => exact ⟨i, hx.int, q _ _ _ _ hr (Grow.refl sm) (.int _)⟩
/-- None, or not: the value's own make tells -/
theorem non_iff {n : En} {S H : Hp} {v : V} {x : DV} (h : RdOk K n S H v x) : (v = .non ↔ x = .d .none) := by
  rcases h with h | ⟨q, vs, xs, rfl, rfl, _⟩
  · cases x with
    | d x => cases h <;> simp
    | exc c x => obtain ⟨a, dd, v', rfl, _⟩ := h; simp
    | well o => cases o <;> (obtain ⟨p, rfl, _⟩ := h; simp)
  · simp
end
section
variable {K : Frag}
theorem caD_len : CaD K (fun xs H Q => (∃ p ys, xs = [.ref p] ∧ (SqL K H p ys ∨ SqT K H p ys) ∧ Q (.int ys.length) H) ∨ ∃ z, xs = [.str z] ∧ z.length ≤ sizeLine ∧ Q (.int z.length) H) bLen := by
  intro n S H xs vs R Q sm hx hg q
  match xs, hx, hg with
  | [.well o], .cons h .nil, hr =>
    cases o with
    | none => exact hr.elim
    | some ns =>
      obtain ⟨p, rfl, hp⟩ := h.scr sm
      refine .inl ⟨p, _, rfl, .inl hp, ?_⟩
      rw [List.length_map]
      exact q _ _ _ _ hr (Grow.refl sm) (.int _)
  | [.d (.list xs)], .cons h .nil, hr =>
    obtain ⟨p, vs, rfl, hp, hd⟩ := h.items sm
    refine .inl ⟨p, vs, rfl, .inl (SqL.of hp), ?_⟩
    rw [hd.len]
    exact q _ _ _ _ hr (Grow.refl sm) (.int _)
  | [.d (.tuple xs)], .cons h .nil, hr =>
    obtain ⟨p, vs, rfl, hp, hd⟩ := h.tup
    refine .inl ⟨p, vs, rfl, .inr (sqT_mono sm hp), ?_⟩
    rw [hd.len]
    exact q _ _ _ _ hr (Grow.refl sm) (.int _)
  | [.d (.str s)], .cons h .nil, ⟨hl, hr⟩ =>
    have e := h.str
    subst e
    exact .inr ⟨s, rfl, line5 hl, q _ _ _ _ hr (Grow.refl sm) (.int _)⟩
theorem caD_abs : CaD K (fun xs H Q => ∃ i, xs = [.int i] ∧ Q (.int (if i < 0 then -i else i)) H) bAbs := by
  intro n S H xs vs R Q sm hx hg q
  match xs, hx, hg with
  | [.d (.int i)], .cons h .nil, hr =>
    have e := h.int
    subst e
    refine ⟨i, rfl, ?_⟩
    have e : (if i < 0 then -i else i) = (i.natAbs : Int) := by split <;> omega
    rw [e]
    exact q _ _ _ _ hr (Grow.refl sm) (.int _)
theorem caD_int : CaD K (fun xs H Q => (∃ i, xs = [.int i] ∧ Q (.int i) H) ∨ ∃ k, xs = [.bl k] ∧ Q (.int (if k then 1 else 0)) H) bInt := by
  intro n S H xs vs R Q sm hx hg q
  match xs, hx, hg with
  | [.d (.int i)], .cons h .nil, hr =>
    have e := h.int
    subst e
    exact .inl ⟨i, rfl, q _ _ _ _ hr (Grow.refl sm) (.int _)⟩
  | [.d (.bool i)], .cons h .nil, hr =>
    have e := h.bool
    subst e
    exact .inr ⟨i, rfl, q _ _ _ _ hr (Grow.refl sm) (.int _)⟩
theorem caD_max2 : CaD K (fun xs H Q => ∃ i j, xs = [.int i, .int j] ∧ Q (.int (if j > i then j else i)) H) bMax2 := by
  intro n S H xs vs R Q sm hx hg q
  match xs, hx, hg with
  | [.d (.int i), .d (.int j)], .cons h (.cons h2 .nil), hr =>
    have e := h.int
    have e2 := h2.int
    subst e e2
    exact ⟨i, j, rfl, q _ _ _ _ hr (Grow.refl sm) (.int _)⟩
theorem caD_min2 : CaD K (fun xs H Q => ∃ i j, xs = [.int i, .int j] ∧ Q (.int (if j < i then j else i)) H) bMin2 := by
  intro n S H xs vs R Q sm hx hg q
  match xs, hx, hg with
  | [.d (.int i), .d (.int j)], .cons h (.cons h2 .nil), hr =>
    have e := h.int
    have e2 := h2.int
    subst e e2
    exact ⟨i, j, rfl, q _ _ _ _ hr (Grow.refl sm) (.int _)⟩
theorem ints_of {S : Hp} : ∀ {vs : List V} {xs : List PD} {ns : List Int}, DqAll K S vs xs → asInts xs = some ns → vs = ns.map V.int
  | _, _, _, .nil, e => by cases e; rfl
  | _, .int i :: r, ns, .cons h t, e => by
    cases h
    unfold asInts at e
    cases q : asInts r with
    | none => rw [q] at e; cases e
    | some l =>
      rw [q] at e
      cases e
      rw [ints_of t q, List.map_cons]
theorem bools_of {S : Hp} : ∀ {vs : List V} {xs : List PD} {ns : List Bool}, DqAll K S vs xs → asBools xs = some ns → vs = ns.map V.bl
  | _, _, _, .nil, e => by cases e; rfl
  | _, .bool i :: r, ns, .cons h t, e => by
    cases h
    unfold asBools at e
    cases q : asBools r with
    | none => rw [q] at e; cases e
    | some l =>
      rw [q] at e
      cases e
      rw [bools_of t q, List.map_cons]
theorem caD_sum : CaD K (rSum K) bSum := by
  intro n S H xs vs R Q sm hx hg q
  match xs, hx, hg with
  | [.d (.list xs)], .cons h .nil, ⟨ns, e, hr⟩ =>
    obtain ⟨p, vs, rfl, hp, hd⟩ := h.items sm
    have z := ints_of hd e
    subst z
    exact ⟨p, ns, rfl, SqL.of hp, q _ _ _ _ hr (Grow.refl sm) (.int _)⟩
theorem caD_all : CaD K (rAll K) bAll := by
  intro n S H xs vs R Q sm hx hg q
  match xs, hx, hg with
  | [.d (.list xs)], .cons h .nil, ⟨ns, e, hr⟩ =>
    obtain ⟨p, vs, rfl, hp, hd⟩ := h.items sm
    have z := bools_of hd e
    subst z
    exact ⟨p, ns, rfl, SqL.of hp, q _ _ _ _ hr (Grow.refl sm) (.bl _)⟩
theorem caD_any : CaD K (rAny K) bAny := by
  intro n S H xs vs R Q sm hx hg q
  match xs, hx, hg with
  | [.d (.list xs)], .cons h .nil, ⟨ns, e, hr⟩ =>
    obtain ⟨p, vs, rfl, hp, hd⟩ := h.items sm
    have z := bools_of hd e
    subst z
    exact ⟨p, ns, rfl, SqL.of hp, q _ _ _ _ hr (Grow.refl sm) (.bl _)⟩
theorem caD_gcd : CaD K rGcd bGcd := by
  intro n S H xs vs R Q sm hx hg q
  match xs, hx, hg with
  | [.d (.int i), .d (.int j)], .cons h (.cons h2 .nil), hr =>
    have e := h.int
    have e2 := h2.int
    subst e e2
    exact ⟨i, j, rfl, q _ _ _ _ hr (Grow.refl sm) (.int _)⟩
theorem caD_tuple : CaD K (fun xs H Q => ∃ p ys, xs = [.ref p] ∧ ((SqL K H p ys ∧ ∀ l, H l = none → Q (.ref l) (upd H l (.tup ys))) ∨ (SqT K H p ys ∧ Q (.ref p) H))) bTuple := by
  intro n S H xs vs R Q sm hx hg q
  match xs, hx, hg with
  | [.d (.list xs)], .cons h .nil, hr =>
    obtain ⟨p, vs, rfl, hp, hd⟩ := h.items sm
    refine ⟨p, vs, rfl, .inl ⟨SqL.of hp, fun l hl => ?_⟩⟩
    have g := Grow.new (o := .tup vs) sm hl
    exact q _ _ _ _ hr g (dq_tup upd_same (dqAll_mono g.po.sS hd))
  | [.d (.tuple xs)], .cons h .nil, hr =>
    obtain ⟨p, vs, rfl, hp, hd⟩ := h.tup
    exact ⟨p, vs, rfl, .inr ⟨sqT_mono sm hp, q _ _ _ _ hr (Grow.refl sm) (.tup hp hd)⟩⟩
theorem caD_repr : CaD K (rRepr K) bRepr := by
  intro n S H xs vs R Q sm hx hg q
  match xs, hx, hg with
  | [.d x], .cons (v := v) h .nil, ⟨ho, hr⟩ => exact ⟨v, x, rfl, (h.dq sm).dp, ho, q _ _ _ _ hr (Grow.refl sm) (.str _)⟩
end
end Wb
/-! Wb5: the rules: an expression and its reading as data. -/
namespace Wb
open PySem PySem.Spec PyProof.Rows L2

/-- what every context of ours bears -/
structure Cok (X : Cx) (n : En) (W : WX) (k : Nat) : Prop where
  calm : X.calm = true
  tk : Takes X W
  hr : Room k X.A
  hg : X.A.guards = some []
  nd : X.N.Nodup
theorem Cok.le {X : Cx} {n : En} {W : WX} {j k : Nat} (c : Cok X n W k) (h : j ≤ k) : Cok X n W j := ⟨c.calm, c.tk, c.hr.mono h, c.hg, c.nd⟩
theorem st_split {K : Frag} {n : En} {m a b : Nat} {S H : Hp} {σ : L2.St} {ρ : List Sl} (s : StOk K n (m + (a + b)) S H σ ρ) : StOk K n (m + b + a) S H σ ρ := s.le (by omega)
theorem st_down {K : Frag} {n : En} {m b : Nat} {S H : Hp} {σ : L2.St} {ρ : List Sl} (s : StOk K n (m + b) S H σ ρ) : StOk K n m S H σ ρ := s.le (by omega)

theorem bool_of {K : Frag} {n : En} {S : Hp} {v : V} {x : DV} {P : Bool → Prop} (h : DvOk K n S v x) (hb : onB x P) : ∃ k, v = .bl k ∧ x = .d (.bool k) ∧ P k := by
  cases x with
  | exc _ _ => exact hb.elim
  | well => exact hb.elim
  | d x =>
    cases x with
    | bool k =>
      cases h
      exact ⟨k, rfl, rfl, hb⟩
    | _ => exact hb.elim
section
variable {X : Cx} {n : En} {W : WX} {κ κ' κ2 : Nat} {e a b c : Expr} {es : List Expr} {pos : Pos} {f h g : DE} {fa : DA} {t u : DT}

/-! ### names and constants -/
theorem je_var {i : Nat} {x : Str} (hN : X.N[i]? = some x) (hv : Vis X.env.scope x) (hd : (x == ("__debug__" : Str)) = false) (hcd : (x == ("__classdict__" : Str)) = false) : JE X n W 0 (.Name x pos) (dVar i) := by
  refine PE.to (pe_var hN hv hd hcd) fun σ H Q hq => ?_
  obtain ⟨m, S, ρ, R, Er, st, hf, kR, _⟩ := hq
  obtain ⟨A, h1, _⟩ := st.sl
  unfold dVar slV at hf
  cases q : ρ[i]? with
  | none => rw [q] at hf; exact hf.elim
  | some s =>
    rw [q] at hf
    cases s with
    | no => exact hf.elim
    | own _ => exact hf.elim
    | v x =>
      obtain ⟨v, e, d⟩ := h1 i _ q
      exact ⟨v, e, kR x v S H hf st Post.refl d⟩
theorem jo_own {i : Nat} {x : Str} (hN : X.N[i]? = some x) (hv : Vis X.env.scope x) (hd : (x == ("__debug__" : Str)) = false) (hcd : (x == ("__classdict__" : Str)) = false) : JO X n W 0 (.Name x pos) (dOwn i) := by
  refine PE.to (pe_var hN hv hd hcd) fun σ H Q hq => ?_
  obtain ⟨m, S, ρ, R, Er, st, hf, kR, _⟩ := hq
  obtain ⟨A, h1, _⟩ := st.sl
  unfold dOwn slO at hf
  cases q : ρ[i]? with
  | none => rw [q] at hf; exact hf.elim
  | some s =>
    rw [q] at hf
    cases s with
    | no => exact hf.elim
    | own xs =>
      obtain ⟨e, _, _, hw, vs, hp, d⟩ := h1 i _ q
      exact ⟨_, e, kR _ _ S H hf st Post.refl (.inr ⟨_, vs, xs, rfl, rfl, hw, hp, d⟩)⟩
    | v x =>
      obtain ⟨v, e, d⟩ := h1 i _ q
      exact ⟨v, e, kR x v S H hf st Post.refl (.inl d)⟩
theorem je_c {v : V} {x : PD} (he : PE X e (tC v)) (hx : ∀ S, Dq X.K S v x) : JE X n W 0 e (dC x) := by
  refine PE.to he fun σ H Q hq => ?_
  obtain ⟨m, S, ρ, R, Er, st, hf, kR, _⟩ := hq
  exact kR _ v S H hf st Post.refl (hx S)
theorem je_int {i : Int} {j : Nat} : JE X n W 0 (.Constant (.int i) j pos) (dC (.int i)) := je_c pe_int fun _ => .int i
theorem je_bl {i : Bool} {j : Nat} : JE X n W 0 (.Constant (.bool i) j pos) (dC (.bool i)) := je_c pe_bl fun _ => .bl i
theorem je_non {j : Nat} : JE X n W 0 (.Constant .none j pos) (dC .none) := je_c pe_non fun _ => .non
theorem je_str {i : Str} {j : Nat} : JE X n W 0 (.Constant (.str i) j pos) (dC (.str i)) := je_c pe_str fun _ => .str i
theorem je_glob {x : Str} {v : V} {uv : Value} {d : PD} (hg : Gl X x) (hm : X.mg x = some uv) (r : RelV v uv) (hx : ∀ S, Dq X.K S v d) (hd : (x == ("__debug__" : Str)) = false) : JE X n W 0 (.Name x pos) (dC d) :=
  je_c (pe_glob hg hm r hd) hx
/-- data may be read -/
theorem je_o (he : JE X n W κ e f) : JO X n W κ e f := PE.to he fun σ H Q ⟨m, S, ρ, R, Er, st, hf, kR, kE⟩ => ⟨m, S, ρ, R, Er, st, hf, fun x v S' H' hx st' p d => kR x v S' H' hx st' p (.inl d), kE⟩
/-- a new list is data, if nobody changes it -/
theorem jn_e {f : DN} (he : JN X n W κ e f) : JE X n W κ e (dN2 f) := by
  refine PE.to he fun σ H Q ⟨m, S, ρ, R, Er, st, hf, kR, kE⟩ => ⟨m, S, ρ, _, Er, st, hf, fun xs p vs S' H' hx st' po np sp hp d => ?_, kE⟩
  have sS : Same S' (upd S' p (.lst vs)) := fun b o e => by rw [upd_ne (ne_of_none e sp)]; exact e
  have wn : n.wl ≠ some p := fun z => by
    obtain ⟨_, a, b, c, hw, _⟩ := st.wd.we p z
    rw [np] at hw
    cases hw
  have po' : Post n.wl S H (upd S' p (.lst vs)) H' := ⟨po.sS.trans sS, fun a ha sa => by
    have : a ≠ p := fun z => ha (z ▸ np)
    rw [upd_ne this]; exact po.fr a ha sa, po.kp, po.al⟩
  have wd' : Wd n.wl m (upd S' p (.lst vs)) H' := ⟨fun b o e => by
      by_cases z : b = p
      · rw [z, upd_same] at e; rw [z, hp]; exact e
      · rw [upd_ne z] at e; exact st'.wd.sm b o e, fun q e => by
      obtain ⟨w1, w2⟩ := st'.wd.we q e
      exact ⟨by rw [upd_ne (fun z => wn (by rw [← z]; exact e))]; exact w1, w2⟩⟩
  exact kR _ _ _ _ hx (st.step po' wd') po' (dq_lst upd_same (dqAll_mono sS d))

/-! ### two operands -/
theorem j2 {r : R2} {gg : DV → DV → (DV → Prop) → Prop} (hr : OpD X.K r gg) {K : Frag} (eK : K = X.K) {Q : VK} {σ : L2.St} {H : Hp} (hq : rdE K n W (κ + κ') (d2 gg f h) σ H Q) :
    tOp r (rdO K n W κ f) (rdO K n W κ' h) σ H Q := by
  subst eK
  obtain ⟨m, S, ρ, R, Er, st, hf, kR, kE⟩ := hq
  refine ⟨m + κ', S, ρ, _, Er, st_split st, hf, fun x v S1 H1 hx st1 p1 d1 => ?_, fun c x cls dx S' H' e s' er => kE c x cls dx S' H' e (st_down s') er⟩
  refine ⟨m, S1, ρ, _, Er, st1, hx, fun y u S2 H2 hy st2 p2 d2 => ?_, ke_af p1.sS kE⟩
  exact hr n S2 H2 x y v u R Q st2.wd.sm (d1.post p2) d2 hy fun z w S3 H3 hz g dz => kR z w S3 H3 hz (st2.grow g) ((p1.trans p2).trans g.po.wk) dz
theorem je_op {op : Operator} {r : R2} {gg : DV → DV → (DV → Prop) → Prop} (ho : OpR X (binaryOp op) r) (hr : OpD X.K r gg) (ha : JO X n W κ a f) (hb : JO X n W κ' b h) : JE X n W (κ + κ') (.BinOp a op b pos) (d2 gg f h) :=
  PE.to (pe_op ho ha hb) fun σ H Q hq => j2 hr rfl hq
theorem je_cmp {op : CmpOp} {r : R2} {gg : DV → DV → (DV → Prop) → Prop} (ho : OpR X (compareOp op) r) (hr : OpD X.K r gg) (ha : JO X n W κ a f) (hb : JO X n W κ' b h) (hm : behindInMarks op b = false) :
    JE X n W (κ + κ') (.Compare a [op] [b] pos) (d2 gg f h) :=
  PE.to (pe_cmpR ho ha hb hm) fun σ H Q hq => j2 hr rfl hq
theorem je_ix {r : R2} {gg : DV → DV → (DV → Prop) → Prop} (ho : IxR X r) (hr : OpD X.K r gg) (ha : JO X n W κ a f) (hb : JO X n W κ' b h) (hs : PlainIx b) : JE X n W (κ + κ') (.Subscript a b pos) (d2 gg f h) :=
  PE.to (pe_ix ho ha hb hs) fun σ H Q hq => j2 hr rfl hq
theorem je_un {op : UnaryOp} {r : V → Hp → VK → Prop} {gg : DV → (DV → Prop) → Prop} (ho : UnR X (unaryOp op) r) (hr : UnD X.K r gg) (ha : JO X n W κ a f) : JE X n W κ (.UnaryOp op a pos) (d1 gg f) := by
  refine PE.to (pe_un ho ha) fun σ H Q ⟨m, S, ρ, R, Er, st, hf, kR, kE⟩ => ⟨m, S, ρ, _, Er, st, hf, fun x v S1 H1 hx st1 p1 d1 => ?_, kE⟩
  exact hr n S1 H1 x v R Q st1.wd.sm d1 hx fun z w S3 H3 hz g dz => kR z w S3 H3 hz (st1.grow g) (p1.trans g.po.wk) dz
theorem op_addD : OpR X (binaryOp .Add) (rAdd X.K) := op_add.or (op_add_str.or (op_cat.or op_catA))
theorem op_mulD : OpR X (binaryOp .Mult) rMulAll := op_mulX.or op_rep
theorem op_eqA {k : Nat} (hr : Room k X.A) : OpR X (compareOp .Eq) (fun x y H Q => rEq x y H Q ∨ rEqD X.K x y H Q) := op_eq.or (op_eqD hr.units)
theorem op_neA {k : Nat} (hr : Room k X.A) : OpR X (compareOp .NotEq) (fun x y H Q => rNe x y H Q ∨ rNeD X.K x y H Q) := op_ne.or (op_neD hr.units)
theorem op_inA {k : Nat} (hr : Room k X.A) : OpR X (compareOp .In) (fun x y H Q => rInD X.K x y H Q ∨ rIn X.K false x y H Q) := (op_inD (by have := hr.un; omega)).or op_in_seq
theorem op_notInA {k : Nat} (hr : Room k X.A) : OpR X (compareOp .NotIn) (fun x y H Q => rNotInD X.K x y H Q ∨ rIn X.K true x y H Q) := (op_notInD (by have := hr.un; omega)).or op_notIn_seq
theorem fdivOk_op : OpR X (binaryOp .FloorDiv) (rI FdivOk fun i j => .int (i.fdiv j)) := opI fun i j _ _ _ _ _ hc q => by
  refine floordiv_int hc.1 q (.inl (PyProof.noPylong_of_log2 ?_))
  exact PySem.Flt.log2_lt_of (by decide) hc.2
theorem je_add (ha : JO X n W κ a f) (hb : JO X n W κ' b h) : JE X n W (κ + κ') (.BinOp a .Add b pos) (d2 gAdd f h) := je_op op_addD opD_add ha hb
theorem je_sub (ha : JO X n W κ a f) (hb : JO X n W κ' b h) : JE X n W (κ + κ') (.BinOp a .Sub b pos) (d2 gSub f h) := je_op op_sub (opD_I0 fun _ _ _ => .int _) ha hb
theorem je_mul (ha : JO X n W κ a f) (hb : JO X n W κ' b h) : JE X n W (κ + κ') (.BinOp a .Mult b pos) (d2 gMul f h) := je_op op_mulD opD_mul ha hb
theorem je_fdiv (ha : JO X n W κ a f) (hb : JO X n W κ' b h) : JE X n W (κ + κ') (.BinOp a .FloorDiv b pos) (d2 gFdiv f h) := je_op fdivOk_op (opD_I fun _ _ _ => .int _) ha hb
theorem je_mod (ha : JO X n W κ a f) (hb : JO X n W κ' b h) : JE X n W (κ + κ') (.BinOp a .Mod b pos) (d2 gMod f h) := je_op op_modN (opD_I fun _ _ _ => .int _) ha hb
theorem je_pow (ha : JO X n W κ a f) (hb : JO X n W κ' b h) : JE X n W (κ + κ') (.BinOp a .Pow b pos) (d2 gPow f h) := je_op op_pow (opD_I fun _ _ _ => .int _) ha hb
theorem je_neg (ha : JO X n W κ a f) : JE X n W κ (.UnaryOp .USub a pos) (d1 gNeg f) := je_un un_neg unD_neg ha
theorem je_lt (ha : JO X n W κ a f) (hb : JO X n W κ' b h) : JE X n W (κ + κ') (.Compare a [.Lt] [b] pos) (d2 gLt f h) := je_cmp op_lt (opD_I0 fun _ _ _ => .bl _) ha hb (nomark _)
theorem je_le (ha : JO X n W κ a f) (hb : JO X n W κ' b h) : JE X n W (κ + κ') (.Compare a [.LtE] [b] pos) (d2 gLe f h) := je_cmp op_le (opD_I0 fun _ _ _ => .bl _) ha hb (nomark _)
theorem je_gt (ha : JO X n W κ a f) (hb : JO X n W κ' b h) : JE X n W (κ + κ') (.Compare a [.Gt] [b] pos) (d2 gGt f h) := je_cmp op_gt (opD_I0 fun _ _ _ => .bl _) ha hb (nomark _)
theorem je_ge (ha : JO X n W κ a f) (hb : JO X n W κ' b h) : JE X n W (κ + κ') (.Compare a [.GtE] [b] pos) (d2 gGe f h) := je_cmp op_ge (opD_I0 fun _ _ _ => .bl _) ha hb (nomark _)
theorem je_eq {k : Nat} (C : Cok X n W k) (ha : JO X n W κ a f) (hb : JO X n W κ' b h) : JE X n W (κ + κ') (.Compare a [.Eq] [b] pos) (d2 gEq f h) := je_cmp (op_eqA C.hr) opD_eq ha hb (nomark _)
theorem je_ne {k : Nat} (C : Cok X n W k) (ha : JO X n W κ a f) (hb : JO X n W κ' b h) : JE X n W (κ + κ') (.Compare a [.NotEq] [b] pos) (d2 gNe f h) := je_cmp (op_neA C.hr) opD_ne ha hb (nomark _)
theorem je_in {k : Nat} (C : Cok X n W k) (ha : JO X n W κ a f) (hb : JO X n W κ' b h) (hm : behindInMarks .In b = false) : JE X n W (κ + κ') (.Compare a [.In] [b] pos) (d2 gIn f h) := je_cmp (op_inA C.hr) opD_in ha hb hm
theorem je_notIn {k : Nat} (C : Cok X n W k) (ha : JO X n W κ a f) (hb : JO X n W κ' b h) (hm : behindInMarks .NotIn b = false) : JE X n W (κ + κ') (.Compare a [.NotIn] [b] pos) (d2 gNotIn f h) := je_cmp (op_notInA C.hr) opD_notIn ha hb hm
theorem je_sub_ix (ha : JO X n W κ a f) (hb : JO X n W κ' b h) (hs : PlainIx b) : JE X n W (κ + κ') (.Subscript a b pos) (d2 gIx f h) := je_ix ix_seq opD_ix ha hb hs
theorem je_isN {j : Nat} {p' : Pos} (ha : JO X n W κ a f) : JE X n W κ (.Compare a [.Is] [.Constant .none j p'] pos) (d1 gIsN f) := by
  refine PE.to (pe_cmp (pc_isN ha)) fun σ H Q ⟨m, S, ρ, R, Er, st, hf, kR, kE⟩ => ⟨m, S, ρ, _, Er, st, hf, fun x v S1 H1 hx st1 p1 d1 => ?_, kE⟩
  have hi := non_iff d1
  show Q (V.bl (decide (v = .non))) H1
  by_cases z : v = .non
  · have e := hi.mp z
    subst e
    rw [decide_eq_true z]
    exact kR _ _ S1 H1 hx st1 p1 (.bl _)
  · rw [decide_eq_false z]
    have hx : R (.d (.bool false)) := by
      cases x with
      | exc _ _ => exact hx
      | well => exact hx
      | d x => cases x <;> first | exact hx | exact absurd (hi.mpr rfl) z
    exact kR _ _ S1 H1 hx st1 p1 (.bl _)
theorem je_notN {j : Nat} {p' : Pos} (ha : JO X n W κ a f) : JE X n W κ (.Compare a [.IsNot] [.Constant .none j p'] pos) (d1 gNotN f) := by
  refine PE.to (pe_cmp (pc_notN ha)) fun σ H Q ⟨m, S, ρ, R, Er, st, hf, kR, kE⟩ => ⟨m, S, ρ, _, Er, st, hf, fun x v S1 H1 hx st1 p1 d1 => ?_, kE⟩
  have hi := non_iff d1
  show Q (V.bl (!decide (v = .non))) H1
  by_cases z : v = .non
  · have e := hi.mp z
    subst e
    rw [decide_eq_true z]
    exact kR _ _ S1 H1 hx st1 p1 (.bl _)
  · rw [decide_eq_false z]
    have hx : R (.d (.bool true)) := by
      cases x with
      | exc _ _ => exact hx
      | well => exact hx
      | d x => cases x <;> first | exact hx | exact absurd (hi.mpr rfl) z
    exact kR _ _ S1 H1 hx st1 p1 (.bl _)

/-! ### chains -/
theorem jchain {r r' : R2} {gg gg' : DV → DV → (DV → Prop) → Prop} (hr : OpD X.K r gg) (hr' : OpD X.K r' gg') {Q : VK} {σ : L2.St} {H : Hp} (hq : rdE X.K n W (κ + (κ' + κ2)) (dChain gg gg' f h g) σ H Q) :
    tChain r r' (rdO X.K n W κ f) (rdO X.K n W κ' h) (rdO X.K n W κ2 g) σ H Q := by
  obtain ⟨m, S, ρ, R, Er, st, hf, kR, kE⟩ := hq
  refine ⟨m + (κ' + κ2), S, ρ, _, Er, st_split st, hf, fun x v S1 H1 hx st1 p1 d1 => ?_, fun c x cls dx S' H' e s' er => kE c x cls dx S' H' e (st_down s') er⟩
  refine ⟨m + κ2, S1, ρ, _, Er, st_split st1, hx, fun y u S2 H2 hy st2 p2 d2 => ?_, fun c x cls dx S' H' e s' er q => kE c x cls dx S' H' e (st_down s') er (p1.sS.trans q)⟩
  refine hr n S2 H2 x y v u _ _ st2.wd.sm (d1.post p2) d2 hy fun z w S3 H3 hz g3 dz => ?_
  obtain ⟨k, rfl, rfl, hz⟩ := bool_of dz hz
  · refine ⟨k, rfl, ?_⟩
    cases k with
    | true =>
      show rdO X.K n W κ2 g σ H3 fun w' H4 => r' u w' H4 Q
      refine ⟨m, S3, ρ, _, Er, st2.grow g3, hz, fun y4 w4 S4 H4 h4 st4 p4 d4 => ?_, ke_af ((p1.trans p2).trans g3.po.wk).sS kE⟩
      exact hr' n S4 H4 y y4 u w4 R Q st4.wd.sm ((d2.post g3.po.wk).post p4) d4 h4 fun z5 w5 S5 H5 h5 g5 d5 => kR z5 w5 S5 H5 h5 (st4.grow g5) ((((p1.trans p2).trans g3.po.wk).trans p4).trans g5.po.wk) d5
    | false =>
      show Q (.bl false) H3
      exact kR _ _ S3 H3 hz (st_down (st2.grow g3)) ((p1.trans p2).trans g3.po.wk) (.bl _)
theorem je_chain {op op' : CmpOp} {r r' : R2} {gg gg' : DV → DV → (DV → Prop) → Prop} (ho : OpR X (compareOp op) r) (hr : OpD X.K r gg) (ho' : OpR X (compareOp op') r') (hr' : OpD X.K r' gg')
    (ha : JO X n W κ a f) (hb : JO X n W κ' b h) (hc : JO X n W κ2 c g) (hm : lastMarks [op, op'] [b, c] = false) : JE X n W (κ + (κ' + κ2)) (.Compare a [op, op'] [b, c] pos) (dChain gg gg' f h g) :=
  PE.to (pe_chain ho ho' ha hb hc hm) fun σ H Q hq => jchain hr hr' hq

/-! ### tests -/
theorem jt_of {t0 : TE} (hp : PT X e (tTest t0)) (hq : ∀ σ H Q, rdE X.K n W κ f σ H Q → t0 σ H Q) : JT X n W κ e (tVal f) := by
  refine PT.to hp fun σ H Q ⟨m, S, ρ, R, Er, st, hf, kR, kE⟩ => hq σ H _ ⟨m, S, ρ, _, Er, st, hf, fun x v S1 H1 hx st1 p1 d1 => ?_, kE⟩
  obtain ⟨k, rfl, rfl, hz⟩ := bool_of d1 hx
  exact ⟨k, rfl, kR k S1 H1 hz st1 p1⟩
theorem jt_cmp {op : CmpOp} {r : R2} {gg : DV → DV → (DV → Prop) → Prop} (ho : OpR X (compareOp op) r) (hr : OpD X.K r gg) (ha : JO X n W κ a f) (hb : JO X n W κ' b h) (hm : behindInMarks op b = false) :
    JT X n W (κ + κ') (.Compare a [op] [b] pos) (tVal (d2 gg f h)) := jt_of (pt_cmpR ho ha hb hm) fun σ H Q hq => j2 hr rfl hq
theorem jt_chain {op op' : CmpOp} {r r' : R2} {gg gg' : DV → DV → (DV → Prop) → Prop} (ho : OpR X (compareOp op) r) (hr : OpD X.K r gg) (ho' : OpR X (compareOp op') r') (hr' : OpD X.K r' gg')
    (ha : JO X n W κ a f) (hb : JO X n W κ' b h) (hc : JO X n W κ2 c g) (hm : lastMarks [op, op'] [b, c] = false) : JT X n W (κ + (κ' + κ2)) (.Compare a [op, op'] [b, c] pos) (tVal (dChain gg gg' f h g)) :=
  jt_of (pt_chain ho ho' ha hb hc hm) fun σ H Q hq => jchain hr hr' hq
/-- an expression whose value is True or False, as a test -/
theorem jt_val (he : JE X n W κ e f) (hw : ∀ whole, isTrue e X.env whole = (do let v ← whole; standAt e.pos; holding [v] (truthy v))) : JT X n W κ e (tVal f) := by
  refine PT.to (pt_val he hw) fun σ H Q ⟨m, S, ρ, R, Er, st, hf, kR, kE⟩ => ⟨m, S, ρ, _, Er, st, hf, fun x v S1 H1 hx st1 p1 d1 => ?_, kE⟩
  obtain ⟨k, rfl, rfl, hz⟩ := bool_of d1 hx
  exact ⟨k, rfl, kR k S1 H1 hz st1 p1⟩
theorem jt_isN {j : Nat} {p' : Pos} (ha : JO X n W κ a f) : JT X n W κ (.Compare a [.Is] [.Constant .none j p'] pos) (tVal (d1 gIsN f)) := by
  refine PT.to (pt_cmp (pc_isN ha)) fun σ H Q ⟨m, S, ρ, R, Er, st, hf, kR, kE⟩ => ⟨m, S, ρ, _, Er, st, hf, fun x v S1 H1 hx st1 p1 d1 => ⟨_, rfl, ?_⟩, kE⟩
  have hi := non_iff d1
  show Q (decide (v = .non)) H1
  by_cases z : v = .non
  · have e := hi.mp z
    subst e
    rw [decide_eq_true z]
    exact kR _ S1 H1 hx st1 p1
  · rw [decide_eq_false z]
    have hx : R false := by
      cases x with
      | exc _ _ => exact hx
      | well => exact hx
      | d x => cases x <;> first | exact hx | exact absurd (hi.mpr rfl) z
    exact kR _ S1 H1 hx st1 p1
theorem jt_notN {j : Nat} {p' : Pos} (ha : JO X n W κ a f) : JT X n W κ (.Compare a [.IsNot] [.Constant .none j p'] pos) (tVal (d1 gNotN f)) := by
  refine PT.to (pt_cmp (pc_notN ha)) fun σ H Q ⟨m, S, ρ, R, Er, st, hf, kR, kE⟩ => ⟨m, S, ρ, _, Er, st, hf, fun x v S1 H1 hx st1 p1 d1 => ⟨_, rfl, ?_⟩, kE⟩
  have hi := non_iff d1
  show Q (!decide (v = .non)) H1
  by_cases z : v = .non
  · have e := hi.mp z
    subst e
    rw [decide_eq_true z]
    exact kR _ S1 H1 hx st1 p1
  · rw [decide_eq_false z]
    have hx : R true := by
      cases x with
      | exc _ _ => exact hx
      | well => exact hx
      | d x => cases x <;> first | exact hx | exact absurd (hi.mpr rfl) z
    exact kR _ S1 H1 hx st1 p1
theorem jt_not (ha : JT X n W κ a t) : JT X n W κ (.UnaryOp .Not a pos) (tNot' t) :=
  PT.to (pt_not ha) fun σ H Q ⟨m, S, ρ, R, Er, st, hf, kR, kE⟩ => ⟨m, S, ρ, _, Er, st, hf, fun b S1 H1 hx st1 p1 => kR _ S1 H1 hx st1 p1, kE⟩
abbrev JW (X : Cx) (n : En) (W : WX) (κ : Nat) (e : Expr) (f : DT) : Prop := PW X e (rdT X.K n W κ f)
theorem jw_pt (ha : JW X n W κ a t) : JT X n W κ a t := PW.pt ha
theorem jw_and1 (ha : JT X n W κ a t) : JW X n W κ (.BoolOp .And [a] pos) t := pw_and1 ha
theorem jw_or1 (ha : JT X n W κ a t) : JW X n W κ (.BoolOp .Or [a] pos) t := pw_or1 ha
theorem jw_and (ha : JT X n W κ a t) (hb : JW X n W κ' (.BoolOp .And (b :: es) pos) u) : JW X n W (κ + κ') (.BoolOp .And (a :: b :: es) pos) (tAnd' t u) := by
  refine PW.to (pw_and ha hb) fun σ H Q ⟨m, S, ρ, R, Er, st, hf, kR, kE⟩ => ⟨m + κ', S, ρ, _, Er, st_split st, hf, fun b S1 H1 hx st1 p1 => ?_, fun c x cls dx S' H' e s' er => kE c x cls dx S' H' e (st_down s') er⟩
  cases b with
  | true =>
    show rdT X.K n W κ' u σ H1 Q
    exact ⟨m, S1, ρ, R, Er, st1, hx, fun b S2 H2 hx st2 p2 => kR b S2 H2 hx st2 (p1.trans p2), ke_af p1.sS kE⟩
  | false =>
    show Q false H1
    exact kR _ S1 H1 hx (st_down st1) p1
theorem jw_or (ha : JT X n W κ a t) (hb : JW X n W κ' (.BoolOp .Or (b :: es) pos) u) : JW X n W (κ + κ') (.BoolOp .Or (a :: b :: es) pos) (tOr' t u) := by
  refine PW.to (pw_or ha hb) fun σ H Q ⟨m, S, ρ, R, Er, st, hf, kR, kE⟩ => ⟨m + κ', S, ρ, _, Er, st_split st, hf, fun b S1 H1 hx st1 p1 => ?_, fun c x cls dx S' H' e s' er => kE c x cls dx S' H' e (st_down s') er⟩
  cases b with
  | false =>
    show rdT X.K n W κ' u σ H1 Q
    exact ⟨m, S1, ρ, R, Er, st1, hx, fun b S2 H2 hx st2 p2 => kR b S2 H2 hx st2 (p1.trans p2), ke_af p1.sS kE⟩
  | true =>
    show Q true H1
    exact kR _ S1 H1 hx (st_down st1) p1
/-! and, or, not, if else as values -/
theorem je_one {op : BoolOp} (ha : JE X n W κ a f) : JE X n W κ (.BoolOp op [a] pos) f := pe_one ha
theorem je_and (ha : JE X n W κ a f) (hb : JE X n W κ' (.BoolOp .And (b :: es) pos) h) : JE X n W (κ + κ') (.BoolOp .And (a :: b :: es) pos) (dAnd f h) := by
  refine PE.to (pe_and ha hb) fun σ H Q ⟨m, S, ρ, R, Er, st, hf, kR, kE⟩ => ⟨m + κ', S, ρ, _, Er, st_split st, hf, fun x v S1 H1 hx st1 p1 d1 => ?_, fun c x cls dx S' H' e s' er => kE c x cls dx S' H' e (st_down s') er⟩
  obtain ⟨k, rfl, rfl, hz⟩ := bool_of d1 hx
  · refine ⟨k, rfl, ?_⟩
    cases k with
    | true =>
      show rdE X.K n W κ' h σ H1 Q
      exact ⟨m, S1, ρ, R, Er, st1, hz, fun x v S2 H2 hx st2 p2 d2 => kR x v S2 H2 hx st2 (p1.trans p2) d2, ke_af p1.sS kE⟩
    | false =>
      show Q (.bl false) H1
      exact kR _ _ S1 H1 hz (st_down st1) p1 (.bl _)
theorem je_or (ha : JE X n W κ a f) (hb : JE X n W κ' (.BoolOp .Or (b :: es) pos) h) : JE X n W (κ + κ') (.BoolOp .Or (a :: b :: es) pos) (dOr f h) := by
  refine PE.to (pe_or ha hb) fun σ H Q ⟨m, S, ρ, R, Er, st, hf, kR, kE⟩ => ⟨m + κ', S, ρ, _, Er, st_split st, hf, fun x v S1 H1 hx st1 p1 d1 => ?_, fun c x cls dx S' H' e s' er => kE c x cls dx S' H' e (st_down s') er⟩
  obtain ⟨k, rfl, rfl, hz⟩ := bool_of d1 hx
  · refine ⟨k, rfl, ?_⟩
    cases k with
    | false =>
      show rdE X.K n W κ' h σ H1 Q
      exact ⟨m, S1, ρ, R, Er, st1, hz, fun x v S2 H2 hx st2 p2 d2 => kR x v S2 H2 hx st2 (p1.trans p2) d2, ke_af p1.sS kE⟩
    | true =>
      show Q (.bl true) H1
      exact kR _ _ S1 H1 hz (st_down st1) p1 (.bl _)
theorem je_not (ha : JE X n W κ a f) : JE X n W κ (.UnaryOp .Not a pos) (dNot f) := by
  refine PE.to (pe_not ha) fun σ H Q ⟨m, S, ρ, R, Er, st, hf, kR, kE⟩ => ⟨m, S, ρ, _, Er, st, hf, fun x v S1 H1 hx st1 p1 d1 => ?_, kE⟩
  obtain ⟨k, rfl, rfl, hz⟩ := bool_of d1 hx
  exact ⟨k, rfl, kR _ _ S1 H1 hz st1 p1 (.bl _)⟩
theorem je_if (hc : JT X n W κ c t) (ha : JE X n W κ' a f) (hb : JE X n W κ2 b h) : JE X n W (κ + (κ' + κ2)) (.IfExp c a b pos) (dIf t f h) := by
  refine PE.to (pe_ifExp hc ha hb) fun σ H Q ⟨m, S, ρ, R, Er, st, hf, kR, kE⟩ => ⟨m + (κ' + κ2), S, ρ, _, Er, st_split st, hf, fun k S1 H1 hx st1 p1 => ?_, fun c x cls dx S' H' e s' er => kE c x cls dx S' H' e (st_down s') er⟩
  cases k with
  | true =>
    show rdE X.K n W κ' f σ H1 Q
    exact ⟨m, S1, ρ, R, Er, st1.le (by omega), hx, fun x v S2 H2 hx st2 p2 d2 => kR x v S2 H2 hx st2 (p1.trans p2) d2, ke_af p1.sS kE⟩
  | false =>
    show rdE X.K n W κ2 h σ H1 Q
    exact ⟨m, S1, ρ, R, Er, st1.le (by omega), hx, fun x v S2 H2 hx st2 p2 d2 => kR x v S2 H2 hx st2 (p1.trans p2) d2, ke_af p1.sS kE⟩

/-! ### arguments, tuples, lists -/
theorem ja_nil : JA X n W 0 [] aNil := PA.to pa_nil fun σ H Q ⟨m, S, ρ, R, Er, st, hf, kR, _⟩ => kR [] [] S H hf st Post.refl .nil
theorem ja_cons {fr : DA} (ha : JE X n W κ e f) (hb : JA X n W κ' es fr) (hs : starEach (e :: es) X.env = (false, eval e X.env) :: starEach es X.env) : JA X n W (κ + κ') (e :: es) (aCons f fr) := by
  refine PA.to (pa_cons ha hb hs) fun σ H Q ⟨m, S, ρ, R, Er, st, hf, kR, kE⟩ => ⟨m + κ', S, ρ, _, Er, st_split st, hf, fun x v S1 H1 hx st1 p1 d1 => ?_, fun c x cls dx S' H' e s' er => kE c x cls dx S' H' e (st_down s') er⟩
  exact ⟨m, S1, ρ, _, Er, st1, hx, fun xs vs S2 H2 hx st2 p2 d2 => kR _ _ S2 H2 hx st2 (p1.trans p2) (.cons (dv_mono p2.sS d1) d2), ke_af p1.sS kE⟩
/-- arguments that may be one's own -/
def rdAO (K : Frag) (n : En) (W : WX) (κ : Nat) (f : DA) : TA := fun σ H Q => ∃ m S ρ R Er, StOk K n (m + κ) S H σ ρ ∧ f ρ R Er ∧
  (∀ xs vs S' H', R xs → StOk K n m S' H' σ ρ → Post n.wl S H S' H' → RdAll K n S' H' vs xs → Q vs H') ∧
  KErr K n W m S σ ρ Er
abbrev JAO (X : Cx) (n : En) (W : WX) (κ : Nat) (es : List Expr) (f : DA) : Prop := PA X es (rdAO X.K n W κ f)
theorem jo_nil : JAO X n W 0 [] aNil := PA.to pa_nil fun σ H Q ⟨m, S, ρ, R, Er, st, hf, kR, _⟩ => kR [] [] S H hf st Post.refl .nil
theorem jo_cons {fr : DA} (ha : JO X n W κ e f) (hb : JAO X n W κ' es fr) (hs : starEach (e :: es) X.env = (false, eval e X.env) :: starEach es X.env) : JAO X n W (κ + κ') (e :: es) (aCons f fr) := by
  refine PA.to (pa_cons ha hb hs) fun σ H Q ⟨m, S, ρ, R, Er, st, hf, kR, kE⟩ => ⟨m + κ', S, ρ, _, Er, st_split st, hf, fun x v S1 H1 hx st1 p1 d1 => ?_, fun c x cls dx S' H' e s' er => kE c x cls dx S' H' e (st_down s') er⟩
  exact ⟨m, S1, ρ, _, Er, st1, hx, fun xs vs S2 H2 hx st2 p2 d2 => kR _ _ S2 H2 hx st2 (p1.trans p2) (.cons (d1.post p2) d2), ke_af p1.sS kE⟩
theorem allD_of {K : Frag} {S : Hp} {vs : List V} {xs : List DV} {P : List PD → Prop} (d : DvAll K n S vs xs) (h : allD xs P) : ∃ ds, DqAll K S vs ds ∧ P ds := by
  induction d generalizing P with
  | nil => exact ⟨[], .nil, h⟩
  | @cons v vs x xs a t ih =>
    cases x with
    | exc _ _ => exact h.elim
    | well _ => exact h.elim
    | d x =>
      obtain ⟨ds, h1, h2⟩ := ih (P := fun ys => P (x :: ys)) h
      exact ⟨x :: ds, .cons a h1, h2⟩
theorem je_tup {x1 : Nat} (ha : JA X n W κ es fa) : JE X n W κ (.Tuple es x1 pos) (dTup fa) := by
  refine PE.to (pe_tup ha) fun σ H Q ⟨m, S, ρ, R, Er, st, hf, kR, kE⟩ => ⟨m, S, ρ, _, Er, st, hf, fun xs vs S1 H1 hx st1 p1 d1 => ?_, kE⟩
  obtain ⟨ds, dd, hl, hr⟩ := allD_of d1 hx
  refine ⟨line5 (by rw [dd.len]; exact hl), fun p hp => ?_⟩
  have g := Grow.new (o := .tup vs) st1.wd.sm hp
  exact kR _ _ _ _ hr (st1.grow g) (p1.trans g.po.wk) (dq_tup upd_same (dqAll_mono g.po.sS dd))
theorem jn_lst (ha : JA X n W κ es fa) : JN X n W κ (.List es pos) (nLst fa) := by
  refine PE.to (pe_lst ha) fun σ H Q ⟨m, S, ρ, R, Er, st, hf, kR, kE⟩ => ⟨m, S, ρ, _, Er, st, hf, fun xs vs S1 H1 hx st1 p1 d1 => ?_, kE⟩
  obtain ⟨ds, dd, hl, hr⟩ := allD_of d1 hx
  refine ⟨line5 (by rw [dd.len]; exact hl), fun p hp => ?_⟩
  have g := Grow.beside (o := .lst vs) st1.wd.sm hp
  have hp0 : H p = none := by
    cases q : H p with
    | none => rfl
    | some o => exact absurd hp (p1.al p (by rw [q]; exact Option.some_ne_none _))
  exact kR ds p vs _ _ hr (st1.grow g) (p1.trans g.po.wk) hp0 (st1.wd.sm.free hp) upd_same dd

/-! ### calls -/
theorem je_bi {id : String} {x : Str} {p : Pos} {r : List V → Hp → VK → Prop} {gg : List DV → (DV → Prop) → Prop} (hc : CallR X (.builtin id) r) (hr : CaD X.K r gg) (hg : Gl X x) (hm : X.mg x = none) (hv : bootBuiltins x = some (.builtin id))
    (ha : JAO X n W κ (e :: es) fa) (hn : x ≠ "__name__") (hdb : (x == ("__debug__" : Str)) = false) (he : starEach (e :: es) X.env = (false, eval e X.env) :: starEach es X.env) (hpl : (backTo pos (starEach es X.env)).any (·.1) = false) :
    JE X n W κ (.Call (.Name x p) (e :: es) [] pos) (dBi gg fa) := by
  refine PE.to (pe_callB hc hg hm hv ha hn hdb he hpl) fun σ H Q ⟨m, S, ρ, R, Er, st, hf, kR, kE⟩ => ⟨m, S, ρ, _, Er, st, hf, fun xs vs S1 H1 hx st1 p1 d1 => ?_, kE⟩
  exact hr n S1 H1 xs vs R Q st1.wd.sm d1 hx fun z w S3 H3 hz g dz => kR z w S3 H3 hz (st1.grow g) (p1.trans g.po.wk) dz
theorem je_ty {T : String} {x : Str} {p : Pos} {r : List V → Hp → VK → Prop} {gg : List DV → (DV → Prop) → Prop} (hc : CallR X (.type T) r) (hr : CaD X.K r gg) (hg : Gl X x) (hm : X.mg x = none) (hv : bootBuiltins x = some (.type T))
    (ha : JAO X n W κ (e :: es) fa) (hn : x ≠ "__name__") (hdb : (x == ("__debug__" : Str)) = false) (he : starEach (e :: es) X.env = (false, eval e X.env) :: starEach es X.env) (hpl : (backTo pos (starEach es X.env)).any (·.1) = false) :
    JE X n W κ (.Call (.Name x p) (e :: es) [] pos) (dBi gg fa) := by
  refine PE.to (pe_callTy hc hg hm hv ha hn hdb he hpl) fun σ H Q ⟨m, S, ρ, R, Er, st, hf, kR, kE⟩ => ⟨m, S, ρ, _, Er, st, hf, fun xs vs S1 H1 hx st1 p1 d1 => ?_, kE⟩
  exact hr n S1 H1 xs vs R Q st1.wd.sm d1 hx fun z w S3 H3 hz g dz => kR z w S3 H3 hz (st1.grow g) (p1.trans g.po.wk) dz
/-- a built-in function that the module names -/
theorem je_bif {id : String} {x : Str} {p : Pos} {r : List V → Hp → VK → Prop} {gg : List DV → (DV → Prop) → Prop} (hc : CallR X (.builtin id) r) (hr : CaD X.K r gg) (hg : Gl X x) (hm : X.mg x = some (.builtin id))
    (ha : JAO X n W κ (e :: es) fa) (hdb : (x == ("__debug__" : Str)) = false) (he : starEach (e :: es) X.env = (false, eval e X.env) :: starEach es X.env) (hpl : (backTo pos (starEach es X.env)).any (·.1) = false) :
    JE X n W κ (.Call (.Name x p) (e :: es) [] pos) (dBi gg fa) := by
  refine PE.to (pe_callBfun hc hg hm ha hdb he hpl) fun σ H Q ⟨m, S, ρ, R, Er, st, hf, kR, kE⟩ => ⟨m, S, ρ, _, Er, st, hf, fun xs vs S1 H1 hx st1 p1 d1 => ?_, kE⟩
  exact hr n S1 H1 xs vs R Q st1.wd.sm d1 hx fun z w S3 H3 hz g dz => kR z w S3 H3 hz (st1.grow g) (p1.trans g.po.wk) dz
end
end Wb
/-! Wb6: calls of one's own defs, isinstance, walks, targets, comprehensions. -/
namespace Wb
open PySem PySem.Spec PyProof.Rows L2

/-! ### the promise of a def, by its meaning g; κ: how often it draws at most -/
def spD (K : Frag) (CT : Nat → Addr) (κ : Nat) (g : Fn) : Sp := fun vs H Q E => ∃ wl m S xs R Er, Wd wl (m + κ) S H ∧ DvAll K (En.of CT wl S H) S vs xs ∧ g xs R Er ∧
  (∀ x v S' H', R x → Wd wl m S' H' → Post wl S H S' H' → DvOk K (En.of CT wl S H) S' v x → Q v H') ∧
  (∀ c x cls dx S' H', Er c x → Wd wl m S' H' → Post wl S H S' H' → ErrOk K (En.of CT wl S H) S' H' c x cls dx → E cls dx H')
theorem spD_imp {K : Frag} {CT : Nat → Addr} {κ : Nat} {g g' : Fn} (h : ∀ xs R Er, g' xs R Er → g xs R Er) : ∀ vs H Q E, spD K CT κ g' vs H Q E → spD K CT κ g vs H Q E :=
  fun vs H Q E ⟨wl, m, S, xs, R, Er, w, d, hg, kR, kE⟩ => ⟨wl, m, S, xs, R, Er, w, d, h _ _ _ hg, kR, kE⟩
theorem dv_en {K : Frag} {n n' : En} {S : Hp} {v : V} (h1 : n'.CT = n.CT) (h2 : n'.wl = n.wl) : ∀ {x : DV}, DvOk K n S v x → DvOk K n' S v x
  | .d _, h => h
  | .exc _ _, ⟨a, dd, v', e1, e2, e3, e4⟩ => ⟨a, dd, v', e1, by rw [h1]; exact e2, e3, e4⟩
  | .well none, ⟨p, e1, e2⟩ => ⟨p, e1, by rw [h2]; exact e2⟩
  | .well (some _), h => h
theorem dvAll_en {K : Frag} {n n' : En} {S : Hp} (h1 : n'.CT = n.CT) (h2 : n'.wl = n.wl) : ∀ {vs : List V} {xs : List DV}, DvAll K n S vs xs → DvAll K n' S vs xs
  | _, _, .nil => .nil
  | _, _, .cons h t => .cons (dv_en h1 h2 h) (dvAll_en h1 h2 t)
/-- a def as it stands: where, its promise -/
structure DefG (P : Program) (w : World) (K : Frag) (mg : Str → Option Value) (base : Heap) (x : Str) (ps : List Str) (k : Nat) (f : Addr) (fd : FuncData) (sp : Sp) : Prop where
  fn : FnG P w K mg base k f fd ps sp
  mgx : mg x = some (.ref f)
  kp : PySem.W.keepIn K (.ref f) = true
  b : Binds K fd ps []
theorem DefG.mono {P : Program} {w : World} {K : Frag} {mg : Str → Option Value} {base : Heap} {x : Str} {ps : List Str} {j k : Nat} {f : Addr} {fd : FuncData} {sp : Sp} (d : DefG P w K mg base x ps j f fd sp) (h : j ≤ k) : DefG P w K mg base x ps k f fd sp :=
  ⟨d.fn.mono h, d.mgx, d.kp, d.b⟩
theorem DefG.imp {P : Program} {w : World} {K : Frag} {mg : Str → Option Value} {base : Heap} {x : Str} {ps : List Str} {k : Nat} {f : Addr} {fd : FuncData} {sp sp' : Sp} (d : DefG P w K mg base x ps k f fd sp) (h : ∀ vs H Q E, sp' vs H Q E → sp vs H Q E) :
    DefG P w K mg base x ps k f fd sp' := ⟨d.fn.imp h, d.mgx, d.kp, d.b⟩
section
variable {X : Cx} {n : En} {W : WX} {κ κ' κ2 κf k k' : Nat} {e a b c : Expr} {es : List Expr} {pos : Pos} {f h g : DE} {fa fk : DA} {t u : DT} {G : Fn}
theorem call_spD {vs : List V} {xs : List DV} {m : Nat} {S H : Hp} {σ : L2.St} {ρ : List Sl} {R : DV → Prop} {Er : EK} {Q : VK} (st : StOk X.K n (m + κf) S H σ ρ) (d : DvAll X.K n S vs xs) (hg : G xs R Er)
    (kR : ∀ x v S' H', R x → StOk X.K n m S' H' σ ρ → Post n.wl S H S' H' → DvOk X.K n S' v x → Q v H') (kE : KErr X.K n W m S σ ρ Er) :
    spD X.K n.CT κf G vs H Q fun cls dx H' => W cls dx σ H' :=
  ⟨n.wl, m, S, xs, R, Er, st.wd, dvAll_en (n := n) (n' := En.of n.CT n.wl S H) rfl rfl d, hg, fun x v S' H' hx w p dx => kR x v S' H' hx (st.step p w) p (dv_en (n' := n) rfl rfl dx), fun c x cls dx S' H' hx w p er => kE c x cls dx S' H' hx (st.step p w) er p.sS⟩
theorem je_call {x : Str} {ps : List Str} {ff : Addr} {fd : FuncData} {p : Pos} (F : DefG X.prog X.w X.K X.mg X.base x ps k ff fd (spD X.K n.CT κf G)) (C : Cok X n W k') (hk : k ≤ k') (ha : JA X n W κ (e :: es) fa) (hg : Gl X x)
    (hdb : (x == ("__debug__" : Str)) = false) (he : starEach (e :: es) X.env = (false, eval e X.env) :: starEach es X.env) (hpl : (backTo pos (starEach es X.env)).any (·.1) = false) :
    JE X n W (κ + κf) (.Call (.Name x p) (e :: es) [] pos) (dCall G fa) := by
  refine PE.to (pe_callG F.fn C.hg (C.hr.mono hk) C.tk hg F.mgx F.kp F.b ha hdb he hpl) fun σ H Q ⟨m, S, ρ, R, Er, st, hf, kR, kE⟩ => ⟨m + κf, S, ρ, _, Er, st_split st, hf, fun xs vs S1 H1 hx st1 p1 d1 => ?_, fun c x cls dx S' H' e s' er => kE c x cls dx S' H' e (st_down s') er⟩
  exact call_spD st1 d1 hx (fun x v S' H' hx s' p' => kR x v S' H' hx s' (p1.trans p')) (ke_af p1.sS kE)
theorem je_call0 {x : Str} {ff : Addr} {fd : FuncData} {p : Pos} (F : DefG X.prog X.w X.K X.mg X.base x [] k ff fd (spD X.K n.CT κf G)) (C : Cok X n W k') (hk : k ≤ k') (hg : Gl X x) (hdb : (x == ("__debug__" : Str)) = false) :
    JE X n W κf (.Call (.Name x p) [] [] pos) (dCall G aNil) := by
  refine PE.to (pe_callG0 F.fn C.hg (C.hr.mono hk) C.tk hg F.mgx F.kp F.b hdb) fun σ H Q ⟨m, S, ρ, R, Er, st, hf, kR, kE⟩ => ?_
  exact call_spD (vs := []) (xs := []) st .nil hf kR kE
/-- keywords -/
theorem jk_of {kws : List Keyword} {ta : TA} (h : PK X kws ta) {ta' : TA} (i : ∀ σ H Q, ta' σ H Q → ta σ H Q) : PK X kws ta' := ⟨fun pos pins s σ H Q I q => h.run pos pins s σ H Q I (i σ H Q q)⟩
abbrev JK (X : Cx) (n : En) (W : WX) (κ : Nat) (kws : List Keyword) (f : DA) : Prop := PK X kws (rdA X.K n W κ f)
theorem jk_nil : JK X n W 0 [] aNil := jk_of pk_nil fun σ H Q ⟨m, S, ρ, R, Er, st, hf, kR, _⟩ => kR [] [] S H hf st Post.refl .nil
theorem jk_cons {kws : List Keyword} {fr : DA} {nm : Option Str} {kpos : Pos} (ha : JE X n W κ e f) (hb : JK X n W κ' kws fr) : JK X n W (κ + κ') (⟨nm, e, kpos⟩ :: kws) (aCons f fr) := by
  refine jk_of (pk_cons ha hb) fun σ H Q ⟨m, S, ρ, R, Er, st, hf, kR, kE⟩ => ⟨m + κ', S, ρ, _, Er, st_split st, hf, fun x v S1 H1 hx st1 p1 d1 => ?_, fun c x cls dx S' H' e s' er => kE c x cls dx S' H' e (st_down s') er⟩
  exact ⟨m, S1, ρ, _, Er, st1, hx, fun xs vs S2 H2 hx st2 p2 d2 => kR _ _ S2 H2 hx st2 (p1.trans p2) (.cons (dv_mono p2.sS d1) d2), ke_af p1.sS kE⟩
/-- a call's positional values and keywords' values in the parameters' order -/
def dCallK (G : Fn) (gD : List DV → List DV → List DV) (fa fk : DA) : DE := fun ρ R E => fa ρ (fun xs => fk ρ (fun ys => G (gD xs ys) R E) E) E
theorem je_callK {x : Str} {ps ks : List Str} {ff : Addr} {fd : FuncData} {p : Pos} {kws : List Keyword} {gg : List Value → List Value → List Value} {gV : List V → List V → List V} {gD : List DV → List DV → List DV}
    (F : DefG X.prog X.w X.K X.mg X.base x ps k ff fd (spD X.K n.CT κf G)) (C : Cok X n W k') (hk : k ≤ k') (hb : KBinds X.K fd ps ks gg gV) (hD : ∀ S vs xs zs ys, DvAll X.K n S vs xs → DvAll X.K n S zs ys → DvAll X.K n S (gV vs zs) (gD xs ys))
    (ha : JA X n W κ (e :: es) fa) (hkw : JK X n W κ' kws fk) (hg : Gl X x) (hall : (backToKw pos (keywordEach kws X.env)).all (·.1.isSome) = true)
    (hks : (backToKw pos (keywordEach kws X.env)).filterMap (·.1) = ks) (hdb : (x == ("__debug__" : Str)) = false)
    (he : starEach (e :: es) X.env = (false, eval e X.env) :: starEach es X.env) (hpl : ((backTo pos (starEach (e :: es) X.env)).any (·.1) || (backToKw pos (keywordEach kws X.env)).any (·.1.isNone)) = false) :
    JE X n W (κ + (κ' + κf)) (.Call (.Name x p) (e :: es) kws pos) (dCallK G gD fa fk) := by
  refine PE.to (pe_callGK F.fn C.hg (C.hr.mono hk) C.tk hg F.mgx F.kp hb ha hkw hall hks hdb he hpl) fun σ H Q ⟨m, S, ρ, R, Er, st, hf, kR, kE⟩ => ⟨m + (κ' + κf), S, ρ, _, Er, st_split st, hf, fun xs vs S1 H1 hx st1 p1 d1 => ?_, fun c x cls dx S' H' e s' er => kE c x cls dx S' H' e (st_down s') er⟩
  refine ⟨m + κf, S1, ρ, _, Er, st_split st1, hx, fun ys zs S2 H2 hy st2 p2 d2 => ?_, fun c x cls dx S' H' e s' er q => kE c x cls dx S' H' e (st_down s') er (p1.sS.trans q)⟩
  exact call_spD st2 (hD S2 _ _ _ _ (dvAll_mono p2.sS d1) d2) hy (fun x v S' H' hx s' p' => kR x v S' H' hx s' ((p1.trans p2).trans p')) (ke_af (p1.trans p2).sS kE)
theorem je_callK0 {x : Str} {ps ks : List Str} {ff : Addr} {fd : FuncData} {p : Pos} {kws : List Keyword} {gg : List Value → List Value → List Value} {gV : List V → List V → List V} {gD : List DV → List DV → List DV}
    (F : DefG X.prog X.w X.K X.mg X.base x ps k ff fd (spD X.K n.CT κf G)) (C : Cok X n W k') (hk : k ≤ k') (hb : KBinds X.K fd ps ks gg gV) (hD : ∀ S vs xs zs ys, DvAll X.K n S vs xs → DvAll X.K n S zs ys → DvAll X.K n S (gV vs zs) (gD xs ys))
    (hkw : JK X n W κ' kws fk) (hg : Gl X x) (hall : (backToKw pos (keywordEach kws X.env)).all (·.1.isSome) = true)
    (hks : (backToKw pos (keywordEach kws X.env)).filterMap (·.1) = ks) (hdb : (x == ("__debug__" : Str)) = false) (hpl : (backToKw pos (keywordEach kws X.env)).any (·.1.isNone) = false) :
    JE X n W (κ' + κf) (.Call (.Name x p) [] kws pos) (dCallK G gD aNil fk) := by
  refine PE.to (pe_callGK0 F.fn C.hg (C.hr.mono hk) C.tk hg F.mgx F.kp hb hkw hall hks hdb hpl) fun σ H Q ⟨m, S, ρ, R, Er, st, hf, kR, kE⟩ => ?_
  refine ⟨m + κf, S, ρ, _, Er, st_split st, hf, fun ys zs S2 H2 hy st2 p2 d2 => ?_, fun c x cls dx S' H' e s' er => kE c x cls dx S' H' e (st_down s') er⟩
  exact call_spD st2 (hD S2 [] [] _ _ .nil d2) hy (fun x v S' H' hx s' p' => kR x v S' H' hx s' (p2.trans p')) (ke_af p2.sS kE)

/-! ### isinstance -/
theorem ty_of {K : Frag} {n : En} {S H : Hp} {v : V} {x : PD} (sm : Same S H) (h : RdOk K n S H v (.d x)) : TyX K H v (.type (tyD x)) := by
  have q := h.dq sm
  cases q with
  | non => exact .base .non
  | bl b => exact .base (.bl b)
  | int i => exact .base (.int i)
  | str x => exact .base (.str x)
  | lst h1 _ => exact .base (.lst h1)
  | tup h1 _ =>
    rcases h1 with (h1 | ⟨o, h1⟩) | ⟨o, its, k, e1, e2, _⟩
    · exact .base (.tup h1)
    · exact .fTuple h1
    · exact .kTuple e1 e2
def kitTypes : List String := ["NoneType", "bool", "int", "str", "list", "tuple"]
theorem kit_tyD {K : Frag} {T : String} (hT : (kitTypes.all fun t => decide (kitB t T = some (subTy t T))) = true) (x : PD) (hd : tyD x ≠ "dict") : PySem.W.kitOne K (.type (tyD x)) (.type T) = some (subTy (tyD x) T) := by
  have all : ∀ t ∈ kitTypes, kitB t T = some (subTy t T) := fun t ht => of_decide_eq_true (List.all_eq_true.mp hT t ht)
  refine kit_ty (all _ ?_)
  cases x <;> first | exact absurd rfl hd | (simp [tyD, kitTypes])
theorem tyD_nd {K : Frag} {S : Hp} {v : V} {x : PD} (h : Dq K S v x) : tyD x ≠ "dict" := by
  cases h <;> simp [tyD]
/-- isinstance(e, T), T a built-in class -/
theorem je_isi {x : Str} {T : String} {p p2 : Pos} (hT : (kitTypes.all fun t => decide (kitB t T = some (subTy t T))) = true) (hgI : Gl X "isinstance") (hmI : X.mg "isinstance" = none) (hg : Gl X x) (hm : X.mg x = none) (hv : bootBuiltins x = some (.type T)) (hn : x ≠ "__name__") (hdb : (x == ("__debug__" : Str)) = false)
    (ha : JO X n W κ a f) (he : starEach [a, .Name x p2] X.env = (false, eval a X.env) :: starEach [.Name x p2] X.env) (he2 : starEach [.Name x p2] X.env = (false, eval (.Name x p2) X.env) :: starEach [] X.env)
    (hpl : (backTo pos (starEach [.Name x p2] X.env)).any (·.1) = false) : JE X n W κ (.Call (.Name "isinstance" p) [a, .Name x p2] [] pos) (d1 (gIsi T) f) := by
  refine PE.to (pe_callB call_isi hgI hmI (by decide +kernel) (pa_cons ha (pa_cons (pe_bltn (v := .ty T) hg hm hv rfl hn hdb) pa_nil he2) he) (by decide) (by decide) he hpl) fun σ H Q ⟨m, S, ρ, R, Er, st, hf, kR, kE⟩ => ⟨m, S, ρ, _, Er, st, hf, fun x v S1 H1 hx st1 p1 d1 => ?_, kE⟩
  cases x with
  | exc _ _ => exact hx.elim
  | well => exact hx.elim
  | d x => exact ⟨v, .ty T, _, _, _, rfl, .ty T, ty_of st1.wd.sm d1, kit_tyD hT x (tyD_nd (d1.dq st1.wd.sm)), kR _ _ S1 H1 hx st1 p1 (.bl _)⟩
/-- isinstance(e, C), C a class of errors (number c'), e None or a kept error -/
def gIsE (c' : Nat) (sub : Nat → Nat → Bool) : DV → (DV → Prop) → Prop
  | .d .none, R => R (.d (.bool false))
  | .exc c _, R => R (.d (.bool (sub c c')))
  | _, _ => False
theorem je_isE {x : Str} {C : Addr} {c' : Nat} {sub : Nat → Nat → Bool} {p p2 : Pos} (hgI : Gl X "isinstance") (hmI : X.mg "isinstance" = none) (hg : Gl X x) (hm : X.mg x = some (.ref C)) (hdb : (x == ("__debug__" : Str)) = false)
    (hN : PySem.W.kitOne X.K (.type "NoneType") (.ref C) = some false) (hI : ∀ c, IsC X.K (n.CT c)) (hL : ∀ c, PySem.W.kitOne X.K (.ref (n.CT c)) (.ref C) = some (sub c c'))
    (ha : JO X n W κ a f) (he : starEach [a, .Name x p2] X.env = (false, eval a X.env) :: starEach [.Name x p2] X.env) (he2 : starEach [.Name x p2] X.env = (false, eval (.Name x p2) X.env) :: starEach [] X.env)
    (hpl : (backTo pos (starEach [.Name x p2] X.env)).any (·.1) = false) : JE X n W κ (.Call (.Name "isinstance" p) [a, .Name x p2] [] pos) (d1 (gIsE c' sub) f) := by
  have call : CallR X (.builtin "isinstance") (fun xs H Q => rIsi X.K xs H Q ∨ rIsK X.K xs H Q) := fun pins s σ H xs us Q I r h => h.elim (call_isi pins s σ H xs us Q I r) (call_isK pins s σ H xs us Q I r)
  refine PE.to (pe_callB call hgI hmI (by decide +kernel) (pa_cons ha (pa_cons (pe_glob (v := .ref C) hg hm rfl hdb) pa_nil he2) he) (by decide) (by decide) he hpl) fun σ H Q ⟨m, S, ρ, R, Er, st, hf, kR, kE⟩ => ⟨m, S, ρ, _, Er, st, hf, fun x v S1 H1 hx st1 p1 d1 => ?_, kE⟩
  cases x with
  | well => exact hx.elim
  | d x =>
    cases x with
    | none => exact .inl ⟨v, .ref C, _, _, _, rfl, .own C, ty_of st1.wd.sm d1, hN, kR _ _ S1 H1 hx st1 p1 (.bl _)⟩
    | _ => exact hx.elim
  | exc c x =>
    rcases d1 with ⟨aa, dd, v', rfl, h1, h2, _⟩ | ⟨_, _, _, _, e, _⟩
    · exact .inr ⟨aa, _, dd, _, .ref C, .ref C, _, rfl, st1.wd.sm _ _ h1, st1.wd.sm _ _ h2, hI c, fun u r => r, hL c, kR _ _ S1 H1 hx st1 p1 (.bl _)⟩
    · cases e
/-- e.value -/
def gVal : DV → (DV → Prop) → Prop
  | .exc _ x, R => R (.d x)
  | _, _ => False
theorem je_value {D fI : Addr} (hE : ∀ c, ErrCls X.K D fI (n.CT c)) (ha : JO X n W κ a f) (hb : attributeBase a "value" X.env (eval a X.env) = eval a X.env) : JE X n W κ (.Attribute a "value" pos) (d1 gVal f) := by
  refine PE.to (pe_value (D := D) (fI := fI) ha hb) fun σ H Q ⟨m, S, ρ, R, Er, st, hf, kR, kE⟩ => ⟨m, S, ρ, _, Er, st, hf, fun x v S1 H1 hx st1 p1 d1 => ?_, kE⟩
  cases x with
  | well => exact hx.elim
  | d x => exact hx.elim
  | exc c x =>
    rcases d1 with ⟨aa, dd, v', rfl, h1, h2, h3⟩ | ⟨_, _, _, _, e, _⟩
    · exact ⟨aa, _, dd, v', rfl, hE c, st1.wd.sm _ _ h1, st1.wd.sm _ _ h2, kR _ _ S1 H1 hx st1 p1 h3⟩
    · cases e

/-! ### walks -/
/-- J goes through xs, wherever the data of S stand -/
def ItD (K : Frag) (J : It) (xs : List PD) (S : Hp) : Prop := ∀ S' H', Same S S' → Same S' H' → (∀ i, i < xs.length → J.go i H') ∧ (∀ i, xs.length ≤ i → J.stop i H') ∧
  ∀ i x H'', i < xs.length → J.yld i H' x H'' → ∃ S'' d, Grow S' H' S'' H'' ∧ xs[i]? = some d ∧ Dq K S'' x d
def rdI (K : Frag) (n : En) (W : WX) (κ : Nat) (f : DN) : TI := fun σ H Rr => ∃ m S ρ R Er, StOk K n (m + κ) S H σ ρ ∧ f ρ R Er ∧
  (∀ xs J S' H', R xs → StOk K n m S' H' σ ρ → Post n.wl S H S' H' → ItD K J xs S' → Rr J H') ∧
  KErr K n W m S σ ρ Er
abbrev JI (X : Cx) (n : En) (W : WX) (κ : Nat) (tg e : Expr) (f : DN) : Prop := PI X tg e (rdI X.K n W κ f)
theorem PI.to {tg e : Expr} {t t' : TI} (h : PI X tg e t) (i : ∀ σ H R, t' σ H R → t σ H R) : PI X tg e t' := ⟨fun pins s σ H R I q => h.run pins s σ H R I (i σ H R q)⟩
def seqS : Option (List Int) → (List PD → Prop) → Prop
  | some ns, R => R (ns.map .int)
  | _, _ => False
def seqD : DV → (List PD → Prop) → Prop
  | .well o, R => seqS o R
  | .d (.list xs), R => R xs
  | .d (.tuple xs), R => R xs
  | _, _ => False
def iSeq (f : DE) : DN := fun ρ R E => f ρ (fun x => seqD x R) E
/-- a list or a tuple -/
def iLT (K : Frag) (tl : TE) : TI := fun σ H R => tl σ H fun x H1 => ∃ a, x = .ref a ∧ (((∃ xs, SqL K H1 a xs) ∧ R (Itl K a) H1) ∨ ((∃ xs, SqT K H1 a xs) ∧ R (Itt K a) H1))
theorem pi_lt {tg l : Expr} {tl : TE} (hl : PE X l tl) : PI X tg l (iLT X.K tl) := by
  refine ⟨fun pins s σ H R I h => ?_⟩
  refine thn (hl.run pins s σ H _ I h) fun v s1 ⟨x, H1, I1, r1, q1⟩ => ?_
  have frs : ∀ b ∈ [s1.heap.objs.size], FpOk X pins H1 b := fun b hb => by
    have e : b = s1.heap.objs.size := by simpa using hb
    subst e
    exact I1.fpOk (Nat.le_refl _) (I1.hok.fresh (Nat.le_refl _))
  obtain ⟨a, rfl, ⟨⟨xs, hq⟩, q⟩ | ⟨⟨xs, hq⟩, q⟩⟩ := q1
  · cases r1
    obtain ⟨its, rv, p, hz⟩ := I1.list hq
    refine wpAny_pyIter_list p.isList ?_
    exact ⟨s1.heap.objs.size, [s1.heap.objs.size], _, _, H1, rfl, I1.kept (t' := s1.toks) fun b o e => Heap.get?_push_of_some _ e, turn_list a _, ⟨_, Heap.get?_push_size _ rfl, rfl, rfl⟩, frs, q⟩
  · cases r1
    obtain ⟨its, rv, p, hz⟩ := I1.tuple hq
    refine wpAny_pyIter_tuple (show s1.heap.IsTuple a its.toArray from p) ?_
    exact ⟨s1.heap.objs.size, [s1.heap.objs.size], _, _, H1, rfl, I1.kept (t' := s1.toks) fun b o e => Heap.get?_push_of_some _ e, turn_tuple a _, ⟨_, Heap.get?_push_size _ rfl, rfl, rfl⟩, frs, q⟩
theorem itd_list {K : Frag} {S : Hp} {a : Addr} {vs : List V} {xs : List PD} (h : SqL K S a vs) (d : DqAll K S vs xs) : ItD K (Itl K a) xs S := by
  intro S' H' e1 e2
  have q : SqL K H' a vs := e2.seq (e1.seq h)
  have dl := d.len
  refine ⟨fun i hi => ⟨vs, vs[i]'(by omega), q, by simp [show i < vs.length by omega]⟩, fun i hi => ⟨vs, q, by omega⟩, fun i x H'' _ y => ?_⟩
  obtain ⟨rfl, y⟩ := y
  obtain ⟨dd, h1, h2⟩ := d.atV (y vs q)
  exact ⟨S', dd, Grow.refl e2, h1, dq_mono e1 h2⟩
theorem itd_tup {K : Frag} {S : Hp} {a : Addr} {vs : List V} {xs : List PD} (h : SqT K S a vs) (d : DqAll K S vs xs) : ItD K (Itt K a) xs S := by
  intro S' H' e1 e2
  have q : SqT K H' a vs := sqT_mono e2 (sqT_mono e1 h)
  have dl := d.len
  refine ⟨fun i hi => ⟨vs, vs[i]'(by omega), q, by simp [show i < vs.length by omega]⟩, fun i hi => ⟨vs, q, by omega⟩, fun i x H'' _ y => ?_⟩
  obtain ⟨rfl, y⟩ := y
  obtain ⟨dd, h1, h2⟩ := d.atV (y vs q)
  exact ⟨S', dd, Grow.refl e2, h1, dq_mono e1 h2⟩
theorem ji_seq {tg : Expr} (he : JE X n W κ e f) : JI X n W κ tg e (iSeq f) := by
  refine PI.to (pi_lt he) fun σ H Rr ⟨m, S, ρ, R, Er, st, hf, kR, kE⟩ => ⟨m, S, ρ, _, Er, st, hf, fun x v S1 H1 hx st1 p1 d1 => ?_, kE⟩
  cases x with
  | exc _ _ => exact hx.elim
  | well o =>
    cases o with
    | none => exact hx.elim
    | some ns =>
      obtain ⟨p, rfl, hp⟩ := d1
      exact ⟨_, rfl, .inl ⟨⟨_, st1.wd.sm.seq hp⟩, kR _ _ S1 H1 hx st1 p1 (itd_list hp (DqAll.ints ns))⟩⟩
  | d x =>
    cases x with
    | list xs =>
      cases d1 with
      | lst h1 h2 => exact ⟨_, rfl, .inl ⟨⟨_, SqL.of (st1.wd.sm _ _ h1)⟩, kR xs _ S1 H1 hx st1 p1 (itd_list (SqL.of h1) h2)⟩⟩
    | tuple xs =>
      cases d1 with
      | tup h1 h2 => exact ⟨_, rfl, .inr ⟨⟨_, sqT_mono st1.wd.sm h1⟩, kR xs _ S1 H1 hx st1 p1 (itd_tup h1 h2)⟩⟩
    | _ => exact hx.elim
/-- the ints of a range -/
def rngD (lo hi : Int) : List PD := (List.range (hi - lo).toNat).map fun i : Nat => .int (lo + (i : Int))
theorem rngD_len (lo hi : Int) : (rngD lo hi).length = (hi - lo).toNat := by unfold rngD; rw [List.length_map, List.length_range]
theorem itd_rng {K : Frag} {S : Hp} {lo hi : Int} : ItD K (Itr lo (hi - lo).toNat) (rngD lo hi) S := by
  intro S' H' e1 e2
  refine ⟨fun i h => by rw [rngD_len] at h; exact h, fun i h => by rw [rngD_len] at h; exact h, fun i x H'' hi y => ?_⟩
  obtain ⟨rfl, rfl⟩ := y
  rw [rngD_len] at hi
  refine ⟨S', .int (lo + i), Grow.refl e2, ?_, .int _⟩
  unfold rngD
  rw [List.getElem?_map, List.getElem?_range hi]
  rfl
def RgB (i : Int) : Prop := -(2 ^ 62) ≤ i ∧ i < 2 ^ 62
def rg1 : List DV → (List PD → Prop) → Prop
  | [.d (.int j)], R => RgB j ∧ R (rngD 0 j)
  | _, _ => False
def rg2 : List DV → (List PD → Prop) → Prop
  | [.d (.int i), .d (.int j)], R => (RgB i ∧ RgB j) ∧ R (rngD i j)
  | _, _ => False
def iRg (gg : List DV → (List PD → Prop) → Prop) (f : DA) : DN := fun ρ R E => f ρ (fun xs => gg xs R) E
theorem ji_range1 {tg : Expr} {p : Pos} (hg : Gl X "range") (hm : X.mg "range" = none) (ha : JAO X n W κ [a] fa) (hs : starEach [a] X.env = [(false, eval a X.env)]) : JI X n W κ tg (.Call (.Name "range" p) [a] [] pos) (iRg rg1 fa) := by
  refine PI.to (pi_range1 hg hm ha hs) fun σ H Rr ⟨m, S, ρ, R, Er, st, hf, kR, kE⟩ => ⟨m, S, ρ, _, Er, st, hf, fun xs vs S1 H1 hx st1 p1 d1 => ?_, kE⟩
  match xs, d1, hx with
  | [.d (.int j)], .cons h1 .nil, ⟨⟨q1, q2⟩, hr⟩ =>
    have e := h1.int
    subst e
    refine ⟨j, rfl, q1, q2, ?_⟩
    have q := kR _ _ S1 H1 hr st1 p1 itd_rng
    simpa using q
theorem ji_range2 {tg : Expr} {p : Pos} (hg : Gl X "range") (hm : X.mg "range" = none) (ha : JAO X n W κ [a, b] fa) (hs : starEach [a, b] X.env = [(false, eval a X.env), (false, eval b X.env)]) (hs2 : starEach [b] X.env = [(false, eval b X.env)]) :
    JI X n W κ tg (.Call (.Name "range" p) [a, b] [] pos) (iRg rg2 fa) := by
  refine PI.to (pi_range2 hg hm ha hs hs2) fun σ H Rr ⟨m, S, ρ, R, Er, st, hf, kR, kE⟩ => ⟨m, S, ρ, _, Er, st, hf, fun xs vs S1 H1 hx st1 p1 d1 => ?_, kE⟩
  match xs, d1, hx with
  | [.d (.int i), .d (.int j)], .cons h1 (.cons h2 .nil), ⟨⟨⟨q1, q2⟩, q3, q4⟩, hr⟩ =>
    have e := h1.int
    have e2 := h2.int
    subst e e2
    exact ⟨i, j, rfl, ⟨q1, q2, q3, q4⟩, kR _ _ S1 H1 hr st1 p1 itd_rng⟩

/-! ### targets -/
abbrev DG := PD → List Sl → (List Sl → Prop) → Prop
abbrev DGs := List PD → List Sl → (List Sl → Prop) → Prop
/-- wr: the slots that are written -/
def rdG (K : Frag) (n : En) (wr : List Nat) (gd : DG) : TG := fun v σ H Q => ∃ m S ρ x R, StOk K n m S H σ ρ ∧ Dq K S v x ∧ gd x ρ R ∧
  ∀ ρ' σ', R ρ' → StOk K n m S H σ' ρ' → (∀ j, j ∉ wr → σ'[j]? = σ[j]?) → σ'.length = σ.length → Q σ' H
def rdGs (K : Frag) (n : En) (wr : List Nat) (gd : DGs) : TGs := fun vs σ H Q => ∃ m S ρ xs R, StOk K n m S H σ ρ ∧ DqAll K S vs xs ∧ gd xs ρ R ∧
  ∀ ρ' σ', R ρ' → StOk K n m S H σ' ρ' → (∀ j, j ∉ wr → σ'[j]? = σ[j]?) → σ'.length = σ.length → Q σ' H
abbrev JG (X : Cx) (n : En) (wr : List Nat) (tg : Expr) (gd : DG) : Prop := PG X tg (rdG X.K n wr gd)
abbrev JGs (X : Cx) (n : En) (wr : List Nat) (tg : List Expr) (gd : DGs) : Prop := PGs X tg (rdGs X.K n wr gd)
theorem PG.to {tg : Expr} {t t' : TG} (h : PG X tg t) (i : ∀ v σ H Q, t' v σ H Q → t v σ H Q) : PG X tg t' := ⟨fun pins s σ H v u Q I r q => h.run pins s σ H v u Q I r (i v σ H Q q)⟩
theorem PGs.to {tg : List Expr} {t t' : TGs} (h : PGs X tg t) (i : ∀ v σ H Q, t' v σ H Q → t v σ H Q) : PGs X tg t' := ⟨fun pins s σ H v u Q I r q => h.run pins s σ H v u Q I r (i v σ H Q q)⟩
def gNm (i : Nat) : DG := fun x ρ R => R (ρ.set i (.v (.d x)))
def gTp (g : DGs) : DG := fun x ρ R => match x with
  | .tuple xs => g xs ρ R
  | _ => False
def gsNil : DGs := fun xs ρ R => xs = [] ∧ R ρ
def gsCons (g : DG) (h : DGs) : DGs := fun xs ρ R => match xs with
  | x :: r => g x ρ fun ρ' => h r ρ' R
  | [] => False
theorem jg_name {i : Nat} {x : Str} (hN : X.N.Nodup) (hi : X.N[i]? = some x) (hx : Loc X.env.scope x) (hf : X.fn x = true ∨ X.env.scope.names.lookup x = some .local) : JG X n [i] (.Name x pos) (gNm i) := by
  refine PG.to (pg_name hN hi hx hf) fun v σ H Q ⟨m, S, ρ, x, R, st, d, hr, k⟩ => ?_
  exact k _ _ hr (st.set d) (fun j hj => List.getElem?_set_ne (fun z => hj (by simp [z]))) (List.length_set ..)
theorem jgs_nil : JGs X n [] [] gsNil := by
  refine PGs.to pgs_nil fun vs σ H Q ⟨m, S, ρ, xs, R, st, d, hr, k⟩ => ?_
  obtain ⟨rfl, hr⟩ := hr
  cases d
  exact ⟨rfl, k _ _ hr st (fun _ _ => rfl) rfl⟩
theorem jgs_cons {es : List Expr} {w1 w2 : List Nat} {g1 : DG} {g2 : DGs} (h1 : JG X n w1 e g1) (h2 : JGs X n w2 es g2) (hs : (assignEach (e :: es) X.env).map (·.2) = assign e X.env :: (assignEach es X.env).map (·.2)) : JGs X n (w1 ++ w2) (e :: es) (gsCons g1 g2) := by
  refine PGs.to (pgs_cons h1 h2 hs) fun vs σ H Q ⟨m, S, ρ, xs, R, st, d, hr, k⟩ => ?_
  cases d with
  | nil => exact hr.elim
  | cons d1 d2 =>
    refine ⟨_, _, rfl, m, S, ρ, _, _, st, d1, hr, fun ρ1 σ1 hr1 st1 o1 l1 => ?_⟩
    refine ⟨m, S, ρ1, _, R, st1, d2, hr1, fun ρ2 σ2 hr2 st2 o2 l2 => k _ _ hr2 st2 (fun j hj => ?_) (l2.trans l1)⟩
    rw [List.mem_append, not_or] at hj
    rw [o2 j hj.2, o1 j hj.1]
theorem jg_tup {es : List Expr} {kk nn : Nat} {wr : List Nat} {g : DGs} (hc : X.calm = true) (h : JGs X n wr es g) (hn : (assignEach es X.env).length = nn) (hst : (assignEach es X.env).findIdx? (·.1) = none) (hlen : ∀ xs ρ R, g xs ρ R → xs.length = nn) :
    JG X n wr (.Tuple es kk pos) (gTp g) := by
  refine PG.to (pg_tup hc h hn hst) fun v σ H Q ⟨m, S, ρ, x, R, st, d, hr, k⟩ => ?_
  cases d with
  | tup h1 h2 => exact ⟨_, _, rfl, sqT_mono st.wd.sm h1, by rw [h2.len]; exact hlen _ _ _ hr, m, S, ρ, _, R, st, h2, hr, k⟩
  | _ => exact hr.elim
theorem gs_len0 : ∀ xs ρ R, gsNil xs ρ R → xs.length = 0 := fun xs ρ R h => by rw [h.1]; rfl
theorem gs_len1 {g : DG} {h : DGs} {k : Nat} (mono : ∀ x ρ R, g x ρ R → ∃ ρ', R ρ') (hh : ∀ xs ρ R, h xs ρ R → xs.length = k) : ∀ xs ρ R, gsCons g h xs ρ R → xs.length = k + 1 := fun xs ρ R q => by
  cases xs with
  | nil => exact q.elim
  | cons x r =>
    obtain ⟨ρ', z⟩ := mono x ρ _ q
    rw [List.length_cons, hh r ρ' R z]
theorem gm_name {i : Nat} : ∀ x ρ R, gNm i x ρ R → ∃ ρ', R ρ' := fun _ _ _ h => ⟨_, h⟩
theorem gm_tup {g : DGs} (h : ∀ xs ρ R, g xs ρ R → ∃ ρ', R ρ') : ∀ x ρ R, gTp g x ρ R → ∃ ρ', R ρ' := fun x ρ R q => by
  cases x with
  | tuple xs => exact h _ _ _ q
  | _ => exact q.elim
theorem gm_nil : ∀ xs ρ R, gsNil xs ρ R → ∃ ρ', R ρ' := fun _ ρ _ h => ⟨ρ, h.2⟩
theorem gm_cons {g : DG} {h : DGs} (m1 : ∀ x ρ R, g x ρ R → ∃ ρ', R ρ') (m2 : ∀ xs ρ R, h xs ρ R → ∃ ρ', R ρ') : ∀ xs ρ R, gsCons g h xs ρ R → ∃ ρ', R ρ' := fun xs ρ R q => by
  cases xs with
  | nil => exact q.elim
  | cons x r =>
    obtain ⟨ρ', z⟩ := m1 x ρ _ q
    exact m2 r ρ' R z

/-! ### comprehensions -/
def wipeD (ρ : List Sl) : List Nat → List Sl
  | [] => ρ
  | v :: vs => (wipeD ρ vs).set v .no
theorem st_wipe {K : Frag} {m : Nat} {S H : Hp} {σ : L2.St} {ρ : List Sl} (st : StOk K n m S H σ ρ) : ∀ vs, StOk K n m S H (wipe σ vs) (wipeD ρ vs)
  | [] => st
  | v :: vs => by
    unfold wipe wipeD
    exact (st_wipe st vs).setNo
theorem wipe_same {σ σ' : L2.St} (hl : σ'.length = σ.length) : ∀ {vs : List Nat}, (∀ j, j ∉ vs → σ'[j]? = σ[j]?) → wipe σ' vs = wipe σ vs := by
  have get : ∀ (τ : L2.St) (vs : List Nat) (j : Nat), (wipe τ vs)[j]? = if j ∈ vs ∧ j < τ.length then some none else τ[j]? := fun τ vs j => by
    induction vs with
    | nil => simp [wipe]
    | cons v r ih =>
      unfold wipe
      by_cases hv : v = j
      · subst hv
        by_cases hj : v < τ.length
        · rw [List.getElem?_set_self (by rw [wipe_length]; exact hj)]
          simp [hj]
        · rw [List.getElem?_eq_none (by rw [List.length_set, wipe_length]; omega)]
          simp [hj]
      · rw [List.getElem?_set_ne hv, ih]
        have : (j = v ∨ j ∈ r) ↔ j ∈ r := ⟨fun z => z.elim (fun y => absurd y.symm hv) id, .inr⟩
        simp [this]
  intro vs h
  apply List.ext_getElem?
  intro j
  rw [get, get, hl]
  by_cases hj : j ∈ vs
  · by_cases hz : j < σ.length
    · simp [hj, hz]
    · simp [hj, hz]
      omega
  · simp [hj, h j hj]
def WF : WX := fun _ _ _ _ => False
theorem takes_none {Y : Cx} : Takes Y WF := fun u s' ⟨_, _, _, _, _, _, _, _, _, _, _, _, _, _, _, _, w⟩ => w.elim
theorem Cok.blk {scope : Scope} (C : Cok X n W k) (s : Shared) (H : Hp) (CC : Addr) (cl : List (Str × Addr)) (fp : List Addr) : Cok (X.blk s H scope (compEnvC scope cl CC X.env) fp) n WF k :=
  ⟨C.calm, takes_none, C.hr, C.hg, C.nd⟩
def tTrue : DT := fun _ R _ => R true
abbrev JTs (X : Cx) (n : En) (W : WX) (κ : Nat) (ifs : List Expr) (f : DT) : Prop := PTs X ifs (rdT X.K n W κ f)
theorem PTs.to {ifs : List Expr} {t t' : TT} (h : PTs X ifs t) (i : ∀ σ H Q, t' σ H Q → t σ H Q) : PTs X ifs t' := ⟨fun pins s σ H Q I q => h.run pins s σ H Q I (i σ H Q q)⟩
theorem jts_nil : JTs X n W 0 [] tTrue := PTs.to pts_nil fun σ H Q ⟨m, S, ρ, R, Er, st, hf, kR, _⟩ => kR true S H hf st Post.refl
theorem jts_one (h : JT X n W κ e t) : JTs X n W κ [e] t := pts_one h
abbrev noE : EK := fun _ _ => False
/-- the items that a comprehension makes of xs -/
def lcD (gd : DG) (t : DT) (f : DE) (ρ : List Sl) : List PD → (List PD → Prop) → Prop
  | [], R => R []
  | x :: xs, R => gd x ρ fun ρ1 => t ρ1 (fun b => if b = true then f ρ1 (fun y => onD y fun d => lcD gd t f ρ xs fun ds => R (d :: ds)) noE else lcD gd t f ρ xs R) noE
/-- L: at most so many turns (what the cost is reckoned by) -/
def nLc (L : Nat) (fi : DN) (gd : DG) (t : DT) (f : DE) (own : List Nat) : DN := fun ρ R E => fi ρ (fun xs => xs.length ≤ L ∧ lcD gd t f (wipeD ρ own) xs R) E
theorem own_ne {K : Frag} {m : Nat} {S H : Hp} {σ : L2.St} {ρ : List Sl} {D : Addr} (s : StOk K n m S H σ ρ) (hD : H D = none) : ∀ (i : Nat) xs, ρ[i]? = some (Sl.own xs) → σ[i]? ≠ some (some (V.ref D)) := fun i xs e z => by
  obtain ⟨A, h1, _⟩ := s.sl
  obtain ⟨g1, _, _, _, vs, g5, _⟩ := h1 i _ e
  rw [g1] at z
  cases z
  rw [hD] at g5
  cases g5
theorem StOk.side {K : Frag} {m : Nat} {S H : Hp} {σ : L2.St} {ρ : List Sl} {D : Addr} {o : HO} (s : StOk K n m S H σ ρ) (hS : S D = none) (h0 : n.H0 D = none) (hw : n.wl ≠ some D) (ne : ∀ (i : Nat) xs, ρ[i]? = some (Sl.own xs) → σ[i]? ≠ some (some (V.ref D))) :
    StOk K n m S (upd H D o) σ ρ := by
  refine ⟨⟨fun b u e => ?_, fun p e => ?_⟩, ⟨s.po.sS, s.po.fr, fun a u e w => ?_, fun a ha => ?_⟩, s.len, ?_⟩
  · rw [upd_ne (ne_of_none e hS)]; exact s.wd.sm b u e
  · obtain ⟨q1, a, b, c, q2, q3⟩ := s.wd.we p e
    exact ⟨q1, a, b, c, by rw [upd_ne (fun z => hw (by rw [← z]; exact e))]; exact q2, q3⟩
  · rw [upd_ne (ne_of_none e h0)]; exact s.po.kp a u e w
  · by_cases z : a = D
    · rw [z, upd_same]; exact Option.some_ne_none _
    · rw [upd_ne z]; exact s.po.al a ha
  · obtain ⟨A, h1, h2⟩ := s.sl
    refine ⟨A, fun i t e => ?_, h2⟩
    have q := h1 i t e
    cases t with
    | no => exact trivial
    | v x => exact q
    | own xs =>
      obtain ⟨g1, g2, g3, g4, vs, g5, g6⟩ := q
      have : A i ≠ D := fun z => ne i xs e (by rw [g1, z])
      exact ⟨g1, g2, g3, g4, vs, by rw [upd_ne this]; exact g5, g6⟩
theorem Post.side {wl : Option Addr} {S H S' H' : Hp} {D : Addr} {o : HO} (p : Post wl S H S' H') (hD : H D = none) : Post wl S H S' (upd H' D o) :=
  ⟨p.sS, p.fr, fun a u e w => by rw [upd_ne (ne_of_none e hD)]; exact p.kp a u e w, fun a ha => by
    have : a ≠ D := fun z => ha (z ▸ hD)
    rw [upd_ne this]; exact p.al a ha⟩
theorem lcD_core {K : Frag} {m : Nat} {gd : DG} {wr : List Nat} {κt κe L : Nat} {own : List Nat} {J : It} {xs : List PD} {R : List PD → Prop} {S H : Hp} {σ : L2.St} {ρ : List Sl} {Q : VK} {D : Addr} (hL : xs.length ≤ L) (hL2 : L ≤ 100000)
    (hsub : ∀ j ∈ wr, j ∈ own) (st : StOk K n (m + L * (κt + κe)) S H σ ρ) (hJ : ItD K J xs S) (hD : H D = none) (hlc : lcD gd t f (wipeD ρ own) xs R)
    (kR : ∀ ys p vs S' H', R ys → StOk K n m S' H' σ ρ → Post n.wl S H S' H' → H p = none → S' p = none → H' p = some (.lst vs) → DqAll K S' vs ys → Q (.ref p) H') :
    ∃ Wv : Nat → Nat → Hp → Prop, (∃ m, Wv 0 m (upd H D (.lst []))) ∧ ∀ i m H, Wv i m H →
      (J.stop i H ∧ Q (.ref D) H) ∨ (J.go i H ∧ ∃ Nx : Hp → Prop, (∀ H', Nx H' → ∃ m', m' < m ∧ Wv (i + 1) m' H') ∧ ∀ x H', J.yld i H x H' → rdG K n wr gd x (wipe σ own) H' fun σ2 H2 => wipe σ2 own = wipe σ own ∧ rdT K n WF κt t σ2 H2 fun b H3 =>
        if b = true then rdE K n WF κe f σ2 H3 fun y H4 => ∃ acc, H4 D = some (.lst acc) ∧ acc.length < sizeLine ∧ Nx (upd H4 D (.lst (acc ++ [y]))) else Nx H3) := by
  -- at turn i: the data S1, the list so far stands at D beside them
  refine ⟨fun i k H1 => k = xs.length - i ∧ i ≤ xs.length ∧ ∃ S1 acc ys, StOk K n (m + (xs.length - i) * (κt + κe)) S1 H1 σ ρ ∧ Post n.wl S H S1 H1 ∧ S1 D = none ∧ H1 D = some (.lst acc) ∧ acc.length ≤ i ∧ DqAll K S1 acc ys ∧
    lcD gd t f (wipeD ρ own) (xs.drop i) fun ds => R (ys ++ ds), ⟨xs.length, by simp, Nat.zero_le _, S, [], [], ?_⟩, ?_⟩
  · have g := Grow.beside (o := .lst []) st.wd.sm hD
    refine ⟨(st.grow g).le ?_, g.po.wk, st.wd.sm.free hD, upd_same, Nat.le_refl _, .nil, ?_⟩
    · have := Nat.mul_le_mul_right (κt + κe) hL
      simp only [Nat.sub_zero]
      omega
    · simpa using hlc
  · rintro i k H1 ⟨rfl, hi, S1, acc, ys, st1, p1, sD, hacc, hal, dacc, hrest⟩
    obtain ⟨j1, j2, j3⟩ := hJ S1 H1 p1.sS st1.wd.sm
    by_cases hlt : i < xs.length
    · refine .inr ⟨j1 i hlt, fun H2 => i + 1 ≤ xs.length ∧ ∃ S2 acc ys, StOk K n (m + (xs.length - (i + 1)) * (κt + κe)) S2 H2 σ ρ ∧ Post n.wl S H S2 H2 ∧ S2 D = none ∧ H2 D = some (.lst acc) ∧ acc.length ≤ i + 1 ∧ DqAll K S2 acc ys ∧
        lcD gd t f (wipeD ρ own) (xs.drop (i + 1)) fun ds => R (ys ++ ds), fun H2 q => ⟨xs.length - (i + 1), by omega, rfl, q⟩, fun x H2 y => ?_⟩
      obtain ⟨S2, d, g2, hxd, dx⟩ := j3 i x H2 hlt y
      have wD : n.wl ≠ some D := fun z => by
        obtain ⟨_, a, b, c, hw, _⟩ := st.wd.we D z
        rw [hD] at hw
        cases hw
      have nD2 : ∀ {T G : Hp}, Post n.wl S1 H1 T G → T D = none ∧ G D = some (.lst acc) := fun {T G} p => ⟨p.fr D (by rw [hacc]; exact Option.some_ne_none _) sD, p.kp D _ hacc wD⟩
      have hdr : xs.drop i = d :: xs.drop (i + 1) := List.drop_eq_getElem_cons hlt ▸ by
        have : xs[i] = d := Option.some.inj ((List.getElem?_eq_getElem hlt).symm.trans hxd)
        rw [this]
      rw [hdr] at hrest
      have hcost : m + (xs.length - i) * (κt + κe) = (m + (xs.length - (i + 1)) * (κt + κe)) + (κt + κe) := by
        have : xs.length - i = (xs.length - (i + 1)) + 1 := by omega
        rw [this, Nat.add_mul]
        omega
      have st2 : StOk K n ((m + (xs.length - (i + 1)) * (κt + κe)) + (κt + κe)) S2 H2 σ ρ := hcost ▸ st1.grow g2
      have h0D : n.H0 D = none := by
        by_cases z : n.H0 D = none
        · exact z
        · exact absurd hD (st.po.al D z)
      have ne := own_ne st hD
      refine ⟨_, S2, _, d, _, st_wipe st2 own, dx, hrest, fun ρ' σ2 hr' st3 out ln => ⟨?_, ?_⟩⟩
      · rw [wipe_same (σ' := σ2) (σ := wipe σ own) ln fun j hj => out j fun z => hj (hsub j z)]
        exact wipe_same (wipe_length _ _) fun j hj => wipe_out hj
      · have st3' : StOk K n ((m + (xs.length - (i + 1)) * (κt + κe)) + κe + κt) S2 H2 σ2 ρ' := st3.le (by omega)
        refine ⟨_, S2, ρ', _, _, st3', hr', fun b S3 H3 hb st4 p3 => ?_, fun c x cls dx S' H' z => z.elim⟩
        cases b with
        | false =>
          simp only [Bool.false_eq_true, if_false] at hb ⊢
          have p13 := g2.po.wk.trans p3
          obtain ⟨d1, d2⟩ := nD2 p13
          exact ⟨hlt, S3, acc, ys, (st1.step p13 st4.wd).le (by omega), p1.trans p13, d1, d2, by omega, dqAll_mono p13.sS dacc, hb⟩
        | true =>
          simp only [if_true] at hb ⊢
          refine ⟨_, S3, ρ', _, _, st4, hb, fun y v S4 H4 hy st5 p4 dv => ?_, fun c x cls dx S' H' z => z.elim⟩
          cases y with
          | exc _ _ => exact hy.elim
          | well => exact hy.elim
          | d y =>
            have p14 := (g2.po.wk.trans p3).trans p4
            obtain ⟨d1, d2⟩ := nD2 p14
            refine ⟨acc, d2, by have : (100000 : Nat) < sizeLine := by decide
                                omega, hlt, S4, acc ++ [v], ys ++ [y], ((st1.step p14 st5.wd).le (by omega)).side d1 h0D wD ne, (p1.trans p14).side hD, d1, upd_same, by rw [List.length_append, List.length_singleton]; omega, (dqAll_mono p14.sS dacc).app (.cons dv .nil), ?_⟩
            have hy : lcD gd t f (wipeD ρ own) (xs.drop (i + 1)) fun ds => R (ys ++ (y :: ds)) := hy
            have e : (fun ds => R (ys ++ (y :: ds))) = fun ds => R ((ys ++ [y]) ++ ds) := by
              funext ds
              rw [List.append_assoc]
              rfl
            rw [e] at hy
            exact hy
    · have e : i = xs.length := by omega
      subst e
      refine .inl ⟨j2 _ (Nat.le_refl _), ?_⟩
      rw [List.drop_length] at hrest
      have hr : R (ys ++ []) := hrest
      rw [List.append_nil] at hr
      exact kR ys D acc S1 H1 hr (st1.le (by omega)) p1 hD sD hacc dacc
end
end Wb
/-! Wb7: comprehensions as values, statements, the rule of a def. -/
namespace Wb
open PySem PySem.Spec PyProof.Rows L2
section
variable {X : Cx} {n : En} {W : WX} {κ κ' κ2 κi κt κe κf k k' : Nat} {e a b c elt tg iter : Expr} {es ifs : List Expr} {pos : Pos} {f h g : DE} {fa fk : DA} {t u : DT} {fi : DN}
/-- [elt for tg in iter if ..] -/
theorem jn_lc {scope : Scope} {own : List (Str × Nat)} {wr : List Nat} {gd : DG} (L : Nat) (hL2 : L ≤ 100000) (hc : X.calm = true) (hN : X.N.Nodup) (hi : JI X n W κi tg iter fi) (ok : BlkOk X.N X.env.scope scope own) (hsub : ∀ j ∈ wr, j ∈ own.map (·.2))
    (hg : ∀ (s : Shared) (H : Hp) (C : Addr) (cl : List (Str × Addr)) (fp : List Addr), JG (X.blk s H scope (compEnvC scope cl C X.env) fp) n wr tg gd)
    (ht : ∀ (s : Shared) (H : Hp) (C : Addr) (cl : List (Str × Addr)) (fp : List Addr), JTs (X.blk s H scope (compEnvC scope cl C X.env) fp) n WF κt ifs t)
    (he : ∀ (s : Shared) (H : Hp) (C : Addr) (cl : List (Str × Addr)) (fp : List Addr), JE (X.blk s H scope (compEnvC scope cl C X.env) fp) n WF κe elt f) (hs : ∀ x, foldedSetIterable iter X.env x = pure x) :
    JN X n W (κi + L * (κt + κe)) (.ListComp elt [⟨tg, iter, ifs, 0⟩] scope pos) (nLc L fi gd t f (own.map (·.2))) := by
  refine PE.to (pe_lc (g := rdG X.K n wr gd) (tt := rdT X.K n WF κt t) (te := rdE X.K n WF κe f) hc hN hi ok hg ht he hs) fun σ H Q ⟨m, S, ρ, R, Er, st, hf, kR, kE⟩ => ?_
  refine ⟨m + L * (κt + κe), S, ρ, _, Er, st_split st, hf, fun xs J S1 H1 hx st1 p1 hJ D hD => ?_, fun c x cls dx S' H' e s' er => kE c x cls dx S' H' e (st_down s') er⟩
  have nH : ∀ a, H1 a = none → H a = none := fun a z => by
    cases q : H a with
    | none => rfl
    | some o => exact absurd z (p1.al a (by rw [q]; exact Option.some_ne_none _))
  exact lcD_core hx.1 hL2 hsub st1 hJ hD hx.2 fun ys p vs S' H' hy st' p' hp sp hp' d => kR ys p vs S' H' hy st' (p1.trans p') (nH p hp) sp hp' d

/-! ### statements -/
structure Bok (X : Cx) (n : En) (W : WX) (k : Nat) : Prop where
  c : Cok X n W k
  po : PassesOwn (model X.prog X.w) X.A X.env X.xe
def gNext : DS := fun D ρ => D.nx ρ
def gBrk : DS := fun D ρ => D.bk ρ
def gCnt : DS := fun D ρ => D.ct ρ
def gSeq (a b : DS) : DS := fun D ρ => a { D with nx := b D } ρ
def gSet (i : Nat) (f : DE) : DS := fun D ρ => f ρ (fun x => D.nx (ρ.set i (.v x))) (D.ex ρ)
def gSetN (i : Nat) (f : DN) : DS := fun D ρ => f ρ (fun xs => D.nx (ρ.set i (.own xs))) (D.ex ρ)
def gDrop (f : DE) : DS := fun D ρ => f ρ (fun _ => D.nx ρ) (D.ex ρ)
def gRet (f : DE) : DS := fun D ρ => f ρ (D.rt ρ) (D.ex ρ)
def gIfS (t : DT) (a b : DS) : DS := fun D ρ => t ρ (fun c => if c = true then a D ρ else b D ρ) (D.ex ρ)
def gRaise (c : Nat) (f : DE) : DS := fun D ρ => f ρ (fun x => onD x fun d => D.ex ρ c d) (D.ex ρ)
def gAsg (f : DE) (gd : DG) : DS := fun D ρ => f ρ (fun x => onD x fun d => gd d ρ D.nx) (D.ex ρ)
def gPar (i j : Nat) (f : DA) : DS := fun D ρ => f ρ (fun xs => match xs with
  | [x, y] => D.nx ((ρ.set i (.v x)).set j (.v y))
  | _ => False) (D.ex ρ)
def gPar3 (i j l : Nat) (f : DA) : DS := fun D ρ => f ρ (fun xs => match xs with
  | [x, y, z] => D.nx (((ρ.set i (.v x)).set j (.v y)).set l (.v z))
  | _ => False) (D.ex ρ)
def slOw : Option Sl → (List PD → Prop) → Prop
  | some (.own xs), P => P xs
  | _, _ => False
def gApp (i : Nat) (f : DE) : DS := fun D ρ => slOw ρ[i]? fun xs => f ρ (fun x => onD x fun d => xs.length ≤ 100000 ∧ D.nx (ρ.set i (.own (xs ++ [d])))) (D.ex ρ)
def onI' : DV → (Int → Prop) → Prop
  | .d (.int i), P => P i
  | _, _ => False
def gSetIx (i : Nat) (fi fe : DE) : DS := fun D ρ => slOw ρ[i]? fun xs => fe ρ (fun x => onD x fun d => fi ρ (fun ix => onI' ix fun k => ∃ j, ixN xs.length k = some j ∧ D.nx (ρ.set i (.own (xs.set j d)))) (D.ex ρ)) (D.ex ρ)
def gAugI (ff : Int → Int → Int) (i : Nat) (f : DE) : DS := fun D ρ => match ρ[i]? with
  | some (.v (.d (.int a))) => f ρ (fun x => onI' x fun b => D.nx (ρ.set i (.v (.d (.int (ff a b)))))) (D.ex ρ)
  | _ => False
/-- what a walk over xs does -/
def loopD (gd : DG) (b : DS) (D : DEnds) : List PD → List Sl → Prop
  | [], ρ => D.nx ρ
  | x :: xs, ρ => gd x ρ fun ρ1 => b { D with nx := loopD gd b D xs, ct := loopD gd b D xs, bk := D.nx } ρ1
def gFor (L : Nat) (fi : DN) (gd : DG) (b : DS) : DS := fun D ρ => fi ρ (fun xs => xs.length ≤ L ∧ loopD gd b D xs ρ) (D.ex ρ)
def gWhile (t : DT) (b : DS) : DS := fun D ρ => ∃ V : Nat → List Sl → Prop, (∃ m, V m ρ) ∧ ∀ m ρ, V m ρ → t ρ (fun c => if c = true then b { D with nx := fun ρ' => ∃ m', m' < m ∧ V m' ρ', ct := fun ρ' => ∃ m', m' < m ∧ V m' ρ', bk := D.nx } ρ else D.nx ρ) (D.ex ρ)
/-- try: .. except WebsError as e: y = e; e in slot i, y in slot j -/
def gTry (i j : Nat) (b : DS) : DS := fun D ρ => b { D with ex := fun ρ' c x => D.nx (((ρ'.set i (.v (.exc c x))).set j (.v (.exc c x))).set i .no) } ρ
def gFrz (i : Nat) (b : DS) : DS := fun D ρ => slOw ρ[i]? fun xs => b D (ρ.set i (.v (.d (.list xs))))

theorem slOw_of {o : Option Sl} {P : List PD → Prop} (h : slOw o P) : ∃ xs, o = some (.own xs) ∧ P xs := by
  cases o with
  | none => exact h.elim
  | some s =>
    cases s with
    | own xs => exact ⟨xs, rfl, h⟩
    | _ => exact h.elim
theorem onD_of {x : DV} {P : PD → Prop} (h : onD x P) : ∃ d, x = .d d ∧ P d := by
  cases x with
  | d d => exact ⟨d, rfl, h⟩
  | _ => exact h.elim
theorem onI_of {x : DV} {P : Int → Prop} (h : onI' x P) : ∃ d, x = .d (.int d) ∧ P d := by
  cases x with
  | d d =>
    cases d with
    | int i => exact ⟨i, rfl, h⟩
    | _ => exact h.elim
  | _ => exact h.elim

variable {st : Stmt} {sts body orelse : List Stmt} {ga gb : DS} {tb : DS}
theorem js_pass : JS X n W 0 (.Pass pos) gNext := PS.to ps_pass fun D σ H ⟨m, S, ρ, Dd, st, hg, ks⟩ => ks.nx ρ σ S H hg st (Same.refl S)
theorem js_break : JS X n W 0 (.Break pos) gBrk := PS.to ps_break fun D σ H ⟨m, S, ρ, Dd, st, hg, ks⟩ => ks.bk ρ σ S H hg st (Same.refl S)
theorem js_continue : JS X n W 0 (.Continue pos) gCnt := PS.to ps_continue fun D σ H ⟨m, S, ρ, Dd, st, hg, ks⟩ => ks.ct ρ σ S H hg st (Same.refl S)
theorem jb_nil : JB X n W 0 [] gNext := PSs.to pss_nil fun D σ H ⟨m, S, ρ, Dd, st, hg, ks⟩ => ks.nx ρ σ S H hg st (Same.refl S)
theorem jb_one (h : JS X n W κ st ga) : JB X n W κ [st] ga := pss_one h
theorem jb_cons (h1 : JS X n W κ st ga) (h2 : JB X n W κ' sts gb) : JB X n W (κ + κ') (st :: sts) (gSeq ga gb) := by
  refine PSs.to (pss_cons h1 h2) fun D σ H ⟨m, S, ρ, Dd, st, hg, ks⟩ => ?_
  have kd := ks.up (m' := m + κ') (by omega)
  refine ⟨m + κ', S, ρ, _, st_split st, hg, fun ρ1 σ1 S1 H1 h1 st1 s1 => ?_, kd.rt, kd.bk, kd.ct, kd.ex⟩
  exact ⟨m, S1, ρ1, Dd, st1, h1, ks.af s1⟩
theorem js_le {κa : Nat} (h : JS X n W κ st ga) (hl : κ ≤ κa) : JS X n W κa st ga := PS.to h fun D σ H ⟨m, S, ρ, Dd, st, hg, k⟩ => ⟨m, S, ρ, Dd, st.le (by omega), hg, k⟩
theorem jb_le {κa : Nat} (h : JB X n W κ sts ga) (hl : κ ≤ κa) : JB X n W κa sts ga := PSs.to h fun D σ H ⟨m, S, ρ, Dd, st, hg, k⟩ => ⟨m, S, ρ, Dd, st.le (by omega), hg, k⟩
/-- a list of one's own becomes data -/
theorem jb_frz {i : Nat} (h : JB X n W κ sts ga) : JB X n W κ sts (gFrz i ga) := by
  refine PSs.to h fun D σ H ⟨m, S, ρ, Dd, st, hg, ks⟩ => ?_
  obtain ⟨xs, hi, hg⟩ := slOw_of hg
  obtain ⟨S', e, st'⟩ := st.freeze hi
  exact ⟨m, S', _, Dd, st', hg, ks.af e⟩
theorem js_frz {i : Nat} (h : JS X n W κ st ga) : JS X n W κ st (gFrz i ga) := by
  refine PS.to h fun D σ H ⟨m, S, ρ, Dd, st, hg, ks⟩ => ?_
  obtain ⟨xs, hi, hg⟩ := slOw_of hg
  obtain ⟨S', e, st'⟩ := st.freeze hi
  exact ⟨m, S', _, Dd, st', hg, ks.af e⟩
theorem js_expr (he : JE X n W κ e f) (hs : swapsWith e none pos.line X.env = pure false) : JS X n W κ (.Expr e pos) (gDrop f) :=
  PS.to (ps_expr he hs) fun D σ H ⟨m, S, ρ, Dd, st, hg, ks⟩ => ⟨m, S, ρ, _, _, st, hg, fun x v S' H' hx st' p d => ks.nx ρ σ S' H' hx st' p.sS, ks.ke⟩
theorem js_doc {x j pos'} : JS X n W 0 (.Expr (.Constant (.str x) j pos) pos') gNext := PS.to ps_doc fun D σ H ⟨m, S, ρ, Dd, st, hg, ks⟩ => ks.nx ρ σ S H hg st (Same.refl S)
theorem js_ret (he : JE X n W κ e f) : JS X n W κ (.Return (some e) pos) (gRet f) :=
  PS.to (ps_ret he) fun D σ H ⟨m, S, ρ, Dd, st, hg, ks⟩ => ⟨m, S, ρ, _, _, st, hg, fun x v S' H' hx st' p d => ks.rt ρ σ x v S' H' hx st' d, ks.ke⟩
theorem js_set {i : Nat} {x : Str} {pos' : Pos} (hN : X.N.Nodup) (hi : X.N[i]? = some x) (hx : Loc X.env.scope x) (he : JE X n W κ e f) (hs : swapsWith e (some (.Name x pos')) pos.line X.env = pure false) (hf : X.fn x = true ∨ X.env.scope.names.lookup x = some .local) :
    JS X n W κ (.Assign [.Name x pos'] e pos) (gSet i f) :=
  PS.to (ps_set hN hi hx he hs hf) fun D σ H ⟨m, S, ρ, Dd, st, hg, ks⟩ => ⟨m, S, ρ, _, _, st, hg, fun x v S' H' hx st' p d => ks.nx _ _ S' H' hx (st'.set d) p.sS, ks.ke⟩
theorem own_new {K : Frag} {m m' : Nat} {S H S' H' : Hp} {σ : L2.St} {ρ : List Sl} {i : Nat} {p : Addr} {vs : List V} {xs : List PD} (s : StOk K n m S H σ ρ) (s' : StOk K n m' S' H' σ ρ) (np : H p = none) (sp : S' p = none) (hp : H' p = some (.lst vs)) (d : DqAll K S' vs xs) (hpa : ∀ a, n.pa a) :
    StOk K n m' S' H' (σ.set i (some (.ref p))) (ρ.set i (.own xs)) := by
  refine s'.setOwn hp sp ⟨?_, hpa p⟩ ?_ d fun A j ys h1 e1 hj z => ?_
  · by_cases z : n.H0 p = none
    · exact z
    · exact absurd np (s.po.al p z)
  · intro z
    obtain ⟨_, a, b, c, hw, _⟩ := s.wd.we p z
    rw [np] at hw
    cases hw
  · exact own_ne s np j ys e1 (by rw [(h1 j _ e1).1, z])
theorem js_setN {i : Nat} {x : Str} {pos' : Pos} {fn : DN} (hpa : ∀ a, n.pa a) (hN : X.N.Nodup) (hi : X.N[i]? = some x) (hx : Loc X.env.scope x) (he : JN X n W κ e fn) (hs : swapsWith e (some (.Name x pos')) pos.line X.env = pure false) (hf : X.fn x = true ∨ X.env.scope.names.lookup x = some .local) :
    JS X n W κ (.Assign [.Name x pos'] e pos) (gSetN i fn) :=
  PS.to (ps_set hN hi hx he hs hf) fun D σ H ⟨m, S, ρ, Dd, st, hg, ks⟩ => ⟨m, S, ρ, _, _, st, hg, fun xs p vs S' H' hx st' po np sp hp d => ks.nx _ _ S' H' hx (own_new st st' np sp hp d hpa) po.sS, ks.ke⟩
/-- name = [..] on one line -/
theorem js_setLc {i : Nat} {y : Str} {py spos : Pos} {scope : Scope} {own : List (Str × Nat)} {wr : List Nat} {gd : DG} (hpa : ∀ a, n.pa a) (L : Nat) (hL2 : L ≤ 100000) (hc : X.calm = true) (hN : X.N.Nodup) (hy : X.N[i]? = some y) (hyl : X.env.scope.names.lookup y = some .local)
    (hsw : swapsWith (.ListComp elt [⟨tg, iter, ifs, 0⟩] scope pos) (some (.Name y py)) spos.line X.env = pure true) (hi : JI X n W κi tg iter fi) (ok : BlkOk X.N X.env.scope scope own) (hsub : ∀ j ∈ wr, j ∈ own.map (·.2))
    (hg : ∀ (s : Shared) (H : Hp) (C : Addr) (cl : List (Str × Addr)) (fp : List Addr), JG (X.blk s H scope (compEnvC scope cl C X.env) fp) n wr tg gd)
    (ht : ∀ (s : Shared) (H : Hp) (C : Addr) (cl : List (Str × Addr)) (fp : List Addr), JTs (X.blk s H scope (compEnvC scope cl C X.env) fp) n WF κt ifs t)
    (he : ∀ (s : Shared) (H : Hp) (C : Addr) (cl : List (Str × Addr)) (fp : List Addr), JE (X.blk s H scope (compEnvC scope cl C X.env) fp) n WF κe elt f) (hs : ∀ x, foldedSetIterable iter X.env x = pure x) :
    JS X n W (κi + L * (κt + κe)) (.Assign [.Name y py] (.ListComp elt [⟨tg, iter, ifs, 0⟩] scope pos) spos) (gSetN i (nLc L fi gd t f (own.map (·.2)))) := by
  refine PS.to (ps_setLc (g := rdG X.K n wr gd) (tt := rdT X.K n WF κt t) (te := rdE X.K n WF κe f) hc hN hy hyl hsw hi ok hg ht he hs) fun D σ H ⟨m, S, ρ, Dd, st, hgd, ks⟩ => ?_
  refine ⟨m + L * (κt + κe), S, ρ, _, _, st_split st, hgd, fun xs J S1 H1 hx st1 p1 hJ A hD => ?_, (ks.up (by omega)).ke⟩
  exact lcD_core (Q := fun v H' => D.nx (σ.set i (some v)) H') hx.1 hL2 hsub st1 hJ hD hx.2 fun ys p vs S' H' hy st' p' hp sp hp' d => ks.nx _ _ S' H' hy (own_new st1 st' hp sp hp' d hpa) (p1.sS.trans p'.sS)
/-- the same, its list data at once -/
theorem js_asF {i : Nat} {fn : DN} (h : JS X n W κ st (gSetN i fn)) : JS X n W κ st (gSet i (dN2 fn)) := by
  refine PS.to h fun D σ H ⟨m, S, ρ, Dd, st, hg, ks⟩ => ?_
  by_cases hi : i < ρ.length
  · refine ⟨m, S, ρ, { Dd with nx := fun ρ' => slOw ρ'[i]? fun xs => Dd.nx (ρ'.set i (.v (.d (.list xs)))) }, st, ?_, fun ρ' σ' S' H' h s z => ?_, ks.rt, ks.bk, ks.ct, ks.ex⟩
    · show fn ρ (fun xs => slOw (ρ.set i (.own xs))[i]? fun xs' => Dd.nx ((ρ.set i (.own xs)).set i (.v (.d (.list xs'))))) (Dd.ex ρ)
      have e : (fun xs => slOw (ρ.set i (.own xs))[i]? fun xs' => Dd.nx ((ρ.set i (.own xs)).set i (.v (.d (.list xs'))))) = fun xs => Dd.nx (ρ.set i (.v (.d (.list xs)))) := by
        funext xs
        rw [List.getElem?_set_self hi]
        show Dd.nx ((ρ.set i (.own xs)).set i (.v (.d (.list xs)))) = _
        rw [List.set_set]
      rw [e]
      exact hg
    · obtain ⟨xs, hi, hx⟩ := slOw_of h
      obtain ⟨S2, e, s2⟩ := s.freeze hi
      exact ks.nx _ _ S2 H' hx s2 (z.trans e)
  · refine ⟨m, S, ρ, Dd, st, ?_, ks⟩
    have e : ∀ s : Sl, ρ.set i s = ρ := fun s => List.set_eq_of_length_le (by omega)
    have hg : fn ρ (fun xs => Dd.nx (ρ.set i (.v (.d (.list xs))))) (Dd.ex ρ) := hg
    show fn ρ (fun xs => Dd.nx (ρ.set i (.own xs))) (Dd.ex ρ)
    simpa only [e] using hg
theorem js_if (hc : JT X n W κ c t) (ha : JB X n W κ' body ga) (hb : JB X n W κ2 orelse gb) : JS X n W (κ + (κ' + κ2)) (.If c body orelse pos) (gIfS t ga gb) := by
  refine PS.to (ps_if hc ha hb) fun D σ H ⟨m, S, ρ, Dd, st, hg, ks⟩ => ?_
  refine ⟨m + (κ' + κ2), S, ρ, _, _, st_split st, hg, fun b S1 H1 hx st1 p1 => ?_, (ks.up (by omega)).ke⟩
  cases b with
  | true => exact ⟨m, S1, ρ, Dd, st1.le (by omega), hx, ks.af p1.sS⟩
  | false => exact ⟨m, S1, ρ, Dd, st1.le (by omega), hx, ks.af p1.sS⟩
theorem js_raise {x : Str} {p pos2 : Pos} {D fI : Addr} {C : Addr} {cn : Nat} (C0 : Cok X n W k) (B : ErrBase X.prog X.K X.mg D fI) (T : ErrCls X.K D fI C) (hC : n.CT cn = C) (gC : X.mg x = some (.ref C)) (ha : JE X n W κ a f) (hg : Gl X x)
    (hdb : (x == ("__debug__" : Str)) = false) (he : starEach (a :: []) X.env = (false, eval a X.env) :: starEach [] X.env) (hpl : (backTo pos (starEach [] X.env)).any (·.1) = false) :
    JS X n W κ (.Raise (some (.Call (.Name x p) [a] [] pos)) none pos2) (gRaise cn f) := by
  refine PS.to (ps_raiseE C0.calm B T C0.hr C0.tk gC (pa_cons ha pa_nil he) hg hdb he hpl) fun D σ H ⟨m, S, ρ, Dd, st, hg, ks⟩ => ?_
  refine ⟨m, S, ρ, _, _, st, hg, fun x v S' H' hx st' p d => ?_, ks.ke⟩
  obtain ⟨x, rfl, hx⟩ := onD_of hx
  refine ⟨v, rfl, fun dd hd => ?_⟩
  have g := Grow.new (o := .xd [(("value" : Str), v)]) st'.wd.sm hd
  exact ks.ex ρ cn x _ _ σ _ _ hx (st'.grow g) ⟨dd, v, by rw [hC], rfl, upd_same, dq_mono g.po.sS d⟩ (p.sS.trans g.po.sS)
theorem js_try {i j : Nat} {x nm y : Str} {cv : Value} {np pos' p1 p2 p3 : Pos} (hs : X.stack = X.env :: X.outer) (hf : X.env.frame = some X.env.locals) (hex : X.ex = []) (hN : X.N.Nodup) (hi : X.N[i]? = some nm) (hln : X.env.kindOf nm = some .local) (hj : X.N[j]? = some y)
    (hly : X.env.kindOf y = some .local) (hij : i ≠ j) (hnd : (nm == ("__debug__" : Str)) = false) (hnc : (nm == ("__classdict__" : Str)) = false) (hc : Names X x cv) (tk : Takes X W) (hX : ∀ c, PySem.W.exmOne X.K (.ref (n.CT c)) cv = some true)
    (hb : ∀ (W : WX) (pn : List (Addr × Obj)) (xe : Value → Shared → Prop), Takes (X.tr pn xe) W → PassesOwn (model X.prog X.w) X.A X.env xe → JB (X.tr pn xe) n W κ body gb) (hsw : swapsWith (.Name nm p2) (some (.Name y p1)) p3.line X.env = pure false) :
    JS X n W κ (.Try body [.ExceptHandler (some (.Name x np)) (some nm) [.Assign [.Name y p1] (.Name nm p2) p3] pos'] [] [] pos) (gTry i j gb) := by
  refine PS.to (ps_try_keep (tb := fun W => rdS X.K n W κ gb) hs hf hex hN hi hln hj hly hij hnd hnc hc tk hb hsw) fun D σ H ⟨m, S, ρ, Dd, st, hg, ks⟩ => ?_
  refine ⟨m, S, ρ, _, st, hg, ks.nx, ks.rt, ks.bk, ks.ct, fun ρ' c x cls dx σ' S' H' h s' er q => ?_⟩
  obtain ⟨dd, v, rfl, rfl, hdd, hv⟩ := er
  refine ⟨true, hX c, fun _ => ⟨_, dd, rfl, rfl, fun a ha => ?_⟩, fun z => nomatch z⟩
  have g := Grow.new (o := ExcAt (n.CT c) dd a) s'.wd.sm ha
  have dv : DvOk X.K n (upd S' a (ExcAt (n.CT c) dd a)) (.ref a) (.exc c x) := ⟨a, dd, v, rfl, upd_same, g.po.sS _ _ hdd, dq_mono g.po.sS hv⟩
  exact ks.nx _ _ _ _ h ((((s'.grow g).set dv).set dv).setNo) (q.trans g.po.sS)
/-- xs.append(e), xs a list of one's own -/
theorem js_app {i : Nat} {x : Str} {pos' p pa : Pos} (hN : X.N[i]? = some x) (hv : Vis X.env.scope x) (hd : (x == ("__debug__" : Str)) = false) (hcd : (x == ("__classdict__" : Str)) = false) (he : JE X n W κ e f)
    (hbase : attributeBase (.Name x p) "append" X.env (eval (.Name x p) X.env) = eval (.Name x p) X.env)
    (hfew : ((backTo pos (starEach (e :: []) X.env)).all (fun x => !x.1) && (backToKw pos (keywordEach [] X.env)).all (fun x => x.1.isSome)
      && decide ((e :: ([] : List Expr)).length + ([] : List Keyword).length + (if ([] : List Keyword).isEmpty then 0 else 1) < 30)) = true)
    (hline : (pa.endLine == pos.line) = true) (hs : starEach (e :: []) X.env = (false, eval e X.env) :: starEach [] X.env) (hplain : (backTo pos (starEach [] X.env)).any (·.1) = false)
    (hsw : swapsWith (.Call (.Attribute (.Name x p) "append" pa) [e] [] pos) none pos'.line X.env = pure false) :
    JS X n W κ (.Expr (.Call (.Attribute (.Name x p) "append" pa) [e] [] pos) pos') (gApp i f) := by
  refine PS.to (ps_expr (pe_bm PySem.F.plainAttrs_list PySem.F.slot_list_append PySem.F.type_list_append mt_append (pe_var hN hv hd hcd) (pa_cons he pa_nil hs) hbase hfew hline hs hplain) hsw) fun D σ H ⟨m, S, ρ, Dd, st, hg, ks⟩ => ?_
  obtain ⟨xs, hi, hg⟩ := slOw_of hg
  obtain ⟨q, vs, e1, e2, e3, _⟩ := st.write (ys := []) hi
  refine ⟨_, e1, .inl ⟨rfl, vs, SqL.of e2⟩, m, S, ρ, _, _, st, hg, fun x v S' H' hx st' po d => ?_, ks.ke⟩
  obtain ⟨x, rfl, hl, hx⟩ := onD_of hx
  obtain ⟨q', us, f1, f2, f3, f4⟩ := st'.write (ys := xs ++ [x]) hi
  rw [e1] at f1
  cases f1
  refine ⟨q, us, v, rfl, rfl, f2, ?_, ?_⟩
  · have := f3.len
    have : (100000 : Nat) < sizeLine := by decide
    omega
  · exact ks.nx _ _ S' _ hx (f4 _ (f3.app (.cons d .nil))) po.sS
/-- xs[i] = e, xs a list of one's own -/
theorem js_setIx {i : Nat} {x : Str} {ei : Expr} {p ps pos' : Pos} {fx : DE} (hN : X.N[i]? = some x) (hv : Vis X.env.scope x) (hd : (x == ("__debug__" : Str)) = false) (hcd : (x == ("__classdict__" : Str)) = false) (he : JE X n W κ e f) (hx : JE X n W κ' ei fx)
    (hs : swapsWithSole [.Subscript (.Name x p) ei ps] e pos.line X.env = pure false) (hw : swappedStores [.Subscript (.Name x p) ei ps] e X.env = pure none) (h1 : (assignEach [.Subscript (.Name x p) ei ps] X.env).map (·.2) = [assign (.Subscript (.Name x p) ei ps) X.env])
    (ha : ∀ v, assign (.Subscript (.Name x p) ei ps) X.env v = (do
      let ov ← holding [v] (eval (.Name x p) X.env)
      let iv ← holding [v, ov] (eval ei X.env)
      standAt ps
      holding [v, ov, iv] (setItem ov iv v)
      release [v, ov, iv] [])) :
    JS X n W (κ + κ') (.Assign [.Subscript (.Name x p) ei ps] e pos) (gSetIx i fx f) := by
  refine PS.to (ps_asg he (pg_sub (pe_var hN hv hd hcd) hx set_list ha) hs hw h1) fun D σ H ⟨m, S, ρ, Dd, st, hg, ks⟩ => ?_
  obtain ⟨xs, hi, hg⟩ := slOw_of hg
  refine ⟨m + κ', S, ρ, _, _, st_split st, hg, fun x v S1 H1 hx st1 p1 d1 => ?_, (ks.up (by omega)).ke⟩
  obtain ⟨x, rfl, hx⟩ := onD_of hx
  obtain ⟨q, vs, e1, e2, e3, _⟩ := st1.write (ys := []) hi
  refine ⟨_, e1, m, S1, ρ, _, _, st1, hx, fun y u S2 H2 hy st2 p2 d2 => ?_, (ks.af p1.sS).ke⟩
  obtain ⟨k, rfl, j, hj, hy⟩ := onI_of hy
  cases d2
  obtain ⟨q', us, f1, f2, f3, f4⟩ := st2.write (ys := xs.set j x) hi
  rw [e1] at f1
  cases f1
  refine ⟨q, us, k, j, rfl, rfl, f2, by rw [f3.len]; exact hj, ?_⟩
  exact ks.nx _ _ S2 _ hy (f4 _ (f3.set (dq_mono p2.sS d1) j)) (p1.sS.trans p2.sS)
theorem js_asg {wr : List Nat} {gd : DG} (he : JE X n W κ e f) (hg : JG X n wr tg gd) (hs : swapsWithSole [tg] e pos.line X.env = pure false) (hw : swappedStores [tg] e X.env = pure none) (h1 : (assignEach [tg] X.env).map (·.2) = [assign tg X.env]) :
    JS X n W κ (.Assign [tg] e pos) (gAsg f gd) := by
  refine PS.to (ps_asg he hg hs hw h1) fun D σ H ⟨m, S, ρ, Dd, st, hg, ks⟩ => ?_
  refine ⟨m, S, ρ, _, _, st, hg, fun x v S1 H1 hx st1 p1 d1 => ?_, ks.ke⟩
  obtain ⟨x, rfl, hx⟩ := onD_of hx
  exact ⟨m, S1, ρ, x, _, st1, d1, hx, fun ρ' σ' h' st' _ _ => ks.nx _ _ S1 H1 h' st' p1.sS⟩
theorem js_par {i j : Nat} {x y : Str} {px py pt : Pos} {kt k2 pt2} (hc : X.calm = true) (hN : X.N.Nodup) (hi : X.N[i]? = some x) (hj : X.N[j]? = some y) (hij : i ≠ j) (hx : X.env.scope.names.lookup x = some .local) (hy : X.env.scope.names.lookup y = some .local)
    (ha : JA X n W κ [a, b] fa) (hw : swappedStores [.Tuple [.Name x px, .Name y py] kt pt] (.Tuple [a, b] k2 pt2) X.env = pure (some [x, y]))
    (hs : swapsWithSole [.Tuple [.Name x px, .Name y py] kt pt] (.Tuple [a, b] k2 pt2) pos.line X.env = pure false) : JS X n W κ (.Assign [.Tuple [.Name x px, .Name y py] kt pt] (.Tuple [a, b] k2 pt2) pos) (gPar i j fa) := by
  refine PS.to (ps_par hc hN hi hj hij hx hy ha hw hs) fun D σ H ⟨m, S, ρ, Dd, st, hg, ks⟩ => ⟨m, S, ρ, _, _, st, hg, fun xs vs S1 H1 hx st1 p1 d1 => ?_, ks.ke⟩
  cases d1 with
  | nil => exact (show False from hx).elim
  | cons d1 t =>
    cases t with
    | nil => exact (show False from hx).elim
    | cons d2 t =>
      cases t with
      | cons _ _ => exact (show False from hx).elim
      | nil => exact ⟨_, _, rfl, ks.nx _ _ S1 H1 hx ((st1.set d1).set d2) p1.sS⟩
theorem js_par3 {i j l : Nat} {x y z : Str} {px py pz pt : Pos} {kt k2 pt2} (hc : X.calm = true) (hN : X.N.Nodup) (hi : X.N[i]? = some x) (hj : X.N[j]? = some y) (hl : X.N[l]? = some z) (hij : i ≠ j) (hil : i ≠ l) (hjl : j ≠ l)
    (hx : X.env.scope.names.lookup x = some .local) (hy : X.env.scope.names.lookup y = some .local) (hz : X.env.scope.names.lookup z = some .local) (ha : JA X n W κ [a, b, c] fa)
    (hw : swappedStores [.Tuple [.Name x px, .Name y py, .Name z pz] kt pt] (.Tuple [a, b, c] k2 pt2) X.env = pure (some [x, y, z]))
    (hs : swapsWithSole [.Tuple [.Name x px, .Name y py, .Name z pz] kt pt] (.Tuple [a, b, c] k2 pt2) pos.line X.env = pure false) : JS X n W κ (.Assign [.Tuple [.Name x px, .Name y py, .Name z pz] kt pt] (.Tuple [a, b, c] k2 pt2) pos) (gPar3 i j l fa) := by
  refine PS.to (ps_par3 hc hN hi hj hl hij hil hjl hx hy hz ha hw hs) fun D σ H ⟨m, S, ρ, Dd, st, hg, ks⟩ => ⟨m, S, ρ, _, _, st, hg, fun xs vs S1 H1 hx st1 p1 d1 => ?_, ks.ke⟩
  cases d1 with
  | nil => exact (show False from hx).elim
  | cons d1 t =>
    cases t with
    | nil => exact (show False from hx).elim
    | cons d2 t =>
      cases t with
      | nil => exact (show False from hx).elim
      | cons d3 t =>
        cases t with
        | cons _ _ => exact (show False from hx).elim
        | nil => exact ⟨_, _, _, rfl, ks.nx _ _ S1 H1 hx (((st1.set d1).set d2).set d3) p1.sS⟩
/-- name += e, -= e of ints -/
theorem js_augI {i : Nat} {x : Str} {op : Operator} {ff : Int → Int → Int} {pos' : Pos} (hN : X.N.Nodup) (hi : X.N[i]? = some x) (hx : Loc X.env.scope x) (he : JE X n W κ e f) (ho : PIp X op (ipI ff)) (hf : X.fn x = true ∨ X.env.scope.names.lookup x = some .local) :
    JS X n W κ (.AugAssign (.Name x pos') op e pos) (gAugI ff i f) := by
  refine PS.to (ps_aug hN hi hx he ho hf) fun D σ H ⟨m, S, ρ, Dd, st, hg, ks⟩ => ?_
  unfold gAugI at hg
  cases q : ρ[i]? with
  | none => rw [q] at hg; exact hg.elim
  | some s =>
    rw [q] at hg
    obtain ⟨A, h1, _⟩ := st.sl
    have sl := h1 i _ q
    cases s with
    | no => exact hg.elim
    | own _ => exact hg.elim
    | v x =>
      cases x with
      | exc _ _ => exact hg.elim
      | well => exact hg.elim
      | d x =>
        cases x with
        | int a =>
          obtain ⟨v, e1, d⟩ := sl
          cases d
          refine ⟨_, e1, m, S, ρ, _, _, st, hg, fun x v S' H' hx st' p d => ?_, ks.ke⟩
          obtain ⟨b, rfl, hx⟩ := onI_of hx
          cases d
          exact ⟨a, b, rfl, rfl, ks.nx _ _ S' H' hx (st'.set (x := .d (.int _)) (.int _)) p.sS⟩
        | _ => exact hg.elim
/-- for tg in iter: .. -/
theorem js_for {κb : Nat} {wr : List Nat} {gd : DG} (L : Nat) (B : Bok X n W k) (hi : JI X n W κi tg iter fi) (hg : JG X n wr tg gd) (hb : JB X n W κb body gb) (hs : ∀ x, foldedSetIterable iter X.env x = pure x) : JS X n W (κi + L * κb) (.For tg iter body [] pos) (gFor L fi gd gb) := by
  refine PS.to (ps_for B.po B.c.calm hi hg hb hs) fun D σ H ⟨m, S, ρ, Dd, st, hgd, ks⟩ => ?_
  refine ⟨m + L * κb, S, ρ, _, _, st_split st, hgd, fun xs J S1 H1 ⟨hL, hx⟩ st1 p1 hJ => ?_, (ks.up (by omega)).ke⟩
  refine ⟨fun i k σ2 H2 => k = xs.length - i ∧ i ≤ xs.length ∧ ∃ S2 ρ2, StOk X.K n (m + (xs.length - i) * κb) S2 H2 σ2 ρ2 ∧ Same S1 S2 ∧ loopD gd gb Dd (xs.drop i) ρ2, ⟨xs.length, by simp, Nat.zero_le _, S1, ρ, st1.le ?_, Same.refl _, by simpa using hx⟩, ?_⟩
  · have := Nat.mul_le_mul_right κb hL
    simp only [Nat.sub_zero]
    omega
  · rintro i k σ2 H2 ⟨rfl, hi, S2, ρ2, st2, s2, hl⟩
    obtain ⟨j1, j2, j3⟩ := hJ S2 H2 s2 st2.wd.sm
    by_cases hlt : i < xs.length
    · have hcost : m + (xs.length - i) * κb = (m + (xs.length - (i + 1)) * κb) + κb := by
        have : xs.length - i = (xs.length - (i + 1)) + 1 := by omega
        rw [this, Nat.add_mul]
        omega
      refine .inr ⟨j1 i hlt, fun σ' H' => i + 1 ≤ xs.length ∧ ∃ S2 ρ2, StOk X.K n (m + (xs.length - (i + 1)) * κb) S2 H' σ' ρ2 ∧ Same S1 S2 ∧ loopD gd gb Dd (xs.drop (i + 1)) ρ2, fun σ' H' q => ⟨xs.length - (i + 1), by omega, rfl, q⟩, fun x H3 y => ?_⟩
      obtain ⟨S3, d, g3, hxd, dx⟩ := j3 i x H3 hlt y
      have hdr : xs.drop i = d :: xs.drop (i + 1) := List.drop_eq_getElem_cons hlt ▸ by
        have : xs[i] = d := Option.some.inj ((List.getElem?_eq_getElem hlt).symm.trans hxd)
        rw [this]
      rw [hdr] at hl
      have s3 := s2.trans g3.po.sS
      have p3 : Same S S3 := p1.sS.trans s3
      have k3 := (ks.up (m' := m + (xs.length - (i + 1)) * κb) (by omega)).af p3
      refine ⟨_, S3, ρ2, d, _, hcost ▸ st2.grow g3, dx, hl, fun ρ4 σ4 h4 st4 _ _ => ?_⟩
      refine ⟨_, S3, ρ4, _, st4, h4, fun ρ5 σ5 S5 H5 h5 st5 s5 => ⟨hlt, S5, ρ5, st5, s3.trans s5, h5⟩, k3.rt, fun ρ5 σ5 S5 H5 h5 st5 s5 => k3.nx ρ5 σ5 S5 H5 h5 st5 s5, fun ρ5 σ5 S5 H5 h5 st5 s5 => ⟨hlt, S5, ρ5, st5, s3.trans s5, h5⟩, k3.ex⟩
    · have e : i = xs.length := by omega
      subst e
      rw [List.drop_length] at hl
      exact .inl ⟨j2 _ (Nat.le_refl _), ks.nx ρ2 σ2 S2 H2 hl (st2.le (by omega)) (p1.sS.trans s2)⟩
/-- while c: .., nothing drawn within -/
theorem js_while (B : Bok X n W k) (hc : JT X n W 0 c t) (hb : JB X n W 0 body gb) : JS X n W 0 (.While c body [] pos) (gWhile t gb) := by
  refine PS.to (ps_while B.po hc hb) fun D σ H ⟨m, S, ρ, Dd, st, ⟨V, ⟨m0, v0⟩, turn⟩, ks⟩ => ?_
  refine ⟨fun k σ2 H2 => ∃ S2 ρ2, StOk X.K n m S2 H2 σ2 ρ2 ∧ Same S S2 ∧ V k ρ2, ⟨m0, S, ρ, st, Same.refl _, v0⟩, ?_⟩
  rintro k σ2 H2 ⟨S2, ρ2, st2, s2, v2⟩
  refine ⟨m, S2, ρ2, _, _, st2, turn k ρ2 v2, fun b S3 H3 hb st3 p3 => ?_, (ks.af s2).ke⟩
  cases b with
  | true =>
    simp only [if_true] at hb ⊢
    have k3 := ks.af (s2.trans p3.sS)
    refine ⟨fun σ' H' => ∃ m', m' < k ∧ ∃ S2 ρ2, StOk X.K n m S2 H' σ' ρ2 ∧ Same S S2 ∧ V m' ρ2, fun σ' H' q => q, ?_⟩
    refine ⟨m, S3, ρ2, _, st3, hb, fun ρ5 σ5 S5 H5 ⟨m', hm, h5⟩ st5 s5 => ⟨m', hm, S5, ρ5, st5, (s2.trans p3.sS).trans s5, h5⟩, k3.rt, k3.nx, fun ρ5 σ5 S5 H5 ⟨m', hm, h5⟩ st5 s5 => ⟨m', hm, S5, ρ5, st5, (s2.trans p3.sS).trans s5, h5⟩, k3.ex⟩
  | false =>
    simp only [Bool.false_eq_true, if_false] at hb ⊢
    exact ks.nx ρ2 σ2 S3 H3 hb st3 (s2.trans p3.sS)
end
end Wb
/-! Wb8: the rule of a def; short forms for the printed proofs. -/
namespace Wb
open PySem PySem.Spec PyProof.Rows L2
/-- a body's meaning as a def's: np parameters, then nl names not yet bound -/
def fnB (np nl : Nat) (g : DS) : Fn := fun xs R Er => xs.length = np ∧ g ⟨fun _ => R (.d .none), fun _ => R, fun _ => False, fun _ => False, fun _ => Er⟩ (xs.map .v ++ List.replicate nl .no)
theorem start_st {K : Frag} {CT : Nat → Addr} {wl : Option Addr} {m : Nat} {S H : Hp} {N : List Str} {vs : List V} {xs : List DV} {nl : Nat} (w : Wd wl m S H) (d : DvAll K (En.of CT wl S H) S vs xs) (hn : N.length = xs.length + nl) :
    StOk K (En.of CT wl S H) m S H (L2.start N vs) (xs.map .v ++ List.replicate nl .no) := by
  have dl := d.len
  refine ⟨w, Post.refl, ?_, fun _ => 0, fun i s e => ?_, fun i j ys zs e _ _ => ?_⟩
  · unfold L2.start
    rw [List.length_append, List.length_append, List.length_map, List.length_map, List.length_replicate, List.length_replicate]
    omega
  · by_cases hi : i < xs.length
    · rw [List.getElem?_append_left (by simpa using hi), List.getElem?_map] at e
      unfold L2.start
      rw [List.getElem?_append_left (by rw [List.length_map, dl]; exact hi), List.getElem?_map]
      have get : ∀ {vs : List V} {xs : List DV} {i : Nat} {x : DV}, DvAll K (En.of CT wl S H) S vs xs → xs[i]? = some x → ∃ v, vs[i]? = some v ∧ DvOk K (En.of CT wl S H) S v x := by
        intro vs xs i x d
        induction d generalizing i with
        | nil => intro e; simp at e
        | cons h t ih =>
          intro e
          cases i with
          | zero =>
            simp at e
            subst e
            exact ⟨_, rfl, h⟩
          | succ i => simpa using ih (by simpa using e)
      cases q : xs[i]? with
      | none => rw [q] at e; cases e
      | some x =>
        rw [q] at e
        cases e
        obtain ⟨v, h1, h2⟩ := get d q
        exact ⟨v, by rw [h1]; rfl, h2⟩
    · rw [List.getElem?_append_right (by simpa using hi), List.getElem?_replicate] at e
      split at e
      · cases e; exact trivial
      · cases e
  · by_cases hi : i < xs.length
    · rw [List.getElem?_append_left (by simpa using hi), List.getElem?_map] at e
      cases q : xs[i]? with
      | none => rw [q] at e; cases e
      | some x => rw [q] at e; cases e
    · rw [List.getElem?_append_right (by simpa using hi), List.getElem?_replicate] at e
      split at e <;> cases e
abbrev WE (E : XK) : WX := fun cls d _ H' => E cls d H'
/-- THE RULE of a def -/
theorem defG_of {P : Program} {w : World} {K : Frag} {mg : Str → Option Value} {base : Heap} {k κ nl : Nat} {f : Addr} {fd : FuncData} {x qual : Str} {st : Stmt} {N ps : List Str} {CT : Nat → Addr} {g : DS} (F : Fun K x qual st f fd) (S : FnScope N ps (defScope st)) (hmg : mg x = some (.ref f))
    (hb : Binds K fd ps []) (hl : N.length = ps.length + nl)
    (body : ∀ (cdv : Value) (A : Around) (outer : List Env) (s : Shared) (H : Hp) (E : XK) (wl : Option Addr) (S0 : Hp), Bok (cxOf (L2.CX P w) P w K mg base N qual (defScope st) f cdv A outer s H E) (En.of CT wl S0 H) (WE E) k →
      JB (cxOf (L2.CX P w) P w K mg base N qual (defScope st) f cdv A outer s H E) (En.of CT wl S0 H) (WE E) κ (defBody st) g) :
    DefG P w K mg base x ps (k + 1) f fd (spD K CT κ (fnB ps.length nl g)) := by
  refine ⟨fnG_of F S (fun vs H Q E ⟨wl, m, S, xs, R, Er, w, d, ⟨h1, _⟩, _⟩ => d.len.trans h1) fun cdv A outer s H vs Q E hgd hr hsp => ?_, hmg, F.kp, hb⟩
  obtain ⟨wl, m, S0, xs, R, Er, wd, d, ⟨hx, hg⟩, kR, kE⟩ := hsp
  have nd := S.nd
  refine ⟨_, body cdv A outer s H E wl S0 ⟨⟨rfl, L2.takes_of rfl rfl rfl rfl, hr, hgd, nd⟩, L2.passes_of rfl⟩, m, S0, _, _, start_st wd d (by rw [hl, hx]), hg, fun ρ' σ' S' H' h s z => ?_, fun ρ' σ' x v S' H' h s dv => ?_, fun _ _ _ _ h => h.elim, fun _ _ _ _ h => h.elim, fun ρ' c x cls dx σ' S' H' h s e z => ?_⟩
  · exact kR _ .non S' H' h s.wd s.po .non
  · exact kR x v S' H' h s.wd s.po dv
  · exact kE c x cls dx S' H' h s.wd s.po e

/-! ### the draw: the well as a list of one's own -/
/-- what a draw asks and gives -/
def drawFn : Fn := fun xs R _ => ∃ many : Int, xs = [.wel, .d (.int many)] ∧ 0 < many ∧ many < 2 ^ 60 ∧ ∀ x : Int, 0 ≤ x → x < many → R (.d (.int x))
/-- the law of a draw's body: a b c the well, budget m + 1 -/
def DrawLaw (nl : Nat) (g : DS) : Prop := ∀ (m : Nat) (a b c many : Int), WOk (m + 1) a b c → 0 < many → many < 2 ^ 60 →
  g ⟨fun _ => False, fun ρ x => ∃ a' b' c' z : Int, ρ[0]? = some (.own [.int a', .int b', .int c']) ∧ WOk m a' b' c' ∧ x = .d (.int z) ∧ 0 ≤ z ∧ z < many, fun _ => False, fun _ => False, fun _ _ _ => False⟩
    ([.own [.int a, .int b, .int c], .v (.d (.int many))] ++ List.replicate nl .no)
theorem draw_of {P : Program} {w : World} {K : Frag} {mg : Str → Option Value} {base : Heap} {k nl : Nat} {f : Addr} {fd : FuncData} {x qual : Str} {st : Stmt} {N ps : List Str} {CT : Nat → Addr} {g : DS} (F : Fun K x qual st f fd) (S : FnScope N ps (defScope st)) (hmg : mg x = some (.ref f))
    (hb : Binds K fd ps []) (h2 : ps.length = 2) (hl : N.length = 2 + nl) (law : DrawLaw nl g)
    (body : ∀ (cdv : Value) (A : Around) (outer : List Env) (s : Shared) (H : Hp) (E : XK) (n : En), n.CT = CT → Bok (cxOf (L2.CX P w) P w K mg base N qual (defScope st) f cdv A outer s H E) n (WE E) k →
      JB (cxOf (L2.CX P w) P w K mg base N qual (defScope st) f cdv A outer s H E) n (WE E) 0 (defBody st) g) :
    DefG P w K mg base x ps (k + 1) f fd (spD K CT 1 drawFn) := by
  refine ⟨fnG_of F S (fun vs H Q E ⟨wl, m, S, xs, R, Er, w, d, ⟨many, h1, _⟩, _⟩ => by rw [d.len, h1, h2]; rfl) fun cdv A outer s H vs Q E hgd hr hsp => ?_, hmg, F.kp, hb⟩
  obtain ⟨wl, m, S0, xs, R, Er, wd, d, ⟨many, rfl, hm0, hm1, hR⟩, kR, kE⟩ := hsp
  cases d with
  | cons d1 d2 =>
  cases d2 with
  | cons d2 d3 =>
  cases d3
  obtain ⟨p, rfl, hwl⟩ := d1
  have hwl : wl = some p := hwl
  cases d2
  obtain ⟨sp, a, b, c, hp, hW⟩ := wd.we p hwl
  have nd := S.nd
  have tk := L2.takes_of (X := cxOf (L2.CX P w) P w K mg base N qual (defScope st) f cdv A outer s H E) (E := E) rfl rfl rfl rfl
  let n : En := ⟨CT, none, S0, fun b => if b = p then none else H b, fun a => a = p⟩
  have hn0 : n.H0 p = none := if_pos rfl
  have hne : ∀ b, b ≠ p → n.H0 b = H b := fun b hb => if_neg hb
  have st0 : StOk K n m S0 H (L2.start N [.ref p, .int many]) ([.own [.int a, .int b, .int c], .v (.d (.int many))] ++ List.replicate nl .no) := by
    refine ⟨⟨wd.sm, fun q z => nomatch z⟩, ⟨Same.refl S0, fun _ _ z => z, fun q o z _ => ?_, fun q z => ?_⟩, ?_, fun _ => p, fun i t e => ?_, fun i j ys zs e1 e2 _ => ?_⟩
    · by_cases hq : q = p
      · subst hq; rw [hn0] at z; cases z
      · rw [hne q hq] at z; exact z
    · by_cases hq : q = p
      · subst hq; exact absurd hn0 z
      · rw [hne q hq] at z; exact z
    · unfold L2.start
      rw [List.length_append, List.length_append, List.length_replicate, List.length_replicate, List.length_map, hl]
      simp
    · unfold L2.start
      match i, e with
      | 0, e =>
        cases e
        exact ⟨rfl, sp, ⟨hn0, rfl⟩, (fun z => nomatch z), _, hp, .cons (.int _) (.cons (.int _) (.cons (.int _) .nil))⟩
      | 1, e =>
        cases e
        exact ⟨_, rfl, .int _⟩
      | i + 2, e =>
        have e : (List.replicate nl Sl.no)[i]? = some t := e
        rw [List.getElem?_replicate] at e
        split at e
        · cases e; exact trivial
        · cases e
    · have no : ∀ {i : Nat} {ys}, ([Sl.own [.int a, .int b, .int c], .v (.d (.int many))] ++ List.replicate nl .no)[i]? = some (.own ys) → i = 0 := fun {i ys} e => by
        match i, e with
        | 0, _ => rfl
        | 1, e => cases e
        | i + 2, e =>
          have e : (List.replicate nl Sl.no)[i]? = some (.own ys) := e
          rw [List.getElem?_replicate] at e
          split at e <;> cases e
      rw [no e1, no e2]
  have lw := law m a b c many hW hm0 hm1
  refine ⟨_, body cdv A outer s H E n rfl ⟨⟨rfl, tk, hr, hgd, nd⟩, L2.passes_of rfl⟩, m, S0, _, _, st0, lw, fun _ _ _ _ h => h.elim, fun ρ' σ' x v S' H' h s' dv => ?_, fun _ _ _ _ h => h.elim, fun _ _ _ _ h => h.elim, fun _ _ _ _ _ _ _ _ h => h.elim⟩
  obtain ⟨a', b', c', z, h0, hW', rfl, hz0, hz1⟩ := h
  obtain ⟨A', q1, _⟩ := s'.sl
  obtain ⟨g1, g2, g3, g4, us, g5, g6⟩ := q1 0 _ h0
  have eA : A' 0 = p := g3.2
  rw [eA] at g2 g5
  cases dv
  cases g6 with
  | cons u1 g6 =>
  cases g6 with
  | cons u2 g6 =>
  cases g6 with
  | cons u3 g6 =>
  cases g6
  cases u1
  cases u2
  cases u3
  refine kR _ _ S' H' (hR z hz0 hz1) ⟨s'.wd.sm, fun q e => ?_⟩ ⟨s'.po.sS, fun q hq sq => ?_, fun q o e hq => ?_, fun q hq => ?_⟩ (.int z)
  · rw [hwl] at e
    cases e
    exact ⟨g2, a', b', c', g5, hW'⟩
  · by_cases e : q = p
    · rw [e]; exact g2
    · exact s'.po.fr q (by rw [hne q e]; exact hq) sq
  · have e2 : q ≠ p := fun z => hq (by rw [z]; exact hwl)
    exact s'.po.kp q o (by rw [hne q e2]; exact e) (fun z => nomatch z)
  · by_cases e : q = p
    · rw [e, g5]; exact Option.some_ne_none _
    · exact s'.po.al q (by rw [hne q e]; exact hq)
section
variable {X : Cx} {n : En} {W : WX} {κ κ' κ2 κi κt κe κf k k' : Nat} {e a b c elt tg iter : Expr} {es ifs : List Expr} {pos : Pos} {f h g : DE} {fa fk : DA} {t u : DT} {fi : DN}
theorem js_retN : JS X n W 0 (.Return none pos) (gRet (dC .none)) := PS.to ps_retN fun D σ H ⟨m, S, ρ, Dd, st, hg, ks⟩ => ks.rt ρ σ _ .non S H hg st .non

/-! ### short forms -/
theorem v (i : Nat) {x : Str} (hN : X.N[i]? = some x := by rfl) (hv : Vis X.env.scope x := by first | exact .inl rfl | exact .inr (.inl rfl) | exact .inr (.inr rfl)) (hd : (x == ("__debug__" : Str)) = false := by rfl) (hcd : (x == ("__classdict__" : Str)) = false := by rfl) :
    JE X n W 0 (.Name x pos) (dVar i) := je_var hN hv hd hcd
theorem o (i : Nat) {x : Str} (hN : X.N[i]? = some x := by rfl) (hv : Vis X.env.scope x := by first | exact .inl rfl | exact .inr (.inl rfl) | exact .inr (.inr rfl)) (hd : (x == ("__debug__" : Str)) = false := by rfl) (hcd : (x == ("__classdict__" : Str)) = false := by rfl) :
    JO X n W 0 (.Name x pos) (dOwn i) := jo_own hN hv hd hcd
theorem gn (C : Cok X n W k) (i : Nat) {x : Str} (hi : X.N[i]? = some x := by rfl) (hx : Loc X.env.scope x := by first | exact .inl rfl | exact .inr rfl) (hf : X.fn x = true ∨ X.env.scope.names.lookup x = some .local := by first | exact .inr rfl | exact .inl rfl) :
    JG X n [i] (.Name x pos) (gNm i) := jg_name C.nd hi hx hf
theorem ac {fr : DA} (ha : JE X n W κ e f) (hb : JA X n W κ' es fr) (hs : starEach (e :: es) X.env = (false, eval e X.env) :: starEach es X.env := by rfl) : JA X n W (κ + κ') (e :: es) (aCons f fr) := ja_cons ha hb hs
theorem oc {fr : DA} (ha : JO X n W κ e f) (hb : JAO X n W κ' es fr) (hs : starEach (e :: es) X.env = (false, eval e X.env) :: starEach es X.env := by rfl) : JAO X n W (κ + κ') (e :: es) (aCons f fr) := jo_cons ha hb hs
theorem cl {G : Fn} {x : Str} {ps : List Str} {ff : Addr} {fd : FuncData} {p : Pos} (F : DefG X.prog X.w X.K X.mg X.base x ps k ff fd (spD X.K n.CT κf G)) (C : Cok X n W k') (hk : k ≤ k') (ha : JA X n W κ (e :: es) fa) (hg : Gl X x := by rfl)
    (hdb : (x == ("__debug__" : Str)) = false := by rfl) (he : starEach (e :: es) X.env = (false, eval e X.env) :: starEach es X.env := by rfl) (hpl : (backTo pos (starEach es X.env)).any (·.1) = false := by rfl) : JE X n W (κ + κf) (.Call (.Name x p) (e :: es) [] pos) (dCall G fa) := je_call F C hk ha hg hdb he hpl
theorem bi {id : String} {x : Str} {p : Pos} {r : List V → Hp → VK → Prop} {gg : List DV → (DV → Prop) → Prop} (hc : CallR X (.builtin id) r) (hr : CaD X.K r gg) (hv : bootBuiltins x = some (.builtin id)) (hm : X.mg x = none) (ha : JAO X n W κ (e :: es) fa) (hg : Gl X x := by rfl)
    (hn : x ≠ "__name__" := by decide) (hdb : (x == ("__debug__" : Str)) = false := by rfl) (he : starEach (e :: es) X.env = (false, eval e X.env) :: starEach es X.env := by rfl) (hpl : (backTo pos (starEach es X.env)).any (·.1) = false := by rfl) :
    JE X n W κ (.Call (.Name x p) (e :: es) [] pos) (dBi gg fa) := je_bi hc hr hg hm hv ha hn hdb he hpl
theorem ty {T : String} {x : Str} {p : Pos} {r : List V → Hp → VK → Prop} {gg : List DV → (DV → Prop) → Prop} (hc : CallR X (.type T) r) (hr : CaD X.K r gg) (hv : bootBuiltins x = some (.type T)) (hm : X.mg x = none) (ha : JAO X n W κ (e :: es) fa) (hg : Gl X x := by rfl)
    (hn : x ≠ "__name__" := by decide) (hdb : (x == ("__debug__" : Str)) = false := by rfl) (he : starEach (e :: es) X.env = (false, eval e X.env) :: starEach es X.env := by rfl) (hpl : (backTo pos (starEach es X.env)).any (·.1) = false := by rfl) :
    JE X n W κ (.Call (.Name x p) (e :: es) [] pos) (dBi gg fa) := je_ty hc hr hg hm hv ha hn hdb he hpl

theorem b_abs : bootBuiltins "abs" = some (.builtin "abs") := by decide +kernel
theorem b_max : bootBuiltins "max" = some (.builtin "max") := by decide +kernel
theorem b_min : bootBuiltins "min" = some (.builtin "min") := by decide +kernel
theorem b_sum : bootBuiltins "sum" = some (.builtin "sum") := by decide +kernel
theorem b_all : bootBuiltins "all" = some (.builtin "all") := by decide +kernel
theorem b_any : bootBuiltins "any" = some (.builtin "any") := by decide +kernel
theorem b_repr : bootBuiltins "repr" = some (.builtin "repr") := by decide +kernel
theorem b_len : bootBuiltins "len" = some (.builtin "len") := by decide +kernel
theorem b_int : bootBuiltins "int" = some (.type "int") := by decide +kernel
theorem b_bool : bootBuiltins "bool" = some (.type "bool") := by decide +kernel
theorem b_tuple : bootBuiltins "tuple" = some (.type "tuple") := by decide +kernel
theorem b_list : bootBuiltins "list" = some (.type "list") := by decide +kernel
theorem b_str : bootBuiltins "str" = some (.type "str") := by decide +kernel
theorem c_len : CallR X (.builtin "len") (fun xs H Q => (∃ p ys, xs = [.ref p] ∧ (SqL X.K H p ys ∨ SqT X.K H p ys) ∧ Q (.int ys.length) H) ∨ ∃ z, xs = [.str z] ∧ z.length ≤ sizeLine ∧ Q (.int z.length) H) := call_len_seq.or call_len_str
theorem j_len {x : Str} {p : Pos} (hx : x = "len") (hm : X.mg "len" = none) (ha : JAO X n W κ (e :: es) fa) (hg : Gl X x := by rfl) (he : starEach (e :: es) X.env = (false, eval e X.env) :: starEach es X.env := by rfl) (hpl : (backTo pos (starEach es X.env)).any (·.1) = false := by rfl) :
    JE X n W κ (.Call (.Name x p) (e :: es) [] pos) (dBi bLen fa) := by subst hx; exact je_bi c_len caD_len hg hm b_len ha (by decide) (by decide) he hpl
theorem j_abs {x : Str} {p : Pos} (hx : x = "abs") (hm : X.mg "abs" = none) (ha : JAO X n W κ (e :: es) fa) (hg : Gl X x := by rfl) (he : starEach (e :: es) X.env = (false, eval e X.env) :: starEach es X.env := by rfl) (hpl : (backTo pos (starEach es X.env)).any (·.1) = false := by rfl) :
    JE X n W κ (.Call (.Name x p) (e :: es) [] pos) (dBi bAbs fa) := by subst hx; exact je_bi call_abs caD_abs hg hm b_abs ha (by decide) (by decide) he hpl
theorem j_max {x : Str} {p : Pos} (C : Cok X n W k) (hx : x = "max") (hm : X.mg "max" = none) (ha : JAO X n W κ (e :: es) fa) (hg : Gl X x := by rfl) (he : starEach (e :: es) X.env = (false, eval e X.env) :: starEach es X.env := by rfl) (hpl : (backTo pos (starEach es X.env)).any (·.1) = false := by rfl) :
    JE X n W κ (.Call (.Name x p) (e :: es) [] pos) (dBi bMax2 fa) := by subst hx; exact je_bi (call_max2 C.calm) caD_max2 hg hm b_max ha (by decide) (by decide) he hpl
theorem j_min {x : Str} {p : Pos} (C : Cok X n W k) (hx : x = "min") (hm : X.mg "min" = none) (ha : JAO X n W κ (e :: es) fa) (hg : Gl X x := by rfl) (he : starEach (e :: es) X.env = (false, eval e X.env) :: starEach es X.env := by rfl) (hpl : (backTo pos (starEach es X.env)).any (·.1) = false := by rfl) :
    JE X n W κ (.Call (.Name x p) (e :: es) [] pos) (dBi bMin2 fa) := by subst hx; exact je_bi (call_min2 C.calm) caD_min2 hg hm b_min ha (by decide) (by decide) he hpl
theorem j_sum {x : Str} {p : Pos} (C : Cok X n W k) (hx : x = "sum") (hm : X.mg "sum" = none) (ha : JAO X n W κ (e :: es) fa) (hg : Gl X x := by rfl) (he : starEach (e :: es) X.env = (false, eval e X.env) :: starEach es X.env := by rfl) (hpl : (backTo pos (starEach es X.env)).any (·.1) = false := by rfl) :
    JE X n W κ (.Call (.Name x p) (e :: es) [] pos) (dBi bSum fa) := by subst hx; exact je_bi (cr_sum C.calm) caD_sum hg hm b_sum ha (by decide) (by decide) he hpl
theorem j_all {x : Str} {p : Pos} (C : Cok X n W k) (hx : x = "all") (hm : X.mg "all" = none) (ha : JAO X n W κ (e :: es) fa) (hg : Gl X x := by rfl) (he : starEach (e :: es) X.env = (false, eval e X.env) :: starEach es X.env := by rfl) (hpl : (backTo pos (starEach es X.env)).any (·.1) = false := by rfl) :
    JE X n W κ (.Call (.Name x p) (e :: es) [] pos) (dBi bAll fa) := by subst hx; exact je_bi (cr_all C.calm) caD_all hg hm b_all ha (by decide) (by decide) he hpl
theorem j_any {x : Str} {p : Pos} (C : Cok X n W k) (hx : x = "any") (hm : X.mg "any" = none) (ha : JAO X n W κ (e :: es) fa) (hg : Gl X x := by rfl) (he : starEach (e :: es) X.env = (false, eval e X.env) :: starEach es X.env := by rfl) (hpl : (backTo pos (starEach es X.env)).any (·.1) = false := by rfl) :
    JE X n W κ (.Call (.Name x p) (e :: es) [] pos) (dBi bAny fa) := by subst hx; exact je_bi (cr_any C.calm) caD_any hg hm b_any ha (by decide) (by decide) he hpl
theorem j_repr {x : Str} {p : Pos} (C : Cok X n W k) (hx : x = "repr") (hm : X.mg "repr" = none) (ha : JAO X n W κ (e :: es) fa) (hg : Gl X x := by rfl) (he : starEach (e :: es) X.env = (false, eval e X.env) :: starEach es X.env := by rfl) (hpl : (backTo pos (starEach es X.env)).any (·.1) = false := by rfl) :
    JE X n W κ (.Call (.Name x p) (e :: es) [] pos) (dBi bRepr fa) := by
  subst hx
  exact je_bi (call_reprD C.hg (by have := C.hr.un; omega)) caD_repr hg hm b_repr ha (by decide) (by decide) he hpl
theorem j_int {x : Str} {p : Pos} (hx : x = "int") (hm : X.mg "int" = none) (ha : JAO X n W κ (e :: es) fa) (hg : Gl X x := by rfl) (he : starEach (e :: es) X.env = (false, eval e X.env) :: starEach es X.env := by rfl) (hpl : (backTo pos (starEach es X.env)).any (·.1) = false := by rfl) :
    JE X n W κ (.Call (.Name x p) (e :: es) [] pos) (dBi bInt fa) := by subst hx; exact je_ty call_int1 caD_int hg hm b_int ha (by decide) (by decide) he hpl
theorem j_tuple {x : Str} {p : Pos} (hx : x = "tuple") (hm : X.mg "tuple" = none) (ha : JAO X n W κ (e :: es) fa) (hg : Gl X x := by rfl) (he : starEach (e :: es) X.env = (false, eval e X.env) :: starEach es X.env := by rfl) (hpl : (backTo pos (starEach es X.env)).any (·.1) = false := by rfl) :
    JE X n W κ (.Call (.Name x p) (e :: es) [] pos) (dBi bTuple fa) := by subst hx; exact je_ty call_tuple_of caD_tuple hg hm b_tuple ha (by decide) (by decide) he hpl
theorem j_gcd {x : Str} {p : Pos} (hm : X.mg x = some (.builtin "math.gcd")) (ha : JAO X n W κ (e :: es) fa) (hg : Gl X x := by rfl) (hdb : (x == ("__debug__" : Str)) = false := by rfl) (he : starEach (e :: es) X.env = (false, eval e X.env) :: starEach es X.env := by rfl) (hpl : (backTo pos (starEach es X.env)).any (·.1) = false := by rfl) :
    JE X n W κ (.Call (.Name x p) (e :: es) [] pos) (dBi bGcd fa) := je_bif cr_gcd caD_gcd hg hm ha hdb he hpl
theorem hT_int : (kitTypes.all fun t => decide (kitB t "int" = some (subTy t "int"))) = true := by decide +kernel
theorem hT_bool : (kitTypes.all fun t => decide (kitB t "bool" = some (subTy t "bool"))) = true := by decide +kernel
theorem hT_tuple : (kitTypes.all fun t => decide (kitB t "tuple" = some (subTy t "tuple"))) = true := by decide +kernel
theorem hT_list : (kitTypes.all fun t => decide (kitB t "list" = some (subTy t "list"))) = true := by decide +kernel
theorem hT_str : (kitTypes.all fun t => decide (kitB t "str" = some (subTy t "str"))) = true := by decide +kernel
theorem j_isi {x : Str} {T : String} {p p2 : Pos} (hT : (kitTypes.all fun t => decide (kitB t T = some (subTy t T))) = true) (hv : bootBuiltins x = some (.type T)) (hmI : X.mg "isinstance" = none) (hm : X.mg x = none) (ha : JO X n W κ a f) (hgI : Gl X "isinstance" := by rfl) (hg : Gl X x := by rfl)
    (hn : x ≠ "__name__" := by decide) (hdb : (x == ("__debug__" : Str)) = false := by rfl) (he : starEach [a, .Name x p2] X.env = (false, eval a X.env) :: starEach [.Name x p2] X.env := by rfl) (he2 : starEach [.Name x p2] X.env = (false, eval (.Name x p2) X.env) :: starEach [] X.env := by rfl)
    (hpl : (backTo pos (starEach [.Name x p2] X.env)).any (·.1) = false := by rfl) : JE X n W κ (.Call (.Name "isinstance" p) [a, .Name x p2] [] pos) (d1 (gIsi T) f) := je_isi hT hgI hmI hg hm hv hn hdb ha he he2 hpl
theorem j_isE {x : Str} {C : Addr} {c' : Nat} {sub : Nat → Nat → Bool} {p p2 : Pos} (hmI : X.mg "isinstance" = none) (hm : X.mg x = some (.ref C)) (hN : PySem.W.kitOne X.K (.type "NoneType") (.ref C) = some false) (hI : ∀ c, IsC X.K (n.CT c)) (hL : ∀ c, PySem.W.kitOne X.K (.ref (n.CT c)) (.ref C) = some (sub c c'))
    (ha : JO X n W κ a f) (hgI : Gl X "isinstance" := by rfl) (hg : Gl X x := by rfl) (hdb : (x == ("__debug__" : Str)) = false := by rfl) (he : starEach [a, .Name x p2] X.env = (false, eval a X.env) :: starEach [.Name x p2] X.env := by rfl)
    (he2 : starEach [.Name x p2] X.env = (false, eval (.Name x p2) X.env) :: starEach [] X.env := by rfl) (hpl : (backTo pos (starEach [.Name x p2] X.env)).any (·.1) = false := by rfl) : JE X n W κ (.Call (.Name "isinstance" p) [a, .Name x p2] [] pos) (d1 (gIsE c' sub) f) := je_isE hgI hmI hg hm hdb hN hI hL ha he he2 hpl
theorem j_val {D fI : Addr} (hE : ∀ c, ErrCls X.K D fI (n.CT c)) (ha : JO X n W κ a f) (hb : attributeBase a "value" X.env (eval a X.env) = eval a X.env := by rfl) : JE X n W κ (.Attribute a "value" pos) (d1 gVal f) := je_value hE ha hb
theorem j_ix (ha : JO X n W κ a f) (hb : JO X n W κ' b h) (hs : PlainIx b := by exact fun _ _ => rfl) : JE X n W (κ + κ') (.Subscript a b pos) (d2 gIx f h) := je_sub_ix ha hb hs
theorem j_in (C : Cok X n W k) (ha : JO X n W κ a f) (hb : JO X n W κ' b h) (hm : behindInMarks .In b = false := by rfl) : JE X n W (κ + κ') (.Compare a [.In] [b] pos) (d2 gIn f h) := je_in C ha hb hm
theorem j_nin (C : Cok X n W k) (ha : JO X n W κ a f) (hb : JO X n W κ' b h) (hm : behindInMarks .NotIn b = false := by rfl) : JE X n W (κ + κ') (.Compare a [.NotIn] [b] pos) (d2 gNotIn f h) := je_notIn C ha hb hm
theorem t_lt (ha : JO X n W κ a f) (hb : JO X n W κ' b h) : JT X n W (κ + κ') (.Compare a [.Lt] [b] pos) (tVal (d2 gLt f h)) := jt_cmp op_lt (opD_I0 fun _ _ _ => .bl _) ha hb (nomark _)
theorem t_le (ha : JO X n W κ a f) (hb : JO X n W κ' b h) : JT X n W (κ + κ') (.Compare a [.LtE] [b] pos) (tVal (d2 gLe f h)) := jt_cmp op_le (opD_I0 fun _ _ _ => .bl _) ha hb (nomark _)
theorem t_gt (ha : JO X n W κ a f) (hb : JO X n W κ' b h) : JT X n W (κ + κ') (.Compare a [.Gt] [b] pos) (tVal (d2 gGt f h)) := jt_cmp op_gt (opD_I0 fun _ _ _ => .bl _) ha hb (nomark _)
theorem t_ge (ha : JO X n W κ a f) (hb : JO X n W κ' b h) : JT X n W (κ + κ') (.Compare a [.GtE] [b] pos) (tVal (d2 gGe f h)) := jt_cmp op_ge (opD_I0 fun _ _ _ => .bl _) ha hb (nomark _)
theorem t_eq (C : Cok X n W k) (ha : JO X n W κ a f) (hb : JO X n W κ' b h) : JT X n W (κ + κ') (.Compare a [.Eq] [b] pos) (tVal (d2 gEq f h)) := jt_cmp (op_eqA C.hr) opD_eq ha hb (nomark _)
theorem t_ne (C : Cok X n W k) (ha : JO X n W κ a f) (hb : JO X n W κ' b h) : JT X n W (κ + κ') (.Compare a [.NotEq] [b] pos) (tVal (d2 gNe f h)) := jt_cmp (op_neA C.hr) opD_ne ha hb (nomark _)
theorem t_in (C : Cok X n W k) (ha : JO X n W κ a f) (hb : JO X n W κ' b h) (hm : behindInMarks .In b = false := by rfl) : JT X n W (κ + κ') (.Compare a [.In] [b] pos) (tVal (d2 gIn f h)) := jt_cmp (op_inA C.hr) opD_in ha hb hm
theorem t_nin (C : Cok X n W k) (ha : JO X n W κ a f) (hb : JO X n W κ' b h) (hm : behindInMarks .NotIn b = false := by rfl) : JT X n W (κ + κ') (.Compare a [.NotIn] [b] pos) (tVal (d2 gNotIn f h)) := jt_cmp (op_notInA C.hr) opD_notIn ha hb hm
theorem t_v (he : JE X n W κ e f) (hw : ∀ whole, isTrue e X.env whole = (do let v ← whole; standAt e.pos; holding [v] (truthy v)) := by exact fun _ => rfl) : JT X n W κ e (tVal f) := jt_val he hw
/-- a chain of two comparisons of ints -/
theorem oI_lt : OpD X.K (rI0 fun i j => .bl (decide (i < j))) gLt := opD_I0 fun _ _ _ => .bl _
theorem oI_le : OpD X.K (rI0 fun i j => .bl (decide (i ≤ j))) gLe := opD_I0 fun _ _ _ => .bl _
theorem oI_gt : OpD X.K (rI0 fun i j => .bl (decide (j < i))) gGt := opD_I0 fun _ _ _ => .bl _
theorem oI_ge : OpD X.K (rI0 fun i j => .bl (decide (j ≤ i))) gGe := opD_I0 fun _ _ _ => .bl _
theorem se {f : DE} (he : JE X n W κ e f) (hs : swapsWith e none pos.line X.env = pure false := by rfl) : JS X n W κ (.Expr e pos) (gDrop f) := js_expr he hs
theorem ss (C : Cok X n W k) (i : Nat) {x : Str} {pos' : Pos} (he : JE X n W κ e f) (hi : X.N[i]? = some x := by rfl) (hx : Loc X.env.scope x := by first | exact .inl rfl | exact .inr rfl) (hs : swapsWith e (some (.Name x pos')) pos.line X.env = pure false := by rfl)
    (hf : X.fn x = true ∨ X.env.scope.names.lookup x = some .local := by first | exact .inr rfl | exact .inl rfl) : JS X n W κ (.Assign [.Name x pos'] e pos) (gSet i f) := js_set C.nd hi hx he hs hf
theorem sn (C : Cok X n W k) (i : Nat) {x : Str} {pos' : Pos} {fn : DN} (he : JN X n W κ e fn) (hi : X.N[i]? = some x := by rfl) (hx : Loc X.env.scope x := by first | exact .inl rfl | exact .inr rfl) (hs : swapsWith e (some (.Name x pos')) pos.line X.env = pure false := by rfl)
    (hf : X.fn x = true ∨ X.env.scope.names.lookup x = some .local := by first | exact .inr rfl | exact .inl rfl) (hpa : ∀ a, n.pa a := by exact fun _ => trivial) : JS X n W κ (.Assign [.Name x pos'] e pos) (gSetN i fn) := js_setN hpa C.nd hi hx he hs hf
theorem sa {wr : List Nat} {gd : DG} (he : JE X n W κ e f) (hg : JG X n wr tg gd) (hs : swapsWithSole [tg] e pos.line X.env = pure false := by rfl) (hw : swappedStores [tg] e X.env = pure none := by rfl) (h1 : (assignEach [tg] X.env).map (·.2) = [assign tg X.env] := by rfl) :
    JS X n W κ (.Assign [tg] e pos) (gAsg f gd) := js_asg he hg hs hw h1
theorem gt {es : List Expr} {kk : Nat} {wr : List Nat} {g : DGs} (C : Cok X n W k) (nn : Nat) (h : JGs X n wr es g) (hlen : ∀ xs ρ R, g xs ρ R → xs.length = nn) (hn : (assignEach es X.env).length = nn := by rfl) (hst : (assignEach es X.env).findIdx? (·.1) = none := by rfl) : JG X n wr (.Tuple es kk pos) (gTp g) := jg_tup C.calm h hn hst hlen
theorem gc {es : List Expr} {w1 w2 : List Nat} {g1 : DG} {g2 : DGs} (h1 : JG X n w1 e g1) (h2 : JGs X n w2 es g2) (hs : (assignEach (e :: es) X.env).map (·.2) = assign e X.env :: (assignEach es X.env).map (·.2) := by rfl) : JGs X n (w1 ++ w2) (e :: es) (gsCons g1 g2) := jgs_cons h1 h2 hs
theorem sp2 (C : Cok X n W k) (i j : Nat) {x y : Str} {px py pt : Pos} {kt k2 pt2} (ha : JA X n W κ [a, b] fa) (hi : X.N[i]? = some x := by rfl) (hj : X.N[j]? = some y := by rfl) (hij : i ≠ j := by decide) (hx : X.env.scope.names.lookup x = some .local := by rfl) (hy : X.env.scope.names.lookup y = some .local := by rfl)
    (hw : swappedStores [.Tuple [.Name x px, .Name y py] kt pt] (.Tuple [a, b] k2 pt2) X.env = pure (some [x, y]) := by rfl)
    (hs : swapsWithSole [.Tuple [.Name x px, .Name y py] kt pt] (.Tuple [a, b] k2 pt2) pos.line X.env = pure false := by rfl) : JS X n W κ (.Assign [.Tuple [.Name x px, .Name y py] kt pt] (.Tuple [a, b] k2 pt2) pos) (gPar i j fa) := js_par C.calm C.nd hi hj hij hx hy ha hw hs
theorem sp3 (C : Cok X n W k) (i j l : Nat) {x y z : Str} {px py pz pt : Pos} {kt k2 pt2} (ha : JA X n W κ [a, b, c] fa) (hi : X.N[i]? = some x := by rfl) (hj : X.N[j]? = some y := by rfl) (hl : X.N[l]? = some z := by rfl) (hij : i ≠ j := by decide) (hil : i ≠ l := by decide) (hjl : j ≠ l := by decide)
    (hx : X.env.scope.names.lookup x = some .local := by rfl) (hy : X.env.scope.names.lookup y = some .local := by rfl) (hz : X.env.scope.names.lookup z = some .local := by rfl) 
    (hw : swappedStores [.Tuple [.Name x px, .Name y py, .Name z pz] kt pt] (.Tuple [a, b, c] k2 pt2) X.env = pure (some [x, y, z]) := by rfl)
    (hs : swapsWithSole [.Tuple [.Name x px, .Name y py, .Name z pz] kt pt] (.Tuple [a, b, c] k2 pt2) pos.line X.env = pure false := by rfl) : JS X n W κ (.Assign [.Tuple [.Name x px, .Name y py, .Name z pz] kt pt] (.Tuple [a, b, c] k2 pt2) pos) (gPar3 i j l fa) := js_par3 C.calm C.nd hi hj hl hij hil hjl hx hy hz ha hw hs
theorem lc {scope : Scope} (own : List (Str × Nat)) {wr : List Nat} {gd : DG} (L : Nat) (C : Cok X n W k) (hi : JI X n W κi tg iter fi)
    (hg : ∀ (s : Shared) (H : Hp) (CC : Addr) (cl : List (Str × Addr)) (fp : List Addr), JG (X.blk s H scope (compEnvC scope cl CC X.env) fp) n wr tg gd)
    (ht : ∀ (s : Shared) (H : Hp) (CC : Addr) (cl : List (Str × Addr)) (fp : List Addr), JTs (X.blk s H scope (compEnvC scope cl CC X.env) fp) n WF κt ifs t)
    (he : ∀ (s : Shared) (H : Hp) (CC : Addr) (cl : List (Str × Addr)) (fp : List Addr), JE (X.blk s H scope (compEnvC scope cl CC X.env) fp) n WF κe elt f)
    (hL2 : L ≤ 100000 := by decide) (ok : blkC X.N X.env.scope scope own = true := by rfl) (hsub : ∀ j ∈ wr, j ∈ own.map (·.2) := by decide) (hs : ∀ x, foldedSetIterable iter X.env x = pure x := by exact fun _ => rfl) :
    JN X n W (κi + L * (κt + κe)) (.ListComp elt [⟨tg, iter, ifs, 0⟩] scope pos) (nLc L fi gd t f (own.map (·.2))) := jn_lc L hL2 C.calm C.nd hi (blkOk_by ok) hsub hg ht he hs
theorem slc (i : Nat) {y : Str} {py spos : Pos} {scope : Scope} (own : List (Str × Nat)) {wr : List Nat} {gd : DG} (L : Nat) (C : Cok X n W k) (hi : JI X n W κi tg iter fi)
    (hg : ∀ (s : Shared) (H : Hp) (CC : Addr) (cl : List (Str × Addr)) (fp : List Addr), JG (X.blk s H scope (compEnvC scope cl CC X.env) fp) n wr tg gd)
    (ht : ∀ (s : Shared) (H : Hp) (CC : Addr) (cl : List (Str × Addr)) (fp : List Addr), JTs (X.blk s H scope (compEnvC scope cl CC X.env) fp) n WF κt ifs t)
    (he : ∀ (s : Shared) (H : Hp) (CC : Addr) (cl : List (Str × Addr)) (fp : List Addr), JE (X.blk s H scope (compEnvC scope cl CC X.env) fp) n WF κe elt f)
    (hk : X.env.scope.kind = .function := by rfl) (hl : (py.line == pos.line) = true := by rfl) (hna : (scope.names.any fun (n, k) => n == y && (k == .local || k == .cell)) = false := by rfl)
    (hy : X.N[i]? = some y := by rfl) (hyl : X.env.scope.names.lookup y = some .local := by rfl)
    (hL2 : L ≤ 100000 := by decide) (ok : blkC X.N X.env.scope scope own = true := by rfl) (hsub : ∀ j ∈ wr, j ∈ own.map (·.2) := by decide) (hs : ∀ x, foldedSetIterable iter X.env x = pure x := by exact fun _ => rfl) (hpa : ∀ a, n.pa a := by exact fun _ => trivial) :
    JS X n W (κi + L * (κt + κe)) (.Assign [.Name y py] (.ListComp elt [⟨tg, iter, ifs, 0⟩] scope pos) spos) (gSetN i (nLc L fi gd t f (own.map (·.2)))) := js_setLc hpa L hL2 C.calm C.nd hy hyl (sw_true hk hyl hl hna) hi (blkOk_by ok) hsub hg ht he hs
theorem r1 {tg : Expr} {p : Pos} (hm : X.mg "range" = none) (ha : JAO X n W κ [a] fa) (hg : Gl X "range" := by rfl) (hs : starEach [a] X.env = [(false, eval a X.env)] := by rfl) : JI X n W κ tg (.Call (.Name "range" p) [a] [] pos) (iRg rg1 fa) := ji_range1 hg hm ha hs
theorem r2 {tg : Expr} {p : Pos} (hm : X.mg "range" = none) (ha : JAO X n W κ [a, b] fa) (hg : Gl X "range" := by rfl) (hs : starEach [a, b] X.env = [(false, eval a X.env), (false, eval b X.env)] := by rfl) (hs2 : starEach [b] X.env = [(false, eval b X.env)] := by rfl) : JI X n W κ tg (.Call (.Name "range" p) [a, b] [] pos) (iRg rg2 fa) := ji_range2 hg hm ha hs hs2
theorem sf {body : List Stmt} {gb : DS} {κb : Nat} {wr : List Nat} {gd : DG} (L : Nat) (B : Bok X n W k) (hi : JI X n W κi tg iter fi) (hg : JG X n wr tg gd) (hb : JB X n W κb body gb) (hs : ∀ x, foldedSetIterable iter X.env x = pure x := by exact fun _ => rfl) : JS X n W (κi + L * κb) (.For tg iter body [] pos) (gFor L fi gd gb) := js_for L B hi hg hb hs
theorem sr {x : Str} {p pos2 : Pos} {D fI : Addr} {CC : Addr} (cn : Nat) (C0 : Cok X n W k) (B : ErrBase X.prog X.K X.mg D fI) (hE : ∀ c, ErrCls X.K D fI (n.CT c)) (gC : X.mg x = some (.ref (n.CT cn))) (ha : JE X n W κ a f) (hg : Gl X x := by rfl)
    (hdb : (x == ("__debug__" : Str)) = false := by rfl) (he : starEach (a :: []) X.env = (false, eval a X.env) :: starEach [] X.env := by rfl) (hpl : (backTo pos (starEach [] X.env)).any (·.1) = false := by rfl) :
    JS X n W κ (.Raise (some (.Call (.Name x p) [a] [] pos)) none pos2) (gRaise cn f) := js_raise C0 B (hE cn) rfl gC ha hg hdb he hpl
theorem sap (i : Nat) {x : Str} {pos' p pa : Pos} (he : JE X n W κ e f) (hN : X.N[i]? = some x := by rfl) (hv : Vis X.env.scope x := by first | exact .inl rfl | exact .inr (.inl rfl) | exact .inr (.inr rfl)) (hd : (x == ("__debug__" : Str)) = false := by rfl) (hcd : (x == ("__classdict__" : Str)) = false := by rfl) 
    (hbase : attributeBase (.Name x p) "append" X.env (eval (.Name x p) X.env) = eval (.Name x p) X.env := by rfl)
    (hfew : ((backTo pos (starEach (e :: []) X.env)).all (fun x => !x.1) && (backToKw pos (keywordEach [] X.env)).all (fun x => x.1.isSome)
      && decide ((e :: ([] : List Expr)).length + ([] : List Keyword).length + (if ([] : List Keyword).isEmpty then 0 else 1) < 30)) = true := by rfl)
    (hline : (pa.endLine == pos.line) = true := by rfl) (hs : starEach (e :: []) X.env = (false, eval e X.env) :: starEach [] X.env := by rfl) (hplain : (backTo pos (starEach [] X.env)).any (·.1) = false := by rfl)
    (hsw : swapsWith (.Call (.Attribute (.Name x p) "append" pa) [e] [] pos) none pos'.line X.env = pure false := by rfl) :
    JS X n W κ (.Expr (.Call (.Attribute (.Name x p) "append" pa) [e] [] pos) pos') (gApp i f) := js_app hN hv hd hcd he hbase hfew hline hs hplain hsw
theorem st_ {body : List Stmt} {gb : DS} (i j : Nat) {x nm y : Str} {cv : Value} {np pos' p1 p2 p3 : Pos} (C : Cok X n W k) (hs : X.stack = X.env :: X.outer) (hf : X.env.frame = some X.env.locals) (hex : X.ex = []) (hm : X.mg x = some cv) (hX : ∀ c, PySem.W.exmOne X.K (.ref (n.CT c)) cv = some true)
    (hb : ∀ (W : WX) (pn : List (Addr × Obj)) (xe : Value → Shared → Prop), Cok (X.tr pn xe) n W k → Bok (X.tr pn xe) n W k → JB (X.tr pn xe) n W κ body gb) (hi : X.N[i]? = some nm := by rfl) (hln : X.env.kindOf nm = some .local := by rfl) (hj : X.N[j]? = some y := by rfl)
    (hly : X.env.kindOf y = some .local := by rfl) (hij : i ≠ j := by decide) (hnd : (nm == ("__debug__" : Str)) = false := by rfl) (hnc : (nm == ("__classdict__" : Str)) = false := by rfl) (hg : Gl X x := by rfl) (hdb : (x == ("__debug__" : Str)) = false := by rfl)
    (hsw : swapsWith (.Name nm p2) (some (.Name y p1)) p3.line X.env = pure false := by rfl) :
    JS X n W κ (.Try body [.ExceptHandler (some (.Name x np)) (some nm) [.Assign [.Name y p1] (.Name nm p2) p3] pos'] [] [] pos) (gTry i j gb) :=
  js_try hs hf hex C.nd hi hln hj hly hij hnd hnc ⟨hg, hdb, .inl hm⟩ C.tk hX (fun W pn xe tk po => hb W pn xe ⟨C.calm, tk, C.hr, C.hg, C.nd⟩ ⟨⟨C.calm, tk, C.hr, C.hg, C.nd⟩, po⟩) hsw

theorem six (i : Nat) {x : Str} {ei : Expr} {p ps : Pos} {fx : DE} (he : JE X n W κ e f) (hx : JE X n W κ' ei fx) (hN : X.N[i]? = some x := by rfl) (hv : Vis X.env.scope x := by first | exact .inl rfl | exact .inr (.inl rfl) | exact .inr (.inr rfl)) (hd : (x == ("__debug__" : Str)) = false := by rfl) (hcd : (x == ("__classdict__" : Str)) = false := by rfl)
    (hs : swapsWithSole [.Subscript (.Name x p) ei ps] e pos.line X.env = pure false := by rfl) (hw : swappedStores [.Subscript (.Name x p) ei ps] e X.env = pure none := by rfl) (h1 : (assignEach [.Subscript (.Name x p) ei ps] X.env).map (·.2) = [assign (.Subscript (.Name x p) ei ps) X.env] := by rfl)
    (ha : ∀ v, assign (.Subscript (.Name x p) ei ps) X.env v = (do
      let ov ← holding [v] (eval (.Name x p) X.env)
      let iv ← holding [v, ov] (eval ei X.env)
      standAt ps
      holding [v, ov, iv] (setItem ov iv v)
      release [v, ov, iv] []) := by exact fun _ => rfl) :
    JS X n W (κ + κ') (.Assign [.Subscript (.Name x p) ei ps] e pos) (gSetIx i fx f) := js_setIx (pos' := pos) hN hv hd hcd he hx hs hw h1 ha
theorem clk {G : Fn} {x : Str} {ps ks : List Str} {ff : Addr} {fd : FuncData} {p : Pos} {kws : List Keyword} {gg : List Value → List Value → List Value} {gV : List V → List V → List V} {gD : List DV → List DV → List DV}
    (F : DefG X.prog X.w X.K X.mg X.base x ps k ff fd (spD X.K n.CT κf G)) (C : Cok X n W k') (hk : k ≤ k') (hb : KBinds X.K fd ps ks gg gV) (hD : ∀ S vs xs zs ys, DvAll X.K n S vs xs → DvAll X.K n S zs ys → DvAll X.K n S (gV vs zs) (gD xs ys))
    (hkw : JK X n W κ' kws fk) (hg : Gl X x := by rfl) (hall : (backToKw pos (keywordEach kws X.env)).all (·.1.isSome) = true := by rfl)
    (hks : (backToKw pos (keywordEach kws X.env)).filterMap (·.1) = ks := by rfl) (hdb : (x == ("__debug__" : Str)) = false := by rfl) (hpl : (backToKw pos (keywordEach kws X.env)).any (·.1.isNone) = false := by rfl) :
    JE X n W (κ' + κf) (.Call (.Name x p) [] kws pos) (dCallK G gD aNil fk) := je_callK0 F C hk hb hD hkw hg hall hks hdb hpl
end
end Wb
/-! Wb9: the well made (a new list returned), the law's def, the law's end. -/
namespace Wb
open PySem PySem.Spec PyProof.Rows L2
/-- a body that returns a new list -/
def rdZ (K : Frag) (n : En) (κ : Nat) (g : List Sl → (List PD → Prop) → Prop) : TS := fun D σ H => ∃ m S ρ R, StOk K n (m + κ) S H σ ρ ∧ g ρ R ∧
  ∀ xs p vs S' H', R xs → Wd n.wl m S' H' → Post n.wl n.S0 n.H0 S' H' → n.H0 p = none → S' p = none → H' p = some (.lst vs) → DqAll K S' vs xs → D.rt (.ref p) H'
abbrev JZ (X : Cx) (n : En) (κ : Nat) (sts : List Stmt) (g : List Sl → (List PD → Prop) → Prop) : Prop := PSs X sts (rdZ X.K n κ g)
def zRet (fn : DN) : List Sl → (List PD → Prop) → Prop := fun ρ R => fn ρ R noE
def zSeq (a : DS) (b : List Sl → (List PD → Prop) → Prop) : List Sl → (List PD → Prop) → Prop := fun ρ R => a ⟨fun ρ' => b ρ' R, fun _ _ => False, fun _ => False, fun _ => False, fun _ _ _ => False⟩ ρ
section
variable {X : Cx} {n : En} {W : WX} {κ κ' k k' : Nat} {e : Expr} {es : List Expr} {pos : Pos} {st : Stmt} {sts : List Stmt} {fn : DN} {ga : DS} {gb : List Sl → (List PD → Prop) → Prop} {fa : DA}
theorem jz_ret (h : JN X n W κ e fn) : JZ X n κ [.Return (some e) pos] (zRet fn) := PSs.to (pss_one (ps_ret h)) fun D σ H ⟨m, S, ρ, R, st, hg, kR⟩ => by
  refine ⟨m, S, ρ, R, noE, st, hg, fun xs p vs S' H' hx st' po np sp hp d => kR xs p vs S' H' hx st'.wd st'.po ?_ sp hp d, fun c x cls dx S' H' z => z.elim⟩
  by_cases z : n.H0 p = none
  · exact z
  · exact absurd np (st.po.al p z)
theorem jz_cons (h1 : JS X n W κ st ga) (h2 : JZ X n κ' sts gb) : JZ X n (κ + κ') (st :: sts) (zSeq ga gb) := by
  refine PSs.to (pss_cons h1 h2) fun D σ H ⟨m, S, ρ, R, st, hg, kR⟩ => ?_
  exact ⟨m + κ', S, ρ, _, st_split st, hg, fun ρ1 σ1 S1 H1 h1 st1 s1 => ⟨m, S1, ρ1, R, st1, h1, kR⟩, fun _ _ _ _ _ _ z => z.elim, fun _ _ _ _ z => z.elim, fun _ _ _ _ z => z.elim, fun _ _ _ _ _ _ _ _ z => z.elim⟩
theorem jz_le {κa : Nat} (h : JZ X n κ sts gb) (hl : κ ≤ κa) : JZ X n κa sts gb := PSs.to h fun D σ H ⟨m, S, ρ, R, st, hg, k⟩ => ⟨m, S, ρ, R, st.le (by omega), hg, k⟩
end
/-- the promise of _law_well: of script and k a new list of three ints -/
def spW (K : Frag) (g : Nat → List Int → Int → Prop) : Sp := fun vs H Q _ => ∃ S p0 ns k, vs = [.ref p0, .int k] ∧ Same S H ∧ SqL K S p0 (ns.map V.int) ∧ g 0 ns k ∧
  ∀ p a b c S' H', Same S' H' → Post none S H S' H' → H p = none → S' p = none → H' p = some (.lst [.int a, .int b, .int c]) → WOk (2 ^ 60) a b c → Q (.ref p) H'
/-- what _law_well may be asked -/
def WellAsk : Nat → List Int → Int → Prop := fun _ ns k => 0 ≤ k ∧ k < 2 ^ 30 ∧ ns.length ≤ 100000 ∧ ∀ z ∈ ns, z.natAbs < 2 ^ 1100000
def WellLaw (nl : Nat) (g : List Sl → (List PD → Prop) → Prop) : Prop := ∀ (ns : List Int) (k : Int), WellAsk 0 ns k → g ([.v (.scr ns), .v (.d (.int k))] ++ List.replicate nl .no) fun xs => ∃ a b c : Int, xs = [.int a, .int b, .int c] ∧ WOk (2 ^ 60) a b c
structure DefW (P : Program) (w : World) (K : Frag) (mg : Str → Option Value) (base : Heap) (x : Str) (ps : List Str) (k : Nat) (f : Addr) (fd : FuncData) : Prop where
  fn : FnG P w K mg base k f fd ps (spW K WellAsk)
  mgx : mg x = some (.ref f)
  kp : PySem.W.keepIn K (.ref f) = true
  b : Binds K fd ps []
theorem defW_of {P : Program} {w : World} {K : Frag} {mg : Str → Option Value} {base : Heap} {k nl : Nat} {f : Addr} {fd : FuncData} {x qual : Str} {st : Stmt} {N ps : List Str} {CT : Nat → Addr} {g : List Sl → (List PD → Prop) → Prop} (F : Fun K x qual st f fd) (S : FnScope N ps (defScope st))
    (hmg : mg x = some (.ref f)) (hb : Binds K fd ps []) (h2 : ps.length = 2) (hl : N.length = 2 + nl) (law : WellLaw nl g)
    (body : ∀ (cdv : Value) (A : Around) (outer : List Env) (s : Shared) (H : Hp) (E : XK) (wl : Option Addr) (S0 : Hp), Bok (cxOf (L2.CX P w) P w K mg base N qual (defScope st) f cdv A outer s H E) (En.of CT wl S0 H) (WE E) k →
      JZ (cxOf (L2.CX P w) P w K mg base N qual (defScope st) f cdv A outer s H E) (En.of CT wl S0 H) 0 (defBody st) g) : DefW P w K mg base x ps (k + 1) f fd := by
  refine ⟨fnG_of F S (fun vs H Q E ⟨S, p0, ns, k, e, _⟩ => by rw [e, h2]; rfl) fun cdv A outer s H vs Q E hgd hr hsp => ?_, hmg, F.kp, hb⟩
  obtain ⟨S0, p0, ns, kk, rfl, sm, d1, hask, kR⟩ := hsp
  have nd := S.nd
  have wd : Wd none 0 S0 H := ⟨sm, fun q z => nomatch z⟩
  have da : DvAll K (En.of CT none S0 H) S0 [.ref p0, .int kk] [.scr ns, .d (.int kk)] := .cons ⟨p0, rfl, d1⟩ (.cons (.int kk) .nil)
  have tk := L2.takes_of (X := cxOf (L2.CX P w) P w K mg base N qual (defScope st) f cdv A outer s H E) (E := E) rfl rfl rfl rfl
  refine ⟨_, body cdv A outer s H E none S0 ⟨⟨rfl, tk, hr, hgd, nd⟩, L2.passes_of rfl⟩, 0, S0, _, _, start_st wd da (by rw [hl]; rfl), law ns kk hask, fun xs p vs S' H' hx w po h0 sp hp d => ?_⟩
  obtain ⟨a, b, c, rfl, hW⟩ := hx
  cases d with
  | cons u1 d =>
  cases d with
  | cons u2 d =>
  cases d with
  | cons u3 d =>
  cases d
  cases u1
  cases u2
  cases u3
  exact kR p a b c S' H' w.sm po h0 sp hp hW
section
variable {X : Cx} {n : En} {W : WX} {κ κ' k k' : Nat} {e : Expr} {es : List Expr} {pos : Pos} {st : Stmt} {sts : List Stmt} {fn : DN} {ga : DS} {fa : DA}
def nCallW (f : DA) : DN := fun ρ R E => f ρ (fun xs => ∃ ns k, xs = [.scr ns, .d (.int k)] ∧ WellAsk 0 ns k ∧ ∀ a b c, WOk (2 ^ 60) a b c → R [.int a, .int b, .int c]) E
theorem jn_callW {x : Str} {ps : List Str} {ff : Addr} {fd : FuncData} {p : Pos} (F : DefW X.prog X.w X.K X.mg X.base x ps k ff fd) (C : Cok X n W k') (hk : k ≤ k') (ha : JA X n W κ (e :: es) fa) (hg : Gl X x := by rfl)
    (hdb : (x == ("__debug__" : Str)) = false := by rfl) (he : starEach (e :: es) X.env = (false, eval e X.env) :: starEach es X.env := by rfl) (hpl : (backTo pos (starEach es X.env)).any (·.1) = false := by rfl) : JN X n W κ (.Call (.Name x p) (e :: es) [] pos) (nCallW fa) := by
  refine PE.to (pe_callG F.fn C.hg (C.hr.mono hk) C.tk hg F.mgx F.kp F.b ha hdb he hpl) fun σ H Q ⟨m, S, ρ, R, Er, st, hf, kR, kE⟩ => ⟨m, S, ρ, _, Er, st, hf, fun xs vs S1 H1 hx st1 p1 d1 => ?_, kE⟩
  obtain ⟨ns, kk, rfl, hask, hR⟩ := hx
  cases d1 with
  | cons u1 d1 =>
  cases d1 with
  | cons u2 d1 =>
  cases d1
  obtain ⟨p0, rfl, hq⟩ := u1
  cases u2
  refine ⟨S1, p0, ns, kk, rfl, st1.wd.sm, hq, hask, fun p a b c S' H' sm po hp sp hp' hW => ?_⟩
  have nH : H p = none := by
    cases q : H p with
    | none => rfl
    | some o => exact absurd hp (p1.al p (by rw [q]; exact Option.some_ne_none _))
  have wd' : Wd n.wl m S' H' := ⟨sm, fun q e => by
    obtain ⟨h1, a, b, c, h2, h3⟩ := st1.wd.we q e
    exact ⟨po.fr q (by rw [h2]; exact Option.some_ne_none _) h1, a, b, c, po.kp q _ h2 (fun z => nomatch z), h3⟩⟩
  exact kR _ p _ S' H' (hR a b c hW) (st1.step po.wk wd') (p1.trans po.wk) nH sp hp' (.cons (.int _) (.cons (.int _) (.cons (.int _) .nil)))
/-- if not f(well): return False, f always True -/
def gRight (κr i : Nat) : DS := fun D ρ => slOw ρ[i]? fun xs => ∃ a b c m, xs = [.int a, .int b, .int c] ∧ WOk (m + κr) a b c ∧ ∀ a b c, WOk m a b c → D.nx (ρ.set i (.own [.int a, .int b, .int c]))
/-- what f must be -/
def RightFn (G : Fn) : Prop := ∀ R : DV → Prop, R (.d (.bool true)) → G [.wel] R noE
theorem WOk.le {m m' : Nat} {a b c : Int} (h : WOk m a b c) (hl : m' ≤ m) : WOk m' a b c := by
  obtain ⟨h1, h2, h3, h4, h5, h6⟩ := h
  exact ⟨h1, h2, h3, h4, h5, by omega⟩
theorem StOk.callW {K : Frag} {m mm : Nat} {S H S' H' : Hp} {σ : L2.St} {ρ : List Sl} {i : Nat} {p : Addr} {xs : List PD} (s : StOk K n m S H σ ρ) (hi : ρ[i]? = some (.own xs)) (ep : σ[i]? = some (some (.ref p))) (po : Post (some p) S H S' H') (w : Wd (some p) mm S' H') :
    ∃ a b c, WOk mm a b c ∧ StOk K n m S' H' σ (ρ.set i (.own [.int a, .int b, .int c])) := by
  obtain ⟨A, h1, h2⟩ := s.sl
  obtain ⟨g1, g2, g3, g4, vs, g5, g6⟩ := h1 i _ hi
  rw [ep] at g1
  cases g1
  obtain ⟨sp, a, b, c, hp, hW⟩ := w.we _ rfl
  have hl : i < ρ.length := (List.getElem?_eq_some_iff.mp hi).1
  refine ⟨a, b, c, hW, ⟨w.sm, fun q e => ?_⟩, ⟨s.po.sS.trans po.sS, fun a ha sa => po.fr a (s.po.al a ha) (s.po.fr a ha sa), fun a o e wn => ?_, fun a ha => po.al a (s.po.al a ha)⟩, by rw [List.length_set]; exact s.len, A, fun j t e => ?_, fun j k ys' zs e1 e2 z => ?_⟩
  · obtain ⟨q1, a, b, c, q2, q3⟩ := s.wd.we q e
    have ne : q ≠ A i := fun z => g4 (by rw [← z]; exact e)
    exact ⟨po.fr q (by rw [q2]; exact Option.some_ne_none _) q1, a, b, c, po.kp q _ q2 (fun z => ne (Option.some.inj z).symm), q3⟩
  · have ne : a ≠ A i := fun z => by rw [z, g3.1] at e; cases e
    exact po.kp a o (s.po.kp a o e wn) (fun z => ne (Option.some.inj z).symm)
  · by_cases hj : i = j
    · subst hj
      rw [List.getElem?_set_self hl] at e
      cases e
      exact ⟨ep, sp, g3, g4, _, hp, .cons (.int _) (.cons (.int _) (.cons (.int _) .nil))⟩
    · rw [List.getElem?_set_ne hj] at e
      have q := h1 j t e
      cases t with
      | no => exact trivial
      | v x =>
        obtain ⟨v, q1, q2⟩ := q
        exact ⟨v, q1, dv_mono po.sS q2⟩
      | own zs =>
        obtain ⟨q1, q2, q3, q4, ws, q5, q6⟩ := q
        have ne : A j ≠ A i := fun z => hj (h2 j i zs xs e hi z).symm
        exact ⟨q1, po.fr (A j) (by rw [q5]; exact Option.some_ne_none _) q2, q3, q4, ws, po.kp (A j) _ q5 (fun z => ne (Option.some.inj z).symm), dqAll_mono po.sS q6⟩
  · have oo : ∀ k zs, (ρ.set i (Sl.own [.int a, .int b, .int c]))[k]? = some (Sl.own zs) → ∃ ws, ρ[k]? = some (Sl.own ws) := fun k zs e => by
      by_cases hk : i = k
      · subst hk; exact ⟨xs, hi⟩
      · rw [List.getElem?_set_ne hk] at e; exact ⟨zs, e⟩
    obtain ⟨_, f1⟩ := oo _ _ e1
    obtain ⟨_, f2⟩ := oo _ _ e2
    exact h2 j k _ _ f1 f2 z
/-- the well of slot i is lent to a call -/
theorem lend {G : Fn} {κr m i : Nat} {S H : Hp} {σ : L2.St} {ρ : List Sl} {D : Ends} {Dd : DEnds} (hG : RightFn G) (st : StOk X.K n m S H σ ρ) (hg : gRight κr i Dd ρ) (ks : KSt X.K n W m S D Dd) (E : XK) :
    ∃ p, σ[i]? = some (some (.ref p)) ∧ spD X.K n.CT κr G [.ref p] H (fun v H' => v = .bl true ∧ D.nx σ H') E := by
  obtain ⟨xs, hi, a, b, c, m2, rfl, hW, hR⟩ := slOw_of hg
  obtain ⟨A, h1, h2⟩ := st.sl
  obtain ⟨g1, g2, g3, g4, vs, g5, g6⟩ := h1 i _ hi
  cases g6 with
  | cons u1 g6 =>
  cases g6 with
  | cons u2 g6 =>
  cases g6 with
  | cons u3 g6 =>
  cases g6
  cases u1
  cases u2
  cases u3
  refine ⟨A i, g1, some (A i), m2, S, [.wel], fun x => x = .d (.bool true), noE, ⟨st.wd.sm, fun q e => ?_⟩, .cons ⟨A i, rfl, rfl⟩ .nil, hG _ rfl, fun x v S' H' hx w po dv => ?_, fun c x cls dx S' H' z => z.elim⟩
  · cases e
    exact ⟨g2, a, b, c, g5, hW⟩
  · subst hx
    cases dv
    obtain ⟨a', b', c', hW', st'⟩ := st.callW hi g1 po w
    exact ⟨rfl, ks.nx _ σ S' H' (hR a' b' c' hW') st' po.sS⟩
theorem js_right {G : Fn} {κr : Nat} (i : Nat) {x y : Str} {ps : List Str} {ff : Addr} {fd : FuncData} {p p2 p3 p4 p5 p6 : Pos} {j5 : Nat} (F : DefG X.prog X.w X.K X.mg X.base x ps k ff fd (spD X.K n.CT κr G)) (C : Cok X n W k') (hk : k ≤ k') (hG : RightFn G)
    (hg : Gl X x := by rfl) (hN : X.N[i]? = some y := by rfl) (hv : Vis X.env.scope y := by first | exact .inl rfl | exact .inr (.inl rfl) | exact .inr (.inr rfl)) (hd : (y == ("__debug__" : Str)) = false := by rfl) (hcd : (y == ("__classdict__" : Str)) = false := by rfl)
    (hdb : (x == ("__debug__" : Str)) = false := by rfl) (he : starEach (.Name y p2 :: []) X.env = (false, eval (.Name y p2) X.env) :: starEach [] X.env := by rfl) (hpl : (backTo p3 (starEach [] X.env)).any (·.1) = false := by rfl)
    (hw : ∀ whole, isTrue (.Call (.Name x p) [.Name y p2] [] p3) X.env whole = (do let v ← whole; standAt (Expr.Call (.Name x p) [.Name y p2] [] p3).pos; holding [v] (truthy v)) := by exact fun _ => rfl) :
    JS X n W 0 (.If (.UnaryOp .Not (.Call (.Name x p) [.Name y p2] [] p3) p4) [.Return (some (.Constant (.bool false) j5 p5)) p6] [] pos) (gRight κr i) := by
  refine PS.to (ps_if (pt_not (pt_val (pe_callG F.fn C.hg (C.hr.mono hk) C.tk hg F.mgx F.kp F.b (pa_cons (pe_var hN hv hd hcd) pa_nil he) hdb he hpl) hw)) (pss_one (ps_ret pe_bl)) pss_nil) fun D σ H ⟨m, S, ρ, Dd, st, hg, ks⟩ => ?_
  obtain ⟨q, e1, hs⟩ := lend hG st hg ks (fun cls d H' => W cls d σ H')
  refine ⟨_, e1, ?_⟩
  obtain ⟨wl, m, S, xs, R, Er, w, d, hg, kR, kE⟩ := hs
  exact ⟨wl, m, S, xs, R, Er, w, d, hg, fun x v S' H' hx w p dv => by
    obtain ⟨rfl, hnx⟩ := kR x v S' H' hx w p dv
    exact ⟨true, rfl, hnx⟩, kE⟩
end
/-! ### the law's end -/
/-- what law(script) must be -/
def LawFn (n : Nat) (G : Fn) : Prop := ∀ (ns : List Int) (R : DV → Prop), ns.length ≤ n → (∀ z ∈ ns, z.natAbs < 2 ^ 1100000) → R (.d (.bool true)) → G [.scr ns] R noE

/-- the one thing tracked at the law's entry: the script, unless it is the kit's own -/
def oneH (q : Addr) (u : HO) : Hp := fun b => if b = q then some u else none
def only1 (H : Hp) (q : Addr) (u : HO) : Prop := ∀ b v, H b = some v → b = q ∧ v = u
theorem oneH_only (q : Addr) (u : HO) : only1 (oneH q u) q u := fun b v e => by
  unfold oneH at e
  by_cases hb : b = q
  · rw [if_pos hb] at e; exact ⟨hb, (Option.some.inj e).symm⟩
  · rw [if_neg hb] at e; cases e
theorem law_end {P : Program} {w : World} {K : Frag} {mg mb : Str → Option Value} {k : Nat} {fa a : Addr} {fd : FuncData} {x : Str} {CT : Nat → Addr} {G : Fn} {t : Shared} {us : List Value} {ns : List Int} (kin : K.In t.heap) (gl : t.heap.Ns mainGlobals mg)
    (bl : t.heap.Ns builtinsNs mb) (bb : ∀ y : Str, y ≠ "__name__" → mb y = bootBuiltins y) (nl : t.heap.NoLimit) (gn : t.gens = #[]) (obj : t.heap.get? a = some { cls := .type "list", data := .seq us.toArray }) (ia : IntsAre us ns) (sz : ns.length ≤ sizeLine) (rm : Room k callerA)
    (F : ∀ base : Heap, K.In base → base.Ns mainGlobals mg → FnG P w K mg base k fa fd [x] (spD K CT 0 G)) (bind : ∀ (r : Shared) (u : Value), BindsTo r fd ⟨[u], []⟩ [(x, u)]) (hG : ∀ R : DV → Prop, R (.d (.bool true)) → G [.scr ns] R noE) :
    codeAny (model P w) callerA (.call (.ref fa) ⟨[.ref a], []⟩) (fun r t' => r = .ok (.ret (.bool true)) ∧ OldK t.heap t'.heap ∧ t'.os = t.os ∧ AllBare t'.gens) t := by
  have rel := vals_ints ia
  have go : ∀ (H : Hp) (u : HO), u = .frz { cls := .type "list", data := .seq us.toArray } (.lst (ns.map V.int)) → only1 H a u → (∀ v, H a = some v → K.lookup a = none) → SqL K H a (ns.map V.int) → HOk P w H t.heap →
      codeAny (model P w) callerA (.call (.ref fa) ⟨[.ref a], []⟩) (fun r t' => r = .ok (.ret (.bool true)) ∧ OldK t.heap t'.heap ∧ t'.os = t.os ∧ AllBare t'.gens) t := by
    intro H u hu on fr sq ok
    have away : ∀ {b : Addr} {ob : Obj}, t.heap.get? b = some ob → (∀ es ep, ob.data = .dict es ep → True) → (b = a → H a = none) → (hidT t.heap H).get? b = some ob := fun {b ob} e _ hb => hidT_get e (by
      cases q : H b with
      | none => rfl
      | some v =>
        obtain ⟨e1, _⟩ := on b v q
        rw [e1, hb e1] at q
        cases q)
    have names : ∀ {b : Addr} {m : Str → Option Value}, t.heap.Ns b m → (hidT t.heap H).Ns b m := fun {b m} z => by
      obtain ⟨ob, es, ep, e, dd, r⟩ := z
      refine ⟨ob, es, ep, away e (fun _ _ _ => trivial) (fun hb => ?_), dd, r⟩
      subst hb
      rw [obj] at e
      cases e
      have dd : Data.seq us.toArray _ = Data.dict es ep := dd
      cases dd
    have kin2 : K.In (hidT t.heap H) := fun b ob e => away (kin b ob e) (fun _ _ _ => trivial) fun hb => by
      cases q : H a with
      | none => rfl
      | some v =>
        subst hb
        rw [fr v q] at e
        cases e
    obtain ⟨mc, n1, n2⟩ := nl
    have en : Env0 P w K mg (hidT t.heap H) callerA [] t H := ⟨rfl, ⟨kin2, names gl, ⟨mb, names bl, bb⟩, mc, names n1, n2⟩, fun b ob e => of_hidT e, Nat.le_of_eq (hidT_size _ _), trivial, (fun b hb => nomatch (show b ∈ ([] : List Addr) from hb)), ok, .of_eq gn⟩
    have wd : Wd none 0 H H := ⟨Same.refl H, fun q e => nomatch e⟩
    refine codeAny_mono ((F _ kin2 (names gl)).run callerA [] t H ⟨[.ref a], []⟩ [.ref a] [.ref a] (fun v _ => v = .bl true) (fun _ _ _ => False) rfl rm en (bind t (.ref a)) (.cons rfl .nil)
      ⟨none, 0, H, [.scr ns], fun y => y = .d (.bool true), noE, wd, .cons ⟨a, rfl, sq⟩ .nil, hG _ rfl, fun y v S' H' hy _ _ dv => by subst hy; cases dv; rfl, fun _ _ _ _ _ _ z => z.elim⟩) fun r t' h => ?_
    match r, h with
    | .error e, h =>
      obtain ⟨_, _, _, _, _, _, _, _, _, _, _, _, z⟩ := h
      exact z.elim
    | .ok (.ret v), h =>
      obtain ⟨v', H', h1, h2, h3, h4, h5, h6⟩ := h
      have h6 : v' = .bl true := h6
      subst h6
      obtain rfl : v = Value.bool true := h5
      refine ⟨rfl, OldK.of_keep fun b ob e => ?_, h1, h2⟩
      cases q : H b with
      | none => exact h3.keep b ob e q (fun z => nomatch (show b ∈ ([] : List Addr) from z)) (fun z => nomatch z)
      | some v =>
        obtain ⟨rfl, rfl⟩ := on b v q
        subst hu
        rw [obj] at e
        cases e
        exact (h4 _ _ (h3.frzs _ _ _ q)).1
  cases inK : K.lookup a with
  | some ob =>
    have e := kin a ob inK
    rw [obj] at e
    cases e
    exact go (fun _ => none) _ rfl (fun b v z => nomatch z) (fun v z => nomatch z) (.inr ⟨_, us.toArray, _, inK, rfl, rfl, rfl, by rw [List.size_toArray, ia.length]; exact sz, by simpa using rel⟩) (fun b v z => nomatch z)
  | none =>
    refine go (oneH a _) _ rfl (oneH_only a _) (fun _ _ => inK) (.inl (.inr ⟨{ cls := .type "list", data := .seq us.toArray }, if_pos rfl⟩)) fun b v z => ?_
    obtain ⟨rfl, rfl⟩ := oneH_only a _ b v z
    exact ⟨obj, by rw [List.length_map]; exact sz, us, _, rel, obj⟩

theorem bits_lt {n : Int} (h : Builtin.Int.intBits n ≤ 1048576) : n.natAbs < 2 ^ 1100000 := by
  unfold Builtin.Int.intBits at h
  by_cases z : n = 0
  · subst z; exact Nat.pos_of_ne_zero (by simp)
  · have h0 : (n == 0) = false := by simpa using z
    rw [h0] at h
    have h : n.natAbs.log2 + 1 ≤ 1048576 := h
    have : n.natAbs < 2 ^ (n.natAbs.log2 + 1) := Nat.lt_log2_self
    exact Nat.lt_of_lt_of_le this (Nat.pow_le_pow_right (by decide) (by omega))
open PySem.W in
/-- the goal that the head leaves -/
theorem walk_end {l : OpenLaw} {n k : Nat} {q : Program} {loose : List Str} {XP : (Str → Option Value) → Heap → Prop} {YP : World → Heap → Prop} {d : DefRec} {K : Params → Frag} {x : Str} {G : Fn}
    (hn : l.most = some n) (hn2 : n ≤ 63) (hdf : d.params.defaults = []) (rm : Room k callerA) (hG : LawFn 63 G)
    (hY : ∀ (w : World) (h : Heap), YP w h → (K w.params).In h)
    (F : ∀ (w : World) (mg : Str → Option Value) (fa : Addr) (h : Heap), (K w.params).In h → h.Ns mainGlobals mg → mg d.name = some (.ref fa) →
      ∃ (fd : FuncData) (CT : Nat → Addr), (∀ (s : Shared) (u : Value), BindsTo s fd ⟨[u], []⟩ [(x, u)]) ∧ ∀ base : Heap, (K w.params).In base → base.Ns mainGlobals mg → FnG l.prog w (K w.params) mg base k fa fd [x] (spD (K w.params) CT 0 G)) :
    WalkO q loose XP YP l.row.toRowW d [] (fun f vs => PySem.call f vs) := by
  refine Att.attach_callB hn hdf fun w s₀ t mg mb fa o pm cd doc a us ns gr y ho hd hcd hmg hobj hints hlen hbits hg => ?_
  have kin := hY w _ y
  obtain ⟨fd, CT, bind, hF⟩ := F w mg fa _ kin gr.T.g hmg
  have h63 : (63 : Nat) ≤ sizeLine := by decide
  exact law_end kin gr.T.g gr.T.b gr.T.builtins gr.T.nolimit hg hobj hints (by omega) rm hF bind fun R hR => hG ns R (by omega) (fun z hz => bits_lt (hbits z hz)) hR
end Wb
/-! Wb10: plain lemmas about the words: comprehensions, loops; anew. -/
namespace Wb
open PySem PySem.Spec PyProof.Rows L2
/-- what anew does, to depth j -/
def okD : Nat → PD → Prop
  | 0, .list _ => False
  | 0, .tuple _ => False
  | j + 1, .list xs => xs.length ≤ 100000 ∧ ∀ y ∈ xs, okD j y
  | j + 1, .tuple xs => xs.length ≤ 100000 ∧ ∀ y ∈ xs, okD j y
  | _, _ => True
def anewFn (j : Nat) : Fn := fun xs R _ => ∃ x, xs = [.d x] ∧ okD j x ∧ R (.d x)
def anewG : Nat → Fn
  | 0 => fun _ _ _ => False
  | j + 1 => anewFn j
theorem lcD_of {gd : DG} {t : DT} {f : DE} {ρ : List Sl} {R : List PD → Prop} (h : PD → Option PD) : ∀ {xs : List PD}, (∀ x ∈ xs, ∀ P : Option PD → Prop, P (h x) → gd x ρ fun ρ1 => t ρ1 (fun b => if b = true then f ρ1 (fun y => onD y fun d => P (some d)) noE else P none) noE) → R (xs.filterMap h) → lcD gd t f ρ xs R
  | [], _, hR => hR
  | x :: xs, hb, hR => by
    unfold lcD
    have := hb x (by simp) (fun o => match o with
      | some d => lcD gd t f ρ xs fun ds => R (d :: ds)
      | none => lcD gd t f ρ xs R) (by
        cases q : h x with
        | none =>
          refine lcD_of h (fun y hy => hb y (by simp [hy])) ?_
          rw [List.filterMap_cons, q] at hR
          exact hR
        | some d =>
          refine lcD_of (R := fun ds => R (d :: ds)) h (fun y hy => hb y (by simp [hy])) ?_
          rw [List.filterMap_cons, q] at hR
          exact hR)
    exact this
/-- .. where the items are not told by a function -/
inductive Picks (r : PD → Option PD → Prop) : List PD → List PD → Prop
  | nil : Picks r [] []
  | skip {x : PD} {xs ys : List PD} : r x none → Picks r xs ys → Picks r (x :: xs) ys
  | take {x y : PD} {xs ys : List PD} : r x (some y) → Picks r xs ys → Picks r (x :: xs) (y :: ys)
theorem lcD_rel {gd : DG} {t : DT} {f : DE} {ρ : List Sl} (r : PD → Option PD → Prop) : ∀ {xs : List PD} {R : List PD → Prop}, (∀ x ∈ xs, ∀ P : Option PD → Prop, (∀ o, r x o → P o) → gd x ρ fun ρ1 => t ρ1 (fun b => if b = true then f ρ1 (fun y => onD y fun d => P (some d)) noE else P none) noE) →
    (∀ ys, Picks r xs ys → R ys) → lcD gd t f ρ xs R
  | [], _, _, hR => hR [] .nil
  | x :: xs, R, hb, hR => by
    unfold lcD
    exact hb x (by simp) (fun o => match o with
      | some d => lcD gd t f ρ xs fun ds => R (d :: ds)
      | none => lcD gd t f ρ xs R) fun o ho => by
        cases o with
        | none => exact lcD_rel r (fun y hy => hb y (by simp [hy])) fun ys hy => hR ys (.skip ho hy)
        | some d => exact lcD_rel r (fun y hy => hb y (by simp [hy])) fun ys hy => hR (d :: ys) (.take ho hy)
/-- a loop by an invariant -/
theorem loopD_inv {gd : DG} {b : DS} {D : DEnds} (I : List PD → List Sl → Prop) (hs : ∀ x xs ρ, I (x :: xs) ρ → gd x ρ fun ρ1 => b { D with nx := I xs, ct := I xs, bk := D.nx } ρ1) (he : ∀ ρ, I [] ρ → D.nx ρ)
    (mono : ∀ (P Q : List Sl → Prop) x ρ, (∀ ρ, P ρ → Q ρ) → (gd x ρ fun ρ1 => b { D with nx := P, ct := P, bk := D.nx } ρ1) → gd x ρ fun ρ1 => b { D with nx := Q, ct := Q, bk := D.nx } ρ1) : ∀ {xs : List PD} {ρ : List Sl}, I xs ρ → loopD gd b D xs ρ
  | [], ρ, h => he ρ h
  | x :: xs, ρ, h => mono _ _ x ρ (fun ρ h => loopD_inv I hs he mono h) (hs x xs ρ h)

section
variable {x y : PD} {xs ys : List PD} {i j : Int} {b c : Bool} {a a2 : Str} {R : DV → Prop} {P : PD → Prop} {Pb : Bool → Prop} {Pi : Int → Prop} {Pv : DV → Prop} {Pl : List PD → Prop} {C : Int → Int → Prop} {ff : Int → Int → PD} {v : DV} {vs : List DV} {T : String} {ns : List Int}
theorem e_onD : onD (.d x) P = P x := rfl
theorem e_onB : onB (.d (.bool b)) Pb = Pb b := rfl
theorem e_onI : onI' (.d (.int i)) Pi = Pi i := rfl
theorem e_slV : slV (some (.v v)) Pv = Pv v := rfl
theorem e_slO : slO (some (.v v)) Pv = Pv v := rfl
theorem e_slOo : slO (some (.own xs)) Pv = Pv (.d (.list xs)) := rfl
theorem e_slOw : slOw (some (.own xs)) Pl = Pl xs := rfl
theorem e_gI : gI C ff (.d (.int i)) (.d (.int j)) R = (C i j ∧ R (.d (ff i j))) := rfl
theorem e_gI0 : gI0 ff (.d (.int i)) (.d (.int j)) R = R (.d (ff i j)) := rfl
theorem e_add : gAdd (.d (.int i)) (.d (.int j)) R = R (.d (.int (i + j))) := rfl
theorem e_mul : gMul (.d (.int i)) (.d (.int j)) R = (MulOk i j ∧ R (.d (.int (i * j)))) := rfl
theorem e_mulL : gMul (.d (.list xs)) (.d (.int i)) R = ((0 ≤ i ∧ i ≤ 100000) ∧ xs.length * i.toNat ≤ 100000 ∧ R (.d (.list (List.replicate i.toNat xs).flatten))) := rfl
theorem e_neg : gNeg (.d (.int i)) R = R (.d (.int (-i))) := rfl
theorem e_ixL : gIx (.d (.list xs)) (.d (.int i)) R = ∃ y, atI xs i = some y ∧ R (.d y) := rfl
theorem e_ixT : gIx (.d (.tuple xs)) (.d (.int i)) R = ∃ y, atI xs i = some y ∧ R (.d y) := rfl
theorem e_ixS : gIx (.scr ns) (.d (.int i)) R = ∃ y, atI ns i = some y ∧ R (.d (.int y)) := rfl
theorem e_isi : gIsi T (.d x) R = R (.d (.bool (subTy (tyD x) T))) := rfl
theorem e_isN : gIsN (.d .none) R = R (.d (.bool true)) := rfl
theorem e_notN : gNotN (.d .none) R = R (.d (.bool false)) := rfl
theorem e_isNi : gIsN (.d (.int i)) R = R (.d (.bool false)) := rfl
theorem e_isNb : gIsN (.d (.bool b)) R = R (.d (.bool false)) := rfl
theorem e_isNl : gIsN (.d (.list xs)) R = R (.d (.bool false)) := rfl
theorem e_isNt : gIsN (.d (.tuple xs)) R = R (.d (.bool false)) := rfl
theorem e_isNs : gIsN (.d (.str a)) R = R (.d (.bool false)) := rfl
theorem e_isNe {k : Nat} : gIsN (.exc k x) R = R (.d (.bool false)) := rfl
theorem e_lenL : bLen [.d (.list xs)] R = R (.d (.int xs.length)) := rfl
theorem e_lenT : bLen [.d (.tuple xs)] R = R (.d (.int xs.length)) := rfl
theorem e_lenS : bLen [.scr ns] R = R (.d (.int ns.length)) := rfl
theorem e_abs : bAbs [.d (.int i)] R = R (.d (.int (i.natAbs : Nat))) := rfl
theorem e_int : bInt [.d (.int i)] R = R (.d (.int i)) := rfl
theorem e_intB : bInt [.d (.bool b)] R = R (.d (.int (if b then 1 else 0))) := rfl
theorem e_max : bMax2 [.d (.int i), .d (.int j)] R = R (.d (.int (if j > i then j else i))) := rfl
theorem e_min : bMin2 [.d (.int i), .d (.int j)] R = R (.d (.int (if j < i then j else i))) := rfl
theorem e_gcd : bGcd [.d (.int i), .d (.int j)] R = R (.d (.int ((Nat.gcd i.natAbs j.natAbs : Nat) : Int))) := rfl
theorem e_tupL : bTuple [.d (.list xs)] R = R (.d (.tuple xs)) := rfl
theorem e_tupT : bTuple [.d (.tuple xs)] R = R (.d (.tuple xs)) := rfl
theorem e_repr : bRepr [.d x] R = (ROk x ∧ R (.d (.str x.shown))) := rfl
theorem e_sum : bSum [.d (.list xs)] R = ∃ ns, asInts xs = some ns ∧ R (.d (.int ns.sum)) := rfl
theorem e_all : bAll [.d (.list xs)] R = ∃ bs, asBools xs = some bs ∧ R (.d (.bool (bs.all id))) := rfl
theorem e_any : bAny [.d (.list xs)] R = ∃ bs, asBools xs = some bs ∧ R (.d (.bool (bs.any id))) := rfl
theorem e_allN : allD [] Pl = Pl [] := rfl
theorem e_allC : allD (.d x :: vs) Pl = allD vs fun xs => Pl (x :: xs) := rfl
theorem e_seqL : seqD (.d (.list xs)) Pl = Pl xs := rfl
theorem e_seqT : seqD (.d (.tuple xs)) Pl = Pl xs := rfl
theorem e_seqS : seqD (.scr ns) Pl = Pl (ns.map .int) := rfl
theorem e_rg1 : rg1 [.d (.int j)] Pl = (RgB j ∧ Pl (rngD 0 j)) := rfl
theorem e_rg2 : rg2 [.d (.int i), .d (.int j)] Pl = ((RgB i ∧ RgB j) ∧ Pl (rngD i j)) := rfl
theorem e_excN {k : Nat} {sub : Nat → Nat → Bool} : gIsE k sub (.d .none) R = R (.d (.bool false)) := rfl
theorem e_excE {k m : Nat} {sub : Nat → Nat → Bool} : gIsE k sub (.exc m x) R = R (.d (.bool (sub m k))) := rfl
theorem e_val {k : Nat} : gVal (.exc k x) R = R (.d x) := rfl
theorem e_at0 {α : Type} {a : α} {l : List α} : atI (a :: l) 0 = some a := by
  unfold atI ixN; simp
theorem e_at1 {α : Type} {a b : α} {l : List α} : atI (a :: b :: l) 1 = some b := by
  unfold atI ixN; simp [show (1 : Int) < (l.length : Int) + 1 + 1 by omega]
theorem e_at2 {α : Type} {a b c : α} {l : List α} : atI (a :: b :: c :: l) 2 = some c := by
  unfold atI ixN; simp [show (2 : Int) < (l.length : Int) + 1 + 1 + 1 by omega]
theorem e_get0 {α : Type} {a : α} {l : List α} : (a :: l)[0]? = some a := rfl
theorem e_get1 {α : Type} {a b : α} {l : List α} : (a :: b :: l)[1]? = some b := rfl
theorem e_get2 {α : Type} {a b c : α} {l : List α} : (a :: b :: c :: l)[2]? = some c := rfl
theorem e_get3 {α : Type} {a b c d : α} {l : List α} : (a :: b :: c :: d :: l)[3]? = some d := rfl
theorem e_get4 {α : Type} {a b c d e : α} {l : List α} : (a :: b :: c :: d :: e :: l)[4]? = some e := rfl
theorem e_get5 {α : Type} {a b c d e f : α} {l : List α} : (a :: b :: c :: d :: e :: f :: l)[5]? = some f := rfl
theorem e_get6 {α : Type} {a b c d e f g : α} {l : List α} : (a :: b :: c :: d :: e :: f :: g :: l)[6]? = some g := rfl
theorem e_get7 {α : Type} {a b c d e f g h : α} {l : List α} : (a :: b :: c :: d :: e :: f :: g :: h :: l)[7]? = some h := rfl
theorem e_set0 {α : Type} {a z : α} {l : List α} : (a :: l).set 0 z = z :: l := rfl
theorem e_set1 {α : Type} {a b z : α} {l : List α} : (a :: b :: l).set 1 z = a :: z :: l := rfl
theorem e_set2 {α : Type} {a b c z : α} {l : List α} : (a :: b :: c :: l).set 2 z = a :: b :: z :: l := rfl
theorem e_set3 {α : Type} {a b c d z : α} {l : List α} : (a :: b :: c :: d :: l).set 3 z = a :: b :: c :: z :: l := rfl
theorem e_set4 {α : Type} {a b c d e z : α} {l : List α} : (a :: b :: c :: d :: e :: l).set 4 z = a :: b :: c :: d :: z :: l := rfl
theorem e_set5 {α : Type} {a b c d e f z : α} {l : List α} : (a :: b :: c :: d :: e :: f :: l).set 5 z = a :: b :: c :: d :: e :: z :: l := rfl
theorem e_set6 {α : Type} {a b c d e f g z : α} {l : List α} : (a :: b :: c :: d :: e :: f :: g :: l).set 6 z = a :: b :: c :: d :: e :: f :: z :: l := rfl
theorem e_set7 {α : Type} {a b c d e f g h z : α} {l : List α} : (a :: b :: c :: d :: e :: f :: g :: h :: l).set 7 z = a :: b :: c :: d :: e :: f :: g :: z :: l := rfl
theorem e_ex {α : Type} {a : α} {Q : α → Prop} : (∃ y, some a = some y ∧ Q y) = Q a := by
  apply propext
  exact ⟨fun ⟨y, e, q⟩ => by cases e; exact q, fun q => ⟨a, rfl, q⟩⟩
theorem e_ixn0 {α : Type} {a : α} {l : List α} : ixN (a :: l).length 0 = some 0 := by unfold ixN; simp
theorem e_ixn1 {α : Type} {a b : α} {l : List α} : ixN (a :: b :: l).length 1 = some 1 := by unfold ixN; simp [show (1 : Int) < (l.length : Int) + 1 + 1 by omega]
theorem e_ixn2 {α : Type} {a b c : α} {l : List α} : ixN (a :: b :: c :: l).length 2 = some 2 := by unfold ixN; simp [show (2 : Int) < (l.length : Int) + 1 + 1 + 1 by omega]
/-- i has at most a bits -/
def MB (a : Nat) (i : Int) : Prop := i.natAbs < 2 ^ a
theorem MB.le {a b : Nat} {i : Int} (h : MB a i) (l : a ≤ b) : MB b i := Nat.lt_of_lt_of_le h (Nat.pow_le_pow_right (by decide) l)
theorem MB.mul {a b : Nat} {i j : Int} (h : MB a i) (k : MB b j) : MB (a + b) (i * j) := by
  unfold MB at *
  rw [Int.natAbs_mul, Nat.pow_add]
  exact Nat.mul_lt_mul'' h k
theorem MB.add {a : Nat} {i j : Int} (h : MB a i) (k : MB a j) : MB (a + 1) (i + j) := by
  unfold MB at *
  have := Int.natAbs_add_le i j
  rw [Nat.pow_succ]
  omega
theorem MB.ok {a b : Nat} {i j : Int} (h : MB a i) (k : MB b j) (l : a + b ≤ 134217728) : MulOk i j := ⟨a, b, h, k, l⟩
theorem MB.of {a : Nat} {i : Int} (h0 : 0 ≤ i) (h : i < (2 : Int) ^ a) : MB a i := by
  unfold MB
  have e : ((2 ^ a : Nat) : Int) = (2 : Int) ^ a := by norm_cast
  omega
theorem fmod_nn {i j : Int} (h : 0 < j) : 0 ≤ i.fmod j := Int.fmod_nonneg_of_pos i h
theorem fmod_lt {i j : Int} (h : 0 < j) : i.fmod j < j := Int.fmod_lt_of_pos i h
theorem fdivOk {i j : Int} (h : 0 < j) (l : j < 2 ^ 60) : FdivOk i j := ⟨by omega, Nat.lt_of_lt_of_le (show j.natAbs < 2 ^ 60 by omega) (Nat.pow_le_pow_right (by decide) (by decide))⟩
theorem fdiv_nn {i j : Int} (h : 0 ≤ i) (k : 0 < j) : 0 ≤ i.fdiv j := Int.fdiv_nonneg h (by omega)
theorem fdiv_le {i j : Int} (h : 0 ≤ i) (k : 0 < j) : i.fdiv j ≤ i := by
  rw [Int.fdiv_eq_ediv_of_nonneg _ (by omega)]
  exact Int.ediv_le_self _ h
theorem ixN0 {n : Nat} (h : 0 < n) : ixN n 0 = some 0 := by unfold ixN; simp [h]
theorem mulOk {i j : Int} (a b : Nat) (h1 : i.natAbs < 2 ^ a) (h2 : j.natAbs < 2 ^ b) (h : a + b ≤ 134217728) : MulOk i j := ⟨a, b, h1, h2, h⟩
end
end Wb
namespace Law
open PySem PySem.Spec PyProof.Rows L2 Wb

abbrev subE : Nat → Nat → Bool := fun c d => decide ((if c < 3 then c else 0) = d)
def px_210 {α : Type} (us ws : List α) : List α := match us, ws with
  | [], [a, b, c] => [c, b, a]
  | _, _ => []
def px_102 {α : Type} (us ws : List α) : List α := match us, ws with
  | [], [a, b, c] => [b, a, c]
  | _, _ => []
def px_10 {α : Type} (us ws : List α) : List α := match us, ws with
  | [], [a, b] => [b, a]
  | _, _ => []
def g_is_integer : DS :=
  (gRet (dAnd (d1 (gIsi "int") (dOwn 0)) (dNot (d1 (gIsi "bool") (dOwn 0)))))
def m_is_integer : Fn := fnB 1 0 g_is_integer
def g_is_tuple : DS :=
  (gRet (dAnd (d1 (gIsi "tuple") (dOwn 0)) (dAnd (d2 gGe (dBi bLen (aCons (dOwn 0) aNil)) (dOwn 1)) (dOr (d1 gIsN (dOwn 2)) (d2 gLe (dBi bLen (aCons (dOwn 0) aNil)) (dOwn 2))))))
def m_is_tuple : Fn := fnB 3 0 g_is_tuple
def g_anew (G : Fn) : DS :=
  (gSeq (gIfS (tVal (d1 (gIsi "list") (dOwn 0))) (gRet (dN2 (nLc 100000 (iSeq (dVar 0)) (gNm 1) tTrue (dCall G (aCons (dVar 1) aNil)) [1]))) gNext)
  (gSeq (gIfS (tVal (d1 (gIsi "tuple") (dOwn 0))) (gRet (dBi bTuple (aCons (dN2 (nLc 100000 (iSeq (dVar 0)) (gNm 1) tTrue (dCall G (aCons (dVar 1) aNil)) [1])) aNil))) gNext)
  (gRet (dVar 0))))
def m_anew : Fn := anewFn 9
def g_is_prime_in : DS :=
  (gRet (dAnd (dCall m_is_integer (aCons (dVar 0) aNil)) (d2 gIn (dOwn 0) (dC (.tuple [(.int 0), (.int 2), (.int 3), (.int 5), (.int 7), (.int 11), (.int 13)])))))
def m_is_prime_in : Fn := fnB 1 0 g_is_prime_in
def g_is_scalar_in : DS :=
  (gSeq (gIfS (tVal (d2 gGt (dOwn 0) (dC (.int 0)))) (gRet (dAnd (dCall m_is_integer (aCons (dVar 1) aNil)) (dChain gLe gLt (dC (.int 0)) (dOwn 1) (dOwn 0)))) gNext)
  (gSeq (gIfS (tOr' (tNot' (tVal (dCall m_is_tuple (aCons (dVar 1) (aCons (dC (.int 2)) (aCons (dC (.int 2)) aNil)))))) (tOr' (tNot' (tVal (dCall m_is_integer (aCons (d2 gIx (dOwn 1) (dC (.int 0))) aNil)))) (tNot' (tVal (dCall m_is_integer (aCons (d2 gIx (dOwn 1) (dC (.int 1))) aNil)))))) (gRet (dC (.bool false))) gNext)
  (gRet (dAnd (d2 gGe (d2 gIx (dOwn 1) (dC (.int 1))) (dC (.int 1))) (d2 gEq (dBi bGcd (aCons (d2 gIx (dOwn 1) (dC (.int 0))) (aCons (d2 gIx (dOwn 1) (dC (.int 1))) aNil))) (dC (.int 1)))))))
def m_is_scalar_in : Fn := fnB 2 0 g_is_scalar_in
def g_fraction_in : DS :=
  (gSeq (gSet 2 (dBi bGcd (aCons (dOwn 0) (aCons (dOwn 1) aNil))))
  (gSeq (gIfS (tVal (d2 gLt (dOwn 1) (dC (.int 0)))) (gSet 2 (d1 gNeg (dOwn 2))) gNext)
  (gRet (dTup (aCons (d2 gFdiv (dOwn 0) (dOwn 2)) (aCons (d2 gFdiv (dOwn 1) (dOwn 2)) aNil))))))
def m_fraction_in : Fn := fnB 2 1 g_fraction_in
def g_scalar_in : DS :=
  (gRet (dIf (tVal (d2 gEq (dOwn 0) (dC (.int 0)))) (dTup (aCons (dVar 1) (aCons (dC (.int 1)) aNil))) (d2 gMod (dOwn 1) (dOwn 0))))
def m_scalar_in : Fn := fnB 2 0 g_scalar_in
def g_plus_in : DS :=
  (gSeq (gIfS (tVal (d2 gGt (dOwn 0) (dC (.int 0)))) (gRet (d2 gMod (d2 gAdd (dOwn 1) (dOwn 2)) (dOwn 0))) gNext)
  (gRet (dCall m_fraction_in (aCons (d2 gAdd (d2 gMul (d2 gIx (dOwn 1) (dC (.int 0))) (d2 gIx (dOwn 2) (dC (.int 1)))) (d2 gMul (d2 gIx (dOwn 2) (dC (.int 0))) (d2 gIx (dOwn 1) (dC (.int 1))))) (aCons (d2 gMul (d2 gIx (dOwn 1) (dC (.int 1))) (d2 gIx (dOwn 2) (dC (.int 1)))) aNil)))))
def m_plus_in : Fn := fnB 3 0 g_plus_in
def g_times_in : DS :=
  (gSeq (gIfS (tVal (d2 gGt (dOwn 0) (dC (.int 0)))) (gRet (d2 gMod (d2 gMul (dOwn 1) (dOwn 2)) (dOwn 0))) gNext)
  (gRet (dCall m_fraction_in (aCons (d2 gMul (d2 gIx (dOwn 1) (dC (.int 0))) (d2 gIx (dOwn 2) (dC (.int 0)))) (aCons (d2 gMul (d2 gIx (dOwn 1) (dC (.int 1))) (d2 gIx (dOwn 2) (dC (.int 1)))) aNil)))))
def m_times_in : Fn := fnB 3 0 g_times_in
def g_negative_in : DS :=
  (gRet (dIf (tVal (d2 gEq (dOwn 0) (dC (.int 0)))) (dTup (aCons (d1 gNeg (d2 gIx (dOwn 1) (dC (.int 0)))) (aCons (d2 gIx (dOwn 1) (dC (.int 1))) aNil))) (d2 gMod (d1 gNeg (dOwn 1)) (dOwn 0))))
def m_negative_in : Fn := fnB 2 0 g_negative_in
def g_inverse_in : DS :=
  (gSeq (gIfS (tVal (d2 gEq (dOwn 0) (dC (.int 0)))) (gRet (dCall m_fraction_in (aCons (d2 gIx (dOwn 1) (dC (.int 1))) (aCons (d2 gIx (dOwn 1) (dC (.int 0))) aNil)))) gNext)
  (gRet (d2 gIx (dN2 (nLc 100000 (iRg rg2 (aCons (dC (.int 1)) (aCons (dOwn 0) aNil))) (gNm 2) (tVal (d2 gEq (d2 gMod (d2 gMul (dOwn 2) (dOwn 1)) (dOwn 0)) (dC (.int 1)))) (dVar 2) [2])) (dC (.int 0)))))
def m_inverse_in : Fn := fnB 2 1 g_inverse_in
def g_need_prime : DS :=
  (gIfS (tNot' (tVal (dCall m_is_prime_in (aCons (dVar 0) aNil)))) (gRaise 0 (dCall m_anew (aCons (dVar 0) aNil))) gNext)
def m_need_prime : Fn := fnB 1 0 g_need_prime
def g_need_scalar : DS :=
  (gIfS (tNot' (tVal (dCall m_is_scalar_in (aCons (dVar 0) (aCons (dVar 1) aNil))))) (gRaise 1 (dCall m_anew (aCons (dVar 1) aNil))) gNext)
def m_need_scalar : Fn := fnB 2 0 g_need_scalar
def g_need_scalars : DS :=
  (gSeq (gDrop (dCall m_need_prime (aCons (dVar 0) aNil)))
  (gSeq (gDrop (dCall m_need_scalar (aCons (dVar 0) (aCons (dVar 1) aNil))))
  (gDrop (dCall m_need_scalar (aCons (dVar 0) (aCons (dVar 2) aNil))))))
def m_need_scalars : Fn := fnB 3 0 g_need_scalars
def g_is_scalar : DS :=
  (gSeq (gDrop (dCall m_need_prime (aCons (dVar 0) aNil)))
  (gRet (dCall m_is_scalar_in (aCons (dVar 0) (aCons (dVar 1) aNil)))))
def m_is_scalar : Fn := fnB 2 0 g_is_scalar
def g_scalar_of : DS :=
  (gSeq (gDrop (dCall m_need_prime (aCons (dVar 0) aNil)))
  (gRet (dCall m_scalar_in (aCons (dVar 0) (aCons (dVar 1) aNil)))))
def m_scalar_of : Fn := fnB 2 0 g_scalar_of
def g_plus : DS :=
  (gSeq (gDrop (dCall m_need_scalars (aCons (dVar 0) (aCons (dVar 1) (aCons (dVar 2) aNil)))))
  (gRet (dCall m_plus_in (aCons (dVar 0) (aCons (dVar 1) (aCons (dVar 2) aNil))))))
def m_plus : Fn := fnB 3 0 g_plus
def g_times : DS :=
  (gSeq (gDrop (dCall m_need_scalars (aCons (dVar 0) (aCons (dVar 1) (aCons (dVar 2) aNil)))))
  (gRet (dCall m_times_in (aCons (dVar 0) (aCons (dVar 1) (aCons (dVar 2) aNil))))))
def m_times : Fn := fnB 3 0 g_times
def g_negative : DS :=
  (gSeq (gDrop (dCall m_need_prime (aCons (dVar 0) aNil)))
  (gSeq (gDrop (dCall m_need_scalar (aCons (dVar 0) (aCons (dVar 1) aNil))))
  (gRet (dCall m_negative_in (aCons (dVar 0) (aCons (dVar 1) aNil))))))
def m_negative : Fn := fnB 2 0 g_negative
def g_inverse : DS :=
  (gSeq (gDrop (dCall m_need_prime (aCons (dVar 0) aNil)))
  (gSeq (gDrop (dCall m_need_scalar (aCons (dVar 0) (aCons (dVar 1) aNil))))
  (gSeq (gIfS (tVal (d2 gEq (dOwn 1) (dCall m_scalar_in (aCons (dVar 0) (aCons (dC (.int 0)) aNil))))) (gRaise 2 (dCall m_anew (aCons (dVar 1) aNil))) gNext)
  (gRet (dCall m_inverse_in (aCons (dVar 0) (aCons (dVar 1) aNil)))))))
def m_inverse : Fn := fnB 2 0 g_inverse
def g__law_well : List Sl → (List PD → Prop) → Prop :=
  (zSeq (gSet 2 (dIf (tVal (d2 gLt (dOwn 1) (dBi bLen (aCons (dOwn 0) aNil)))) (dBi bInt (aCons (d2 gIx (dOwn 0) (dOwn 1)) aNil)) (d2 gAdd (d2 gMul (dC (.int 73)) (dOwn 1)) (dC (.int 43)))))
  (zSeq (gSet 3 (d2 gAdd (dC (.int 59)) (dBi bLen (aCons (dOwn 0) aNil))))
  (zSeq (gFor 100000 (iSeq (dVar 0)) (gNm 4) (gSet 3 (d2 gMod (dBi bInt (aCons (d2 gAdd (d2 gMul (dOwn 3) (dC (.int 5323))) (d2 gMod (dBi bInt (aCons (dOwn 4) aNil)) (d2 gAdd (d2 gPow (dC (.int 10)) (dC (.int 19))) (dC (.int 51))))) aNil)) (d2 gAdd (d2 gPow (dC (.int 10)) (dC (.int 25))) (dC (.int 13))))))
  (zSeq (gSet 5 (d2 gMod (dBi bInt (aCons (d2 gAdd (d2 gAdd (d2 gAdd (d2 gMul (dBi bAbs (aCons (dOwn 2) aNil)) (dC (.int 13))) (d2 gMul (dOwn 3) (dC (.int 31)))) (d2 gMul (dC (.int 3)) (dBi bInt (aCons (d2 gLt (dOwn 2) (dC (.int 0))) aNil)))) (d2 gMul (dC (.int 61)) (dOwn 1))) aNil)) (d2 gAdd (d2 gPow (dC (.int 10)) (dC (.int 28))) (dC (.int 331)))))
  (zRet (nLst (aCons (dBi bMax2 (aCons (dC (.int 0)) (aCons (d2 gSub (dBi bAbs (aCons (dOwn 2) aNil)) (d2 gPow (dC (.int 10)) (dC (.int 18)))) aNil))) (aCons (dVar 5) (aCons (dC (.int 0)) aNil)))))))))
def g__law_draw : DS :=
  (gSeq (gIfS (tVal (d2 gGt (d2 gIx (dOwn 0) (dC (.int 0))) (dC (.int 0)))) (gSeq (gSet 2 (d2 gMod (dBi bInt (aCons (d2 gIx (dOwn 0) (dC (.int 0))) aNil)) (dOwn 1)))
  (gSeq (gSetIx 0 (dC (.int 0)) (d2 gFdiv (d2 gIx (dOwn 0) (dC (.int 0))) (dOwn 1)))
  (gRet (dVar 2)))) gNext)
  (gSeq (gSetIx 0 (dC (.int 2)) (d2 gAdd (d2 gIx (dOwn 0) (dC (.int 2))) (dC (.int 1))))
  (gSeq (gSet 3 (d2 gIx (dOwn 0) (dC (.int 2))))
  (gSeq (gSet 4 (d2 gMod (dBi bInt (aCons (d2 gAdd (d2 gAdd (d2 gMul (d2 gMul (d2 gAdd (d2 gIx (dOwn 0) (dC (.int 1))) (dC (.int 31))) (d2 gAdd (dOwn 3) (dC (.int 5)))) (dC (.int 998244353))) (d2 gMul (d2 gMul (d2 gMul (dOwn 3) (dOwn 3)) (dOwn 3)) (dC (.int 424242427)))) (dC (.int 77))) aNil)) (d2 gAdd (d2 gPow (dC (.int 10)) (dC (.int 29))) (dC (.int 319)))))
  (gSeq (gSet 4 (d2 gMod (dBi bInt (aCons (d2 gAdd (d2 gAdd (d2 gMul (dOwn 4) (dOwn 4)) (d2 gMul (d2 gIx (dOwn 0) (dC (.int 1))) (dC (.int 7)))) (dOwn 3)) aNil)) (d2 gAdd (d2 gPow (dC (.int 10)) (dC (.int 31))) (dC (.int 33)))))
  (gSeq (gSet 4 (d2 gMod (dBi bInt (aCons (d2 gAdd (d2 gMul (d2 gMul (dOwn 4) (dOwn 4)) (dC (.int 3))) (d2 gMul (dOwn 4) (dC (.int 11)))) aNil)) (d2 gAdd (d2 gPow (dC (.int 10)) (dC (.int 33))) (dC (.int 603)))))
  (gRet (d2 gMod (dBi bInt (aCons (d2 gFdiv (dOwn 4) (dC (.int 50021))) aNil)) (dOwn 1)))))))))
def m__law_draw : Fn := drawFn
def g__law_cut : DS :=
  (gSeq (gPar 2 3 (aCons (dBi bAbs (aCons (dOwn 0) aNil)) (aCons (dBi bAbs (aCons (dOwn 1) aNil)) aNil)))
  (gSeq (gWhile (tVal (d2 gGt (dOwn 3) (dC (.int 0)))) (gPar 2 3 (aCons (dVar 3) (aCons (d2 gMod (dBi bInt (aCons (dOwn 2) aNil)) (dOwn 3)) aNil))))
  (gSeq (gSet 4 (dIf (tVal (d2 gLt (dOwn 1) (dC (.int 0)))) (d1 gNeg (dC (.int 1))) (dC (.int 1))))
  (gRet (dTup (aCons (d2 gFdiv (d2 gMul (dOwn 4) (dOwn 0)) (dOwn 2)) (aCons (d2 gFdiv (d2 gMul (dOwn 4) (dOwn 1)) (dOwn 2)) aNil)))))))
def m__law_cut : Fn := fnB 2 3 g__law_cut
def g__law_num : DS :=
  (gRet (dIf (tVal (d2 gEq (dOwn 0) (dC (.int 0)))) (dTup (aCons (dVar 1) (aCons (dC (.int 1)) aNil))) (d2 gMod (dBi bInt (aCons (dOwn 1) aNil)) (dOwn 0))))
def m__law_num : Fn := fnB 2 0 g__law_num
def g__law_plus : DS :=
  (gRet (dIf (tVal (d2 gGt (dOwn 0) (dC (.int 0)))) (d2 gMod (dBi bInt (aCons (d2 gAdd (dOwn 1) (dOwn 2)) aNil)) (dOwn 0)) (dCall m__law_cut (aCons (d2 gAdd (d2 gMul (d2 gIx (dOwn 1) (dC (.int 0))) (d2 gIx (dOwn 2) (dC (.int 1)))) (d2 gMul (d2 gIx (dOwn 2) (dC (.int 0))) (d2 gIx (dOwn 1) (dC (.int 1))))) (aCons (d2 gMul (d2 gIx (dOwn 1) (dC (.int 1))) (d2 gIx (dOwn 2) (dC (.int 1)))) aNil)))))
def m__law_plus : Fn := fnB 3 0 g__law_plus
def g__law_times : DS :=
  (gRet (dIf (tVal (d2 gGt (dOwn 0) (dC (.int 0)))) (d2 gMod (dBi bInt (aCons (d2 gMul (dOwn 1) (dOwn 2)) aNil)) (dOwn 0)) (dCall m__law_cut (aCons (d2 gMul (d2 gIx (dOwn 1) (dC (.int 0))) (d2 gIx (dOwn 2) (dC (.int 0)))) (aCons (d2 gMul (d2 gIx (dOwn 1) (dC (.int 1))) (d2 gIx (dOwn 2) (dC (.int 1)))) aNil)))))
def m__law_times : Fn := fnB 3 0 g__law_times
def g__law_over : DS :=
  (gRet (dIf (tVal (d2 gEq (dOwn 0) (dC (.int 0)))) (dCall m__law_cut (aCons (d2 gIx (dOwn 1) (dC (.int 1))) (aCons (d2 gIx (dOwn 1) (dC (.int 0))) aNil))) (d2 gIx (dN2 (nLc 100000 (iRg rg2 (aCons (dC (.int 1)) (aCons (dOwn 0) aNil))) (gNm 2) (tVal (d2 gEq (d2 gMod (dBi bInt (aCons (d2 gMul (dOwn 2) (dOwn 1)) aNil)) (dOwn 0)) (dC (.int 1)))) (dVar 2) [2])) (dC (.int 0)))))
def m__law_over : Fn := fnB 2 1 g__law_over
def g__law_great : DS :=
  (gSeq (gIfS (tVal (d2 gGt (dOwn 1) (dC (.int 0)))) (gRet (dCall m__law_draw (aCons (dVar 0) (aCons (dVar 1) aNil)))) gNext)
  (gSeq (gSet 2 (d2 gMul (d2 gIx (dN2 (nLst (aCons (dC (.int 0)) (aCons (dC (.int 1)) (aCons (d1 gNeg (dC (.int 1))) (aCons (dC (.int 6)) (aCons (d1 gNeg (dC (.int 10))) (aCons (d2 gAdd (d2 gPow (dC (.int 10)) (dC (.int 9))) (dC (.int 7))) (aCons (d1 gNeg (d2 gPow (dC (.int 10)) (dC (.int 30)))) (aCons (dC (.int 12)) aNil)))))))))) (dCall m__law_draw (aCons (dVar 0) (aCons (dC (.int 8)) aNil)))) (d2 gAdd (dC (.int 1)) (dCall m__law_draw (aCons (dVar 0) (aCons (dC (.int 3)) aNil))))))
  (gRet (dCall m__law_cut (aCons (dVar 2) (aCons (d2 gIx (dN2 (nLst (aCons (dC (.int 1)) (aCons (dC (.int 2)) (aCons (dC (.int 6)) (aCons (dC (.int 35)) (aCons (d2 gPow (dC (.int 10)) (dC (.int 12))) (aCons (dC (.int 9)) aNil)))))))) (dCall m__law_draw (aCons (dVar 0) (aCons (dC (.int 6)) aNil)))) aNil))))))
def m__law_great : Fn := fnB 2 1 g__law_great
def g__law_is_scalar : DS :=
  (gSeq (gIfS (tVal (d2 gGt (dOwn 0) (dC (.int 0)))) (gRet (dAnd (d1 (gIsi "int") (dOwn 1)) (dAnd (dNot (d1 (gIsi "bool") (dOwn 1))) (dChain gLe gLt (dC (.int 0)) (dOwn 1) (dOwn 0))))) gNext)
  (gSeq (gIfS (tOr' (tNot' (tVal (d1 (gIsi "tuple") (dOwn 1)))) (tOr' (tVal (d2 gNe (dBi bLen (aCons (dOwn 1) aNil)) (dC (.int 2)))) (tNot' (tVal (dBi bAll (aCons (dN2 (nLc 100000 (iSeq (dVar 1)) (gNm 2) tTrue (d1 (gIsi "int") (dOwn 2)) [2])) aNil)))))) (gRet (dC (.bool false))) gNext)
  (gSeq (gIfS (tOr' (tVal (d1 (gIsi "bool") (d2 gIx (dOwn 1) (dC (.int 0))))) (tOr' (tVal (d1 (gIsi "bool") (d2 gIx (dOwn 1) (dC (.int 1))))) (tVal (d2 gLt (d2 gIx (dOwn 1) (dC (.int 1))) (dC (.int 1)))))) (gRet (dC (.bool false))) gNext)
  (gRet (d2 gEq (dCall m__law_cut (aCons (d2 gIx (dOwn 1) (dC (.int 0))) (aCons (d2 gIx (dOwn 1) (dC (.int 1))) aNil))) (dOwn 1))))))
def m__law_is_scalar : Fn := fnB 2 1 g__law_is_scalar
def g__law_near : DS :=
  (gSeq (gSet 3 (dN2 (nLst (aCons (dVar 2) (aCons (dC .none) (aCons (dC (.bool true)) (aCons (dC (.bool false)) (aCons (d1 gNeg (dC (.int 1))) (aCons (dVar 1) (aCons (dN2 (nLst (aCons (dVar 2) aNil))) (aCons (dTup (aCons (dVar 2) aNil)) (aCons (dTup (aCons (dVar 2) (aCons (dVar 2) aNil))) (aCons (dC (.str "1")) (aCons (dC (.int 0)) (aCons (dTup (aCons (dC (.int 0)) (aCons (dC (.int 1)) aNil))) (aCons (dTup (aCons (dC (.int 0)) (aCons (dC (.int 2)) aNil))) (aCons (dTup (aCons (dC (.int 2)) (aCons (d1 gNeg (dC (.int 3))) aNil))) (aCons (dTup (aCons (dC (.int 4)) (aCons (dC (.int 6)) aNil))) (aCons (dTup (aCons (dC (.int 1)) (aCons (dC (.bool true)) aNil))) aNil)))))))))))))))))))
  (gRet (d2 gIx (dOwn 3) (dCall m__law_draw (aCons (dVar 0) (aCons (dC (.int 16)) aNil))))))
def m__law_near : Fn := fnB 3 1 g__law_near
def g__law_told : DS :=
  (gSeq (gSet 4 (dC .none))
  (gSeq (gTry 5 4 (gIfS (tVal (d2 gEq (dOwn 0) (dC (.int 0)))) (gDrop (dCall m_plus (aCons (dVar 1) (aCons (dVar 2) (aCons (dVar 3) aNil))))) (gIfS (tVal (d2 gEq (dOwn 0) (dC (.int 1)))) (gDrop (dCall m_times (aCons (dVar 1) (aCons (dVar 2) (aCons (dVar 3) aNil))))) (gIfS (tVal (d2 gEq (dOwn 0) (dC (.int 2)))) (gDrop (dCall m_negative (aCons (dVar 1) (aCons (dVar 2) aNil)))) (gIfS (tVal (d2 gEq (dOwn 0) (dC (.int 3)))) (gDrop (dCall m_inverse (aCons (dVar 1) (aCons (dVar 2) aNil)))) (gDrop (dCall m_scalar_of (aCons (dVar 1) (aCons (dC (.int 3)) aNil)))))))))
  (gSeq (gSet 6 (dN2 (nLst (aCons (d1 (gIsE 0 subE) (dOwn 4)) (aCons (d1 (gIsE 1 subE) (dOwn 4)) (aCons (d1 (gIsE 2 subE) (dOwn 4)) aNil))))))
  (gRet (dIf (tVal (d1 gIsN (dOwn 4))) (dC .none) (dTup (aCons (dN2 (nLc 100000 (iRg rg1 (aCons (dC (.int 3)) aNil)) (gNm 7) (tVal (d2 gIx (dOwn 6) (dOwn 7))) (dVar 7) [7])) (aCons (dBi bRepr (aCons (d1 gVal (dOwn 4)) aNil)) aNil))))))))
def m__law_told : Fn := fnB 4 4 g__law_told
def g__law_refused_5 : DS :=
  (gRet (d2 gEq (dN2 (nLc 100000 (iSeq (dTup (aCons (dC (.int 0)) (aCons (dC (.int 1)) aNil)))) (gNm 5) tTrue (dCall m__law_told (aCons (dVar 5) (aCons (dVar 1) (aCons (dVar 2) (aCons (dVar 4) aNil))))) [5])) (d2 gMul (dN2 (nLst (aCons (dTup (aCons (dN2 (nLst (aCons (dC (.int 1)) aNil))) (aCons (dBi bRepr (aCons (dOwn 4) aNil)) aNil))) aNil))) (dC (.int 2)))))
def g__law_refused_4 : DS :=
  gSeq (gIfS (tVal (d2 gNe (dN2 (nLc 100000 (iRg rg1 (aCons (dC (.int 4)) aNil)) (gNm 5) tTrue (dCall m__law_told (aCons (dVar 5) (aCons (dVar 1) (aCons (dVar 4) (aCons (dC .none) aNil))))) [5])) (d2 gMul (dN2 (nLst (aCons (dTup (aCons (dN2 (nLst (aCons (dC (.int 1)) aNil))) (aCons (dBi bRepr (aCons (dOwn 4) aNil)) aNil))) aNil))) (dC (.int 4))))) (gRet (dC (.bool false))) gNext) g__law_refused_5
def g__law_refused_3 : DS :=
  gSeq (gIfS (tVal (dCall m__law_is_scalar (aCons (dVar 1) (aCons (dVar 4) aNil)))) (gRet (dC (.bool true))) gNext) g__law_refused_4
def g__law_refused_2 : DS :=
  gSeq (gSet 4 (dCall m__law_near (aCons (dVar 0) (aCons (dVar 1) (aCons (dVar 2) aNil))))) g__law_refused_3
def g__law_refused_1 : DS :=
  gSeq (gIfS (tVal (d2 gNe (dN2 (nLc 100000 (iRg rg1 (aCons (dC (.int 5)) aNil)) (gNm 5) tTrue (dCall m__law_told (aCons (dVar 5) (aCons (dVar 3) (aCons (dC .none) (aCons (dC .none) aNil))))) [5])) (d2 gMul (dN2 (nLst (aCons (dTup (aCons (dN2 (nLst (aCons (dC (.int 0)) aNil))) (aCons (dBi bRepr (aCons (dOwn 3) aNil)) aNil))) aNil))) (dC (.int 5))))) (gRet (dC (.bool false))) gNext) g__law_refused_2
def g__law_refused_0 : DS :=
  gSeq (gSet 3 (d2 gIx (dN2 (nLst (aCons (dC .none) (aCons (dC (.int 1)) (aCons (dC (.int 4)) (aCons (d1 gNeg (dC (.int 2))) (aCons (dC (.int 17)) (aCons (dC (.bool true)) (aCons (dTup (aCons (dC (.int 0)) aNil)) (aCons (dC (.str "2")) (aCons (dC (.bool false)) (aCons (dN2 (nLst (aCons (dC (.int 3)) aNil))) aNil)))))))))))) (dCall m__law_draw (aCons (dVar 0) (aCons (dC (.int 10)) aNil))))) g__law_refused_1
def g__law_refused : DS := g__law_refused_0
def m__law_refused : Fn := fnB 3 3 g__law_refused
def g__law_right_11 : DS :=
  (gRet (dCall m__law_refused (aCons (dVar 0) (aCons (dVar 1) (aCons (dVar 2) aNil)))))
def g__law_right_10 : DS :=
  gSeq (gFor 64 (iRg rg1 (aCons (dC (.int 4)) aNil)) (gNm 7) (gSeq (gSet 8 (dCall m__law_near (aCons (dVar 0) (aCons (dVar 1) (aCons (dVar 3) aNil)))))
  (gSeq (gSet 5 (dCall m__law_is_scalar (aCons (dVar 1) (aCons (dVar 8) aNil))))
  (gIfS (tVal (d2 gNe (dBi bRepr (aCons (dN2 (nLst (aCons (dCall m_is_scalar (aCons (dVar 1) (aCons (dVar 8) aNil))) (aCons (dCallK m_is_scalar px_10 aNil (aCons (dVar 8) (aCons (dVar 1) aNil))) aNil)))) aNil)) (dBi bRepr (aCons (dN2 (nLst (aCons (dVar 5) (aCons (dVar 5) aNil)))) aNil)))) (gRet (dC (.bool false))) gNext)))) g__law_right_11
def g__law_right_9 : DS :=
  gSeq (gIfS (tVal (d2 gEq (dOwn 2) (dCall m__law_num (aCons (dVar 1) (aCons (dC (.int 0)) aNil))))) (gIfS (tVal (d2 gNe (dCall m__law_told (aCons (dC (.int 3)) (aCons (dVar 1) (aCons (dVar 2) (aCons (dC .none) aNil))))) (dTup (aCons (dN2 (nLst (aCons (dC (.int 2)) aNil))) (aCons (dBi bRepr (aCons (dOwn 2) aNil)) aNil))))) (gRet (dC (.bool false))) gNext) (gIfS (tOr' (tVal (d2 gNe (dBi bRepr (aCons (dN2 (nLst (aCons (dCall m_inverse (aCons (dVar 1) (aCons (dVar 2) aNil))) (aCons (dCallK m_inverse px_10 aNil (aCons (dVar 2) (aCons (dVar 1) aNil))) aNil)))) aNil)) (dBi bRepr (aCons (d2 gMul (dN2 (nLst (aCons (dCall m__law_over (aCons (dVar 1) (aCons (dVar 2) aNil))) aNil))) (dC (.int 2))) aNil)))) (tVal (d2 gNe (dCall m_times (aCons (dVar 1) (aCons (dVar 2) (aCons (dCall m_inverse (aCons (dVar 1) (aCons (dVar 2) aNil))) aNil)))) (dCall m__law_num (aCons (dVar 1) (aCons (dC (.int 1)) aNil)))))) (gRet (dC (.bool false))) gNext)) g__law_right_10
def g__law_right_8 : DS :=
  gSeq (gIfS (tVal (d2 gNe (dBi bRepr (aCons (dN2 (nLst (aCons (dCall m_scalar_of (aCons (dVar 1) (aCons (dVar 6) aNil))) (aCons (dCallK m_scalar_of px_10 aNil (aCons (dVar 6) (aCons (dVar 1) aNil))) aNil)))) aNil)) (dBi bRepr (aCons (d2 gMul (dN2 (nLst (aCons (dCall m__law_num (aCons (dVar 1) (aCons (dVar 6) aNil))) aNil))) (dC (.int 2))) aNil)))) (gRet (dC (.bool false))) gNext) g__law_right_9
def g__law_right_7 : DS :=
  gSeq (gSet 6 (d2 gIx (dN2 (nLst (aCons (dC (.int 0)) (aCons (dC (.int 1)) (aCons (d1 gNeg (dC (.int 1))) (aCons (dC (.int 5)) (aCons (d1 gNeg (dC (.int 8))) (aCons (d2 gPow (dC (.int 10)) (dC (.int 30))) (aCons (d2 gSub (d1 gNeg (d2 gPow (dC (.int 10)) (dC (.int 29)))) (dC (.int 3))) aNil))))))))) (dCall m__law_draw (aCons (dVar 0) (aCons (dC (.int 7)) aNil))))) g__law_right_8
def g__law_right_6 : DS :=
  gSeq (gIfS (tVal (d2 gNe (dCall m_times (aCons (dVar 1) (aCons (dVar 2) (aCons (dCall m_plus (aCons (dVar 1) (aCons (dVar 3) (aCons (dVar 4) aNil)))) aNil)))) (dCall m_plus (aCons (dVar 1) (aCons (dCall m_times (aCons (dVar 1) (aCons (dVar 2) (aCons (dVar 3) aNil)))) (aCons (dCall m_times (aCons (dVar 1) (aCons (dVar 2) (aCons (dVar 4) aNil)))) aNil)))))) (gRet (dC (.bool false))) gNext) g__law_right_7
def g__law_right_5 : DS :=
  gSeq (gIfS (tVal (d2 gNe (dCall m_plus (aCons (dVar 1) (aCons (dVar 2) (aCons (dCall m_plus (aCons (dVar 1) (aCons (dVar 3) (aCons (dVar 4) aNil)))) aNil)))) (dCall m_plus (aCons (dVar 1) (aCons (dCall m_plus (aCons (dVar 1) (aCons (dVar 2) (aCons (dVar 3) aNil)))) (aCons (dVar 4) aNil)))))) (gRet (dC (.bool false))) gNext) g__law_right_6
def g__law_right_4 : DS :=
  gSeq (gIfS (tVal (d2 gNe (dBi bRepr (aCons (dN2 (nLst (aCons (dCallK m_plus px_210 aNil (aCons (dVar 3) (aCons (dVar 2) (aCons (dVar 1) aNil)))) (aCons (dCallK m_times px_102 aNil (aCons (dVar 2) (aCons (dVar 1) (aCons (dVar 3) aNil)))) (aCons (dCallK m_negative px_10 aNil (aCons (dVar 2) (aCons (dVar 1) aNil))) aNil))))) aNil)) (dBi bRepr (aCons (dOwn 5) aNil)))) (gRet (dC (.bool false))) gNext) g__law_right_5
def g__law_right_3 : DS :=
  gSeq (gIfS (tVal (d2 gNe (dBi bRepr (aCons (dN2 (nLst (aCons (dCall m_plus (aCons (dVar 1) (aCons (dVar 2) (aCons (dVar 3) aNil)))) (aCons (dCall m_times (aCons (dVar 1) (aCons (dVar 2) (aCons (dVar 3) aNil)))) (aCons (dCall m_negative (aCons (dVar 1) (aCons (dVar 2) aNil))) aNil))))) aNil)) (dBi bRepr (aCons (dOwn 5) aNil)))) (gRet (dC (.bool false))) gNext) g__law_right_4
def g__law_right_2 : DS :=
  gSeq (gSet 5 (dN2 (nLst (aCons (dCall m__law_plus (aCons (dVar 1) (aCons (dVar 2) (aCons (dVar 3) aNil)))) (aCons (dCall m__law_times (aCons (dVar 1) (aCons (dVar 2) (aCons (dVar 3) aNil)))) (aCons (dCall m__law_times (aCons (dVar 1) (aCons (dVar 2) (aCons (dCall m__law_num (aCons (dVar 1) (aCons (d1 gNeg (dC (.int 1))) aNil))) aNil)))) aNil)))))) g__law_right_3
def g__law_right_1 : DS :=
  gSeq (gPar3 2 3 4 (aCons (dCall m__law_great (aCons (dVar 0) (aCons (dVar 1) aNil))) (aCons (dCall m__law_great (aCons (dVar 0) (aCons (dVar 1) aNil))) (aCons (dCall m__law_great (aCons (dVar 0) (aCons (dVar 1) aNil))) aNil)))) g__law_right_2
def g__law_right_0 : DS :=
  gSeq (gSet 1 (d2 gIx (dN2 (nLst (aCons (dC (.int 0)) (aCons (dC (.int 2)) (aCons (dC (.int 3)) (aCons (dC (.int 5)) (aCons (dC (.int 7)) (aCons (dC (.int 11)) (aCons (dC (.int 13)) aNil))))))))) (dCall m__law_draw (aCons (dVar 0) (aCons (dC (.int 7)) aNil))))) g__law_right_1
def g__law_right : DS := g__law_right_0
def m__law_right : Fn := fnB 1 8 g__law_right
def g_law : DS :=
  (gSeq (gFor 100000 (iRg rg1 (aCons (dBi bMax2 (aCons (dC (.int 1)) (aCons (dBi bMin2 (aCons (dC (.int 3)) (aCons (dBi bLen (aCons (dOwn 0) aNil)) aNil))) aNil))) aNil)) (gNm 1) (gSeq (gSetN 2 (nCallW (aCons (dVar 0) (aCons (dVar 1) aNil))))
  (gFor 100000 (iRg rg1 (aCons (dC (.int 6)) aNil)) (gNm 3) (gRight 80 2))))
  (gRet (dC (.bool true))))
def m_law : Fn := fnB 1 3 g_law
end Law
namespace Law
open PySem PySem.Spec PyProof.Rows L2 Wb
theorem pl_210 {α : Type} : ∀ us ws : List α, (px_210 us ws).length = 3 → us = [] ∧ ∃ a b c, ws = [a, b, c] := by
  intro us ws h
  unfold px_210 at h
  split at h
  · exact ⟨rfl, _, _, _, rfl⟩
  · simp at h
theorem pv_210 {vs zs : List V} {us ws : List Value} (r : Vals vs us) (z0 : Vals zs ws) : Vals (px_210 vs zs) (px_210 us ws) := by
  cases r with
  | cons _ _ => exact .nil
  | nil =>
    cases z0 with
    | nil => exact .nil
    | cons ha z1 =>
      cases z1 with
      | nil => exact .nil
      | cons hb z2 =>
        cases z2 with
        | nil => exact .nil
        | cons hc z3 =>
          cases z3 with
          | nil => exact (.cons hc (.cons hb (.cons ha .nil)))
          | cons _ _ => exact .nil

theorem pd_210 {K : Frag} {n : En} (S : Hp) (vs : List V) (xs : List DV) (zs : List V) (ys : List DV) (r : DvAll K n S vs xs) (z0 : DvAll K n S zs ys) : DvAll K n S (px_210 vs zs) (px_210 xs ys) := by
  cases r with
  | cons _ _ => exact .nil
  | nil =>
    cases z0 with
    | nil => exact .nil
    | cons ha z1 =>
      cases z1 with
      | nil => exact .nil
      | cons hb z2 =>
        cases z2 with
        | nil => exact .nil
        | cons hc z3 =>
          cases z3 with
          | nil => exact (.cons hc (.cons hb (.cons ha .nil)))
          | cons _ _ => exact .nil

theorem pl_102 {α : Type} : ∀ us ws : List α, (px_102 us ws).length = 3 → us = [] ∧ ∃ a b c, ws = [a, b, c] := by
  intro us ws h
  unfold px_102 at h
  split at h
  · exact ⟨rfl, _, _, _, rfl⟩
  · simp at h
theorem pv_102 {vs zs : List V} {us ws : List Value} (r : Vals vs us) (z0 : Vals zs ws) : Vals (px_102 vs zs) (px_102 us ws) := by
  cases r with
  | cons _ _ => exact .nil
  | nil =>
    cases z0 with
    | nil => exact .nil
    | cons ha z1 =>
      cases z1 with
      | nil => exact .nil
      | cons hb z2 =>
        cases z2 with
        | nil => exact .nil
        | cons hc z3 =>
          cases z3 with
          | nil => exact (.cons hb (.cons ha (.cons hc .nil)))
          | cons _ _ => exact .nil

theorem pd_102 {K : Frag} {n : En} (S : Hp) (vs : List V) (xs : List DV) (zs : List V) (ys : List DV) (r : DvAll K n S vs xs) (z0 : DvAll K n S zs ys) : DvAll K n S (px_102 vs zs) (px_102 xs ys) := by
  cases r with
  | cons _ _ => exact .nil
  | nil =>
    cases z0 with
    | nil => exact .nil
    | cons ha z1 =>
      cases z1 with
      | nil => exact .nil
      | cons hb z2 =>
        cases z2 with
        | nil => exact .nil
        | cons hc z3 =>
          cases z3 with
          | nil => exact (.cons hb (.cons ha (.cons hc .nil)))
          | cons _ _ => exact .nil

theorem pl_10 {α : Type} : ∀ us ws : List α, (px_10 us ws).length = 2 → us = [] ∧ ∃ a b, ws = [a, b] := by
  intro us ws h
  unfold px_10 at h
  split at h
  · exact ⟨rfl, _, _, rfl⟩
  · simp at h
theorem pv_10 {vs zs : List V} {us ws : List Value} (r : Vals vs us) (z0 : Vals zs ws) : Vals (px_10 vs zs) (px_10 us ws) := by
  cases r with
  | cons _ _ => exact .nil
  | nil =>
    cases z0 with
    | nil => exact .nil
    | cons ha z1 =>
      cases z1 with
      | nil => exact .nil
      | cons hb z2 =>
        cases z2 with
        | nil => exact (.cons hb (.cons ha .nil))
        | cons _ _ => exact .nil

theorem pd_10 {K : Frag} {n : En} (S : Hp) (vs : List V) (xs : List DV) (zs : List V) (ys : List DV) (r : DvAll K n S vs xs) (z0 : DvAll K n S zs ys) : DvAll K n S (px_10 vs zs) (px_10 xs ys) := by
  cases r with
  | cons _ _ => exact .nil
  | nil =>
    cases z0 with
    | nil => exact .nil
    | cons ha z1 =>
      cases z1 with
      | nil => exact .nil
      | cons hb z2 =>
        cases z2 with
        | nil => exact (.cons hb (.cons ha .nil))
        | cons _ _ => exact .nil

def top (i : Nat) : Stmt := PySem.Challenge.pw_spacewebs_k01_scalars.main.body.getD i (.Pass ⟨0, 0, 0, 0⟩)
abbrev s_is_integer : Stmt := top 7
theorem sc_is_integer : FnScope ["value"] ["value"] (defScope s_is_integer) := ⟨rfl, rfl, rfl, by decide +kernel, rfl, by decide +kernel, by decide +kernel⟩
abbrev s_is_tuple : Stmt := top 8
theorem sc_is_tuple : FnScope ["value", "low", "high"] ["value", "low", "high"] (defScope s_is_tuple) := ⟨rfl, rfl, rfl, by decide +kernel, rfl, by decide +kernel, by decide +kernel⟩
abbrev s_anew : Stmt := top 9
theorem sc_anew : FnScope ["value", "part"] ["value"] (defScope s_anew) := ⟨rfl, rfl, rfl, by decide +kernel, rfl, by decide +kernel, by decide +kernel⟩
abbrev s_is_prime_in : Stmt := top 12
theorem sc_is_prime_in : FnScope ["value"] ["value"] (defScope s_is_prime_in) := ⟨rfl, rfl, rfl, by decide +kernel, rfl, by decide +kernel, by decide +kernel⟩
abbrev s_is_scalar_in : Stmt := top 13
theorem sc_is_scalar_in : FnScope ["prime", "value"] ["prime", "value"] (defScope s_is_scalar_in) := ⟨rfl, rfl, rfl, by decide +kernel, rfl, by decide +kernel, by decide +kernel⟩
abbrev s_fraction_in : Stmt := top 14
theorem sc_fraction_in : FnScope ["above", "below", "shared"] ["above", "below"] (defScope s_fraction_in) := ⟨rfl, rfl, rfl, by decide +kernel, rfl, by decide +kernel, by decide +kernel⟩
abbrev s_scalar_in : Stmt := top 15
theorem sc_scalar_in : FnScope ["prime", "k"] ["prime", "k"] (defScope s_scalar_in) := ⟨rfl, rfl, rfl, by decide +kernel, rfl, by decide +kernel, by decide +kernel⟩
abbrev s_plus_in : Stmt := top 16
theorem sc_plus_in : FnScope ["prime", "one", "other"] ["prime", "one", "other"] (defScope s_plus_in) := ⟨rfl, rfl, rfl, by decide +kernel, rfl, by decide +kernel, by decide +kernel⟩
abbrev s_times_in : Stmt := top 17
theorem sc_times_in : FnScope ["prime", "one", "other"] ["prime", "one", "other"] (defScope s_times_in) := ⟨rfl, rfl, rfl, by decide +kernel, rfl, by decide +kernel, by decide +kernel⟩
abbrev s_negative_in : Stmt := top 18
theorem sc_negative_in : FnScope ["prime", "scalar"] ["prime", "scalar"] (defScope s_negative_in) := ⟨rfl, rfl, rfl, by decide +kernel, rfl, by decide +kernel, by decide +kernel⟩
abbrev s_inverse_in : Stmt := top 19
theorem sc_inverse_in : FnScope ["prime", "scalar", "k"] ["prime", "scalar"] (defScope s_inverse_in) := ⟨rfl, rfl, rfl, by decide +kernel, rfl, by decide +kernel, by decide +kernel⟩
abbrev s_need_prime : Stmt := top 21
theorem sc_need_prime : FnScope ["prime"] ["prime"] (defScope s_need_prime) := ⟨rfl, rfl, rfl, by decide +kernel, rfl, by decide +kernel, by decide +kernel⟩
abbrev s_need_scalar : Stmt := top 22
theorem sc_need_scalar : FnScope ["prime", "scalar"] ["prime", "scalar"] (defScope s_need_scalar) := ⟨rfl, rfl, rfl, by decide +kernel, rfl, by decide +kernel, by decide +kernel⟩
abbrev s_need_scalars : Stmt := top 23
theorem sc_need_scalars : FnScope ["prime", "one", "other"] ["prime", "one", "other"] (defScope s_need_scalars) := ⟨rfl, rfl, rfl, by decide +kernel, rfl, by decide +kernel, by decide +kernel⟩
abbrev s_is_scalar : Stmt := top 24
theorem sc_is_scalar : FnScope ["prime", "value"] ["prime", "value"] (defScope s_is_scalar) := ⟨rfl, rfl, rfl, by decide +kernel, rfl, by decide +kernel, by decide +kernel⟩
abbrev s_scalar_of : Stmt := top 25
theorem sc_scalar_of : FnScope ["prime", "k"] ["prime", "k"] (defScope s_scalar_of) := ⟨rfl, rfl, rfl, by decide +kernel, rfl, by decide +kernel, by decide +kernel⟩
abbrev s_plus : Stmt := top 26
theorem sc_plus : FnScope ["prime", "one", "other"] ["prime", "one", "other"] (defScope s_plus) := ⟨rfl, rfl, rfl, by decide +kernel, rfl, by decide +kernel, by decide +kernel⟩
abbrev s_times : Stmt := top 27
theorem sc_times : FnScope ["prime", "one", "other"] ["prime", "one", "other"] (defScope s_times) := ⟨rfl, rfl, rfl, by decide +kernel, rfl, by decide +kernel, by decide +kernel⟩
abbrev s_negative : Stmt := top 28
theorem sc_negative : FnScope ["prime", "scalar"] ["prime", "scalar"] (defScope s_negative) := ⟨rfl, rfl, rfl, by decide +kernel, rfl, by decide +kernel, by decide +kernel⟩
abbrev s_inverse : Stmt := top 29
theorem sc_inverse : FnScope ["prime", "scalar"] ["prime", "scalar"] (defScope s_inverse) := ⟨rfl, rfl, rfl, by decide +kernel, rfl, by decide +kernel, by decide +kernel⟩
abbrev s__law_well : Stmt := top 31
theorem sc__law_well : FnScope ["script", "k", "cell", "whole", "part", "mixed"] ["script", "k"] (defScope s__law_well) := ⟨rfl, rfl, rfl, by decide +kernel, rfl, by decide +kernel, by decide +kernel⟩
abbrev s__law_draw : Stmt := top 32
theorem sc__law_draw : FnScope ["well", "many", "found", "step", "mixed"] ["well", "many"] (defScope s__law_draw) := ⟨rfl, rfl, rfl, by decide +kernel, rfl, by decide +kernel, by decide +kernel⟩
abbrev s__law_cut : Stmt := top 33
theorem sc__law_cut : FnScope ["above", "below", "one", "other", "sign"] ["above", "below"] (defScope s__law_cut) := ⟨rfl, rfl, rfl, by decide +kernel, rfl, by decide +kernel, by decide +kernel⟩
abbrev s__law_num : Stmt := top 34
theorem sc__law_num : FnScope ["p", "k"] ["p", "k"] (defScope s__law_num) := ⟨rfl, rfl, rfl, by decide +kernel, rfl, by decide +kernel, by decide +kernel⟩
abbrev s__law_plus : Stmt := top 35
theorem sc__law_plus : FnScope ["p", "one", "other"] ["p", "one", "other"] (defScope s__law_plus) := ⟨rfl, rfl, rfl, by decide +kernel, rfl, by decide +kernel, by decide +kernel⟩
abbrev s__law_times : Stmt := top 36
theorem sc__law_times : FnScope ["p", "one", "other"] ["p", "one", "other"] (defScope s__law_times) := ⟨rfl, rfl, rfl, by decide +kernel, rfl, by decide +kernel, by decide +kernel⟩
abbrev s__law_over : Stmt := top 37
theorem sc__law_over : FnScope ["p", "one", "k"] ["p", "one"] (defScope s__law_over) := ⟨rfl, rfl, rfl, by decide +kernel, rfl, by decide +kernel, by decide +kernel⟩
abbrev s__law_great : Stmt := top 39
theorem sc__law_great : FnScope ["well", "p", "above"] ["well", "p"] (defScope s__law_great) := ⟨rfl, rfl, rfl, by decide +kernel, rfl, by decide +kernel, by decide +kernel⟩
abbrev s__law_is_scalar : Stmt := top 40
theorem sc__law_is_scalar : FnScope ["p", "value", "item"] ["p", "value"] (defScope s__law_is_scalar) := ⟨rfl, rfl, rfl, by decide +kernel, rfl, by decide +kernel, by decide +kernel⟩
abbrev s__law_near : Stmt := top 41
theorem sc__law_near : FnScope ["well", "p", "value", "some"] ["well", "p", "value"] (defScope s__law_near) := ⟨rfl, rfl, rfl, by decide +kernel, rfl, by decide +kernel, by decide +kernel⟩
abbrev s__law_told : Stmt := top 42
theorem sc__law_told : FnScope ["way", "p", "one", "other", "caught", "e", "kinds", "at"] ["way", "p", "one", "other"] (defScope s__law_told) := ⟨rfl, rfl, rfl, by decide +kernel, rfl, by decide +kernel, by decide +kernel⟩
abbrev s__law_refused : Stmt := top 43
theorem sc__law_refused : FnScope ["well", "p", "one", "bad", "odd", "way"] ["well", "p", "one"] (defScope s__law_refused) := ⟨rfl, rfl, rfl, by decide +kernel, rfl, by decide +kernel, by decide +kernel⟩
abbrev s__law_right : Stmt := top 44
theorem sc__law_right : FnScope ["well", "p", "one", "other", "third", "due", "k", "turn", "value"] ["well"] (defScope s__law_right) := ⟨rfl, rfl, rfl, by decide +kernel, rfl, by decide +kernel, by decide +kernel⟩
abbrev s_law : Stmt := top 45
theorem sc_law : FnScope ["script", "k", "well", "turn"] ["script"] (defScope s_law) := ⟨rfl, rfl, rfl, by decide +kernel, rfl, by decide +kernel, by decide +kernel⟩
structure Fx (P : Program) (K : Frag) (mg : Str → Option Value) where
  a_is_integer : Addr
  fd_is_integer : FuncData
  F_is_integer : Fun K "is_integer" "is_integer" s_is_integer a_is_integer fd_is_integer
  M_is_integer : mg "is_integer" = some (.ref a_is_integer)
  B_is_integer : Binds K fd_is_integer ["value"] []
  a_is_tuple : Addr
  fd_is_tuple : FuncData
  F_is_tuple : Fun K "is_tuple" "is_tuple" s_is_tuple a_is_tuple fd_is_tuple
  M_is_tuple : mg "is_tuple" = some (.ref a_is_tuple)
  B_is_tuple : Binds K fd_is_tuple ["value", "low", "high"] []
  a_anew : Addr
  fd_anew : FuncData
  F_anew : Fun K "anew" "anew" s_anew a_anew fd_anew
  M_anew : mg "anew" = some (.ref a_anew)
  B_anew : Binds K fd_anew ["value"] []
  a_is_prime_in : Addr
  fd_is_prime_in : FuncData
  F_is_prime_in : Fun K "is_prime_in" "is_prime_in" s_is_prime_in a_is_prime_in fd_is_prime_in
  M_is_prime_in : mg "is_prime_in" = some (.ref a_is_prime_in)
  B_is_prime_in : Binds K fd_is_prime_in ["value"] []
  a_is_scalar_in : Addr
  fd_is_scalar_in : FuncData
  F_is_scalar_in : Fun K "is_scalar_in" "is_scalar_in" s_is_scalar_in a_is_scalar_in fd_is_scalar_in
  M_is_scalar_in : mg "is_scalar_in" = some (.ref a_is_scalar_in)
  B_is_scalar_in : Binds K fd_is_scalar_in ["prime", "value"] []
  a_fraction_in : Addr
  fd_fraction_in : FuncData
  F_fraction_in : Fun K "fraction_in" "fraction_in" s_fraction_in a_fraction_in fd_fraction_in
  M_fraction_in : mg "fraction_in" = some (.ref a_fraction_in)
  B_fraction_in : Binds K fd_fraction_in ["above", "below"] []
  a_scalar_in : Addr
  fd_scalar_in : FuncData
  F_scalar_in : Fun K "scalar_in" "scalar_in" s_scalar_in a_scalar_in fd_scalar_in
  M_scalar_in : mg "scalar_in" = some (.ref a_scalar_in)
  B_scalar_in : Binds K fd_scalar_in ["prime", "k"] []
  a_plus_in : Addr
  fd_plus_in : FuncData
  F_plus_in : Fun K "plus_in" "plus_in" s_plus_in a_plus_in fd_plus_in
  M_plus_in : mg "plus_in" = some (.ref a_plus_in)
  B_plus_in : Binds K fd_plus_in ["prime", "one", "other"] []
  a_times_in : Addr
  fd_times_in : FuncData
  F_times_in : Fun K "times_in" "times_in" s_times_in a_times_in fd_times_in
  M_times_in : mg "times_in" = some (.ref a_times_in)
  B_times_in : Binds K fd_times_in ["prime", "one", "other"] []
  a_negative_in : Addr
  fd_negative_in : FuncData
  F_negative_in : Fun K "negative_in" "negative_in" s_negative_in a_negative_in fd_negative_in
  M_negative_in : mg "negative_in" = some (.ref a_negative_in)
  B_negative_in : Binds K fd_negative_in ["prime", "scalar"] []
  a_inverse_in : Addr
  fd_inverse_in : FuncData
  F_inverse_in : Fun K "inverse_in" "inverse_in" s_inverse_in a_inverse_in fd_inverse_in
  M_inverse_in : mg "inverse_in" = some (.ref a_inverse_in)
  B_inverse_in : Binds K fd_inverse_in ["prime", "scalar"] []
  a_need_prime : Addr
  fd_need_prime : FuncData
  F_need_prime : Fun K "need_prime" "need_prime" s_need_prime a_need_prime fd_need_prime
  M_need_prime : mg "need_prime" = some (.ref a_need_prime)
  B_need_prime : Binds K fd_need_prime ["prime"] []
  a_need_scalar : Addr
  fd_need_scalar : FuncData
  F_need_scalar : Fun K "need_scalar" "need_scalar" s_need_scalar a_need_scalar fd_need_scalar
  M_need_scalar : mg "need_scalar" = some (.ref a_need_scalar)
  B_need_scalar : Binds K fd_need_scalar ["prime", "scalar"] []
  a_need_scalars : Addr
  fd_need_scalars : FuncData
  F_need_scalars : Fun K "need_scalars" "need_scalars" s_need_scalars a_need_scalars fd_need_scalars
  M_need_scalars : mg "need_scalars" = some (.ref a_need_scalars)
  B_need_scalars : Binds K fd_need_scalars ["prime", "one", "other"] []
  a_is_scalar : Addr
  fd_is_scalar : FuncData
  F_is_scalar : Fun K "is_scalar" "is_scalar" s_is_scalar a_is_scalar fd_is_scalar
  M_is_scalar : mg "is_scalar" = some (.ref a_is_scalar)
  B_is_scalar : Binds K fd_is_scalar ["prime", "value"] []
  a_scalar_of : Addr
  fd_scalar_of : FuncData
  F_scalar_of : Fun K "scalar_of" "scalar_of" s_scalar_of a_scalar_of fd_scalar_of
  M_scalar_of : mg "scalar_of" = some (.ref a_scalar_of)
  B_scalar_of : Binds K fd_scalar_of ["prime", "k"] []
  a_plus : Addr
  fd_plus : FuncData
  F_plus : Fun K "plus" "plus" s_plus a_plus fd_plus
  M_plus : mg "plus" = some (.ref a_plus)
  B_plus : Binds K fd_plus ["prime", "one", "other"] []
  a_times : Addr
  fd_times : FuncData
  F_times : Fun K "times" "times" s_times a_times fd_times
  M_times : mg "times" = some (.ref a_times)
  B_times : Binds K fd_times ["prime", "one", "other"] []
  a_negative : Addr
  fd_negative : FuncData
  F_negative : Fun K "negative" "negative" s_negative a_negative fd_negative
  M_negative : mg "negative" = some (.ref a_negative)
  B_negative : Binds K fd_negative ["prime", "scalar"] []
  a_inverse : Addr
  fd_inverse : FuncData
  F_inverse : Fun K "inverse" "inverse" s_inverse a_inverse fd_inverse
  M_inverse : mg "inverse" = some (.ref a_inverse)
  B_inverse : Binds K fd_inverse ["prime", "scalar"] []
  a__law_well : Addr
  fd__law_well : FuncData
  F__law_well : Fun K "_law_well" "_law_well" s__law_well a__law_well fd__law_well
  M__law_well : mg "_law_well" = some (.ref a__law_well)
  B__law_well : Binds K fd__law_well ["script", "k"] []
  a__law_draw : Addr
  fd__law_draw : FuncData
  F__law_draw : Fun K "_law_draw" "_law_draw" s__law_draw a__law_draw fd__law_draw
  M__law_draw : mg "_law_draw" = some (.ref a__law_draw)
  B__law_draw : Binds K fd__law_draw ["well", "many"] []
  a__law_cut : Addr
  fd__law_cut : FuncData
  F__law_cut : Fun K "_law_cut" "_law_cut" s__law_cut a__law_cut fd__law_cut
  M__law_cut : mg "_law_cut" = some (.ref a__law_cut)
  B__law_cut : Binds K fd__law_cut ["above", "below"] []
  a__law_num : Addr
  fd__law_num : FuncData
  F__law_num : Fun K "_law_num" "_law_num" s__law_num a__law_num fd__law_num
  M__law_num : mg "_law_num" = some (.ref a__law_num)
  B__law_num : Binds K fd__law_num ["p", "k"] []
  a__law_plus : Addr
  fd__law_plus : FuncData
  F__law_plus : Fun K "_law_plus" "_law_plus" s__law_plus a__law_plus fd__law_plus
  M__law_plus : mg "_law_plus" = some (.ref a__law_plus)
  B__law_plus : Binds K fd__law_plus ["p", "one", "other"] []
  a__law_times : Addr
  fd__law_times : FuncData
  F__law_times : Fun K "_law_times" "_law_times" s__law_times a__law_times fd__law_times
  M__law_times : mg "_law_times" = some (.ref a__law_times)
  B__law_times : Binds K fd__law_times ["p", "one", "other"] []
  a__law_over : Addr
  fd__law_over : FuncData
  F__law_over : Fun K "_law_over" "_law_over" s__law_over a__law_over fd__law_over
  M__law_over : mg "_law_over" = some (.ref a__law_over)
  B__law_over : Binds K fd__law_over ["p", "one"] []
  a__law_great : Addr
  fd__law_great : FuncData
  F__law_great : Fun K "_law_great" "_law_great" s__law_great a__law_great fd__law_great
  M__law_great : mg "_law_great" = some (.ref a__law_great)
  B__law_great : Binds K fd__law_great ["well", "p"] []
  a__law_is_scalar : Addr
  fd__law_is_scalar : FuncData
  F__law_is_scalar : Fun K "_law_is_scalar" "_law_is_scalar" s__law_is_scalar a__law_is_scalar fd__law_is_scalar
  M__law_is_scalar : mg "_law_is_scalar" = some (.ref a__law_is_scalar)
  B__law_is_scalar : Binds K fd__law_is_scalar ["p", "value"] []
  a__law_near : Addr
  fd__law_near : FuncData
  F__law_near : Fun K "_law_near" "_law_near" s__law_near a__law_near fd__law_near
  M__law_near : mg "_law_near" = some (.ref a__law_near)
  B__law_near : Binds K fd__law_near ["well", "p", "value"] []
  a__law_told : Addr
  fd__law_told : FuncData
  F__law_told : Fun K "_law_told" "_law_told" s__law_told a__law_told fd__law_told
  M__law_told : mg "_law_told" = some (.ref a__law_told)
  B__law_told : Binds K fd__law_told ["way", "p", "one", "other"] []
  a__law_refused : Addr
  fd__law_refused : FuncData
  F__law_refused : Fun K "_law_refused" "_law_refused" s__law_refused a__law_refused fd__law_refused
  M__law_refused : mg "_law_refused" = some (.ref a__law_refused)
  B__law_refused : Binds K fd__law_refused ["well", "p", "one"] []
  a__law_right : Addr
  fd__law_right : FuncData
  F__law_right : Fun K "_law_right" "_law_right" s__law_right a__law_right fd__law_right
  M__law_right : mg "_law_right" = some (.ref a__law_right)
  B__law_right : Binds K fd__law_right ["well"] []
  a_law : Addr
  fd_law : FuncData
  F_law : Fun K "law" "law" s_law a_law fd_law
  M_law : mg "law" = some (.ref a_law)
  B_law : Binds K fd_law ["script"] []
  K_plus_210 : KBinds K fd_plus ["prime", "one", "other"] ["other", "one", "prime"] px_210 px_210
  K_times_102 : KBinds K fd_times ["prime", "one", "other"] ["one", "prime", "other"] px_102 px_102
  K_negative_10 : KBinds K fd_negative ["prime", "scalar"] ["scalar", "prime"] px_10 px_10
  K_scalar_of_10 : KBinds K fd_scalar_of ["prime", "k"] ["k", "prime"] px_10 px_10
  K_inverse_10 : KBinds K fd_inverse ["prime", "scalar"] ["scalar", "prime"] px_10 px_10
  K_is_scalar_10 : KBinds K fd_is_scalar ["prime", "value"] ["value", "prime"] px_10 px_10
  m_abs : mg "abs" = none
  m_all : mg "all" = none
  m_bool : mg "bool" = none
  m_gcd : mg "gcd" = some (.builtin "math.gcd")
  m_int : mg "int" = none
  m_isinstance : mg "isinstance" = none
  m_len : mg "len" = none
  m_list : mg "list" = none
  m_max : mg "max" = none
  m_min : mg "min" = none
  m_range : mg "range" = none
  m_repr : mg "repr" = none
  m_tuple : mg "tuple" = none
  a_PRIMES : Addr
  u_PRIMES : Value
  M_PRIMES : mg "PRIMES" = some u_PRIMES
  R_PRIMES : RelV (V.ref a_PRIMES) u_PRIMES
  Q_PRIMES : ∀ S, Dq K S (V.ref a_PRIMES) (.tuple [(.int 0), (.int 2), (.int 3), (.int 5), (.int 7), (.int 11), (.int 13)])
  aD : Addr
  fI : Addr
  EB : ErrBase P K mg aD fI
  CT : Nat → Addr
  EC : ∀ c, ErrCls K aD fI (CT c)
  IC : ∀ c, IsC K (CT c)
  M_WebsError : mg "WebsError" = some (.ref aD)
  XM : ∀ c, PySem.W.exmOne K (.ref (CT c)) (.ref aD) = some true
  ME_InvalidPrime : mg "InvalidPrime" = some (.ref (CT 0))
  KN_InvalidPrime : PySem.W.kitOne K (.type "NoneType") (.ref (CT 0)) = some false
  KL_InvalidPrime : ∀ c, PySem.W.kitOne K (.ref (CT c)) (.ref (CT 0)) = some (subE c 0)
  ME_InvalidScalar : mg "InvalidScalar" = some (.ref (CT 1))
  KN_InvalidScalar : PySem.W.kitOne K (.type "NoneType") (.ref (CT 1)) = some false
  KL_InvalidScalar : ∀ c, PySem.W.kitOne K (.ref (CT c)) (.ref (CT 1)) = some (subE c 1)
  ME_ZeroScalar : mg "ZeroScalar" = some (.ref (CT 2))
  KN_ZeroScalar : PySem.W.kitOne K (.type "NoneType") (.ref (CT 2)) = some false
  KL_ZeroScalar : ∀ c, PySem.W.kitOne K (.ref (CT c)) (.ref (CT 2)) = some (subE c 2)
section
variable {P : Program} {w : World} {K : Frag} {mg : Str → Option Value} {base : Heap} (X : Fx P K mg)
theorem d_is_integer :
    DefG P w K mg base "is_integer" ["value"] 1 X.a_is_integer X.fd_is_integer (spD K X.CT 0 m_is_integer) :=
  defG_of (CT := X.CT) (g := g_is_integer) (nl := 0) (κ := 0) X.F_is_integer sc_is_integer X.M_is_integer X.B_is_integer rfl fun cdv A outer s H E wl S0 B => jb_le
    (jb_one (js_ret (je_and (j_isi hT_int b_int X.m_isinstance X.m_int (o 0)) (je_one (je_not (j_isi hT_bool b_bool X.m_isinstance X.m_bool (o 0))))))) (by decide)
theorem d_is_tuple :
    DefG P w K mg base "is_tuple" ["value", "low", "high"] 1 X.a_is_tuple X.fd_is_tuple (spD K X.CT 0 m_is_tuple) :=
  defG_of (CT := X.CT) (g := g_is_tuple) (nl := 0) (κ := 0) X.F_is_tuple sc_is_tuple X.M_is_tuple X.B_is_tuple rfl fun cdv A outer s H E wl S0 B => jb_le
    (jb_one (js_ret (je_and (j_isi hT_tuple b_tuple X.m_isinstance X.m_tuple (o 0)) (je_and (je_ge (je_o (j_len rfl X.m_len (oc (o 0) jo_nil))) (o 1)) (je_one (je_or (je_isN (o 2)) (je_one (je_le (je_o (j_len rfl X.m_len (oc (o 0) jo_nil))) (o 2))))))))) (by decide)
theorem st_anew {k : Nat} {G : Fn} (D_anew : DefG P w K mg base "anew" ["value"] k X.a_anew X.fd_anew (spD K X.CT 0 G)) : DefG P w K mg base "anew" ["value"] (k + 1) X.a_anew X.fd_anew (spD K X.CT 0 (fnB 1 1 (g_anew G))) :=
  defG_of (CT := X.CT) (g := g_anew G) (nl := 1) (κ := 0) X.F_anew sc_anew X.M_anew X.B_anew rfl fun cdv A outer s H E wl S0 B => jb_le
    (jb_cons (js_if (t_v (j_isi hT_list b_list X.m_isinstance X.m_list (o 0))) (jb_one (js_ret (jn_e (lc [("part", 1)] 100000 B.c (ji_seq (v 0)) (fun s1 H1 q1 l1 p1 => (gn (Cok.blk B.c s1 H1 q1 l1 p1) 1)) (fun s1 H1 q1 l1 p1 => jts_nil) (fun s1 H1 q1 l1 p1 => (cl D_anew (Cok.blk B.c s1 H1 q1 l1 p1) (Nat.le_refl _) (ac (v 1) ja_nil))))))) jb_nil)
    (jb_cons (js_if (t_v (j_isi hT_tuple b_tuple X.m_isinstance X.m_tuple (o 0))) (jb_one (js_ret (j_tuple rfl X.m_tuple (oc (je_o (jn_e (lc [("part", 1)] 100000 B.c (ji_seq (v 0)) (fun s1 H1 q1 l1 p1 => (gn (Cok.blk B.c s1 H1 q1 l1 p1) 1)) (fun s1 H1 q1 l1 p1 => jts_nil) (fun s1 H1 q1 l1 p1 => (cl D_anew (Cok.blk B.c s1 H1 q1 l1 p1) (Nat.le_refl _) (ac (v 1) ja_nil)))))) jo_nil)))) jb_nil)
    (jb_one (js_ret (v 0))))) (by decide)
theorem d_is_prime_in
    (D_is_integer : DefG P w K mg base "is_integer" ["value"] 1 X.a_is_integer X.fd_is_integer (spD K X.CT 0 m_is_integer)) :
    DefG P w K mg base "is_prime_in" ["value"] 2 X.a_is_prime_in X.fd_is_prime_in (spD K X.CT 0 m_is_prime_in) :=
  defG_of (CT := X.CT) (g := g_is_prime_in) (nl := 0) (κ := 0) X.F_is_prime_in sc_is_prime_in X.M_is_prime_in X.B_is_prime_in rfl fun cdv A outer s H E wl S0 B => jb_le
    (jb_one (js_ret (je_and (cl D_is_integer B.c (by decide) (ac (v 0) ja_nil)) (je_one (j_in B.c (o 0) (je_o (je_glob (by rfl) X.M_PRIMES X.R_PRIMES X.Q_PRIMES (by rfl)))))))) (by decide)
theorem d_is_scalar_in
    (D_is_integer : DefG P w K mg base "is_integer" ["value"] 1 X.a_is_integer X.fd_is_integer (spD K X.CT 0 m_is_integer))
    (D_is_tuple : DefG P w K mg base "is_tuple" ["value", "low", "high"] 1 X.a_is_tuple X.fd_is_tuple (spD K X.CT 0 m_is_tuple)) :
    DefG P w K mg base "is_scalar_in" ["prime", "value"] 2 X.a_is_scalar_in X.fd_is_scalar_in (spD K X.CT 0 m_is_scalar_in) :=
  defG_of (CT := X.CT) (g := g_is_scalar_in) (nl := 0) (κ := 0) X.F_is_scalar_in sc_is_scalar_in X.M_is_scalar_in X.B_is_scalar_in rfl fun cdv A outer s H E wl S0 B => jb_le
    (jb_cons (js_if (t_gt (o 0) (je_o je_int)) (jb_one (js_ret (je_and (cl D_is_integer B.c (by decide) (ac (v 1) ja_nil)) (je_one (je_chain op_le oI_le op_lt oI_lt (je_o je_int) (o 1) (o 0) (by rfl)))))) jb_nil)
    (jb_cons (js_if (jw_pt (jw_or (jt_not (t_v (cl D_is_tuple B.c (by decide) (ac (v 1) (ac je_int (ac je_int ja_nil)))))) (jw_or (jt_not (t_v (cl D_is_integer B.c (by decide) (ac (j_ix (o 1) (je_o je_int)) ja_nil)))) (jw_or1 (jt_not (t_v (cl D_is_integer B.c (by decide) (ac (j_ix (o 1) (je_o je_int)) ja_nil)))))))) (jb_one (js_ret je_bl)) jb_nil)
    (jb_one (js_ret (je_and (je_ge (je_o (j_ix (o 1) (je_o je_int))) (je_o je_int)) (je_one (je_eq B.c (je_o (j_gcd X.m_gcd (oc (je_o (j_ix (o 1) (je_o je_int))) (oc (je_o (j_ix (o 1) (je_o je_int))) jo_nil)))) (je_o je_int)))))))) (by decide)
theorem d_fraction_in :
    DefG P w K mg base "fraction_in" ["above", "below"] 1 X.a_fraction_in X.fd_fraction_in (spD K X.CT 0 m_fraction_in) :=
  defG_of (CT := X.CT) (g := g_fraction_in) (nl := 1) (κ := 0) X.F_fraction_in sc_fraction_in X.M_fraction_in X.B_fraction_in rfl fun cdv A outer s H E wl S0 B => jb_le
    (jb_cons (ss B.c 2 (j_gcd X.m_gcd (oc (o 0) (oc (o 1) jo_nil))))
    (jb_cons (js_if (t_lt (o 1) (je_o je_int)) (jb_one (ss B.c 2 (je_neg (o 2)))) jb_nil)
    (jb_one (js_ret (je_tup (ac (je_fdiv (o 0) (o 2)) (ac (je_fdiv (o 1) (o 2)) ja_nil))))))) (by decide)
theorem d_scalar_in :
    DefG P w K mg base "scalar_in" ["prime", "k"] 1 X.a_scalar_in X.fd_scalar_in (spD K X.CT 0 m_scalar_in) :=
  defG_of (CT := X.CT) (g := g_scalar_in) (nl := 0) (κ := 0) X.F_scalar_in sc_scalar_in X.M_scalar_in X.B_scalar_in rfl fun cdv A outer s H E wl S0 B => jb_le
    (jb_one (js_ret (je_if (t_eq B.c (o 0) (je_o je_int)) (je_tup (ac (v 1) (ac je_int ja_nil))) (je_mod (o 1) (o 0))))) (by decide)
theorem d_plus_in
    (D_fraction_in : DefG P w K mg base "fraction_in" ["above", "below"] 1 X.a_fraction_in X.fd_fraction_in (spD K X.CT 0 m_fraction_in)) :
    DefG P w K mg base "plus_in" ["prime", "one", "other"] 2 X.a_plus_in X.fd_plus_in (spD K X.CT 0 m_plus_in) :=
  defG_of (CT := X.CT) (g := g_plus_in) (nl := 0) (κ := 0) X.F_plus_in sc_plus_in X.M_plus_in X.B_plus_in rfl fun cdv A outer s H E wl S0 B => jb_le
    (jb_cons (js_if (t_gt (o 0) (je_o je_int)) (jb_one (js_ret (je_mod (je_o (je_add (o 1) (o 2))) (o 0)))) jb_nil)
    (jb_one (js_ret (cl D_fraction_in B.c (by decide) (ac (je_add (je_o (je_mul (je_o (j_ix (o 1) (je_o je_int))) (je_o (j_ix (o 2) (je_o je_int))))) (je_o (je_mul (je_o (j_ix (o 2) (je_o je_int))) (je_o (j_ix (o 1) (je_o je_int)))))) (ac (je_mul (je_o (j_ix (o 1) (je_o je_int))) (je_o (j_ix (o 2) (je_o je_int)))) ja_nil)))))) (by decide)
theorem d_times_in
    (D_fraction_in : DefG P w K mg base "fraction_in" ["above", "below"] 1 X.a_fraction_in X.fd_fraction_in (spD K X.CT 0 m_fraction_in)) :
    DefG P w K mg base "times_in" ["prime", "one", "other"] 2 X.a_times_in X.fd_times_in (spD K X.CT 0 m_times_in) :=
  defG_of (CT := X.CT) (g := g_times_in) (nl := 0) (κ := 0) X.F_times_in sc_times_in X.M_times_in X.B_times_in rfl fun cdv A outer s H E wl S0 B => jb_le
    (jb_cons (js_if (t_gt (o 0) (je_o je_int)) (jb_one (js_ret (je_mod (je_o (je_mul (o 1) (o 2))) (o 0)))) jb_nil)
    (jb_one (js_ret (cl D_fraction_in B.c (by decide) (ac (je_mul (je_o (j_ix (o 1) (je_o je_int))) (je_o (j_ix (o 2) (je_o je_int)))) (ac (je_mul (je_o (j_ix (o 1) (je_o je_int))) (je_o (j_ix (o 2) (je_o je_int)))) ja_nil)))))) (by decide)
theorem d_negative_in :
    DefG P w K mg base "negative_in" ["prime", "scalar"] 1 X.a_negative_in X.fd_negative_in (spD K X.CT 0 m_negative_in) :=
  defG_of (CT := X.CT) (g := g_negative_in) (nl := 0) (κ := 0) X.F_negative_in sc_negative_in X.M_negative_in X.B_negative_in rfl fun cdv A outer s H E wl S0 B => jb_le
    (jb_one (js_ret (je_if (t_eq B.c (o 0) (je_o je_int)) (je_tup (ac (je_neg (je_o (j_ix (o 1) (je_o je_int)))) (ac (j_ix (o 1) (je_o je_int)) ja_nil))) (je_mod (je_o (je_neg (o 1))) (o 0))))) (by decide)
theorem d_inverse_in
    (D_fraction_in : DefG P w K mg base "fraction_in" ["above", "below"] 1 X.a_fraction_in X.fd_fraction_in (spD K X.CT 0 m_fraction_in)) :
    DefG P w K mg base "inverse_in" ["prime", "scalar"] 2 X.a_inverse_in X.fd_inverse_in (spD K X.CT 0 m_inverse_in) :=
  defG_of (CT := X.CT) (g := g_inverse_in) (nl := 1) (κ := 0) X.F_inverse_in sc_inverse_in X.M_inverse_in X.B_inverse_in rfl fun cdv A outer s H E wl S0 B => jb_le
    (jb_cons (js_if (t_eq B.c (o 0) (je_o je_int)) (jb_one (js_ret (cl D_fraction_in B.c (by decide) (ac (j_ix (o 1) (je_o je_int)) (ac (j_ix (o 1) (je_o je_int)) ja_nil))))) jb_nil)
    (jb_one (js_ret (j_ix (je_o (jn_e (lc [("k", 2)] 100000 B.c (r2 X.m_range (oc (je_o je_int) (oc (o 0) jo_nil))) (fun s1 H1 q1 l1 p1 => (gn (Cok.blk B.c s1 H1 q1 l1 p1) 2)) (fun s1 H1 q1 l1 p1 => (jts_one (t_eq (Cok.blk B.c s1 H1 q1 l1 p1) (je_o (je_mod (je_o (je_mul (o 2) (o 1))) (o 0))) (je_o je_int)))) (fun s1 H1 q1 l1 p1 => (v 2))))) (je_o je_int))))) (by decide)
theorem d_need_prime
    (D_is_prime_in : DefG P w K mg base "is_prime_in" ["value"] 2 X.a_is_prime_in X.fd_is_prime_in (spD K X.CT 0 m_is_prime_in))
    (D_anew : DefG P w K mg base "anew" ["value"] 10 X.a_anew X.fd_anew (spD K X.CT 0 m_anew)) :
    DefG P w K mg base "need_prime" ["prime"] 11 X.a_need_prime X.fd_need_prime (spD K X.CT 0 m_need_prime) :=
  defG_of (CT := X.CT) (g := g_need_prime) (nl := 0) (κ := 0) X.F_need_prime sc_need_prime X.M_need_prime X.B_need_prime rfl fun cdv A outer s H E wl S0 B => jb_le
    (jb_one (js_if (jt_not (t_v (cl D_is_prime_in B.c (by decide) (ac (v 0) ja_nil)))) (jb_one (sr (CC := X.CT 0) 0 B.c X.EB X.EC X.ME_InvalidPrime (cl D_anew B.c (by decide) (ac (v 0) ja_nil)))) jb_nil)) (by decide)
theorem d_need_scalar
    (D_is_scalar_in : DefG P w K mg base "is_scalar_in" ["prime", "value"] 2 X.a_is_scalar_in X.fd_is_scalar_in (spD K X.CT 0 m_is_scalar_in))
    (D_anew : DefG P w K mg base "anew" ["value"] 10 X.a_anew X.fd_anew (spD K X.CT 0 m_anew)) :
    DefG P w K mg base "need_scalar" ["prime", "scalar"] 11 X.a_need_scalar X.fd_need_scalar (spD K X.CT 0 m_need_scalar) :=
  defG_of (CT := X.CT) (g := g_need_scalar) (nl := 0) (κ := 0) X.F_need_scalar sc_need_scalar X.M_need_scalar X.B_need_scalar rfl fun cdv A outer s H E wl S0 B => jb_le
    (jb_one (js_if (jt_not (t_v (cl D_is_scalar_in B.c (by decide) (ac (v 0) (ac (v 1) ja_nil))))) (jb_one (sr (CC := X.CT 1) 1 B.c X.EB X.EC X.ME_InvalidScalar (cl D_anew B.c (by decide) (ac (v 1) ja_nil)))) jb_nil)) (by decide)
theorem d_need_scalars
    (D_need_prime : DefG P w K mg base "need_prime" ["prime"] 11 X.a_need_prime X.fd_need_prime (spD K X.CT 0 m_need_prime))
    (D_need_scalar : DefG P w K mg base "need_scalar" ["prime", "scalar"] 11 X.a_need_scalar X.fd_need_scalar (spD K X.CT 0 m_need_scalar)) :
    DefG P w K mg base "need_scalars" ["prime", "one", "other"] 12 X.a_need_scalars X.fd_need_scalars (spD K X.CT 0 m_need_scalars) :=
  defG_of (CT := X.CT) (g := g_need_scalars) (nl := 0) (κ := 0) X.F_need_scalars sc_need_scalars X.M_need_scalars X.B_need_scalars rfl fun cdv A outer s H E wl S0 B => jb_le
    (jb_cons (se (cl D_need_prime B.c (by decide) (ac (v 0) ja_nil)))
    (jb_cons (se (cl D_need_scalar B.c (by decide) (ac (v 0) (ac (v 1) ja_nil))))
    (jb_one (se (cl D_need_scalar B.c (by decide) (ac (v 0) (ac (v 2) ja_nil))))))) (by decide)
theorem d_is_scalar
    (D_need_prime : DefG P w K mg base "need_prime" ["prime"] 11 X.a_need_prime X.fd_need_prime (spD K X.CT 0 m_need_prime))
    (D_is_scalar_in : DefG P w K mg base "is_scalar_in" ["prime", "value"] 2 X.a_is_scalar_in X.fd_is_scalar_in (spD K X.CT 0 m_is_scalar_in)) :
    DefG P w K mg base "is_scalar" ["prime", "value"] 12 X.a_is_scalar X.fd_is_scalar (spD K X.CT 0 m_is_scalar) :=
  defG_of (CT := X.CT) (g := g_is_scalar) (nl := 0) (κ := 0) X.F_is_scalar sc_is_scalar X.M_is_scalar X.B_is_scalar rfl fun cdv A outer s H E wl S0 B => jb_le
    (jb_cons (se (cl D_need_prime B.c (by decide) (ac (v 0) ja_nil)))
    (jb_one (js_ret (cl D_is_scalar_in B.c (by decide) (ac (v 0) (ac (v 1) ja_nil)))))) (by decide)
theorem d_scalar_of
    (D_need_prime : DefG P w K mg base "need_prime" ["prime"] 11 X.a_need_prime X.fd_need_prime (spD K X.CT 0 m_need_prime))
    (D_scalar_in : DefG P w K mg base "scalar_in" ["prime", "k"] 1 X.a_scalar_in X.fd_scalar_in (spD K X.CT 0 m_scalar_in)) :
    DefG P w K mg base "scalar_of" ["prime", "k"] 12 X.a_scalar_of X.fd_scalar_of (spD K X.CT 0 m_scalar_of) :=
  defG_of (CT := X.CT) (g := g_scalar_of) (nl := 0) (κ := 0) X.F_scalar_of sc_scalar_of X.M_scalar_of X.B_scalar_of rfl fun cdv A outer s H E wl S0 B => jb_le
    (jb_cons (se (cl D_need_prime B.c (by decide) (ac (v 0) ja_nil)))
    (jb_one (js_ret (cl D_scalar_in B.c (by decide) (ac (v 0) (ac (v 1) ja_nil)))))) (by decide)
theorem d_plus
    (D_need_scalars : DefG P w K mg base "need_scalars" ["prime", "one", "other"] 12 X.a_need_scalars X.fd_need_scalars (spD K X.CT 0 m_need_scalars))
    (D_plus_in : DefG P w K mg base "plus_in" ["prime", "one", "other"] 2 X.a_plus_in X.fd_plus_in (spD K X.CT 0 m_plus_in)) :
    DefG P w K mg base "plus" ["prime", "one", "other"] 13 X.a_plus X.fd_plus (spD K X.CT 0 m_plus) :=
  defG_of (CT := X.CT) (g := g_plus) (nl := 0) (κ := 0) X.F_plus sc_plus X.M_plus X.B_plus rfl fun cdv A outer s H E wl S0 B => jb_le
    (jb_cons (se (cl D_need_scalars B.c (by decide) (ac (v 0) (ac (v 1) (ac (v 2) ja_nil)))))
    (jb_one (js_ret (cl D_plus_in B.c (by decide) (ac (v 0) (ac (v 1) (ac (v 2) ja_nil))))))) (by decide)
theorem d_times
    (D_need_scalars : DefG P w K mg base "need_scalars" ["prime", "one", "other"] 12 X.a_need_scalars X.fd_need_scalars (spD K X.CT 0 m_need_scalars))
    (D_times_in : DefG P w K mg base "times_in" ["prime", "one", "other"] 2 X.a_times_in X.fd_times_in (spD K X.CT 0 m_times_in)) :
    DefG P w K mg base "times" ["prime", "one", "other"] 13 X.a_times X.fd_times (spD K X.CT 0 m_times) :=
  defG_of (CT := X.CT) (g := g_times) (nl := 0) (κ := 0) X.F_times sc_times X.M_times X.B_times rfl fun cdv A outer s H E wl S0 B => jb_le
    (jb_cons (se (cl D_need_scalars B.c (by decide) (ac (v 0) (ac (v 1) (ac (v 2) ja_nil)))))
    (jb_one (js_ret (cl D_times_in B.c (by decide) (ac (v 0) (ac (v 1) (ac (v 2) ja_nil))))))) (by decide)
theorem d_negative
    (D_need_prime : DefG P w K mg base "need_prime" ["prime"] 11 X.a_need_prime X.fd_need_prime (spD K X.CT 0 m_need_prime))
    (D_need_scalar : DefG P w K mg base "need_scalar" ["prime", "scalar"] 11 X.a_need_scalar X.fd_need_scalar (spD K X.CT 0 m_need_scalar))
    (D_negative_in : DefG P w K mg base "negative_in" ["prime", "scalar"] 1 X.a_negative_in X.fd_negative_in (spD K X.CT 0 m_negative_in)) :
    DefG P w K mg base "negative" ["prime", "scalar"] 12 X.a_negative X.fd_negative (spD K X.CT 0 m_negative) :=
  defG_of (CT := X.CT) (g := g_negative) (nl := 0) (κ := 0) X.F_negative sc_negative X.M_negative X.B_negative rfl fun cdv A outer s H E wl S0 B => jb_le
    (jb_cons (se (cl D_need_prime B.c (by decide) (ac (v 0) ja_nil)))
    (jb_cons (se (cl D_need_scalar B.c (by decide) (ac (v 0) (ac (v 1) ja_nil))))
    (jb_one (js_ret (cl D_negative_in B.c (by decide) (ac (v 0) (ac (v 1) ja_nil))))))) (by decide)
theorem d_inverse
    (D_need_prime : DefG P w K mg base "need_prime" ["prime"] 11 X.a_need_prime X.fd_need_prime (spD K X.CT 0 m_need_prime))
    (D_need_scalar : DefG P w K mg base "need_scalar" ["prime", "scalar"] 11 X.a_need_scalar X.fd_need_scalar (spD K X.CT 0 m_need_scalar))
    (D_inverse_in : DefG P w K mg base "inverse_in" ["prime", "scalar"] 2 X.a_inverse_in X.fd_inverse_in (spD K X.CT 0 m_inverse_in))
    (D_scalar_in : DefG P w K mg base "scalar_in" ["prime", "k"] 1 X.a_scalar_in X.fd_scalar_in (spD K X.CT 0 m_scalar_in))
    (D_anew : DefG P w K mg base "anew" ["value"] 10 X.a_anew X.fd_anew (spD K X.CT 0 m_anew)) :
    DefG P w K mg base "inverse" ["prime", "scalar"] 12 X.a_inverse X.fd_inverse (spD K X.CT 0 m_inverse) :=
  defG_of (CT := X.CT) (g := g_inverse) (nl := 0) (κ := 0) X.F_inverse sc_inverse X.M_inverse X.B_inverse rfl fun cdv A outer s H E wl S0 B => jb_le
    (jb_cons (se (cl D_need_prime B.c (by decide) (ac (v 0) ja_nil)))
    (jb_cons (se (cl D_need_scalar B.c (by decide) (ac (v 0) (ac (v 1) ja_nil))))
    (jb_cons (js_if (t_eq B.c (o 1) (je_o (cl D_scalar_in B.c (by decide) (ac (v 0) (ac je_int ja_nil))))) (jb_one (sr (CC := X.CT 2) 2 B.c X.EB X.EC X.ME_ZeroScalar (cl D_anew B.c (by decide) (ac (v 1) ja_nil)))) jb_nil)
    (jb_one (js_ret (cl D_inverse_in B.c (by decide) (ac (v 0) (ac (v 1) ja_nil)))))))) (by decide)
theorem d__law_well (hL : WellLaw 4 g__law_well) : DefW P w K mg base "_law_well" ["script", "k"] 1 X.a__law_well X.fd__law_well :=
  defW_of (CT := X.CT) (g := g__law_well) (nl := 4) X.F__law_well sc__law_well X.M__law_well X.B__law_well rfl rfl hL fun cdv A outer s H E wl S0 B => jz_le
    (jz_cons (ss B.c 2 (je_if (t_lt (o 1) (je_o (j_len rfl X.m_len (oc (o 0) jo_nil)))) (j_int rfl X.m_int (oc (je_o (j_ix (o 0) (o 1))) jo_nil)) (je_add (je_o (je_mul (je_o je_int) (o 1))) (je_o je_int))))
    (jz_cons (ss B.c 3 (je_add (je_o je_int) (je_o (j_len rfl X.m_len (oc (o 0) jo_nil)))))
    (jz_cons (sf 100000 B (ji_seq (v 0)) (gn B.c 4) (jb_one (ss B.c 3 (je_mod (je_o (j_int rfl X.m_int (oc (je_o (je_add (je_o (je_mul (o 3) (je_o je_int))) (je_o (je_mod (je_o (j_int rfl X.m_int (oc (o 4) jo_nil))) (je_o (je_add (je_o (je_pow (je_o je_int) (je_o je_int))) (je_o je_int))))))) jo_nil))) (je_o (je_add (je_o (je_pow (je_o je_int) (je_o je_int))) (je_o je_int)))))))
    (jz_cons (ss B.c 5 (je_mod (je_o (j_int rfl X.m_int (oc (je_o (je_add (je_o (je_add (je_o (je_add (je_o (je_mul (je_o (j_abs rfl X.m_abs (oc (o 2) jo_nil))) (je_o je_int))) (je_o (je_mul (o 3) (je_o je_int))))) (je_o (je_mul (je_o je_int) (je_o (j_int rfl X.m_int (oc (je_o (je_lt (o 2) (je_o je_int))) jo_nil))))))) (je_o (je_mul (je_o je_int) (o 1))))) jo_nil))) (je_o (je_add (je_o (je_pow (je_o je_int) (je_o je_int))) (je_o je_int)))))
    (jz_ret (jn_lst (ac (j_max B.c rfl X.m_max (oc (je_o je_int) (oc (je_o (je_sub (je_o (j_abs rfl X.m_abs (oc (o 2) jo_nil))) (je_o (je_pow (je_o je_int) (je_o je_int))))) jo_nil))) (ac (v 5) (ac je_int ja_nil))))))))) (by decide)
theorem d__law_draw (hL : DrawLaw 3 g__law_draw) : DefG P w K mg base "_law_draw" ["well", "many"] 1 X.a__law_draw X.fd__law_draw (spD K X.CT 1 m__law_draw) :=
  draw_of (CT := X.CT) (g := g__law_draw) (nl := 3) X.F__law_draw sc__law_draw X.M__law_draw X.B__law_draw rfl rfl hL fun cdv A outer s H E n hn B => jb_le
    (jb_cons (js_if (t_gt (je_o (j_ix (o 0) (je_o je_int))) (je_o je_int)) (jb_cons (ss B.c 2 (je_mod (je_o (j_int rfl X.m_int (oc (je_o (j_ix (o 0) (je_o je_int))) jo_nil))) (o 1)))
    (jb_cons (six 0 (je_fdiv (je_o (j_ix (o 0) (je_o je_int))) (o 1)) je_int)
    (jb_one (js_ret (v 2))))) jb_nil)
    (jb_cons (six 0 (je_add (je_o (j_ix (o 0) (je_o je_int))) (je_o je_int)) je_int)
    (jb_cons (ss B.c 3 (j_ix (o 0) (je_o je_int)))
    (jb_cons (ss B.c 4 (je_mod (je_o (j_int rfl X.m_int (oc (je_o (je_add (je_o (je_add (je_o (je_mul (je_o (je_mul (je_o (je_add (je_o (j_ix (o 0) (je_o je_int))) (je_o je_int))) (je_o (je_add (o 3) (je_o je_int))))) (je_o je_int))) (je_o (je_mul (je_o (je_mul (je_o (je_mul (o 3) (o 3))) (o 3))) (je_o je_int))))) (je_o je_int))) jo_nil))) (je_o (je_add (je_o (je_pow (je_o je_int) (je_o je_int))) (je_o je_int)))))
    (jb_cons (ss B.c 4 (je_mod (je_o (j_int rfl X.m_int (oc (je_o (je_add (je_o (je_add (je_o (je_mul (o 4) (o 4))) (je_o (je_mul (je_o (j_ix (o 0) (je_o je_int))) (je_o je_int))))) (o 3))) jo_nil))) (je_o (je_add (je_o (je_pow (je_o je_int) (je_o je_int))) (je_o je_int)))))
    (jb_cons (ss B.c 4 (je_mod (je_o (j_int rfl X.m_int (oc (je_o (je_add (je_o (je_mul (je_o (je_mul (o 4) (o 4))) (je_o je_int))) (je_o (je_mul (o 4) (je_o je_int))))) jo_nil))) (je_o (je_add (je_o (je_pow (je_o je_int) (je_o je_int))) (je_o je_int)))))
    (jb_one (js_ret (je_mod (je_o (j_int rfl X.m_int (oc (je_o (je_fdiv (o 4) (je_o je_int))) jo_nil))) (o 1)))))))))) (by decide)
theorem d__law_cut :
    DefG P w K mg base "_law_cut" ["above", "below"] 1 X.a__law_cut X.fd__law_cut (spD K X.CT 0 m__law_cut) :=
  defG_of (CT := X.CT) (g := g__law_cut) (nl := 3) (κ := 0) X.F__law_cut sc__law_cut X.M__law_cut X.B__law_cut rfl fun cdv A outer s H E wl S0 B => jb_le
    (jb_cons (sp2 B.c 2 3 (ac (j_abs rfl X.m_abs (oc (o 0) jo_nil)) (ac (j_abs rfl X.m_abs (oc (o 1) jo_nil)) ja_nil)))
    (jb_cons (js_while B (t_gt (o 3) (je_o je_int)) (jb_one (sp2 B.c 2 3 (ac (v 3) (ac (je_mod (je_o (j_int rfl X.m_int (oc (o 2) jo_nil))) (o 3)) ja_nil)))))
    (jb_cons (ss B.c 4 (je_if (t_lt (o 1) (je_o je_int)) (je_neg (je_o je_int)) je_int))
    (jb_one (js_ret (je_tup (ac (je_fdiv (je_o (je_mul (o 4) (o 0))) (o 2)) (ac (je_fdiv (je_o (je_mul (o 4) (o 1))) (o 2)) ja_nil)))))))) (by decide)
theorem d__law_num :
    DefG P w K mg base "_law_num" ["p", "k"] 1 X.a__law_num X.fd__law_num (spD K X.CT 0 m__law_num) :=
  defG_of (CT := X.CT) (g := g__law_num) (nl := 0) (κ := 0) X.F__law_num sc__law_num X.M__law_num X.B__law_num rfl fun cdv A outer s H E wl S0 B => jb_le
    (jb_one (js_ret (je_if (t_eq B.c (o 0) (je_o je_int)) (je_tup (ac (v 1) (ac je_int ja_nil))) (je_mod (je_o (j_int rfl X.m_int (oc (o 1) jo_nil))) (o 0))))) (by decide)
theorem d__law_plus
    (D__law_cut : DefG P w K mg base "_law_cut" ["above", "below"] 1 X.a__law_cut X.fd__law_cut (spD K X.CT 0 m__law_cut)) :
    DefG P w K mg base "_law_plus" ["p", "one", "other"] 2 X.a__law_plus X.fd__law_plus (spD K X.CT 0 m__law_plus) :=
  defG_of (CT := X.CT) (g := g__law_plus) (nl := 0) (κ := 0) X.F__law_plus sc__law_plus X.M__law_plus X.B__law_plus rfl fun cdv A outer s H E wl S0 B => jb_le
    (jb_one (js_ret (je_if (t_gt (o 0) (je_o je_int)) (je_mod (je_o (j_int rfl X.m_int (oc (je_o (je_add (o 1) (o 2))) jo_nil))) (o 0)) (cl D__law_cut B.c (by decide) (ac (je_add (je_o (je_mul (je_o (j_ix (o 1) (je_o je_int))) (je_o (j_ix (o 2) (je_o je_int))))) (je_o (je_mul (je_o (j_ix (o 2) (je_o je_int))) (je_o (j_ix (o 1) (je_o je_int)))))) (ac (je_mul (je_o (j_ix (o 1) (je_o je_int))) (je_o (j_ix (o 2) (je_o je_int)))) ja_nil)))))) (by decide)
theorem d__law_times
    (D__law_cut : DefG P w K mg base "_law_cut" ["above", "below"] 1 X.a__law_cut X.fd__law_cut (spD K X.CT 0 m__law_cut)) :
    DefG P w K mg base "_law_times" ["p", "one", "other"] 2 X.a__law_times X.fd__law_times (spD K X.CT 0 m__law_times) :=
  defG_of (CT := X.CT) (g := g__law_times) (nl := 0) (κ := 0) X.F__law_times sc__law_times X.M__law_times X.B__law_times rfl fun cdv A outer s H E wl S0 B => jb_le
    (jb_one (js_ret (je_if (t_gt (o 0) (je_o je_int)) (je_mod (je_o (j_int rfl X.m_int (oc (je_o (je_mul (o 1) (o 2))) jo_nil))) (o 0)) (cl D__law_cut B.c (by decide) (ac (je_mul (je_o (j_ix (o 1) (je_o je_int))) (je_o (j_ix (o 2) (je_o je_int)))) (ac (je_mul (je_o (j_ix (o 1) (je_o je_int))) (je_o (j_ix (o 2) (je_o je_int)))) ja_nil)))))) (by decide)
theorem d__law_over
    (D__law_cut : DefG P w K mg base "_law_cut" ["above", "below"] 1 X.a__law_cut X.fd__law_cut (spD K X.CT 0 m__law_cut)) :
    DefG P w K mg base "_law_over" ["p", "one"] 2 X.a__law_over X.fd__law_over (spD K X.CT 0 m__law_over) :=
  defG_of (CT := X.CT) (g := g__law_over) (nl := 1) (κ := 0) X.F__law_over sc__law_over X.M__law_over X.B__law_over rfl fun cdv A outer s H E wl S0 B => jb_le
    (jb_one (js_ret (je_if (t_eq B.c (o 0) (je_o je_int)) (cl D__law_cut B.c (by decide) (ac (j_ix (o 1) (je_o je_int)) (ac (j_ix (o 1) (je_o je_int)) ja_nil))) (j_ix (je_o (jn_e (lc [("k", 2)] 100000 B.c (r2 X.m_range (oc (je_o je_int) (oc (o 0) jo_nil))) (fun s1 H1 q1 l1 p1 => (gn (Cok.blk B.c s1 H1 q1 l1 p1) 2)) (fun s1 H1 q1 l1 p1 => (jts_one (t_eq (Cok.blk B.c s1 H1 q1 l1 p1) (je_o (je_mod (je_o (j_int rfl X.m_int (oc (je_o (je_mul (o 2) (o 1))) jo_nil))) (o 0))) (je_o je_int)))) (fun s1 H1 q1 l1 p1 => (v 2))))) (je_o je_int))))) (by decide)
theorem d__law_great
    (D__law_cut : DefG P w K mg base "_law_cut" ["above", "below"] 1 X.a__law_cut X.fd__law_cut (spD K X.CT 0 m__law_cut))
    (D__law_draw : DefG P w K mg base "_law_draw" ["well", "many"] 1 X.a__law_draw X.fd__law_draw (spD K X.CT 1 m__law_draw)) :
    DefG P w K mg base "_law_great" ["well", "p"] 2 X.a__law_great X.fd__law_great (spD K X.CT 4 m__law_great) :=
  defG_of (CT := X.CT) (g := g__law_great) (nl := 1) (κ := 4) X.F__law_great sc__law_great X.M__law_great X.B__law_great rfl fun cdv A outer s H E wl S0 B => jb_le
    (jb_cons (js_if (t_gt (o 1) (je_o je_int)) (jb_one (js_ret (cl D__law_draw B.c (by decide) (ac (v 0) (ac (v 1) ja_nil))))) jb_nil)
    (jb_cons (ss B.c 2 (je_mul (je_o (j_ix (je_o (jn_e (jn_lst (ac je_int (ac je_int (ac (je_neg (je_o je_int)) (ac je_int (ac (je_neg (je_o je_int)) (ac (je_add (je_o (je_pow (je_o je_int) (je_o je_int))) (je_o je_int)) (ac (je_neg (je_o (je_pow (je_o je_int) (je_o je_int)))) (ac je_int ja_nil))))))))))) (je_o (cl D__law_draw B.c (by decide) (ac (v 0) (ac je_int ja_nil)))))) (je_o (je_add (je_o je_int) (je_o (cl D__law_draw B.c (by decide) (ac (v 0) (ac je_int ja_nil))))))))
    (jb_one (js_ret (cl D__law_cut B.c (by decide) (ac (v 2) (ac (j_ix (je_o (jn_e (jn_lst (ac je_int (ac je_int (ac je_int (ac je_int (ac (je_pow (je_o je_int) (je_o je_int)) (ac je_int ja_nil))))))))) (je_o (cl D__law_draw B.c (by decide) (ac (v 0) (ac je_int ja_nil))))) ja_nil))))))) (by decide)
theorem d__law_is_scalar
    (D__law_cut : DefG P w K mg base "_law_cut" ["above", "below"] 1 X.a__law_cut X.fd__law_cut (spD K X.CT 0 m__law_cut)) :
    DefG P w K mg base "_law_is_scalar" ["p", "value"] 2 X.a__law_is_scalar X.fd__law_is_scalar (spD K X.CT 0 m__law_is_scalar) :=
  defG_of (CT := X.CT) (g := g__law_is_scalar) (nl := 1) (κ := 0) X.F__law_is_scalar sc__law_is_scalar X.M__law_is_scalar X.B__law_is_scalar rfl fun cdv A outer s H E wl S0 B => jb_le
    (jb_cons (js_if (t_gt (o 0) (je_o je_int)) (jb_one (js_ret (je_and (j_isi hT_int b_int X.m_isinstance X.m_int (o 1)) (je_and (je_not (j_isi hT_bool b_bool X.m_isinstance X.m_bool (o 1))) (je_one (je_chain op_le oI_le op_lt oI_lt (je_o je_int) (o 1) (o 0) (by rfl))))))) jb_nil)
    (jb_cons (js_if (jw_pt (jw_or (jt_not (t_v (j_isi hT_tuple b_tuple X.m_isinstance X.m_tuple (o 1)))) (jw_or (t_ne B.c (je_o (j_len rfl X.m_len (oc (o 1) jo_nil))) (je_o je_int)) (jw_or1 (jt_not (t_v (j_all B.c rfl X.m_all (oc (je_o (jn_e (lc [("item", 2)] 100000 B.c (ji_seq (v 1)) (fun s1 H1 q1 l1 p1 => (gn (Cok.blk B.c s1 H1 q1 l1 p1) 2)) (fun s1 H1 q1 l1 p1 => jts_nil) (fun s1 H1 q1 l1 p1 => (j_isi hT_int b_int X.m_isinstance X.m_int (o 2)))))) jo_nil)))))))) (jb_one (js_ret je_bl)) jb_nil)
    (jb_cons (js_if (jw_pt (jw_or (t_v (j_isi hT_bool b_bool X.m_isinstance X.m_bool (je_o (j_ix (o 1) (je_o je_int))))) (jw_or (t_v (j_isi hT_bool b_bool X.m_isinstance X.m_bool (je_o (j_ix (o 1) (je_o je_int))))) (jw_or1 (t_lt (je_o (j_ix (o 1) (je_o je_int))) (je_o je_int)))))) (jb_one (js_ret je_bl)) jb_nil)
    (jb_one (js_ret (je_eq B.c (je_o (cl D__law_cut B.c (by decide) (ac (j_ix (o 1) (je_o je_int)) (ac (j_ix (o 1) (je_o je_int)) ja_nil)))) (o 1))))))) (by decide)
theorem d__law_near
    (D__law_draw : DefG P w K mg base "_law_draw" ["well", "many"] 1 X.a__law_draw X.fd__law_draw (spD K X.CT 1 m__law_draw)) :
    DefG P w K mg base "_law_near" ["well", "p", "value"] 2 X.a__law_near X.fd__law_near (spD K X.CT 1 m__law_near) :=
  defG_of (CT := X.CT) (g := g__law_near) (nl := 1) (κ := 1) X.F__law_near sc__law_near X.M__law_near X.B__law_near rfl fun cdv A outer s H E wl S0 B => jb_le
    (jb_cons (ss B.c 3 (jn_e (jn_lst (ac (v 2) (ac je_non (ac je_bl (ac je_bl (ac (je_neg (je_o je_int)) (ac (v 1) (ac (jn_e (jn_lst (ac (v 2) ja_nil))) (ac (je_tup (ac (v 2) ja_nil)) (ac (je_tup (ac (v 2) (ac (v 2) ja_nil))) (ac je_str (ac je_int (ac (je_tup (ac je_int (ac je_int ja_nil))) (ac (je_tup (ac je_int (ac je_int ja_nil))) (ac (je_tup (ac je_int (ac (je_neg (je_o je_int)) ja_nil))) (ac (je_tup (ac je_int (ac je_int ja_nil))) (ac (je_tup (ac je_int (ac je_bl ja_nil))) ja_nil)))))))))))))))))))
    (jb_one (js_ret (j_ix (o 3) (je_o (cl D__law_draw B.c (by decide) (ac (v 0) (ac je_int ja_nil)))))))) (by decide)
theorem d__law_told
    (D_plus : DefG P w K mg base "plus" ["prime", "one", "other"] 13 X.a_plus X.fd_plus (spD K X.CT 0 m_plus))
    (D_times : DefG P w K mg base "times" ["prime", "one", "other"] 13 X.a_times X.fd_times (spD K X.CT 0 m_times))
    (D_negative : DefG P w K mg base "negative" ["prime", "scalar"] 12 X.a_negative X.fd_negative (spD K X.CT 0 m_negative))
    (D_inverse : DefG P w K mg base "inverse" ["prime", "scalar"] 12 X.a_inverse X.fd_inverse (spD K X.CT 0 m_inverse))
    (D_scalar_of : DefG P w K mg base "scalar_of" ["prime", "k"] 12 X.a_scalar_of X.fd_scalar_of (spD K X.CT 0 m_scalar_of)) :
    DefG P w K mg base "_law_told" ["way", "p", "one", "other"] 14 X.a__law_told X.fd__law_told (spD K X.CT 0 m__law_told) :=
  defG_of (CT := X.CT) (g := g__law_told) (nl := 4) (κ := 0) X.F__law_told sc__law_told X.M__law_told X.B__law_told rfl fun cdv A outer s H E wl S0 B => jb_le
    (jb_cons (ss B.c 4 je_non)
    (jb_cons (st_ 5 4 B.c rfl rfl rfl X.M_WebsError X.XM (fun W' pn' xe' C' B' => (jb_one (js_if (t_eq C' (o 0) (je_o je_int)) (jb_one (se (cl D_plus C' (by decide) (ac (v 1) (ac (v 2) (ac (v 3) ja_nil)))))) (jb_one (js_if (t_eq C' (o 0) (je_o je_int)) (jb_one (se (cl D_times C' (by decide) (ac (v 1) (ac (v 2) (ac (v 3) ja_nil)))))) (jb_one (js_if (t_eq C' (o 0) (je_o je_int)) (jb_one (se (cl D_negative C' (by decide) (ac (v 1) (ac (v 2) ja_nil))))) (jb_one (js_if (t_eq C' (o 0) (je_o je_int)) (jb_one (se (cl D_inverse C' (by decide) (ac (v 1) (ac (v 2) ja_nil))))) (jb_one (se (cl D_scalar_of C' (by decide) (ac (v 1) (ac je_int ja_nil)))))))))))))))
    (jb_cons (ss B.c 6 (jn_e (jn_lst (ac (j_isE X.m_isinstance X.ME_InvalidPrime X.KN_InvalidPrime X.IC X.KL_InvalidPrime (o 4)) (ac (j_isE X.m_isinstance X.ME_InvalidScalar X.KN_InvalidScalar X.IC X.KL_InvalidScalar (o 4)) (ac (j_isE X.m_isinstance X.ME_ZeroScalar X.KN_ZeroScalar X.IC X.KL_ZeroScalar (o 4)) ja_nil))))))
    (jb_one (js_ret (je_if (jt_isN (o 4)) je_non (je_tup (ac (jn_e (lc [("at", 7)] 100000 B.c (r1 X.m_range (oc (je_o je_int) jo_nil)) (fun s1 H1 q1 l1 p1 => (gn (Cok.blk B.c s1 H1 q1 l1 p1) 7)) (fun s1 H1 q1 l1 p1 => (jts_one (t_v (j_ix (o 6) (o 7))))) (fun s1 H1 q1 l1 p1 => (v 7)))) (ac (j_repr B.c rfl X.m_repr (oc (je_o (j_val X.EC (o 4))) jo_nil)) ja_nil))))))))) (by decide)
theorem d__law_refused
    (D__law_near : DefG P w K mg base "_law_near" ["well", "p", "value"] 2 X.a__law_near X.fd__law_near (spD K X.CT 1 m__law_near))
    (D__law_is_scalar : DefG P w K mg base "_law_is_scalar" ["p", "value"] 2 X.a__law_is_scalar X.fd__law_is_scalar (spD K X.CT 0 m__law_is_scalar))
    (D__law_draw : DefG P w K mg base "_law_draw" ["well", "many"] 1 X.a__law_draw X.fd__law_draw (spD K X.CT 1 m__law_draw))
    (D__law_told : DefG P w K mg base "_law_told" ["way", "p", "one", "other"] 14 X.a__law_told X.fd__law_told (spD K X.CT 0 m__law_told)) :
    DefG P w K mg base "_law_refused" ["well", "p", "one"] 15 X.a__law_refused X.fd__law_refused (spD K X.CT 2 m__law_refused) :=
  defG_of (CT := X.CT) (g := ((gSeq (gSet 3 (d2 gIx (dN2 (nLst (aCons (dC .none) (aCons (dC (.int 1)) (aCons (dC (.int 4)) (aCons (d1 gNeg (dC (.int 2))) (aCons (dC (.int 17)) (aCons (dC (.bool true)) (aCons (dTup (aCons (dC (.int 0)) aNil)) (aCons (dC (.str "2")) (aCons (dC (.bool false)) (aCons (dN2 (nLst (aCons (dC (.int 3)) aNil))) aNil)))))))))))) (dCall m__law_draw (aCons (dVar 0) (aCons (dC (.int 10)) aNil)))))
  (gSeq (gIfS (tVal (d2 gNe (dN2 (nLc 100000 (iRg rg1 (aCons (dC (.int 5)) aNil)) (gNm 5) tTrue (dCall m__law_told (aCons (dVar 5) (aCons (dVar 3) (aCons (dC .none) (aCons (dC .none) aNil))))) [5])) (d2 gMul (dN2 (nLst (aCons (dTup (aCons (dN2 (nLst (aCons (dC (.int 0)) aNil))) (aCons (dBi bRepr (aCons (dOwn 3) aNil)) aNil))) aNil))) (dC (.int 5))))) (gRet (dC (.bool false))) gNext)
  (gSeq (gSet 4 (dCall m__law_near (aCons (dVar 0) (aCons (dVar 1) (aCons (dVar 2) aNil)))))
  (gSeq (gIfS (tVal (dCall m__law_is_scalar (aCons (dVar 1) (aCons (dVar 4) aNil)))) (gRet (dC (.bool true))) gNext)
  (gSeq (gIfS (tVal (d2 gNe (dN2 (nLc 100000 (iRg rg1 (aCons (dC (.int 4)) aNil)) (gNm 5) tTrue (dCall m__law_told (aCons (dVar 5) (aCons (dVar 1) (aCons (dVar 4) (aCons (dC .none) aNil))))) [5])) (d2 gMul (dN2 (nLst (aCons (dTup (aCons (dN2 (nLst (aCons (dC (.int 1)) aNil))) (aCons (dBi bRepr (aCons (dOwn 4) aNil)) aNil))) aNil))) (dC (.int 4))))) (gRet (dC (.bool false))) gNext)
  (gRet (d2 gEq (dN2 (nLc 100000 (iSeq (dTup (aCons (dC (.int 0)) (aCons (dC (.int 1)) aNil)))) (gNm 5) tTrue (dCall m__law_told (aCons (dVar 5) (aCons (dVar 1) (aCons (dVar 2) (aCons (dVar 4) aNil))))) [5])) (d2 gMul (dN2 (nLst (aCons (dTup (aCons (dN2 (nLst (aCons (dC (.int 1)) aNil))) (aCons (dBi bRepr (aCons (dOwn 4) aNil)) aNil))) aNil))) (dC (.int 2)))))))))))) (nl := 3) (κ := 2) X.F__law_refused sc__law_refused X.M__law_refused X.B__law_refused rfl fun cdv A outer s H E wl S0 B => jb_le
    (jb_cons (ss B.c 3 (j_ix (je_o (jn_e (jn_lst (ac je_non (ac je_int (ac je_int (ac (je_neg (je_o je_int)) (ac je_int (ac je_bl (ac (je_tup (ac je_int ja_nil)) (ac je_str (ac je_bl (ac (jn_e (jn_lst (ac je_int ja_nil))) ja_nil))))))))))))) (je_o (cl D__law_draw B.c (by decide) (ac (v 0) (ac je_int ja_nil))))))
    (jb_cons (js_if (t_ne B.c (je_o (jn_e (lc [("way", 5)] 100000 B.c (r1 X.m_range (oc (je_o je_int) jo_nil)) (fun s1 H1 q1 l1 p1 => (gn (Cok.blk B.c s1 H1 q1 l1 p1) 5)) (fun s1 H1 q1 l1 p1 => jts_nil) (fun s1 H1 q1 l1 p1 => (cl D__law_told (Cok.blk B.c s1 H1 q1 l1 p1) (by decide) (ac (v 5) (ac (v 3) (ac je_non (ac je_non ja_nil))))))))) (je_o (je_mul (je_o (jn_e (jn_lst (ac (je_tup (ac (jn_e (jn_lst (ac je_int ja_nil))) (ac (j_repr B.c rfl X.m_repr (oc (o 3) jo_nil)) ja_nil))) ja_nil)))) (je_o je_int)))) (jb_one (js_ret je_bl)) jb_nil)
    (jb_cons (ss B.c 4 (cl D__law_near B.c (by decide) (ac (v 0) (ac (v 1) (ac (v 2) ja_nil)))))
    (jb_cons (js_if (t_v (cl D__law_is_scalar B.c (by decide) (ac (v 1) (ac (v 4) ja_nil)))) (jb_one (js_ret je_bl)) jb_nil)
    (jb_cons (js_if (t_ne B.c (je_o (jn_e (lc [("way", 5)] 100000 B.c (r1 X.m_range (oc (je_o je_int) jo_nil)) (fun s1 H1 q1 l1 p1 => (gn (Cok.blk B.c s1 H1 q1 l1 p1) 5)) (fun s1 H1 q1 l1 p1 => jts_nil) (fun s1 H1 q1 l1 p1 => (cl D__law_told (Cok.blk B.c s1 H1 q1 l1 p1) (by decide) (ac (v 5) (ac (v 1) (ac (v 4) (ac je_non ja_nil))))))))) (je_o (je_mul (je_o (jn_e (jn_lst (ac (je_tup (ac (jn_e (jn_lst (ac je_int ja_nil))) (ac (j_repr B.c rfl X.m_repr (oc (o 4) jo_nil)) ja_nil))) ja_nil)))) (je_o je_int)))) (jb_one (js_ret je_bl)) jb_nil)
    (jb_one (js_ret (je_eq B.c (je_o (jn_e (lc [("way", 5)] 100000 B.c (ji_seq (je_tup (ac je_int (ac je_int ja_nil)))) (fun s1 H1 q1 l1 p1 => (gn (Cok.blk B.c s1 H1 q1 l1 p1) 5)) (fun s1 H1 q1 l1 p1 => jts_nil) (fun s1 H1 q1 l1 p1 => (cl D__law_told (Cok.blk B.c s1 H1 q1 l1 p1) (by decide) (ac (v 5) (ac (v 1) (ac (v 2) (ac (v 4) ja_nil))))))))) (je_o (je_mul (je_o (jn_e (jn_lst (ac (je_tup (ac (jn_e (jn_lst (ac je_int ja_nil))) (ac (j_repr B.c rfl X.m_repr (oc (o 4) jo_nil)) ja_nil))) ja_nil)))) (je_o je_int))))))))))) (by decide)
theorem d__law_right
    (D__law_refused : DefG P w K mg base "_law_refused" ["well", "p", "one"] 15 X.a__law_refused X.fd__law_refused (spD K X.CT 2 m__law_refused))
    (D__law_draw : DefG P w K mg base "_law_draw" ["well", "many"] 1 X.a__law_draw X.fd__law_draw (spD K X.CT 1 m__law_draw))
    (D__law_great : DefG P w K mg base "_law_great" ["well", "p"] 2 X.a__law_great X.fd__law_great (spD K X.CT 4 m__law_great))
    (D__law_plus : DefG P w K mg base "_law_plus" ["p", "one", "other"] 2 X.a__law_plus X.fd__law_plus (spD K X.CT 0 m__law_plus))
    (D__law_times : DefG P w K mg base "_law_times" ["p", "one", "other"] 2 X.a__law_times X.fd__law_times (spD K X.CT 0 m__law_times))
    (D_plus : DefG P w K mg base "plus" ["prime", "one", "other"] 13 X.a_plus X.fd_plus (spD K X.CT 0 m_plus))
    (D_times : DefG P w K mg base "times" ["prime", "one", "other"] 13 X.a_times X.fd_times (spD K X.CT 0 m_times))
    (D__law_num : DefG P w K mg base "_law_num" ["p", "k"] 1 X.a__law_num X.fd__law_num (spD K X.CT 0 m__law_num))
    (D__law_near : DefG P w K mg base "_law_near" ["well", "p", "value"] 2 X.a__law_near X.fd__law_near (spD K X.CT 1 m__law_near))
    (D__law_is_scalar : DefG P w K mg base "_law_is_scalar" ["p", "value"] 2 X.a__law_is_scalar X.fd__law_is_scalar (spD K X.CT 0 m__law_is_scalar))
    (D__law_told : DefG P w K mg base "_law_told" ["way", "p", "one", "other"] 14 X.a__law_told X.fd__law_told (spD K X.CT 0 m__law_told))
    (D_negative : DefG P w K mg base "negative" ["prime", "scalar"] 12 X.a_negative X.fd_negative (spD K X.CT 0 m_negative))
    (D_scalar_of : DefG P w K mg base "scalar_of" ["prime", "k"] 12 X.a_scalar_of X.fd_scalar_of (spD K X.CT 0 m_scalar_of))
    (D_inverse : DefG P w K mg base "inverse" ["prime", "scalar"] 12 X.a_inverse X.fd_inverse (spD K X.CT 0 m_inverse))
    (D_is_scalar : DefG P w K mg base "is_scalar" ["prime", "value"] 12 X.a_is_scalar X.fd_is_scalar (spD K X.CT 0 m_is_scalar))
    (D__law_over : DefG P w K mg base "_law_over" ["p", "one"] 2 X.a__law_over X.fd__law_over (spD K X.CT 0 m__law_over)) :
    DefG P w K mg base "_law_right" ["well"] 16 X.a__law_right X.fd__law_right (spD K X.CT 80 m__law_right) :=
  defG_of (CT := X.CT) (g := ((gSeq (gSet 1 (d2 gIx (dN2 (nLst (aCons (dC (.int 0)) (aCons (dC (.int 2)) (aCons (dC (.int 3)) (aCons (dC (.int 5)) (aCons (dC (.int 7)) (aCons (dC (.int 11)) (aCons (dC (.int 13)) aNil))))))))) (dCall m__law_draw (aCons (dVar 0) (aCons (dC (.int 7)) aNil)))))
  (gSeq (gPar3 2 3 4 (aCons (dCall m__law_great (aCons (dVar 0) (aCons (dVar 1) aNil))) (aCons (dCall m__law_great (aCons (dVar 0) (aCons (dVar 1) aNil))) (aCons (dCall m__law_great (aCons (dVar 0) (aCons (dVar 1) aNil))) aNil))))
  (gSeq (gSet 5 (dN2 (nLst (aCons (dCall m__law_plus (aCons (dVar 1) (aCons (dVar 2) (aCons (dVar 3) aNil)))) (aCons (dCall m__law_times (aCons (dVar 1) (aCons (dVar 2) (aCons (dVar 3) aNil)))) (aCons (dCall m__law_times (aCons (dVar 1) (aCons (dVar 2) (aCons (dCall m__law_num (aCons (dVar 1) (aCons (d1 gNeg (dC (.int 1))) aNil))) aNil)))) aNil))))))
  (gSeq (gIfS (tVal (d2 gNe (dBi bRepr (aCons (dN2 (nLst (aCons (dCall m_plus (aCons (dVar 1) (aCons (dVar 2) (aCons (dVar 3) aNil)))) (aCons (dCall m_times (aCons (dVar 1) (aCons (dVar 2) (aCons (dVar 3) aNil)))) (aCons (dCall m_negative (aCons (dVar 1) (aCons (dVar 2) aNil))) aNil))))) aNil)) (dBi bRepr (aCons (dOwn 5) aNil)))) (gRet (dC (.bool false))) gNext)
  (gSeq (gIfS (tVal (d2 gNe (dBi bRepr (aCons (dN2 (nLst (aCons (dCallK m_plus px_210 aNil (aCons (dVar 3) (aCons (dVar 2) (aCons (dVar 1) aNil)))) (aCons (dCallK m_times px_102 aNil (aCons (dVar 2) (aCons (dVar 1) (aCons (dVar 3) aNil)))) (aCons (dCallK m_negative px_10 aNil (aCons (dVar 2) (aCons (dVar 1) aNil))) aNil))))) aNil)) (dBi bRepr (aCons (dOwn 5) aNil)))) (gRet (dC (.bool false))) gNext)
  (gSeq (gIfS (tVal (d2 gNe (dCall m_plus (aCons (dVar 1) (aCons (dVar 2) (aCons (dCall m_plus (aCons (dVar 1) (aCons (dVar 3) (aCons (dVar 4) aNil)))) aNil)))) (dCall m_plus (aCons (dVar 1) (aCons (dCall m_plus (aCons (dVar 1) (aCons (dVar 2) (aCons (dVar 3) aNil)))) (aCons (dVar 4) aNil)))))) (gRet (dC (.bool false))) gNext)
  (gSeq (gIfS (tVal (d2 gNe (dCall m_times (aCons (dVar 1) (aCons (dVar 2) (aCons (dCall m_plus (aCons (dVar 1) (aCons (dVar 3) (aCons (dVar 4) aNil)))) aNil)))) (dCall m_plus (aCons (dVar 1) (aCons (dCall m_times (aCons (dVar 1) (aCons (dVar 2) (aCons (dVar 3) aNil)))) (aCons (dCall m_times (aCons (dVar 1) (aCons (dVar 2) (aCons (dVar 4) aNil)))) aNil)))))) (gRet (dC (.bool false))) gNext)
  (gSeq (gSet 6 (d2 gIx (dN2 (nLst (aCons (dC (.int 0)) (aCons (dC (.int 1)) (aCons (d1 gNeg (dC (.int 1))) (aCons (dC (.int 5)) (aCons (d1 gNeg (dC (.int 8))) (aCons (d2 gPow (dC (.int 10)) (dC (.int 30))) (aCons (d2 gSub (d1 gNeg (d2 gPow (dC (.int 10)) (dC (.int 29)))) (dC (.int 3))) aNil))))))))) (dCall m__law_draw (aCons (dVar 0) (aCons (dC (.int 7)) aNil)))))
  (gSeq (gIfS (tVal (d2 gNe (dBi bRepr (aCons (dN2 (nLst (aCons (dCall m_scalar_of (aCons (dVar 1) (aCons (dVar 6) aNil))) (aCons (dCallK m_scalar_of px_10 aNil (aCons (dVar 6) (aCons (dVar 1) aNil))) aNil)))) aNil)) (dBi bRepr (aCons (d2 gMul (dN2 (nLst (aCons (dCall m__law_num (aCons (dVar 1) (aCons (dVar 6) aNil))) aNil))) (dC (.int 2))) aNil)))) (gRet (dC (.bool false))) gNext)
  (gSeq (gIfS (tVal (d2 gEq (dOwn 2) (dCall m__law_num (aCons (dVar 1) (aCons (dC (.int 0)) aNil))))) (gIfS (tVal (d2 gNe (dCall m__law_told (aCons (dC (.int 3)) (aCons (dVar 1) (aCons (dVar 2) (aCons (dC .none) aNil))))) (dTup (aCons (dN2 (nLst (aCons (dC (.int 2)) aNil))) (aCons (dBi bRepr (aCons (dOwn 2) aNil)) aNil))))) (gRet (dC (.bool false))) gNext) (gIfS (tOr' (tVal (d2 gNe (dBi bRepr (aCons (dN2 (nLst (aCons (dCall m_inverse (aCons (dVar 1) (aCons (dVar 2) aNil))) (aCons (dCallK m_inverse px_10 aNil (aCons (dVar 2) (aCons (dVar 1) aNil))) aNil)))) aNil)) (dBi bRepr (aCons (d2 gMul (dN2 (nLst (aCons (dCall m__law_over (aCons (dVar 1) (aCons (dVar 2) aNil))) aNil))) (dC (.int 2))) aNil)))) (tVal (d2 gNe (dCall m_times (aCons (dVar 1) (aCons (dVar 2) (aCons (dCall m_inverse (aCons (dVar 1) (aCons (dVar 2) aNil))) aNil)))) (dCall m__law_num (aCons (dVar 1) (aCons (dC (.int 1)) aNil)))))) (gRet (dC (.bool false))) gNext))
  (gSeq (gFor 64 (iRg rg1 (aCons (dC (.int 4)) aNil)) (gNm 7) (gSeq (gSet 8 (dCall m__law_near (aCons (dVar 0) (aCons (dVar 1) (aCons (dVar 3) aNil)))))
  (gSeq (gSet 5 (dCall m__law_is_scalar (aCons (dVar 1) (aCons (dVar 8) aNil))))
  (gIfS (tVal (d2 gNe (dBi bRepr (aCons (dN2 (nLst (aCons (dCall m_is_scalar (aCons (dVar 1) (aCons (dVar 8) aNil))) (aCons (dCallK m_is_scalar px_10 aNil (aCons (dVar 8) (aCons (dVar 1) aNil))) aNil)))) aNil)) (dBi bRepr (aCons (dN2 (nLst (aCons (dVar 5) (aCons (dVar 5) aNil)))) aNil)))) (gRet (dC (.bool false))) gNext))))
  (gRet (dCall m__law_refused (aCons (dVar 0) (aCons (dVar 1) (aCons (dVar 2) aNil)))))))))))))))))) (nl := 8) (κ := 80) X.F__law_right sc__law_right X.M__law_right X.B__law_right rfl fun cdv A outer s H E wl S0 B => jb_le
    (jb_cons (ss B.c 1 (j_ix (je_o (jn_e (jn_lst (ac je_int (ac je_int (ac je_int (ac je_int (ac je_int (ac je_int (ac je_int ja_nil)))))))))) (je_o (cl D__law_draw B.c (by decide) (ac (v 0) (ac je_int ja_nil))))))
    (jb_cons (sp3 B.c 2 3 4 (ac (cl D__law_great B.c (by decide) (ac (v 0) (ac (v 1) ja_nil))) (ac (cl D__law_great B.c (by decide) (ac (v 0) (ac (v 1) ja_nil))) (ac (cl D__law_great B.c (by decide) (ac (v 0) (ac (v 1) ja_nil))) ja_nil))))
    (jb_cons (ss B.c 5 (jn_e (jn_lst (ac (cl D__law_plus B.c (by decide) (ac (v 1) (ac (v 2) (ac (v 3) ja_nil)))) (ac (cl D__law_times B.c (by decide) (ac (v 1) (ac (v 2) (ac (v 3) ja_nil)))) (ac (cl D__law_times B.c (by decide) (ac (v 1) (ac (v 2) (ac (cl D__law_num B.c (by decide) (ac (v 1) (ac (je_neg (je_o je_int)) ja_nil))) ja_nil)))) ja_nil))))))
    (jb_cons (js_if (t_ne B.c (je_o (j_repr B.c rfl X.m_repr (oc (je_o (jn_e (jn_lst (ac (cl D_plus B.c (by decide) (ac (v 1) (ac (v 2) (ac (v 3) ja_nil)))) (ac (cl D_times B.c (by decide) (ac (v 1) (ac (v 2) (ac (v 3) ja_nil)))) (ac (cl D_negative B.c (by decide) (ac (v 1) (ac (v 2) ja_nil))) ja_nil)))))) jo_nil))) (je_o (j_repr B.c rfl X.m_repr (oc (o 5) jo_nil)))) (jb_one (js_ret je_bl)) jb_nil)
    (jb_cons (js_if (t_ne B.c (je_o (j_repr B.c rfl X.m_repr (oc (je_o (jn_e (jn_lst (ac (clk D_plus B.c (by decide) X.K_plus_210 (pd_210) (jk_cons (v 3) (jk_cons (v 2) (jk_cons (v 1) jk_nil)))) (ac (clk D_times B.c (by decide) X.K_times_102 (pd_102) (jk_cons (v 2) (jk_cons (v 1) (jk_cons (v 3) jk_nil)))) (ac (clk D_negative B.c (by decide) X.K_negative_10 (pd_10) (jk_cons (v 2) (jk_cons (v 1) jk_nil))) ja_nil)))))) jo_nil))) (je_o (j_repr B.c rfl X.m_repr (oc (o 5) jo_nil)))) (jb_one (js_ret je_bl)) jb_nil)
    (jb_cons (js_if (t_ne B.c (je_o (cl D_plus B.c (by decide) (ac (v 1) (ac (v 2) (ac (cl D_plus B.c (by decide) (ac (v 1) (ac (v 3) (ac (v 4) ja_nil)))) ja_nil))))) (je_o (cl D_plus B.c (by decide) (ac (v 1) (ac (cl D_plus B.c (by decide) (ac (v 1) (ac (v 2) (ac (v 3) ja_nil)))) (ac (v 4) ja_nil)))))) (jb_one (js_ret je_bl)) jb_nil)
    (jb_cons (js_if (t_ne B.c (je_o (cl D_times B.c (by decide) (ac (v 1) (ac (v 2) (ac (cl D_plus B.c (by decide) (ac (v 1) (ac (v 3) (ac (v 4) ja_nil)))) ja_nil))))) (je_o (cl D_plus B.c (by decide) (ac (v 1) (ac (cl D_times B.c (by decide) (ac (v 1) (ac (v 2) (ac (v 3) ja_nil)))) (ac (cl D_times B.c (by decide) (ac (v 1) (ac (v 2) (ac (v 4) ja_nil)))) ja_nil)))))) (jb_one (js_ret je_bl)) jb_nil)
    (jb_cons (ss B.c 6 (j_ix (je_o (jn_e (jn_lst (ac je_int (ac je_int (ac (je_neg (je_o je_int)) (ac je_int (ac (je_neg (je_o je_int)) (ac (je_pow (je_o je_int) (je_o je_int)) (ac (je_sub (je_o (je_neg (je_o (je_pow (je_o je_int) (je_o je_int))))) (je_o je_int)) ja_nil)))))))))) (je_o (cl D__law_draw B.c (by decide) (ac (v 0) (ac je_int ja_nil))))))
    (jb_cons (js_if (t_ne B.c (je_o (j_repr B.c rfl X.m_repr (oc (je_o (jn_e (jn_lst (ac (cl D_scalar_of B.c (by decide) (ac (v 1) (ac (v 6) ja_nil))) (ac (clk D_scalar_of B.c (by decide) X.K_scalar_of_10 (pd_10) (jk_cons (v 6) (jk_cons (v 1) jk_nil))) ja_nil))))) jo_nil))) (je_o (j_repr B.c rfl X.m_repr (oc (je_o (je_mul (je_o (jn_e (jn_lst (ac (cl D__law_num B.c (by decide) (ac (v 1) (ac (v 6) ja_nil))) ja_nil)))) (je_o je_int))) jo_nil)))) (jb_one (js_ret je_bl)) jb_nil)
    (jb_cons (js_if (t_eq B.c (o 2) (je_o (cl D__law_num B.c (by decide) (ac (v 1) (ac je_int ja_nil))))) (jb_one (js_if (t_ne B.c (je_o (cl D__law_told B.c (by decide) (ac je_int (ac (v 1) (ac (v 2) (ac je_non ja_nil)))))) (je_o (je_tup (ac (jn_e (jn_lst (ac je_int ja_nil))) (ac (j_repr B.c rfl X.m_repr (oc (o 2) jo_nil)) ja_nil))))) (jb_one (js_ret je_bl)) jb_nil)) (jb_one (js_if (jw_pt (jw_or (t_ne B.c (je_o (j_repr B.c rfl X.m_repr (oc (je_o (jn_e (jn_lst (ac (cl D_inverse B.c (by decide) (ac (v 1) (ac (v 2) ja_nil))) (ac (clk D_inverse B.c (by decide) X.K_inverse_10 (pd_10) (jk_cons (v 2) (jk_cons (v 1) jk_nil))) ja_nil))))) jo_nil))) (je_o (j_repr B.c rfl X.m_repr (oc (je_o (je_mul (je_o (jn_e (jn_lst (ac (cl D__law_over B.c (by decide) (ac (v 1) (ac (v 2) ja_nil))) ja_nil)))) (je_o je_int))) jo_nil)))) (jw_or1 (t_ne B.c (je_o (cl D_times B.c (by decide) (ac (v 1) (ac (v 2) (ac (cl D_inverse B.c (by decide) (ac (v 1) (ac (v 2) ja_nil))) ja_nil))))) (je_o (cl D__law_num B.c (by decide) (ac (v 1) (ac je_int ja_nil)))))))) (jb_one (js_ret je_bl)) jb_nil)))
    (jb_cons (sf 64 B (r1 X.m_range (oc (je_o je_int) jo_nil)) (gn B.c 7) (jb_cons (ss B.c 8 (cl D__law_near B.c (by decide) (ac (v 0) (ac (v 1) (ac (v 3) ja_nil)))))
    (jb_cons (ss B.c 5 (cl D__law_is_scalar B.c (by decide) (ac (v 1) (ac (v 8) ja_nil))))
    (jb_one (js_if (t_ne B.c (je_o (j_repr B.c rfl X.m_repr (oc (je_o (jn_e (jn_lst (ac (cl D_is_scalar B.c (by decide) (ac (v 1) (ac (v 8) ja_nil))) (ac (clk D_is_scalar B.c (by decide) X.K_is_scalar_10 (pd_10) (jk_cons (v 8) (jk_cons (v 1) jk_nil))) ja_nil))))) jo_nil))) (je_o (j_repr B.c rfl X.m_repr (oc (je_o (jn_e (jn_lst (ac (v 5) (ac (v 5) ja_nil))))) jo_nil)))) (jb_one (js_ret je_bl)) jb_nil)))))
    (jb_one (js_ret (cl D__law_refused B.c (by decide) (ac (v 0) (ac (v 1) (ac (v 2) ja_nil))))))))))))))))) (by decide)
theorem d_law
    (D__law_well : DefW P w K mg base "_law_well" ["script", "k"] 1 X.a__law_well X.fd__law_well)
    (D__law_right : DefG P w K mg base "_law_right" ["well"] 16 X.a__law_right X.fd__law_right (spD K X.CT 80 m__law_right))
    (HR : RightFn m__law_right) :
    DefG P w K mg base "law" ["script"] 17 X.a_law X.fd_law (spD K X.CT 0 m_law) :=
  defG_of (CT := X.CT) (g := g_law) (nl := 3) (κ := 0) X.F_law sc_law X.M_law X.B_law rfl fun cdv A outer s H E wl S0 B => jb_le
    (jb_cons (sf 100000 B (r1 X.m_range (oc (je_o (j_max B.c rfl X.m_max (oc (je_o je_int) (oc (je_o (j_min B.c rfl X.m_min (oc (je_o je_int) (oc (je_o (j_len rfl X.m_len (oc (o 0) jo_nil))) jo_nil)))) jo_nil)))) jo_nil)) (gn B.c 1) (jb_cons (sn B.c 2 (jn_callW D__law_well B.c (by decide) (ac (v 0) (ac (v 1) ja_nil))))
    (jb_one (sf 100000 B (r1 X.m_range (oc (je_o je_int) jo_nil)) (gn B.c 3) (jb_one (js_right 2 D__law_right B.c (by decide) HR))))))
    (jb_one (js_ret je_bl))) (by decide)
end
end Law
namespace Law
open PySem PySem.Spec PyProof.Rows L2 Wb
theorem ev_draw : DrawLaw 3 g__law_draw := by
  intro m a b c many hW h0 h1
  obtain ⟨w1, w2, w3, w4, w5, w6⟩ := hW
  have p29 : ((10 : Int) ^ Int.toNat 29 + 319) = 100000000000000000000000000319 := by decide +kernel
  have p31 : ((10 : Int) ^ Int.toNat 31 + 33) = 10000000000000000000000000000033 := by decide +kernel
  have p33 : ((10 : Int) ^ Int.toNat 33 + 603) = 1000000000000000000000000000000603 := by decide +kernel
  simp only [g__law_draw, gSeq, gIfS, gRet, gSet, gSetN, gSetIx, gDrop, gRaise, gNext, gApp, gFrz, gTry, gAsg, gFor, gRight, nCallW, zSeq, zRet, dVar, dOwn, dC, d2, d1, dN2, aNil, aCons, dTup, nLst, dCall, dBi, tVal, tNot', tAnd', tOr', dAnd, dOr, dNot, dIf, dChain, dCallK, iRg, iSeq, nLc, tTrue, gNm, wipeD, e_onD, e_onB, e_onI, e_slV, e_slO, e_slOo, e_slOw, e_gI, e_gI0, e_add, e_mul, e_mulL, e_neg, e_ixL, e_ixT, e_ixS, e_isi, e_isN, e_notN, e_isNe, e_isNi, e_isNb, e_isNl, e_isNt, e_isNs, e_lenL, e_lenT, e_lenS, e_abs, e_int, e_intB, e_max, e_min, e_gcd, e_tupL, e_tupT, e_repr, e_sum, e_all, e_any, e_allN, e_allC, e_seqL, e_seqT, e_seqS, e_rg1, e_rg2, e_excN, e_excE, e_val, e_at0, e_at1, e_at2, e_get0, e_get1, e_get2, e_get3, e_get4, e_get5, e_get6, e_get7, e_set0, e_set1, e_set2, e_set3, e_set4, e_set5, e_set6, e_set7, e_ixn0, e_ixn1, e_ixn2, e_ex, List.replicate, List.cons_append, List.nil_append, List.map, fnB, p29, p31, p33]
  split
  · rename_i ha
    have ha : 0 < a := of_decide_eq_true ha
    have f1 := fdiv_nn w1 h0
    have f2 := fdiv_le w1 h0
    refine ⟨by omega, fdivOk h0 h1, _, _, _, _, rfl, ⟨f1, w2, w3, ?_, w5, by omega⟩, rfl, fmod_nn h0, fmod_lt h0⟩
    have : (a.fdiv many).natAbs ≤ a.natAbs := by omega
    exact Nat.lt_of_le_of_lt this w4
  · have mc : MB 61 (c + 1) := MB.of (by omega) (by omega)
    have mb : MB 200 b := w5
    have mb31 : MB 201 (b + 31) := mb.add (MB.le (a := 5) (by unfold MB; decide) (by decide))
    have mc5 : MB 62 (c + 1 + 5) := mc.add (MB.le (a := 3) (by unfold MB; decide) (by decide))
    have k1 : MB 30 998244353 := by unfold MB; decide
    have k2 : MB 30 424242427 := by unfold MB; decide
    have k7 : MB 3 7 := by unfold MB; decide
    have m1 := fmod_nn (i := (b + 31) * (c + 1 + 5) * 998244353 + (c + 1) * (c + 1) * (c + 1) * 424242427 + 77) (j := 100000000000000000000000000319) (by decide)
    have m1' := fmod_lt (i := (b + 31) * (c + 1 + 5) * 998244353 + (c + 1) * (c + 1) * (c + 1) * 424242427 + 77) (j := 100000000000000000000000000319) (by decide)
    refine ⟨mb31.ok mc5 (by decide), (mb31.mul mc5).ok k1 (by decide), mc.ok mc (by decide), (mc.mul mc).ok mc (by decide), ((mc.mul mc).mul mc).ok k2 (by decide), ⟨by decide, by decide, by decide⟩, by decide, ?_⟩
    generalize ((b + 31) * (c + 1 + 5) * 998244353 + (c + 1) * (c + 1) * (c + 1) * 424242427 + 77).fmod 100000000000000000000000000319 = M1 at m1 m1' ⊢
    have b1 : MB 120 M1 := MB.of m1 (by omega)
    have m2 := fmod_nn (i := M1 * M1 + b * 7 + (c + 1)) (j := 10000000000000000000000000000033) (by decide)
    have m2' := fmod_lt (i := M1 * M1 + b * 7 + (c + 1)) (j := 10000000000000000000000000000033) (by decide)
    refine ⟨b1.ok b1 (by decide), mb.ok k7 (by decide), ⟨by decide, by decide, by decide⟩, by decide, ?_⟩
    generalize (M1 * M1 + b * 7 + (c + 1)).fmod 10000000000000000000000000000033 = M2 at m2 m2' ⊢
    have b2 : MB 120 M2 := MB.of m2 (by omega)
    refine ⟨b2.ok b2 (by decide), (b2.mul b2).ok (MB.le (a := 2) (by unfold MB; decide) (by decide) : MB 4 3) (by decide), b2.ok (by unfold MB; decide : MB 4 11) (by decide), ⟨by decide, by decide, by decide⟩, by decide, fdivOk (by decide) (by decide), by omega, ?_⟩
    exact ⟨_, _, _, _, rfl, ⟨w1, w2, by omega, w4, w5, by omega⟩, rfl, fmod_nn h0, fmod_lt h0⟩

theorem rng_nonneg {j : Int} {x : PD} (h : x ∈ rngD 0 j) : ∃ k : Int, x = .int k ∧ 0 ≤ k ∧ k < j := by
  unfold rngD at h
  simp only [List.mem_map, List.mem_range] at h
  obtain ⟨i, hi, rfl⟩ := h
  exact ⟨0 + (i : Int), rfl, by omega, by omega⟩
/-- the inner walk: the well is lent at each turn -/
theorem turns {D : DEnds} {s0 s1 : Sl} {m : Nat} (hnx : ∀ s2 s3, D.nx [s0, s1, s2, s3]) : ∀ (xs : List PD) (s3 : Sl) (a b c : Int), WOk (m + xs.length * 80) a b c → loopD (gNm 3) (gRight 80 2) D xs [s0, s1, .own [.int a, .int b, .int c], s3]
  | [], s3, a, b, c, h => by
    unfold loopD
    exact hnx _ _
  | x :: xs, s3, a, b, c, h => by
    unfold loopD
    simp only [gSeq, gIfS, gRet, gSet, gSetN, gSetIx, gDrop, gRaise, gNext, gApp, gFrz, gTry, gAsg, gFor, gRight, nCallW, zSeq, zRet, dVar, dOwn, dC, d2, d1, dN2, aNil, aCons, dTup, nLst, dCall, dBi, tVal, tNot', tAnd', tOr', dAnd, dOr, dNot, dIf, dChain, dCallK, iRg, iSeq, nLc, tTrue, gNm, wipeD, e_onD, e_onB, e_onI, e_slV, e_slO, e_slOo, e_slOw, e_gI, e_gI0, e_add, e_mul, e_mulL, e_neg, e_ixL, e_ixT, e_ixS, e_isi, e_isN, e_notN, e_isNe, e_isNi, e_isNb, e_isNl, e_isNt, e_isNs, e_lenL, e_lenT, e_lenS, e_abs, e_int, e_intB, e_max, e_min, e_gcd, e_tupL, e_tupT, e_repr, e_sum, e_all, e_any, e_allN, e_allC, e_seqL, e_seqT, e_seqS, e_rg1, e_rg2, e_excN, e_excE, e_val, e_at0, e_at1, e_at2, e_get0, e_get1, e_get2, e_get3, e_get4, e_get5, e_get6, e_get7, e_set0, e_set1, e_set2, e_set3, e_set4, e_set5, e_set6, e_set7, e_ixn0, e_ixn1, e_ixn2, e_ex, List.replicate, List.cons_append, List.nil_append, List.map, fnB]
    refine ⟨a, b, c, m + xs.length * 80, rfl, h.le ?_, fun a b c h => turns hnx xs _ a b c h⟩
    rw [List.length_cons, Nat.add_mul]
    omega
theorem outer {D : DEnds} {ns : List Int} (hl : ns.length ≤ 63) (hz : ∀ z ∈ ns, z.natAbs < 2 ^ 1100000) (hnx : ∀ s1 s2 s3, D.nx [.v (.scr ns), s1, s2, s3]) : ∀ (xs : List PD) (s1 s2 s3 : Sl), (∀ x ∈ xs, ∃ k : Int, x = .int k ∧ 0 ≤ k ∧ k < 3) →
    loopD (gNm 1) (gSeq (gSetN 2 (nCallW (aCons (dVar 0) (aCons (dVar 1) aNil)))) (gFor 100000 (iRg rg1 (aCons (dC (.int 6)) aNil)) (gNm 3) (gRight 80 2))) D xs [.v (.scr ns), s1, s2, s3]
  | [], s1, s2, s3, _ => by
    unfold loopD
    exact hnx _ _ _
  | x :: xs, s1, s2, s3, h => by
    obtain ⟨k, rfl, h0, h1⟩ := h x (by simp)
    unfold loopD
    simp only [gSeq, gIfS, gRet, gSet, gSetN, gSetIx, gDrop, gRaise, gNext, gApp, gFrz, gTry, gAsg, gFor, gRight, nCallW, zSeq, zRet, dVar, dOwn, dC, d2, d1, dN2, aNil, aCons, dTup, nLst, dCall, dBi, tVal, tNot', tAnd', tOr', dAnd, dOr, dNot, dIf, dChain, dCallK, iRg, iSeq, nLc, tTrue, gNm, wipeD, e_onD, e_onB, e_onI, e_slV, e_slO, e_slOo, e_slOw, e_gI, e_gI0, e_add, e_mul, e_mulL, e_neg, e_ixL, e_ixT, e_ixS, e_isi, e_isN, e_notN, e_isNe, e_isNi, e_isNb, e_isNl, e_isNt, e_isNs, e_lenL, e_lenT, e_lenS, e_abs, e_int, e_intB, e_max, e_min, e_gcd, e_tupL, e_tupT, e_repr, e_sum, e_all, e_any, e_allN, e_allC, e_seqL, e_seqT, e_seqS, e_rg1, e_rg2, e_excN, e_excE, e_val, e_at0, e_at1, e_at2, e_get0, e_get1, e_get2, e_get3, e_get4, e_get5, e_get6, e_get7, e_set0, e_set1, e_set2, e_set3, e_set4, e_set5, e_set6, e_set7, e_ixn0, e_ixn1, e_ixn2, e_ex, List.replicate, List.cons_append, List.nil_append, List.map, fnB]
    refine ⟨ns, k, rfl, ⟨h0, by omega, by omega, hz⟩, fun a b c hW => ⟨⟨by decide, by decide⟩, by rw [rngD_len]; decide, turns (m := 0) (fun s2 s3 => outer hl hz hnx xs _ s2 s3 fun y hy => h y (by simp [hy])) _ _ a b c (hW.le ?_)⟩⟩
    rw [rngD_len]
    decide
theorem ev_law : LawFn 63 m_law := by
  intro ns R hl hz hR
  refine ⟨rfl, ?_⟩
  simp only [g_law, gSeq, gIfS, gRet, gSet, gSetN, gSetIx, gDrop, gRaise, gNext, gApp, gFrz, gTry, gAsg, gFor, gRight, nCallW, zSeq, zRet, dVar, dOwn, dC, d2, d1, dN2, aNil, aCons, dTup, nLst, dCall, dBi, tVal, tNot', tAnd', tOr', dAnd, dOr, dNot, dIf, dChain, dCallK, iRg, iSeq, nLc, tTrue, gNm, wipeD, e_onD, e_onB, e_onI, e_slV, e_slO, e_slOo, e_slOw, e_gI, e_gI0, e_add, e_mul, e_mulL, e_neg, e_ixL, e_ixT, e_ixS, e_isi, e_isN, e_notN, e_isNe, e_isNi, e_isNb, e_isNl, e_isNt, e_isNs, e_lenL, e_lenT, e_lenS, e_abs, e_int, e_intB, e_max, e_min, e_gcd, e_tupL, e_tupT, e_repr, e_sum, e_all, e_any, e_allN, e_allC, e_seqL, e_seqT, e_seqS, e_rg1, e_rg2, e_excN, e_excE, e_val, e_at0, e_at1, e_at2, e_get0, e_get1, e_get2, e_get3, e_get4, e_get5, e_get6, e_get7, e_set0, e_set1, e_set2, e_set3, e_set4, e_set5, e_set6, e_set7, e_ixn0, e_ixn1, e_ixn2, e_ex, List.replicate, List.cons_append, List.nil_append, List.map, fnB]
  refine ⟨?_, ?_, outer hl hz (fun _ _ _ => ?_) _ _ _ _ fun x hx => ?_⟩
  · unfold RgB; split <;> split <;> omega
  · rw [rngD_len]; split <;> split <;> omega
  · simp only [gSeq, gIfS, gRet, gSet, gSetN, gSetIx, gDrop, gRaise, gNext, gApp, gFrz, gTry, gAsg, gFor, gRight, nCallW, zSeq, zRet, dVar, dOwn, dC, d2, d1, dN2, aNil, aCons, dTup, nLst, dCall, dBi, tVal, tNot', tAnd', tOr', dAnd, dOr, dNot, dIf, dChain, dCallK, iRg, iSeq, nLc, tTrue, gNm, wipeD, e_onD, e_onB, e_onI, e_slV, e_slO, e_slOo, e_slOw, e_gI, e_gI0, e_add, e_mul, e_mulL, e_neg, e_ixL, e_ixT, e_ixS, e_isi, e_isN, e_notN, e_isNe, e_isNi, e_isNb, e_isNl, e_isNt, e_isNs, e_lenL, e_lenT, e_lenS, e_abs, e_int, e_intB, e_max, e_min, e_gcd, e_tupL, e_tupT, e_repr, e_sum, e_all, e_any, e_allN, e_allC, e_seqL, e_seqT, e_seqS, e_rg1, e_rg2, e_excN, e_excE, e_val, e_at0, e_at1, e_at2, e_get0, e_get1, e_get2, e_get3, e_get4, e_get5, e_get6, e_get7, e_set0, e_set1, e_set2, e_set3, e_set4, e_set5, e_set6, e_set7, e_ixn0, e_ixn1, e_ixn2, e_ex, List.replicate, List.cons_append, List.nil_append, List.map, fnB]
    exact hR
  · obtain ⟨k, rfl, h0, h1⟩ := rng_nonneg hx
    refine ⟨k, rfl, h0, ?_⟩
    revert h1
    split <;> split <;> omega

theorem cpow10 {n : Int} (h0 : 0 ≤ n) (h : n ≤ 1000) : CPow 10 n := ⟨h0, by omega, by decide⟩
theorem well_loop {b0 : Int} {D : DEnds} {v0 v1 v2 v5 : Sl} (hnx : ∀ wh x, 0 ≤ wh → wh < 10 ^ 25 + 13 → D.nx [v0, v1, v2, .v (.d (.int wh)), x, v5]) : ∀ (ns : List Int) (wh : Int) (x : Sl), 0 ≤ wh → wh < 10 ^ 25 + 13 →
    loopD (gNm 4) (gSet 3 (d2 gMod (dBi bInt (aCons (d2 gAdd (d2 gMul (dOwn 3) (dC (.int 5323))) (d2 gMod (dBi bInt (aCons (dOwn 4) aNil)) (d2 gAdd (d2 gPow (dC (.int 10)) (dC (.int 19))) (dC (.int 51))))) aNil)) (d2 gAdd (d2 gPow (dC (.int 10)) (dC (.int 25))) (dC (.int 13)))) ) D (ns.map .int) [v0, v1, v2, .v (.d (.int wh)), x, v5]
  | [], wh, x, h0, h1 => by
    unfold loopD
    exact hnx wh x h0 h1
  | z :: ns, wh, x, h0, h1 => by
    have p25 : ((10 : Int) ^ Int.toNat 25 + 13) = 10000000000000000000000013 := by decide +kernel
    have q25 : ((10 : Int) ^ 25 + 13) = 10000000000000000000000013 := by decide +kernel
    rw [q25] at h1
    unfold loopD
    simp only [gSeq, gIfS, gRet, gSet, gSetN, gSetIx, gDrop, gRaise, gNext, gApp, gFrz, gTry, gAsg, gFor, gRight, nCallW, zSeq, zRet, dVar, dOwn, dC, d2, d1, dN2, aNil, aCons, dTup, nLst, dCall, dBi, tVal, tNot', tAnd', tOr', dAnd, dOr, dNot, dIf, dChain, dCallK, iRg, iSeq, nLc, tTrue, gNm, wipeD, e_onD, e_onB, e_onI, e_slV, e_slO, e_slOo, e_slOw, e_gI, e_gI0, e_add, e_mul, e_mulL, e_neg, e_ixL, e_ixT, e_ixS, e_isi, e_isN, e_notN, e_isNe, e_isNi, e_isNb, e_isNl, e_isNt, e_isNs, e_lenL, e_lenT, e_lenS, e_abs, e_int, e_intB, e_max, e_min, e_gcd, e_tupL, e_tupT, e_repr, e_sum, e_all, e_any, e_allN, e_allC, e_seqL, e_seqT, e_seqS, e_rg1, e_rg2, e_excN, e_excE, e_val, e_at0, e_at1, e_at2, e_get0, e_get1, e_get2, e_get3, e_get4, e_get5, e_get6, e_get7, e_set0, e_set1, e_set2, e_set3, e_set4, e_set5, e_set6, e_set7, e_ixn0, e_ixn1, e_ixn2, e_ex, List.replicate, List.cons_append, List.nil_append, List.map, fnB, p25]
    refine ⟨⟨100, 13, (MB.of h0 (by omega) : MB 100 wh), by decide, by decide⟩, cpow10 (by decide) (by decide), by decide, cpow10 (by decide) (by decide), by decide, ?_⟩
    exact well_loop (b0 := b0) hnx ns _ _ (fmod_nn (by decide)) (by rw [q25]; exact fmod_lt (by decide))
theorem atI_of {ns : List Int} {k : Int} (h0 : 0 ≤ k) (h : k < ns.length) : ∃ y, atI ns k = some y ∧ y ∈ ns := by
  have hk : k.toNat < ns.length := by omega
  refine ⟨ns[k.toNat], ?_, List.getElem_mem hk⟩
  unfold atI ixN
  rw [if_pos h0, if_pos h]
  exact List.getElem?_eq_getElem hk
theorem ev_well : WellLaw 4 g__law_well := by
  rintro ns k ⟨hk0, hk1, hl, hz⟩
  have p28 : ((10 : Int) ^ Int.toNat 28 + 331) = 10000000000000000000000000331 := by decide +kernel
  have p18 : ((10 : Int) ^ Int.toNat 18) = 1000000000000000000 := by decide +kernel
  have p25 : ((10 : Int) ^ 25 + 13) = 10000000000000000000000013 := by decide +kernel
  have mk : MB 30 k := MB.of hk0 (by omega)
  simp only [g__law_well, gSeq, gIfS, gRet, gSet, gSetN, gSetIx, gDrop, gRaise, gNext, gApp, gFrz, gTry, gAsg, gFor, gRight, nCallW, zSeq, zRet, dVar, dOwn, dC, d2, d1, dN2, aNil, aCons, dTup, nLst, dCall, dBi, tVal, tNot', tAnd', tOr', dAnd, dOr, dNot, dIf, dChain, dCallK, iRg, iSeq, nLc, tTrue, gNm, wipeD, e_onD, e_onB, e_onI, e_slV, e_slO, e_slOo, e_slOw, e_gI, e_gI0, e_add, e_mul, e_mulL, e_neg, e_ixL, e_ixT, e_ixS, e_isi, e_isN, e_notN, e_isNe, e_isNi, e_isNb, e_isNl, e_isNt, e_isNs, e_lenL, e_lenT, e_lenS, e_abs, e_int, e_intB, e_max, e_min, e_gcd, e_tupL, e_tupT, e_repr, e_sum, e_all, e_any, e_allN, e_allC, e_seqL, e_seqT, e_seqS, e_rg1, e_rg2, e_excN, e_excE, e_val, e_at0, e_at1, e_at2, e_get0, e_get1, e_get2, e_get3, e_get4, e_get5, e_get6, e_get7, e_set0, e_set1, e_set2, e_set3, e_set4, e_set5, e_set6, e_set7, e_ixn0, e_ixn1, e_ixn2, e_ex, List.replicate, List.cons_append, List.nil_append, List.map, fnB]
  split
  case' isTrue =>
    obtain ⟨y, hy, hm⟩ := atI_of (ns := ns) hk0 (of_decide_eq_true (by assumption))
    refine ⟨y, hy, ?_⟩
    have hc : MB 1150000 y := MB.le (hz y hm) (by decide)
    generalize y = c at hc ⊢
  case' isFalse =>
    refine ⟨MB.ok (MB.le (a := 20) (by unfold MB; decide) (Nat.le_refl _)) mk (by decide), ?_⟩
    have hc : MB 1150000 (73 * k + 43) := MB.le (MB.add (MB.le (MB.mul (a := 20) (by unfold MB; decide) mk) (Nat.le_refl _)) (MB.le (a := 20) (by unfold MB; decide) (by decide))) (by decide)
    generalize (73 * k + 43) = c at hc ⊢
  all_goals
    refine ⟨by simpa using hl, well_loop (b0 := 0) ?_ ns _ _ (by omega) (by omega)⟩
    intro wh x h0 h1
    rw [p25] at h1
    have mw : MB 100 wh := MB.of h0 (by omega)
    have mc : MB 1150000 ((c.natAbs : Nat) : Int) := by
      unfold MB at hc ⊢
      rw [Int.natAbs_natCast]
      exact hc
    simp only [gSeq, gIfS, gRet, gSet, gSetN, gSetIx, gDrop, gRaise, gNext, gApp, gFrz, gTry, gAsg, gFor, gRight, nCallW, zSeq, zRet, dVar, dOwn, dC, d2, d1, dN2, aNil, aCons, dTup, nLst, dCall, dBi, tVal, tNot', tAnd', tOr', dAnd, dOr, dNot, dIf, dChain, dCallK, iRg, iSeq, nLc, tTrue, gNm, wipeD, e_onD, e_onB, e_onI, e_slV, e_slO, e_slOo, e_slOw, e_gI, e_gI0, e_add, e_mul, e_mulL, e_neg, e_ixL, e_ixT, e_ixS, e_isi, e_isN, e_notN, e_isNe, e_isNi, e_isNb, e_isNl, e_isNt, e_isNs, e_lenL, e_lenT, e_lenS, e_abs, e_int, e_intB, e_max, e_min, e_gcd, e_tupL, e_tupT, e_repr, e_sum, e_all, e_any, e_allN, e_allC, e_seqL, e_seqT, e_seqS, e_rg1, e_rg2, e_excN, e_excE, e_val, e_at0, e_at1, e_at2, e_get0, e_get1, e_get2, e_get3, e_get4, e_get5, e_get6, e_get7, e_set0, e_set1, e_set2, e_set3, e_set4, e_set5, e_set6, e_set7, e_ixn0, e_ixn1, e_ixn2, e_ex, List.replicate, List.cons_append, List.nil_append, List.map, fnB, p28, p18]
    refine ⟨mc.ok (MB.le (a := 20) (by unfold MB; decide) (Nat.le_refl _)) (by decide), mw.ok (MB.le (a := 20) (by unfold MB; decide) (Nat.le_refl _)) (by decide), MB.ok (a := 2) (b := 2) (by unfold MB; decide) (by split <;> (unfold MB; decide)) (by decide),
      MB.ok (MB.le (a := 20) (by unfold MB; decide) (Nat.le_refl _)) mk (by decide), cpow10 (by decide) (by decide), by decide, cpow10 (by decide) (by decide), by simp, _, _, _, rfl, ?_, fmod_nn (by decide), by decide, ?_, ?_, by decide⟩
    · split <;> omega
    · have : (if ((c.natAbs : Nat) : Int) - 1000000000000000000 > 0 then ((c.natAbs : Nat) : Int) - 1000000000000000000 else 0).natAbs ≤ c.natAbs := by split <;> omega
      exact Nat.lt_of_le_of_lt this (Nat.lt_of_lt_of_le hc (Nat.pow_le_pow_right (by decide) (by decide)))
    · exact Nat.lt_of_lt_of_le (show _ < 10000000000000000000000000331 from by
        have h1 := fmod_nn (i := ((c.natAbs : Nat) : Int) * 13 + wh * 31 + 3 * (if decide (c < 0) = true then 1 else 0) + 61 * k) (j := 10000000000000000000000000331) (by decide)
        have h2 := fmod_lt (i := ((c.natAbs : Nat) : Int) * 13 + wh * 31 + 3 * (if decide (c < 0) = true then 1 else 0) + 61 * k) (j := 10000000000000000000000000331) (by decide)
        omega) (by decide)

theorem filterMap_some {α : Type} : ∀ l : List α, l.filterMap some = l
  | [] => rfl
  | a :: l => by rw [List.filterMap_cons, filterMap_some l]
theorem ev_anew (j : Nat) : ∀ xs R Er, anewFn j xs R Er → fnB 1 1 (g_anew (anewG j)) xs R Er := by
  rintro xs R Er ⟨x, rfl, hd, hR⟩
  have it : ∀ {ys : List PD} {R : List PD → Prop} {s0 : Sl}, (∃ j', j = j' + 1 ∧ ∀ y ∈ ys, okD j' y) → R ys → lcD (gNm 1) tTrue (dCall (anewG j) (aCons (dVar 1) aNil)) [s0, .no] ys R := by
    rintro ys R s0 ⟨j', rfl, hy⟩ hR
    refine lcD_of some (fun y hm P hP => ?_) (by rw [filterMap_some]; exact hR)
    simp only [gSeq, gIfS, gRet, gSet, gSetN, gSetIx, gDrop, gRaise, gNext, gApp, gFrz, gTry, gAsg, gFor, gRight, nCallW, zSeq, zRet, dVar, dOwn, dC, d2, d1, dN2, aNil, aCons, dTup, nLst, dCall, dBi, tVal, tNot', tAnd', tOr', dAnd, dOr, dNot, dIf, dChain, dCallK, iRg, iSeq, nLc, tTrue, gNm, wipeD, e_onD, e_onB, e_onI, e_slV, e_slO, e_slOo, e_slOw, e_gI, e_gI0, e_add, e_mul, e_mulL, e_neg, e_ixL, e_ixT, e_ixS, e_isi, e_isN, e_notN, e_isNe, e_isNi, e_isNb, e_isNl, e_isNt, e_isNs, e_lenL, e_lenT, e_lenS, e_abs, e_int, e_intB, e_max, e_min, e_gcd, e_tupL, e_tupT, e_repr, e_sum, e_all, e_any, e_allN, e_allC, e_seqL, e_seqT, e_seqS, e_rg1, e_rg2, e_excN, e_excE, e_val, e_at0, e_at1, e_at2, e_get0, e_get1, e_get2, e_get3, e_get4, e_get5, e_get6, e_get7, e_set0, e_set1, e_set2, e_set3, e_set4, e_set5, e_set6, e_set7, e_ixn0, e_ixn1, e_ixn2, e_ex, List.replicate, List.cons_append, List.nil_append, List.map, fnB, if_true]
    exact ⟨y, rfl, hy y hm, hP⟩
  cases x with
  | list ys =>
    cases j with
    | zero => exact hd.elim
    | succ j =>
      refine ⟨rfl, ?_⟩
      simp only [g_anew, gSeq, gIfS, gRet, gSet, gSetN, gSetIx, gDrop, gRaise, gNext, gApp, gFrz, gTry, gAsg, gFor, gRight, nCallW, zSeq, zRet, dVar, dOwn, dC, d2, d1, dN2, aNil, aCons, dTup, nLst, dCall, dBi, tVal, tNot', tAnd', tOr', dAnd, dOr, dNot, dIf, dChain, dCallK, iRg, iSeq, nLc, tTrue, gNm, wipeD, e_onD, e_onB, e_onI, e_slV, e_slO, e_slOo, e_slOw, e_gI, e_gI0, e_add, e_mul, e_mulL, e_neg, e_ixL, e_ixT, e_ixS, e_isi, e_isN, e_notN, e_isNe, e_isNi, e_isNb, e_isNl, e_isNt, e_isNs, e_lenL, e_lenT, e_lenS, e_abs, e_int, e_intB, e_max, e_min, e_gcd, e_tupL, e_tupT, e_repr, e_sum, e_all, e_any, e_allN, e_allC, e_seqL, e_seqT, e_seqS, e_rg1, e_rg2, e_excN, e_excE, e_val, e_at0, e_at1, e_at2, e_get0, e_get1, e_get2, e_get3, e_get4, e_get5, e_get6, e_get7, e_set0, e_set1, e_set2, e_set3, e_set4, e_set5, e_set6, e_set7, e_ixn0, e_ixn1, e_ixn2, e_ex, List.replicate, List.cons_append, List.nil_append, List.map, fnB]
      rw [if_pos (by rfl)]
      exact ⟨hd.1, it (R := fun zs => R (.d (.list zs))) ⟨j, rfl, hd.2⟩ hR⟩
  | tuple ys =>
    cases j with
    | zero => exact hd.elim
    | succ j =>
      refine ⟨rfl, ?_⟩
      simp only [g_anew, gSeq, gIfS, gRet, gSet, gSetN, gSetIx, gDrop, gRaise, gNext, gApp, gFrz, gTry, gAsg, gFor, gRight, nCallW, zSeq, zRet, dVar, dOwn, dC, d2, d1, dN2, aNil, aCons, dTup, nLst, dCall, dBi, tVal, tNot', tAnd', tOr', dAnd, dOr, dNot, dIf, dChain, dCallK, iRg, iSeq, nLc, tTrue, gNm, wipeD, e_onD, e_onB, e_onI, e_slV, e_slO, e_slOo, e_slOw, e_gI, e_gI0, e_add, e_mul, e_mulL, e_neg, e_ixL, e_ixT, e_ixS, e_isi, e_isN, e_notN, e_isNe, e_isNi, e_isNb, e_isNl, e_isNt, e_isNs, e_lenL, e_lenT, e_lenS, e_abs, e_int, e_intB, e_max, e_min, e_gcd, e_tupL, e_tupT, e_repr, e_sum, e_all, e_any, e_allN, e_allC, e_seqL, e_seqT, e_seqS, e_rg1, e_rg2, e_excN, e_excE, e_val, e_at0, e_at1, e_at2, e_get0, e_get1, e_get2, e_get3, e_get4, e_get5, e_get6, e_get7, e_set0, e_set1, e_set2, e_set3, e_set4, e_set5, e_set6, e_set7, e_ixn0, e_ixn1, e_ixn2, e_ex, List.replicate, List.cons_append, List.nil_append, List.map, fnB]
      rw [if_neg (by simp [subTy, tyD]), if_pos (by rfl)]
      exact ⟨hd.1, it (R := fun zs => R (.d (.tuple zs))) ⟨j, rfl, hd.2⟩ hR⟩
  | _ =>
    refine ⟨rfl, ?_⟩
    simp only [g_anew, gSeq, gIfS, gRet, gSet, gSetN, gSetIx, gDrop, gRaise, gNext, gApp, gFrz, gTry, gAsg, gFor, gRight, nCallW, zSeq, zRet, dVar, dOwn, dC, d2, d1, dN2, aNil, aCons, dTup, nLst, dCall, dBi, tVal, tNot', tAnd', tOr', dAnd, dOr, dNot, dIf, dChain, dCallK, iRg, iSeq, nLc, tTrue, gNm, wipeD, e_onD, e_onB, e_onI, e_slV, e_slO, e_slOo, e_slOw, e_gI, e_gI0, e_add, e_mul, e_mulL, e_neg, e_ixL, e_ixT, e_ixS, e_isi, e_isN, e_notN, e_isNe, e_isNi, e_isNb, e_isNl, e_isNt, e_isNs, e_lenL, e_lenT, e_lenS, e_abs, e_int, e_intB, e_max, e_min, e_gcd, e_tupL, e_tupT, e_repr, e_sum, e_all, e_any, e_allN, e_allC, e_seqL, e_seqT, e_seqS, e_rg1, e_rg2, e_excN, e_excE, e_val, e_at0, e_at1, e_at2, e_get0, e_get1, e_get2, e_get3, e_get4, e_get5, e_get6, e_get7, e_set0, e_set1, e_set2, e_set3, e_set4, e_set5, e_set6, e_set7, e_ixn0, e_ixn1, e_ixn2, e_ex, List.replicate, List.cons_append, List.nil_append, List.map, fnB]
    rw [if_neg (by simp [subTy, tyD]), if_neg (by simp [subTy, tyD])]
    exact hR

def isInt : PD → Bool
  | .int _ => true
  | _ => false
theorem ev_is_integer {x : PD} {R : DV → Prop} {E : EK} (h : R (.d (.bool (isInt x)))) : m_is_integer [.d x] R E := by
  refine ⟨rfl, ?_⟩
  cases x <;> (simp only [g_is_integer, gSeq, gIfS, gRet, gSet, gSetN, gSetIx, gDrop, gRaise, gNext, gApp, gFrz, gTry, gAsg, gFor, gRight, nCallW, zSeq, zRet, dVar, dOwn, dC, d2, d1, dN2, aNil, aCons, dTup, nLst, dCall, dBi, tVal, tNot', tAnd', tOr', dAnd, dOr, dNot, dIf, dChain, dCallK, iRg, iSeq, nLc, tTrue, gNm, wipeD, e_onD, e_onB, e_onI, e_slV, e_slO, e_slOo, e_slOw, e_gI, e_gI0, e_add, e_mul, e_mulL, e_neg, e_ixL, e_ixT, e_ixS, e_isi, e_isN, e_notN, e_isNe, e_isNi, e_isNb, e_isNl, e_isNt, e_isNs, e_lenL, e_lenT, e_lenS, e_abs, e_int, e_intB, e_max, e_min, e_gcd, e_tupL, e_tupT, e_repr, e_sum, e_all, e_any, e_allN, e_allC, e_seqL, e_seqT, e_seqS, e_rg1, e_rg2, e_excN, e_excE, e_val, e_at0, e_at1, e_at2, e_get0, e_get1, e_get2, e_get3, e_get4, e_get5, e_get6, e_get7, e_set0, e_set1, e_set2, e_set3, e_set4, e_set5, e_set6, e_set7, e_ixn0, e_ixn1, e_ixn2, e_ex, List.replicate, List.cons_append, List.nil_append, List.map, fnB, subTy, tyD]; exact h)
def isTup (lo hi : Int) : PD → Bool
  | .tuple xs => decide (lo ≤ xs.length) && decide ((xs.length : Int) ≤ hi)
  | _ => false
theorem ev_is_tuple {x : PD} {lo hi : Int} {R : DV → Prop} {E : EK} (h : R (.d (.bool (isTup lo hi x)))) : m_is_tuple [.d x, .d (.int lo), .d (.int hi)] R E := by
  refine ⟨rfl, ?_⟩
  cases x with
  | tuple xs =>
    simp only [g_is_tuple, gSeq, gIfS, gRet, gSet, gSetN, gSetIx, gDrop, gRaise, gNext, gApp, gFrz, gTry, gAsg, gFor, gRight, nCallW, zSeq, zRet, dVar, dOwn, dC, d2, d1, dN2, aNil, aCons, dTup, nLst, dCall, dBi, tVal, tNot', tAnd', tOr', dAnd, dOr, dNot, dIf, dChain, dCallK, iRg, iSeq, nLc, tTrue, gNm, wipeD, e_onD, e_onB, e_onI, e_slV, e_slO, e_slOo, e_slOw, e_gI, e_gI0, e_add, e_mul, e_mulL, e_neg, e_ixL, e_ixT, e_ixS, e_isi, e_isN, e_notN, e_isNe, e_isNi, e_isNb, e_isNl, e_isNt, e_isNs, e_lenL, e_lenT, e_lenS, e_abs, e_int, e_intB, e_max, e_min, e_gcd, e_tupL, e_tupT, e_repr, e_sum, e_all, e_any, e_allN, e_allC, e_seqL, e_seqT, e_seqS, e_rg1, e_rg2, e_excN, e_excE, e_val, e_at0, e_at1, e_at2, e_get0, e_get1, e_get2, e_get3, e_get4, e_get5, e_get6, e_get7, e_set0, e_set1, e_set2, e_set3, e_set4, e_set5, e_set6, e_set7, e_ixn0, e_ixn1, e_ixn2, e_ex, List.replicate, List.cons_append, List.nil_append, List.map, fnB, subTy, tyD]
    rw [if_pos (by rfl)]
    unfold isTup at h
    by_cases h1 : lo ≤ (xs.length : Int)
    · rw [if_pos (by simpa using h1)]
      rw [if_neg (by decide)]
      simpa [h1] using h
    · rw [if_neg (by simpa using h1)]
      simpa [h1] using h
  | _ =>
    simp only [g_is_tuple, gSeq, gIfS, gRet, gSet, gSetN, gSetIx, gDrop, gRaise, gNext, gApp, gFrz, gTry, gAsg, gFor, gRight, nCallW, zSeq, zRet, dVar, dOwn, dC, d2, d1, dN2, aNil, aCons, dTup, nLst, dCall, dBi, tVal, tNot', tAnd', tOr', dAnd, dOr, dNot, dIf, dChain, dCallK, iRg, iSeq, nLc, tTrue, gNm, wipeD, e_onD, e_onB, e_onI, e_slV, e_slO, e_slOo, e_slOw, e_gI, e_gI0, e_add, e_mul, e_mulL, e_neg, e_ixL, e_ixT, e_ixS, e_isi, e_isN, e_notN, e_isNe, e_isNi, e_isNb, e_isNl, e_isNt, e_isNs, e_lenL, e_lenT, e_lenS, e_abs, e_int, e_intB, e_max, e_min, e_gcd, e_tupL, e_tupT, e_repr, e_sum, e_all, e_any, e_allN, e_allC, e_seqL, e_seqT, e_seqS, e_rg1, e_rg2, e_excN, e_excE, e_val, e_at0, e_at1, e_at2, e_get0, e_get1, e_get2, e_get3, e_get4, e_get5, e_get6, e_get7, e_set0, e_set1, e_set2, e_set3, e_set4, e_set5, e_set6, e_set7, e_ixn0, e_ixn1, e_ixn2, e_ex, List.replicate, List.cons_append, List.nil_append, List.map, fnB, subTy, tyD]
    rw [if_neg (by decide)]
    exact h
def primes : List Int := [0, 2, 3, 5, 7, 11, 13]
def isPrime : PD → Bool
  | .int i => primes.any fun j => j == i
  | _ => false
theorem ev_is_prime_in {x : PD} {R : DV → Prop} {E : EK} (h : R (.d (.bool (isPrime x)))) : m_is_prime_in [.d x] R E := by
  refine ⟨rfl, ?_⟩
  simp only [g_is_prime_in, gSeq, gIfS, gRet, gSet, gSetN, gSetIx, gDrop, gRaise, gNext, gApp, gFrz, gTry, gAsg, gFor, gRight, nCallW, zSeq, zRet, dVar, dOwn, dC, d2, d1, dN2, aNil, aCons, dTup, nLst, dCall, dBi, tVal, tNot', tAnd', tOr', dAnd, dOr, dNot, dIf, dChain, dCallK, iRg, iSeq, nLc, tTrue, gNm, wipeD, e_onD, e_onB, e_onI, e_slV, e_slO, e_slOo, e_slOw, e_gI, e_gI0, e_add, e_mul, e_mulL, e_neg, e_ixL, e_ixT, e_ixS, e_isi, e_isN, e_notN, e_isNe, e_isNi, e_isNb, e_isNl, e_isNt, e_isNs, e_lenL, e_lenT, e_lenS, e_abs, e_int, e_intB, e_max, e_min, e_gcd, e_tupL, e_tupT, e_repr, e_sum, e_all, e_any, e_allN, e_allC, e_seqL, e_seqT, e_seqS, e_rg1, e_rg2, e_excN, e_excE, e_val, e_at0, e_at1, e_at2, e_get0, e_get1, e_get2, e_get3, e_get4, e_get5, e_get6, e_get7, e_set0, e_set1, e_set2, e_set3, e_set4, e_set5, e_set6, e_set7, e_ixn0, e_ixn1, e_ixn2, e_ex, List.replicate, List.cons_append, List.nil_append, List.map, fnB]
  apply ev_is_integer
  simp only [gSeq, gIfS, gRet, gSet, gSetN, gSetIx, gDrop, gRaise, gNext, gApp, gFrz, gTry, gAsg, gFor, gRight, nCallW, zSeq, zRet, dVar, dOwn, dC, d2, d1, dN2, aNil, aCons, dTup, nLst, dCall, dBi, tVal, tNot', tAnd', tOr', dAnd, dOr, dNot, dIf, dChain, dCallK, iRg, iSeq, nLc, tTrue, gNm, wipeD, e_onD, e_onB, e_onI, e_slV, e_slO, e_slOo, e_slOw, e_gI, e_gI0, e_add, e_mul, e_mulL, e_neg, e_ixL, e_ixT, e_ixS, e_isi, e_isN, e_notN, e_isNe, e_isNi, e_isNb, e_isNl, e_isNt, e_isNs, e_lenL, e_lenT, e_lenS, e_abs, e_int, e_intB, e_max, e_min, e_gcd, e_tupL, e_tupT, e_repr, e_sum, e_all, e_any, e_allN, e_allC, e_seqL, e_seqT, e_seqS, e_rg1, e_rg2, e_excN, e_excE, e_val, e_at0, e_at1, e_at2, e_get0, e_get1, e_get2, e_get3, e_get4, e_get5, e_get6, e_get7, e_set0, e_set1, e_set2, e_set3, e_set4, e_set5, e_set6, e_set7, e_ixn0, e_ixn1, e_ixn2, e_ex, List.replicate, List.cons_append, List.nil_append, List.map, fnB]
  cases x with
  | int i =>
    simp only [isInt, if_true, gSeq, gIfS, gRet, gSet, gSetN, gSetIx, gDrop, gRaise, gNext, gApp, gFrz, gTry, gAsg, gFor, gRight, nCallW, zSeq, zRet, dVar, dOwn, dC, d2, d1, dN2, aNil, aCons, dTup, nLst, dCall, dBi, tVal, tNot', tAnd', tOr', dAnd, dOr, dNot, dIf, dChain, dCallK, iRg, iSeq, nLc, tTrue, gNm, wipeD, e_onD, e_onB, e_onI, e_slV, e_slO, e_slOo, e_slOw, e_gI, e_gI0, e_add, e_mul, e_mulL, e_neg, e_ixL, e_ixT, e_ixS, e_isi, e_isN, e_notN, e_isNe, e_isNi, e_isNb, e_isNl, e_isNt, e_isNs, e_lenL, e_lenT, e_lenS, e_abs, e_int, e_intB, e_max, e_min, e_gcd, e_tupL, e_tupT, e_repr, e_sum, e_all, e_any, e_allN, e_allC, e_seqL, e_seqT, e_seqS, e_rg1, e_rg2, e_excN, e_excE, e_val, e_at0, e_at1, e_at2, e_get0, e_get1, e_get2, e_get3, e_get4, e_get5, e_get6, e_get7, e_set0, e_set1, e_set2, e_set3, e_set4, e_set5, e_set6, e_set7, e_ixn0, e_ixn1, e_ixn2, e_ex, List.replicate, List.cons_append, List.nil_append, List.map, fnB]
    refine ⟨rfl, rfl, ?_⟩
    have e : ([PyData.int 0, .int 2, .int 3, .int 5, .int 7, .int 11, .int 13].any fun z => PyData.eqv z (.int i)) = isPrime (.int i) := by
      simp [isPrime, primes, PyData.eqv]
    show R (.d (.bool ([PyData.int 0, .int 2, .int 3, .int 5, .int 7, .int 11, .int 13].any fun z => PyData.eqv z (.int i))))
    rw [e]
    exact h
  | _ =>
    simp only [isInt, gSeq, gIfS, gRet, gSet, gSetN, gSetIx, gDrop, gRaise, gNext, gApp, gFrz, gTry, gAsg, gFor, gRight, nCallW, zSeq, zRet, dVar, dOwn, dC, d2, d1, dN2, aNil, aCons, dTup, nLst, dCall, dBi, tVal, tNot', tAnd', tOr', dAnd, dOr, dNot, dIf, dChain, dCallK, iRg, iSeq, nLc, tTrue, gNm, wipeD, e_onD, e_onB, e_onI, e_slV, e_slO, e_slOo, e_slOw, e_gI, e_gI0, e_add, e_mul, e_mulL, e_neg, e_ixL, e_ixT, e_ixS, e_isi, e_isN, e_notN, e_isNe, e_isNi, e_isNb, e_isNl, e_isNt, e_isNs, e_lenL, e_lenT, e_lenS, e_abs, e_int, e_intB, e_max, e_min, e_gcd, e_tupL, e_tupT, e_repr, e_sum, e_all, e_any, e_allN, e_allC, e_seqL, e_seqT, e_seqS, e_rg1, e_rg2, e_excN, e_excE, e_val, e_at0, e_at1, e_at2, e_get0, e_get1, e_get2, e_get3, e_get4, e_get5, e_get6, e_get7, e_set0, e_set1, e_set2, e_set3, e_set4, e_set5, e_set6, e_set7, e_ixn0, e_ixn1, e_ixn2, e_ex, List.replicate, List.cons_append, List.nil_append, List.map, fnB]
    exact h

/-! fractions -/
def fr (q : Rat) : PD := .tuple [.int q.num, .int (q.den : Int)]
def sg (m : Int) : Int := if m < 0 then -1 else 1
theorem sg_sign {m : Int} (h : m ≠ 0) : m.sign = sg m := by
  unfold sg
  split
  · exact Int.sign_eq_neg_one_of_neg (by assumption)
  · exact Int.sign_eq_one_of_pos (by omega)
theorem gcd_pos' {n m : Int} (h : m ≠ 0) : 0 < Nat.gcd n.natAbs m.natAbs := Nat.gcd_pos_of_pos_right _ (by omega)
theorem num_eq {n m : Int} (h : m ≠ 0) : (Rat.divInt n m).num = (sg m * n) / ((Nat.gcd n.natAbs m.natAbs : Nat) : Int) := by
  rw [Rat.num_divInt, sg_sign h]
  unfold Int.gcd
  rw [Nat.gcd_comm]
theorem den_eq {n m : Int} (h : m ≠ 0) : ((Rat.divInt n m).den : Int) = (sg m * m) / ((Nat.gcd n.natAbs m.natAbs : Nat) : Int) := by
  rw [Rat.den_divInt, if_neg h]
  unfold Int.gcd
  rw [Nat.gcd_comm]
  have : sg m * m = (m.natAbs : Int) := by unfold sg; split <;> omega
  rw [this]
  norm_cast
theorem fdiv_g {n m : Int} (h : m ≠ 0) (k : Int) : (sg m * k).fdiv ((Nat.gcd n.natAbs m.natAbs : Nat) : Int) = (sg m * k) / ((Nat.gcd n.natAbs m.natAbs : Nat) : Int) :=
  Int.fdiv_eq_ediv_of_nonneg _ (by omega)
theorem fr_cut {n m : Int} (h : m ≠ 0) : fr (Rat.divInt n m) = .tuple [.int ((sg m * n).fdiv ((Nat.gcd n.natAbs m.natAbs : Nat) : Int)), .int ((sg m * m).fdiv ((Nat.gcd n.natAbs m.natAbs : Nat) : Int))] := by
  unfold fr
  rw [num_eq h, den_eq h, fdiv_g h, fdiv_g h]
theorem fdiv_sg {g m k : Int} (hg : 0 < g) (hd : g ∣ k) : k.fdiv (sg m * g) = (sg m * k).fdiv g := by
  obtain ⟨c, rfl⟩ := hd
  unfold sg
  split
  · rw [show (-1 : Int) * g = -g by omega, show g * c = (-g) * (-c) by rw [Int.neg_mul_neg], Int.mul_fdiv_cancel_left _ (by omega), show (-1 : Int) * (-g * -c) = g * (-c) by rw [Int.neg_mul_neg, Int.mul_neg]; omega, Int.mul_fdiv_cancel_left _ (by omega)]
  · rw [Int.one_mul, Int.one_mul]
theorem gcd_le' {n m : Int} (h : m ≠ 0) : Nat.gcd n.natAbs m.natAbs ≤ m.natAbs := Nat.le_of_dvd (by omega) (Nat.gcd_dvd_right _ _)
theorem fdivOkG {n m : Int} {a : Nat} (h : m ≠ 0) (hb : MB a m) (ha : a ≤ 9000) (s : Int) (hs : s = 1 ∨ s = -1) : FdivOk n (s * ((Nat.gcd n.natAbs m.natAbs : Nat) : Int)) := by
  have g1 := gcd_pos' (n := n) h
  have g2 := gcd_le' (n := n) h
  refine ⟨?_, ?_⟩
  · rcases hs with rfl | rfl <;> omega
  · have : (s * ((Nat.gcd n.natAbs m.natAbs : Nat) : Int)).natAbs ≤ m.natAbs := by rcases hs with rfl | rfl <;> omega
    exact Nat.lt_of_le_of_lt this (MB.le hb ha)
theorem ev_fraction_in {n m : Int} {a : Nat} {R : DV → Prop} {E : EK} (h : m ≠ 0) (hb : MB a m) (ha : a ≤ 9000) (hR : R (.d (fr (Rat.divInt n m)))) : m_fraction_in [.d (.int n), .d (.int m)] R E := by
  refine ⟨rfl, ?_⟩
  have g1 := gcd_pos' (n := n) h
  have dv1 : ((Nat.gcd n.natAbs m.natAbs : Nat) : Int) ∣ n := Int.ofNat_dvd_left.mpr (Nat.gcd_dvd_left _ _)
  have dv2 : ((Nat.gcd n.natAbs m.natAbs : Nat) : Int) ∣ m := Int.ofNat_dvd_left.mpr (Nat.gcd_dvd_right _ _)
  rw [fr_cut h, ← fdiv_sg (by omega) dv1, ← fdiv_sg (by omega) dv2] at hR
  simp only [g_fraction_in, gSeq, gIfS, gRet, gSet, gSetN, gSetIx, gDrop, gRaise, gNext, gApp, gFrz, gTry, gAsg, gFor, gRight, nCallW, zSeq, zRet, dVar, dOwn, dC, d2, d1, dN2, aNil, aCons, dTup, nLst, dCall, dBi, tVal, tNot', tAnd', tOr', dAnd, dOr, dNot, dIf, dChain, dCallK, iRg, iSeq, nLc, tTrue, gNm, wipeD, e_onD, e_onB, e_onI, e_slV, e_slO, e_slOo, e_slOw, e_gI, e_gI0, e_add, e_mul, e_mulL, e_neg, e_ixL, e_ixT, e_ixS, e_isi, e_isN, e_notN, e_isNe, e_isNi, e_isNb, e_isNl, e_isNt, e_isNs, e_lenL, e_lenT, e_lenS, e_abs, e_int, e_intB, e_max, e_min, e_gcd, e_tupL, e_tupT, e_repr, e_sum, e_all, e_any, e_allN, e_allC, e_seqL, e_seqT, e_seqS, e_rg1, e_rg2, e_excN, e_excE, e_val, e_at0, e_at1, e_at2, e_get0, e_get1, e_get2, e_get3, e_get4, e_get5, e_get6, e_get7, e_set0, e_set1, e_set2, e_set3, e_set4, e_set5, e_set6, e_set7, e_ixn0, e_ixn1, e_ixn2, e_ex, List.replicate, List.cons_append, List.nil_append, List.map, fnB]
  by_cases hm : m < 0
  · rw [if_pos (decide_eq_true hm)]
    have e : sg m * ((Nat.gcd n.natAbs m.natAbs : Nat) : Int) = -((Nat.gcd n.natAbs m.natAbs : Nat) : Int) := by unfold sg; rw [if_pos hm]; omega
    rw [e] at hR
    have f := fdivOkG (n := n) h hb ha (-1) (.inr rfl)
    rw [show (-1 : Int) * ((Nat.gcd n.natAbs m.natAbs : Nat) : Int) = -((Nat.gcd n.natAbs m.natAbs : Nat) : Int) by omega] at f
    exact ⟨f, f, (by show 2 ≤ 100000; decide), hR⟩
  · rw [if_neg (show ¬ decide (m < 0) = true by rw [decide_eq_true_eq]; exact hm)]
    have e : sg m * ((Nat.gcd n.natAbs m.natAbs : Nat) : Int) = ((Nat.gcd n.natAbs m.natAbs : Nat) : Int) := by unfold sg; rw [if_neg hm]; omega
    rw [e] at hR
    have f := fdivOkG (n := n) h hb ha 1 (.inl rfl)
    rw [Int.one_mul] at f
    exact ⟨f, f, (by show 2 ≤ 100000; decide), hR⟩
/-- the loop of _law_cut -/
theorem ev_law_cut {n m : Int} {a : Nat} {R : DV → Prop} {E : EK} (h : m ≠ 0) (hb : MB a m) (ha : a ≤ 9000) (hn : MB 9000 n) (hR : R (.d (fr (Rat.divInt n m)))) : m__law_cut [.d (.int n), .d (.int m)] R E := by
  refine ⟨rfl, ?_⟩
  rw [fr_cut h] at hR
  simp only [g__law_cut, gSeq, gIfS, gRet, gSet, gSetN, gSetIx, gDrop, gRaise, gNext, gApp, gFrz, gTry, gAsg, gFor, gRight, nCallW, zSeq, zRet, dVar, dOwn, dC, d2, d1, dN2, aNil, aCons, dTup, nLst, dCall, dBi, tVal, tNot', tAnd', tOr', dAnd, dOr, dNot, dIf, dChain, dCallK, iRg, iSeq, nLc, tTrue, gNm, wipeD, e_onD, e_onB, e_onI, e_slV, e_slO, e_slOo, e_slOw, e_gI, e_gI0, e_add, e_mul, e_mulL, e_neg, e_ixL, e_ixT, e_ixS, e_isi, e_isN, e_notN, e_isNe, e_isNi, e_isNb, e_isNl, e_isNt, e_isNs, e_lenL, e_lenT, e_lenS, e_abs, e_int, e_intB, e_max, e_min, e_gcd, e_tupL, e_tupT, e_repr, e_sum, e_all, e_any, e_allN, e_allC, e_seqL, e_seqT, e_seqS, e_rg1, e_rg2, e_excN, e_excE, e_val, e_at0, e_at1, e_at2, e_get0, e_get1, e_get2, e_get3, e_get4, e_get5, e_get6, e_get7, e_set0, e_set1, e_set2, e_set3, e_set4, e_set5, e_set6, e_set7, e_ixn0, e_ixn1, e_ixn2, e_ex, List.replicate, List.cons_append, List.nil_append, List.map, fnB, gPar, gWhile]
  have g1 := gcd_pos' (n := n) h
  refine ⟨fun k ρ => ∃ x y : Int, ∃ s : Sl, ρ = [.v (.d (.int n)), .v (.d (.int m)), .v (.d (.int x)), .v (.d (.int y)), s] ∧ 0 ≤ x ∧ 0 ≤ y ∧ k = y.toNat ∧ Nat.gcd x.natAbs y.natAbs = Nat.gcd n.natAbs m.natAbs, ⟨_, _, _, _, rfl, by omega, by omega, rfl, by rw [Int.natAbs_natCast, Int.natAbs_natCast]⟩, ?_⟩
  rintro k ρ ⟨x, y, s, rfl, hx, hy, rfl, hg⟩
  simp only [gSeq, gIfS, gRet, gSet, gSetN, gSetIx, gDrop, gRaise, gNext, gApp, gFrz, gTry, gAsg, gFor, gRight, nCallW, zSeq, zRet, dVar, dOwn, dC, d2, d1, dN2, aNil, aCons, dTup, nLst, dCall, dBi, tVal, tNot', tAnd', tOr', dAnd, dOr, dNot, dIf, dChain, dCallK, iRg, iSeq, nLc, tTrue, gNm, wipeD, e_onD, e_onB, e_onI, e_slV, e_slO, e_slOo, e_slOw, e_gI, e_gI0, e_add, e_mul, e_mulL, e_neg, e_ixL, e_ixT, e_ixS, e_isi, e_isN, e_notN, e_isNe, e_isNi, e_isNb, e_isNl, e_isNt, e_isNs, e_lenL, e_lenT, e_lenS, e_abs, e_int, e_intB, e_max, e_min, e_gcd, e_tupL, e_tupT, e_repr, e_sum, e_all, e_any, e_allN, e_allC, e_seqL, e_seqT, e_seqS, e_rg1, e_rg2, e_excN, e_excE, e_val, e_at0, e_at1, e_at2, e_get0, e_get1, e_get2, e_get3, e_get4, e_get5, e_get6, e_get7, e_set0, e_set1, e_set2, e_set3, e_set4, e_set5, e_set6, e_set7, e_ixn0, e_ixn1, e_ixn2, e_ex, List.replicate, List.cons_append, List.nil_append, List.map, fnB]
  by_cases hy0 : 0 < y
  · rw [if_pos (decide_eq_true hy0)]
    refine ⟨by omega, (x.fmod y).toNat, ?_, y, x.fmod y, s, rfl, hy, fmod_nn hy0, rfl, ?_⟩
    · have := fmod_lt (i := x) hy0
      have := fmod_nn (i := x) hy0
      omega
    · rw [← hg, Int.fmod_eq_emod_of_nonneg _ hy]
      have e : (x % y).natAbs = x.natAbs % y.natAbs := by
        rw [Int.natAbs_emod_of_nonneg hx]
      rw [e, Nat.gcd_comm x.natAbs]
      exact (Nat.gcd_rec y.natAbs x.natAbs).symm ▸ (Nat.gcd_comm _ _)
  · rw [if_neg (show ¬ decide (0 < y) = true by rw [decide_eq_true_eq]; exact hy0)]
    have y0 : y = 0 := by omega
    subst y0
    have hx2 : x = ((Nat.gcd n.natAbs m.natAbs : Nat) : Int) := by
      rw [← hg]
      simp
      omega
    subst hx2
    have f1 := fdivOkG (n := n) h hb ha 1 (.inl rfl)
    rw [Int.one_mul] at f1
    have f : FdivOk (n) ((Nat.gcd n.natAbs m.natAbs : Nat) : Int) := f1
    have mo : ∀ z : Int, MB 9000 z → MulOk (-1) z ∧ MulOk 1 z := fun z hz => ⟨MB.ok (a := 1) (by unfold MB; decide) hz (by decide), MB.ok (a := 1) (by unfold MB; decide) hz (by decide)⟩
    have e1 := (mo n hn)
    have e2 := (mo m (hb.le ha))
    by_cases hm : m < 0
    · rw [if_pos (decide_eq_true hm)]
      have e : sg m = -1 := by unfold sg; rw [if_pos hm]
      rw [e] at hR
      exact ⟨e1.1, f, e2.1, f, (by show 2 ≤ 100000; decide), hR⟩
    · rw [if_neg (show ¬ decide (m < 0) = true by rw [decide_eq_true_eq]; exact hm)]
      have e : sg m = 1 := by unfold sg; rw [if_neg hm]
      rw [e] at hR
      exact ⟨e1.2, f, e2.2, f, (by show 2 ≤ 100000; decide), hR⟩

/-! scalars -/
inductive Sc where
  | q (r : Rat) | z (a : Int)
def Sc.d : Sc → PD
  | .q r => fr r
  | .z a => .int a
def Pp (p : Int) : Prop := p = 2 ∨ p = 3 ∨ p = 5 ∨ p = 7 ∨ p = 11 ∨ p = 13
def OkS (p : Int) (b : Nat) : Sc → Prop
  | .q r => p = 0 ∧ MB b r.num ∧ MB b (r.den : Int)
  | .z a => Pp p ∧ 0 ≤ a ∧ a < p
def sAdd (p : Int) : Sc → Sc → Sc
  | .q a, .q b => .q (a + b)
  | .z a, .z b => .z ((a + b) % p)
  | x, _ => x
def sMul (p : Int) : Sc → Sc → Sc
  | .q a, .q b => .q (a * b)
  | .z a, .z b => .z (a * b % p)
  | x, _ => x
def sNeg (p : Int) : Sc → Sc
  | .q a => .q (-a)
  | .z a => .z (-a % p)
def sNum (p k : Int) : Sc := if p = 0 then .q (Rat.divInt k 1) else .z (k % p)
theorem Pp.pos {p : Int} (h : Pp p) : 0 < p := by rcases h with rfl | rfl | rfl | rfl | rfl | rfl <;> decide
theorem Pp.le {p : Int} (h : Pp p) : p ≤ 13 := by rcases h with rfl | rfl | rfl | rfl | rfl | rfl <;> decide
theorem OkS.le {p : Int} {b c : Nat} {x : Sc} (h : OkS p b x) (l : b ≤ c) : OkS p c x := by
  cases x with
  | q r => exact ⟨h.1, h.2.1.le l, h.2.2.le l⟩
  | z a => exact h
theorem mb_divInt {n m : Int} {a b : Nat} (h : m ≠ 0) (hn : MB a n) (hm : MB b m) : MB a (Rat.divInt n m).num ∧ MB b ((Rat.divInt n m).den : Int) := by
  have g1 := gcd_pos' (n := n) h
  rw [num_eq h, den_eq h]
  have le : ∀ (k g : Int), 0 < g → (sg m * k / g).natAbs ≤ k.natAbs := fun k g hg => by
    have e : (sg m * k).natAbs = k.natAbs := by unfold sg; split <;> simp
    rw [← e]
    have e2 := Int.natAbs_ediv_le_natAbs (sg m * k) g
    exact e2
  exact ⟨Nat.lt_of_le_of_lt (le n _ (by omega)) hn, Nat.lt_of_le_of_lt (le m _ (by omega)) hm⟩
theorem den_pos (r : Rat) : 0 < (r.den : Int) := by have := r.den_pos; omega
theorem add_div (a b : Rat) : a + b = Rat.divInt (a.num * b.den + b.num * a.den) (a.den * b.den) := by
  rw [Rat.add_def']
  rw [show ((a.den : Int) * (b.den : Int)) = ((a.den * b.den : Nat) : Int) by norm_cast]
  rfl
theorem mul_div (a b : Rat) : a * b = Rat.divInt (a.num * b.num) (a.den * b.den) := by
  rw [Rat.mul_def']
  rw [show ((a.den : Int) * (b.den : Int)) = ((a.den * b.den : Nat) : Int) by norm_cast]
  rfl
theorem dd_ne (a b : Rat) : (a.den : Int) * (b.den : Int) ≠ 0 := by
  have := Int.mul_pos (den_pos a) (den_pos b)
  omega
theorem OkS.add {p : Int} {b c : Nat} {x y : Sc} (hx : OkS p b x) (hy : OkS p c y) : OkS p (b + c + 1) (sAdd p x y) := by
  cases x with
  | q r =>
    cases y with
    | z a =>
      have := hy.1.pos
      have := hx.1
      omega
    | q s =>
      refine ⟨hx.1, ?_⟩
      show MB _ (r + s).num ∧ MB _ ((r + s).den : Int)
      rw [add_div]
      exact mb_divInt (dd_ne r s) (MB.add (hx.2.1.mul hy.2.2) ((hy.2.1.mul hx.2.2).le (by omega))) ((hx.2.2.mul hy.2.2).le (by omega))
  | z a =>
    cases y with
    | q s =>
      have := hx.1.pos
      have := hy.1
      omega
    | z c => exact ⟨hx.1, Int.emod_nonneg _ (by have := hx.1.pos; omega), Int.emod_lt_of_pos _ hx.1.pos⟩
theorem OkS.mul {p : Int} {b c : Nat} {x y : Sc} (hx : OkS p b x) (hy : OkS p c y) : OkS p (b + c) (sMul p x y) := by
  cases x with
  | q r =>
    cases y with
    | z a =>
      have := hy.1.pos
      have := hx.1
      omega
    | q s =>
      refine ⟨hx.1, ?_⟩
      show MB _ (r * s).num ∧ MB _ ((r * s).den : Int)
      rw [mul_div]
      exact mb_divInt (dd_ne r s) (hx.2.1.mul hy.2.1) (hx.2.2.mul hy.2.2)
  | z a =>
    cases y with
    | q s =>
      have := hx.1.pos
      have := hy.1
      omega
    | z c => exact ⟨hx.1, Int.emod_nonneg _ (by have := hx.1.pos; omega), Int.emod_lt_of_pos _ hx.1.pos⟩
theorem fmod_e {i p : Int} (h : 0 ≤ p) : i.fmod p = i % p := Int.fmod_eq_emod_of_nonneg _ h
theorem ev_plus_in {p : Int} {b c : Nat} {x y : Sc} {R : DV → Prop} {E : EK} (hx : OkS p b x) (hy : OkS p c y) (hb : b ≤ 4000) (hc : c ≤ 4000) (h : R (.d (sAdd p x y).d)) : m_plus_in [.d (.int p), .d x.d, .d y.d] R E := by
  refine ⟨rfl, ?_⟩
  cases x with
  | q r =>
    cases y with
    | z a =>
      have := hy.1.pos
      have := hx.1
      omega
    | q s =>
      obtain ⟨rfl, hn, hd⟩ := hx
      obtain ⟨_, hn2, hd2⟩ := hy
      simp only [g_plus_in, Sc.d, fr, gSeq, gIfS, gRet, gSet, gSetN, gSetIx, gDrop, gRaise, gNext, gApp, gFrz, gTry, gAsg, gFor, gRight, nCallW, zSeq, zRet, dVar, dOwn, dC, d2, d1, dN2, aNil, aCons, dTup, nLst, dCall, dBi, tVal, tNot', tAnd', tOr', dAnd, dOr, dNot, dIf, dChain, dCallK, iRg, iSeq, nLc, tTrue, gNm, wipeD, e_onD, e_onB, e_onI, e_slV, e_slO, e_slOo, e_slOw, e_gI, e_gI0, e_add, e_mul, e_mulL, e_neg, e_ixL, e_ixT, e_ixS, e_isi, e_isN, e_notN, e_isNe, e_isNi, e_isNb, e_isNl, e_isNt, e_isNs, e_lenL, e_lenT, e_lenS, e_abs, e_int, e_intB, e_max, e_min, e_gcd, e_tupL, e_tupT, e_repr, e_sum, e_all, e_any, e_allN, e_allC, e_seqL, e_seqT, e_seqS, e_rg1, e_rg2, e_excN, e_excE, e_val, e_at0, e_at1, e_at2, e_get0, e_get1, e_get2, e_get3, e_get4, e_get5, e_get6, e_get7, e_set0, e_set1, e_set2, e_set3, e_set4, e_set5, e_set6, e_set7, e_ixn0, e_ixn1, e_ixn2, e_ex, List.replicate, List.cons_append, List.nil_append, List.map, fnB]
      rw [if_neg (by decide)]
      refine ⟨hn.ok hd2 (by omega), hn2.ok hd (by omega), hd.ok hd2 (by omega), ev_fraction_in (dd_ne r s) (hd.mul hd2) (by omega) ?_⟩
      rw [← add_div]
      exact h
  | z a =>
    cases y with
    | q s =>
      have := hx.1.pos
      have := hy.1
      omega
    | z c =>
      have hp := hx.1.pos
      simp only [g_plus_in, Sc.d, gSeq, gIfS, gRet, gSet, gSetN, gSetIx, gDrop, gRaise, gNext, gApp, gFrz, gTry, gAsg, gFor, gRight, nCallW, zSeq, zRet, dVar, dOwn, dC, d2, d1, dN2, aNil, aCons, dTup, nLst, dCall, dBi, tVal, tNot', tAnd', tOr', dAnd, dOr, dNot, dIf, dChain, dCallK, iRg, iSeq, nLc, tTrue, gNm, wipeD, e_onD, e_onB, e_onI, e_slV, e_slO, e_slOo, e_slOw, e_gI, e_gI0, e_add, e_mul, e_mulL, e_neg, e_ixL, e_ixT, e_ixS, e_isi, e_isN, e_notN, e_isNe, e_isNi, e_isNb, e_isNl, e_isNt, e_isNs, e_lenL, e_lenT, e_lenS, e_abs, e_int, e_intB, e_max, e_min, e_gcd, e_tupL, e_tupT, e_repr, e_sum, e_all, e_any, e_allN, e_allC, e_seqL, e_seqT, e_seqS, e_rg1, e_rg2, e_excN, e_excE, e_val, e_at0, e_at1, e_at2, e_get0, e_get1, e_get2, e_get3, e_get4, e_get5, e_get6, e_get7, e_set0, e_set1, e_set2, e_set3, e_set4, e_set5, e_set6, e_set7, e_ixn0, e_ixn1, e_ixn2, e_ex, List.replicate, List.cons_append, List.nil_append, List.map, fnB]
      rw [if_pos (decide_eq_true hp), fmod_e (by omega)]
      exact ⟨by omega, h⟩
theorem ev_times_in {p : Int} {b c : Nat} {x y : Sc} {R : DV → Prop} {E : EK} (hx : OkS p b x) (hy : OkS p c y) (hb : b ≤ 4000) (hc : c ≤ 4000) (h : R (.d (sMul p x y).d)) : m_times_in [.d (.int p), .d x.d, .d y.d] R E := by
  refine ⟨rfl, ?_⟩
  cases x with
  | q r =>
    cases y with
    | z a =>
      have := hy.1.pos
      have := hx.1
      omega
    | q s =>
      obtain ⟨rfl, hn, hd⟩ := hx
      obtain ⟨_, hn2, hd2⟩ := hy
      simp only [g_times_in, Sc.d, fr, gSeq, gIfS, gRet, gSet, gSetN, gSetIx, gDrop, gRaise, gNext, gApp, gFrz, gTry, gAsg, gFor, gRight, nCallW, zSeq, zRet, dVar, dOwn, dC, d2, d1, dN2, aNil, aCons, dTup, nLst, dCall, dBi, tVal, tNot', tAnd', tOr', dAnd, dOr, dNot, dIf, dChain, dCallK, iRg, iSeq, nLc, tTrue, gNm, wipeD, e_onD, e_onB, e_onI, e_slV, e_slO, e_slOo, e_slOw, e_gI, e_gI0, e_add, e_mul, e_mulL, e_neg, e_ixL, e_ixT, e_ixS, e_isi, e_isN, e_notN, e_isNe, e_isNi, e_isNb, e_isNl, e_isNt, e_isNs, e_lenL, e_lenT, e_lenS, e_abs, e_int, e_intB, e_max, e_min, e_gcd, e_tupL, e_tupT, e_repr, e_sum, e_all, e_any, e_allN, e_allC, e_seqL, e_seqT, e_seqS, e_rg1, e_rg2, e_excN, e_excE, e_val, e_at0, e_at1, e_at2, e_get0, e_get1, e_get2, e_get3, e_get4, e_get5, e_get6, e_get7, e_set0, e_set1, e_set2, e_set3, e_set4, e_set5, e_set6, e_set7, e_ixn0, e_ixn1, e_ixn2, e_ex, List.replicate, List.cons_append, List.nil_append, List.map, fnB]
      rw [if_neg (by decide)]
      refine ⟨hn.ok hn2 (by omega), hd.ok hd2 (by omega), ev_fraction_in (dd_ne r s) (hd.mul hd2) (by omega) ?_⟩
      rw [← mul_div]
      exact h
  | z a =>
    cases y with
    | q s =>
      have := hx.1.pos
      have := hy.1
      omega
    | z c =>
      have hp := hx.1.pos
      have l13 := hx.1.le
      simp only [g_times_in, Sc.d, gSeq, gIfS, gRet, gSet, gSetN, gSetIx, gDrop, gRaise, gNext, gApp, gFrz, gTry, gAsg, gFor, gRight, nCallW, zSeq, zRet, dVar, dOwn, dC, d2, d1, dN2, aNil, aCons, dTup, nLst, dCall, dBi, tVal, tNot', tAnd', tOr', dAnd, dOr, dNot, dIf, dChain, dCallK, iRg, iSeq, nLc, tTrue, gNm, wipeD, e_onD, e_onB, e_onI, e_slV, e_slO, e_slOo, e_slOw, e_gI, e_gI0, e_add, e_mul, e_mulL, e_neg, e_ixL, e_ixT, e_ixS, e_isi, e_isN, e_notN, e_isNe, e_isNi, e_isNb, e_isNl, e_isNt, e_isNs, e_lenL, e_lenT, e_lenS, e_abs, e_int, e_intB, e_max, e_min, e_gcd, e_tupL, e_tupT, e_repr, e_sum, e_all, e_any, e_allN, e_allC, e_seqL, e_seqT, e_seqS, e_rg1, e_rg2, e_excN, e_excE, e_val, e_at0, e_at1, e_at2, e_get0, e_get1, e_get2, e_get3, e_get4, e_get5, e_get6, e_get7, e_set0, e_set1, e_set2, e_set3, e_set4, e_set5, e_set6, e_set7, e_ixn0, e_ixn1, e_ixn2, e_ex, List.replicate, List.cons_append, List.nil_append, List.map, fnB]
      rw [if_pos (decide_eq_true hp), fmod_e (by omega)]
      exact ⟨MB.ok (a := 4) (b := 4) (MB.of hx.2.1 (by have := hx.2.2; omega)) (MB.of hy.2.1 (by have := hy.2.2; omega)) (by decide), by omega, h⟩

theorem eqv_int (a b : Int) : PyData.eqv (.int a) (.int b) = decide (a = b) := by
  rw [Bool.eq_iff_iff]
  simp [PyData.eqv]
def isSc (p : Int) (x : PD) : Bool := if 0 < p then (match x with
    | .int i => decide (0 ≤ i) && decide (i < p)
    | _ => false) else (match x with
    | .tuple [.int a, .int b] => decide (1 ≤ b) && decide (Nat.gcd a.natAbs b.natAbs = 1)
    | _ => false)
theorem ite_t {b : Bool} {A B : Prop} (h : b = true) (q : A) : if b = true then A else B := by rw [if_pos h]; exact q
theorem ite_f {b : Bool} {A B : Prop} (h : b = false) (q : B) : if b = true then A else B := by rw [if_neg (by rw [h]; decide)]; exact q
theorem ev_is_scalar_in {p : Int} {x : PD} {R : DV → Prop} {E : EK} (h : R (.d (.bool (isSc p x)))) : m_is_scalar_in [.d (.int p), .d x] R E := by
  refine ⟨rfl, ?_⟩
  simp only [g_is_scalar_in, gSeq, gIfS, gRet, gSet, gSetN, gSetIx, gDrop, gRaise, gNext, gApp, gFrz, gTry, gAsg, gFor, gRight, nCallW, zSeq, zRet, dVar, dOwn, dC, d2, d1, dN2, aNil, aCons, dTup, nLst, dCall, dBi, tVal, tNot', tAnd', tOr', dAnd, dOr, dNot, dIf, dChain, dCallK, iRg, iSeq, nLc, tTrue, gNm, wipeD, e_onD, e_onB, e_onI, e_slV, e_slO, e_slOo, e_slOw, e_gI, e_gI0, e_add, e_mul, e_mulL, e_neg, e_ixL, e_ixT, e_ixS, e_isi, e_isN, e_notN, e_isNe, e_isNi, e_isNb, e_isNl, e_isNt, e_isNs, e_lenL, e_lenT, e_lenS, e_abs, e_int, e_intB, e_max, e_min, e_gcd, e_tupL, e_tupT, e_repr, e_sum, e_all, e_any, e_allN, e_allC, e_seqL, e_seqT, e_seqS, e_rg1, e_rg2, e_excN, e_excE, e_val, e_at0, e_at1, e_at2, e_get0, e_get1, e_get2, e_get3, e_get4, e_get5, e_get6, e_get7, e_set0, e_set1, e_set2, e_set3, e_set4, e_set5, e_set6, e_set7, e_ixn0, e_ixn1, e_ixn2, e_ex, List.replicate, List.cons_append, List.nil_append, List.map, fnB]
  by_cases hp : 0 < p
  · refine ite_t (decide_eq_true hp) (ev_is_integer ?_)
    simp only [gSeq, gIfS, gRet, gSet, gSetN, gSetIx, gDrop, gRaise, gNext, gApp, gFrz, gTry, gAsg, gFor, gRight, nCallW, zSeq, zRet, dVar, dOwn, dC, d2, d1, dN2, aNil, aCons, dTup, nLst, dCall, dBi, tVal, tNot', tAnd', tOr', dAnd, dOr, dNot, dIf, dChain, dCallK, iRg, iSeq, nLc, tTrue, gNm, wipeD, e_onD, e_onB, e_onI, e_slV, e_slO, e_slOo, e_slOw, e_gI, e_gI0, e_add, e_mul, e_mulL, e_neg, e_ixL, e_ixT, e_ixS, e_isi, e_isN, e_notN, e_isNe, e_isNi, e_isNb, e_isNl, e_isNt, e_isNs, e_lenL, e_lenT, e_lenS, e_abs, e_int, e_intB, e_max, e_min, e_gcd, e_tupL, e_tupT, e_repr, e_sum, e_all, e_any, e_allN, e_allC, e_seqL, e_seqT, e_seqS, e_rg1, e_rg2, e_excN, e_excE, e_val, e_at0, e_at1, e_at2, e_get0, e_get1, e_get2, e_get3, e_get4, e_get5, e_get6, e_get7, e_set0, e_set1, e_set2, e_set3, e_set4, e_set5, e_set6, e_set7, e_ixn0, e_ixn1, e_ixn2, e_ex, List.replicate, List.cons_append, List.nil_append, List.map, fnB]
    unfold isSc at h
    rw [if_pos hp] at h
    cases x with
    | int i =>
      simp only [isInt, if_true, gSeq, gIfS, gRet, gSet, gSetN, gSetIx, gDrop, gRaise, gNext, gApp, gFrz, gTry, gAsg, gFor, gRight, nCallW, zSeq, zRet, dVar, dOwn, dC, d2, d1, dN2, aNil, aCons, dTup, nLst, dCall, dBi, tVal, tNot', tAnd', tOr', dAnd, dOr, dNot, dIf, dChain, dCallK, iRg, iSeq, nLc, tTrue, gNm, wipeD, e_onD, e_onB, e_onI, e_slV, e_slO, e_slOo, e_slOw, e_gI, e_gI0, e_add, e_mul, e_mulL, e_neg, e_ixL, e_ixT, e_ixS, e_isi, e_isN, e_notN, e_isNe, e_isNi, e_isNb, e_isNl, e_isNt, e_isNs, e_lenL, e_lenT, e_lenS, e_abs, e_int, e_intB, e_max, e_min, e_gcd, e_tupL, e_tupT, e_repr, e_sum, e_all, e_any, e_allN, e_allC, e_seqL, e_seqT, e_seqS, e_rg1, e_rg2, e_excN, e_excE, e_val, e_at0, e_at1, e_at2, e_get0, e_get1, e_get2, e_get3, e_get4, e_get5, e_get6, e_get7, e_set0, e_set1, e_set2, e_set3, e_set4, e_set5, e_set6, e_set7, e_ixn0, e_ixn1, e_ixn2, e_ex, List.replicate, List.cons_append, List.nil_append, List.map, fnB]
      by_cases h0 : 0 ≤ i
      · refine ite_t (decide_eq_true h0) ?_
        simpa [h0] using h
      · refine ite_f (decide_eq_false h0) ?_
        simpa [h0] using h
    | _ => exact h
  · refine ite_f (decide_eq_false hp) (ev_is_tuple ?_)
    unfold isSc at h
    rw [if_neg hp] at h
    simp only [gSeq, gIfS, gRet, gSet, gSetN, gSetIx, gDrop, gRaise, gNext, gApp, gFrz, gTry, gAsg, gFor, gRight, nCallW, zSeq, zRet, dVar, dOwn, dC, d2, d1, dN2, aNil, aCons, dTup, nLst, dCall, dBi, tVal, tNot', tAnd', tOr', dAnd, dOr, dNot, dIf, dChain, dCallK, iRg, iSeq, nLc, tTrue, gNm, wipeD, e_onD, e_onB, e_onI, e_slV, e_slO, e_slOo, e_slOw, e_gI, e_gI0, e_add, e_mul, e_mulL, e_neg, e_ixL, e_ixT, e_ixS, e_isi, e_isN, e_notN, e_isNe, e_isNi, e_isNb, e_isNl, e_isNt, e_isNs, e_lenL, e_lenT, e_lenS, e_abs, e_int, e_intB, e_max, e_min, e_gcd, e_tupL, e_tupT, e_repr, e_sum, e_all, e_any, e_allN, e_allC, e_seqL, e_seqT, e_seqS, e_rg1, e_rg2, e_excN, e_excE, e_val, e_at0, e_at1, e_at2, e_get0, e_get1, e_get2, e_get3, e_get4, e_get5, e_get6, e_get7, e_set0, e_set1, e_set2, e_set3, e_set4, e_set5, e_set6, e_set7, e_ixn0, e_ixn1, e_ixn2, e_ex, List.replicate, List.cons_append, List.nil_append, List.map, fnB]
    cases x with
    | tuple xs =>
      match xs, h with
      | [], h =>
        simp only [gSeq, gIfS, gRet, gSet, gSetN, gSetIx, gDrop, gRaise, gNext, gApp, gFrz, gTry, gAsg, gFor, gRight, nCallW, zSeq, zRet, dVar, dOwn, dC, d2, d1, dN2, aNil, aCons, dTup, nLst, dCall, dBi, tVal, tNot', tAnd', tOr', dAnd, dOr, dNot, dIf, dChain, dCallK, iRg, iSeq, nLc, tTrue, gNm, wipeD, e_onD, e_onB, e_onI, e_slV, e_slO, e_slOo, e_slOw, e_gI, e_gI0, e_add, e_mul, e_mulL, e_neg, e_ixL, e_ixT, e_ixS, e_isi, e_isN, e_notN, e_isNe, e_isNi, e_isNb, e_isNl, e_isNt, e_isNs, e_lenL, e_lenT, e_lenS, e_abs, e_int, e_intB, e_max, e_min, e_gcd, e_tupL, e_tupT, e_repr, e_sum, e_all, e_any, e_allN, e_allC, e_seqL, e_seqT, e_seqS, e_rg1, e_rg2, e_excN, e_excE, e_val, e_at0, e_at1, e_at2, e_get0, e_get1, e_get2, e_get3, e_get4, e_get5, e_get6, e_get7, e_set0, e_set1, e_set2, e_set3, e_set4, e_set5, e_set6, e_set7, e_ixn0, e_ixn1, e_ixn2, e_ex, List.replicate, List.cons_append, List.nil_append, List.map, fnB]
        exact ite_t (by rfl) h
      | [u], h =>
        simp only [gSeq, gIfS, gRet, gSet, gSetN, gSetIx, gDrop, gRaise, gNext, gApp, gFrz, gTry, gAsg, gFor, gRight, nCallW, zSeq, zRet, dVar, dOwn, dC, d2, d1, dN2, aNil, aCons, dTup, nLst, dCall, dBi, tVal, tNot', tAnd', tOr', dAnd, dOr, dNot, dIf, dChain, dCallK, iRg, iSeq, nLc, tTrue, gNm, wipeD, e_onD, e_onB, e_onI, e_slV, e_slO, e_slOo, e_slOw, e_gI, e_gI0, e_add, e_mul, e_mulL, e_neg, e_ixL, e_ixT, e_ixS, e_isi, e_isN, e_notN, e_isNe, e_isNi, e_isNb, e_isNl, e_isNt, e_isNs, e_lenL, e_lenT, e_lenS, e_abs, e_int, e_intB, e_max, e_min, e_gcd, e_tupL, e_tupT, e_repr, e_sum, e_all, e_any, e_allN, e_allC, e_seqL, e_seqT, e_seqS, e_rg1, e_rg2, e_excN, e_excE, e_val, e_at0, e_at1, e_at2, e_get0, e_get1, e_get2, e_get3, e_get4, e_get5, e_get6, e_get7, e_set0, e_set1, e_set2, e_set3, e_set4, e_set5, e_set6, e_set7, e_ixn0, e_ixn1, e_ixn2, e_ex, List.replicate, List.cons_append, List.nil_append, List.map, fnB]
        exact ite_t (by rfl) (by rw [if_pos True.intro]; cases u <;> exact h)
      | [u, w], h =>
        simp only [gSeq, gIfS, gRet, gSet, gSetN, gSetIx, gDrop, gRaise, gNext, gApp, gFrz, gTry, gAsg, gFor, gRight, nCallW, zSeq, zRet, dVar, dOwn, dC, d2, d1, dN2, aNil, aCons, dTup, nLst, dCall, dBi, tVal, tNot', tAnd', tOr', dAnd, dOr, dNot, dIf, dChain, dCallK, iRg, iSeq, nLc, tTrue, gNm, wipeD, e_onD, e_onB, e_onI, e_slV, e_slO, e_slOo, e_slOw, e_gI, e_gI0, e_add, e_mul, e_mulL, e_neg, e_ixL, e_ixT, e_ixS, e_isi, e_isN, e_notN, e_isNe, e_isNi, e_isNb, e_isNl, e_isNt, e_isNs, e_lenL, e_lenT, e_lenS, e_abs, e_int, e_intB, e_max, e_min, e_gcd, e_tupL, e_tupT, e_repr, e_sum, e_all, e_any, e_allN, e_allC, e_seqL, e_seqT, e_seqS, e_rg1, e_rg2, e_excN, e_excE, e_val, e_at0, e_at1, e_at2, e_get0, e_get1, e_get2, e_get3, e_get4, e_get5, e_get6, e_get7, e_set0, e_set1, e_set2, e_set3, e_set4, e_set5, e_set6, e_set7, e_ixn0, e_ixn1, e_ixn2, e_ex, List.replicate, List.cons_append, List.nil_append, List.map, fnB]
        refine ite_f rfl (ev_is_integer ?_)
        simp only [gSeq, gIfS, gRet, gSet, gSetN, gSetIx, gDrop, gRaise, gNext, gApp, gFrz, gTry, gAsg, gFor, gRight, nCallW, zSeq, zRet, dVar, dOwn, dC, d2, d1, dN2, aNil, aCons, dTup, nLst, dCall, dBi, tVal, tNot', tAnd', tOr', dAnd, dOr, dNot, dIf, dChain, dCallK, iRg, iSeq, nLc, tTrue, gNm, wipeD, e_onD, e_onB, e_onI, e_slV, e_slO, e_slOo, e_slOw, e_gI, e_gI0, e_add, e_mul, e_mulL, e_neg, e_ixL, e_ixT, e_ixS, e_isi, e_isN, e_notN, e_isNe, e_isNi, e_isNb, e_isNl, e_isNt, e_isNs, e_lenL, e_lenT, e_lenS, e_abs, e_int, e_intB, e_max, e_min, e_gcd, e_tupL, e_tupT, e_repr, e_sum, e_all, e_any, e_allN, e_allC, e_seqL, e_seqT, e_seqS, e_rg1, e_rg2, e_excN, e_excE, e_val, e_at0, e_at1, e_at2, e_get0, e_get1, e_get2, e_get3, e_get4, e_get5, e_get6, e_get7, e_set0, e_set1, e_set2, e_set3, e_set4, e_set5, e_set6, e_set7, e_ixn0, e_ixn1, e_ixn2, e_ex, List.replicate, List.cons_append, List.nil_append, List.map, fnB]
        cases u with
        | int a =>
          refine ite_f rfl (ev_is_integer ?_)
          simp only [gSeq, gIfS, gRet, gSet, gSetN, gSetIx, gDrop, gRaise, gNext, gApp, gFrz, gTry, gAsg, gFor, gRight, nCallW, zSeq, zRet, dVar, dOwn, dC, d2, d1, dN2, aNil, aCons, dTup, nLst, dCall, dBi, tVal, tNot', tAnd', tOr', dAnd, dOr, dNot, dIf, dChain, dCallK, iRg, iSeq, nLc, tTrue, gNm, wipeD, e_onD, e_onB, e_onI, e_slV, e_slO, e_slOo, e_slOw, e_gI, e_gI0, e_add, e_mul, e_mulL, e_neg, e_ixL, e_ixT, e_ixS, e_isi, e_isN, e_notN, e_isNe, e_isNi, e_isNb, e_isNl, e_isNt, e_isNs, e_lenL, e_lenT, e_lenS, e_abs, e_int, e_intB, e_max, e_min, e_gcd, e_tupL, e_tupT, e_repr, e_sum, e_all, e_any, e_allN, e_allC, e_seqL, e_seqT, e_seqS, e_rg1, e_rg2, e_excN, e_excE, e_val, e_at0, e_at1, e_at2, e_get0, e_get1, e_get2, e_get3, e_get4, e_get5, e_get6, e_get7, e_set0, e_set1, e_set2, e_set3, e_set4, e_set5, e_set6, e_set7, e_ixn0, e_ixn1, e_ixn2, e_ex, List.replicate, List.cons_append, List.nil_append, List.map, fnB]
          cases w with
          | int b =>
            refine ite_f rfl ?_
            simp only [gSeq, gIfS, gRet, gSet, gSetN, gSetIx, gDrop, gRaise, gNext, gApp, gFrz, gTry, gAsg, gFor, gRight, nCallW, zSeq, zRet, dVar, dOwn, dC, d2, d1, dN2, aNil, aCons, dTup, nLst, dCall, dBi, tVal, tNot', tAnd', tOr', dAnd, dOr, dNot, dIf, dChain, dCallK, iRg, iSeq, nLc, tTrue, gNm, wipeD, e_onD, e_onB, e_onI, e_slV, e_slO, e_slOo, e_slOw, e_gI, e_gI0, e_add, e_mul, e_mulL, e_neg, e_ixL, e_ixT, e_ixS, e_isi, e_isN, e_notN, e_isNe, e_isNi, e_isNb, e_isNl, e_isNt, e_isNs, e_lenL, e_lenT, e_lenS, e_abs, e_int, e_intB, e_max, e_min, e_gcd, e_tupL, e_tupT, e_repr, e_sum, e_all, e_any, e_allN, e_allC, e_seqL, e_seqT, e_seqS, e_rg1, e_rg2, e_excN, e_excE, e_val, e_at0, e_at1, e_at2, e_get0, e_get1, e_get2, e_get3, e_get4, e_get5, e_get6, e_get7, e_set0, e_set1, e_set2, e_set3, e_set4, e_set5, e_set6, e_set7, e_ixn0, e_ixn1, e_ixn2, e_ex, List.replicate, List.cons_append, List.nil_append, List.map, fnB]
            have h : R (.d (.bool (decide (1 ≤ b) && decide (Nat.gcd a.natAbs b.natAbs = 1)))) := h
            by_cases h1 : 1 ≤ b
            · refine ite_t (decide_eq_true h1) ?_
              refine ⟨rfl, rfl, ?_⟩
              have e : PyData.eqv (.int ((Nat.gcd a.natAbs b.natAbs : Nat) : Int)) (.int 1) = decide (Nat.gcd a.natAbs b.natAbs = 1) := by
                rw [eqv_int]
                exact decide_eq_decide.mpr (by omega)
              show R (.d (.bool (PyData.eqv (.int ((Nat.gcd a.natAbs b.natAbs : Nat) : Int)) (.int 1))))
              rw [e]
              simpa [h1] using h
            · refine ite_f (decide_eq_false h1) ?_
              simpa [h1] using h
          | _ => exact h
        | _ => exact h
      | u :: w :: z :: r, h =>
        have e : isTup 2 2 (.tuple (u :: w :: z :: r)) = false := by
          show (decide ((2 : Int) ≤ ((u :: w :: z :: r).length : Int)) && decide (((u :: w :: z :: r).length : Int) ≤ 2)) = false
          have : ¬ (((u :: w :: z :: r).length : Int) ≤ 2) := by simp; omega
          rw [decide_eq_false this, Bool.and_false]
        simp only [gSeq, gIfS, gRet, gSet, gSetN, gSetIx, gDrop, gRaise, gNext, gApp, gFrz, gTry, gAsg, gFor, gRight, nCallW, zSeq, zRet, dVar, dOwn, dC, d2, d1, dN2, aNil, aCons, dTup, nLst, dCall, dBi, tVal, tNot', tAnd', tOr', dAnd, dOr, dNot, dIf, dChain, dCallK, iRg, iSeq, nLc, tTrue, gNm, wipeD, e_onD, e_onB, e_onI, e_slV, e_slO, e_slOo, e_slOw, e_gI, e_gI0, e_add, e_mul, e_mulL, e_neg, e_ixL, e_ixT, e_ixS, e_isi, e_isN, e_notN, e_isNe, e_isNi, e_isNb, e_isNl, e_isNt, e_isNs, e_lenL, e_lenT, e_lenS, e_abs, e_int, e_intB, e_max, e_min, e_gcd, e_tupL, e_tupT, e_repr, e_sum, e_all, e_any, e_allN, e_allC, e_seqL, e_seqT, e_seqS, e_rg1, e_rg2, e_excN, e_excE, e_val, e_at0, e_at1, e_at2, e_get0, e_get1, e_get2, e_get3, e_get4, e_get5, e_get6, e_get7, e_set0, e_set1, e_set2, e_set3, e_set4, e_set5, e_set6, e_set7, e_ixn0, e_ixn1, e_ixn2, e_ex, List.replicate, List.cons_append, List.nil_append, List.map, fnB]
        exact ite_t (by rw [e]; rfl) (by rw [if_pos True.intro]; cases u <;> first | exact h | (cases w <;> exact h))
    | _ => exact h
theorem ev_need_prime {x : PD} {R : DV → Prop} {E : EK} (ho : okD 9 x) (h : if isPrime x = true then R (.d .none) else E 0 x) : m_need_prime [.d x] R E := by
  refine ⟨rfl, ?_⟩
  simp only [g_need_prime, gSeq, gIfS, gRet, gSet, gSetN, gSetIx, gDrop, gRaise, gNext, gApp, gFrz, gTry, gAsg, gFor, gRight, nCallW, zSeq, zRet, dVar, dOwn, dC, d2, d1, dN2, aNil, aCons, dTup, nLst, dCall, dBi, tVal, tNot', tAnd', tOr', dAnd, dOr, dNot, dIf, dChain, dCallK, iRg, iSeq, nLc, tTrue, gNm, wipeD, e_onD, e_onB, e_onI, e_slV, e_slO, e_slOo, e_slOw, e_gI, e_gI0, e_add, e_mul, e_mulL, e_neg, e_ixL, e_ixT, e_ixS, e_isi, e_isN, e_notN, e_isNe, e_isNi, e_isNb, e_isNl, e_isNt, e_isNs, e_lenL, e_lenT, e_lenS, e_abs, e_int, e_intB, e_max, e_min, e_gcd, e_tupL, e_tupT, e_repr, e_sum, e_all, e_any, e_allN, e_allC, e_seqL, e_seqT, e_seqS, e_rg1, e_rg2, e_excN, e_excE, e_val, e_at0, e_at1, e_at2, e_get0, e_get1, e_get2, e_get3, e_get4, e_get5, e_get6, e_get7, e_set0, e_set1, e_set2, e_set3, e_set4, e_set5, e_set6, e_set7, e_ixn0, e_ixn1, e_ixn2, e_ex, List.replicate, List.cons_append, List.nil_append, List.map, fnB]
  refine ev_is_prime_in ?_
  simp only [gSeq, gIfS, gRet, gSet, gSetN, gSetIx, gDrop, gRaise, gNext, gApp, gFrz, gTry, gAsg, gFor, gRight, nCallW, zSeq, zRet, dVar, dOwn, dC, d2, d1, dN2, aNil, aCons, dTup, nLst, dCall, dBi, tVal, tNot', tAnd', tOr', dAnd, dOr, dNot, dIf, dChain, dCallK, iRg, iSeq, nLc, tTrue, gNm, wipeD, e_onD, e_onB, e_onI, e_slV, e_slO, e_slOo, e_slOw, e_gI, e_gI0, e_add, e_mul, e_mulL, e_neg, e_ixL, e_ixT, e_ixS, e_isi, e_isN, e_notN, e_isNe, e_isNi, e_isNb, e_isNl, e_isNt, e_isNs, e_lenL, e_lenT, e_lenS, e_abs, e_int, e_intB, e_max, e_min, e_gcd, e_tupL, e_tupT, e_repr, e_sum, e_all, e_any, e_allN, e_allC, e_seqL, e_seqT, e_seqS, e_rg1, e_rg2, e_excN, e_excE, e_val, e_at0, e_at1, e_at2, e_get0, e_get1, e_get2, e_get3, e_get4, e_get5, e_get6, e_get7, e_set0, e_set1, e_set2, e_set3, e_set4, e_set5, e_set6, e_set7, e_ixn0, e_ixn1, e_ixn2, e_ex, List.replicate, List.cons_append, List.nil_append, List.map, fnB]
  cases q : isPrime x with
  | true => rw [q] at h; exact h
  | false => rw [q] at h; exact ⟨x, rfl, ho, h⟩
theorem ev_need_scalar {p : Int} {x : PD} {R : DV → Prop} {E : EK} (ho : okD 9 x) (h : if isSc p x = true then R (.d .none) else E 1 x) : m_need_scalar [.d (.int p), .d x] R E := by
  refine ⟨rfl, ?_⟩
  simp only [g_need_scalar, gSeq, gIfS, gRet, gSet, gSetN, gSetIx, gDrop, gRaise, gNext, gApp, gFrz, gTry, gAsg, gFor, gRight, nCallW, zSeq, zRet, dVar, dOwn, dC, d2, d1, dN2, aNil, aCons, dTup, nLst, dCall, dBi, tVal, tNot', tAnd', tOr', dAnd, dOr, dNot, dIf, dChain, dCallK, iRg, iSeq, nLc, tTrue, gNm, wipeD, e_onD, e_onB, e_onI, e_slV, e_slO, e_slOo, e_slOw, e_gI, e_gI0, e_add, e_mul, e_mulL, e_neg, e_ixL, e_ixT, e_ixS, e_isi, e_isN, e_notN, e_isNe, e_isNi, e_isNb, e_isNl, e_isNt, e_isNs, e_lenL, e_lenT, e_lenS, e_abs, e_int, e_intB, e_max, e_min, e_gcd, e_tupL, e_tupT, e_repr, e_sum, e_all, e_any, e_allN, e_allC, e_seqL, e_seqT, e_seqS, e_rg1, e_rg2, e_excN, e_excE, e_val, e_at0, e_at1, e_at2, e_get0, e_get1, e_get2, e_get3, e_get4, e_get5, e_get6, e_get7, e_set0, e_set1, e_set2, e_set3, e_set4, e_set5, e_set6, e_set7, e_ixn0, e_ixn1, e_ixn2, e_ex, List.replicate, List.cons_append, List.nil_append, List.map, fnB]
  refine ev_is_scalar_in ?_
  simp only [gSeq, gIfS, gRet, gSet, gSetN, gSetIx, gDrop, gRaise, gNext, gApp, gFrz, gTry, gAsg, gFor, gRight, nCallW, zSeq, zRet, dVar, dOwn, dC, d2, d1, dN2, aNil, aCons, dTup, nLst, dCall, dBi, tVal, tNot', tAnd', tOr', dAnd, dOr, dNot, dIf, dChain, dCallK, iRg, iSeq, nLc, tTrue, gNm, wipeD, e_onD, e_onB, e_onI, e_slV, e_slO, e_slOo, e_slOw, e_gI, e_gI0, e_add, e_mul, e_mulL, e_neg, e_ixL, e_ixT, e_ixS, e_isi, e_isN, e_notN, e_isNe, e_isNi, e_isNb, e_isNl, e_isNt, e_isNs, e_lenL, e_lenT, e_lenS, e_abs, e_int, e_intB, e_max, e_min, e_gcd, e_tupL, e_tupT, e_repr, e_sum, e_all, e_any, e_allN, e_allC, e_seqL, e_seqT, e_seqS, e_rg1, e_rg2, e_excN, e_excE, e_val, e_at0, e_at1, e_at2, e_get0, e_get1, e_get2, e_get3, e_get4, e_get5, e_get6, e_get7, e_set0, e_set1, e_set2, e_set3, e_set4, e_set5, e_set6, e_set7, e_ixn0, e_ixn1, e_ixn2, e_ex, List.replicate, List.cons_append, List.nil_append, List.map, fnB]
  cases q : isSc p x with
  | true => rw [q] at h; exact h
  | false => rw [q] at h; exact ⟨x, rfl, ho, h⟩
theorem isSc_ok {p : Int} {b : Nat} {x : Sc} (h : OkS p b x) : isSc p x.d = true := by
  cases x with
  | z a =>
    have hp := h.1.pos
    simp [isSc, Sc.d, hp, h.2.1, h.2.2]
  | q r =>
    obtain ⟨rfl, _, _⟩ := h
    have := den_pos r
    have rd := r.reduced
    unfold Nat.Coprime at rd
    simp [isSc, Sc.d, fr, rd]
    omega
def Pz (p : Int) : Prop := p = 0 ∨ Pp p
theorem OkS.pz {p : Int} {b : Nat} {x : Sc} (h : OkS p b x) : Pz p := by
  cases x with
  | q r => exact .inl h.1
  | z a => exact .inr h.1
theorem isPrime_ok {p : Int} (h : Pz p) : isPrime (.int p) = true := by rcases h with rfl | rfl | rfl | rfl | rfl | rfl | rfl <;> decide
theorem ok_sc (x : Sc) : okD 9 x.d := by
  cases x with
  | q r => exact ⟨by show 2 ≤ 100000; decide, by intro y hy; simp at hy; rcases hy with rfl | rfl <;> trivial⟩
  | z a => trivial
theorem ev_need_scalars {p : Int} {b c : Nat} {x y : Sc} {R : DV → Prop} {E : EK} (hx : OkS p b x) (hy : OkS p c y) (h : R (.d .none)) : m_need_scalars [.d (.int p), .d x.d, .d y.d] R E := by
  refine ⟨rfl, ?_⟩
  simp only [g_need_scalars, gSeq, gIfS, gRet, gSet, gSetN, gSetIx, gDrop, gRaise, gNext, gApp, gFrz, gTry, gAsg, gFor, gRight, nCallW, zSeq, zRet, dVar, dOwn, dC, d2, d1, dN2, aNil, aCons, dTup, nLst, dCall, dBi, tVal, tNot', tAnd', tOr', dAnd, dOr, dNot, dIf, dChain, dCallK, iRg, iSeq, nLc, tTrue, gNm, wipeD, e_onD, e_onB, e_onI, e_slV, e_slO, e_slOo, e_slOw, e_gI, e_gI0, e_add, e_mul, e_mulL, e_neg, e_ixL, e_ixT, e_ixS, e_isi, e_isN, e_notN, e_isNe, e_isNi, e_isNb, e_isNl, e_isNt, e_isNs, e_lenL, e_lenT, e_lenS, e_abs, e_int, e_intB, e_max, e_min, e_gcd, e_tupL, e_tupT, e_repr, e_sum, e_all, e_any, e_allN, e_allC, e_seqL, e_seqT, e_seqS, e_rg1, e_rg2, e_excN, e_excE, e_val, e_at0, e_at1, e_at2, e_get0, e_get1, e_get2, e_get3, e_get4, e_get5, e_get6, e_get7, e_set0, e_set1, e_set2, e_set3, e_set4, e_set5, e_set6, e_set7, e_ixn0, e_ixn1, e_ixn2, e_ex, List.replicate, List.cons_append, List.nil_append, List.map, fnB]
  refine ev_need_prime trivial (ite_t (isPrime_ok hx.pz) ?_)
  refine ev_need_scalar (ok_sc x) (ite_t (isSc_ok hx) ?_)
  exact ev_need_scalar (ok_sc y) (ite_t (isSc_ok hy) h)
theorem ev_plus {p : Int} {b c : Nat} {x y : Sc} {R : DV → Prop} {E : EK} (hx : OkS p b x) (hy : OkS p c y) (hb : b ≤ 4000) (hc : c ≤ 4000) (h : R (.d (sAdd p x y).d)) : m_plus [.d (.int p), .d x.d, .d y.d] R E := by
  refine ⟨rfl, ?_⟩
  simp only [g_plus, gSeq, gIfS, gRet, gSet, gSetN, gSetIx, gDrop, gRaise, gNext, gApp, gFrz, gTry, gAsg, gFor, gRight, nCallW, zSeq, zRet, dVar, dOwn, dC, d2, d1, dN2, aNil, aCons, dTup, nLst, dCall, dBi, tVal, tNot', tAnd', tOr', dAnd, dOr, dNot, dIf, dChain, dCallK, iRg, iSeq, nLc, tTrue, gNm, wipeD, e_onD, e_onB, e_onI, e_slV, e_slO, e_slOo, e_slOw, e_gI, e_gI0, e_add, e_mul, e_mulL, e_neg, e_ixL, e_ixT, e_ixS, e_isi, e_isN, e_notN, e_isNe, e_isNi, e_isNb, e_isNl, e_isNt, e_isNs, e_lenL, e_lenT, e_lenS, e_abs, e_int, e_intB, e_max, e_min, e_gcd, e_tupL, e_tupT, e_repr, e_sum, e_all, e_any, e_allN, e_allC, e_seqL, e_seqT, e_seqS, e_rg1, e_rg2, e_excN, e_excE, e_val, e_at0, e_at1, e_at2, e_get0, e_get1, e_get2, e_get3, e_get4, e_get5, e_get6, e_get7, e_set0, e_set1, e_set2, e_set3, e_set4, e_set5, e_set6, e_set7, e_ixn0, e_ixn1, e_ixn2, e_ex, List.replicate, List.cons_append, List.nil_append, List.map, fnB]
  exact ev_need_scalars hx hy (ev_plus_in hx hy hb hc h)
theorem ev_times {p : Int} {b c : Nat} {x y : Sc} {R : DV → Prop} {E : EK} (hx : OkS p b x) (hy : OkS p c y) (hb : b ≤ 4000) (hc : c ≤ 4000) (h : R (.d (sMul p x y).d)) : m_times [.d (.int p), .d x.d, .d y.d] R E := by
  refine ⟨rfl, ?_⟩
  simp only [g_times, gSeq, gIfS, gRet, gSet, gSetN, gSetIx, gDrop, gRaise, gNext, gApp, gFrz, gTry, gAsg, gFor, gRight, nCallW, zSeq, zRet, dVar, dOwn, dC, d2, d1, dN2, aNil, aCons, dTup, nLst, dCall, dBi, tVal, tNot', tAnd', tOr', dAnd, dOr, dNot, dIf, dChain, dCallK, iRg, iSeq, nLc, tTrue, gNm, wipeD, e_onD, e_onB, e_onI, e_slV, e_slO, e_slOo, e_slOw, e_gI, e_gI0, e_add, e_mul, e_mulL, e_neg, e_ixL, e_ixT, e_ixS, e_isi, e_isN, e_notN, e_isNe, e_isNi, e_isNb, e_isNl, e_isNt, e_isNs, e_lenL, e_lenT, e_lenS, e_abs, e_int, e_intB, e_max, e_min, e_gcd, e_tupL, e_tupT, e_repr, e_sum, e_all, e_any, e_allN, e_allC, e_seqL, e_seqT, e_seqS, e_rg1, e_rg2, e_excN, e_excE, e_val, e_at0, e_at1, e_at2, e_get0, e_get1, e_get2, e_get3, e_get4, e_get5, e_get6, e_get7, e_set0, e_set1, e_set2, e_set3, e_set4, e_set5, e_set6, e_set7, e_ixn0, e_ixn1, e_ixn2, e_ex, List.replicate, List.cons_append, List.nil_append, List.map, fnB]
  exact ev_need_scalars hx hy (ev_times_in hx hy hb hc h)
theorem pz_cases {p : Int} (h : Pz p) : (p = 0 ∧ decide (p = 0) = true) ∨ (Pp p ∧ decide (p = 0) = false) := by
  rcases h with h | h
  · exact .inl ⟨h, by simp [h]⟩
  · exact .inr ⟨h, by have := h.pos; simp; omega⟩
theorem fr_int (k : Int) : fr (Rat.divInt k 1) = .tuple [.int k, .int 1] := by
  rw [fr_cut (by decide)]
  simp [sg]
theorem ev_scalar_in {p k : Int} {R : DV → Prop} {E : EK} (hp : Pz p) (h : R (.d (sNum p k).d)) : m_scalar_in [.d (.int p), .d (.int k)] R E := by
  refine ⟨rfl, ?_⟩
  simp only [g_scalar_in, gSeq, gIfS, gRet, gSet, gSetN, gSetIx, gDrop, gRaise, gNext, gApp, gFrz, gTry, gAsg, gFor, gRight, nCallW, zSeq, zRet, dVar, dOwn, dC, d2, d1, dN2, aNil, aCons, dTup, nLst, dCall, dBi, tVal, tNot', tAnd', tOr', dAnd, dOr, dNot, dIf, dChain, dCallK, iRg, iSeq, nLc, tTrue, gNm, wipeD, e_onD, e_onB, e_onI, e_slV, e_slO, e_slOo, e_slOw, e_gI, e_gI0, e_add, e_mul, e_mulL, e_neg, e_ixL, e_ixT, e_ixS, e_isi, e_isN, e_notN, e_isNe, e_isNi, e_isNb, e_isNl, e_isNt, e_isNs, e_lenL, e_lenT, e_lenS, e_abs, e_int, e_intB, e_max, e_min, e_gcd, e_tupL, e_tupT, e_repr, e_sum, e_all, e_any, e_allN, e_allC, e_seqL, e_seqT, e_seqS, e_rg1, e_rg2, e_excN, e_excE, e_val, e_at0, e_at1, e_at2, e_get0, e_get1, e_get2, e_get3, e_get4, e_get5, e_get6, e_get7, e_set0, e_set1, e_set2, e_set3, e_set4, e_set5, e_set6, e_set7, e_ixn0, e_ixn1, e_ixn2, e_ex, List.replicate, List.cons_append, List.nil_append, List.map, fnB]
  show Sh _ ∧ Sh _ ∧ onB (.d (.bool (PyData.eqv (.int p) (.int 0)))) _
  rw [eqv_int]
  refine ⟨rfl, rfl, ?_⟩
  rw [e_onB]
  rcases pz_cases hp with ⟨h0, hd⟩ | ⟨h0, hd⟩
  · refine ite_t hd ⟨by show 2 ≤ 100000; decide, ?_⟩
    unfold sNum at h
    rw [if_pos h0] at h
    rw [← fr_int k]
    exact h
  · refine ite_f hd ⟨by have := h0.pos; omega, ?_⟩
    unfold sNum at h
    rw [if_neg (of_decide_eq_false hd)] at h
    rw [fmod_e (by have := h0.pos; omega)]
    exact h
theorem ev_law_num {p k : Int} {R : DV → Prop} {E : EK} (hp : Pz p) (h : R (.d (sNum p k).d)) : m__law_num [.d (.int p), .d (.int k)] R E := by
  refine ⟨rfl, ?_⟩
  simp only [g__law_num, gSeq, gIfS, gRet, gSet, gSetN, gSetIx, gDrop, gRaise, gNext, gApp, gFrz, gTry, gAsg, gFor, gRight, nCallW, zSeq, zRet, dVar, dOwn, dC, d2, d1, dN2, aNil, aCons, dTup, nLst, dCall, dBi, tVal, tNot', tAnd', tOr', dAnd, dOr, dNot, dIf, dChain, dCallK, iRg, iSeq, nLc, tTrue, gNm, wipeD, e_onD, e_onB, e_onI, e_slV, e_slO, e_slOo, e_slOw, e_gI, e_gI0, e_add, e_mul, e_mulL, e_neg, e_ixL, e_ixT, e_ixS, e_isi, e_isN, e_notN, e_isNe, e_isNi, e_isNb, e_isNl, e_isNt, e_isNs, e_lenL, e_lenT, e_lenS, e_abs, e_int, e_intB, e_max, e_min, e_gcd, e_tupL, e_tupT, e_repr, e_sum, e_all, e_any, e_allN, e_allC, e_seqL, e_seqT, e_seqS, e_rg1, e_rg2, e_excN, e_excE, e_val, e_at0, e_at1, e_at2, e_get0, e_get1, e_get2, e_get3, e_get4, e_get5, e_get6, e_get7, e_set0, e_set1, e_set2, e_set3, e_set4, e_set5, e_set6, e_set7, e_ixn0, e_ixn1, e_ixn2, e_ex, List.replicate, List.cons_append, List.nil_append, List.map, fnB]
  show Sh _ ∧ Sh _ ∧ onB (.d (.bool (PyData.eqv (.int p) (.int 0)))) _
  rw [eqv_int]
  refine ⟨rfl, rfl, ?_⟩
  rw [e_onB]
  rcases pz_cases hp with ⟨h0, hd⟩ | ⟨h0, hd⟩
  · refine ite_t hd ⟨by show 2 ≤ 100000; decide, ?_⟩
    unfold sNum at h
    rw [if_pos h0] at h
    rw [← fr_int k]
    exact h
  · refine ite_f hd ⟨by have := h0.pos; omega, ?_⟩
    unfold sNum at h
    rw [if_neg (of_decide_eq_false hd)] at h
    rw [fmod_e (by have := h0.pos; omega)]
    exact h
theorem ev_scalar_of {p k : Int} {R : DV → Prop} {E : EK} (hp : Pz p) (h : R (.d (sNum p k).d)) : m_scalar_of [.d (.int p), .d (.int k)] R E := by
  refine ⟨rfl, ?_⟩
  simp only [g_scalar_of, gSeq, gIfS, gRet, gSet, gSetN, gSetIx, gDrop, gRaise, gNext, gApp, gFrz, gTry, gAsg, gFor, gRight, nCallW, zSeq, zRet, dVar, dOwn, dC, d2, d1, dN2, aNil, aCons, dTup, nLst, dCall, dBi, tVal, tNot', tAnd', tOr', dAnd, dOr, dNot, dIf, dChain, dCallK, iRg, iSeq, nLc, tTrue, gNm, wipeD, e_onD, e_onB, e_onI, e_slV, e_slO, e_slOo, e_slOw, e_gI, e_gI0, e_add, e_mul, e_mulL, e_neg, e_ixL, e_ixT, e_ixS, e_isi, e_isN, e_notN, e_isNe, e_isNi, e_isNb, e_isNl, e_isNt, e_isNs, e_lenL, e_lenT, e_lenS, e_abs, e_int, e_intB, e_max, e_min, e_gcd, e_tupL, e_tupT, e_repr, e_sum, e_all, e_any, e_allN, e_allC, e_seqL, e_seqT, e_seqS, e_rg1, e_rg2, e_excN, e_excE, e_val, e_at0, e_at1, e_at2, e_get0, e_get1, e_get2, e_get3, e_get4, e_get5, e_get6, e_get7, e_set0, e_set1, e_set2, e_set3, e_set4, e_set5, e_set6, e_set7, e_ixn0, e_ixn1, e_ixn2, e_ex, List.replicate, List.cons_append, List.nil_append, List.map, fnB]
  exact ev_need_prime trivial (ite_t (isPrime_ok hp) (ev_scalar_in hp h))
theorem ev_negative_in {p : Int} {b : Nat} {x : Sc} {R : DV → Prop} {E : EK} (hx : OkS p b x) (h : R (.d (sNeg p x).d)) : m_negative_in [.d (.int p), .d x.d] R E := by
  refine ⟨rfl, ?_⟩
  simp only [g_negative_in, gSeq, gIfS, gRet, gSet, gSetN, gSetIx, gDrop, gRaise, gNext, gApp, gFrz, gTry, gAsg, gFor, gRight, nCallW, zSeq, zRet, dVar, dOwn, dC, d2, d1, dN2, aNil, aCons, dTup, nLst, dCall, dBi, tVal, tNot', tAnd', tOr', dAnd, dOr, dNot, dIf, dChain, dCallK, iRg, iSeq, nLc, tTrue, gNm, wipeD, e_onD, e_onB, e_onI, e_slV, e_slO, e_slOo, e_slOw, e_gI, e_gI0, e_add, e_mul, e_mulL, e_neg, e_ixL, e_ixT, e_ixS, e_isi, e_isN, e_notN, e_isNe, e_isNi, e_isNb, e_isNl, e_isNt, e_isNs, e_lenL, e_lenT, e_lenS, e_abs, e_int, e_intB, e_max, e_min, e_gcd, e_tupL, e_tupT, e_repr, e_sum, e_all, e_any, e_allN, e_allC, e_seqL, e_seqT, e_seqS, e_rg1, e_rg2, e_excN, e_excE, e_val, e_at0, e_at1, e_at2, e_get0, e_get1, e_get2, e_get3, e_get4, e_get5, e_get6, e_get7, e_set0, e_set1, e_set2, e_set3, e_set4, e_set5, e_set6, e_set7, e_ixn0, e_ixn1, e_ixn2, e_ex, List.replicate, List.cons_append, List.nil_append, List.map, fnB]
  show Sh _ ∧ Sh _ ∧ onB (.d (.bool (PyData.eqv (.int p) (.int 0)))) _
  rw [eqv_int]
  refine ⟨rfl, rfl, ?_⟩
  rw [e_onB]
  cases x with
  | q r =>
    obtain ⟨rfl, _, _⟩ := hx
    refine ite_t rfl ?_
    simp only [Sc.d, fr, gSeq, gIfS, gRet, gSet, gSetN, gSetIx, gDrop, gRaise, gNext, gApp, gFrz, gTry, gAsg, gFor, gRight, nCallW, zSeq, zRet, dVar, dOwn, dC, d2, d1, dN2, aNil, aCons, dTup, nLst, dCall, dBi, tVal, tNot', tAnd', tOr', dAnd, dOr, dNot, dIf, dChain, dCallK, iRg, iSeq, nLc, tTrue, gNm, wipeD, e_onD, e_onB, e_onI, e_slV, e_slO, e_slOo, e_slOw, e_gI, e_gI0, e_add, e_mul, e_mulL, e_neg, e_ixL, e_ixT, e_ixS, e_isi, e_isN, e_notN, e_isNe, e_isNi, e_isNb, e_isNl, e_isNt, e_isNs, e_lenL, e_lenT, e_lenS, e_abs, e_int, e_intB, e_max, e_min, e_gcd, e_tupL, e_tupT, e_repr, e_sum, e_all, e_any, e_allN, e_allC, e_seqL, e_seqT, e_seqS, e_rg1, e_rg2, e_excN, e_excE, e_val, e_at0, e_at1, e_at2, e_get0, e_get1, e_get2, e_get3, e_get4, e_get5, e_get6, e_get7, e_set0, e_set1, e_set2, e_set3, e_set4, e_set5, e_set6, e_set7, e_ixn0, e_ixn1, e_ixn2, e_ex, List.replicate, List.cons_append, List.nil_append, List.map, fnB]
    refine ⟨by show 2 ≤ 100000; decide, ?_⟩
    have e : (sNeg 0 (.q r)).d = .tuple [.int (-r.num), .int (r.den : Int)] := by
      simp [sNeg, Sc.d, fr, Rat.neg_num, Rat.neg_den]
    rw [e] at h
    exact h
  | z a =>
    have hp := hx.1.pos
    refine ite_f (decide_eq_false (by omega)) ?_
    simp only [Sc.d, gSeq, gIfS, gRet, gSet, gSetN, gSetIx, gDrop, gRaise, gNext, gApp, gFrz, gTry, gAsg, gFor, gRight, nCallW, zSeq, zRet, dVar, dOwn, dC, d2, d1, dN2, aNil, aCons, dTup, nLst, dCall, dBi, tVal, tNot', tAnd', tOr', dAnd, dOr, dNot, dIf, dChain, dCallK, iRg, iSeq, nLc, tTrue, gNm, wipeD, e_onD, e_onB, e_onI, e_slV, e_slO, e_slOo, e_slOw, e_gI, e_gI0, e_add, e_mul, e_mulL, e_neg, e_ixL, e_ixT, e_ixS, e_isi, e_isN, e_notN, e_isNe, e_isNi, e_isNb, e_isNl, e_isNt, e_isNs, e_lenL, e_lenT, e_lenS, e_abs, e_int, e_intB, e_max, e_min, e_gcd, e_tupL, e_tupT, e_repr, e_sum, e_all, e_any, e_allN, e_allC, e_seqL, e_seqT, e_seqS, e_rg1, e_rg2, e_excN, e_excE, e_val, e_at0, e_at1, e_at2, e_get0, e_get1, e_get2, e_get3, e_get4, e_get5, e_get6, e_get7, e_set0, e_set1, e_set2, e_set3, e_set4, e_set5, e_set6, e_set7, e_ixn0, e_ixn1, e_ixn2, e_ex, List.replicate, List.cons_append, List.nil_append, List.map, fnB]
    rw [fmod_e (by omega)]
    exact ⟨by omega, h⟩
theorem ev_negative {p : Int} {b : Nat} {x : Sc} {R : DV → Prop} {E : EK} (hx : OkS p b x) (h : R (.d (sNeg p x).d)) : m_negative [.d (.int p), .d x.d] R E := by
  refine ⟨rfl, ?_⟩
  simp only [g_negative, gSeq, gIfS, gRet, gSet, gSetN, gSetIx, gDrop, gRaise, gNext, gApp, gFrz, gTry, gAsg, gFor, gRight, nCallW, zSeq, zRet, dVar, dOwn, dC, d2, d1, dN2, aNil, aCons, dTup, nLst, dCall, dBi, tVal, tNot', tAnd', tOr', dAnd, dOr, dNot, dIf, dChain, dCallK, iRg, iSeq, nLc, tTrue, gNm, wipeD, e_onD, e_onB, e_onI, e_slV, e_slO, e_slOo, e_slOw, e_gI, e_gI0, e_add, e_mul, e_mulL, e_neg, e_ixL, e_ixT, e_ixS, e_isi, e_isN, e_notN, e_isNe, e_isNi, e_isNb, e_isNl, e_isNt, e_isNs, e_lenL, e_lenT, e_lenS, e_abs, e_int, e_intB, e_max, e_min, e_gcd, e_tupL, e_tupT, e_repr, e_sum, e_all, e_any, e_allN, e_allC, e_seqL, e_seqT, e_seqS, e_rg1, e_rg2, e_excN, e_excE, e_val, e_at0, e_at1, e_at2, e_get0, e_get1, e_get2, e_get3, e_get4, e_get5, e_get6, e_get7, e_set0, e_set1, e_set2, e_set3, e_set4, e_set5, e_set6, e_set7, e_ixn0, e_ixn1, e_ixn2, e_ex, List.replicate, List.cons_append, List.nil_append, List.map, fnB]
  refine ev_need_prime trivial (ite_t (isPrime_ok hx.pz) ?_)
  exact ev_need_scalar (ok_sc x) (ite_t (isSc_ok hx) (ev_negative_in hx h))

theorem atI_mem {α : Type} {xs : List α} {k : Int} (h0 : 0 ≤ k) (h : k < (xs.length : Int)) : ∃ y, atI xs k = some y ∧ y ∈ xs := by
  have hk : k.toNat < xs.length := by omega
  refine ⟨xs[k.toNat], ?_, List.getElem_mem hk⟩
  unfold atI ixN
  rw [if_pos h0, if_pos h]
  exact List.getElem?_eq_getElem hk
def rngI (lo hi : Int) : List Int := (List.range (hi - lo).toNat).map fun i : Nat => lo + (i : Int)
theorem rngD_eq (lo hi : Int) : rngD lo hi = (rngI lo hi).map PyData.int := by
  unfold rngD rngI
  rw [List.map_map]
  rfl
theorem filt (h : PD → Option PD) (P : Int → Bool) (hh : ∀ k, h (.int k) = if P k = true then some (.int k) else none) : ∀ l : List Int, (l.map PyData.int).filterMap h = (l.filter P).map PyData.int
  | [] => rfl
  | k :: l => by
    rw [List.map_cons, List.filterMap_cons, hh, List.filter_cons]
    cases P k with
    | true => simp [filt h P hh l]
    | false => simp [filt h P hh l]
def zl (p a : Int) : List Int := (rngI 1 p).filter fun k => decide (k * a % p = 1)
def zinv (p a : Int) : Int := (zl p a).headD 0
def zchk : Bool := [2, 3, 5, 7, 11, 13].all fun p : Int => (List.range 13).all fun n => decide (n = 0) || decide (p ≤ (n : Int)) || (match zl p n with
  | z :: _ => decide (0 ≤ z) && decide (z < p) && decide ((n : Int) * z % p = 1)
  | [] => false)
theorem zchk_ok : zchk = true := by decide +kernel
theorem zl_ok {p a : Int} (hp : Pp p) (h0 : 0 < a) (h1 : a < p) : ∃ z t, zl p a = z :: t ∧ 0 ≤ z ∧ z < p ∧ a * z % p = 1 := by
  have h := zchk_ok
  unfold zchk at h
  rw [List.all_eq_true] at h
  have hm : p ∈ ([2, 3, 5, 7, 11, 13] : List Int) := by rcases hp with rfl | rfl | rfl | rfl | rfl | rfl <;> decide
  have h2 := h p hm
  rw [List.all_eq_true] at h2
  have l13 := hp.le
  have h3 := h2 a.toNat (by rw [List.mem_range]; omega)
  have e : ((a.toNat : Nat) : Int) = a := by omega
  rw [e] at h3
  have n0 : decide (a.toNat = 0) = false := decide_eq_false (by omega)
  have n1 : decide (p ≤ a) = false := decide_eq_false (by omega)
  rw [n0, n1, Bool.false_or, Bool.false_or] at h3
  cases q : zl p a with
  | nil => rw [q] at h3; cases h3
  | cons z t =>
    rw [q] at h3
    have h3 : (decide (0 ≤ z) && decide (z < p) && decide (a * z % p = 1)) = true := h3
    simp only [Bool.and_eq_true, decide_eq_true_eq] at h3
    exact ⟨z, t, rfl, h3.1.1, h3.1.2, h3.2⟩
def sInv (p : Int) : Sc → Sc
  | .q r => .q r⁻¹
  | .z a => .z (zinv p a)
def nz : Sc → Prop
  | .q r => r ≠ 0
  | .z a => a ≠ 0
theorem num_ne {r : Rat} (h : r ≠ 0) : r.num ≠ 0 := fun z => h (Rat.num_eq_zero.mp z)
theorem OkS.inv {p : Int} {b : Nat} {x : Sc} (hx : OkS p b x) (hz : nz x) : OkS p b (sInv p x) := by
  cases x with
  | q r =>
    refine ⟨hx.1, ?_⟩
    show MB _ (r⁻¹).num ∧ MB _ ((r⁻¹).den : Int)
    rw [Rat.inv_def]
    exact mb_divInt (num_ne hz) hx.2.2 hx.2.1
  | z a =>
    have hz : a ≠ 0 := hz
    obtain ⟨z, t, e, h0, h1, _⟩ := zl_ok hx.1 (by have := hx.2.1; omega) hx.2.2
    refine ⟨hx.1, ?_, ?_⟩ <;> (show _ ; unfold zinv; rw [e])
    · exact h0
    · exact h1
theorem ev_inverse_in {p : Int} {b : Nat} {x : Sc} {R : DV → Prop} {E : EK} (hx : OkS p b x) (hb : b ≤ 9000) (hz : nz x) (h : R (.d (sInv p x).d)) : m_inverse_in [.d (.int p), .d x.d] R E := by
  refine ⟨rfl, ?_⟩
  simp only [g_inverse_in, gSeq, gIfS, gRet, gSet, gSetN, gSetIx, gDrop, gRaise, gNext, gApp, gFrz, gTry, gAsg, gFor, gRight, nCallW, zSeq, zRet, dVar, dOwn, dC, d2, d1, dN2, aNil, aCons, dTup, nLst, dCall, dBi, tVal, tNot', tAnd', tOr', dAnd, dOr, dNot, dIf, dChain, dCallK, iRg, iSeq, nLc, tTrue, gNm, wipeD, e_onD, e_onB, e_onI, e_slV, e_slO, e_slOo, e_slOw, e_gI, e_gI0, e_add, e_mul, e_mulL, e_neg, e_ixL, e_ixT, e_ixS, e_isi, e_isN, e_notN, e_isNe, e_isNi, e_isNb, e_isNl, e_isNt, e_isNs, e_lenL, e_lenT, e_lenS, e_abs, e_int, e_intB, e_max, e_min, e_gcd, e_tupL, e_tupT, e_repr, e_sum, e_all, e_any, e_allN, e_allC, e_seqL, e_seqT, e_seqS, e_rg1, e_rg2, e_excN, e_excE, e_val, e_at0, e_at1, e_at2, e_get0, e_get1, e_get2, e_get3, e_get4, e_get5, e_get6, e_get7, e_set0, e_set1, e_set2, e_set3, e_set4, e_set5, e_set6, e_set7, e_ixn0, e_ixn1, e_ixn2, e_ex, List.replicate, List.cons_append, List.nil_append, List.map, fnB]
  show Sh _ ∧ Sh _ ∧ onB (.d (.bool (PyData.eqv (.int p) (.int 0)))) _
  rw [eqv_int]
  refine ⟨rfl, rfl, ?_⟩
  rw [e_onB]
  cases x with
  | q r =>
    obtain ⟨rfl, hn, hd⟩ := hx
    refine ite_t rfl ?_
    simp only [Sc.d, fr, gSeq, gIfS, gRet, gSet, gSetN, gSetIx, gDrop, gRaise, gNext, gApp, gFrz, gTry, gAsg, gFor, gRight, nCallW, zSeq, zRet, dVar, dOwn, dC, d2, d1, dN2, aNil, aCons, dTup, nLst, dCall, dBi, tVal, tNot', tAnd', tOr', dAnd, dOr, dNot, dIf, dChain, dCallK, iRg, iSeq, nLc, tTrue, gNm, wipeD, e_onD, e_onB, e_onI, e_slV, e_slO, e_slOo, e_slOw, e_gI, e_gI0, e_add, e_mul, e_mulL, e_neg, e_ixL, e_ixT, e_ixS, e_isi, e_isN, e_notN, e_isNe, e_isNi, e_isNb, e_isNl, e_isNt, e_isNs, e_lenL, e_lenT, e_lenS, e_abs, e_int, e_intB, e_max, e_min, e_gcd, e_tupL, e_tupT, e_repr, e_sum, e_all, e_any, e_allN, e_allC, e_seqL, e_seqT, e_seqS, e_rg1, e_rg2, e_excN, e_excE, e_val, e_at0, e_at1, e_at2, e_get0, e_get1, e_get2, e_get3, e_get4, e_get5, e_get6, e_get7, e_set0, e_set1, e_set2, e_set3, e_set4, e_set5, e_set6, e_set7, e_ixn0, e_ixn1, e_ixn2, e_ex, List.replicate, List.cons_append, List.nil_append, List.map, fnB]
    refine ev_fraction_in (num_ne hz) hn hb ?_
    rw [← Rat.inv_def]
    exact h
  | z a =>
    have hp := hx.1.pos
    have l13 := hx.1.le
    have hz : a ≠ 0 := hz
    obtain ⟨z, t, e, _⟩ := zl_ok hx.1 (by have := hx.2.1; omega) hx.2.2
    refine ite_f (decide_eq_false (by omega)) ?_
    simp only [Sc.d, gSeq, gIfS, gRet, gSet, gSetN, gSetIx, gDrop, gRaise, gNext, gApp, gFrz, gTry, gAsg, gFor, gRight, nCallW, zSeq, zRet, dVar, dOwn, dC, d2, d1, dN2, aNil, aCons, dTup, nLst, dCall, dBi, tVal, tNot', tAnd', tOr', dAnd, dOr, dNot, dIf, dChain, dCallK, iRg, iSeq, nLc, tTrue, gNm, wipeD, e_onD, e_onB, e_onI, e_slV, e_slO, e_slOo, e_slOw, e_gI, e_gI0, e_add, e_mul, e_mulL, e_neg, e_ixL, e_ixT, e_ixS, e_isi, e_isN, e_notN, e_isNe, e_isNi, e_isNb, e_isNl, e_isNt, e_isNs, e_lenL, e_lenT, e_lenS, e_abs, e_int, e_intB, e_max, e_min, e_gcd, e_tupL, e_tupT, e_repr, e_sum, e_all, e_any, e_allN, e_allC, e_seqL, e_seqT, e_seqS, e_rg1, e_rg2, e_excN, e_excE, e_val, e_at0, e_at1, e_at2, e_get0, e_get1, e_get2, e_get3, e_get4, e_get5, e_get6, e_get7, e_set0, e_set1, e_set2, e_set3, e_set4, e_set5, e_set6, e_set7, e_ixn0, e_ixn1, e_ixn2, e_ex, List.replicate, List.cons_append, List.nil_append, List.map, fnB]
    refine ⟨⟨⟨by decide, by decide⟩, by omega, by omega⟩, by rw [rngD_len]; omega, ?_⟩
    refine lcD_of (fun x => match x with
      | .int k => if decide (k * a % p = 1) = true then some (.int k) else none
      | _ => none) (fun x hxm P hP => ?_) ?_
    · rw [rngD_eq] at hxm
      obtain ⟨k, hk, rfl⟩ := List.mem_map.mp hxm
      have hk2 : 0 ≤ k ∧ k < 13 := by
        unfold rngI at hk
        obtain ⟨i, hi, rfl⟩ := List.mem_map.mp hk
        rw [List.mem_range] at hi
        omega
      simp only [gSeq, gIfS, gRet, gSet, gSetN, gSetIx, gDrop, gRaise, gNext, gApp, gFrz, gTry, gAsg, gFor, gRight, nCallW, zSeq, zRet, dVar, dOwn, dC, d2, d1, dN2, aNil, aCons, dTup, nLst, dCall, dBi, tVal, tNot', tAnd', tOr', dAnd, dOr, dNot, dIf, dChain, dCallK, iRg, iSeq, nLc, tTrue, gNm, wipeD, e_onD, e_onB, e_onI, e_slV, e_slO, e_slOo, e_slOw, e_gI, e_gI0, e_add, e_mul, e_mulL, e_neg, e_ixL, e_ixT, e_ixS, e_isi, e_isN, e_notN, e_isNe, e_isNi, e_isNb, e_isNl, e_isNt, e_isNs, e_lenL, e_lenT, e_lenS, e_abs, e_int, e_intB, e_max, e_min, e_gcd, e_tupL, e_tupT, e_repr, e_sum, e_all, e_any, e_allN, e_allC, e_seqL, e_seqT, e_seqS, e_rg1, e_rg2, e_excN, e_excE, e_val, e_at0, e_at1, e_at2, e_get0, e_get1, e_get2, e_get3, e_get4, e_get5, e_get6, e_get7, e_set0, e_set1, e_set2, e_set3, e_set4, e_set5, e_set6, e_set7, e_ixn0, e_ixn1, e_ixn2, e_ex, List.replicate, List.cons_append, List.nil_append, List.map, fnB]
      refine ⟨MB.ok (a := 4) (b := 4) (MB.of hk2.1 (by omega)) (MB.of hx.2.1 (by have := hx.2.2; omega)) (by decide), by omega, ?_⟩
      show Sh _ ∧ Sh _ ∧ onB (.d (.bool (PyData.eqv (.int ((k * a).fmod p)) (.int 1)))) _
      rw [eqv_int, fmod_e (by omega)]
      refine ⟨rfl, rfl, ?_⟩
      rw [e_onB]
      have hP : P (if decide (k * a % p = 1) = true then some (.int k) else none) := hP
      by_cases q : decide (k * a % p = 1) = true
      · rw [if_pos q] at hP ⊢
        exact hP
      · rw [if_neg q] at hP ⊢
        exact hP
    · rw [rngD_eq, filt _ (fun k => decide (k * a % p = 1)) (fun _ => rfl)]
      show ∃ y, atI ((zl p a).map PyData.int) 0 = some y ∧ _
      rw [e]
      refine ⟨_, e_at0, ?_⟩
      have h : R (.d (.int (zinv p a))) := h
      unfold zinv at h
      rw [e] at h
      exact h
theorem ev_law_over {p : Int} {b : Nat} {x : Sc} {R : DV → Prop} {E : EK} (hx : OkS p b x) (hb : b ≤ 9000) (hz : nz x) (h : R (.d (sInv p x).d)) : m__law_over [.d (.int p), .d x.d] R E := by
  refine ⟨rfl, ?_⟩
  simp only [g__law_over, gSeq, gIfS, gRet, gSet, gSetN, gSetIx, gDrop, gRaise, gNext, gApp, gFrz, gTry, gAsg, gFor, gRight, nCallW, zSeq, zRet, dVar, dOwn, dC, d2, d1, dN2, aNil, aCons, dTup, nLst, dCall, dBi, tVal, tNot', tAnd', tOr', dAnd, dOr, dNot, dIf, dChain, dCallK, iRg, iSeq, nLc, tTrue, gNm, wipeD, e_onD, e_onB, e_onI, e_slV, e_slO, e_slOo, e_slOw, e_gI, e_gI0, e_add, e_mul, e_mulL, e_neg, e_ixL, e_ixT, e_ixS, e_isi, e_isN, e_notN, e_isNe, e_isNi, e_isNb, e_isNl, e_isNt, e_isNs, e_lenL, e_lenT, e_lenS, e_abs, e_int, e_intB, e_max, e_min, e_gcd, e_tupL, e_tupT, e_repr, e_sum, e_all, e_any, e_allN, e_allC, e_seqL, e_seqT, e_seqS, e_rg1, e_rg2, e_excN, e_excE, e_val, e_at0, e_at1, e_at2, e_get0, e_get1, e_get2, e_get3, e_get4, e_get5, e_get6, e_get7, e_set0, e_set1, e_set2, e_set3, e_set4, e_set5, e_set6, e_set7, e_ixn0, e_ixn1, e_ixn2, e_ex, List.replicate, List.cons_append, List.nil_append, List.map, fnB]
  show Sh _ ∧ Sh _ ∧ onB (.d (.bool (PyData.eqv (.int p) (.int 0)))) _
  rw [eqv_int]
  refine ⟨rfl, rfl, ?_⟩
  rw [e_onB]
  cases x with
  | q r =>
    obtain ⟨rfl, hn, hd⟩ := hx
    refine ite_t rfl ?_
    simp only [Sc.d, fr, gSeq, gIfS, gRet, gSet, gSetN, gSetIx, gDrop, gRaise, gNext, gApp, gFrz, gTry, gAsg, gFor, gRight, nCallW, zSeq, zRet, dVar, dOwn, dC, d2, d1, dN2, aNil, aCons, dTup, nLst, dCall, dBi, tVal, tNot', tAnd', tOr', dAnd, dOr, dNot, dIf, dChain, dCallK, iRg, iSeq, nLc, tTrue, gNm, wipeD, e_onD, e_onB, e_onI, e_slV, e_slO, e_slOo, e_slOw, e_gI, e_gI0, e_add, e_mul, e_mulL, e_neg, e_ixL, e_ixT, e_ixS, e_isi, e_isN, e_notN, e_isNe, e_isNi, e_isNb, e_isNl, e_isNt, e_isNs, e_lenL, e_lenT, e_lenS, e_abs, e_int, e_intB, e_max, e_min, e_gcd, e_tupL, e_tupT, e_repr, e_sum, e_all, e_any, e_allN, e_allC, e_seqL, e_seqT, e_seqS, e_rg1, e_rg2, e_excN, e_excE, e_val, e_at0, e_at1, e_at2, e_get0, e_get1, e_get2, e_get3, e_get4, e_get5, e_get6, e_get7, e_set0, e_set1, e_set2, e_set3, e_set4, e_set5, e_set6, e_set7, e_ixn0, e_ixn1, e_ixn2, e_ex, List.replicate, List.cons_append, List.nil_append, List.map, fnB]
    refine ev_law_cut (num_ne hz) hn hb (hd.le hb) ?_
    rw [← Rat.inv_def]
    exact h
  | z a =>
    have hp := hx.1.pos
    have l13 := hx.1.le
    have hz : a ≠ 0 := hz
    obtain ⟨z, t, e, _⟩ := zl_ok hx.1 (by have := hx.2.1; omega) hx.2.2
    refine ite_f (decide_eq_false (by omega)) ?_
    simp only [Sc.d, gSeq, gIfS, gRet, gSet, gSetN, gSetIx, gDrop, gRaise, gNext, gApp, gFrz, gTry, gAsg, gFor, gRight, nCallW, zSeq, zRet, dVar, dOwn, dC, d2, d1, dN2, aNil, aCons, dTup, nLst, dCall, dBi, tVal, tNot', tAnd', tOr', dAnd, dOr, dNot, dIf, dChain, dCallK, iRg, iSeq, nLc, tTrue, gNm, wipeD, e_onD, e_onB, e_onI, e_slV, e_slO, e_slOo, e_slOw, e_gI, e_gI0, e_add, e_mul, e_mulL, e_neg, e_ixL, e_ixT, e_ixS, e_isi, e_isN, e_notN, e_isNe, e_isNi, e_isNb, e_isNl, e_isNt, e_isNs, e_lenL, e_lenT, e_lenS, e_abs, e_int, e_intB, e_max, e_min, e_gcd, e_tupL, e_tupT, e_repr, e_sum, e_all, e_any, e_allN, e_allC, e_seqL, e_seqT, e_seqS, e_rg1, e_rg2, e_excN, e_excE, e_val, e_at0, e_at1, e_at2, e_get0, e_get1, e_get2, e_get3, e_get4, e_get5, e_get6, e_get7, e_set0, e_set1, e_set2, e_set3, e_set4, e_set5, e_set6, e_set7, e_ixn0, e_ixn1, e_ixn2, e_ex, List.replicate, List.cons_append, List.nil_append, List.map, fnB]
    refine ⟨⟨⟨by decide, by decide⟩, by omega, by omega⟩, by rw [rngD_len]; omega, ?_⟩
    refine lcD_of (fun x => match x with
      | .int k => if decide (k * a % p = 1) = true then some (.int k) else none
      | _ => none) (fun x hxm P hP => ?_) ?_
    · rw [rngD_eq] at hxm
      obtain ⟨k, hk, rfl⟩ := List.mem_map.mp hxm
      have hk2 : 0 ≤ k ∧ k < 13 := by
        unfold rngI at hk
        obtain ⟨i, hi, rfl⟩ := List.mem_map.mp hk
        rw [List.mem_range] at hi
        omega
      simp only [gSeq, gIfS, gRet, gSet, gSetN, gSetIx, gDrop, gRaise, gNext, gApp, gFrz, gTry, gAsg, gFor, gRight, nCallW, zSeq, zRet, dVar, dOwn, dC, d2, d1, dN2, aNil, aCons, dTup, nLst, dCall, dBi, tVal, tNot', tAnd', tOr', dAnd, dOr, dNot, dIf, dChain, dCallK, iRg, iSeq, nLc, tTrue, gNm, wipeD, e_onD, e_onB, e_onI, e_slV, e_slO, e_slOo, e_slOw, e_gI, e_gI0, e_add, e_mul, e_mulL, e_neg, e_ixL, e_ixT, e_ixS, e_isi, e_isN, e_notN, e_isNe, e_isNi, e_isNb, e_isNl, e_isNt, e_isNs, e_lenL, e_lenT, e_lenS, e_abs, e_int, e_intB, e_max, e_min, e_gcd, e_tupL, e_tupT, e_repr, e_sum, e_all, e_any, e_allN, e_allC, e_seqL, e_seqT, e_seqS, e_rg1, e_rg2, e_excN, e_excE, e_val, e_at0, e_at1, e_at2, e_get0, e_get1, e_get2, e_get3, e_get4, e_get5, e_get6, e_get7, e_set0, e_set1, e_set2, e_set3, e_set4, e_set5, e_set6, e_set7, e_ixn0, e_ixn1, e_ixn2, e_ex, List.replicate, List.cons_append, List.nil_append, List.map, fnB]
      refine ⟨MB.ok (a := 4) (b := 4) (MB.of hk2.1 (by omega)) (MB.of hx.2.1 (by have := hx.2.2; omega)) (by decide), by omega, ?_⟩
      show Sh _ ∧ Sh _ ∧ onB (.d (.bool (PyData.eqv (.int ((k * a).fmod p)) (.int 1)))) _
      rw [eqv_int, fmod_e (by omega)]
      refine ⟨rfl, rfl, ?_⟩
      rw [e_onB]
      have hP : P (if decide (k * a % p = 1) = true then some (.int k) else none) := hP
      by_cases q : decide (k * a % p = 1) = true
      · rw [if_pos q] at hP ⊢
        exact hP
      · rw [if_neg q] at hP ⊢
        exact hP
    · rw [rngD_eq, filt _ (fun k => decide (k * a % p = 1)) (fun _ => rfl)]
      show ∃ y, atI ((zl p a).map PyData.int) 0 = some y ∧ _
      rw [e]
      refine ⟨_, e_at0, ?_⟩
      have h : R (.d (.int (zinv p a))) := h
      unfold zinv at h
      rw [e] at h
      exact h
theorem ev_law_plus {p : Int} {b c : Nat} {x y : Sc} {R : DV → Prop} {E : EK} (hx : OkS p b x) (hy : OkS p c y) (hb : b ≤ 4000) (hc : c ≤ 4000) (h : R (.d (sAdd p x y).d)) : m__law_plus [.d (.int p), .d x.d, .d y.d] R E := by
  refine ⟨rfl, ?_⟩
  cases x with
  | q r =>
    cases y with
    | z a =>
      have := hy.1.pos
      have := hx.1
      omega
    | q s =>
      obtain ⟨rfl, hn, hd⟩ := hx
      obtain ⟨_, hn2, hd2⟩ := hy
      simp only [g__law_plus, Sc.d, fr, gSeq, gIfS, gRet, gSet, gSetN, gSetIx, gDrop, gRaise, gNext, gApp, gFrz, gTry, gAsg, gFor, gRight, nCallW, zSeq, zRet, dVar, dOwn, dC, d2, d1, dN2, aNil, aCons, dTup, nLst, dCall, dBi, tVal, tNot', tAnd', tOr', dAnd, dOr, dNot, dIf, dChain, dCallK, iRg, iSeq, nLc, tTrue, gNm, wipeD, e_onD, e_onB, e_onI, e_slV, e_slO, e_slOo, e_slOw, e_gI, e_gI0, e_add, e_mul, e_mulL, e_neg, e_ixL, e_ixT, e_ixS, e_isi, e_isN, e_notN, e_isNe, e_isNi, e_isNb, e_isNl, e_isNt, e_isNs, e_lenL, e_lenT, e_lenS, e_abs, e_int, e_intB, e_max, e_min, e_gcd, e_tupL, e_tupT, e_repr, e_sum, e_all, e_any, e_allN, e_allC, e_seqL, e_seqT, e_seqS, e_rg1, e_rg2, e_excN, e_excE, e_val, e_at0, e_at1, e_at2, e_get0, e_get1, e_get2, e_get3, e_get4, e_get5, e_get6, e_get7, e_set0, e_set1, e_set2, e_set3, e_set4, e_set5, e_set6, e_set7, e_ixn0, e_ixn1, e_ixn2, e_ex, List.replicate, List.cons_append, List.nil_append, List.map, fnB]
      rw [if_neg (by decide)]
      refine ⟨hn.ok hd2 (by omega), hn2.ok hd (by omega), hd.ok hd2 (by omega), ev_law_cut (dd_ne r s) (hd.mul hd2) (by omega) (MB.le (MB.add (hn.mul hd2) ((hn2.mul hd).le (by omega))) (by omega)) ?_⟩
      rw [← add_div]
      exact h
  | z a =>
    cases y with
    | q s =>
      have := hx.1.pos
      have := hy.1
      omega
    | z c =>
      have hp := hx.1.pos
      simp only [g__law_plus, Sc.d, gSeq, gIfS, gRet, gSet, gSetN, gSetIx, gDrop, gRaise, gNext, gApp, gFrz, gTry, gAsg, gFor, gRight, nCallW, zSeq, zRet, dVar, dOwn, dC, d2, d1, dN2, aNil, aCons, dTup, nLst, dCall, dBi, tVal, tNot', tAnd', tOr', dAnd, dOr, dNot, dIf, dChain, dCallK, iRg, iSeq, nLc, tTrue, gNm, wipeD, e_onD, e_onB, e_onI, e_slV, e_slO, e_slOo, e_slOw, e_gI, e_gI0, e_add, e_mul, e_mulL, e_neg, e_ixL, e_ixT, e_ixS, e_isi, e_isN, e_notN, e_isNe, e_isNi, e_isNb, e_isNl, e_isNt, e_isNs, e_lenL, e_lenT, e_lenS, e_abs, e_int, e_intB, e_max, e_min, e_gcd, e_tupL, e_tupT, e_repr, e_sum, e_all, e_any, e_allN, e_allC, e_seqL, e_seqT, e_seqS, e_rg1, e_rg2, e_excN, e_excE, e_val, e_at0, e_at1, e_at2, e_get0, e_get1, e_get2, e_get3, e_get4, e_get5, e_get6, e_get7, e_set0, e_set1, e_set2, e_set3, e_set4, e_set5, e_set6, e_set7, e_ixn0, e_ixn1, e_ixn2, e_ex, List.replicate, List.cons_append, List.nil_append, List.map, fnB]
      rw [if_pos (decide_eq_true hp), fmod_e (by omega)]
      exact ⟨by omega, h⟩
theorem ev_law_times {p : Int} {b c : Nat} {x y : Sc} {R : DV → Prop} {E : EK} (hx : OkS p b x) (hy : OkS p c y) (hb : b ≤ 4000) (hc : c ≤ 4000) (h : R (.d (sMul p x y).d)) : m__law_times [.d (.int p), .d x.d, .d y.d] R E := by
  refine ⟨rfl, ?_⟩
  cases x with
  | q r =>
    cases y with
    | z a =>
      have := hy.1.pos
      have := hx.1
      omega
    | q s =>
      obtain ⟨rfl, hn, hd⟩ := hx
      obtain ⟨_, hn2, hd2⟩ := hy
      simp only [g__law_times, Sc.d, fr, gSeq, gIfS, gRet, gSet, gSetN, gSetIx, gDrop, gRaise, gNext, gApp, gFrz, gTry, gAsg, gFor, gRight, nCallW, zSeq, zRet, dVar, dOwn, dC, d2, d1, dN2, aNil, aCons, dTup, nLst, dCall, dBi, tVal, tNot', tAnd', tOr', dAnd, dOr, dNot, dIf, dChain, dCallK, iRg, iSeq, nLc, tTrue, gNm, wipeD, e_onD, e_onB, e_onI, e_slV, e_slO, e_slOo, e_slOw, e_gI, e_gI0, e_add, e_mul, e_mulL, e_neg, e_ixL, e_ixT, e_ixS, e_isi, e_isN, e_notN, e_isNe, e_isNi, e_isNb, e_isNl, e_isNt, e_isNs, e_lenL, e_lenT, e_lenS, e_abs, e_int, e_intB, e_max, e_min, e_gcd, e_tupL, e_tupT, e_repr, e_sum, e_all, e_any, e_allN, e_allC, e_seqL, e_seqT, e_seqS, e_rg1, e_rg2, e_excN, e_excE, e_val, e_at0, e_at1, e_at2, e_get0, e_get1, e_get2, e_get3, e_get4, e_get5, e_get6, e_get7, e_set0, e_set1, e_set2, e_set3, e_set4, e_set5, e_set6, e_set7, e_ixn0, e_ixn1, e_ixn2, e_ex, List.replicate, List.cons_append, List.nil_append, List.map, fnB]
      rw [if_neg (by decide)]
      refine ⟨hn.ok hn2 (by omega), hd.ok hd2 (by omega), ev_law_cut (dd_ne r s) (hd.mul hd2) (by omega) (MB.le (hn.mul hn2) (by omega)) ?_⟩
      rw [← mul_div]
      exact h
  | z a =>
    cases y with
    | q s =>
      have := hx.1.pos
      have := hy.1
      omega
    | z c =>
      have hp := hx.1.pos
      have l13 := hx.1.le
      simp only [g__law_times, Sc.d, gSeq, gIfS, gRet, gSet, gSetN, gSetIx, gDrop, gRaise, gNext, gApp, gFrz, gTry, gAsg, gFor, gRight, nCallW, zSeq, zRet, dVar, dOwn, dC, d2, d1, dN2, aNil, aCons, dTup, nLst, dCall, dBi, tVal, tNot', tAnd', tOr', dAnd, dOr, dNot, dIf, dChain, dCallK, iRg, iSeq, nLc, tTrue, gNm, wipeD, e_onD, e_onB, e_onI, e_slV, e_slO, e_slOo, e_slOw, e_gI, e_gI0, e_add, e_mul, e_mulL, e_neg, e_ixL, e_ixT, e_ixS, e_isi, e_isN, e_notN, e_isNe, e_isNi, e_isNb, e_isNl, e_isNt, e_isNs, e_lenL, e_lenT, e_lenS, e_abs, e_int, e_intB, e_max, e_min, e_gcd, e_tupL, e_tupT, e_repr, e_sum, e_all, e_any, e_allN, e_allC, e_seqL, e_seqT, e_seqS, e_rg1, e_rg2, e_excN, e_excE, e_val, e_at0, e_at1, e_at2, e_get0, e_get1, e_get2, e_get3, e_get4, e_get5, e_get6, e_get7, e_set0, e_set1, e_set2, e_set3, e_set4, e_set5, e_set6, e_set7, e_ixn0, e_ixn1, e_ixn2, e_ex, List.replicate, List.cons_append, List.nil_append, List.map, fnB]
      rw [if_pos (decide_eq_true hp), fmod_e (by omega)]
      exact ⟨MB.ok (a := 4) (b := 4) (MB.of hx.2.1 (by have := hx.2.2; omega)) (MB.of hy.2.1 (by have := hy.2.2; omega)) (by decide), by omega, h⟩

/-! texts are of true code points -/
abbrev SOk (x : Str) : Prop := PyData.strOk x = true
theorem ok_app {a b : Str} (h : SOk a) (k : SOk b) : SOk (a ++ b) := by
  show ((a.cps ++ b.cps).all fun c => decide (c < 0x110000)) = true
  rw [Array.all_append]
  have h : (a.cps.all fun c => decide (c < 0x110000)) = true := h
  have k : (b.cps.all fun c => decide (c < 0x110000)) = true := k
  rw [h, k]
  rfl
theorem ok_of (s : String) : SOk (Str.ofString s) := by
  show ((Str.ofString s).cps.all fun c => decide (c < 0x110000)) = true
  rw [PySem.Str.ofString_eq_toList]
  rw [Array.all_eq_true_iff_forall_mem]
  intro c hc
  have hc : c ∈ (s.toList.map Char.toNat).toArray := hc
  rw [List.mem_toArray, List.mem_map] at hc
  obtain ⟨ch, _, rfl⟩ := hc
  have v := ch.valid
  rw [decide_eq_true_eq]
  rcases v with v | v
  · have v : ch.toNat < 0xd800 := v
    omega
  · exact v.2
theorem ok_textFrom : ∀ (ts : List Str) (k : Nat) (acc : Str), SOk acc → (∀ t ∈ ts, SOk t) → SOk (textFrom k acc ts)
  | [], _, _, h, _ => h
  | t :: ts, k, acc, h, ht => ok_textFrom ts (k + 1) _ (ok_app (ok_app h (ok_of _)) (ht t (by simp))) fun u hu => ht u (by simp [hu])
theorem ok_listText {ts : List Str} (h : ∀ t ∈ ts, SOk t) : SOk (listText ts) := ok_app (ok_textFrom ts 0 _ (ok_of _) h) (ok_of _)
theorem ok_join : ∀ {ts : List Str}, (∀ t ∈ ts, SOk t) → SOk (Str.join ", " ts)
  | [], _ => by decide +kernel
  | [t], h => h t (by simp)
  | t :: u :: r, h => ok_app (ok_app (h t (by simp)) (ok_of _)) (ok_join fun v hv => h v (by simp at hv ⊢; right; exact hv))
theorem ok_tupleText {ts : List Str} (h : ∀ t ∈ ts, SOk t) : SOk (tupleText ts) := ok_app (ok_app (ok_of _) (ok_join h)) (ok_of _)
/-! what repr and == take: depth at most e, weight at most n -/
structure Rp (e n : Nat) (d : PD) : Prop where
  sh : d.showable = true
  ls : d.leavesShort 600 = true
  cl : d.canLay0 = true
  dp : d.depth ≤ e
  wt : d.weight ≤ n
  st : SOk d.shown
structure RpA (e n : Nat) (xs : List PD) : Prop where
  sh : PyData.showableAll xs = true
  ls : PyData.leavesShortAll 600 xs = true
  cl : PyData.canLayAll0 xs = true
  dp : PyData.depthAll xs ≤ e
  wt : PyData.weightAll xs ≤ n
  st : ∀ t ∈ PyData.shownAll xs, SOk t
theorem Rp.le {e n e' n' : Nat} {d : PD} (h : Rp e n d) (h1 : e ≤ e') (h2 : n ≤ n') : Rp e' n' d := ⟨h.sh, h.ls, h.cl, Nat.le_trans h.dp h1, Nat.le_trans h.wt h2, h.st⟩
theorem Rp.none {e n : Nat} : Rp e n .none := ⟨rfl, rfl, by simp only [PyData.canLay0], Nat.zero_le _, Nat.zero_le _, ok_of _⟩
theorem Rp.bool {e n : Nat} {b : Bool} : Rp e n (.bool b) := ⟨rfl, rfl, by simp only [PyData.canLay0], Nat.zero_le _, Nat.zero_le _, by cases b <;> exact ok_of _⟩
theorem Rp.int {e a : Nat} {i : Int} (h : MB a i) (ha : a ≤ 1900) : Rp e a (.int i) := by
  have hl : i ≠ 0 → i.natAbs.log2 < a := fun z => (Nat.log2_lt (by omega)).mpr h
  refine ⟨?_, ?_, by simp only [PyData.canLay0], Nat.zero_le _, ?_, ok_of _⟩
  · simp only [PyData.showable, decide_eq_true_eq]
    by_cases z : i = 0
    · subst z; decide
    · have := hl z; omega
  · simp only [PyData.leavesShort, decide_eq_true_eq]
    show (Str.ofString (toString i)).length ≤ 600
    rw [PySem.ofString_length]
    have h2 : i.natAbs < 10 ^ 572 := Nat.lt_of_lt_of_le (MB.le h ha) (by decide +kernel)
    have := PySem.int_text_length_le10 (k := 572) (by decide) h2
    omega
  · simp only [PyData.weight]
    by_cases z : i = 0
    · subst z; simp
    · have := hl z
      have e : (i == 0) = false := by simpa using z
      rw [e]
      simp
      omega
theorem RpA.nil {e : Nat} : RpA e 0 [] := ⟨rfl, rfl, rfl, Nat.zero_le _, Nat.zero_le _, fun _ h => nomatch h⟩
theorem RpA.cons {e n m : Nat} {x : PD} {xs : List PD} (h : Rp e n x) (t : RpA e m xs) : RpA e (n + 1 + m) (x :: xs) := by
  refine ⟨?_, ?_, ?_, ?_, ?_, fun u hu => by
    rcases List.mem_cons.mp (show u ∈ x.shown :: PyData.shownAll xs from hu) with rfl | hu
    · exact h.st
    · exact t.st u hu⟩
  · simp only [PyData.showableAll, h.sh, t.sh, Bool.and_self]
  · simp only [PyData.leavesShortAll, h.ls, t.ls, Bool.and_self]
  · simp only [PyData.canLayAll0, h.cl, t.cl, Bool.and_self]
  · simp only [PyData.depthAll]
    have := h.dp; have := t.dp
    omega
  · simp only [PyData.weightAll]
    have := h.wt; have := t.wt
    omega
theorem Rp.list {e n : Nat} {xs : List PD} (h : RpA e n xs) : Rp (e + 1) n (.list xs) := by
  refine ⟨?_, ?_, ?_, ?_, ?_, ok_listText h.st⟩
  · simp only [PyData.showable, h.sh]
  · simp only [PyData.leavesShort, h.ls]
  · simp only [PyData.canLay0, h.cl]
  · simp only [PyData.depth]; have := h.dp; omega
  · simp only [PyData.weight]; exact h.wt
theorem Rp.tup {e n : Nat} {xs : List PD} (h : RpA e n xs) : Rp (e + 1) n (.tuple xs) := by
  refine ⟨?_, ?_, ?_, ?_, ?_, ok_tupleText h.st⟩
  · simp only [PyData.showable, h.sh]
  · simp only [PyData.leavesShort, h.ls]
  · simp only [PyData.canLay0, h.cl]
  · simp only [PyData.depth]; have := h.dp; omega
  · simp only [PyData.weight]; exact h.wt
theorem Rp.ok {e n : Nat} {d : PD} (h : Rp e n d) (he : e ≤ 60) (hn : n ≤ 20000) : ROk d := by
  refine ⟨h.sh, ?_, by have := h.dp; omega⟩
  have q := PyData.shown_le 600 (by decide) d h.ls
  have w := h.wt
  have s : (16777216 : Nat) ≤ sizeLine := by decide
  have : (600 + 2) * d.weight ≤ 602 * 20000 := Nat.mul_le_mul (Nat.le_refl _) (by omega)
  omega
theorem Rp.sh' {e n : Nat} {d : PD} (h : Rp e n d) (he : e ≤ 60) : Sh d := by
  show (d.canLay0 && decide (d.depth ≤ 64)) = true
  rw [h.cl, Bool.true_and, decide_eq_true_eq]
  have := h.dp
  omega
theorem Rp.str {e n : Nat} {x : Str} (h : (PyData.str x).leavesShort 600 = true) (h2 : (PyData.str x).canLay0 = true) (h3 : (PyData.str x).weight ≤ n) (h4 : SOk (PyData.str x).shown) : Rp e n (.str x) := ⟨rfl, h, h2, Nat.zero_le _, h3, h4⟩
/-- what == takes -/
structure Cp (e : Nat) (d : PD) : Prop where
  cl : d.canLay0 = true
  dp : d.depth ≤ e
structure CpA (e : Nat) (xs : List PD) : Prop where
  cl : PyData.canLayAll0 xs = true
  dp : PyData.depthAll xs ≤ e
theorem Rp.cp {e n : Nat} {d : PD} (h : Rp e n d) : Cp e d := ⟨h.cl, h.dp⟩
theorem Cp.le {e e' : Nat} {d : PD} (h : Cp e d) (l : e ≤ e') : Cp e' d := ⟨h.cl, Nat.le_trans h.dp l⟩
theorem Cp.int {e : Nat} {i : Int} : Cp e (.int i) := ⟨by simp only [PyData.canLay0], Nat.zero_le _⟩
theorem Cp.bool {e : Nat} {i : Bool} : Cp e (.bool i) := ⟨by simp only [PyData.canLay0], Nat.zero_le _⟩
theorem Cp.none {e : Nat} : Cp e .none := ⟨by simp only [PyData.canLay0], Nat.zero_le _⟩
theorem Cp.str {e : Nat} {x : Str} (h : SOk x) : Cp e (.str x) := ⟨by simpa only [PyData.canLay0] using h, Nat.zero_le _⟩
theorem CpA.nil {e : Nat} : CpA e [] := ⟨rfl, Nat.zero_le _⟩
theorem CpA.cons {e : Nat} {x : PD} {xs : List PD} (h : Cp e x) (t : CpA e xs) : CpA e (x :: xs) := by
  refine ⟨?_, ?_⟩
  · simp only [PyData.canLayAll0, h.cl, t.cl, Bool.and_self]
  · simp only [PyData.depthAll]; have := h.dp; have := t.dp; omega
theorem Cp.list {e : Nat} {xs : List PD} (h : CpA e xs) : Cp (e + 1) (.list xs) := by
  refine ⟨?_, ?_⟩
  · simp only [PyData.canLay0, h.cl]
  · simp only [PyData.depth]; have := h.dp; omega
theorem Cp.tup {e : Nat} {xs : List PD} (h : CpA e xs) : Cp (e + 1) (.tuple xs) := by
  refine ⟨?_, ?_⟩
  · simp only [PyData.canLay0, h.cl]
  · simp only [PyData.depth]; have := h.dp; omega
theorem Cp.sh' {e : Nat} {d : PD} (h : Cp e d) (he : e ≤ 60) : Sh d := by
  show (d.canLay0 && decide (d.depth ≤ 64)) = true
  rw [h.cl, Bool.true_and, decide_eq_true_eq]
  have := h.dp
  omega
/-- a == a -/
theorem e_eqR {e : Nat} {d : PD} {R : DV → Prop} (h : Cp e d) (he : e ≤ 60) (hR : R (.d (.bool true))) : gEq (.d d) (.d d) R := by
  have r := PySem.SeqAt.eqv_refl d h.cl
  cases d with
  | str x =>
    show R (.d (.bool (decide (x = x))))
    simpa using hR
  | _ => exact ⟨h.sh' he, h.sh' he, by rw [r]; exact hR⟩
theorem e_neR {e : Nat} {d : PD} {R : DV → Prop} (h : Cp e d) (he : e ≤ 60) (hR : R (.d (.bool false))) : gNe (.d d) (.d d) R := by
  have r := PySem.SeqAt.eqv_refl d h.cl
  cases d with
  | str x =>
    show R (.d (.bool (!decide (x = x))))
    simpa using hR
  | _ => exact ⟨h.sh' he, h.sh' he, by rw [r]; exact hR⟩
theorem e_neS {x y : Str} {R : DV → Prop} : gNe (.d (.str x)) (.d (.str y)) R = R (.d (.bool (!decide (x = y)))) := rfl
/-- repr of the same -/
theorem e_reprNe {d : PD} {R : DV → Prop} (hR : R (.d (.bool false))) : gNe (.d (.str d.shown)) (.d (.str d.shown)) R := by
  rw [e_neS]
  simpa using hR
theorem e_eqI {i j : Int} {R : DV → Prop} : gEq (.d (.int i)) (.d (.int j)) R = R (.d (.bool (decide (i = j)))) := by
  apply propext
  show (Sh (.int i) ∧ Sh (.int j) ∧ R (.d (.bool (PyData.eqv (.int i) (.int j))))) ↔ _
  have e : PyData.eqv (.int i) (.int j) = decide (i = j) := by rw [Bool.eq_iff_iff]; simp [PyData.eqv]
  rw [e]
  exact ⟨fun h => h.2.2, fun h => ⟨rfl, rfl, h⟩⟩
theorem e_neI {i j : Int} {R : DV → Prop} : gNe (.d (.int i)) (.d (.int j)) R = R (.d (.bool (!decide (i = j)))) := by
  apply propext
  show (Sh (.int i) ∧ Sh (.int j) ∧ R (.d (.bool (!PyData.eqv (.int i) (.int j))))) ↔ _
  have e : PyData.eqv (.int i) (.int j) = decide (i = j) := by rw [Bool.eq_iff_iff]; simp [PyData.eqv]
  rw [e]
  exact ⟨fun h => h.2.2, fun h => ⟨rfl, rfl, h⟩⟩
theorem len_weight : ∀ xs : List PD, xs.length ≤ PyData.weightAll xs
  | [] => Nat.le_refl _
  | x :: xs => by
    simp only [PyData.weightAll, List.length_cons]
    have := len_weight xs
    omega
theorem mem_weight : ∀ {xs : List PD} {y : PD}, y ∈ xs → y.weight ≤ PyData.weightAll xs ∧ y.depth ≤ PyData.depthAll xs
  | x :: xs, y, h => by
    simp only [PyData.weightAll, PyData.depthAll]
    rcases List.mem_cons.mp h with rfl | h
    · omega
    · have := mem_weight h
      omega
theorem okD_of : ∀ (j : Nat) (d : PD), d.depth ≤ j → d.weight ≤ 100000 → okD j d
  | j, .none, _, _ => by cases j <;> trivial
  | j, .bool _, _, _ => by cases j <;> trivial
  | j, .int _, _, _ => by cases j <;> trivial
  | j, .str _, _, _ => by cases j <;> trivial
  | j, .dict _, _, _ => by cases j <;> trivial
  | 0, .list xs, h, _ => by simp only [PyData.depth] at h; omega
  | 0, .tuple xs, h, _ => by simp only [PyData.depth] at h; omega
  | j + 1, .list xs, h, w => by
    simp only [PyData.depth] at h
    simp only [PyData.weight] at w
    have l := len_weight xs
    exact ⟨by omega, fun y hy => okD_of j y (by have := (mem_weight hy).2; omega) (by have := (mem_weight hy).1; omega)⟩
  | j + 1, .tuple xs, h, w => by
    simp only [PyData.depth] at h
    simp only [PyData.weight] at w
    have l := len_weight xs
    exact ⟨by omega, fun y hy => okD_of j y (by have := (mem_weight hy).2; omega) (by have := (mem_weight hy).1; omega)⟩
theorem Rp.ok9 {e n : Nat} {d : PD} (h : Rp e n d) (he : e ≤ 9) (hn : n ≤ 100000) : okD 9 d := okD_of 9 d (by have := h.dp; omega) (by have := h.wt; omega)
theorem mb_weight {i : Int} {n : Nat} (h : (PyData.int i).weight ≤ n) : MB n i := by
  unfold MB
  simp only [PyData.weight] at h
  by_cases z : i = 0
  · subst z; exact Nat.pos_of_ne_zero (by simp)
  · have e : (i == 0) = false := by simpa using z
    rw [e] at h
    have h : i.natAbs.log2 + 1 ≤ n := h
    exact Nat.lt_of_lt_of_le Nat.lt_log2_self (Nat.pow_le_pow_right (by decide) h)
theorem eqv_t2 (x y a b : Int) : PyData.eqv (.tuple [.int x, .int y]) (.tuple [.int a, .int b]) = (decide (x = a) && decide (y = b)) := by
  rw [Bool.eq_iff_iff]
  simp [PyData.eqv, PyData.eqvAll]

theorem ev_inverse {p : Int} {b : Nat} {x : Sc} {R : DV → Prop} {E : EK} (hx : OkS p b x) (hb : b ≤ 1800) (hz : nz x) (h : R (.d (sInv p x).d)) : m_inverse [.d (.int p), .d x.d] R E := by
  refine ⟨rfl, ?_⟩
  simp only [g_inverse, gSeq, gIfS, gRet, gSet, gSetN, gSetIx, gDrop, gRaise, gNext, gApp, gFrz, gTry, gAsg, gFor, gRight, nCallW, zSeq, zRet, dVar, dOwn, dC, d2, d1, dN2, aNil, aCons, dTup, nLst, dCall, dBi, tVal, tNot', tAnd', tOr', dAnd, dOr, dNot, dIf, dChain, dCallK, iRg, iSeq, nLc, tTrue, gNm, wipeD, e_onD, e_onB, e_onI, e_slV, e_slO, e_slOo, e_slOw, e_gI, e_gI0, e_add, e_mul, e_mulL, e_neg, e_ixL, e_ixT, e_ixS, e_isi, e_isN, e_notN, e_isNe, e_isNi, e_isNb, e_isNl, e_isNt, e_isNs, e_lenL, e_lenT, e_lenS, e_abs, e_int, e_intB, e_max, e_min, e_gcd, e_tupL, e_tupT, e_repr, e_sum, e_all, e_any, e_allN, e_allC, e_seqL, e_seqT, e_seqS, e_rg1, e_rg2, e_excN, e_excE, e_val, e_at0, e_at1, e_at2, e_get0, e_get1, e_get2, e_get3, e_get4, e_get5, e_get6, e_get7, e_set0, e_set1, e_set2, e_set3, e_set4, e_set5, e_set6, e_set7, e_ixn0, e_ixn1, e_ixn2, e_ex, List.replicate, List.cons_append, List.nil_append, List.map, fnB]
  refine ev_need_prime trivial (ite_t (isPrime_ok hx.pz) ?_)
  refine ev_need_scalar (ok_sc x) (ite_t (isSc_ok hx) ?_)
  refine ev_scalar_in hx.pz ?_
  have key : ∀ Q : DV → Prop, Q (.d (.bool false)) → gEq (.d x.d) (.d (sNum p 0).d) Q := by
    intro Q hQ
    cases x with
    | q r =>
      obtain ⟨rfl, hn, hd⟩ := hx
      have e : (sNum 0 0).d = .tuple [.int 0, .int 1] := fr_int 0
      rw [e]
      have rx : Rp 1 4000 (fr r) := (Rp.tup (RpA.cons (Rp.int hn (by omega)) (RpA.cons (Rp.int hd (by omega)) RpA.nil))).le (Nat.le_refl _) (by omega)
      refine ⟨rx.sh' (by decide), rfl, ?_⟩
      have e2 : PyData.eqv (fr r) (.tuple [.int 0, .int 1]) = false := by
        have := num_ne hz
        simp [fr, PyData.eqv, PyData.eqvAll, this]
      show Q (.d (.bool (PyData.eqv (fr r) (.tuple [.int 0, .int 1]))))
      rw [e2]
      exact hQ
    | z a =>
      have hp := hx.1.pos
      have e : (sNum p 0).d = .int 0 := by unfold sNum; rw [if_neg (by omega)]; simp [Sc.d]
      rw [e]
      show gEq (.d (.int a)) (.d (.int 0)) Q
      rw [e_eqI, decide_eq_false hz]
      exact hQ
  refine key _ ?_
  simp only [gSeq, gIfS, gRet, gSet, gSetN, gSetIx, gDrop, gRaise, gNext, gApp, gFrz, gTry, gAsg, gFor, gRight, nCallW, zSeq, zRet, dVar, dOwn, dC, d2, d1, dN2, aNil, aCons, dTup, nLst, dCall, dBi, tVal, tNot', tAnd', tOr', dAnd, dOr, dNot, dIf, dChain, dCallK, iRg, iSeq, nLc, tTrue, gNm, wipeD, e_onD, e_onB, e_onI, e_slV, e_slO, e_slOo, e_slOw, e_gI, e_gI0, e_add, e_mul, e_mulL, e_neg, e_ixL, e_ixT, e_ixS, e_isi, e_isN, e_notN, e_isNe, e_isNi, e_isNb, e_isNl, e_isNt, e_isNs, e_lenL, e_lenT, e_lenS, e_abs, e_int, e_intB, e_max, e_min, e_gcd, e_tupL, e_tupT, e_repr, e_sum, e_all, e_any, e_allN, e_allC, e_seqL, e_seqT, e_seqS, e_rg1, e_rg2, e_excN, e_excE, e_val, e_at0, e_at1, e_at2, e_get0, e_get1, e_get2, e_get3, e_get4, e_get5, e_get6, e_get7, e_set0, e_set1, e_set2, e_set3, e_set4, e_set5, e_set6, e_set7, e_ixn0, e_ixn1, e_ixn2, e_ex, List.replicate, List.cons_append, List.nil_append, List.map, fnB]
  exact ite_f rfl (ev_inverse_in hx (by omega) hz h)
theorem rp_sc {p : Int} {b : Nat} {x : Sc} (hx : OkS p b x) (hb : 4 ≤ b) (hb2 : b ≤ 1900) : Rp 1 (b + 1 + (b + 1 + 0)) x.d := by
  cases x with
  | q r => exact Rp.tup (RpA.cons (Rp.int hx.2.1 hb2) (RpA.cons (Rp.int hx.2.2 hb2) RpA.nil))
  | z a =>
    have := hx.1.le
    exact (Rp.int (MB.le (MB.of hx.2.1 (by have := hx.2.2; omega) : MB 4 a) hb) hb2).le (Nat.le_refl _) (by omega)
theorem ev_draw_of {p : Int} {R : DV → Prop} {E : EK} (h0 : 0 < p) (h1 : p < 2 ^ 60) (h : ∀ a : Int, 0 ≤ a → a < p → R (.d (.int a))) : m__law_draw [.wel, .d (.int p)] R E := ⟨p, rfl, h0, h1, h⟩
theorem ev_law_great {p : Int} {R : DV → Prop} {E : EK} (hp : Pz p) (h : ∀ x, OkS p 120 x → R (.d x.d)) : m__law_great [.wel, .d (.int p)] R E := by
  refine ⟨rfl, ?_⟩
  simp only [g__law_great, gSeq, gIfS, gRet, gSet, gSetN, gSetIx, gDrop, gRaise, gNext, gApp, gFrz, gTry, gAsg, gFor, gRight, nCallW, zSeq, zRet, dVar, dOwn, dC, d2, d1, dN2, aNil, aCons, dTup, nLst, dCall, dBi, tVal, tNot', tAnd', tOr', dAnd, dOr, dNot, dIf, dChain, dCallK, iRg, iSeq, nLc, tTrue, gNm, wipeD, e_onD, e_onB, e_onI, e_slV, e_slO, e_slOo, e_slOw, e_gI, e_gI0, e_add, e_mul, e_mulL, e_neg, e_ixL, e_ixT, e_ixS, e_isi, e_isN, e_notN, e_isNe, e_isNi, e_isNb, e_isNl, e_isNt, e_isNs, e_lenL, e_lenT, e_lenS, e_abs, e_int, e_intB, e_max, e_min, e_gcd, e_tupL, e_tupT, e_repr, e_sum, e_all, e_any, e_allN, e_allC, e_seqL, e_seqT, e_seqS, e_rg1, e_rg2, e_excN, e_excE, e_val, e_at0, e_at1, e_at2, e_get0, e_get1, e_get2, e_get3, e_get4, e_get5, e_get6, e_get7, e_set0, e_set1, e_set2, e_set3, e_set4, e_set5, e_set6, e_set7, e_ixn0, e_ixn1, e_ixn2, e_ex, List.replicate, List.cons_append, List.nil_append, List.map, fnB]
  rcases pz_cases hp with ⟨h0, hd⟩ | ⟨h0, hd⟩
  · subst h0
    refine ite_f rfl ?_
    refine ⟨cpow10 (by decide) (by decide), cpow10 (by decide) (by decide), by show 8 ≤ 100000; decide, ev_draw_of (by decide) (by decide) fun k k0 k1 => ?_⟩
    simp only [gSeq, gIfS, gRet, gSet, gSetN, gSetIx, gDrop, gRaise, gNext, gApp, gFrz, gTry, gAsg, gFor, gRight, nCallW, zSeq, zRet, dVar, dOwn, dC, d2, d1, dN2, aNil, aCons, dTup, nLst, dCall, dBi, tVal, tNot', tAnd', tOr', dAnd, dOr, dNot, dIf, dChain, dCallK, iRg, iSeq, nLc, tTrue, gNm, wipeD, e_onD, e_onB, e_onI, e_slV, e_slO, e_slOo, e_slOw, e_gI, e_gI0, e_add, e_mul, e_mulL, e_neg, e_ixL, e_ixT, e_ixS, e_isi, e_isN, e_notN, e_isNe, e_isNi, e_isNb, e_isNl, e_isNt, e_isNs, e_lenL, e_lenT, e_lenS, e_abs, e_int, e_intB, e_max, e_min, e_gcd, e_tupL, e_tupT, e_repr, e_sum, e_all, e_any, e_allN, e_allC, e_seqL, e_seqT, e_seqS, e_rg1, e_rg2, e_excN, e_excE, e_val, e_at0, e_at1, e_at2, e_get0, e_get1, e_get2, e_get3, e_get4, e_get5, e_get6, e_get7, e_set0, e_set1, e_set2, e_set3, e_set4, e_set5, e_set6, e_set7, e_ixn0, e_ixn1, e_ixn2, e_ex, List.replicate, List.cons_append, List.nil_append, List.map, fnB]
    obtain ⟨y, hy, hm⟩ := atI_mem (xs := [PyData.int 0, .int 1, .int (-1), .int 6, .int (-10), .int (10 ^ Int.toNat 9 + 7), .int (-10 ^ Int.toNat 30), .int 12]) k0 k1
    refine ⟨y, hy, ev_draw_of (by decide) (by decide) fun j j0 j1 => ?_⟩
    obtain ⟨n, rfl, hn⟩ : ∃ n : Int, y = .int n ∧ MB 110 n := by
      simp only [List.mem_cons, List.not_mem_nil, or_false] at hm
      rcases hm with rfl | rfl | rfl | rfl | rfl | rfl | rfl | rfl <;> exact ⟨_, rfl, by unfold MB; decide +kernel⟩
    simp only [gSeq, gIfS, gRet, gSet, gSetN, gSetIx, gDrop, gRaise, gNext, gApp, gFrz, gTry, gAsg, gFor, gRight, nCallW, zSeq, zRet, dVar, dOwn, dC, d2, d1, dN2, aNil, aCons, dTup, nLst, dCall, dBi, tVal, tNot', tAnd', tOr', dAnd, dOr, dNot, dIf, dChain, dCallK, iRg, iSeq, nLc, tTrue, gNm, wipeD, e_onD, e_onB, e_onI, e_slV, e_slO, e_slOo, e_slOw, e_gI, e_gI0, e_add, e_mul, e_mulL, e_neg, e_ixL, e_ixT, e_ixS, e_isi, e_isN, e_notN, e_isNe, e_isNi, e_isNb, e_isNl, e_isNt, e_isNs, e_lenL, e_lenT, e_lenS, e_abs, e_int, e_intB, e_max, e_min, e_gcd, e_tupL, e_tupT, e_repr, e_sum, e_all, e_any, e_allN, e_allC, e_seqL, e_seqT, e_seqS, e_rg1, e_rg2, e_excN, e_excE, e_val, e_at0, e_at1, e_at2, e_get0, e_get1, e_get2, e_get3, e_get4, e_get5, e_get6, e_get7, e_set0, e_set1, e_set2, e_set3, e_set4, e_set5, e_set6, e_set7, e_ixn0, e_ixn1, e_ixn2, e_ex, List.replicate, List.cons_append, List.nil_append, List.map, fnB]
    have hj : MB 3 (1 + j) := MB.of (by omega) (by omega)
    refine ⟨hn.ok hj (by decide), cpow10 (by decide) (by decide), by show 6 ≤ 100000; decide, ev_draw_of (by decide) (by decide) fun i i0 i1 => ?_⟩
    obtain ⟨z, hz, hmz⟩ := atI_mem (xs := [PyData.int 1, .int 2, .int 6, .int 35, .int (10 ^ Int.toNat 12), .int 9]) i0 i1
    simp only [gSeq, gIfS, gRet, gSet, gSetN, gSetIx, gDrop, gRaise, gNext, gApp, gFrz, gTry, gAsg, gFor, gRight, nCallW, zSeq, zRet, dVar, dOwn, dC, d2, d1, dN2, aNil, aCons, dTup, nLst, dCall, dBi, tVal, tNot', tAnd', tOr', dAnd, dOr, dNot, dIf, dChain, dCallK, iRg, iSeq, nLc, tTrue, gNm, wipeD, e_onD, e_onB, e_onI, e_slV, e_slO, e_slOo, e_slOw, e_gI, e_gI0, e_add, e_mul, e_mulL, e_neg, e_ixL, e_ixT, e_ixS, e_isi, e_isN, e_notN, e_isNe, e_isNi, e_isNb, e_isNl, e_isNt, e_isNs, e_lenL, e_lenT, e_lenS, e_abs, e_int, e_intB, e_max, e_min, e_gcd, e_tupL, e_tupT, e_repr, e_sum, e_all, e_any, e_allN, e_allC, e_seqL, e_seqT, e_seqS, e_rg1, e_rg2, e_excN, e_excE, e_val, e_at0, e_at1, e_at2, e_get0, e_get1, e_get2, e_get3, e_get4, e_get5, e_get6, e_get7, e_set0, e_set1, e_set2, e_set3, e_set4, e_set5, e_set6, e_set7, e_ixn0, e_ixn1, e_ixn2, e_ex, List.replicate, List.cons_append, List.nil_append, List.map, fnB]
    refine ⟨z, hz, ?_⟩
    obtain ⟨m, rfl, hm0, hmb⟩ : ∃ m : Int, z = .int m ∧ m ≠ 0 ∧ MB 110 m := by
      simp only [List.mem_cons, List.not_mem_nil, or_false] at hmz
      rcases hmz with rfl | rfl | rfl | rfl | rfl | rfl <;> exact ⟨_, rfl, by decide +kernel, by unfold MB; decide +kernel⟩
    refine ev_law_cut hm0 hmb (by decide) ((hn.mul hj).le (by decide)) ?_
    have q := mb_divInt hm0 (hn.mul hj) hmb
    exact h (.q (Rat.divInt (n * (1 + j)) m)) ⟨rfl, q.1.le (by decide), q.2.le (by decide)⟩
  · have hp0 := h0.pos
    have := h0.le
    exact ite_t (decide_eq_true hp0) (ev_draw_of hp0 (by omega) fun a a0 a1 => h (.z a) ⟨h0, a0, a1⟩)

theorem eqv_cut {a b : Int} (hb : 1 ≤ b) : PyData.eqv (fr (Rat.divInt a b)) (.tuple [.int a, .int b]) = decide (Nat.gcd a.natAbs b.natAbs = 1) := by
  unfold fr
  rw [eqv_t2, Bool.eq_iff_iff]
  simp only [Bool.and_eq_true, decide_eq_true_eq]
  constructor
  · rintro ⟨h1, h2⟩
    have r := (Rat.divInt a b).reduced
    rw [h1] at r
    have e : (Rat.divInt a b).den = b.natAbs := by omega
    rw [e] at r
    exact r
  · intro h
    rw [num_eq (by omega), den_eq (by omega), h]
    have : sg b = 1 := by unfold sg; rw [if_neg (by omega)]
    rw [this]
    simp
theorem ev_law_is_scalar {p : Int} {x : PD} {R : DV → Prop} {E : EK} (hp : Pz p) (hx : Rp 4 3000 x) (h : R (.d (.bool (isSc p x)))) : m__law_is_scalar [.d (.int p), .d x] R E := by
  refine ⟨rfl, ?_⟩
  simp only [g__law_is_scalar, gSeq, gIfS, gRet, gSet, gSetN, gSetIx, gDrop, gRaise, gNext, gApp, gFrz, gTry, gAsg, gFor, gRight, nCallW, zSeq, zRet, dVar, dOwn, dC, d2, d1, dN2, aNil, aCons, dTup, nLst, dCall, dBi, tVal, tNot', tAnd', tOr', dAnd, dOr, dNot, dIf, dChain, dCallK, iRg, iSeq, nLc, tTrue, gNm, wipeD, e_onD, e_onB, e_onI, e_slV, e_slO, e_slOo, e_slOw, e_gI, e_gI0, e_add, e_mul, e_mulL, e_neg, e_ixL, e_ixT, e_ixS, e_isi, e_isN, e_notN, e_isNe, e_isNi, e_isNb, e_isNl, e_isNt, e_isNs, e_lenL, e_lenT, e_lenS, e_abs, e_int, e_intB, e_max, e_min, e_gcd, e_tupL, e_tupT, e_repr, e_sum, e_all, e_any, e_allN, e_allC, e_seqL, e_seqT, e_seqS, e_rg1, e_rg2, e_excN, e_excE, e_val, e_at0, e_at1, e_at2, e_get0, e_get1, e_get2, e_get3, e_get4, e_get5, e_get6, e_get7, e_set0, e_set1, e_set2, e_set3, e_set4, e_set5, e_set6, e_set7, e_ixn0, e_ixn1, e_ixn2, e_ex, List.replicate, List.cons_append, List.nil_append, List.map, fnB]
  rcases pz_cases hp with ⟨h0, hd⟩ | ⟨h0, hd⟩
  · subst h0
    refine ite_f rfl ?_
    unfold isSc at h
    rw [if_neg (by decide)] at h
    cases x with
    | tuple xs =>
      have hw := hx.wt
      simp only [PyData.weight] at hw
      have hl := len_weight xs
      refine ite_f rfl ?_
      simp only [gSeq, gIfS, gRet, gSet, gSetN, gSetIx, gDrop, gRaise, gNext, gApp, gFrz, gTry, gAsg, gFor, gRight, nCallW, zSeq, zRet, dVar, dOwn, dC, d2, d1, dN2, aNil, aCons, dTup, nLst, dCall, dBi, tVal, tNot', tAnd', tOr', dAnd, dOr, dNot, dIf, dChain, dCallK, iRg, iSeq, nLc, tTrue, gNm, wipeD, e_onD, e_onB, e_onI, e_slV, e_slO, e_slOo, e_slOw, e_gI, e_gI0, e_add, e_mul, e_mulL, e_neg, e_ixL, e_ixT, e_ixS, e_isi, e_isN, e_notN, e_isNe, e_isNi, e_isNb, e_isNl, e_isNt, e_isNs, e_lenL, e_lenT, e_lenS, e_abs, e_int, e_intB, e_max, e_min, e_gcd, e_tupL, e_tupT, e_repr, e_sum, e_all, e_any, e_allN, e_allC, e_seqL, e_seqT, e_seqS, e_rg1, e_rg2, e_excN, e_excE, e_val, e_at0, e_at1, e_at2, e_get0, e_get1, e_get2, e_get3, e_get4, e_get5, e_get6, e_get7, e_set0, e_set1, e_set2, e_set3, e_set4, e_set5, e_set6, e_set7, e_ixn0, e_ixn1, e_ixn2, e_ex, List.replicate, List.cons_append, List.nil_append, List.map, fnB, e_neI]
      match xs, h with
      | [], h => exact ite_t (by rfl) (by first | exact h | (rw [if_pos True.intro]; exact h))
      | [u], h => exact ite_t (by rfl) (by rw [if_pos True.intro]; cases u <;> exact h)
      | [u, w], h =>
        refine ite_f rfl ⟨by show 2 ≤ 100000; decide, ?_⟩
        simp only [lcD, gSeq, gIfS, gRet, gSet, gSetN, gSetIx, gDrop, gRaise, gNext, gApp, gFrz, gTry, gAsg, gFor, gRight, nCallW, zSeq, zRet, dVar, dOwn, dC, d2, d1, dN2, aNil, aCons, dTup, nLst, dCall, dBi, tVal, tNot', tAnd', tOr', dAnd, dOr, dNot, dIf, dChain, dCallK, iRg, iSeq, nLc, tTrue, gNm, wipeD, e_onD, e_onB, e_onI, e_slV, e_slO, e_slOo, e_slOw, e_gI, e_gI0, e_add, e_mul, e_mulL, e_neg, e_ixL, e_ixT, e_ixS, e_isi, e_isN, e_notN, e_isNe, e_isNi, e_isNb, e_isNl, e_isNt, e_isNs, e_lenL, e_lenT, e_lenS, e_abs, e_int, e_intB, e_max, e_min, e_gcd, e_tupL, e_tupT, e_repr, e_sum, e_all, e_any, e_allN, e_allC, e_seqL, e_seqT, e_seqS, e_rg1, e_rg2, e_excN, e_excE, e_val, e_at0, e_at1, e_at2, e_get0, e_get1, e_get2, e_get3, e_get4, e_get5, e_get6, e_get7, e_set0, e_set1, e_set2, e_set3, e_set4, e_set5, e_set6, e_set7, e_ixn0, e_ixn1, e_ixn2, e_ex, List.replicate, List.cons_append, List.nil_append, List.map, fnB, if_true]
        refine ⟨[subTy (tyD u) "int", subTy (tyD w) "int"], rfl, ?_⟩
        have hu := (mem_weight (xs := [u, w]) (y := u) (by simp)).1
        have hv := (mem_weight (xs := [u, w]) (y := w) (by simp)).1
        cases u with
        | int a =>
          cases w with
          | int b =>
            have ma : MB 3000 a := mb_weight (by omega)
            have mb : MB 3000 b := mb_weight (by omega)
            refine ite_f rfl (ite_f rfl (ite_f rfl ?_))
            simp only [gSeq, gIfS, gRet, gSet, gSetN, gSetIx, gDrop, gRaise, gNext, gApp, gFrz, gTry, gAsg, gFor, gRight, nCallW, zSeq, zRet, dVar, dOwn, dC, d2, d1, dN2, aNil, aCons, dTup, nLst, dCall, dBi, tVal, tNot', tAnd', tOr', dAnd, dOr, dNot, dIf, dChain, dCallK, iRg, iSeq, nLc, tTrue, gNm, wipeD, e_onD, e_onB, e_onI, e_slV, e_slO, e_slOo, e_slOw, e_gI, e_gI0, e_add, e_mul, e_mulL, e_neg, e_ixL, e_ixT, e_ixS, e_isi, e_isN, e_notN, e_isNe, e_isNi, e_isNb, e_isNl, e_isNt, e_isNs, e_lenL, e_lenT, e_lenS, e_abs, e_int, e_intB, e_max, e_min, e_gcd, e_tupL, e_tupT, e_repr, e_sum, e_all, e_any, e_allN, e_allC, e_seqL, e_seqT, e_seqS, e_rg1, e_rg2, e_excN, e_excE, e_val, e_at0, e_at1, e_at2, e_get0, e_get1, e_get2, e_get3, e_get4, e_get5, e_get6, e_get7, e_set0, e_set1, e_set2, e_set3, e_set4, e_set5, e_set6, e_set7, e_ixn0, e_ixn1, e_ixn2, e_ex, List.replicate, List.cons_append, List.nil_append, List.map, fnB]
            have h : R (.d (.bool (decide (1 ≤ b) && decide (Nat.gcd a.natAbs b.natAbs = 1)))) := h
            by_cases hb : b < 1
            · refine ite_t (decide_eq_true hb) ?_
              rw [decide_eq_false (show ¬ 1 ≤ b by omega)] at h
              exact h
            · refine ite_f (decide_eq_false hb) ?_
              refine ev_law_cut (by omega) mb (by decide) (ma.le (by decide)) ?_
              rw [decide_eq_true (show 1 ≤ b by omega), Bool.true_and] at h
              have q := mb_divInt (n := a) (m := b) (by omega) ma mb
              have q1 : Sh (fr (Rat.divInt a b)) := rfl
              refine ⟨rfl, rfl, ?_⟩
              rw [eqv_cut (by omega)]
              exact h
          | bool b => exact ite_f rfl (ite_f rfl (ite_t rfl (by first | exact h | (rw [if_pos True.intro]; exact h))))
          | _ => exact ite_t rfl (by first | exact h | (rw [if_pos True.intro]; exact h))
        | bool a =>
          cases w with
          | int b => exact ite_f rfl (ite_t rfl h)
          | bool b => exact ite_f rfl (ite_t rfl h)
          | _ => exact ite_t rfl (by first | exact h | (rw [if_pos True.intro]; exact h))
        | _ => exact ite_t rfl (by first | exact h | (rw [if_pos True.intro]; exact h))
      | u :: w :: z :: r, h =>
        have e : (!decide (((u :: w :: z :: r).length : Int) = 2)) = true := by
          rw [decide_eq_false (by simp; omega)]
          rfl
        exact ite_t e (by rw [if_pos True.intro]; cases u <;> first | exact h | (cases w <;> exact h))
    | _ => exact ite_t rfl h
  · have hp0 := h0.pos
    refine ite_t (decide_eq_true hp0) ?_
    unfold isSc at h
    rw [if_pos hp0] at h
    cases x with
    | int i =>
      refine ite_t rfl (ite_t rfl ?_)
      simp only [gSeq, gIfS, gRet, gSet, gSetN, gSetIx, gDrop, gRaise, gNext, gApp, gFrz, gTry, gAsg, gFor, gRight, nCallW, zSeq, zRet, dVar, dOwn, dC, d2, d1, dN2, aNil, aCons, dTup, nLst, dCall, dBi, tVal, tNot', tAnd', tOr', dAnd, dOr, dNot, dIf, dChain, dCallK, iRg, iSeq, nLc, tTrue, gNm, wipeD, e_onD, e_onB, e_onI, e_slV, e_slO, e_slOo, e_slOw, e_gI, e_gI0, e_add, e_mul, e_mulL, e_neg, e_ixL, e_ixT, e_ixS, e_isi, e_isN, e_notN, e_isNe, e_isNi, e_isNb, e_isNl, e_isNt, e_isNs, e_lenL, e_lenT, e_lenS, e_abs, e_int, e_intB, e_max, e_min, e_gcd, e_tupL, e_tupT, e_repr, e_sum, e_all, e_any, e_allN, e_allC, e_seqL, e_seqT, e_seqS, e_rg1, e_rg2, e_excN, e_excE, e_val, e_at0, e_at1, e_at2, e_get0, e_get1, e_get2, e_get3, e_get4, e_get5, e_get6, e_get7, e_set0, e_set1, e_set2, e_set3, e_set4, e_set5, e_set6, e_set7, e_ixn0, e_ixn1, e_ixn2, e_ex, List.replicate, List.cons_append, List.nil_append, List.map, fnB]
      by_cases q : 0 ≤ i
      · refine ite_t (decide_eq_true q) ?_
        simpa [q] using h
      · refine ite_f (decide_eq_false q) ?_
        simpa [q] using h
    | bool b => exact ite_t rfl (ite_f rfl h)
    | _ => exact ite_f rfl h
theorem ev_law_near {p : Int} {x : Sc} {R : DV → Prop} {E : EK} (hp : Pz p) (hx : OkS p 120 x) (h : ∀ v, Rp 4 3000 v → R (.d v)) : m__law_near [.wel, .d (.int p), .d x.d] R E := by
  refine ⟨rfl, ?_⟩
  simp only [g__law_near, gSeq, gIfS, gRet, gSet, gSetN, gSetIx, gDrop, gRaise, gNext, gApp, gFrz, gTry, gAsg, gFor, gRight, nCallW, zSeq, zRet, dVar, dOwn, dC, d2, d1, dN2, aNil, aCons, dTup, nLst, dCall, dBi, tVal, tNot', tAnd', tOr', dAnd, dOr, dNot, dIf, dChain, dCallK, iRg, iSeq, nLc, tTrue, gNm, wipeD, e_onD, e_onB, e_onI, e_slV, e_slO, e_slOo, e_slOw, e_gI, e_gI0, e_add, e_mul, e_mulL, e_neg, e_ixL, e_ixT, e_ixS, e_isi, e_isN, e_notN, e_isNe, e_isNi, e_isNb, e_isNl, e_isNt, e_isNs, e_lenL, e_lenT, e_lenS, e_abs, e_int, e_intB, e_max, e_min, e_gcd, e_tupL, e_tupT, e_repr, e_sum, e_all, e_any, e_allN, e_allC, e_seqL, e_seqT, e_seqS, e_rg1, e_rg2, e_excN, e_excE, e_val, e_at0, e_at1, e_at2, e_get0, e_get1, e_get2, e_get3, e_get4, e_get5, e_get6, e_get7, e_set0, e_set1, e_set2, e_set3, e_set4, e_set5, e_set6, e_set7, e_ixn0, e_ixn1, e_ixn2, e_ex, List.replicate, List.cons_append, List.nil_append, List.map, fnB]
  have rx := rp_sc hx (by decide) (by decide)
  have rx3 : Rp 3 300 x.d := rx.le (by decide) (by decide)
  have ri : ∀ i : Int, MB 60 i → Rp 3 100 (.int i) := fun i hi => (Rp.int hi (by decide)).le (Nat.le_refl _) (by decide)
  have hpb : MB 60 p := MB.of (by rcases hp with h | h; · omega
                                  · have := h.pos; omega) (by rcases hp with h | h; · omega
                                                              · have := h.le; omega)
  have k : ∀ i : Int, i.natAbs < 1000 → MB 60 i := fun i hi => Nat.lt_trans hi (by decide)
  refine ⟨by show 1 ≤ 100000; decide, by show 1 ≤ 100000; decide, by show 2 ≤ 100000; decide, by show 2 ≤ 100000; decide, by show 2 ≤ 100000; decide, by show 2 ≤ 100000; decide, by show 2 ≤ 100000; decide, by show 2 ≤ 100000; decide, by show 16 ≤ 100000; decide, ev_draw_of (by decide) (by decide) fun j j0 j1 => ?_⟩
  simp only [gSeq, gIfS, gRet, gSet, gSetN, gSetIx, gDrop, gRaise, gNext, gApp, gFrz, gTry, gAsg, gFor, gRight, nCallW, zSeq, zRet, dVar, dOwn, dC, d2, d1, dN2, aNil, aCons, dTup, nLst, dCall, dBi, tVal, tNot', tAnd', tOr', dAnd, dOr, dNot, dIf, dChain, dCallK, iRg, iSeq, nLc, tTrue, gNm, wipeD, e_onD, e_onB, e_onI, e_slV, e_slO, e_slOo, e_slOw, e_gI, e_gI0, e_add, e_mul, e_mulL, e_neg, e_ixL, e_ixT, e_ixS, e_isi, e_isN, e_notN, e_isNe, e_isNi, e_isNb, e_isNl, e_isNt, e_isNs, e_lenL, e_lenT, e_lenS, e_abs, e_int, e_intB, e_max, e_min, e_gcd, e_tupL, e_tupT, e_repr, e_sum, e_all, e_any, e_allN, e_allC, e_seqL, e_seqT, e_seqS, e_rg1, e_rg2, e_excN, e_excE, e_val, e_at0, e_at1, e_at2, e_get0, e_get1, e_get2, e_get3, e_get4, e_get5, e_get6, e_get7, e_set0, e_set1, e_set2, e_set3, e_set4, e_set5, e_set6, e_set7, e_ixn0, e_ixn1, e_ixn2, e_ex, List.replicate, List.cons_append, List.nil_append, List.map, fnB]
  obtain ⟨y, hy, hm⟩ := atI_mem (xs := [x.d, PyData.none, .bool true, .bool false, .int (-1), .int p, .list [x.d], .tuple [x.d], .tuple [x.d, x.d], .str "1", .int 0, .tuple [.int 0, .int 1], .tuple [.int 0, .int 2], .tuple [.int 2, .int (-3)], .tuple [.int 4, .int 6], .tuple [.int 1, .bool true]]) j0 j1
  refine ⟨y, hy, h y ?_⟩
  have t2 : ∀ a b : Int, a.natAbs < 1000 → b.natAbs < 1000 → Rp 4 3000 (.tuple [.int a, .int b]) := fun a b ha hb => (Rp.tup (RpA.cons (ri a (k a ha)) (RpA.cons (ri b (k b hb)) RpA.nil))).le (Nat.le_refl _) (by decide)
  simp only [List.mem_cons, List.not_mem_nil, or_false] at hm
  rcases hm with rfl | rfl | rfl | rfl | rfl | rfl | rfl | rfl | rfl | rfl | rfl | rfl | rfl | rfl | rfl | rfl
  · exact rx.le (by decide) (by decide)
  · exact Rp.none
  · exact Rp.bool
  · exact Rp.bool
  · exact (ri _ (k _ (by decide))).le (by decide) (by decide)
  · exact (ri _ hpb).le (by decide) (by decide)
  · exact (Rp.list (RpA.cons rx3 RpA.nil)).le (Nat.le_refl _) (by decide)
  · exact (Rp.tup (RpA.cons rx3 RpA.nil)).le (Nat.le_refl _) (by decide)
  · exact (Rp.tup (RpA.cons rx3 (RpA.cons rx3 RpA.nil))).le (Nat.le_refl _) (by decide)
  · exact Rp.str (by decide +kernel) (by decide +kernel) (by decide +kernel) (by decide +kernel)
  · exact (ri _ (k _ (by decide))).le (by decide) (by decide)
  · exact t2 _ _ (by decide) (by decide)
  · exact t2 _ _ (by decide) (by decide)
  · exact t2 _ _ (by decide) (by decide)
  · exact t2 _ _ (by decide) (by decide)
  · exact (Rp.tup (RpA.cons (ri 1 (k 1 (by decide))) (RpA.cons (Rp.bool (n := 0)) RpA.nil))).le (Nat.le_refl _) (by decide)

/-! errors: what is raised -/
theorem bad_need_prime {x : PD} {R : DV → Prop} {E : EK} (ho : okD 9 x) (hf : isPrime x = false) (h : E 0 x) : m_need_prime [.d x] R E := ev_need_prime ho (ite_f hf h)
theorem bad_scalars {x a b : PD} {R : DV → Prop} {E : EK} (ho : okD 9 x) (hf : isPrime x = false) (h : E 0 x) : m_need_scalars [.d x, .d a, .d b] R E := by
  refine ⟨rfl, ?_⟩
  simp only [g_need_scalars, gSeq, gIfS, gRet, gSet, gSetN, gSetIx, gDrop, gRaise, gNext, gApp, gFrz, gTry, gAsg, gFor, gRight, nCallW, zSeq, zRet, dVar, dOwn, dC, d2, d1, dN2, aNil, aCons, dTup, nLst, dCall, dBi, tVal, tNot', tAnd', tOr', dAnd, dOr, dNot, dIf, dChain, dCallK, iRg, iSeq, nLc, tTrue, gNm, wipeD, e_onD, e_onB, e_onI, e_slV, e_slO, e_slOo, e_slOw, e_gI, e_gI0, e_add, e_mul, e_mulL, e_neg, e_ixL, e_ixT, e_ixS, e_isi, e_isN, e_notN, e_isNe, e_isNi, e_isNb, e_isNl, e_isNt, e_isNs, e_lenL, e_lenT, e_lenS, e_abs, e_int, e_intB, e_max, e_min, e_gcd, e_tupL, e_tupT, e_repr, e_sum, e_all, e_any, e_allN, e_allC, e_seqL, e_seqT, e_seqS, e_rg1, e_rg2, e_excN, e_excE, e_val, e_at0, e_at1, e_at2, e_get0, e_get1, e_get2, e_get3, e_get4, e_get5, e_get6, e_get7, e_set0, e_set1, e_set2, e_set3, e_set4, e_set5, e_set6, e_set7, e_ixn0, e_ixn1, e_ixn2, e_ex, List.replicate, List.cons_append, List.nil_append, List.map, fnB]
  exact bad_need_prime ho hf h
theorem bad1_scalars {p : Int} {x b : PD} {R : DV → Prop} {E : EK} (hp : Pz p) (ho : okD 9 x) (hf : isSc p x = false) (h : E 1 x) : m_need_scalars [.d (.int p), .d x, .d b] R E := by
  refine ⟨rfl, ?_⟩
  simp only [g_need_scalars, gSeq, gIfS, gRet, gSet, gSetN, gSetIx, gDrop, gRaise, gNext, gApp, gFrz, gTry, gAsg, gFor, gRight, nCallW, zSeq, zRet, dVar, dOwn, dC, d2, d1, dN2, aNil, aCons, dTup, nLst, dCall, dBi, tVal, tNot', tAnd', tOr', dAnd, dOr, dNot, dIf, dChain, dCallK, iRg, iSeq, nLc, tTrue, gNm, wipeD, e_onD, e_onB, e_onI, e_slV, e_slO, e_slOo, e_slOw, e_gI, e_gI0, e_add, e_mul, e_mulL, e_neg, e_ixL, e_ixT, e_ixS, e_isi, e_isN, e_notN, e_isNe, e_isNi, e_isNb, e_isNl, e_isNt, e_isNs, e_lenL, e_lenT, e_lenS, e_abs, e_int, e_intB, e_max, e_min, e_gcd, e_tupL, e_tupT, e_repr, e_sum, e_all, e_any, e_allN, e_allC, e_seqL, e_seqT, e_seqS, e_rg1, e_rg2, e_excN, e_excE, e_val, e_at0, e_at1, e_at2, e_get0, e_get1, e_get2, e_get3, e_get4, e_get5, e_get6, e_get7, e_set0, e_set1, e_set2, e_set3, e_set4, e_set5, e_set6, e_set7, e_ixn0, e_ixn1, e_ixn2, e_ex, List.replicate, List.cons_append, List.nil_append, List.map, fnB]
  exact ev_need_prime trivial (ite_t (isPrime_ok hp) (ev_need_scalar ho (ite_f hf h)))
theorem bad2_scalars {p : Int} {b : Nat} {y : Sc} {x : PD} {R : DV → Prop} {E : EK} (hy : OkS p b y) (ho : okD 9 x) (hf : isSc p x = false) (h : E 1 x) : m_need_scalars [.d (.int p), .d y.d, .d x] R E := by
  refine ⟨rfl, ?_⟩
  simp only [g_need_scalars, gSeq, gIfS, gRet, gSet, gSetN, gSetIx, gDrop, gRaise, gNext, gApp, gFrz, gTry, gAsg, gFor, gRight, nCallW, zSeq, zRet, dVar, dOwn, dC, d2, d1, dN2, aNil, aCons, dTup, nLst, dCall, dBi, tVal, tNot', tAnd', tOr', dAnd, dOr, dNot, dIf, dChain, dCallK, iRg, iSeq, nLc, tTrue, gNm, wipeD, e_onD, e_onB, e_onI, e_slV, e_slO, e_slOo, e_slOw, e_gI, e_gI0, e_add, e_mul, e_mulL, e_neg, e_ixL, e_ixT, e_ixS, e_isi, e_isN, e_notN, e_isNe, e_isNi, e_isNb, e_isNl, e_isNt, e_isNs, e_lenL, e_lenT, e_lenS, e_abs, e_int, e_intB, e_max, e_min, e_gcd, e_tupL, e_tupT, e_repr, e_sum, e_all, e_any, e_allN, e_allC, e_seqL, e_seqT, e_seqS, e_rg1, e_rg2, e_excN, e_excE, e_val, e_at0, e_at1, e_at2, e_get0, e_get1, e_get2, e_get3, e_get4, e_get5, e_get6, e_get7, e_set0, e_set1, e_set2, e_set3, e_set4, e_set5, e_set6, e_set7, e_ixn0, e_ixn1, e_ixn2, e_ex, List.replicate, List.cons_append, List.nil_append, List.map, fnB]
  exact ev_need_prime trivial (ite_t (isPrime_ok hy.pz) (ev_need_scalar (ok_sc y) (ite_t (isSc_ok hy) (ev_need_scalar ho (ite_f hf h)))))
def toldD (c : Int) (x : PD) : PD := .tuple [.list [.int c], .str x.shown]
/-- what is told of the errors -/
def tellS : DS := (gSeq (gSet 6 (dN2 (nLst (aCons (d1 (gIsE 0 subE) (dOwn 4)) (aCons (d1 (gIsE 1 subE) (dOwn 4)) (aCons (d1 (gIsE 2 subE) (dOwn 4)) aNil))))))
  (gRet (dIf (tVal (d1 gIsN (dOwn 4))) (dC .none) (dTup (aCons (dN2 (nLc 100000 (iRg rg1 (aCons (dC (.int 3)) aNil)) (gNm 7) (tVal (d2 gIx (dOwn 6) (dOwn 7))) (dVar 7) [7])) (aCons (dBi bRepr (aCons (d1 gVal (dOwn 4)) aNil)) aNil))))))
theorem tell_ok {c : Nat} {x : PD} {s0 s1 s2 s3 s5 s6 s7 : Sl} {D : DEnds} (hc : c < 3) (hr : ROk x) (h : ∀ ρ, D.rt ρ (.d (toldD c x))) : tellS D [s0, s1, s2, s3, .v (.exc c x), s5, s6, s7] := by
  have e3 : rngD 0 3 = [.int 0, .int 1, .int 2] := rfl
  simp only [tellS, gSeq, gIfS, gRet, gSet, gSetN, gSetIx, gDrop, gRaise, gNext, gApp, gFrz, gTry, gAsg, gFor, gRight, nCallW, zSeq, zRet, dVar, dOwn, dC, d2, d1, dN2, aNil, aCons, dTup, nLst, dCall, dBi, tVal, tNot', tAnd', tOr', dAnd, dOr, dNot, dIf, dChain, dCallK, iRg, iSeq, nLc, tTrue, gNm, wipeD, e_onD, e_onB, e_onI, e_slV, e_slO, e_slOo, e_slOw, e_gI, e_gI0, e_add, e_mul, e_mulL, e_neg, e_ixL, e_ixT, e_ixS, e_isi, e_isN, e_notN, e_isNe, e_isNi, e_isNb, e_isNl, e_isNt, e_isNs, e_lenL, e_lenT, e_lenS, e_abs, e_int, e_intB, e_max, e_min, e_gcd, e_tupL, e_tupT, e_repr, e_sum, e_all, e_any, e_allN, e_allC, e_seqL, e_seqT, e_seqS, e_rg1, e_rg2, e_excN, e_excE, e_val, e_at0, e_at1, e_at2, e_get0, e_get1, e_get2, e_get3, e_get4, e_get5, e_get6, e_get7, e_set0, e_set1, e_set2, e_set3, e_set4, e_set5, e_set6, e_set7, e_ixn0, e_ixn1, e_ixn2, e_ex, List.replicate, List.cons_append, List.nil_append, List.map, fnB, e3]
  refine ⟨by show 3 ≤ 100000; decide, ite_f rfl ⟨⟨by decide, by decide⟩, by show 3 ≤ 100000; decide, ?_⟩⟩
  match c, hc with
  | 0, _ =>
    simp only [lcD, gSeq, gIfS, gRet, gSet, gSetN, gSetIx, gDrop, gRaise, gNext, gApp, gFrz, gTry, gAsg, gFor, gRight, nCallW, zSeq, zRet, dVar, dOwn, dC, d2, d1, dN2, aNil, aCons, dTup, nLst, dCall, dBi, tVal, tNot', tAnd', tOr', dAnd, dOr, dNot, dIf, dChain, dCallK, iRg, iSeq, nLc, tTrue, gNm, wipeD, e_onD, e_onB, e_onI, e_slV, e_slO, e_slOo, e_slOw, e_gI, e_gI0, e_add, e_mul, e_mulL, e_neg, e_ixL, e_ixT, e_ixS, e_isi, e_isN, e_notN, e_isNe, e_isNi, e_isNb, e_isNl, e_isNt, e_isNs, e_lenL, e_lenT, e_lenS, e_abs, e_int, e_intB, e_max, e_min, e_gcd, e_tupL, e_tupT, e_repr, e_sum, e_all, e_any, e_allN, e_allC, e_seqL, e_seqT, e_seqS, e_rg1, e_rg2, e_excN, e_excE, e_val, e_at0, e_at1, e_at2, e_get0, e_get1, e_get2, e_get3, e_get4, e_get5, e_get6, e_get7, e_set0, e_set1, e_set2, e_set3, e_set4, e_set5, e_set6, e_set7, e_ixn0, e_ixn1, e_ixn2, e_ex, List.replicate, List.cons_append, List.nil_append, List.map, fnB, subE]
    exact ite_t rfl (ite_f rfl (ite_f rfl ⟨hr, by show 2 ≤ 100000; decide, h _⟩))
  | 1, _ =>
    simp only [lcD, gSeq, gIfS, gRet, gSet, gSetN, gSetIx, gDrop, gRaise, gNext, gApp, gFrz, gTry, gAsg, gFor, gRight, nCallW, zSeq, zRet, dVar, dOwn, dC, d2, d1, dN2, aNil, aCons, dTup, nLst, dCall, dBi, tVal, tNot', tAnd', tOr', dAnd, dOr, dNot, dIf, dChain, dCallK, iRg, iSeq, nLc, tTrue, gNm, wipeD, e_onD, e_onB, e_onI, e_slV, e_slO, e_slOo, e_slOw, e_gI, e_gI0, e_add, e_mul, e_mulL, e_neg, e_ixL, e_ixT, e_ixS, e_isi, e_isN, e_notN, e_isNe, e_isNi, e_isNb, e_isNl, e_isNt, e_isNs, e_lenL, e_lenT, e_lenS, e_abs, e_int, e_intB, e_max, e_min, e_gcd, e_tupL, e_tupT, e_repr, e_sum, e_all, e_any, e_allN, e_allC, e_seqL, e_seqT, e_seqS, e_rg1, e_rg2, e_excN, e_excE, e_val, e_at0, e_at1, e_at2, e_get0, e_get1, e_get2, e_get3, e_get4, e_get5, e_get6, e_get7, e_set0, e_set1, e_set2, e_set3, e_set4, e_set5, e_set6, e_set7, e_ixn0, e_ixn1, e_ixn2, e_ex, List.replicate, List.cons_append, List.nil_append, List.map, fnB, subE]
    exact ite_f rfl (ite_t rfl (ite_f rfl ⟨hr, by show 2 ≤ 100000; decide, h _⟩))
  | 2, _ =>
    simp only [lcD, gSeq, gIfS, gRet, gSet, gSetN, gSetIx, gDrop, gRaise, gNext, gApp, gFrz, gTry, gAsg, gFor, gRight, nCallW, zSeq, zRet, dVar, dOwn, dC, d2, d1, dN2, aNil, aCons, dTup, nLst, dCall, dBi, tVal, tNot', tAnd', tOr', dAnd, dOr, dNot, dIf, dChain, dCallK, iRg, iSeq, nLc, tTrue, gNm, wipeD, e_onD, e_onB, e_onI, e_slV, e_slO, e_slOo, e_slOw, e_gI, e_gI0, e_add, e_mul, e_mulL, e_neg, e_ixL, e_ixT, e_ixS, e_isi, e_isN, e_notN, e_isNe, e_isNi, e_isNb, e_isNl, e_isNt, e_isNs, e_lenL, e_lenT, e_lenS, e_abs, e_int, e_intB, e_max, e_min, e_gcd, e_tupL, e_tupT, e_repr, e_sum, e_all, e_any, e_allN, e_allC, e_seqL, e_seqT, e_seqS, e_rg1, e_rg2, e_excN, e_excE, e_val, e_at0, e_at1, e_at2, e_get0, e_get1, e_get2, e_get3, e_get4, e_get5, e_get6, e_get7, e_set0, e_set1, e_set2, e_set3, e_set4, e_set5, e_set6, e_set7, e_ixn0, e_ixn1, e_ixn2, e_ex, List.replicate, List.cons_append, List.nil_append, List.map, fnB, subE]
    exact ite_f rfl (ite_f rfl (ite_t rfl ⟨hr, by show 2 ≤ 100000; decide, h _⟩))
theorem told_of {way : Int} {a b d : PD} {c : Nat} {x : PD} {R : DV → Prop} {E : EK} (hc : c < 3) (hr : ROk x) (h : R (.d (toldD c x)))
    (hb : ∀ (Q : DV → Prop) (E' : EK), E' c x → (way = 0 ∧ m_plus [.d a, .d b, .d d] Q E') ∨ (way = 1 ∧ m_times [.d a, .d b, .d d] Q E') ∨ (way = 2 ∧ m_negative [.d a, .d b] Q E') ∨ (way = 3 ∧ m_inverse [.d a, .d b] Q E') ∨ (way = 4 ∧ m_scalar_of [.d a, .d (.int 3)] Q E')) :
    m__law_told [.d (.int way), .d a, .d b, .d d] R E := by
  refine ⟨rfl, ?_⟩
  simp only [g__law_told]
  show gSeq (gSet 4 (dC .none)) (gSeq (gTry 5 4 _) tellS) _ _
  simp only [gSeq, gIfS, gRet, gSet, gSetN, gSetIx, gDrop, gRaise, gNext, gApp, gFrz, gTry, gAsg, gFor, gRight, nCallW, zSeq, zRet, dVar, dOwn, dC, d2, d1, dN2, aNil, aCons, dTup, nLst, dCall, dBi, tVal, tNot', tAnd', tOr', dAnd, dOr, dNot, dIf, dChain, dCallK, iRg, iSeq, nLc, tTrue, gNm, wipeD, e_onD, e_onB, e_onI, e_slV, e_slO, e_slOo, e_slOw, e_gI, e_gI0, e_add, e_mul, e_mulL, e_neg, e_ixL, e_ixT, e_ixS, e_isi, e_isN, e_notN, e_isNe, e_isNi, e_isNb, e_isNl, e_isNt, e_isNs, e_lenL, e_lenT, e_lenS, e_abs, e_int, e_intB, e_max, e_min, e_gcd, e_tupL, e_tupT, e_repr, e_sum, e_all, e_any, e_allN, e_allC, e_seqL, e_seqT, e_seqS, e_rg1, e_rg2, e_excN, e_excE, e_val, e_at0, e_at1, e_at2, e_get0, e_get1, e_get2, e_get3, e_get4, e_get5, e_get6, e_get7, e_set0, e_set1, e_set2, e_set3, e_set4, e_set5, e_set6, e_set7, e_ixn0, e_ixn1, e_ixn2, e_ex, List.replicate, List.cons_append, List.nil_append, List.map, fnB, e_eqI]
  have fin : ∀ s0 s1 s2 s3 s5 s6 s7, tellS ⟨fun _ => R (.d .none), fun _ => R, fun _ => False, fun _ => False, fun _ => E⟩ [s0, s1, s2, s3, .v (.exc c x), s5, s6, s7] := fun s0 s1 s2 s3 s5 s6 s7 => tell_ok hc hr fun _ => h
  rcases hb (fun _ => tellS ⟨fun _ => R (.d .none), fun _ => R, fun _ => False, fun _ => False, fun _ => E⟩ [.v (.d (.int way)), .v (.d a), .v (.d b), .v (.d d), .v (.d .none), .no, .no, .no]) (fun k y => tellS ⟨fun _ => R (.d .none), fun _ => R, fun _ => False, fun _ => False, fun _ => E⟩ [.v (.d (.int way)), .v (.d a), .v (.d b), .v (.d d), .v (.exc k y), .no, .no, .no]) (fin _ _ _ _ _ _ _) with ⟨rfl, q⟩ | ⟨rfl, q⟩ | ⟨rfl, q⟩ | ⟨rfl, q⟩ | ⟨rfl, q⟩
  · exact ite_t rfl q
  · exact ite_f rfl (ite_t rfl q)
  · exact ite_f rfl (ite_f rfl (ite_t rfl q))
  · exact ite_f rfl (ite_f rfl (ite_f rfl (ite_t rfl q)))
  · exact ite_f rfl (ite_f rfl (ite_f rfl (ite_f rfl q)))

def Bd (v : PD) : Prop := isPrime v = false ∧ Rp 3 100 v
theorem told_prime {way : Int} {v a b : PD} {R : DV → Prop} {E : EK} (hv : Bd v) (h0 : 0 ≤ way) (h1 : way < 5) (h : R (.d (toldD 0 v))) : m__law_told [.d (.int way), .d v, .d a, .d b] R E := by
  have o9 := hv.2.ok9 (by decide) (by decide)
  refine told_of (c := 0) (by decide) (hv.2.ok (by decide) (by decide)) h fun Q E' e => ?_
  have c : way = 0 ∨ way = 1 ∨ way = 2 ∨ way = 3 ∨ way = 4 := by omega
  rcases c with rfl | rfl | rfl | rfl | rfl
  · refine .inl ⟨rfl, rfl, ?_⟩
    simp only [g_plus, gSeq, gIfS, gRet, gSet, gSetN, gSetIx, gDrop, gRaise, gNext, gApp, gFrz, gTry, gAsg, gFor, gRight, nCallW, zSeq, zRet, dVar, dOwn, dC, d2, d1, dN2, aNil, aCons, dTup, nLst, dCall, dBi, tVal, tNot', tAnd', tOr', dAnd, dOr, dNot, dIf, dChain, dCallK, iRg, iSeq, nLc, tTrue, gNm, wipeD, e_onD, e_onB, e_onI, e_slV, e_slO, e_slOo, e_slOw, e_gI, e_gI0, e_add, e_mul, e_mulL, e_neg, e_ixL, e_ixT, e_ixS, e_isi, e_isN, e_notN, e_isNe, e_isNi, e_isNb, e_isNl, e_isNt, e_isNs, e_lenL, e_lenT, e_lenS, e_abs, e_int, e_intB, e_max, e_min, e_gcd, e_tupL, e_tupT, e_repr, e_sum, e_all, e_any, e_allN, e_allC, e_seqL, e_seqT, e_seqS, e_rg1, e_rg2, e_excN, e_excE, e_val, e_at0, e_at1, e_at2, e_get0, e_get1, e_get2, e_get3, e_get4, e_get5, e_get6, e_get7, e_set0, e_set1, e_set2, e_set3, e_set4, e_set5, e_set6, e_set7, e_ixn0, e_ixn1, e_ixn2, e_ex, List.replicate, List.cons_append, List.nil_append, List.map, fnB]
    exact bad_scalars o9 hv.1 e
  · refine .inr (.inl ⟨rfl, rfl, ?_⟩)
    simp only [g_times, gSeq, gIfS, gRet, gSet, gSetN, gSetIx, gDrop, gRaise, gNext, gApp, gFrz, gTry, gAsg, gFor, gRight, nCallW, zSeq, zRet, dVar, dOwn, dC, d2, d1, dN2, aNil, aCons, dTup, nLst, dCall, dBi, tVal, tNot', tAnd', tOr', dAnd, dOr, dNot, dIf, dChain, dCallK, iRg, iSeq, nLc, tTrue, gNm, wipeD, e_onD, e_onB, e_onI, e_slV, e_slO, e_slOo, e_slOw, e_gI, e_gI0, e_add, e_mul, e_mulL, e_neg, e_ixL, e_ixT, e_ixS, e_isi, e_isN, e_notN, e_isNe, e_isNi, e_isNb, e_isNl, e_isNt, e_isNs, e_lenL, e_lenT, e_lenS, e_abs, e_int, e_intB, e_max, e_min, e_gcd, e_tupL, e_tupT, e_repr, e_sum, e_all, e_any, e_allN, e_allC, e_seqL, e_seqT, e_seqS, e_rg1, e_rg2, e_excN, e_excE, e_val, e_at0, e_at1, e_at2, e_get0, e_get1, e_get2, e_get3, e_get4, e_get5, e_get6, e_get7, e_set0, e_set1, e_set2, e_set3, e_set4, e_set5, e_set6, e_set7, e_ixn0, e_ixn1, e_ixn2, e_ex, List.replicate, List.cons_append, List.nil_append, List.map, fnB]
    exact bad_scalars o9 hv.1 e
  · refine .inr (.inr (.inl ⟨rfl, rfl, ?_⟩))
    simp only [g_negative, gSeq, gIfS, gRet, gSet, gSetN, gSetIx, gDrop, gRaise, gNext, gApp, gFrz, gTry, gAsg, gFor, gRight, nCallW, zSeq, zRet, dVar, dOwn, dC, d2, d1, dN2, aNil, aCons, dTup, nLst, dCall, dBi, tVal, tNot', tAnd', tOr', dAnd, dOr, dNot, dIf, dChain, dCallK, iRg, iSeq, nLc, tTrue, gNm, wipeD, e_onD, e_onB, e_onI, e_slV, e_slO, e_slOo, e_slOw, e_gI, e_gI0, e_add, e_mul, e_mulL, e_neg, e_ixL, e_ixT, e_ixS, e_isi, e_isN, e_notN, e_isNe, e_isNi, e_isNb, e_isNl, e_isNt, e_isNs, e_lenL, e_lenT, e_lenS, e_abs, e_int, e_intB, e_max, e_min, e_gcd, e_tupL, e_tupT, e_repr, e_sum, e_all, e_any, e_allN, e_allC, e_seqL, e_seqT, e_seqS, e_rg1, e_rg2, e_excN, e_excE, e_val, e_at0, e_at1, e_at2, e_get0, e_get1, e_get2, e_get3, e_get4, e_get5, e_get6, e_get7, e_set0, e_set1, e_set2, e_set3, e_set4, e_set5, e_set6, e_set7, e_ixn0, e_ixn1, e_ixn2, e_ex, List.replicate, List.cons_append, List.nil_append, List.map, fnB]
    exact bad_need_prime o9 hv.1 e
  · refine .inr (.inr (.inr (.inl ⟨rfl, rfl, ?_⟩)))
    simp only [g_inverse, gSeq, gIfS, gRet, gSet, gSetN, gSetIx, gDrop, gRaise, gNext, gApp, gFrz, gTry, gAsg, gFor, gRight, nCallW, zSeq, zRet, dVar, dOwn, dC, d2, d1, dN2, aNil, aCons, dTup, nLst, dCall, dBi, tVal, tNot', tAnd', tOr', dAnd, dOr, dNot, dIf, dChain, dCallK, iRg, iSeq, nLc, tTrue, gNm, wipeD, e_onD, e_onB, e_onI, e_slV, e_slO, e_slOo, e_slOw, e_gI, e_gI0, e_add, e_mul, e_mulL, e_neg, e_ixL, e_ixT, e_ixS, e_isi, e_isN, e_notN, e_isNe, e_isNi, e_isNb, e_isNl, e_isNt, e_isNs, e_lenL, e_lenT, e_lenS, e_abs, e_int, e_intB, e_max, e_min, e_gcd, e_tupL, e_tupT, e_repr, e_sum, e_all, e_any, e_allN, e_allC, e_seqL, e_seqT, e_seqS, e_rg1, e_rg2, e_excN, e_excE, e_val, e_at0, e_at1, e_at2, e_get0, e_get1, e_get2, e_get3, e_get4, e_get5, e_get6, e_get7, e_set0, e_set1, e_set2, e_set3, e_set4, e_set5, e_set6, e_set7, e_ixn0, e_ixn1, e_ixn2, e_ex, List.replicate, List.cons_append, List.nil_append, List.map, fnB]
    exact bad_need_prime o9 hv.1 e
  · refine .inr (.inr (.inr (.inr ⟨rfl, rfl, ?_⟩)))
    simp only [g_scalar_of, gSeq, gIfS, gRet, gSet, gSetN, gSetIx, gDrop, gRaise, gNext, gApp, gFrz, gTry, gAsg, gFor, gRight, nCallW, zSeq, zRet, dVar, dOwn, dC, d2, d1, dN2, aNil, aCons, dTup, nLst, dCall, dBi, tVal, tNot', tAnd', tOr', dAnd, dOr, dNot, dIf, dChain, dCallK, iRg, iSeq, nLc, tTrue, gNm, wipeD, e_onD, e_onB, e_onI, e_slV, e_slO, e_slOo, e_slOw, e_gI, e_gI0, e_add, e_mul, e_mulL, e_neg, e_ixL, e_ixT, e_ixS, e_isi, e_isN, e_notN, e_isNe, e_isNi, e_isNb, e_isNl, e_isNt, e_isNs, e_lenL, e_lenT, e_lenS, e_abs, e_int, e_intB, e_max, e_min, e_gcd, e_tupL, e_tupT, e_repr, e_sum, e_all, e_any, e_allN, e_allC, e_seqL, e_seqT, e_seqS, e_rg1, e_rg2, e_excN, e_excE, e_val, e_at0, e_at1, e_at2, e_get0, e_get1, e_get2, e_get3, e_get4, e_get5, e_get6, e_get7, e_set0, e_set1, e_set2, e_set3, e_set4, e_set5, e_set6, e_set7, e_ixn0, e_ixn1, e_ixn2, e_ex, List.replicate, List.cons_append, List.nil_append, List.map, fnB]
    exact bad_need_prime o9 hv.1 e
theorem told_first {way p : Int} {v b : PD} {R : DV → Prop} {E : EK} (hp : Pz p) (hv : isSc p v = false) (rv : Rp 4 3000 v) (h0 : 0 ≤ way) (h1 : way < 4) (h : R (.d (toldD 1 v))) : m__law_told [.d (.int way), .d (.int p), .d v, .d b] R E := by
  have o9 := rv.ok9 (by decide) (by decide)
  refine told_of (c := 1) (by decide) (rv.ok (by decide) (by decide)) h fun Q E' e => ?_
  have c : way = 0 ∨ way = 1 ∨ way = 2 ∨ way = 3 := by omega
  rcases c with rfl | rfl | rfl | rfl
  · refine .inl ⟨rfl, rfl, ?_⟩
    simp only [g_plus, gSeq, gIfS, gRet, gSet, gSetN, gSetIx, gDrop, gRaise, gNext, gApp, gFrz, gTry, gAsg, gFor, gRight, nCallW, zSeq, zRet, dVar, dOwn, dC, d2, d1, dN2, aNil, aCons, dTup, nLst, dCall, dBi, tVal, tNot', tAnd', tOr', dAnd, dOr, dNot, dIf, dChain, dCallK, iRg, iSeq, nLc, tTrue, gNm, wipeD, e_onD, e_onB, e_onI, e_slV, e_slO, e_slOo, e_slOw, e_gI, e_gI0, e_add, e_mul, e_mulL, e_neg, e_ixL, e_ixT, e_ixS, e_isi, e_isN, e_notN, e_isNe, e_isNi, e_isNb, e_isNl, e_isNt, e_isNs, e_lenL, e_lenT, e_lenS, e_abs, e_int, e_intB, e_max, e_min, e_gcd, e_tupL, e_tupT, e_repr, e_sum, e_all, e_any, e_allN, e_allC, e_seqL, e_seqT, e_seqS, e_rg1, e_rg2, e_excN, e_excE, e_val, e_at0, e_at1, e_at2, e_get0, e_get1, e_get2, e_get3, e_get4, e_get5, e_get6, e_get7, e_set0, e_set1, e_set2, e_set3, e_set4, e_set5, e_set6, e_set7, e_ixn0, e_ixn1, e_ixn2, e_ex, List.replicate, List.cons_append, List.nil_append, List.map, fnB]
    exact bad1_scalars hp o9 hv e
  · refine .inr (.inl ⟨rfl, rfl, ?_⟩)
    simp only [g_times, gSeq, gIfS, gRet, gSet, gSetN, gSetIx, gDrop, gRaise, gNext, gApp, gFrz, gTry, gAsg, gFor, gRight, nCallW, zSeq, zRet, dVar, dOwn, dC, d2, d1, dN2, aNil, aCons, dTup, nLst, dCall, dBi, tVal, tNot', tAnd', tOr', dAnd, dOr, dNot, dIf, dChain, dCallK, iRg, iSeq, nLc, tTrue, gNm, wipeD, e_onD, e_onB, e_onI, e_slV, e_slO, e_slOo, e_slOw, e_gI, e_gI0, e_add, e_mul, e_mulL, e_neg, e_ixL, e_ixT, e_ixS, e_isi, e_isN, e_notN, e_isNe, e_isNi, e_isNb, e_isNl, e_isNt, e_isNs, e_lenL, e_lenT, e_lenS, e_abs, e_int, e_intB, e_max, e_min, e_gcd, e_tupL, e_tupT, e_repr, e_sum, e_all, e_any, e_allN, e_allC, e_seqL, e_seqT, e_seqS, e_rg1, e_rg2, e_excN, e_excE, e_val, e_at0, e_at1, e_at2, e_get0, e_get1, e_get2, e_get3, e_get4, e_get5, e_get6, e_get7, e_set0, e_set1, e_set2, e_set3, e_set4, e_set5, e_set6, e_set7, e_ixn0, e_ixn1, e_ixn2, e_ex, List.replicate, List.cons_append, List.nil_append, List.map, fnB]
    exact bad1_scalars hp o9 hv e
  · refine .inr (.inr (.inl ⟨rfl, rfl, ?_⟩))
    simp only [g_negative, gSeq, gIfS, gRet, gSet, gSetN, gSetIx, gDrop, gRaise, gNext, gApp, gFrz, gTry, gAsg, gFor, gRight, nCallW, zSeq, zRet, dVar, dOwn, dC, d2, d1, dN2, aNil, aCons, dTup, nLst, dCall, dBi, tVal, tNot', tAnd', tOr', dAnd, dOr, dNot, dIf, dChain, dCallK, iRg, iSeq, nLc, tTrue, gNm, wipeD, e_onD, e_onB, e_onI, e_slV, e_slO, e_slOo, e_slOw, e_gI, e_gI0, e_add, e_mul, e_mulL, e_neg, e_ixL, e_ixT, e_ixS, e_isi, e_isN, e_notN, e_isNe, e_isNi, e_isNb, e_isNl, e_isNt, e_isNs, e_lenL, e_lenT, e_lenS, e_abs, e_int, e_intB, e_max, e_min, e_gcd, e_tupL, e_tupT, e_repr, e_sum, e_all, e_any, e_allN, e_allC, e_seqL, e_seqT, e_seqS, e_rg1, e_rg2, e_excN, e_excE, e_val, e_at0, e_at1, e_at2, e_get0, e_get1, e_get2, e_get3, e_get4, e_get5, e_get6, e_get7, e_set0, e_set1, e_set2, e_set3, e_set4, e_set5, e_set6, e_set7, e_ixn0, e_ixn1, e_ixn2, e_ex, List.replicate, List.cons_append, List.nil_append, List.map, fnB]
    exact ev_need_prime trivial (ite_t (isPrime_ok hp) (ev_need_scalar o9 (ite_f hv e)))
  · refine .inr (.inr (.inr (.inl ⟨rfl, rfl, ?_⟩)))
    simp only [g_inverse, gSeq, gIfS, gRet, gSet, gSetN, gSetIx, gDrop, gRaise, gNext, gApp, gFrz, gTry, gAsg, gFor, gRight, nCallW, zSeq, zRet, dVar, dOwn, dC, d2, d1, dN2, aNil, aCons, dTup, nLst, dCall, dBi, tVal, tNot', tAnd', tOr', dAnd, dOr, dNot, dIf, dChain, dCallK, iRg, iSeq, nLc, tTrue, gNm, wipeD, e_onD, e_onB, e_onI, e_slV, e_slO, e_slOo, e_slOw, e_gI, e_gI0, e_add, e_mul, e_mulL, e_neg, e_ixL, e_ixT, e_ixS, e_isi, e_isN, e_notN, e_isNe, e_isNi, e_isNb, e_isNl, e_isNt, e_isNs, e_lenL, e_lenT, e_lenS, e_abs, e_int, e_intB, e_max, e_min, e_gcd, e_tupL, e_tupT, e_repr, e_sum, e_all, e_any, e_allN, e_allC, e_seqL, e_seqT, e_seqS, e_rg1, e_rg2, e_excN, e_excE, e_val, e_at0, e_at1, e_at2, e_get0, e_get1, e_get2, e_get3, e_get4, e_get5, e_get6, e_get7, e_set0, e_set1, e_set2, e_set3, e_set4, e_set5, e_set6, e_set7, e_ixn0, e_ixn1, e_ixn2, e_ex, List.replicate, List.cons_append, List.nil_append, List.map, fnB]
    exact ev_need_prime trivial (ite_t (isPrime_ok hp) (ev_need_scalar o9 (ite_f hv e)))
theorem told_second {way p : Int} {y : Sc} {c : Nat} {v : PD} {R : DV → Prop} {E : EK} (hy : OkS p c y) (hv : isSc p v = false) (rv : Rp 4 3000 v) (hw : way = 0 ∨ way = 1) (h : R (.d (toldD 1 v))) : m__law_told [.d (.int way), .d (.int p), .d y.d, .d v] R E := by
  have o9 := rv.ok9 (by decide) (by decide)
  refine told_of (c := 1) (by decide) (rv.ok (by decide) (by decide)) h fun Q E' e => ?_
  rcases hw with rfl | rfl
  · refine .inl ⟨rfl, rfl, ?_⟩
    simp only [g_plus, gSeq, gIfS, gRet, gSet, gSetN, gSetIx, gDrop, gRaise, gNext, gApp, gFrz, gTry, gAsg, gFor, gRight, nCallW, zSeq, zRet, dVar, dOwn, dC, d2, d1, dN2, aNil, aCons, dTup, nLst, dCall, dBi, tVal, tNot', tAnd', tOr', dAnd, dOr, dNot, dIf, dChain, dCallK, iRg, iSeq, nLc, tTrue, gNm, wipeD, e_onD, e_onB, e_onI, e_slV, e_slO, e_slOo, e_slOw, e_gI, e_gI0, e_add, e_mul, e_mulL, e_neg, e_ixL, e_ixT, e_ixS, e_isi, e_isN, e_notN, e_isNe, e_isNi, e_isNb, e_isNl, e_isNt, e_isNs, e_lenL, e_lenT, e_lenS, e_abs, e_int, e_intB, e_max, e_min, e_gcd, e_tupL, e_tupT, e_repr, e_sum, e_all, e_any, e_allN, e_allC, e_seqL, e_seqT, e_seqS, e_rg1, e_rg2, e_excN, e_excE, e_val, e_at0, e_at1, e_at2, e_get0, e_get1, e_get2, e_get3, e_get4, e_get5, e_get6, e_get7, e_set0, e_set1, e_set2, e_set3, e_set4, e_set5, e_set6, e_set7, e_ixn0, e_ixn1, e_ixn2, e_ex, List.replicate, List.cons_append, List.nil_append, List.map, fnB]
    exact bad2_scalars hy o9 hv e
  · refine .inr (.inl ⟨rfl, rfl, ?_⟩)
    simp only [g_times, gSeq, gIfS, gRet, gSet, gSetN, gSetIx, gDrop, gRaise, gNext, gApp, gFrz, gTry, gAsg, gFor, gRight, nCallW, zSeq, zRet, dVar, dOwn, dC, d2, d1, dN2, aNil, aCons, dTup, nLst, dCall, dBi, tVal, tNot', tAnd', tOr', dAnd, dOr, dNot, dIf, dChain, dCallK, iRg, iSeq, nLc, tTrue, gNm, wipeD, e_onD, e_onB, e_onI, e_slV, e_slO, e_slOo, e_slOw, e_gI, e_gI0, e_add, e_mul, e_mulL, e_neg, e_ixL, e_ixT, e_ixS, e_isi, e_isN, e_notN, e_isNe, e_isNi, e_isNb, e_isNl, e_isNt, e_isNs, e_lenL, e_lenT, e_lenS, e_abs, e_int, e_intB, e_max, e_min, e_gcd, e_tupL, e_tupT, e_repr, e_sum, e_all, e_any, e_allN, e_allC, e_seqL, e_seqT, e_seqS, e_rg1, e_rg2, e_excN, e_excE, e_val, e_at0, e_at1, e_at2, e_get0, e_get1, e_get2, e_get3, e_get4, e_get5, e_get6, e_get7, e_set0, e_set1, e_set2, e_set3, e_set4, e_set5, e_set6, e_set7, e_ixn0, e_ixn1, e_ixn2, e_ex, List.replicate, List.cons_append, List.nil_append, List.map, fnB]
    exact bad2_scalars hy o9 hv e
theorem cp_told {c : Int} {v : PD} {e n : Nat} (hv : Rp e n v) : Cp 2 (toldD c v) := Cp.tup (CpA.cons (Cp.list (CpA.cons Cp.int CpA.nil)) (CpA.cons (Cp.str hv.st) CpA.nil))
theorem ev_refused {p : Int} {x : Sc} {R : DV → Prop} {E : EK} (hp : Pz p) (hx : OkS p 120 x) (hR : R (.d (.bool true))) : m__law_refused [.wel, .d (.int p), .d x.d] R E := by
  refine ⟨rfl, ?_⟩
  have e5 : rngD 0 5 = [.int 0, .int 1, .int 2, .int 3, .int 4] := rfl
  have e4 : rngD 0 4 = [.int 0, .int 1, .int 2, .int 3] := rfl
  simp only [g__law_refused, g__law_refused_0, g__law_refused_1, g__law_refused_2, g__law_refused_3, g__law_refused_4, g__law_refused_5, gSeq, gIfS, gRet, gSet, gSetN, gSetIx, gDrop, gRaise, gNext, gApp, gFrz, gTry, gAsg, gFor, gRight, nCallW, zSeq, zRet, dVar, dOwn, dC, d2, d1, dN2, aNil, aCons, dTup, nLst, dCall, dBi, tVal, tNot', tAnd', tOr', dAnd, dOr, dNot, dIf, dChain, dCallK, iRg, iSeq, nLc, tTrue, gNm, wipeD, e_onD, e_onB, e_onI, e_slV, e_slO, e_slOo, e_slOw, e_gI, e_gI0, e_add, e_mul, e_mulL, e_neg, e_ixL, e_ixT, e_ixS, e_isi, e_isN, e_notN, e_isNe, e_isNi, e_isNb, e_isNl, e_isNt, e_isNs, e_lenL, e_lenT, e_lenS, e_abs, e_int, e_intB, e_max, e_min, e_gcd, e_tupL, e_tupT, e_repr, e_sum, e_all, e_any, e_allN, e_allC, e_seqL, e_seqT, e_seqS, e_rg1, e_rg2, e_excN, e_excE, e_val, e_at0, e_at1, e_at2, e_get0, e_get1, e_get2, e_get3, e_get4, e_get5, e_get6, e_get7, e_set0, e_set1, e_set2, e_set3, e_set4, e_set5, e_set6, e_set7, e_ixn0, e_ixn1, e_ixn2, e_ex, List.replicate, List.cons_append, List.nil_append, List.map, fnB]
  refine ⟨by show 1 ≤ 100000; decide, by show 1 ≤ 100000; decide, by show 10 ≤ 100000; decide, ev_draw_of (by decide) (by decide) fun j j0 j1 => ?_⟩
  obtain ⟨v, hv, hm⟩ := atI_mem (xs := [PyData.none, .int 1, .int 4, .int (-2), .int 17, .bool true, .tuple [.int 0], .str "2", .bool false, .list [.int 3]]) j0 j1
  have bv : Bd v := by
    have ri : ∀ i : Int, i.natAbs < 1000 → Rp 2 10 (.int i) := fun i hi => Rp.int (Nat.lt_trans hi (by decide)) (by decide)
    simp only [List.mem_cons, List.not_mem_nil, or_false] at hm
    rcases hm with rfl | rfl | rfl | rfl | rfl | rfl | rfl | rfl | rfl | rfl
    · exact ⟨rfl, Rp.none⟩
    · exact ⟨by decide +kernel, (ri _ (by decide)).le (by decide) (by decide)⟩
    · exact ⟨by decide +kernel, (ri _ (by decide)).le (by decide) (by decide)⟩
    · exact ⟨by decide +kernel, (ri _ (by decide)).le (by decide) (by decide)⟩
    · exact ⟨by decide +kernel, (ri _ (by decide)).le (by decide) (by decide)⟩
    · exact ⟨rfl, Rp.bool⟩
    · exact ⟨rfl, (Rp.tup (RpA.cons (ri 0 (by decide)) RpA.nil)).le (by decide) (by decide)⟩
    · exact ⟨rfl, Rp.str (by decide +kernel) (by decide +kernel) (by decide +kernel) (by decide +kernel)⟩
    · exact ⟨rfl, Rp.bool⟩
    · exact ⟨rfl, (Rp.list (RpA.cons (ri 3 (by decide)) RpA.nil)).le (by decide) (by decide)⟩
  simp only [gSeq, gIfS, gRet, gSet, gSetN, gSetIx, gDrop, gRaise, gNext, gApp, gFrz, gTry, gAsg, gFor, gRight, nCallW, zSeq, zRet, dVar, dOwn, dC, d2, d1, dN2, aNil, aCons, dTup, nLst, dCall, dBi, tVal, tNot', tAnd', tOr', dAnd, dOr, dNot, dIf, dChain, dCallK, iRg, iSeq, nLc, tTrue, gNm, wipeD, e_onD, e_onB, e_onI, e_slV, e_slO, e_slOo, e_slOw, e_gI, e_gI0, e_add, e_mul, e_mulL, e_neg, e_ixL, e_ixT, e_ixS, e_isi, e_isN, e_notN, e_isNe, e_isNi, e_isNb, e_isNl, e_isNt, e_isNs, e_lenL, e_lenT, e_lenS, e_abs, e_int, e_intB, e_max, e_min, e_gcd, e_tupL, e_tupT, e_repr, e_sum, e_all, e_any, e_allN, e_allC, e_seqL, e_seqT, e_seqS, e_rg1, e_rg2, e_excN, e_excE, e_val, e_at0, e_at1, e_at2, e_get0, e_get1, e_get2, e_get3, e_get4, e_get5, e_get6, e_get7, e_set0, e_set1, e_set2, e_set3, e_set4, e_set5, e_set6, e_set7, e_ixn0, e_ixn1, e_ixn2, e_ex, List.replicate, List.cons_append, List.nil_append, List.map, fnB, e5, e4]
  refine ⟨v, hv, ⟨by decide, by decide⟩, by show 5 ≤ 100000; decide, lcD_of (fun _ => some (toldD 0 v)) (fun z hz P hP => ?_) ?_⟩
  · rw [← e5] at hz
    obtain ⟨k, rfl, k0, k1⟩ := rng_nonneg hz
    simp only [gSeq, gIfS, gRet, gSet, gSetN, gSetIx, gDrop, gRaise, gNext, gApp, gFrz, gTry, gAsg, gFor, gRight, nCallW, zSeq, zRet, dVar, dOwn, dC, d2, d1, dN2, aNil, aCons, dTup, nLst, dCall, dBi, tVal, tNot', tAnd', tOr', dAnd, dOr, dNot, dIf, dChain, dCallK, iRg, iSeq, nLc, tTrue, gNm, wipeD, e_onD, e_onB, e_onI, e_slV, e_slO, e_slOo, e_slOw, e_gI, e_gI0, e_add, e_mul, e_mulL, e_neg, e_ixL, e_ixT, e_ixS, e_isi, e_isN, e_notN, e_isNe, e_isNi, e_isNb, e_isNl, e_isNt, e_isNs, e_lenL, e_lenT, e_lenS, e_abs, e_int, e_intB, e_max, e_min, e_gcd, e_tupL, e_tupT, e_repr, e_sum, e_all, e_any, e_allN, e_allC, e_seqL, e_seqT, e_seqS, e_rg1, e_rg2, e_excN, e_excE, e_val, e_at0, e_at1, e_at2, e_get0, e_get1, e_get2, e_get3, e_get4, e_get5, e_get6, e_get7, e_set0, e_set1, e_set2, e_set3, e_set4, e_set5, e_set6, e_set7, e_ixn0, e_ixn1, e_ixn2, e_ex, List.replicate, List.cons_append, List.nil_append, List.map, fnB]
    exact told_prime bv k0 k1 hP
  try simp only [gSeq, gIfS, gRet, gSet, gSetN, gSetIx, gDrop, gRaise, gNext, gApp, gFrz, gTry, gAsg, gFor, gRight, nCallW, zSeq, zRet, dVar, dOwn, dC, d2, d1, dN2, aNil, aCons, dTup, nLst, dCall, dBi, tVal, tNot', tAnd', tOr', dAnd, dOr, dNot, dIf, dChain, dCallK, iRg, iSeq, nLc, tTrue, gNm, wipeD, e_onD, e_onB, e_onI, e_slV, e_slO, e_slOo, e_slOw, e_gI, e_gI0, e_add, e_mul, e_mulL, e_neg, e_ixL, e_ixT, e_ixS, e_isi, e_isN, e_notN, e_isNe, e_isNi, e_isNb, e_isNl, e_isNt, e_isNs, e_lenL, e_lenT, e_lenS, e_abs, e_int, e_intB, e_max, e_min, e_gcd, e_tupL, e_tupT, e_repr, e_sum, e_all, e_any, e_allN, e_allC, e_seqL, e_seqT, e_seqS, e_rg1, e_rg2, e_excN, e_excE, e_val, e_at0, e_at1, e_at2, e_get0, e_get1, e_get2, e_get3, e_get4, e_get5, e_get6, e_get7, e_set0, e_set1, e_set2, e_set3, e_set4, e_set5, e_set6, e_set7, e_ixn0, e_ixn1, e_ixn2, e_ex, List.replicate, List.cons_append, List.nil_append, List.map, fnB]
  refine ⟨by show 1 ≤ 100000; decide, bv.2.ok (by decide) (by decide), by show 2 ≤ 100000; decide, by show 1 ≤ 100000; decide, ⟨by decide, by decide⟩, by show 1 * 5 ≤ 100000; decide, ?_⟩
  have cl5 : Cp 3 (.list [toldD 0 v, toldD 0 v, toldD 0 v, toldD 0 v, toldD 0 v]) := Cp.list (CpA.cons (cp_told bv.2) (CpA.cons (cp_told bv.2) (CpA.cons (cp_told bv.2) (CpA.cons (cp_told bv.2) (CpA.cons (cp_told bv.2) CpA.nil)))))
  refine e_neR cl5 (by decide) ?_
  try simp only [gSeq, gIfS, gRet, gSet, gSetN, gSetIx, gDrop, gRaise, gNext, gApp, gFrz, gTry, gAsg, gFor, gRight, nCallW, zSeq, zRet, dVar, dOwn, dC, d2, d1, dN2, aNil, aCons, dTup, nLst, dCall, dBi, tVal, tNot', tAnd', tOr', dAnd, dOr, dNot, dIf, dChain, dCallK, iRg, iSeq, nLc, tTrue, gNm, wipeD, e_onD, e_onB, e_onI, e_slV, e_slO, e_slOo, e_slOw, e_gI, e_gI0, e_add, e_mul, e_mulL, e_neg, e_ixL, e_ixT, e_ixS, e_isi, e_isN, e_notN, e_isNe, e_isNi, e_isNb, e_isNl, e_isNt, e_isNs, e_lenL, e_lenT, e_lenS, e_abs, e_int, e_intB, e_max, e_min, e_gcd, e_tupL, e_tupT, e_repr, e_sum, e_all, e_any, e_allN, e_allC, e_seqL, e_seqT, e_seqS, e_rg1, e_rg2, e_excN, e_excE, e_val, e_at0, e_at1, e_at2, e_get0, e_get1, e_get2, e_get3, e_get4, e_get5, e_get6, e_get7, e_set0, e_set1, e_set2, e_set3, e_set4, e_set5, e_set6, e_set7, e_ixn0, e_ixn1, e_ixn2, e_ex, List.replicate, List.cons_append, List.nil_append, List.map, fnB]
  refine ite_f rfl (ev_law_near hp hx fun w hw => ?_)
  refine ev_law_is_scalar hp hw ?_
  try simp only [gSeq, gIfS, gRet, gSet, gSetN, gSetIx, gDrop, gRaise, gNext, gApp, gFrz, gTry, gAsg, gFor, gRight, nCallW, zSeq, zRet, dVar, dOwn, dC, d2, d1, dN2, aNil, aCons, dTup, nLst, dCall, dBi, tVal, tNot', tAnd', tOr', dAnd, dOr, dNot, dIf, dChain, dCallK, iRg, iSeq, nLc, tTrue, gNm, wipeD, e_onD, e_onB, e_onI, e_slV, e_slO, e_slOo, e_slOw, e_gI, e_gI0, e_add, e_mul, e_mulL, e_neg, e_ixL, e_ixT, e_ixS, e_isi, e_isN, e_notN, e_isNe, e_isNi, e_isNb, e_isNl, e_isNt, e_isNs, e_lenL, e_lenT, e_lenS, e_abs, e_int, e_intB, e_max, e_min, e_gcd, e_tupL, e_tupT, e_repr, e_sum, e_all, e_any, e_allN, e_allC, e_seqL, e_seqT, e_seqS, e_rg1, e_rg2, e_excN, e_excE, e_val, e_at0, e_at1, e_at2, e_get0, e_get1, e_get2, e_get3, e_get4, e_get5, e_get6, e_get7, e_set0, e_set1, e_set2, e_set3, e_set4, e_set5, e_set6, e_set7, e_ixn0, e_ixn1, e_ixn2, e_ex, List.replicate, List.cons_append, List.nil_append, List.map, fnB]
  cases q : isSc p w with
  | true => exact hR
  | false =>
    refine ⟨⟨by decide, by decide⟩, by show 4 ≤ 100000; decide, lcD_of (fun _ => some (toldD 1 w)) (fun z hz P hP => ?_) ?_⟩
    · rw [← e4] at hz
      obtain ⟨k, rfl, k0, k1⟩ := rng_nonneg hz
      simp only [gSeq, gIfS, gRet, gSet, gSetN, gSetIx, gDrop, gRaise, gNext, gApp, gFrz, gTry, gAsg, gFor, gRight, nCallW, zSeq, zRet, dVar, dOwn, dC, d2, d1, dN2, aNil, aCons, dTup, nLst, dCall, dBi, tVal, tNot', tAnd', tOr', dAnd, dOr, dNot, dIf, dChain, dCallK, iRg, iSeq, nLc, tTrue, gNm, wipeD, e_onD, e_onB, e_onI, e_slV, e_slO, e_slOo, e_slOw, e_gI, e_gI0, e_add, e_mul, e_mulL, e_neg, e_ixL, e_ixT, e_ixS, e_isi, e_isN, e_notN, e_isNe, e_isNi, e_isNb, e_isNl, e_isNt, e_isNs, e_lenL, e_lenT, e_lenS, e_abs, e_int, e_intB, e_max, e_min, e_gcd, e_tupL, e_tupT, e_repr, e_sum, e_all, e_any, e_allN, e_allC, e_seqL, e_seqT, e_seqS, e_rg1, e_rg2, e_excN, e_excE, e_val, e_at0, e_at1, e_at2, e_get0, e_get1, e_get2, e_get3, e_get4, e_get5, e_get6, e_get7, e_set0, e_set1, e_set2, e_set3, e_set4, e_set5, e_set6, e_set7, e_ixn0, e_ixn1, e_ixn2, e_ex, List.replicate, List.cons_append, List.nil_append, List.map, fnB]
      exact told_first hp q hw k0 k1 hP
    refine ⟨by show 1 ≤ 100000; decide, hw.ok (by decide) (by decide), by show 2 ≤ 100000; decide, by show 1 ≤ 100000; decide, ⟨by decide, by decide⟩, by show 1 * 4 ≤ 100000; decide, ?_⟩
    have cw := cp_told (c := 1) hw
    refine e_neR (Cp.list (CpA.cons cw (CpA.cons cw (CpA.cons cw (CpA.cons cw CpA.nil)))) : Cp 3 (.list [toldD 1 w, toldD 1 w, toldD 1 w, toldD 1 w])) (by decide) ?_
    try simp only [gSeq, gIfS, gRet, gSet, gSetN, gSetIx, gDrop, gRaise, gNext, gApp, gFrz, gTry, gAsg, gFor, gRight, nCallW, zSeq, zRet, dVar, dOwn, dC, d2, d1, dN2, aNil, aCons, dTup, nLst, dCall, dBi, tVal, tNot', tAnd', tOr', dAnd, dOr, dNot, dIf, dChain, dCallK, iRg, iSeq, nLc, tTrue, gNm, wipeD, e_onD, e_onB, e_onI, e_slV, e_slO, e_slOo, e_slOw, e_gI, e_gI0, e_add, e_mul, e_mulL, e_neg, e_ixL, e_ixT, e_ixS, e_isi, e_isN, e_notN, e_isNe, e_isNi, e_isNb, e_isNl, e_isNt, e_isNs, e_lenL, e_lenT, e_lenS, e_abs, e_int, e_intB, e_max, e_min, e_gcd, e_tupL, e_tupT, e_repr, e_sum, e_all, e_any, e_allN, e_allC, e_seqL, e_seqT, e_seqS, e_rg1, e_rg2, e_excN, e_excE, e_val, e_at0, e_at1, e_at2, e_get0, e_get1, e_get2, e_get3, e_get4, e_get5, e_get6, e_get7, e_set0, e_set1, e_set2, e_set3, e_set4, e_set5, e_set6, e_set7, e_ixn0, e_ixn1, e_ixn2, e_ex, List.replicate, List.cons_append, List.nil_append, List.map, fnB]
    refine ite_f rfl ⟨by show 2 ≤ 100000; decide, by show 2 ≤ 100000; decide, lcD_of (fun _ => some (toldD 1 w)) (fun z hz P hP => ?_) ?_⟩
    · have hz : z = .int 0 ∨ z = .int 1 := by simpa using hz
      rcases hz with rfl | rfl
      · simp only [gSeq, gIfS, gRet, gSet, gSetN, gSetIx, gDrop, gRaise, gNext, gApp, gFrz, gTry, gAsg, gFor, gRight, nCallW, zSeq, zRet, dVar, dOwn, dC, d2, d1, dN2, aNil, aCons, dTup, nLst, dCall, dBi, tVal, tNot', tAnd', tOr', dAnd, dOr, dNot, dIf, dChain, dCallK, iRg, iSeq, nLc, tTrue, gNm, wipeD, e_onD, e_onB, e_onI, e_slV, e_slO, e_slOo, e_slOw, e_gI, e_gI0, e_add, e_mul, e_mulL, e_neg, e_ixL, e_ixT, e_ixS, e_isi, e_isN, e_notN, e_isNe, e_isNi, e_isNb, e_isNl, e_isNt, e_isNs, e_lenL, e_lenT, e_lenS, e_abs, e_int, e_intB, e_max, e_min, e_gcd, e_tupL, e_tupT, e_repr, e_sum, e_all, e_any, e_allN, e_allC, e_seqL, e_seqT, e_seqS, e_rg1, e_rg2, e_excN, e_excE, e_val, e_at0, e_at1, e_at2, e_get0, e_get1, e_get2, e_get3, e_get4, e_get5, e_get6, e_get7, e_set0, e_set1, e_set2, e_set3, e_set4, e_set5, e_set6, e_set7, e_ixn0, e_ixn1, e_ixn2, e_ex, List.replicate, List.cons_append, List.nil_append, List.map, fnB]
        exact told_second hx q hw (.inl rfl) hP
      · simp only [gSeq, gIfS, gRet, gSet, gSetN, gSetIx, gDrop, gRaise, gNext, gApp, gFrz, gTry, gAsg, gFor, gRight, nCallW, zSeq, zRet, dVar, dOwn, dC, d2, d1, dN2, aNil, aCons, dTup, nLst, dCall, dBi, tVal, tNot', tAnd', tOr', dAnd, dOr, dNot, dIf, dChain, dCallK, iRg, iSeq, nLc, tTrue, gNm, wipeD, e_onD, e_onB, e_onI, e_slV, e_slO, e_slOo, e_slOw, e_gI, e_gI0, e_add, e_mul, e_mulL, e_neg, e_ixL, e_ixT, e_ixS, e_isi, e_isN, e_notN, e_isNe, e_isNi, e_isNb, e_isNl, e_isNt, e_isNs, e_lenL, e_lenT, e_lenS, e_abs, e_int, e_intB, e_max, e_min, e_gcd, e_tupL, e_tupT, e_repr, e_sum, e_all, e_any, e_allN, e_allC, e_seqL, e_seqT, e_seqS, e_rg1, e_rg2, e_excN, e_excE, e_val, e_at0, e_at1, e_at2, e_get0, e_get1, e_get2, e_get3, e_get4, e_get5, e_get6, e_get7, e_set0, e_set1, e_set2, e_set3, e_set4, e_set5, e_set6, e_set7, e_ixn0, e_ixn1, e_ixn2, e_ex, List.replicate, List.cons_append, List.nil_append, List.map, fnB]
        exact told_second hx q hw (.inr rfl) hP
    refine ⟨by show 1 ≤ 100000; decide, hw.ok (by decide) (by decide), by show 2 ≤ 100000; decide, by show 1 ≤ 100000; decide, ⟨by decide, by decide⟩, by show 1 * 2 ≤ 100000; decide, ?_⟩
    exact e_eqR (Cp.list (CpA.cons cw (CpA.cons cw CpA.nil)) : Cp 3 (.list [toldD 1 w, toldD 1 w])) (by decide) hR
/-! the laws of scalars -/
theorem mm_mod {a p : Int} : a % p % p = a % p := Int.emod_emod_of_dvd a (Int.dvd_refl p)
theorem sAdd_assoc {p : Int} {a b c : Nat} {x y z : Sc} (hx : OkS p a x) (hy : OkS p b y) (hz : OkS p c z) : sAdd p x (sAdd p y z) = sAdd p (sAdd p x y) z := by
  cases x with
  | q r =>
    cases y with
    | z a => have := hy.1.pos; have := hx.1; omega
    | q s =>
      cases z with
      | z a => have := hz.1.pos; have := hx.1; omega
      | q t => simp only [sAdd, Rat.add_assoc]
  | z i =>
    cases y with
    | q s => have := hx.1.pos; have := hy.1; omega
    | z j =>
      cases z with
      | q s => have := hx.1.pos; have := hz.1; omega
      | z k =>
        simp only [sAdd]
        rw [Int.add_emod i, mm_mod, ← Int.add_emod, Int.add_emod _ k, mm_mod, ← Int.add_emod, Int.add_assoc]
theorem sMul_add {p : Int} {a b c : Nat} {x y z : Sc} (hx : OkS p a x) (hy : OkS p b y) (hz : OkS p c z) : sMul p x (sAdd p y z) = sAdd p (sMul p x y) (sMul p x z) := by
  cases x with
  | q r =>
    cases y with
    | z a => have := hy.1.pos; have := hx.1; omega
    | q s =>
      cases z with
      | z a => have := hz.1.pos; have := hx.1; omega
      | q t => simp only [sAdd, sMul, Rat.mul_add]
  | z i =>
    cases y with
    | q s => have := hx.1.pos; have := hy.1; omega
    | z j =>
      cases z with
      | q s => have := hx.1.pos; have := hz.1; omega
      | z k =>
        simp only [sAdd, sMul]
        rw [Int.mul_emod i, mm_mod, ← Int.mul_emod, ← Int.add_emod, Int.mul_add]
theorem sMul_neg {p : Int} {a : Nat} {x : Sc} (hx : OkS p a x) : sMul p x (sNum p (-1)) = sNeg p x := by
  cases x with
  | q r =>
    obtain ⟨rfl, _⟩ := hx
    have e : Rat.divInt (-1) 1 = -1 := by decide +kernel
    simp only [sNum, if_true, sMul, sNeg, e]
    rw [Rat.mul_neg, Rat.mul_one]
  | z i =>
    have hp := hx.1.pos
    simp only [sNum]
    rw [if_neg (by omega)]
    simp only [sMul, sNeg]
    rw [Int.mul_emod i, mm_mod, ← Int.mul_emod, show i * (-1) = -i by omega]
theorem sMul_inv {p : Int} {a : Nat} {x : Sc} (hx : OkS p a x) (hz : nz x) : sMul p x (sInv p x) = sNum p 1 := by
  cases x with
  | q r =>
    obtain ⟨rfl, _⟩ := hx
    have e : Rat.divInt 1 1 = 1 := by decide +kernel
    simp only [sNum, if_true, sMul, sInv, e]
    rw [Rat.mul_inv_cancel _ hz]
  | z i =>
    have hp := hx.1.pos
    have hz : i ≠ 0 := hz
    obtain ⟨z, t, e, _, _, h⟩ := zl_ok hx.1 (by have := hx.2.1; omega) hx.2.2
    simp only [sNum]
    rw [if_neg (by omega)]
    simp only [sMul, sInv, zinv, e]
    have h1 : (1 : Int) % p = 1 := by rcases hx.1 with rfl | rfl | rfl | rfl | rfl | rfl <;> decide
    rw [h1]
    show Sc.z (i * z % p) = _
    rw [h]
theorem OkS.num {p k : Int} {b : Nat} (hp : Pz p) (hk : MB b k) (hb : 1 ≤ b) : OkS p b (sNum p k) := by
  unfold sNum
  rcases hp with h | h
  · rw [if_pos h]
    have := mb_divInt (n := k) (m := 1) (by decide) hk (by unfold MB; decide : MB 1 1)
    exact ⟨h, this.1, this.2.le hb⟩
  · have h0 := h.pos
    rw [if_neg (by omega)]
    exact ⟨h, Int.emod_nonneg _ (by omega), Int.emod_lt_of_pos _ h0⟩

def RT (D : DEnds) : Prop := ∀ ρ, D.rt ρ (.d (.bool true))
theorem r11 {D : DEnds} {p : Int} {x : Sc} {s3 s4 s5 s6 s7 s8 : Sl} (hD : RT D) (hp : Pz p) (hx : OkS p 120 x) : g__law_right_11 D [.v .wel, .v (.d (.int p)), .v (.d x.d), s3, s4, s5, s6, s7, s8] := by
  simp only [g__law_right_11, gSeq, gIfS, gRet, gSet, gSetN, gSetIx, gDrop, gRaise, gNext, gApp, gFrz, gTry, gAsg, gFor, gRight, nCallW, zSeq, zRet, dVar, dOwn, dC, d2, d1, dN2, aNil, aCons, dTup, nLst, dCall, dBi, tVal, tNot', tAnd', tOr', dAnd, dOr, dNot, dIf, dChain, dCallK, iRg, iSeq, nLc, tTrue, gNm, wipeD, e_onD, e_onB, e_onI, e_slV, e_slO, e_slOo, e_slOw, e_gI, e_gI0, e_add, e_mul, e_mulL, e_neg, e_ixL, e_ixT, e_ixS, e_isi, e_isN, e_notN, e_isNe, e_isNi, e_isNb, e_isNl, e_isNt, e_isNs, e_lenL, e_lenT, e_lenS, e_abs, e_int, e_intB, e_max, e_min, e_gcd, e_tupL, e_tupT, e_repr, e_sum, e_all, e_any, e_allN, e_allC, e_seqL, e_seqT, e_seqS, e_rg1, e_rg2, e_excN, e_excE, e_val, e_at0, e_at1, e_at2, e_get0, e_get1, e_get2, e_get3, e_get4, e_get5, e_get6, e_get7, e_set0, e_set1, e_set2, e_set3, e_set4, e_set5, e_set6, e_set7, e_ixn0, e_ixn1, e_ixn2, e_ex, List.replicate, List.cons_append, List.nil_append, List.map, fnB]
  exact ev_refused hp hx (hD _)
theorem rp2 {p : Int} {a b : PD} {e n m : Nat} (ha : Rp e n a) (hb : Rp e m b) : Rp (e + 1) (n + 1 + (m + 1 + 0)) (.list [a, b]) := Rp.list (RpA.cons ha (RpA.cons hb RpA.nil))
theorem ev_is_scalar {p : Int} {x : PD} {R : DV → Prop} {E : EK} (hp : Pz p) (h : R (.d (.bool (isSc p x)))) : m_is_scalar [.d (.int p), .d x] R E := by
  refine ⟨rfl, ?_⟩
  simp only [g_is_scalar, gSeq, gIfS, gRet, gSet, gSetN, gSetIx, gDrop, gRaise, gNext, gApp, gFrz, gTry, gAsg, gFor, gRight, nCallW, zSeq, zRet, dVar, dOwn, dC, d2, d1, dN2, aNil, aCons, dTup, nLst, dCall, dBi, tVal, tNot', tAnd', tOr', dAnd, dOr, dNot, dIf, dChain, dCallK, iRg, iSeq, nLc, tTrue, gNm, wipeD, e_onD, e_onB, e_onI, e_slV, e_slO, e_slOo, e_slOw, e_gI, e_gI0, e_add, e_mul, e_mulL, e_neg, e_ixL, e_ixT, e_ixS, e_isi, e_isN, e_notN, e_isNe, e_isNi, e_isNb, e_isNl, e_isNt, e_isNs, e_lenL, e_lenT, e_lenS, e_abs, e_int, e_intB, e_max, e_min, e_gcd, e_tupL, e_tupT, e_repr, e_sum, e_all, e_any, e_allN, e_allC, e_seqL, e_seqT, e_seqS, e_rg1, e_rg2, e_excN, e_excE, e_val, e_at0, e_at1, e_at2, e_get0, e_get1, e_get2, e_get3, e_get4, e_get5, e_get6, e_get7, e_set0, e_set1, e_set2, e_set3, e_set4, e_set5, e_set6, e_set7, e_ixn0, e_ixn1, e_ixn2, e_ex, List.replicate, List.cons_append, List.nil_append, List.map, fnB]
  exact ev_need_prime trivial (ite_t (isPrime_ok hp) (ev_is_scalar_in h))
theorem loop10 {D : DEnds} {p : Int} {x y z : Sc} (hp : Pz p) (hy : OkS p 120 y) (b : DS) (hb : ∀ (D : DEnds) s5 s6 s7 s8, (∀ s5 s8, D.nx [.v .wel, .v (.d (.int p)), .v (.d x.d), .v (.d y.d), .v (.d z.d), s5, s6, s7, s8]) → b D [.v .wel, .v (.d (.int p)), .v (.d x.d), .v (.d y.d), .v (.d z.d), s5, s6, s7, s8])
    (hD : ∀ s5 s6 s7 s8, D.nx [.v .wel, .v (.d (.int p)), .v (.d x.d), .v (.d y.d), .v (.d z.d), s5, s6, s7, s8]) : ∀ (xs : List PD) (s5 s6 s7 s8 : Sl), loopD (gNm 7) b D xs [.v .wel, .v (.d (.int p)), .v (.d x.d), .v (.d y.d), .v (.d z.d), s5, s6, s7, s8]
  | [], s5, s6, s7, s8 => by
    unfold loopD
    exact hD _ _ _ _
  | t :: xs, s5, s6, s7, s8 => by
    unfold loopD
    simp only [gSeq, gIfS, gRet, gSet, gSetN, gSetIx, gDrop, gRaise, gNext, gApp, gFrz, gTry, gAsg, gFor, gRight, nCallW, zSeq, zRet, dVar, dOwn, dC, d2, d1, dN2, aNil, aCons, dTup, nLst, dCall, dBi, tVal, tNot', tAnd', tOr', dAnd, dOr, dNot, dIf, dChain, dCallK, iRg, iSeq, nLc, tTrue, gNm, wipeD, e_onD, e_onB, e_onI, e_slV, e_slO, e_slOo, e_slOw, e_gI, e_gI0, e_add, e_mul, e_mulL, e_neg, e_ixL, e_ixT, e_ixS, e_isi, e_isN, e_notN, e_isNe, e_isNi, e_isNb, e_isNl, e_isNt, e_isNs, e_lenL, e_lenT, e_lenS, e_abs, e_int, e_intB, e_max, e_min, e_gcd, e_tupL, e_tupT, e_repr, e_sum, e_all, e_any, e_allN, e_allC, e_seqL, e_seqT, e_seqS, e_rg1, e_rg2, e_excN, e_excE, e_val, e_at0, e_at1, e_at2, e_get0, e_get1, e_get2, e_get3, e_get4, e_get5, e_get6, e_get7, e_set0, e_set1, e_set2, e_set3, e_set4, e_set5, e_set6, e_set7, e_ixn0, e_ixn1, e_ixn2, e_ex, List.replicate, List.cons_append, List.nil_append, List.map, fnB]
    exact hb _ _ _ _ _ fun s5 s8 => loop10 hp hy b hb hD xs _ _ _ _
theorem r10 {D : DEnds} {p : Int} {x y z : Sc} {s5 s6 s7 s8 : Sl} (hD : RT D) (hp : Pz p) (hx : OkS p 120 x) (hy : OkS p 120 y) : g__law_right_10 D [.v .wel, .v (.d (.int p)), .v (.d x.d), .v (.d y.d), .v (.d z.d), s5, s6, s7, s8] := by
  unfold g__law_right_10
  simp only [gSeq, gIfS, gRet, gSet, gSetN, gSetIx, gDrop, gRaise, gNext, gApp, gFrz, gTry, gAsg, gFor, gRight, nCallW, zSeq, zRet, dVar, dOwn, dC, d2, d1, dN2, aNil, aCons, dTup, nLst, dCall, dBi, tVal, tNot', tAnd', tOr', dAnd, dOr, dNot, dIf, dChain, dCallK, iRg, iSeq, nLc, tTrue, gNm, wipeD, e_onD, e_onB, e_onI, e_slV, e_slO, e_slOo, e_slOw, e_gI, e_gI0, e_add, e_mul, e_mulL, e_neg, e_ixL, e_ixT, e_ixS, e_isi, e_isN, e_notN, e_isNe, e_isNi, e_isNb, e_isNl, e_isNt, e_isNs, e_lenL, e_lenT, e_lenS, e_abs, e_int, e_intB, e_max, e_min, e_gcd, e_tupL, e_tupT, e_repr, e_sum, e_all, e_any, e_allN, e_allC, e_seqL, e_seqT, e_seqS, e_rg1, e_rg2, e_excN, e_excE, e_val, e_at0, e_at1, e_at2, e_get0, e_get1, e_get2, e_get3, e_get4, e_get5, e_get6, e_get7, e_set0, e_set1, e_set2, e_set3, e_set4, e_set5, e_set6, e_set7, e_ixn0, e_ixn1, e_ixn2, e_ex, List.replicate, List.cons_append, List.nil_append, List.map, fnB]
  refine ⟨⟨by decide, by decide⟩, by rw [rngD_len]; decide, loop10 hp hy _ (fun D s5 s6 s7 s8 hn => ?_) (fun _ _ _ _ => r11 hD hp hx) _ _ _ _ _⟩
  simp only [gSeq, gIfS, gRet, gSet, gSetN, gSetIx, gDrop, gRaise, gNext, gApp, gFrz, gTry, gAsg, gFor, gRight, nCallW, zSeq, zRet, dVar, dOwn, dC, d2, d1, dN2, aNil, aCons, dTup, nLst, dCall, dBi, tVal, tNot', tAnd', tOr', dAnd, dOr, dNot, dIf, dChain, dCallK, iRg, iSeq, nLc, tTrue, gNm, wipeD, e_onD, e_onB, e_onI, e_slV, e_slO, e_slOo, e_slOw, e_gI, e_gI0, e_add, e_mul, e_mulL, e_neg, e_ixL, e_ixT, e_ixS, e_isi, e_isN, e_notN, e_isNe, e_isNi, e_isNb, e_isNl, e_isNt, e_isNs, e_lenL, e_lenT, e_lenS, e_abs, e_int, e_intB, e_max, e_min, e_gcd, e_tupL, e_tupT, e_repr, e_sum, e_all, e_any, e_allN, e_allC, e_seqL, e_seqT, e_seqS, e_rg1, e_rg2, e_excN, e_excE, e_val, e_at0, e_at1, e_at2, e_get0, e_get1, e_get2, e_get3, e_get4, e_get5, e_get6, e_get7, e_set0, e_set1, e_set2, e_set3, e_set4, e_set5, e_set6, e_set7, e_ixn0, e_ixn1, e_ixn2, e_ex, List.replicate, List.cons_append, List.nil_append, List.map, fnB]
  refine ev_law_near hp hy fun w hw => ?_
  try simp only [gSeq, gIfS, gRet, gSet, gSetN, gSetIx, gDrop, gRaise, gNext, gApp, gFrz, gTry, gAsg, gFor, gRight, nCallW, zSeq, zRet, dVar, dOwn, dC, d2, d1, dN2, aNil, aCons, dTup, nLst, dCall, dBi, tVal, tNot', tAnd', tOr', dAnd, dOr, dNot, dIf, dChain, dCallK, iRg, iSeq, nLc, tTrue, gNm, wipeD, e_onD, e_onB, e_onI, e_slV, e_slO, e_slOo, e_slOw, e_gI, e_gI0, e_add, e_mul, e_mulL, e_neg, e_ixL, e_ixT, e_ixS, e_isi, e_isN, e_notN, e_isNe, e_isNi, e_isNb, e_isNl, e_isNt, e_isNs, e_lenL, e_lenT, e_lenS, e_abs, e_int, e_intB, e_max, e_min, e_gcd, e_tupL, e_tupT, e_repr, e_sum, e_all, e_any, e_allN, e_allC, e_seqL, e_seqT, e_seqS, e_rg1, e_rg2, e_excN, e_excE, e_val, e_at0, e_at1, e_at2, e_get0, e_get1, e_get2, e_get3, e_get4, e_get5, e_get6, e_get7, e_set0, e_set1, e_set2, e_set3, e_set4, e_set5, e_set6, e_set7, e_ixn0, e_ixn1, e_ixn2, e_ex, List.replicate, List.cons_append, List.nil_append, List.map, fnB]
  refine ev_law_is_scalar hp hw ?_
  try simp only [gSeq, gIfS, gRet, gSet, gSetN, gSetIx, gDrop, gRaise, gNext, gApp, gFrz, gTry, gAsg, gFor, gRight, nCallW, zSeq, zRet, dVar, dOwn, dC, d2, d1, dN2, aNil, aCons, dTup, nLst, dCall, dBi, tVal, tNot', tAnd', tOr', dAnd, dOr, dNot, dIf, dChain, dCallK, iRg, iSeq, nLc, tTrue, gNm, wipeD, e_onD, e_onB, e_onI, e_slV, e_slO, e_slOo, e_slOw, e_gI, e_gI0, e_add, e_mul, e_mulL, e_neg, e_ixL, e_ixT, e_ixS, e_isi, e_isN, e_notN, e_isNe, e_isNi, e_isNb, e_isNl, e_isNt, e_isNs, e_lenL, e_lenT, e_lenS, e_abs, e_int, e_intB, e_max, e_min, e_gcd, e_tupL, e_tupT, e_repr, e_sum, e_all, e_any, e_allN, e_allC, e_seqL, e_seqT, e_seqS, e_rg1, e_rg2, e_excN, e_excE, e_val, e_at0, e_at1, e_at2, e_get0, e_get1, e_get2, e_get3, e_get4, e_get5, e_get6, e_get7, e_set0, e_set1, e_set2, e_set3, e_set4, e_set5, e_set6, e_set7, e_ixn0, e_ixn1, e_ixn2, e_ex, List.replicate, List.cons_append, List.nil_append, List.map, fnB]
  refine ev_is_scalar hp ?_
  try simp only [gSeq, gIfS, gRet, gSet, gSetN, gSetIx, gDrop, gRaise, gNext, gApp, gFrz, gTry, gAsg, gFor, gRight, nCallW, zSeq, zRet, dVar, dOwn, dC, d2, d1, dN2, aNil, aCons, dTup, nLst, dCall, dBi, tVal, tNot', tAnd', tOr', dAnd, dOr, dNot, dIf, dChain, dCallK, iRg, iSeq, nLc, tTrue, gNm, wipeD, e_onD, e_onB, e_onI, e_slV, e_slO, e_slOo, e_slOw, e_gI, e_gI0, e_add, e_mul, e_mulL, e_neg, e_ixL, e_ixT, e_ixS, e_isi, e_isN, e_notN, e_isNe, e_isNi, e_isNb, e_isNl, e_isNt, e_isNs, e_lenL, e_lenT, e_lenS, e_abs, e_int, e_intB, e_max, e_min, e_gcd, e_tupL, e_tupT, e_repr, e_sum, e_all, e_any, e_allN, e_allC, e_seqL, e_seqT, e_seqS, e_rg1, e_rg2, e_excN, e_excE, e_val, e_at0, e_at1, e_at2, e_get0, e_get1, e_get2, e_get3, e_get4, e_get5, e_get6, e_get7, e_set0, e_set1, e_set2, e_set3, e_set4, e_set5, e_set6, e_set7, e_ixn0, e_ixn1, e_ixn2, e_ex, List.replicate, List.cons_append, List.nil_append, List.map, fnB, px_10]
  refine ev_is_scalar hp ?_
  try simp only [gSeq, gIfS, gRet, gSet, gSetN, gSetIx, gDrop, gRaise, gNext, gApp, gFrz, gTry, gAsg, gFor, gRight, nCallW, zSeq, zRet, dVar, dOwn, dC, d2, d1, dN2, aNil, aCons, dTup, nLst, dCall, dBi, tVal, tNot', tAnd', tOr', dAnd, dOr, dNot, dIf, dChain, dCallK, iRg, iSeq, nLc, tTrue, gNm, wipeD, e_onD, e_onB, e_onI, e_slV, e_slO, e_slOo, e_slOw, e_gI, e_gI0, e_add, e_mul, e_mulL, e_neg, e_ixL, e_ixT, e_ixS, e_isi, e_isN, e_notN, e_isNe, e_isNi, e_isNb, e_isNl, e_isNt, e_isNs, e_lenL, e_lenT, e_lenS, e_abs, e_int, e_intB, e_max, e_min, e_gcd, e_tupL, e_tupT, e_repr, e_sum, e_all, e_any, e_allN, e_allC, e_seqL, e_seqT, e_seqS, e_rg1, e_rg2, e_excN, e_excE, e_val, e_at0, e_at1, e_at2, e_get0, e_get1, e_get2, e_get3, e_get4, e_get5, e_get6, e_get7, e_set0, e_set1, e_set2, e_set3, e_set4, e_set5, e_set6, e_set7, e_ixn0, e_ixn1, e_ixn2, e_ex, List.replicate, List.cons_append, List.nil_append, List.map, fnB]
  have rb : Rp 1 4 (.list [.bool (isSc p w), .bool (isSc p w)]) := (rp2 (p := 0) (Rp.bool (n := 0)) (Rp.bool (n := 0))).le (Nat.le_refl 1) (by decide)
  refine ⟨by show 2 ≤ 100000; decide, rb.ok (by decide) (by decide), by show 2 ≤ 100000; decide, rb.ok (by decide) (by decide), ?_⟩
  refine e_reprNe ?_
  try simp only [gSeq, gIfS, gRet, gSet, gSetN, gSetIx, gDrop, gRaise, gNext, gApp, gFrz, gTry, gAsg, gFor, gRight, nCallW, zSeq, zRet, dVar, dOwn, dC, d2, d1, dN2, aNil, aCons, dTup, nLst, dCall, dBi, tVal, tNot', tAnd', tOr', dAnd, dOr, dNot, dIf, dChain, dCallK, iRg, iSeq, nLc, tTrue, gNm, wipeD, e_onD, e_onB, e_onI, e_slV, e_slO, e_slOo, e_slOw, e_gI, e_gI0, e_add, e_mul, e_mulL, e_neg, e_ixL, e_ixT, e_ixS, e_isi, e_isN, e_notN, e_isNe, e_isNi, e_isNb, e_isNl, e_isNt, e_isNs, e_lenL, e_lenT, e_lenS, e_abs, e_int, e_intB, e_max, e_min, e_gcd, e_tupL, e_tupT, e_repr, e_sum, e_all, e_any, e_allN, e_allC, e_seqL, e_seqT, e_seqS, e_rg1, e_rg2, e_excN, e_excE, e_val, e_at0, e_at1, e_at2, e_get0, e_get1, e_get2, e_get3, e_get4, e_get5, e_get6, e_get7, e_set0, e_set1, e_set2, e_set3, e_set4, e_set5, e_set6, e_set7, e_ixn0, e_ixn1, e_ixn2, e_ex, List.replicate, List.cons_append, List.nil_append, List.map, fnB]
  exact ite_f rfl (hn _ _)

theorem ne_zero {p : Int} {b : Nat} {x : Sc} (hx : OkS p b x) (hb : b ≤ 1800) (hz : nz x) (Q : DV → Prop) (hQ : Q (.d (.bool false))) : gEq (.d x.d) (.d (sNum p 0).d) Q := by
  cases x with
  | q r =>
    obtain ⟨rfl, hn, hd⟩ := hx
    have e : (sNum 0 0).d = .tuple [.int 0, .int 1] := fr_int 0
    rw [e]
    have rx : Rp 1 4000 (fr r) := (Rp.tup (RpA.cons (Rp.int hn (by omega)) (RpA.cons (Rp.int hd (by omega)) RpA.nil))).le (Nat.le_refl _) (by omega)
    refine ⟨rx.cp.sh' (by decide), rfl, ?_⟩
    have e2 : PyData.eqv (fr r) (.tuple [.int 0, .int 1]) = false := by
      have := num_ne hz
      simp [fr, PyData.eqv, PyData.eqvAll, this]
    show Q (.d (.bool (PyData.eqv (fr r) (.tuple [.int 0, .int 1]))))
    rw [e2]
    exact hQ
  | z a =>
    have hp := hx.1.pos
    have e : (sNum p 0).d = .int 0 := by unfold sNum; rw [if_neg (by omega)]; simp [Sc.d]
    rw [e]
    show gEq (.d (.int a)) (.d (.int 0)) Q
    rw [e_eqI, decide_eq_false hz]
    exact hQ
theorem is_zero {p : Int} {b : Nat} {x : Sc} (hx : OkS p b x) (hz : ¬ nz x) : x = sNum p 0 := by
  cases x with
  | q r =>
    obtain ⟨rfl, _, _⟩ := hx
    have : r = 0 := Classical.byContradiction hz
    subst this
    have e : Rat.divInt 0 1 = 0 := by decide +kernel
    simp only [sNum, if_true, e]
  | z a =>
    have hp := hx.1.pos
    have : a = 0 := Classical.byContradiction hz
    subst this
    unfold sNum
    rw [if_neg (by omega)]
    simp
theorem rps {p : Int} {b : Nat} {x : Sc} (hx : OkS p b x) (hb : b ≤ 1000) : Rp 1 3000 x.d := (rp_sc (hx.le (show b ≤ b + 4 by omega)) (by omega) (by omega)).le (Nat.le_refl _) (by omega)
theorem told_zero {p : Int} {x : Sc} {d : PD} {R : DV → Prop} {E : EK} (hx : OkS p 120 x) (hz : ¬ nz x) (h : R (.d (toldD 2 x.d))) : m__law_told [.d (.int 3), .d (.int p), .d x.d, .d d] R E := by
  have rx := rps hx (by decide)
  refine told_of (c := 2) (by decide) (rx.ok (by decide) (by decide)) h fun Q E' e => .inr (.inr (.inr (.inl ⟨rfl, rfl, ?_⟩)))
  simp only [g_inverse, gSeq, gIfS, gRet, gSet, gSetN, gSetIx, gDrop, gRaise, gNext, gApp, gFrz, gTry, gAsg, gFor, gRight, nCallW, zSeq, zRet, dVar, dOwn, dC, d2, d1, dN2, aNil, aCons, dTup, nLst, dCall, dBi, tVal, tNot', tAnd', tOr', dAnd, dOr, dNot, dIf, dChain, dCallK, iRg, iSeq, nLc, tTrue, gNm, wipeD, e_onD, e_onB, e_onI, e_slV, e_slO, e_slOo, e_slOw, e_gI, e_gI0, e_add, e_mul, e_mulL, e_neg, e_ixL, e_ixT, e_ixS, e_isi, e_isN, e_notN, e_isNe, e_isNi, e_isNb, e_isNl, e_isNt, e_isNs, e_lenL, e_lenT, e_lenS, e_abs, e_int, e_intB, e_max, e_min, e_gcd, e_tupL, e_tupT, e_repr, e_sum, e_all, e_any, e_allN, e_allC, e_seqL, e_seqT, e_seqS, e_rg1, e_rg2, e_excN, e_excE, e_val, e_at0, e_at1, e_at2, e_get0, e_get1, e_get2, e_get3, e_get4, e_get5, e_get6, e_get7, e_set0, e_set1, e_set2, e_set3, e_set4, e_set5, e_set6, e_set7, e_ixn0, e_ixn1, e_ixn2, e_ex, List.replicate, List.cons_append, List.nil_append, List.map, fnB]
  refine ev_need_prime trivial (ite_t (isPrime_ok hx.pz) (ev_need_scalar (ok_sc x) (ite_t (isSc_ok hx) (ev_scalar_in hx.pz ?_))))
  rw [← is_zero hx hz]
  refine e_eqR rx.cp (by decide) ?_
  try simp only [gSeq, gIfS, gRet, gSet, gSetN, gSetIx, gDrop, gRaise, gNext, gApp, gFrz, gTry, gAsg, gFor, gRight, nCallW, zSeq, zRet, dVar, dOwn, dC, d2, d1, dN2, aNil, aCons, dTup, nLst, dCall, dBi, tVal, tNot', tAnd', tOr', dAnd, dOr, dNot, dIf, dChain, dCallK, iRg, iSeq, nLc, tTrue, gNm, wipeD, e_onD, e_onB, e_onI, e_slV, e_slO, e_slOo, e_slOw, e_gI, e_gI0, e_add, e_mul, e_mulL, e_neg, e_ixL, e_ixT, e_ixS, e_isi, e_isN, e_notN, e_isNe, e_isNi, e_isNb, e_isNl, e_isNt, e_isNs, e_lenL, e_lenT, e_lenS, e_abs, e_int, e_intB, e_max, e_min, e_gcd, e_tupL, e_tupT, e_repr, e_sum, e_all, e_any, e_allN, e_allC, e_seqL, e_seqT, e_seqS, e_rg1, e_rg2, e_excN, e_excE, e_val, e_at0, e_at1, e_at2, e_get0, e_get1, e_get2, e_get3, e_get4, e_get5, e_get6, e_get7, e_set0, e_set1, e_set2, e_set3, e_set4, e_set5, e_set6, e_set7, e_ixn0, e_ixn1, e_ixn2, e_ex, List.replicate, List.cons_append, List.nil_append, List.map, fnB]
  rw [if_pos True.intro]
  exact ⟨x.d, rfl, ok_sc x, e⟩
theorem r9 {D : DEnds} {p : Int} {x y z : Sc} {s5 s6 s7 s8 : Sl} (hD : RT D) (hp : Pz p) (hx : OkS p 120 x) (hy : OkS p 120 y) : g__law_right_9 D [.v .wel, .v (.d (.int p)), .v (.d x.d), .v (.d y.d), .v (.d z.d), s5, s6, s7, s8] := by
  unfold g__law_right_9
  simp only [gSeq, gIfS, gRet, gSet, gSetN, gSetIx, gDrop, gRaise, gNext, gApp, gFrz, gTry, gAsg, gFor, gRight, nCallW, zSeq, zRet, dVar, dOwn, dC, d2, d1, dN2, aNil, aCons, dTup, nLst, dCall, dBi, tVal, tNot', tAnd', tOr', dAnd, dOr, dNot, dIf, dChain, dCallK, iRg, iSeq, nLc, tTrue, gNm, wipeD, e_onD, e_onB, e_onI, e_slV, e_slO, e_slOo, e_slOw, e_gI, e_gI0, e_add, e_mul, e_mulL, e_neg, e_ixL, e_ixT, e_ixS, e_isi, e_isN, e_notN, e_isNe, e_isNi, e_isNb, e_isNl, e_isNt, e_isNs, e_lenL, e_lenT, e_lenS, e_abs, e_int, e_intB, e_max, e_min, e_gcd, e_tupL, e_tupT, e_repr, e_sum, e_all, e_any, e_allN, e_allC, e_seqL, e_seqT, e_seqS, e_rg1, e_rg2, e_excN, e_excE, e_val, e_at0, e_at1, e_at2, e_get0, e_get1, e_get2, e_get3, e_get4, e_get5, e_get6, e_get7, e_set0, e_set1, e_set2, e_set3, e_set4, e_set5, e_set6, e_set7, e_ixn0, e_ixn1, e_ixn2, e_ex, List.replicate, List.cons_append, List.nil_append, List.map, fnB]
  refine ev_law_num hp ?_
  by_cases hz : nz x
  · refine ne_zero hx (by decide) hz _ ?_
    try simp only [gSeq, gIfS, gRet, gSet, gSetN, gSetIx, gDrop, gRaise, gNext, gApp, gFrz, gTry, gAsg, gFor, gRight, nCallW, zSeq, zRet, dVar, dOwn, dC, d2, d1, dN2, aNil, aCons, dTup, nLst, dCall, dBi, tVal, tNot', tAnd', tOr', dAnd, dOr, dNot, dIf, dChain, dCallK, iRg, iSeq, nLc, tTrue, gNm, wipeD, e_onD, e_onB, e_onI, e_slV, e_slO, e_slOo, e_slOw, e_gI, e_gI0, e_add, e_mul, e_mulL, e_neg, e_ixL, e_ixT, e_ixS, e_isi, e_isN, e_notN, e_isNe, e_isNi, e_isNb, e_isNl, e_isNt, e_isNs, e_lenL, e_lenT, e_lenS, e_abs, e_int, e_intB, e_max, e_min, e_gcd, e_tupL, e_tupT, e_repr, e_sum, e_all, e_any, e_allN, e_allC, e_seqL, e_seqT, e_seqS, e_rg1, e_rg2, e_excN, e_excE, e_val, e_at0, e_at1, e_at2, e_get0, e_get1, e_get2, e_get3, e_get4, e_get5, e_get6, e_get7, e_set0, e_set1, e_set2, e_set3, e_set4, e_set5, e_set6, e_set7, e_ixn0, e_ixn1, e_ixn2, e_ex, List.replicate, List.cons_append, List.nil_append, List.map, fnB]
    refine ite_f rfl (ev_inverse hx (by decide) hz ?_)
    try simp only [gSeq, gIfS, gRet, gSet, gSetN, gSetIx, gDrop, gRaise, gNext, gApp, gFrz, gTry, gAsg, gFor, gRight, nCallW, zSeq, zRet, dVar, dOwn, dC, d2, d1, dN2, aNil, aCons, dTup, nLst, dCall, dBi, tVal, tNot', tAnd', tOr', dAnd, dOr, dNot, dIf, dChain, dCallK, iRg, iSeq, nLc, tTrue, gNm, wipeD, e_onD, e_onB, e_onI, e_slV, e_slO, e_slOo, e_slOw, e_gI, e_gI0, e_add, e_mul, e_mulL, e_neg, e_ixL, e_ixT, e_ixS, e_isi, e_isN, e_notN, e_isNe, e_isNi, e_isNb, e_isNl, e_isNt, e_isNs, e_lenL, e_lenT, e_lenS, e_abs, e_int, e_intB, e_max, e_min, e_gcd, e_tupL, e_tupT, e_repr, e_sum, e_all, e_any, e_allN, e_allC, e_seqL, e_seqT, e_seqS, e_rg1, e_rg2, e_excN, e_excE, e_val, e_at0, e_at1, e_at2, e_get0, e_get1, e_get2, e_get3, e_get4, e_get5, e_get6, e_get7, e_set0, e_set1, e_set2, e_set3, e_set4, e_set5, e_set6, e_set7, e_ixn0, e_ixn1, e_ixn2, e_ex, List.replicate, List.cons_append, List.nil_append, List.map, fnB, px_10]
    refine ev_inverse hx (by decide) hz ?_
    try simp only [gSeq, gIfS, gRet, gSet, gSetN, gSetIx, gDrop, gRaise, gNext, gApp, gFrz, gTry, gAsg, gFor, gRight, nCallW, zSeq, zRet, dVar, dOwn, dC, d2, d1, dN2, aNil, aCons, dTup, nLst, dCall, dBi, tVal, tNot', tAnd', tOr', dAnd, dOr, dNot, dIf, dChain, dCallK, iRg, iSeq, nLc, tTrue, gNm, wipeD, e_onD, e_onB, e_onI, e_slV, e_slO, e_slOo, e_slOw, e_gI, e_gI0, e_add, e_mul, e_mulL, e_neg, e_ixL, e_ixT, e_ixS, e_isi, e_isN, e_notN, e_isNe, e_isNi, e_isNb, e_isNl, e_isNt, e_isNs, e_lenL, e_lenT, e_lenS, e_abs, e_int, e_intB, e_max, e_min, e_gcd, e_tupL, e_tupT, e_repr, e_sum, e_all, e_any, e_allN, e_allC, e_seqL, e_seqT, e_seqS, e_rg1, e_rg2, e_excN, e_excE, e_val, e_at0, e_at1, e_at2, e_get0, e_get1, e_get2, e_get3, e_get4, e_get5, e_get6, e_get7, e_set0, e_set1, e_set2, e_set3, e_set4, e_set5, e_set6, e_set7, e_ixn0, e_ixn1, e_ixn2, e_ex, List.replicate, List.cons_append, List.nil_append, List.map, fnB]
    have ri := rps (hx.inv hz) (by decide)
    have rl : Rp 2 7000 (.list [(sInv p x).d, (sInv p x).d]) := (rp2 (p := 0) ri ri).le (Nat.le_refl _) (by decide)
    refine ⟨by show 2 ≤ 100000; decide, rl.ok (by decide) (by decide), ev_law_over hx (by decide) hz ?_⟩
    try simp only [gSeq, gIfS, gRet, gSet, gSetN, gSetIx, gDrop, gRaise, gNext, gApp, gFrz, gTry, gAsg, gFor, gRight, nCallW, zSeq, zRet, dVar, dOwn, dC, d2, d1, dN2, aNil, aCons, dTup, nLst, dCall, dBi, tVal, tNot', tAnd', tOr', dAnd, dOr, dNot, dIf, dChain, dCallK, iRg, iSeq, nLc, tTrue, gNm, wipeD, e_onD, e_onB, e_onI, e_slV, e_slO, e_slOo, e_slOw, e_gI, e_gI0, e_add, e_mul, e_mulL, e_neg, e_ixL, e_ixT, e_ixS, e_isi, e_isN, e_notN, e_isNe, e_isNi, e_isNb, e_isNl, e_isNt, e_isNs, e_lenL, e_lenT, e_lenS, e_abs, e_int, e_intB, e_max, e_min, e_gcd, e_tupL, e_tupT, e_repr, e_sum, e_all, e_any, e_allN, e_allC, e_seqL, e_seqT, e_seqS, e_rg1, e_rg2, e_excN, e_excE, e_val, e_at0, e_at1, e_at2, e_get0, e_get1, e_get2, e_get3, e_get4, e_get5, e_get6, e_get7, e_set0, e_set1, e_set2, e_set3, e_set4, e_set5, e_set6, e_set7, e_ixn0, e_ixn1, e_ixn2, e_ex, List.replicate, List.cons_append, List.nil_append, List.map, fnB]
    refine ⟨by show 1 ≤ 100000; decide, ⟨by decide, by decide⟩, by show 1 * 2 ≤ 100000; decide, rl.ok (by decide) (by decide), ?_⟩
    refine e_reprNe ?_
    try simp only [gSeq, gIfS, gRet, gSet, gSetN, gSetIx, gDrop, gRaise, gNext, gApp, gFrz, gTry, gAsg, gFor, gRight, nCallW, zSeq, zRet, dVar, dOwn, dC, d2, d1, dN2, aNil, aCons, dTup, nLst, dCall, dBi, tVal, tNot', tAnd', tOr', dAnd, dOr, dNot, dIf, dChain, dCallK, iRg, iSeq, nLc, tTrue, gNm, wipeD, e_onD, e_onB, e_onI, e_slV, e_slO, e_slOo, e_slOw, e_gI, e_gI0, e_add, e_mul, e_mulL, e_neg, e_ixL, e_ixT, e_ixS, e_isi, e_isN, e_notN, e_isNe, e_isNi, e_isNb, e_isNl, e_isNt, e_isNs, e_lenL, e_lenT, e_lenS, e_abs, e_int, e_intB, e_max, e_min, e_gcd, e_tupL, e_tupT, e_repr, e_sum, e_all, e_any, e_allN, e_allC, e_seqL, e_seqT, e_seqS, e_rg1, e_rg2, e_excN, e_excE, e_val, e_at0, e_at1, e_at2, e_get0, e_get1, e_get2, e_get3, e_get4, e_get5, e_get6, e_get7, e_set0, e_set1, e_set2, e_set3, e_set4, e_set5, e_set6, e_set7, e_ixn0, e_ixn1, e_ixn2, e_ex, List.replicate, List.cons_append, List.nil_append, List.map, fnB]
    refine ite_f rfl (ev_inverse hx (by decide) hz ?_)
    try simp only [gSeq, gIfS, gRet, gSet, gSetN, gSetIx, gDrop, gRaise, gNext, gApp, gFrz, gTry, gAsg, gFor, gRight, nCallW, zSeq, zRet, dVar, dOwn, dC, d2, d1, dN2, aNil, aCons, dTup, nLst, dCall, dBi, tVal, tNot', tAnd', tOr', dAnd, dOr, dNot, dIf, dChain, dCallK, iRg, iSeq, nLc, tTrue, gNm, wipeD, e_onD, e_onB, e_onI, e_slV, e_slO, e_slOo, e_slOw, e_gI, e_gI0, e_add, e_mul, e_mulL, e_neg, e_ixL, e_ixT, e_ixS, e_isi, e_isN, e_notN, e_isNe, e_isNi, e_isNb, e_isNl, e_isNt, e_isNs, e_lenL, e_lenT, e_lenS, e_abs, e_int, e_intB, e_max, e_min, e_gcd, e_tupL, e_tupT, e_repr, e_sum, e_all, e_any, e_allN, e_allC, e_seqL, e_seqT, e_seqS, e_rg1, e_rg2, e_excN, e_excE, e_val, e_at0, e_at1, e_at2, e_get0, e_get1, e_get2, e_get3, e_get4, e_get5, e_get6, e_get7, e_set0, e_set1, e_set2, e_set3, e_set4, e_set5, e_set6, e_set7, e_ixn0, e_ixn1, e_ixn2, e_ex, List.replicate, List.cons_append, List.nil_append, List.map, fnB]
    refine ev_times hx (hx.inv hz) (by decide) (by decide) ?_
    try simp only [gSeq, gIfS, gRet, gSet, gSetN, gSetIx, gDrop, gRaise, gNext, gApp, gFrz, gTry, gAsg, gFor, gRight, nCallW, zSeq, zRet, dVar, dOwn, dC, d2, d1, dN2, aNil, aCons, dTup, nLst, dCall, dBi, tVal, tNot', tAnd', tOr', dAnd, dOr, dNot, dIf, dChain, dCallK, iRg, iSeq, nLc, tTrue, gNm, wipeD, e_onD, e_onB, e_onI, e_slV, e_slO, e_slOo, e_slOw, e_gI, e_gI0, e_add, e_mul, e_mulL, e_neg, e_ixL, e_ixT, e_ixS, e_isi, e_isN, e_notN, e_isNe, e_isNi, e_isNb, e_isNl, e_isNt, e_isNs, e_lenL, e_lenT, e_lenS, e_abs, e_int, e_intB, e_max, e_min, e_gcd, e_tupL, e_tupT, e_repr, e_sum, e_all, e_any, e_allN, e_allC, e_seqL, e_seqT, e_seqS, e_rg1, e_rg2, e_excN, e_excE, e_val, e_at0, e_at1, e_at2, e_get0, e_get1, e_get2, e_get3, e_get4, e_get5, e_get6, e_get7, e_set0, e_set1, e_set2, e_set3, e_set4, e_set5, e_set6, e_set7, e_ixn0, e_ixn1, e_ixn2, e_ex, List.replicate, List.cons_append, List.nil_append, List.map, fnB]
    refine ev_law_num hp ?_
    rw [sMul_inv hx hz]
    refine e_neR (rps (OkS.num (b := 4) hp (by unfold MB; decide) (by decide)) (by decide)).cp (by decide) ?_
    try simp only [gSeq, gIfS, gRet, gSet, gSetN, gSetIx, gDrop, gRaise, gNext, gApp, gFrz, gTry, gAsg, gFor, gRight, nCallW, zSeq, zRet, dVar, dOwn, dC, d2, d1, dN2, aNil, aCons, dTup, nLst, dCall, dBi, tVal, tNot', tAnd', tOr', dAnd, dOr, dNot, dIf, dChain, dCallK, iRg, iSeq, nLc, tTrue, gNm, wipeD, e_onD, e_onB, e_onI, e_slV, e_slO, e_slOo, e_slOw, e_gI, e_gI0, e_add, e_mul, e_mulL, e_neg, e_ixL, e_ixT, e_ixS, e_isi, e_isN, e_notN, e_isNe, e_isNi, e_isNb, e_isNl, e_isNt, e_isNs, e_lenL, e_lenT, e_lenS, e_abs, e_int, e_intB, e_max, e_min, e_gcd, e_tupL, e_tupT, e_repr, e_sum, e_all, e_any, e_allN, e_allC, e_seqL, e_seqT, e_seqS, e_rg1, e_rg2, e_excN, e_excE, e_val, e_at0, e_at1, e_at2, e_get0, e_get1, e_get2, e_get3, e_get4, e_get5, e_get6, e_get7, e_set0, e_set1, e_set2, e_set3, e_set4, e_set5, e_set6, e_set7, e_ixn0, e_ixn1, e_ixn2, e_ex, List.replicate, List.cons_append, List.nil_append, List.map, fnB]
    exact ite_f rfl (r10 hD hp hx hy)
  · rw [← is_zero hx hz]
    have rx := rps hx (by decide)
    refine e_eqR rx.cp (by decide) ?_
    try simp only [gSeq, gIfS, gRet, gSet, gSetN, gSetIx, gDrop, gRaise, gNext, gApp, gFrz, gTry, gAsg, gFor, gRight, nCallW, zSeq, zRet, dVar, dOwn, dC, d2, d1, dN2, aNil, aCons, dTup, nLst, dCall, dBi, tVal, tNot', tAnd', tOr', dAnd, dOr, dNot, dIf, dChain, dCallK, iRg, iSeq, nLc, tTrue, gNm, wipeD, e_onD, e_onB, e_onI, e_slV, e_slO, e_slOo, e_slOw, e_gI, e_gI0, e_add, e_mul, e_mulL, e_neg, e_ixL, e_ixT, e_ixS, e_isi, e_isN, e_notN, e_isNe, e_isNi, e_isNb, e_isNl, e_isNt, e_isNs, e_lenL, e_lenT, e_lenS, e_abs, e_int, e_intB, e_max, e_min, e_gcd, e_tupL, e_tupT, e_repr, e_sum, e_all, e_any, e_allN, e_allC, e_seqL, e_seqT, e_seqS, e_rg1, e_rg2, e_excN, e_excE, e_val, e_at0, e_at1, e_at2, e_get0, e_get1, e_get2, e_get3, e_get4, e_get5, e_get6, e_get7, e_set0, e_set1, e_set2, e_set3, e_set4, e_set5, e_set6, e_set7, e_ixn0, e_ixn1, e_ixn2, e_ex, List.replicate, List.cons_append, List.nil_append, List.map, fnB]
    rw [if_pos True.intro]
    refine told_zero hx hz ?_
    try simp only [gSeq, gIfS, gRet, gSet, gSetN, gSetIx, gDrop, gRaise, gNext, gApp, gFrz, gTry, gAsg, gFor, gRight, nCallW, zSeq, zRet, dVar, dOwn, dC, d2, d1, dN2, aNil, aCons, dTup, nLst, dCall, dBi, tVal, tNot', tAnd', tOr', dAnd, dOr, dNot, dIf, dChain, dCallK, iRg, iSeq, nLc, tTrue, gNm, wipeD, e_onD, e_onB, e_onI, e_slV, e_slO, e_slOo, e_slOw, e_gI, e_gI0, e_add, e_mul, e_mulL, e_neg, e_ixL, e_ixT, e_ixS, e_isi, e_isN, e_notN, e_isNe, e_isNi, e_isNb, e_isNl, e_isNt, e_isNs, e_lenL, e_lenT, e_lenS, e_abs, e_int, e_intB, e_max, e_min, e_gcd, e_tupL, e_tupT, e_repr, e_sum, e_all, e_any, e_allN, e_allC, e_seqL, e_seqT, e_seqS, e_rg1, e_rg2, e_excN, e_excE, e_val, e_at0, e_at1, e_at2, e_get0, e_get1, e_get2, e_get3, e_get4, e_get5, e_get6, e_get7, e_set0, e_set1, e_set2, e_set3, e_set4, e_set5, e_set6, e_set7, e_ixn0, e_ixn1, e_ixn2, e_ex, List.replicate, List.cons_append, List.nil_append, List.map, fnB]
    refine ⟨by show 1 ≤ 100000; decide, rx.ok (by decide) (by decide), by show 2 ≤ 100000; decide, ?_⟩
    refine e_neR (cp_told rx : Cp 2 (toldD 2 x.d)) (by decide) ?_
    try simp only [gSeq, gIfS, gRet, gSet, gSetN, gSetIx, gDrop, gRaise, gNext, gApp, gFrz, gTry, gAsg, gFor, gRight, nCallW, zSeq, zRet, dVar, dOwn, dC, d2, d1, dN2, aNil, aCons, dTup, nLst, dCall, dBi, tVal, tNot', tAnd', tOr', dAnd, dOr, dNot, dIf, dChain, dCallK, iRg, iSeq, nLc, tTrue, gNm, wipeD, e_onD, e_onB, e_onI, e_slV, e_slO, e_slOo, e_slOw, e_gI, e_gI0, e_add, e_mul, e_mulL, e_neg, e_ixL, e_ixT, e_ixS, e_isi, e_isN, e_notN, e_isNe, e_isNi, e_isNb, e_isNl, e_isNt, e_isNs, e_lenL, e_lenT, e_lenS, e_abs, e_int, e_intB, e_max, e_min, e_gcd, e_tupL, e_tupT, e_repr, e_sum, e_all, e_any, e_allN, e_allC, e_seqL, e_seqT, e_seqS, e_rg1, e_rg2, e_excN, e_excE, e_val, e_at0, e_at1, e_at2, e_get0, e_get1, e_get2, e_get3, e_get4, e_get5, e_get6, e_get7, e_set0, e_set1, e_set2, e_set3, e_set4, e_set5, e_set6, e_set7, e_ixn0, e_ixn1, e_ixn2, e_ex, List.replicate, List.cons_append, List.nil_append, List.map, fnB]
    exact ite_f rfl (r10 hD hp hx hy)
theorem r8 {D : DEnds} {p k : Int} {x y z : Sc} {s5 s7 s8 : Sl} (hD : RT D) (hp : Pz p) (hx : OkS p 120 x) (hy : OkS p 120 y) (hk : MB 110 k) : g__law_right_8 D [.v .wel, .v (.d (.int p)), .v (.d x.d), .v (.d y.d), .v (.d z.d), s5, .v (.d (.int k)), s7, s8] := by
  unfold g__law_right_8
  simp only [gSeq, gIfS, gRet, gSet, gSetN, gSetIx, gDrop, gRaise, gNext, gApp, gFrz, gTry, gAsg, gFor, gRight, nCallW, zSeq, zRet, dVar, dOwn, dC, d2, d1, dN2, aNil, aCons, dTup, nLst, dCall, dBi, tVal, tNot', tAnd', tOr', dAnd, dOr, dNot, dIf, dChain, dCallK, iRg, iSeq, nLc, tTrue, gNm, wipeD, e_onD, e_onB, e_onI, e_slV, e_slO, e_slOo, e_slOw, e_gI, e_gI0, e_add, e_mul, e_mulL, e_neg, e_ixL, e_ixT, e_ixS, e_isi, e_isN, e_notN, e_isNe, e_isNi, e_isNb, e_isNl, e_isNt, e_isNs, e_lenL, e_lenT, e_lenS, e_abs, e_int, e_intB, e_max, e_min, e_gcd, e_tupL, e_tupT, e_repr, e_sum, e_all, e_any, e_allN, e_allC, e_seqL, e_seqT, e_seqS, e_rg1, e_rg2, e_excN, e_excE, e_val, e_at0, e_at1, e_at2, e_get0, e_get1, e_get2, e_get3, e_get4, e_get5, e_get6, e_get7, e_set0, e_set1, e_set2, e_set3, e_set4, e_set5, e_set6, e_set7, e_ixn0, e_ixn1, e_ixn2, e_ex, List.replicate, List.cons_append, List.nil_append, List.map, fnB]
  refine ev_scalar_of hp ?_
  try simp only [gSeq, gIfS, gRet, gSet, gSetN, gSetIx, gDrop, gRaise, gNext, gApp, gFrz, gTry, gAsg, gFor, gRight, nCallW, zSeq, zRet, dVar, dOwn, dC, d2, d1, dN2, aNil, aCons, dTup, nLst, dCall, dBi, tVal, tNot', tAnd', tOr', dAnd, dOr, dNot, dIf, dChain, dCallK, iRg, iSeq, nLc, tTrue, gNm, wipeD, e_onD, e_onB, e_onI, e_slV, e_slO, e_slOo, e_slOw, e_gI, e_gI0, e_add, e_mul, e_mulL, e_neg, e_ixL, e_ixT, e_ixS, e_isi, e_isN, e_notN, e_isNe, e_isNi, e_isNb, e_isNl, e_isNt, e_isNs, e_lenL, e_lenT, e_lenS, e_abs, e_int, e_intB, e_max, e_min, e_gcd, e_tupL, e_tupT, e_repr, e_sum, e_all, e_any, e_allN, e_allC, e_seqL, e_seqT, e_seqS, e_rg1, e_rg2, e_excN, e_excE, e_val, e_at0, e_at1, e_at2, e_get0, e_get1, e_get2, e_get3, e_get4, e_get5, e_get6, e_get7, e_set0, e_set1, e_set2, e_set3, e_set4, e_set5, e_set6, e_set7, e_ixn0, e_ixn1, e_ixn2, e_ex, List.replicate, List.cons_append, List.nil_append, List.map, fnB, px_10]
  refine ev_scalar_of hp ?_
  try simp only [gSeq, gIfS, gRet, gSet, gSetN, gSetIx, gDrop, gRaise, gNext, gApp, gFrz, gTry, gAsg, gFor, gRight, nCallW, zSeq, zRet, dVar, dOwn, dC, d2, d1, dN2, aNil, aCons, dTup, nLst, dCall, dBi, tVal, tNot', tAnd', tOr', dAnd, dOr, dNot, dIf, dChain, dCallK, iRg, iSeq, nLc, tTrue, gNm, wipeD, e_onD, e_onB, e_onI, e_slV, e_slO, e_slOo, e_slOw, e_gI, e_gI0, e_add, e_mul, e_mulL, e_neg, e_ixL, e_ixT, e_ixS, e_isi, e_isN, e_notN, e_isNe, e_isNi, e_isNb, e_isNl, e_isNt, e_isNs, e_lenL, e_lenT, e_lenS, e_abs, e_int, e_intB, e_max, e_min, e_gcd, e_tupL, e_tupT, e_repr, e_sum, e_all, e_any, e_allN, e_allC, e_seqL, e_seqT, e_seqS, e_rg1, e_rg2, e_excN, e_excE, e_val, e_at0, e_at1, e_at2, e_get0, e_get1, e_get2, e_get3, e_get4, e_get5, e_get6, e_get7, e_set0, e_set1, e_set2, e_set3, e_set4, e_set5, e_set6, e_set7, e_ixn0, e_ixn1, e_ixn2, e_ex, List.replicate, List.cons_append, List.nil_append, List.map, fnB]
  have ri := rps (OkS.num hp hk (by decide)) (by decide)
  have rl : Rp 2 7000 (.list [(sNum p k).d, (sNum p k).d]) := (rp2 (p := 0) ri ri).le (Nat.le_refl _) (by decide)
  refine ⟨by show 2 ≤ 100000; decide, rl.ok (by decide) (by decide), ev_law_num hp ?_⟩
  try simp only [gSeq, gIfS, gRet, gSet, gSetN, gSetIx, gDrop, gRaise, gNext, gApp, gFrz, gTry, gAsg, gFor, gRight, nCallW, zSeq, zRet, dVar, dOwn, dC, d2, d1, dN2, aNil, aCons, dTup, nLst, dCall, dBi, tVal, tNot', tAnd', tOr', dAnd, dOr, dNot, dIf, dChain, dCallK, iRg, iSeq, nLc, tTrue, gNm, wipeD, e_onD, e_onB, e_onI, e_slV, e_slO, e_slOo, e_slOw, e_gI, e_gI0, e_add, e_mul, e_mulL, e_neg, e_ixL, e_ixT, e_ixS, e_isi, e_isN, e_notN, e_isNe, e_isNi, e_isNb, e_isNl, e_isNt, e_isNs, e_lenL, e_lenT, e_lenS, e_abs, e_int, e_intB, e_max, e_min, e_gcd, e_tupL, e_tupT, e_repr, e_sum, e_all, e_any, e_allN, e_allC, e_seqL, e_seqT, e_seqS, e_rg1, e_rg2, e_excN, e_excE, e_val, e_at0, e_at1, e_at2, e_get0, e_get1, e_get2, e_get3, e_get4, e_get5, e_get6, e_get7, e_set0, e_set1, e_set2, e_set3, e_set4, e_set5, e_set6, e_set7, e_ixn0, e_ixn1, e_ixn2, e_ex, List.replicate, List.cons_append, List.nil_append, List.map, fnB]
  refine ⟨by show 1 ≤ 100000; decide, ⟨by decide, by decide⟩, by show 1 * 2 ≤ 100000; decide, rl.ok (by decide) (by decide), ?_⟩
  refine e_reprNe ?_
  try simp only [gSeq, gIfS, gRet, gSet, gSetN, gSetIx, gDrop, gRaise, gNext, gApp, gFrz, gTry, gAsg, gFor, gRight, nCallW, zSeq, zRet, dVar, dOwn, dC, d2, d1, dN2, aNil, aCons, dTup, nLst, dCall, dBi, tVal, tNot', tAnd', tOr', dAnd, dOr, dNot, dIf, dChain, dCallK, iRg, iSeq, nLc, tTrue, gNm, wipeD, e_onD, e_onB, e_onI, e_slV, e_slO, e_slOo, e_slOw, e_gI, e_gI0, e_add, e_mul, e_mulL, e_neg, e_ixL, e_ixT, e_ixS, e_isi, e_isN, e_notN, e_isNe, e_isNi, e_isNb, e_isNl, e_isNt, e_isNs, e_lenL, e_lenT, e_lenS, e_abs, e_int, e_intB, e_max, e_min, e_gcd, e_tupL, e_tupT, e_repr, e_sum, e_all, e_any, e_allN, e_allC, e_seqL, e_seqT, e_seqS, e_rg1, e_rg2, e_excN, e_excE, e_val, e_at0, e_at1, e_at2, e_get0, e_get1, e_get2, e_get3, e_get4, e_get5, e_get6, e_get7, e_set0, e_set1, e_set2, e_set3, e_set4, e_set5, e_set6, e_set7, e_ixn0, e_ixn1, e_ixn2, e_ex, List.replicate, List.cons_append, List.nil_append, List.map, fnB]
  exact ite_f rfl (r9 hD hp hx hy)
theorem r7 {D : DEnds} {p : Int} {x y z : Sc} {s5 s6 s7 s8 : Sl} (hD : RT D) (hp : Pz p) (hx : OkS p 120 x) (hy : OkS p 120 y) : g__law_right_7 D [.v .wel, .v (.d (.int p)), .v (.d x.d), .v (.d y.d), .v (.d z.d), s5, s6, s7, s8] := by
  unfold g__law_right_7
  simp only [gSeq, gIfS, gRet, gSet, gSetN, gSetIx, gDrop, gRaise, gNext, gApp, gFrz, gTry, gAsg, gFor, gRight, nCallW, zSeq, zRet, dVar, dOwn, dC, d2, d1, dN2, aNil, aCons, dTup, nLst, dCall, dBi, tVal, tNot', tAnd', tOr', dAnd, dOr, dNot, dIf, dChain, dCallK, iRg, iSeq, nLc, tTrue, gNm, wipeD, e_onD, e_onB, e_onI, e_slV, e_slO, e_slOo, e_slOw, e_gI, e_gI0, e_add, e_mul, e_mulL, e_neg, e_ixL, e_ixT, e_ixS, e_isi, e_isN, e_notN, e_isNe, e_isNi, e_isNb, e_isNl, e_isNt, e_isNs, e_lenL, e_lenT, e_lenS, e_abs, e_int, e_intB, e_max, e_min, e_gcd, e_tupL, e_tupT, e_repr, e_sum, e_all, e_any, e_allN, e_allC, e_seqL, e_seqT, e_seqS, e_rg1, e_rg2, e_excN, e_excE, e_val, e_at0, e_at1, e_at2, e_get0, e_get1, e_get2, e_get3, e_get4, e_get5, e_get6, e_get7, e_set0, e_set1, e_set2, e_set3, e_set4, e_set5, e_set6, e_set7, e_ixn0, e_ixn1, e_ixn2, e_ex, List.replicate, List.cons_append, List.nil_append, List.map, fnB]
  refine ⟨cpow10 (by decide) (by decide), cpow10 (by decide) (by decide), by show 7 ≤ 100000; decide, ev_draw_of (by decide) (by decide) fun j j0 j1 => ?_⟩
  try simp only [gSeq, gIfS, gRet, gSet, gSetN, gSetIx, gDrop, gRaise, gNext, gApp, gFrz, gTry, gAsg, gFor, gRight, nCallW, zSeq, zRet, dVar, dOwn, dC, d2, d1, dN2, aNil, aCons, dTup, nLst, dCall, dBi, tVal, tNot', tAnd', tOr', dAnd, dOr, dNot, dIf, dChain, dCallK, iRg, iSeq, nLc, tTrue, gNm, wipeD, e_onD, e_onB, e_onI, e_slV, e_slO, e_slOo, e_slOw, e_gI, e_gI0, e_add, e_mul, e_mulL, e_neg, e_ixL, e_ixT, e_ixS, e_isi, e_isN, e_notN, e_isNe, e_isNi, e_isNb, e_isNl, e_isNt, e_isNs, e_lenL, e_lenT, e_lenS, e_abs, e_int, e_intB, e_max, e_min, e_gcd, e_tupL, e_tupT, e_repr, e_sum, e_all, e_any, e_allN, e_allC, e_seqL, e_seqT, e_seqS, e_rg1, e_rg2, e_excN, e_excE, e_val, e_at0, e_at1, e_at2, e_get0, e_get1, e_get2, e_get3, e_get4, e_get5, e_get6, e_get7, e_set0, e_set1, e_set2, e_set3, e_set4, e_set5, e_set6, e_set7, e_ixn0, e_ixn1, e_ixn2, e_ex, List.replicate, List.cons_append, List.nil_append, List.map, fnB]
  obtain ⟨v, hv, hm⟩ := atI_mem (xs := [PyData.int 0, .int 1, .int (-1), .int 5, .int (-8), .int (10 ^ Int.toNat 30), .int (-10 ^ Int.toNat 29 - 3)]) j0 j1
  refine ⟨v, hv, ?_⟩
  obtain ⟨n, rfl, hn⟩ : ∃ n : Int, v = .int n ∧ MB 110 n := by
    simp only [List.mem_cons, List.not_mem_nil, or_false] at hm
    rcases hm with rfl | rfl | rfl | rfl | rfl | rfl | rfl <;> exact ⟨_, rfl, by unfold MB; decide +kernel⟩
  exact r8 hD hp hx hy hn
theorem r6 {D : DEnds} {p : Int} {x y z : Sc} {s5 s6 s7 s8 : Sl} (hD : RT D) (hp : Pz p) (hx : OkS p 120 x) (hy : OkS p 120 y) (hz : OkS p 120 z) : g__law_right_6 D [.v .wel, .v (.d (.int p)), .v (.d x.d), .v (.d y.d), .v (.d z.d), s5, s6, s7, s8] := by
  unfold g__law_right_6
  simp only [gSeq, gIfS, gRet, gSet, gSetN, gSetIx, gDrop, gRaise, gNext, gApp, gFrz, gTry, gAsg, gFor, gRight, nCallW, zSeq, zRet, dVar, dOwn, dC, d2, d1, dN2, aNil, aCons, dTup, nLst, dCall, dBi, tVal, tNot', tAnd', tOr', dAnd, dOr, dNot, dIf, dChain, dCallK, iRg, iSeq, nLc, tTrue, gNm, wipeD, e_onD, e_onB, e_onI, e_slV, e_slO, e_slOo, e_slOw, e_gI, e_gI0, e_add, e_mul, e_mulL, e_neg, e_ixL, e_ixT, e_ixS, e_isi, e_isN, e_notN, e_isNe, e_isNi, e_isNb, e_isNl, e_isNt, e_isNs, e_lenL, e_lenT, e_lenS, e_abs, e_int, e_intB, e_max, e_min, e_gcd, e_tupL, e_tupT, e_repr, e_sum, e_all, e_any, e_allN, e_allC, e_seqL, e_seqT, e_seqS, e_rg1, e_rg2, e_excN, e_excE, e_val, e_at0, e_at1, e_at2, e_get0, e_get1, e_get2, e_get3, e_get4, e_get5, e_get6, e_get7, e_set0, e_set1, e_set2, e_set3, e_set4, e_set5, e_set6, e_set7, e_ixn0, e_ixn1, e_ixn2, e_ex, List.replicate, List.cons_append, List.nil_append, List.map, fnB]
  refine ev_plus hy hz (by decide) (by decide) ?_
  try simp only [gSeq, gIfS, gRet, gSet, gSetN, gSetIx, gDrop, gRaise, gNext, gApp, gFrz, gTry, gAsg, gFor, gRight, nCallW, zSeq, zRet, dVar, dOwn, dC, d2, d1, dN2, aNil, aCons, dTup, nLst, dCall, dBi, tVal, tNot', tAnd', tOr', dAnd, dOr, dNot, dIf, dChain, dCallK, iRg, iSeq, nLc, tTrue, gNm, wipeD, e_onD, e_onB, e_onI, e_slV, e_slO, e_slOo, e_slOw, e_gI, e_gI0, e_add, e_mul, e_mulL, e_neg, e_ixL, e_ixT, e_ixS, e_isi, e_isN, e_notN, e_isNe, e_isNi, e_isNb, e_isNl, e_isNt, e_isNs, e_lenL, e_lenT, e_lenS, e_abs, e_int, e_intB, e_max, e_min, e_gcd, e_tupL, e_tupT, e_repr, e_sum, e_all, e_any, e_allN, e_allC, e_seqL, e_seqT, e_seqS, e_rg1, e_rg2, e_excN, e_excE, e_val, e_at0, e_at1, e_at2, e_get0, e_get1, e_get2, e_get3, e_get4, e_get5, e_get6, e_get7, e_set0, e_set1, e_set2, e_set3, e_set4, e_set5, e_set6, e_set7, e_ixn0, e_ixn1, e_ixn2, e_ex, List.replicate, List.cons_append, List.nil_append, List.map, fnB]
  refine ev_times hx (hy.add hz) (by decide) (by decide) ?_
  try simp only [gSeq, gIfS, gRet, gSet, gSetN, gSetIx, gDrop, gRaise, gNext, gApp, gFrz, gTry, gAsg, gFor, gRight, nCallW, zSeq, zRet, dVar, dOwn, dC, d2, d1, dN2, aNil, aCons, dTup, nLst, dCall, dBi, tVal, tNot', tAnd', tOr', dAnd, dOr, dNot, dIf, dChain, dCallK, iRg, iSeq, nLc, tTrue, gNm, wipeD, e_onD, e_onB, e_onI, e_slV, e_slO, e_slOo, e_slOw, e_gI, e_gI0, e_add, e_mul, e_mulL, e_neg, e_ixL, e_ixT, e_ixS, e_isi, e_isN, e_notN, e_isNe, e_isNi, e_isNb, e_isNl, e_isNt, e_isNs, e_lenL, e_lenT, e_lenS, e_abs, e_int, e_intB, e_max, e_min, e_gcd, e_tupL, e_tupT, e_repr, e_sum, e_all, e_any, e_allN, e_allC, e_seqL, e_seqT, e_seqS, e_rg1, e_rg2, e_excN, e_excE, e_val, e_at0, e_at1, e_at2, e_get0, e_get1, e_get2, e_get3, e_get4, e_get5, e_get6, e_get7, e_set0, e_set1, e_set2, e_set3, e_set4, e_set5, e_set6, e_set7, e_ixn0, e_ixn1, e_ixn2, e_ex, List.replicate, List.cons_append, List.nil_append, List.map, fnB]
  refine ev_times hx hy (by decide) (by decide) ?_
  try simp only [gSeq, gIfS, gRet, gSet, gSetN, gSetIx, gDrop, gRaise, gNext, gApp, gFrz, gTry, gAsg, gFor, gRight, nCallW, zSeq, zRet, dVar, dOwn, dC, d2, d1, dN2, aNil, aCons, dTup, nLst, dCall, dBi, tVal, tNot', tAnd', tOr', dAnd, dOr, dNot, dIf, dChain, dCallK, iRg, iSeq, nLc, tTrue, gNm, wipeD, e_onD, e_onB, e_onI, e_slV, e_slO, e_slOo, e_slOw, e_gI, e_gI0, e_add, e_mul, e_mulL, e_neg, e_ixL, e_ixT, e_ixS, e_isi, e_isN, e_notN, e_isNe, e_isNi, e_isNb, e_isNl, e_isNt, e_isNs, e_lenL, e_lenT, e_lenS, e_abs, e_int, e_intB, e_max, e_min, e_gcd, e_tupL, e_tupT, e_repr, e_sum, e_all, e_any, e_allN, e_allC, e_seqL, e_seqT, e_seqS, e_rg1, e_rg2, e_excN, e_excE, e_val, e_at0, e_at1, e_at2, e_get0, e_get1, e_get2, e_get3, e_get4, e_get5, e_get6, e_get7, e_set0, e_set1, e_set2, e_set3, e_set4, e_set5, e_set6, e_set7, e_ixn0, e_ixn1, e_ixn2, e_ex, List.replicate, List.cons_append, List.nil_append, List.map, fnB]
  refine ev_times hx hz (by decide) (by decide) ?_
  try simp only [gSeq, gIfS, gRet, gSet, gSetN, gSetIx, gDrop, gRaise, gNext, gApp, gFrz, gTry, gAsg, gFor, gRight, nCallW, zSeq, zRet, dVar, dOwn, dC, d2, d1, dN2, aNil, aCons, dTup, nLst, dCall, dBi, tVal, tNot', tAnd', tOr', dAnd, dOr, dNot, dIf, dChain, dCallK, iRg, iSeq, nLc, tTrue, gNm, wipeD, e_onD, e_onB, e_onI, e_slV, e_slO, e_slOo, e_slOw, e_gI, e_gI0, e_add, e_mul, e_mulL, e_neg, e_ixL, e_ixT, e_ixS, e_isi, e_isN, e_notN, e_isNe, e_isNi, e_isNb, e_isNl, e_isNt, e_isNs, e_lenL, e_lenT, e_lenS, e_abs, e_int, e_intB, e_max, e_min, e_gcd, e_tupL, e_tupT, e_repr, e_sum, e_all, e_any, e_allN, e_allC, e_seqL, e_seqT, e_seqS, e_rg1, e_rg2, e_excN, e_excE, e_val, e_at0, e_at1, e_at2, e_get0, e_get1, e_get2, e_get3, e_get4, e_get5, e_get6, e_get7, e_set0, e_set1, e_set2, e_set3, e_set4, e_set5, e_set6, e_set7, e_ixn0, e_ixn1, e_ixn2, e_ex, List.replicate, List.cons_append, List.nil_append, List.map, fnB]
  refine ev_plus (hx.mul hy) (hx.mul hz) (by decide) (by decide) ?_
  rw [sMul_add hx hy hz]
  refine e_neR (rps ((hx.mul hy).add (hx.mul hz)) (by decide)).cp (by decide) ?_
  try simp only [gSeq, gIfS, gRet, gSet, gSetN, gSetIx, gDrop, gRaise, gNext, gApp, gFrz, gTry, gAsg, gFor, gRight, nCallW, zSeq, zRet, dVar, dOwn, dC, d2, d1, dN2, aNil, aCons, dTup, nLst, dCall, dBi, tVal, tNot', tAnd', tOr', dAnd, dOr, dNot, dIf, dChain, dCallK, iRg, iSeq, nLc, tTrue, gNm, wipeD, e_onD, e_onB, e_onI, e_slV, e_slO, e_slOo, e_slOw, e_gI, e_gI0, e_add, e_mul, e_mulL, e_neg, e_ixL, e_ixT, e_ixS, e_isi, e_isN, e_notN, e_isNe, e_isNi, e_isNb, e_isNl, e_isNt, e_isNs, e_lenL, e_lenT, e_lenS, e_abs, e_int, e_intB, e_max, e_min, e_gcd, e_tupL, e_tupT, e_repr, e_sum, e_all, e_any, e_allN, e_allC, e_seqL, e_seqT, e_seqS, e_rg1, e_rg2, e_excN, e_excE, e_val, e_at0, e_at1, e_at2, e_get0, e_get1, e_get2, e_get3, e_get4, e_get5, e_get6, e_get7, e_set0, e_set1, e_set2, e_set3, e_set4, e_set5, e_set6, e_set7, e_ixn0, e_ixn1, e_ixn2, e_ex, List.replicate, List.cons_append, List.nil_append, List.map, fnB]
  exact ite_f rfl (r7 hD hp hx hy)
theorem r5 {D : DEnds} {p : Int} {x y z : Sc} {s5 s6 s7 s8 : Sl} (hD : RT D) (hp : Pz p) (hx : OkS p 120 x) (hy : OkS p 120 y) (hz : OkS p 120 z) : g__law_right_5 D [.v .wel, .v (.d (.int p)), .v (.d x.d), .v (.d y.d), .v (.d z.d), s5, s6, s7, s8] := by
  unfold g__law_right_5
  simp only [gSeq, gIfS, gRet, gSet, gSetN, gSetIx, gDrop, gRaise, gNext, gApp, gFrz, gTry, gAsg, gFor, gRight, nCallW, zSeq, zRet, dVar, dOwn, dC, d2, d1, dN2, aNil, aCons, dTup, nLst, dCall, dBi, tVal, tNot', tAnd', tOr', dAnd, dOr, dNot, dIf, dChain, dCallK, iRg, iSeq, nLc, tTrue, gNm, wipeD, e_onD, e_onB, e_onI, e_slV, e_slO, e_slOo, e_slOw, e_gI, e_gI0, e_add, e_mul, e_mulL, e_neg, e_ixL, e_ixT, e_ixS, e_isi, e_isN, e_notN, e_isNe, e_isNi, e_isNb, e_isNl, e_isNt, e_isNs, e_lenL, e_lenT, e_lenS, e_abs, e_int, e_intB, e_max, e_min, e_gcd, e_tupL, e_tupT, e_repr, e_sum, e_all, e_any, e_allN, e_allC, e_seqL, e_seqT, e_seqS, e_rg1, e_rg2, e_excN, e_excE, e_val, e_at0, e_at1, e_at2, e_get0, e_get1, e_get2, e_get3, e_get4, e_get5, e_get6, e_get7, e_set0, e_set1, e_set2, e_set3, e_set4, e_set5, e_set6, e_set7, e_ixn0, e_ixn1, e_ixn2, e_ex, List.replicate, List.cons_append, List.nil_append, List.map, fnB]
  refine ev_plus hy hz (by decide) (by decide) ?_
  try simp only [gSeq, gIfS, gRet, gSet, gSetN, gSetIx, gDrop, gRaise, gNext, gApp, gFrz, gTry, gAsg, gFor, gRight, nCallW, zSeq, zRet, dVar, dOwn, dC, d2, d1, dN2, aNil, aCons, dTup, nLst, dCall, dBi, tVal, tNot', tAnd', tOr', dAnd, dOr, dNot, dIf, dChain, dCallK, iRg, iSeq, nLc, tTrue, gNm, wipeD, e_onD, e_onB, e_onI, e_slV, e_slO, e_slOo, e_slOw, e_gI, e_gI0, e_add, e_mul, e_mulL, e_neg, e_ixL, e_ixT, e_ixS, e_isi, e_isN, e_notN, e_isNe, e_isNi, e_isNb, e_isNl, e_isNt, e_isNs, e_lenL, e_lenT, e_lenS, e_abs, e_int, e_intB, e_max, e_min, e_gcd, e_tupL, e_tupT, e_repr, e_sum, e_all, e_any, e_allN, e_allC, e_seqL, e_seqT, e_seqS, e_rg1, e_rg2, e_excN, e_excE, e_val, e_at0, e_at1, e_at2, e_get0, e_get1, e_get2, e_get3, e_get4, e_get5, e_get6, e_get7, e_set0, e_set1, e_set2, e_set3, e_set4, e_set5, e_set6, e_set7, e_ixn0, e_ixn1, e_ixn2, e_ex, List.replicate, List.cons_append, List.nil_append, List.map, fnB]
  refine ev_plus hx (hy.add hz) (by decide) (by decide) ?_
  try simp only [gSeq, gIfS, gRet, gSet, gSetN, gSetIx, gDrop, gRaise, gNext, gApp, gFrz, gTry, gAsg, gFor, gRight, nCallW, zSeq, zRet, dVar, dOwn, dC, d2, d1, dN2, aNil, aCons, dTup, nLst, dCall, dBi, tVal, tNot', tAnd', tOr', dAnd, dOr, dNot, dIf, dChain, dCallK, iRg, iSeq, nLc, tTrue, gNm, wipeD, e_onD, e_onB, e_onI, e_slV, e_slO, e_slOo, e_slOw, e_gI, e_gI0, e_add, e_mul, e_mulL, e_neg, e_ixL, e_ixT, e_ixS, e_isi, e_isN, e_notN, e_isNe, e_isNi, e_isNb, e_isNl, e_isNt, e_isNs, e_lenL, e_lenT, e_lenS, e_abs, e_int, e_intB, e_max, e_min, e_gcd, e_tupL, e_tupT, e_repr, e_sum, e_all, e_any, e_allN, e_allC, e_seqL, e_seqT, e_seqS, e_rg1, e_rg2, e_excN, e_excE, e_val, e_at0, e_at1, e_at2, e_get0, e_get1, e_get2, e_get3, e_get4, e_get5, e_get6, e_get7, e_set0, e_set1, e_set2, e_set3, e_set4, e_set5, e_set6, e_set7, e_ixn0, e_ixn1, e_ixn2, e_ex, List.replicate, List.cons_append, List.nil_append, List.map, fnB]
  refine ev_plus hx hy (by decide) (by decide) ?_
  try simp only [gSeq, gIfS, gRet, gSet, gSetN, gSetIx, gDrop, gRaise, gNext, gApp, gFrz, gTry, gAsg, gFor, gRight, nCallW, zSeq, zRet, dVar, dOwn, dC, d2, d1, dN2, aNil, aCons, dTup, nLst, dCall, dBi, tVal, tNot', tAnd', tOr', dAnd, dOr, dNot, dIf, dChain, dCallK, iRg, iSeq, nLc, tTrue, gNm, wipeD, e_onD, e_onB, e_onI, e_slV, e_slO, e_slOo, e_slOw, e_gI, e_gI0, e_add, e_mul, e_mulL, e_neg, e_ixL, e_ixT, e_ixS, e_isi, e_isN, e_notN, e_isNe, e_isNi, e_isNb, e_isNl, e_isNt, e_isNs, e_lenL, e_lenT, e_lenS, e_abs, e_int, e_intB, e_max, e_min, e_gcd, e_tupL, e_tupT, e_repr, e_sum, e_all, e_any, e_allN, e_allC, e_seqL, e_seqT, e_seqS, e_rg1, e_rg2, e_excN, e_excE, e_val, e_at0, e_at1, e_at2, e_get0, e_get1, e_get2, e_get3, e_get4, e_get5, e_get6, e_get7, e_set0, e_set1, e_set2, e_set3, e_set4, e_set5, e_set6, e_set7, e_ixn0, e_ixn1, e_ixn2, e_ex, List.replicate, List.cons_append, List.nil_append, List.map, fnB]
  refine ev_plus (hx.add hy) hz (by decide) (by decide) ?_
  rw [sAdd_assoc hx hy hz]
  refine e_neR (rps ((hx.add hy).add hz) (by decide)).cp (by decide) ?_
  try simp only [gSeq, gIfS, gRet, gSet, gSetN, gSetIx, gDrop, gRaise, gNext, gApp, gFrz, gTry, gAsg, gFor, gRight, nCallW, zSeq, zRet, dVar, dOwn, dC, d2, d1, dN2, aNil, aCons, dTup, nLst, dCall, dBi, tVal, tNot', tAnd', tOr', dAnd, dOr, dNot, dIf, dChain, dCallK, iRg, iSeq, nLc, tTrue, gNm, wipeD, e_onD, e_onB, e_onI, e_slV, e_slO, e_slOo, e_slOw, e_gI, e_gI0, e_add, e_mul, e_mulL, e_neg, e_ixL, e_ixT, e_ixS, e_isi, e_isN, e_notN, e_isNe, e_isNi, e_isNb, e_isNl, e_isNt, e_isNs, e_lenL, e_lenT, e_lenS, e_abs, e_int, e_intB, e_max, e_min, e_gcd, e_tupL, e_tupT, e_repr, e_sum, e_all, e_any, e_allN, e_allC, e_seqL, e_seqT, e_seqS, e_rg1, e_rg2, e_excN, e_excE, e_val, e_at0, e_at1, e_at2, e_get0, e_get1, e_get2, e_get3, e_get4, e_get5, e_get6, e_get7, e_set0, e_set1, e_set2, e_set3, e_set4, e_set5, e_set6, e_set7, e_ixn0, e_ixn1, e_ixn2, e_ex, List.replicate, List.cons_append, List.nil_append, List.map, fnB]
  exact ite_f rfl (r6 hD hp hx hy hz)
theorem OkS.neg {p : Int} {b : Nat} {x : Sc} (hx : OkS p b x) : OkS p b (sNeg p x) := by
  cases x with
  | q r =>
    refine ⟨hx.1, ?_, ?_⟩
    · show MB b (-r).num
      rw [Rat.neg_num]
      have h := hx.2.1
      unfold MB at h ⊢
      rw [Int.natAbs_neg]
      exact h
    · show MB b ((-r).den : Int)
      rw [Rat.neg_den]
      exact hx.2.2
  | z a => exact ⟨hx.1, Int.emod_nonneg _ (by have := hx.1.pos; omega), Int.emod_lt_of_pos _ hx.1.pos⟩
def dueD (p : Int) (x y : Sc) : PD := .list [(sAdd p x y).d, (sMul p x y).d, (sNeg p x).d]
theorem rp_due {p : Int} {x y : Sc} (hx : OkS p 120 x) (hy : OkS p 120 y) : Rp 2 10000 (dueD p x y) := (Rp.list (RpA.cons (rps (hx.add hy) (by decide)) (RpA.cons (rps (hx.mul hy) (by decide)) (RpA.cons (rps hx.neg (by decide)) RpA.nil)))).le (Nat.le_refl _) (by decide)
theorem r4 {D : DEnds} {p : Int} {x y z : Sc} {s6 s7 s8 : Sl} (hD : RT D) (hp : Pz p) (hx : OkS p 120 x) (hy : OkS p 120 y) (hz : OkS p 120 z) : g__law_right_4 D [.v .wel, .v (.d (.int p)), .v (.d x.d), .v (.d y.d), .v (.d z.d), .v (.d (dueD p x y)), s6, s7, s8] := by
  unfold g__law_right_4
  simp only [gSeq, gIfS, gRet, gSet, gSetN, gSetIx, gDrop, gRaise, gNext, gApp, gFrz, gTry, gAsg, gFor, gRight, nCallW, zSeq, zRet, dVar, dOwn, dC, d2, d1, dN2, aNil, aCons, dTup, nLst, dCall, dBi, tVal, tNot', tAnd', tOr', dAnd, dOr, dNot, dIf, dChain, dCallK, iRg, iSeq, nLc, tTrue, gNm, wipeD, e_onD, e_onB, e_onI, e_slV, e_slO, e_slOo, e_slOw, e_gI, e_gI0, e_add, e_mul, e_mulL, e_neg, e_ixL, e_ixT, e_ixS, e_isi, e_isN, e_notN, e_isNe, e_isNi, e_isNb, e_isNl, e_isNt, e_isNs, e_lenL, e_lenT, e_lenS, e_abs, e_int, e_intB, e_max, e_min, e_gcd, e_tupL, e_tupT, e_repr, e_sum, e_all, e_any, e_allN, e_allC, e_seqL, e_seqT, e_seqS, e_rg1, e_rg2, e_excN, e_excE, e_val, e_at0, e_at1, e_at2, e_get0, e_get1, e_get2, e_get3, e_get4, e_get5, e_get6, e_get7, e_set0, e_set1, e_set2, e_set3, e_set4, e_set5, e_set6, e_set7, e_ixn0, e_ixn1, e_ixn2, e_ex, List.replicate, List.cons_append, List.nil_append, List.map, fnB, px_210, px_102, px_10]
  refine ev_plus hx hy (by decide) (by decide) ?_
  try simp only [gSeq, gIfS, gRet, gSet, gSetN, gSetIx, gDrop, gRaise, gNext, gApp, gFrz, gTry, gAsg, gFor, gRight, nCallW, zSeq, zRet, dVar, dOwn, dC, d2, d1, dN2, aNil, aCons, dTup, nLst, dCall, dBi, tVal, tNot', tAnd', tOr', dAnd, dOr, dNot, dIf, dChain, dCallK, iRg, iSeq, nLc, tTrue, gNm, wipeD, e_onD, e_onB, e_onI, e_slV, e_slO, e_slOo, e_slOw, e_gI, e_gI0, e_add, e_mul, e_mulL, e_neg, e_ixL, e_ixT, e_ixS, e_isi, e_isN, e_notN, e_isNe, e_isNi, e_isNb, e_isNl, e_isNt, e_isNs, e_lenL, e_lenT, e_lenS, e_abs, e_int, e_intB, e_max, e_min, e_gcd, e_tupL, e_tupT, e_repr, e_sum, e_all, e_any, e_allN, e_allC, e_seqL, e_seqT, e_seqS, e_rg1, e_rg2, e_excN, e_excE, e_val, e_at0, e_at1, e_at2, e_get0, e_get1, e_get2, e_get3, e_get4, e_get5, e_get6, e_get7, e_set0, e_set1, e_set2, e_set3, e_set4, e_set5, e_set6, e_set7, e_ixn0, e_ixn1, e_ixn2, e_ex, List.replicate, List.cons_append, List.nil_append, List.map, fnB]
  refine ev_times hx hy (by decide) (by decide) ?_
  try simp only [gSeq, gIfS, gRet, gSet, gSetN, gSetIx, gDrop, gRaise, gNext, gApp, gFrz, gTry, gAsg, gFor, gRight, nCallW, zSeq, zRet, dVar, dOwn, dC, d2, d1, dN2, aNil, aCons, dTup, nLst, dCall, dBi, tVal, tNot', tAnd', tOr', dAnd, dOr, dNot, dIf, dChain, dCallK, iRg, iSeq, nLc, tTrue, gNm, wipeD, e_onD, e_onB, e_onI, e_slV, e_slO, e_slOo, e_slOw, e_gI, e_gI0, e_add, e_mul, e_mulL, e_neg, e_ixL, e_ixT, e_ixS, e_isi, e_isN, e_notN, e_isNe, e_isNi, e_isNb, e_isNl, e_isNt, e_isNs, e_lenL, e_lenT, e_lenS, e_abs, e_int, e_intB, e_max, e_min, e_gcd, e_tupL, e_tupT, e_repr, e_sum, e_all, e_any, e_allN, e_allC, e_seqL, e_seqT, e_seqS, e_rg1, e_rg2, e_excN, e_excE, e_val, e_at0, e_at1, e_at2, e_get0, e_get1, e_get2, e_get3, e_get4, e_get5, e_get6, e_get7, e_set0, e_set1, e_set2, e_set3, e_set4, e_set5, e_set6, e_set7, e_ixn0, e_ixn1, e_ixn2, e_ex, List.replicate, List.cons_append, List.nil_append, List.map, fnB]
  refine ev_negative hx ?_
  try simp only [gSeq, gIfS, gRet, gSet, gSetN, gSetIx, gDrop, gRaise, gNext, gApp, gFrz, gTry, gAsg, gFor, gRight, nCallW, zSeq, zRet, dVar, dOwn, dC, d2, d1, dN2, aNil, aCons, dTup, nLst, dCall, dBi, tVal, tNot', tAnd', tOr', dAnd, dOr, dNot, dIf, dChain, dCallK, iRg, iSeq, nLc, tTrue, gNm, wipeD, e_onD, e_onB, e_onI, e_slV, e_slO, e_slOo, e_slOw, e_gI, e_gI0, e_add, e_mul, e_mulL, e_neg, e_ixL, e_ixT, e_ixS, e_isi, e_isN, e_notN, e_isNe, e_isNi, e_isNb, e_isNl, e_isNt, e_isNs, e_lenL, e_lenT, e_lenS, e_abs, e_int, e_intB, e_max, e_min, e_gcd, e_tupL, e_tupT, e_repr, e_sum, e_all, e_any, e_allN, e_allC, e_seqL, e_seqT, e_seqS, e_rg1, e_rg2, e_excN, e_excE, e_val, e_at0, e_at1, e_at2, e_get0, e_get1, e_get2, e_get3, e_get4, e_get5, e_get6, e_get7, e_set0, e_set1, e_set2, e_set3, e_set4, e_set5, e_set6, e_set7, e_ixn0, e_ixn1, e_ixn2, e_ex, List.replicate, List.cons_append, List.nil_append, List.map, fnB]
  refine ⟨by show 3 ≤ 100000; decide, (rp_due hx hy).ok (by decide) (by decide), (rp_due hx hy).ok (by decide) (by decide), ?_⟩
  refine e_reprNe ?_
  try simp only [gSeq, gIfS, gRet, gSet, gSetN, gSetIx, gDrop, gRaise, gNext, gApp, gFrz, gTry, gAsg, gFor, gRight, nCallW, zSeq, zRet, dVar, dOwn, dC, d2, d1, dN2, aNil, aCons, dTup, nLst, dCall, dBi, tVal, tNot', tAnd', tOr', dAnd, dOr, dNot, dIf, dChain, dCallK, iRg, iSeq, nLc, tTrue, gNm, wipeD, e_onD, e_onB, e_onI, e_slV, e_slO, e_slOo, e_slOw, e_gI, e_gI0, e_add, e_mul, e_mulL, e_neg, e_ixL, e_ixT, e_ixS, e_isi, e_isN, e_notN, e_isNe, e_isNi, e_isNb, e_isNl, e_isNt, e_isNs, e_lenL, e_lenT, e_lenS, e_abs, e_int, e_intB, e_max, e_min, e_gcd, e_tupL, e_tupT, e_repr, e_sum, e_all, e_any, e_allN, e_allC, e_seqL, e_seqT, e_seqS, e_rg1, e_rg2, e_excN, e_excE, e_val, e_at0, e_at1, e_at2, e_get0, e_get1, e_get2, e_get3, e_get4, e_get5, e_get6, e_get7, e_set0, e_set1, e_set2, e_set3, e_set4, e_set5, e_set6, e_set7, e_ixn0, e_ixn1, e_ixn2, e_ex, List.replicate, List.cons_append, List.nil_append, List.map, fnB]
  exact ite_f rfl (r5 hD hp hx hy hz)
theorem r3 {D : DEnds} {p : Int} {x y z : Sc} {s6 s7 s8 : Sl} (hD : RT D) (hp : Pz p) (hx : OkS p 120 x) (hy : OkS p 120 y) (hz : OkS p 120 z) : g__law_right_3 D [.v .wel, .v (.d (.int p)), .v (.d x.d), .v (.d y.d), .v (.d z.d), .v (.d (dueD p x y)), s6, s7, s8] := by
  unfold g__law_right_3
  simp only [gSeq, gIfS, gRet, gSet, gSetN, gSetIx, gDrop, gRaise, gNext, gApp, gFrz, gTry, gAsg, gFor, gRight, nCallW, zSeq, zRet, dVar, dOwn, dC, d2, d1, dN2, aNil, aCons, dTup, nLst, dCall, dBi, tVal, tNot', tAnd', tOr', dAnd, dOr, dNot, dIf, dChain, dCallK, iRg, iSeq, nLc, tTrue, gNm, wipeD, e_onD, e_onB, e_onI, e_slV, e_slO, e_slOo, e_slOw, e_gI, e_gI0, e_add, e_mul, e_mulL, e_neg, e_ixL, e_ixT, e_ixS, e_isi, e_isN, e_notN, e_isNe, e_isNi, e_isNb, e_isNl, e_isNt, e_isNs, e_lenL, e_lenT, e_lenS, e_abs, e_int, e_intB, e_max, e_min, e_gcd, e_tupL, e_tupT, e_repr, e_sum, e_all, e_any, e_allN, e_allC, e_seqL, e_seqT, e_seqS, e_rg1, e_rg2, e_excN, e_excE, e_val, e_at0, e_at1, e_at2, e_get0, e_get1, e_get2, e_get3, e_get4, e_get5, e_get6, e_get7, e_set0, e_set1, e_set2, e_set3, e_set4, e_set5, e_set6, e_set7, e_ixn0, e_ixn1, e_ixn2, e_ex, List.replicate, List.cons_append, List.nil_append, List.map, fnB]
  refine ev_plus hx hy (by decide) (by decide) ?_
  try simp only [gSeq, gIfS, gRet, gSet, gSetN, gSetIx, gDrop, gRaise, gNext, gApp, gFrz, gTry, gAsg, gFor, gRight, nCallW, zSeq, zRet, dVar, dOwn, dC, d2, d1, dN2, aNil, aCons, dTup, nLst, dCall, dBi, tVal, tNot', tAnd', tOr', dAnd, dOr, dNot, dIf, dChain, dCallK, iRg, iSeq, nLc, tTrue, gNm, wipeD, e_onD, e_onB, e_onI, e_slV, e_slO, e_slOo, e_slOw, e_gI, e_gI0, e_add, e_mul, e_mulL, e_neg, e_ixL, e_ixT, e_ixS, e_isi, e_isN, e_notN, e_isNe, e_isNi, e_isNb, e_isNl, e_isNt, e_isNs, e_lenL, e_lenT, e_lenS, e_abs, e_int, e_intB, e_max, e_min, e_gcd, e_tupL, e_tupT, e_repr, e_sum, e_all, e_any, e_allN, e_allC, e_seqL, e_seqT, e_seqS, e_rg1, e_rg2, e_excN, e_excE, e_val, e_at0, e_at1, e_at2, e_get0, e_get1, e_get2, e_get3, e_get4, e_get5, e_get6, e_get7, e_set0, e_set1, e_set2, e_set3, e_set4, e_set5, e_set6, e_set7, e_ixn0, e_ixn1, e_ixn2, e_ex, List.replicate, List.cons_append, List.nil_append, List.map, fnB]
  refine ev_times hx hy (by decide) (by decide) ?_
  try simp only [gSeq, gIfS, gRet, gSet, gSetN, gSetIx, gDrop, gRaise, gNext, gApp, gFrz, gTry, gAsg, gFor, gRight, nCallW, zSeq, zRet, dVar, dOwn, dC, d2, d1, dN2, aNil, aCons, dTup, nLst, dCall, dBi, tVal, tNot', tAnd', tOr', dAnd, dOr, dNot, dIf, dChain, dCallK, iRg, iSeq, nLc, tTrue, gNm, wipeD, e_onD, e_onB, e_onI, e_slV, e_slO, e_slOo, e_slOw, e_gI, e_gI0, e_add, e_mul, e_mulL, e_neg, e_ixL, e_ixT, e_ixS, e_isi, e_isN, e_notN, e_isNe, e_isNi, e_isNb, e_isNl, e_isNt, e_isNs, e_lenL, e_lenT, e_lenS, e_abs, e_int, e_intB, e_max, e_min, e_gcd, e_tupL, e_tupT, e_repr, e_sum, e_all, e_any, e_allN, e_allC, e_seqL, e_seqT, e_seqS, e_rg1, e_rg2, e_excN, e_excE, e_val, e_at0, e_at1, e_at2, e_get0, e_get1, e_get2, e_get3, e_get4, e_get5, e_get6, e_get7, e_set0, e_set1, e_set2, e_set3, e_set4, e_set5, e_set6, e_set7, e_ixn0, e_ixn1, e_ixn2, e_ex, List.replicate, List.cons_append, List.nil_append, List.map, fnB]
  refine ev_negative hx ?_
  try simp only [gSeq, gIfS, gRet, gSet, gSetN, gSetIx, gDrop, gRaise, gNext, gApp, gFrz, gTry, gAsg, gFor, gRight, nCallW, zSeq, zRet, dVar, dOwn, dC, d2, d1, dN2, aNil, aCons, dTup, nLst, dCall, dBi, tVal, tNot', tAnd', tOr', dAnd, dOr, dNot, dIf, dChain, dCallK, iRg, iSeq, nLc, tTrue, gNm, wipeD, e_onD, e_onB, e_onI, e_slV, e_slO, e_slOo, e_slOw, e_gI, e_gI0, e_add, e_mul, e_mulL, e_neg, e_ixL, e_ixT, e_ixS, e_isi, e_isN, e_notN, e_isNe, e_isNi, e_isNb, e_isNl, e_isNt, e_isNs, e_lenL, e_lenT, e_lenS, e_abs, e_int, e_intB, e_max, e_min, e_gcd, e_tupL, e_tupT, e_repr, e_sum, e_all, e_any, e_allN, e_allC, e_seqL, e_seqT, e_seqS, e_rg1, e_rg2, e_excN, e_excE, e_val, e_at0, e_at1, e_at2, e_get0, e_get1, e_get2, e_get3, e_get4, e_get5, e_get6, e_get7, e_set0, e_set1, e_set2, e_set3, e_set4, e_set5, e_set6, e_set7, e_ixn0, e_ixn1, e_ixn2, e_ex, List.replicate, List.cons_append, List.nil_append, List.map, fnB]
  refine ⟨by show 3 ≤ 100000; decide, (rp_due hx hy).ok (by decide) (by decide), (rp_due hx hy).ok (by decide) (by decide), ?_⟩
  refine e_reprNe ?_
  try simp only [gSeq, gIfS, gRet, gSet, gSetN, gSetIx, gDrop, gRaise, gNext, gApp, gFrz, gTry, gAsg, gFor, gRight, nCallW, zSeq, zRet, dVar, dOwn, dC, d2, d1, dN2, aNil, aCons, dTup, nLst, dCall, dBi, tVal, tNot', tAnd', tOr', dAnd, dOr, dNot, dIf, dChain, dCallK, iRg, iSeq, nLc, tTrue, gNm, wipeD, e_onD, e_onB, e_onI, e_slV, e_slO, e_slOo, e_slOw, e_gI, e_gI0, e_add, e_mul, e_mulL, e_neg, e_ixL, e_ixT, e_ixS, e_isi, e_isN, e_notN, e_isNe, e_isNi, e_isNb, e_isNl, e_isNt, e_isNs, e_lenL, e_lenT, e_lenS, e_abs, e_int, e_intB, e_max, e_min, e_gcd, e_tupL, e_tupT, e_repr, e_sum, e_all, e_any, e_allN, e_allC, e_seqL, e_seqT, e_seqS, e_rg1, e_rg2, e_excN, e_excE, e_val, e_at0, e_at1, e_at2, e_get0, e_get1, e_get2, e_get3, e_get4, e_get5, e_get6, e_get7, e_set0, e_set1, e_set2, e_set3, e_set4, e_set5, e_set6, e_set7, e_ixn0, e_ixn1, e_ixn2, e_ex, List.replicate, List.cons_append, List.nil_append, List.map, fnB]
  exact ite_f rfl (r4 hD hp hx hy hz)
theorem r2 {D : DEnds} {p : Int} {x y z : Sc} {s5 s6 s7 s8 : Sl} (hD : RT D) (hp : Pz p) (hx : OkS p 120 x) (hy : OkS p 120 y) (hz : OkS p 120 z) : g__law_right_2 D [.v .wel, .v (.d (.int p)), .v (.d x.d), .v (.d y.d), .v (.d z.d), s5, s6, s7, s8] := by
  unfold g__law_right_2
  simp only [gSeq, gIfS, gRet, gSet, gSetN, gSetIx, gDrop, gRaise, gNext, gApp, gFrz, gTry, gAsg, gFor, gRight, nCallW, zSeq, zRet, dVar, dOwn, dC, d2, d1, dN2, aNil, aCons, dTup, nLst, dCall, dBi, tVal, tNot', tAnd', tOr', dAnd, dOr, dNot, dIf, dChain, dCallK, iRg, iSeq, nLc, tTrue, gNm, wipeD, e_onD, e_onB, e_onI, e_slV, e_slO, e_slOo, e_slOw, e_gI, e_gI0, e_add, e_mul, e_mulL, e_neg, e_ixL, e_ixT, e_ixS, e_isi, e_isN, e_notN, e_isNe, e_isNi, e_isNb, e_isNl, e_isNt, e_isNs, e_lenL, e_lenT, e_lenS, e_abs, e_int, e_intB, e_max, e_min, e_gcd, e_tupL, e_tupT, e_repr, e_sum, e_all, e_any, e_allN, e_allC, e_seqL, e_seqT, e_seqS, e_rg1, e_rg2, e_excN, e_excE, e_val, e_at0, e_at1, e_at2, e_get0, e_get1, e_get2, e_get3, e_get4, e_get5, e_get6, e_get7, e_set0, e_set1, e_set2, e_set3, e_set4, e_set5, e_set6, e_set7, e_ixn0, e_ixn1, e_ixn2, e_ex, List.replicate, List.cons_append, List.nil_append, List.map, fnB]
  refine ev_law_plus hx hy (by decide) (by decide) ?_
  try simp only [gSeq, gIfS, gRet, gSet, gSetN, gSetIx, gDrop, gRaise, gNext, gApp, gFrz, gTry, gAsg, gFor, gRight, nCallW, zSeq, zRet, dVar, dOwn, dC, d2, d1, dN2, aNil, aCons, dTup, nLst, dCall, dBi, tVal, tNot', tAnd', tOr', dAnd, dOr, dNot, dIf, dChain, dCallK, iRg, iSeq, nLc, tTrue, gNm, wipeD, e_onD, e_onB, e_onI, e_slV, e_slO, e_slOo, e_slOw, e_gI, e_gI0, e_add, e_mul, e_mulL, e_neg, e_ixL, e_ixT, e_ixS, e_isi, e_isN, e_notN, e_isNe, e_isNi, e_isNb, e_isNl, e_isNt, e_isNs, e_lenL, e_lenT, e_lenS, e_abs, e_int, e_intB, e_max, e_min, e_gcd, e_tupL, e_tupT, e_repr, e_sum, e_all, e_any, e_allN, e_allC, e_seqL, e_seqT, e_seqS, e_rg1, e_rg2, e_excN, e_excE, e_val, e_at0, e_at1, e_at2, e_get0, e_get1, e_get2, e_get3, e_get4, e_get5, e_get6, e_get7, e_set0, e_set1, e_set2, e_set3, e_set4, e_set5, e_set6, e_set7, e_ixn0, e_ixn1, e_ixn2, e_ex, List.replicate, List.cons_append, List.nil_append, List.map, fnB]
  refine ev_law_times hx hy (by decide) (by decide) ?_
  try simp only [gSeq, gIfS, gRet, gSet, gSetN, gSetIx, gDrop, gRaise, gNext, gApp, gFrz, gTry, gAsg, gFor, gRight, nCallW, zSeq, zRet, dVar, dOwn, dC, d2, d1, dN2, aNil, aCons, dTup, nLst, dCall, dBi, tVal, tNot', tAnd', tOr', dAnd, dOr, dNot, dIf, dChain, dCallK, iRg, iSeq, nLc, tTrue, gNm, wipeD, e_onD, e_onB, e_onI, e_slV, e_slO, e_slOo, e_slOw, e_gI, e_gI0, e_add, e_mul, e_mulL, e_neg, e_ixL, e_ixT, e_ixS, e_isi, e_isN, e_notN, e_isNe, e_isNi, e_isNb, e_isNl, e_isNt, e_isNs, e_lenL, e_lenT, e_lenS, e_abs, e_int, e_intB, e_max, e_min, e_gcd, e_tupL, e_tupT, e_repr, e_sum, e_all, e_any, e_allN, e_allC, e_seqL, e_seqT, e_seqS, e_rg1, e_rg2, e_excN, e_excE, e_val, e_at0, e_at1, e_at2, e_get0, e_get1, e_get2, e_get3, e_get4, e_get5, e_get6, e_get7, e_set0, e_set1, e_set2, e_set3, e_set4, e_set5, e_set6, e_set7, e_ixn0, e_ixn1, e_ixn2, e_ex, List.replicate, List.cons_append, List.nil_append, List.map, fnB]
  refine ev_law_num hp ?_
  try simp only [gSeq, gIfS, gRet, gSet, gSetN, gSetIx, gDrop, gRaise, gNext, gApp, gFrz, gTry, gAsg, gFor, gRight, nCallW, zSeq, zRet, dVar, dOwn, dC, d2, d1, dN2, aNil, aCons, dTup, nLst, dCall, dBi, tVal, tNot', tAnd', tOr', dAnd, dOr, dNot, dIf, dChain, dCallK, iRg, iSeq, nLc, tTrue, gNm, wipeD, e_onD, e_onB, e_onI, e_slV, e_slO, e_slOo, e_slOw, e_gI, e_gI0, e_add, e_mul, e_mulL, e_neg, e_ixL, e_ixT, e_ixS, e_isi, e_isN, e_notN, e_isNe, e_isNi, e_isNb, e_isNl, e_isNt, e_isNs, e_lenL, e_lenT, e_lenS, e_abs, e_int, e_intB, e_max, e_min, e_gcd, e_tupL, e_tupT, e_repr, e_sum, e_all, e_any, e_allN, e_allC, e_seqL, e_seqT, e_seqS, e_rg1, e_rg2, e_excN, e_excE, e_val, e_at0, e_at1, e_at2, e_get0, e_get1, e_get2, e_get3, e_get4, e_get5, e_get6, e_get7, e_set0, e_set1, e_set2, e_set3, e_set4, e_set5, e_set6, e_set7, e_ixn0, e_ixn1, e_ixn2, e_ex, List.replicate, List.cons_append, List.nil_append, List.map, fnB]
  refine ev_law_times hx (OkS.num (b := 4) hp (by unfold MB; decide) (by decide)) (by decide) (by decide) ?_
  rw [sMul_neg hx]
  refine ⟨by show 3 ≤ 100000; decide, ?_⟩
  exact r3 hD hp hx hy hz
theorem ev_right : RightFn m__law_right := by
  intro R hR
  refine ⟨rfl, ?_⟩
  show g__law_right_0 _ [.v .wel, .no, .no, .no, .no, .no, .no, .no, .no]
  unfold g__law_right_0
  simp only [gSeq, gIfS, gRet, gSet, gSetN, gSetIx, gDrop, gRaise, gNext, gApp, gFrz, gTry, gAsg, gFor, gRight, nCallW, zSeq, zRet, dVar, dOwn, dC, d2, d1, dN2, aNil, aCons, dTup, nLst, dCall, dBi, tVal, tNot', tAnd', tOr', dAnd, dOr, dNot, dIf, dChain, dCallK, iRg, iSeq, nLc, tTrue, gNm, wipeD, e_onD, e_onB, e_onI, e_slV, e_slO, e_slOo, e_slOw, e_gI, e_gI0, e_add, e_mul, e_mulL, e_neg, e_ixL, e_ixT, e_ixS, e_isi, e_isN, e_notN, e_isNe, e_isNi, e_isNb, e_isNl, e_isNt, e_isNs, e_lenL, e_lenT, e_lenS, e_abs, e_int, e_intB, e_max, e_min, e_gcd, e_tupL, e_tupT, e_repr, e_sum, e_all, e_any, e_allN, e_allC, e_seqL, e_seqT, e_seqS, e_rg1, e_rg2, e_excN, e_excE, e_val, e_at0, e_at1, e_at2, e_get0, e_get1, e_get2, e_get3, e_get4, e_get5, e_get6, e_get7, e_set0, e_set1, e_set2, e_set3, e_set4, e_set5, e_set6, e_set7, e_ixn0, e_ixn1, e_ixn2, e_ex, List.replicate, List.cons_append, List.nil_append, List.map, fnB]
  refine ⟨by show 7 ≤ 100000; decide, ev_draw_of (by decide) (by decide) fun j j0 j1 => ?_⟩
  obtain ⟨v, hv, hm⟩ := atI_mem (xs := [PyData.int 0, .int 2, .int 3, .int 5, .int 7, .int 11, .int 13]) j0 j1
  try simp only [gSeq, gIfS, gRet, gSet, gSetN, gSetIx, gDrop, gRaise, gNext, gApp, gFrz, gTry, gAsg, gFor, gRight, nCallW, zSeq, zRet, dVar, dOwn, dC, d2, d1, dN2, aNil, aCons, dTup, nLst, dCall, dBi, tVal, tNot', tAnd', tOr', dAnd, dOr, dNot, dIf, dChain, dCallK, iRg, iSeq, nLc, tTrue, gNm, wipeD, e_onD, e_onB, e_onI, e_slV, e_slO, e_slOo, e_slOw, e_gI, e_gI0, e_add, e_mul, e_mulL, e_neg, e_ixL, e_ixT, e_ixS, e_isi, e_isN, e_notN, e_isNe, e_isNi, e_isNb, e_isNl, e_isNt, e_isNs, e_lenL, e_lenT, e_lenS, e_abs, e_int, e_intB, e_max, e_min, e_gcd, e_tupL, e_tupT, e_repr, e_sum, e_all, e_any, e_allN, e_allC, e_seqL, e_seqT, e_seqS, e_rg1, e_rg2, e_excN, e_excE, e_val, e_at0, e_at1, e_at2, e_get0, e_get1, e_get2, e_get3, e_get4, e_get5, e_get6, e_get7, e_set0, e_set1, e_set2, e_set3, e_set4, e_set5, e_set6, e_set7, e_ixn0, e_ixn1, e_ixn2, e_ex, List.replicate, List.cons_append, List.nil_append, List.map, fnB]
  refine ⟨v, hv, ?_⟩
  obtain ⟨p, rfl, hp⟩ : ∃ p : Int, v = .int p ∧ Pz p := by
    simp only [List.mem_cons, List.not_mem_nil, or_false] at hm
    unfold Pz Pp
    rcases hm with rfl | rfl | rfl | rfl | rfl | rfl | rfl <;> exact ⟨_, rfl, by decide⟩
  unfold g__law_right_1
  simp only [gSeq, gIfS, gRet, gSet, gSetN, gSetIx, gDrop, gRaise, gNext, gApp, gFrz, gTry, gAsg, gFor, gRight, nCallW, zSeq, zRet, dVar, dOwn, dC, d2, d1, dN2, aNil, aCons, dTup, nLst, dCall, dBi, tVal, tNot', tAnd', tOr', dAnd, dOr, dNot, dIf, dChain, dCallK, iRg, iSeq, nLc, tTrue, gNm, wipeD, e_onD, e_onB, e_onI, e_slV, e_slO, e_slOo, e_slOw, e_gI, e_gI0, e_add, e_mul, e_mulL, e_neg, e_ixL, e_ixT, e_ixS, e_isi, e_isN, e_notN, e_isNe, e_isNi, e_isNb, e_isNl, e_isNt, e_isNs, e_lenL, e_lenT, e_lenS, e_abs, e_int, e_intB, e_max, e_min, e_gcd, e_tupL, e_tupT, e_repr, e_sum, e_all, e_any, e_allN, e_allC, e_seqL, e_seqT, e_seqS, e_rg1, e_rg2, e_excN, e_excE, e_val, e_at0, e_at1, e_at2, e_get0, e_get1, e_get2, e_get3, e_get4, e_get5, e_get6, e_get7, e_set0, e_set1, e_set2, e_set3, e_set4, e_set5, e_set6, e_set7, e_ixn0, e_ixn1, e_ixn2, e_ex, List.replicate, List.cons_append, List.nil_append, List.map, fnB, gPar3]
  refine ev_law_great hp fun x hx => ev_law_great hp fun y hy => ev_law_great hp fun z hz => ?_
  exact r2 (fun _ => hR) hp hx hy hz

theorem all_anew {P : Program} {w : World} {K : Frag} {mg : Str → Option Value} {base : Heap} (X : Fx P K mg) : ∀ j, DefG P w K mg base "anew" ["value"] j X.a_anew X.fd_anew (spD K X.CT 0 (anewG j))
  | 0 => ⟨⟨fun vs H Q E ⟨_, _, _, _, _, _, _, _, h, _⟩ => h.elim, fun A outer s H args us vs Q E _ _ _ _ _ ⟨_, _, _, _, _, _, _, _, h, _⟩ => h.elim⟩, X.M_anew, X.F_anew.kp, X.B_anew⟩
  | j + 1 => (st_anew X (all_anew X j)).imp (spD_imp (ev_anew j))
theorem all_mk {P : Program} {w : World} {K : Frag} {h : Heap} {mg : Str → Option Value} (kin : K.In h) (G : h.Ns mainGlobals mg) {fa : Addr} (hfa : mg "law" = some (.ref fa))
    {f7 : Addr} {oc7 kV7 dc7 pm7 cd7 ct7 : Value} {od7 an7 : Option Addr} {sl7 : Array (Option Value)}
    {f8 : Addr} {oc8 kV8 dc8 pm8 cd8 ct8 : Value} {od8 an8 : Option Addr} {sl8 : Array (Option Value)}
    {f9 : Addr} {oc9 kV9 dc9 pm9 cd9 ct9 : Value} {od9 an9 : Option Addr} {sl9 : Array (Option Value)}
    {f12 : Addr} {oc12 kV12 dc12 pm12 cd12 ct12 : Value} {od12 an12 : Option Addr} {sl12 : Array (Option Value)}
    {f13 : Addr} {oc13 kV13 dc13 pm13 cd13 ct13 : Value} {od13 an13 : Option Addr} {sl13 : Array (Option Value)}
    {f14 : Addr} {oc14 kV14 dc14 pm14 cd14 ct14 : Value} {od14 an14 : Option Addr} {sl14 : Array (Option Value)}
    {f15 : Addr} {oc15 kV15 dc15 pm15 cd15 ct15 : Value} {od15 an15 : Option Addr} {sl15 : Array (Option Value)}
    {f16 : Addr} {oc16 kV16 dc16 pm16 cd16 ct16 : Value} {od16 an16 : Option Addr} {sl16 : Array (Option Value)}
    {f17 : Addr} {oc17 kV17 dc17 pm17 cd17 ct17 : Value} {od17 an17 : Option Addr} {sl17 : Array (Option Value)}
    {f18 : Addr} {oc18 kV18 dc18 pm18 cd18 ct18 : Value} {od18 an18 : Option Addr} {sl18 : Array (Option Value)}
    {f19 : Addr} {oc19 kV19 dc19 pm19 cd19 ct19 : Value} {od19 an19 : Option Addr} {sl19 : Array (Option Value)}
    {f21 : Addr} {oc21 kV21 dc21 pm21 cd21 ct21 : Value} {od21 an21 : Option Addr} {sl21 : Array (Option Value)}
    {f22 : Addr} {oc22 kV22 dc22 pm22 cd22 ct22 : Value} {od22 an22 : Option Addr} {sl22 : Array (Option Value)}
    {f23 : Addr} {oc23 kV23 dc23 pm23 cd23 ct23 : Value} {od23 an23 : Option Addr} {sl23 : Array (Option Value)}
    {f24 : Addr} {oc24 kV24 dc24 pm24 cd24 ct24 : Value} {od24 an24 : Option Addr} {sl24 : Array (Option Value)}
    {f25 : Addr} {oc25 kV25 dc25 pm25 cd25 ct25 : Value} {od25 an25 : Option Addr} {sl25 : Array (Option Value)}
    {f26 : Addr} {oc26 kV26 dc26 pm26 cd26 ct26 : Value} {od26 an26 : Option Addr} {sl26 : Array (Option Value)}
    {f27 : Addr} {oc27 kV27 dc27 pm27 cd27 ct27 : Value} {od27 an27 : Option Addr} {sl27 : Array (Option Value)}
    {f28 : Addr} {oc28 kV28 dc28 pm28 cd28 ct28 : Value} {od28 an28 : Option Addr} {sl28 : Array (Option Value)}
    {f29 : Addr} {oc29 kV29 dc29 pm29 cd29 ct29 : Value} {od29 an29 : Option Addr} {sl29 : Array (Option Value)}
    {f31 : Addr} {oc31 kV31 dc31 pm31 cd31 ct31 : Value} {od31 an31 : Option Addr} {sl31 : Array (Option Value)}
    {f32 : Addr} {oc32 kV32 dc32 pm32 cd32 ct32 : Value} {od32 an32 : Option Addr} {sl32 : Array (Option Value)}
    {f33 : Addr} {oc33 kV33 dc33 pm33 cd33 ct33 : Value} {od33 an33 : Option Addr} {sl33 : Array (Option Value)}
    {f34 : Addr} {oc34 kV34 dc34 pm34 cd34 ct34 : Value} {od34 an34 : Option Addr} {sl34 : Array (Option Value)}
    {f35 : Addr} {oc35 kV35 dc35 pm35 cd35 ct35 : Value} {od35 an35 : Option Addr} {sl35 : Array (Option Value)}
    {f36 : Addr} {oc36 kV36 dc36 pm36 cd36 ct36 : Value} {od36 an36 : Option Addr} {sl36 : Array (Option Value)}
    {f37 : Addr} {oc37 kV37 dc37 pm37 cd37 ct37 : Value} {od37 an37 : Option Addr} {sl37 : Array (Option Value)}
    {f39 : Addr} {oc39 kV39 dc39 pm39 cd39 ct39 : Value} {od39 an39 : Option Addr} {sl39 : Array (Option Value)}
    {f40 : Addr} {oc40 kV40 dc40 pm40 cd40 ct40 : Value} {od40 an40 : Option Addr} {sl40 : Array (Option Value)}
    {f41 : Addr} {oc41 kV41 dc41 pm41 cd41 ct41 : Value} {od41 an41 : Option Addr} {sl41 : Array (Option Value)}
    {f42 : Addr} {oc42 kV42 dc42 pm42 cd42 ct42 : Value} {od42 an42 : Option Addr} {sl42 : Array (Option Value)}
    {f43 : Addr} {oc43 kV43 dc43 pm43 cd43 ct43 : Value} {od43 an43 : Option Addr} {sl43 : Array (Option Value)}
    {f44 : Addr} {oc44 kV44 dc44 pm44 cd44 ct44 : Value} {od44 an44 : Option Addr} {sl44 : Array (Option Value)}
    {f45 : Addr} {oc45 kV45 dc45 pm45 cd45 ct45 : Value} {od45 an45 : Option Addr} {sl45 : Array (Option Value)}
    {gPRIMES : Addr} {dd_PRIMES : Option Addr} {its_PRIMES : Array Value} {nn_PRIMES : Nat} {sl_PRIMES : Array (Option Value)}
    {eD eI : Addr} {oce : Value} {ode : Option Addr} {doce pme : Value} {ane : Option Addr} {cte kVe : Value} {osle : Array (Option Value)} {cda cc : Addr} {ccl : Value} {cdd : Option Addr} {vse : Array Value} {ccs : Array (Option Value)} {file : Str} {tf : Tok} {cle : Value} {cld : Option Addr} {csl : Array (Option Value)}
    {C0 : Addr} {nm0 q0 : Str} {N0 : Addr} {bs0 : List Value} {sn0 : List Str} {sub0 : List Value} {ab0 : Bool} {col0 : Option Bool} {dd0 : Option Addr} {u00 u10 u20 u30 u50 : Option Value}
    {C1 : Addr} {nm1 q1 : Str} {N1 : Addr} {bs1 : List Value} {sn1 : List Str} {sub1 : List Value} {ab1 : Bool} {col1 : Option Bool} {dd1 : Option Addr} {u01 u11 u21 u31 u51 : Option Value}
    {C2 : Addr} {nm2 q2 : Str} {N2 : Addr} {bs2 : List Value} {sn2 : List Str} {sub2 : List Value} {ab2 : Bool} {col2 : Option Bool} {dd2 : Option Addr} {u02 u12 u22 u32 u52 : Option Value}
    (n7 : PySem.W.nsIn K mainGlobals "is_integer" = some (some (.ref f7)))
    (l7 : K.lookup f7 = some ⟨oc7, od7, .func (PySem.W.fnOf "is_integer" "is_integer" (defArgs s_is_integer) (defBody s_is_integer) (defScope s_is_integer) .none kV7 dc7 pm7 an7 cd7 ct7), sl7⟩)
    (c7 : PySem.W.codeIn K cd7 "is_integer" = true)
    (k7 : PySem.W.keepIn K (.ref f7) = true)
    (n8 : PySem.W.nsIn K mainGlobals "is_tuple" = some (some (.ref f8)))
    (l8 : K.lookup f8 = some ⟨oc8, od8, .func (PySem.W.fnOf "is_tuple" "is_tuple" (defArgs s_is_tuple) (defBody s_is_tuple) (defScope s_is_tuple) .none kV8 dc8 pm8 an8 cd8 ct8), sl8⟩)
    (c8 : PySem.W.codeIn K cd8 "is_tuple" = true)
    (k8 : PySem.W.keepIn K (.ref f8) = true)
    (n9 : PySem.W.nsIn K mainGlobals "anew" = some (some (.ref f9)))
    (l9 : K.lookup f9 = some ⟨oc9, od9, .func (PySem.W.fnOf "anew" "anew" (defArgs s_anew) (defBody s_anew) (defScope s_anew) .none kV9 dc9 pm9 an9 cd9 ct9), sl9⟩)
    (c9 : PySem.W.codeIn K cd9 "anew" = true)
    (k9 : PySem.W.keepIn K (.ref f9) = true)
    (n12 : PySem.W.nsIn K mainGlobals "is_prime_in" = some (some (.ref f12)))
    (l12 : K.lookup f12 = some ⟨oc12, od12, .func (PySem.W.fnOf "is_prime_in" "is_prime_in" (defArgs s_is_prime_in) (defBody s_is_prime_in) (defScope s_is_prime_in) .none kV12 dc12 pm12 an12 cd12 ct12), sl12⟩)
    (c12 : PySem.W.codeIn K cd12 "is_prime_in" = true)
    (k12 : PySem.W.keepIn K (.ref f12) = true)
    (n13 : PySem.W.nsIn K mainGlobals "is_scalar_in" = some (some (.ref f13)))
    (l13 : K.lookup f13 = some ⟨oc13, od13, .func (PySem.W.fnOf "is_scalar_in" "is_scalar_in" (defArgs s_is_scalar_in) (defBody s_is_scalar_in) (defScope s_is_scalar_in) .none kV13 dc13 pm13 an13 cd13 ct13), sl13⟩)
    (c13 : PySem.W.codeIn K cd13 "is_scalar_in" = true)
    (k13 : PySem.W.keepIn K (.ref f13) = true)
    (n14 : PySem.W.nsIn K mainGlobals "fraction_in" = some (some (.ref f14)))
    (l14 : K.lookup f14 = some ⟨oc14, od14, .func (PySem.W.fnOf "fraction_in" "fraction_in" (defArgs s_fraction_in) (defBody s_fraction_in) (defScope s_fraction_in) .none kV14 dc14 pm14 an14 cd14 ct14), sl14⟩)
    (c14 : PySem.W.codeIn K cd14 "fraction_in" = true)
    (k14 : PySem.W.keepIn K (.ref f14) = true)
    (n15 : PySem.W.nsIn K mainGlobals "scalar_in" = some (some (.ref f15)))
    (l15 : K.lookup f15 = some ⟨oc15, od15, .func (PySem.W.fnOf "scalar_in" "scalar_in" (defArgs s_scalar_in) (defBody s_scalar_in) (defScope s_scalar_in) .none kV15 dc15 pm15 an15 cd15 ct15), sl15⟩)
    (c15 : PySem.W.codeIn K cd15 "scalar_in" = true)
    (k15 : PySem.W.keepIn K (.ref f15) = true)
    (n16 : PySem.W.nsIn K mainGlobals "plus_in" = some (some (.ref f16)))
    (l16 : K.lookup f16 = some ⟨oc16, od16, .func (PySem.W.fnOf "plus_in" "plus_in" (defArgs s_plus_in) (defBody s_plus_in) (defScope s_plus_in) .none kV16 dc16 pm16 an16 cd16 ct16), sl16⟩)
    (c16 : PySem.W.codeIn K cd16 "plus_in" = true)
    (k16 : PySem.W.keepIn K (.ref f16) = true)
    (n17 : PySem.W.nsIn K mainGlobals "times_in" = some (some (.ref f17)))
    (l17 : K.lookup f17 = some ⟨oc17, od17, .func (PySem.W.fnOf "times_in" "times_in" (defArgs s_times_in) (defBody s_times_in) (defScope s_times_in) .none kV17 dc17 pm17 an17 cd17 ct17), sl17⟩)
    (c17 : PySem.W.codeIn K cd17 "times_in" = true)
    (k17 : PySem.W.keepIn K (.ref f17) = true)
    (n18 : PySem.W.nsIn K mainGlobals "negative_in" = some (some (.ref f18)))
    (l18 : K.lookup f18 = some ⟨oc18, od18, .func (PySem.W.fnOf "negative_in" "negative_in" (defArgs s_negative_in) (defBody s_negative_in) (defScope s_negative_in) .none kV18 dc18 pm18 an18 cd18 ct18), sl18⟩)
    (c18 : PySem.W.codeIn K cd18 "negative_in" = true)
    (k18 : PySem.W.keepIn K (.ref f18) = true)
    (n19 : PySem.W.nsIn K mainGlobals "inverse_in" = some (some (.ref f19)))
    (l19 : K.lookup f19 = some ⟨oc19, od19, .func (PySem.W.fnOf "inverse_in" "inverse_in" (defArgs s_inverse_in) (defBody s_inverse_in) (defScope s_inverse_in) .none kV19 dc19 pm19 an19 cd19 ct19), sl19⟩)
    (c19 : PySem.W.codeIn K cd19 "inverse_in" = true)
    (k19 : PySem.W.keepIn K (.ref f19) = true)
    (n21 : PySem.W.nsIn K mainGlobals "need_prime" = some (some (.ref f21)))
    (l21 : K.lookup f21 = some ⟨oc21, od21, .func (PySem.W.fnOf "need_prime" "need_prime" (defArgs s_need_prime) (defBody s_need_prime) (defScope s_need_prime) .none kV21 dc21 pm21 an21 cd21 ct21), sl21⟩)
    (c21 : PySem.W.codeIn K cd21 "need_prime" = true)
    (k21 : PySem.W.keepIn K (.ref f21) = true)
    (n22 : PySem.W.nsIn K mainGlobals "need_scalar" = some (some (.ref f22)))
    (l22 : K.lookup f22 = some ⟨oc22, od22, .func (PySem.W.fnOf "need_scalar" "need_scalar" (defArgs s_need_scalar) (defBody s_need_scalar) (defScope s_need_scalar) .none kV22 dc22 pm22 an22 cd22 ct22), sl22⟩)
    (c22 : PySem.W.codeIn K cd22 "need_scalar" = true)
    (k22 : PySem.W.keepIn K (.ref f22) = true)
    (n23 : PySem.W.nsIn K mainGlobals "need_scalars" = some (some (.ref f23)))
    (l23 : K.lookup f23 = some ⟨oc23, od23, .func (PySem.W.fnOf "need_scalars" "need_scalars" (defArgs s_need_scalars) (defBody s_need_scalars) (defScope s_need_scalars) .none kV23 dc23 pm23 an23 cd23 ct23), sl23⟩)
    (c23 : PySem.W.codeIn K cd23 "need_scalars" = true)
    (k23 : PySem.W.keepIn K (.ref f23) = true)
    (n24 : PySem.W.nsIn K mainGlobals "is_scalar" = some (some (.ref f24)))
    (l24 : K.lookup f24 = some ⟨oc24, od24, .func (PySem.W.fnOf "is_scalar" "is_scalar" (defArgs s_is_scalar) (defBody s_is_scalar) (defScope s_is_scalar) .none kV24 dc24 pm24 an24 cd24 ct24), sl24⟩)
    (c24 : PySem.W.codeIn K cd24 "is_scalar" = true)
    (k24 : PySem.W.keepIn K (.ref f24) = true)
    (n25 : PySem.W.nsIn K mainGlobals "scalar_of" = some (some (.ref f25)))
    (l25 : K.lookup f25 = some ⟨oc25, od25, .func (PySem.W.fnOf "scalar_of" "scalar_of" (defArgs s_scalar_of) (defBody s_scalar_of) (defScope s_scalar_of) .none kV25 dc25 pm25 an25 cd25 ct25), sl25⟩)
    (c25 : PySem.W.codeIn K cd25 "scalar_of" = true)
    (k25 : PySem.W.keepIn K (.ref f25) = true)
    (n26 : PySem.W.nsIn K mainGlobals "plus" = some (some (.ref f26)))
    (l26 : K.lookup f26 = some ⟨oc26, od26, .func (PySem.W.fnOf "plus" "plus" (defArgs s_plus) (defBody s_plus) (defScope s_plus) .none kV26 dc26 pm26 an26 cd26 ct26), sl26⟩)
    (c26 : PySem.W.codeIn K cd26 "plus" = true)
    (k26 : PySem.W.keepIn K (.ref f26) = true)
    (n27 : PySem.W.nsIn K mainGlobals "times" = some (some (.ref f27)))
    (l27 : K.lookup f27 = some ⟨oc27, od27, .func (PySem.W.fnOf "times" "times" (defArgs s_times) (defBody s_times) (defScope s_times) .none kV27 dc27 pm27 an27 cd27 ct27), sl27⟩)
    (c27 : PySem.W.codeIn K cd27 "times" = true)
    (k27 : PySem.W.keepIn K (.ref f27) = true)
    (n28 : PySem.W.nsIn K mainGlobals "negative" = some (some (.ref f28)))
    (l28 : K.lookup f28 = some ⟨oc28, od28, .func (PySem.W.fnOf "negative" "negative" (defArgs s_negative) (defBody s_negative) (defScope s_negative) .none kV28 dc28 pm28 an28 cd28 ct28), sl28⟩)
    (c28 : PySem.W.codeIn K cd28 "negative" = true)
    (k28 : PySem.W.keepIn K (.ref f28) = true)
    (n29 : PySem.W.nsIn K mainGlobals "inverse" = some (some (.ref f29)))
    (l29 : K.lookup f29 = some ⟨oc29, od29, .func (PySem.W.fnOf "inverse" "inverse" (defArgs s_inverse) (defBody s_inverse) (defScope s_inverse) .none kV29 dc29 pm29 an29 cd29 ct29), sl29⟩)
    (c29 : PySem.W.codeIn K cd29 "inverse" = true)
    (k29 : PySem.W.keepIn K (.ref f29) = true)
    (n31 : PySem.W.nsIn K mainGlobals "_law_well" = some (some (.ref f31)))
    (l31 : K.lookup f31 = some ⟨oc31, od31, .func (PySem.W.fnOf "_law_well" "_law_well" (defArgs s__law_well) (defBody s__law_well) (defScope s__law_well) .none kV31 dc31 pm31 an31 cd31 ct31), sl31⟩)
    (c31 : PySem.W.codeIn K cd31 "_law_well" = true)
    (k31 : PySem.W.keepIn K (.ref f31) = true)
    (n32 : PySem.W.nsIn K mainGlobals "_law_draw" = some (some (.ref f32)))
    (l32 : K.lookup f32 = some ⟨oc32, od32, .func (PySem.W.fnOf "_law_draw" "_law_draw" (defArgs s__law_draw) (defBody s__law_draw) (defScope s__law_draw) .none kV32 dc32 pm32 an32 cd32 ct32), sl32⟩)
    (c32 : PySem.W.codeIn K cd32 "_law_draw" = true)
    (k32 : PySem.W.keepIn K (.ref f32) = true)
    (n33 : PySem.W.nsIn K mainGlobals "_law_cut" = some (some (.ref f33)))
    (l33 : K.lookup f33 = some ⟨oc33, od33, .func (PySem.W.fnOf "_law_cut" "_law_cut" (defArgs s__law_cut) (defBody s__law_cut) (defScope s__law_cut) .none kV33 dc33 pm33 an33 cd33 ct33), sl33⟩)
    (c33 : PySem.W.codeIn K cd33 "_law_cut" = true)
    (k33 : PySem.W.keepIn K (.ref f33) = true)
    (n34 : PySem.W.nsIn K mainGlobals "_law_num" = some (some (.ref f34)))
    (l34 : K.lookup f34 = some ⟨oc34, od34, .func (PySem.W.fnOf "_law_num" "_law_num" (defArgs s__law_num) (defBody s__law_num) (defScope s__law_num) .none kV34 dc34 pm34 an34 cd34 ct34), sl34⟩)
    (c34 : PySem.W.codeIn K cd34 "_law_num" = true)
    (k34 : PySem.W.keepIn K (.ref f34) = true)
    (n35 : PySem.W.nsIn K mainGlobals "_law_plus" = some (some (.ref f35)))
    (l35 : K.lookup f35 = some ⟨oc35, od35, .func (PySem.W.fnOf "_law_plus" "_law_plus" (defArgs s__law_plus) (defBody s__law_plus) (defScope s__law_plus) .none kV35 dc35 pm35 an35 cd35 ct35), sl35⟩)
    (c35 : PySem.W.codeIn K cd35 "_law_plus" = true)
    (k35 : PySem.W.keepIn K (.ref f35) = true)
    (n36 : PySem.W.nsIn K mainGlobals "_law_times" = some (some (.ref f36)))
    (l36 : K.lookup f36 = some ⟨oc36, od36, .func (PySem.W.fnOf "_law_times" "_law_times" (defArgs s__law_times) (defBody s__law_times) (defScope s__law_times) .none kV36 dc36 pm36 an36 cd36 ct36), sl36⟩)
    (c36 : PySem.W.codeIn K cd36 "_law_times" = true)
    (k36 : PySem.W.keepIn K (.ref f36) = true)
    (n37 : PySem.W.nsIn K mainGlobals "_law_over" = some (some (.ref f37)))
    (l37 : K.lookup f37 = some ⟨oc37, od37, .func (PySem.W.fnOf "_law_over" "_law_over" (defArgs s__law_over) (defBody s__law_over) (defScope s__law_over) .none kV37 dc37 pm37 an37 cd37 ct37), sl37⟩)
    (c37 : PySem.W.codeIn K cd37 "_law_over" = true)
    (k37 : PySem.W.keepIn K (.ref f37) = true)
    (n39 : PySem.W.nsIn K mainGlobals "_law_great" = some (some (.ref f39)))
    (l39 : K.lookup f39 = some ⟨oc39, od39, .func (PySem.W.fnOf "_law_great" "_law_great" (defArgs s__law_great) (defBody s__law_great) (defScope s__law_great) .none kV39 dc39 pm39 an39 cd39 ct39), sl39⟩)
    (c39 : PySem.W.codeIn K cd39 "_law_great" = true)
    (k39 : PySem.W.keepIn K (.ref f39) = true)
    (n40 : PySem.W.nsIn K mainGlobals "_law_is_scalar" = some (some (.ref f40)))
    (l40 : K.lookup f40 = some ⟨oc40, od40, .func (PySem.W.fnOf "_law_is_scalar" "_law_is_scalar" (defArgs s__law_is_scalar) (defBody s__law_is_scalar) (defScope s__law_is_scalar) .none kV40 dc40 pm40 an40 cd40 ct40), sl40⟩)
    (c40 : PySem.W.codeIn K cd40 "_law_is_scalar" = true)
    (k40 : PySem.W.keepIn K (.ref f40) = true)
    (n41 : PySem.W.nsIn K mainGlobals "_law_near" = some (some (.ref f41)))
    (l41 : K.lookup f41 = some ⟨oc41, od41, .func (PySem.W.fnOf "_law_near" "_law_near" (defArgs s__law_near) (defBody s__law_near) (defScope s__law_near) .none kV41 dc41 pm41 an41 cd41 ct41), sl41⟩)
    (c41 : PySem.W.codeIn K cd41 "_law_near" = true)
    (k41 : PySem.W.keepIn K (.ref f41) = true)
    (n42 : PySem.W.nsIn K mainGlobals "_law_told" = some (some (.ref f42)))
    (l42 : K.lookup f42 = some ⟨oc42, od42, .func (PySem.W.fnOf "_law_told" "_law_told" (defArgs s__law_told) (defBody s__law_told) (defScope s__law_told) .none kV42 dc42 pm42 an42 cd42 ct42), sl42⟩)
    (c42 : PySem.W.codeIn K cd42 "_law_told" = true)
    (k42 : PySem.W.keepIn K (.ref f42) = true)
    (n43 : PySem.W.nsIn K mainGlobals "_law_refused" = some (some (.ref f43)))
    (l43 : K.lookup f43 = some ⟨oc43, od43, .func (PySem.W.fnOf "_law_refused" "_law_refused" (defArgs s__law_refused) (defBody s__law_refused) (defScope s__law_refused) .none kV43 dc43 pm43 an43 cd43 ct43), sl43⟩)
    (c43 : PySem.W.codeIn K cd43 "_law_refused" = true)
    (k43 : PySem.W.keepIn K (.ref f43) = true)
    (n44 : PySem.W.nsIn K mainGlobals "_law_right" = some (some (.ref f44)))
    (l44 : K.lookup f44 = some ⟨oc44, od44, .func (PySem.W.fnOf "_law_right" "_law_right" (defArgs s__law_right) (defBody s__law_right) (defScope s__law_right) .none kV44 dc44 pm44 an44 cd44 ct44), sl44⟩)
    (c44 : PySem.W.codeIn K cd44 "_law_right" = true)
    (k44 : PySem.W.keepIn K (.ref f44) = true)
    (n45 : PySem.W.nsIn K mainGlobals "law" = some (some (.ref f45)))
    (l45 : K.lookup f45 = some ⟨oc45, od45, .func (PySem.W.fnOf "law" "law" (defArgs s_law) (defBody s_law) (defScope s_law) .none kV45 dc45 pm45 an45 cd45 ct45), sl45⟩)
    (c45 : PySem.W.codeIn K cd45 "law" = true)
    (k45 : PySem.W.keepIn K (.ref f45) = true)
    (z_abs : PySem.W.nsIn K mainGlobals "abs" = some none)
    (z_all : PySem.W.nsIn K mainGlobals "all" = some none)
    (z_bool : PySem.W.nsIn K mainGlobals "bool" = some none)
    (z_gcd : PySem.W.nsIn K mainGlobals "gcd" = some (some (.builtin "math.gcd")))
    (z_int : PySem.W.nsIn K mainGlobals "int" = some none)
    (z_isinstance : PySem.W.nsIn K mainGlobals "isinstance" = some none)
    (z_len : PySem.W.nsIn K mainGlobals "len" = some none)
    (z_list : PySem.W.nsIn K mainGlobals "list" = some none)
    (z_max : PySem.W.nsIn K mainGlobals "max" = some none)
    (z_min : PySem.W.nsIn K mainGlobals "min" = some none)
    (z_range : PySem.W.nsIn K mainGlobals "range" = some none)
    (z_repr : PySem.W.nsIn K mainGlobals "repr" = some none)
    (z_tuple : PySem.W.nsIn K mainGlobals "tuple" = some none)
    (g_PRIMES : PySem.W.nsIn K mainGlobals "PRIMES" = some (some (.ref gPRIMES)))
    (gl_PRIMES : K.lookup gPRIMES = some ⟨.type "tuple", dd_PRIMES, .seq its_PRIMES nn_PRIMES, sl_PRIMES⟩)
    (gv_PRIMES : Vals [V.int 0, V.int 2, V.int 3, V.int 5, V.int 7, V.int 11, V.int 13] its_PRIMES.toList)
    (gs_PRIMES : its_PRIMES.size ≤ sizeLine)
    (nD : PySem.W.nsIn K mainGlobals "WebsError" = some (some (.ref eD)))
    (eN0 : PySem.W.nsIn K mainGlobals "InvalidPrime" = some (some (.ref C0)))
    (eN1 : PySem.W.nsIn K mainGlobals "InvalidScalar" = some (some (.ref C1)))
    (eN2 : PySem.W.nsIn K mainGlobals "ZeroScalar" = some (some (.ref C2)))
    (iC0 : PySem.W.findIn K (.ref C0) "__init__" = some (some (.ref eI)))
    (eFn : K.lookup eI = some ⟨oce, ode, .func (PySem.W.ksFn "__init__" "WebsError.__init__" (iA ⟨5, 17, 5, 21⟩ ⟨5, 23, 5, 28⟩) (iB ⟨6, 8, 6, 13⟩ ⟨6, 8, 6, 15⟩ ⟨6, 8, 6, 24⟩ ⟨6, 25, 6, 36⟩ ⟨6, 8, 6, 37⟩ ⟨6, 8, 6, 37⟩ ⟨7, 8, 7, 12⟩ ⟨7, 8, 7, 18⟩ ⟨7, 21, 7, 26⟩ ⟨7, 8, 7, 26⟩) iS .none kVe doce pme ane (.ref cda) cte cc), osle⟩)
    (eCd : PySem.W.codeIn K (.ref cda) "WebsError.__init__" = true)
    (eCl : K.lookup cda = some ⟨ccl, cdd, .fields vse, ccs⟩)
    (eFi : vse[2]? = some (.str file tf))
    (eFf : ((P.main.file : Str) == file) = true)
    (eCc : K.lookup cc = some ⟨cle, cld, .cell (some (.ref eD)), csl⟩)
    (eClD : (PySem.W.clsIn K eD).isSome = true)
    (eSup : PySem.W.nsIn K mainGlobals "super" = some none)
    (eTop : (P.main.scope.names.lookup ("super" : Str)).isSome = false)
    (eAny : PySem.W.nsIn K PySem.cStatics "thirdparty.any" = some none)
    (eTI : PySem.W.typeIn K (.ref eI) = some (.type "function"))
    (hn : PySem.W.specialIn K (.builtin "object.__class__") "__get__" = some (some (.builtin "getset_descriptor.__get__")))
    (ht : PySem.W.takesIn K (.builtin "object.__class__") = some true)
    (xL0 : K.lookup C0 = some (excClassObj nm0 q0 C0 N0 bs0 [.ref eD, .type "ValueError", .type "Exception", .type "BaseException", .type "object"] true sn0 sub0 ab0 col0 dd0 u00 u10 u20 u30 u50 "ValueError.__new__"))
    (sa0 : PySem.W.findIn K (.ref C0) "__setattr__" = some (some (.builtin "object.__setattr__")))
    (ga0 : PySem.W.findIn K (.ref C0) "__getattribute__" = some (some (.builtin "BaseException.__getattribute__")))
    (gg0 : PySem.W.findIn K (.ref C0) "__getattr__" = some none)
    (nv0 : PySem.W.findIn K (.ref C0) "value" = some none)
    (kC0 : PySem.W.keepIn K (.ref C0) = true)
    (eX0 : PySem.W.subIn K (.ref C0) (.type "BaseException") = some true)
    (eV0 : PySem.W.subIn K (.ref C0) (.type "ValueError") = some true)
    (tC0 : PySem.W.typeIn K (.ref C0) = some (.type "type"))
    (hD0 : PySem.W.hasDictIn K C0 = true)
    (mD0 : PySem.W.mroIn K C0 (.ref eD) = some true)
    (sp0 : PySem.W.ks_superIn K C0 eD "__init__" = some (some (.builtin "ValueError.__init__")))
    (hc0 : (PySem.W.clsIn K C0).isSome = true)
    (ha0 : PySem.W.findIn K (.ref C0) "__class__" = some (some (.builtin "object.__class__")))
    (hm0 : PySem.W.mroIn K C0 (.type "object") = some true)
    (xm0 : PySem.W.exmOne K (.ref C0) (.ref eD) = some true)
    (kn0 : PySem.W.kitOne K (.type "NoneType") (.ref C0) = some false)
    (kl0x0 : PySem.W.kitOne K (.ref C0) (.ref C0) = some true)
    (kl1x0 : PySem.W.kitOne K (.ref C1) (.ref C0) = some false)
    (kl2x0 : PySem.W.kitOne K (.ref C2) (.ref C0) = some false)
    (iC1 : PySem.W.findIn K (.ref C1) "__init__" = some (some (.ref eI)))
    (xL1 : K.lookup C1 = some (excClassObj nm1 q1 C1 N1 bs1 [.ref eD, .type "ValueError", .type "Exception", .type "BaseException", .type "object"] true sn1 sub1 ab1 col1 dd1 u01 u11 u21 u31 u51 "ValueError.__new__"))
    (sa1 : PySem.W.findIn K (.ref C1) "__setattr__" = some (some (.builtin "object.__setattr__")))
    (ga1 : PySem.W.findIn K (.ref C1) "__getattribute__" = some (some (.builtin "BaseException.__getattribute__")))
    (gg1 : PySem.W.findIn K (.ref C1) "__getattr__" = some none)
    (nv1 : PySem.W.findIn K (.ref C1) "value" = some none)
    (kC1 : PySem.W.keepIn K (.ref C1) = true)
    (eX1 : PySem.W.subIn K (.ref C1) (.type "BaseException") = some true)
    (eV1 : PySem.W.subIn K (.ref C1) (.type "ValueError") = some true)
    (tC1 : PySem.W.typeIn K (.ref C1) = some (.type "type"))
    (hD1 : PySem.W.hasDictIn K C1 = true)
    (mD1 : PySem.W.mroIn K C1 (.ref eD) = some true)
    (sp1 : PySem.W.ks_superIn K C1 eD "__init__" = some (some (.builtin "ValueError.__init__")))
    (hc1 : (PySem.W.clsIn K C1).isSome = true)
    (ha1 : PySem.W.findIn K (.ref C1) "__class__" = some (some (.builtin "object.__class__")))
    (hm1 : PySem.W.mroIn K C1 (.type "object") = some true)
    (xm1 : PySem.W.exmOne K (.ref C1) (.ref eD) = some true)
    (kn1 : PySem.W.kitOne K (.type "NoneType") (.ref C1) = some false)
    (kl0x1 : PySem.W.kitOne K (.ref C0) (.ref C1) = some false)
    (kl1x1 : PySem.W.kitOne K (.ref C1) (.ref C1) = some true)
    (kl2x1 : PySem.W.kitOne K (.ref C2) (.ref C1) = some false)
    (iC2 : PySem.W.findIn K (.ref C2) "__init__" = some (some (.ref eI)))
    (xL2 : K.lookup C2 = some (excClassObj nm2 q2 C2 N2 bs2 [.ref eD, .type "ValueError", .type "Exception", .type "BaseException", .type "object"] true sn2 sub2 ab2 col2 dd2 u02 u12 u22 u32 u52 "ValueError.__new__"))
    (sa2 : PySem.W.findIn K (.ref C2) "__setattr__" = some (some (.builtin "object.__setattr__")))
    (ga2 : PySem.W.findIn K (.ref C2) "__getattribute__" = some (some (.builtin "BaseException.__getattribute__")))
    (gg2 : PySem.W.findIn K (.ref C2) "__getattr__" = some none)
    (nv2 : PySem.W.findIn K (.ref C2) "value" = some none)
    (kC2 : PySem.W.keepIn K (.ref C2) = true)
    (eX2 : PySem.W.subIn K (.ref C2) (.type "BaseException") = some true)
    (eV2 : PySem.W.subIn K (.ref C2) (.type "ValueError") = some true)
    (tC2 : PySem.W.typeIn K (.ref C2) = some (.type "type"))
    (hD2 : PySem.W.hasDictIn K C2 = true)
    (mD2 : PySem.W.mroIn K C2 (.ref eD) = some true)
    (sp2 : PySem.W.ks_superIn K C2 eD "__init__" = some (some (.builtin "ValueError.__init__")))
    (hc2 : (PySem.W.clsIn K C2).isSome = true)
    (ha2 : PySem.W.findIn K (.ref C2) "__class__" = some (some (.builtin "object.__class__")))
    (hm2 : PySem.W.mroIn K C2 (.type "object") = some true)
    (xm2 : PySem.W.exmOne K (.ref C2) (.ref eD) = some true)
    (kn2 : PySem.W.kitOne K (.type "NoneType") (.ref C2) = some false)
    (kl0x2 : PySem.W.kitOne K (.ref C0) (.ref C2) = some false)
    (kl1x2 : PySem.W.kitOne K (.ref C1) (.ref C2) = some false)
    (kl2x2 : PySem.W.kitOne K (.ref C2) (.ref C2) = some true) :
    ∃ (fd : FuncData) (CT : Nat → Addr), (∀ (s : Shared) (u : Value), BindsTo s fd ⟨[u], []⟩ [("script", u)]) ∧ ∀ base : Heap, K.In base → base.Ns mainGlobals mg → FnG P w K mg base 17 fa fd ["script"] (spD K CT 0 m_law) := by
  have e := hfa.symm.trans (PySem.W.mg_of kin G n45)
  cases e
  let CT : Nat → Addr := fun c => match c with | 0 => C0 | 1 => C1 | 2 => C2 | _ + 3 => C0
  have ec0 : ErrCls K eD eI C0 := ⟨⟨nm0, q0, N0, bs0, _, sn0, sub0, ab0, col0, dd0, u00, u10, u20, u30, u50, xL0, by rfl⟩, sa0, ga0, gg0, nv0, iC0, kC0, eX0, eV0, tC0, hD0, mD0, sp0⟩
  have ic0 : IsC K C0 := ⟨hc0, ga0, gg0, eX0, ha0, hn, ht, hm0⟩
  have ec1 : ErrCls K eD eI C1 := ⟨⟨nm1, q1, N1, bs1, _, sn1, sub1, ab1, col1, dd1, u01, u11, u21, u31, u51, xL1, by rfl⟩, sa1, ga1, gg1, nv1, iC1, kC1, eX1, eV1, tC1, hD1, mD1, sp1⟩
  have ic1 : IsC K C1 := ⟨hc1, ga1, gg1, eX1, ha1, hn, ht, hm1⟩
  have ec2 : ErrCls K eD eI C2 := ⟨⟨nm2, q2, N2, bs2, _, sn2, sub2, ab2, col2, dd2, u02, u12, u22, u32, u52, xL2, by rfl⟩, sa2, ga2, gg2, nv2, iC2, kC2, eX2, eV2, tC2, hD2, mD2, sp2⟩
  have ic2 : IsC K C2 := ⟨hc2, ga2, gg2, eX2, ha2, hn, ht, hm2⟩
  have EB : ErrBase P K mg eD eI := ⟨⟨oce, ode, doce, pme, ane, cte, kVe, osle, ⟨5, 17, 5, 21⟩, ⟨5, 23, 5, 28⟩, ⟨6, 8, 6, 13⟩, ⟨6, 8, 6, 15⟩, ⟨6, 8, 6, 24⟩, ⟨6, 25, 6, 36⟩, ⟨6, 8, 6, 37⟩, ⟨6, 8, 6, 37⟩, ⟨7, 8, 7, 12⟩, ⟨7, 8, 7, 18⟩, ⟨7, 21, 7, 26⟩, ⟨7, 8, 7, 26⟩, cda, cc, ccl, cdd, vse, ccs, file, tf, cle, cld, csl, eFn, eCd, eCl, eFi, eFf, eCc, by rfl⟩, eClD, eSup, PySem.W.mg_none_of kin G eSup, eTop, eAny, eTI⟩
  have F7 := fun_mk (st := s_is_integer) l7 c7 k7
  have b7 := F7.binds (ps := ["value"]) fun _ _ _ _ _ _ us hl => match us, hl with | [_], _ => rfl
  have F8 := fun_mk (st := s_is_tuple) l8 c8 k8
  have b8 := F8.binds (ps := ["value", "low", "high"]) fun _ _ _ _ _ _ us hl => match us, hl with | [_, _, _], _ => rfl
  have F9 := fun_mk (st := s_anew) l9 c9 k9
  have b9 := F9.binds (ps := ["value"]) fun _ _ _ _ _ _ us hl => match us, hl with | [_], _ => rfl
  have F12 := fun_mk (st := s_is_prime_in) l12 c12 k12
  have b12 := F12.binds (ps := ["value"]) fun _ _ _ _ _ _ us hl => match us, hl with | [_], _ => rfl
  have F13 := fun_mk (st := s_is_scalar_in) l13 c13 k13
  have b13 := F13.binds (ps := ["prime", "value"]) fun _ _ _ _ _ _ us hl => match us, hl with | [_, _], _ => rfl
  have F14 := fun_mk (st := s_fraction_in) l14 c14 k14
  have b14 := F14.binds (ps := ["above", "below"]) fun _ _ _ _ _ _ us hl => match us, hl with | [_, _], _ => rfl
  have F15 := fun_mk (st := s_scalar_in) l15 c15 k15
  have b15 := F15.binds (ps := ["prime", "k"]) fun _ _ _ _ _ _ us hl => match us, hl with | [_, _], _ => rfl
  have F16 := fun_mk (st := s_plus_in) l16 c16 k16
  have b16 := F16.binds (ps := ["prime", "one", "other"]) fun _ _ _ _ _ _ us hl => match us, hl with | [_, _, _], _ => rfl
  have F17 := fun_mk (st := s_times_in) l17 c17 k17
  have b17 := F17.binds (ps := ["prime", "one", "other"]) fun _ _ _ _ _ _ us hl => match us, hl with | [_, _, _], _ => rfl
  have F18 := fun_mk (st := s_negative_in) l18 c18 k18
  have b18 := F18.binds (ps := ["prime", "scalar"]) fun _ _ _ _ _ _ us hl => match us, hl with | [_, _], _ => rfl
  have F19 := fun_mk (st := s_inverse_in) l19 c19 k19
  have b19 := F19.binds (ps := ["prime", "scalar"]) fun _ _ _ _ _ _ us hl => match us, hl with | [_, _], _ => rfl
  have F21 := fun_mk (st := s_need_prime) l21 c21 k21
  have b21 := F21.binds (ps := ["prime"]) fun _ _ _ _ _ _ us hl => match us, hl with | [_], _ => rfl
  have F22 := fun_mk (st := s_need_scalar) l22 c22 k22
  have b22 := F22.binds (ps := ["prime", "scalar"]) fun _ _ _ _ _ _ us hl => match us, hl with | [_, _], _ => rfl
  have F23 := fun_mk (st := s_need_scalars) l23 c23 k23
  have b23 := F23.binds (ps := ["prime", "one", "other"]) fun _ _ _ _ _ _ us hl => match us, hl with | [_, _, _], _ => rfl
  have F24 := fun_mk (st := s_is_scalar) l24 c24 k24
  have b24 := F24.binds (ps := ["prime", "value"]) fun _ _ _ _ _ _ us hl => match us, hl with | [_, _], _ => rfl
  have F25 := fun_mk (st := s_scalar_of) l25 c25 k25
  have b25 := F25.binds (ps := ["prime", "k"]) fun _ _ _ _ _ _ us hl => match us, hl with | [_, _], _ => rfl
  have F26 := fun_mk (st := s_plus) l26 c26 k26
  have b26 := F26.binds (ps := ["prime", "one", "other"]) fun _ _ _ _ _ _ us hl => match us, hl with | [_, _, _], _ => rfl
  have F27 := fun_mk (st := s_times) l27 c27 k27
  have b27 := F27.binds (ps := ["prime", "one", "other"]) fun _ _ _ _ _ _ us hl => match us, hl with | [_, _, _], _ => rfl
  have F28 := fun_mk (st := s_negative) l28 c28 k28
  have b28 := F28.binds (ps := ["prime", "scalar"]) fun _ _ _ _ _ _ us hl => match us, hl with | [_, _], _ => rfl
  have F29 := fun_mk (st := s_inverse) l29 c29 k29
  have b29 := F29.binds (ps := ["prime", "scalar"]) fun _ _ _ _ _ _ us hl => match us, hl with | [_, _], _ => rfl
  have F31 := fun_mk (st := s__law_well) l31 c31 k31
  have b31 := F31.binds (ps := ["script", "k"]) fun _ _ _ _ _ _ us hl => match us, hl with | [_, _], _ => rfl
  have F32 := fun_mk (st := s__law_draw) l32 c32 k32
  have b32 := F32.binds (ps := ["well", "many"]) fun _ _ _ _ _ _ us hl => match us, hl with | [_, _], _ => rfl
  have F33 := fun_mk (st := s__law_cut) l33 c33 k33
  have b33 := F33.binds (ps := ["above", "below"]) fun _ _ _ _ _ _ us hl => match us, hl with | [_, _], _ => rfl
  have F34 := fun_mk (st := s__law_num) l34 c34 k34
  have b34 := F34.binds (ps := ["p", "k"]) fun _ _ _ _ _ _ us hl => match us, hl with | [_, _], _ => rfl
  have F35 := fun_mk (st := s__law_plus) l35 c35 k35
  have b35 := F35.binds (ps := ["p", "one", "other"]) fun _ _ _ _ _ _ us hl => match us, hl with | [_, _, _], _ => rfl
  have F36 := fun_mk (st := s__law_times) l36 c36 k36
  have b36 := F36.binds (ps := ["p", "one", "other"]) fun _ _ _ _ _ _ us hl => match us, hl with | [_, _, _], _ => rfl
  have F37 := fun_mk (st := s__law_over) l37 c37 k37
  have b37 := F37.binds (ps := ["p", "one"]) fun _ _ _ _ _ _ us hl => match us, hl with | [_, _], _ => rfl
  have F39 := fun_mk (st := s__law_great) l39 c39 k39
  have b39 := F39.binds (ps := ["well", "p"]) fun _ _ _ _ _ _ us hl => match us, hl with | [_, _], _ => rfl
  have F40 := fun_mk (st := s__law_is_scalar) l40 c40 k40
  have b40 := F40.binds (ps := ["p", "value"]) fun _ _ _ _ _ _ us hl => match us, hl with | [_, _], _ => rfl
  have F41 := fun_mk (st := s__law_near) l41 c41 k41
  have b41 := F41.binds (ps := ["well", "p", "value"]) fun _ _ _ _ _ _ us hl => match us, hl with | [_, _, _], _ => rfl
  have F42 := fun_mk (st := s__law_told) l42 c42 k42
  have b42 := F42.binds (ps := ["way", "p", "one", "other"]) fun _ _ _ _ _ _ us hl => match us, hl with | [_, _, _, _], _ => rfl
  have F43 := fun_mk (st := s__law_refused) l43 c43 k43
  have b43 := F43.binds (ps := ["well", "p", "one"]) fun _ _ _ _ _ _ us hl => match us, hl with | [_, _, _], _ => rfl
  have F44 := fun_mk (st := s__law_right) l44 c44 k44
  have b44 := F44.binds (ps := ["well"]) fun _ _ _ _ _ _ us hl => match us, hl with | [_], _ => rfl
  have F45 := fun_mk (st := s_law) l45 c45 k45
  have b45 := F45.binds (ps := ["script"]) fun _ _ _ _ _ _ us hl => match us, hl with | [_], _ => rfl
  let X : Fx P K mg :=
    { a_is_integer := _, fd_is_integer := _, F_is_integer := F7, M_is_integer := PySem.W.mg_of kin G n7, B_is_integer := b7,
      a_is_tuple := _, fd_is_tuple := _, F_is_tuple := F8, M_is_tuple := PySem.W.mg_of kin G n8, B_is_tuple := b8,
      a_anew := _, fd_anew := _, F_anew := F9, M_anew := PySem.W.mg_of kin G n9, B_anew := b9,
      a_is_prime_in := _, fd_is_prime_in := _, F_is_prime_in := F12, M_is_prime_in := PySem.W.mg_of kin G n12, B_is_prime_in := b12,
      a_is_scalar_in := _, fd_is_scalar_in := _, F_is_scalar_in := F13, M_is_scalar_in := PySem.W.mg_of kin G n13, B_is_scalar_in := b13,
      a_fraction_in := _, fd_fraction_in := _, F_fraction_in := F14, M_fraction_in := PySem.W.mg_of kin G n14, B_fraction_in := b14,
      a_scalar_in := _, fd_scalar_in := _, F_scalar_in := F15, M_scalar_in := PySem.W.mg_of kin G n15, B_scalar_in := b15,
      a_plus_in := _, fd_plus_in := _, F_plus_in := F16, M_plus_in := PySem.W.mg_of kin G n16, B_plus_in := b16,
      a_times_in := _, fd_times_in := _, F_times_in := F17, M_times_in := PySem.W.mg_of kin G n17, B_times_in := b17,
      a_negative_in := _, fd_negative_in := _, F_negative_in := F18, M_negative_in := PySem.W.mg_of kin G n18, B_negative_in := b18,
      a_inverse_in := _, fd_inverse_in := _, F_inverse_in := F19, M_inverse_in := PySem.W.mg_of kin G n19, B_inverse_in := b19,
      a_need_prime := _, fd_need_prime := _, F_need_prime := F21, M_need_prime := PySem.W.mg_of kin G n21, B_need_prime := b21,
      a_need_scalar := _, fd_need_scalar := _, F_need_scalar := F22, M_need_scalar := PySem.W.mg_of kin G n22, B_need_scalar := b22,
      a_need_scalars := _, fd_need_scalars := _, F_need_scalars := F23, M_need_scalars := PySem.W.mg_of kin G n23, B_need_scalars := b23,
      a_is_scalar := _, fd_is_scalar := _, F_is_scalar := F24, M_is_scalar := PySem.W.mg_of kin G n24, B_is_scalar := b24,
      a_scalar_of := _, fd_scalar_of := _, F_scalar_of := F25, M_scalar_of := PySem.W.mg_of kin G n25, B_scalar_of := b25,
      a_plus := _, fd_plus := _, F_plus := F26, M_plus := PySem.W.mg_of kin G n26, B_plus := b26,
      a_times := _, fd_times := _, F_times := F27, M_times := PySem.W.mg_of kin G n27, B_times := b27,
      a_negative := _, fd_negative := _, F_negative := F28, M_negative := PySem.W.mg_of kin G n28, B_negative := b28,
      a_inverse := _, fd_inverse := _, F_inverse := F29, M_inverse := PySem.W.mg_of kin G n29, B_inverse := b29,
      a__law_well := _, fd__law_well := _, F__law_well := F31, M__law_well := PySem.W.mg_of kin G n31, B__law_well := b31,
      a__law_draw := _, fd__law_draw := _, F__law_draw := F32, M__law_draw := PySem.W.mg_of kin G n32, B__law_draw := b32,
      a__law_cut := _, fd__law_cut := _, F__law_cut := F33, M__law_cut := PySem.W.mg_of kin G n33, B__law_cut := b33,
      a__law_num := _, fd__law_num := _, F__law_num := F34, M__law_num := PySem.W.mg_of kin G n34, B__law_num := b34,
      a__law_plus := _, fd__law_plus := _, F__law_plus := F35, M__law_plus := PySem.W.mg_of kin G n35, B__law_plus := b35,
      a__law_times := _, fd__law_times := _, F__law_times := F36, M__law_times := PySem.W.mg_of kin G n36, B__law_times := b36,
      a__law_over := _, fd__law_over := _, F__law_over := F37, M__law_over := PySem.W.mg_of kin G n37, B__law_over := b37,
      a__law_great := _, fd__law_great := _, F__law_great := F39, M__law_great := PySem.W.mg_of kin G n39, B__law_great := b39,
      a__law_is_scalar := _, fd__law_is_scalar := _, F__law_is_scalar := F40, M__law_is_scalar := PySem.W.mg_of kin G n40, B__law_is_scalar := b40,
      a__law_near := _, fd__law_near := _, F__law_near := F41, M__law_near := PySem.W.mg_of kin G n41, B__law_near := b41,
      a__law_told := _, fd__law_told := _, F__law_told := F42, M__law_told := PySem.W.mg_of kin G n42, B__law_told := b42,
      a__law_refused := _, fd__law_refused := _, F__law_refused := F43, M__law_refused := PySem.W.mg_of kin G n43, B__law_refused := b43,
      a__law_right := _, fd__law_right := _, F__law_right := F44, M__law_right := PySem.W.mg_of kin G n44, B__law_right := b44,
      a_law := _, fd_law := _, F_law := F45, M_law := PySem.W.mg_of kin G n45, B_law := b45,
      K_plus_210 := ⟨fun s us ws _ hl => by
        obtain ⟨rfl, a, b, c, rfl⟩ := pl_210 us ws hl
        exact .of_eq rfl, fun r z => pv_210 r z⟩,
      K_times_102 := ⟨fun s us ws _ hl => by
        obtain ⟨rfl, a, b, c, rfl⟩ := pl_102 us ws hl
        exact .of_eq rfl, fun r z => pv_102 r z⟩,
      K_negative_10 := ⟨fun s us ws _ hl => by
        obtain ⟨rfl, a, b, rfl⟩ := pl_10 us ws hl
        exact .of_eq rfl, fun r z => pv_10 r z⟩,
      K_scalar_of_10 := ⟨fun s us ws _ hl => by
        obtain ⟨rfl, a, b, rfl⟩ := pl_10 us ws hl
        exact .of_eq rfl, fun r z => pv_10 r z⟩,
      K_inverse_10 := ⟨fun s us ws _ hl => by
        obtain ⟨rfl, a, b, rfl⟩ := pl_10 us ws hl
        exact .of_eq rfl, fun r z => pv_10 r z⟩,
      K_is_scalar_10 := ⟨fun s us ws _ hl => by
        obtain ⟨rfl, a, b, rfl⟩ := pl_10 us ws hl
        exact .of_eq rfl, fun r z => pv_10 r z⟩,
      m_abs := PySem.W.mg_none_of kin G z_abs,
      m_all := PySem.W.mg_none_of kin G z_all,
      m_bool := PySem.W.mg_none_of kin G z_bool,
      m_gcd := PySem.W.mg_of kin G z_gcd,
      m_int := PySem.W.mg_none_of kin G z_int,
      m_isinstance := PySem.W.mg_none_of kin G z_isinstance,
      m_len := PySem.W.mg_none_of kin G z_len,
      m_list := PySem.W.mg_none_of kin G z_list,
      m_max := PySem.W.mg_none_of kin G z_max,
      m_min := PySem.W.mg_none_of kin G z_min,
      m_range := PySem.W.mg_none_of kin G z_range,
      m_repr := PySem.W.mg_none_of kin G z_repr,
      m_tuple := PySem.W.mg_none_of kin G z_tuple,
      a_PRIMES := gPRIMES, u_PRIMES := _, M_PRIMES := PySem.W.mg_of kin G g_PRIMES, R_PRIMES := rfl, Q_PRIMES := fun S => .tup (.inr ⟨_, _, _, gl_PRIMES, rfl, rfl, gs_PRIMES, gv_PRIMES⟩) (.cons (.int _) (.cons (.int _) (.cons (.int _) (.cons (.int _) (.cons (.int _) (.cons (.int _) (.cons (.int _) .nil))))))),
      aD := eD, fI := eI, EB := EB, CT := CT, EC := (fun c => match c with | 0 => ec0 | 1 => ec1 | 2 => ec2 | _ + 3 => ec0), IC := (fun c => match c with | 0 => ic0 | 1 => ic1 | 2 => ic2 | _ + 3 => ic0), M_WebsError := PySem.W.mg_of kin G nD, XM := (fun c => match c with | 0 => xm0 | 1 => xm1 | 2 => xm2 | _ + 3 => xm0),
      ME_InvalidPrime := PySem.W.mg_of kin G eN0, KN_InvalidPrime := kn0, KL_InvalidPrime := (fun c => match c with | 0 => kl0x0 | 1 => kl1x0 | 2 => kl2x0 | _ + 3 => kl0x0),
      ME_InvalidScalar := PySem.W.mg_of kin G eN1, KN_InvalidScalar := kn1, KL_InvalidScalar := (fun c => match c with | 0 => kl0x1 | 1 => kl1x1 | 2 => kl2x1 | _ + 3 => kl0x1),
      ME_ZeroScalar := PySem.W.mg_of kin G eN2, KN_ZeroScalar := kn2, KL_ZeroScalar := (fun c => match c with | 0 => kl0x2 | 1 => kl1x2 | 2 => kl2x2 | _ + 3 => kl0x2) }
  refine ⟨PySem.W.fnOf "law" "law" (defArgs s_law) (defBody s_law) (defScope s_law) .none kV45 dc45 pm45 an45 cd45 ct45, CT, fun s u => .of_eq rfl, fun base _ _ => ?_⟩
  have D_is_integer := d_is_integer (w := w) (base := base) X 
  have D_is_tuple := d_is_tuple (w := w) (base := base) X 
  have D_anew := all_anew (w := w) (base := base) X 10
  have D_is_prime_in := d_is_prime_in (w := w) (base := base) X D_is_integer
  have D_is_scalar_in := d_is_scalar_in (w := w) (base := base) X D_is_integer D_is_tuple
  have D_fraction_in := d_fraction_in (w := w) (base := base) X 
  have D_scalar_in := d_scalar_in (w := w) (base := base) X 
  have D_plus_in := d_plus_in (w := w) (base := base) X D_fraction_in
  have D_times_in := d_times_in (w := w) (base := base) X D_fraction_in
  have D_negative_in := d_negative_in (w := w) (base := base) X 
  have D_inverse_in := d_inverse_in (w := w) (base := base) X D_fraction_in
  have D_need_prime := d_need_prime (w := w) (base := base) X D_is_prime_in D_anew
  have D_need_scalar := d_need_scalar (w := w) (base := base) X D_is_scalar_in D_anew
  have D_need_scalars := d_need_scalars (w := w) (base := base) X D_need_prime D_need_scalar
  have D_is_scalar := d_is_scalar (w := w) (base := base) X D_need_prime D_is_scalar_in
  have D_scalar_of := d_scalar_of (w := w) (base := base) X D_need_prime D_scalar_in
  have D_plus := d_plus (w := w) (base := base) X D_need_scalars D_plus_in
  have D_times := d_times (w := w) (base := base) X D_need_scalars D_times_in
  have D_negative := d_negative (w := w) (base := base) X D_need_prime D_need_scalar D_negative_in
  have D_inverse := d_inverse (w := w) (base := base) X D_need_prime D_need_scalar D_inverse_in D_scalar_in D_anew
  have D__law_well := d__law_well (w := w) (base := base) X ev_well
  have D__law_draw := d__law_draw (w := w) (base := base) X ev_draw
  have D__law_cut := d__law_cut (w := w) (base := base) X 
  have D__law_num := d__law_num (w := w) (base := base) X 
  have D__law_plus := d__law_plus (w := w) (base := base) X D__law_cut
  have D__law_times := d__law_times (w := w) (base := base) X D__law_cut
  have D__law_over := d__law_over (w := w) (base := base) X D__law_cut
  have D__law_great := d__law_great (w := w) (base := base) X D__law_cut D__law_draw
  have D__law_is_scalar := d__law_is_scalar (w := w) (base := base) X D__law_cut
  have D__law_near := d__law_near (w := w) (base := base) X D__law_draw
  have D__law_told := d__law_told (w := w) (base := base) X D_plus D_times D_negative D_inverse D_scalar_of
  have D__law_refused := d__law_refused (w := w) (base := base) X D__law_near D__law_is_scalar D__law_draw D__law_told
  have D__law_right := d__law_right (w := w) (base := base) X D__law_refused D__law_draw D__law_great D__law_plus D__law_times D_plus D_times D__law_num D__law_near D__law_is_scalar D__law_told D_negative D_scalar_of D_inverse D_is_scalar D__law_over
  have D_law := d_law (w := w) (base := base) X D__law_well D__law_right ev_right
  exact D_law.fn

end Law
open PySem PySem.W PyProof.Rows in
set_option maxRecDepth 100000 in
set_option maxHeartbeats 0 in
theorem PySem.Challenge.cw_spacewebs_k01_scalars_holds : PySem.Challenge.rw_spacewebs_k01_scalars.Holds := by
  w_on; o_law; k_head; (case hw => w_witness2)
  k_fill
  refine Wb.walk_end (l := PySem.Challenge.rw_spacewebs_k01_scalars) (n := 63) (k := 17) (x := "script") (G := Law.m_law) rfl (by decide) rfl ⟨rfl, by decide, by decide⟩ Law.ev_law (fun w h Y => PySem.W.kIn_of Y) ?F
  case F =>
    intro w mg fa h KX G hmg
    refine' Law.all_mk KX G hmg ?n7 ?l7 ?c7 ?k7 ?n8 ?l8 ?c8 ?k8 ?n9 ?l9 ?c9 ?k9 ?n12 ?l12 ?c12 ?k12 ?n13 ?l13 ?c13 ?k13 ?n14 ?l14 ?c14 ?k14 ?n15 ?l15 ?c15 ?k15 ?n16 ?l16 ?c16 ?k16 ?n17 ?l17 ?c17 ?k17 ?n18 ?l18 ?c18 ?k18 ?n19 ?l19 ?c19 ?k19 ?n21 ?l21 ?c21 ?k21 ?n22 ?l22 ?c22 ?k22 ?n23 ?l23 ?c23 ?k23 ?n24 ?l24 ?c24 ?k24 ?n25 ?l25 ?c25 ?k25 ?n26 ?l26 ?c26 ?k26 ?n27 ?l27 ?c27 ?k27 ?n28 ?l28 ?c28 ?k28 ?n29 ?l29 ?c29 ?k29 ?n31 ?l31 ?c31 ?k31 ?n32 ?l32 ?c32 ?k32 ?n33 ?l33 ?c33 ?k33 ?n34 ?l34 ?c34 ?k34 ?n35 ?l35 ?c35 ?k35 ?n36 ?l36 ?c36 ?k36 ?n37 ?l37 ?c37 ?k37 ?n39 ?l39 ?c39 ?k39 ?n40 ?l40 ?c40 ?k40 ?n41 ?l41 ?c41 ?k41 ?n42 ?l42 ?c42 ?k42 ?n43 ?l43 ?c43 ?k43 ?n44 ?l44 ?c44 ?k44 ?n45 ?l45 ?c45 ?k45 ?z_abs ?z_all ?z_bool ?z_gcd ?z_int ?z_isinstance ?z_len ?z_list ?z_max ?z_min ?z_range ?z_repr ?z_tuple ?g_PRIMES ?gl_PRIMES ?gv_PRIMES ?gs_PRIMES ?nD ?eN0 ?eN1 ?eN2 ?iC0 ?eFn ?eCd ?eCl ?eFi ?eFf ?eCc ?eClD ?eSup ?eTop ?eAny ?eTI ?hn ?ht ?xL0 ?sa0 ?ga0 ?gg0 ?nv0 ?kC0 ?eX0 ?eV0 ?tC0 ?hD0 ?mD0 ?sp0 ?hc0 ?ha0 ?hm0 ?xm0 ?kn0 ?kl0x0 ?kl1x0 ?kl2x0 ?iC1 ?xL1 ?sa1 ?ga1 ?gg1 ?nv1 ?kC1 ?eX1 ?eV1 ?tC1 ?hD1 ?mD1 ?sp1 ?hc1 ?ha1 ?hm1 ?xm1 ?kn1 ?kl0x1 ?kl1x1 ?kl2x1 ?iC2 ?xL2 ?sa2 ?ga2 ?gg2 ?nv2 ?kC2 ?eX2 ?eV2 ?tC2 ?hD2 ?mD2 ?sp2 ?hc2 ?ha2 ?hm2 ?xm2 ?kn2 ?kl0x2 ?kl1x2 ?kl2x2
    (case n7 => first | k_is | rfl)
    (case l7 => first | k_is | rfl)
    (case c7 => first | k_is | rfl)
    (case k7 => first | k_is | rfl)
    (case n8 => first | k_is | rfl)
    (case l8 => first | k_is | rfl)
    (case c8 => first | k_is | rfl)
    (case k8 => first | k_is | rfl)
    (case n9 => first | k_is | rfl)
    (case l9 => first | k_is | rfl)
    (case c9 => first | k_is | rfl)
    (case k9 => first | k_is | rfl)
    (case n12 => first | k_is | rfl)
    (case l12 => first | k_is | rfl)
    (case c12 => first | k_is | rfl)
    (case k12 => first | k_is | rfl)
    (case n13 => first | k_is | rfl)
    (case l13 => first | k_is | rfl)
    (case c13 => first | k_is | rfl)
    (case k13 => first | k_is | rfl)
    (case n14 => first | k_is | rfl)
    (case l14 => first | k_is | rfl)
    (case c14 => first | k_is | rfl)
    (case k14 => first | k_is | rfl)
    (case n15 => first | k_is | rfl)
    (case l15 => first | k_is | rfl)
    (case c15 => first | k_is | rfl)
    (case k15 => first | k_is | rfl)
    (case n16 => first | k_is | rfl)
    (case l16 => first | k_is | rfl)
    (case c16 => first | k_is | rfl)
    (case k16 => first | k_is | rfl)
    (case n17 => first | k_is | rfl)
    (case l17 => first | k_is | rfl)
    (case c17 => first | k_is | rfl)
    (case k17 => first | k_is | rfl)
    (case n18 => first | k_is | rfl)
    (case l18 => first | k_is | rfl)
    (case c18 => first | k_is | rfl)
    (case k18 => first | k_is | rfl)
    (case n19 => first | k_is | rfl)
    (case l19 => first | k_is | rfl)
    (case c19 => first | k_is | rfl)
    (case k19 => first | k_is | rfl)
    (case n21 => first | k_is | rfl)
    (case l21 => first | k_is | rfl)
    (case c21 => first | k_is | rfl)
    (case k21 => first | k_is | rfl)
    (case n22 => first | k_is | rfl)
    (case l22 => first | k_is | rfl)
    (case c22 => first | k_is | rfl)
    (case k22 => first | k_is | rfl)
    (case n23 => first | k_is | rfl)
    (case l23 => first | k_is | rfl)
    (case c23 => first | k_is | rfl)
    (case k23 => first | k_is | rfl)
    (case n24 => first | k_is | rfl)
    (case l24 => first | k_is | rfl)
    (case c24 => first | k_is | rfl)
    (case k24 => first | k_is | rfl)
    (case n25 => first | k_is | rfl)
    (case l25 => first | k_is | rfl)
    (case c25 => first | k_is | rfl)
    (case k25 => first | k_is | rfl)
    (case n26 => first | k_is | rfl)
    (case l26 => first | k_is | rfl)
    (case c26 => first | k_is | rfl)
    (case k26 => first | k_is | rfl)
    (case n27 => first | k_is | rfl)
    (case l27 => first | k_is | rfl)
    (case c27 => first | k_is | rfl)
    (case k27 => first | k_is | rfl)
    (case n28 => first | k_is | rfl)
    (case l28 => first | k_is | rfl)
    (case c28 => first | k_is | rfl)
    (case k28 => first | k_is | rfl)
    (case n29 => first | k_is | rfl)
    (case l29 => first | k_is | rfl)
    (case c29 => first | k_is | rfl)
    (case k29 => first | k_is | rfl)
    (case n31 => first | k_is | rfl)
    (case l31 => first | k_is | rfl)
    (case c31 => first | k_is | rfl)
    (case k31 => first | k_is | rfl)
    (case n32 => first | k_is | rfl)
    (case l32 => first | k_is | rfl)
    (case c32 => first | k_is | rfl)
    (case k32 => first | k_is | rfl)
    (case n33 => first | k_is | rfl)
    (case l33 => first | k_is | rfl)
    (case c33 => first | k_is | rfl)
    (case k33 => first | k_is | rfl)
    (case n34 => first | k_is | rfl)
    (case l34 => first | k_is | rfl)
    (case c34 => first | k_is | rfl)
    (case k34 => first | k_is | rfl)
    (case n35 => first | k_is | rfl)
    (case l35 => first | k_is | rfl)
    (case c35 => first | k_is | rfl)
    (case k35 => first | k_is | rfl)
    (case n36 => first | k_is | rfl)
    (case l36 => first | k_is | rfl)
    (case c36 => first | k_is | rfl)
    (case k36 => first | k_is | rfl)
    (case n37 => first | k_is | rfl)
    (case l37 => first | k_is | rfl)
    (case c37 => first | k_is | rfl)
    (case k37 => first | k_is | rfl)
    (case n39 => first | k_is | rfl)
    (case l39 => first | k_is | rfl)
    (case c39 => first | k_is | rfl)
    (case k39 => first | k_is | rfl)
    (case n40 => first | k_is | rfl)
    (case l40 => first | k_is | rfl)
    (case c40 => first | k_is | rfl)
    (case k40 => first | k_is | rfl)
    (case n41 => first | k_is | rfl)
    (case l41 => first | k_is | rfl)
    (case c41 => first | k_is | rfl)
    (case k41 => first | k_is | rfl)
    (case n42 => first | k_is | rfl)
    (case l42 => first | k_is | rfl)
    (case c42 => first | k_is | rfl)
    (case k42 => first | k_is | rfl)
    (case n43 => first | k_is | rfl)
    (case l43 => first | k_is | rfl)
    (case c43 => first | k_is | rfl)
    (case k43 => first | k_is | rfl)
    (case n44 => first | k_is | rfl)
    (case l44 => first | k_is | rfl)
    (case c44 => first | k_is | rfl)
    (case k44 => first | k_is | rfl)
    (case n45 => first | k_is | rfl)
    (case l45 => first | k_is | rfl)
    (case c45 => first | k_is | rfl)
    (case k45 => first | k_is | rfl)
    (case z_abs => first | k_is | rfl)
    (case z_all => first | k_is | rfl)
    (case z_bool => first | k_is | rfl)
    (case z_gcd => first | k_is | rfl)
    (case z_int => first | k_is | rfl)
    (case z_isinstance => first | k_is | rfl)
    (case z_len => first | k_is | rfl)
    (case z_list => first | k_is | rfl)
    (case z_max => first | k_is | rfl)
    (case z_min => first | k_is | rfl)
    (case z_range => first | k_is | rfl)
    (case z_repr => first | k_is | rfl)
    (case z_tuple => first | k_is | rfl)
    (case g_PRIMES => first | k_is | rfl)
    (case gl_PRIMES => first | k_is | rfl)
    (case gv_PRIMES => exact (.cons ⟨_, rfl⟩ (.cons ⟨_, rfl⟩ (.cons ⟨_, rfl⟩ (.cons ⟨_, rfl⟩ (.cons ⟨_, rfl⟩ (.cons ⟨_, rfl⟩ (.cons ⟨_, rfl⟩ .nil))))))))
    (case gs_PRIMES => first | decide | decide +kernel)
    (case nD => first | k_is | rfl)
    (case eN0 => first | k_is | rfl)
    (case eN1 => first | k_is | rfl)
    (case eN2 => first | k_is | rfl)
    (case iC0 => first | k_is | rfl)
    (case eFn => first | k_is | rfl)
    (case eCd => first | k_is | rfl)
    (case eCl => first | k_is | rfl)
    (case eFi => first | rfl | decide +kernel)
    (case eFf => first | rfl | decide +kernel)
    (case eCc => first | k_is | rfl)
    (case eClD => first | k_is | rfl)
    (case eSup => first | k_is | rfl)
    (case eTop => first | rfl | decide +kernel)
    (case eAny => first | k_is | rfl)
    (case eTI => first | k_is | rfl)
    (case hn => first | k_is | rfl)
    (case ht => first | k_is | rfl)
    (case xL0 => first | k_is | rfl)
    (case sa0 => first | k_is | rfl)
    (case ga0 => first | k_is | rfl)
    (case gg0 => first | k_is | rfl)
    (case nv0 => first | k_is | rfl)
    (case kC0 => first | k_is | rfl)
    (case eX0 => first | k_is | rfl)
    (case eV0 => first | k_is | rfl)
    (case tC0 => first | k_is | rfl)
    (case hD0 => first | k_is | rfl)
    (case mD0 => first | k_is | rfl)
    (case sp0 => first | k_is | rfl)
    (case hc0 => first | k_is | rfl)
    (case ha0 => first | k_is | rfl)
    (case hm0 => first | k_is | rfl)
    (case xm0 => first | k_is | rfl)
    (case kn0 => first | k_is | rfl)
    (case kl0x0 => first | k_is | rfl)
    (case kl1x0 => first | k_is | rfl)
    (case kl2x0 => first | k_is | rfl)
    (case iC1 => first | k_is | rfl)
    (case xL1 => first | k_is | rfl)
    (case sa1 => first | k_is | rfl)
    (case ga1 => first | k_is | rfl)
    (case gg1 => first | k_is | rfl)
    (case nv1 => first | k_is | rfl)
    (case kC1 => first | k_is | rfl)
    (case eX1 => first | k_is | rfl)
    (case eV1 => first | k_is | rfl)
    (case tC1 => first | k_is | rfl)
    (case hD1 => first | k_is | rfl)
    (case mD1 => first | k_is | rfl)
    (case sp1 => first | k_is | rfl)
    (case hc1 => first | k_is | rfl)
    (case ha1 => first | k_is | rfl)
    (case hm1 => first | k_is | rfl)
    (case xm1 => first | k_is | rfl)
    (case kn1 => first | k_is | rfl)
    (case kl0x1 => first | k_is | rfl)
    (case kl1x1 => first | k_is | rfl)
    (case kl2x1 => first | k_is | rfl)
    (case iC2 => first | k_is | rfl)
    (case xL2 => first | k_is | rfl)
    (case sa2 => first | k_is | rfl)
    (case ga2 => first | k_is | rfl)
    (case gg2 => first | k_is | rfl)
    (case nv2 => first | k_is | rfl)
    (case kC2 => first | k_is | rfl)
    (case eX2 => first | k_is | rfl)
    (case eV2 => first | k_is | rfl)
    (case tC2 => first | k_is | rfl)
    (case hD2 => first | k_is | rfl)
    (case mD2 => first | k_is | rfl)
    (case sp2 => first | k_is | rfl)
    (case hc2 => first | k_is | rfl)
    (case ha2 => first | k_is | rfl)
    (case hm2 => first | k_is | rfl)
    (case xm2 => first | k_is | rfl)
    (case kn2 => first | k_is | rfl)
    (case kl0x2 => first | k_is | rfl)
    (case kl1x2 => first | k_is | rfl)
    (case kl2x2 => first | k_is | rfl)

