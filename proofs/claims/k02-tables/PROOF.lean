import PyProof.Rows.All
import Wide.All
import OpenK.AllK
import Wide.FinOn
import PyProof.EqAt
import PyProof.EqKinds
import PyProof.TupleCall
import HandS.ForMost
import HandS.ForExc
import HandS.CallSlots
import HandS.New
import HandS.WideBits
import HandS.Gcd
import HandS.EndBits
import HandS.ExcInit
import HandS.ExcIs
import HandS.ExcSuper
import KE.KExcSuper
import KE.KExcMake
import KE.KExcIs
import PyProof.ReprRoads
import PyProof.CallFns
import HandS.Words
import HandS.TupMul
import HandS.IsInst
import HandS.TupAny
import HandS.Deep
import HandS.Style
import HandS.Conv
import KE.GoesMore
import KE.GoesZip
import KE.GoesEnum
import KE.GoesRev
import KE.DataMinMax
import HandS.NoneIn
import HandS.Rev
import KE.DatumOrd
import PySem.Challenge.RW_spacewebs_k02_tables_put_together
set_option Elab.async false
set_option linter.all false
set_option maxRecDepth 100000
set_option maxHeartbeats 4000000
set_option exponentiation.threshold 256
/-! Wb0: calls under no guard (no repr is under way): the promise FnG, its rule and its calls. -/
namespace Wb
open PySem PySem.Spec PyProof.Rows L2

abbrev Frag := PySem.W.Frag
/-- a def's promise, asked where no repr is under way -/
structure FnG (P : Program) (w : World) (K : Frag) (mg : Str → Option Value) (base : Heap) (k : Nat) (f : Addr) (fd : FuncData) (ps : List Str) (sp : Sp) : Prop where
  len : ∀ vs H Q E, sp vs H Q E → vs.length = ps.length
  run : ∀ (A : Around) (outer : List Env) (s : Shared) (H : Hp) (args : Args) (us : List Value) (vs : List V) (Q : VK) (E : XK), A.guards = some [] → Room k A →
    Env0 P w K mg base A outer s H → BindsTo s fd args (ps.zip us) → Vals vs us → sp vs H Q E →
    codeAny (model P w) A (.call (.ref f) args) (CR (L2.CX P w) outer P w H s Q E) s

theorem FnG.mono {P : Program} {w : World} {K : Frag} {mg : Str → Option Value} {base : Heap} {j k : Nat} {f : Addr} {fd : FuncData} {ps : List Str} {sp : Sp}
    (F : FnG P w K mg base j f fd ps sp) (h : j ≤ k) : FnG P w K mg base k f fd ps sp :=
  ⟨F.len, fun A outer s H args us vs Q E hg hr => F.run A outer s H args us vs Q E hg (hr.mono h)⟩
theorem FnG.imp {P : Program} {w : World} {K : Frag} {mg : Str → Option Value} {base : Heap} {k : Nat} {f : Addr} {fd : FuncData} {ps : List Str} {sp sp' : Sp}
    (F : FnG P w K mg base k f fd ps sp) (h : ∀ vs H Q E, sp' vs H Q E → sp vs H Q E) : FnG P w K mg base k f fd ps sp' :=
  ⟨fun vs H Q E q => F.len vs H Q E (h _ _ _ _ q), fun A outer s H args us vs Q E hg hr he hb hv hs => F.run A outer s H args us vs Q E hg hr he hb hv (h _ _ _ _ hs)⟩

/-- a def by its body -/
theorem fnG_of {P : Program} {w : World} {K : Frag} {mg : Str → Option Value} {base : Heap} {k : Nat} {f : Addr} {fd : FuncData} {x qual : Str} {st : Stmt} {N ps : List Str} {sp : Sp}
    (F : Fun K x qual st f fd) (S : FnScope N ps (defScope st)) (len : ∀ vs H Q E, sp vs H Q E → vs.length = ps.length)
    (hbody : ∀ (cdv : Value) (A : Around) (outer : List Env) (s : Shared) (H : Hp) (vs : List V) (Q : VK) (E : XK), A.guards = some [] →
      Room k (A.deeper (envOfC qual (defScope st) s.heap.objs.size f cdv)) → sp vs H Q E →
      ∃ t, PSs (cxOf (L2.CX P w) P w K mg base N qual (defScope st) f cdv A outer s H E) (defBody st) t ∧ t { nx := fun _ H' => Q .non H', rt := Q } (start N vs) H) :
    FnG P w K mg base (k + 1) f fd ps sp := by
  obtain ⟨oc, od, kV, doc, pm, an, cdv, ct, osl, rfl, lk, hcd⟩ := F.ex
  refine ⟨len, fun A outer s H args us vs Q E hgd hr e0 hb r hsp => ?_⟩
  have hl := len _ _ _ _ hsp
  have inHeap : K.In s.heap := e0.mod.kin.keeps fun b o e => (e0.bs b o e).1
  have lim : s.heap.NoLimit := e0.mod.nolimit.keeps fun b o e => (e0.bs b o e).1
  refine codeAny_call_function hr.depth (inHeap _ _ lk) rfl S.co S.gen rfl (PySem.W.codeRec_of inHeap hcd) (hb _ _ _ _ ?_)
  refine wpAny_newFunctionEnv_cells S.kind (fun ⟨n, v⟩ hy => ?_) fun env he s1 x => ?_
  · rcases S.par n (List.of_mem_zip hy).1 with q | q
    · exact .inl q
    · exact .inr ⟨q, PySem.W.cellsFrom_some _ _ _ (.inl q)⟩
  · subst he
    refine ⟨lim.keeps x.toInCall.keep, codeAny_func ?_⟩
    obtain ⟨t, ht, hq⟩ := hbody cdv A outer s H vs Q E hgd (hr.deeper _) hsp
    have I := inv_start (CX := L2.CX P w) (P := P) (w := w) (K := K) (mg := mg) (base := base) (N := N) (qual := qual) (f := f) (cd := cdv) (E := E) S hr.hd e0 hl r x
    refine wpAny_mono (ht.run [] s1 (start N vs) H _ I hq) (fun fl s' hs => ?_) fun e s' hs => hs
    have fin : ∀ {σ' : L2.St} {H' : Hp} {v : V} {u : Value}, Inv (cxOf (L2.CX P w) P w K mg base N qual (defScope st) f cdv A outer s H E) [] σ' H' s' → RelV v u → Q v H' →
        CE outer P w H s Q u s' := fun {σ' H' v u} J rv q => ⟨v, H', J.os, J.bare, J.base, J.hok, rv, q⟩
    cases fl with
    | ret u =>
      obtain ⟨v, σ', H', J, rv, q⟩ := hs
      exact fin J rv q
    | next =>
      obtain ⟨σ', H', J, q⟩ := hs
      exact fin (v := V.non) (u := Value.none) J rfl q
    | brk =>
      obtain ⟨_, _, _, q⟩ := hs
      exact q.elim
    | cont =>
      obtain ⟨_, _, _, q⟩ := hs
      exact q.elim

section
variable {X : Cx} {W : WX} {k : Nat} {f : Addr} {fd : FuncData} {ps ks : List Str} {sp : Sp} {x : Str} {p pos : Pos} {e : Expr} {es : List Expr} {kws : List Keyword} {t tk : TA}
  {g : List Value → List Value → List Value} {gV : List V → List V → List V}
/-- a call's reading: what is raised is wished for at the slots of the caller -/
def tCallG (sp : Sp) (W : WX) (t : TA) : TE := fun σ H Q => t σ H fun vs H1 => sp vs H1 Q fun cls d H' => W cls d σ H'
def tCallGK (sp : Sp) (gV : List V → List V → List V) (W : WX) (t tk : TA) : TE := fun σ H Q => t σ H fun vs H1 => tk σ H1 fun zs H2 => sp (gV vs zs) H2 Q fun cls d H' => W cls d σ H'

theorem run_fnG {pins : List (Addr × Obj)} {σ : L2.St} {H : Hp} {s : Shared} {Q : VK} {args : Args} {us : List Value} {vs : List V} (F : FnG X.prog X.w X.K X.mg X.base k f fd ps sp)
    (hgd : X.A.guards = some []) (hr : Room k X.A) (tk : Takes X W) (I : Inv X pins σ H s) (hb : BindsTo s fd args (ps.zip us)) (r : Vals vs us)
    (h : sp vs H Q fun cls d H' => W cls d σ H') :
    codeAny (model X.prog X.w) X.A (.call (.ref f) args) (fun r s' => match r with | .ok (.ret u) => EP X pins σ Q u s' | .ok _ => False | .error e => X.xe e s') s := by
  refine codeAny_mono (F.run X.A X.stack s H args us vs Q _ hgd hr I.env0 hb r h) fun r s' hq => ?_
  cases r with
  | error e => exact tk e s' (XE.of_call I (fun _ _ _ z => z) hq)
  | ok fl =>
    cases fl with
    | ret u => exact I.after hq
    | next => exact hq.elim
    | brk => exact hq.elim
    | cont => exact hq.elim
theorem call_fnG {pins : List (Addr × Obj)} {σ : L2.St} {H : Hp} {s : Shared} {Q : VK} {us ks' : List Value} {kn : List Str} {ws : List Value} {vs : List V} (F : FnG X.prog X.w X.K X.mg X.base k f fd ps sp)
    (hgd : X.A.guards = some []) (hr : Room k X.A) (tk : Takes X W) (I : Inv X pins σ H s) (hb : BindsTo s fd ⟨us, kn.zip ws⟩ (ps.zip ks')) (r : Vals vs ks')
    (h : sp vs H Q fun cls d H' => W cls d σ H') : wpAny (model X.prog X.w) X.A (call (.ref f) us (kn.zip ws)) (EP X pins σ Q) X.xe s := by
  refine wpAny_call (codeAny_mono (run_fnG F hgd hr tk I hb r h) fun r s' hq => ?_)
  cases r with
  | error e => exact hq
  | ok fl =>
    cases fl with
    | ret u => exact hq
    | next => exact hq.elim
    | brk => exact hq.elim
    | cont => exact hq.elim
/-- f(e, ..) -/
theorem pe_callG (F : FnG X.prog X.w X.K X.mg X.base k f fd ps sp) (hgd : X.A.guards = some []) (hr : Room k X.A) (tk : Takes X W) (hg : Gl X x) (hm : X.mg x = some (.ref f)) (hk : PySem.W.keepIn X.K (.ref f) = true)
    (hb : Binds X.K fd ps []) (ha : PA X (e :: es) t) (hdb : (x == ("__debug__" : Str)) = false := by decide) (he : starEach (e :: es) X.env = (false, eval e X.env) :: starEach es X.env := by rfl)
    (hpl : (backTo pos (starEach es X.env)).any (·.1) = false := by rfl) : PE X (.Call (.Name x p) (e :: es) [] pos) (tCallG sp W t) := by
  refine ⟨fun pins s σ H Q I h => ?_⟩
  refine wpAny_Call_Name_kw (ld_glob I hg hm ?_ hdb)
  refine PySem.W.callWith_K (h₀ := X.base) I.ok.mod.kin hk (thn (ha.run pos pins s σ H _ I h) fun us s1 ⟨vs, H1, I1, r, q⟩ => ⟨I1.kIn, ?_⟩) he hpl
  have hl : (us ++ ([] : List Value)).length = ps.length := by rw [List.append_nil, ← r.length]; exact F.len _ _ _ _ q
  have b := hb s1 us I1.kIn hl
  rw [List.append_nil] at b
  exact call_fnG (kn := []) (ws := []) F hgd hr tk I1 b r q
/-- f() -/
theorem pe_callG0 (F : FnG X.prog X.w X.K X.mg X.base k f fd ps sp) (hgd : X.A.guards = some []) (hr : Room k X.A) (tk : Takes X W) (hg : Gl X x) (hm : X.mg x = some (.ref f)) (hk : PySem.W.keepIn X.K (.ref f) = true)
    (hb : Binds X.K fd ps []) (hdb : (x == ("__debug__" : Str)) = false := by decide) : PE X (.Call (.Name x p) [] [] pos) (tCallG sp W tNil) := by
  refine ⟨fun pins s σ H Q I h => ?_⟩
  refine wpAny_Call_Name_kw (ld_glob I hg hm ?_ hdb)
  have hl : ([] ++ ([] : List Value)).length = ps.length := F.len _ _ _ _ h
  exact PySem.W.callWith_K0 I.kIn hk (call_fnG (us := []) (kn := []) (ws := []) F hgd hr tk I (hb s [] I.kIn hl) .nil h)
/-- f(e, .., k = v, ..) -/
theorem pe_callGK (F : FnG X.prog X.w X.K X.mg X.base k f fd ps sp) (hgd : X.A.guards = some []) (hr : Room k X.A) (tk' : Takes X W) (hg : Gl X x) (hm : X.mg x = some (.ref f)) (hk : PySem.W.keepIn X.K (.ref f) = true)
    (hb : KBinds X.K fd ps ks g gV) (ha : PA X (e :: es) t) (hkw : PK X kws tk) (hall : (backToKw pos (keywordEach kws X.env)).all (·.1.isSome) = true := by rfl)
    (hks : (backToKw pos (keywordEach kws X.env)).filterMap (·.1) = ks := by rfl) (hdb : (x == ("__debug__" : Str)) = false := by decide)
    (he : starEach (e :: es) X.env = (false, eval e X.env) :: starEach es X.env := by rfl)
    (hpl : ((backTo pos (starEach (e :: es) X.env)).any (·.1) || (backToKw pos (keywordEach kws X.env)).any (·.1.isNone)) = false := by rfl) :
    PE X (.Call (.Name x p) (e :: es) kws pos) (tCallGK sp gV W t tk) := by
  refine ⟨fun pins s σ H Q I h => ?_⟩
  refine wpAny_Call_Name_kw (ld_glob I hg hm ?_ hdb)
  refine PySem.W.callWith_KW (h₀ := X.base) I.ok.mod.kin hk hall (thn (ha.run pos pins s σ H _ I h) fun us s1 ⟨vs, H1, I1, r, q⟩ => ?_) hpl he
  refine thn (hkw.run pos pins s1 σ H1 _ I1 q) fun ws s2 ⟨zs, H2, I2, rz, q2⟩ => ⟨I2.kIn, ?_⟩
  rw [hks]
  have r2 := hb.rel r rz
  have hl : (g us ws).length = ps.length := by rw [← r2.length]; exact F.len _ _ _ _ q2
  exact call_fnG F hgd hr tk' I2 (hb.to s2 us ws I2.kIn hl) r2 q2
/-- f(k = v, ..) -/
theorem pe_callGK0 (F : FnG X.prog X.w X.K X.mg X.base k f fd ps sp) (hgd : X.A.guards = some []) (hr : Room k X.A) (tk' : Takes X W) (hg : Gl X x) (hm : X.mg x = some (.ref f)) (hk : PySem.W.keepIn X.K (.ref f) = true)
    (hb : KBinds X.K fd ps ks g gV) (hkw : PK X kws tk) (hall : (backToKw pos (keywordEach kws X.env)).all (·.1.isSome) = true := by rfl)
    (hks : (backToKw pos (keywordEach kws X.env)).filterMap (·.1) = ks := by rfl) (hdb : (x == ("__debug__" : Str)) = false := by decide)
    (hpl : (backToKw pos (keywordEach kws X.env)).any (·.1.isNone) = false := by rfl) :
    PE X (.Call (.Name x p) [] kws pos) (tCallGK sp gV W tNil tk) := by
  refine ⟨fun pins s σ H Q I h => ?_⟩
  refine wpAny_Call_Name_kw (ld_glob I hg hm ?_ hdb)
  refine PySem.W.callWith_KW0 (h₀ := X.base) I.ok.mod.kin hk hall (thn (hkw.run pos pins s σ H _ I h) fun ws s2 ⟨zs, H2, I2, rz, q2⟩ => ⟨I2.kIn, ?_⟩) hpl
  rw [hks]
  have r2 := hb.rel (vs := []) (us := []) .nil rz
  have hl : (g [] ws).length = ps.length := by rw [← r2.length]; exact F.len _ _ _ _ q2
  exact call_fnG F hgd hr tk' I2 (hb.to s2 [] ws I2.kIn hl) r2 q2
end
end Wb
/-! Wb1: the errors of the package: class WebsError(ValueError), its __init__ by super(), the classes under it: made, raised. -/
namespace Wb
open PySem PySem.Spec PyProof.Rows L2
open PySem.W (Looks InstAt)

/-! ### the text of __init__ -/
def iA (p1 p2 : Pos) : Arguments := { posonlyargs := [], args := [{ arg := "self", annotation := none, pos := p1 }, { arg := "value", annotation := none, pos := p2 }], vararg := none, kwonlyargs := [], kw_defaults := [], kwarg := none, defaults := [] }
def iB (q0 q1 q2 q3 q4 q5 q6 q7 q8 q9 : Pos) : List Stmt :=
  [.Expr (.Call (.Attribute (.Call (.Name "super" q0) [] [] q1) "__init__" q2) [.Constant (.str "spacewebs") 0 q3] [] q4) q5,
   .Assign [.Attribute (.Name "self" q6) "value" q7] (.Name "value" q8) q9]
def iS : Scope := { kind := .function, names := [(PySem.Str.ofString "self", .local), (PySem.Str.ofString "value", .local), (PySem.Str.ofString "__class__", .free), (PySem.Str.ofString "super", .globalImplicit)], isGenerator := false, isCoroutine := false, more := [] }

/-- WebsError at D, its __init__ at fI -/
structure ErrBase (P : Program) (K : Frag) (mg : Str → Option Value) (D fI : Addr) : Prop where
  fn : ∃ (oc : Value) (od : Option Addr) (doc pm : Value) (an : Option Addr) (ct kV : Value) (osl : Array (Option Value)) (p1 p2 q0 q1 q2 q3 q4 q5 q6 q7 q8 q9 : Pos) (cda cc : Addr)
      (ccl : Value) (cdd : Option Addr) (vs : Array Value) (ccs : Array (Option Value)) (file : Str) (tf : Tok) (cl : Value) (cld : Option Addr) (csl : Array (Option Value)),
    K.lookup fI = some ⟨oc, od, .func (PySem.W.ksFn "__init__" "WebsError.__init__" (iA p1 p2) (iB q0 q1 q2 q3 q4 q5 q6 q7 q8 q9) iS .none kV doc pm an (.ref cda) ct cc), osl⟩ ∧
    PySem.W.codeIn K (.ref cda) "WebsError.__init__" = true ∧ K.lookup cda = some ⟨ccl, cdd, .fields vs, ccs⟩ ∧ vs[2]? = some (.str file tf) ∧ ((P.main.file : Str) == file) = true ∧
    K.lookup cc = some ⟨cl, cld, .cell (some (.ref D)), csl⟩ ∧ (q2.endLine == q4.line) = true
  clD : (PySem.W.clsIn K D).isSome = true
  sup : PySem.W.nsIn K mainGlobals "super" = some none
  supg : mg "super" = none
  top : (P.main.scope.names.lookup ("super" : Str)).isSome = false
  any : PySem.W.nsIn K PySem.cStatics "thirdparty.any" = some none
  tI : PySem.W.typeIn K (.ref fI) = some (.type "function")
/-- a class of the package's errors, at C -/
structure ErrCls (K : Frag) (D fI C : Addr) : Prop where
  cls : ∃ nm q N bs bm sn sub ab col dd k0 k1 k2 k3 k5, K.lookup C = some (excClassObj nm q C N bs bm true sn sub ab col dd k0 k1 k2 k3 k5 "ValueError.__new__") ∧ PySem.HandSPX.refsVE bm = true
  sa : PySem.W.findIn K (.ref C) "__setattr__" = some (some (.builtin "object.__setattr__"))
  ga : PySem.W.findIn K (.ref C) "__getattribute__" = some (some (.builtin "BaseException.__getattribute__"))
  gg : PySem.W.findIn K (.ref C) "__getattr__" = some none
  noN : PySem.W.findIn K (.ref C) "value" = some none
  iC : PySem.W.findIn K (.ref C) "__init__" = some (some (.ref fI))
  kC : PySem.W.keepIn K (.ref C) = true
  exC : PySem.W.subIn K (.ref C) (.type "BaseException") = some true
  veC : PySem.W.subIn K (.ref C) (.type "ValueError") = some true
  tyC : PySem.W.typeIn K (.ref C) = some (.type "type")
  hdC : PySem.W.hasDictIn K C = true
  mroD : PySem.W.mroIn K C (.ref D) = some true
  sup : PySem.W.ks_superIn K C D "__init__" = some (some (.builtin "ValueError.__init__"))

theorem len1 (v : Value) : [v].length ≤ sizeLine := by
  rw [sizeLine_eq]
  exact (by decide : 1 ≤ 16777216)
abbrev exR (C t : Addr) (dv : Option Addr) : Obj := PySem.W.excRec (.ref C) t dv .none .none (.bool false)
/-- what __init__ leaves of a fresh exception at x -/
structure InitEnd (h h' : Heap) (x C dx t1 : Addr) (v : Value) : Prop where
  keep : ∀ b o, b ≠ x → h.get? b = some o → h'.get? b = some o
  obj : h'.get? x = some (exR C t1 (some dx))
  dbig : h.objs.size ≤ dx
  dne : dx ≠ x
  ns : h'.Ns1 dx (fun y => if y = "value" then some v else none)
/-- a made error -/
structure ErrMade (h h' : Heap) (e C d : Addr) (v : Value) : Prop where
  keep : ∀ b o, h.get? b = some o → h'.get? b = some o
  new : h.objs.size ≤ e
  obj : ∃ oe vs, h'.get? e = some oe ∧ oe.cls = .ref C ∧ oe.dict = some d ∧ oe.data = .fields vs ∧ vs[1]? = some .none
  dbig : h.objs.size ≤ d
  dne : d ≠ e
  ns : h'.Ns1 d (fun y => if y = "value" then some v else none)

section
variable {prog : Program} {w : World} {A : Around} {E : Value → Shared → Prop} {h : Heap} {g : Array GenState} {d : Drawn} {t : Nat} {os : OsState} {K : Frag} {mg : Str → Option Value} {C D fI : Addr}
/-- the wrapper that super().__init__ gives, called -/
theorem call_mw {nm q : Str} {N : Addr} {bs bm : List Value} {sn : List Str} {sub : List Value} {ab : Bool} {col : Option Bool} {dd : Option Addr} {k0 k1 k2 k3 k5 : Option Value} {u e t0 : Addr} {rest : List Value} {Q : Value → Shared → Prop}
    (hC : h.get? C = some (excClassObj nm q C N bs bm true sn sub ab col dd k0 k1 k2 k3 k5 "ValueError.__new__")) (he : h.get? e = some (exR C t0 none)) (hu : h.get? u = some (PySem.W.kxs_mw "ValueError.__init__" e))
    (hrest : rest.length ≤ sizeLine) (hq : ∀ h' t1, (∀ b o, b ≠ e → h.get? b = some o → h'.get? b = some o) → h'.get? e = some (exR C t1 none) → Q .none ⟨h', g, d, t, os⟩) :
    wpAny (model prog w) A (call (.ref u) rest) Q E ⟨h, g, d, t, os⟩ := by
  refine wpAny_call (codeAny_of_tree ?_)
  show wpAny _ A.in1 (callAny (.ref u) _) _ _ _
  simp only [callAny]
  refine wpAny_bind (wpAny_load hu ?_)
  have hm : (Value.type "method-wrapper" == Value.type "method" || Value.type "method-wrapper" == Value.type "builtin_function_or_method" || Value.type "method-wrapper" == Value.type "method-wrapper") = true := by decide
  simp only [PySem.W.kxs_mw, hm, if_true]
  refine PySem.W.KFB.if_so (by decide) (wpAny_bind (PySem.ESX.check_bound F.excBase_ValueError hC he rfl (wpAny_bind (wpAny_pure (wpAny_pure ?_)))))
  refine ⟨plainId_quiet F.excBase_ValueError.init.plain _, codeAny_builtin F.excBase_ValueError.initEntry ?_⟩
  exact PySem.W.exc_init_tree he hrest fun h' k e' _ => hq h' _ k e'

theorem super_call_eq {q0 q1 q2 q3 q4 : Pos} {env : Env} (hl : (q2.endLine == q4.line) = true) :
    eval (.Call (.Attribute (.Call (.Name "super" q0) [] [] q1) "__init__" q2) [.Constant (.str "spacewebs") 0 q3] [] q4) env = (do
      let ov ← attributeBase (.Call (.Name "super" q0) [] [] q1) "__init__" env (eval (.Call (.Name "super" q0) [] [] q1) env)
      standAt q2.atName
      let (f, first) ← holding [ov] (getMethod ov "__init__" (do return (← importBound (.Call (.Name "super" q0) [] [] q1) env).getD true))
      callWith q4 f first (backTo q4 (starEach [.Constant (.str "spacewebs") 0 q3] env)) []) := by
  show (do
      let ov ← attributeBase (.Call (.Name "super" q0) [] [] q1) "__init__" env (eval (.Call (.Name "super" q0) [] [] q1) env)
      standAt q2.atName
      methodCall (.Call (.Name "super" q0) [] [] q1) "__init__" q2 q4 env ov 1 (backTo q4 (starEach [.Constant (.str "spacewebs") 0 q3] env)) []) = _
  unfold methodCall methodCallPos
  rw [hl, Bool.or_true, if_pos rfl]
  rfl

theorem init_run {s : Shared} {R : Result → Shared → Prop} {mb : Str → Option Value} (B : ErrBase prog K mg D fI) (T : ErrCls K D fI C) {x t0 : Addr} {v : Value} (X : K.In s.heap) (hlim : s.heap.NoLimit)
    (hG : s.heap.Ns mainGlobals mg) (hb : s.heap.Ns builtinsNs mb) (hbb : ∀ x : Str, x ≠ "__name__" → mb x = bootBuiltins x)
    (hx : s.heap.get? x = some (exR C t0 none)) (hnx : K.lookup x = none) (hng : x ≠ mainGlobals) (hroom : A.depth < recursionLimit)
    (hq : ∀ h' tk dx t1, InitEnd s.heap h' x C dx t1 v → R (.ok (.ret .none)) { s with heap := h', toks := tk }) :
    codeAny (model prog w) A (.call (.ref fI) ⟨[.ref x, v], []⟩) R s := by
  obtain ⟨oc, od, doc, pm, an, ct, kV, osl, p1, p2, q0, q1, q2, q3, q4, q5, q6, q7, q8, q9, cda, cc, ccl, cdd, vs, ccs, file, tf, cl, cld, csl, lk, hcd, lcode, hvs, hfile, lcell, hline⟩ := B.fn
  obtain ⟨nm, q, N, bs, bm, sn, sub, ab, col, dd, k0, k1, k2, k3, k5, hC, hbm⟩ := T.cls
  have hcl : PySem.W.clsIn K C = some { name := nm, bases := bs, mro := .ref C :: bm, ns := N, qualname := q, hasDict := true, slotNames := sn, subclasses := sub, abstract := ab, collection := col, hasDel := false } := by
    unfold PySem.W.clsIn; rw [hC] <;> rfl
  obtain ⟨hp, g, d, t, os⟩ := s
  have hG : hp.Ns mainGlobals mg := hG
  have hb : hp.Ns builtinsNs mb := hb
  have hx : hp.get? x = some (exR C t0 none) := hx
  have X : K.In hp := X
  refine PySem.ks_codeAny_call_defAt (fd := PySem.W.ksFn "__init__" "WebsError.__init__" (iA p1 p2) (iB q0 q1 q2 q3 q4 q5 q6 q7 q8 q9) iS .none kV doc pm an (.ref cda) ct cc)
    (binds := [("self", .ref x), ("value", v)]) hroom (X _ _ lk) rfl hlim (PySem.W.codeRec_of X hcd) rfl (BindsTo.of_eq (by first | rfl | with_unfolding_all rfl)) ?hcell ?hloc (fun h₁ hn k => ?_)
  case hcell =>
    show ∀ x ∈ iS.names, x.2 ≠ .cell
    decide +kernel
  case hloc =>
    intro y hy
    show iS.names.lookup y.1 = some .local
    rcases List.mem_cons.mp hy with rfl | hy
    · exact (by decide +kernel : iS.names.lookup ("self" : Str) = some .local)
    · rcases List.mem_cons.mp hy with rfl | hy
      · exact (by decide +kernel : iS.names.lookup ("value" : Str) = some .local)
      · cases hy
  have k : ∀ b o, hp.get? b = some o → h₁.get? b = some o := k
  have X₁ : K.In h₁ := X.keeps k
  have hx₁ := k _ _ hx
  have hC₁ := X₁ _ _ hC
  obtain ⟨cdD, hD⟩ := Option.isSome_iff_exists.mp B.clD
  obtain ⟨oD, hoD, hoDd⟩ : ∃ oD, h₁.get? D = some oD ∧ oD.data = .cls cdD := by
    unfold PySem.W.clsIn at hD
    split at hD
    · rename_i c d' cd' sl ho
      cases hD
      exact ⟨_, X₁ _ _ ho, rfl⟩
    · cases hD
  have I₁ : InstAt h₁ x (exR C t0 none) C none := ⟨hx₁, rfl, rfl, trivial⟩
  have hn : h₁.Ns hp.objs.size (fun y => [(("value" : Str), v), (("self" : Str), Value.ref x)].lookup y) := hn
  obtain ⟨env, henv⟩ : ∃ env : Env, env = PySem.W.ksEnv "WebsError.__init__" iS hp.objs.size fI (.ref cda) cc := ⟨_, rfl⟩
  have eL : env.locals = hp.objs.size := by rw [henv]
  have eks : env.kindOf "super" = some .globalImplicit := by rw [henv]; exact (by decide +kernel : iS.names.lookup ("super" : Str) = some .globalImplicit)
  have ekc : env.kindOf "__class__" = some .free := by rw [henv]; exact (by decide +kernel : iS.names.lookup ("__class__" : Str) = some .free)
  have ekf : env.kindOf "self" = some .local := by rw [henv]; exact (by decide +kernel : iS.names.lookup ("self" : Str) = some .local)
  have ekv : env.kindOf "value" = some .local := by rw [henv]; exact (by decide +kernel : iS.names.lookup ("value" : Str) = some .local)
  have efn : env.scope.kind = .function := by rw [henv]; rfl
  have eg : env.globals = mainGlobals := by rw [henv]
  have eb : env.builtins = builtinsNs := by rw [henv]
  have ec : env.cells.lookup ("__class__" : Str) = some cc := by rw [henv]; simp [List.lookup]
  show PySem.wpAt (model prog w) (A.deeper (PySem.W.ksEnv "WebsError.__init__" iS hp.objs.size fI (.ref cda) cc)) (.func (iB q0 q1 q2 q3 q4 q5 q6 q7 q8 q9) (PySem.W.ksEnv "WebsError.__init__" iS hp.objs.size fI (.ref cda) cc))
    (execs (_ :: _) (PySem.W.ksEnv "WebsError.__init__" iS hp.objs.size fI (.ref cda) cc)) _ (fun e s' => wpAny (model prog w) (A.deeper (PySem.W.ksEnv "WebsError.__init__" iS hp.objs.size fI (.ref cda) cc)) (leaving (PySem.W.ksEnv "WebsError.__init__" iS hp.objs.size fI (.ref cda) cc) e) _ _ _)
    ⟨h₁, g, d, _, os⟩
  have ef : env.func = some fI := by rw [henv]
  have eco : env.code = .ref cda := by rw [henv]
  rw [← henv]
  -- super().__init__('spacewebs')
  refine PySem.ks_wpAt_execs_cons (PySem.ks_wpAt_Expr_any (PySem.ks_wpAt_MethodCall ?_ (super_call_eq hline)) ?_ ?_)
  case refine_2 => simp [interactive, efn]
  case refine_3 => first | rfl | with_unfolding_all rfl
  refine PySem.ks_wpAt_super_base eks ekc (by decide) ef (X₁ _ _ lk) rfl rfl eco (X₁ _ _ lcode) rfl hvs hfile B.top ?_
  refine PySem.W.ks_loadName_global efn eks (Calls.loadGlobal_builtin (by rw [eg]; exact hG.keeps k) B.supg (by rw [eb]; exact hb.keeps k) ((hbb _ (by decide +kernel)).trans (by decide +kernel : bootBuiltins "super" = some (.type "super"))) ⟨rfl, ?_⟩)
  refine wpAny_loadName_free efn ekc ec ⟨_, X₁ _ _ lcell, rfl⟩ ?_
  refine wpAny_loadName_local efn ekf (by rw [eL]; exact hn) (show List.lookup ("self" : Str) [(("value" : Str), v), (("self" : Str), Value.ref x)] = some (Value.ref x) by first | rfl | decide +kernel) ?_
  refine PySem.ks_wpAny_isType_cls hoD hoDd ⟨rfl, ?_⟩
  refine PySem.ks_wpAny_call_super hoD hoDd hx₁ rfl (fun c e => by cases e) (PySem.W.looks_mroIn X₁ T.mroD) (fun h2 so2 kk2 => ?_)
  have X2 := X₁.keeps kk2
  have hsup : PySem.W.alongIn K "__init__" (((Value.ref C :: bm).dropWhile (· != .ref D)).drop 1) = some (some (.builtin "ValueError.__init__")) := by
    have z := T.sup
    unfold PySem.W.ks_superIn at z
    rw [hcl] at z
    exact z
  have hI2 : Looks (model prog w) h2 (isInstance (.ref x) (.type "ValueError")) true := (show InstAt h2 x (exR C t0 none) C none from ⟨kk2 _ _ hx₁, rfl, rfl, trivial⟩).type.andThen (PySem.W.looks_subIn X2 T.veC)
  refine PySem.W.kxs_getMethod PySem.W.kxs_ValueError so2 (PySem.W.looks_opaque X2 B.any) (fun A Q E s k q => wpAny_bind ((PySem.W.looks_clsIn X2 hcl) A _ E s k (wpAny_pure q))) rfl X2 hsup hI2 (PySem.W.ks_ne X₁ I₁ hcl) (by decide) ?_
  have hmw : (h2.push (PySem.W.kxs_mw "ValueError.__init__" x)).get? h2.objs.size = some (PySem.W.kxs_mw "ValueError.__init__" x) := Heap.get?_push_at rfl rfl
  have k3' : ∀ b o, h2.get? b = some o → (h2.push (PySem.W.kxs_mw "ValueError.__init__" x)).get? b = some o := fun b o e => Heap.get?_push_of_some _ e
  refine PySem.W.kxs_callWith (i := "ValueError.__init__") (x := x) (by first | rfl | decide) (Calls.evalArgs_plain (Calls.spliced_cons (Calls.Constant_str (k := 0) (pos := q3) (Calls.spliced_nil ⟨hmw, ?_⟩))))
  refine call_mw (X2.keeps k3' _ _ hC) (k3' _ _ (kk2 _ _ hx₁)) hmw (len1 _) (fun h4 t1 k4 e4 => ?_)
  have kk4 : ∀ b o, b ≠ x → h₁.get? b = some o → h4.get? b = some o := fun b o hb e => k4 b o hb (k3' _ _ (kk2 _ _ e))
  have hxL : hp.objs.size ≠ x := Nat.ne_of_gt (Heap.lt_size hx)
  have neK : ∀ b o, K.lookup b = some o → b ≠ x := fun b o e z => by rw [z, hnx] at e; cases e
  have X4 : K.In h4 := fun b o e => kk4 b o (neK b o e) (X₁ b o e)
  have hn4 : h4.Ns hp.objs.size (fun y => [(("value" : Str), v), (("self" : Str), Value.ref x)].lookup y) := by
    obtain ⟨oL, es, ep, hL, r⟩ := hn
    exact ⟨oL, es, ep, kk4 _ _ hxL hL, r⟩
  -- self.value = value
  refine PySem.ks_wpAt_execs_cons (wpAt_of_wpAny (plainObj_wpAny_Assign_Attribute ?_ ?_))
  case refine_2 => first | rfl | with_unfolding_all rfl
  refine wpAny_Name (wpAny_loadName_local efn ekv (by rw [eL]; exact hn4) (show _ = some v by simp [List.lookup]) ?_) (by decide)
  refine wpAny_Name (wpAny_loadName_local efn ekf (by rw [eL]; exact hn4) (show List.lookup ("self" : Str) [(("value" : Str), v), (("self" : Str), Value.ref x)] = some (Value.ref x) by first | rfl | decide +kernel) ?_) (by decide)
  refine PySem.W.set_plain X4 (ox := exR C t1 none) (od := none) ⟨e4, rfl, rfl, trivial⟩ T.sa ?_
  refine PySem.HandSPX.exc_osa X4 e4 hcl (show PySem.HandSPX.refsVE (.ref C :: bm) = true from hbm) rfl T.noN (fun h5 tk5 dx k5 dn dne hx5 hn5 => ?_)
  refine wpAt_of_wpAny (wpAny_execs_nil ?_)
  refine hq h5 tk5 dx t1 ⟨fun b o hb e => k5 b o hb (kk4 b o hb (k b o e)), hx5, ?_, dne, hn5⟩
  have z1 : hp.objs.size < h₁.objs.size := hn.lt
  obtain ⟨oL, es, ep, hL, r⟩ := hn4
  exact Nat.le_trans (Nat.le_of_lt (Heap.lt_size hL)) dn

theorem err_made {s : Shared} {R : Result → Shared → Prop} {mb : Str → Option Value} (B : ErrBase prog K mg D fI) (T : ErrCls K D fI C) {v : Value} (X : K.In s.heap) (hlim : s.heap.NoLimit)
    (hG : s.heap.Ns mainGlobals mg) (hb : s.heap.Ns builtinsNs mb) (hbb : ∀ x : Str, x ≠ "__name__" → mb x = bootBuiltins x) (hroom : A.depth + 1 < recursionLimit)
    (hq : ∀ h' tk e d, ErrMade s.heap h' e C d v → R (.ok (.ret (.ref e))) { s with heap := h', toks := tk }) : codeAny (model prog w) A (.call (.ref C) ⟨[v], []⟩) R s := by
  obtain ⟨nm, q, N, bs, bm, sn, sub, ab, col, dd, k0, k1, k2, k3, k5, hC, hbm⟩ := T.cls
  obtain ⟨hp, g, dr, tk, os⟩ := s
  have hG : hp.Ns mainGlobals mg := hG
  have k : ∀ b o, hp.get? b = some o → ((hp.push (PySem.W.kdv_tup [v])).push (PySem.HandSPX.excO C hp.objs.size)).get? b = some o := fun b o e => Heap.get?_push_of_some _ (Heap.get?_push_of_some _ e)
  have hat : ((hp.push (PySem.W.kdv_tup [v])).push (PySem.HandSPX.excO C hp.objs.size)).get? (hp.objs.size + 1) = some (exR C hp.objs.size none) := by heap_get
  have hnx : K.lookup (hp.objs.size + 1) = none := by
    cases e : K.lookup (hp.objs.size + 1) with
    | none => rfl
    | some o => exact absurd (Nat.lt_of_succ_lt (Heap.lt_size (show hp.get? (hp.objs.size + 1) = some o from X _ _ e))) (Nat.lt_irrefl _)
  have hng : hp.objs.size + 1 ≠ mainGlobals := fun z => by
    obtain ⟨o, _, _, e, _⟩ := hG
    rw [← z] at e
    exact absurd (Nat.lt_of_succ_lt (Heap.lt_size e)) (Nat.lt_irrefl _)
  have nsK : ∀ {b : Addr} {m : Str → Option Value}, hp.Ns b m → ((hp.push (PySem.W.kdv_tup [v])).push (PySem.HandSPX.excO C hp.objs.size)).Ns b m := fun {b m} z => z.keeps k
  refine PySem.HandSPX.call_own F.excBase_ValueError (fun Y => PySem.HandSPX.refsVE_contains Y bm hbm) (X _ _ hC) (PySem.W.looks_findIn X T.iC) (fun self => PySem.W.bind_fn X self B.tI) (len1 v) ?_
  refine init_run (s := ⟨(hp.push (PySem.W.kdv_tup [v])).push (PySem.HandSPX.excO C hp.objs.size), g, dr, tk, os⟩) B T (X.keeps k) (hlim.keeps k) (nsK hG) (nsK hb) hbb hat hnx hng ?_ fun h' tk' dx t1 z => ?_
  · exact hroom
  · have old : ∀ b o, hp.get? b = some o → h'.get? b = some o := fun b o e => z.keep b o (Nat.ne_of_lt (Nat.lt_succ_of_lt (Heap.lt_size e))) (k b o e)
    have z2 : hp.objs.size + 1 + 1 ≤ dx := by
      have y := z.dbig
      first
        | (simpa only [Heap.size_push] using y)
        | (rw [Heap.size_push, Heap.size_push] at y; exact y)
    refine ⟨rfl, hq h' tk' (hp.objs.size + 1) dx ⟨old, Nat.le_succ _, ⟨_, _, z.obj, rfl, rfl, rfl, rfl⟩, ?_, z.dne, z.ns⟩⟩
    show hp.objs.size ≤ dx
    omega
end
theorem relO_value {v : V} {u : Value} (r : RelV v u) (f : Str) : RelO (List.lookup f [(("value" : Str), v)]) (if f = "value" then some u else none) := by
  by_cases e : f = "value"
  · subst e
    rw [if_pos rfl]
    have z : List.lookup ("value" : Str) [(("value" : Str), v)] = some v := by simp [List.lookup]
    rw [z]
    exact r
  · have z : List.lookup f [(("value" : Str), v)] = none := by
      have e2 : (f == ("value" : Str)) = false := by simpa using e
      simp [List.lookup, e2]
    rw [if_neg e, z]
    trivial
section
variable {X : Cx} {C D fI : Addr} {W : WX}
/-- C(e) of an error's class -/
def tMkE (C : Addr) (ta : TA) : L2.St → Hp → XK → Prop := fun σ H Q => ta σ H fun vs H1 => ∃ v, vs = [v] ∧ ∀ d, H1 d = none → Q (.ref C) (some d) (upd H1 d (.xd [(("value" : Str), v)]))
theorem pmk_err {x : Str} {a : Expr} {ta : TA} {p pos : Pos} {k : Nat} (B : ErrBase X.prog X.K X.mg D fI) (T : ErrCls X.K D fI C) (hr : Room k X.A) (gC : X.mg x = some (.ref C)) (ha : PA X [a] ta) (hg : Gl X x)
    (hdb : (x == ("__debug__" : Str)) = false := by decide) (he : starEach (a :: []) X.env = (false, eval a X.env) :: starEach [] X.env := by rfl) (hpl : (backTo pos (starEach [] X.env)).any (·.1) = false := by rfl) :
    PMk X (.Call (.Name x p) [a] [] pos) (tMkE C ta) := by
  intro pins s σ H Q I h
  refine wpAny_Call_Name_kw (ld_glob I hg gC ?_ hdb)
  refine PySem.W.callWith_K (h₀ := X.base) I.ok.mod.kin T.kC (thn (ha.run pos pins s σ H _ I h) fun us s1 hh => ?_) he hpl
  obtain ⟨vs, H1, I1, r1, v, rfl, q1⟩ := hh
  refine ⟨I1.kIn, ?_⟩
  cases r1 with
  | @cons _ v' _ us' rv rn =>
    cases rn
    show wpAny _ _ (call (.ref C) [v']) _ _ _
    have hlim := I1.nolimit
    have hdp := hr.dp
    obtain ⟨mb, hmb, hbb⟩ := I1.mod.blt
    have hbk := I1.bk
    obtain ⟨hp, g, dr, tk, os⟩ := s1
    refine wpAny_call (err_made B T I1.kIn hlim (I1.mod.glob.keeps hbk) (hmb.keeps hbk) hbb (by omega) fun h' tk' e d M => ?_)
    show MkP X pins σ Q (.ref e) ⟨h', g, dr, tk', os⟩
    obtain ⟨oe, fv, hoe, hc, hd, hdat, h1⟩ := M.obj
    have hns := M.ns
    obtain ⟨Gr, g1, g2⟩ := restrict h' fun b => decide (b ≠ e)
    have gk : ∀ b, b ≠ e → Gr.get? b = h'.get? b := fun b hb => g1 b (decide_eq_true hb)
    have ge : Gr.get? e = none := g2 e (by simp)
    have old : ∀ b o, hp.get? b = some o → Gr.get? b = some o := fun b o q => (gk b (Nat.ne_of_lt (Nat.lt_of_lt_of_le (Heap.lt_size q) M.new))).trans (M.keep b o q)
    have ob : ObjOk X.prog X.w (upd H1 d (.xd [(("value" : Str), v)])) Gr d (.xd [(("value" : Str), v)]) :=
      ⟨_, hns.at (fun o q => (gk d M.dne).trans q), fun f => relO_value rv f⟩
    have J : Inv X pins σ (upd H1 d (.xd [(("value" : Str), v)])) ⟨Gr, g, dr, tk', os⟩ := I1.laid (t' := tk') old M.dbig ob
    refine ⟨e, oe, fv, ⟨Gr, g, dr, tk', os⟩, _, .ref C, some d, rfl, J, fun b o q => ?_, ge, hoe, ⟨hc, hd⟩, hdat, h1, ?_, rfl, I1.bare, raises_own T.exC T.tyC, q1 d (I1.hok.fresh M.dbig)⟩
    · by_cases hb : b = e
      · have q' : Gr.get? b = some o := q
        rw [hb, ge] at q'
        cases q'
      · exact (gk b hb).symm.trans q
    · rw [upd_ne (Ne.symm M.dne)]
      exact I1.hok.fresh M.new
/-- raise C(e) -/
theorem ps_raiseE {x : Str} {a : Expr} {ta : TA} {p pos pos2 : Pos} {k : Nat} (hc : X.calm = true) (B : ErrBase X.prog X.K X.mg D fI) (T : ErrCls X.K D fI C) (hr : Room k X.A) (tk : Takes X W) (gC : X.mg x = some (.ref C)) (ha : PA X [a] ta) (hg : Gl X x)
    (hdb : (x == ("__debug__" : Str)) = false := by decide) (he : starEach (a :: []) X.env = (false, eval a X.env) :: starEach [] X.env := by rfl) (hpl : (backTo pos (starEach [] X.env)).any (·.1) = false := by rfl) :
    PS X (.Raise (some (.Call (.Name x p) [a] [] pos)) none pos2) (fun _ σ H => tMkE C ta σ H fun cls d H' => W cls d σ H') :=
  ps_raise hc tk (pmk_err B T hr gC ha hg hdb he hpl)
end
end Wb
/-! Wb2: an error that is caught and kept: tracked; isinstance and .value of it; repr of data. -/
namespace Wb
open PySem PySem.Spec PyProof.Rows L2

/-- at a: a caught error of the class at C, its own dict at d -/
def ExcAt (C d a : Addr) : HO := .ext fun h => ∃ (oe : Obj) (vs : Array Value), h.get? a = some oe ∧ oe.cls = .ref C ∧ oe.dict = some d ∧ oe.data = .fields vs
theorem excAt_ok {P : Program} {w : World} {H : Hp} {h : Heap} {C d a : Addr} {oe : Obj} {vs : Array Value} (e : h.get? a = some oe) (hc : oe.cls = .ref C) (hd : oe.dict = some d) (hv : oe.data = .fields vs) : ObjOk P w H h a (ExcAt C d a) :=
  ⟨⟨oe, vs, e, hc, hd, hv⟩, ⟨oe, e⟩, fun h1 h2 ⟨o, ws, e1, q1, q2, q3⟩ st => ⟨o, ws, st _ e1, q1, q2, q3⟩⟩
section
variable {X : Cx} {pins : List (Addr × Obj)} {σ : L2.St} {H : Hp} {s : Shared}
/-- an object of ours that is not tracked as yet is tracked -/
theorem Inv.trackE {C d a : Addr} {oe : Obj} {vs : Array Value} (I : Inv X pins σ H s) (e : s.heap.get? a = some oe) (hc : oe.cls = .ref C) (hd : oe.dict = some d) (hv : oe.data = .fields vs) (na : H a = none) (nL : a ≠ X.env.locals)
    (n0 : X.s_0.heap.get? a = none) (np : ∀ p ∈ X.pn ++ pins, p.1 ≠ a) : Inv X pins σ (upd H a (ExcAt C d a)) s := by
  have ne0 : ∀ b o, X.s_0.heap.get? b = some o → b ≠ a := fun b o q z => by rw [z, n0] at q; cases q
  have neH : ∀ {b : Addr} {u : HO}, H b = some u → b ≠ a := fun {b u} q => ne_of_none q na
  refine ⟨I.ok, I.os, I.bare, ⟨I.base.keep, I.base.slot, fun b o q n hx => ?_, I.base.there, fun b xs q => ?_, fun b o u q => ?_, fun b ps q => ?_⟩, I.loc, I.cell, ?_, fun x c q => ?_, fun p hp => ?_, fun b u q => ?_, I.len⟩
  · rw [upd_ne (ne0 b o q)]
    exact I.base.free b o q n hx
  · have z := I.base.tups b xs q
    rw [upd_ne (neH z)]
    exact z
  · have z := I.base.frzs b o u q
    rw [upd_ne (neH z)]
    exact z
  · obtain ⟨m, z⟩ := I.base.tbls b ps q
    exact ⟨m, by rw [upd_ne (neH z)]; exact z⟩
  · rw [upd_ne (Ne.symm nL)]
    exact I.free
  · have nc : c ≠ a := fun z => by
      obtain ⟨v, o, ho, hcd⟩ := I.cell x c q
      rw [z, e] at ho
      cases ho
      rw [hv] at hcd
      cases hcd
    rw [upd_ne nc]
    exact I.freeC x c q
  · obtain ⟨q1, q2, q3⟩ := I.pin p hp
    exact ⟨q1, by rw [upd_ne (np p hp)]; exact q2, q3⟩
  · by_cases hb : b = a
    · subst hb
      rw [upd_same] at q
      cases q
      exact excAt_ok e hc hd hv
    · rw [upd_ne hb] at q
      exact (I.hok b u q).stay (fun c v _ z => z) (fun c z => by rw [upd_ne (neH z)]; exact z) fun c xs z => by rw [upd_ne (neH z)]; exact z
end

/-- what the clause 'except x as n: y = n' wishes: n in slot i, y in slot j -/
def wKeep (K : Frag) (c : Value) (i j : Nat) (Wout : WX) (D : Ends) : WX := fun cls d σ H =>
  ∃ b, PySem.W.exmOne K cls c = some b ∧
    (b = true → ∃ C dd, cls = .ref C ∧ d = some dd ∧ ∀ a, H a = none → D.nx (((σ.set i (some (.ref a))).set j (some (.ref a))).set i none) (upd H a (ExcAt C dd a))) ∧ (b = false → Wout cls d σ H)
section
variable {X : Cx} {x n y : Str} {c : Value} {i j : Nat} {body : List Stmt} {np pos pos' p1 p2 p3 : Pos} {tb : WX → TS} {Wout : WX}
theorem ps_try_keep (hs : X.stack = X.env :: X.outer) (hf : X.env.frame = some X.env.locals) (hex : X.ex = []) (hN : X.N.Nodup) (hi : X.N[i]? = some n) (hln : X.env.kindOf n = some .local) (hj : X.N[j]? = some y) (hly : X.env.kindOf y = some .local)
    (hij : i ≠ j) (hnd : (n == ("__debug__" : Str)) = false) (hnc : (n == ("__classdict__" : Str)) = false) (hc : Names X x c) (tk : Takes X Wout)
    (hb : ∀ (W : WX) (pn : List (Addr × Obj)) (xe : Value → Shared → Prop), Takes (X.tr pn xe) W → PassesOwn (model X.prog X.w) X.A X.env xe → PSs (X.tr pn xe) body (tb W))
    (hsw : swapsWith (.Name n p2) (some (.Name y p1)) p3.line X.env = pure false := by rfl) :
    PS X (.Try body [.ExceptHandler (some (.Name x np)) (some n) [.Assign [.Name y p1] (.Name n p2) p3] pos'] [] [] pos) (fun D σ H => tb (wKeep X.K c i j Wout D) D σ H) := by
  refine ⟨fun pins s σ H D I h => ?_⟩
  have ok := I.ok
  have hfr : X.A.frames = some (X.env :: X.outer) := by rw [ok.frames, hs]
  refine wpAny_Try_except ?_
  refine wpAny_mono ((hb (wKeep X.K c i j Wout D) (X.pn ++ pins) (fun e s₁ => wpAny (model X.prog X.w) X.A (noteFrame e X.env) (fun _ s₂ => wpAny (model X.prog X.w) X.A (setFlight e none) (fun _ s₃ =>
    wpAny (model X.prog X.w) X.A (handleBy e X.env [.ExceptHandler (some (.Name x np)) (some n) [.Assign [.Name y p1] (.Name n p2) p3] pos']) (SP X pins D) X.xe s₃) X.xe s₂) X.xe s₁) (fun u s' xx => ?_) PassesOwn.looking).run [] s σ H D (I.toTry _) h) (fun f s1 hsp => ?_) (fun e s1 he => he)
  · obtain ⟨a, B, sI, pins', σ', H', cls, d, rfl, J', nb, up, sky, na, os, ag, b, hb1, hyes, hno⟩ := xx
    have J : Inv X pins σ' H' sI := J'.ofTry ok
    have sky' : Sky B (X.env :: X.outer) a (Zc cls d) X.env.locals s'.heap := by rw [← hs]; exact sky
    show wpAny (model X.prog X.w) X.A (noteFrame (.ref a) X.env) _ _ _
    refine Sky.land Zc.steady hfr hf sky' fun h3 fl3 up3 => ?_
    have J3 : Inv X pins σ' H' { s' with heap := h3 } := J.landed nb fl3.1 (up.trans up3) os ag
    obtain ⟨oe3, vs3, he3, hz3, hd3⟩ := fl3.there
    have Ba : B.get? a = none := fl3.2.1
    have nfr : a ∉ frs (X.env :: X.outer) := fun hm => by
      obtain ⟨_, o', e', hnf⟩ := fl3.2.2.1.mem hm
      rw [he3] at e'
      cases e'
      exact hnf _ hd3
    have nL : a ≠ X.env.locals := fun z => nfr (List.mem_filterMap.mpr ⟨X.env, List.mem_cons_self, by rw [hf, z]⟩)
    have nF : a ∉ X.fs := fun hm => by
      obtain ⟨e, he, q⟩ := List.mem_filterMap.mp hm
      exact nfr (List.mem_filterMap.mpr ⟨e, List.mem_cons_of_mem _ he, q⟩)
    have inB : ∀ b o, sI.heap.get? b = some o → b ∉ frs X.stack → b ≠ a := fun b o q nf z => by
      have := nb b o q nf
      rw [z, Ba] at this
      cases this
    have n0 : X.s_0.heap.get? a = none := by
      cases q : X.s_0.heap.get? a with
      | none => rfl
      | some o =>
        obtain ⟨o', q'⟩ := J.base.there a o q (by rw [hex]; exact List.not_mem_nil)
        exact absurd rfl (inB a o' q' (by rw [hs]; exact nfr))
    have np' : ∀ p ∈ X.pn ++ pins, p.1 ≠ a := fun p hp => by
      obtain ⟨q1, q2, q3, q4, q5⟩ := J.pin p hp
      refine inB p.1 p.2 q1 fun hm => ?_
      rcases List.mem_cons.mp (J.stkSub p.1 hm) with z | z
      · exact q3 z
      · exact q4 z
    have S3 := J3.suite he3 hd3 na nL nF
    refine wpAny_handleBy_cons (codeAny_handlers_test ?_) (by intro q; cases q)
    have LT : PySem.W.Looks (model X.prog X.w) h3 (typeOf (.ref a)) cls := fun A Q E s k q => wpAny_typeOf_ref (k _ _ he3) (by rw [hz3.1]; exact q)
    have LM := PySem.W.exm_one (M := model X.prog X.w) (J3.kIn) LT hb1
    have test : ∀ {Q : Value → Shared → Prop} {E : Value → Shared → Prop}, Q c { s' with heap := h3 } → wpAny (model X.prog X.w) (X.A.mark (some (.ref a))) (eval (.Name x np) X.env) Q E { s' with heap := h3 } := fun {Q E} q => by
      obtain ⟨hg, hdbg, hm | ⟨hm, hv, hnn⟩⟩ := hc
      · exact ld_glob (X := X.suite a ((a, oe3) :: (X.pn ++ pins))) S3 hg hm q hdbg
      · exact ld_blt (X := X.suite a ((a, oe3) :: (X.pn ++ pins))) S3 hg hm hv q hnn hdbg
    refine test (LM.here ?_)
    cases b with
    | true =>
      obtain ⟨C, dd, rfl, rfl, hgo⟩ := hyes rfl
      refine codeAny_handlers_suite_as ?_
      refine HandSPX.lands_againZ fl3 fun h4 fl4 up4 => ?_
      have J4 : Inv X pins σ' H' { s' with heap := h4 } := J.landed nb fl4.1 ((up.trans up3).trans up4) os ag
      obtain ⟨oe4, vs4, he4, hz4, hd4⟩ := fl4.there
      have S4 := J4.suite he4 hd4 na nL nF
      refine store_ok (X := X.suite a ((a, oe4) :: (X.pn ++ pins))) (v := .ref a) S4 hN hi (.inl hln) rfl (fun s5 S5 => ?_) (.inr hln)
      have hil : i < σ'.length := by
        have := J.len
        rw [this]
        exact (List.getElem?_eq_some_iff.mp hi).1
      have body5 : PSs (X.suite a ((a, oe4) :: (X.pn ++ pins))) [.Assign [.Name y p1] (.Name n p2) p3] (tAsg (tVar i) (gName j)) :=
        pss_one (ps_set (X := X.suite a ((a, oe4) :: (X.pn ++ pins))) (i := j) hN hj (.inl hly) (pe_var (X := X.suite a ((a, oe4) :: (X.pn ++ pins))) hi (.inl hln) hnd hnc) hsw (.inr hly))
      refine wpAny_mono (body5.run [] s5 _ H' { nx := fun σ6 H6 => σ6 = (σ'.set i (some (.ref a))).set j (some (.ref a)) ∧ H6 = H', rt := fun _ _ => False } S5 ?_) (fun f s6 hsp => ?_) (fun _ _ z => z.elim)
      · refine ⟨.ref a, ?_, rfl, rfl⟩
        rw [List.getElem?_set_self hil]
      cases f with
      | next =>
        obtain ⟨σ6, H6, S6, rfl, rfl⟩ := hsp
        have I6 : Inv X ((a, oe4) :: pins) ((σ'.set i (some (.ref a))).set j (some (.ref a))) H6 s6 :=
          ⟨ok, S6.os, S6.bare, S6.base, S6.loc, S6.cell, S6.free, S6.freeC, fun p hp => S6.pin p (by
            rw [List.append_nil]
            rcases List.mem_append.mp hp with z | z
            · exact List.mem_cons_of_mem _ (List.mem_append_left _ z)
            · rcases List.mem_cons.mp z with z | z
              · rw [z]; exact List.mem_cons_self
              · exact List.mem_cons_of_mem _ (List.mem_append_right _ z)), S6.hok, S6.len⟩
        refine gone_ok I6 hN hi hln fun s7 J7 => ?_
        obtain ⟨e7, n7, _⟩ := J7.pin (a, oe4) (List.mem_append_right _ List.mem_cons_self)
        have J8 : Inv X pins _ H6 s7 := J7.pins_of fun p hp => J7.pin p (List.mem_append_right _ (List.mem_cons_of_mem _ hp))
        exact ⟨_, _, Inv.trackE J8 e7 hz4.1 hz4.2 hd4 n7 nL n0 np', hgo a n7⟩
      | brk =>
        obtain ⟨_, _, _, q⟩ := hsp
        exact False.elim q
      | cont =>
        obtain ⟨_, _, _, q⟩ := hsp
        exact False.elim q
      | ret u =>
        obtain ⟨_, _, _, _, _, q⟩ := hsp
        exact False.elim q
    | false =>
      show wpAny _ X.A (handleBy (.ref a) X.env []) _ _ _
      refine wpAny_handleBy_nil ?_
      obtain ⟨k1, k2, k3, oe, vs, T, oT, ts', he, hz, hd, h1, hr⟩ := id fl3
      unfold PySem.passOn
      refine wpAny_bind (wpAny_field he hd h1 ?_)
      rw [if_neg (show ¬ ((Value.ref T == Value.none) = true) from by simp)]
      have fin : wpAny (model X.prog X.w) X.A (setFlight (.ref a) X.env.frame) (fun _ s4 => wpAny (model X.prog X.w) X.A (throw (.ref a) : Sem Flow) (SP X pins D) X.xe s4) X.xe { s' with heap := h3 } := by
        rw [hf]
        refine HandSPX.setFlight_upZ fl3 fun h4 hh4 up4 => wpAny_throw (tk _ _ ?_)
        exact ⟨a, B, sI, pins, σ', H', cls, d, rfl, J, nb, (up.trans up3).trans up4, .inr (.inr (by rw [hs]; exact hh4)), na, os, ag, hno rfl⟩
      first
        | exact wpAny_bind (wpAny_pure (wpAny_bind fin))
        | exact wpAny_bind fin
  · cases f with
    | next =>
      obtain ⟨σ', H', J', q⟩ := hsp
      exact wpAny_execs_nil ⟨σ', H', J'.ofTry ok, q⟩
    | brk =>
      obtain ⟨σ', H', J', q⟩ := hsp
      exact ⟨σ', H', J'.ofTry ok, q⟩
    | cont =>
      obtain ⟨σ', H', J', q⟩ := hsp
      exact ⟨σ', H', J'.ofTry ok, q⟩
    | ret u =>
      obtain ⟨v, σ', H', J', r, q⟩ := hsp
      exact ⟨v, σ', H', J'.ofTry ok, r, q⟩
end

/-! ### isinstance, .value of a kept error -/
/-- what a class of errors must say for isinstance to ask its instances rightly -/
structure IsC (K : Frag) (C : Addr) : Prop where
  hcl : (PySem.W.clsIn K C).isSome = true
  hg : PySem.W.findIn K (.ref C) "__getattribute__" = some (some (.builtin "BaseException.__getattribute__"))
  hk : PySem.W.findIn K (.ref C) "__getattr__" = some none
  hs : PySem.W.subIn K (.ref C) (.type "BaseException") = some true
  ha : PySem.W.findIn K (.ref C) "__class__" = some (some (.builtin "object.__class__"))
  hn : PySem.W.specialIn K (.builtin "object.__class__") "__get__" = some (some (.builtin "getset_descriptor.__get__"))
  ht : PySem.W.takesIn K (.builtin "object.__class__") = some true
  hm : PySem.W.mroIn K C (.type "object") = some true
section
variable {X : Cx}
/-- isinstance(e, c), e a kept error -/
def rIsK (K : Frag) : List V → Hp → VK → Prop := fun xs H Q => ∃ (a C dd : Addr) (fs : List (Str × V)) (c : V) (cv : Value) (b : Bool), xs = [.ref a, c] ∧ H a = some (ExcAt C dd a) ∧ H dd = some (.xd fs) ∧ IsC K C ∧ (∀ u, RelV c u → u = cv) ∧
  PySem.W.kitOne K (.ref C) cv = some b ∧ Q (.bl b) H
theorem call_isK : CallR X (.builtin "isinstance") (rIsK X.K) := by
  intro pins s σ H xs us Q I r h
  obtain ⟨a, C, dd, fs, c, cv, b, rfl, ha, hdd, T, hcv, e, q⟩ := h
  cases r with
  | cons rx rr =>
    cases rr with
    | cons rt rr =>
      cases rr
      cases rx
      have ec := hcv _ rt
      subst ec
      obtain ⟨⟨oe, vs, e1, e2, e3, e4⟩, _⟩ := I.hok a _ ha
      obtain ⟨mA, hns, _⟩ := (show ObjOk X.prog X.w H s.heap dd (.xd fs) from I.hok dd _ hdd)
      obtain ⟨od, ho, _⟩ := lookIn_ns hns
      have J : PySem.W.InstAt s.heap a oe C (some od) := ⟨e1, e2, by unfold PySem.W.notCls; rw [e4] <;> rfl, by rw [e3]; exact ho⟩
      exact PySem.W.kia_one (PySem.W.kitx_exc T.hcl T.hg T.hk T.hs T.ha T.hn T.ht T.hm) I.kIn J e (fun z => nomatch z) fun tk => ⟨.bl b, H, I.kept (t' := tk) fun _ _ z => z, rfl, q⟩
/-- e.value, e a kept error -/
def tValue (K : Frag) (D fI : Addr) (te : TE) : TE := fun σ H Q => te σ H fun x H1 => ∃ (a C dd : Addr) (v : V), x = .ref a ∧ ErrCls K D fI C ∧ H1 a = some (ExcAt C dd a) ∧ H1 dd = some (.xd [(("value" : Str), v)]) ∧ Q v H1
theorem pe_value {D fI : Addr} {e : Expr} {te : TE} {pos : Pos} (he : PE X e te) (hb : attributeBase e "value" X.env (eval e X.env) = eval e X.env := by rfl) : PE X (.Attribute e "value" pos) (tValue X.K D fI te) := by
  refine ⟨fun pins s σ H Q I h => ?_⟩
  refine attr_of hb (thn (he.run pins s σ H _ I h) fun u s1 hh => ?_)
  obtain ⟨x, H1, I1, rx, a, C, dd, v, rfl, T, ha, hdd, q⟩ := hh
  obtain rfl : u = Value.ref a := rx
  obtain ⟨⟨oe, vs, e1, e2, e3, e4⟩, _⟩ := I1.hok a _ ha
  obtain ⟨mA, hns, hr⟩ := (show ObjOk X.prog X.w H1 s1.heap dd (.xd [(("value" : Str), v)]) from I1.hok dd _ hdd)
  obtain ⟨od, ho, hl⟩ := lookIn_ns hns
  have l : List.lookup ("value" : Str) [(("value" : Str), v)] = some v := by simp [List.lookup]
  obtain ⟨u, hu, ru⟩ := RelO.some_of (v := v) (o := mA "value") (by rw [← l]; exact hr "value")
  have J : PySem.W.InstAt s1.heap a oe C (some od) := ⟨e1, e2, by unfold PySem.W.notCls; rw [e4] <;> rfl, by rw [e3]; exact ho⟩
  exact HandSPX.exc_get I1.kIn J T.ga T.gg T.exC (PySem.W.findObj_own T.hdC T.noN rfl (by rw [hl, hu])) (handed_of ru) ⟨v, H1, I1.tok _, ru, q⟩

/-! ### repr of data -/
/-- what repr takes: the text fits -/
def ROk (d : PyData) : Prop := d.showable = true ∧ d.shown.length ≤ sizeLine ∧ d.depth ≤ 64
def rRepr (K : Frag) : List V → Hp → VK → Prop := fun xs H Q => ∃ (v : V) (d : PyData), xs = [v] ∧ Dp K H v d ∧ ROk d ∧ Q (.str d.shown) H
mutual
theorem noDict_of {K : Frag} {H : Hp} : ∀ {v : V} {d : PyData}, Dp K H v d → d.hasDict = false
  | _, _, .non => by simp only [PyData.hasDict]
  | _, _, .bl _ => by simp only [PyData.hasDict]
  | _, _, .int _ => by simp only [PyData.hasDict]
  | _, _, .str _ => by simp only [PyData.hasDict]
  | _, _, .lst _ h => by simp only [PyData.hasDict]; exact noDictAll_of h
  | _, _, .tup _ h => by simp only [PyData.hasDict]; exact noDictAll_of h
theorem noDictAll_of {K : Frag} {H : Hp} : ∀ {vs : List V} {ds : List PyData}, DpAll K H vs ds → PyData.hasDictAll ds = false
  | _, _, .nil => by simp only [PyData.hasDictAll]
  | _, _, .cons h1 h2 => by simp only [PyData.hasDictAll, noDict_of h1, noDictAll_of h2, Bool.or_self]
end
theorem call_reprD (hgd : X.A.guards = some []) (hu : X.A.units + 66 < cLine) : CallR X (.builtin "repr") (rRepr X.K) := by
  intro pins s σ H xs us Q I r h
  obtain ⟨v, d, rfl, hd, ⟨r1, r2, r3⟩, q⟩ := h
  cases r with
  | @cons _ u _ us' rx rr =>
    cases rr
    obtain ⟨as, hr⟩ := Dp.reads I d v u hd rx
    have nd := noDict_of hd
    cases hd with
    | non =>
      obtain rfl : u = Value.none := rx
      exact PySem.P.repr_of_none ⟨.str _, H, I.tok _, ⟨_, rfl⟩, q⟩
    | bl b =>
      obtain rfl : u = Value.bool b := rx
      exact PySem.P.repr_of_bool ⟨.str _, H, I.tok _, ⟨_, rfl⟩, q⟩
    | int i =>
      obtain ⟨t, rfl⟩ := rx
      have r1' : i.natAbs.log2 < 1920 := by simpa [PyData.showable] using r1
      exact PySem.P.repr_of_int r1' ⟨.str _, H, I.tok _, ⟨_, rfl⟩, q⟩
    | str x =>
      obtain ⟨t, rfl⟩ := rx
      exact PySem.P.repr_of_str ⟨.str _, H, I.tok _, ⟨_, rfl⟩, q⟩ (by simpa [PyData.shown] using r2)
    | lst hs ha =>
      obtain rfl : u = Value.ref _ := rx
      exact repr_of_reads' hr r1 (PyData.noDict_hsm nd) hgd (by omega) (fun _ _ z => z) (fun h' u' tk k => ⟨.str _, H, I.kept (h' := h') (t' := tk) k, ⟨_, rfl⟩, q⟩) r2
    | tup hs ha =>
      obtain rfl : u = Value.ref _ := rx
      exact repr_of_reads' hr r1 (PyData.noDict_hsm nd) hgd (by omega) (fun _ _ z => z) (fun h' u' tk k => ⟨.str _, H, I.kept (h' := h') (t' := tk) k, ⟨_, rfl⟩, q⟩) r2
end
end Wb
/-! Wb3: values as data. A state of a def is told by what its slots hold as data (DV), lists of its own apart; a reading is a wish about data. -/
namespace Wb
open PySem PySem.Spec PyProof.Rows L2

abbrev PD := PyData
/-- a value told as data: plain data, a kept error (its class by number, what it holds), the well -/
inductive DV where
  | d (x : PD) | exc (c : Nat) (x : PD) | well (script : Option (List Int))
/-- the well itself (with a script's ints: the script, a list that nobody may change) -/
abbrev DV.wel : DV := .well none
abbrev DV.scr (ns : List Int) : DV := .well (some ns)
/-- what a slot holds: nothing told, a value, a list of this def's own -/
inductive Sl where
  | no | v (x : DV) | own (xs : List PD)
abbrev EK := Nat → PD → Prop
abbrev DE := List Sl → (DV → Prop) → EK → Prop
abbrev DT := List Sl → (Bool → Prop) → EK → Prop
abbrev DA := List Sl → (List DV → Prop) → EK → Prop
/-- a list of one's own, new -/
abbrev DN := List Sl → (List PD → Prop) → EK → Prop
structure DEnds where
  nx : List Sl → Prop
  rt : List Sl → DV → Prop
  bk : List Sl → Prop
  ct : List Sl → Prop
  ex : List Sl → EK
abbrev DS := DEnds → List Sl → Prop

/-! ### data heaps within heaps -/
structure Post (wl : Option Addr) (S H S' H' : Hp) : Prop where
  sS : Same S S'
  fr : ∀ a, H a ≠ none → S a = none → S' a = none
  kp : ∀ a o, H a = some o → wl ≠ some a → H' a = some o
  al : ∀ a, H a ≠ none → H' a ≠ none
theorem Post.refl {wl : Option Addr} {S H : Hp} : Post wl S H S H := ⟨Same.refl S, fun _ _ h => h, fun _ _ h _ => h, fun _ h => h⟩
theorem Post.trans {wl : Option Addr} {S H S1 H1 S2 H2 : Hp} (p : Post wl S H S1 H1) (q : Post wl S1 H1 S2 H2) : Post wl S H S2 H2 :=
  ⟨p.sS.trans q.sS, fun a h s => q.fr a (p.al a h) (p.fr a h s), fun a o h w => q.kp a o (p.kp a o h w) w, fun a h => q.al a (p.al a h)⟩
theorem Post.wk {wl : Option Addr} {S H S' H' : Hp} (p : Post none S H S' H') : Post wl S H S' H' := ⟨p.sS, p.fr, fun a o h _ => p.kp a o h (by intro z; cases z), p.al⟩
/-- what grows, all else as it was -/
structure Grow (S H S' H' : Hp) : Prop where
  po : Post none S H S' H'
  sm : Same S' H'
theorem Grow.refl {S H : Hp} (h : Same S H) : Grow S H S H := ⟨Post.refl, h⟩
theorem Grow.trans {S H S1 H1 S2 H2 : Hp} (p : Grow S H S1 H1) (q : Grow S1 H1 S2 H2) : Grow S H S2 H2 := ⟨p.po.trans q.po, q.sm⟩
theorem Grow.new {S H : Hp} {p : Addr} {o : HO} (h : Same S H) (hp : H p = none) : Grow S H (upd S p o) (upd H p o) := by
  have sp : S p = none := h.free hp
  refine ⟨⟨fun b u e => ?_, fun a ha sa => ?_, fun a u e _ => ?_, fun a ha => ?_⟩, fun b u e => ?_⟩
  · rw [upd_ne (ne_of_none e sp)]; exact e
  · have : a ≠ p := fun z => ha (z ▸ hp)
    rw [upd_ne this]; exact sa
  · rw [upd_ne (ne_of_none e hp)]; exact e
  · have : a ≠ p := fun z => ha (z ▸ hp)
    rw [upd_ne this]; exact ha
  · by_cases hb : b = p
    · subst hb; rw [upd_same] at e ⊢; exact e
    · rw [upd_ne hb] at e ⊢; exact h b u e
/-- the new object stands beside, not as data -/
theorem Grow.beside {S H : Hp} {p : Addr} {o : HO} (h : Same S H) (hp : H p = none) : Grow S H S (upd H p o) := by
  refine ⟨⟨Same.refl S, fun _ _ s => s, fun a u e _ => ?_, fun a ha => ?_⟩, fun b u e => ?_⟩
  · rw [upd_ne (ne_of_none e hp)]; exact e
  · have : a ≠ p := fun z => ha (z ▸ hp)
    rw [upd_ne this]; exact ha
  · rw [upd_ne (ne_of_none (h b u e) hp)]; exact h b u e

mutual
/-- v stands for the datum, its lists tracked by S -/
inductive Dq (K : Frag) (S : Hp) : V → PD → Prop
  | non : Dq K S .non .none
  | bl (b : Bool) : Dq K S (.bl b) (.bool b)
  | int (i : Int) : Dq K S (.int i) (.int i)
  | str (x : Str) : Dq K S (.str x) (.str x)
  | lst {a : Addr} {xs : List V} {ds : List PD} : S a = some (.lst xs) → DqAll K S xs ds → Dq K S (.ref a) (.list ds)
  | tup {a : Addr} {xs : List V} {ds : List PD} : SqT K S a xs → DqAll K S xs ds → Dq K S (.ref a) (.tuple ds)
inductive DqAll (K : Frag) (S : Hp) : List V → List PD → Prop
  | nil : DqAll K S [] []
  | cons {v : V} {vs : List V} {d : PD} {ds : List PD} : Dq K S v d → DqAll K S vs ds → DqAll K S (v :: vs) (d :: ds)
end
theorem sqT_mono {K : Frag} {S S' : Hp} {a : Addr} {xs : List V} (e : Same S S') (h : SqT K S a xs) : SqT K S' a xs := by
  rcases h with (h | ⟨o, h⟩) | h
  · exact .inl (.inl (e _ _ h))
  · exact .inl (.inr ⟨o, e _ _ h⟩)
  · exact .inr h
mutual
theorem dq_mono {K : Frag} {S S' : Hp} (e : Same S S') : ∀ {v : V} {d : PD}, Dq K S v d → Dq K S' v d
  | _, _, .non => .non
  | _, _, .bl b => .bl b
  | _, _, .int i => .int i
  | _, _, .str x => .str x
  | _, _, .lst h t => .lst (e _ _ h) (dqAll_mono e t)
  | _, _, .tup h t => .tup (sqT_mono e h) (dqAll_mono e t)
theorem dqAll_mono {K : Frag} {S S' : Hp} (e : Same S S') : ∀ {vs : List V} {ds : List PD}, DqAll K S vs ds → DqAll K S' vs ds
  | _, _, .nil => .nil
  | _, _, .cons h t => .cons (dq_mono e h) (dqAll_mono e t)
end
mutual
theorem Dq.dp {K : Frag} {S : Hp} : ∀ {v : V} {d : PD}, Dq K S v d → Dp K S v d
  | _, _, .non => .non
  | _, _, .bl b => .bl b
  | _, _, .int i => .int i
  | _, _, .str x => .str x
  | _, _, .lst h t => .lst (SqL.of h) (DqAll.dp t)
  | _, _, .tup h t => .tup h (DqAll.dp t)
theorem DqAll.dp {K : Frag} {S : Hp} : ∀ {vs : List V} {ds : List PD}, DqAll K S vs ds → DpAll K S vs ds
  | _, _, .nil => .nil
  | _, _, .cons h t => .cons (Dq.dp h) (DqAll.dp t)
end
theorem DqAll.len {K : Frag} {S : Hp} : ∀ {vs : List V} {ds : List PD}, DqAll K S vs ds → vs.length = ds.length
  | _, _, .nil => rfl
  | _, _, .cons _ t => by rw [List.length_cons, List.length_cons, DqAll.len t]
theorem DqAll.app {K : Frag} {S : Hp} : ∀ {vs us : List V} {ds es : List PD}, DqAll K S vs ds → DqAll K S us es → DqAll K S (vs ++ us) (ds ++ es)
  | _, _, _, _, .nil, h => h
  | _, _, _, _, .cons a t, h => .cons a (DqAll.app t h)
theorem DqAll.at {K : Frag} {S : Hp} : ∀ {vs : List V} {ds : List PD} {i : Nat} {d : PD}, DqAll K S vs ds → ds[i]? = some d → ∃ v, vs[i]? = some v ∧ Dq K S v d
  | _, _, 0, _, .cons a _, e => by
    simp at e
    subst e
    exact ⟨_, rfl, a⟩
  | _, _, i + 1, _, .cons _ t, e => by
    obtain ⟨v, h1, h2⟩ := DqAll.at (i := i) t (by simpa using e)
    exact ⟨v, by simpa using h1, h2⟩
  | _, _, _, _, .nil, e => by simp at e
theorem DqAll.atV {K : Frag} {S : Hp} : ∀ {vs : List V} {ds : List PD} {i : Nat} {v : V}, DqAll K S vs ds → vs[i]? = some v → ∃ d, ds[i]? = some d ∧ Dq K S v d
  | _, _, 0, _, .cons a _, e => by
    simp at e
    subst e
    exact ⟨_, rfl, a⟩
  | _, _, i + 1, _, .cons _ t, e => by
    obtain ⟨v, h1, h2⟩ := DqAll.atV (i := i) t (by simpa using e)
    exact ⟨v, by simpa using h1, h2⟩
  | _, _, _, _, .nil, e => by simp at e
theorem DqAll.set {K : Frag} {S : Hp} {v : V} {d : PD} (h : Dq K S v d) : ∀ {vs : List V} {ds : List PD} (i : Nat), DqAll K S vs ds → DqAll K S (vs.set i v) (ds.set i d)
  | _, _, _, .nil => .nil
  | _, _, 0, .cons _ t => .cons h t
  | _, _, i + 1, .cons a t => .cons a (DqAll.set h i t)
theorem DqAll.take {K : Frag} {S : Hp} : ∀ {vs : List V} {ds : List PD} (i : Nat), DqAll K S vs ds → DqAll K S (vs.take i) (ds.take i)
  | _, _, 0, _ => .nil
  | _, _, _ + 1, .nil => .nil
  | _, _, i + 1, .cons a t => .cons a (DqAll.take i t)
theorem DqAll.drop {K : Frag} {S : Hp} : ∀ {vs : List V} {ds : List PD} (i : Nat), DqAll K S vs ds → DqAll K S (vs.drop i) (ds.drop i)
  | _, _, 0, h => h
  | _, _, _ + 1, .nil => .nil
  | _, _, i + 1, .cons _ t => DqAll.drop i t
theorem DqAll.rev {K : Frag} {S : Hp} : ∀ {vs : List V} {ds : List PD}, DqAll K S vs ds → DqAll K S vs.reverse ds.reverse
  | _, _, .nil => .nil
  | _, _, .cons a t => by rw [List.reverse_cons, List.reverse_cons]; exact DqAll.app (DqAll.rev t) (.cons a .nil)
theorem DqAll.repl {K : Frag} {S : Hp} {v : V} {d : PD} (h : Dq K S v d) : ∀ n, DqAll K S (List.replicate n v) (List.replicate n d)
  | 0 => .nil
  | n + 1 => .cons h (DqAll.repl h n)
theorem DqAll.ints {K : Frag} {S : Hp} : ∀ l : List Int, DqAll K S (l.map V.int) (l.map PyData.int)
  | [] => .nil
  | i :: l => .cons (.int i) (DqAll.ints l)
theorem dq_lst {K : Frag} {S : Hp} {p : Addr} {vs : List V} {ds : List PD} (h : S p = some (.lst vs)) (t : DqAll K S vs ds) : Dq K S (.ref p) (.list ds) := .lst h t
theorem dq_tup {K : Frag} {S : Hp} {p : Addr} {vs : List V} {ds : List PD} (h : S p = some (.tup vs)) (t : DqAll K S vs ds) : Dq K S (.ref p) (.tuple ds) := .tup (SqT.of h) t
/-! ### the state -/
/-- the entry of a def: the well (if it has one), the data heap and the heap there; the table of the classes of errors -/
structure En where
  CT : Nat → Addr
  wl : Option Addr
  S0 : Hp
  H0 : Hp
  pa : Addr → Prop := fun _ => True
abbrev En.of (CT : Nat → Addr) (wl : Option Addr) (S0 H0 : Hp) : En := ⟨CT, wl, S0, H0, fun _ => True⟩
def WOk (m : Nat) (a b c : Int) : Prop := 0 ≤ a ∧ 0 ≤ b ∧ 0 ≤ c ∧ a.natAbs < 2 ^ 1200000 ∧ b.natAbs < 2 ^ 200 ∧ c + (m : Int) ≤ 2 ^ 60
structure Wd (wl : Option Addr) (m : Nat) (S H : Hp) : Prop where
  sm : Same S H
  we : ∀ p, wl = some p → S p = none ∧ ∃ a b c, H p = some (.lst [.int a, .int b, .int c]) ∧ WOk m a b c
def DvOk (K : Frag) (n : En) (S : Hp) (v : V) : DV → Prop
  | .d x => Dq K S v x
  | .exc c x => ∃ a dd v', v = .ref a ∧ S a = some (ExcAt (n.CT c) dd a) ∧ S dd = some (.xd [(("value" : Str), v')]) ∧ Dq K S v' x
  | .well none => ∃ p, v = .ref p ∧ n.wl = some p
  | .well (some ns) => ∃ p, v = .ref p ∧ SqL K S p (ns.map V.int)
inductive DvAll (K : Frag) (n : En) (S : Hp) : List V → List DV → Prop
  | nil : DvAll K n S [] []
  | cons {v : V} {vs : List V} {x : DV} {xs : List DV} : DvOk K n S v x → DvAll K n S vs xs → DvAll K n S (v :: vs) (x :: xs)
def ErrOk (K : Frag) (n : En) (S H : Hp) (c : Nat) (x : PD) (cls : Value) (dx : Option Addr) : Prop := ∃ dd v, cls = .ref (n.CT c) ∧ dx = some dd ∧ S dd = some (.xd [(("value" : Str), v)]) ∧ Dq K S v x
theorem dv_mono {K : Frag} {n : En} {S S' : Hp} (e : Same S S') {v : V} : ∀ {x : DV}, DvOk K n S v x → DvOk K n S' v x
  | .d _, h => dq_mono e h
  | .exc _ _, ⟨a, dd, v', h1, h2, h3, h4⟩ => ⟨a, dd, v', h1, e _ _ h2, e _ _ h3, dq_mono e h4⟩
  | .well none, h => h
  | .well (some _), ⟨p, h1, h2⟩ => ⟨p, h1, e.seq h2⟩
theorem dvAll_mono {K : Frag} {n : En} {S S' : Hp} (e : Same S S') : ∀ {vs : List V} {xs : List DV}, DvAll K n S vs xs → DvAll K n S' vs xs
  | _, _, .nil => .nil
  | _, _, .cons h t => .cons (dv_mono e h) (dvAll_mono e t)
theorem DvAll.len {K : Frag} {n : En} {S : Hp} : ∀ {vs : List V} {xs : List DV}, DvAll K n S vs xs → vs.length = xs.length
  | _, _, .nil => rfl
  | _, _, .cons _ t => by rw [List.length_cons, List.length_cons, DvAll.len t]
def SlOk (K : Frag) (n : En) (S H : Hp) (A : Addr) (o : Option (Option V)) : Sl → Prop
  | .no => True
  | .v x => ∃ v, o = some (some v) ∧ DvOk K n S v x
  | .own xs => o = some (some (.ref A)) ∧ S A = none ∧ (n.H0 A = none ∧ n.pa A) ∧ n.wl ≠ some A ∧ ∃ vs, H A = some (.lst vs) ∧ DqAll K S vs xs
structure StOk (K : Frag) (n : En) (m : Nat) (S H : Hp) (σ : L2.St) (ρ : List Sl) : Prop where
  wd : Wd n.wl m S H
  po : Post n.wl n.S0 n.H0 S H
  len : σ.length = ρ.length
  sl : ∃ A : Nat → Addr, (∀ i s, ρ[i]? = some s → SlOk K n S H (A i) σ[i]? s) ∧ ∀ i j xs ys, ρ[i]? = some (.own xs) → ρ[j]? = some (.own ys) → A i = A j → i = j
section
variable {K : Frag} {n : En} {m m' : Nat} {S H S' H' : Hp} {σ : L2.St} {ρ : List Sl}
theorem Wd.le {wl : Option Addr} (w : Wd wl m S H) (h : m' ≤ m) : Wd wl m' S H := ⟨w.sm, fun p e => by
  obtain ⟨h1, a, b, c, h2, h3, h4, h5, h6, h7, h8⟩ := w.we p e
  exact ⟨h1, a, b, c, h2, h3, h4, h5, h6, h7, by omega⟩⟩
theorem StOk.le (s : StOk K n m S H σ ρ) (h : m' ≤ m) : StOk K n m' S H σ ρ := ⟨s.wd.le h, s.po, s.len, s.sl⟩
theorem SlOk.post {A : Addr} {o : Option (Option V)} (p : Post n.wl S H S' H') : ∀ {s : Sl}, SlOk K n S H A o s → SlOk K n S' H' A o s
  | .no, _ => trivial
  | .v _, ⟨v, h1, h2⟩ => ⟨v, h1, dv_mono p.sS h2⟩
  | .own _, ⟨h1, h2, h3, h4, vs, h5, h6⟩ => ⟨h1, p.fr A (by rw [h5]; exact Option.some_ne_none _) h2, h3, h4, vs, p.kp A _ h5 h4, dqAll_mono p.sS h6⟩
/-- behind a step that keeps this def's own -/
theorem StOk.step (s : StOk K n m S H σ ρ) (p : Post n.wl S H S' H') (w : Wd n.wl m' S' H') : StOk K n m' S' H' σ ρ :=
  ⟨w, s.po.trans p, s.len, let ⟨A, h1, h2⟩ := s.sl; ⟨A, fun i t e => (h1 i t e).post p, h2⟩⟩
theorem Wd.grow {wl : Option Addr} (w : Wd wl m S H) (g : Grow S H S' H') : Wd wl m S' H' := ⟨g.sm, fun p e => by
  obtain ⟨h1, a, b, c, h2, h3⟩ := w.we p e
  exact ⟨g.po.fr p (by rw [h2]; exact Option.some_ne_none _) h1, a, b, c, g.po.kp p _ h2 (by intro z; cases z), h3⟩⟩
theorem StOk.grow (s : StOk K n m S H σ ρ) (g : Grow S H S' H') : StOk K n m S' H' σ ρ := s.step g.po.wk (s.wd.grow g)
theorem StOk.set {i : Nat} {v : V} {x : DV} (s : StOk K n m S H σ ρ) (h : DvOk K n S v x) : StOk K n m S H (σ.set i (some v)) (ρ.set i (.v x)) := by
  refine ⟨s.wd, s.po, by rw [List.length_set, List.length_set]; exact s.len, ?_⟩
  obtain ⟨A, h1, h2⟩ := s.sl
  refine ⟨A, fun j t e => ?_, fun j k xs ys e1 e2 => ?_⟩
  · by_cases hj : i = j
    · subst hj
      have hl : i < ρ.length := by
        have := (List.getElem?_eq_some_iff.mp e).1
        rwa [List.length_set] at this
      rw [List.getElem?_set_self hl] at e
      cases e
      exact ⟨v, by rw [List.getElem?_set_self (by rw [s.len]; exact hl)], h⟩
    · rw [List.getElem?_set_ne hj] at e
      rw [List.getElem?_set_ne hj]
      exact h1 j t e
  · have no : ∀ k zs, (ρ.set i (.v x))[k]? = some (Sl.own zs) → ρ[k]? = some (Sl.own zs) := fun k zs e => by
      by_cases hj : i = k
      · subst hj
        have hl : i < ρ.length := by
          have := (List.getElem?_eq_some_iff.mp e).1
          rwa [List.length_set] at this
        rw [List.getElem?_set_self hl] at e
        cases e
      · rwa [List.getElem?_set_ne hj] at e
    exact h2 j k xs ys (no _ _ e1) (no _ _ e2)
theorem StOk.setNo {i : Nat} {w : Option V} (s : StOk K n m S H σ ρ) : StOk K n m S H (σ.set i w) (ρ.set i .no) := by
  refine ⟨s.wd, s.po, by rw [List.length_set, List.length_set]; exact s.len, ?_⟩
  obtain ⟨A, h1, h2⟩ := s.sl
  refine ⟨A, fun j t e => ?_, fun j k xs ys e1 e2 => ?_⟩
  · by_cases hj : i = j
    · subst hj
      have hl : i < ρ.length := by
        have := (List.getElem?_eq_some_iff.mp e).1
        rwa [List.length_set] at this
      rw [List.getElem?_set_self hl] at e
      cases e
      exact trivial
    · rw [List.getElem?_set_ne hj] at e
      rw [List.getElem?_set_ne hj]
      exact h1 j t e
  · have no : ∀ k zs, (ρ.set i Sl.no)[k]? = some (Sl.own zs) → ρ[k]? = some (Sl.own zs) := fun k zs e => by
      by_cases hj : i = k
      · subst hj
        have hl : i < ρ.length := by
          have := (List.getElem?_eq_some_iff.mp e).1
          rwa [List.length_set] at this
        rw [List.getElem?_set_self hl] at e
        cases e
      · rwa [List.getElem?_set_ne hj] at e
    exact h2 j k xs ys (no _ _ e1) (no _ _ e2)
/-- a new list of one's own goes to a slot -/
theorem StOk.setOwn {i : Nat} {p : Addr} {vs : List V} {xs : List PD} (s : StOk K n m S H σ ρ) (hp : H p = some (.lst vs)) (hs : S p = none) (h0 : n.H0 p = none ∧ n.pa p) (hw : n.wl ≠ some p) (hd : DqAll K S vs xs)
    (hne : ∀ (A : Nat → Addr) j ys, (∀ i s, ρ[i]? = some s → SlOk K n S H (A i) σ[i]? s) → ρ[j]? = some (.own ys) → j ≠ i → A j ≠ p) : StOk K n m S H (σ.set i (some (.ref p))) (ρ.set i (.own xs)) := by
  refine ⟨s.wd, s.po, by rw [List.length_set, List.length_set]; exact s.len, ?_⟩
  obtain ⟨A, h1, h2⟩ := s.sl
  have ne : ∀ j ys, ρ[j]? = some (Sl.own ys) → j ≠ i → A j ≠ p := fun j ys e hj => hne A j ys h1 e hj
  have hl : ∀ {t : Sl}, (ρ.set i (.own xs))[i]? = some t → i < ρ.length := fun {t} e => by
    have := (List.getElem?_eq_some_iff.mp e).1
    rwa [List.length_set] at this
  refine ⟨fun j => if j = i then p else A j, fun j t e => ?_, fun j k ys zs e1 e2 => ?_⟩
  · by_cases hj : i = j
    · subst hj
      have hl := hl e
      rw [List.getElem?_set_self hl] at e
      cases e
      show SlOk K n S H (if i = i then p else A i) _ _
      rw [if_pos rfl]
      exact ⟨by rw [List.getElem?_set_self (by rw [s.len]; exact hl)], hs, h0, hw, vs, hp, hd⟩
    · rw [List.getElem?_set_ne hj] at e
      rw [List.getElem?_set_ne hj]
      show SlOk K n S H (if j = i then p else A j) _ _
      rw [if_neg (Ne.symm hj)]
      exact h1 j t e
  · by_cases hj : j = i
    · by_cases hk : k = i
      · intro _; rw [hj, hk]
      · intro z
        have e2' : ρ[k]? = some (Sl.own zs) := by rwa [List.getElem?_set_ne (Ne.symm hk)] at e2
        have z : (if j = i then p else A j) = (if k = i then p else A k) := z
        rw [if_pos hj, if_neg hk] at z
        exact absurd z.symm (ne k zs e2' hk)
    · have e1' : ρ[j]? = some (Sl.own ys) := by rwa [List.getElem?_set_ne (Ne.symm hj)] at e1
      by_cases hk : k = i
      · intro z
        have z : (if j = i then p else A j) = (if k = i then p else A k) := z
        rw [if_neg hj, if_pos hk] at z
        exact absurd z (ne j ys e1' hj)
      · have e2' : ρ[k]? = some (Sl.own zs) := by rwa [List.getElem?_set_ne (Ne.symm hk)] at e2
        intro z
        have z : (if j = i then p else A j) = (if k = i then p else A k) := z
        rw [if_neg hj, if_neg hk] at z
        exact h2 j k ys zs e1' e2' z
/-- one's own list is changed -/
theorem StOk.write {i : Nat} {xs ys : List PD} (s : StOk K n m S H σ ρ) (hi : ρ[i]? = some (.own xs)) : ∃ p vs, σ[i]? = some (some (.ref p)) ∧ H p = some (.lst vs) ∧ DqAll K S vs xs ∧
    ∀ us, DqAll K S us ys → StOk K n m S (upd H p (.lst us)) σ (ρ.set i (.own ys)) := by
  obtain ⟨A, h1, h2⟩ := s.sl
  obtain ⟨g1, g2, g3, g4, vs, g5, g6⟩ := h1 i _ hi
  have hl : i < ρ.length := (List.getElem?_eq_some_iff.mp hi).1
  refine ⟨A i, vs, g1, g5, g6, fun us hu => ⟨⟨fun b o e => ?_, fun p e => ?_⟩, ⟨s.po.sS, s.po.fr, fun a o e w => ?_, fun a ha => ?_⟩, by rw [List.length_set]; exact s.len, A, fun j t e => ?_, fun j k ys' zs e1 e2 z => ?_⟩⟩
  · rw [upd_ne (ne_of_none e g2)]
    exact s.wd.sm b o e
  · obtain ⟨q1, a, b, c, q2, q3⟩ := s.wd.we p e
    exact ⟨q1, a, b, c, by rw [upd_ne (fun z => g4 (by rw [← z]; exact e))]; exact q2, q3⟩
  · rw [upd_ne (ne_of_none e g3.1)]
    exact s.po.kp a o e w
  · by_cases z : a = A i
    · rw [z, upd_same]; exact Option.some_ne_none _
    · rw [upd_ne z]; exact s.po.al a ha
  · by_cases hj : i = j
    · subst hj
      rw [List.getElem?_set_self hl] at e
      cases e
      exact ⟨g1, g2, g3, g4, us, upd_same, hu⟩
    · rw [List.getElem?_set_ne hj] at e
      have q := h1 j t e
      cases t with
      | no => exact trivial
      | v x => exact q
      | own zs =>
        obtain ⟨q1, q2, q3, q4, ws, q5, q6⟩ := q
        have : A j ≠ A i := fun z => hj (h2 j i zs xs e hi z).symm
        exact ⟨q1, q2, q3, q4, ws, by rw [upd_ne this]; exact q5, q6⟩
  · have oo : ∀ k zs, (ρ.set i (Sl.own ys))[k]? = some (Sl.own zs) → ∃ ws, ρ[k]? = some (Sl.own ws) := fun k zs e => by
      by_cases hk : i = k
      · subst hk; exact ⟨xs, hi⟩
      · rw [List.getElem?_set_ne hk] at e; exact ⟨zs, e⟩
    obtain ⟨_, f1⟩ := oo _ _ e1
    obtain ⟨_, f2⟩ := oo _ _ e2
    exact h2 j k _ _ f1 f2 z
/-- one's own list becomes data -/
theorem StOk.freeze {i : Nat} {xs : List PD} (s : StOk K n m S H σ ρ) (hi : ρ[i]? = some (.own xs)) : ∃ S', Same S S' ∧ StOk K n m S' H σ (ρ.set i (.v (.d (.list xs)))) := by
  obtain ⟨A, h1, h2⟩ := s.sl
  obtain ⟨g1, g2, g3, g4, vs, g5, g6⟩ := h1 i _ hi
  have hl : i < ρ.length := (List.getElem?_eq_some_iff.mp hi).1
  have sS : Same S (upd S (A i) (.lst vs)) := fun b o e => by rw [upd_ne (ne_of_none e g2)]; exact e
  refine ⟨upd S (A i) (.lst vs), sS, ⟨fun b o e => ?_, fun p e => ?_⟩, ⟨s.po.sS.trans sS, fun a ha sa => ?_, s.po.kp, s.po.al⟩, by rw [List.length_set]; exact s.len, A, fun j t e => ?_, fun j k ys zs e1 e2 => ?_⟩
  · by_cases z : b = A i
    · rw [z, upd_same] at e; rw [z, g5]; exact e
    · rw [upd_ne z] at e; exact s.wd.sm b o e
  · obtain ⟨q1, a, b, c, q2, q3⟩ := s.wd.we p e
    exact ⟨by rw [upd_ne (fun z => g4 (by rw [← z]; exact e))]; exact q1, a, b, c, q2, q3⟩
  · have : a ≠ A i := fun z => ha (by rw [z]; exact g3.1)
    rw [upd_ne this]
    exact s.po.fr a ha sa
  · by_cases hj : i = j
    · subst hj
      rw [List.getElem?_set_self hl] at e
      cases e
      exact ⟨_, g1, dq_lst upd_same (dqAll_mono sS g6)⟩
    · rw [List.getElem?_set_ne hj] at e
      have q := h1 j t e
      cases t with
      | no => exact trivial
      | v x =>
        obtain ⟨v, q1, q2⟩ := q
        exact ⟨v, q1, dv_mono sS q2⟩
      | own zs =>
        obtain ⟨q1, q2, q3, q4, ws, q5, q6⟩ := q
        have : A j ≠ A i := fun z => hj (h2 j i zs xs e hi z).symm
        exact ⟨q1, by rw [upd_ne this]; exact q2, q3, q4, ws, q5, dqAll_mono sS q6⟩
  · have no : ∀ k zs, (ρ.set i (Sl.v (.d (.list xs))))[k]? = some (Sl.own zs) → ρ[k]? = some (Sl.own zs) := fun k zs e => by
      by_cases hj : i = k
      · subst hj
        rw [List.getElem?_set_self hl] at e
        cases e
      · rwa [List.getElem?_set_ne hj] at e
    exact h2 j k ys zs (no _ _ e1) (no _ _ e2)
end

/-! ### readings -/
/-- what errors are wished for -/
abbrev KErr (K : Frag) (n : En) (W : WX) (m : Nat) (S : Hp) (σ : L2.St) (ρ : List Sl) (Er : EK) : Prop := ∀ c x cls dx S' H', Er c x → StOk K n m S' H' σ ρ → ErrOk K n S' H' c x cls dx → Same S S' → W cls dx σ H'
theorem ke_af {K : Frag} {n : En} {W : WX} {m : Nat} {S S1 : Hp} {σ : L2.St} {ρ : List Sl} {Er : EK} (q : Same S S1) (k : KErr K n W m S σ ρ Er) : KErr K n W m S1 σ ρ Er := fun c x cls dx S' H' e s er z => k c x cls dx S' H' e s er (q.trans z)
def rdE (K : Frag) (n : En) (W : WX) (κ : Nat) (f : DE) : TE := fun σ H Q => ∃ m S ρ R Er, StOk K n (m + κ) S H σ ρ ∧ f ρ R Er ∧
  (∀ x v S' H', R x → StOk K n m S' H' σ ρ → Post n.wl S H S' H' → DvOk K n S' v x → Q v H') ∧
  KErr K n W m S σ ρ Er
def rdT (K : Frag) (n : En) (W : WX) (κ : Nat) (f : DT) : TT := fun σ H Q => ∃ m S ρ R Er, StOk K n (m + κ) S H σ ρ ∧ f ρ R Er ∧
  (∀ b S' H', R b → StOk K n m S' H' σ ρ → Post n.wl S H S' H' → Q b H') ∧
  KErr K n W m S σ ρ Er
def rdA (K : Frag) (n : En) (W : WX) (κ : Nat) (f : DA) : TA := fun σ H Q => ∃ m S ρ R Er, StOk K n (m + κ) S H σ ρ ∧ f ρ R Er ∧
  (∀ xs vs S' H', R xs → StOk K n m S' H' σ ρ → Post n.wl S H S' H' → DvAll K n S' vs xs → Q vs H') ∧
  KErr K n W m S σ ρ Er
/-- a new list: at p, beside the data -/
def rdN (K : Frag) (n : En) (W : WX) (κ : Nat) (f : DN) : TE := fun σ H Q => ∃ m S ρ R Er, StOk K n (m + κ) S H σ ρ ∧ f ρ R Er ∧
  (∀ xs p vs S' H', R xs → StOk K n m S' H' σ ρ → Post n.wl S H S' H' → H p = none → S' p = none → H' p = some (.lst vs) → DqAll K S' vs xs → Q (.ref p) H') ∧
  KErr K n W m S σ ρ Er
/-- what may be read as d, data or one's own -/
def RdOk (K : Frag) (n : En) (S H : Hp) (v : V) (x : DV) : Prop := DvOk K n S v x ∨ ∃ p vs xs, v = .ref p ∧ x = .d (.list xs) ∧ n.wl ≠ some p ∧ H p = some (.lst vs) ∧ DqAll K S vs xs
def rdO (K : Frag) (n : En) (W : WX) (κ : Nat) (f : DE) : TE := fun σ H Q => ∃ m S ρ R Er, StOk K n (m + κ) S H σ ρ ∧ f ρ R Er ∧
  (∀ x v S' H', R x → StOk K n m S' H' σ ρ → Post n.wl S H S' H' → RdOk K n S' H' v x → Q v H') ∧
  KErr K n W m S σ ρ Er
/-- what a statement's ends are wished -/
structure KSt (K : Frag) (n : En) (W : WX) (m : Nat) (S : Hp) (D : Ends) (Dd : DEnds) : Prop where
  nx : ∀ ρ' σ' S' H', Dd.nx ρ' → StOk K n m S' H' σ' ρ' → Same S S' → D.nx σ' H'
  rt : ∀ ρ' σ' x v S' H', Dd.rt ρ' x → StOk K n m S' H' σ' ρ' → DvOk K n S' v x → D.rt v H'
  bk : ∀ ρ' σ' S' H', Dd.bk ρ' → StOk K n m S' H' σ' ρ' → Same S S' → D.bk σ' H'
  ct : ∀ ρ' σ' S' H', Dd.ct ρ' → StOk K n m S' H' σ' ρ' → Same S S' → D.ct σ' H'
  ex : ∀ ρ' c x cls dx σ' S' H', Dd.ex ρ' c x → StOk K n m S' H' σ' ρ' → ErrOk K n S' H' c x cls dx → Same S S' → W cls dx σ' H'
theorem KSt.af {K : Frag} {n : En} {W : WX} {m : Nat} {S S1 : Hp} {D : Ends} {Dd : DEnds} (k : KSt K n W m S D Dd) (q : Same S S1) : KSt K n W m S1 D Dd :=
  ⟨fun ρ' σ' S' H' h s z => k.nx ρ' σ' S' H' h s (q.trans z), k.rt, fun ρ' σ' S' H' h s z => k.bk ρ' σ' S' H' h s (q.trans z), fun ρ' σ' S' H' h s z => k.ct ρ' σ' S' H' h s (q.trans z), fun ρ' c x cls dx σ' S' H' h s e z => k.ex ρ' c x cls dx σ' S' H' h s e (q.trans z)⟩
theorem KSt.up {K : Frag} {n : En} {W : WX} {m m' : Nat} {S : Hp} {D : Ends} {Dd : DEnds} (k : KSt K n W m S D Dd) (q : m ≤ m') : KSt K n W m' S D Dd :=
  ⟨fun ρ' σ' S' H' h s z => k.nx ρ' σ' S' H' h (s.le q) z, fun ρ' σ' x v S' H' h s d => k.rt ρ' σ' x v S' H' h (s.le q) d, fun ρ' σ' S' H' h s z => k.bk ρ' σ' S' H' h (s.le q) z, fun ρ' σ' S' H' h s z => k.ct ρ' σ' S' H' h (s.le q) z, fun ρ' c x cls dx σ' S' H' h s e z => k.ex ρ' c x cls dx σ' S' H' h (s.le q) e z⟩
/-- an expression's errors are the statement's -/
theorem KSt.ke {K : Frag} {n : En} {W : WX} {m : Nat} {S : Hp} {D : Ends} {Dd : DEnds} {σ : L2.St} {ρ : List Sl} (k : KSt K n W m S D Dd) : KErr K n W m S σ ρ (Dd.ex ρ) := fun c x cls dx S' H' h s er z => k.ex ρ c x cls dx σ S' H' h s er z
theorem ke_up {K : Frag} {n : En} {W : WX} {m m' : Nat} {S : Hp} {σ : L2.St} {ρ : List Sl} {Er : EK} (q : m ≤ m') (k : KErr K n W m S σ ρ Er) : KErr K n W m' S σ ρ Er := fun c x cls dx S' H' e s er z => k c x cls dx S' H' e (s.le q) er z
def rdS (K : Frag) (n : En) (W : WX) (κ : Nat) (g : DS) : TS := fun D σ H => ∃ m S ρ Dd, StOk K n (m + κ) S H σ ρ ∧ g Dd ρ ∧ KSt K n W m S D Dd
section
variable {X : Cx} {e : Expr} {es : List Expr} {st : Stmt} {sts : List Stmt}
theorem PE.to {t t' : TE} (h : PE X e t) (i : ∀ σ H Q, t' σ H Q → t σ H Q) : PE X e t' := ⟨fun pins s σ H Q I q => h.run pins s σ H Q I (i σ H Q q)⟩
theorem PT.to {t t' : TT} (h : PT X e t) (i : ∀ σ H Q, t' σ H Q → t σ H Q) : PT X e t' := ⟨fun pins s σ H Q I q => h.run pins s σ H Q I (i σ H Q q)⟩
theorem PW.to {t t' : TT} (h : PW X e t) (i : ∀ σ H Q, t' σ H Q → t σ H Q) : PW X e t' := ⟨fun wh pins s σ H Q I q => h.run wh pins s σ H Q I (i σ H Q q)⟩
theorem PA.to {t t' : TA} (h : PA X es t) (i : ∀ σ H Q, t' σ H Q → t σ H Q) : PA X es t' := ⟨fun pos pins s σ H Q I q => h.run pos pins s σ H Q I (i σ H Q q)⟩
theorem PS.to {t t' : TS} (h : PS X st t) (i : ∀ D σ H, t' D σ H → t D σ H) : PS X st t' := ⟨fun pins s σ H D I q => h.run pins s σ H D I (i D σ H q)⟩
theorem PSs.to {t t' : TS} (h : PSs X sts t) (i : ∀ D σ H, t' D σ H → t D σ H) : PSs X sts t' := ⟨fun pins s σ H D I q => h.run pins s σ H D I (i D σ H q)⟩
end
abbrev JE (X : Cx) (n : En) (W : WX) (κ : Nat) (e : Expr) (f : DE) : Prop := PE X e (rdE X.K n W κ f)
abbrev JO (X : Cx) (n : En) (W : WX) (κ : Nat) (e : Expr) (f : DE) : Prop := PE X e (rdO X.K n W κ f)
abbrev JN (X : Cx) (n : En) (W : WX) (κ : Nat) (e : Expr) (f : DN) : Prop := PE X e (rdN X.K n W κ f)
abbrev JT (X : Cx) (n : En) (W : WX) (κ : Nat) (e : Expr) (f : DT) : Prop := PT X e (rdT X.K n W κ f)
abbrev JA (X : Cx) (n : En) (W : WX) (κ : Nat) (es : List Expr) (f : DA) : Prop := PA X es (rdA X.K n W κ f)
abbrev JS (X : Cx) (n : En) (W : WX) (κ : Nat) (st : Stmt) (g : DS) : Prop := PS X st (rdS X.K n W κ g)
abbrev JB (X : Cx) (n : En) (W : WX) (κ : Nat) (sts : List Stmt) (g : DS) : Prop := PSs X sts (rdS X.K n W κ g)
end Wb
/-! WbR: tuple * int, any int. -/
namespace Wb
open PySem PySem.Spec PyProof.Rows L2
theorem tuple_mulSame (l : Addr) (items : Array Value) (n : Nat) (dd : Option Addr) (sl : Array (Option Value)) (x : Int) (u : Tok) (c0 : (decide (x < -(2 ^ 63)) || decide (x ≥ 2 ^ 63)) = false) (c1 : (items.isEmpty || x == 1) = true) :
    Meets (Builtin.«tuple.__mul__» ⟨[.ref l, .int x u], []⟩) (fun _ R s => s.heap.get? l = some { cls := .type "tuple", dict := dd, data := .seq items n, slots := sl } ∧ R (.ok (.ret (Value.ref l))) s) :=
  .of_wp fun prog w A R s h => by
    obtain ⟨hp, g, d, tk, os⟩ := s
    obtain ⟨hl, h⟩ := h
    have f1 := AutoSeq1.idx_int
    wp_walk using wpAny_loadPart' hl
    first
      | exact ⟨_, rfl, h⟩
      | (refine wpAny_ite_false (decide_eq_false (by rw [c0]; exact Bool.false_ne_true)) ?_
         wp_walk using wpAny_loadPart' hl
         first
          | exact ⟨_, rfl, h⟩
          | (refine wpAny_ite_true (decide_eq_true c1) ?_
             wp_walk using wpAny_loadPart' hl
             exact ⟨_, rfl, h⟩))
theorem tuple_mulNone (l : Addr) (items : Array Value) (n : Nat) (dd : Option Addr) (sl : Array (Option Value)) (x : Int) (u : Tok) (c0 : (decide (x < -(2 ^ 63)) || decide (x ≥ 2 ^ 63)) = false) (c1 : (items.isEmpty || x == 1) = false) (c2 : (decide (x ≤ 0) || items.isEmpty) = true) :
    Meets (Builtin.«tuple.__mul__» ⟨[.ref l, .int x u], []⟩) (fun _ R s => s.heap.get? l = some { cls := .type "tuple", dict := dd, data := .seq items n, slots := sl } ∧
      R (.ok (.ret (Value.ref s.heap.objs.size))) { s with heap := s.heap.push { cls := Value.type "tuple", data := Data.seq #[] }, toks := s.toks }) :=
  .of_wp fun prog w A R s h => by
    obtain ⟨hp, g, d, tk, os⟩ := s
    obtain ⟨hl, h⟩ := h
    have f1 := AutoSeq1.idx_int
    wp_walk using wpAny_loadPart' hl
    repeat (first
      | (refine wpAny_ite_false (decide_eq_false (by rw [c0]; exact Bool.false_ne_true)) ?_; wp_walk using wpAny_loadPart' hl)
      | (refine wpAny_ite_false (decide_eq_false (by rw [c1]; exact Bool.false_ne_true)) ?_; wp_walk using wpAny_loadPart' hl)
      | (refine wpAny_ite_true (decide_eq_true c2) ?_; wp_walk using wpAny_loadPart' hl))
    exact ⟨_, rfl, h⟩
def rRepTA (K : Frag) : R2 := fun x y H Q => ∃ l k xs, x = .ref l ∧ y = .int k ∧ SqT K H l xs ∧ k ≤ 100000 ∧ -100000 ≤ k ∧ xs.length * k.toNat ≤ 100000 ∧
  ((k = 1 ∨ xs = []) → Q (.ref l) H) ∧ (¬ (k = 1 ∨ xs = []) → ∀ p, H p = none → Q (.ref p) (upd H p (.tup (List.replicate k.toNat xs).flatten)))
theorem op_repTA {X : Cx} : OpR X (binaryOp .Mult) (rRepTA X.K) := by
  intro pins s σ H x y v u Q I rx ry h
  obtain ⟨l, k, xs, rfl, rfl, hT, hk, hk0, hz, qs, qn⟩ := h
  cases rx
  obtain ⟨t, rfl⟩ := ry
  obtain ⟨its, r, ⟨⟨cls, dd, data, sl⟩, ho, hc, n, hd⟩, hs⟩ := I.tuple hT
  simp only at hc hd
  subst hc hd
  have hle : its.length = xs.length := r.length.symm
  have c0 : (decide (k < -(2 ^ 63)) || decide (k ≥ 2 ^ 63)) = false := by
    rw [decide_eq_false (by omega), decide_eq_false (by omega)] <;> rfl
  by_cases h1 : k = 1 ∨ xs = []
  · have c1 : (its.toArray.isEmpty || k == 1) = true := by
      rcases h1 with rfl | rfl
      · simp
      · cases r
        rfl
    refine wpAny_binaryOp_repeat_ref (T := "tuple") (U := "int") (by decide) ⟨_, ho, rfl⟩ (fun s' => typeIs_int s' k t) noFill_tuple_mul F.fills_int_mul F.slot_int_rmul repeat_tuple F.slot_int_index.lookup
      (call_meets F.slot_int_rmul (typeIs_int s k t) F.entry_int_rmul (F.args_int_rmul_2 _ _) (int_rmul_tuple k t l its.toArray n dd sl)
        ⟨ho, rfl, ⟨_, ho, rfl⟩, call_meets F.slot_tuple_mul ⟨_, ho, rfl⟩ F.entry_tuple_mul (F.args_tuple_mul_2 _ _) (tuple_mulSame l its.toArray n dd sl k t c0 c1) ⟨ho, ?_⟩⟩)
    exact ⟨.ref l, H, I, rfl, qs h1⟩
  · have hx : xs ≠ [] := fun e => h1 (.inr e)
    have hn : its ≠ [] := fun e => hx (List.eq_nil_of_length_eq_zero (by rw [← hle, e]; rfl))
    have hi : its.toArray.isEmpty = false := by
      cases its with
      | nil => exact absurd rfl hn
      | cons a b => rfl
    have c1 : (its.toArray.isEmpty || k == 1) = false := by
      rw [hi, Bool.false_or]
      exact beq_eq_false_iff_ne.mpr fun e => h1 (.inl e)
    by_cases h2 : k ≤ 0
    · have c2 : (decide (k ≤ 0) || its.toArray.isEmpty) = true := by rw [decide_eq_true h2]; rfl
      refine wpAny_binaryOp_repeat_ref (T := "tuple") (U := "int") (by decide) ⟨_, ho, rfl⟩ (fun s' => typeIs_int s' k t) noFill_tuple_mul F.fills_int_mul F.slot_int_rmul repeat_tuple F.slot_int_index.lookup
        (call_meets F.slot_int_rmul (typeIs_int s k t) F.entry_int_rmul (F.args_int_rmul_2 _ _) (int_rmul_tuple k t l its.toArray n dd sl)
          ⟨ho, rfl, ⟨_, ho, rfl⟩, call_meets F.slot_tuple_mul ⟨_, ho, rfl⟩ F.entry_tuple_mul (F.args_tuple_mul_2 _ _) (tuple_mulNone l its.toArray n dd sl k t c0 c1 c2) ⟨ho, ?_⟩⟩)
      have e0 : k.toNat = 0 := by omega
      have qn := qn h1
      rw [e0] at qn
      refine ⟨.ref s.heap.objs.size, _, I.laid (t' := s.toks) (o := .tup []) (fun b ob q => Heap.get?_push_of_some _ q) (Nat.le_refl _) ?_, rfl, qn _ (I.hok.fresh (Nat.le_refl _))⟩
      exact ⟨by show 0 ≤ sizeLine; exact Nat.zero_le _, [], .nil, IsTup.new _ _⟩
    · have hsz0 : its.toArray.size = xs.length := by rw [List.size_toArray, hle]
      have hm : ((its.toArray.size : Nat) : Int) * k ≤ 100000 := by
        rw [hsz0]
        have e : ((k.toNat : Nat) : Int) = k := by omega
        have q : ((xs.length * k.toNat : Nat) : Int) ≤ ((100000 : Nat) : Int) := Int.ofNat_le.mpr hz
        rw [Int.natCast_mul, e] at q
        exact q
      have flen : (List.replicate k.toNat its).flatten.length ≤ sizeLine := by
        rw [PyProof.Rows.lm_len_rep_flat, hle, sizeLine_eq]
        rw [Nat.mul_comm]
        omega
      have c2 : (decide (k ≤ 0) || its.toArray.isEmpty) = false := by
        rw [hi, Bool.or_false]
        exact decide_eq_false h2
      have c4 : Builtin.Tuple.tupleTooMany (((its.toArray.size : Nat) : Int) * k) = false := by
        unfold Builtin.Tuple.tupleTooMany
        rw [sizeLine_eq]
        exact decide_eq_false (by omega)
      refine wpAny_binaryOp_repeat_ref (T := "tuple") (U := "int") (by decide) ⟨_, ho, rfl⟩ (fun s' => typeIs_int s' k t) noFill_tuple_mul F.fills_int_mul F.slot_int_rmul repeat_tuple F.slot_int_index.lookup
        (call_meets F.slot_int_rmul (typeIs_int s k t) F.entry_int_rmul (F.args_int_rmul_2 _ _) (int_rmul_tuple k t l its.toArray n dd sl)
          ⟨ho, rfl, ⟨_, ho, rfl⟩, call_meets F.slot_tuple_mul ⟨_, ho, rfl⟩ F.entry_tuple_mul (F.args_tuple_mul_2 _ _) (tuple_mulW l its.toArray n dd sl k t c0 c1 c2 (by omega) c4 (by rw [size_rep, List.size_toArray]; exact flen)) ⟨ho, ?_⟩⟩)
      rw [size_rep]
      refine ⟨.ref s.heap.objs.size, _, I.laid (t' := s.toks) (o := .tup (List.replicate k.toNat xs).flatten) (fun b ob q => Heap.get?_push_of_some _ q) (Nat.le_refl _) ?_, rfl, qn h1 _ (I.hok.fresh (Nat.le_refl _))⟩
      exact ⟨by rw [PyProof.Rows.lm_len_rep_flat, sizeLine_eq, Nat.mul_comm]; omega, _, r.rep k.toNat, IsTup.new _ _⟩
end Wb
/-! Wb4: expressions read as data. -/
namespace Wb
open PySem PySem.Spec PyProof.Rows L2

/-! ### the words of the readings -/
def onD : DV → (PD → Prop) → Prop
  | .d x, R => R x
  | _, _ => False
def onB : DV → (Bool → Prop) → Prop
  | .d (.bool b), R => R b
  | _, _ => False
def onI : DV → (Int → Prop) → Prop
  | .d (.int i), R => R i
  | _, _ => False
def allD : List DV → (List PD → Prop) → Prop
  | [], R => R []
  | .d x :: r, R => allD r fun xs => R (x :: xs)
  | _ :: _, _ => False
def slV : Option Sl → (DV → Prop) → Prop
  | some (.v x), R => R x
  | _, _ => False
def slO : Option Sl → (DV → Prop) → Prop
  | some (.v x), R => R x
  | some (.own xs), R => R (.d (.list xs))
  | _, _ => False
def dVar (i : Nat) : DE := fun ρ R _ => slV ρ[i]? R
def dOwn (i : Nat) : DE := fun ρ R _ => slO ρ[i]? R
def dC (x : PD) : DE := fun _ R _ => R (.d x)
def d2 (g : DV → DV → (DV → Prop) → Prop) (f h : DE) : DE := fun ρ R E => f ρ (fun x => h ρ (fun y => g x y R) E) E
def d1 (g : DV → (DV → Prop) → Prop) (f : DE) : DE := fun ρ R E => f ρ (fun x => g x R) E
def dN2 (f : DN) : DE := fun ρ R E => f ρ (fun xs => R (.d (.list xs))) E
def aNil : DA := fun _ R _ => R []
def aCons (f : DE) (g : DA) : DA := fun ρ R E => f ρ (fun x => g ρ (fun xs => R (x :: xs)) E) E
def dTup (f : DA) : DE := fun ρ R E => f ρ (fun xs => allD xs fun ds => ds.length ≤ 100000 ∧ R (.d (.tuple ds))) E
def nLst (f : DA) : DN := fun ρ R E => f ρ (fun xs => allD xs fun ds => ds.length ≤ 100000 ∧ R ds) E
/-- a def's meaning: the arguments, what is wanted of the answer, of an error -/
abbrev Fn := List DV → (DV → Prop) → EK → Prop
def dCall (g : Fn) (f : DA) : DE := fun ρ R E => f ρ (fun xs => g xs R E) E
def dBi (g : List DV → (DV → Prop) → Prop) (f : DA) : DE := fun ρ R E => f ρ (fun xs => g xs R) E
def tVal (f : DE) : DT := fun ρ R E => f ρ (fun x => onB x R) E
def tNot' (f : DT) : DT := fun ρ R E => f ρ (fun b => R (!b)) E
def tAnd' (f g : DT) : DT := fun ρ R E => f ρ (fun b => if b = true then g ρ R E else R false) E
def tOr' (f g : DT) : DT := fun ρ R E => f ρ (fun b => if b = true then R true else g ρ R E) E
def dAnd (f g : DE) : DE := fun ρ R E => f ρ (fun x => onB x fun b => if b = true then g ρ R E else R (.d (.bool false))) E
def dOr (f g : DE) : DE := fun ρ R E => f ρ (fun x => onB x fun b => if b = true then R (.d (.bool true)) else g ρ R E) E
def dNot (f : DE) : DE := fun ρ R E => f ρ (fun x => onB x fun b => R (.d (.bool (!b)))) E
def dIf (t : DT) (f g : DE) : DE := fun ρ R E => t ρ (fun b => if b = true then f ρ R E else g ρ R E) E
/-- a op b op' c -/
def dChain (g g' : DV → DV → (DV → Prop) → Prop) (f h k : DE) : DE := fun ρ R E => f ρ (fun x => h ρ (fun y => g x y fun z => onB z fun b => if b = true then k ρ (fun w => g' y w R) E else R (.d (.bool false))) E) E

/-! the operators -/
def gI (C : Int → Int → Prop) (f : Int → Int → PD) : DV → DV → (DV → Prop) → Prop
  | .d (.int i), .d (.int j), R => C i j ∧ R (.d (f i j))
  | _, _, _ => False
def gI0 (f : Int → Int → PD) : DV → DV → (DV → Prop) → Prop
  | .d (.int i), .d (.int j), R => R (.d (f i j))
  | _, _, _ => False
def gAdd : DV → DV → (DV → Prop) → Prop
  | .d (.int i), .d (.int j), R => R (.d (.int (i + j)))
  | .d (.str i), .d (.str j), R => i.length + j.length ≤ 100000 ∧ R (.d (.str (i ++ j)))
  | .d (.list i), .d (.list j), R => i.length + j.length ≤ 100000 ∧ R (.d (.list (i ++ j)))
  | .d (.tuple i), .d (.tuple j), R => i.length + j.length ≤ 100000 ∧ R (.d (.tuple (i ++ j)))
  | _, _, _ => False
abbrev gSub := gI0 fun i j => .int (i - j)
/-- the sizes that a product may have -/
def MulOk (i j : Int) : Prop := ∃ a b : Nat, i.natAbs < 2 ^ a ∧ j.natAbs < 2 ^ b ∧ a + b ≤ 134217728
def gMul : DV → DV → (DV → Prop) → Prop
  | .d (.int i), .d (.int j), R => MulOk i j ∧ R (.d (.int (i * j)))
  | .d (.list xs), .d (.int k), R => (0 ≤ k ∧ k ≤ 100000) ∧ xs.length * k.toNat ≤ 100000 ∧ R (.d (.list (List.replicate k.toNat xs).flatten))
  | .d (.tuple xs), .d (.int k), R => (-100000 ≤ k ∧ k ≤ 100000) ∧ xs.length * k.toNat ≤ 100000 ∧ R (.d (.tuple (List.replicate k.toNat xs).flatten))
  | _, _, _ => False
def FdivOk (i j : Int) : Prop := j ≠ 0 ∧ j.natAbs < 2 ^ 9000
abbrev gFdiv := gI FdivOk fun i j => .int (i.fdiv j)
abbrev gMod := gI (fun _ j => j ≠ 0) fun i j => .int (i.fmod j)
abbrev gPow := gI CPow fun i j => .int (i ^ j.toNat)
abbrev gLt := gI0 fun i j => .bool (decide (i < j))
abbrev gLe := gI0 fun i j => .bool (decide (i ≤ j))
abbrev gGt := gI0 fun i j => .bool (decide (j < i))
abbrev gGe := gI0 fun i j => .bool (decide (j ≤ i))
/-- what == may compare -/
def Sh (x : PD) : Prop := SeqAt.shaped x = true
def gEq : DV → DV → (DV → Prop) → Prop
  | .d (.str x), .d (.str y), R => R (.d (.bool (decide (x = y))))
  | .d x, .d y, R => Sh x ∧ Sh y ∧ R (.d (.bool (PyData.eqv x y)))
  | _, _, _ => False
def gNe : DV → DV → (DV → Prop) → Prop
  | .d (.str x), .d (.str y), R => R (.d (.bool (!decide (x = y))))
  | .d x, .d y, R => Sh x ∧ Sh y ∧ R (.d (.bool (!PyData.eqv x y)))
  | _, _, _ => False
def flatD : PD → Bool
  | .none => true
  | .bool _ => true
  | .int _ => true
  | .str _ => true
  | _ => false
def gIn : DV → DV → (DV → Prop) → Prop
  | .d x, .d (.list ys), R => Sh x ∧ Sh (.list ys) ∧ R (.d (.bool (ys.any fun z => PyData.eqv z x)))
  | .d x, .d (.tuple ys), R => flatD x = true ∧ ys.all flatD = true ∧ R (.d (.bool (ys.any fun z => PyData.eqv z x)))
  | _, _, _ => False
def gNotIn : DV → DV → (DV → Prop) → Prop
  | .d x, .d (.list ys), R => Sh x ∧ Sh (.list ys) ∧ R (.d (.bool (!ys.any fun z => PyData.eqv z x)))
  | .d x, .d (.tuple ys), R => flatD x = true ∧ ys.all flatD = true ∧ R (.d (.bool (!ys.any fun z => PyData.eqv z x)))
  | _, _, _ => False
def gIsN : DV → (DV → Prop) → Prop
  | .d .none, R => R (.d (.bool true))
  | _, R => R (.d (.bool false))
def gNotN : DV → (DV → Prop) → Prop
  | .d .none, R => R (.d (.bool false))
  | _, R => R (.d (.bool true))
def gNeg : DV → (DV → Prop) → Prop
  | .d (.int i), R => R (.d (.int (-i)))
  | _, _ => False
/-- the script, indexed -/
def gIxS : Option (List Int) → DV → (DV → Prop) → Prop
  | some ns, .d (.int i), R => ∃ y, atI ns i = some y ∧ R (.d (.int y))
  | _, _, _ => False
def gIx : DV → DV → (DV → Prop) → Prop
  | .well o, y, R => gIxS o y R
  | .d (.list xs), .d (.int i), R => ∃ y, atI xs i = some y ∧ R (.d y)
  | .d (.tuple xs), .d (.int i), R => ∃ y, atI xs i = some y ∧ R (.d y)
  | .d (.str s), .d (.int i), R => s.length ≤ 100000 ∧ ∃ c, atI s.cps.toList i = some c ∧ R (.d (.str ⟨#[c]⟩))
  | _, _, _ => False
/-- the built-in class of a datum -/
def tyD : PD → String
  | .none => "NoneType"
  | .bool _ => "bool"
  | .int _ => "int"
  | .str _ => "str"
  | .list _ => "list"
  | .tuple _ => "tuple"
  | .dict _ => "dict"
def subTy (t T : String) : Bool := t == T || (t == "bool" && T == "int")
def gIsi (T : String) : DV → (DV → Prop) → Prop
  | .d x, R => R (.d (.bool (subTy (tyD x) T)))
  | _, _ => False
def lenS : Option (List Int) → (DV → Prop) → Prop
  | some ns, R => R (.d (.int ns.length))
  | _, _ => False
def bLen : List DV → (DV → Prop) → Prop
  | [.well o], R => lenS o R
  | [.d (.list xs)], R => R (.d (.int xs.length))
  | [.d (.tuple xs)], R => R (.d (.int xs.length))
  | [.d (.str s)], R => s.length ≤ 100000 ∧ R (.d (.int s.length))
  | _, _ => False
def bAbs : List DV → (DV → Prop) → Prop
  | [.d (.int i)], R => R (.d (.int (i.natAbs : Nat)))
  | _, _ => False
def bInt : List DV → (DV → Prop) → Prop
  | [.d (.int i)], R => R (.d (.int i))
  | [.d (.bool b)], R => R (.d (.int (if b then 1 else 0)))
  | _, _ => False
def bMax2 : List DV → (DV → Prop) → Prop
  | [.d (.int i), .d (.int j)], R => R (.d (.int (if j > i then j else i)))
  | _, _ => False
def bMin2 : List DV → (DV → Prop) → Prop
  | [.d (.int i), .d (.int j)], R => R (.d (.int (if j < i then j else i)))
  | _, _ => False
def asInts : List PD → Option (List Int)
  | [] => some []
  | .int i :: r => (asInts r).map (i :: ·)
  | _ :: _ => none
def asBools : List PD → Option (List Bool)
  | [] => some []
  | .bool i :: r => (asBools r).map (i :: ·)
  | _ :: _ => none
def bSum : List DV → (DV → Prop) → Prop
  | [.d (.list xs)], R => ∃ ns, asInts xs = some ns ∧ R (.d (.int ns.sum))
  | _, _ => False
def bAll : List DV → (DV → Prop) → Prop
  | [.d (.list xs)], R => ∃ bs, asBools xs = some bs ∧ R (.d (.bool (bs.all id)))
  | _, _ => False
def bAny : List DV → (DV → Prop) → Prop
  | [.d (.list xs)], R => ∃ bs, asBools xs = some bs ∧ R (.d (.bool (bs.any id)))
  | _, _ => False
def bGcd : List DV → (DV → Prop) → Prop
  | [.d (.int i), .d (.int j)], R => R (.d (.int ((Nat.gcd i.natAbs j.natAbs : Nat) : Int)))
  | _, _ => False
def bTuple : List DV → (DV → Prop) → Prop
  | [.d (.list xs)], R => R (.d (.tuple xs))
  | [.d (.tuple xs)], R => R (.d (.tuple xs))
  | _, _ => False
def bRepr : List DV → (DV → Prop) → Prop
  | [.d x], R => ROk x ∧ R (.d (.str x.shown))
  | _, _ => False

/-! ### by values -/
section
variable {K : Frag} {n : En} {m κ κ' : Nat} {S H S' H' : Hp} {σ : L2.St} {ρ : List Sl} {v u : V} {x y : DV} {W : WX}
theorem RdOk.post (p : Post n.wl S H S' H') (h : RdOk K n S H v x) : RdOk K n S' H' v x := by
  rcases h with h | ⟨q, vs, xs, rfl, rfl, hw, hq, hd⟩
  · exact .inl (dv_mono p.sS h)
  · exact .inr ⟨q, vs, xs, rfl, rfl, hw, p.kp q _ hq hw, dqAll_mono p.sS hd⟩
/-- data read at the heap -/
theorem RdOk.dq {x : PD} (sm : Same S H) (h : RdOk K n S H v (.d x)) : Dq K H v x := by
  rcases h with h | ⟨q, vs, xs, rfl, e, hw, hq, hd⟩
  · exact dq_mono sm h
  · cases e
    exact .lst hq (dqAll_mono sm hd)
inductive RdAll (K : Frag) (n : En) (S H : Hp) : List V → List DV → Prop
  | nil : RdAll K n S H [] []
  | cons {v : V} {vs : List V} {x : DV} {xs : List DV} : RdOk K n S H v x → RdAll K n S H vs xs → RdAll K n S H (v :: vs) (x :: xs)
theorem RdAll.post (p : Post n.wl S H S' H') : ∀ {vs : List V} {xs : List DV}, RdAll K n S H vs xs → RdAll K n S' H' vs xs
  | _, _, .nil => .nil
  | _, _, .cons h t => .cons (h.post p) (RdAll.post p t)
theorem DvAll.rd : ∀ {vs : List V} {xs : List DV}, DvAll K n S vs xs → RdAll K n S H vs xs
  | _, _, .nil => .nil
  | _, _, .cons h t => .cons (.inl h) (DvAll.rd t)
/-- the list items of what is read, as data of S -/
theorem RdOk.items {xs : List PD} (sm : Same S H) (h : RdOk K n S H v (.d (.list xs))) : ∃ p vs, v = .ref p ∧ H p = some (.lst vs) ∧ DqAll K S vs xs := by
  rcases h with h | ⟨q, vs, xs', rfl, e, hw, hq, hd⟩
  · cases h with
    | lst h1 h2 => exact ⟨_, _, rfl, sm _ _ h1, h2⟩
  · cases e
    exact ⟨q, vs, rfl, hq, hd⟩
theorem RdOk.tup {xs : List PD} (h : RdOk K n S H v (.d (.tuple xs))) : ∃ p vs, v = .ref p ∧ SqT K S p vs ∧ DqAll K S vs xs := by
  rcases h with h | ⟨q, vs, xs', rfl, e, hw, hq, hd⟩
  · cases h with
    | tup h1 h2 => exact ⟨_, _, rfl, h1, h2⟩
  · cases e
theorem RdOk.int {i : Int} (h : RdOk K n S H v (.d (.int i))) : v = .int i := by
  rcases h with h | ⟨q, vs, xs', rfl, e, _⟩
  · cases h; rfl
  · cases e
theorem RdOk.bool {b : Bool} (h : RdOk K n S H v (.d (.bool b))) : v = .bl b := by
  rcases h with h | ⟨q, vs, xs', rfl, e, _⟩
  · cases h; rfl
  · cases e
theorem RdOk.str {b : Str} (h : RdOk K n S H v (.d (.str b))) : v = .str b := by
  rcases h with h | ⟨q, vs, xs', rfl, e, _⟩
  · cases h; rfl
  · cases e
/-- what a rule for two values must give -/
def OpD (K : Frag) (r : R2) (g : DV → DV → (DV → Prop) → Prop) : Prop := ∀ (n : En) (S H : Hp) (x y : DV) (v u : V) (R : DV → Prop) (Q : VK), Same S H → RdOk K n S H v x → RdOk K n S H u y → g x y R →
  (∀ z w S' H', R z → Grow S H S' H' → DvOk K n S' w z → Q w H') → r v u H Q
def UnD (K : Frag) (r : V → Hp → VK → Prop) (g : DV → (DV → Prop) → Prop) : Prop := ∀ (n : En) (S H : Hp) (x : DV) (v : V) (R : DV → Prop) (Q : VK), Same S H → RdOk K n S H v x → g x R →
  (∀ z w S' H', R z → Grow S H S' H' → DvOk K n S' w z → Q w H') → r v H Q
def CaD (K : Frag) (r : List V → Hp → VK → Prop) (g : List DV → (DV → Prop) → Prop) : Prop := ∀ (n : En) (S H : Hp) (xs : List DV) (vs : List V) (R : DV → Prop) (Q : VK), Same S H → RdAll K n S H vs xs → g xs R →
  (∀ z w S' H', R z → Grow S H S' H' → DvOk K n S' w z → Q w H') → r vs H Q
end

section
variable {K : Frag}
theorem opD_I {C : Int → Int → Prop} {f : Int → Int → PD} {fv : Int → Int → V} (hf : ∀ i j (S : Hp), Dq K S (fv i j) (f i j)) : OpD K (rI C fv) (gI C f) := by
  intro n S H x y v u R Q sm hx hy hg q
  match x, y, hg with
  | .d (.int i), .d (.int j), ⟨hc, hr⟩ => exact ⟨i, j, hx.int, hy.int, hc, q _ _ _ _ hr (Grow.refl sm) (hf i j S)⟩
theorem opD_I0 {f : Int → Int → PD} {fv : Int → Int → V} (hf : ∀ i j (S : Hp), Dq K S (fv i j) (f i j)) : OpD K (rI0 fv) (gI0 f) := by
  intro n S H x y v u R Q sm hx hy hg q
  match x, y, hg with
  | .d (.int i), .d (.int j), hr => exact ⟨i, j, hx.int, hy.int, q _ _ _ _ hr (Grow.refl sm) (hf i j S)⟩
def rAddS : R2 := fun x y H Q => ∃ i j, x = .str i ∧ y = .str j ∧ i.length + j.length ≤ sizeLine ∧ Q (.str (i ++ j)) H
def rAdd (K : Frag) : R2 := fun x y H Q => (rI0 (fun i j => .int (i + j)) x y H Q) ∨ (rAddS x y H Q ∨ (rCat x y H Q ∨ rCatA K x y H Q))
theorem line5 {a : Nat} (h : a ≤ 100000) : a ≤ sizeLine := Nat.le_trans h (by rw [sizeLine_eq]; decide)
theorem opD_add : OpD K (rAdd K) gAdd := by
  intro n S H x y v u R Q sm hx hy hg q
  match x, y, hg with
  | .d (.int i), .d (.int j), hr => exact .inl ⟨i, j, hx.int, hy.int, q _ _ _ _ hr (Grow.refl sm) (.int _)⟩
  | .d (.str i), .d (.str j), ⟨hl, hr⟩ => exact .inr (.inl ⟨i, j, hx.str, hy.str, line5 hl, q _ _ _ _ hr (Grow.refl sm) (.str _)⟩)
  | .d (.list xs), .d (.list ys), ⟨hl, hr⟩ =>
    obtain ⟨p, vs, rfl, hp, hd⟩ := hx.items sm
    obtain ⟨p2, us, rfl, hp2, hd2⟩ := hy.items sm
    refine .inr (.inr (.inl ⟨p, p2, vs, us, rfl, rfl, hp, hp2, line5 (by rw [hd.len, hd2.len]; exact hl), fun a ha => ?_⟩))
    have g := Grow.new (o := .lst (vs ++ us)) sm ha
    exact q _ _ _ _ hr g (dq_lst upd_same (dqAll_mono g.po.sS (hd.app hd2)))
  | .d (.tuple xs), .d (.tuple ys), ⟨hl, hr⟩ =>
    obtain ⟨p, vs, rfl, hp, hd⟩ := hx.tup
    obtain ⟨p2, us, rfl, hp2, hd2⟩ := hy.tup
    have hz : vs.length + us.length ≤ sizeLine := line5 (by rw [hd.len, hd2.len]; exact hl)
    have e1 : vs.length = xs.length := hd.len
    have e2 : us.length = ys.length := hd2.len
    refine .inr (.inr (.inr ⟨p, p2, vs, us, rfl, rfl, sqT_mono sm hp, sqT_mono sm hp2, hz, fun z => ?_, fun z z2 => ?_, fun _ _ a ha => ?_⟩))
    · have : xs = [] := List.length_eq_zero_iff.mp (by rw [← e1, z]; rfl)
      subst this
      exact q _ _ _ _ hr (Grow.refl sm) (.tup hp2 hd2)
    · have : ys = [] := List.length_eq_zero_iff.mp (by rw [← e2, z2]; rfl)
      subst this
      rw [List.append_nil] at hr
      exact q _ _ _ _ hr (Grow.refl sm) (.tup hp hd)
    · have g := Grow.new (o := .tup (vs ++ us)) sm ha
      exact q _ _ _ _ hr g (dq_tup upd_same (dqAll_mono g.po.sS (hd.app hd2)))
def rMulAll (K : Frag) : R2 := fun x y H Q => rI CMulX (fun i j => .int (i * j)) x y H Q ∨ (rRep x y H Q ∨ rRepTA K x y H Q)
theorem repl_dq {S : Hp} {vs : List V} {xs : List PD} (h : DqAll K S vs xs) : ∀ k, DqAll K S (List.replicate k vs).flatten (List.replicate k xs).flatten
  | 0 => .nil
  | k + 1 => by rw [List.replicate_succ, List.replicate_succ, List.flatten_cons, List.flatten_cons]; exact h.app (repl_dq h k)
theorem opD_mul : OpD K (rMulAll K) gMul := by
  intro n S H x y v u R Q sm hx hy hg q
  match x, y, hg with
  | .d (.int i), .d (.int j), ⟨⟨a, b, h1, h2, h3⟩, hr⟩ => exact .inl ⟨i, j, hx.int, hy.int, mulx_ok h1 h2 h3, q _ _ _ _ hr (Grow.refl sm) (.int _)⟩
  | .d (.list xs), .d (.int k), ⟨⟨h0, h1⟩, hl, hr⟩ =>
    obtain ⟨p, vs, rfl, hp, hd⟩ := hx.items sm
    have e := hy.int
    subst e
    refine .inr (.inl ⟨p, k, vs, rfl, rfl, hp, by omega, by omega, line5 (by rw [hd.len]; exact hl), fun a ha => ?_⟩)
    have g := Grow.new (o := .lst (List.replicate k.toNat vs).flatten) sm ha
    exact q _ _ _ _ hr g (dq_lst upd_same (dqAll_mono g.po.sS (repl_dq hd _)))
  | .d (.tuple xs), .d (.int k), ⟨⟨h0, h1⟩, hl, hr⟩ =>
    obtain ⟨p, vs, rfl, hp, hd⟩ := hx.tup
    have e := hy.int
    subst e
    refine .inr (.inr ⟨p, k, vs, rfl, rfl, sqT_mono sm hp, h1, h0, by rw [hd.len]; exact hl, fun h => ?_, fun h a ha => ?_⟩)
    · have e : (List.replicate k.toNat xs).flatten = xs := by
        rcases h with rfl | rfl
        · simp
        · cases hd
          simp
      rw [e] at hr
      exact q _ _ _ _ hr (Grow.refl sm) (.tup hp hd)
    · have g := Grow.new (o := .tup (List.replicate k.toNat vs).flatten) sm ha
      exact q _ _ _ _ hr g (dq_tup upd_same (dqAll_mono g.po.sS (repl_dq hd _)))
theorem opD_eq : OpD K (fun x y H Q => rEq x y H Q ∨ rEqD K x y H Q) gEq := by
  intro n S H x y v u R Q sm hx hy hg q
  have gen : ∀ a b, x = .d a → y = .d b → Sh a ∧ Sh b ∧ R (.d (.bool (PyData.eqv a b))) → (rEq v u H Q ∨ rEqD K v u H Q) := by
    rintro a b rfl rfl ⟨h1, h2, h3⟩
    exact .inr ⟨a, b, (hx.dq sm).dp, (hy.dq sm).dp, h1, h2, q _ _ _ _ h3 (Grow.refl sm) (.bl _)⟩
  cases x with
  | exc _ _ => cases hg
  | well => cases hg
  | d a =>
    cases y with
    | exc _ _ => cases a <;> cases hg
    | well => cases a <;> cases hg
    | d b =>
      by_cases hs : ∃ s t, a = .str s ∧ b = .str t
      · obtain ⟨s, t, rfl, rfl⟩ := hs
        have e1 := hx.str
        have e2 := hy.str
        subst e1 e2
        refine .inl ⟨rfl, ?_⟩
        have hg : R (.d (.bool (decide (s = t)))) := hg
        have e : decide (V.str s = V.str t) = decide (s = t) := by simp
        rw [e]
        exact q _ _ _ _ hg (Grow.refl sm) (.bl _)
      · refine gen a b rfl rfl ?_
        cases a <;> first | exact hg | (cases b <;> first | exact hg | exact absurd ⟨_, _, rfl, rfl⟩ hs)
theorem opD_ne : OpD K (fun x y H Q => rNe x y H Q ∨ rNeD K x y H Q) gNe := by
  intro n S H x y v u R Q sm hx hy hg q
  have gen : ∀ a b, x = .d a → y = .d b → Sh a ∧ Sh b ∧ R (.d (.bool (!PyData.eqv a b))) → (rNe v u H Q ∨ rNeD K v u H Q) := by
    rintro a b rfl rfl ⟨h1, h2, h3⟩
    exact .inr ⟨a, b, (hx.dq sm).dp, (hy.dq sm).dp, h1, h2, q _ _ _ _ h3 (Grow.refl sm) (.bl _)⟩
  cases x with
  | exc _ _ => cases hg
  | well => cases hg
  | d a =>
    cases y with
    | exc _ _ => cases a <;> cases hg
    | well => cases a <;> cases hg
    | d b =>
      by_cases hs : ∃ s t, a = .str s ∧ b = .str t
      · obtain ⟨s, t, rfl, rfl⟩ := hs
        have e1 := hx.str
        have e2 := hy.str
        subst e1 e2
        refine .inl ⟨rfl, ?_⟩
        have hg : R (.d (.bool (!decide (s = t)))) := hg
        have e : decide (V.str s = V.str t) = decide (s = t) := by simp
        rw [e]
        exact q _ _ _ _ hg (Grow.refl sm) (.bl _)
      · refine gen a b rfl rfl ?_
        cases a <;> first | exact hg | (cases b <;> first | exact hg | exact absurd ⟨_, _, rfl, rfl⟩ hs)
theorem flatV_of {S : Hp} {v : V} {x : PD} (h : Dq K S v x) (f : flatD x = true) : flatV v = true := by
  cases h <;> first | rfl | cases f
theorem flatAll_of {S : Hp} : ∀ {vs : List V} {xs : List PD}, DqAll K S vs xs → xs.all flatD = true → vs.all flatV = true
  | _, _, .nil, _ => rfl
  | _, _, .cons h t, f => by
    rw [List.all_cons, Bool.and_eq_true] at f ⊢
    exact ⟨flatV_of h f.1, flatAll_of t f.2⟩
theorem eqV_of {S : Hp} {v u : V} {x y : PD} (hx : Dq K S v x) (hy : Dq K S u y) (fx : flatD x = true) (fy : flatD y = true) : eqV v u = PyData.eqv x y := by
  cases hx <;> first | (cases fx; done) | (cases hy <;> first | (cases fy; done) | simp [eqV, PyData.eqv])
theorem inV_of {S : Hp} {v : V} {x : PD} (hx : Dq K S v x) (fx : flatD x = true) : ∀ {vs : List V} {xs : List PD}, DqAll K S vs xs → xs.all flatD = true → inV v vs = xs.any fun z => PyData.eqv z x
  | _, _, .nil, _ => rfl
  | _, _, .cons h t, f => by
    rw [List.all_cons, Bool.and_eq_true] at f
    unfold inV
    rw [List.any_cons, List.any_cons, eqV_of h hx f.1 fx]
    have := inV_of hx fx t f.2
    unfold inV at this
    rw [this]
theorem opD_in : OpD K (fun x y H Q => rInD K x y H Q ∨ rIn K false x y H Q) gIn := by
  intro n S H x y v u R Q sm hx hy hg q
  match x, y, hg with
  | .d x, .d (.list ys), ⟨h1, h2, hr⟩ => exact .inl ⟨x, ys, (hx.dq sm).dp, (hy.dq sm).dp, h1, h2, q _ _ _ _ hr (Grow.refl sm) (.bl _)⟩
  | .d x, .d (.tuple ys), ⟨h1, h2, hr⟩ =>
    obtain ⟨p, vs, rfl, hp, hd⟩ := hy.tup
    have hxq := hx.dq sm
    have hdH := dqAll_mono sm hd
    refine .inr ⟨p, vs, rfl, .inr (sqT_mono sm hp), flatV_of hxq h1, flatAll_of hdH h2, ?_⟩
    rw [inV_of hxq h1 hdH h2]
    exact q _ _ _ _ hr (Grow.refl sm) (.bl _)
theorem opD_notIn : OpD K (fun x y H Q => rNotInD K x y H Q ∨ rIn K true x y H Q) gNotIn := by
  intro n S H x y v u R Q sm hx hy hg q
  match x, y, hg with
  | .d x, .d (.list ys), ⟨h1, h2, hr⟩ => exact .inl ⟨x, ys, (hx.dq sm).dp, (hy.dq sm).dp, h1, h2, q _ _ _ _ hr (Grow.refl sm) (.bl _)⟩
  | .d x, .d (.tuple ys), ⟨h1, h2, hr⟩ =>
    obtain ⟨p, vs, rfl, hp, hd⟩ := hy.tup
    have hxq := hx.dq sm
    have hdH := dqAll_mono sm hd
    refine .inr ⟨p, vs, rfl, .inr (sqT_mono sm hp), flatV_of hxq h1, flatAll_of hdH h2, ?_⟩
    rw [inV_of hxq h1 hdH h2]
    exact q _ _ _ _ hr (Grow.refl sm) (.bl _)
theorem atI_dq {S : Hp} {vs : List V} {xs : List PD} {i : Int} {y : PD} (h : DqAll K S vs xs) (e : atI xs i = some y) : ∃ v, atI vs i = some v ∧ Dq K S v y := by
  unfold atI at e ⊢
  rw [h.len]
  cases q : ixN xs.length i with
  | none => rw [q] at e; cases e
  | some j =>
    rw [q] at e
    exact h.at e
theorem RdOk.scr {ns : List Int} (sm : Same S H) (h : RdOk K n S H v (.well (some ns))) : ∃ p, v = .ref p ∧ SqL K H p (ns.map V.int) := by
  rcases h with ⟨p, h1, h2⟩ | ⟨_, _, _, _, z, _⟩
  · exact ⟨p, h1, sm.seq h2⟩
  · cases z
theorem atI_map {α β : Type} (f : α → β) {l : List α} {i : Int} {y : α} (h : atI l i = some y) : atI (l.map f) i = some (f y) := by
  unfold atI at h ⊢
  rw [List.length_map]
  cases q : ixN l.length i with
  | none => rw [q] at h; cases h
  | some j =>
    rw [q] at h
    show (l.map f)[j]? = _
    rw [List.getElem?_map, show l[j]? = some y from h]
    rfl
theorem opD_ix : OpD K (rIx K) gIx := by
  intro n S H x y v u R Q sm hx hy hg q
  match x, y, hg with
  | .well o, y, hg =>
    cases o with
    | none => exact hg.elim
    | some ns =>
      have hg : gIxS (some ns) y R := hg
      match y, hg with
      | .d (.int i), ⟨y, e, hr⟩ =>
        obtain ⟨p, rfl, hp⟩ := hx.scr sm
        exact .inl ⟨p, _, i, _, rfl, hy.int, hp, atI_map V.int e, q _ _ _ _ hr (Grow.refl sm) (.int _)⟩
  | .d (.list xs), .d (.int i), ⟨y, e, hr⟩ =>
    obtain ⟨p, vs, rfl, hp, hd⟩ := hx.items sm
    obtain ⟨w, e2, hw⟩ := atI_dq hd e
    exact .inl ⟨p, vs, i, w, rfl, hy.int, SqL.of hp, e2, q _ _ _ _ hr (Grow.refl sm) hw⟩
  | .d (.tuple xs), .d (.int i), ⟨y, e, hr⟩ =>
    obtain ⟨p, vs, rfl, hp, hd⟩ := hx.tup
    obtain ⟨w, e2, hw⟩ := atI_dq hd e
    exact .inr (.inl ⟨p, vs, i, w, rfl, hy.int, sqT_mono sm hp, e2, q _ _ _ _ hr (Grow.refl sm) hw⟩)
  | .d (.str s), .d (.int i), ⟨hl, c, e, hr⟩ => exact .inr (.inr ⟨s, i, c, hx.str, hy.int, line5 hl, e, q _ _ _ _ hr (Grow.refl sm) (.str _)⟩)
theorem unD_neg : UnD K (rU fun i => .int (-i)) gNeg := by
  intro n S H x v R Q sm hx hg q
  match x, hg with
  | .d (.int i), hr => exact ⟨i, hx.int, q _ _ _ _ hr (Grow.refl sm) (.int _)⟩
/-- None, or not: the value's own make tells -/
theorem non_iff {n : En} {S H : Hp} {v : V} {x : DV} (h : RdOk K n S H v x) : (v = .non ↔ x = .d .none) := by
  rcases h with h | ⟨q, vs, xs, rfl, rfl, _⟩
  · cases x with
    | d x => cases h <;> simp
    | exc c x => obtain ⟨a, dd, v', rfl, _⟩ := h; simp
    | well o => cases o <;> (obtain ⟨p, rfl, _⟩ := h; simp)
  · simp
end
section
variable {K : Frag}
theorem caD_len : CaD K (fun xs H Q => (∃ p ys, xs = [.ref p] ∧ (SqL K H p ys ∨ SqT K H p ys) ∧ Q (.int ys.length) H) ∨ ∃ z, xs = [.str z] ∧ z.length ≤ sizeLine ∧ Q (.int z.length) H) bLen := by
  intro n S H xs vs R Q sm hx hg q
  match xs, hx, hg with
  | [.well o], .cons h .nil, hr =>
    cases o with
    | none => exact hr.elim
    | some ns =>
      obtain ⟨p, rfl, hp⟩ := h.scr sm
      refine .inl ⟨p, _, rfl, .inl hp, ?_⟩
      rw [List.length_map]
      exact q _ _ _ _ hr (Grow.refl sm) (.int _)
  | [.d (.list xs)], .cons h .nil, hr =>
    obtain ⟨p, vs, rfl, hp, hd⟩ := h.items sm
    refine .inl ⟨p, vs, rfl, .inl (SqL.of hp), ?_⟩
    rw [hd.len]
    exact q _ _ _ _ hr (Grow.refl sm) (.int _)
  | [.d (.tuple xs)], .cons h .nil, hr =>
    obtain ⟨p, vs, rfl, hp, hd⟩ := h.tup
    refine .inl ⟨p, vs, rfl, .inr (sqT_mono sm hp), ?_⟩
    rw [hd.len]
    exact q _ _ _ _ hr (Grow.refl sm) (.int _)
  | [.d (.str s)], .cons h .nil, ⟨hl, hr⟩ =>
    have e := h.str
    subst e
    exact .inr ⟨s, rfl, line5 hl, q _ _ _ _ hr (Grow.refl sm) (.int _)⟩
theorem caD_abs : CaD K (fun xs H Q => ∃ i, xs = [.int i] ∧ Q (.int (if i < 0 then -i else i)) H) bAbs := by
  intro n S H xs vs R Q sm hx hg q
  match xs, hx, hg with
  | [.d (.int i)], .cons h .nil, hr =>
    have e := h.int
    subst e
    refine ⟨i, rfl, ?_⟩
    have e : (if i < 0 then -i else i) = (i.natAbs : Int) := by split <;> omega
    rw [e]
    exact q _ _ _ _ hr (Grow.refl sm) (.int _)
theorem caD_int : CaD K (fun xs H Q => (∃ i, xs = [.int i] ∧ Q (.int i) H) ∨ ∃ k, xs = [.bl k] ∧ Q (.int (if k then 1 else 0)) H) bInt := by
  intro n S H xs vs R Q sm hx hg q
  match xs, hx, hg with
  | [.d (.int i)], .cons h .nil, hr =>
    have e := h.int
    subst e
    exact .inl ⟨i, rfl, q _ _ _ _ hr (Grow.refl sm) (.int _)⟩
  | [.d (.bool i)], .cons h .nil, hr =>
    have e := h.bool
    subst e
    exact .inr ⟨i, rfl, q _ _ _ _ hr (Grow.refl sm) (.int _)⟩
theorem caD_max2 : CaD K (fun xs H Q => ∃ i j, xs = [.int i, .int j] ∧ Q (.int (if j > i then j else i)) H) bMax2 := by
  intro n S H xs vs R Q sm hx hg q
  match xs, hx, hg with
  | [.d (.int i), .d (.int j)], .cons h (.cons h2 .nil), hr =>
    have e := h.int
    have e2 := h2.int
    subst e e2
    exact ⟨i, j, rfl, q _ _ _ _ hr (Grow.refl sm) (.int _)⟩
theorem caD_min2 : CaD K (fun xs H Q => ∃ i j, xs = [.int i, .int j] ∧ Q (.int (if j < i then j else i)) H) bMin2 := by
  intro n S H xs vs R Q sm hx hg q
  match xs, hx, hg with
  | [.d (.int i), .d (.int j)], .cons h (.cons h2 .nil), hr =>
    have e := h.int
    have e2 := h2.int
    subst e e2
    exact ⟨i, j, rfl, q _ _ _ _ hr (Grow.refl sm) (.int _)⟩
theorem ints_of {S : Hp} : ∀ {vs : List V} {xs : List PD} {ns : List Int}, DqAll K S vs xs → asInts xs = some ns → vs = ns.map V.int
  | _, _, _, .nil, e => by cases e; rfl
  | _, .int i :: r, ns, .cons h t, e => by
    cases h
    unfold asInts at e
    cases q : asInts r with
    | none => rw [q] at e; cases e
    | some l =>
      rw [q] at e
      cases e
      rw [ints_of t q, List.map_cons]
theorem bools_of {S : Hp} : ∀ {vs : List V} {xs : List PD} {ns : List Bool}, DqAll K S vs xs → asBools xs = some ns → vs = ns.map V.bl
  | _, _, _, .nil, e => by cases e; rfl
  | _, .bool i :: r, ns, .cons h t, e => by
    cases h
    unfold asBools at e
    cases q : asBools r with
    | none => rw [q] at e; cases e
    | some l =>
      rw [q] at e
      cases e
      rw [bools_of t q, List.map_cons]
theorem caD_sum : CaD K (rSum K) bSum := by
  intro n S H xs vs R Q sm hx hg q
  match xs, hx, hg with
  | [.d (.list xs)], .cons h .nil, ⟨ns, e, hr⟩ =>
    obtain ⟨p, vs, rfl, hp, hd⟩ := h.items sm
    have z := ints_of hd e
    subst z
    exact ⟨p, ns, rfl, SqL.of hp, q _ _ _ _ hr (Grow.refl sm) (.int _)⟩
theorem caD_all : CaD K (rAll K) bAll := by
  intro n S H xs vs R Q sm hx hg q
  match xs, hx, hg with
  | [.d (.list xs)], .cons h .nil, ⟨ns, e, hr⟩ =>
    obtain ⟨p, vs, rfl, hp, hd⟩ := h.items sm
    have z := bools_of hd e
    subst z
    exact ⟨p, ns, rfl, SqL.of hp, q _ _ _ _ hr (Grow.refl sm) (.bl _)⟩
theorem caD_any : CaD K (rAny K) bAny := by
  intro n S H xs vs R Q sm hx hg q
  match xs, hx, hg with
  | [.d (.list xs)], .cons h .nil, ⟨ns, e, hr⟩ =>
    obtain ⟨p, vs, rfl, hp, hd⟩ := h.items sm
    have z := bools_of hd e
    subst z
    exact ⟨p, ns, rfl, SqL.of hp, q _ _ _ _ hr (Grow.refl sm) (.bl _)⟩
theorem caD_gcd : CaD K rGcd bGcd := by
  intro n S H xs vs R Q sm hx hg q
  match xs, hx, hg with
  | [.d (.int i), .d (.int j)], .cons h (.cons h2 .nil), hr =>
    have e := h.int
    have e2 := h2.int
    subst e e2
    exact ⟨i, j, rfl, q _ _ _ _ hr (Grow.refl sm) (.int _)⟩
theorem caD_tuple : CaD K (fun xs H Q => ∃ p ys, xs = [.ref p] ∧ ((SqL K H p ys ∧ ∀ l, H l = none → Q (.ref l) (upd H l (.tup ys))) ∨ (SqT K H p ys ∧ Q (.ref p) H))) bTuple := by
  intro n S H xs vs R Q sm hx hg q
  match xs, hx, hg with
  | [.d (.list xs)], .cons h .nil, hr =>
    obtain ⟨p, vs, rfl, hp, hd⟩ := h.items sm
    refine ⟨p, vs, rfl, .inl ⟨SqL.of hp, fun l hl => ?_⟩⟩
    have g := Grow.new (o := .tup vs) sm hl
    exact q _ _ _ _ hr g (dq_tup upd_same (dqAll_mono g.po.sS hd))
  | [.d (.tuple xs)], .cons h .nil, hr =>
    obtain ⟨p, vs, rfl, hp, hd⟩ := h.tup
    exact ⟨p, vs, rfl, .inr ⟨sqT_mono sm hp, q _ _ _ _ hr (Grow.refl sm) (.tup hp hd)⟩⟩
theorem caD_repr : CaD K (rRepr K) bRepr := by
  intro n S H xs vs R Q sm hx hg q
  match xs, hx, hg with
  | [.d x], .cons (v := v) h .nil, ⟨ho, hr⟩ => exact ⟨v, x, rfl, (h.dq sm).dp, ho, q _ _ _ _ hr (Grow.refl sm) (.str _)⟩
end
end Wb
/-! Wb5: the rules: an expression and its reading as data. -/
namespace Wb
open PySem PySem.Spec PyProof.Rows L2

/-- what every context of ours bears -/
structure Cok (X : Cx) (n : En) (W : WX) (k : Nat) : Prop where
  calm : X.calm = true
  tk : Takes X W
  hr : Room k X.A
  hg : X.A.guards = some []
  nd : X.N.Nodup
theorem Cok.le {X : Cx} {n : En} {W : WX} {j k : Nat} (c : Cok X n W k) (h : j ≤ k) : Cok X n W j := ⟨c.calm, c.tk, c.hr.mono h, c.hg, c.nd⟩
theorem st_split {K : Frag} {n : En} {m a b : Nat} {S H : Hp} {σ : L2.St} {ρ : List Sl} (s : StOk K n (m + (a + b)) S H σ ρ) : StOk K n (m + b + a) S H σ ρ := s.le (by omega)
theorem st_down {K : Frag} {n : En} {m b : Nat} {S H : Hp} {σ : L2.St} {ρ : List Sl} (s : StOk K n (m + b) S H σ ρ) : StOk K n m S H σ ρ := s.le (by omega)

theorem bool_of {K : Frag} {n : En} {S : Hp} {v : V} {x : DV} {P : Bool → Prop} (h : DvOk K n S v x) (hb : onB x P) : ∃ k, v = .bl k ∧ x = .d (.bool k) ∧ P k := by
  cases x with
  | exc _ _ => exact hb.elim
  | well => exact hb.elim
  | d x =>
    cases x with
    | bool k =>
      cases h
      exact ⟨k, rfl, rfl, hb⟩
    | _ => exact hb.elim
section
variable {X : Cx} {n : En} {W : WX} {κ κ' κ2 : Nat} {e a b c : Expr} {es : List Expr} {pos : Pos} {f h g : DE} {fa : DA} {t u : DT}

/-! ### names and constants -/
theorem je_var {i : Nat} {x : Str} (hN : X.N[i]? = some x) (hv : Vis X.env.scope x) (hd : (x == ("__debug__" : Str)) = false) (hcd : (x == ("__classdict__" : Str)) = false) : JE X n W 0 (.Name x pos) (dVar i) := by
  refine PE.to (pe_var hN hv hd hcd) fun σ H Q hq => ?_
  obtain ⟨m, S, ρ, R, Er, st, hf, kR, _⟩ := hq
  obtain ⟨A, h1, _⟩ := st.sl
  unfold dVar slV at hf
  cases q : ρ[i]? with
  | none => rw [q] at hf; exact hf.elim
  | some s =>
    rw [q] at hf
    cases s with
    | no => exact hf.elim
    | own _ => exact hf.elim
    | v x =>
      obtain ⟨v, e, d⟩ := h1 i _ q
      exact ⟨v, e, kR x v S H hf st Post.refl d⟩
theorem jo_own {i : Nat} {x : Str} (hN : X.N[i]? = some x) (hv : Vis X.env.scope x) (hd : (x == ("__debug__" : Str)) = false) (hcd : (x == ("__classdict__" : Str)) = false) : JO X n W 0 (.Name x pos) (dOwn i) := by
  refine PE.to (pe_var hN hv hd hcd) fun σ H Q hq => ?_
  obtain ⟨m, S, ρ, R, Er, st, hf, kR, _⟩ := hq
  obtain ⟨A, h1, _⟩ := st.sl
  unfold dOwn slO at hf
  cases q : ρ[i]? with
  | none => rw [q] at hf; exact hf.elim
  | some s =>
    rw [q] at hf
    cases s with
    | no => exact hf.elim
    | own xs =>
      obtain ⟨e, _, _, hw, vs, hp, d⟩ := h1 i _ q
      exact ⟨_, e, kR _ _ S H hf st Post.refl (.inr ⟨_, vs, xs, rfl, rfl, hw, hp, d⟩)⟩
    | v x =>
      obtain ⟨v, e, d⟩ := h1 i _ q
      exact ⟨v, e, kR x v S H hf st Post.refl (.inl d)⟩
theorem je_c {v : V} {x : PD} (he : PE X e (tC v)) (hx : ∀ S, Dq X.K S v x) : JE X n W 0 e (dC x) := by
  refine PE.to he fun σ H Q hq => ?_
  obtain ⟨m, S, ρ, R, Er, st, hf, kR, _⟩ := hq
  exact kR _ v S H hf st Post.refl (hx S)
theorem je_int {i : Int} {j : Nat} : JE X n W 0 (.Constant (.int i) j pos) (dC (.int i)) := je_c pe_int fun _ => .int i
theorem je_bl {i : Bool} {j : Nat} : JE X n W 0 (.Constant (.bool i) j pos) (dC (.bool i)) := je_c pe_bl fun _ => .bl i
theorem je_non {j : Nat} : JE X n W 0 (.Constant .none j pos) (dC .none) := je_c pe_non fun _ => .non
theorem je_str {i : Str} {j : Nat} : JE X n W 0 (.Constant (.str i) j pos) (dC (.str i)) := je_c pe_str fun _ => .str i
theorem je_glob {x : Str} {v : V} {uv : Value} {d : PD} (hg : Gl X x) (hm : X.mg x = some uv) (r : RelV v uv) (hx : ∀ S, Dq X.K S v d) (hd : (x == ("__debug__" : Str)) = false) : JE X n W 0 (.Name x pos) (dC d) :=
  je_c (pe_glob hg hm r hd) hx
/-- data may be read -/
theorem je_o (he : JE X n W κ e f) : JO X n W κ e f := PE.to he fun σ H Q ⟨m, S, ρ, R, Er, st, hf, kR, kE⟩ => ⟨m, S, ρ, R, Er, st, hf, fun x v S' H' hx st' p d => kR x v S' H' hx st' p (.inl d), kE⟩
/-- a new list is data, if nobody changes it -/
theorem jn_e {f : DN} (he : JN X n W κ e f) : JE X n W κ e (dN2 f) := by
  refine PE.to he fun σ H Q ⟨m, S, ρ, R, Er, st, hf, kR, kE⟩ => ⟨m, S, ρ, _, Er, st, hf, fun xs p vs S' H' hx st' po np sp hp d => ?_, kE⟩
  have sS : Same S' (upd S' p (.lst vs)) := fun b o e => by rw [upd_ne (ne_of_none e sp)]; exact e
  have wn : n.wl ≠ some p := fun z => by
    obtain ⟨_, a, b, c, hw, _⟩ := st.wd.we p z
    rw [np] at hw
    cases hw
  have po' : Post n.wl S H (upd S' p (.lst vs)) H' := ⟨po.sS.trans sS, fun a ha sa => by
    have : a ≠ p := fun z => ha (z ▸ np)
    rw [upd_ne this]; exact po.fr a ha sa, po.kp, po.al⟩
  have wd' : Wd n.wl m (upd S' p (.lst vs)) H' := ⟨fun b o e => by
      by_cases z : b = p
      · rw [z, upd_same] at e; rw [z, hp]; exact e
      · rw [upd_ne z] at e; exact st'.wd.sm b o e, fun q e => by
      obtain ⟨w1, w2⟩ := st'.wd.we q e
      exact ⟨by rw [upd_ne (fun z => wn (by rw [← z]; exact e))]; exact w1, w2⟩⟩
  exact kR _ _ _ _ hx (st.step po' wd') po' (dq_lst upd_same (dqAll_mono sS d))

/-! ### two operands -/
theorem j2 {r : R2} {gg : DV → DV → (DV → Prop) → Prop} (hr : OpD X.K r gg) {K : Frag} (eK : K = X.K) {Q : VK} {σ : L2.St} {H : Hp} (hq : rdE K n W (κ + κ') (d2 gg f h) σ H Q) :
    tOp r (rdO K n W κ f) (rdO K n W κ' h) σ H Q := by
  subst eK
  obtain ⟨m, S, ρ, R, Er, st, hf, kR, kE⟩ := hq
  refine ⟨m + κ', S, ρ, _, Er, st_split st, hf, fun x v S1 H1 hx st1 p1 d1 => ?_, fun c x cls dx S' H' e s' er => kE c x cls dx S' H' e (st_down s') er⟩
  refine ⟨m, S1, ρ, _, Er, st1, hx, fun y u S2 H2 hy st2 p2 d2 => ?_, ke_af p1.sS kE⟩
  exact hr n S2 H2 x y v u R Q st2.wd.sm (d1.post p2) d2 hy fun z w S3 H3 hz g dz => kR z w S3 H3 hz (st2.grow g) ((p1.trans p2).trans g.po.wk) dz
theorem je_op {op : Operator} {r : R2} {gg : DV → DV → (DV → Prop) → Prop} (ho : OpR X (binaryOp op) r) (hr : OpD X.K r gg) (ha : JO X n W κ a f) (hb : JO X n W κ' b h) : JE X n W (κ + κ') (.BinOp a op b pos) (d2 gg f h) :=
  PE.to (pe_op ho ha hb) fun σ H Q hq => j2 hr rfl hq
theorem je_cmp {op : CmpOp} {r : R2} {gg : DV → DV → (DV → Prop) → Prop} (ho : OpR X (compareOp op) r) (hr : OpD X.K r gg) (ha : JO X n W κ a f) (hb : JO X n W κ' b h) (hm : behindInMarks op b = false) :
    JE X n W (κ + κ') (.Compare a [op] [b] pos) (d2 gg f h) :=
  PE.to (pe_cmpR ho ha hb hm) fun σ H Q hq => j2 hr rfl hq
theorem je_ix {r : R2} {gg : DV → DV → (DV → Prop) → Prop} (ho : IxR X r) (hr : OpD X.K r gg) (ha : JO X n W κ a f) (hb : JO X n W κ' b h) (hs : PlainIx b) : JE X n W (κ + κ') (.Subscript a b pos) (d2 gg f h) :=
  PE.to (pe_ix ho ha hb hs) fun σ H Q hq => j2 hr rfl hq
theorem je_un {op : UnaryOp} {r : V → Hp → VK → Prop} {gg : DV → (DV → Prop) → Prop} (ho : UnR X (unaryOp op) r) (hr : UnD X.K r gg) (ha : JO X n W κ a f) : JE X n W κ (.UnaryOp op a pos) (d1 gg f) := by
  refine PE.to (pe_un ho ha) fun σ H Q ⟨m, S, ρ, R, Er, st, hf, kR, kE⟩ => ⟨m, S, ρ, _, Er, st, hf, fun x v S1 H1 hx st1 p1 d1 => ?_, kE⟩
  exact hr n S1 H1 x v R Q st1.wd.sm d1 hx fun z w S3 H3 hz g dz => kR z w S3 H3 hz (st1.grow g) (p1.trans g.po.wk) dz
theorem op_addD : OpR X (binaryOp .Add) (rAdd X.K) := op_add.or (op_add_str.or (op_cat.or op_catA))
theorem op_mulD : OpR X (binaryOp .Mult) (rMulAll X.K) := op_mulX.or (op_rep.or op_repTA)
theorem op_eqA {k : Nat} (hr : Room k X.A) : OpR X (compareOp .Eq) (fun x y H Q => rEq x y H Q ∨ rEqD X.K x y H Q) := op_eq.or (op_eqD hr.units)
theorem op_neA {k : Nat} (hr : Room k X.A) : OpR X (compareOp .NotEq) (fun x y H Q => rNe x y H Q ∨ rNeD X.K x y H Q) := op_ne.or (op_neD hr.units)
theorem op_inA {k : Nat} (hr : Room k X.A) : OpR X (compareOp .In) (fun x y H Q => rInD X.K x y H Q ∨ rIn X.K false x y H Q) := (op_inD (by have := hr.un; omega)).or op_in_seq
theorem op_notInA {k : Nat} (hr : Room k X.A) : OpR X (compareOp .NotIn) (fun x y H Q => rNotInD X.K x y H Q ∨ rIn X.K true x y H Q) := (op_notInD (by have := hr.un; omega)).or op_notIn_seq
theorem fdivOk_op : OpR X (binaryOp .FloorDiv) (rI FdivOk fun i j => .int (i.fdiv j)) := opI fun i j _ _ _ _ _ hc q => by
  refine floordiv_int hc.1 q (.inl (PyProof.noPylong_of_log2 ?_))
  exact PySem.Flt.log2_lt_of (by decide) hc.2
theorem je_add (ha : JO X n W κ a f) (hb : JO X n W κ' b h) : JE X n W (κ + κ') (.BinOp a .Add b pos) (d2 gAdd f h) := je_op op_addD opD_add ha hb
theorem je_sub (ha : JO X n W κ a f) (hb : JO X n W κ' b h) : JE X n W (κ + κ') (.BinOp a .Sub b pos) (d2 gSub f h) := je_op op_sub (opD_I0 fun _ _ _ => .int _) ha hb
theorem je_mul (ha : JO X n W κ a f) (hb : JO X n W κ' b h) : JE X n W (κ + κ') (.BinOp a .Mult b pos) (d2 gMul f h) := je_op op_mulD opD_mul ha hb
theorem je_fdiv (ha : JO X n W κ a f) (hb : JO X n W κ' b h) : JE X n W (κ + κ') (.BinOp a .FloorDiv b pos) (d2 gFdiv f h) := je_op fdivOk_op (opD_I fun _ _ _ => .int _) ha hb
theorem je_mod (ha : JO X n W κ a f) (hb : JO X n W κ' b h) : JE X n W (κ + κ') (.BinOp a .Mod b pos) (d2 gMod f h) := je_op op_modN (opD_I fun _ _ _ => .int _) ha hb
theorem je_pow (ha : JO X n W κ a f) (hb : JO X n W κ' b h) : JE X n W (κ + κ') (.BinOp a .Pow b pos) (d2 gPow f h) := je_op op_pow (opD_I fun _ _ _ => .int _) ha hb
theorem je_neg (ha : JO X n W κ a f) : JE X n W κ (.UnaryOp .USub a pos) (d1 gNeg f) := je_un un_neg unD_neg ha
theorem je_lt (ha : JO X n W κ a f) (hb : JO X n W κ' b h) : JE X n W (κ + κ') (.Compare a [.Lt] [b] pos) (d2 gLt f h) := je_cmp op_lt (opD_I0 fun _ _ _ => .bl _) ha hb (nomark _)
theorem je_le (ha : JO X n W κ a f) (hb : JO X n W κ' b h) : JE X n W (κ + κ') (.Compare a [.LtE] [b] pos) (d2 gLe f h) := je_cmp op_le (opD_I0 fun _ _ _ => .bl _) ha hb (nomark _)
theorem je_gt (ha : JO X n W κ a f) (hb : JO X n W κ' b h) : JE X n W (κ + κ') (.Compare a [.Gt] [b] pos) (d2 gGt f h) := je_cmp op_gt (opD_I0 fun _ _ _ => .bl _) ha hb (nomark _)
theorem je_ge (ha : JO X n W κ a f) (hb : JO X n W κ' b h) : JE X n W (κ + κ') (.Compare a [.GtE] [b] pos) (d2 gGe f h) := je_cmp op_ge (opD_I0 fun _ _ _ => .bl _) ha hb (nomark _)
theorem je_eq {k : Nat} (C : Cok X n W k) (ha : JO X n W κ a f) (hb : JO X n W κ' b h) : JE X n W (κ + κ') (.Compare a [.Eq] [b] pos) (d2 gEq f h) := je_cmp (op_eqA C.hr) opD_eq ha hb (nomark _)
theorem je_ne {k : Nat} (C : Cok X n W k) (ha : JO X n W κ a f) (hb : JO X n W κ' b h) : JE X n W (κ + κ') (.Compare a [.NotEq] [b] pos) (d2 gNe f h) := je_cmp (op_neA C.hr) opD_ne ha hb (nomark _)
theorem je_in {k : Nat} (C : Cok X n W k) (ha : JO X n W κ a f) (hb : JO X n W κ' b h) (hm : behindInMarks .In b = false) : JE X n W (κ + κ') (.Compare a [.In] [b] pos) (d2 gIn f h) := je_cmp (op_inA C.hr) opD_in ha hb hm
theorem je_notIn {k : Nat} (C : Cok X n W k) (ha : JO X n W κ a f) (hb : JO X n W κ' b h) (hm : behindInMarks .NotIn b = false) : JE X n W (κ + κ') (.Compare a [.NotIn] [b] pos) (d2 gNotIn f h) := je_cmp (op_notInA C.hr) opD_notIn ha hb hm
theorem je_sub_ix (ha : JO X n W κ a f) (hb : JO X n W κ' b h) (hs : PlainIx b) : JE X n W (κ + κ') (.Subscript a b pos) (d2 gIx f h) := je_ix ix_seq opD_ix ha hb hs
theorem je_isN {j : Nat} {p' : Pos} (ha : JO X n W κ a f) : JE X n W κ (.Compare a [.Is] [.Constant .none j p'] pos) (d1 gIsN f) := by
  refine PE.to (pe_cmp (pc_isN ha)) fun σ H Q ⟨m, S, ρ, R, Er, st, hf, kR, kE⟩ => ⟨m, S, ρ, _, Er, st, hf, fun x v S1 H1 hx st1 p1 d1 => ?_, kE⟩
  have hi := non_iff d1
  show Q (V.bl (decide (v = .non))) H1
  by_cases z : v = .non
  · have e := hi.mp z
    subst e
    rw [decide_eq_true z]
    exact kR _ _ S1 H1 hx st1 p1 (.bl _)
  · rw [decide_eq_false z]
    have hx : R (.d (.bool false)) := by
      cases x with
      | exc _ _ => exact hx
      | well => exact hx
      | d x => cases x <;> first | exact hx | exact absurd (hi.mpr rfl) z
    exact kR _ _ S1 H1 hx st1 p1 (.bl _)
theorem je_notN {j : Nat} {p' : Pos} (ha : JO X n W κ a f) : JE X n W κ (.Compare a [.IsNot] [.Constant .none j p'] pos) (d1 gNotN f) := by
  refine PE.to (pe_cmp (pc_notN ha)) fun σ H Q ⟨m, S, ρ, R, Er, st, hf, kR, kE⟩ => ⟨m, S, ρ, _, Er, st, hf, fun x v S1 H1 hx st1 p1 d1 => ?_, kE⟩
  have hi := non_iff d1
  show Q (V.bl (!decide (v = .non))) H1
  by_cases z : v = .non
  · have e := hi.mp z
    subst e
    rw [decide_eq_true z]
    exact kR _ _ S1 H1 hx st1 p1 (.bl _)
  · rw [decide_eq_false z]
    have hx : R (.d (.bool true)) := by
      cases x with
      | exc _ _ => exact hx
      | well => exact hx
      | d x => cases x <;> first | exact hx | exact absurd (hi.mpr rfl) z
    exact kR _ _ S1 H1 hx st1 p1 (.bl _)

/-! ### chains -/
theorem jchain {r r' : R2} {gg gg' : DV → DV → (DV → Prop) → Prop} (hr : OpD X.K r gg) (hr' : OpD X.K r' gg') {Q : VK} {σ : L2.St} {H : Hp} (hq : rdE X.K n W (κ + (κ' + κ2)) (dChain gg gg' f h g) σ H Q) :
    tChain r r' (rdO X.K n W κ f) (rdO X.K n W κ' h) (rdO X.K n W κ2 g) σ H Q := by
  obtain ⟨m, S, ρ, R, Er, st, hf, kR, kE⟩ := hq
  refine ⟨m + (κ' + κ2), S, ρ, _, Er, st_split st, hf, fun x v S1 H1 hx st1 p1 d1 => ?_, fun c x cls dx S' H' e s' er => kE c x cls dx S' H' e (st_down s') er⟩
  refine ⟨m + κ2, S1, ρ, _, Er, st_split st1, hx, fun y u S2 H2 hy st2 p2 d2 => ?_, fun c x cls dx S' H' e s' er q => kE c x cls dx S' H' e (st_down s') er (p1.sS.trans q)⟩
  refine hr n S2 H2 x y v u _ _ st2.wd.sm (d1.post p2) d2 hy fun z w S3 H3 hz g3 dz => ?_
  obtain ⟨k, rfl, rfl, hz⟩ := bool_of dz hz
  · refine ⟨k, rfl, ?_⟩
    cases k with
    | true =>
      show rdO X.K n W κ2 g σ H3 fun w' H4 => r' u w' H4 Q
      refine ⟨m, S3, ρ, _, Er, st2.grow g3, hz, fun y4 w4 S4 H4 h4 st4 p4 d4 => ?_, ke_af ((p1.trans p2).trans g3.po.wk).sS kE⟩
      exact hr' n S4 H4 y y4 u w4 R Q st4.wd.sm ((d2.post g3.po.wk).post p4) d4 h4 fun z5 w5 S5 H5 h5 g5 d5 => kR z5 w5 S5 H5 h5 (st4.grow g5) ((((p1.trans p2).trans g3.po.wk).trans p4).trans g5.po.wk) d5
    | false =>
      show Q (.bl false) H3
      exact kR _ _ S3 H3 hz (st_down (st2.grow g3)) ((p1.trans p2).trans g3.po.wk) (.bl _)
theorem je_chain {op op' : CmpOp} {r r' : R2} {gg gg' : DV → DV → (DV → Prop) → Prop} (ho : OpR X (compareOp op) r) (hr : OpD X.K r gg) (ho' : OpR X (compareOp op') r') (hr' : OpD X.K r' gg')
    (ha : JO X n W κ a f) (hb : JO X n W κ' b h) (hc : JO X n W κ2 c g) (hm : lastMarks [op, op'] [b, c] = false) : JE X n W (κ + (κ' + κ2)) (.Compare a [op, op'] [b, c] pos) (dChain gg gg' f h g) :=
  PE.to (pe_chain ho ho' ha hb hc hm) fun σ H Q hq => jchain hr hr' hq

/-! ### tests -/
theorem jt_of {t0 : TE} (hp : PT X e (tTest t0)) (hq : ∀ σ H Q, rdE X.K n W κ f σ H Q → t0 σ H Q) : JT X n W κ e (tVal f) := by
  refine PT.to hp fun σ H Q ⟨m, S, ρ, R, Er, st, hf, kR, kE⟩ => hq σ H _ ⟨m, S, ρ, _, Er, st, hf, fun x v S1 H1 hx st1 p1 d1 => ?_, kE⟩
  obtain ⟨k, rfl, rfl, hz⟩ := bool_of d1 hx
  exact ⟨k, rfl, kR k S1 H1 hz st1 p1⟩
theorem jt_cmp {op : CmpOp} {r : R2} {gg : DV → DV → (DV → Prop) → Prop} (ho : OpR X (compareOp op) r) (hr : OpD X.K r gg) (ha : JO X n W κ a f) (hb : JO X n W κ' b h) (hm : behindInMarks op b = false) :
    JT X n W (κ + κ') (.Compare a [op] [b] pos) (tVal (d2 gg f h)) := jt_of (pt_cmpR ho ha hb hm) fun σ H Q hq => j2 hr rfl hq
theorem jt_chain {op op' : CmpOp} {r r' : R2} {gg gg' : DV → DV → (DV → Prop) → Prop} (ho : OpR X (compareOp op) r) (hr : OpD X.K r gg) (ho' : OpR X (compareOp op') r') (hr' : OpD X.K r' gg')
    (ha : JO X n W κ a f) (hb : JO X n W κ' b h) (hc : JO X n W κ2 c g) (hm : lastMarks [op, op'] [b, c] = false) : JT X n W (κ + (κ' + κ2)) (.Compare a [op, op'] [b, c] pos) (tVal (dChain gg gg' f h g)) :=
  jt_of (pt_chain ho ho' ha hb hc hm) fun σ H Q hq => jchain hr hr' hq
/-- an expression whose value is True or False, as a test -/
theorem jt_val (he : JE X n W κ e f) (hw : ∀ whole, isTrue e X.env whole = (do let v ← whole; standAt e.pos; holding [v] (truthy v))) : JT X n W κ e (tVal f) := by
  refine PT.to (pt_val he hw) fun σ H Q ⟨m, S, ρ, R, Er, st, hf, kR, kE⟩ => ⟨m, S, ρ, _, Er, st, hf, fun x v S1 H1 hx st1 p1 d1 => ?_, kE⟩
  obtain ⟨k, rfl, rfl, hz⟩ := bool_of d1 hx
  exact ⟨k, rfl, kR k S1 H1 hz st1 p1⟩
theorem jt_isN {j : Nat} {p' : Pos} (ha : JO X n W κ a f) : JT X n W κ (.Compare a [.Is] [.Constant .none j p'] pos) (tVal (d1 gIsN f)) := by
  refine PT.to (pt_cmp (pc_isN ha)) fun σ H Q ⟨m, S, ρ, R, Er, st, hf, kR, kE⟩ => ⟨m, S, ρ, _, Er, st, hf, fun x v S1 H1 hx st1 p1 d1 => ⟨_, rfl, ?_⟩, kE⟩
  have hi := non_iff d1
  show Q (decide (v = .non)) H1
  by_cases z : v = .non
  · have e := hi.mp z
    subst e
    rw [decide_eq_true z]
    exact kR _ S1 H1 hx st1 p1
  · rw [decide_eq_false z]
    have hx : R false := by
      cases x with
      | exc _ _ => exact hx
      | well => exact hx
      | d x => cases x <;> first | exact hx | exact absurd (hi.mpr rfl) z
    exact kR _ S1 H1 hx st1 p1
theorem jt_notN {j : Nat} {p' : Pos} (ha : JO X n W κ a f) : JT X n W κ (.Compare a [.IsNot] [.Constant .none j p'] pos) (tVal (d1 gNotN f)) := by
  refine PT.to (pt_cmp (pc_notN ha)) fun σ H Q ⟨m, S, ρ, R, Er, st, hf, kR, kE⟩ => ⟨m, S, ρ, _, Er, st, hf, fun x v S1 H1 hx st1 p1 d1 => ⟨_, rfl, ?_⟩, kE⟩
  have hi := non_iff d1
  show Q (!decide (v = .non)) H1
  by_cases z : v = .non
  · have e := hi.mp z
    subst e
    rw [decide_eq_true z]
    exact kR _ S1 H1 hx st1 p1
  · rw [decide_eq_false z]
    have hx : R true := by
      cases x with
      | exc _ _ => exact hx
      | well => exact hx
      | d x => cases x <;> first | exact hx | exact absurd (hi.mpr rfl) z
    exact kR _ S1 H1 hx st1 p1
theorem jt_not (ha : JT X n W κ a t) : JT X n W κ (.UnaryOp .Not a pos) (tNot' t) :=
  PT.to (pt_not ha) fun σ H Q ⟨m, S, ρ, R, Er, st, hf, kR, kE⟩ => ⟨m, S, ρ, _, Er, st, hf, fun b S1 H1 hx st1 p1 => kR _ S1 H1 hx st1 p1, kE⟩
abbrev JW (X : Cx) (n : En) (W : WX) (κ : Nat) (e : Expr) (f : DT) : Prop := PW X e (rdT X.K n W κ f)
theorem jw_pt (ha : JW X n W κ a t) : JT X n W κ a t := PW.pt ha
theorem jw_and1 (ha : JT X n W κ a t) : JW X n W κ (.BoolOp .And [a] pos) t := pw_and1 ha
theorem jw_or1 (ha : JT X n W κ a t) : JW X n W κ (.BoolOp .Or [a] pos) t := pw_or1 ha
theorem jw_and (ha : JT X n W κ a t) (hb : JW X n W κ' (.BoolOp .And (b :: es) pos) u) : JW X n W (κ + κ') (.BoolOp .And (a :: b :: es) pos) (tAnd' t u) := by
  refine PW.to (pw_and ha hb) fun σ H Q ⟨m, S, ρ, R, Er, st, hf, kR, kE⟩ => ⟨m + κ', S, ρ, _, Er, st_split st, hf, fun b S1 H1 hx st1 p1 => ?_, fun c x cls dx S' H' e s' er => kE c x cls dx S' H' e (st_down s') er⟩
  cases b with
  | true =>
    show rdT X.K n W κ' u σ H1 Q
    exact ⟨m, S1, ρ, R, Er, st1, hx, fun b S2 H2 hx st2 p2 => kR b S2 H2 hx st2 (p1.trans p2), ke_af p1.sS kE⟩
  | false =>
    show Q false H1
    exact kR _ S1 H1 hx (st_down st1) p1
theorem jw_or (ha : JT X n W κ a t) (hb : JW X n W κ' (.BoolOp .Or (b :: es) pos) u) : JW X n W (κ + κ') (.BoolOp .Or (a :: b :: es) pos) (tOr' t u) := by
  refine PW.to (pw_or ha hb) fun σ H Q ⟨m, S, ρ, R, Er, st, hf, kR, kE⟩ => ⟨m + κ', S, ρ, _, Er, st_split st, hf, fun b S1 H1 hx st1 p1 => ?_, fun c x cls dx S' H' e s' er => kE c x cls dx S' H' e (st_down s') er⟩
  cases b with
  | false =>
    show rdT X.K n W κ' u σ H1 Q
    exact ⟨m, S1, ρ, R, Er, st1, hx, fun b S2 H2 hx st2 p2 => kR b S2 H2 hx st2 (p1.trans p2), ke_af p1.sS kE⟩
  | true =>
    show Q true H1
    exact kR _ S1 H1 hx (st_down st1) p1
/-! and, or, not, if else as values -/
theorem je_one {op : BoolOp} (ha : JE X n W κ a f) : JE X n W κ (.BoolOp op [a] pos) f := pe_one ha
theorem je_and (ha : JE X n W κ a f) (hb : JE X n W κ' (.BoolOp .And (b :: es) pos) h) : JE X n W (κ + κ') (.BoolOp .And (a :: b :: es) pos) (dAnd f h) := by
  refine PE.to (pe_and ha hb) fun σ H Q ⟨m, S, ρ, R, Er, st, hf, kR, kE⟩ => ⟨m + κ', S, ρ, _, Er, st_split st, hf, fun x v S1 H1 hx st1 p1 d1 => ?_, fun c x cls dx S' H' e s' er => kE c x cls dx S' H' e (st_down s') er⟩
  obtain ⟨k, rfl, rfl, hz⟩ := bool_of d1 hx
  · refine ⟨k, rfl, ?_⟩
    cases k with
    | true =>
      show rdE X.K n W κ' h σ H1 Q
      exact ⟨m, S1, ρ, R, Er, st1, hz, fun x v S2 H2 hx st2 p2 d2 => kR x v S2 H2 hx st2 (p1.trans p2) d2, ke_af p1.sS kE⟩
    | false =>
      show Q (.bl false) H1
      exact kR _ _ S1 H1 hz (st_down st1) p1 (.bl _)
theorem je_or (ha : JE X n W κ a f) (hb : JE X n W κ' (.BoolOp .Or (b :: es) pos) h) : JE X n W (κ + κ') (.BoolOp .Or (a :: b :: es) pos) (dOr f h) := by
  refine PE.to (pe_or ha hb) fun σ H Q ⟨m, S, ρ, R, Er, st, hf, kR, kE⟩ => ⟨m + κ', S, ρ, _, Er, st_split st, hf, fun x v S1 H1 hx st1 p1 d1 => ?_, fun c x cls dx S' H' e s' er => kE c x cls dx S' H' e (st_down s') er⟩
  obtain ⟨k, rfl, rfl, hz⟩ := bool_of d1 hx
  · refine ⟨k, rfl, ?_⟩
    cases k with
    | false =>
      show rdE X.K n W κ' h σ H1 Q
      exact ⟨m, S1, ρ, R, Er, st1, hz, fun x v S2 H2 hx st2 p2 d2 => kR x v S2 H2 hx st2 (p1.trans p2) d2, ke_af p1.sS kE⟩
    | true =>
      show Q (.bl true) H1
      exact kR _ _ S1 H1 hz (st_down st1) p1 (.bl _)
theorem je_not (ha : JE X n W κ a f) : JE X n W κ (.UnaryOp .Not a pos) (dNot f) := by
  refine PE.to (pe_not ha) fun σ H Q ⟨m, S, ρ, R, Er, st, hf, kR, kE⟩ => ⟨m, S, ρ, _, Er, st, hf, fun x v S1 H1 hx st1 p1 d1 => ?_, kE⟩
  obtain ⟨k, rfl, rfl, hz⟩ := bool_of d1 hx
  exact ⟨k, rfl, kR _ _ S1 H1 hz st1 p1 (.bl _)⟩
theorem je_if (hc : JT X n W κ c t) (ha : JE X n W κ' a f) (hb : JE X n W κ2 b h) : JE X n W (κ + (κ' + κ2)) (.IfExp c a b pos) (dIf t f h) := by
  refine PE.to (pe_ifExp hc ha hb) fun σ H Q ⟨m, S, ρ, R, Er, st, hf, kR, kE⟩ => ⟨m + (κ' + κ2), S, ρ, _, Er, st_split st, hf, fun k S1 H1 hx st1 p1 => ?_, fun c x cls dx S' H' e s' er => kE c x cls dx S' H' e (st_down s') er⟩
  cases k with
  | true =>
    show rdE X.K n W κ' f σ H1 Q
    exact ⟨m, S1, ρ, R, Er, st1.le (by omega), hx, fun x v S2 H2 hx st2 p2 d2 => kR x v S2 H2 hx st2 (p1.trans p2) d2, ke_af p1.sS kE⟩
  | false =>
    show rdE X.K n W κ2 h σ H1 Q
    exact ⟨m, S1, ρ, R, Er, st1.le (by omega), hx, fun x v S2 H2 hx st2 p2 d2 => kR x v S2 H2 hx st2 (p1.trans p2) d2, ke_af p1.sS kE⟩

/-! ### arguments, tuples, lists -/
theorem ja_nil : JA X n W 0 [] aNil := PA.to pa_nil fun σ H Q ⟨m, S, ρ, R, Er, st, hf, kR, _⟩ => kR [] [] S H hf st Post.refl .nil
theorem ja_cons {fr : DA} (ha : JE X n W κ e f) (hb : JA X n W κ' es fr) (hs : starEach (e :: es) X.env = (false, eval e X.env) :: starEach es X.env) : JA X n W (κ + κ') (e :: es) (aCons f fr) := by
  refine PA.to (pa_cons ha hb hs) fun σ H Q ⟨m, S, ρ, R, Er, st, hf, kR, kE⟩ => ⟨m + κ', S, ρ, _, Er, st_split st, hf, fun x v S1 H1 hx st1 p1 d1 => ?_, fun c x cls dx S' H' e s' er => kE c x cls dx S' H' e (st_down s') er⟩
  exact ⟨m, S1, ρ, _, Er, st1, hx, fun xs vs S2 H2 hx st2 p2 d2 => kR _ _ S2 H2 hx st2 (p1.trans p2) (.cons (dv_mono p2.sS d1) d2), ke_af p1.sS kE⟩
/-- arguments that may be one's own -/
def rdAO (K : Frag) (n : En) (W : WX) (κ : Nat) (f : DA) : TA := fun σ H Q => ∃ m S ρ R Er, StOk K n (m + κ) S H σ ρ ∧ f ρ R Er ∧
  (∀ xs vs S' H', R xs → StOk K n m S' H' σ ρ → Post n.wl S H S' H' → RdAll K n S' H' vs xs → Q vs H') ∧
  KErr K n W m S σ ρ Er
abbrev JAO (X : Cx) (n : En) (W : WX) (κ : Nat) (es : List Expr) (f : DA) : Prop := PA X es (rdAO X.K n W κ f)
theorem jo_nil : JAO X n W 0 [] aNil := PA.to pa_nil fun σ H Q ⟨m, S, ρ, R, Er, st, hf, kR, _⟩ => kR [] [] S H hf st Post.refl .nil
theorem jo_cons {fr : DA} (ha : JO X n W κ e f) (hb : JAO X n W κ' es fr) (hs : starEach (e :: es) X.env = (false, eval e X.env) :: starEach es X.env) : JAO X n W (κ + κ') (e :: es) (aCons f fr) := by
  refine PA.to (pa_cons ha hb hs) fun σ H Q ⟨m, S, ρ, R, Er, st, hf, kR, kE⟩ => ⟨m + κ', S, ρ, _, Er, st_split st, hf, fun x v S1 H1 hx st1 p1 d1 => ?_, fun c x cls dx S' H' e s' er => kE c x cls dx S' H' e (st_down s') er⟩
  exact ⟨m, S1, ρ, _, Er, st1, hx, fun xs vs S2 H2 hx st2 p2 d2 => kR _ _ S2 H2 hx st2 (p1.trans p2) (.cons (d1.post p2) d2), ke_af p1.sS kE⟩
theorem allD_of {K : Frag} {S : Hp} {vs : List V} {xs : List DV} {P : List PD → Prop} (d : DvAll K n S vs xs) (h : allD xs P) : ∃ ds, DqAll K S vs ds ∧ P ds := by
  induction d generalizing P with
  | nil => exact ⟨[], .nil, h⟩
  | @cons v vs x xs a t ih =>
    cases x with
    | exc _ _ => exact h.elim
    | well _ => exact h.elim
    | d x =>
      obtain ⟨ds, h1, h2⟩ := ih (P := fun ys => P (x :: ys)) h
      exact ⟨x :: ds, .cons a h1, h2⟩
theorem je_tup {x1 : Nat} (ha : JA X n W κ es fa) : JE X n W κ (.Tuple es x1 pos) (dTup fa) := by
  refine PE.to (pe_tup ha) fun σ H Q ⟨m, S, ρ, R, Er, st, hf, kR, kE⟩ => ⟨m, S, ρ, _, Er, st, hf, fun xs vs S1 H1 hx st1 p1 d1 => ?_, kE⟩
  obtain ⟨ds, dd, hl, hr⟩ := allD_of d1 hx
  refine ⟨line5 (by rw [dd.len]; exact hl), fun p hp => ?_⟩
  have g := Grow.new (o := .tup vs) st1.wd.sm hp
  exact kR _ _ _ _ hr (st1.grow g) (p1.trans g.po.wk) (dq_tup upd_same (dqAll_mono g.po.sS dd))
theorem jn_lst (ha : JA X n W κ es fa) : JN X n W κ (.List es pos) (nLst fa) := by
  refine PE.to (pe_lst ha) fun σ H Q ⟨m, S, ρ, R, Er, st, hf, kR, kE⟩ => ⟨m, S, ρ, _, Er, st, hf, fun xs vs S1 H1 hx st1 p1 d1 => ?_, kE⟩
  obtain ⟨ds, dd, hl, hr⟩ := allD_of d1 hx
  refine ⟨line5 (by rw [dd.len]; exact hl), fun p hp => ?_⟩
  have g := Grow.beside (o := .lst vs) st1.wd.sm hp
  have hp0 : H p = none := by
    cases q : H p with
    | none => rfl
    | some o => exact absurd hp (p1.al p (by rw [q]; exact Option.some_ne_none _))
  exact kR ds p vs _ _ hr (st1.grow g) (p1.trans g.po.wk) hp0 (st1.wd.sm.free hp) upd_same dd

/-! ### calls -/
theorem je_bi {id : String} {x : Str} {p : Pos} {r : List V → Hp → VK → Prop} {gg : List DV → (DV → Prop) → Prop} (hc : CallR X (.builtin id) r) (hr : CaD X.K r gg) (hg : Gl X x) (hm : X.mg x = none) (hv : bootBuiltins x = some (.builtin id))
    (ha : JAO X n W κ (e :: es) fa) (hn : x ≠ "__name__") (hdb : (x == ("__debug__" : Str)) = false) (he : starEach (e :: es) X.env = (false, eval e X.env) :: starEach es X.env) (hpl : (backTo pos (starEach es X.env)).any (·.1) = false) :
    JE X n W κ (.Call (.Name x p) (e :: es) [] pos) (dBi gg fa) := by
  refine PE.to (pe_callB hc hg hm hv ha hn hdb he hpl) fun σ H Q ⟨m, S, ρ, R, Er, st, hf, kR, kE⟩ => ⟨m, S, ρ, _, Er, st, hf, fun xs vs S1 H1 hx st1 p1 d1 => ?_, kE⟩
  exact hr n S1 H1 xs vs R Q st1.wd.sm d1 hx fun z w S3 H3 hz g dz => kR z w S3 H3 hz (st1.grow g) (p1.trans g.po.wk) dz
theorem je_ty {T : String} {x : Str} {p : Pos} {r : List V → Hp → VK → Prop} {gg : List DV → (DV → Prop) → Prop} (hc : CallR X (.type T) r) (hr : CaD X.K r gg) (hg : Gl X x) (hm : X.mg x = none) (hv : bootBuiltins x = some (.type T))
    (ha : JAO X n W κ (e :: es) fa) (hn : x ≠ "__name__") (hdb : (x == ("__debug__" : Str)) = false) (he : starEach (e :: es) X.env = (false, eval e X.env) :: starEach es X.env) (hpl : (backTo pos (starEach es X.env)).any (·.1) = false) :
    JE X n W κ (.Call (.Name x p) (e :: es) [] pos) (dBi gg fa) := by
  refine PE.to (pe_callTy hc hg hm hv ha hn hdb he hpl) fun σ H Q ⟨m, S, ρ, R, Er, st, hf, kR, kE⟩ => ⟨m, S, ρ, _, Er, st, hf, fun xs vs S1 H1 hx st1 p1 d1 => ?_, kE⟩
  exact hr n S1 H1 xs vs R Q st1.wd.sm d1 hx fun z w S3 H3 hz g dz => kR z w S3 H3 hz (st1.grow g) (p1.trans g.po.wk) dz
/-- a built-in function that the module names -/
theorem je_bif {id : String} {x : Str} {p : Pos} {r : List V → Hp → VK → Prop} {gg : List DV → (DV → Prop) → Prop} (hc : CallR X (.builtin id) r) (hr : CaD X.K r gg) (hg : Gl X x) (hm : X.mg x = some (.builtin id))
    (ha : JAO X n W κ (e :: es) fa) (hdb : (x == ("__debug__" : Str)) = false) (he : starEach (e :: es) X.env = (false, eval e X.env) :: starEach es X.env) (hpl : (backTo pos (starEach es X.env)).any (·.1) = false) :
    JE X n W κ (.Call (.Name x p) (e :: es) [] pos) (dBi gg fa) := by
  refine PE.to (pe_callBfun hc hg hm ha hdb he hpl) fun σ H Q ⟨m, S, ρ, R, Er, st, hf, kR, kE⟩ => ⟨m, S, ρ, _, Er, st, hf, fun xs vs S1 H1 hx st1 p1 d1 => ?_, kE⟩
  exact hr n S1 H1 xs vs R Q st1.wd.sm d1 hx fun z w S3 H3 hz g dz => kR z w S3 H3 hz (st1.grow g) (p1.trans g.po.wk) dz
end
end Wb
/-! Wb6: calls of one's own defs, isinstance, walks, targets, comprehensions. -/
namespace Wb
open PySem PySem.Spec PyProof.Rows L2

/-! ### the promise of a def, by its meaning g; κ: how often it draws at most -/
def spD (K : Frag) (CT : Nat → Addr) (κ : Nat) (g : Fn) : Sp := fun vs H Q E => ∃ wl m S xs R Er, Wd wl (m + κ) S H ∧ DvAll K (En.of CT wl S H) S vs xs ∧ g xs R Er ∧
  (∀ x v S' H', R x → Wd wl m S' H' → Post wl S H S' H' → DvOk K (En.of CT wl S H) S' v x → Q v H') ∧
  (∀ c x cls dx S' H', Er c x → Wd wl m S' H' → Post wl S H S' H' → ErrOk K (En.of CT wl S H) S' H' c x cls dx → E cls dx H')
theorem spD_imp {K : Frag} {CT : Nat → Addr} {κ : Nat} {g g' : Fn} (h : ∀ xs R Er, g' xs R Er → g xs R Er) : ∀ vs H Q E, spD K CT κ g' vs H Q E → spD K CT κ g vs H Q E :=
  fun vs H Q E ⟨wl, m, S, xs, R, Er, w, d, hg, kR, kE⟩ => ⟨wl, m, S, xs, R, Er, w, d, h _ _ _ hg, kR, kE⟩
theorem dv_en {K : Frag} {n n' : En} {S : Hp} {v : V} (h1 : n'.CT = n.CT) (h2 : n'.wl = n.wl) : ∀ {x : DV}, DvOk K n S v x → DvOk K n' S v x
  | .d _, h => h
  | .exc _ _, ⟨a, dd, v', e1, e2, e3, e4⟩ => ⟨a, dd, v', e1, by rw [h1]; exact e2, e3, e4⟩
  | .well none, ⟨p, e1, e2⟩ => ⟨p, e1, by rw [h2]; exact e2⟩
  | .well (some _), h => h
theorem dvAll_en {K : Frag} {n n' : En} {S : Hp} (h1 : n'.CT = n.CT) (h2 : n'.wl = n.wl) : ∀ {vs : List V} {xs : List DV}, DvAll K n S vs xs → DvAll K n' S vs xs
  | _, _, .nil => .nil
  | _, _, .cons h t => .cons (dv_en h1 h2 h) (dvAll_en h1 h2 t)
/-- a def as it stands: where, its promise -/
structure DefG (P : Program) (w : World) (K : Frag) (mg : Str → Option Value) (base : Heap) (x : Str) (ps : List Str) (k : Nat) (f : Addr) (fd : FuncData) (sp : Sp) : Prop where
  fn : FnG P w K mg base k f fd ps sp
  mgx : mg x = some (.ref f)
  kp : PySem.W.keepIn K (.ref f) = true
  b : Binds K fd ps []
theorem DefG.mono {P : Program} {w : World} {K : Frag} {mg : Str → Option Value} {base : Heap} {x : Str} {ps : List Str} {j k : Nat} {f : Addr} {fd : FuncData} {sp : Sp} (d : DefG P w K mg base x ps j f fd sp) (h : j ≤ k) : DefG P w K mg base x ps k f fd sp :=
  ⟨d.fn.mono h, d.mgx, d.kp, d.b⟩
theorem DefG.imp {P : Program} {w : World} {K : Frag} {mg : Str → Option Value} {base : Heap} {x : Str} {ps : List Str} {k : Nat} {f : Addr} {fd : FuncData} {sp sp' : Sp} (d : DefG P w K mg base x ps k f fd sp) (h : ∀ vs H Q E, sp' vs H Q E → sp vs H Q E) :
    DefG P w K mg base x ps k f fd sp' := ⟨d.fn.imp h, d.mgx, d.kp, d.b⟩
section
variable {X : Cx} {n : En} {W : WX} {κ κ' κ2 κf k k' : Nat} {e a b c : Expr} {es : List Expr} {pos : Pos} {f h g : DE} {fa fk : DA} {t u : DT} {G : Fn}
theorem call_spD {vs : List V} {xs : List DV} {m : Nat} {S H : Hp} {σ : L2.St} {ρ : List Sl} {R : DV → Prop} {Er : EK} {Q : VK} (st : StOk X.K n (m + κf) S H σ ρ) (d : DvAll X.K n S vs xs) (hg : G xs R Er)
    (kR : ∀ x v S' H', R x → StOk X.K n m S' H' σ ρ → Post n.wl S H S' H' → DvOk X.K n S' v x → Q v H') (kE : KErr X.K n W m S σ ρ Er) :
    spD X.K n.CT κf G vs H Q fun cls dx H' => W cls dx σ H' :=
  ⟨n.wl, m, S, xs, R, Er, st.wd, dvAll_en (n := n) (n' := En.of n.CT n.wl S H) rfl rfl d, hg, fun x v S' H' hx w p dx => kR x v S' H' hx (st.step p w) p (dv_en (n' := n) rfl rfl dx), fun c x cls dx S' H' hx w p er => kE c x cls dx S' H' hx (st.step p w) er p.sS⟩
theorem je_call {x : Str} {ps : List Str} {ff : Addr} {fd : FuncData} {p : Pos} (F : DefG X.prog X.w X.K X.mg X.base x ps k ff fd (spD X.K n.CT κf G)) (C : Cok X n W k') (hk : k ≤ k') (ha : JA X n W κ (e :: es) fa) (hg : Gl X x)
    (hdb : (x == ("__debug__" : Str)) = false) (he : starEach (e :: es) X.env = (false, eval e X.env) :: starEach es X.env) (hpl : (backTo pos (starEach es X.env)).any (·.1) = false) :
    JE X n W (κ + κf) (.Call (.Name x p) (e :: es) [] pos) (dCall G fa) := by
  refine PE.to (pe_callG F.fn C.hg (C.hr.mono hk) C.tk hg F.mgx F.kp F.b ha hdb he hpl) fun σ H Q ⟨m, S, ρ, R, Er, st, hf, kR, kE⟩ => ⟨m + κf, S, ρ, _, Er, st_split st, hf, fun xs vs S1 H1 hx st1 p1 d1 => ?_, fun c x cls dx S' H' e s' er => kE c x cls dx S' H' e (st_down s') er⟩
  exact call_spD st1 d1 hx (fun x v S' H' hx s' p' => kR x v S' H' hx s' (p1.trans p')) (ke_af p1.sS kE)
theorem je_call0 {x : Str} {ff : Addr} {fd : FuncData} {p : Pos} (F : DefG X.prog X.w X.K X.mg X.base x [] k ff fd (spD X.K n.CT κf G)) (C : Cok X n W k') (hk : k ≤ k') (hg : Gl X x) (hdb : (x == ("__debug__" : Str)) = false) :
    JE X n W κf (.Call (.Name x p) [] [] pos) (dCall G aNil) := by
  refine PE.to (pe_callG0 F.fn C.hg (C.hr.mono hk) C.tk hg F.mgx F.kp F.b hdb) fun σ H Q ⟨m, S, ρ, R, Er, st, hf, kR, kE⟩ => ?_
  exact call_spD (vs := []) (xs := []) st .nil hf kR kE
/-- keywords -/
theorem jk_of {kws : List Keyword} {ta : TA} (h : PK X kws ta) {ta' : TA} (i : ∀ σ H Q, ta' σ H Q → ta σ H Q) : PK X kws ta' := ⟨fun pos pins s σ H Q I q => h.run pos pins s σ H Q I (i σ H Q q)⟩
abbrev JK (X : Cx) (n : En) (W : WX) (κ : Nat) (kws : List Keyword) (f : DA) : Prop := PK X kws (rdA X.K n W κ f)
theorem jk_nil : JK X n W 0 [] aNil := jk_of pk_nil fun σ H Q ⟨m, S, ρ, R, Er, st, hf, kR, _⟩ => kR [] [] S H hf st Post.refl .nil
theorem jk_cons {kws : List Keyword} {fr : DA} {nm : Option Str} {kpos : Pos} (ha : JE X n W κ e f) (hb : JK X n W κ' kws fr) : JK X n W (κ + κ') (⟨nm, e, kpos⟩ :: kws) (aCons f fr) := by
  refine jk_of (pk_cons ha hb) fun σ H Q ⟨m, S, ρ, R, Er, st, hf, kR, kE⟩ => ⟨m + κ', S, ρ, _, Er, st_split st, hf, fun x v S1 H1 hx st1 p1 d1 => ?_, fun c x cls dx S' H' e s' er => kE c x cls dx S' H' e (st_down s') er⟩
  exact ⟨m, S1, ρ, _, Er, st1, hx, fun xs vs S2 H2 hx st2 p2 d2 => kR _ _ S2 H2 hx st2 (p1.trans p2) (.cons (dv_mono p2.sS d1) d2), ke_af p1.sS kE⟩
/-- a call's positional values and keywords' values in the parameters' order -/
def dCallK (G : Fn) (gD : List DV → List DV → List DV) (fa fk : DA) : DE := fun ρ R E => fa ρ (fun xs => fk ρ (fun ys => G (gD xs ys) R E) E) E
theorem je_callK {x : Str} {ps ks : List Str} {ff : Addr} {fd : FuncData} {p : Pos} {kws : List Keyword} {gg : List Value → List Value → List Value} {gV : List V → List V → List V} {gD : List DV → List DV → List DV}
    (F : DefG X.prog X.w X.K X.mg X.base x ps k ff fd (spD X.K n.CT κf G)) (C : Cok X n W k') (hk : k ≤ k') (hb : KBinds X.K fd ps ks gg gV) (hD : ∀ S vs xs zs ys, DvAll X.K n S vs xs → DvAll X.K n S zs ys → DvAll X.K n S (gV vs zs) (gD xs ys))
    (ha : JA X n W κ (e :: es) fa) (hkw : JK X n W κ' kws fk) (hg : Gl X x) (hall : (backToKw pos (keywordEach kws X.env)).all (·.1.isSome) = true)
    (hks : (backToKw pos (keywordEach kws X.env)).filterMap (·.1) = ks) (hdb : (x == ("__debug__" : Str)) = false)
    (he : starEach (e :: es) X.env = (false, eval e X.env) :: starEach es X.env) (hpl : ((backTo pos (starEach (e :: es) X.env)).any (·.1) || (backToKw pos (keywordEach kws X.env)).any (·.1.isNone)) = false) :
    JE X n W (κ + (κ' + κf)) (.Call (.Name x p) (e :: es) kws pos) (dCallK G gD fa fk) := by
  refine PE.to (pe_callGK F.fn C.hg (C.hr.mono hk) C.tk hg F.mgx F.kp hb ha hkw hall hks hdb he hpl) fun σ H Q ⟨m, S, ρ, R, Er, st, hf, kR, kE⟩ => ⟨m + (κ' + κf), S, ρ, _, Er, st_split st, hf, fun xs vs S1 H1 hx st1 p1 d1 => ?_, fun c x cls dx S' H' e s' er => kE c x cls dx S' H' e (st_down s') er⟩
  refine ⟨m + κf, S1, ρ, _, Er, st_split st1, hx, fun ys zs S2 H2 hy st2 p2 d2 => ?_, fun c x cls dx S' H' e s' er q => kE c x cls dx S' H' e (st_down s') er (p1.sS.trans q)⟩
  exact call_spD st2 (hD S2 _ _ _ _ (dvAll_mono p2.sS d1) d2) hy (fun x v S' H' hx s' p' => kR x v S' H' hx s' ((p1.trans p2).trans p')) (ke_af (p1.trans p2).sS kE)
theorem je_callK0 {x : Str} {ps ks : List Str} {ff : Addr} {fd : FuncData} {p : Pos} {kws : List Keyword} {gg : List Value → List Value → List Value} {gV : List V → List V → List V} {gD : List DV → List DV → List DV}
    (F : DefG X.prog X.w X.K X.mg X.base x ps k ff fd (spD X.K n.CT κf G)) (C : Cok X n W k') (hk : k ≤ k') (hb : KBinds X.K fd ps ks gg gV) (hD : ∀ S vs xs zs ys, DvAll X.K n S vs xs → DvAll X.K n S zs ys → DvAll X.K n S (gV vs zs) (gD xs ys))
    (hkw : JK X n W κ' kws fk) (hg : Gl X x) (hall : (backToKw pos (keywordEach kws X.env)).all (·.1.isSome) = true)
    (hks : (backToKw pos (keywordEach kws X.env)).filterMap (·.1) = ks) (hdb : (x == ("__debug__" : Str)) = false) (hpl : (backToKw pos (keywordEach kws X.env)).any (·.1.isNone) = false) :
    JE X n W (κ' + κf) (.Call (.Name x p) [] kws pos) (dCallK G gD aNil fk) := by
  refine PE.to (pe_callGK0 F.fn C.hg (C.hr.mono hk) C.tk hg F.mgx F.kp hb hkw hall hks hdb hpl) fun σ H Q ⟨m, S, ρ, R, Er, st, hf, kR, kE⟩ => ?_
  refine ⟨m + κf, S, ρ, _, Er, st_split st, hf, fun ys zs S2 H2 hy st2 p2 d2 => ?_, fun c x cls dx S' H' e s' er => kE c x cls dx S' H' e (st_down s') er⟩
  exact call_spD st2 (hD S2 [] [] _ _ .nil d2) hy (fun x v S' H' hx s' p' => kR x v S' H' hx s' (p2.trans p')) (ke_af p2.sS kE)

/-! ### isinstance -/
theorem ty_of {K : Frag} {n : En} {S H : Hp} {v : V} {x : PD} (sm : Same S H) (h : RdOk K n S H v (.d x)) : TyX K H v (.type (tyD x)) := by
  have q := h.dq sm
  cases q with
  | non => exact .base .non
  | bl b => exact .base (.bl b)
  | int i => exact .base (.int i)
  | str x => exact .base (.str x)
  | lst h1 _ => exact .base (.lst h1)
  | tup h1 _ =>
    rcases h1 with (h1 | ⟨o, h1⟩) | ⟨o, its, k, e1, e2, _⟩
    · exact .base (.tup h1)
    · exact .fTuple h1
    · exact .kTuple e1 e2
def kitTypes : List String := ["NoneType", "bool", "int", "str", "list", "tuple"]
theorem kit_tyD {K : Frag} {T : String} (hT : (kitTypes.all fun t => decide (kitB t T = some (subTy t T))) = true) (x : PD) (hd : tyD x ≠ "dict") : PySem.W.kitOne K (.type (tyD x)) (.type T) = some (subTy (tyD x) T) := by
  have all : ∀ t ∈ kitTypes, kitB t T = some (subTy t T) := fun t ht => of_decide_eq_true (List.all_eq_true.mp hT t ht)
  refine kit_ty (all _ ?_)
  cases x <;> first | exact absurd rfl hd | (simp [tyD, kitTypes])
theorem tyD_nd {K : Frag} {S : Hp} {v : V} {x : PD} (h : Dq K S v x) : tyD x ≠ "dict" := by
  cases h <;> simp [tyD]
/-- isinstance(e, T), T a built-in class -/
theorem je_isi {x : Str} {T : String} {p p2 : Pos} (hT : (kitTypes.all fun t => decide (kitB t T = some (subTy t T))) = true) (hgI : Gl X "isinstance") (hmI : X.mg "isinstance" = none) (hg : Gl X x) (hm : X.mg x = none) (hv : bootBuiltins x = some (.type T)) (hn : x ≠ "__name__") (hdb : (x == ("__debug__" : Str)) = false)
    (ha : JO X n W κ a f) (he : starEach [a, .Name x p2] X.env = (false, eval a X.env) :: starEach [.Name x p2] X.env) (he2 : starEach [.Name x p2] X.env = (false, eval (.Name x p2) X.env) :: starEach [] X.env)
    (hpl : (backTo pos (starEach [.Name x p2] X.env)).any (·.1) = false) : JE X n W κ (.Call (.Name "isinstance" p) [a, .Name x p2] [] pos) (d1 (gIsi T) f) := by
  refine PE.to (pe_callB call_isi hgI hmI (by decide +kernel) (pa_cons ha (pa_cons (pe_bltn (v := .ty T) hg hm hv rfl hn hdb) pa_nil he2) he) (by decide) (by decide) he hpl) fun σ H Q ⟨m, S, ρ, R, Er, st, hf, kR, kE⟩ => ⟨m, S, ρ, _, Er, st, hf, fun x v S1 H1 hx st1 p1 d1 => ?_, kE⟩
  cases x with
  | exc _ _ => exact hx.elim
  | well => exact hx.elim
  | d x => exact ⟨v, .ty T, _, _, _, rfl, .ty T, ty_of st1.wd.sm d1, kit_tyD hT x (tyD_nd (d1.dq st1.wd.sm)), kR _ _ S1 H1 hx st1 p1 (.bl _)⟩
/-- isinstance(e, C), C a class of errors (number c'), e None or a kept error -/
def gIsE (c' : Nat) (sub : Nat → Nat → Bool) : DV → (DV → Prop) → Prop
  | .d .none, R => R (.d (.bool false))
  | .exc c _, R => R (.d (.bool (sub c c')))
  | _, _ => False
theorem je_isE {x : Str} {C : Addr} {c' : Nat} {sub : Nat → Nat → Bool} {p p2 : Pos} (hgI : Gl X "isinstance") (hmI : X.mg "isinstance" = none) (hg : Gl X x) (hm : X.mg x = some (.ref C)) (hdb : (x == ("__debug__" : Str)) = false)
    (hN : PySem.W.kitOne X.K (.type "NoneType") (.ref C) = some false) (hI : ∀ c, IsC X.K (n.CT c)) (hL : ∀ c, PySem.W.kitOne X.K (.ref (n.CT c)) (.ref C) = some (sub c c'))
    (ha : JO X n W κ a f) (he : starEach [a, .Name x p2] X.env = (false, eval a X.env) :: starEach [.Name x p2] X.env) (he2 : starEach [.Name x p2] X.env = (false, eval (.Name x p2) X.env) :: starEach [] X.env)
    (hpl : (backTo pos (starEach [.Name x p2] X.env)).any (·.1) = false) : JE X n W κ (.Call (.Name "isinstance" p) [a, .Name x p2] [] pos) (d1 (gIsE c' sub) f) := by
  have call : CallR X (.builtin "isinstance") (fun xs H Q => rIsi X.K xs H Q ∨ rIsK X.K xs H Q) := fun pins s σ H xs us Q I r h => h.elim (call_isi pins s σ H xs us Q I r) (call_isK pins s σ H xs us Q I r)
  refine PE.to (pe_callB call hgI hmI (by decide +kernel) (pa_cons ha (pa_cons (pe_glob (v := .ref C) hg hm rfl hdb) pa_nil he2) he) (by decide) (by decide) he hpl) fun σ H Q ⟨m, S, ρ, R, Er, st, hf, kR, kE⟩ => ⟨m, S, ρ, _, Er, st, hf, fun x v S1 H1 hx st1 p1 d1 => ?_, kE⟩
  cases x with
  | well => exact hx.elim
  | d x =>
    cases x with
    | none => exact .inl ⟨v, .ref C, _, _, _, rfl, .own C, ty_of st1.wd.sm d1, hN, kR _ _ S1 H1 hx st1 p1 (.bl _)⟩
    | _ => exact hx.elim
  | exc c x =>
    rcases d1 with ⟨aa, dd, v', rfl, h1, h2, _⟩ | ⟨_, _, _, _, e, _⟩
    · exact .inr ⟨aa, _, dd, _, .ref C, .ref C, _, rfl, st1.wd.sm _ _ h1, st1.wd.sm _ _ h2, hI c, fun u r => r, hL c, kR _ _ S1 H1 hx st1 p1 (.bl _)⟩
    · cases e
/-- e.value -/
def gVal : DV → (DV → Prop) → Prop
  | .exc _ x, R => R (.d x)
  | _, _ => False
theorem je_value {D fI : Addr} (hE : ∀ c, ErrCls X.K D fI (n.CT c)) (ha : JO X n W κ a f) (hb : attributeBase a "value" X.env (eval a X.env) = eval a X.env) : JE X n W κ (.Attribute a "value" pos) (d1 gVal f) := by
  refine PE.to (pe_value (D := D) (fI := fI) ha hb) fun σ H Q ⟨m, S, ρ, R, Er, st, hf, kR, kE⟩ => ⟨m, S, ρ, _, Er, st, hf, fun x v S1 H1 hx st1 p1 d1 => ?_, kE⟩
  cases x with
  | well => exact hx.elim
  | d x => exact hx.elim
  | exc c x =>
    rcases d1 with ⟨aa, dd, v', rfl, h1, h2, h3⟩ | ⟨_, _, _, _, e, _⟩
    · exact ⟨aa, _, dd, v', rfl, hE c, st1.wd.sm _ _ h1, st1.wd.sm _ _ h2, kR _ _ S1 H1 hx st1 p1 h3⟩
    · cases e

/-! ### walks -/
/-- J goes through xs, wherever the data of S stand -/
def ItD (K : Frag) (J : It) (xs : List PD) (S : Hp) : Prop := ∀ S' H', Same S S' → Same S' H' → (∀ i, i < xs.length → J.go i H') ∧ (∀ i, i = xs.length → J.stop i H') ∧
  ∀ i x H'', i < xs.length → J.yld i H' x H'' → ∃ S'' d, Grow S' H' S'' H'' ∧ xs[i]? = some d ∧ Dq K S'' x d
def rdI (K : Frag) (n : En) (W : WX) (κ : Nat) (f : DN) : TI := fun σ H Rr => ∃ m S ρ R Er, StOk K n (m + κ) S H σ ρ ∧ f ρ R Er ∧
  (∀ xs J S' H', R xs → StOk K n m S' H' σ ρ → Post n.wl S H S' H' → ItD K J xs S' → Rr J H') ∧
  KErr K n W m S σ ρ Er
abbrev JI (X : Cx) (n : En) (W : WX) (κ : Nat) (tg e : Expr) (f : DN) : Prop := PI X tg e (rdI X.K n W κ f)
theorem PI.to {tg e : Expr} {t t' : TI} (h : PI X tg e t) (i : ∀ σ H R, t' σ H R → t σ H R) : PI X tg e t' := ⟨fun pins s σ H R I q => h.run pins s σ H R I (i σ H R q)⟩
def seqS : Option (List Int) → (List PD → Prop) → Prop
  | some ns, R => R (ns.map .int)
  | _, _ => False
def seqD : DV → (List PD → Prop) → Prop
  | .well o, R => seqS o R
  | .d (.list xs), R => R xs
  | .d (.tuple xs), R => R xs
  | _, _ => False
def iSeq (f : DE) : DN := fun ρ R E => f ρ (fun x => seqD x R) E
/-- a list or a tuple -/
def iLT (K : Frag) (tl : TE) : TI := fun σ H R => tl σ H fun x H1 => ∃ a, x = .ref a ∧ (((∃ xs, SqL K H1 a xs) ∧ R (Itl K a) H1) ∨ ((∃ xs, SqT K H1 a xs) ∧ R (Itt K a) H1))
theorem pi_lt {tg l : Expr} {tl : TE} (hl : PE X l tl) : PI X tg l (iLT X.K tl) := by
  refine ⟨fun pins s σ H R I h => ?_⟩
  refine thn (hl.run pins s σ H _ I h) fun v s1 ⟨x, H1, I1, r1, q1⟩ => ?_
  have frs : ∀ b ∈ [s1.heap.objs.size], FpOk X pins H1 b := fun b hb => by
    have e : b = s1.heap.objs.size := by simpa using hb
    subst e
    exact I1.fpOk (Nat.le_refl _) (I1.hok.fresh (Nat.le_refl _))
  obtain ⟨a, rfl, ⟨⟨xs, hq⟩, q⟩ | ⟨⟨xs, hq⟩, q⟩⟩ := q1
  · cases r1
    obtain ⟨its, rv, p, hz⟩ := I1.list hq
    refine wpAny_pyIter_list p.isList ?_
    exact ⟨s1.heap.objs.size, [s1.heap.objs.size], _, _, H1, rfl, I1.kept (t' := s1.toks) fun b o e => Heap.get?_push_of_some _ e, turn_list a _, ⟨_, Heap.get?_push_size _ rfl, rfl, rfl⟩, frs, q⟩
  · cases r1
    obtain ⟨its, rv, p, hz⟩ := I1.tuple hq
    refine wpAny_pyIter_tuple (show s1.heap.IsTuple a its.toArray from p) ?_
    exact ⟨s1.heap.objs.size, [s1.heap.objs.size], _, _, H1, rfl, I1.kept (t' := s1.toks) fun b o e => Heap.get?_push_of_some _ e, turn_tuple a _, ⟨_, Heap.get?_push_size _ rfl, rfl, rfl⟩, frs, q⟩
theorem itd_list {K : Frag} {S : Hp} {a : Addr} {vs : List V} {xs : List PD} (h : SqL K S a vs) (d : DqAll K S vs xs) : ItD K (Itl K a) xs S := by
  intro S' H' e1 e2
  have q : SqL K H' a vs := e2.seq (e1.seq h)
  have dl := d.len
  refine ⟨fun i hi => ⟨vs, vs[i]'(by omega), q, by simp [show i < vs.length by omega]⟩, fun i hi => ⟨vs, q, by omega⟩, fun i x H'' _ y => ?_⟩
  obtain ⟨rfl, y⟩ := y
  obtain ⟨dd, h1, h2⟩ := d.atV (y vs q)
  exact ⟨S', dd, Grow.refl e2, h1, dq_mono e1 h2⟩
theorem itd_tup {K : Frag} {S : Hp} {a : Addr} {vs : List V} {xs : List PD} (h : SqT K S a vs) (d : DqAll K S vs xs) : ItD K (Itt K a) xs S := by
  intro S' H' e1 e2
  have q : SqT K H' a vs := sqT_mono e2 (sqT_mono e1 h)
  have dl := d.len
  refine ⟨fun i hi => ⟨vs, vs[i]'(by omega), q, by simp [show i < vs.length by omega]⟩, fun i hi => ⟨vs, q, by omega⟩, fun i x H'' _ y => ?_⟩
  obtain ⟨rfl, y⟩ := y
  obtain ⟨dd, h1, h2⟩ := d.atV (y vs q)
  exact ⟨S', dd, Grow.refl e2, h1, dq_mono e1 h2⟩
theorem ji_seq {tg : Expr} (he : JE X n W κ e f) : JI X n W κ tg e (iSeq f) := by
  refine PI.to (pi_lt he) fun σ H Rr ⟨m, S, ρ, R, Er, st, hf, kR, kE⟩ => ⟨m, S, ρ, _, Er, st, hf, fun x v S1 H1 hx st1 p1 d1 => ?_, kE⟩
  cases x with
  | exc _ _ => exact hx.elim
  | well o =>
    cases o with
    | none => exact hx.elim
    | some ns =>
      obtain ⟨p, rfl, hp⟩ := d1
      exact ⟨_, rfl, .inl ⟨⟨_, st1.wd.sm.seq hp⟩, kR _ _ S1 H1 hx st1 p1 (itd_list hp (DqAll.ints ns))⟩⟩
  | d x =>
    cases x with
    | list xs =>
      cases d1 with
      | lst h1 h2 => exact ⟨_, rfl, .inl ⟨⟨_, SqL.of (st1.wd.sm _ _ h1)⟩, kR xs _ S1 H1 hx st1 p1 (itd_list (SqL.of h1) h2)⟩⟩
    | tuple xs =>
      cases d1 with
      | tup h1 h2 => exact ⟨_, rfl, .inr ⟨⟨_, sqT_mono st1.wd.sm h1⟩, kR xs _ S1 H1 hx st1 p1 (itd_tup h1 h2)⟩⟩
    | _ => exact hx.elim
/-- the ints of a range -/
def rngD (lo hi : Int) : List PD := (List.range (hi - lo).toNat).map fun i : Nat => .int (lo + (i : Int))
theorem rngD_len (lo hi : Int) : (rngD lo hi).length = (hi - lo).toNat := by unfold rngD; rw [List.length_map, List.length_range]
theorem itd_rng {K : Frag} {S : Hp} {lo hi : Int} : ItD K (Itr lo (hi - lo).toNat) (rngD lo hi) S := by
  intro S' H' e1 e2
  refine ⟨fun i h => by rw [rngD_len] at h; exact h, fun i h => by rw [rngD_len] at h; exact Nat.le_of_eq h.symm, fun i x H'' hi y => ?_⟩
  obtain ⟨rfl, rfl⟩ := y
  rw [rngD_len] at hi
  refine ⟨S', .int (lo + i), Grow.refl e2, ?_, .int _⟩
  unfold rngD
  rw [List.getElem?_map, List.getElem?_range hi]
  rfl
def RgB (i : Int) : Prop := -(2 ^ 62) ≤ i ∧ i < 2 ^ 62
def rg1 : List DV → (List PD → Prop) → Prop
  | [.d (.int j)], R => RgB j ∧ R (rngD 0 j)
  | _, _ => False
def rg2 : List DV → (List PD → Prop) → Prop
  | [.d (.int i), .d (.int j)], R => (RgB i ∧ RgB j) ∧ R (rngD i j)
  | _, _ => False
def iRg (gg : List DV → (List PD → Prop) → Prop) (f : DA) : DN := fun ρ R E => f ρ (fun xs => gg xs R) E
theorem ji_range1 {tg : Expr} {p : Pos} (hg : Gl X "range") (hm : X.mg "range" = none) (ha : JAO X n W κ [a] fa) (hs : starEach [a] X.env = [(false, eval a X.env)]) : JI X n W κ tg (.Call (.Name "range" p) [a] [] pos) (iRg rg1 fa) := by
  refine PI.to (pi_range1 hg hm ha hs) fun σ H Rr ⟨m, S, ρ, R, Er, st, hf, kR, kE⟩ => ⟨m, S, ρ, _, Er, st, hf, fun xs vs S1 H1 hx st1 p1 d1 => ?_, kE⟩
  match xs, d1, hx with
  | [.d (.int j)], .cons h1 .nil, ⟨⟨q1, q2⟩, hr⟩ =>
    have e := h1.int
    subst e
    refine ⟨j, rfl, q1, q2, ?_⟩
    have q := kR _ _ S1 H1 hr st1 p1 itd_rng
    simpa using q
theorem ji_range2 {tg : Expr} {p : Pos} (hg : Gl X "range") (hm : X.mg "range" = none) (ha : JAO X n W κ [a, b] fa) (hs : starEach [a, b] X.env = [(false, eval a X.env), (false, eval b X.env)]) (hs2 : starEach [b] X.env = [(false, eval b X.env)]) :
    JI X n W κ tg (.Call (.Name "range" p) [a, b] [] pos) (iRg rg2 fa) := by
  refine PI.to (pi_range2 hg hm ha hs hs2) fun σ H Rr ⟨m, S, ρ, R, Er, st, hf, kR, kE⟩ => ⟨m, S, ρ, _, Er, st, hf, fun xs vs S1 H1 hx st1 p1 d1 => ?_, kE⟩
  match xs, d1, hx with
  | [.d (.int i), .d (.int j)], .cons h1 (.cons h2 .nil), ⟨⟨⟨q1, q2⟩, q3, q4⟩, hr⟩ =>
    have e := h1.int
    have e2 := h2.int
    subst e e2
    exact ⟨i, j, rfl, ⟨q1, q2, q3, q4⟩, kR _ _ S1 H1 hr st1 p1 itd_rng⟩

/-! ### targets -/
abbrev DG := PD → List Sl → (List Sl → Prop) → Prop
abbrev DGs := List PD → List Sl → (List Sl → Prop) → Prop
/-- wr: the slots that are written -/
def rdG (K : Frag) (n : En) (wr : List Nat) (gd : DG) : TG := fun v σ H Q => ∃ m S ρ x R, StOk K n m S H σ ρ ∧ Dq K S v x ∧ gd x ρ R ∧
  ∀ ρ' σ', R ρ' → StOk K n m S H σ' ρ' → (∀ j, j ∉ wr → σ'[j]? = σ[j]?) → σ'.length = σ.length → Q σ' H
def rdGs (K : Frag) (n : En) (wr : List Nat) (gd : DGs) : TGs := fun vs σ H Q => ∃ m S ρ xs R, StOk K n m S H σ ρ ∧ DqAll K S vs xs ∧ gd xs ρ R ∧
  ∀ ρ' σ', R ρ' → StOk K n m S H σ' ρ' → (∀ j, j ∉ wr → σ'[j]? = σ[j]?) → σ'.length = σ.length → Q σ' H
abbrev JG (X : Cx) (n : En) (wr : List Nat) (tg : Expr) (gd : DG) : Prop := PG X tg (rdG X.K n wr gd)
abbrev JGs (X : Cx) (n : En) (wr : List Nat) (tg : List Expr) (gd : DGs) : Prop := PGs X tg (rdGs X.K n wr gd)
theorem PG.to {tg : Expr} {t t' : TG} (h : PG X tg t) (i : ∀ v σ H Q, t' v σ H Q → t v σ H Q) : PG X tg t' := ⟨fun pins s σ H v u Q I r q => h.run pins s σ H v u Q I r (i v σ H Q q)⟩
theorem PGs.to {tg : List Expr} {t t' : TGs} (h : PGs X tg t) (i : ∀ v σ H Q, t' v σ H Q → t v σ H Q) : PGs X tg t' := ⟨fun pins s σ H v u Q I r q => h.run pins s σ H v u Q I r (i v σ H Q q)⟩
def gNm (i : Nat) : DG := fun x ρ R => R (ρ.set i (.v (.d x)))
def gTp (g : DGs) : DG := fun x ρ R => match x with
  | .tuple xs => g xs ρ R
  | _ => False
def gsNil : DGs := fun xs ρ R => xs = [] ∧ R ρ
def gsCons (g : DG) (h : DGs) : DGs := fun xs ρ R => match xs with
  | x :: r => g x ρ fun ρ' => h r ρ' R
  | [] => False
theorem jg_name {i : Nat} {x : Str} (hN : X.N.Nodup) (hi : X.N[i]? = some x) (hx : Loc X.env.scope x) (hf : X.fn x = true ∨ X.env.scope.names.lookup x = some .local) : JG X n [i] (.Name x pos) (gNm i) := by
  refine PG.to (pg_name hN hi hx hf) fun v σ H Q ⟨m, S, ρ, x, R, st, d, hr, k⟩ => ?_
  exact k _ _ hr (st.set d) (fun j hj => List.getElem?_set_ne (fun z => hj (by simp [z]))) (List.length_set ..)
theorem jgs_nil : JGs X n [] [] gsNil := by
  refine PGs.to pgs_nil fun vs σ H Q ⟨m, S, ρ, xs, R, st, d, hr, k⟩ => ?_
  obtain ⟨rfl, hr⟩ := hr
  cases d
  exact ⟨rfl, k _ _ hr st (fun _ _ => rfl) rfl⟩
theorem jgs_cons {es : List Expr} {w1 w2 : List Nat} {g1 : DG} {g2 : DGs} (h1 : JG X n w1 e g1) (h2 : JGs X n w2 es g2) (hs : (assignEach (e :: es) X.env).map (·.2) = assign e X.env :: (assignEach es X.env).map (·.2)) : JGs X n (w1 ++ w2) (e :: es) (gsCons g1 g2) := by
  refine PGs.to (pgs_cons h1 h2 hs) fun vs σ H Q ⟨m, S, ρ, xs, R, st, d, hr, k⟩ => ?_
  cases d with
  | nil => exact hr.elim
  | cons d1 d2 =>
    refine ⟨_, _, rfl, m, S, ρ, _, _, st, d1, hr, fun ρ1 σ1 hr1 st1 o1 l1 => ?_⟩
    refine ⟨m, S, ρ1, _, R, st1, d2, hr1, fun ρ2 σ2 hr2 st2 o2 l2 => k _ _ hr2 st2 (fun j hj => ?_) (l2.trans l1)⟩
    rw [List.mem_append, not_or] at hj
    rw [o2 j hj.2, o1 j hj.1]
theorem jg_tup {es : List Expr} {kk nn : Nat} {wr : List Nat} {g : DGs} (hc : X.calm = true) (h : JGs X n wr es g) (hn : (assignEach es X.env).length = nn) (hst : (assignEach es X.env).findIdx? (·.1) = none) (hlen : ∀ xs ρ R, g xs ρ R → xs.length = nn) :
    JG X n wr (.Tuple es kk pos) (gTp g) := by
  refine PG.to (pg_tup hc h hn hst) fun v σ H Q ⟨m, S, ρ, x, R, st, d, hr, k⟩ => ?_
  cases d with
  | tup h1 h2 => exact ⟨_, _, rfl, sqT_mono st.wd.sm h1, by rw [h2.len]; exact hlen _ _ _ hr, m, S, ρ, _, R, st, h2, hr, k⟩
  | _ => exact hr.elim
theorem gs_len0 : ∀ xs ρ R, gsNil xs ρ R → xs.length = 0 := fun xs ρ R h => by rw [h.1]; rfl
theorem gs_len1 {g : DG} {h : DGs} {k : Nat} (mono : ∀ x ρ R, g x ρ R → ∃ ρ', R ρ') (hh : ∀ xs ρ R, h xs ρ R → xs.length = k) : ∀ xs ρ R, gsCons g h xs ρ R → xs.length = k + 1 := fun xs ρ R q => by
  cases xs with
  | nil => exact q.elim
  | cons x r =>
    obtain ⟨ρ', z⟩ := mono x ρ _ q
    rw [List.length_cons, hh r ρ' R z]
theorem gm_name {i : Nat} : ∀ x ρ R, gNm i x ρ R → ∃ ρ', R ρ' := fun _ _ _ h => ⟨_, h⟩
theorem gm_tup {g : DGs} (h : ∀ xs ρ R, g xs ρ R → ∃ ρ', R ρ') : ∀ x ρ R, gTp g x ρ R → ∃ ρ', R ρ' := fun x ρ R q => by
  cases x with
  | tuple xs => exact h _ _ _ q
  | _ => exact q.elim
theorem gm_nil : ∀ xs ρ R, gsNil xs ρ R → ∃ ρ', R ρ' := fun _ ρ _ h => ⟨ρ, h.2⟩
theorem gm_cons {g : DG} {h : DGs} (m1 : ∀ x ρ R, g x ρ R → ∃ ρ', R ρ') (m2 : ∀ xs ρ R, h xs ρ R → ∃ ρ', R ρ') : ∀ xs ρ R, gsCons g h xs ρ R → ∃ ρ', R ρ' := fun xs ρ R q => by
  cases xs with
  | nil => exact q.elim
  | cons x r =>
    obtain ⟨ρ', z⟩ := m1 x ρ _ q
    exact m2 r ρ' R z

/-! ### comprehensions -/
def wipeD (ρ : List Sl) : List Nat → List Sl
  | [] => ρ
  | v :: vs => (wipeD ρ vs).set v .no
theorem st_wipe {K : Frag} {m : Nat} {S H : Hp} {σ : L2.St} {ρ : List Sl} (st : StOk K n m S H σ ρ) : ∀ vs, StOk K n m S H (wipe σ vs) (wipeD ρ vs)
  | [] => st
  | v :: vs => by
    unfold wipe wipeD
    exact (st_wipe st vs).setNo
theorem wipe_same {σ σ' : L2.St} (hl : σ'.length = σ.length) : ∀ {vs : List Nat}, (∀ j, j ∉ vs → σ'[j]? = σ[j]?) → wipe σ' vs = wipe σ vs := by
  have get : ∀ (τ : L2.St) (vs : List Nat) (j : Nat), (wipe τ vs)[j]? = if j ∈ vs ∧ j < τ.length then some none else τ[j]? := fun τ vs j => by
    induction vs with
    | nil => simp [wipe]
    | cons v r ih =>
      unfold wipe
      by_cases hv : v = j
      · subst hv
        by_cases hj : v < τ.length
        · rw [List.getElem?_set_self (by rw [wipe_length]; exact hj)]
          simp [hj]
        · rw [List.getElem?_eq_none (by rw [List.length_set, wipe_length]; omega)]
          simp [hj]
      · rw [List.getElem?_set_ne hv, ih]
        have : (j = v ∨ j ∈ r) ↔ j ∈ r := ⟨fun z => z.elim (fun y => absurd y.symm hv) id, .inr⟩
        simp [this]
  intro vs h
  apply List.ext_getElem?
  intro j
  rw [get, get, hl]
  by_cases hj : j ∈ vs
  · by_cases hz : j < σ.length
    · simp [hj, hz]
    · simp [hj, hz]
      omega
  · simp [hj, h j hj]
def WF : WX := fun _ _ _ _ => False
theorem takes_none {Y : Cx} : Takes Y WF := fun u s' ⟨_, _, _, _, _, _, _, _, _, _, _, _, _, _, _, _, w⟩ => w.elim
theorem Cok.blk {scope : Scope} (C : Cok X n W k) (s : Shared) (H : Hp) (CC : Addr) (cl : List (Str × Addr)) (fp : List Addr) : Cok (X.blk s H scope (compEnvC scope cl CC X.env) fp) n WF k :=
  ⟨C.calm, takes_none, C.hr, C.hg, C.nd⟩
def tTrue : DT := fun _ R _ => R true
abbrev JTs (X : Cx) (n : En) (W : WX) (κ : Nat) (ifs : List Expr) (f : DT) : Prop := PTs X ifs (rdT X.K n W κ f)
theorem PTs.to {ifs : List Expr} {t t' : TT} (h : PTs X ifs t) (i : ∀ σ H Q, t' σ H Q → t σ H Q) : PTs X ifs t' := ⟨fun pins s σ H Q I q => h.run pins s σ H Q I (i σ H Q q)⟩
theorem jts_nil : JTs X n W 0 [] tTrue := PTs.to pts_nil fun σ H Q ⟨m, S, ρ, R, Er, st, hf, kR, _⟩ => kR true S H hf st Post.refl
theorem jts_one (h : JT X n W κ e t) : JTs X n W κ [e] t := pts_one h
abbrev noE : EK := fun _ _ => False
/-- the items that a comprehension makes of xs -/
def lcD (gd : DG) (t : DT) (f : DE) (ρ : List Sl) : List PD → (List PD → Prop) → Prop
  | [], R => R []
  | x :: xs, R => gd x ρ fun ρ1 => t ρ1 (fun b => if b = true then f ρ1 (fun y => onD y fun d => lcD gd t f ρ xs fun ds => R (d :: ds)) noE else lcD gd t f ρ xs R) noE
/-- L: at most so many turns (what the cost is reckoned by) -/
def nLc (L : Nat) (fi : DN) (gd : DG) (t : DT) (f : DE) (own : List Nat) : DN := fun ρ R E => fi ρ (fun xs => xs.length ≤ L ∧ lcD gd t f (wipeD ρ own) xs R) E
theorem own_ne {K : Frag} {m : Nat} {S H : Hp} {σ : L2.St} {ρ : List Sl} {D : Addr} (s : StOk K n m S H σ ρ) (hD : H D = none) : ∀ (i : Nat) xs, ρ[i]? = some (Sl.own xs) → σ[i]? ≠ some (some (V.ref D)) := fun i xs e z => by
  obtain ⟨A, h1, _⟩ := s.sl
  obtain ⟨g1, _, _, _, vs, g5, _⟩ := h1 i _ e
  rw [g1] at z
  cases z
  rw [hD] at g5
  cases g5
theorem StOk.side {K : Frag} {m : Nat} {S H : Hp} {σ : L2.St} {ρ : List Sl} {D : Addr} {o : HO} (s : StOk K n m S H σ ρ) (hS : S D = none) (h0 : n.H0 D = none) (hw : n.wl ≠ some D) (ne : ∀ (i : Nat) xs, ρ[i]? = some (Sl.own xs) → σ[i]? ≠ some (some (V.ref D))) :
    StOk K n m S (upd H D o) σ ρ := by
  refine ⟨⟨fun b u e => ?_, fun p e => ?_⟩, ⟨s.po.sS, s.po.fr, fun a u e w => ?_, fun a ha => ?_⟩, s.len, ?_⟩
  · rw [upd_ne (ne_of_none e hS)]; exact s.wd.sm b u e
  · obtain ⟨q1, a, b, c, q2, q3⟩ := s.wd.we p e
    exact ⟨q1, a, b, c, by rw [upd_ne (fun z => hw (by rw [← z]; exact e))]; exact q2, q3⟩
  · rw [upd_ne (ne_of_none e h0)]; exact s.po.kp a u e w
  · by_cases z : a = D
    · rw [z, upd_same]; exact Option.some_ne_none _
    · rw [upd_ne z]; exact s.po.al a ha
  · obtain ⟨A, h1, h2⟩ := s.sl
    refine ⟨A, fun i t e => ?_, h2⟩
    have q := h1 i t e
    cases t with
    | no => exact trivial
    | v x => exact q
    | own xs =>
      obtain ⟨g1, g2, g3, g4, vs, g5, g6⟩ := q
      have : A i ≠ D := fun z => ne i xs e (by rw [g1, z])
      exact ⟨g1, g2, g3, g4, vs, by rw [upd_ne this]; exact g5, g6⟩
theorem Post.side {wl : Option Addr} {S H S' H' : Hp} {D : Addr} {o : HO} (p : Post wl S H S' H') (hD : H D = none) : Post wl S H S' (upd H' D o) :=
  ⟨p.sS, p.fr, fun a u e w => by rw [upd_ne (ne_of_none e hD)]; exact p.kp a u e w, fun a ha => by
    have : a ≠ D := fun z => ha (z ▸ hD)
    rw [upd_ne this]; exact p.al a ha⟩
theorem lcD_core {K : Frag} {m : Nat} {gd : DG} {wr : List Nat} {κt κe L : Nat} {own : List Nat} {J : It} {xs : List PD} {R : List PD → Prop} {S H : Hp} {σ : L2.St} {ρ : List Sl} {Q : VK} {D : Addr} (hL : xs.length ≤ L) (hL2 : L ≤ 100000)
    (hsub : ∀ j ∈ wr, j ∈ own) (st : StOk K n (m + L * (κt + κe)) S H σ ρ) (hJ : ItD K J xs S) (hD : H D = none) (hlc : lcD gd t f (wipeD ρ own) xs R)
    (kR : ∀ ys p vs S' H', R ys → StOk K n m S' H' σ ρ → Post n.wl S H S' H' → H p = none → S' p = none → H' p = some (.lst vs) → DqAll K S' vs ys → Q (.ref p) H') :
    ∃ Wv : Nat → Nat → Hp → Prop, (∃ m, Wv 0 m (upd H D (.lst []))) ∧ ∀ i m H, Wv i m H →
      (J.stop i H ∧ Q (.ref D) H) ∨ (J.go i H ∧ ∃ Nx : Hp → Prop, (∀ H', Nx H' → ∃ m', m' < m ∧ Wv (i + 1) m' H') ∧ ∀ x H', J.yld i H x H' → rdG K n wr gd x (wipe σ own) H' fun σ2 H2 => wipe σ2 own = wipe σ own ∧ rdT K n WF κt t σ2 H2 fun b H3 =>
        if b = true then rdE K n WF κe f σ2 H3 fun y H4 => ∃ acc, H4 D = some (.lst acc) ∧ acc.length < sizeLine ∧ Nx (upd H4 D (.lst (acc ++ [y]))) else Nx H3) := by
  -- at turn i: the data S1, the list so far stands at D beside them
  refine ⟨fun i k H1 => k = xs.length - i ∧ i ≤ xs.length ∧ ∃ S1 acc ys, StOk K n (m + (xs.length - i) * (κt + κe)) S1 H1 σ ρ ∧ Post n.wl S H S1 H1 ∧ S1 D = none ∧ H1 D = some (.lst acc) ∧ acc.length ≤ i ∧ DqAll K S1 acc ys ∧
    lcD gd t f (wipeD ρ own) (xs.drop i) fun ds => R (ys ++ ds), ⟨xs.length, by simp, Nat.zero_le _, S, [], [], ?_⟩, ?_⟩
  · have g := Grow.beside (o := .lst []) st.wd.sm hD
    refine ⟨(st.grow g).le ?_, g.po.wk, st.wd.sm.free hD, upd_same, Nat.le_refl _, .nil, ?_⟩
    · have := Nat.mul_le_mul_right (κt + κe) hL
      simp only [Nat.sub_zero]
      omega
    · simpa using hlc
  · rintro i k H1 ⟨rfl, hi, S1, acc, ys, st1, p1, sD, hacc, hal, dacc, hrest⟩
    obtain ⟨j1, j2, j3⟩ := hJ S1 H1 p1.sS st1.wd.sm
    by_cases hlt : i < xs.length
    · refine .inr ⟨j1 i hlt, fun H2 => i + 1 ≤ xs.length ∧ ∃ S2 acc ys, StOk K n (m + (xs.length - (i + 1)) * (κt + κe)) S2 H2 σ ρ ∧ Post n.wl S H S2 H2 ∧ S2 D = none ∧ H2 D = some (.lst acc) ∧ acc.length ≤ i + 1 ∧ DqAll K S2 acc ys ∧
        lcD gd t f (wipeD ρ own) (xs.drop (i + 1)) fun ds => R (ys ++ ds), fun H2 q => ⟨xs.length - (i + 1), by omega, rfl, q⟩, fun x H2 y => ?_⟩
      obtain ⟨S2, d, g2, hxd, dx⟩ := j3 i x H2 hlt y
      have wD : n.wl ≠ some D := fun z => by
        obtain ⟨_, a, b, c, hw, _⟩ := st.wd.we D z
        rw [hD] at hw
        cases hw
      have nD2 : ∀ {T G : Hp}, Post n.wl S1 H1 T G → T D = none ∧ G D = some (.lst acc) := fun {T G} p => ⟨p.fr D (by rw [hacc]; exact Option.some_ne_none _) sD, p.kp D _ hacc wD⟩
      have hdr : xs.drop i = d :: xs.drop (i + 1) := List.drop_eq_getElem_cons hlt ▸ by
        have : xs[i] = d := Option.some.inj ((List.getElem?_eq_getElem hlt).symm.trans hxd)
        rw [this]
      rw [hdr] at hrest
      have hcost : m + (xs.length - i) * (κt + κe) = (m + (xs.length - (i + 1)) * (κt + κe)) + (κt + κe) := by
        have : xs.length - i = (xs.length - (i + 1)) + 1 := by omega
        rw [this, Nat.add_mul]
        omega
      have st2 : StOk K n ((m + (xs.length - (i + 1)) * (κt + κe)) + (κt + κe)) S2 H2 σ ρ := hcost ▸ st1.grow g2
      have h0D : n.H0 D = none := by
        by_cases z : n.H0 D = none
        · exact z
        · exact absurd hD (st.po.al D z)
      have ne := own_ne st hD
      refine ⟨_, S2, _, d, _, st_wipe st2 own, dx, hrest, fun ρ' σ2 hr' st3 out ln => ⟨?_, ?_⟩⟩
      · rw [wipe_same (σ' := σ2) (σ := wipe σ own) ln fun j hj => out j fun z => hj (hsub j z)]
        exact wipe_same (wipe_length _ _) fun j hj => wipe_out hj
      · have st3' : StOk K n ((m + (xs.length - (i + 1)) * (κt + κe)) + κe + κt) S2 H2 σ2 ρ' := st3.le (by omega)
        refine ⟨_, S2, ρ', _, _, st3', hr', fun b S3 H3 hb st4 p3 => ?_, fun c x cls dx S' H' z => z.elim⟩
        cases b with
        | false =>
          simp only [Bool.false_eq_true, if_false] at hb ⊢
          have p13 := g2.po.wk.trans p3
          obtain ⟨d1, d2⟩ := nD2 p13
          exact ⟨hlt, S3, acc, ys, (st1.step p13 st4.wd).le (by omega), p1.trans p13, d1, d2, by omega, dqAll_mono p13.sS dacc, hb⟩
        | true =>
          simp only [if_true] at hb ⊢
          refine ⟨_, S3, ρ', _, _, st4, hb, fun y v S4 H4 hy st5 p4 dv => ?_, fun c x cls dx S' H' z => z.elim⟩
          cases y with
          | exc _ _ => exact hy.elim
          | well => exact hy.elim
          | d y =>
            have p14 := (g2.po.wk.trans p3).trans p4
            obtain ⟨d1, d2⟩ := nD2 p14
            refine ⟨acc, d2, by have : (100000 : Nat) < sizeLine := by decide
                                omega, hlt, S4, acc ++ [v], ys ++ [y], ((st1.step p14 st5.wd).le (by omega)).side d1 h0D wD ne, (p1.trans p14).side hD, d1, upd_same, by rw [List.length_append, List.length_singleton]; omega, (dqAll_mono p14.sS dacc).app (.cons dv .nil), ?_⟩
            have hy : lcD gd t f (wipeD ρ own) (xs.drop (i + 1)) fun ds => R (ys ++ (y :: ds)) := hy
            have e : (fun ds => R (ys ++ (y :: ds))) = fun ds => R ((ys ++ [y]) ++ ds) := by
              funext ds
              rw [List.append_assoc]
              rfl
            rw [e] at hy
            exact hy
    · have e : i = xs.length := by omega
      subst e
      refine .inl ⟨j2 _ rfl, ?_⟩
      rw [List.drop_length] at hrest
      have hr : R (ys ++ []) := hrest
      rw [List.append_nil] at hr
      exact kR ys D acc S1 H1 hr (st1.le (by omega)) p1 hD sD hacc dacc
end
end Wb
/-! Wb7: comprehensions as values, statements, the rule of a def. -/
namespace Wb
open PySem PySem.Spec PyProof.Rows L2
section
variable {X : Cx} {n : En} {W : WX} {κ κ' κ2 κi κt κe κf k k' : Nat} {e a b c elt tg iter : Expr} {es ifs : List Expr} {pos : Pos} {f h g : DE} {fa fk : DA} {t u : DT} {fi : DN}
/-- [elt for tg in iter if ..] -/
theorem jn_lc {scope : Scope} {own : List (Str × Nat)} {wr : List Nat} {gd : DG} (L : Nat) (hL2 : L ≤ 100000) (hc : X.calm = true) (hN : X.N.Nodup) (hi : JI X n W κi tg iter fi) (ok : BlkOk X.N X.env.scope scope own) (hsub : ∀ j ∈ wr, j ∈ own.map (·.2))
    (hg : ∀ (s : Shared) (H : Hp) (C : Addr) (cl : List (Str × Addr)) (fp : List Addr), JG (X.blk s H scope (compEnvC scope cl C X.env) fp) n wr tg gd)
    (ht : ∀ (s : Shared) (H : Hp) (C : Addr) (cl : List (Str × Addr)) (fp : List Addr), JTs (X.blk s H scope (compEnvC scope cl C X.env) fp) n WF κt ifs t)
    (he : ∀ (s : Shared) (H : Hp) (C : Addr) (cl : List (Str × Addr)) (fp : List Addr), JE (X.blk s H scope (compEnvC scope cl C X.env) fp) n WF κe elt f) (hs : ∀ x, foldedSetIterable iter X.env x = pure x) :
    JN X n W (κi + L * (κt + κe)) (.ListComp elt [⟨tg, iter, ifs, 0⟩] scope pos) (nLc L fi gd t f (own.map (·.2))) := by
  refine PE.to (pe_lc (g := rdG X.K n wr gd) (tt := rdT X.K n WF κt t) (te := rdE X.K n WF κe f) hc hN hi ok hg ht he hs) fun σ H Q ⟨m, S, ρ, R, Er, st, hf, kR, kE⟩ => ?_
  refine ⟨m + L * (κt + κe), S, ρ, _, Er, st_split st, hf, fun xs J S1 H1 hx st1 p1 hJ D hD => ?_, fun c x cls dx S' H' e s' er => kE c x cls dx S' H' e (st_down s') er⟩
  have nH : ∀ a, H1 a = none → H a = none := fun a z => by
    cases q : H a with
    | none => rfl
    | some o => exact absurd z (p1.al a (by rw [q]; exact Option.some_ne_none _))
  exact lcD_core hx.1 hL2 hsub st1 hJ hD hx.2 fun ys p vs S' H' hy st' p' hp sp hp' d => kR ys p vs S' H' hy st' (p1.trans p') (nH p hp) sp hp' d

/-! ### statements -/
structure Bok (X : Cx) (n : En) (W : WX) (k : Nat) : Prop where
  c : Cok X n W k
  po : PassesOwn (model X.prog X.w) X.A X.env X.xe
def gNext : DS := fun D ρ => D.nx ρ
def gBrk : DS := fun D ρ => D.bk ρ
def gCnt : DS := fun D ρ => D.ct ρ
def gSeq (a b : DS) : DS := fun D ρ => a { D with nx := b D } ρ
def gSet (i : Nat) (f : DE) : DS := fun D ρ => f ρ (fun x => D.nx (ρ.set i (.v x))) (D.ex ρ)
def gSetN (i : Nat) (f : DN) : DS := fun D ρ => f ρ (fun xs => D.nx (ρ.set i (.own xs))) (D.ex ρ)
def gDrop (f : DE) : DS := fun D ρ => f ρ (fun _ => D.nx ρ) (D.ex ρ)
def gRet (f : DE) : DS := fun D ρ => f ρ (D.rt ρ) (D.ex ρ)
def gIfS (t : DT) (a b : DS) : DS := fun D ρ => t ρ (fun c => if c = true then a D ρ else b D ρ) (D.ex ρ)
def gRaise (c : Nat) (f : DE) : DS := fun D ρ => f ρ (fun x => onD x fun d => D.ex ρ c d) (D.ex ρ)
def gAsg (f : DE) (gd : DG) : DS := fun D ρ => f ρ (fun x => onD x fun d => gd d ρ D.nx) (D.ex ρ)
def gPar (i j : Nat) (f : DA) : DS := fun D ρ => f ρ (fun xs => match xs with
  | [x, y] => D.nx ((ρ.set i (.v x)).set j (.v y))
  | _ => False) (D.ex ρ)
def gPar3 (i j l : Nat) (f : DA) : DS := fun D ρ => f ρ (fun xs => match xs with
  | [x, y, z] => D.nx (((ρ.set i (.v x)).set j (.v y)).set l (.v z))
  | _ => False) (D.ex ρ)
def slOw : Option Sl → (List PD → Prop) → Prop
  | some (.own xs), P => P xs
  | _, _ => False
def gApp (i : Nat) (f : DE) : DS := fun D ρ => slOw ρ[i]? fun xs => f ρ (fun x => onD x fun d => xs.length ≤ 100000 ∧ D.nx (ρ.set i (.own (xs ++ [d])))) (D.ex ρ)
def onI' : DV → (Int → Prop) → Prop
  | .d (.int i), P => P i
  | _, _ => False
def gSetIx (i : Nat) (fi fe : DE) : DS := fun D ρ => slOw ρ[i]? fun xs => fe ρ (fun x => onD x fun d => fi ρ (fun ix => onI' ix fun k => ∃ j, ixN xs.length k = some j ∧ D.nx (ρ.set i (.own (xs.set j d)))) (D.ex ρ)) (D.ex ρ)
def gAugI (ff : Int → Int → Int) (i : Nat) (f : DE) : DS := fun D ρ => match ρ[i]? with
  | some (.v (.d (.int a))) => f ρ (fun x => onI' x fun b => D.nx (ρ.set i (.v (.d (.int (ff a b)))))) (D.ex ρ)
  | _ => False
/-- what a walk over xs does -/
def loopD (gd : DG) (b : DS) (D : DEnds) : List PD → List Sl → Prop
  | [], ρ => D.nx ρ
  | x :: xs, ρ => gd x ρ fun ρ1 => b { D with nx := loopD gd b D xs, ct := loopD gd b D xs, bk := D.nx } ρ1
def gFor (L : Nat) (fi : DN) (gd : DG) (b : DS) : DS := fun D ρ => fi ρ (fun xs => xs.length ≤ L ∧ loopD gd b D xs ρ) (D.ex ρ)
def gWhile (t : DT) (b : DS) : DS := fun D ρ => ∃ V : Nat → List Sl → Prop, (∃ m, V m ρ) ∧ ∀ m ρ, V m ρ → t ρ (fun c => if c = true then b { D with nx := fun ρ' => ∃ m', m' < m ∧ V m' ρ', ct := fun ρ' => ∃ m', m' < m ∧ V m' ρ', bk := D.nx } ρ else D.nx ρ) (D.ex ρ)
/-- try: .. except WebsError as e: y = e; e in slot i, y in slot j -/
def gTry (i j : Nat) (b : DS) : DS := fun D ρ => b { D with ex := fun ρ' c x => D.nx (((ρ'.set i (.v (.exc c x))).set j (.v (.exc c x))).set i .no) } ρ
def gFrz (i : Nat) (b : DS) : DS := fun D ρ => slOw ρ[i]? fun xs => b D (ρ.set i (.v (.d (.list xs))))

theorem slOw_of {o : Option Sl} {P : List PD → Prop} (h : slOw o P) : ∃ xs, o = some (.own xs) ∧ P xs := by
  cases o with
  | none => exact h.elim
  | some s =>
    cases s with
    | own xs => exact ⟨xs, rfl, h⟩
    | _ => exact h.elim
theorem onD_of {x : DV} {P : PD → Prop} (h : onD x P) : ∃ d, x = .d d ∧ P d := by
  cases x with
  | d d => exact ⟨d, rfl, h⟩
  | _ => exact h.elim
theorem onI_of {x : DV} {P : Int → Prop} (h : onI' x P) : ∃ d, x = .d (.int d) ∧ P d := by
  cases x with
  | d d =>
    cases d with
    | int i => exact ⟨i, rfl, h⟩
    | _ => exact h.elim
  | _ => exact h.elim

variable {st : Stmt} {sts body orelse : List Stmt} {ga gb : DS} {tb : DS}
theorem js_pass : JS X n W 0 (.Pass pos) gNext := PS.to ps_pass fun D σ H ⟨m, S, ρ, Dd, st, hg, ks⟩ => ks.nx ρ σ S H hg st (Same.refl S)
theorem js_break : JS X n W 0 (.Break pos) gBrk := PS.to ps_break fun D σ H ⟨m, S, ρ, Dd, st, hg, ks⟩ => ks.bk ρ σ S H hg st (Same.refl S)
theorem js_continue : JS X n W 0 (.Continue pos) gCnt := PS.to ps_continue fun D σ H ⟨m, S, ρ, Dd, st, hg, ks⟩ => ks.ct ρ σ S H hg st (Same.refl S)
theorem jb_nil : JB X n W 0 [] gNext := PSs.to pss_nil fun D σ H ⟨m, S, ρ, Dd, st, hg, ks⟩ => ks.nx ρ σ S H hg st (Same.refl S)
theorem jb_one (h : JS X n W κ st ga) : JB X n W κ [st] ga := pss_one h
theorem jb_cons (h1 : JS X n W κ st ga) (h2 : JB X n W κ' sts gb) : JB X n W (κ + κ') (st :: sts) (gSeq ga gb) := by
  refine PSs.to (pss_cons h1 h2) fun D σ H ⟨m, S, ρ, Dd, st, hg, ks⟩ => ?_
  have kd := ks.up (m' := m + κ') (by omega)
  refine ⟨m + κ', S, ρ, _, st_split st, hg, fun ρ1 σ1 S1 H1 h1 st1 s1 => ?_, kd.rt, kd.bk, kd.ct, kd.ex⟩
  exact ⟨m, S1, ρ1, Dd, st1, h1, ks.af s1⟩
theorem js_le {κa : Nat} (h : JS X n W κ st ga) (hl : κ ≤ κa) : JS X n W κa st ga := PS.to h fun D σ H ⟨m, S, ρ, Dd, st, hg, k⟩ => ⟨m, S, ρ, Dd, st.le (by omega), hg, k⟩
theorem jb_le {κa : Nat} (h : JB X n W κ sts ga) (hl : κ ≤ κa) : JB X n W κa sts ga := PSs.to h fun D σ H ⟨m, S, ρ, Dd, st, hg, k⟩ => ⟨m, S, ρ, Dd, st.le (by omega), hg, k⟩
/-- a list of one's own becomes data -/
theorem jb_frz {i : Nat} (h : JB X n W κ sts ga) : JB X n W κ sts (gFrz i ga) := by
  refine PSs.to h fun D σ H ⟨m, S, ρ, Dd, st, hg, ks⟩ => ?_
  obtain ⟨xs, hi, hg⟩ := slOw_of hg
  obtain ⟨S', e, st'⟩ := st.freeze hi
  exact ⟨m, S', _, Dd, st', hg, ks.af e⟩
theorem js_frz {i : Nat} (h : JS X n W κ st ga) : JS X n W κ st (gFrz i ga) := by
  refine PS.to h fun D σ H ⟨m, S, ρ, Dd, st, hg, ks⟩ => ?_
  obtain ⟨xs, hi, hg⟩ := slOw_of hg
  obtain ⟨S', e, st'⟩ := st.freeze hi
  exact ⟨m, S', _, Dd, st', hg, ks.af e⟩
theorem js_expr (he : JE X n W κ e f) (hs : swapsWith e none pos.line X.env = pure false) : JS X n W κ (.Expr e pos) (gDrop f) :=
  PS.to (ps_expr he hs) fun D σ H ⟨m, S, ρ, Dd, st, hg, ks⟩ => ⟨m, S, ρ, _, _, st, hg, fun x v S' H' hx st' p d => ks.nx ρ σ S' H' hx st' p.sS, ks.ke⟩
theorem js_doc {x j pos'} : JS X n W 0 (.Expr (.Constant (.str x) j pos) pos') gNext := PS.to ps_doc fun D σ H ⟨m, S, ρ, Dd, st, hg, ks⟩ => ks.nx ρ σ S H hg st (Same.refl S)
theorem js_ret (he : JE X n W κ e f) : JS X n W κ (.Return (some e) pos) (gRet f) :=
  PS.to (ps_ret he) fun D σ H ⟨m, S, ρ, Dd, st, hg, ks⟩ => ⟨m, S, ρ, _, _, st, hg, fun x v S' H' hx st' p d => ks.rt ρ σ x v S' H' hx st' d, ks.ke⟩
theorem js_set {i : Nat} {x : Str} {pos' : Pos} (hN : X.N.Nodup) (hi : X.N[i]? = some x) (hx : Loc X.env.scope x) (he : JE X n W κ e f) (hs : swapsWith e (some (.Name x pos')) pos.line X.env = pure false) (hf : X.fn x = true ∨ X.env.scope.names.lookup x = some .local) :
    JS X n W κ (.Assign [.Name x pos'] e pos) (gSet i f) :=
  PS.to (ps_set hN hi hx he hs hf) fun D σ H ⟨m, S, ρ, Dd, st, hg, ks⟩ => ⟨m, S, ρ, _, _, st, hg, fun x v S' H' hx st' p d => ks.nx _ _ S' H' hx (st'.set d) p.sS, ks.ke⟩
theorem own_new {K : Frag} {m m' : Nat} {S H S' H' : Hp} {σ : L2.St} {ρ : List Sl} {i : Nat} {p : Addr} {vs : List V} {xs : List PD} (s : StOk K n m S H σ ρ) (s' : StOk K n m' S' H' σ ρ) (np : H p = none) (sp : S' p = none) (hp : H' p = some (.lst vs)) (d : DqAll K S' vs xs) (hpa : ∀ a, n.pa a) :
    StOk K n m' S' H' (σ.set i (some (.ref p))) (ρ.set i (.own xs)) := by
  refine s'.setOwn hp sp ⟨?_, hpa p⟩ ?_ d fun A j ys h1 e1 hj z => ?_
  · by_cases z : n.H0 p = none
    · exact z
    · exact absurd np (s.po.al p z)
  · intro z
    obtain ⟨_, a, b, c, hw, _⟩ := s.wd.we p z
    rw [np] at hw
    cases hw
  · exact own_ne s np j ys e1 (by rw [(h1 j _ e1).1, z])
theorem js_setN {i : Nat} {x : Str} {pos' : Pos} {fn : DN} (hpa : ∀ a, n.pa a) (hN : X.N.Nodup) (hi : X.N[i]? = some x) (hx : Loc X.env.scope x) (he : JN X n W κ e fn) (hs : swapsWith e (some (.Name x pos')) pos.line X.env = pure false) (hf : X.fn x = true ∨ X.env.scope.names.lookup x = some .local) :
    JS X n W κ (.Assign [.Name x pos'] e pos) (gSetN i fn) :=
  PS.to (ps_set hN hi hx he hs hf) fun D σ H ⟨m, S, ρ, Dd, st, hg, ks⟩ => ⟨m, S, ρ, _, _, st, hg, fun xs p vs S' H' hx st' po np sp hp d => ks.nx _ _ S' H' hx (own_new st st' np sp hp d hpa) po.sS, ks.ke⟩
/-- name = [..] on one line -/
theorem js_setLc {i : Nat} {y : Str} {py spos : Pos} {scope : Scope} {own : List (Str × Nat)} {wr : List Nat} {gd : DG} (hpa : ∀ a, n.pa a) (L : Nat) (hL2 : L ≤ 100000) (hc : X.calm = true) (hN : X.N.Nodup) (hy : X.N[i]? = some y) (hyl : X.env.scope.names.lookup y = some .local)
    (hsw : swapsWith (.ListComp elt [⟨tg, iter, ifs, 0⟩] scope pos) (some (.Name y py)) spos.line X.env = pure true) (hi : JI X n W κi tg iter fi) (ok : BlkOk X.N X.env.scope scope own) (hsub : ∀ j ∈ wr, j ∈ own.map (·.2))
    (hg : ∀ (s : Shared) (H : Hp) (C : Addr) (cl : List (Str × Addr)) (fp : List Addr), JG (X.blk s H scope (compEnvC scope cl C X.env) fp) n wr tg gd)
    (ht : ∀ (s : Shared) (H : Hp) (C : Addr) (cl : List (Str × Addr)) (fp : List Addr), JTs (X.blk s H scope (compEnvC scope cl C X.env) fp) n WF κt ifs t)
    (he : ∀ (s : Shared) (H : Hp) (C : Addr) (cl : List (Str × Addr)) (fp : List Addr), JE (X.blk s H scope (compEnvC scope cl C X.env) fp) n WF κe elt f) (hs : ∀ x, foldedSetIterable iter X.env x = pure x) :
    JS X n W (κi + L * (κt + κe)) (.Assign [.Name y py] (.ListComp elt [⟨tg, iter, ifs, 0⟩] scope pos) spos) (gSetN i (nLc L fi gd t f (own.map (·.2)))) := by
  refine PS.to (ps_setLc (g := rdG X.K n wr gd) (tt := rdT X.K n WF κt t) (te := rdE X.K n WF κe f) hc hN hy hyl hsw hi ok hg ht he hs) fun D σ H ⟨m, S, ρ, Dd, st, hgd, ks⟩ => ?_
  refine ⟨m + L * (κt + κe), S, ρ, _, _, st_split st, hgd, fun xs J S1 H1 hx st1 p1 hJ A hD => ?_, (ks.up (by omega)).ke⟩
  exact lcD_core (Q := fun v H' => D.nx (σ.set i (some v)) H') hx.1 hL2 hsub st1 hJ hD hx.2 fun ys p vs S' H' hy st' p' hp sp hp' d => ks.nx _ _ S' H' hy (own_new st1 st' hp sp hp' d hpa) (p1.sS.trans p'.sS)
/-- the same, its list data at once -/
theorem js_asF {i : Nat} {fn : DN} (h : JS X n W κ st (gSetN i fn)) : JS X n W κ st (gSet i (dN2 fn)) := by
  refine PS.to h fun D σ H ⟨m, S, ρ, Dd, st, hg, ks⟩ => ?_
  by_cases hi : i < ρ.length
  · refine ⟨m, S, ρ, { Dd with nx := fun ρ' => slOw ρ'[i]? fun xs => Dd.nx (ρ'.set i (.v (.d (.list xs)))) }, st, ?_, fun ρ' σ' S' H' h s z => ?_, ks.rt, ks.bk, ks.ct, ks.ex⟩
    · show fn ρ (fun xs => slOw (ρ.set i (.own xs))[i]? fun xs' => Dd.nx ((ρ.set i (.own xs)).set i (.v (.d (.list xs'))))) (Dd.ex ρ)
      have e : (fun xs => slOw (ρ.set i (.own xs))[i]? fun xs' => Dd.nx ((ρ.set i (.own xs)).set i (.v (.d (.list xs'))))) = fun xs => Dd.nx (ρ.set i (.v (.d (.list xs)))) := by
        funext xs
        rw [List.getElem?_set_self hi]
        show Dd.nx ((ρ.set i (.own xs)).set i (.v (.d (.list xs)))) = _
        rw [List.set_set]
      rw [e]
      exact hg
    · obtain ⟨xs, hi, hx⟩ := slOw_of h
      obtain ⟨S2, e, s2⟩ := s.freeze hi
      exact ks.nx _ _ S2 H' hx s2 (z.trans e)
  · refine ⟨m, S, ρ, Dd, st, ?_, ks⟩
    have e : ∀ s : Sl, ρ.set i s = ρ := fun s => List.set_eq_of_length_le (by omega)
    have hg : fn ρ (fun xs => Dd.nx (ρ.set i (.v (.d (.list xs))))) (Dd.ex ρ) := hg
    show fn ρ (fun xs => Dd.nx (ρ.set i (.own xs))) (Dd.ex ρ)
    simpa only [e] using hg
theorem js_if (hc : JT X n W κ c t) (ha : JB X n W κ' body ga) (hb : JB X n W κ2 orelse gb) : JS X n W (κ + (κ' + κ2)) (.If c body orelse pos) (gIfS t ga gb) := by
  refine PS.to (ps_if hc ha hb) fun D σ H ⟨m, S, ρ, Dd, st, hg, ks⟩ => ?_
  refine ⟨m + (κ' + κ2), S, ρ, _, _, st_split st, hg, fun b S1 H1 hx st1 p1 => ?_, (ks.up (by omega)).ke⟩
  cases b with
  | true => exact ⟨m, S1, ρ, Dd, st1.le (by omega), hx, ks.af p1.sS⟩
  | false => exact ⟨m, S1, ρ, Dd, st1.le (by omega), hx, ks.af p1.sS⟩
theorem js_raise {x : Str} {p pos2 : Pos} {D fI : Addr} {C : Addr} {cn : Nat} (C0 : Cok X n W k) (B : ErrBase X.prog X.K X.mg D fI) (T : ErrCls X.K D fI C) (hC : n.CT cn = C) (gC : X.mg x = some (.ref C)) (ha : JE X n W κ a f) (hg : Gl X x)
    (hdb : (x == ("__debug__" : Str)) = false) (he : starEach (a :: []) X.env = (false, eval a X.env) :: starEach [] X.env) (hpl : (backTo pos (starEach [] X.env)).any (·.1) = false) :
    JS X n W κ (.Raise (some (.Call (.Name x p) [a] [] pos)) none pos2) (gRaise cn f) := by
  refine PS.to (ps_raiseE C0.calm B T C0.hr C0.tk gC (pa_cons ha pa_nil he) hg hdb he hpl) fun D σ H ⟨m, S, ρ, Dd, st, hg, ks⟩ => ?_
  refine ⟨m, S, ρ, _, _, st, hg, fun x v S' H' hx st' p d => ?_, ks.ke⟩
  obtain ⟨x, rfl, hx⟩ := onD_of hx
  refine ⟨v, rfl, fun dd hd => ?_⟩
  have g := Grow.new (o := .xd [(("value" : Str), v)]) st'.wd.sm hd
  exact ks.ex ρ cn x _ _ σ _ _ hx (st'.grow g) ⟨dd, v, by rw [hC], rfl, upd_same, dq_mono g.po.sS d⟩ (p.sS.trans g.po.sS)
theorem js_try {i j : Nat} {x nm y : Str} {cv : Value} {np pos' p1 p2 p3 : Pos} (hs : X.stack = X.env :: X.outer) (hf : X.env.frame = some X.env.locals) (hex : X.ex = []) (hN : X.N.Nodup) (hi : X.N[i]? = some nm) (hln : X.env.kindOf nm = some .local) (hj : X.N[j]? = some y)
    (hly : X.env.kindOf y = some .local) (hij : i ≠ j) (hnd : (nm == ("__debug__" : Str)) = false) (hnc : (nm == ("__classdict__" : Str)) = false) (hc : Names X x cv) (tk : Takes X W) (hX : ∀ c, PySem.W.exmOne X.K (.ref (n.CT c)) cv = some true)
    (hb : ∀ (W : WX) (pn : List (Addr × Obj)) (xe : Value → Shared → Prop), Takes (X.tr pn xe) W → PassesOwn (model X.prog X.w) X.A X.env xe → JB (X.tr pn xe) n W κ body gb) (hsw : swapsWith (.Name nm p2) (some (.Name y p1)) p3.line X.env = pure false) :
    JS X n W κ (.Try body [.ExceptHandler (some (.Name x np)) (some nm) [.Assign [.Name y p1] (.Name nm p2) p3] pos'] [] [] pos) (gTry i j gb) := by
  refine PS.to (ps_try_keep (tb := fun W => rdS X.K n W κ gb) hs hf hex hN hi hln hj hly hij hnd hnc hc tk hb hsw) fun D σ H ⟨m, S, ρ, Dd, st, hg, ks⟩ => ?_
  refine ⟨m, S, ρ, _, st, hg, ks.nx, ks.rt, ks.bk, ks.ct, fun ρ' c x cls dx σ' S' H' h s' er q => ?_⟩
  obtain ⟨dd, v, rfl, rfl, hdd, hv⟩ := er
  refine ⟨true, hX c, fun _ => ⟨_, dd, rfl, rfl, fun a ha => ?_⟩, fun z => nomatch z⟩
  have g := Grow.new (o := ExcAt (n.CT c) dd a) s'.wd.sm ha
  have dv : DvOk X.K n (upd S' a (ExcAt (n.CT c) dd a)) (.ref a) (.exc c x) := ⟨a, dd, v, rfl, upd_same, g.po.sS _ _ hdd, dq_mono g.po.sS hv⟩
  exact ks.nx _ _ _ _ h ((((s'.grow g).set dv).set dv).setNo) (q.trans g.po.sS)
/-- xs.append(e), xs a list of one's own -/
theorem js_app {i : Nat} {x : Str} {pos' p pa : Pos} (hN : X.N[i]? = some x) (hv : Vis X.env.scope x) (hd : (x == ("__debug__" : Str)) = false) (hcd : (x == ("__classdict__" : Str)) = false) (he : JE X n W κ e f)
    (hbase : attributeBase (.Name x p) "append" X.env (eval (.Name x p) X.env) = eval (.Name x p) X.env)
    (hfew : ((backTo pos (starEach (e :: []) X.env)).all (fun x => !x.1) && (backToKw pos (keywordEach [] X.env)).all (fun x => x.1.isSome)
      && decide ((e :: ([] : List Expr)).length + ([] : List Keyword).length + (if ([] : List Keyword).isEmpty then 0 else 1) < 30)) = true)
    (hline : (pa.endLine == pos.line) = true) (hs : starEach (e :: []) X.env = (false, eval e X.env) :: starEach [] X.env) (hplain : (backTo pos (starEach [] X.env)).any (·.1) = false)
    (hsw : swapsWith (.Call (.Attribute (.Name x p) "append" pa) [e] [] pos) none pos'.line X.env = pure false) :
    JS X n W κ (.Expr (.Call (.Attribute (.Name x p) "append" pa) [e] [] pos) pos') (gApp i f) := by
  refine PS.to (ps_expr (pe_bm PySem.F.plainAttrs_list PySem.F.slot_list_append PySem.F.type_list_append mt_append (pe_var hN hv hd hcd) (pa_cons he pa_nil hs) hbase hfew hline hs hplain) hsw) fun D σ H ⟨m, S, ρ, Dd, st, hg, ks⟩ => ?_
  obtain ⟨xs, hi, hg⟩ := slOw_of hg
  obtain ⟨q, vs, e1, e2, e3, _⟩ := st.write (ys := []) hi
  refine ⟨_, e1, .inl ⟨rfl, vs, SqL.of e2⟩, m, S, ρ, _, _, st, hg, fun x v S' H' hx st' po d => ?_, ks.ke⟩
  obtain ⟨x, rfl, hl, hx⟩ := onD_of hx
  obtain ⟨q', us, f1, f2, f3, f4⟩ := st'.write (ys := xs ++ [x]) hi
  rw [e1] at f1
  cases f1
  refine ⟨q, us, v, rfl, rfl, f2, ?_, ?_⟩
  · have := f3.len
    have : (100000 : Nat) < sizeLine := by decide
    omega
  · exact ks.nx _ _ S' _ hx (f4 _ (f3.app (.cons d .nil))) po.sS
/-- xs[i] = e, xs a list of one's own -/
theorem js_setIx {i : Nat} {x : Str} {ei : Expr} {p ps pos' : Pos} {fx : DE} (hN : X.N[i]? = some x) (hv : Vis X.env.scope x) (hd : (x == ("__debug__" : Str)) = false) (hcd : (x == ("__classdict__" : Str)) = false) (he : JE X n W κ e f) (hx : JE X n W κ' ei fx)
    (hs : swapsWithSole [.Subscript (.Name x p) ei ps] e pos.line X.env = pure false) (hw : swappedStores [.Subscript (.Name x p) ei ps] e X.env = pure none) (h1 : (assignEach [.Subscript (.Name x p) ei ps] X.env).map (·.2) = [assign (.Subscript (.Name x p) ei ps) X.env])
    (ha : ∀ v, assign (.Subscript (.Name x p) ei ps) X.env v = (do
      let ov ← holding [v] (eval (.Name x p) X.env)
      let iv ← holding [v, ov] (eval ei X.env)
      standAt ps
      holding [v, ov, iv] (setItem ov iv v)
      release [v, ov, iv] [])) :
    JS X n W (κ + κ') (.Assign [.Subscript (.Name x p) ei ps] e pos) (gSetIx i fx f) := by
  refine PS.to (ps_asg he (pg_sub (pe_var hN hv hd hcd) hx set_list ha) hs hw h1) fun D σ H ⟨m, S, ρ, Dd, st, hg, ks⟩ => ?_
  obtain ⟨xs, hi, hg⟩ := slOw_of hg
  refine ⟨m + κ', S, ρ, _, _, st_split st, hg, fun x v S1 H1 hx st1 p1 d1 => ?_, (ks.up (by omega)).ke⟩
  obtain ⟨x, rfl, hx⟩ := onD_of hx
  obtain ⟨q, vs, e1, e2, e3, _⟩ := st1.write (ys := []) hi
  refine ⟨_, e1, m, S1, ρ, _, _, st1, hx, fun y u S2 H2 hy st2 p2 d2 => ?_, (ks.af p1.sS).ke⟩
  obtain ⟨k, rfl, j, hj, hy⟩ := onI_of hy
  cases d2
  obtain ⟨q', us, f1, f2, f3, f4⟩ := st2.write (ys := xs.set j x) hi
  rw [e1] at f1
  cases f1
  refine ⟨q, us, k, j, rfl, rfl, f2, by rw [f3.len]; exact hj, ?_⟩
  exact ks.nx _ _ S2 _ hy (f4 _ (f3.set (dq_mono p2.sS d1) j)) (p1.sS.trans p2.sS)
theorem js_asg {wr : List Nat} {gd : DG} (he : JE X n W κ e f) (hg : JG X n wr tg gd) (hs : swapsWithSole [tg] e pos.line X.env = pure false) (hw : swappedStores [tg] e X.env = pure none) (h1 : (assignEach [tg] X.env).map (·.2) = [assign tg X.env]) :
    JS X n W κ (.Assign [tg] e pos) (gAsg f gd) := by
  refine PS.to (ps_asg he hg hs hw h1) fun D σ H ⟨m, S, ρ, Dd, st, hg, ks⟩ => ?_
  refine ⟨m, S, ρ, _, _, st, hg, fun x v S1 H1 hx st1 p1 d1 => ?_, ks.ke⟩
  obtain ⟨x, rfl, hx⟩ := onD_of hx
  exact ⟨m, S1, ρ, x, _, st1, d1, hx, fun ρ' σ' h' st' _ _ => ks.nx _ _ S1 H1 h' st' p1.sS⟩
theorem js_par {i j : Nat} {x y : Str} {px py pt : Pos} {kt k2 pt2} (hc : X.calm = true) (hN : X.N.Nodup) (hi : X.N[i]? = some x) (hj : X.N[j]? = some y) (hij : i ≠ j) (hx : X.env.scope.names.lookup x = some .local) (hy : X.env.scope.names.lookup y = some .local)
    (ha : JA X n W κ [a, b] fa) (hw : swappedStores [.Tuple [.Name x px, .Name y py] kt pt] (.Tuple [a, b] k2 pt2) X.env = pure (some [x, y]))
    (hs : swapsWithSole [.Tuple [.Name x px, .Name y py] kt pt] (.Tuple [a, b] k2 pt2) pos.line X.env = pure false) : JS X n W κ (.Assign [.Tuple [.Name x px, .Name y py] kt pt] (.Tuple [a, b] k2 pt2) pos) (gPar i j fa) := by
  refine PS.to (ps_par hc hN hi hj hij hx hy ha hw hs) fun D σ H ⟨m, S, ρ, Dd, st, hg, ks⟩ => ⟨m, S, ρ, _, _, st, hg, fun xs vs S1 H1 hx st1 p1 d1 => ?_, ks.ke⟩
  cases d1 with
  | nil => exact (show False from hx).elim
  | cons d1 t =>
    cases t with
    | nil => exact (show False from hx).elim
    | cons d2 t =>
      cases t with
      | cons _ _ => exact (show False from hx).elim
      | nil => exact ⟨_, _, rfl, ks.nx _ _ S1 H1 hx ((st1.set d1).set d2) p1.sS⟩
theorem js_par3 {i j l : Nat} {x y z : Str} {px py pz pt : Pos} {kt k2 pt2} (hc : X.calm = true) (hN : X.N.Nodup) (hi : X.N[i]? = some x) (hj : X.N[j]? = some y) (hl : X.N[l]? = some z) (hij : i ≠ j) (hil : i ≠ l) (hjl : j ≠ l)
    (hx : X.env.scope.names.lookup x = some .local) (hy : X.env.scope.names.lookup y = some .local) (hz : X.env.scope.names.lookup z = some .local) (ha : JA X n W κ [a, b, c] fa)
    (hw : swappedStores [.Tuple [.Name x px, .Name y py, .Name z pz] kt pt] (.Tuple [a, b, c] k2 pt2) X.env = pure (some [x, y, z]))
    (hs : swapsWithSole [.Tuple [.Name x px, .Name y py, .Name z pz] kt pt] (.Tuple [a, b, c] k2 pt2) pos.line X.env = pure false) : JS X n W κ (.Assign [.Tuple [.Name x px, .Name y py, .Name z pz] kt pt] (.Tuple [a, b, c] k2 pt2) pos) (gPar3 i j l fa) := by
  refine PS.to (ps_par3 hc hN hi hj hl hij hil hjl hx hy hz ha hw hs) fun D σ H ⟨m, S, ρ, Dd, st, hg, ks⟩ => ⟨m, S, ρ, _, _, st, hg, fun xs vs S1 H1 hx st1 p1 d1 => ?_, ks.ke⟩
  cases d1 with
  | nil => exact (show False from hx).elim
  | cons d1 t =>
    cases t with
    | nil => exact (show False from hx).elim
    | cons d2 t =>
      cases t with
      | nil => exact (show False from hx).elim
      | cons d3 t =>
        cases t with
        | cons _ _ => exact (show False from hx).elim
        | nil => exact ⟨_, _, _, rfl, ks.nx _ _ S1 H1 hx (((st1.set d1).set d2).set d3) p1.sS⟩
/-- name += e, -= e of ints -/
theorem js_augI {i : Nat} {x : Str} {op : Operator} {ff : Int → Int → Int} {pos' : Pos} (hN : X.N.Nodup) (hi : X.N[i]? = some x) (hx : Loc X.env.scope x) (he : JE X n W κ e f) (ho : PIp X op (ipI ff)) (hf : X.fn x = true ∨ X.env.scope.names.lookup x = some .local) :
    JS X n W κ (.AugAssign (.Name x pos') op e pos) (gAugI ff i f) := by
  refine PS.to (ps_aug hN hi hx he ho hf) fun D σ H ⟨m, S, ρ, Dd, st, hg, ks⟩ => ?_
  unfold gAugI at hg
  cases q : ρ[i]? with
  | none => rw [q] at hg; exact hg.elim
  | some s =>
    rw [q] at hg
    obtain ⟨A, h1, _⟩ := st.sl
    have sl := h1 i _ q
    cases s with
    | no => exact hg.elim
    | own _ => exact hg.elim
    | v x =>
      cases x with
      | exc _ _ => exact hg.elim
      | well => exact hg.elim
      | d x =>
        cases x with
        | int a =>
          obtain ⟨v, e1, d⟩ := sl
          cases d
          refine ⟨_, e1, m, S, ρ, _, _, st, hg, fun x v S' H' hx st' p d => ?_, ks.ke⟩
          obtain ⟨b, rfl, hx⟩ := onI_of hx
          cases d
          exact ⟨a, b, rfl, rfl, ks.nx _ _ S' H' hx (st'.set (x := .d (.int _)) (.int _)) p.sS⟩
        | _ => exact hg.elim
/-- for tg in iter: .. -/
theorem js_for {κb : Nat} {wr : List Nat} {gd : DG} (L : Nat) (B : Bok X n W k) (hi : JI X n W κi tg iter fi) (hg : JG X n wr tg gd) (hb : JB X n W κb body gb) (hs : ∀ x, foldedSetIterable iter X.env x = pure x) : JS X n W (κi + L * κb) (.For tg iter body [] pos) (gFor L fi gd gb) := by
  refine PS.to (ps_for B.po B.c.calm hi hg hb hs) fun D σ H ⟨m, S, ρ, Dd, st, hgd, ks⟩ => ?_
  refine ⟨m + L * κb, S, ρ, _, _, st_split st, hgd, fun xs J S1 H1 ⟨hL, hx⟩ st1 p1 hJ => ?_, (ks.up (by omega)).ke⟩
  refine ⟨fun i k σ2 H2 => k = xs.length - i ∧ i ≤ xs.length ∧ ∃ S2 ρ2, StOk X.K n (m + (xs.length - i) * κb) S2 H2 σ2 ρ2 ∧ Same S1 S2 ∧ loopD gd gb Dd (xs.drop i) ρ2, ⟨xs.length, by simp, Nat.zero_le _, S1, ρ, st1.le ?_, Same.refl _, by simpa using hx⟩, ?_⟩
  · have := Nat.mul_le_mul_right κb hL
    simp only [Nat.sub_zero]
    omega
  · rintro i k σ2 H2 ⟨rfl, hi, S2, ρ2, st2, s2, hl⟩
    obtain ⟨j1, j2, j3⟩ := hJ S2 H2 s2 st2.wd.sm
    by_cases hlt : i < xs.length
    · have hcost : m + (xs.length - i) * κb = (m + (xs.length - (i + 1)) * κb) + κb := by
        have : xs.length - i = (xs.length - (i + 1)) + 1 := by omega
        rw [this, Nat.add_mul]
        omega
      refine .inr ⟨j1 i hlt, fun σ' H' => i + 1 ≤ xs.length ∧ ∃ S2 ρ2, StOk X.K n (m + (xs.length - (i + 1)) * κb) S2 H' σ' ρ2 ∧ Same S1 S2 ∧ loopD gd gb Dd (xs.drop (i + 1)) ρ2, fun σ' H' q => ⟨xs.length - (i + 1), by omega, rfl, q⟩, fun x H3 y => ?_⟩
      obtain ⟨S3, d, g3, hxd, dx⟩ := j3 i x H3 hlt y
      have hdr : xs.drop i = d :: xs.drop (i + 1) := List.drop_eq_getElem_cons hlt ▸ by
        have : xs[i] = d := Option.some.inj ((List.getElem?_eq_getElem hlt).symm.trans hxd)
        rw [this]
      rw [hdr] at hl
      have s3 := s2.trans g3.po.sS
      have p3 : Same S S3 := p1.sS.trans s3
      have k3 := (ks.up (m' := m + (xs.length - (i + 1)) * κb) (by omega)).af p3
      refine ⟨_, S3, ρ2, d, _, hcost ▸ st2.grow g3, dx, hl, fun ρ4 σ4 h4 st4 _ _ => ?_⟩
      refine ⟨_, S3, ρ4, _, st4, h4, fun ρ5 σ5 S5 H5 h5 st5 s5 => ⟨hlt, S5, ρ5, st5, s3.trans s5, h5⟩, k3.rt, fun ρ5 σ5 S5 H5 h5 st5 s5 => k3.nx ρ5 σ5 S5 H5 h5 st5 s5, fun ρ5 σ5 S5 H5 h5 st5 s5 => ⟨hlt, S5, ρ5, st5, s3.trans s5, h5⟩, k3.ex⟩
    · have e : i = xs.length := by omega
      subst e
      rw [List.drop_length] at hl
      exact .inl ⟨j2 _ rfl, ks.nx ρ2 σ2 S2 H2 hl (st2.le (by omega)) (p1.sS.trans s2)⟩
/-- while c: .., nothing drawn within -/
theorem js_while (B : Bok X n W k) (hc : JT X n W 0 c t) (hb : JB X n W 0 body gb) : JS X n W 0 (.While c body [] pos) (gWhile t gb) := by
  refine PS.to (ps_while B.po hc hb) fun D σ H ⟨m, S, ρ, Dd, st, ⟨V, ⟨m0, v0⟩, turn⟩, ks⟩ => ?_
  refine ⟨fun k σ2 H2 => ∃ S2 ρ2, StOk X.K n m S2 H2 σ2 ρ2 ∧ Same S S2 ∧ V k ρ2, ⟨m0, S, ρ, st, Same.refl _, v0⟩, ?_⟩
  rintro k σ2 H2 ⟨S2, ρ2, st2, s2, v2⟩
  refine ⟨m, S2, ρ2, _, _, st2, turn k ρ2 v2, fun b S3 H3 hb st3 p3 => ?_, (ks.af s2).ke⟩
  cases b with
  | true =>
    simp only [if_true] at hb ⊢
    have k3 := ks.af (s2.trans p3.sS)
    refine ⟨fun σ' H' => ∃ m', m' < k ∧ ∃ S2 ρ2, StOk X.K n m S2 H' σ' ρ2 ∧ Same S S2 ∧ V m' ρ2, fun σ' H' q => q, ?_⟩
    refine ⟨m, S3, ρ2, _, st3, hb, fun ρ5 σ5 S5 H5 ⟨m', hm, h5⟩ st5 s5 => ⟨m', hm, S5, ρ5, st5, (s2.trans p3.sS).trans s5, h5⟩, k3.rt, k3.nx, fun ρ5 σ5 S5 H5 ⟨m', hm, h5⟩ st5 s5 => ⟨m', hm, S5, ρ5, st5, (s2.trans p3.sS).trans s5, h5⟩, k3.ex⟩
  | false =>
    simp only [Bool.false_eq_true, if_false] at hb ⊢
    exact ks.nx ρ2 σ2 S3 H3 hb st3 (s2.trans p3.sS)
end
end Wb
/-! Wb8: the rule of a def; short forms for the printed proofs. -/
namespace Wb
open PySem PySem.Spec PyProof.Rows L2
/-- a body's meaning as a def's: np parameters, then nl names not yet bound -/
def fnB (np nl : Nat) (g : DS) : Fn := fun xs R Er => xs.length = np ∧ g ⟨fun _ => R (.d .none), fun _ => R, fun _ => False, fun _ => False, fun _ => Er⟩ (xs.map .v ++ List.replicate nl .no)
theorem start_st {K : Frag} {CT : Nat → Addr} {wl : Option Addr} {m : Nat} {S H : Hp} {N : List Str} {vs : List V} {xs : List DV} {nl : Nat} (w : Wd wl m S H) (d : DvAll K (En.of CT wl S H) S vs xs) (hn : N.length = xs.length + nl) :
    StOk K (En.of CT wl S H) m S H (L2.start N vs) (xs.map .v ++ List.replicate nl .no) := by
  have dl := d.len
  refine ⟨w, Post.refl, ?_, fun _ => 0, fun i s e => ?_, fun i j ys zs e _ _ => ?_⟩
  · unfold L2.start
    rw [List.length_append, List.length_append, List.length_map, List.length_map, List.length_replicate, List.length_replicate]
    omega
  · by_cases hi : i < xs.length
    · rw [List.getElem?_append_left (by simpa using hi), List.getElem?_map] at e
      unfold L2.start
      rw [List.getElem?_append_left (by rw [List.length_map, dl]; exact hi), List.getElem?_map]
      have get : ∀ {vs : List V} {xs : List DV} {i : Nat} {x : DV}, DvAll K (En.of CT wl S H) S vs xs → xs[i]? = some x → ∃ v, vs[i]? = some v ∧ DvOk K (En.of CT wl S H) S v x := by
        intro vs xs i x d
        induction d generalizing i with
        | nil => intro e; simp at e
        | cons h t ih =>
          intro e
          cases i with
          | zero =>
            simp at e
            subst e
            exact ⟨_, rfl, h⟩
          | succ i => simpa using ih (by simpa using e)
      cases q : xs[i]? with
      | none => rw [q] at e; cases e
      | some x =>
        rw [q] at e
        cases e
        obtain ⟨v, h1, h2⟩ := get d q
        exact ⟨v, by rw [h1]; rfl, h2⟩
    · rw [List.getElem?_append_right (by simpa using hi), List.getElem?_replicate] at e
      split at e
      · cases e; exact trivial
      · cases e
  · by_cases hi : i < xs.length
    · rw [List.getElem?_append_left (by simpa using hi), List.getElem?_map] at e
      cases q : xs[i]? with
      | none => rw [q] at e; cases e
      | some x => rw [q] at e; cases e
    · rw [List.getElem?_append_right (by simpa using hi), List.getElem?_replicate] at e
      split at e <;> cases e
abbrev WE (E : XK) : WX := fun cls d _ H' => E cls d H'
/-- THE RULE of a def -/
theorem defG_of {P : Program} {w : World} {K : Frag} {mg : Str → Option Value} {base : Heap} {k κ nl : Nat} {f : Addr} {fd : FuncData} {x qual : Str} {st : Stmt} {N ps : List Str} {CT : Nat → Addr} {g : DS} (F : Fun K x qual st f fd) (S : FnScope N ps (defScope st)) (hmg : mg x = some (.ref f))
    (hb : Binds K fd ps []) (hl : N.length = ps.length + nl)
    (body : ∀ (cdv : Value) (A : Around) (outer : List Env) (s : Shared) (H : Hp) (E : XK) (wl : Option Addr) (S0 : Hp), Bok (cxOf (L2.CX P w) P w K mg base N qual (defScope st) f cdv A outer s H E) (En.of CT wl S0 H) (WE E) k →
      JB (cxOf (L2.CX P w) P w K mg base N qual (defScope st) f cdv A outer s H E) (En.of CT wl S0 H) (WE E) κ (defBody st) g) :
    DefG P w K mg base x ps (k + 1) f fd (spD K CT κ (fnB ps.length nl g)) := by
  refine ⟨fnG_of F S (fun vs H Q E ⟨wl, m, S, xs, R, Er, w, d, ⟨h1, _⟩, _⟩ => d.len.trans h1) fun cdv A outer s H vs Q E hgd hr hsp => ?_, hmg, F.kp, hb⟩
  obtain ⟨wl, m, S0, xs, R, Er, wd, d, ⟨hx, hg⟩, kR, kE⟩ := hsp
  have nd := S.nd
  refine ⟨_, body cdv A outer s H E wl S0 ⟨⟨rfl, L2.takes_of rfl rfl rfl rfl, hr, hgd, nd⟩, L2.passes_of rfl⟩, m, S0, _, _, start_st wd d (by rw [hl, hx]), hg, fun ρ' σ' S' H' h s z => ?_, fun ρ' σ' x v S' H' h s dv => ?_, fun _ _ _ _ h => h.elim, fun _ _ _ _ h => h.elim, fun ρ' c x cls dx σ' S' H' h s e z => ?_⟩
  · exact kR _ .non S' H' h s.wd s.po .non
  · exact kR x v S' H' h s.wd s.po dv
  · exact kE c x cls dx S' H' h s.wd s.po e

/-! ### the draw: the well as a list of one's own -/
/-- what a draw asks and gives -/
def drawFn : Fn := fun xs R _ => ∃ many : Int, xs = [.wel, .d (.int many)] ∧ 0 < many ∧ many < 2 ^ 60 ∧ ∀ x : Int, 0 ≤ x → x < many → R (.d (.int x))
/-- the law of a draw's body: a b c the well, budget m + 1 -/
def DrawLaw (nl : Nat) (g : DS) : Prop := ∀ (m : Nat) (a b c many : Int), WOk (m + 1) a b c → 0 < many → many < 2 ^ 60 →
  g ⟨fun _ => False, fun ρ x => ∃ a' b' c' z : Int, ρ[0]? = some (.own [.int a', .int b', .int c']) ∧ WOk m a' b' c' ∧ x = .d (.int z) ∧ 0 ≤ z ∧ z < many, fun _ => False, fun _ => False, fun _ _ _ => False⟩
    ([.own [.int a, .int b, .int c], .v (.d (.int many))] ++ List.replicate nl .no)
theorem draw_of {P : Program} {w : World} {K : Frag} {mg : Str → Option Value} {base : Heap} {k nl : Nat} {f : Addr} {fd : FuncData} {x qual : Str} {st : Stmt} {N ps : List Str} {CT : Nat → Addr} {g : DS} (F : Fun K x qual st f fd) (S : FnScope N ps (defScope st)) (hmg : mg x = some (.ref f))
    (hb : Binds K fd ps []) (h2 : ps.length = 2) (hl : N.length = 2 + nl) (law : DrawLaw nl g)
    (body : ∀ (cdv : Value) (A : Around) (outer : List Env) (s : Shared) (H : Hp) (E : XK) (n : En), n.CT = CT → Bok (cxOf (L2.CX P w) P w K mg base N qual (defScope st) f cdv A outer s H E) n (WE E) k →
      JB (cxOf (L2.CX P w) P w K mg base N qual (defScope st) f cdv A outer s H E) n (WE E) 0 (defBody st) g) :
    DefG P w K mg base x ps (k + 1) f fd (spD K CT 1 drawFn) := by
  refine ⟨fnG_of F S (fun vs H Q E ⟨wl, m, S, xs, R, Er, w, d, ⟨many, h1, _⟩, _⟩ => by rw [d.len, h1, h2]; rfl) fun cdv A outer s H vs Q E hgd hr hsp => ?_, hmg, F.kp, hb⟩
  obtain ⟨wl, m, S0, xs, R, Er, wd, d, ⟨many, rfl, hm0, hm1, hR⟩, kR, kE⟩ := hsp
  cases d with
  | cons d1 d2 =>
  cases d2 with
  | cons d2 d3 =>
  cases d3
  obtain ⟨p, rfl, hwl⟩ := d1
  have hwl : wl = some p := hwl
  cases d2
  obtain ⟨sp, a, b, c, hp, hW⟩ := wd.we p hwl
  have nd := S.nd
  have tk := L2.takes_of (X := cxOf (L2.CX P w) P w K mg base N qual (defScope st) f cdv A outer s H E) (E := E) rfl rfl rfl rfl
  let n : En := ⟨CT, none, S0, fun b => if b = p then none else H b, fun a => a = p⟩
  have hn0 : n.H0 p = none := if_pos rfl
  have hne : ∀ b, b ≠ p → n.H0 b = H b := fun b hb => if_neg hb
  have st0 : StOk K n m S0 H (L2.start N [.ref p, .int many]) ([.own [.int a, .int b, .int c], .v (.d (.int many))] ++ List.replicate nl .no) := by
    refine ⟨⟨wd.sm, fun q z => nomatch z⟩, ⟨Same.refl S0, fun _ _ z => z, fun q o z _ => ?_, fun q z => ?_⟩, ?_, fun _ => p, fun i t e => ?_, fun i j ys zs e1 e2 _ => ?_⟩
    · by_cases hq : q = p
      · subst hq; rw [hn0] at z; cases z
      · rw [hne q hq] at z; exact z
    · by_cases hq : q = p
      · subst hq; exact absurd hn0 z
      · rw [hne q hq] at z; exact z
    · unfold L2.start
      rw [List.length_append, List.length_append, List.length_replicate, List.length_replicate, List.length_map, hl]
      simp
    · unfold L2.start
      match i, e with
      | 0, e =>
        cases e
        exact ⟨rfl, sp, ⟨hn0, rfl⟩, (fun z => nomatch z), _, hp, .cons (.int _) (.cons (.int _) (.cons (.int _) .nil))⟩
      | 1, e =>
        cases e
        exact ⟨_, rfl, .int _⟩
      | i + 2, e =>
        have e : (List.replicate nl Sl.no)[i]? = some t := e
        rw [List.getElem?_replicate] at e
        split at e
        · cases e; exact trivial
        · cases e
    · have no : ∀ {i : Nat} {ys}, ([Sl.own [.int a, .int b, .int c], .v (.d (.int many))] ++ List.replicate nl .no)[i]? = some (.own ys) → i = 0 := fun {i ys} e => by
        match i, e with
        | 0, _ => rfl
        | 1, e => cases e
        | i + 2, e =>
          have e : (List.replicate nl Sl.no)[i]? = some (.own ys) := e
          rw [List.getElem?_replicate] at e
          split at e <;> cases e
      rw [no e1, no e2]
  have lw := law m a b c many hW hm0 hm1
  refine ⟨_, body cdv A outer s H E n rfl ⟨⟨rfl, tk, hr, hgd, nd⟩, L2.passes_of rfl⟩, m, S0, _, _, st0, lw, fun _ _ _ _ h => h.elim, fun ρ' σ' x v S' H' h s' dv => ?_, fun _ _ _ _ h => h.elim, fun _ _ _ _ h => h.elim, fun _ _ _ _ _ _ _ _ h => h.elim⟩
  obtain ⟨a', b', c', z, h0, hW', rfl, hz0, hz1⟩ := h
  obtain ⟨A', q1, _⟩ := s'.sl
  obtain ⟨g1, g2, g3, g4, us, g5, g6⟩ := q1 0 _ h0
  have eA : A' 0 = p := g3.2
  rw [eA] at g2 g5
  cases dv
  cases g6 with
  | cons u1 g6 =>
  cases g6 with
  | cons u2 g6 =>
  cases g6 with
  | cons u3 g6 =>
  cases g6
  cases u1
  cases u2
  cases u3
  refine kR _ _ S' H' (hR z hz0 hz1) ⟨s'.wd.sm, fun q e => ?_⟩ ⟨s'.po.sS, fun q hq sq => ?_, fun q o e hq => ?_, fun q hq => ?_⟩ (.int z)
  · rw [hwl] at e
    cases e
    exact ⟨g2, a', b', c', g5, hW'⟩
  · by_cases e : q = p
    · rw [e]; exact g2
    · exact s'.po.fr q (by rw [hne q e]; exact hq) sq
  · have e2 : q ≠ p := fun z => hq (by rw [z]; exact hwl)
    exact s'.po.kp q o (by rw [hne q e2]; exact e) (fun z => nomatch z)
  · by_cases e : q = p
    · rw [e, g5]; exact Option.some_ne_none _
    · exact s'.po.al q (by rw [hne q e]; exact hq)
section
variable {X : Cx} {n : En} {W : WX} {κ κ' κ2 κi κt κe κf k k' : Nat} {e a b c elt tg iter : Expr} {es ifs : List Expr} {pos : Pos} {f h g : DE} {fa fk : DA} {t u : DT} {fi : DN}
theorem js_retN : JS X n W 0 (.Return none pos) (gRet (dC .none)) := PS.to ps_retN fun D σ H ⟨m, S, ρ, Dd, st, hg, ks⟩ => ks.rt ρ σ _ .non S H hg st .non

/-! ### short forms -/
theorem v (i : Nat) {x : Str} (hN : X.N[i]? = some x := by rfl) (hv : Vis X.env.scope x := by first | exact .inl rfl | exact .inr (.inl rfl) | exact .inr (.inr rfl)) (hd : (x == ("__debug__" : Str)) = false := by rfl) (hcd : (x == ("__classdict__" : Str)) = false := by rfl) :
    JE X n W 0 (.Name x pos) (dVar i) := je_var hN hv hd hcd
theorem o (i : Nat) {x : Str} (hN : X.N[i]? = some x := by rfl) (hv : Vis X.env.scope x := by first | exact .inl rfl | exact .inr (.inl rfl) | exact .inr (.inr rfl)) (hd : (x == ("__debug__" : Str)) = false := by rfl) (hcd : (x == ("__classdict__" : Str)) = false := by rfl) :
    JO X n W 0 (.Name x pos) (dOwn i) := jo_own hN hv hd hcd
theorem gn (C : Cok X n W k) (i : Nat) {x : Str} (hi : X.N[i]? = some x := by rfl) (hx : Loc X.env.scope x := by first | exact .inl rfl | exact .inr rfl) (hf : X.fn x = true ∨ X.env.scope.names.lookup x = some .local := by first | exact .inr rfl | exact .inl rfl) :
    JG X n [i] (.Name x pos) (gNm i) := jg_name C.nd hi hx hf
theorem ac {fr : DA} (ha : JE X n W κ e f) (hb : JA X n W κ' es fr) (hs : starEach (e :: es) X.env = (false, eval e X.env) :: starEach es X.env := by rfl) : JA X n W (κ + κ') (e :: es) (aCons f fr) := ja_cons ha hb hs
theorem oc {fr : DA} (ha : JO X n W κ e f) (hb : JAO X n W κ' es fr) (hs : starEach (e :: es) X.env = (false, eval e X.env) :: starEach es X.env := by rfl) : JAO X n W (κ + κ') (e :: es) (aCons f fr) := jo_cons ha hb hs
theorem cl {G : Fn} {x : Str} {ps : List Str} {ff : Addr} {fd : FuncData} {p : Pos} (F : DefG X.prog X.w X.K X.mg X.base x ps k ff fd (spD X.K n.CT κf G)) (C : Cok X n W k') (hk : k ≤ k') (ha : JA X n W κ (e :: es) fa) (hg : Gl X x := by rfl)
    (hdb : (x == ("__debug__" : Str)) = false := by rfl) (he : starEach (e :: es) X.env = (false, eval e X.env) :: starEach es X.env := by rfl) (hpl : (backTo pos (starEach es X.env)).any (·.1) = false := by rfl) : JE X n W (κ + κf) (.Call (.Name x p) (e :: es) [] pos) (dCall G fa) := je_call F C hk ha hg hdb he hpl
theorem bi {id : String} {x : Str} {p : Pos} {r : List V → Hp → VK → Prop} {gg : List DV → (DV → Prop) → Prop} (hc : CallR X (.builtin id) r) (hr : CaD X.K r gg) (hv : bootBuiltins x = some (.builtin id)) (hm : X.mg x = none) (ha : JAO X n W κ (e :: es) fa) (hg : Gl X x := by rfl)
    (hn : x ≠ "__name__" := by decide) (hdb : (x == ("__debug__" : Str)) = false := by rfl) (he : starEach (e :: es) X.env = (false, eval e X.env) :: starEach es X.env := by rfl) (hpl : (backTo pos (starEach es X.env)).any (·.1) = false := by rfl) :
    JE X n W κ (.Call (.Name x p) (e :: es) [] pos) (dBi gg fa) := je_bi hc hr hg hm hv ha hn hdb he hpl
theorem ty {T : String} {x : Str} {p : Pos} {r : List V → Hp → VK → Prop} {gg : List DV → (DV → Prop) → Prop} (hc : CallR X (.type T) r) (hr : CaD X.K r gg) (hv : bootBuiltins x = some (.type T)) (hm : X.mg x = none) (ha : JAO X n W κ (e :: es) fa) (hg : Gl X x := by rfl)
    (hn : x ≠ "__name__" := by decide) (hdb : (x == ("__debug__" : Str)) = false := by rfl) (he : starEach (e :: es) X.env = (false, eval e X.env) :: starEach es X.env := by rfl) (hpl : (backTo pos (starEach es X.env)).any (·.1) = false := by rfl) :
    JE X n W κ (.Call (.Name x p) (e :: es) [] pos) (dBi gg fa) := je_ty hc hr hg hm hv ha hn hdb he hpl

theorem b_abs : bootBuiltins "abs" = some (.builtin "abs") := by decide +kernel
theorem b_max : bootBuiltins "max" = some (.builtin "max") := by decide +kernel
theorem b_min : bootBuiltins "min" = some (.builtin "min") := by decide +kernel
theorem b_sum : bootBuiltins "sum" = some (.builtin "sum") := by decide +kernel
theorem b_all : bootBuiltins "all" = some (.builtin "all") := by decide +kernel
theorem b_any : bootBuiltins "any" = some (.builtin "any") := by decide +kernel
theorem b_repr : bootBuiltins "repr" = some (.builtin "repr") := by decide +kernel
theorem b_len : bootBuiltins "len" = some (.builtin "len") := by decide +kernel
theorem b_int : bootBuiltins "int" = some (.type "int") := by decide +kernel
theorem b_bool : bootBuiltins "bool" = some (.type "bool") := by decide +kernel
theorem b_tuple : bootBuiltins "tuple" = some (.type "tuple") := by decide +kernel
theorem b_list : bootBuiltins "list" = some (.type "list") := by decide +kernel
theorem b_str : bootBuiltins "str" = some (.type "str") := by decide +kernel
theorem c_len : CallR X (.builtin "len") (fun xs H Q => (∃ p ys, xs = [.ref p] ∧ (SqL X.K H p ys ∨ SqT X.K H p ys) ∧ Q (.int ys.length) H) ∨ ∃ z, xs = [.str z] ∧ z.length ≤ sizeLine ∧ Q (.int z.length) H) := call_len_seq.or call_len_str
theorem j_len {x : Str} {p : Pos} (hx : x = "len") (hm : X.mg "len" = none) (ha : JAO X n W κ (e :: es) fa) (hg : Gl X x := by rfl) (he : starEach (e :: es) X.env = (false, eval e X.env) :: starEach es X.env := by rfl) (hpl : (backTo pos (starEach es X.env)).any (·.1) = false := by rfl) :
    JE X n W κ (.Call (.Name x p) (e :: es) [] pos) (dBi bLen fa) := by subst hx; exact je_bi c_len caD_len hg hm b_len ha (by decide) (by decide) he hpl
theorem j_abs {x : Str} {p : Pos} (hx : x = "abs") (hm : X.mg "abs" = none) (ha : JAO X n W κ (e :: es) fa) (hg : Gl X x := by rfl) (he : starEach (e :: es) X.env = (false, eval e X.env) :: starEach es X.env := by rfl) (hpl : (backTo pos (starEach es X.env)).any (·.1) = false := by rfl) :
    JE X n W κ (.Call (.Name x p) (e :: es) [] pos) (dBi bAbs fa) := by subst hx; exact je_bi call_abs caD_abs hg hm b_abs ha (by decide) (by decide) he hpl
theorem j_max {x : Str} {p : Pos} (C : Cok X n W k) (hx : x = "max") (hm : X.mg "max" = none) (ha : JAO X n W κ (e :: es) fa) (hg : Gl X x := by rfl) (he : starEach (e :: es) X.env = (false, eval e X.env) :: starEach es X.env := by rfl) (hpl : (backTo pos (starEach es X.env)).any (·.1) = false := by rfl) :
    JE X n W κ (.Call (.Name x p) (e :: es) [] pos) (dBi bMax2 fa) := by subst hx; exact je_bi (call_max2 C.calm) caD_max2 hg hm b_max ha (by decide) (by decide) he hpl
theorem j_min {x : Str} {p : Pos} (C : Cok X n W k) (hx : x = "min") (hm : X.mg "min" = none) (ha : JAO X n W κ (e :: es) fa) (hg : Gl X x := by rfl) (he : starEach (e :: es) X.env = (false, eval e X.env) :: starEach es X.env := by rfl) (hpl : (backTo pos (starEach es X.env)).any (·.1) = false := by rfl) :
    JE X n W κ (.Call (.Name x p) (e :: es) [] pos) (dBi bMin2 fa) := by subst hx; exact je_bi (call_min2 C.calm) caD_min2 hg hm b_min ha (by decide) (by decide) he hpl
theorem j_sum {x : Str} {p : Pos} (C : Cok X n W k) (hx : x = "sum") (hm : X.mg "sum" = none) (ha : JAO X n W κ (e :: es) fa) (hg : Gl X x := by rfl) (he : starEach (e :: es) X.env = (false, eval e X.env) :: starEach es X.env := by rfl) (hpl : (backTo pos (starEach es X.env)).any (·.1) = false := by rfl) :
    JE X n W κ (.Call (.Name x p) (e :: es) [] pos) (dBi bSum fa) := by subst hx; exact je_bi (cr_sum C.calm) caD_sum hg hm b_sum ha (by decide) (by decide) he hpl
theorem j_all {x : Str} {p : Pos} (C : Cok X n W k) (hx : x = "all") (hm : X.mg "all" = none) (ha : JAO X n W κ (e :: es) fa) (hg : Gl X x := by rfl) (he : starEach (e :: es) X.env = (false, eval e X.env) :: starEach es X.env := by rfl) (hpl : (backTo pos (starEach es X.env)).any (·.1) = false := by rfl) :
    JE X n W κ (.Call (.Name x p) (e :: es) [] pos) (dBi bAll fa) := by subst hx; exact je_bi (cr_all C.calm) caD_all hg hm b_all ha (by decide) (by decide) he hpl
theorem j_any {x : Str} {p : Pos} (C : Cok X n W k) (hx : x = "any") (hm : X.mg "any" = none) (ha : JAO X n W κ (e :: es) fa) (hg : Gl X x := by rfl) (he : starEach (e :: es) X.env = (false, eval e X.env) :: starEach es X.env := by rfl) (hpl : (backTo pos (starEach es X.env)).any (·.1) = false := by rfl) :
    JE X n W κ (.Call (.Name x p) (e :: es) [] pos) (dBi bAny fa) := by subst hx; exact je_bi (cr_any C.calm) caD_any hg hm b_any ha (by decide) (by decide) he hpl
theorem j_repr {x : Str} {p : Pos} (C : Cok X n W k) (hx : x = "repr") (hm : X.mg "repr" = none) (ha : JAO X n W κ (e :: es) fa) (hg : Gl X x := by rfl) (he : starEach (e :: es) X.env = (false, eval e X.env) :: starEach es X.env := by rfl) (hpl : (backTo pos (starEach es X.env)).any (·.1) = false := by rfl) :
    JE X n W κ (.Call (.Name x p) (e :: es) [] pos) (dBi bRepr fa) := by
  subst hx
  exact je_bi (call_reprD C.hg (by have := C.hr.un; omega)) caD_repr hg hm b_repr ha (by decide) (by decide) he hpl
theorem j_int {x : Str} {p : Pos} (hx : x = "int") (hm : X.mg "int" = none) (ha : JAO X n W κ (e :: es) fa) (hg : Gl X x := by rfl) (he : starEach (e :: es) X.env = (false, eval e X.env) :: starEach es X.env := by rfl) (hpl : (backTo pos (starEach es X.env)).any (·.1) = false := by rfl) :
    JE X n W κ (.Call (.Name x p) (e :: es) [] pos) (dBi bInt fa) := by subst hx; exact je_ty call_int1 caD_int hg hm b_int ha (by decide) (by decide) he hpl
theorem j_tuple {x : Str} {p : Pos} (hx : x = "tuple") (hm : X.mg "tuple" = none) (ha : JAO X n W κ (e :: es) fa) (hg : Gl X x := by rfl) (he : starEach (e :: es) X.env = (false, eval e X.env) :: starEach es X.env := by rfl) (hpl : (backTo pos (starEach es X.env)).any (·.1) = false := by rfl) :
    JE X n W κ (.Call (.Name x p) (e :: es) [] pos) (dBi bTuple fa) := by subst hx; exact je_ty call_tuple_of caD_tuple hg hm b_tuple ha (by decide) (by decide) he hpl
theorem j_gcd {x : Str} {p : Pos} (hm : X.mg x = some (.builtin "math.gcd")) (ha : JAO X n W κ (e :: es) fa) (hg : Gl X x := by rfl) (hdb : (x == ("__debug__" : Str)) = false := by rfl) (he : starEach (e :: es) X.env = (false, eval e X.env) :: starEach es X.env := by rfl) (hpl : (backTo pos (starEach es X.env)).any (·.1) = false := by rfl) :
    JE X n W κ (.Call (.Name x p) (e :: es) [] pos) (dBi bGcd fa) := je_bif cr_gcd caD_gcd hg hm ha hdb he hpl
theorem hT_int : (kitTypes.all fun t => decide (kitB t "int" = some (subTy t "int"))) = true := by decide +kernel
theorem hT_bool : (kitTypes.all fun t => decide (kitB t "bool" = some (subTy t "bool"))) = true := by decide +kernel
theorem hT_tuple : (kitTypes.all fun t => decide (kitB t "tuple" = some (subTy t "tuple"))) = true := by decide +kernel
theorem hT_list : (kitTypes.all fun t => decide (kitB t "list" = some (subTy t "list"))) = true := by decide +kernel
theorem hT_str : (kitTypes.all fun t => decide (kitB t "str" = some (subTy t "str"))) = true := by decide +kernel
theorem j_isi {x : Str} {T : String} {p p2 : Pos} (hT : (kitTypes.all fun t => decide (kitB t T = some (subTy t T))) = true) (hv : bootBuiltins x = some (.type T)) (hmI : X.mg "isinstance" = none) (hm : X.mg x = none) (ha : JO X n W κ a f) (hgI : Gl X "isinstance" := by rfl) (hg : Gl X x := by rfl)
    (hn : x ≠ "__name__" := by decide) (hdb : (x == ("__debug__" : Str)) = false := by rfl) (he : starEach [a, .Name x p2] X.env = (false, eval a X.env) :: starEach [.Name x p2] X.env := by rfl) (he2 : starEach [.Name x p2] X.env = (false, eval (.Name x p2) X.env) :: starEach [] X.env := by rfl)
    (hpl : (backTo pos (starEach [.Name x p2] X.env)).any (·.1) = false := by rfl) : JE X n W κ (.Call (.Name "isinstance" p) [a, .Name x p2] [] pos) (d1 (gIsi T) f) := je_isi hT hgI hmI hg hm hv hn hdb ha he he2 hpl
theorem j_isE {x : Str} {C : Addr} {c' : Nat} {sub : Nat → Nat → Bool} {p p2 : Pos} (hmI : X.mg "isinstance" = none) (hm : X.mg x = some (.ref C)) (hN : PySem.W.kitOne X.K (.type "NoneType") (.ref C) = some false) (hI : ∀ c, IsC X.K (n.CT c)) (hL : ∀ c, PySem.W.kitOne X.K (.ref (n.CT c)) (.ref C) = some (sub c c'))
    (ha : JO X n W κ a f) (hgI : Gl X "isinstance" := by rfl) (hg : Gl X x := by rfl) (hdb : (x == ("__debug__" : Str)) = false := by rfl) (he : starEach [a, .Name x p2] X.env = (false, eval a X.env) :: starEach [.Name x p2] X.env := by rfl)
    (he2 : starEach [.Name x p2] X.env = (false, eval (.Name x p2) X.env) :: starEach [] X.env := by rfl) (hpl : (backTo pos (starEach [.Name x p2] X.env)).any (·.1) = false := by rfl) : JE X n W κ (.Call (.Name "isinstance" p) [a, .Name x p2] [] pos) (d1 (gIsE c' sub) f) := je_isE hgI hmI hg hm hdb hN hI hL ha he he2 hpl
theorem j_val {D fI : Addr} (hE : ∀ c, ErrCls X.K D fI (n.CT c)) (ha : JO X n W κ a f) (hb : attributeBase a "value" X.env (eval a X.env) = eval a X.env := by rfl) : JE X n W κ (.Attribute a "value" pos) (d1 gVal f) := je_value hE ha hb
theorem j_ix (ha : JO X n W κ a f) (hb : JO X n W κ' b h) (hs : PlainIx b := by exact fun _ _ => rfl) : JE X n W (κ + κ') (.Subscript a b pos) (d2 gIx f h) := je_sub_ix ha hb hs
theorem j_in (C : Cok X n W k) (ha : JO X n W κ a f) (hb : JO X n W κ' b h) (hm : behindInMarks .In b = false := by rfl) : JE X n W (κ + κ') (.Compare a [.In] [b] pos) (d2 gIn f h) := je_in C ha hb hm
theorem j_nin (C : Cok X n W k) (ha : JO X n W κ a f) (hb : JO X n W κ' b h) (hm : behindInMarks .NotIn b = false := by rfl) : JE X n W (κ + κ') (.Compare a [.NotIn] [b] pos) (d2 gNotIn f h) := je_notIn C ha hb hm
theorem t_lt (ha : JO X n W κ a f) (hb : JO X n W κ' b h) : JT X n W (κ + κ') (.Compare a [.Lt] [b] pos) (tVal (d2 gLt f h)) := jt_cmp op_lt (opD_I0 fun _ _ _ => .bl _) ha hb (nomark _)
theorem t_le (ha : JO X n W κ a f) (hb : JO X n W κ' b h) : JT X n W (κ + κ') (.Compare a [.LtE] [b] pos) (tVal (d2 gLe f h)) := jt_cmp op_le (opD_I0 fun _ _ _ => .bl _) ha hb (nomark _)
theorem t_gt (ha : JO X n W κ a f) (hb : JO X n W κ' b h) : JT X n W (κ + κ') (.Compare a [.Gt] [b] pos) (tVal (d2 gGt f h)) := jt_cmp op_gt (opD_I0 fun _ _ _ => .bl _) ha hb (nomark _)
theorem t_ge (ha : JO X n W κ a f) (hb : JO X n W κ' b h) : JT X n W (κ + κ') (.Compare a [.GtE] [b] pos) (tVal (d2 gGe f h)) := jt_cmp op_ge (opD_I0 fun _ _ _ => .bl _) ha hb (nomark _)
theorem t_eq (C : Cok X n W k) (ha : JO X n W κ a f) (hb : JO X n W κ' b h) : JT X n W (κ + κ') (.Compare a [.Eq] [b] pos) (tVal (d2 gEq f h)) := jt_cmp (op_eqA C.hr) opD_eq ha hb (nomark _)
theorem t_ne (C : Cok X n W k) (ha : JO X n W κ a f) (hb : JO X n W κ' b h) : JT X n W (κ + κ') (.Compare a [.NotEq] [b] pos) (tVal (d2 gNe f h)) := jt_cmp (op_neA C.hr) opD_ne ha hb (nomark _)
theorem t_in (C : Cok X n W k) (ha : JO X n W κ a f) (hb : JO X n W κ' b h) (hm : behindInMarks .In b = false := by rfl) : JT X n W (κ + κ') (.Compare a [.In] [b] pos) (tVal (d2 gIn f h)) := jt_cmp (op_inA C.hr) opD_in ha hb hm
theorem t_nin (C : Cok X n W k) (ha : JO X n W κ a f) (hb : JO X n W κ' b h) (hm : behindInMarks .NotIn b = false := by rfl) : JT X n W (κ + κ') (.Compare a [.NotIn] [b] pos) (tVal (d2 gNotIn f h)) := jt_cmp (op_notInA C.hr) opD_notIn ha hb hm
theorem t_v (he : JE X n W κ e f) (hw : ∀ whole, isTrue e X.env whole = (do let v ← whole; standAt e.pos; holding [v] (truthy v)) := by exact fun _ => rfl) : JT X n W κ e (tVal f) := jt_val he hw
/-- a chain of two comparisons of ints -/
theorem oI_lt : OpD X.K (rI0 fun i j => .bl (decide (i < j))) gLt := opD_I0 fun _ _ _ => .bl _
theorem oI_le : OpD X.K (rI0 fun i j => .bl (decide (i ≤ j))) gLe := opD_I0 fun _ _ _ => .bl _
theorem oI_gt : OpD X.K (rI0 fun i j => .bl (decide (j < i))) gGt := opD_I0 fun _ _ _ => .bl _
theorem oI_ge : OpD X.K (rI0 fun i j => .bl (decide (j ≤ i))) gGe := opD_I0 fun _ _ _ => .bl _
theorem se {f : DE} (he : JE X n W κ e f) (hs : swapsWith e none pos.line X.env = pure false := by rfl) : JS X n W κ (.Expr e pos) (gDrop f) := js_expr he hs
theorem ss (C : Cok X n W k) (i : Nat) {x : Str} {pos' : Pos} (he : JE X n W κ e f) (hi : X.N[i]? = some x := by rfl) (hx : Loc X.env.scope x := by first | exact .inl rfl | exact .inr rfl) (hs : swapsWith e (some (.Name x pos')) pos.line X.env = pure false := by rfl)
    (hf : X.fn x = true ∨ X.env.scope.names.lookup x = some .local := by first | exact .inr rfl | exact .inl rfl) : JS X n W κ (.Assign [.Name x pos'] e pos) (gSet i f) := js_set C.nd hi hx he hs hf
theorem sn (C : Cok X n W k) (i : Nat) {x : Str} {pos' : Pos} {fn : DN} (he : JN X n W κ e fn) (hi : X.N[i]? = some x := by rfl) (hx : Loc X.env.scope x := by first | exact .inl rfl | exact .inr rfl) (hs : swapsWith e (some (.Name x pos')) pos.line X.env = pure false := by rfl)
    (hf : X.fn x = true ∨ X.env.scope.names.lookup x = some .local := by first | exact .inr rfl | exact .inl rfl) (hpa : ∀ a, n.pa a := by exact fun _ => trivial) : JS X n W κ (.Assign [.Name x pos'] e pos) (gSetN i fn) := js_setN hpa C.nd hi hx he hs hf
theorem sa {wr : List Nat} {gd : DG} (he : JE X n W κ e f) (hg : JG X n wr tg gd) (hs : swapsWithSole [tg] e pos.line X.env = pure false := by rfl) (hw : swappedStores [tg] e X.env = pure none := by rfl) (h1 : (assignEach [tg] X.env).map (·.2) = [assign tg X.env] := by rfl) :
    JS X n W κ (.Assign [tg] e pos) (gAsg f gd) := js_asg he hg hs hw h1
theorem gt {es : List Expr} {kk : Nat} {wr : List Nat} {g : DGs} (C : Cok X n W k) (nn : Nat) (h : JGs X n wr es g) (hlen : ∀ xs ρ R, g xs ρ R → xs.length = nn) (hn : (assignEach es X.env).length = nn := by rfl) (hst : (assignEach es X.env).findIdx? (·.1) = none := by rfl) : JG X n wr (.Tuple es kk pos) (gTp g) := jg_tup C.calm h hn hst hlen
theorem gc {es : List Expr} {w1 w2 : List Nat} {g1 : DG} {g2 : DGs} (h1 : JG X n w1 e g1) (h2 : JGs X n w2 es g2) (hs : (assignEach (e :: es) X.env).map (·.2) = assign e X.env :: (assignEach es X.env).map (·.2) := by rfl) : JGs X n (w1 ++ w2) (e :: es) (gsCons g1 g2) := jgs_cons h1 h2 hs
theorem sp2 (C : Cok X n W k) (i j : Nat) {x y : Str} {px py pt : Pos} {kt k2 pt2} (ha : JA X n W κ [a, b] fa) (hi : X.N[i]? = some x := by rfl) (hj : X.N[j]? = some y := by rfl) (hij : i ≠ j := by decide) (hx : X.env.scope.names.lookup x = some .local := by rfl) (hy : X.env.scope.names.lookup y = some .local := by rfl)
    (hw : swappedStores [.Tuple [.Name x px, .Name y py] kt pt] (.Tuple [a, b] k2 pt2) X.env = pure (some [x, y]) := by rfl)
    (hs : swapsWithSole [.Tuple [.Name x px, .Name y py] kt pt] (.Tuple [a, b] k2 pt2) pos.line X.env = pure false := by rfl) : JS X n W κ (.Assign [.Tuple [.Name x px, .Name y py] kt pt] (.Tuple [a, b] k2 pt2) pos) (gPar i j fa) := js_par C.calm C.nd hi hj hij hx hy ha hw hs
theorem sp3 (C : Cok X n W k) (i j l : Nat) {x y z : Str} {px py pz pt : Pos} {kt k2 pt2} (ha : JA X n W κ [a, b, c] fa) (hi : X.N[i]? = some x := by rfl) (hj : X.N[j]? = some y := by rfl) (hl : X.N[l]? = some z := by rfl) (hij : i ≠ j := by decide) (hil : i ≠ l := by decide) (hjl : j ≠ l := by decide)
    (hx : X.env.scope.names.lookup x = some .local := by rfl) (hy : X.env.scope.names.lookup y = some .local := by rfl) (hz : X.env.scope.names.lookup z = some .local := by rfl) 
    (hw : swappedStores [.Tuple [.Name x px, .Name y py, .Name z pz] kt pt] (.Tuple [a, b, c] k2 pt2) X.env = pure (some [x, y, z]) := by rfl)
    (hs : swapsWithSole [.Tuple [.Name x px, .Name y py, .Name z pz] kt pt] (.Tuple [a, b, c] k2 pt2) pos.line X.env = pure false := by rfl) : JS X n W κ (.Assign [.Tuple [.Name x px, .Name y py, .Name z pz] kt pt] (.Tuple [a, b, c] k2 pt2) pos) (gPar3 i j l fa) := js_par3 C.calm C.nd hi hj hl hij hil hjl hx hy hz ha hw hs
theorem lc {scope : Scope} (own : List (Str × Nat)) {wr : List Nat} {gd : DG} (L : Nat) (C : Cok X n W k) (hi : JI X n W κi tg iter fi)
    (hg : ∀ (s : Shared) (H : Hp) (CC : Addr) (cl : List (Str × Addr)) (fp : List Addr), JG (X.blk s H scope (compEnvC scope cl CC X.env) fp) n wr tg gd)
    (ht : ∀ (s : Shared) (H : Hp) (CC : Addr) (cl : List (Str × Addr)) (fp : List Addr), JTs (X.blk s H scope (compEnvC scope cl CC X.env) fp) n WF κt ifs t)
    (he : ∀ (s : Shared) (H : Hp) (CC : Addr) (cl : List (Str × Addr)) (fp : List Addr), JE (X.blk s H scope (compEnvC scope cl CC X.env) fp) n WF κe elt f)
    (hL2 : L ≤ 100000 := by decide) (ok : blkC X.N X.env.scope scope own = true := by rfl) (hsub : ∀ j ∈ wr, j ∈ own.map (·.2) := by decide) (hs : ∀ x, foldedSetIterable iter X.env x = pure x := by exact fun _ => rfl) :
    JN X n W (κi + L * (κt + κe)) (.ListComp elt [⟨tg, iter, ifs, 0⟩] scope pos) (nLc L fi gd t f (own.map (·.2))) := jn_lc L hL2 C.calm C.nd hi (blkOk_by ok) hsub hg ht he hs
theorem slc (i : Nat) {y : Str} {py spos : Pos} {scope : Scope} (own : List (Str × Nat)) {wr : List Nat} {gd : DG} (L : Nat) (C : Cok X n W k) (hi : JI X n W κi tg iter fi)
    (hg : ∀ (s : Shared) (H : Hp) (CC : Addr) (cl : List (Str × Addr)) (fp : List Addr), JG (X.blk s H scope (compEnvC scope cl CC X.env) fp) n wr tg gd)
    (ht : ∀ (s : Shared) (H : Hp) (CC : Addr) (cl : List (Str × Addr)) (fp : List Addr), JTs (X.blk s H scope (compEnvC scope cl CC X.env) fp) n WF κt ifs t)
    (he : ∀ (s : Shared) (H : Hp) (CC : Addr) (cl : List (Str × Addr)) (fp : List Addr), JE (X.blk s H scope (compEnvC scope cl CC X.env) fp) n WF κe elt f)
    (hk : X.env.scope.kind = .function := by rfl) (hl : (py.line == pos.line) = true := by rfl) (hna : (scope.names.any fun (n, k) => n == y && (k == .local || k == .cell)) = false := by rfl)
    (hy : X.N[i]? = some y := by rfl) (hyl : X.env.scope.names.lookup y = some .local := by rfl)
    (hL2 : L ≤ 100000 := by decide) (ok : blkC X.N X.env.scope scope own = true := by rfl) (hsub : ∀ j ∈ wr, j ∈ own.map (·.2) := by decide) (hs : ∀ x, foldedSetIterable iter X.env x = pure x := by exact fun _ => rfl) (hpa : ∀ a, n.pa a := by exact fun _ => trivial) :
    JS X n W (κi + L * (κt + κe)) (.Assign [.Name y py] (.ListComp elt [⟨tg, iter, ifs, 0⟩] scope pos) spos) (gSetN i (nLc L fi gd t f (own.map (·.2)))) := js_setLc hpa L hL2 C.calm C.nd hy hyl (sw_true hk hyl hl hna) hi (blkOk_by ok) hsub hg ht he hs
theorem r1 {tg : Expr} {p : Pos} (hm : X.mg "range" = none) (ha : JAO X n W κ [a] fa) (hg : Gl X "range" := by rfl) (hs : starEach [a] X.env = [(false, eval a X.env)] := by rfl) : JI X n W κ tg (.Call (.Name "range" p) [a] [] pos) (iRg rg1 fa) := ji_range1 hg hm ha hs
theorem r2 {tg : Expr} {p : Pos} (hm : X.mg "range" = none) (ha : JAO X n W κ [a, b] fa) (hg : Gl X "range" := by rfl) (hs : starEach [a, b] X.env = [(false, eval a X.env), (false, eval b X.env)] := by rfl) (hs2 : starEach [b] X.env = [(false, eval b X.env)] := by rfl) : JI X n W κ tg (.Call (.Name "range" p) [a, b] [] pos) (iRg rg2 fa) := ji_range2 hg hm ha hs hs2
theorem sf {body : List Stmt} {gb : DS} {κb : Nat} {wr : List Nat} {gd : DG} (L : Nat) (B : Bok X n W k) (hi : JI X n W κi tg iter fi) (hg : JG X n wr tg gd) (hb : JB X n W κb body gb) (hs : ∀ x, foldedSetIterable iter X.env x = pure x := by exact fun _ => rfl) : JS X n W (κi + L * κb) (.For tg iter body [] pos) (gFor L fi gd gb) := js_for L B hi hg hb hs
theorem sr {x : Str} {p pos2 : Pos} {D fI : Addr} {CC : Addr} (cn : Nat) (C0 : Cok X n W k) (B : ErrBase X.prog X.K X.mg D fI) (hE : ∀ c, ErrCls X.K D fI (n.CT c)) (gC : X.mg x = some (.ref (n.CT cn))) (ha : JE X n W κ a f) (hg : Gl X x := by rfl)
    (hdb : (x == ("__debug__" : Str)) = false := by rfl) (he : starEach (a :: []) X.env = (false, eval a X.env) :: starEach [] X.env := by rfl) (hpl : (backTo pos (starEach [] X.env)).any (·.1) = false := by rfl) :
    JS X n W κ (.Raise (some (.Call (.Name x p) [a] [] pos)) none pos2) (gRaise cn f) := js_raise C0 B (hE cn) rfl gC ha hg hdb he hpl
theorem sap (i : Nat) {x : Str} {pos' p pa : Pos} (he : JE X n W κ e f) (hN : X.N[i]? = some x := by rfl) (hv : Vis X.env.scope x := by first | exact .inl rfl | exact .inr (.inl rfl) | exact .inr (.inr rfl)) (hd : (x == ("__debug__" : Str)) = false := by rfl) (hcd : (x == ("__classdict__" : Str)) = false := by rfl) 
    (hbase : attributeBase (.Name x p) "append" X.env (eval (.Name x p) X.env) = eval (.Name x p) X.env := by rfl)
    (hfew : ((backTo pos (starEach (e :: []) X.env)).all (fun x => !x.1) && (backToKw pos (keywordEach [] X.env)).all (fun x => x.1.isSome)
      && decide ((e :: ([] : List Expr)).length + ([] : List Keyword).length + (if ([] : List Keyword).isEmpty then 0 else 1) < 30)) = true := by rfl)
    (hline : (pa.endLine == pos.line) = true := by rfl) (hs : starEach (e :: []) X.env = (false, eval e X.env) :: starEach [] X.env := by rfl) (hplain : (backTo pos (starEach [] X.env)).any (·.1) = false := by rfl)
    (hsw : swapsWith (.Call (.Attribute (.Name x p) "append" pa) [e] [] pos) none pos'.line X.env = pure false := by rfl) :
    JS X n W κ (.Expr (.Call (.Attribute (.Name x p) "append" pa) [e] [] pos) pos') (gApp i f) := js_app hN hv hd hcd he hbase hfew hline hs hplain hsw
theorem st_ {body : List Stmt} {gb : DS} (i j : Nat) {x nm y : Str} {cv : Value} {np pos' p1 p2 p3 : Pos} (C : Cok X n W k) (hs : X.stack = X.env :: X.outer) (hf : X.env.frame = some X.env.locals) (hex : X.ex = []) (hm : X.mg x = some cv) (hX : ∀ c, PySem.W.exmOne X.K (.ref (n.CT c)) cv = some true)
    (hb : ∀ (W : WX) (pn : List (Addr × Obj)) (xe : Value → Shared → Prop), Cok (X.tr pn xe) n W k → Bok (X.tr pn xe) n W k → JB (X.tr pn xe) n W κ body gb) (hi : X.N[i]? = some nm := by rfl) (hln : X.env.kindOf nm = some .local := by rfl) (hj : X.N[j]? = some y := by rfl)
    (hly : X.env.kindOf y = some .local := by rfl) (hij : i ≠ j := by decide) (hnd : (nm == ("__debug__" : Str)) = false := by rfl) (hnc : (nm == ("__classdict__" : Str)) = false := by rfl) (hg : Gl X x := by rfl) (hdb : (x == ("__debug__" : Str)) = false := by rfl)
    (hsw : swapsWith (.Name nm p2) (some (.Name y p1)) p3.line X.env = pure false := by rfl) :
    JS X n W κ (.Try body [.ExceptHandler (some (.Name x np)) (some nm) [.Assign [.Name y p1] (.Name nm p2) p3] pos'] [] [] pos) (gTry i j gb) :=
  js_try hs hf hex C.nd hi hln hj hly hij hnd hnc ⟨hg, hdb, .inl hm⟩ C.tk hX (fun W pn xe tk po => hb W pn xe ⟨C.calm, tk, C.hr, C.hg, C.nd⟩ ⟨⟨C.calm, tk, C.hr, C.hg, C.nd⟩, po⟩) hsw

theorem six (i : Nat) {x : Str} {ei : Expr} {p ps : Pos} {fx : DE} (he : JE X n W κ e f) (hx : JE X n W κ' ei fx) (hN : X.N[i]? = some x := by rfl) (hv : Vis X.env.scope x := by first | exact .inl rfl | exact .inr (.inl rfl) | exact .inr (.inr rfl)) (hd : (x == ("__debug__" : Str)) = false := by rfl) (hcd : (x == ("__classdict__" : Str)) = false := by rfl)
    (hs : swapsWithSole [.Subscript (.Name x p) ei ps] e pos.line X.env = pure false := by rfl) (hw : swappedStores [.Subscript (.Name x p) ei ps] e X.env = pure none := by rfl) (h1 : (assignEach [.Subscript (.Name x p) ei ps] X.env).map (·.2) = [assign (.Subscript (.Name x p) ei ps) X.env] := by rfl)
    (ha : ∀ v, assign (.Subscript (.Name x p) ei ps) X.env v = (do
      let ov ← holding [v] (eval (.Name x p) X.env)
      let iv ← holding [v, ov] (eval ei X.env)
      standAt ps
      holding [v, ov, iv] (setItem ov iv v)
      release [v, ov, iv] []) := by exact fun _ => rfl) :
    JS X n W (κ + κ') (.Assign [.Subscript (.Name x p) ei ps] e pos) (gSetIx i fx f) := js_setIx (pos' := pos) hN hv hd hcd he hx hs hw h1 ha
theorem clk {G : Fn} {x : Str} {ps ks : List Str} {ff : Addr} {fd : FuncData} {p : Pos} {kws : List Keyword} {gg : List Value → List Value → List Value} {gV : List V → List V → List V} {gD : List DV → List DV → List DV}
    (F : DefG X.prog X.w X.K X.mg X.base x ps k ff fd (spD X.K n.CT κf G)) (C : Cok X n W k') (hk : k ≤ k') (hb : KBinds X.K fd ps ks gg gV) (hD : ∀ S vs xs zs ys, DvAll X.K n S vs xs → DvAll X.K n S zs ys → DvAll X.K n S (gV vs zs) (gD xs ys))
    (hkw : JK X n W κ' kws fk) (hg : Gl X x := by rfl) (hall : (backToKw pos (keywordEach kws X.env)).all (·.1.isSome) = true := by rfl)
    (hks : (backToKw pos (keywordEach kws X.env)).filterMap (·.1) = ks := by rfl) (hdb : (x == ("__debug__" : Str)) = false := by rfl) (hpl : (backToKw pos (keywordEach kws X.env)).any (·.1.isNone) = false := by rfl) :
    JE X n W (κ' + κf) (.Call (.Name x p) [] kws pos) (dCallK G gD aNil fk) := je_callK0 F C hk hb hD hkw hg hall hks hdb hpl
end
end Wb
/-! Wb9: the well made (a new list returned), the law's def, the law's end. -/
namespace Wb
open PySem PySem.Spec PyProof.Rows L2
/-- a body that returns a new list -/
def rdZ (K : Frag) (n : En) (κ : Nat) (g : List Sl → (List PD → Prop) → Prop) : TS := fun D σ H => ∃ m S ρ R, StOk K n (m + κ) S H σ ρ ∧ g ρ R ∧
  ∀ xs p vs S' H', R xs → Wd n.wl m S' H' → Post n.wl n.S0 n.H0 S' H' → n.H0 p = none → S' p = none → H' p = some (.lst vs) → DqAll K S' vs xs → D.rt (.ref p) H'
abbrev JZ (X : Cx) (n : En) (κ : Nat) (sts : List Stmt) (g : List Sl → (List PD → Prop) → Prop) : Prop := PSs X sts (rdZ X.K n κ g)
def zRet (fn : DN) : List Sl → (List PD → Prop) → Prop := fun ρ R => fn ρ R noE
def zSeq (a : DS) (b : List Sl → (List PD → Prop) → Prop) : List Sl → (List PD → Prop) → Prop := fun ρ R => a ⟨fun ρ' => b ρ' R, fun _ _ => False, fun _ => False, fun _ => False, fun _ _ _ => False⟩ ρ
section
variable {X : Cx} {n : En} {W : WX} {κ κ' k k' : Nat} {e : Expr} {es : List Expr} {pos : Pos} {st : Stmt} {sts : List Stmt} {fn : DN} {ga : DS} {gb : List Sl → (List PD → Prop) → Prop} {fa : DA}
theorem jz_ret (h : JN X n W κ e fn) : JZ X n κ [.Return (some e) pos] (zRet fn) := PSs.to (pss_one (ps_ret h)) fun D σ H ⟨m, S, ρ, R, st, hg, kR⟩ => by
  refine ⟨m, S, ρ, R, noE, st, hg, fun xs p vs S' H' hx st' po np sp hp d => kR xs p vs S' H' hx st'.wd st'.po ?_ sp hp d, fun c x cls dx S' H' z => z.elim⟩
  by_cases z : n.H0 p = none
  · exact z
  · exact absurd np (st.po.al p z)
theorem jz_cons (h1 : JS X n W κ st ga) (h2 : JZ X n κ' sts gb) : JZ X n (κ + κ') (st :: sts) (zSeq ga gb) := by
  refine PSs.to (pss_cons h1 h2) fun D σ H ⟨m, S, ρ, R, st, hg, kR⟩ => ?_
  exact ⟨m + κ', S, ρ, _, st_split st, hg, fun ρ1 σ1 S1 H1 h1 st1 s1 => ⟨m, S1, ρ1, R, st1, h1, kR⟩, fun _ _ _ _ _ _ z => z.elim, fun _ _ _ _ z => z.elim, fun _ _ _ _ z => z.elim, fun _ _ _ _ _ _ _ _ z => z.elim⟩
theorem jz_le {κa : Nat} (h : JZ X n κ sts gb) (hl : κ ≤ κa) : JZ X n κa sts gb := PSs.to h fun D σ H ⟨m, S, ρ, R, st, hg, k⟩ => ⟨m, S, ρ, R, st.le (by omega), hg, k⟩
end
/-- the promise of _law_well: of script and k a new list of three ints -/
def spW (K : Frag) (g : Nat → List Int → Int → Prop) : Sp := fun vs H Q _ => ∃ S p0 ns k, vs = [.ref p0, .int k] ∧ Same S H ∧ SqL K S p0 (ns.map V.int) ∧ g 0 ns k ∧
  ∀ p a b c S' H', Same S' H' → Post none S H S' H' → H p = none → S' p = none → H' p = some (.lst [.int a, .int b, .int c]) → WOk (2 ^ 60) a b c → Q (.ref p) H'
/-- what _law_well may be asked -/
def WellAsk : Nat → List Int → Int → Prop := fun _ ns k => 0 ≤ k ∧ k < 2 ^ 30 ∧ ns.length ≤ 100000 ∧ ∀ z ∈ ns, z.natAbs < 2 ^ 1100000
def WellLaw (nl : Nat) (g : List Sl → (List PD → Prop) → Prop) : Prop := ∀ (ns : List Int) (k : Int), WellAsk 0 ns k → g ([.v (.scr ns), .v (.d (.int k))] ++ List.replicate nl .no) fun xs => ∃ a b c : Int, xs = [.int a, .int b, .int c] ∧ WOk (2 ^ 60) a b c
structure DefW (P : Program) (w : World) (K : Frag) (mg : Str → Option Value) (base : Heap) (x : Str) (ps : List Str) (k : Nat) (f : Addr) (fd : FuncData) : Prop where
  fn : FnG P w K mg base k f fd ps (spW K WellAsk)
  mgx : mg x = some (.ref f)
  kp : PySem.W.keepIn K (.ref f) = true
  b : Binds K fd ps []
theorem defW_of {P : Program} {w : World} {K : Frag} {mg : Str → Option Value} {base : Heap} {k nl : Nat} {f : Addr} {fd : FuncData} {x qual : Str} {st : Stmt} {N ps : List Str} {CT : Nat → Addr} {g : List Sl → (List PD → Prop) → Prop} (F : Fun K x qual st f fd) (S : FnScope N ps (defScope st))
    (hmg : mg x = some (.ref f)) (hb : Binds K fd ps []) (h2 : ps.length = 2) (hl : N.length = 2 + nl) (law : WellLaw nl g)
    (body : ∀ (cdv : Value) (A : Around) (outer : List Env) (s : Shared) (H : Hp) (E : XK) (wl : Option Addr) (S0 : Hp), Bok (cxOf (L2.CX P w) P w K mg base N qual (defScope st) f cdv A outer s H E) (En.of CT wl S0 H) (WE E) k →
      JZ (cxOf (L2.CX P w) P w K mg base N qual (defScope st) f cdv A outer s H E) (En.of CT wl S0 H) 0 (defBody st) g) : DefW P w K mg base x ps (k + 1) f fd := by
  refine ⟨fnG_of F S (fun vs H Q E ⟨S, p0, ns, k, e, _⟩ => by rw [e, h2]; rfl) fun cdv A outer s H vs Q E hgd hr hsp => ?_, hmg, F.kp, hb⟩
  obtain ⟨S0, p0, ns, kk, rfl, sm, d1, hask, kR⟩ := hsp
  have nd := S.nd
  have wd : Wd none 0 S0 H := ⟨sm, fun q z => nomatch z⟩
  have da : DvAll K (En.of CT none S0 H) S0 [.ref p0, .int kk] [.scr ns, .d (.int kk)] := .cons ⟨p0, rfl, d1⟩ (.cons (.int kk) .nil)
  have tk := L2.takes_of (X := cxOf (L2.CX P w) P w K mg base N qual (defScope st) f cdv A outer s H E) (E := E) rfl rfl rfl rfl
  refine ⟨_, body cdv A outer s H E none S0 ⟨⟨rfl, tk, hr, hgd, nd⟩, L2.passes_of rfl⟩, 0, S0, _, _, start_st wd da (by rw [hl]; rfl), law ns kk hask, fun xs p vs S' H' hx w po h0 sp hp d => ?_⟩
  obtain ⟨a, b, c, rfl, hW⟩ := hx
  cases d with
  | cons u1 d =>
  cases d with
  | cons u2 d =>
  cases d with
  | cons u3 d =>
  cases d
  cases u1
  cases u2
  cases u3
  exact kR p a b c S' H' w.sm po h0 sp hp hW
section
variable {X : Cx} {n : En} {W : WX} {κ κ' k k' : Nat} {e : Expr} {es : List Expr} {pos : Pos} {st : Stmt} {sts : List Stmt} {fn : DN} {ga : DS} {fa : DA}
def nCallW (f : DA) : DN := fun ρ R E => f ρ (fun xs => ∃ ns k, xs = [.scr ns, .d (.int k)] ∧ WellAsk 0 ns k ∧ ∀ a b c, WOk (2 ^ 60) a b c → R [.int a, .int b, .int c]) E
theorem jn_callW {x : Str} {ps : List Str} {ff : Addr} {fd : FuncData} {p : Pos} (F : DefW X.prog X.w X.K X.mg X.base x ps k ff fd) (C : Cok X n W k') (hk : k ≤ k') (ha : JA X n W κ (e :: es) fa) (hg : Gl X x := by rfl)
    (hdb : (x == ("__debug__" : Str)) = false := by rfl) (he : starEach (e :: es) X.env = (false, eval e X.env) :: starEach es X.env := by rfl) (hpl : (backTo pos (starEach es X.env)).any (·.1) = false := by rfl) : JN X n W κ (.Call (.Name x p) (e :: es) [] pos) (nCallW fa) := by
  refine PE.to (pe_callG F.fn C.hg (C.hr.mono hk) C.tk hg F.mgx F.kp F.b ha hdb he hpl) fun σ H Q ⟨m, S, ρ, R, Er, st, hf, kR, kE⟩ => ⟨m, S, ρ, _, Er, st, hf, fun xs vs S1 H1 hx st1 p1 d1 => ?_, kE⟩
  obtain ⟨ns, kk, rfl, hask, hR⟩ := hx
  cases d1 with
  | cons u1 d1 =>
  cases d1 with
  | cons u2 d1 =>
  cases d1
  obtain ⟨p0, rfl, hq⟩ := u1
  cases u2
  refine ⟨S1, p0, ns, kk, rfl, st1.wd.sm, hq, hask, fun p a b c S' H' sm po hp sp hp' hW => ?_⟩
  have nH : H p = none := by
    cases q : H p with
    | none => rfl
    | some o => exact absurd hp (p1.al p (by rw [q]; exact Option.some_ne_none _))
  have wd' : Wd n.wl m S' H' := ⟨sm, fun q e => by
    obtain ⟨h1, a, b, c, h2, h3⟩ := st1.wd.we q e
    exact ⟨po.fr q (by rw [h2]; exact Option.some_ne_none _) h1, a, b, c, po.kp q _ h2 (fun z => nomatch z), h3⟩⟩
  exact kR _ p _ S' H' (hR a b c hW) (st1.step po.wk wd') (p1.trans po.wk) nH sp hp' (.cons (.int _) (.cons (.int _) (.cons (.int _) .nil)))
/-- if not f(well): return False, f always True -/
def gRight (κr i : Nat) : DS := fun D ρ => slOw ρ[i]? fun xs => ∃ a b c m, xs = [.int a, .int b, .int c] ∧ WOk (m + κr) a b c ∧ ∀ a b c, WOk m a b c → D.nx (ρ.set i (.own [.int a, .int b, .int c]))
/-- what f must be -/
def RightFn (G : Fn) : Prop := ∀ R : DV → Prop, R (.d (.bool true)) → G [.wel] R noE
theorem WOk.le {m m' : Nat} {a b c : Int} (h : WOk m a b c) (hl : m' ≤ m) : WOk m' a b c := by
  obtain ⟨h1, h2, h3, h4, h5, h6⟩ := h
  exact ⟨h1, h2, h3, h4, h5, by omega⟩
theorem StOk.callW {K : Frag} {m mm : Nat} {S H S' H' : Hp} {σ : L2.St} {ρ : List Sl} {i : Nat} {p : Addr} {xs : List PD} (s : StOk K n m S H σ ρ) (hi : ρ[i]? = some (.own xs)) (ep : σ[i]? = some (some (.ref p))) (po : Post (some p) S H S' H') (w : Wd (some p) mm S' H') :
    ∃ a b c, WOk mm a b c ∧ StOk K n m S' H' σ (ρ.set i (.own [.int a, .int b, .int c])) := by
  obtain ⟨A, h1, h2⟩ := s.sl
  obtain ⟨g1, g2, g3, g4, vs, g5, g6⟩ := h1 i _ hi
  rw [ep] at g1
  cases g1
  obtain ⟨sp, a, b, c, hp, hW⟩ := w.we _ rfl
  have hl : i < ρ.length := (List.getElem?_eq_some_iff.mp hi).1
  refine ⟨a, b, c, hW, ⟨w.sm, fun q e => ?_⟩, ⟨s.po.sS.trans po.sS, fun a ha sa => po.fr a (s.po.al a ha) (s.po.fr a ha sa), fun a o e wn => ?_, fun a ha => po.al a (s.po.al a ha)⟩, by rw [List.length_set]; exact s.len, A, fun j t e => ?_, fun j k ys' zs e1 e2 z => ?_⟩
  · obtain ⟨q1, a, b, c, q2, q3⟩ := s.wd.we q e
    have ne : q ≠ A i := fun z => g4 (by rw [← z]; exact e)
    exact ⟨po.fr q (by rw [q2]; exact Option.some_ne_none _) q1, a, b, c, po.kp q _ q2 (fun z => ne (Option.some.inj z).symm), q3⟩
  · have ne : a ≠ A i := fun z => by rw [z, g3.1] at e; cases e
    exact po.kp a o (s.po.kp a o e wn) (fun z => ne (Option.some.inj z).symm)
  · by_cases hj : i = j
    · subst hj
      rw [List.getElem?_set_self hl] at e
      cases e
      exact ⟨ep, sp, g3, g4, _, hp, .cons (.int _) (.cons (.int _) (.cons (.int _) .nil))⟩
    · rw [List.getElem?_set_ne hj] at e
      have q := h1 j t e
      cases t with
      | no => exact trivial
      | v x =>
        obtain ⟨v, q1, q2⟩ := q
        exact ⟨v, q1, dv_mono po.sS q2⟩
      | own zs =>
        obtain ⟨q1, q2, q3, q4, ws, q5, q6⟩ := q
        have ne : A j ≠ A i := fun z => hj (h2 j i zs xs e hi z).symm
        exact ⟨q1, po.fr (A j) (by rw [q5]; exact Option.some_ne_none _) q2, q3, q4, ws, po.kp (A j) _ q5 (fun z => ne (Option.some.inj z).symm), dqAll_mono po.sS q6⟩
  · have oo : ∀ k zs, (ρ.set i (Sl.own [.int a, .int b, .int c]))[k]? = some (Sl.own zs) → ∃ ws, ρ[k]? = some (Sl.own ws) := fun k zs e => by
      by_cases hk : i = k
      · subst hk; exact ⟨xs, hi⟩
      · rw [List.getElem?_set_ne hk] at e; exact ⟨zs, e⟩
    obtain ⟨_, f1⟩ := oo _ _ e1
    obtain ⟨_, f2⟩ := oo _ _ e2
    exact h2 j k _ _ f1 f2 z
/-- the well of slot i is lent to a call -/
theorem lend {G : Fn} {κr m i : Nat} {S H : Hp} {σ : L2.St} {ρ : List Sl} {D : Ends} {Dd : DEnds} (hG : RightFn G) (st : StOk X.K n m S H σ ρ) (hg : gRight κr i Dd ρ) (ks : KSt X.K n W m S D Dd) (E : XK) :
    ∃ p, σ[i]? = some (some (.ref p)) ∧ spD X.K n.CT κr G [.ref p] H (fun v H' => v = .bl true ∧ D.nx σ H') E := by
  obtain ⟨xs, hi, a, b, c, m2, rfl, hW, hR⟩ := slOw_of hg
  obtain ⟨A, h1, h2⟩ := st.sl
  obtain ⟨g1, g2, g3, g4, vs, g5, g6⟩ := h1 i _ hi
  cases g6 with
  | cons u1 g6 =>
  cases g6 with
  | cons u2 g6 =>
  cases g6 with
  | cons u3 g6 =>
  cases g6
  cases u1
  cases u2
  cases u3
  refine ⟨A i, g1, some (A i), m2, S, [.wel], fun x => x = .d (.bool true), noE, ⟨st.wd.sm, fun q e => ?_⟩, .cons ⟨A i, rfl, rfl⟩ .nil, hG _ rfl, fun x v S' H' hx w po dv => ?_, fun c x cls dx S' H' z => z.elim⟩
  · cases e
    exact ⟨g2, a, b, c, g5, hW⟩
  · subst hx
    cases dv
    obtain ⟨a', b', c', hW', st'⟩ := st.callW hi g1 po w
    exact ⟨rfl, ks.nx _ σ S' H' (hR a' b' c' hW') st' po.sS⟩
theorem js_right {G : Fn} {κr : Nat} (i : Nat) {x y : Str} {ps : List Str} {ff : Addr} {fd : FuncData} {p p2 p3 p4 p5 p6 : Pos} {j5 : Nat} (F : DefG X.prog X.w X.K X.mg X.base x ps k ff fd (spD X.K n.CT κr G)) (C : Cok X n W k') (hk : k ≤ k') (hG : RightFn G)
    (hg : Gl X x := by rfl) (hN : X.N[i]? = some y := by rfl) (hv : Vis X.env.scope y := by first | exact .inl rfl | exact .inr (.inl rfl) | exact .inr (.inr rfl)) (hd : (y == ("__debug__" : Str)) = false := by rfl) (hcd : (y == ("__classdict__" : Str)) = false := by rfl)
    (hdb : (x == ("__debug__" : Str)) = false := by rfl) (he : starEach (.Name y p2 :: []) X.env = (false, eval (.Name y p2) X.env) :: starEach [] X.env := by rfl) (hpl : (backTo p3 (starEach [] X.env)).any (·.1) = false := by rfl)
    (hw : ∀ whole, isTrue (.Call (.Name x p) [.Name y p2] [] p3) X.env whole = (do let v ← whole; standAt (Expr.Call (.Name x p) [.Name y p2] [] p3).pos; holding [v] (truthy v)) := by exact fun _ => rfl) :
    JS X n W 0 (.If (.UnaryOp .Not (.Call (.Name x p) [.Name y p2] [] p3) p4) [.Return (some (.Constant (.bool false) j5 p5)) p6] [] pos) (gRight κr i) := by
  refine PS.to (ps_if (pt_not (pt_val (pe_callG F.fn C.hg (C.hr.mono hk) C.tk hg F.mgx F.kp F.b (pa_cons (pe_var hN hv hd hcd) pa_nil he) hdb he hpl) hw)) (pss_one (ps_ret pe_bl)) pss_nil) fun D σ H ⟨m, S, ρ, Dd, st, hg, ks⟩ => ?_
  obtain ⟨q, e1, hs⟩ := lend hG st hg ks (fun cls d H' => W cls d σ H')
  refine ⟨_, e1, ?_⟩
  obtain ⟨wl, m, S, xs, R, Er, w, d, hg, kR, kE⟩ := hs
  exact ⟨wl, m, S, xs, R, Er, w, d, hg, fun x v S' H' hx w p dv => by
    obtain ⟨rfl, hnx⟩ := kR x v S' H' hx w p dv
    exact ⟨true, rfl, hnx⟩, kE⟩
end
/-! ### the law's end -/
/-- what law(script) must be -/
def LawFn (n : Nat) (G : Fn) : Prop := ∀ (ns : List Int) (R : DV → Prop), ns.length ≤ n → (∀ z ∈ ns, z.natAbs < 2 ^ 1100000) → R (.d (.bool true)) → G [.scr ns] R noE

/-- the one thing tracked at the law's entry: the script, unless it is the kit's own -/
def oneH (q : Addr) (u : HO) : Hp := fun b => if b = q then some u else none
def only1 (H : Hp) (q : Addr) (u : HO) : Prop := ∀ b v, H b = some v → b = q ∧ v = u
theorem oneH_only (q : Addr) (u : HO) : only1 (oneH q u) q u := fun b v e => by
  unfold oneH at e
  by_cases hb : b = q
  · rw [if_pos hb] at e; exact ⟨hb, (Option.some.inj e).symm⟩
  · rw [if_neg hb] at e; cases e
theorem law_end {P : Program} {w : World} {K : Frag} {mg mb : Str → Option Value} {k : Nat} {fa a : Addr} {fd : FuncData} {x : Str} {CT : Nat → Addr} {G : Fn} {t : Shared} {us : List Value} {ns : List Int} (kin : K.In t.heap) (gl : t.heap.Ns mainGlobals mg)
    (bl : t.heap.Ns builtinsNs mb) (bb : ∀ y : Str, y ≠ "__name__" → mb y = bootBuiltins y) (nl : t.heap.NoLimit) (gn : t.gens = #[]) (obj : t.heap.get? a = some { cls := .type "list", data := .seq us.toArray }) (ia : IntsAre us ns) (sz : ns.length ≤ sizeLine) (rm : Room k callerA)
    (F : ∀ base : Heap, K.In base → base.Ns mainGlobals mg → FnG P w K mg base k fa fd [x] (spD K CT 0 G)) (bind : ∀ (r : Shared) (u : Value), BindsTo r fd ⟨[u], []⟩ [(x, u)]) (hG : ∀ R : DV → Prop, R (.d (.bool true)) → G [.scr ns] R noE) :
    codeAny (model P w) callerA (.call (.ref fa) ⟨[.ref a], []⟩) (fun r t' => r = .ok (.ret (.bool true)) ∧ OldK t.heap t'.heap ∧ t'.os = t.os ∧ AllBare t'.gens) t := by
  have rel := vals_ints ia
  have go : ∀ (H : Hp) (u : HO), u = .frz { cls := .type "list", data := .seq us.toArray } (.lst (ns.map V.int)) → only1 H a u → (∀ v, H a = some v → K.lookup a = none) → SqL K H a (ns.map V.int) → HOk P w H t.heap →
      codeAny (model P w) callerA (.call (.ref fa) ⟨[.ref a], []⟩) (fun r t' => r = .ok (.ret (.bool true)) ∧ OldK t.heap t'.heap ∧ t'.os = t.os ∧ AllBare t'.gens) t := by
    intro H u hu on fr sq ok
    have away : ∀ {b : Addr} {ob : Obj}, t.heap.get? b = some ob → (∀ es ep, ob.data = .dict es ep → True) → (b = a → H a = none) → (hidT t.heap H).get? b = some ob := fun {b ob} e _ hb => hidT_get e (by
      cases q : H b with
      | none => rfl
      | some v =>
        obtain ⟨e1, _⟩ := on b v q
        rw [e1, hb e1] at q
        cases q)
    have names : ∀ {b : Addr} {m : Str → Option Value}, t.heap.Ns b m → (hidT t.heap H).Ns b m := fun {b m} z => by
      obtain ⟨ob, es, ep, e, dd, r⟩ := z
      refine ⟨ob, es, ep, away e (fun _ _ _ => trivial) (fun hb => ?_), dd, r⟩
      subst hb
      rw [obj] at e
      cases e
      have dd : Data.seq us.toArray _ = Data.dict es ep := dd
      cases dd
    have kin2 : K.In (hidT t.heap H) := fun b ob e => away (kin b ob e) (fun _ _ _ => trivial) fun hb => by
      cases q : H a with
      | none => rfl
      | some v =>
        subst hb
        rw [fr v q] at e
        cases e
    obtain ⟨mc, n1, n2⟩ := nl
    have en : Env0 P w K mg (hidT t.heap H) callerA [] t H := ⟨rfl, ⟨kin2, names gl, ⟨mb, names bl, bb⟩, mc, names n1, n2⟩, fun b ob e => of_hidT e, Nat.le_of_eq (hidT_size _ _), trivial, (fun b hb => nomatch (show b ∈ ([] : List Addr) from hb)), ok, .of_eq gn⟩
    have wd : Wd none 0 H H := ⟨Same.refl H, fun q e => nomatch e⟩
    refine codeAny_mono ((F _ kin2 (names gl)).run callerA [] t H ⟨[.ref a], []⟩ [.ref a] [.ref a] (fun v _ => v = .bl true) (fun _ _ _ => False) rfl rm en (bind t (.ref a)) (.cons rfl .nil)
      ⟨none, 0, H, [.scr ns], fun y => y = .d (.bool true), noE, wd, .cons ⟨a, rfl, sq⟩ .nil, hG _ rfl, fun y v S' H' hy _ _ dv => by subst hy; cases dv; rfl, fun _ _ _ _ _ _ z => z.elim⟩) fun r t' h => ?_
    match r, h with
    | .error e, h =>
      obtain ⟨_, _, _, _, _, _, _, _, _, _, _, _, z⟩ := h
      exact z.elim
    | .ok (.ret v), h =>
      obtain ⟨v', H', h1, h2, h3, h4, h5, h6⟩ := h
      have h6 : v' = .bl true := h6
      subst h6
      obtain rfl : v = Value.bool true := h5
      refine ⟨rfl, OldK.of_keep fun b ob e => ?_, h1, h2⟩
      cases q : H b with
      | none => exact h3.keep b ob e q (fun z => nomatch (show b ∈ ([] : List Addr) from z)) (fun z => nomatch z)
      | some v =>
        obtain ⟨rfl, rfl⟩ := on b v q
        subst hu
        rw [obj] at e
        cases e
        exact (h4 _ _ (h3.frzs _ _ _ q)).1
  cases inK : K.lookup a with
  | some ob =>
    have e := kin a ob inK
    rw [obj] at e
    cases e
    exact go (fun _ => none) _ rfl (fun b v z => nomatch z) (fun v z => nomatch z) (.inr ⟨_, us.toArray, _, inK, rfl, rfl, rfl, by rw [List.size_toArray, ia.length]; exact sz, by simpa using rel⟩) (fun b v z => nomatch z)
  | none =>
    refine go (oneH a _) _ rfl (oneH_only a _) (fun _ _ => inK) (.inl (.inr ⟨{ cls := .type "list", data := .seq us.toArray }, if_pos rfl⟩)) fun b v z => ?_
    obtain ⟨rfl, rfl⟩ := oneH_only a _ b v z
    exact ⟨obj, by rw [List.length_map]; exact sz, us, _, rel, obj⟩

theorem bits_lt {n : Int} (h : Builtin.Int.intBits n ≤ 1048576) : n.natAbs < 2 ^ 1100000 := by
  unfold Builtin.Int.intBits at h
  by_cases z : n = 0
  · subst z; exact Nat.pos_of_ne_zero (by simp)
  · have h0 : (n == 0) = false := by simpa using z
    rw [h0] at h
    have h : n.natAbs.log2 + 1 ≤ 1048576 := h
    have : n.natAbs < 2 ^ (n.natAbs.log2 + 1) := Nat.lt_log2_self
    exact Nat.lt_of_lt_of_le this (Nat.pow_le_pow_right (by decide) (by omega))
open PySem.W in
/-- the goal that the head leaves -/
theorem walk_end {l : OpenLaw} {n k : Nat} {q : Program} {loose : List Str} {XP : (Str → Option Value) → Heap → Prop} {YP : World → Heap → Prop} {d : DefRec} {K : Params → Frag} {x : Str} {G : Fn}
    (hn : l.most = some n) (hn2 : n ≤ 63) (hdf : d.params.defaults = []) (rm : Room k callerA) (hG : LawFn 63 G)
    (hY : ∀ (w : World) (h : Heap), YP w h → (K w.params).In h)
    (F : ∀ (w : World) (mg : Str → Option Value) (fa : Addr) (h : Heap), (K w.params).In h → h.Ns mainGlobals mg → mg d.name = some (.ref fa) →
      ∃ (fd : FuncData) (CT : Nat → Addr), (∀ (s : Shared) (u : Value), BindsTo s fd ⟨[u], []⟩ [(x, u)]) ∧ ∀ base : Heap, (K w.params).In base → base.Ns mainGlobals mg → FnG l.prog w (K w.params) mg base k fa fd [x] (spD (K w.params) CT 0 G)) :
    WalkO q loose XP YP l.row.toRowW d [] (fun f vs => PySem.call f vs) := by
  refine Att.attach_callB hn hdf fun w s₀ t mg mb fa o pm cd doc a us ns gr y ho hd hcd hmg hobj hints hlen hbits hg => ?_
  have kin := hY w _ y
  obtain ⟨fd, CT, bind, hF⟩ := F w mg fa _ kin gr.T.g hmg
  have h63 : (63 : Nat) ≤ sizeLine := by decide
  exact law_end kin gr.T.g gr.T.b gr.T.builtins gr.T.nolimit hg hobj hints (by omega) rm hF bind fun R hR => hG ns R (by omega) (fun z hz => bits_lt (hbits z hz)) hR
end Wb
/-! Wb10: plain lemmas about the words: comprehensions, loops; anew. -/
namespace Wb
open PySem PySem.Spec PyProof.Rows L2
/-- what anew does, to depth j -/
def okD : Nat → PD → Prop
  | 0, .list _ => False
  | 0, .tuple _ => False
  | j + 1, .list xs => xs.length ≤ 100000 ∧ ∀ y ∈ xs, okD j y
  | j + 1, .tuple xs => xs.length ≤ 100000 ∧ ∀ y ∈ xs, okD j y
  | _, _ => True
def anewFn (j : Nat) : Fn := fun xs R _ => ∃ x, xs = [.d x] ∧ okD j x ∧ R (.d x)
def anewG : Nat → Fn
  | 0 => fun _ _ _ => False
  | j + 1 => anewFn j
theorem lcD_of {gd : DG} {t : DT} {f : DE} {ρ : List Sl} {R : List PD → Prop} (h : PD → Option PD) : ∀ {xs : List PD}, (∀ x ∈ xs, ∀ P : Option PD → Prop, P (h x) → gd x ρ fun ρ1 => t ρ1 (fun b => if b = true then f ρ1 (fun y => onD y fun d => P (some d)) noE else P none) noE) → R (xs.filterMap h) → lcD gd t f ρ xs R
  | [], _, hR => hR
  | x :: xs, hb, hR => by
    unfold lcD
    have := hb x (by simp) (fun o => match o with
      | some d => lcD gd t f ρ xs fun ds => R (d :: ds)
      | none => lcD gd t f ρ xs R) (by
        cases q : h x with
        | none =>
          refine lcD_of h (fun y hy => hb y (by simp [hy])) ?_
          rw [List.filterMap_cons, q] at hR
          exact hR
        | some d =>
          refine lcD_of (R := fun ds => R (d :: ds)) h (fun y hy => hb y (by simp [hy])) ?_
          rw [List.filterMap_cons, q] at hR
          exact hR)
    exact this
/-- .. where the items are not told by a function -/
inductive Picks (r : PD → Option PD → Prop) : List PD → List PD → Prop
  | nil : Picks r [] []
  | skip {x : PD} {xs ys : List PD} : r x none → Picks r xs ys → Picks r (x :: xs) ys
  | take {x y : PD} {xs ys : List PD} : r x (some y) → Picks r xs ys → Picks r (x :: xs) (y :: ys)
theorem lcD_rel {gd : DG} {t : DT} {f : DE} {ρ : List Sl} (r : PD → Option PD → Prop) : ∀ {xs : List PD} {R : List PD → Prop}, (∀ x ∈ xs, ∀ P : Option PD → Prop, (∀ o, r x o → P o) → gd x ρ fun ρ1 => t ρ1 (fun b => if b = true then f ρ1 (fun y => onD y fun d => P (some d)) noE else P none) noE) →
    (∀ ys, Picks r xs ys → R ys) → lcD gd t f ρ xs R
  | [], _, _, hR => hR [] .nil
  | x :: xs, R, hb, hR => by
    unfold lcD
    exact hb x (by simp) (fun o => match o with
      | some d => lcD gd t f ρ xs fun ds => R (d :: ds)
      | none => lcD gd t f ρ xs R) fun o ho => by
        cases o with
        | none => exact lcD_rel r (fun y hy => hb y (by simp [hy])) fun ys hy => hR ys (.skip ho hy)
        | some d => exact lcD_rel r (fun y hy => hb y (by simp [hy])) fun ys hy => hR (d :: ys) (.take ho hy)
/-- a loop by an invariant -/
theorem loopD_inv {gd : DG} {b : DS} {D : DEnds} (I : List PD → List Sl → Prop) (hs : ∀ x xs ρ, I (x :: xs) ρ → gd x ρ fun ρ1 => b { D with nx := I xs, ct := I xs, bk := D.nx } ρ1) (he : ∀ ρ, I [] ρ → D.nx ρ)
    (mono : ∀ (P Q : List Sl → Prop) x ρ, (∀ ρ, P ρ → Q ρ) → (gd x ρ fun ρ1 => b { D with nx := P, ct := P, bk := D.nx } ρ1) → gd x ρ fun ρ1 => b { D with nx := Q, ct := Q, bk := D.nx } ρ1) : ∀ {xs : List PD} {ρ : List Sl}, I xs ρ → loopD gd b D xs ρ
  | [], ρ, h => he ρ h
  | x :: xs, ρ, h => mono _ _ x ρ (fun ρ h => loopD_inv I hs he mono h) (hs x xs ρ h)

section
variable {x y : PD} {xs ys : List PD} {i j : Int} {b c : Bool} {a a2 : Str} {R : DV → Prop} {P : PD → Prop} {Pb : Bool → Prop} {Pi : Int → Prop} {Pv : DV → Prop} {Pl : List PD → Prop} {C : Int → Int → Prop} {ff : Int → Int → PD} {v : DV} {vs : List DV} {T : String} {ns : List Int}
theorem e_onD : onD (.d x) P = P x := rfl
theorem e_onB : onB (.d (.bool b)) Pb = Pb b := rfl
theorem e_onI : onI' (.d (.int i)) Pi = Pi i := rfl
theorem e_slV : slV (some (.v v)) Pv = Pv v := rfl
theorem e_slO : slO (some (.v v)) Pv = Pv v := rfl
theorem e_slOo : slO (some (.own xs)) Pv = Pv (.d (.list xs)) := rfl
theorem e_slOw : slOw (some (.own xs)) Pl = Pl xs := rfl
theorem e_gI : gI C ff (.d (.int i)) (.d (.int j)) R = (C i j ∧ R (.d (ff i j))) := rfl
theorem e_gI0 : gI0 ff (.d (.int i)) (.d (.int j)) R = R (.d (ff i j)) := rfl
theorem e_add : gAdd (.d (.int i)) (.d (.int j)) R = R (.d (.int (i + j))) := rfl
theorem e_mul : gMul (.d (.int i)) (.d (.int j)) R = (MulOk i j ∧ R (.d (.int (i * j)))) := rfl
theorem e_mulL : gMul (.d (.list xs)) (.d (.int i)) R = ((0 ≤ i ∧ i ≤ 100000) ∧ xs.length * i.toNat ≤ 100000 ∧ R (.d (.list (List.replicate i.toNat xs).flatten))) := rfl
theorem e_neg : gNeg (.d (.int i)) R = R (.d (.int (-i))) := rfl
theorem e_ixL : gIx (.d (.list xs)) (.d (.int i)) R = ∃ y, atI xs i = some y ∧ R (.d y) := rfl
theorem e_ixT : gIx (.d (.tuple xs)) (.d (.int i)) R = ∃ y, atI xs i = some y ∧ R (.d y) := rfl
theorem e_ixS : gIx (.scr ns) (.d (.int i)) R = ∃ y, atI ns i = some y ∧ R (.d (.int y)) := rfl
theorem e_isi : gIsi T (.d x) R = R (.d (.bool (subTy (tyD x) T))) := rfl
theorem e_isN : gIsN (.d .none) R = R (.d (.bool true)) := rfl
theorem e_notN : gNotN (.d .none) R = R (.d (.bool false)) := rfl
theorem e_isNi : gIsN (.d (.int i)) R = R (.d (.bool false)) := rfl
theorem e_isNb : gIsN (.d (.bool b)) R = R (.d (.bool false)) := rfl
theorem e_isNl : gIsN (.d (.list xs)) R = R (.d (.bool false)) := rfl
theorem e_isNt : gIsN (.d (.tuple xs)) R = R (.d (.bool false)) := rfl
theorem e_isNs : gIsN (.d (.str a)) R = R (.d (.bool false)) := rfl
theorem e_isNe {k : Nat} : gIsN (.exc k x) R = R (.d (.bool false)) := rfl
theorem e_lenL : bLen [.d (.list xs)] R = R (.d (.int xs.length)) := rfl
theorem e_lenT : bLen [.d (.tuple xs)] R = R (.d (.int xs.length)) := rfl
theorem e_lenS : bLen [.scr ns] R = R (.d (.int ns.length)) := rfl
theorem e_abs : bAbs [.d (.int i)] R = R (.d (.int (i.natAbs : Nat))) := rfl
theorem e_int : bInt [.d (.int i)] R = R (.d (.int i)) := rfl
theorem e_intB : bInt [.d (.bool b)] R = R (.d (.int (if b then 1 else 0))) := rfl
theorem e_max : bMax2 [.d (.int i), .d (.int j)] R = R (.d (.int (if j > i then j else i))) := rfl
theorem e_min : bMin2 [.d (.int i), .d (.int j)] R = R (.d (.int (if j < i then j else i))) := rfl
theorem e_gcd : bGcd [.d (.int i), .d (.int j)] R = R (.d (.int ((Nat.gcd i.natAbs j.natAbs : Nat) : Int))) := rfl
theorem e_tupL : bTuple [.d (.list xs)] R = R (.d (.tuple xs)) := rfl
theorem e_tupT : bTuple [.d (.tuple xs)] R = R (.d (.tuple xs)) := rfl
theorem e_repr : bRepr [.d x] R = (ROk x ∧ R (.d (.str x.shown))) := rfl
theorem e_sum : bSum [.d (.list xs)] R = ∃ ns, asInts xs = some ns ∧ R (.d (.int ns.sum)) := rfl
theorem e_all : bAll [.d (.list xs)] R = ∃ bs, asBools xs = some bs ∧ R (.d (.bool (bs.all id))) := rfl
theorem e_any : bAny [.d (.list xs)] R = ∃ bs, asBools xs = some bs ∧ R (.d (.bool (bs.any id))) := rfl
theorem e_allN : allD [] Pl = Pl [] := rfl
theorem e_allC : allD (.d x :: vs) Pl = allD vs fun xs => Pl (x :: xs) := rfl
theorem e_seqL : seqD (.d (.list xs)) Pl = Pl xs := rfl
theorem e_seqT : seqD (.d (.tuple xs)) Pl = Pl xs := rfl
theorem e_seqS : seqD (.scr ns) Pl = Pl (ns.map .int) := rfl
theorem e_rg1 : rg1 [.d (.int j)] Pl = (RgB j ∧ Pl (rngD 0 j)) := rfl
theorem e_rg2 : rg2 [.d (.int i), .d (.int j)] Pl = ((RgB i ∧ RgB j) ∧ Pl (rngD i j)) := rfl
theorem e_excN {k : Nat} {sub : Nat → Nat → Bool} : gIsE k sub (.d .none) R = R (.d (.bool false)) := rfl
theorem e_excE {k m : Nat} {sub : Nat → Nat → Bool} : gIsE k sub (.exc m x) R = R (.d (.bool (sub m k))) := rfl
theorem e_val {k : Nat} : gVal (.exc k x) R = R (.d x) := rfl
theorem e_at0 {α : Type} {a : α} {l : List α} : atI (a :: l) 0 = some a := by
  unfold atI ixN; simp
theorem e_at1 {α : Type} {a b : α} {l : List α} : atI (a :: b :: l) 1 = some b := by
  unfold atI ixN; simp [show (1 : Int) < (l.length : Int) + 1 + 1 by omega]
theorem e_at2 {α : Type} {a b c : α} {l : List α} : atI (a :: b :: c :: l) 2 = some c := by
  unfold atI ixN; simp [show (2 : Int) < (l.length : Int) + 1 + 1 + 1 by omega]
theorem e_get0 {α : Type} {a : α} {l : List α} : (a :: l)[0]? = some a := rfl
theorem e_get1 {α : Type} {a b : α} {l : List α} : (a :: b :: l)[1]? = some b := rfl
theorem e_get2 {α : Type} {a b c : α} {l : List α} : (a :: b :: c :: l)[2]? = some c := rfl
theorem e_get3 {α : Type} {a b c d : α} {l : List α} : (a :: b :: c :: d :: l)[3]? = some d := rfl
theorem e_get4 {α : Type} {a b c d e : α} {l : List α} : (a :: b :: c :: d :: e :: l)[4]? = some e := rfl
theorem e_get5 {α : Type} {a b c d e f : α} {l : List α} : (a :: b :: c :: d :: e :: f :: l)[5]? = some f := rfl
theorem e_get6 {α : Type} {a b c d e f g : α} {l : List α} : (a :: b :: c :: d :: e :: f :: g :: l)[6]? = some g := rfl
theorem e_get7 {α : Type} {a b c d e f g h : α} {l : List α} : (a :: b :: c :: d :: e :: f :: g :: h :: l)[7]? = some h := rfl
theorem e_set0 {α : Type} {a z : α} {l : List α} : (a :: l).set 0 z = z :: l := rfl
theorem e_set1 {α : Type} {a b z : α} {l : List α} : (a :: b :: l).set 1 z = a :: z :: l := rfl
theorem e_set2 {α : Type} {a b c z : α} {l : List α} : (a :: b :: c :: l).set 2 z = a :: b :: z :: l := rfl
theorem e_set3 {α : Type} {a b c d z : α} {l : List α} : (a :: b :: c :: d :: l).set 3 z = a :: b :: c :: z :: l := rfl
theorem e_set4 {α : Type} {a b c d e z : α} {l : List α} : (a :: b :: c :: d :: e :: l).set 4 z = a :: b :: c :: d :: z :: l := rfl
theorem e_set5 {α : Type} {a b c d e f z : α} {l : List α} : (a :: b :: c :: d :: e :: f :: l).set 5 z = a :: b :: c :: d :: e :: z :: l := rfl
theorem e_set6 {α : Type} {a b c d e f g z : α} {l : List α} : (a :: b :: c :: d :: e :: f :: g :: l).set 6 z = a :: b :: c :: d :: e :: f :: z :: l := rfl
theorem e_set7 {α : Type} {a b c d e f g h z : α} {l : List α} : (a :: b :: c :: d :: e :: f :: g :: h :: l).set 7 z = a :: b :: c :: d :: e :: f :: g :: z :: l := rfl
theorem e_ex {α : Type} {a : α} {Q : α → Prop} : (∃ y, some a = some y ∧ Q y) = Q a := by
  apply propext
  exact ⟨fun ⟨y, e, q⟩ => by cases e; exact q, fun q => ⟨a, rfl, q⟩⟩
theorem e_ixn0 {α : Type} {a : α} {l : List α} : ixN (a :: l).length 0 = some 0 := by unfold ixN; simp
theorem e_ixn1 {α : Type} {a b : α} {l : List α} : ixN (a :: b :: l).length 1 = some 1 := by unfold ixN; simp [show (1 : Int) < (l.length : Int) + 1 + 1 by omega]
theorem e_ixn2 {α : Type} {a b c : α} {l : List α} : ixN (a :: b :: c :: l).length 2 = some 2 := by unfold ixN; simp [show (2 : Int) < (l.length : Int) + 1 + 1 + 1 by omega]
/-- i has at most a bits -/
def MB (a : Nat) (i : Int) : Prop := i.natAbs < 2 ^ a
theorem MB.le {a b : Nat} {i : Int} (h : MB a i) (l : a ≤ b) : MB b i := Nat.lt_of_lt_of_le h (Nat.pow_le_pow_right (by decide) l)
theorem MB.mul {a b : Nat} {i j : Int} (h : MB a i) (k : MB b j) : MB (a + b) (i * j) := by
  unfold MB at *
  rw [Int.natAbs_mul, Nat.pow_add]
  exact Nat.mul_lt_mul'' h k
theorem MB.add {a : Nat} {i j : Int} (h : MB a i) (k : MB a j) : MB (a + 1) (i + j) := by
  unfold MB at *
  have := Int.natAbs_add_le i j
  rw [Nat.pow_succ]
  omega
theorem MB.ok {a b : Nat} {i j : Int} (h : MB a i) (k : MB b j) (l : a + b ≤ 134217728) : MulOk i j := ⟨a, b, h, k, l⟩
theorem MB.of {a : Nat} {i : Int} (h0 : 0 ≤ i) (h : i < (2 : Int) ^ a) : MB a i := by
  unfold MB
  have e : ((2 ^ a : Nat) : Int) = (2 : Int) ^ a := by norm_cast
  omega
theorem fmod_nn {i j : Int} (h : 0 < j) : 0 ≤ i.fmod j := Int.fmod_nonneg_of_pos i h
theorem fmod_lt {i j : Int} (h : 0 < j) : i.fmod j < j := Int.fmod_lt_of_pos i h
theorem fdivOk {i j : Int} (h : 0 < j) (l : j < 2 ^ 60) : FdivOk i j := ⟨by omega, Nat.lt_of_lt_of_le (show j.natAbs < 2 ^ 60 by omega) (Nat.pow_le_pow_right (by decide) (by decide))⟩
theorem fdiv_nn {i j : Int} (h : 0 ≤ i) (k : 0 < j) : 0 ≤ i.fdiv j := Int.fdiv_nonneg h (by omega)
theorem fdiv_le {i j : Int} (h : 0 ≤ i) (k : 0 < j) : i.fdiv j ≤ i := by
  rw [Int.fdiv_eq_ediv_of_nonneg _ (by omega)]
  exact Int.ediv_le_self _ h
theorem ixN0 {n : Nat} (h : 0 < n) : ixN n 0 = some 0 := by unfold ixN; simp [h]
theorem mulOk {i j : Int} (a b : Nat) (h1 : i.natAbs < 2 ^ a) (h2 : j.natAbs < 2 ^ b) (h : a + b ≤ 134217728) : MulOk i j := ⟨a, b, h1, h2, h⟩
end
end Wb
/-! Wb11: walks over zip and enumerate of lists and tuples, mixed. -/
namespace Wb
open PySem PySem.Spec PyProof.Rows L2
/-- an iterator that gives out tuples, as a walk of ours -/
theorem turn_w {P : Program} {w : World} {K : Frag} {elts : List Expr} {kk : Nat} {tpos : Pos} {J : It} {fp : List Addr} {it : Addr} {tn : Nat → Heap → Prop} (mem : it ∈ fp)
    (obj : ∀ i h, tn i h → ∀ b ∈ fp, ∃ o, h.get? b = some o ∧ ∀ v, o.data ≠ .cell v)
    (keep : ∀ i h h', tn i h → (∀ b ∈ fp, ∀ o, h.get? b = some o → h'.get? b = some o) → tn i h')
    (step : ∀ (X : Cx), X.prog = P → X.w = w → X.K = K → X.calm = true → ∀ (i : Nat) (pins : List (Addr × Obj)) (s : Shared) (σ : L2.St) (H : Hp), Inv X pins σ H s → tn i s.heap → (J.go i H ∨ J.stop i H) →
      ∃ n fpW wr Pt St Mid, WalksT P w X.A it fpW wr n Pt St Mid ∧ (∀ b ∈ wr, b ∈ fp) ∧ St i s.heap ∧ (J.go i H → i < n) ∧ (J.stop i H → i = n) ∧ (∀ h', St (i + 1) h' → tn (i + 1) h') ∧
        (∀ vals, J.go i H → Pt i vals → ∃ xs, Vals xs vals.toList ∧ xs.length ≤ sizeLine ∧ ∀ T, H T = none → J.yld i H (.ref T) (upd H T (.tup xs))))
    (self : ∀ (A : Around) (i : Nat) (s : Shared) (Q : Value → Shared → Prop) (E : Value → Shared → Prop), tn i s.heap → Q (.ref it) s → wpAny (model P w) A (pyIter (.ref it)) Q E s) :
    Turn P w K (.Tuple elts kk tpos) J fp it tn where
  mem := mem
  obj := obj
  keep := keep
  item := by
    intro X hP hw hK hc i pins s σ H E I hf st hg
    obtain ⟨n, fpW, wr, Pt, St, Mid, W, hwr, hst, hgo, _, hback, hval⟩ := step X hP hw hK hc i pins s σ H I st (.inl hg)
    refine W.item i s _ _ (hgo hg) hst fun T vals h' tk hp hT hTup hMid hk => ⟨_, rfl, ?_⟩
    refine W.go elts kk tpos i T { s with heap := h', toks := tk } _ _ hMid fun h2 hst2 hk2 => ?_
    obtain ⟨xs, rv, hsz, hy⟩ := hval vals hg hp
    have Twr : T ∉ wr := W.apart _ _ _ hMid
    obtain ⟨o, ho, hcl, n', hd⟩ := hTup
    have hT2 : IsTup h2 T vals.toList.toArray := ⟨o, hk2 T o Twr ho, hcl, n', by rw [hd]⟩
    subst hP hw hK
    have hn : H T = none := I.hok.fresh hT
    have I1 : Inv X pins σ (upd H T (.tup xs)) { s with heap := h2, toks := tk } :=
      I.turnedNew (ch := wr) (fun b o hb e => hk2 b o hb (hk b o hb e)) (fun b hb => hf b (hwr b hb)) hT ⟨hsz, vals.toList, rv, hT2⟩
    refine ⟨.ref T, _, I1, rfl, hy T hn, hback h2 hst2, fun b hb => ?_⟩
    obtain ⟨ob, hob, _⟩ := obj i s.heap st b hb
    have hlt : b < s.heap.objs.size := Heap.lt_size hob
    have hle : s.heap.objs.size ≤ T := hT
    have : b ≠ T := fun z => by
      have z1 : b < b := Nat.lt_of_lt_of_le hlt (z ▸ hle)
      exact Nat.lt_irrefl _ z1
    rw [upd_ne this]
    exact (hf b hb).1
  done := by
    intro X hP hw hK hc i pins s σ H E I hf st hg
    obtain ⟨n, fpW, wr, Pt, St, Mid, W, hwr, hst, _, hend, _, _⟩ := step X hP hw hK hc i pins s σ H I st (.inr hg)
    have e := hend hg
    subst e
    exact W.done s _ _ hst fun h' tk hk => ⟨rfl, I.turnedL (ch := wr) hk fun b hb => hf b (hwr b hb)⟩
  self := self

/-! ### lists and tuples, told by a kind -/
def SqX : Bool → Frag → Hp → Addr → List V → Prop
  | true, K, H, a, xs => SqL K H a xs
  | false, K, H, a, xs => SqT K H a xs
def ItrX (h : Heap) : Bool → Addr → Addr → Nat → Prop
  | true, it, l, i => h.IsListIter it l i
  | false, it, l, i => h.IsTupleIter it l i
def SeqX (h : Heap) : Bool → Addr → Array Value → Prop
  | true, l, xs => h.IsList l xs
  | false, l, xs => h.IsTuple l xs
def itO : Bool → Addr → Obj
  | true, l => { cls := .type "list_iterator", data := .fields #[.ref l, .int 0 0] }
  | false, l => { cls := .type "tuple_iterator", data := .fields #[.ref l, .int 0 0] }
theorem drawsX {prog : Program} {w : World} {A : Around} (hh : A.handled = none) (k : Bool) (it l : Addr) (hne : l ≠ it) (items : Array Value) :
    Draws prog w A it [it, l] items.size (fun i v => items[i]? = some v) (fun i h => ItrX h k it l i ∧ SeqX h k l items) := by
  cases k with
  | true => exact Draws.list hh it l hne items
  | false => exact Draws.tuple hh it l hne items
theorem beginsX (k : Bool) (l : Addr) (items : Array Value) : Begins (.ref l) (itO k l) fun h => SeqX h k l items := by
  cases k with
  | true => exact begins_list l items
  | false => exact begins_tuple l items
theorem seqX_of {X : Cx} {pins : List (Addr × Obj)} {σ : L2.St} {H : Hp} {s : Shared} {k : Bool} {a : Addr} {xs : List V} (I : Inv X pins σ H s) (h : SqX k X.K H a xs) :
    ∃ its : List Value, Vals xs its ∧ SeqX s.heap k a its.toArray ∧ xs.length ≤ sizeLine ∧ a < s.heap.objs.size := by
  cases k with
  | true =>
    obtain ⟨its, rv, p, hz⟩ := I.list h
    exact ⟨its, rv, p.isList, hz, p.lt⟩
  | false =>
    obtain ⟨its, rv, p, hz⟩ := I.tuple h
    obtain ⟨o, ho, _⟩ := id p
    exact ⟨its, rv, p, hz, Heap.lt_size ho⟩
theorem sqX_inj {X : Cx} {pins : List (Addr × Obj)} {σ : L2.St} {H : Hp} {s : Shared} {k : Bool} {a : Addr} {xs ys : List V} (I : Inv X pins σ H s) (h : SqX k X.K H a xs) (h' : SqX k X.K H a ys) : xs = ys := by
  cases k with
  | true => exact I.list_inj h h'
  | false => exact I.tuple_inj h h'
theorem itrX_at {h h' : Heap} {k : Bool} {it l : Addr} {i : Nat} (x : ItrX h k it l i) (e : ∀ o, h.get? it = some o → h'.get? it = some o) : ItrX h' k it l i := by
  cases k with
  | true => exact Heap.IsListIter.at x e
  | false => exact Heap.IsTupleIter.at x e
theorem itrX_obj {h : Heap} {k : Bool} {it l : Addr} {i : Nat} (x : ItrX h k it l i) : ∃ o, h.get? it = some o ∧ ∀ v, o.data ≠ .cell v := by
  cases k with
  | true =>
    obtain ⟨o, e, _, d⟩ := x
    exact ⟨o, e, fun v q => by rw [d] at q; cases q⟩
  | false =>
    obtain ⟨o, e, _, d⟩ := x
    exact ⟨o, e, fun v q => by rw [d] at q; cases q⟩
theorem itrX_new {h : Heap} {k : Bool} {it l : Addr} (e : h.get? it = some (itO k l)) : ItrX h k it l 0 := by
  cases k with
  | true => exact ⟨_, e, rfl, rfl⟩
  | false => exact ⟨_, e, rfl, rfl⟩
theorem sqX_same {K : Frag} {H H' : Hp} {k : Bool} {a : Addr} {xs : List V} (sm : Same H H') (h : SqX k K H a xs) : SqX k K H' a xs := by
  cases k with
  | true => exact sm.seq h
  | false => exact sqT_mono sm h

/-! ### zip -/
def ItzX (k1 k2 : Bool) (K : Frag) (a b : Addr) : It :=
  ⟨fun i H => ∃ xs ys, SqX k1 K H a xs ∧ SqX k2 K H b ys ∧ i < xs.length ∧ i < ys.length,
    fun i H v H' => ∃ T x y, v = .ref T ∧ H T = none ∧ H' = upd H T (.tup [x, y]) ∧ (∀ xs, SqX k1 K H a xs → xs[i]? = some x) ∧ ∀ ys, SqX k2 K H b ys → ys[i]? = some y,
    fun i H => ∃ xs ys, SqX k1 K H a xs ∧ SqX k2 K H b ys ∧ i = min xs.length ys.length⟩
theorem vget {xs : List V} {its : List Value} (rv : Vals xs its) : ∀ {i : Nat} {u : Value}, its[i]? = some u → ∃ x, xs[i]? = some x ∧ RelV x u := by
  induction rv with
  | nil => intro i u e; simp at e
  | cons h t ih =>
    intro i u e
    cases i with
    | zero => simp at e; subst e; exact ⟨_, rfl, h⟩
    | succ i => simpa using ih (by simpa using e)
theorem turn_zipX {P : Program} {w : World} {K : Frag} {elts : List Expr} {kk : Nat} {tpos : Pos} {k1 k2 : Bool} {a b z TI TO i1 i2 : Addr} (hz1 : ZipSep2 z TI TO i1 i2 [i1, a] [i2, b]) (ha : a ≠ i1) (hb : b ≠ i2) :
    Turn P w K (.Tuple elts kk tpos) (ItzX k1 k2 K a b) [z, TI, TO, i1, i2] z (fun i h => IsZip h z TI TO .none ∧ IsTupOf2 h TI (.ref i1) (.ref i2) ∧ (∃ x y, IsTupOf2 h TO x y) ∧ ItrX h k1 i1 a i ∧ ItrX h k2 i2 b i) := by
  refine turn_w (by simp) (fun i h st c hc => ?_) (fun i h h' st kp => ?_) (fun X hP hw hK hc i pins s σ H I st hgs => ?_) (fun A i s Q E st h => wpAny_pyIter_zip st.1 h)
  · obtain ⟨hz, hTI, ⟨x, y, hTO⟩, q1, q2⟩ := st
    have e' : c = z ∨ c = TI ∨ c = TO ∨ c = i1 ∨ c = i2 := by simpa using hc
    rcases e' with rfl | rfl | rfl | rfl | rfl
    · exact ⟨_, hz, fun v q => nomatch q⟩
    · exact ⟨_, hTI, fun v q => nomatch q⟩
    · exact ⟨_, hTO, fun v q => nomatch q⟩
    · exact itrX_obj q1
    · exact itrX_obj q2
  · obtain ⟨hz, hTI, ⟨x, y, hTO⟩, q1, q2⟩ := st
    exact ⟨kp z (by simp) _ hz, kp TI (by simp) _ hTI, ⟨x, y, kp TO (by simp) _ hTO⟩, itrX_at q1 (kp i1 (by simp)), itrX_at q2 (kp i2 (by simp))⟩
  · subst hP hw hK
    obtain ⟨hz, hTI, ⟨x, y, hTO⟩, q1, q2⟩ := st
    have both : ∃ xs ys, SqX k1 X.K H a xs ∧ SqX k2 X.K H b ys := by
      rcases hgs with ⟨xs, ys, h1, h2, _⟩ | ⟨xs, ys, h1, h2, _⟩ <;> exact ⟨xs, ys, h1, h2⟩
    obtain ⟨xs, ys, hx, hy⟩ := both
    obtain ⟨its, rv, p1, l1, _⟩ := seqX_of I hx
    obtain ⟨its2, rv2, p2, l2, _⟩ := seqX_of I hy
    have e1 := rv.length
    have e2 := rv2.length
    have hh : X.A.in1.handled = none := I.ok.hd hc
    refine ⟨_, _, _, _, _, _, WalksT.zipD2 hz1 (drawsX (prog := X.prog) (w := X.w) (A := X.A.in1) hh k1 i1 a ha its.toArray) (drawsX (prog := X.prog) (w := X.w) (A := X.A.in1) hh k2 i2 b hb its2.toArray), fun c hc => ?_, ⟨hz, hTI, ⟨x, y, hTO⟩, ⟨q1, p1⟩, ⟨q2, p2⟩⟩, fun hg => ?_, fun hs => ?_, fun h' st' => ?_, fun vals hg hp => ?_⟩
    · simp at hc ⊢
      rcases hc with h | h | h | h <;> simp [h]
    · obtain ⟨xs', ys', g1, g2, g3, g4⟩ := hg
      have := sqX_inj I hx g1
      have := sqX_inj I hy g2
      subst xs' ys'
      simp only [List.size_toArray]
      omega
    · obtain ⟨xs', ys', g1, g2, g3⟩ := hs
      have := sqX_inj I hx g1
      have := sqX_inj I hy g2
      subst xs' ys'
      simp only [List.size_toArray]
      omega
    · obtain ⟨r1, r2, r3, ⟨r4, _⟩, ⟨r5, _⟩⟩ := st'
      exact ⟨r1, r2, r3, r4, r5⟩
    · obtain ⟨x1, x2, y1, y2, rfl⟩ := hp
      obtain ⟨v1, e3, r1⟩ := vget rv (by simpa using y1)
      obtain ⟨v2, e4, r2⟩ := vget rv2 (by simpa using y2)
      refine ⟨[v1, v2], .cons r1 (.cons r2 .nil), by show 2 ≤ sizeLine; decide, fun T hT => ⟨T, v1, v2, rfl, hT, rfl, fun l hl => ?_, fun l hl => ?_⟩⟩
      · rw [sqX_inj I hl hx]; exact e3
      · rw [sqX_inj I hl hy]; exact e4
def iZipX (K : Frag) (ta : TA) : TI := fun σ H R => ta σ H fun vs H1 => ∃ a b xs ys k1 k2, vs = [.ref a, .ref b] ∧ SqX k1 K H1 a xs ∧ SqX k2 K H1 b ys ∧ R (ItzX k1 k2 K a b) H1
theorem pi_zipX {X : Cx} {e e2 : Expr} {ta : TA} {p pos tpos : Pos} {elts : List Expr} {kk : Nat} (hg : Gl X "zip") (hm : X.mg "zip" = none) (ha : PA X [e, e2] ta)
    (hs : starEach [e, e2] X.env = (false, eval e X.env) :: starEach [e2] X.env := by rfl) (hpl : (backTo pos (starEach [e2] X.env)).any (·.1) = false := by rfl) :
    PI X (.Tuple elts kk tpos) (.Call (.Name "zip" p) [e, e2] [] pos) (iZipX X.K ta) := by
  refine ⟨fun pins s σ H R I h => ?_⟩
  refine Call_ (ld_blt I hg hm PyProof.Rows.boot_zip (PyProof.Rows.callWith_type1 (thn (ha.run pos pins s σ H _ I h) fun us s1 ⟨vs, H1, I1, r1, q1⟩ => ?_) hs hpl))
  obtain ⟨a, b, xs, ys, k1, k2, rfl, hqx, hqy, q⟩ := q1
  cases r1 with
  | cons r rr =>
  cases rr with
  | cons r' rr =>
  cases rr
  cases r
  cases r'
  obtain ⟨its, rv, p1, _, la⟩ := seqX_of I1 hqx
  obtain ⟨its2, rv2, p2, _, lb⟩ := seqX_of I1 hqy
  refine zip_begins2 (beginsX k1 a its.toArray) (beginsX k2 b its2.toArray) p1 p2 fun h' hz hTI hTO h1 h2 hsz hk => wpAny_pyIter_zip hz ?_
  have I2 : Inv X pins σ H1 { s1 with heap := h' } := I1.kept (t' := s1.toks) hk
  have na : a ≠ s1.heap.objs.size := Nat.ne_of_lt la
  have nb : b ≠ s1.heap.objs.size + 1 := Nat.ne_of_lt (Nat.lt_succ_of_lt lb)
  refine ⟨_, _, _, _, H1, rfl, I2, turn_zipX (k1 := k1) (k2 := k2) (a := a) (b := b) (zip_sep2 (N := s1.heap.objs.size) (fp1 := [a]) (fp2 := [b]) (by simpa using la) (by simpa using lb)) na nb, ⟨hz, hTI, ⟨_, _, hTO⟩, itrX_new h1, itrX_new h2⟩, fun c hcm => ?_, q⟩
  have hle : s1.heap.objs.size ≤ c := by
    simp only [List.mem_cons, List.not_mem_nil, or_false] at hcm
    rcases hcm with z | z | z | z | z
    · rw [z]; exact Nat.le_add_right _ _
    · rw [z]; exact Nat.le_add_right _ _
    · rw [z]; exact Nat.le_add_right _ _
    · rw [z]; exact Nat.le_refl _
    · rw [z]; exact Nat.le_add_right _ _
  exact I1.fpOk hle (I1.hok.fresh hle)
end Wb
/-! Wb12: more rules: zip, slices, list(..), min and max of one, pairs of new lists, pop. -/
namespace Wb
open PySem PySem.Spec PyProof.Rows L2
section
variable {X : Cx} {n : En} {W : WX} {κ κ' κ2 κi κt κe κf k k' : Nat} {e a b c elt tg iter : Expr} {es ifs : List Expr} {pos : Pos} {f h g : DE} {fa fk : DA} {t u : DT} {fi fn fm : DN}

/-! ### zip -/
def zpD : List DV → (List PD → Prop) → Prop
  | [.d x, .d y], R => seqD (.d x) fun xs => seqD (.d y) fun ys => R (List.zipWith (fun a b => .tuple [a, b]) xs ys)
  | _, _ => False
def iZp (f : DA) : DN := fun ρ R E => f ρ (fun xs => zpD xs R) E
theorem seq_of {K : Frag} {n : En} {S H : Hp} {v : V} {x : PD} {R : List PD → Prop} (sm : Same S H) (d : RdOk K n S H v (.d x)) (h : seqD (.d x) R) : ∃ k a vs xs, v = .ref a ∧ SqX k K H a vs ∧ DqAll K S vs xs ∧ R xs ∧ (DvOk K n S v (.d x) → SqX k K S a vs) := by
  cases x with
  | list xs =>
    rcases d with d | ⟨q, vs, ys, rfl, e, hw, hq, hd⟩
    · cases d with
      | lst h1 h2 => exact ⟨true, _, _, _, rfl, SqL.of (sm _ _ h1), h2, h, fun _ => SqL.of h1⟩
    · cases e
      refine ⟨true, _, _, _, rfl, SqL.of hq, hd, h, fun d => ?_⟩
      cases d with
      | lst h1 h2 =>
        have e := sm _ _ h1
        rw [hq] at e
        cases e
        exact SqL.of h1
  | tuple xs =>
    rcases d with d | ⟨q, vs, ys, rfl, e, hw, hq, hd⟩
    · cases d with
      | tup h1 h2 => exact ⟨false, _, _, _, rfl, sqT_mono sm h1, h2, h, fun _ => h1⟩
    · cases e
  | _ => exact h.elim
theorem itd_zip {K : Frag} {S : Hp} {k1 k2 : Bool} {a b : Addr} {vs us : List V} {xs ys : List PD} (h1 : SqX k1 K S a vs) (h2 : SqX k2 K S b us) (d1 : DqAll K S vs xs) (d2 : DqAll K S us ys) :
    ItD K (ItzX k1 k2 K a b) (List.zipWith (fun a b => .tuple [a, b]) xs ys) S := by
  intro S' H' e1 e2
  have q1 := sqX_same e2 (sqX_same e1 h1)
  have q2 := sqX_same e2 (sqX_same e1 h2)
  have l1 := d1.len
  have l2 := d2.len
  refine ⟨fun i hi => ?_, fun i hi => ?_, fun i x H'' hi y => ?_⟩
  · rw [List.length_zipWith] at hi
    exact ⟨vs, us, q1, q2, by omega, by omega⟩
  · rw [List.length_zipWith] at hi
    exact ⟨vs, us, q1, q2, by rw [l1, l2]; exact hi⟩
  · obtain ⟨T, x1, y1, rfl, hT, rfl, g1, g2⟩ := y
    obtain ⟨p, hp, dp⟩ := d1.atV (g1 vs q1)
    obtain ⟨q, hq, dq⟩ := d2.atV (g2 us q2)
    have g := Grow.new (o := .tup [x1, y1]) e2 hT
    refine ⟨_, .tuple [p, q], g, ?_, dq_tup upd_same (.cons (dq_mono (e1.trans g.po.sS) dp) (.cons (dq_mono (e1.trans g.po.sS) dq) .nil))⟩
    rw [List.getElem?_zipWith, hp, hq]
theorem ji_zip {p tpos : Pos} {elts : List Expr} {kk : Nat} (hg : Gl X "zip") (hm : X.mg "zip" = none) (ha : JA X n W κ [a, b] fa) (hs : starEach [a, b] X.env = (false, eval a X.env) :: starEach [b] X.env := by rfl) (hpl : (backTo pos (starEach [b] X.env)).any (·.1) = false := by rfl) :
    JI X n W κ (.Tuple elts kk tpos) (.Call (.Name "zip" p) [a, b] [] pos) (iZp fa) := by
  refine PI.to (pi_zipX hg hm ha hs hpl) fun σ H Rr ⟨m, S, ρ, R, Er, st, hf, kR, kE⟩ => ⟨m, S, ρ, _, Er, st, hf, fun xs vs S1 H1 hx st1 p1 d1 => ?_, kE⟩
  match xs, d1, hx with
  | [.d x, .d y], .cons h1 (.cons h2 .nil), hr =>
    obtain ⟨k1, a1, vs1, xs1, rfl, q1, r1, hr, z1⟩ := seq_of st1.wd.sm (.inl h1) hr
    obtain ⟨k2, a2, vs2, xs2, rfl, q2, r2, hr, z2⟩ := seq_of st1.wd.sm (.inl h2) hr
    exact ⟨a1, a2, vs1, vs2, k1, k2, rfl, q1, q2, kR _ _ S1 H1 hr st1 p1 (itd_zip (z1 h1) (z2 h2) r1 r2)⟩

/-! ### slices -/
abbrev DP := List Sl → (Option Int → Prop) → EK → Prop
def rdP (K : Frag) (n : En) (W : WX) (κ : Nat) (f : DP) : TO := fun σ H Q => ∃ m S ρ R Er, StOk K n (m + κ) S H σ ρ ∧ f ρ R Er ∧
  (∀ o S' H', R o → StOk K n m S' H' σ ρ → Post n.wl S H S' H' → Q o H') ∧
  KErr K n W m S σ ρ Er
theorem PO.to {o : Option Expr} {t t' : TO} (h : PO X o t) (i : ∀ σ H Q, t' σ H Q → t σ H Q) : PO X o t' := ⟨fun pins s σ H Q I q => h.run pins s σ H Q I (i σ H Q q)⟩
abbrev JP (X : Cx) (n : En) (W : WX) (κ : Nat) (o : Option Expr) (f : DP) : Prop := PO X o (rdP X.K n W κ f)
def pNo : DP := fun _ R _ => R none
def pAt (f : DE) : DP := fun ρ R E => f ρ (fun x => onI' x fun i => R (some i)) E
theorem jp_no : JP X n W 0 none pNo := PO.to po_none fun σ H Q ⟨m, S, ρ, R, Er, st, hf, kR, _⟩ => kR none S H hf st Post.refl
theorem jp_at (he : JE X n W κ e f) : JP X n W κ (some e) (pAt f) := by
  refine PO.to (po_some he) fun σ H Q ⟨m, S, ρ, R, Er, st, hf, kR, kE⟩ => ⟨m, S, ρ, _, Er, st, hf, fun x v S1 H1 hx st1 p1 d1 => ?_, kE⟩
  obtain ⟨i, rfl, hx⟩ := onI_of hx
  cases d1
  exact ⟨i, rfl, kR _ S1 H1 hx st1 p1⟩
/-- the items of xs[lo:hi] -/
def cutL {α : Type} (xs : List α) (lo hi : Option Int) : List α := (xs.drop (HT.sIx xs.length 0 lo)).take (HT.sIx xs.length xs.length hi - HT.sIx xs.length 0 lo)
def gSl : DV → Option Int → Option Int → (DV → Prop) → Prop
  | .d (.tuple xs), l, u, R => R (.d (.tuple (cutL xs l u)))
  | .d (.list xs), l, u, R => R (.d (.list (cutL xs l u)))
  | _, _, _, _ => False
def dSl (f : DE) (pl pu : DP) : DE := fun ρ R E => f ρ (fun x => pl ρ (fun l => pu ρ (fun u => gSl x l u R) E) E) E
theorem cut_dq {K : Frag} {S : Hp} {vs : List V} {xs : List PD} (d : DqAll K S vs xs) (l u : Option Int) : DqAll K S (cutV vs l u) (cutL xs l u) := by
  unfold cutV cutL
  rw [d.len]
  exact (d.drop _).take _
theorem je_slice {lo hi : Option Expr} {pl pu : DP} {p2 : Pos} (he : JO X n W κ e f) (hl : JP X n W κ' lo pl) (hu : JP X n W κ2 hi pu) : JE X n W (κ + (κ' + κ2)) (.Subscript e (.Slice lo hi none p2) pos) (dSl f pl pu) := by
  refine PE.to (pe_slice (sl_tupA.or sl_list) he hl hu) fun σ H Q ⟨m, S, ρ, R, Er, st, hf, kR, kE⟩ => ?_
  refine ⟨m + (κ' + κ2), S, ρ, _, Er, st_split st, hf, fun x v S1 H1 hx st1 p1 d1 => ?_, fun c x cls dx S' H' e s' er => kE c x cls dx S' H' e (st_down s') er⟩
  refine ⟨m + κ2, S1, ρ, _, Er, st_split st1, hx, fun l S2 H2 hy st2 p2 => ?_, fun c x cls dx S' H' e s' er q => kE c x cls dx S' H' e (st_down s') er (p1.sS.trans q)⟩
  refine ⟨m, S2, ρ, _, Er, st2, hy, fun u S3 H3 hz st3 p3 => ?_, fun c x cls dx S' H' e s' er q => kE c x cls dx S' H' e s' er ((p1.sS.trans p2.sS).trans q)⟩
  have d3 := (d1.post p2).post p3
  match x, hz with
  | .d (.tuple xs), hr =>
    obtain ⟨p, vs, rfl, hp, hd⟩ := d3.tup
    refine .inl ⟨p, vs, rfl, sqT_mono st3.wd.sm hp, fun hw => ?_, fun hw q hq => ?_⟩
    · have e : cutL xs l u = xs := by
        unfold cutL
        rw [hd.len] at hw
        rw [hw.1, hw.2]
        simp
      have hr : R (.d (.tuple (cutL xs l u))) := hr
      rw [e] at hr
      exact kR _ _ S3 H3 hr st3 ((p1.trans p2).trans p3) (.tup hp hd)
    · have g := Grow.new (o := .tup (cutV vs l u)) st3.wd.sm hq
      exact kR _ _ _ _ hr (st3.grow g) (((p1.trans p2).trans p3).trans g.po.wk) (dq_tup upd_same (dqAll_mono g.po.sS (cut_dq hd l u)))
  | .d (.list xs), hr =>
    obtain ⟨p, vs, rfl, hp, hd⟩ := d3.items st3.wd.sm
    refine .inr ⟨p, vs, rfl, SqL.of hp, fun q hq => ?_⟩
    have g := Grow.new (o := .lst (cutV vs l u)) st3.wd.sm hq
    exact kR _ _ _ _ hr (st3.grow g) (((p1.trans p2).trans p3).trans g.po.wk) (dq_lst upd_same (dqAll_mono g.po.sS (cut_dq hd l u)))

/-! ### list(..) -/
def nOf (f : DA) : DN := fun ρ R E => f ρ (fun xs => match xs with
  | [x] => seqD x R
  | _ => False) E
theorem jn_of {p : Pos} (hg : Gl X "list") (hm : X.mg "list" = none) (ha : JAO X n W κ [a] fa) (he : starEach [a] X.env = (false, eval a X.env) :: starEach [] X.env) (hpl : (backTo pos (starEach [] X.env)).any (·.1) = false) :
    JN X n W κ (.Call (.Name "list" p) [a] [] pos) (nOf fa) := by
  refine PE.to (pe_callTy call_list_of hg hm b_list ha (by decide) (by decide) he hpl) fun σ H Q ⟨m, S, ρ, R, Er, st, hf, kR, kE⟩ => ⟨m, S, ρ, _, Er, st, hf, fun xs vs S1 H1 hx st1 p1 d1 => ?_, kE⟩
  have fin : ∀ (q : Addr) (ys : List V) (ds : List PD), (SqL X.K H1 q ys ∨ SqT X.K H1 q ys) → DqAll X.K S1 ys ds → R ds → vs = [.ref q] →
      ∃ p ys, vs = [.ref p] ∧ (SqL X.K H1 p ys ∨ SqT X.K H1 p ys) ∧ ∀ l, H1 l = none → Q (.ref l) (upd H1 l (.lst ys)) := by
    rintro q ys ds hq hd hr rfl
    refine ⟨q, ys, rfl, hq, fun l hl => ?_⟩
    have g := Grow.beside (o := .lst ys) st1.wd.sm hl
    have hp0 : H l = none := by
      cases z : H l with
      | none => rfl
      | some o => exact absurd hl (p1.al l (by rw [z]; exact Option.some_ne_none _))
    exact kR ds l ys _ _ hr (st1.grow g) (p1.trans g.po.wk) hp0 (st1.wd.sm.free hl) upd_same hd
  cases d1 with
  | nil => exact hx.elim
  | cons d1 t =>
    cases t with
    | cons _ _ => exact hx.elim
    | nil =>
      rename_i v x
      cases x with
      | exc _ _ => exact hx.elim
      | well o =>
        cases o with
        | none => exact hx.elim
        | some ns =>
          obtain ⟨q, rfl, hq⟩ := d1.scr st1.wd.sm
          exact fin q _ _ (.inl hq) (DqAll.ints ns) hx rfl
      | d x =>
        obtain ⟨k, q, ys, ds, rfl, hq, hd, hr, _⟩ := seq_of st1.wd.sm d1 hx
        cases k with
        | true => exact fin q ys ds (.inl hq) hd hr rfl
        | false => exact fin q ys ds (.inr hq) hd hr rfl
def RgL (i j : Int) : Prop := RgOk i j
def nRg1 (f : DE) : DN := fun ρ R E => f ρ (fun x => onI' x fun j => RgL 0 j ∧ R (rngD 0 j)) E
theorem rg_dq {K : Frag} {S : Hp} (i j : Int) : DqAll K S (rgV i j) (rngD i j) := by
  unfold rgV rngD
  have : ∀ l : List Nat, DqAll K S (l.map fun i' => V.int (i + (i' : Nat))) (l.map fun i' : Nat => PyData.int (i + (i' : Int))) := fun l => by
    induction l with
    | nil => exact .nil
    | cons x r ih => exact .cons (.int _) ih
  exact this _
theorem jn_listRg {p q rpos : Pos} (C : X.calm = true) (hg : Gl X "list") (hm : X.mg "list" = none) (hgr : Gl X "range") (hmr : X.mg "range" = none) (ha : JO X n W κ a f)
    (na : starEach [a] X.env = (false, eval a X.env) :: starEach [] X.env) (na2 : starEach [Expr.Call (.Name "range" q) [a] [] rpos] X.env = (false, eval (Expr.Call (.Name "range" q) [a] [] rpos) X.env) :: starEach [] X.env) :
    JN X n W κ (.Call (.Name "list" p) [.Call (.Name "range" q) [a] [] rpos] [] pos) (nRg1 f) := by
  refine PE.to (pe_listRg C hg hm (prg_1 hgr hmr ha na) na2) fun σ H Q ⟨m, S, ρ, R, Er, st, hf, kR, kE⟩ => ⟨m, S, ρ, _, Er, st, hf, fun x v S1 H1 hx st1 p1 d1 => ?_, kE⟩
  obtain ⟨j, rfl, hk, hr⟩ := onI_of hx
  have e := d1.int
  subst e
  refine ⟨j, rfl, hk, fun l hl => ?_⟩
  have g := Grow.beside (o := .lst (rgV 0 j)) st1.wd.sm hl
  have hp0 : H l = none := by
    cases z : H l with
    | none => rfl
    | some o => exact absurd hl (p1.al l (by rw [z]; exact Option.some_ne_none _))
  exact kR _ l _ _ _ hr (st1.grow g) (p1.trans g.po.wk) hp0 (st1.wd.sm.free hl) upd_same (rg_dq 0 j)

/-! ### min(x), max(x) of one list or tuple of ints -/
def seqInts : PD → Option (List Int)
  | .list xs => asInts xs
  | .tuple xs => asInts xs
  | _ => none
def bMax1 : List DV → (DV → Prop) → Prop
  | [.d x], R => ∃ ns, seqInts x = some ns ∧ ns ≠ [] ∧ ∀ m ∈ ns, (∀ y ∈ ns, y ≤ m) → R (.d (.int m))
  | _, _ => False
def bMin1 : List DV → (DV → Prop) → Prop
  | [.d x], R => ∃ ns, seqInts x = some ns ∧ ns ≠ [] ∧ ∀ m ∈ ns, (∀ y ∈ ns, m ≤ y) → R (.d (.int m))
  | _, _ => False
end
end Wb
/-! Wb13: min and max of one, unpacking, reversed, pairs of new lists, pop. -/
namespace Wb
open PySem PySem.Spec PyProof.Rows L2
open PySem.W (max_list_datum max_tuple_datum min_list_datum min_tuple_datum maxOf minOf DatumOrd Datum Holds HoldAll)
open RT (pi_revA ItvT)
section
variable {X : Cx} {n : En} {W : WX} {κ κ' κ2 κi κt κe κf k k' : Nat} {e a b c elt tg iter : Expr} {es ifs : List Expr} {pos : Pos} {f h g : DE} {fa fk : DA} {t u : DT} {fi fn fm : DN}

theorem holds_int_inv {h : Heap} {v : Value} {m : Int} (H : Holds h v m) : ∃ t, v = .int m t := by
  obtain ⟨as, r⟩ := H
  have r : Reads h v (.int m) as := r
  cases r
  exact ⟨_, rfl⟩
theorem maxOf_mem : ∀ (ns : List Int) (n : Int), maxOf n ns ∈ n :: ns ∧ ∀ y ∈ n :: ns, y ≤ maxOf n ns
  | [], n => ⟨by simp [maxOf], fun y hy => by simp [maxOf] at hy ⊢; omega⟩
  | x :: r, n => by
    have e : maxOf n (x :: r) = maxOf (if n < x then x else n) r := by
      unfold maxOf
      rw [List.foldl_cons]
      have : (DatumOrd.lt n x = true) = (n < x) := by
        show (decide (n < x) = true) = _
        simp
      simp only [this]
    rw [e]
    obtain ⟨h1, h2⟩ := maxOf_mem r (if n < x then x else n)
    have h3 := h2 (if n < x then x else n) (by simp)
    refine ⟨?_, fun y hy => ?_⟩
    · rcases List.mem_cons.mp h1 with h | h
      · rw [h]; split <;> simp
      · simp [h]
    · rcases List.mem_cons.mp hy with rfl | hy
      · exact Int.le_trans (by split <;> omega) h3
      · rcases List.mem_cons.mp hy with rfl | hy
        · exact Int.le_trans (by split <;> omega) h3
        · exact h2 y (by simp [hy])
theorem minOf_mem : ∀ (ns : List Int) (n : Int), minOf n ns ∈ n :: ns ∧ ∀ y ∈ n :: ns, minOf n ns ≤ y
  | [], n => ⟨by simp [minOf], fun y hy => by simp [minOf] at hy ⊢; omega⟩
  | x :: r, n => by
    have e : minOf n (x :: r) = minOf (if x < n then x else n) r := by
      unfold minOf
      rw [List.foldl_cons]
      have : (DatumOrd.lt x n = true) = (x < n) := by
        show (decide (x < n) = true) = _
        simp
      simp only [this]
    rw [e]
    obtain ⟨h1, h2⟩ := minOf_mem r (if x < n then x else n)
    have h3 := h2 (if x < n then x else n) (by simp)
    refine ⟨?_, fun y hy => ?_⟩
    · rcases List.mem_cons.mp h1 with h | h
      · rw [h]; split <;> simp
      · simp [h]
    · rcases List.mem_cons.mp hy with rfl | hy
      · exact Int.le_trans h3 (by split <;> omega)
      · rcases List.mem_cons.mp hy with rfl | hy
        · exact Int.le_trans h3 (by split <;> omega)
        · exact h2 y (by simp [hy])
def rMaxX (K : Frag) : List V → Hp → VK → Prop := fun vs H Q => ∃ (k : Bool) (a : Addr) (ns : List Int), vs = [V.ref a] ∧ SqX k K H a (ns.map V.int) ∧ ns ≠ [] ∧ ∀ m, m ∈ ns → (∀ y, y ∈ ns → y ≤ m) → Q (.int m) H
def rMinX (K : Frag) : List V → Hp → VK → Prop := fun vs H Q => ∃ (k : Bool) (a : Addr) (ns : List Int), vs = [V.ref a] ∧ SqX k K H a (ns.map V.int) ∧ ns ≠ [] ∧ ∀ m, m ∈ ns → (∀ y, y ∈ ns → m ≤ y) → Q (.int m) H
theorem cr_maxX (C : Cok X n W k) : CallR X (.builtin "max") (rMaxX X.K) := by
  intro pins s σ H vs us Q I r h
  obtain ⟨kk, a, ns, rfl, hs, hne, q⟩ := h
  rw [Vals.ref1 r]
  cases ns with
  | nil => exact absurd rfl hne
  | cons x rs =>
    have hu := C.hr.units
    have hh : X.A.handled = none := I.ok.hd C.calm
    obtain ⟨m1, m2⟩ := maxOf_mem rs x
    cases kk with
    | true =>
      obtain ⟨its, rv, hl, _⟩ := I.list hs
      refine max_list_datum (α := Int) (x := x) (xs := rs) hh hl.isList (HoldAll.of_ints (by simpa using rv.ints)) (by show X.A.units + 1 + 0 < cLine; omega) fun i v h' tk _ H1 hk => ?_
      obtain ⟨t, rfl⟩ := holds_int_inv H1
      exact ⟨.int _, H, I.kept hk, ⟨_, rfl⟩, q _ m1 m2⟩
    | false =>
      obtain ⟨its, rv, hl, _⟩ := I.tuple hs
      refine max_tuple_datum (α := Int) (x := x) (xs := rs) hh (show s.heap.IsTuple a its.toArray from hl) (HoldAll.of_ints (by simpa using rv.ints)) (by show X.A.units + 1 + 0 < cLine; omega) fun i v h' tk _ H1 hk => ?_
      obtain ⟨t, rfl⟩ := holds_int_inv H1
      exact ⟨.int _, H, I.kept hk, ⟨_, rfl⟩, q _ m1 m2⟩
theorem cr_minX (C : Cok X n W k) : CallR X (.builtin "min") (rMinX X.K) := by
  intro pins s σ H vs us Q I r h
  obtain ⟨kk, a, ns, rfl, hs, hne, q⟩ := h
  rw [Vals.ref1 r]
  cases ns with
  | nil => exact absurd rfl hne
  | cons x rs =>
    have hu := C.hr.units
    have hh : X.A.handled = none := I.ok.hd C.calm
    obtain ⟨m1, m2⟩ := minOf_mem rs x
    cases kk with
    | true =>
      obtain ⟨its, rv, hl, _⟩ := I.list hs
      refine min_list_datum (α := Int) (x := x) (xs := rs) hh hl.isList (HoldAll.of_ints (by simpa using rv.ints)) (by show X.A.units + 1 + 0 < cLine; omega) fun i v h' tk _ H1 hk => ?_
      obtain ⟨t, rfl⟩ := holds_int_inv H1
      exact ⟨.int _, H, I.kept hk, ⟨_, rfl⟩, q _ m1 m2⟩
    | false =>
      obtain ⟨its, rv, hl, _⟩ := I.tuple hs
      refine min_tuple_datum (α := Int) (x := x) (xs := rs) hh (show s.heap.IsTuple a its.toArray from hl) (HoldAll.of_ints (by simpa using rv.ints)) (by show X.A.units + 1 + 0 < cLine; omega) fun i v h' tk _ H1 hk => ?_
      obtain ⟨t, rfl⟩ := holds_int_inv H1
      exact ⟨.int _, H, I.kept hk, ⟨_, rfl⟩, q _ m1 m2⟩
theorem seqInts_of {K : Frag} {n : En} {S H : Hp} {v : V} {x : PD} {ns : List Int} (sm : Same S H) (d : RdOk K n S H v (.d x)) (h : seqInts x = some ns) : ∃ k a, v = .ref a ∧ SqX k K H a (ns.map V.int) := by
  have hs : ∃ xs, asInts xs = some ns ∧ seqD (.d x) (fun ys => ys = xs) := by
    cases x <;> first | exact ⟨_, h, rfl⟩ | cases h
  obtain ⟨xs, h1, h2⟩ := hs
  obtain ⟨k, a, vs, ys, rfl, q, hd, rfl, _⟩ := seq_of sm d h2
  rw [ints_of hd h1] at q
  exact ⟨k, a, rfl, q⟩
theorem caD_max1 {K : Frag} : CaD K (rMaxX K) bMax1 := by
  intro n S H xs vs R Q sm hx hg q
  match xs, hx, hg with
  | [.d x], .cons h .nil, ⟨ns, e, hne, hr⟩ =>
    obtain ⟨k, a, rfl, z⟩ := seqInts_of sm h e
    exact ⟨k, a, ns, rfl, z, hne, fun m h1 h2 => q _ _ _ _ (hr m h1 h2) (Grow.refl sm) (.int _)⟩
theorem caD_min1 {K : Frag} : CaD K (rMinX K) bMin1 := by
  intro n S H xs vs R Q sm hx hg q
  match xs, hx, hg with
  | [.d x], .cons h .nil, ⟨ns, e, hne, hr⟩ =>
    obtain ⟨k, a, rfl, z⟩ := seqInts_of sm h e
    exact ⟨k, a, ns, rfl, z, hne, fun m h1 h2 => q _ _ _ _ (hr m h1 h2) (Grow.refl sm) (.int _)⟩
theorem j_max1 (C : Cok X n W k) {p : Pos} (hm : X.mg "max" = none) (ha : JAO X n W κ [a] fa) (hg : Gl X "max" := by rfl) (he : starEach [a] X.env = (false, eval a X.env) :: starEach [] X.env := by rfl) (hpl : (backTo pos (starEach [] X.env)).any (·.1) = false := by rfl) :
    JE X n W κ (.Call (.Name "max" p) [a] [] pos) (dBi bMax1 fa) := je_bi (cr_maxX C) caD_max1 hg hm b_max ha (by decide) (by decide) he hpl
theorem j_min1 (C : Cok X n W k) {p : Pos} (hm : X.mg "min" = none) (ha : JAO X n W κ [a] fa) (hg : Gl X "min" := by rfl) (he : starEach [a] X.env = (false, eval a X.env) :: starEach [] X.env := by rfl) (hpl : (backTo pos (starEach [] X.env)).any (·.1) = false := by rfl) :
    JE X n W κ (.Call (.Name "min" p) [a] [] pos) (dBi bMin1 fa) := je_bi (cr_minX C) caD_min1 hg hm b_min ha (by decide) (by decide) he hpl

/-! ### (a, b, ..) = a list -/
def gTpL (g : DGs) : DG := fun x ρ R => match x with
  | .list xs => g xs ρ R
  | _ => False
theorem jg_lst {es : List Expr} {kk nn : Nat} {wr : List Nat} {g : DGs} (hc : X.calm = true) (h : JGs X n wr es g) (hn : (assignEach es X.env).length = nn) (hst : (assignEach es X.env).findIdx? (·.1) = none) (hlen : ∀ xs ρ R, g xs ρ R → xs.length = nn) :
    JG X n wr (.Tuple es kk pos) (gTpL g) := by
  refine PG.to (pg_unl hc h hn hst) fun v σ H Q ⟨m, S, ρ, x, R, st, d, hr, k⟩ => ?_
  cases d with
  | lst h1 h2 => exact ⟨_, _, rfl, SqL.of (st.wd.sm _ _ h1), by rw [h2.len]; exact hlen _ _ _ hr, m, S, ρ, _, R, st, h2, hr, k⟩
  | _ => exact hr.elim
theorem gtl {es : List Expr} {kk : Nat} {wr : List Nat} {g : DGs} (C : Cok X n W k) (nn : Nat) (h : JGs X n wr es g) (hlen : ∀ xs ρ R, g xs ρ R → xs.length = nn) (hn : (assignEach es X.env).length = nn := by rfl) (hst : (assignEach es X.env).findIdx? (·.1) = none := by rfl) : JG X n wr (.Tuple es kk pos) (gTpL g) := jg_lst C.calm h hn hst hlen

/-! ### reversed -/
def iRv (f : DE) : DN := fun ρ R E => f ρ (fun x => seqD x fun xs => R xs.reverse) E
theorem itd_rev {K : Frag} {S : Hp} {a : Addr} {vs : List V} {xs : List PD} (h : SqL K S a vs) (d : DqAll K S vs xs) : ItD K (Itv K a vs.length) xs.reverse S := by
  intro S' H' e1 e2
  have q : SqL K H' a vs := e2.seq (e1.seq h)
  have dl := d.len
  refine ⟨fun i hi => ?_, fun i hi => by rw [List.length_reverse] at hi; show vs.length ≤ i; omega, fun i x H'' hi y => ?_⟩
  · rw [List.length_reverse] at hi
    exact ⟨by omega, vs, vs[vs.length - 1 - i]'(by omega), q, by simp [show vs.length - 1 - i < vs.length by omega]⟩
  · rw [List.length_reverse] at hi
    obtain ⟨rfl, y⟩ := y
    obtain ⟨dd, h1, h2⟩ := d.atV (y vs q)
    refine ⟨S', dd, Grow.refl e2, ?_, dq_mono e1 h2⟩
    rw [List.getElem?_reverse hi, ← h1, dl]
theorem itd_revT {K : Frag} {S : Hp} {a : Addr} {vs : List V} {xs : List PD} (h : SqT K S a vs) (d : DqAll K S vs xs) : ItD K (ItvT K a vs.length) xs.reverse S := by
  intro S' H' e1 e2
  have q : SqT K H' a vs := sqT_mono e2 (sqT_mono e1 h)
  have dl := d.len
  refine ⟨fun i hi => ?_, fun i hi => by rw [List.length_reverse] at hi; show vs.length ≤ i; omega, fun i x H'' hi y => ?_⟩
  · rw [List.length_reverse] at hi
    exact ⟨by omega, vs, vs[vs.length - 1 - i]'(by omega), q, by simp [show vs.length - 1 - i < vs.length by omega]⟩
  · rw [List.length_reverse] at hi
    obtain ⟨rfl, y⟩ := y
    obtain ⟨dd, h1, h2⟩ := d.atV (y vs q)
    refine ⟨S', dd, Grow.refl e2, ?_, dq_mono e1 h2⟩
    rw [List.getElem?_reverse hi, ← h1, dl]
theorem ji_rev {tg : Expr} {p : Pos} (hm : X.mg "reversed" = none) (he : JE X n W κ e f) (hg : Gl X "reversed" := by rfl) (hs : starEach [e] X.env = (false, eval e X.env) :: starEach [] X.env := by rfl) : JI X n W κ tg (.Call (.Name "reversed" p) [e] [] pos) (iRv f) := by
  refine PI.to (pi_revA hg hm he hs) fun σ H Rr ⟨m, S, ρ, R, Er, st, hf, kR, kE⟩ => ⟨m, S, ρ, _, Er, st, hf, fun x v S1 H1 hx st1 p1 d1 => ?_, kE⟩
  match x, hx with
  | .well (some ns), hx =>
    obtain ⟨p, rfl, hp⟩ := d1
    exact ⟨_, _, rfl, .inl ⟨st1.wd.sm.seq hp, kR _ _ S1 H1 hx st1 p1 (itd_rev hp (DqAll.ints ns))⟩⟩
  | .d x, hx =>
    obtain ⟨k, a, vs, xs, rfl, q, r, hr, z⟩ := seq_of st1.wd.sm (.inl d1) hx
    cases k with
    | true => exact ⟨a, vs, rfl, .inl ⟨q, kR _ _ S1 H1 hr st1 p1 (itd_rev (z d1) r)⟩⟩
    | false => exact ⟨a, vs, rfl, .inr ⟨q, kR _ _ S1 H1 hr st1 p1 (itd_revT (z d1) r)⟩⟩

/-! ### two names, new lists among what they get -/
def gParNN (i j : Nat) (fa fb : DN) : DS := fun D ρ => fa ρ (fun xs => fb ρ (fun ys => D.nx ((ρ.set i (.own xs)).set j (.own ys))) (D.ex ρ)) (D.ex ρ)
def gParDN (i j : Nat) (fa : DE) (fb : DN) : DS := fun D ρ => fa ρ (fun x => fb ρ (fun ys => D.nx ((ρ.set i (.v x)).set j (.own ys))) (D.ex ρ)) (D.ex ρ)
def gParND (i j : Nat) (fa : DN) (fb : DE) : DS := fun D ρ => fa ρ (fun xs => fb ρ (fun y => D.nx ((ρ.set i (.own xs)).set j (.v y))) (D.ex ρ)) (D.ex ρ)
theorem wl_ne {K : Frag} {m : Nat} {S H : Hp} {σ : L2.St} {ρ : List Sl} {p : Addr} (s : StOk K n m S H σ ρ) (np : H p = none) : n.wl ≠ some p := fun z => by
  obtain ⟨_, a, b, c, hw, _⟩ := s.wd.we p z
  rw [np] at hw
  cases hw
section
variable {i j : Nat} {x y : Str} {px py pt : Pos} {kt k2 pt2 : _}
theorem js_parNN {kt k2 : Nat} {pt2 : Pos} (hpa : ∀ a, n.pa a) (hc : X.calm = true) (hN : X.N.Nodup) (hi : X.N[i]? = some x) (hj : X.N[j]? = some y) (hij : i ≠ j) (hx : X.env.scope.names.lookup x = some .local) (hy : X.env.scope.names.lookup y = some .local)
    (ha : JN X n W κ a fn) (hb : JN X n W κ' b fm) (hs1 : starEach [a, b] X.env = (false, eval a X.env) :: starEach [b] X.env) (hs2 : starEach [b] X.env = (false, eval b X.env) :: starEach [] X.env) (hw : swappedStores [.Tuple [.Name x px, .Name y py] kt pt] (.Tuple [a, b] k2 pt2) X.env = pure (some [x, y]))
    (hs : swapsWithSole [.Tuple [.Name x px, .Name y py] kt pt] (.Tuple [a, b] k2 pt2) pos.line X.env = pure false) : JS X n W (κ + κ') (.Assign [.Tuple [.Name x px, .Name y py] kt pt] (.Tuple [a, b] k2 pt2) pos) (gParNN i j fn fm) := by
  refine PS.to (ps_par hc hN hi hj hij hx hy (pa_cons ha (pa_cons hb pa_nil hs2) hs1) hw hs) fun D σ H ⟨m, S, ρ, Dd, st, hg, ks⟩ => ?_
  refine ⟨m + κ', S, ρ, _, _, st_split st, hg, fun xs p vs S1 H1 hx st1 p1 np sp hp d1 => ?_, (ks.up (by omega)).ke⟩
  refine ⟨m, S1, ρ, _, _, st1, hx, fun ys q us S2 H2 hy st2 p2 nq sq hq d2 => ?_, (ks.af p1.sS).ke⟩
  have hp1 : H1 p ≠ none := by rw [hp]; exact Option.some_ne_none _
  have t1 := own_new (i := i) st st1 np sp hp d1 hpa
  have t2 := own_new (i := i) st st2 np (p2.fr p hp1 sp) (p2.kp p _ hp (wl_ne st np)) (dqAll_mono p2.sS d1) hpa
  exact ⟨_, _, rfl, ks.nx _ _ S2 H2 hy (own_new (i := j) t1 t2 nq sq hq d2 hpa) (p1.sS.trans p2.sS)⟩
theorem js_parDN {kt k2 : Nat} {pt2 : Pos} (hpa : ∀ a, n.pa a) (hc : X.calm = true) (hN : X.N.Nodup) (hi : X.N[i]? = some x) (hj : X.N[j]? = some y) (hij : i ≠ j) (hx : X.env.scope.names.lookup x = some .local) (hy : X.env.scope.names.lookup y = some .local)
    (ha : JE X n W κ a f) (hb : JN X n W κ' b fm) (hs1 : starEach [a, b] X.env = (false, eval a X.env) :: starEach [b] X.env) (hs2 : starEach [b] X.env = (false, eval b X.env) :: starEach [] X.env) (hw : swappedStores [.Tuple [.Name x px, .Name y py] kt pt] (.Tuple [a, b] k2 pt2) X.env = pure (some [x, y]))
    (hs : swapsWithSole [.Tuple [.Name x px, .Name y py] kt pt] (.Tuple [a, b] k2 pt2) pos.line X.env = pure false) : JS X n W (κ + κ') (.Assign [.Tuple [.Name x px, .Name y py] kt pt] (.Tuple [a, b] k2 pt2) pos) (gParDN i j f fm) := by
  refine PS.to (ps_par hc hN hi hj hij hx hy (pa_cons ha (pa_cons hb pa_nil hs2) hs1) hw hs) fun D σ H ⟨m, S, ρ, Dd, st, hg, ks⟩ => ?_
  refine ⟨m + κ', S, ρ, _, _, st_split st, hg, fun xv v S1 H1 hx st1 p1 d1 => ?_, (ks.up (by omega)).ke⟩
  refine ⟨m, S1, ρ, _, _, st1, hx, fun ys q us S2 H2 hy st2 p2 nq sq hq d2 => ?_, (ks.af p1.sS).ke⟩
  exact ⟨_, _, rfl, ks.nx _ _ S2 H2 hy (own_new (i := j) (st1.set d1) (st2.set (dv_mono p2.sS d1)) nq sq hq d2 hpa) (p1.sS.trans p2.sS)⟩
theorem js_parND {kt k2 : Nat} {pt2 : Pos} (hpa : ∀ a, n.pa a) (hc : X.calm = true) (hN : X.N.Nodup) (hi : X.N[i]? = some x) (hj : X.N[j]? = some y) (hij : i ≠ j) (hx : X.env.scope.names.lookup x = some .local) (hy : X.env.scope.names.lookup y = some .local)
    (ha : JN X n W κ a fn) (hb : JE X n W κ' b f) (hs1 : starEach [a, b] X.env = (false, eval a X.env) :: starEach [b] X.env) (hs2 : starEach [b] X.env = (false, eval b X.env) :: starEach [] X.env) (hw : swappedStores [.Tuple [.Name x px, .Name y py] kt pt] (.Tuple [a, b] k2 pt2) X.env = pure (some [x, y]))
    (hs : swapsWithSole [.Tuple [.Name x px, .Name y py] kt pt] (.Tuple [a, b] k2 pt2) pos.line X.env = pure false) : JS X n W (κ + κ') (.Assign [.Tuple [.Name x px, .Name y py] kt pt] (.Tuple [a, b] k2 pt2) pos) (gParND i j fn f) := by
  refine PS.to (ps_par hc hN hi hj hij hx hy (pa_cons ha (pa_cons hb pa_nil hs2) hs1) hw hs) fun D σ H ⟨m, S, ρ, Dd, st, hg, ks⟩ => ?_
  refine ⟨m + κ', S, ρ, _, _, st_split st, hg, fun xs p vs S1 H1 hx st1 p1 np sp hp d1 => ?_, (ks.up (by omega)).ke⟩
  refine ⟨m, S1, ρ, _, _, st1, hx, fun yv v S2 H2 hy st2 p2 d2 => ?_, (ks.af p1.sS).ke⟩
  have hp1 : H1 p ≠ none := by rw [hp]; exact Option.some_ne_none _
  have t2 := own_new (i := i) st st2 np (p2.fr p hp1 sp) (p2.kp p _ hp (wl_ne st np)) (dqAll_mono p2.sS d1) hpa
  exact ⟨_, _, rfl, ks.nx _ _ S2 H2 hy (t2.set d2) (p1.sS.trans p2.sS)⟩
end

/-! ### expressions that change a list of one's own: xs.pop(..) -/
abbrev DX := List Sl → (DV → List Sl → Prop) → EK → Prop
def rdX (K : Frag) (n : En) (W : WX) (κ : Nat) (f : DX) : TE := fun σ H Q => ∃ m S ρ R Er, StOk K n (m + κ) S H σ ρ ∧ f ρ R Er ∧
  (∀ x v ρ' S' H', R x ρ' → StOk K n m S' H' σ ρ' → Same S S' → DvOk K n S' v x → Q v H') ∧
  KErr K n W m S σ ρ Er
abbrev JX (X : Cx) (n : En) (W : WX) (κ : Nat) (e : Expr) (f : DX) : Prop := PE X e (rdX X.K n W κ f)
def xPopAt (j : Nat) (f : DE) : DX := fun ρ R E => slOw ρ[j]? fun _ => f ρ (fun x => onI' x fun t => slOw ρ[j]? fun ys => ∃ k y, ixN ys.length t = some k ∧ ys[k]? = some y ∧ ys.length ≤ 100000 ∧ R (.d y) (ρ.set j (.own (ys.eraseIdx k)))) E
def xPop (j : Nat) : DX := fun ρ R E => slOw ρ[j]? fun ys => ∃ y, ys[ys.length - 1]? = some y ∧ R (.d y) (ρ.set j (.own ys.dropLast))
theorem dqErase {K : Frag} {S : Hp} : ∀ {vs : List V} {xs : List PD} (k : Nat), DqAll K S vs xs → DqAll K S (vs.eraseIdx k) (xs.eraseIdx k)
  | _, _, _, .nil => .nil
  | _, _, 0, .cons _ t => t
  | _, _, k + 1, .cons h t => .cons h (dqErase k t)
theorem dqDropLast {K : Frag} {S : Hp} {vs : List V} {xs : List PD} (d : DqAll K S vs xs) : DqAll K S vs.dropLast xs.dropLast := by
  rw [List.dropLast_eq_take, List.dropLast_eq_take, d.len]
  exact d.take _
section
variable {j : Nat} {x : Str} {p pa : Pos}
theorem jx_popAt (hN : X.N[j]? = some x) (hv : Vis X.env.scope x) (hd : (x == ("__debug__" : Str)) = false) (hcd : (x == ("__classdict__" : Str)) = false) (he : JE X n W κ e f)
    (hbase : attributeBase (.Name x p) "pop" X.env (eval (.Name x p) X.env) = eval (.Name x p) X.env)
    (hfew : ((backTo pos (starEach (e :: []) X.env)).all (fun x => !x.1) && (backToKw pos (keywordEach [] X.env)).all (fun x => x.1.isSome)
      && decide ((e :: ([] : List Expr)).length + ([] : List Keyword).length + (if ([] : List Keyword).isEmpty then 0 else 1) < 30)) = true)
    (hline : (pa.endLine == pos.line) = true) (hs : starEach (e :: []) X.env = (false, eval e X.env) :: starEach [] X.env) (hplain : (backTo pos (starEach [] X.env)).any (·.1) = false) :
    JX X n W κ (.Call (.Attribute (.Name x p) "pop" pa) [e] [] pos) (xPopAt j f) := by
  refine PE.to (pe_bm PySem.F.plainAttrs_list PySem.F.slot_list_pop PySem.F.type_list_pop mt_popAt (pe_var hN hv hd hcd) (pa_cons he pa_nil hs) hbase hfew hline hs hplain) fun σ H Q ⟨m, S, ρ, R, Er, st, hg, kR, kE⟩ => ?_
  obtain ⟨xs, hi, hg⟩ := slOw_of hg
  obtain ⟨q, vs, e1, e2, e3, _⟩ := st.write (ys := []) hi
  refine ⟨_, e1, .inl ⟨rfl, vs, SqL.of e2⟩, m, S, ρ, _, _, st, hg, fun x v S' H' hx st' po d => ?_, kE⟩
  obtain ⟨t, rfl, hx⟩ := onI_of hx
  cases d
  obtain ⟨ys, hi', k, y, hk, hy, hl, hr⟩ := slOw_of hx
  rw [hi] at hi'
  cases hi'
  obtain ⟨q', us, f1, f2, f3, f4⟩ := st'.write (ys := xs.eraseIdx k) hi
  rw [e1] at f1
  cases f1
  obtain ⟨u, hu, du⟩ := f3.at hy
  rw [← f3.len] at hk
  obtain ⟨k1, k2, k3, k4⟩ := ixN_seq hk
  have hl2 : us.length ≤ 100000 := by rw [f3.len]; exact hl
  exact ⟨q, us, t, k, u, rfl, rfl, f2, by omega, by omega, k1, hu, kR _ _ _ _ _ hr (f4 _ (dqErase k f3)) po.sS du⟩
theorem jx_pop (hN : X.N[j]? = some x) (hv : Vis X.env.scope x) (hd : (x == ("__debug__" : Str)) = false) (hcd : (x == ("__classdict__" : Str)) = false)
    (hbase : attributeBase (.Name x p) "pop" X.env (eval (.Name x p) X.env) = eval (.Name x p) X.env) (hline : (pa.endLine == pos.line) = true) :
    JX X n W 0 (.Call (.Attribute (.Name x p) "pop" pa) [] [] pos) (xPop j) := by
  refine PE.to (pe_bm0 PySem.F.plainAttrs_list PySem.F.slot_list_pop PySem.F.type_list_pop mt_pop (pe_var hN hv hd hcd) hbase hline) fun σ H Q ⟨m, S, ρ, R, Er, st, hg, kR, kE⟩ => ?_
  obtain ⟨xs, hi, y, hy, hr⟩ := slOw_of hg
  obtain ⟨q, vs, e1, e2, e3, f4⟩ := st.write (ys := xs.dropLast) hi
  obtain ⟨u, hu, du⟩ := e3.at hy
  rw [← e3.len] at hu
  exact ⟨_, e1, .inl ⟨rfl, vs, SqL.of e2⟩, q, vs, u, rfl, rfl, e2, hu, kR _ _ _ _ _ hr (f4 _ (dqDropLast e3)) (Same.refl S) du⟩
/-- ys.append(e), e changes lists of one's own -/
def gAppX (i : Nat) (f : DX) : DS := fun D ρ => slOw ρ[i]? fun _ => f ρ (fun x ρ' => onD x fun d => slOw ρ'[i]? fun xs => xs.length ≤ 100000 ∧ D.nx (ρ'.set i (.own (xs ++ [d])))) (D.ex ρ)
theorem js_appX {i : Nat} {pos' : Pos} {fx : DX} (hN : X.N[i]? = some x) (hv : Vis X.env.scope x) (hd : (x == ("__debug__" : Str)) = false) (hcd : (x == ("__classdict__" : Str)) = false) (he : JX X n W κ e fx)
    (hbase : attributeBase (.Name x p) "append" X.env (eval (.Name x p) X.env) = eval (.Name x p) X.env)
    (hfew : ((backTo pos (starEach (e :: []) X.env)).all (fun x => !x.1) && (backToKw pos (keywordEach [] X.env)).all (fun x => x.1.isSome)
      && decide ((e :: ([] : List Expr)).length + ([] : List Keyword).length + (if ([] : List Keyword).isEmpty then 0 else 1) < 30)) = true)
    (hline : (pa.endLine == pos.line) = true) (hs : starEach (e :: []) X.env = (false, eval e X.env) :: starEach [] X.env) (hplain : (backTo pos (starEach [] X.env)).any (·.1) = false)
    (hsw : swapsWith (.Call (.Attribute (.Name x p) "append" pa) [e] [] pos) none pos'.line X.env = pure false) :
    JS X n W κ (.Expr (.Call (.Attribute (.Name x p) "append" pa) [e] [] pos) pos') (gAppX i fx) := by
  refine PS.to (ps_expr (pe_bm PySem.F.plainAttrs_list PySem.F.slot_list_append PySem.F.type_list_append mt_append (pe_var hN hv hd hcd) (pa_cons he pa_nil hs) hbase hfew hline hs hplain) hsw) fun D σ H ⟨m, S, ρ, Dd, st, hg, ks⟩ => ?_
  obtain ⟨xs, hi, hg⟩ := slOw_of hg
  obtain ⟨q, vs, e1, e2, e3, _⟩ := st.write (ys := []) hi
  refine ⟨_, e1, .inl ⟨rfl, vs, SqL.of e2⟩, m, S, ρ, _, _, st, hg, fun x v ρ' S' H' hx st' po d => ?_, ks.ke⟩
  obtain ⟨x, rfl, hx⟩ := onD_of hx
  obtain ⟨xs', hi', hl, hx⟩ := slOw_of hx
  obtain ⟨q', us, f1, f2, f3, f4⟩ := st'.write (ys := xs' ++ [x]) hi'
  rw [e1] at f1
  cases f1
  refine ⟨q, us, v, rfl, rfl, f2, ?_, ?_⟩
  · have := f3.len
    have : (100000 : Nat) < sizeLine := by decide
    omega
  · exact ks.nx _ _ S' _ hx (f4 _ (f3.app (.cons d .nil))) po
/-- a statement that is such an expression; its value to a name -/
def gDropX (f : DX) : DS := fun D ρ => f ρ (fun _ ρ' => D.nx ρ') (D.ex ρ)
theorem js_dropX {fx : DX} (he : JX X n W κ e fx) (hs : swapsWith e none pos.line X.env = pure false) : JS X n W κ (.Expr e pos) (gDropX fx) :=
  PS.to (ps_expr he hs) fun D σ H ⟨m, S, ρ, Dd, st, hg, ks⟩ => ⟨m, S, ρ, _, _, st, hg, fun x v ρ' S' H' hx st' p d => ks.nx _ σ S' H' hx st' p, ks.ke⟩
def gSetX (i : Nat) (f : DX) : DS := fun D ρ => f ρ (fun x ρ' => D.nx (ρ'.set i (.v x))) (D.ex ρ)
theorem js_setX {i : Nat} {pos' : Pos} {fx : DX} (hN : X.N.Nodup) (hi : X.N[i]? = some x) (hx : Loc X.env.scope x) (he : JX X n W κ e fx) (hs : swapsWith e (some (.Name x pos')) pos.line X.env = pure false) (hf : X.fn x = true ∨ X.env.scope.names.lookup x = some .local) :
    JS X n W κ (.Assign [.Name x pos'] e pos) (gSetX i fx) :=
  PS.to (ps_set hN hi hx he hs hf) fun D σ H ⟨m, S, ρ, Dd, st, hg, ks⟩ => ⟨m, S, ρ, _, _, st, hg, fun x v ρ' S' H' hx st' p d => ks.nx _ _ S' H' hx (st'.set d) p, ks.ke⟩
end
end
end Wb
/-! Wb14: short forms of the rules of Wb11 .. Wb13. -/
namespace Wb
open PySem PySem.Spec PyProof.Rows L2
section
variable {X : Cx} {n : En} {W : WX} {κ κ' κ2 κi κt κe κf k k' : Nat} {e a b c elt tg iter : Expr} {es ifs : List Expr} {pos : Pos} {f h g : DE} {fa fk : DA} {t u : DT} {fi fn fm : DN} {fx : DX}
theorem spNN (C : Cok X n W k) (i j : Nat) {x y : Str} {px py pt : Pos} {kt k2 : Nat} {pt2 : Pos} (ha : JN X n W κ a fn) (hb : JN X n W κ' b fm) (hi : X.N[i]? = some x := by rfl) (hj : X.N[j]? = some y := by rfl) (hij : i ≠ j := by decide) (hx : X.env.scope.names.lookup x = some .local := by rfl) (hy : X.env.scope.names.lookup y = some .local := by rfl)
    (hs1 : starEach [a, b] X.env = (false, eval a X.env) :: starEach [b] X.env := by rfl) (hs2 : starEach [b] X.env = (false, eval b X.env) :: starEach [] X.env := by rfl)
    (hw : swappedStores [.Tuple [.Name x px, .Name y py] kt pt] (.Tuple [a, b] k2 pt2) X.env = pure (some [x, y]) := by rfl)
    (hs : swapsWithSole [.Tuple [.Name x px, .Name y py] kt pt] (.Tuple [a, b] k2 pt2) pos.line X.env = pure false := by rfl) (hpa : ∀ a, n.pa a := by exact fun _ => trivial) : JS X n W (κ + κ') (.Assign [.Tuple [.Name x px, .Name y py] kt pt] (.Tuple [a, b] k2 pt2) pos) (gParNN i j fn fm) :=
  js_parNN hpa C.calm C.nd hi hj hij hx hy ha hb hs1 hs2 hw hs
theorem spDN (C : Cok X n W k) (i j : Nat) {x y : Str} {px py pt : Pos} {kt k2 : Nat} {pt2 : Pos} (ha : JE X n W κ a f) (hb : JN X n W κ' b fm) (hi : X.N[i]? = some x := by rfl) (hj : X.N[j]? = some y := by rfl) (hij : i ≠ j := by decide) (hx : X.env.scope.names.lookup x = some .local := by rfl) (hy : X.env.scope.names.lookup y = some .local := by rfl)
    (hs1 : starEach [a, b] X.env = (false, eval a X.env) :: starEach [b] X.env := by rfl) (hs2 : starEach [b] X.env = (false, eval b X.env) :: starEach [] X.env := by rfl)
    (hw : swappedStores [.Tuple [.Name x px, .Name y py] kt pt] (.Tuple [a, b] k2 pt2) X.env = pure (some [x, y]) := by rfl)
    (hs : swapsWithSole [.Tuple [.Name x px, .Name y py] kt pt] (.Tuple [a, b] k2 pt2) pos.line X.env = pure false := by rfl) (hpa : ∀ a, n.pa a := by exact fun _ => trivial) : JS X n W (κ + κ') (.Assign [.Tuple [.Name x px, .Name y py] kt pt] (.Tuple [a, b] k2 pt2) pos) (gParDN i j f fm) :=
  js_parDN hpa C.calm C.nd hi hj hij hx hy ha hb hs1 hs2 hw hs
theorem spND (C : Cok X n W k) (i j : Nat) {x y : Str} {px py pt : Pos} {kt k2 : Nat} {pt2 : Pos} (ha : JN X n W κ a fn) (hb : JE X n W κ' b f) (hi : X.N[i]? = some x := by rfl) (hj : X.N[j]? = some y := by rfl) (hij : i ≠ j := by decide) (hx : X.env.scope.names.lookup x = some .local := by rfl) (hy : X.env.scope.names.lookup y = some .local := by rfl)
    (hs1 : starEach [a, b] X.env = (false, eval a X.env) :: starEach [b] X.env := by rfl) (hs2 : starEach [b] X.env = (false, eval b X.env) :: starEach [] X.env := by rfl)
    (hw : swappedStores [.Tuple [.Name x px, .Name y py] kt pt] (.Tuple [a, b] k2 pt2) X.env = pure (some [x, y]) := by rfl)
    (hs : swapsWithSole [.Tuple [.Name x px, .Name y py] kt pt] (.Tuple [a, b] k2 pt2) pos.line X.env = pure false := by rfl) (hpa : ∀ a, n.pa a := by exact fun _ => trivial) : JS X n W (κ + κ') (.Assign [.Tuple [.Name x px, .Name y py] kt pt] (.Tuple [a, b] k2 pt2) pos) (gParND i j fn f) :=
  js_parND hpa C.calm C.nd hi hj hij hx hy ha hb hs1 hs2 hw hs
theorem xp (j : Nat) {x : Str} {p pa : Pos} (he : JE X n W κ e f) (hN : X.N[j]? = some x := by rfl) (hv : Vis X.env.scope x := by first | exact .inl rfl | exact .inr (.inl rfl) | exact .inr (.inr rfl)) (hd : (x == ("__debug__" : Str)) = false := by rfl) (hcd : (x == ("__classdict__" : Str)) = false := by rfl)
    (hbase : attributeBase (.Name x p) "pop" X.env (eval (.Name x p) X.env) = eval (.Name x p) X.env := by rfl)
    (hfew : ((backTo pos (starEach (e :: []) X.env)).all (fun x => !x.1) && (backToKw pos (keywordEach [] X.env)).all (fun x => x.1.isSome)
      && decide ((e :: ([] : List Expr)).length + ([] : List Keyword).length + (if ([] : List Keyword).isEmpty then 0 else 1) < 30)) = true := by rfl)
    (hline : (pa.endLine == pos.line) = true := by rfl) (hs : starEach (e :: []) X.env = (false, eval e X.env) :: starEach [] X.env := by rfl) (hplain : (backTo pos (starEach [] X.env)).any (·.1) = false := by rfl) :
    JX X n W κ (.Call (.Attribute (.Name x p) "pop" pa) [e] [] pos) (xPopAt j f) := jx_popAt hN hv hd hcd he hbase hfew hline hs hplain
theorem xp0 (j : Nat) {x : Str} {p pa : Pos} (hN : X.N[j]? = some x := by rfl) (hv : Vis X.env.scope x := by first | exact .inl rfl | exact .inr (.inl rfl) | exact .inr (.inr rfl)) (hd : (x == ("__debug__" : Str)) = false := by rfl) (hcd : (x == ("__classdict__" : Str)) = false := by rfl)
    (hbase : attributeBase (.Name x p) "pop" X.env (eval (.Name x p) X.env) = eval (.Name x p) X.env := by rfl) (hline : (pa.endLine == pos.line) = true := by rfl) :
    JX X n W 0 (.Call (.Attribute (.Name x p) "pop" pa) [] [] pos) (xPop j) := jx_pop hN hv hd hcd hbase hline
theorem sapX (i : Nat) {x : Str} {pos' p pa : Pos} (he : JX X n W κ e fx) (hN : X.N[i]? = some x := by rfl) (hv : Vis X.env.scope x := by first | exact .inl rfl | exact .inr (.inl rfl) | exact .inr (.inr rfl)) (hd : (x == ("__debug__" : Str)) = false := by rfl) (hcd : (x == ("__classdict__" : Str)) = false := by rfl)
    (hbase : attributeBase (.Name x p) "append" X.env (eval (.Name x p) X.env) = eval (.Name x p) X.env := by rfl)
    (hfew : ((backTo pos (starEach (e :: []) X.env)).all (fun x => !x.1) && (backToKw pos (keywordEach [] X.env)).all (fun x => x.1.isSome)
      && decide ((e :: ([] : List Expr)).length + ([] : List Keyword).length + (if ([] : List Keyword).isEmpty then 0 else 1) < 30)) = true := by rfl)
    (hline : (pa.endLine == pos.line) = true := by rfl) (hs : starEach (e :: []) X.env = (false, eval e X.env) :: starEach [] X.env := by rfl) (hplain : (backTo pos (starEach [] X.env)).any (·.1) = false := by rfl)
    (hsw : swapsWith (.Call (.Attribute (.Name x p) "append" pa) [e] [] pos) none pos'.line X.env = pure false := by rfl) :
    JS X n W κ (.Expr (.Call (.Attribute (.Name x p) "append" pa) [e] [] pos) pos') (gAppX i fx) := js_appX hN hv hd hcd he hbase hfew hline hs hplain hsw
theorem sdX (he : JX X n W κ e fx) (hs : swapsWith e none pos.line X.env = pure false := by rfl) : JS X n W κ (.Expr e pos) (gDropX fx) := js_dropX he hs
theorem ssX (C : Cok X n W k) (i : Nat) {x : Str} {pos' : Pos} (he : JX X n W κ e fx) (hi : X.N[i]? = some x := by rfl) (hx : Loc X.env.scope x := by first | exact .inl rfl | exact .inr rfl) (hs : swapsWith e (some (.Name x pos')) pos.line X.env = pure false := by rfl)
    (hf : X.fn x = true ∨ X.env.scope.names.lookup x = some .local := by first | exact .inr rfl | exact .inl rfl) : JS X n W κ (.Assign [.Name x pos'] e pos) (gSetX i fx) := js_setX C.nd hi hx he hs hf
end
end Wb
/-! Wb15: plain lemmas for the mathematics over mirrors: texts, equality, lists of ints, comprehensions over typed lists. -/
namespace Wb
open PySem PySem.Spec PyProof.Rows L2
theorem ite_t {b : Bool} {A B : Prop} (h : b = true) (q : A) : if b = true then A else B := by rw [if_pos h]; exact q
theorem ite_f {b : Bool} {A B : Prop} (h : b = false) (q : B) : if b = true then A else B := by rw [if_neg (by rw [h]; decide)]; exact q
theorem atI_mem {α : Type} {xs : List α} {k : Int} (h0 : 0 ≤ k) (h : k < (xs.length : Int)) : ∃ y, atI xs k = some y ∧ y ∈ xs := by
  have hk : k.toNat < xs.length := by omega
  refine ⟨xs[k.toNat], ?_, List.getElem_mem hk⟩
  unfold atI ixN
  rw [if_pos h0, if_pos h]
  exact List.getElem?_eq_getElem hk
theorem cpow10 {n : Int} (h0 : 0 ≤ n) (h : n ≤ 1000) : CPow 10 n := ⟨h0, by omega, by decide⟩
theorem rng_nonneg {j : Int} {x : PD} (h : x ∈ rngD 0 j) : ∃ k : Int, x = .int k ∧ 0 ≤ k ∧ k < j := by
  unfold rngD at h
  simp only [List.mem_map, List.mem_range] at h
  obtain ⟨i, hi, rfl⟩ := h
  exact ⟨0 + (i : Int), rfl, by omega, by omega⟩
/-! texts are of true code points -/
abbrev SOk (x : Str) : Prop := PyData.strOk x = true
theorem ok_app {a b : Str} (h : SOk a) (k : SOk b) : SOk (a ++ b) := by
  show ((a.cps ++ b.cps).all fun c => decide (c < 0x110000)) = true
  rw [Array.all_append]
  have h : (a.cps.all fun c => decide (c < 0x110000)) = true := h
  have k : (b.cps.all fun c => decide (c < 0x110000)) = true := k
  rw [h, k]
  rfl
theorem ok_of (s : String) : SOk (Str.ofString s) := by
  show ((Str.ofString s).cps.all fun c => decide (c < 0x110000)) = true
  rw [PySem.Str.ofString_eq_toList]
  rw [Array.all_eq_true_iff_forall_mem]
  intro c hc
  have hc : c ∈ (s.toList.map Char.toNat).toArray := hc
  rw [List.mem_toArray, List.mem_map] at hc
  obtain ⟨ch, _, rfl⟩ := hc
  have v := ch.valid
  rw [decide_eq_true_eq]
  rcases v with v | v
  · have v : ch.toNat < 0xd800 := v
    omega
  · exact v.2
theorem ok_textFrom : ∀ (ts : List Str) (k : Nat) (acc : Str), SOk acc → (∀ t ∈ ts, SOk t) → SOk (textFrom k acc ts)
  | [], _, _, h, _ => h
  | t :: ts, k, acc, h, ht => ok_textFrom ts (k + 1) _ (ok_app (ok_app h (ok_of _)) (ht t (by simp))) fun u hu => ht u (by simp [hu])
theorem ok_listText {ts : List Str} (h : ∀ t ∈ ts, SOk t) : SOk (listText ts) := ok_app (ok_textFrom ts 0 _ (ok_of _) h) (ok_of _)
theorem ok_join : ∀ {ts : List Str}, (∀ t ∈ ts, SOk t) → SOk (Str.join ", " ts)
  | [], _ => by decide +kernel
  | [t], h => h t (by simp)
  | t :: u :: r, h => ok_app (ok_app (h t (by simp)) (ok_of _)) (ok_join fun v hv => h v (by simp at hv ⊢; right; exact hv))
theorem ok_tupleText {ts : List Str} (h : ∀ t ∈ ts, SOk t) : SOk (tupleText ts) := ok_app (ok_app (ok_of _) (ok_join h)) (ok_of _)
/-! what repr and == take: depth at most e, weight at most n -/
structure Rp (e n : Nat) (d : PD) : Prop where
  sh : d.showable = true
  ls : d.leavesShort 600 = true
  cl : d.canLay0 = true
  dp : d.depth ≤ e
  wt : d.weight ≤ n
  st : SOk d.shown
structure RpA (e n : Nat) (xs : List PD) : Prop where
  sh : PyData.showableAll xs = true
  ls : PyData.leavesShortAll 600 xs = true
  cl : PyData.canLayAll0 xs = true
  dp : PyData.depthAll xs ≤ e
  wt : PyData.weightAll xs ≤ n
  st : ∀ t ∈ PyData.shownAll xs, SOk t
theorem Rp.le {e n e' n' : Nat} {d : PD} (h : Rp e n d) (h1 : e ≤ e') (h2 : n ≤ n') : Rp e' n' d := ⟨h.sh, h.ls, h.cl, Nat.le_trans h.dp h1, Nat.le_trans h.wt h2, h.st⟩
theorem Rp.none {e n : Nat} : Rp e n .none := ⟨rfl, rfl, by simp only [PyData.canLay0], Nat.zero_le _, Nat.zero_le _, ok_of _⟩
theorem Rp.bool {e n : Nat} {b : Bool} : Rp e n (.bool b) := ⟨rfl, rfl, by simp only [PyData.canLay0], Nat.zero_le _, Nat.zero_le _, by cases b <;> exact ok_of _⟩
theorem Rp.int {e a : Nat} {i : Int} (h : MB a i) (ha : a ≤ 1900) : Rp e a (.int i) := by
  have hl : i ≠ 0 → i.natAbs.log2 < a := fun z => (Nat.log2_lt (by omega)).mpr h
  refine ⟨?_, ?_, by simp only [PyData.canLay0], Nat.zero_le _, ?_, ok_of _⟩
  · simp only [PyData.showable, decide_eq_true_eq]
    by_cases z : i = 0
    · subst z; decide
    · have := hl z; omega
  · simp only [PyData.leavesShort, decide_eq_true_eq]
    show (Str.ofString (toString i)).length ≤ 600
    rw [PySem.ofString_length]
    have h2 : i.natAbs < 10 ^ 572 := Nat.lt_of_lt_of_le (MB.le h ha) (by decide +kernel)
    have := PySem.int_text_length_le10 (k := 572) (by decide) h2
    omega
  · simp only [PyData.weight]
    by_cases z : i = 0
    · subst z; simp
    · have := hl z
      have e : (i == 0) = false := by simpa using z
      rw [e]
      simp
      omega
theorem RpA.nil {e : Nat} : RpA e 0 [] := ⟨rfl, rfl, rfl, Nat.zero_le _, Nat.zero_le _, fun _ h => nomatch h⟩
theorem RpA.cons {e n m : Nat} {x : PD} {xs : List PD} (h : Rp e n x) (t : RpA e m xs) : RpA e (n + 1 + m) (x :: xs) := by
  refine ⟨?_, ?_, ?_, ?_, ?_, fun u hu => by
    rcases List.mem_cons.mp (show u ∈ x.shown :: PyData.shownAll xs from hu) with rfl | hu
    · exact h.st
    · exact t.st u hu⟩
  · simp only [PyData.showableAll, h.sh, t.sh, Bool.and_self]
  · simp only [PyData.leavesShortAll, h.ls, t.ls, Bool.and_self]
  · simp only [PyData.canLayAll0, h.cl, t.cl, Bool.and_self]
  · simp only [PyData.depthAll]
    have := h.dp; have := t.dp
    omega
  · simp only [PyData.weightAll]
    have := h.wt; have := t.wt
    omega
theorem Rp.list {e n : Nat} {xs : List PD} (h : RpA e n xs) : Rp (e + 1) n (.list xs) := by
  refine ⟨?_, ?_, ?_, ?_, ?_, ok_listText h.st⟩
  · simp only [PyData.showable, h.sh]
  · simp only [PyData.leavesShort, h.ls]
  · simp only [PyData.canLay0, h.cl]
  · simp only [PyData.depth]; have := h.dp; omega
  · simp only [PyData.weight]; exact h.wt
theorem Rp.tup {e n : Nat} {xs : List PD} (h : RpA e n xs) : Rp (e + 1) n (.tuple xs) := by
  refine ⟨?_, ?_, ?_, ?_, ?_, ok_tupleText h.st⟩
  · simp only [PyData.showable, h.sh]
  · simp only [PyData.leavesShort, h.ls]
  · simp only [PyData.canLay0, h.cl]
  · simp only [PyData.depth]; have := h.dp; omega
  · simp only [PyData.weight]; exact h.wt
theorem Rp.ok {e n : Nat} {d : PD} (h : Rp e n d) (he : e ≤ 60) (hn : n ≤ 20000) : ROk d := by
  refine ⟨h.sh, ?_, by have := h.dp; omega⟩
  have q := PyData.shown_le 600 (by decide) d h.ls
  have w := h.wt
  have s : (16777216 : Nat) ≤ sizeLine := by decide
  have : (600 + 2) * d.weight ≤ 602 * 20000 := Nat.mul_le_mul (Nat.le_refl _) (by omega)
  omega
theorem Rp.sh' {e n : Nat} {d : PD} (h : Rp e n d) (he : e ≤ 60) : Sh d := by
  show (d.canLay0 && decide (d.depth ≤ 64)) = true
  rw [h.cl, Bool.true_and, decide_eq_true_eq]
  have := h.dp
  omega
theorem Rp.str {e n : Nat} {x : Str} (h : (PyData.str x).leavesShort 600 = true) (h2 : (PyData.str x).canLay0 = true) (h3 : (PyData.str x).weight ≤ n) (h4 : SOk (PyData.str x).shown) : Rp e n (.str x) := ⟨rfl, h, h2, Nat.zero_le _, h3, h4⟩
/-- what == takes -/
structure Cp (e : Nat) (d : PD) : Prop where
  cl : d.canLay0 = true
  dp : d.depth ≤ e
structure CpA (e : Nat) (xs : List PD) : Prop where
  cl : PyData.canLayAll0 xs = true
  dp : PyData.depthAll xs ≤ e
theorem Rp.cp {e n : Nat} {d : PD} (h : Rp e n d) : Cp e d := ⟨h.cl, h.dp⟩
theorem Cp.le {e e' : Nat} {d : PD} (h : Cp e d) (l : e ≤ e') : Cp e' d := ⟨h.cl, Nat.le_trans h.dp l⟩
theorem Cp.int {e : Nat} {i : Int} : Cp e (.int i) := ⟨by simp only [PyData.canLay0], Nat.zero_le _⟩
theorem Cp.bool {e : Nat} {i : Bool} : Cp e (.bool i) := ⟨by simp only [PyData.canLay0], Nat.zero_le _⟩
theorem Cp.none {e : Nat} : Cp e .none := ⟨by simp only [PyData.canLay0], Nat.zero_le _⟩
theorem Cp.str {e : Nat} {x : Str} (h : SOk x) : Cp e (.str x) := ⟨by simpa only [PyData.canLay0] using h, Nat.zero_le _⟩
theorem CpA.nil {e : Nat} : CpA e [] := ⟨rfl, Nat.zero_le _⟩
theorem CpA.cons {e : Nat} {x : PD} {xs : List PD} (h : Cp e x) (t : CpA e xs) : CpA e (x :: xs) := by
  refine ⟨?_, ?_⟩
  · simp only [PyData.canLayAll0, h.cl, t.cl, Bool.and_self]
  · simp only [PyData.depthAll]; have := h.dp; have := t.dp; omega
theorem Cp.list {e : Nat} {xs : List PD} (h : CpA e xs) : Cp (e + 1) (.list xs) := by
  refine ⟨?_, ?_⟩
  · simp only [PyData.canLay0, h.cl]
  · simp only [PyData.depth]; have := h.dp; omega
theorem Cp.tup {e : Nat} {xs : List PD} (h : CpA e xs) : Cp (e + 1) (.tuple xs) := by
  refine ⟨?_, ?_⟩
  · simp only [PyData.canLay0, h.cl]
  · simp only [PyData.depth]; have := h.dp; omega
theorem Cp.sh' {e : Nat} {d : PD} (h : Cp e d) (he : e ≤ 60) : Sh d := by
  show (d.canLay0 && decide (d.depth ≤ 64)) = true
  rw [h.cl, Bool.true_and, decide_eq_true_eq]
  have := h.dp
  omega
/-- a == a -/
theorem e_eqR {e : Nat} {d : PD} {R : DV → Prop} (h : Cp e d) (he : e ≤ 60) (hR : R (.d (.bool true))) : gEq (.d d) (.d d) R := by
  have r := PySem.SeqAt.eqv_refl d h.cl
  cases d with
  | str x =>
    show R (.d (.bool (decide (x = x))))
    simpa using hR
  | _ => exact ⟨h.sh' he, h.sh' he, by rw [r]; exact hR⟩
theorem e_neR {e : Nat} {d : PD} {R : DV → Prop} (h : Cp e d) (he : e ≤ 60) (hR : R (.d (.bool false))) : gNe (.d d) (.d d) R := by
  have r := PySem.SeqAt.eqv_refl d h.cl
  cases d with
  | str x =>
    show R (.d (.bool (!decide (x = x))))
    simpa using hR
  | _ => exact ⟨h.sh' he, h.sh' he, by rw [r]; exact hR⟩
theorem e_neS {x y : Str} {R : DV → Prop} : gNe (.d (.str x)) (.d (.str y)) R = R (.d (.bool (!decide (x = y)))) := rfl
/-- repr of the same -/
theorem e_reprNe {d : PD} {R : DV → Prop} (hR : R (.d (.bool false))) : gNe (.d (.str d.shown)) (.d (.str d.shown)) R := by
  rw [e_neS]
  simpa using hR
theorem e_eqI {i j : Int} {R : DV → Prop} : gEq (.d (.int i)) (.d (.int j)) R = R (.d (.bool (decide (i = j)))) := by
  apply propext
  show (Sh (.int i) ∧ Sh (.int j) ∧ R (.d (.bool (PyData.eqv (.int i) (.int j))))) ↔ _
  have e : PyData.eqv (.int i) (.int j) = decide (i = j) := by rw [Bool.eq_iff_iff]; simp [PyData.eqv]
  rw [e]
  exact ⟨fun h => h.2.2, fun h => ⟨rfl, rfl, h⟩⟩
theorem e_neI {i j : Int} {R : DV → Prop} : gNe (.d (.int i)) (.d (.int j)) R = R (.d (.bool (!decide (i = j)))) := by
  apply propext
  show (Sh (.int i) ∧ Sh (.int j) ∧ R (.d (.bool (!PyData.eqv (.int i) (.int j))))) ↔ _
  have e : PyData.eqv (.int i) (.int j) = decide (i = j) := by rw [Bool.eq_iff_iff]; simp [PyData.eqv]
  rw [e]
  exact ⟨fun h => h.2.2, fun h => ⟨rfl, rfl, h⟩⟩
theorem len_weight : ∀ xs : List PD, xs.length ≤ PyData.weightAll xs
  | [] => Nat.le_refl _
  | x :: xs => by
    simp only [PyData.weightAll, List.length_cons]
    have := len_weight xs
    omega
theorem mem_weight : ∀ {xs : List PD} {y : PD}, y ∈ xs → y.weight ≤ PyData.weightAll xs ∧ y.depth ≤ PyData.depthAll xs
  | x :: xs, y, h => by
    simp only [PyData.weightAll, PyData.depthAll]
    rcases List.mem_cons.mp h with rfl | h
    · omega
    · have := mem_weight h
      omega
theorem okD_of : ∀ (j : Nat) (d : PD), d.depth ≤ j → d.weight ≤ 100000 → okD j d
  | j, .none, _, _ => by cases j <;> trivial
  | j, .bool _, _, _ => by cases j <;> trivial
  | j, .int _, _, _ => by cases j <;> trivial
  | j, .str _, _, _ => by cases j <;> trivial
  | j, .dict _, _, _ => by cases j <;> trivial
  | 0, .list xs, h, _ => by simp only [PyData.depth] at h; omega
  | 0, .tuple xs, h, _ => by simp only [PyData.depth] at h; omega
  | j + 1, .list xs, h, w => by
    simp only [PyData.depth] at h
    simp only [PyData.weight] at w
    have l := len_weight xs
    exact ⟨by omega, fun y hy => okD_of j y (by have := (mem_weight hy).2; omega) (by have := (mem_weight hy).1; omega)⟩
  | j + 1, .tuple xs, h, w => by
    simp only [PyData.depth] at h
    simp only [PyData.weight] at w
    have l := len_weight xs
    exact ⟨by omega, fun y hy => okD_of j y (by have := (mem_weight hy).2; omega) (by have := (mem_weight hy).1; omega)⟩
theorem Rp.ok9 {e n : Nat} {d : PD} (h : Rp e n d) (he : e ≤ 9) (hn : n ≤ 100000) : okD 9 d := okD_of 9 d (by have := h.dp; omega) (by have := h.wt; omega)
theorem mb_weight {i : Int} {n : Nat} (h : (PyData.int i).weight ≤ n) : MB n i := by
  unfold MB
  simp only [PyData.weight] at h
  by_cases z : i = 0
  · subst z; exact Nat.pos_of_ne_zero (by simp)
  · have e : (i == 0) = false := by simpa using z
    rw [e] at h
    have h : i.natAbs.log2 + 1 ≤ n := h
    exact Nat.lt_of_lt_of_le Nat.lt_log2_self (Nat.pow_le_pow_right (by decide) h)
theorem eqv_t2 (x y a b : Int) : PyData.eqv (.tuple [.int x, .int y]) (.tuple [.int a, .int b]) = (decide (x = a) && decide (y = b)) := by
  rw [Bool.eq_iff_iff]
  simp [PyData.eqv, PyData.eqvAll]

/-! lists of ints, ranges -/
def irg (lo hi : Int) : List Int := (List.range (hi - lo).toNat).map fun i : Nat => lo + (i : Int)
theorem rngD_irg (lo hi : Int) : rngD lo hi = (irg lo hi).map .int := by
  unfold rngD irg
  rw [List.map_map]
  rfl
theorem mem_irg {lo hi i : Int} : i ∈ irg lo hi ↔ lo ≤ i ∧ i < hi := by
  unfold irg
  simp only [List.mem_map, List.mem_range]
  constructor
  · rintro ⟨k, hk, rfl⟩
    omega
  · intro ⟨h1, h2⟩
    exact ⟨(i - lo).toNat, by omega, by omega⟩
theorem irg_len (lo hi : Int) : (irg lo hi).length = (hi - lo).toNat := by unfold irg; rw [List.length_map, List.length_range]
theorem nodup_map {α β : Type} {f : α → β} (hf : ∀ a b, f a = f b → a = b) : ∀ {l : List α}, l.Nodup → (l.map f).Nodup
  | [], _ => List.nodup_nil
  | a :: l, h => by
    rw [List.nodup_cons] at h
    rw [List.map_cons, List.nodup_cons]
    refine ⟨fun hm => ?_, nodup_map hf h.2⟩
    obtain ⟨b, hb, e⟩ := List.mem_map.mp hm
    rw [hf _ _ e] at hb
    exact h.1 hb
theorem irg_nodup (lo hi : Int) : (irg lo hi).Nodup := by
  unfold irg
  exact nodup_map (fun a b h => by omega) List.nodup_range
theorem asInts_map : ∀ l : List Int, asInts (l.map .int) = some l
  | [] => rfl
  | a :: l => by
    show (asInts (l.map .int)).map (a :: ·) = _
    rw [asInts_map l]
    rfl
theorem asBools_map : ∀ l : List Bool, asBools (l.map .bool) = some l
  | [] => rfl
  | a :: l => by
    show (asBools (l.map .bool)).map (a :: ·) = _
    rw [asBools_map l]
    rfl
theorem cpA_ints {e : Nat} : ∀ l : List Int, CpA e (l.map .int)
  | [] => CpA.nil
  | a :: l => CpA.cons Cp.int (cpA_ints l)
theorem sh_ints (l : List Int) : Sh (.list (l.map .int)) := (Cp.list (cpA_ints (e := 0) l)).sh' (by decide)
theorem sh_intsT (l : List Int) : Sh (.tuple (l.map .int)) := (Cp.tup (cpA_ints (e := 0) l)).sh' (by decide)
theorem eqv_int (a b : Int) : PyData.eqv (.int a) (.int b) = decide (a = b) := by
  rw [Bool.eq_iff_iff]
  simp [PyData.eqv]
theorem any_eqv (i : Int) : ∀ l : List Int, ((l.map PyData.int).any fun z => PyData.eqv z (.int i)) = decide (i ∈ l)
  | [] => rfl
  | a :: l => by
    rw [List.map_cons, List.any_cons, any_eqv i l, eqv_int, ← Bool.decide_or]
    exact decide_eq_decide.mpr (by rw [List.mem_cons, eq_comm])
theorem flat_ints : ∀ l : List Int, (l.map PyData.int).all flatD = true
  | [] => rfl
  | a :: l => by rw [List.map_cons, List.all_cons, flat_ints l]; rfl
theorem e_inL {i : Int} {l : List Int} {R : DV → Prop} : gIn (.d (.int i)) (.d (.list (l.map .int))) R = R (.d (.bool (decide (i ∈ l)))) := by
  apply propext
  show (Sh _ ∧ Sh _ ∧ R (.d (.bool ((l.map PyData.int).any fun z => PyData.eqv z (.int i))))) ↔ _
  rw [any_eqv]
  exact ⟨fun h => h.2.2, fun h => ⟨rfl, sh_ints l, h⟩⟩
theorem e_ninL {i : Int} {l : List Int} {R : DV → Prop} : gNotIn (.d (.int i)) (.d (.list (l.map .int))) R = R (.d (.bool (!decide (i ∈ l)))) := by
  apply propext
  show (Sh _ ∧ Sh _ ∧ R (.d (.bool (!(l.map PyData.int).any fun z => PyData.eqv z (.int i))))) ↔ _
  rw [any_eqv]
  exact ⟨fun h => h.2.2, fun h => ⟨rfl, sh_ints l, h⟩⟩
theorem e_inT {i : Int} {l : List Int} {R : DV → Prop} : gIn (.d (.int i)) (.d (.tuple (l.map .int))) R = R (.d (.bool (decide (i ∈ l)))) := by
  apply propext
  show (flatD (.int i) = true ∧ (l.map PyData.int).all flatD = true ∧ R (.d (.bool ((l.map PyData.int).any fun z => PyData.eqv z (.int i))))) ↔ _
  rw [any_eqv]
  exact ⟨fun h => h.2.2, fun h => ⟨rfl, flat_ints l, h⟩⟩
theorem e_ninT {i : Int} {l : List Int} {R : DV → Prop} : gNotIn (.d (.int i)) (.d (.tuple (l.map .int))) R = R (.d (.bool (!decide (i ∈ l)))) := by
  apply propext
  show (flatD (.int i) = true ∧ (l.map PyData.int).all flatD = true ∧ R (.d (.bool (!(l.map PyData.int).any fun z => PyData.eqv z (.int i))))) ↔ _
  rw [any_eqv]
  exact ⟨fun h => h.2.2, fun h => ⟨rfl, flat_ints l, h⟩⟩
/-- == of any two that may be compared -/
theorem e_eqG {x y : PD} {R : DV → Prop} (hx : Sh x) (hy : Sh y) (h : R (.d (.bool (PyData.eqv x y)))) : gEq (.d x) (.d y) R := by
  by_cases q : ∃ s t, x = .str s ∧ y = .str t
  · obtain ⟨s, t, rfl, rfl⟩ := q
    show R (.d (.bool (decide (s = t))))
    have e : PyData.eqv (.str s) (.str t) = decide (s = t) := by rw [Bool.eq_iff_iff]; simp [PyData.eqv]
    rw [← e]
    exact h
  · cases x <;> first | exact ⟨hx, hy, h⟩ | (cases y <;> first | exact ⟨hx, hy, h⟩ | exact absurd ⟨_, _, rfl, rfl⟩ q)
theorem e_neG {x y : PD} {R : DV → Prop} (hx : Sh x) (hy : Sh y) (h : R (.d (.bool (!PyData.eqv x y)))) : gNe (.d x) (.d y) R := by
  by_cases q : ∃ s t, x = .str s ∧ y = .str t
  · obtain ⟨s, t, rfl, rfl⟩ := q
    show R (.d (.bool (!decide (s = t))))
    have e : PyData.eqv (.str s) (.str t) = decide (s = t) := by rw [Bool.eq_iff_iff]; simp [PyData.eqv]
    rw [← e]
    exact h
  · cases x <;> first | exact ⟨hx, hy, h⟩ | (cases y <;> first | exact ⟨hx, hy, h⟩ | exact absurd ⟨_, _, rfl, rfl⟩ q)
theorem eqv_nil (xs : List PD) : PyData.eqv (.list xs) (.list []) = xs.isEmpty := by cases xs <;> simp [PyData.eqv, PyData.eqvAll]
theorem eqv_nilT (xs : List PD) : PyData.eqv (.tuple xs) (.tuple []) = xs.isEmpty := by cases xs <;> simp [PyData.eqv, PyData.eqvAll]
theorem eqvAll_c (x y : PD) (xs ys : List PD) : PyData.eqvAll (x :: xs) (y :: ys) = (PyData.eqv x y && PyData.eqvAll xs ys) := by
  conv => lhs; unfold PyData.eqvAll
theorem eqv_ints : ∀ l k : List Int, PyData.eqvAll (l.map .int) (k.map .int) = decide (l = k)
  | [], [] => by simp [PyData.eqvAll]
  | [], b :: k => by simp [PyData.eqvAll]
  | a :: l, [] => by simp [PyData.eqvAll]
  | a :: l, b :: k => by
    rw [List.map_cons, List.map_cons, eqvAll_c, eqv_ints l k, eqv_int, ← Bool.decide_and]
    exact decide_eq_decide.mpr (by rw [List.cons.injEq])
/-! comprehensions and loops over lists told by a map -/
theorem lcD_map {α : Type} {gd : DG} {t : DT} {f : DE} {ρ : List Sl} {R : List PD → Prop} (enc : α → PD) (h : α → Option PD) : ∀ {l : List α}, (∀ x ∈ l, ∀ P : Option PD → Prop, P (h x) → gd (enc x) ρ fun ρ1 => t ρ1 (fun b => if b = true then f ρ1 (fun y => onD y fun d => P (some d)) noE else P none) noE) →
    R (l.filterMap h) → lcD gd t f ρ (l.map enc) R
  | [], _, hR => hR
  | x :: l, hb, hR => by
    rw [List.map_cons]
    unfold lcD
    exact hb x (by simp) (fun o => match o with
      | some d => lcD gd t f ρ (l.map enc) fun ds => R (d :: ds)
      | none => lcD gd t f ρ (l.map enc) R) (by
        rw [List.filterMap_cons] at hR
        cases q : h x with
        | none =>
          rw [q] at hR
          exact lcD_map enc h (fun y hy => hb y (by simp [hy])) hR
        | some d =>
          rw [q] at hR
          exact lcD_map (R := fun ds => R (d :: ds)) enc h (fun y hy => hb y (by simp [hy])) hR)
/-- no test, each item told -/
theorem lcD_all {α : Type} {gd : DG} {f : DE} {ρ : List Sl} {R : List PD → Prop} (enc : α → PD) (h : α → PD) : ∀ {l : List α}, (∀ x ∈ l, ∀ P : PD → Prop, P (h x) → gd (enc x) ρ fun ρ1 => f ρ1 (fun y => onD y P) noE) →
    R (l.map h) → lcD gd tTrue f ρ (l.map enc) R
  | [], _, hR => hR
  | x :: l, hb, hR => by
    rw [List.map_cons]
    unfold lcD
    simp only [tTrue, if_true]
    exact hb x (by simp) (fun d => lcD gd tTrue f ρ (l.map enc) fun ds => R (d :: ds)) (lcD_all (R := fun ds => R (h x :: ds)) enc h (fun y hy => hb y (by simp [hy])) hR)
inductive All2 {α β : Type} (r : α → β → Prop) : List α → List β → Prop
  | nil : All2 r [] []
  | cons {a : α} {b : β} {l : List α} {k : List β} : r a b → All2 r l k → All2 r (a :: l) (b :: k)
/-- no test, drawn items -/
theorem lcD_any {α β : Type} {gd : DG} {f : DE} {ρ : List Sl} {R : List PD → Prop} (enc : α → PD) (dec : β → PD) (r : α → β → Prop) : ∀ {l : List α}, (∀ x ∈ l, ∀ P : PD → Prop, (∀ y, r x y → P (dec y)) → gd (enc x) ρ fun ρ1 => f ρ1 (fun y => onD y P) noE) →
    (∀ ys : List β, All2 r l ys → R (ys.map dec)) → lcD gd tTrue f ρ (l.map enc) R
  | [], _, hR => hR [] .nil
  | x :: l, hb, hR => by
    rw [List.map_cons]
    unfold lcD
    simp only [tTrue, if_true]
    exact hb x (by simp) (fun d => lcD gd tTrue f ρ (l.map enc) fun ds => R (d :: ds)) fun y hy => lcD_any (R := fun ds => R (dec y :: ds)) enc dec r (fun z hz => hb z (by simp [hz])) fun ys hys => hR (y :: ys) (.cons hy hys)
theorem lcD_test {α : Type} {gd : DG} {t : DT} {f : DE} {ρ : List Sl} {R : List PD → Prop} (enc : α → PD) (p : α → Bool) (h : α → PD) {l : List α} (hb : ∀ x ∈ l, ∀ P : Option PD → Prop, P (if p x = true then some (h x) else none) → gd (enc x) ρ fun ρ1 => t ρ1 (fun b => if b = true then f ρ1 (fun y => onD y fun d => P (some d)) noE else P none) noE)
    (hR : R ((l.filter p).map h)) : lcD gd t f ρ (l.map enc) R := by
  refine lcD_map enc (fun x => if p x = true then some (h x) else none) hb ?_
  have : l.filterMap (fun x => if p x = true then some (h x) else none) = (l.filter p).map h := by
    clear hb hR
    induction l with
    | nil => rfl
    | cons a l ih =>
      rw [List.filterMap_cons, List.filter_cons]
      split <;> simp_all
  rw [this]
  exact hR
theorem zip_map {α β : Type} (f : α → PD) (g : β → PD) (l : List α) (k : List β) : List.zipWith (fun a b => PyData.tuple [a, b]) (l.map f) (k.map g) = (l.zip k).map fun x => .tuple [f x.1, g x.2] := by
  induction l generalizing k with
  | nil => rfl
  | cons a l ih => cases k with
    | nil => rfl
    | cons b k => simp [ih]
theorem atI_map' {α : Type} (f : α → PD) {l : List α} {i : Int} {y : α} (h : atI l i = some y) : atI (l.map f) i = some (f y) := by
  unfold atI at h ⊢
  rw [List.length_map]
  cases q : ixN l.length i with
  | none => rw [q] at h; cases h
  | some j =>
    rw [q] at h
    show (l.map f)[j]? = _
    rw [List.getElem?_map, show l[j]? = some y from h]
    rfl
theorem atI_get0 {α : Type} {l : List α} {i : Int} (h0 : 0 ≤ i) (h1 : i < l.length) : atI l i = l[i.toNat]? := by
  unfold atI ixN
  rw [if_pos h0, if_pos h1]
  rfl
theorem e_get8 {α : Type} {a0 a1 a2 a3 a4 a5 a6 a7 a8 : α} {l : List α} : (a0 :: a1 :: a2 :: a3 :: a4 :: a5 :: a6 :: a7 :: a8 :: l)[8]? = some a8 := rfl
theorem e_set8 {α : Type} {a0 a1 a2 a3 a4 a5 a6 a7 a8 z : α} {l : List α} : (a0 :: a1 :: a2 :: a3 :: a4 :: a5 :: a6 :: a7 :: a8 :: l).set 8 z = a0 :: a1 :: a2 :: a3 :: a4 :: a5 :: a6 :: a7 :: z :: l := rfl
theorem e_get9 {α : Type} {a0 a1 a2 a3 a4 a5 a6 a7 a8 a9 : α} {l : List α} : (a0 :: a1 :: a2 :: a3 :: a4 :: a5 :: a6 :: a7 :: a8 :: a9 :: l)[9]? = some a9 := rfl
theorem e_set9 {α : Type} {a0 a1 a2 a3 a4 a5 a6 a7 a8 a9 z : α} {l : List α} : (a0 :: a1 :: a2 :: a3 :: a4 :: a5 :: a6 :: a7 :: a8 :: a9 :: l).set 9 z = a0 :: a1 :: a2 :: a3 :: a4 :: a5 :: a6 :: a7 :: a8 :: z :: l := rfl
theorem e_get10 {α : Type} {a0 a1 a2 a3 a4 a5 a6 a7 a8 a9 a10 : α} {l : List α} : (a0 :: a1 :: a2 :: a3 :: a4 :: a5 :: a6 :: a7 :: a8 :: a9 :: a10 :: l)[10]? = some a10 := rfl
theorem e_set10 {α : Type} {a0 a1 a2 a3 a4 a5 a6 a7 a8 a9 a10 z : α} {l : List α} : (a0 :: a1 :: a2 :: a3 :: a4 :: a5 :: a6 :: a7 :: a8 :: a9 :: a10 :: l).set 10 z = a0 :: a1 :: a2 :: a3 :: a4 :: a5 :: a6 :: a7 :: a8 :: a9 :: z :: l := rfl
theorem e_get11 {α : Type} {a0 a1 a2 a3 a4 a5 a6 a7 a8 a9 a10 a11 : α} {l : List α} : (a0 :: a1 :: a2 :: a3 :: a4 :: a5 :: a6 :: a7 :: a8 :: a9 :: a10 :: a11 :: l)[11]? = some a11 := rfl
theorem e_set11 {α : Type} {a0 a1 a2 a3 a4 a5 a6 a7 a8 a9 a10 a11 z : α} {l : List α} : (a0 :: a1 :: a2 :: a3 :: a4 :: a5 :: a6 :: a7 :: a8 :: a9 :: a10 :: a11 :: l).set 11 z = a0 :: a1 :: a2 :: a3 :: a4 :: a5 :: a6 :: a7 :: a8 :: a9 :: a10 :: z :: l := rfl
theorem e_get12 {α : Type} {a0 a1 a2 a3 a4 a5 a6 a7 a8 a9 a10 a11 a12 : α} {l : List α} : (a0 :: a1 :: a2 :: a3 :: a4 :: a5 :: a6 :: a7 :: a8 :: a9 :: a10 :: a11 :: a12 :: l)[12]? = some a12 := rfl
theorem e_set12 {α : Type} {a0 a1 a2 a3 a4 a5 a6 a7 a8 a9 a10 a11 a12 z : α} {l : List α} : (a0 :: a1 :: a2 :: a3 :: a4 :: a5 :: a6 :: a7 :: a8 :: a9 :: a10 :: a11 :: a12 :: l).set 12 z = a0 :: a1 :: a2 :: a3 :: a4 :: a5 :: a6 :: a7 :: a8 :: a9 :: a10 :: a11 :: z :: l := rfl
theorem e_get13 {α : Type} {a0 a1 a2 a3 a4 a5 a6 a7 a8 a9 a10 a11 a12 a13 : α} {l : List α} : (a0 :: a1 :: a2 :: a3 :: a4 :: a5 :: a6 :: a7 :: a8 :: a9 :: a10 :: a11 :: a12 :: a13 :: l)[13]? = some a13 := rfl
theorem e_set13 {α : Type} {a0 a1 a2 a3 a4 a5 a6 a7 a8 a9 a10 a11 a12 a13 z : α} {l : List α} : (a0 :: a1 :: a2 :: a3 :: a4 :: a5 :: a6 :: a7 :: a8 :: a9 :: a10 :: a11 :: a12 :: a13 :: l).set 13 z = a0 :: a1 :: a2 :: a3 :: a4 :: a5 :: a6 :: a7 :: a8 :: a9 :: a10 :: a11 :: a12 :: z :: l := rfl
theorem e_get14 {α : Type} {a0 a1 a2 a3 a4 a5 a6 a7 a8 a9 a10 a11 a12 a13 a14 : α} {l : List α} : (a0 :: a1 :: a2 :: a3 :: a4 :: a5 :: a6 :: a7 :: a8 :: a9 :: a10 :: a11 :: a12 :: a13 :: a14 :: l)[14]? = some a14 := rfl
theorem e_set14 {α : Type} {a0 a1 a2 a3 a4 a5 a6 a7 a8 a9 a10 a11 a12 a13 a14 z : α} {l : List α} : (a0 :: a1 :: a2 :: a3 :: a4 :: a5 :: a6 :: a7 :: a8 :: a9 :: a10 :: a11 :: a12 :: a13 :: a14 :: l).set 14 z = a0 :: a1 :: a2 :: a3 :: a4 :: a5 :: a6 :: a7 :: a8 :: a9 :: a10 :: a11 :: a12 :: a13 :: z :: l := rfl
theorem e_get15 {α : Type} {a0 a1 a2 a3 a4 a5 a6 a7 a8 a9 a10 a11 a12 a13 a14 a15 : α} {l : List α} : (a0 :: a1 :: a2 :: a3 :: a4 :: a5 :: a6 :: a7 :: a8 :: a9 :: a10 :: a11 :: a12 :: a13 :: a14 :: a15 :: l)[15]? = some a15 := rfl
theorem e_set15 {α : Type} {a0 a1 a2 a3 a4 a5 a6 a7 a8 a9 a10 a11 a12 a13 a14 a15 z : α} {l : List α} : (a0 :: a1 :: a2 :: a3 :: a4 :: a5 :: a6 :: a7 :: a8 :: a9 :: a10 :: a11 :: a12 :: a13 :: a14 :: a15 :: l).set 15 z = a0 :: a1 :: a2 :: a3 :: a4 :: a5 :: a6 :: a7 :: a8 :: a9 :: a10 :: a11 :: a12 :: a13 :: a14 :: z :: l := rfl
theorem e_get16 {α : Type} {a0 a1 a2 a3 a4 a5 a6 a7 a8 a9 a10 a11 a12 a13 a14 a15 a16 : α} {l : List α} : (a0 :: a1 :: a2 :: a3 :: a4 :: a5 :: a6 :: a7 :: a8 :: a9 :: a10 :: a11 :: a12 :: a13 :: a14 :: a15 :: a16 :: l)[16]? = some a16 := rfl
theorem e_set16 {α : Type} {a0 a1 a2 a3 a4 a5 a6 a7 a8 a9 a10 a11 a12 a13 a14 a15 a16 z : α} {l : List α} : (a0 :: a1 :: a2 :: a3 :: a4 :: a5 :: a6 :: a7 :: a8 :: a9 :: a10 :: a11 :: a12 :: a13 :: a14 :: a15 :: a16 :: l).set 16 z = a0 :: a1 :: a2 :: a3 :: a4 :: a5 :: a6 :: a7 :: a8 :: a9 :: a10 :: a11 :: a12 :: a13 :: a14 :: a15 :: z :: l := rfl
theorem e_get17 {α : Type} {a0 a1 a2 a3 a4 a5 a6 a7 a8 a9 a10 a11 a12 a13 a14 a15 a16 a17 : α} {l : List α} : (a0 :: a1 :: a2 :: a3 :: a4 :: a5 :: a6 :: a7 :: a8 :: a9 :: a10 :: a11 :: a12 :: a13 :: a14 :: a15 :: a16 :: a17 :: l)[17]? = some a17 := rfl
theorem e_set17 {α : Type} {a0 a1 a2 a3 a4 a5 a6 a7 a8 a9 a10 a11 a12 a13 a14 a15 a16 a17 z : α} {l : List α} : (a0 :: a1 :: a2 :: a3 :: a4 :: a5 :: a6 :: a7 :: a8 :: a9 :: a10 :: a11 :: a12 :: a13 :: a14 :: a15 :: a16 :: a17 :: l).set 17 z = a0 :: a1 :: a2 :: a3 :: a4 :: a5 :: a6 :: a7 :: a8 :: a9 :: a10 :: a11 :: a12 :: a13 :: a14 :: a15 :: a16 :: z :: l := rfl
theorem e_get18 {α : Type} {a0 a1 a2 a3 a4 a5 a6 a7 a8 a9 a10 a11 a12 a13 a14 a15 a16 a17 a18 : α} {l : List α} : (a0 :: a1 :: a2 :: a3 :: a4 :: a5 :: a6 :: a7 :: a8 :: a9 :: a10 :: a11 :: a12 :: a13 :: a14 :: a15 :: a16 :: a17 :: a18 :: l)[18]? = some a18 := rfl
theorem e_set18 {α : Type} {a0 a1 a2 a3 a4 a5 a6 a7 a8 a9 a10 a11 a12 a13 a14 a15 a16 a17 a18 z : α} {l : List α} : (a0 :: a1 :: a2 :: a3 :: a4 :: a5 :: a6 :: a7 :: a8 :: a9 :: a10 :: a11 :: a12 :: a13 :: a14 :: a15 :: a16 :: a17 :: a18 :: l).set 18 z = a0 :: a1 :: a2 :: a3 :: a4 :: a5 :: a6 :: a7 :: a8 :: a9 :: a10 :: a11 :: a12 :: a13 :: a14 :: a15 :: a16 :: a17 :: z :: l := rfl
theorem e_get19 {α : Type} {a0 a1 a2 a3 a4 a5 a6 a7 a8 a9 a10 a11 a12 a13 a14 a15 a16 a17 a18 a19 : α} {l : List α} : (a0 :: a1 :: a2 :: a3 :: a4 :: a5 :: a6 :: a7 :: a8 :: a9 :: a10 :: a11 :: a12 :: a13 :: a14 :: a15 :: a16 :: a17 :: a18 :: a19 :: l)[19]? = some a19 := rfl
theorem e_set19 {α : Type} {a0 a1 a2 a3 a4 a5 a6 a7 a8 a9 a10 a11 a12 a13 a14 a15 a16 a17 a18 a19 z : α} {l : List α} : (a0 :: a1 :: a2 :: a3 :: a4 :: a5 :: a6 :: a7 :: a8 :: a9 :: a10 :: a11 :: a12 :: a13 :: a14 :: a15 :: a16 :: a17 :: a18 :: a19 :: l).set 19 z = a0 :: a1 :: a2 :: a3 :: a4 :: a5 :: a6 :: a7 :: a8 :: a9 :: a10 :: a11 :: a12 :: a13 :: a14 :: a15 :: a16 :: a17 :: a18 :: z :: l := rfl
theorem e_get20 {α : Type} {a0 a1 a2 a3 a4 a5 a6 a7 a8 a9 a10 a11 a12 a13 a14 a15 a16 a17 a18 a19 a20 : α} {l : List α} : (a0 :: a1 :: a2 :: a3 :: a4 :: a5 :: a6 :: a7 :: a8 :: a9 :: a10 :: a11 :: a12 :: a13 :: a14 :: a15 :: a16 :: a17 :: a18 :: a19 :: a20 :: l)[20]? = some a20 := rfl
theorem e_set20 {α : Type} {a0 a1 a2 a3 a4 a5 a6 a7 a8 a9 a10 a11 a12 a13 a14 a15 a16 a17 a18 a19 a20 z : α} {l : List α} : (a0 :: a1 :: a2 :: a3 :: a4 :: a5 :: a6 :: a7 :: a8 :: a9 :: a10 :: a11 :: a12 :: a13 :: a14 :: a15 :: a16 :: a17 :: a18 :: a19 :: a20 :: l).set 20 z = a0 :: a1 :: a2 :: a3 :: a4 :: a5 :: a6 :: a7 :: a8 :: a9 :: a10 :: a11 :: a12 :: a13 :: a14 :: a15 :: a16 :: a17 :: a18 :: a19 :: z :: l := rfl
theorem e_get21 {α : Type} {a0 a1 a2 a3 a4 a5 a6 a7 a8 a9 a10 a11 a12 a13 a14 a15 a16 a17 a18 a19 a20 a21 : α} {l : List α} : (a0 :: a1 :: a2 :: a3 :: a4 :: a5 :: a6 :: a7 :: a8 :: a9 :: a10 :: a11 :: a12 :: a13 :: a14 :: a15 :: a16 :: a17 :: a18 :: a19 :: a20 :: a21 :: l)[21]? = some a21 := rfl
theorem e_set21 {α : Type} {a0 a1 a2 a3 a4 a5 a6 a7 a8 a9 a10 a11 a12 a13 a14 a15 a16 a17 a18 a19 a20 a21 z : α} {l : List α} : (a0 :: a1 :: a2 :: a3 :: a4 :: a5 :: a6 :: a7 :: a8 :: a9 :: a10 :: a11 :: a12 :: a13 :: a14 :: a15 :: a16 :: a17 :: a18 :: a19 :: a20 :: a21 :: l).set 21 z = a0 :: a1 :: a2 :: a3 :: a4 :: a5 :: a6 :: a7 :: a8 :: a9 :: a10 :: a11 :: a12 :: a13 :: a14 :: a15 :: a16 :: a17 :: a18 :: a19 :: a20 :: z :: l := rfl
theorem e_get22 {α : Type} {a0 a1 a2 a3 a4 a5 a6 a7 a8 a9 a10 a11 a12 a13 a14 a15 a16 a17 a18 a19 a20 a21 a22 : α} {l : List α} : (a0 :: a1 :: a2 :: a3 :: a4 :: a5 :: a6 :: a7 :: a8 :: a9 :: a10 :: a11 :: a12 :: a13 :: a14 :: a15 :: a16 :: a17 :: a18 :: a19 :: a20 :: a21 :: a22 :: l)[22]? = some a22 := rfl
theorem e_set22 {α : Type} {a0 a1 a2 a3 a4 a5 a6 a7 a8 a9 a10 a11 a12 a13 a14 a15 a16 a17 a18 a19 a20 a21 a22 z : α} {l : List α} : (a0 :: a1 :: a2 :: a3 :: a4 :: a5 :: a6 :: a7 :: a8 :: a9 :: a10 :: a11 :: a12 :: a13 :: a14 :: a15 :: a16 :: a17 :: a18 :: a19 :: a20 :: a21 :: a22 :: l).set 22 z = a0 :: a1 :: a2 :: a3 :: a4 :: a5 :: a6 :: a7 :: a8 :: a9 :: a10 :: a11 :: a12 :: a13 :: a14 :: a15 :: a16 :: a17 :: a18 :: a19 :: a20 :: a21 :: z :: l := rfl
theorem e_get23 {α : Type} {a0 a1 a2 a3 a4 a5 a6 a7 a8 a9 a10 a11 a12 a13 a14 a15 a16 a17 a18 a19 a20 a21 a22 a23 : α} {l : List α} : (a0 :: a1 :: a2 :: a3 :: a4 :: a5 :: a6 :: a7 :: a8 :: a9 :: a10 :: a11 :: a12 :: a13 :: a14 :: a15 :: a16 :: a17 :: a18 :: a19 :: a20 :: a21 :: a22 :: a23 :: l)[23]? = some a23 := rfl
theorem e_set23 {α : Type} {a0 a1 a2 a3 a4 a5 a6 a7 a8 a9 a10 a11 a12 a13 a14 a15 a16 a17 a18 a19 a20 a21 a22 a23 z : α} {l : List α} : (a0 :: a1 :: a2 :: a3 :: a4 :: a5 :: a6 :: a7 :: a8 :: a9 :: a10 :: a11 :: a12 :: a13 :: a14 :: a15 :: a16 :: a17 :: a18 :: a19 :: a20 :: a21 :: a22 :: a23 :: l).set 23 z = a0 :: a1 :: a2 :: a3 :: a4 :: a5 :: a6 :: a7 :: a8 :: a9 :: a10 :: a11 :: a12 :: a13 :: a14 :: a15 :: a16 :: a17 :: a18 :: a19 :: a20 :: a21 :: a22 :: z :: l := rfl
theorem e_get24 {α : Type} {a0 a1 a2 a3 a4 a5 a6 a7 a8 a9 a10 a11 a12 a13 a14 a15 a16 a17 a18 a19 a20 a21 a22 a23 a24 : α} {l : List α} : (a0 :: a1 :: a2 :: a3 :: a4 :: a5 :: a6 :: a7 :: a8 :: a9 :: a10 :: a11 :: a12 :: a13 :: a14 :: a15 :: a16 :: a17 :: a18 :: a19 :: a20 :: a21 :: a22 :: a23 :: a24 :: l)[24]? = some a24 := rfl
theorem e_set24 {α : Type} {a0 a1 a2 a3 a4 a5 a6 a7 a8 a9 a10 a11 a12 a13 a14 a15 a16 a17 a18 a19 a20 a21 a22 a23 a24 z : α} {l : List α} : (a0 :: a1 :: a2 :: a3 :: a4 :: a5 :: a6 :: a7 :: a8 :: a9 :: a10 :: a11 :: a12 :: a13 :: a14 :: a15 :: a16 :: a17 :: a18 :: a19 :: a20 :: a21 :: a22 :: a23 :: a24 :: l).set 24 z = a0 :: a1 :: a2 :: a3 :: a4 :: a5 :: a6 :: a7 :: a8 :: a9 :: a10 :: a11 :: a12 :: a13 :: a14 :: a15 :: a16 :: a17 :: a18 :: a19 :: a20 :: a21 :: a22 :: a23 :: z :: l := rfl
theorem e_get25 {α : Type} {a0 a1 a2 a3 a4 a5 a6 a7 a8 a9 a10 a11 a12 a13 a14 a15 a16 a17 a18 a19 a20 a21 a22 a23 a24 a25 : α} {l : List α} : (a0 :: a1 :: a2 :: a3 :: a4 :: a5 :: a6 :: a7 :: a8 :: a9 :: a10 :: a11 :: a12 :: a13 :: a14 :: a15 :: a16 :: a17 :: a18 :: a19 :: a20 :: a21 :: a22 :: a23 :: a24 :: a25 :: l)[25]? = some a25 := rfl
theorem e_set25 {α : Type} {a0 a1 a2 a3 a4 a5 a6 a7 a8 a9 a10 a11 a12 a13 a14 a15 a16 a17 a18 a19 a20 a21 a22 a23 a24 a25 z : α} {l : List α} : (a0 :: a1 :: a2 :: a3 :: a4 :: a5 :: a6 :: a7 :: a8 :: a9 :: a10 :: a11 :: a12 :: a13 :: a14 :: a15 :: a16 :: a17 :: a18 :: a19 :: a20 :: a21 :: a22 :: a23 :: a24 :: a25 :: l).set 25 z = a0 :: a1 :: a2 :: a3 :: a4 :: a5 :: a6 :: a7 :: a8 :: a9 :: a10 :: a11 :: a12 :: a13 :: a14 :: a15 :: a16 :: a17 :: a18 :: a19 :: a20 :: a21 :: a22 :: a23 :: a24 :: z :: l := rfl
section
variable {x y : PD} {xs ys : List PD} {i j : Int} {l u : Option Int} {R : DV → Prop} {Pl : List PD → Prop} {a b : Str}
theorem e_zp : zpD [.d x, .d y] Pl = seqD (.d x) fun xs => seqD (.d y) fun ys => Pl (List.zipWith (fun a b => .tuple [a, b]) xs ys) := rfl
theorem e_slT : gSl (.d (.tuple xs)) l u R = R (.d (.tuple (cutL xs l u))) := rfl
theorem e_slL : gSl (.d (.list xs)) l u R = R (.d (.list (cutL xs l u))) := rfl
theorem e_max1 : bMax1 [.d x] R = ∃ ns, seqInts x = some ns ∧ ns ≠ [] ∧ ∀ m ∈ ns, (∀ y ∈ ns, y ≤ m) → R (.d (.int m)) := rfl
theorem e_min1 : bMin1 [.d x] R = ∃ ns, seqInts x = some ns ∧ ns ≠ [] ∧ ∀ m ∈ ns, (∀ y ∈ ns, m ≤ y) → R (.d (.int m)) := rfl
theorem e_addT : gAdd (.d (.tuple xs)) (.d (.tuple ys)) R = (xs.length + ys.length ≤ 100000 ∧ R (.d (.tuple (xs ++ ys)))) := rfl
theorem e_addL : gAdd (.d (.list xs)) (.d (.list ys)) R = (xs.length + ys.length ≤ 100000 ∧ R (.d (.list (xs ++ ys)))) := rfl
theorem e_addS : gAdd (.d (.str a)) (.d (.str b)) R = (a.length + b.length ≤ 100000 ∧ R (.d (.str (a ++ b)))) := rfl
theorem e_mulT : gMul (.d (.tuple xs)) (.d (.int i)) R = ((-100000 ≤ i ∧ i ≤ 100000) ∧ xs.length * i.toNat ≤ 100000 ∧ R (.d (.tuple (List.replicate i.toNat xs).flatten))) := rfl
theorem e_onIs : onI' (.d (.int i)) (fun z => R (.d (.int z))) = R (.d (.int i)) := rfl
theorem e_eqN : gEq (.d (.list xs)) (.d (.list [])) R = (Sh (.list xs) ∧ R (.d (.bool xs.isEmpty))) := by
  apply propext
  show (Sh _ ∧ Sh _ ∧ R (.d (.bool (PyData.eqv (.list xs) (.list []))))) ↔ _
  rw [eqv_nil]
  exact ⟨fun h => ⟨h.1, h.2.2⟩, fun h => ⟨h.1, rfl, h.2⟩⟩
theorem e_neN : gNe (.d (.list xs)) (.d (.list [])) R = (Sh (.list xs) ∧ R (.d (.bool (!xs.isEmpty)))) := by
  apply propext
  show (Sh _ ∧ Sh _ ∧ R (.d (.bool (!PyData.eqv (.list xs) (.list []))))) ↔ _
  rw [eqv_nil]
  exact ⟨fun h => ⟨h.1, h.2.2⟩, fun h => ⟨h.1, rfl, h.2⟩⟩
theorem e_eqNT : gEq (.d (.tuple xs)) (.d (.tuple [])) R = (Sh (.tuple xs) ∧ R (.d (.bool xs.isEmpty))) := by
  apply propext
  show (Sh _ ∧ Sh _ ∧ R (.d (.bool (PyData.eqv (.tuple xs) (.tuple []))))) ↔ _
  rw [eqv_nilT]
  exact ⟨fun h => ⟨h.1, h.2.2⟩, fun h => ⟨h.1, rfl, h.2⟩⟩
theorem e_neNT : gNe (.d (.tuple xs)) (.d (.tuple [])) R = (Sh (.tuple xs) ∧ R (.d (.bool (!xs.isEmpty)))) := by
  apply propext
  show (Sh _ ∧ Sh _ ∧ R (.d (.bool (!PyData.eqv (.tuple xs) (.tuple []))))) ↔ _
  rw [eqv_nilT]
  exact ⟨fun h => ⟨h.1, h.2.2⟩, fun h => ⟨h.1, rfl, h.2⟩⟩
theorem e_siL : seqInts (.list xs) = asInts xs := rfl
theorem e_siT : seqInts (.tuple xs) = asInts xs := rfl
end
section
variable {F : Fn} {gD : List DV → List DV → List DV} {ρ : List Sl} {R : DV → Prop} {E : EK}
theorem e_call0 : dCall F aNil ρ R E = F [] R E := rfl
theorem e_call1 {f0 : DE} : dCall F (aCons f0 aNil) ρ R E = f0 ρ (fun a0 => F [a0] R E) E := rfl
theorem e_callk1 {f0 : DE} : dCallK F gD aNil (aCons f0 aNil) ρ R E = f0 ρ (fun a0 => F (gD [] [a0]) R E) E := rfl
theorem e_call2 {f0 f1 : DE} : dCall F (aCons f0 (aCons f1 aNil)) ρ R E = f0 ρ (fun a0 => f1 ρ (fun a1 => F [a0, a1] R E) E) E := rfl
theorem e_callk2 {f0 f1 : DE} : dCallK F gD aNil (aCons f0 (aCons f1 aNil)) ρ R E = f0 ρ (fun a0 => f1 ρ (fun a1 => F (gD [] [a0, a1]) R E) E) E := rfl
theorem e_call3 {f0 f1 f2 : DE} : dCall F (aCons f0 (aCons f1 (aCons f2 aNil))) ρ R E = f0 ρ (fun a0 => f1 ρ (fun a1 => f2 ρ (fun a2 => F [a0, a1, a2] R E) E) E) E := rfl
theorem e_callk3 {f0 f1 f2 : DE} : dCallK F gD aNil (aCons f0 (aCons f1 (aCons f2 aNil))) ρ R E = f0 ρ (fun a0 => f1 ρ (fun a1 => f2 ρ (fun a2 => F (gD [] [a0, a1, a2]) R E) E) E) E := rfl
theorem e_call4 {f0 f1 f2 f3 : DE} : dCall F (aCons f0 (aCons f1 (aCons f2 (aCons f3 aNil)))) ρ R E = f0 ρ (fun a0 => f1 ρ (fun a1 => f2 ρ (fun a2 => f3 ρ (fun a3 => F [a0, a1, a2, a3] R E) E) E) E) E := rfl
theorem e_callk4 {f0 f1 f2 f3 : DE} : dCallK F gD aNil (aCons f0 (aCons f1 (aCons f2 (aCons f3 aNil)))) ρ R E = f0 ρ (fun a0 => f1 ρ (fun a1 => f2 ρ (fun a2 => f3 ρ (fun a3 => F (gD [] [a0, a1, a2, a3]) R E) E) E) E) E := rfl
theorem e_call5 {f0 f1 f2 f3 f4 : DE} : dCall F (aCons f0 (aCons f1 (aCons f2 (aCons f3 (aCons f4 aNil))))) ρ R E = f0 ρ (fun a0 => f1 ρ (fun a1 => f2 ρ (fun a2 => f3 ρ (fun a3 => f4 ρ (fun a4 => F [a0, a1, a2, a3, a4] R E) E) E) E) E) E := rfl
theorem e_callk5 {f0 f1 f2 f3 f4 : DE} : dCallK F gD aNil (aCons f0 (aCons f1 (aCons f2 (aCons f3 (aCons f4 aNil))))) ρ R E = f0 ρ (fun a0 => f1 ρ (fun a1 => f2 ρ (fun a2 => f3 ρ (fun a3 => f4 ρ (fun a4 => F (gD [] [a0, a1, a2, a3, a4]) R E) E) E) E) E) E := rfl
theorem e_call6 {f0 f1 f2 f3 f4 f5 : DE} : dCall F (aCons f0 (aCons f1 (aCons f2 (aCons f3 (aCons f4 (aCons f5 aNil)))))) ρ R E = f0 ρ (fun a0 => f1 ρ (fun a1 => f2 ρ (fun a2 => f3 ρ (fun a3 => f4 ρ (fun a4 => f5 ρ (fun a5 => F [a0, a1, a2, a3, a4, a5] R E) E) E) E) E) E) E := rfl
theorem e_callk6 {f0 f1 f2 f3 f4 f5 : DE} : dCallK F gD aNil (aCons f0 (aCons f1 (aCons f2 (aCons f3 (aCons f4 (aCons f5 aNil)))))) ρ R E = f0 ρ (fun a0 => f1 ρ (fun a1 => f2 ρ (fun a2 => f3 ρ (fun a3 => f4 ρ (fun a4 => f5 ρ (fun a5 => F (gD [] [a0, a1, a2, a3, a4, a5]) R E) E) E) E) E) E) E := rfl
theorem e_call7 {f0 f1 f2 f3 f4 f5 f6 : DE} : dCall F (aCons f0 (aCons f1 (aCons f2 (aCons f3 (aCons f4 (aCons f5 (aCons f6 aNil))))))) ρ R E = f0 ρ (fun a0 => f1 ρ (fun a1 => f2 ρ (fun a2 => f3 ρ (fun a3 => f4 ρ (fun a4 => f5 ρ (fun a5 => f6 ρ (fun a6 => F [a0, a1, a2, a3, a4, a5, a6] R E) E) E) E) E) E) E) E := rfl
theorem e_callk7 {f0 f1 f2 f3 f4 f5 f6 : DE} : dCallK F gD aNil (aCons f0 (aCons f1 (aCons f2 (aCons f3 (aCons f4 (aCons f5 (aCons f6 aNil))))))) ρ R E = f0 ρ (fun a0 => f1 ρ (fun a1 => f2 ρ (fun a2 => f3 ρ (fun a3 => f4 ρ (fun a4 => f5 ρ (fun a5 => f6 ρ (fun a6 => F (gD [] [a0, a1, a2, a3, a4, a5, a6]) R E) E) E) E) E) E) E) E := rfl
theorem e_call8 {f0 f1 f2 f3 f4 f5 f6 f7 : DE} : dCall F (aCons f0 (aCons f1 (aCons f2 (aCons f3 (aCons f4 (aCons f5 (aCons f6 (aCons f7 aNil)))))))) ρ R E = f0 ρ (fun a0 => f1 ρ (fun a1 => f2 ρ (fun a2 => f3 ρ (fun a3 => f4 ρ (fun a4 => f5 ρ (fun a5 => f6 ρ (fun a6 => f7 ρ (fun a7 => F [a0, a1, a2, a3, a4, a5, a6, a7] R E) E) E) E) E) E) E) E) E := rfl
theorem e_callk8 {f0 f1 f2 f3 f4 f5 f6 f7 : DE} : dCallK F gD aNil (aCons f0 (aCons f1 (aCons f2 (aCons f3 (aCons f4 (aCons f5 (aCons f6 (aCons f7 aNil)))))))) ρ R E = f0 ρ (fun a0 => f1 ρ (fun a1 => f2 ρ (fun a2 => f3 ρ (fun a3 => f4 ρ (fun a4 => f5 ρ (fun a5 => f6 ρ (fun a6 => f7 ρ (fun a7 => F (gD [] [a0, a1, a2, a3, a4, a5, a6, a7]) R E) E) E) E) E) E) E) E) E := rfl
theorem e_call9 {f0 f1 f2 f3 f4 f5 f6 f7 f8 : DE} : dCall F (aCons f0 (aCons f1 (aCons f2 (aCons f3 (aCons f4 (aCons f5 (aCons f6 (aCons f7 (aCons f8 aNil))))))))) ρ R E = f0 ρ (fun a0 => f1 ρ (fun a1 => f2 ρ (fun a2 => f3 ρ (fun a3 => f4 ρ (fun a4 => f5 ρ (fun a5 => f6 ρ (fun a6 => f7 ρ (fun a7 => f8 ρ (fun a8 => F [a0, a1, a2, a3, a4, a5, a6, a7, a8] R E) E) E) E) E) E) E) E) E) E := rfl
theorem e_callk9 {f0 f1 f2 f3 f4 f5 f6 f7 f8 : DE} : dCallK F gD aNil (aCons f0 (aCons f1 (aCons f2 (aCons f3 (aCons f4 (aCons f5 (aCons f6 (aCons f7 (aCons f8 aNil))))))))) ρ R E = f0 ρ (fun a0 => f1 ρ (fun a1 => f2 ρ (fun a2 => f3 ρ (fun a3 => f4 ρ (fun a4 => f5 ρ (fun a5 => f6 ρ (fun a6 => f7 ρ (fun a7 => f8 ρ (fun a8 => F (gD [] [a0, a1, a2, a3, a4, a5, a6, a7, a8]) R E) E) E) E) E) E) E) E) E) E := rfl
end
section
variable {nx : List Sl → Prop} {rt : List Sl → DV → Prop} {bk ct : List Sl → Prop} {ex : List Sl → EK}
theorem e_nx : DEnds.nx ⟨nx, rt, bk, ct, ex⟩ = nx := rfl
theorem e_rt : DEnds.rt ⟨nx, rt, bk, ct, ex⟩ = rt := rfl
theorem e_bk : DEnds.bk ⟨nx, rt, bk, ct, ex⟩ = bk := rfl
theorem e_ct : DEnds.ct ⟨nx, rt, bk, ct, ex⟩ = ct := rfl
theorem e_exc : DEnds.ex ⟨nx, rt, bk, ct, ex⟩ = ex := rfl
end
end Wb
namespace Law
open PySem PySem.Spec PyProof.Rows L2 Wb

abbrev subE : Nat → Nat → Bool := fun c d => decide ((if c < 5 then c else 0) = d)
def px_3210 {α : Type} (us ws : List α) : List α := match us, ws with
  | [], [a, b, c, d] => [d, c, b, a]
  | _, _ => []
def px_120 {α : Type} (us ws : List α) : List α := match us, ws with
  | [], [a, b, c] => [b, c, a]
  | _, _ => []
def px_210 {α : Type} (us ws : List α) : List α := match us, ws with
  | [], [a, b, c] => [c, b, a]
  | _, _ => []
def px_10 {α : Type} (us ws : List α) : List α := match us, ws with
  | [], [a, b] => [b, a]
  | _, _ => []
def g_is_integer : DS :=
  (gRet (dAnd (d1 (gIsi "int") (dOwn 0)) (dNot (d1 (gIsi "bool") (dOwn 0)))))
theorem x_is_integer : ∃ F : Fn, F = fnB 1 0 g_is_integer := ⟨_, rfl⟩
noncomputable def m_is_integer : Fn := Classical.choose x_is_integer
theorem q_is_integer : m_is_integer = fnB 1 0 g_is_integer := Classical.choose_spec x_is_integer
def g_is_tuple : DS :=
  (gRet (dAnd (d1 (gIsi "tuple") (dOwn 0)) (dAnd (d2 gGe (dBi bLen (aCons (dOwn 0) aNil)) (dOwn 1)) (dOr (d1 gIsN (dOwn 2)) (d2 gLe (dBi bLen (aCons (dOwn 0) aNil)) (dOwn 2))))))
theorem x_is_tuple : ∃ F : Fn, F = fnB 3 0 g_is_tuple := ⟨_, rfl⟩
noncomputable def m_is_tuple : Fn := Classical.choose x_is_tuple
theorem q_is_tuple : m_is_tuple = fnB 3 0 g_is_tuple := Classical.choose_spec x_is_tuple
def g_need_number : DS :=
  (gIfS (tOr' (tVal (d2 gLt (dOwn 0) (dOwn 1))) (tAnd' (tVal (d1 gNotN (dOwn 2))) (tVal (d2 gGt (dOwn 0) (dOwn 2))))) (gRaise 0 (dVar 0)) gNext)
theorem x_need_number : ∃ F : Fn, F = fnB 3 0 g_need_number := ⟨_, rfl⟩
noncomputable def m_need_number : Fn := Classical.choose x_need_number
theorem q_need_number : m_need_number = fnB 3 0 g_need_number := Classical.choose_spec x_need_number
def g_anew (G : Fn) : DS :=
  (gSeq (gIfS (tVal (d1 (gIsi "list") (dOwn 0))) (gRet (dN2 (nLc 100000 (iSeq (dVar 0)) (gNm 1) tTrue (dCall G (aCons (dVar 1) aNil)) [1]))) gNext)
  (gSeq (gIfS (tVal (d1 (gIsi "tuple") (dOwn 0))) (gRet (dBi bTuple (aCons (dN2 (nLc 100000 (iSeq (dVar 0)) (gNm 1) tTrue (dCall G (aCons (dVar 1) aNil)) [1])) aNil))) gNext)
  (gRet (dVar 0))))
def m_anew : Fn := anewFn 9
def g_is_prime_in : DS :=
  (gRet (dAnd (dCall m_is_integer (aCons (dVar 0) aNil)) (d2 gIn (dOwn 0) (dC (.tuple [(.int 0), (.int 2), (.int 3), (.int 5), (.int 7), (.int 11), (.int 13)])))))
theorem x_is_prime_in : ∃ F : Fn, F = fnB 1 0 g_is_prime_in := ⟨_, rfl⟩
noncomputable def m_is_prime_in : Fn := Classical.choose x_is_prime_in
theorem q_is_prime_in : m_is_prime_in = fnB 1 0 g_is_prime_in := Classical.choose_spec x_is_prime_in
def g_is_scalar_in : DS :=
  (gSeq (gIfS (tVal (d2 gGt (dOwn 0) (dC (.int 0)))) (gRet (dAnd (dCall m_is_integer (aCons (dVar 1) aNil)) (dChain gLe gLt (dC (.int 0)) (dOwn 1) (dOwn 0)))) gNext)
  (gSeq (gIfS (tOr' (tNot' (tVal (dCall m_is_tuple (aCons (dVar 1) (aCons (dC (.int 2)) (aCons (dC (.int 2)) aNil)))))) (tOr' (tNot' (tVal (dCall m_is_integer (aCons (d2 gIx (dOwn 1) (dC (.int 0))) aNil)))) (tNot' (tVal (dCall m_is_integer (aCons (d2 gIx (dOwn 1) (dC (.int 1))) aNil)))))) (gRet (dC (.bool false))) gNext)
  (gRet (dAnd (d2 gGe (d2 gIx (dOwn 1) (dC (.int 1))) (dC (.int 1))) (d2 gEq (dBi bGcd (aCons (d2 gIx (dOwn 1) (dC (.int 0))) (aCons (d2 gIx (dOwn 1) (dC (.int 1))) aNil))) (dC (.int 1)))))))
theorem x_is_scalar_in : ∃ F : Fn, F = fnB 2 0 g_is_scalar_in := ⟨_, rfl⟩
noncomputable def m_is_scalar_in : Fn := Classical.choose x_is_scalar_in
theorem q_is_scalar_in : m_is_scalar_in = fnB 2 0 g_is_scalar_in := Classical.choose_spec x_is_scalar_in
def g_fraction_in : DS :=
  (gSeq (gSet 2 (dBi bGcd (aCons (dOwn 0) (aCons (dOwn 1) aNil))))
  (gSeq (gIfS (tVal (d2 gLt (dOwn 1) (dC (.int 0)))) (gSet 2 (d1 gNeg (dOwn 2))) gNext)
  (gRet (dTup (aCons (d2 gFdiv (dOwn 0) (dOwn 2)) (aCons (d2 gFdiv (dOwn 1) (dOwn 2)) aNil))))))
theorem x_fraction_in : ∃ F : Fn, F = fnB 2 1 g_fraction_in := ⟨_, rfl⟩
noncomputable def m_fraction_in : Fn := Classical.choose x_fraction_in
theorem q_fraction_in : m_fraction_in = fnB 2 1 g_fraction_in := Classical.choose_spec x_fraction_in
def g_scalar_in : DS :=
  (gRet (dIf (tVal (d2 gEq (dOwn 0) (dC (.int 0)))) (dTup (aCons (dVar 1) (aCons (dC (.int 1)) aNil))) (d2 gMod (dOwn 1) (dOwn 0))))
theorem x_scalar_in : ∃ F : Fn, F = fnB 2 0 g_scalar_in := ⟨_, rfl⟩
noncomputable def m_scalar_in : Fn := Classical.choose x_scalar_in
theorem q_scalar_in : m_scalar_in = fnB 2 0 g_scalar_in := Classical.choose_spec x_scalar_in
def g_plus_in : DS :=
  (gSeq (gIfS (tVal (d2 gGt (dOwn 0) (dC (.int 0)))) (gRet (d2 gMod (d2 gAdd (dOwn 1) (dOwn 2)) (dOwn 0))) gNext)
  (gRet (dCall m_fraction_in (aCons (d2 gAdd (d2 gMul (d2 gIx (dOwn 1) (dC (.int 0))) (d2 gIx (dOwn 2) (dC (.int 1)))) (d2 gMul (d2 gIx (dOwn 2) (dC (.int 0))) (d2 gIx (dOwn 1) (dC (.int 1))))) (aCons (d2 gMul (d2 gIx (dOwn 1) (dC (.int 1))) (d2 gIx (dOwn 2) (dC (.int 1)))) aNil)))))
theorem x_plus_in : ∃ F : Fn, F = fnB 3 0 g_plus_in := ⟨_, rfl⟩
noncomputable def m_plus_in : Fn := Classical.choose x_plus_in
theorem q_plus_in : m_plus_in = fnB 3 0 g_plus_in := Classical.choose_spec x_plus_in
def g_times_in : DS :=
  (gSeq (gIfS (tVal (d2 gGt (dOwn 0) (dC (.int 0)))) (gRet (d2 gMod (d2 gMul (dOwn 1) (dOwn 2)) (dOwn 0))) gNext)
  (gRet (dCall m_fraction_in (aCons (d2 gMul (d2 gIx (dOwn 1) (dC (.int 0))) (d2 gIx (dOwn 2) (dC (.int 0)))) (aCons (d2 gMul (d2 gIx (dOwn 1) (dC (.int 1))) (d2 gIx (dOwn 2) (dC (.int 1)))) aNil)))))
theorem x_times_in : ∃ F : Fn, F = fnB 3 0 g_times_in := ⟨_, rfl⟩
noncomputable def m_times_in : Fn := Classical.choose x_times_in
theorem q_times_in : m_times_in = fnB 3 0 g_times_in := Classical.choose_spec x_times_in
def g_dot_in_b0 : DS :=
  (gIfS (tAnd' (tVal (d2 gNe (d2 gIx (dOwn 5) (dC (.int 0))) (dC (.int 0)))) (tVal (d2 gNe (d2 gIx (dOwn 6) (dC (.int 0))) (dC (.int 0))))) (gAsg (dCall m_fraction_in (aCons (d2 gAdd (d2 gMul (d2 gMul (dOwn 3) (d2 gIx (dOwn 5) (dC (.int 1)))) (d2 gIx (dOwn 6) (dC (.int 1)))) (d2 gMul (d2 gMul (d2 gIx (dOwn 5) (dC (.int 0))) (d2 gIx (dOwn 6) (dC (.int 0)))) (dOwn 4))) (aCons (d2 gMul (d2 gMul (dOwn 4) (d2 gIx (dOwn 5) (dC (.int 1)))) (d2 gIx (dOwn 6) (dC (.int 1)))) aNil))) (gTp (gsCons (gNm 3) (gsCons (gNm 4) gsNil)))) gNext)
def g_dot_in : DS :=
  (gSeq (gIfS (tVal (d2 gGt (dOwn 0) (dC (.int 0)))) (gRet (d2 gMod (dBi bSum (aCons (dN2 (nLc 100000 (iZp (aCons (dVar 1) (aCons (dVar 2) aNil))) (gTp (gsCons (gNm 5) (gsCons (gNm 6) gsNil))) tTrue (d2 gMul (dOwn 5) (dOwn 6)) [5, 6])) aNil)) (dOwn 0))) gNext)
  (gSeq (gAsg (dTup (aCons (dC (.int 0)) (aCons (dC (.int 1)) aNil))) (gTp (gsCons (gNm 3) (gsCons (gNm 4) gsNil))))
  (gSeq (gFor 100000 (iZp (aCons (dVar 1) (aCons (dVar 2) aNil))) (gTp (gsCons (gNm 5) (gsCons (gNm 6) gsNil))) g_dot_in_b0)
  (gRet (dTup (aCons (dVar 3) (aCons (dVar 4) aNil)))))))
theorem x_dot_in : ∃ F : Fn, F = fnB 3 4 g_dot_in := ⟨_, rfl⟩
noncomputable def m_dot_in : Fn := Classical.choose x_dot_in
theorem q_dot_in : m_dot_in = fnB 3 4 g_dot_in := Classical.choose_spec x_dot_in
def g_multiple_in : DS :=
  (gRet (dN2 (nLc 100000 (iSeq (dVar 2)) (gNm 3) tTrue (dCall m_times_in (aCons (dVar 0) (aCons (dVar 1) (aCons (dVar 3) aNil)))) [3])))
theorem x_multiple_in : ∃ F : Fn, F = fnB 3 1 g_multiple_in := ⟨_, rfl⟩
noncomputable def m_multiple_in : Fn := Classical.choose x_multiple_in
theorem q_multiple_in : m_multiple_in = fnB 3 1 g_multiple_in := Classical.choose_spec x_multiple_in
def g_need_prime : DS :=
  (gIfS (tNot' (tVal (dCall m_is_prime_in (aCons (dVar 0) aNil)))) (gRaise 1 (dCall m_anew (aCons (dVar 0) aNil))) gNext)
theorem x_need_prime : ∃ F : Fn, F = fnB 1 0 g_need_prime := ⟨_, rfl⟩
noncomputable def m_need_prime : Fn := Classical.choose x_need_prime
theorem q_need_prime : m_need_prime = fnB 1 0 g_need_prime := Classical.choose_spec x_need_prime
def g_need_scalar : DS :=
  (gIfS (tNot' (tVal (dCall m_is_scalar_in (aCons (dVar 0) (aCons (dVar 1) aNil))))) (gRaise 2 (dCall m_anew (aCons (dVar 1) aNil))) gNext)
theorem x_need_scalar : ∃ F : Fn, F = fnB 2 0 g_need_scalar := ⟨_, rfl⟩
noncomputable def m_need_scalar : Fn := Classical.choose x_need_scalar
theorem q_need_scalar : m_need_scalar = fnB 2 0 g_need_scalar := Classical.choose_spec x_need_scalar
def g_is_vector_in : DS :=
  (gRet (dAnd (dCall m_is_tuple (aCons (dVar 2) (aCons (dVar 1) (aCons (dVar 1) aNil)))) (dBi bAll (aCons (dN2 (nLc 100000 (iSeq (dVar 2)) (gNm 3) tTrue (dCall m_is_scalar_in (aCons (dVar 0) (aCons (dVar 3) aNil))) [3])) aNil))))
theorem x_is_vector_in : ∃ F : Fn, F = fnB 3 1 g_is_vector_in := ⟨_, rfl⟩
noncomputable def m_is_vector_in : Fn := Classical.choose x_is_vector_in
theorem q_is_vector_in : m_is_vector_in = fnB 3 1 g_is_vector_in := Classical.choose_spec x_is_vector_in
def g_is_table_in : DS :=
  (gRet (dAnd (dCall m_is_tuple (aCons (dVar 3) (aCons (dVar 1) (aCons (dVar 1) aNil)))) (dBi bAll (aCons (dN2 (nLc 100000 (iSeq (dVar 3)) (gNm 4) tTrue (dCall m_is_vector_in (aCons (dVar 0) (aCons (dVar 2) (aCons (dVar 4) aNil)))) [4])) aNil))))
theorem x_is_table_in : ∃ F : Fn, F = fnB 4 1 g_is_table_in := ⟨_, rfl⟩
noncomputable def m_is_table_in : Fn := Classical.choose x_is_table_in
theorem q_is_table_in : m_is_table_in = fnB 4 1 g_is_table_in := Classical.choose_spec x_is_table_in
def g_is_some_table : DS :=
  (gSeq (gIfS (tOr' (tNot' (tVal (dCall m_is_tuple (aCons (dVar 1) (aCons (dC (.int 0)) (aCons (dC .none) aNil)))))) (tNot' (tVal (dBi bAll (aCons (dN2 (nLc 100000 (iSeq (dVar 1)) (gNm 2) tTrue (dCall m_is_tuple (aCons (dVar 2) (aCons (dC (.int 0)) (aCons (dC .none) aNil)))) [2])) aNil))))) (gRet (dC (.bool false))) gNext)
  (gRet (dOr (d2 gEq (dOwn 1) (dTup aNil)) (dCall m_is_table_in (aCons (dVar 0) (aCons (dBi bLen (aCons (dOwn 1) aNil)) (aCons (dBi bLen (aCons (d2 gIx (dOwn 1) (dC (.int 0))) aNil)) (aCons (dVar 1) aNil))))))))
theorem x_is_some_table : ∃ F : Fn, F = fnB 2 1 g_is_some_table := ⟨_, rfl⟩
noncomputable def m_is_some_table : Fn := Classical.choose x_is_some_table
theorem q_is_some_table : m_is_some_table = fnB 2 1 g_is_some_table := Classical.choose_spec x_is_some_table
def g_zeros_in : DS :=
  (gRet (d2 gMul (dTup (aCons (d2 gMul (dTup (aCons (dCall m_scalar_in (aCons (dVar 0) (aCons (dC (.int 0)) aNil))) aNil)) (dOwn 2)) aNil)) (dOwn 1)))
theorem x_zeros_in : ∃ F : Fn, F = fnB 3 0 g_zeros_in := ⟨_, rfl⟩
noncomputable def m_zeros_in : Fn := Classical.choose x_zeros_in
theorem q_zeros_in : m_zeros_in = fnB 3 0 g_zeros_in := Classical.choose_spec x_zeros_in
def g_units_in : DS :=
  (gRet (dBi bTuple (aCons (dN2 (nLc 100000 (iRg rg1 (aCons (dOwn 1) aNil)) (gNm 3) tTrue (dBi bTuple (aCons (dN2 (nLc 100000 (iRg rg1 (aCons (dOwn 1) aNil)) (gNm 2) tTrue (dCall m_scalar_in (aCons (dVar 0) (aCons (dBi bInt (aCons (d2 gEq (dOwn 3) (dOwn 2)) aNil)) aNil))) [2])) aNil)) [3])) aNil)))
theorem x_units_in : ∃ F : Fn, F = fnB 2 2 g_units_in := ⟨_, rfl⟩
noncomputable def m_units_in : Fn := Classical.choose x_units_in
theorem q_units_in : m_units_in = fnB 2 2 g_units_in := Classical.choose_spec x_units_in
def g_table_sum_in : DS :=
  (gRet (dBi bTuple (aCons (dN2 (nLc 100000 (iZp (aCons (dVar 1) (aCons (dVar 2) aNil))) (gTp (gsCons (gNm 5) (gsCons (gNm 6) gsNil))) tTrue (dBi bTuple (aCons (dN2 (nLc 100000 (iZp (aCons (dVar 5) (aCons (dVar 6) aNil))) (gTp (gsCons (gNm 3) (gsCons (gNm 4) gsNil))) tTrue (dCall m_plus_in (aCons (dVar 0) (aCons (dVar 3) (aCons (dVar 4) aNil)))) [3, 4])) aNil)) [5, 6])) aNil)))
theorem x_table_sum_in : ∃ F : Fn, F = fnB 3 4 g_table_sum_in := ⟨_, rfl⟩
noncomputable def m_table_sum_in : Fn := Classical.choose x_table_sum_in
theorem q_table_sum_in : m_table_sum_in = fnB 3 4 g_table_sum_in := Classical.choose_spec x_table_sum_in
def g_scaled_in : DS :=
  (gRet (dBi bTuple (aCons (dN2 (nLc 100000 (iSeq (dVar 2)) (gNm 3) tTrue (dBi bTuple (aCons (dCall m_multiple_in (aCons (dVar 0) (aCons (dVar 1) (aCons (dVar 3) aNil)))) aNil)) [3])) aNil)))
theorem x_scaled_in : ∃ F : Fn, F = fnB 3 1 g_scaled_in := ⟨_, rfl⟩
noncomputable def m_scaled_in : Fn := Classical.choose x_scaled_in
theorem q_scaled_in : m_scaled_in = fnB 3 1 g_scaled_in := Classical.choose_spec x_scaled_in
def g_transposed_in : DS :=
  (gRet (dBi bTuple (aCons (dN2 (nLc 100000 (iRg rg1 (aCons (dOwn 1) aNil)) (gNm 3) tTrue (dBi bTuple (aCons (dN2 (nLc 100000 (iSeq (dVar 0)) (gNm 2) tTrue (d2 gIx (dOwn 2) (dOwn 3)) [2])) aNil)) [3])) aNil)))
theorem x_transposed_in : ∃ F : Fn, F = fnB 2 2 g_transposed_in := ⟨_, rfl⟩
noncomputable def m_transposed_in : Fn := Classical.choose x_transposed_in
theorem q_transposed_in : m_transposed_in = fnB 2 2 g_transposed_in := Classical.choose_spec x_transposed_in
def g_product_in : DS :=
  (gSeq (gSet 4 (dCall m_transposed_in (aCons (dVar 2) (aCons (dVar 3) aNil))))
  (gRet (dBi bTuple (aCons (dN2 (nLc 100000 (iSeq (dVar 1)) (gNm 6) tTrue (dBi bTuple (aCons (dN2 (nLc 100000 (iSeq (dVar 4)) (gNm 5) tTrue (dCall m_dot_in (aCons (dVar 0) (aCons (dVar 6) (aCons (dVar 5) aNil)))) [5])) aNil)) [6])) aNil))))
theorem x_product_in : ∃ F : Fn, F = fnB 4 3 g_product_in := ⟨_, rfl⟩
noncomputable def m_product_in : Fn := Classical.choose x_product_in
theorem q_product_in : m_product_in = fnB 4 3 g_product_in := Classical.choose_spec x_product_in
def g_need_table : DS :=
  (gSeq (gDrop (dCall m_need_prime (aCons (dVar 0) aNil)))
  (gIfS (tNot' (tVal (dCall m_is_some_table (aCons (dVar 0) (aCons (dVar 1) aNil))))) (gRaise 3 (dCall m_anew (aCons (dVar 1) aNil))) gNext))
theorem x_need_table : ∃ F : Fn, F = fnB 2 0 g_need_table := ⟨_, rfl⟩
noncomputable def m_need_table : Fn := Classical.choose x_need_table
theorem q_need_table : m_need_table = fnB 2 0 g_need_table := Classical.choose_spec x_need_table
def g_need_columns : DS :=
  (gSeq (gDrop (dCall m_need_table (aCons (dVar 0) (aCons (dVar 1) aNil))))
  (gIfS (tOr' (tVal (d2 gLt (dOwn 2) (dC (.int 0)))) (tAnd' (tVal (d2 gNe (dOwn 1) (dTup aNil))) (tVal (d2 gNe (dOwn 2) (dBi bLen (aCons (d2 gIx (dOwn 1) (dC (.int 0))) aNil)))))) (gRaise 0 (dVar 2)) gNext))
theorem x_need_columns : ∃ F : Fn, F = fnB 3 0 g_need_columns := ⟨_, rfl⟩
noncomputable def m_need_columns : Fn := Classical.choose x_need_columns
theorem q_need_columns : m_need_columns = fnB 3 0 g_need_columns := Classical.choose_spec x_need_columns
def g_is_table : DS :=
  (gSeq (gDrop (dCall m_need_prime (aCons (dVar 0) aNil)))
  (gSeq (gDrop (dCall m_need_number (aCons (dVar 1) (aCons (dC (.int 0)) (aCons (dC .none) aNil)))))
  (gSeq (gDrop (dCall m_need_number (aCons (dVar 2) (aCons (dC (.int 0)) (aCons (dC .none) aNil)))))
  (gRet (dCall m_is_table_in (aCons (dVar 0) (aCons (dVar 1) (aCons (dVar 2) (aCons (dVar 3) aNil)))))))))
theorem x_is_table : ∃ F : Fn, F = fnB 4 0 g_is_table := ⟨_, rfl⟩
noncomputable def m_is_table : Fn := Classical.choose x_is_table
theorem q_is_table : m_is_table = fnB 4 0 g_is_table := Classical.choose_spec x_is_table
def g_zeros : DS :=
  (gSeq (gDrop (dCall m_need_prime (aCons (dVar 0) aNil)))
  (gSeq (gDrop (dCall m_need_number (aCons (dVar 1) (aCons (dC (.int 0)) (aCons (dC .none) aNil)))))
  (gSeq (gDrop (dCall m_need_number (aCons (dVar 2) (aCons (dC (.int 0)) (aCons (dC .none) aNil)))))
  (gRet (dCall m_zeros_in (aCons (dVar 0) (aCons (dVar 1) (aCons (dVar 2) aNil))))))))
theorem x_zeros : ∃ F : Fn, F = fnB 3 0 g_zeros := ⟨_, rfl⟩
noncomputable def m_zeros : Fn := Classical.choose x_zeros
theorem q_zeros : m_zeros = fnB 3 0 g_zeros := Classical.choose_spec x_zeros
def g_units : DS :=
  (gSeq (gDrop (dCall m_need_prime (aCons (dVar 0) aNil)))
  (gSeq (gDrop (dCall m_need_number (aCons (dVar 1) (aCons (dC (.int 0)) (aCons (dC .none) aNil)))))
  (gRet (dCall m_units_in (aCons (dVar 0) (aCons (dVar 1) aNil))))))
theorem x_units : ∃ F : Fn, F = fnB 2 0 g_units := ⟨_, rfl⟩
noncomputable def m_units : Fn := Classical.choose x_units
theorem q_units : m_units = fnB 2 0 g_units := Classical.choose_spec x_units
def g_table_sum : DS :=
  (gSeq (gDrop (dCall m_need_table (aCons (dVar 0) (aCons (dVar 1) aNil))))
  (gSeq (gDrop (dCall m_need_table (aCons (dVar 0) (aCons (dVar 2) aNil))))
  (gSeq (gIfS (tVal (d2 gNe (dN2 (nLc 100000 (iSeq (dVar 1)) (gNm 3) tTrue (dBi bLen (aCons (dOwn 3) aNil)) [3])) (dN2 (nLc 100000 (iSeq (dVar 2)) (gNm 3) tTrue (dBi bLen (aCons (dOwn 3) aNil)) [3])))) (gRaise 4 (dCall m_anew (aCons (dVar 2) aNil))) gNext)
  (gRet (dCall m_table_sum_in (aCons (dVar 0) (aCons (dVar 1) (aCons (dVar 2) aNil))))))))
theorem x_table_sum : ∃ F : Fn, F = fnB 3 1 g_table_sum := ⟨_, rfl⟩
noncomputable def m_table_sum : Fn := Classical.choose x_table_sum
theorem q_table_sum : m_table_sum = fnB 3 1 g_table_sum := Classical.choose_spec x_table_sum
def g_scaled : DS :=
  (gSeq (gDrop (dCall m_need_prime (aCons (dVar 0) aNil)))
  (gSeq (gDrop (dCall m_need_scalar (aCons (dVar 0) (aCons (dVar 1) aNil))))
  (gSeq (gDrop (dCall m_need_table (aCons (dVar 0) (aCons (dVar 2) aNil))))
  (gRet (dCall m_scaled_in (aCons (dVar 0) (aCons (dVar 1) (aCons (dVar 2) aNil))))))))
theorem x_scaled : ∃ F : Fn, F = fnB 3 0 g_scaled := ⟨_, rfl⟩
noncomputable def m_scaled : Fn := Classical.choose x_scaled
theorem q_scaled : m_scaled = fnB 3 0 g_scaled := Classical.choose_spec x_scaled
def g_product : DS :=
  (gSeq (gDrop (dCall m_need_table (aCons (dVar 0) (aCons (dVar 1) aNil))))
  (gSeq (gDrop (dCall m_need_table (aCons (dVar 0) (aCons (dVar 2) aNil))))
  (gSeq (gIfS (tAnd' (tVal (d2 gNe (dOwn 1) (dTup aNil))) (tVal (d2 gNe (dBi bLen (aCons (d2 gIx (dOwn 1) (dC (.int 0))) aNil)) (dBi bLen (aCons (dOwn 2) aNil))))) (gRaise 4 (dCall m_anew (aCons (dVar 2) aNil))) gNext)
  (gSeq (gDrop (dCall m_need_columns (aCons (dVar 0) (aCons (dVar 2) (aCons (dVar 3) aNil)))))
  (gRet (dCall m_product_in (aCons (dVar 0) (aCons (dVar 1) (aCons (dVar 2) (aCons (dVar 3) aNil))))))))))
theorem x_product : ∃ F : Fn, F = fnB 4 0 g_product := ⟨_, rfl⟩
noncomputable def m_product : Fn := Classical.choose x_product
theorem q_product : m_product = fnB 4 0 g_product := Classical.choose_spec x_product
def g_transposed : DS :=
  (gSeq (gDrop (dCall m_need_columns (aCons (dVar 0) (aCons (dVar 1) (aCons (dVar 2) aNil)))))
  (gRet (dCall m_transposed_in (aCons (dVar 1) (aCons (dVar 2) aNil)))))
theorem x_transposed : ∃ F : Fn, F = fnB 3 0 g_transposed := ⟨_, rfl⟩
noncomputable def m_transposed : Fn := Classical.choose x_transposed
theorem q_transposed : m_transposed = fnB 3 0 g_transposed := Classical.choose_spec x_transposed
def g__law_well : List Sl → (List PD → Prop) → Prop :=
  (zSeq (gSet 2 (dIf (tVal (d2 gLt (dOwn 1) (dBi bLen (aCons (dOwn 0) aNil)))) (dBi bInt (aCons (d2 gIx (dOwn 0) (dOwn 1)) aNil)) (d2 gAdd (d2 gMul (dC (.int 79)) (dOwn 1)) (dC (.int 47)))))
  (zSeq (gSet 3 (d2 gAdd (dC (.int 61)) (dBi bLen (aCons (dOwn 0) aNil))))
  (zSeq (gFor 100000 (iSeq (dVar 0)) (gNm 4) (gSet 3 (d2 gMod (dBi bInt (aCons (d2 gAdd (d2 gMul (dOwn 3) (dC (.int 5323))) (d2 gMod (dBi bInt (aCons (dOwn 4) aNil)) (d2 gAdd (d2 gPow (dC (.int 10)) (dC (.int 19))) (dC (.int 51))))) aNil)) (d2 gAdd (d2 gPow (dC (.int 10)) (dC (.int 25))) (dC (.int 13))))))
  (zSeq (gSet 5 (d2 gMod (dBi bInt (aCons (d2 gAdd (d2 gAdd (d2 gAdd (d2 gMul (dBi bAbs (aCons (dOwn 2) aNil)) (dC (.int 15))) (d2 gMul (dOwn 3) (dC (.int 35)))) (d2 gMul (dC (.int 3)) (dBi bInt (aCons (d2 gLt (dOwn 2) (dC (.int 0))) aNil)))) (d2 gMul (dC (.int 61)) (dOwn 1))) aNil)) (d2 gAdd (d2 gPow (dC (.int 10)) (dC (.int 28))) (dC (.int 331)))))
  (zRet (nLst (aCons (dBi bMax2 (aCons (dC (.int 0)) (aCons (d2 gSub (dBi bAbs (aCons (dOwn 2) aNil)) (d2 gPow (dC (.int 10)) (dC (.int 18)))) aNil))) (aCons (dVar 5) (aCons (dC (.int 0)) aNil)))))))))
def g__law_draw : DS :=
  (gSeq (gIfS (tVal (d2 gGt (d2 gIx (dOwn 0) (dC (.int 0))) (dC (.int 0)))) (gSeq (gSet 2 (d2 gMod (dBi bInt (aCons (d2 gIx (dOwn 0) (dC (.int 0))) aNil)) (dOwn 1)))
  (gSeq (gSetIx 0 (dC (.int 0)) (d2 gFdiv (d2 gIx (dOwn 0) (dC (.int 0))) (dOwn 1)))
  (gRet (dVar 2)))) gNext)
  (gSeq (gSetIx 0 (dC (.int 2)) (d2 gAdd (d2 gIx (dOwn 0) (dC (.int 2))) (dC (.int 1))))
  (gSeq (gSet 3 (d2 gIx (dOwn 0) (dC (.int 2))))
  (gSeq (gSet 4 (d2 gMod (dBi bInt (aCons (d2 gAdd (d2 gAdd (d2 gMul (d2 gMul (d2 gAdd (d2 gIx (dOwn 0) (dC (.int 1))) (dC (.int 31))) (d2 gAdd (dOwn 3) (dC (.int 5)))) (dC (.int 998244353))) (d2 gMul (d2 gMul (d2 gMul (dOwn 3) (dOwn 3)) (dOwn 3)) (dC (.int 424242427)))) (dC (.int 77))) aNil)) (d2 gAdd (d2 gPow (dC (.int 10)) (dC (.int 29))) (dC (.int 319)))))
  (gSeq (gSet 4 (d2 gMod (dBi bInt (aCons (d2 gAdd (d2 gAdd (d2 gMul (dOwn 4) (dOwn 4)) (d2 gMul (d2 gIx (dOwn 0) (dC (.int 1))) (dC (.int 7)))) (dOwn 3)) aNil)) (d2 gAdd (d2 gPow (dC (.int 10)) (dC (.int 31))) (dC (.int 33)))))
  (gSeq (gSet 4 (d2 gMod (dBi bInt (aCons (d2 gAdd (d2 gMul (d2 gMul (dOwn 4) (dOwn 4)) (dC (.int 3))) (d2 gMul (dOwn 4) (dC (.int 11)))) aNil)) (d2 gAdd (d2 gPow (dC (.int 10)) (dC (.int 33))) (dC (.int 603)))))
  (gRet (d2 gMod (dBi bInt (aCons (d2 gFdiv (dOwn 4) (dC (.int 50021))) aNil)) (dOwn 1)))))))))
def m__law_draw : Fn := drawFn
def g__law_cut_b0 : DS :=
  (gPar 2 3 (aCons (dVar 3) (aCons (d2 gMod (dBi bInt (aCons (dOwn 2) aNil)) (dOwn 3)) aNil)))
def g__law_cut : DS :=
  (gSeq (gPar 2 3 (aCons (dBi bAbs (aCons (dOwn 0) aNil)) (aCons (dBi bAbs (aCons (dOwn 1) aNil)) aNil)))
  (gSeq (gWhile (tVal (d2 gGt (dOwn 3) (dC (.int 0)))) g__law_cut_b0)
  (gSeq (gSet 4 (dIf (tVal (d2 gLt (dOwn 1) (dC (.int 0)))) (d1 gNeg (dC (.int 1))) (dC (.int 1))))
  (gRet (dTup (aCons (d2 gFdiv (d2 gMul (dOwn 4) (dOwn 0)) (dOwn 2)) (aCons (d2 gFdiv (d2 gMul (dOwn 4) (dOwn 1)) (dOwn 2)) aNil)))))))
theorem x__law_cut : ∃ F : Fn, F = fnB 2 3 g__law_cut := ⟨_, rfl⟩
noncomputable def m__law_cut : Fn := Classical.choose x__law_cut
theorem q__law_cut : m__law_cut = fnB 2 3 g__law_cut := Classical.choose_spec x__law_cut
def g__law_num : DS :=
  (gRet (dIf (tVal (d2 gEq (dOwn 0) (dC (.int 0)))) (dTup (aCons (dVar 1) (aCons (dC (.int 1)) aNil))) (d2 gMod (dBi bInt (aCons (dOwn 1) aNil)) (dOwn 0))))
theorem x__law_num : ∃ F : Fn, F = fnB 2 0 g__law_num := ⟨_, rfl⟩
noncomputable def m__law_num : Fn := Classical.choose x__law_num
theorem q__law_num : m__law_num = fnB 2 0 g__law_num := Classical.choose_spec x__law_num
def g__law_plus : DS :=
  (gRet (dIf (tVal (d2 gGt (dOwn 0) (dC (.int 0)))) (d2 gMod (dBi bInt (aCons (d2 gAdd (dOwn 1) (dOwn 2)) aNil)) (dOwn 0)) (dCall m__law_cut (aCons (d2 gAdd (d2 gMul (d2 gIx (dOwn 1) (dC (.int 0))) (d2 gIx (dOwn 2) (dC (.int 1)))) (d2 gMul (d2 gIx (dOwn 2) (dC (.int 0))) (d2 gIx (dOwn 1) (dC (.int 1))))) (aCons (d2 gMul (d2 gIx (dOwn 1) (dC (.int 1))) (d2 gIx (dOwn 2) (dC (.int 1)))) aNil)))))
theorem x__law_plus : ∃ F : Fn, F = fnB 3 0 g__law_plus := ⟨_, rfl⟩
noncomputable def m__law_plus : Fn := Classical.choose x__law_plus
theorem q__law_plus : m__law_plus = fnB 3 0 g__law_plus := Classical.choose_spec x__law_plus
def g__law_times : DS :=
  (gRet (dIf (tVal (d2 gGt (dOwn 0) (dC (.int 0)))) (d2 gMod (dBi bInt (aCons (d2 gMul (dOwn 1) (dOwn 2)) aNil)) (dOwn 0)) (dCall m__law_cut (aCons (d2 gMul (d2 gIx (dOwn 1) (dC (.int 0))) (d2 gIx (dOwn 2) (dC (.int 0)))) (aCons (d2 gMul (d2 gIx (dOwn 1) (dC (.int 1))) (d2 gIx (dOwn 2) (dC (.int 1)))) aNil)))))
theorem x__law_times : ∃ F : Fn, F = fnB 3 0 g__law_times := ⟨_, rfl⟩
noncomputable def m__law_times : Fn := Classical.choose x__law_times
theorem q__law_times : m__law_times = fnB 3 0 g__law_times := Classical.choose_spec x__law_times
def g__law_drawn : DS :=
  (gRet (dIf (tVal (d2 gGt (dOwn 1) (dC (.int 0)))) (dCall m__law_draw (aCons (dVar 0) (aCons (dVar 1) aNil))) (dCall m__law_cut (aCons (d2 gSub (dCall m__law_draw (aCons (dVar 0) (aCons (dC (.int 7)) aNil))) (dC (.int 3))) (aCons (d2 gAdd (dC (.int 1)) (dCall m__law_draw (aCons (dVar 0) (aCons (dC (.int 3)) aNil)))) aNil)))))
theorem x__law_drawn : ∃ F : Fn, F = fnB 2 0 g__law_drawn := ⟨_, rfl⟩
noncomputable def m__law_drawn : Fn := Classical.choose x__law_drawn
theorem q__law_drawn : m__law_drawn = fnB 2 0 g__law_drawn := Classical.choose_spec x__law_drawn
def g__law_table : DS :=
  (gRet (dBi bTuple (aCons (dN2 (nLc 64 (iRg rg1 (aCons (dOwn 2) aNil)) (gNm 5) tTrue (dBi bTuple (aCons (dN2 (nLc 64 (iRg rg1 (aCons (dOwn 3) aNil)) (gNm 4) tTrue (dCall m__law_drawn (aCons (dVar 0) (aCons (dVar 1) aNil))) [4])) aNil)) [5])) aNil)))
theorem x__law_table : ∃ F : Fn, F = fnB 4 2 g__law_table := ⟨_, rfl⟩
noncomputable def m__law_table : Fn := Classical.choose x__law_table
theorem q__law_table : m__law_table = fnB 4 2 g__law_table := Classical.choose_spec x__law_table
def g__law_dot_b0 : DS :=
  (gSet 3 (dCall m__law_plus (aCons (dVar 0) (aCons (dVar 3) (aCons (dCall m__law_times (aCons (dVar 0) (aCons (dVar 4) (aCons (dVar 5) aNil)))) aNil)))))
def g__law_dot : DS :=
  (gSeq (gSet 3 (dCall m__law_num (aCons (dVar 0) (aCons (dC (.int 0)) aNil))))
  (gSeq (gFor 100000 (iZp (aCons (dVar 1) (aCons (dVar 2) aNil))) (gTp (gsCons (gNm 4) (gsCons (gNm 5) gsNil))) g__law_dot_b0)
  (gRet (dVar 3))))
theorem x__law_dot : ∃ F : Fn, F = fnB 3 3 g__law_dot := ⟨_, rfl⟩
noncomputable def m__law_dot : Fn := Classical.choose x__law_dot
theorem q__law_dot : m__law_dot = fnB 3 3 g__law_dot := Classical.choose_spec x__law_dot
def g__law_product : DS :=
  (gRet (dBi bTuple (aCons (dN2 (nLc 100000 (iSeq (dVar 1)) (gNm 6) tTrue (dBi bTuple (aCons (dN2 (nLc 100000 (iRg rg1 (aCons (dOwn 3) aNil)) (gNm 5) tTrue (dCall m__law_dot (aCons (dVar 0) (aCons (dVar 6) (aCons (dN2 (nLc 100000 (iSeq (dVar 2)) (gNm 4) tTrue (d2 gIx (dOwn 4) (dOwn 5)) [4])) aNil)))) [5])) aNil)) [6])) aNil)))
theorem x__law_product : ∃ F : Fn, F = fnB 4 3 g__law_product := ⟨_, rfl⟩
noncomputable def m__law_product : Fn := Classical.choose x__law_product
theorem q__law_product : m__law_product = fnB 4 3 g__law_product := Classical.choose_spec x__law_product
def g__law_units : DS :=
  (gRet (dBi bTuple (aCons (dN2 (nLc 100000 (iRg rg1 (aCons (dOwn 1) aNil)) (gNm 3) tTrue (dBi bTuple (aCons (dN2 (nLc 100000 (iRg rg1 (aCons (dOwn 1) aNil)) (gNm 2) tTrue (dCall m__law_num (aCons (dVar 0) (aCons (dBi bInt (aCons (d2 gEq (dOwn 3) (dOwn 2)) aNil)) aNil))) [2])) aNil)) [3])) aNil)))
theorem x__law_units : ∃ F : Fn, F = fnB 2 2 g__law_units := ⟨_, rfl⟩
noncomputable def m__law_units : Fn := Classical.choose x__law_units
theorem q__law_units : m__law_units = fnB 2 2 g__law_units := Classical.choose_spec x__law_units
def g__law_turned : DS :=
  (gRet (dBi bTuple (aCons (dN2 (nLc 100000 (iRg rg1 (aCons (dOwn 1) aNil)) (gNm 3) tTrue (dBi bTuple (aCons (dN2 (nLc 100000 (iSeq (dVar 0)) (gNm 2) tTrue (d2 gIx (dOwn 2) (dOwn 3)) [2])) aNil)) [3])) aNil)))
theorem x__law_turned : ∃ F : Fn, F = fnB 2 2 g__law_turned := ⟨_, rfl⟩
noncomputable def m__law_turned : Fn := Classical.choose x__law_turned
theorem q__law_turned : m__law_turned = fnB 2 2 g__law_turned := Classical.choose_spec x__law_turned
def g__law_is_table_b0 : DS :=
  (gIfS (tNot' (tVal (dBi bAll (aCons (dN2 (nLc 100000 (iSeq (dVar 4)) (gNm 5) tTrue (dAnd (d1 (gIsi "int") (dOwn 5)) (dAnd (dNot (d1 (gIsi "bool") (dOwn 5))) (dChain gLe gLt (dC (.int 0)) (dOwn 5) (dOwn 0)))) [5])) aNil)))) (gRet (dC (.bool false))) gNext)
def g__law_is_table : DS :=
  (gSeq (gIfS (tOr' (tNot' (tVal (d1 (gIsi "tuple") (dOwn 3)))) (tOr' (tVal (d2 gNe (dBi bLen (aCons (dOwn 3) aNil)) (dOwn 1))) (tNot' (tVal (dBi bAll (aCons (dN2 (nLc 100000 (iSeq (dVar 3)) (gNm 4) tTrue (dAnd (d1 (gIsi "tuple") (dOwn 4)) (d2 gEq (dBi bLen (aCons (dOwn 4) aNil)) (dOwn 2))) [4])) aNil)))))) (gRet (dC (.bool false))) gNext)
  (gSeq (gFor 100000 (iSeq (dVar 3)) (gNm 4) g__law_is_table_b0)
  (gRet (dC (.bool true)))))
theorem x__law_is_table : ∃ F : Fn, F = fnB 4 2 g__law_is_table := ⟨_, rfl⟩
noncomputable def m__law_is_table : Fn := Classical.choose x__law_is_table
theorem q__law_is_table : m__law_is_table = fnB 4 2 g__law_is_table := Classical.choose_spec x__law_is_table
def g__law_near : DS :=
  (gSeq (gSet 2 (dN2 (nLst (aCons (dVar 1) (aCons (dC .none) (aCons (dN2 (nOf (aCons (dOwn 1) aNil))) (aCons (d2 gAdd (dOwn 1) (dTup (aCons (dTup aNil) aNil))) (aCons (dSl (dOwn 1) (pAt (dC (.int 1))) pNo) (aCons (dBi bTuple (aCons (dN2 (nLc 100000 (iSeq (dVar 1)) (gNm 3) tTrue (dN2 (nOf (aCons (dOwn 3) aNil))) [3])) aNil)) (aCons (dBi bTuple (aCons (dN2 (nLc 100000 (iSeq (dVar 1)) (gNm 3) tTrue (d2 gAdd (dOwn 3) (dTup (aCons (dC (.int 0)) aNil))) [3])) aNil)) aNil))))))))))
  (gRet (d2 gIx (d2 gAdd (dOwn 2) (dN2 (nLst (aCons (dBi bTuple (aCons (dN2 (nLc 100000 (iSeq (dVar 1)) (gNm 3) tTrue (d2 gAdd (dSl (dOwn 3) pNo (pAt (d1 gNeg (dC (.int 1))))) (dTup (aCons (dC (.bool true)) aNil))) [3])) aNil)) (aCons (dTup (aCons (dTup (aCons (dC (.int 0)) (aCons (dC (.int 1)) aNil))) (aCons (dTup (aCons (dC (.int 0)) aNil)) aNil))) (aCons (dTup (aCons (dTup (aCons (d1 gNeg (dC (.int 1))) aNil)) aNil)) (aCons (dTup aNil) (aCons (dTup (aCons (dTup aNil) aNil)) (aCons (dTup (aCons (dTup (aCons (dC (.int 13)) aNil)) aNil)) aNil))))))))) (dCall m__law_draw (aCons (dVar 0) (aCons (dC (.int 13)) aNil))))))
theorem x__law_near : ∃ F : Fn, F = fnB 2 2 g__law_near := ⟨_, rfl⟩
noncomputable def m__law_near : Fn := Classical.choose x__law_near
theorem q__law_near : m__law_near = fnB 2 2 g__law_near := Classical.choose_spec x__law_near
def g__law_told_4 : DS :=
  (gRet (dIf (tVal (d1 gIsN (dOwn 5))) (dC .none) (dTup (aCons (dN2 (nLc 100000 (iRg rg1 (aCons (dC (.int 4)) aNil)) (gNm 8) (tVal (d2 gIx (dOwn 7) (dOwn 8))) (dVar 8) [8])) (aCons (dBi bRepr (aCons (d1 gVal (dOwn 5)) aNil)) aNil)))))
def g__law_told_3 : DS :=
  gSeq (gApp 7 (d1 (gIsE 2 subE) (dOwn 5))) g__law_told_4
def g__law_told_2 : DS :=
  gSeq (gSetN 7 (nLst (aCons (d1 (gIsE 3 subE) (dOwn 5)) (aCons (d1 (gIsE 4 subE) (dOwn 5)) (aCons (d1 (gIsE 0 subE) (dOwn 5)) aNil))))) g__law_told_3
def g__law_told_1 : DS :=
  gSeq (gTry 6 5 (gIfS (tVal (d2 gEq (dOwn 0) (dC (.int 0)))) (gDrop (dCall m_table_sum (aCons (dVar 1) (aCons (dVar 2) (aCons (dVar 3) aNil))))) (gIfS (tVal (d2 gEq (dOwn 0) (dC (.int 1)))) (gDrop (dCall m_product (aCons (dVar 1) (aCons (dVar 2) (aCons (dVar 3) (aCons (dVar 4) aNil)))))) (gIfS (tVal (d2 gEq (dOwn 0) (dC (.int 2)))) (gDrop (dCall m_transposed (aCons (dVar 1) (aCons (dVar 2) (aCons (dVar 4) aNil))))) (gIfS (tVal (d2 gEq (dOwn 0) (dC (.int 3)))) (gDrop (dCall m_scaled (aCons (dVar 1) (aCons (dVar 3) (aCons (dVar 2) aNil))))) (gIfS (tVal (d2 gEq (dOwn 0) (dC (.int 4)))) (gDrop (dCall m_zeros (aCons (dVar 1) (aCons (dVar 2) (aCons (dVar 3) aNil))))) (gDrop (dCall m_units (aCons (dVar 1) (aCons (dVar 2) aNil)))))))))) g__law_told_2
def g__law_told_0 : DS :=
  gSeq (gSet 5 (dC .none)) g__law_told_1
def g__law_told : DS := g__law_told_0
theorem x__law_told : ∃ F : Fn, F = fnB 5 4 g__law_told := ⟨_, rfl⟩
noncomputable def m__law_told : Fn := Classical.choose x__law_told
theorem q__law_told : m__law_told = fnB 5 4 g__law_told := Classical.choose_spec x__law_told
def g__law_refused_7 : DS :=
  (gRet (d2 gEq (dN2 (nLst (aCons (dCall m__law_told (aCons (dC (.int 4)) (aCons (dVar 1) (aCons (d1 gNeg (dC (.int 1))) (aCons (d1 gNeg (dC (.int 2))) (aCons (dC (.int 0)) aNil)))))) (aCons (dCall m__law_told (aCons (dC (.int 4)) (aCons (dVar 1) (aCons (dC (.int 0)) (aCons (d1 gNeg (dC (.int 2))) (aCons (dC (.int 0)) aNil)))))) (aCons (dCall m__law_told (aCons (dC (.int 5)) (aCons (dVar 1) (aCons (d1 gNeg (dC (.int 7))) (aCons (dC (.int 0)) (aCons (dC (.int 0)) aNil)))))) aNil))))) (dN2 (nLst (aCons (dTup (aCons (dN2 (nLst (aCons (dC (.int 2)) aNil))) (aCons (dC (.str "-1")) aNil))) (aCons (dTup (aCons (dN2 (nLst (aCons (dC (.int 2)) aNil))) (aCons (dC (.str "-2")) aNil))) (aCons (dTup (aCons (dN2 (nLst (aCons (dC (.int 2)) aNil))) (aCons (dC (.str "-7")) aNil))) aNil)))))))
def g__law_refused_6 : DS :=
  gSeq (gIfS (tAnd' (tVal (d2 gGt (dOwn 3) (dC (.int 0)))) (tOr' (tVal (d2 gNe (dCall m__law_told (aCons (dC (.int 2)) (aCons (dVar 1) (aCons (dVar 2) (aCons (dC (.int 0)) (aCons (d2 gAdd (dOwn 4) (dC (.int 1))) aNil)))))) (dTup (aCons (dN2 (nLst (aCons (dC (.int 2)) aNil))) (aCons (dBi bRepr (aCons (d2 gAdd (dOwn 4) (dC (.int 1))) aNil)) aNil))))) (tVal (d2 gNe (dCall m__law_told (aCons (dC (.int 1)) (aCons (dVar 1) (aCons (dVar 2) (aCons (dCall m__law_units (aCons (dVar 1) (aCons (d2 gAdd (dOwn 4) (dC (.int 1))) aNil))) (aCons (dC (.int 9)) aNil)))))) (dTup (aCons (dN2 (nLst (aCons (dC (.int 1)) aNil))) (aCons (dBi bRepr (aCons (dCall m__law_units (aCons (dVar 1) (aCons (d2 gAdd (dOwn 4) (dC (.int 1))) aNil))) aNil)) aNil))))))) (gRet (dC (.bool false))) gNext) g__law_refused_7
def g__law_refused_5 : DS :=
  gSeq (gIfS (tOr' (tVal (d2 gNe (dCall m__law_told (aCons (dC (.int 0)) (aCons (dVar 1) (aCons (dVar 2) (aCons (dVar 6) (aCons (dC (.int 0)) aNil)))))) (dTup (aCons (dN2 (nLst (aCons (dC (.int 1)) aNil))) (aCons (dBi bRepr (aCons (dOwn 6) aNil)) aNil))))) (tVal (d2 gNe (dCall m__law_told (aCons (dC (.int 2)) (aCons (dVar 1) (aCons (dVar 2) (aCons (dC (.int 0)) (aCons (d1 gNeg (dC (.int 1))) aNil)))))) (dTup (aCons (dN2 (nLst (aCons (dC (.int 2)) aNil))) (aCons (dC (.str "-1")) aNil)))))) (gRet (dC (.bool false))) gNext) g__law_refused_6
def g__law_refused_4 : DS :=
  gSeq (gSet 6 (d2 gAdd (dBi bTuple (aCons (dN2 (nLc 100000 (iSeq (dVar 2)) (gNm 7) tTrue (d2 gAdd (dOwn 7) (dTup (aCons (dCall m__law_num (aCons (dVar 1) (aCons (dC (.int 1)) aNil))) aNil))) [7])) aNil)) (dIf (tVal (d2 gEq (dOwn 3) (dC (.int 0)))) (dTup (aCons (d2 gMul (dTup (aCons (dCall m__law_num (aCons (dVar 1) (aCons (dC (.int 1)) aNil))) aNil)) (d2 gAdd (dOwn 4) (dC (.int 1)))) aNil)) (dTup aNil)))) g__law_refused_5
def g__law_refused_3 : DS :=
  gSeq (gIfS (tOr' (tVal (d2 gNe (dN2 (nLst (aCons (dCall m__law_told (aCons (dC (.int 0)) (aCons (dVar 1) (aCons (dVar 2) (aCons (dVar 5) (aCons (dC (.int 0)) aNil)))))) (aCons (dCall m__law_told (aCons (dC (.int 1)) (aCons (dVar 1) (aCons (dVar 2) (aCons (dVar 5) (aCons (d1 gNeg (dC (.int 1))) aNil)))))) aNil)))) (d2 gMul (dN2 (nLst (aCons (dTup (aCons (dN2 (nLst (aCons (dC (.int 0)) aNil))) (aCons (dBi bRepr (aCons (dOwn 5) aNil)) aNil))) aNil))) (dC (.int 2))))) (tVal (d2 gNe (dCall m__law_told (aCons (dC (.int 3)) (aCons (dVar 1) (aCons (dVar 5) (aCons (dC .none) (aCons (dC (.int 0)) aNil)))))) (dTup (aCons (dN2 (nLst (aCons (dC (.int 3)) aNil))) (aCons (dC (.str "None")) aNil)))))) (gRet (dC (.bool false))) gNext) g__law_refused_4
def g__law_refused_2 : DS :=
  gSeq (gIfS (tVal (d2 gNe (dN2 (nLst (aCons (dCall m__law_told (aCons (dC (.int 0)) (aCons (dVar 1) (aCons (dVar 5) (aCons (dC .none) (aCons (dC (.int 0)) aNil)))))) (aCons (dCall m__law_told (aCons (dC (.int 1)) (aCons (dVar 1) (aCons (dVar 5) (aCons (dC .none) (aCons (d1 gNeg (dC (.int 1))) aNil)))))) (aCons (dCall m__law_told (aCons (dC (.int 2)) (aCons (dVar 1) (aCons (dVar 5) (aCons (dC (.int 0)) (aCons (d1 gNeg (dC (.int 1))) aNil)))))) aNil))))) (d2 gMul (dN2 (nLst (aCons (dTup (aCons (dN2 (nLst (aCons (dC (.int 0)) aNil))) (aCons (dBi bRepr (aCons (dOwn 5) aNil)) aNil))) aNil))) (dC (.int 3))))) (gRet (dC (.bool false))) gNext) g__law_refused_3
def g__law_refused_1 : DS :=
  gSeq (gIfS (tVal (d2 gEq (dOwn 1) (dC (.int 0)))) (gSet 5 (d2 gIx (dN2 (nLst (aCons (dTup (aCons (dTup (aCons (dC (.int 1)) aNil)) aNil)) (aCons (dTup (aCons (dTup (aCons (dTup (aCons (dC (.int 2)) (aCons (dC (.int 4)) aNil))) aNil)) aNil)) (aCons (dC .none) aNil))))) (dCall m__law_draw (aCons (dVar 0) (aCons (dC (.int 3)) aNil))))) gNext) g__law_refused_2
def g__law_refused_0 : DS :=
  gSeq (gSet 5 (d2 gIx (dN2 (nLst (aCons (dC .none) (aCons (dN2 (nLst (aCons (dTup aNil) aNil))) (aCons (dTup (aCons (dTup (aCons (dC (.int 0)) (aCons (dC (.int 0)) aNil))) (aCons (dTup (aCons (dC (.int 0)) aNil)) aNil))) (aCons (dTup (aCons (dC (.int 0)) aNil)) (aCons (dC (.str "")) (aCons (dTup (aCons (dTup (aCons (dC .none) aNil)) aNil)) aNil)))))))) (dCall m__law_draw (aCons (dVar 0) (aCons (dC (.int 6)) aNil))))) g__law_refused_1
def g__law_refused : DS := g__law_refused_0
theorem x__law_refused : ∃ F : Fn, F = fnB 5 3 g__law_refused := ⟨_, rfl⟩
noncomputable def m__law_refused : Fn := Classical.choose x__law_refused
theorem q__law_refused : m__law_refused = fnB 5 3 g__law_refused := Classical.choose_spec x__law_refused
def g__law_right_b0 : DS :=
  (gSeq (gSet 14 (dCall m__law_near (aCons (dVar 0) (aCons (dVar 6) aNil))))
  (gSeq (gSet 11 (dCall m__law_is_table (aCons (dVar 1) (aCons (dVar 2) (aCons (dVar 3) (aCons (dVar 14) aNil))))))
  (gIfS (tVal (d2 gNe (dBi bRepr (aCons (dN2 (nLst (aCons (dCall m_is_table (aCons (dVar 1) (aCons (dVar 2) (aCons (dVar 3) (aCons (dVar 14) aNil))))) (aCons (dCallK m_is_table px_3210 aNil (aCons (dVar 14) (aCons (dVar 3) (aCons (dVar 2) (aCons (dVar 1) aNil))))) aNil)))) aNil)) (dBi bRepr (aCons (dN2 (nLst (aCons (dVar 11) (aCons (dVar 11) aNil)))) aNil)))) (gRet (dC (.bool false))) gNext)))
def g__law_right_15 : DS :=
  (gRet (dCall m__law_refused (aCons (dVar 0) (aCons (dVar 1) (aCons (dVar 6) (aCons (dVar 2) (aCons (dVar 3) aNil)))))))
def g__law_right_14 : DS :=
  gSeq (gIfS (tVal (d2 gGt (dOwn 1) (dC (.int 0)))) (gFor 64 (iRg rg1 (aCons (dC (.int 4)) aNil)) (gNm 13) g__law_right_b0) gNext) g__law_right_15
def g__law_right_13 : DS :=
  gSeq (gIfS (tOr' (tVal (d2 gNe (dBi bRepr (aCons (dN2 (nLst (aCons (dCallK m_zeros px_120 aNil (aCons (dVar 3) (aCons (dVar 1) (aCons (dVar 2) aNil)))) (aCons (dCallK m_units px_10 aNil (aCons (dVar 3) (aCons (dVar 1) aNil))) aNil)))) aNil)) (dBi bRepr (aCons (dN2 (nLst (aCons (dCall m_zeros (aCons (dVar 1) (aCons (dVar 2) (aCons (dVar 3) aNil)))) (aCons (dCall m_units (aCons (dVar 1) (aCons (dVar 3) aNil))) aNil)))) aNil)))) (tVal (d2 gNe (dCall m_product (aCons (dVar 1) (aCons (dVar 6) (aCons (dCall m_units (aCons (dVar 1) (aCons (dVar 3) aNil))) (aCons (dVar 3) aNil))))) (dOwn 6)))) (gRet (dC (.bool false))) gNext) g__law_right_14
def g__law_right_12 : DS :=
  gSeq (gIfS (tVal (d2 gNe (dBi bRepr (aCons (dN2 (nLst (aCons (dCall m_zeros (aCons (dVar 1) (aCons (dVar 2) (aCons (dVar 3) aNil)))) (aCons (dCall m_units (aCons (dVar 1) (aCons (dVar 3) aNil))) aNil)))) aNil)) (dBi bRepr (aCons (dN2 (nLst (aCons (d2 gMul (dTup (aCons (d2 gMul (dTup (aCons (dCall m__law_num (aCons (dVar 1) (aCons (dC (.int 0)) aNil))) aNil)) (dOwn 3)) aNil)) (dOwn 2)) (aCons (dCall m__law_units (aCons (dVar 1) (aCons (dVar 3) aNil))) aNil)))) aNil)))) (gRet (dC (.bool false))) gNext) g__law_right_13
def g__law_right_11 : DS :=
  gSeq (gIfS (tVal (d2 gNe (dCall m_product (aCons (dVar 1) (aCons (dCall m_transposed (aCons (dVar 1) (aCons (dVar 8) (aCons (dVar 4) aNil)))) (aCons (dCall m_transposed (aCons (dVar 1) (aCons (dVar 6) (aCons (dVar 3) aNil)))) (aCons (dVar 2) aNil))))) (dCall m_transposed (aCons (dVar 1) (aCons (d2 gIx (dOwn 11) (dC (.int 0))) (aCons (dVar 4) aNil)))))) (gRet (dC (.bool false))) gNext) g__law_right_12
def g__law_right_10 : DS :=
  gSeq (gIfS (tVal (d2 gNe (dCall m_product (aCons (dVar 1) (aCons (d2 gIx (dOwn 11) (dC (.int 0))) (aCons (dVar 9) (aCons (dVar 5) aNil))))) (dCall m_product (aCons (dVar 1) (aCons (dVar 6) (aCons (dCall m_product (aCons (dVar 1) (aCons (dVar 8) (aCons (dVar 9) (aCons (dVar 5) aNil))))) (aCons (dVar 5) aNil))))))) (gRet (dC (.bool false))) gNext) g__law_right_11
def g__law_right_9 : DS :=
  gSeq (gIfS (tVal (d2 gNe (dBi bRepr (aCons (d2 gAdd (dOwn 12) (dN2 (nLst (aCons (dCallK m_transposed px_120 aNil (aCons (dVar 3) (aCons (dVar 1) (aCons (dVar 6) aNil)))) aNil)))) aNil)) (dBi bRepr (aCons (dOwn 11) aNil)))) (gRet (dC (.bool false))) gNext) g__law_right_10
def g__law_right_8 : DS :=
  gSeq (gSet 12 (dN2 (nLst (aCons (dCallK m_product px_3210 aNil (aCons (dVar 4) (aCons (dVar 8) (aCons (dVar 6) (aCons (dVar 1) aNil))))) (aCons (dCallK m_table_sum px_120 aNil (aCons (dVar 7) (aCons (dVar 1) (aCons (dVar 6) aNil)))) (aCons (dCallK m_scaled px_210 aNil (aCons (dVar 6) (aCons (dVar 10) (aCons (dVar 1) aNil)))) aNil)))))) g__law_right_9
def g__law_right_7 : DS :=
  gSeq (gIfS (tVal (d2 gNe (dBi bRepr (aCons (dOwn 12) aNil)) (dBi bRepr (aCons (dOwn 11) aNil)))) (gRet (dC (.bool false))) gNext) g__law_right_8
def g__law_right_6 : DS :=
  gSeq (gSet 12 (dN2 (nLst (aCons (dCall m_product (aCons (dVar 1) (aCons (dVar 6) (aCons (dVar 8) (aCons (dVar 4) aNil))))) (aCons (dCall m_table_sum (aCons (dVar 1) (aCons (dVar 6) (aCons (dVar 7) aNil)))) (aCons (dCall m_scaled (aCons (dVar 1) (aCons (dVar 10) (aCons (dVar 6) aNil)))) (aCons (dCall m_transposed (aCons (dVar 1) (aCons (dVar 6) (aCons (dVar 3) aNil)))) aNil))))))) g__law_right_7
def g__law_right_5 : DS :=
  gSeq (gSet 11 (d2 gAdd (dOwn 11) (dN2 (nLst (aCons (dBi bTuple (aCons (dN2 (nLc 100000 (iSeq (dVar 6)) (gNm 17) tTrue (dBi bTuple (aCons (dN2 (nLc 100000 (iSeq (dVar 17)) (gNm 19) tTrue (dCall m__law_times (aCons (dVar 1) (aCons (dVar 10) (aCons (dVar 19) aNil)))) [19])) aNil)) [17])) aNil)) (aCons (dCall m__law_turned (aCons (dVar 6) (aCons (dVar 3) aNil))) aNil)))))) g__law_right_6
def g__law_right_4 : DS :=
  gSeq (gSet 11 (dN2 (nLst (aCons (dCall m__law_product (aCons (dVar 1) (aCons (dVar 6) (aCons (dVar 8) (aCons (dVar 4) aNil))))) (aCons (dBi bTuple (aCons (dN2 (nLc 100000 (iZp (aCons (dVar 6) (aCons (dVar 7) aNil))) (gTp (gsCons (gNm 17) (gsCons (gNm 18) gsNil))) tTrue (dBi bTuple (aCons (dN2 (nLc 100000 (iZp (aCons (dVar 17) (aCons (dVar 18) aNil))) (gTp (gsCons (gNm 15) (gsCons (gNm 16) gsNil))) tTrue (dCall m__law_plus (aCons (dVar 1) (aCons (dVar 15) (aCons (dVar 16) aNil)))) [15, 16])) aNil)) [17, 18])) aNil)) aNil))))) g__law_right_5
def g__law_right_3 : DS :=
  gSeq (gSet 10 (dCall m__law_drawn (aCons (dVar 0) (aCons (dVar 1) aNil)))) g__law_right_4
def g__law_right_2 : DS :=
  gSeq (gAsg (dTup (aCons (dCall m__law_table (aCons (dVar 0) (aCons (dVar 1) (aCons (dVar 2) (aCons (dVar 3) aNil))))) (aCons (dCall m__law_table (aCons (dVar 0) (aCons (dVar 1) (aCons (dVar 2) (aCons (dVar 3) aNil))))) (aCons (dCall m__law_table (aCons (dVar 0) (aCons (dVar 1) (aCons (dVar 3) (aCons (dVar 4) aNil))))) (aCons (dCall m__law_table (aCons (dVar 0) (aCons (dVar 1) (aCons (dVar 4) (aCons (dVar 5) aNil))))) aNil))))) (gTp (gsCons (gNm 6) (gsCons (gNm 7) (gsCons (gNm 8) (gsCons (gNm 9) gsNil)))))) g__law_right_3
def g__law_right_1 : DS :=
  gSeq (gAsg (dN2 (nLc 64 (iRg rg1 (aCons (dC (.int 4)) aNil)) (gNm 13) tTrue (dCall m__law_draw (aCons (dVar 0) (aCons (dC (.int 5)) aNil))) [13])) (gTpL (gsCons (gNm 2) (gsCons (gNm 3) (gsCons (gNm 4) (gsCons (gNm 5) gsNil)))))) g__law_right_2
def g__law_right_0 : DS :=
  gSeq (gSet 1 (d2 gIx (dN2 (nLst (aCons (dC (.int 0)) (aCons (dC (.int 2)) (aCons (dC (.int 3)) (aCons (dC (.int 5)) (aCons (dC (.int 13)) aNil))))))) (dCall m__law_draw (aCons (dVar 0) (aCons (dC (.int 5)) aNil))))) g__law_right_1
def g__law_right : DS := g__law_right_0
theorem x__law_right : ∃ F : Fn, F = fnB 1 19 g__law_right := ⟨_, rfl⟩
noncomputable def m__law_right : Fn := Classical.choose x__law_right
theorem q__law_right : m__law_right = fnB 1 19 g__law_right := Classical.choose_spec x__law_right
def g_law : DS :=
  (gSeq (gFor 100000 (iRg rg1 (aCons (dBi bMax2 (aCons (dC (.int 1)) (aCons (dBi bMin2 (aCons (dC (.int 3)) (aCons (dBi bLen (aCons (dOwn 0) aNil)) aNil))) aNil))) aNil)) (gNm 1) (gSeq (gSetN 2 (nCallW (aCons (dVar 0) (aCons (dVar 1) aNil))))
  (gFor 100000 (iRg rg1 (aCons (dC (.int 4)) aNil)) (gNm 3) (gRight 49286 2))))
  (gRet (dC (.bool true))))
theorem x_law : ∃ F : Fn, F = fnB 1 3 g_law := ⟨_, rfl⟩
noncomputable def m_law : Fn := Classical.choose x_law
theorem q_law : m_law = fnB 1 3 g_law := Classical.choose_spec x_law
end Law
namespace Law
open PySem PySem.Spec PyProof.Rows L2 Wb
local macro_rules | `(tactic| array_get_dec) => `(tactic| try simp -implicitDefEqProofs -proj only [gSeq, gIfS, gRet, gSet, gSetN, gSetIx, gDrop, gRaise, gNext, gBrk, gCnt, gApp, gFrz, gTry, gAsg, gFor, gPar, gPar3, gParNN, gParDN, gParND, gAppX, xPopAt, xPop, gDropX, gSetX, gAugI, dVar, dOwn, dC, d2, d1, dN2, aNil, aCons, dTup, nLst, dBi, tVal, tNot', tAnd', tOr', dAnd, dOr, dNot, dIf, dChain, dSl, pAt, pNo, nOf, nRg1, iRg, iSeq, iZp, iRv, nLc, tTrue, gNm, gTp, gTpL, gsCons, gsNil, wipeD, e_onD, e_onB, e_onI, e_slV, e_slO, e_slOo, e_slOw, e_gI, e_gI0, e_add, e_mul, e_mulL, e_neg, e_ixL, e_ixT, e_ixS, e_isi, e_isN, e_notN, e_isNe, e_isNi, e_isNb, e_isNl, e_isNt, e_isNs, e_lenL, e_lenT, e_lenS, e_abs, e_int, e_intB, e_max, e_min, e_gcd, e_tupL, e_tupT, e_repr, e_sum, e_all, e_any, e_allN, e_allC, e_seqL, e_seqT, e_seqS, e_rg1, e_rg2, e_excN, e_excE, e_val, e_at0, e_at1, e_at2, e_ixn0, e_ixn1, e_ixn2, e_ex, e_zp, e_slT, e_slL, e_max1, e_min1, e_addT, e_addL, e_addS, e_mulT, e_eqN, e_neN, e_eqNT, e_neNT, e_siL, e_siT, e_inL, e_ninL, e_inT, e_ninT, e_eqI, e_neI, e_neS, e_nx, e_rt, e_bk, e_ct, e_exc, e_call0, e_call1, e_call2, e_call3, e_call4, e_call5, e_call6, e_call7, e_call8, e_call9, e_callk1, e_callk2, e_callk3, e_callk4, e_callk5, e_callk6, e_callk7, e_callk8, e_callk9, e_get0, e_get1, e_get2, e_get3, e_get4, e_get5, e_get6, e_get7, e_get8, e_get9, e_get10, e_get11, e_get12, e_get13, e_get14, e_get15, e_get16, e_get17, e_get18, e_get19, e_get20, e_get21, e_get22, e_get23, e_get24, e_get25, e_set0, e_set1, e_set2, e_set3, e_set4, e_set5, e_set6, e_set7, e_set8, e_set9, e_set10, e_set11, e_set12, e_set13, e_set14, e_set15, e_set16, e_set17, e_set18, e_set19, e_set20, e_set21, e_set22, e_set23, e_set24, e_set25, List.replicate, List.cons_append, List.nil_append, List.map_cons, List.map_nil, fnB, ↓reduceIte, Bool.false_eq_true, Bool.not_true, Bool.not_false, List.length_cons, List.length_nil, Nat.zero_add, Nat.reduceAdd, Nat.reduceLeDiff, true_and, px_3210, px_120, px_210, px_10])
theorem ev_draw : DrawLaw 3 g__law_draw := by
  intro m a b c many hW h0 h1
  obtain ⟨w1, w2, w3, w4, w5, w6⟩ := hW
  have p29 : ((10 : Int) ^ Int.toNat 29 + 319) = 100000000000000000000000000319 := by decide +kernel
  have p31 : ((10 : Int) ^ Int.toNat 31 + 33) = 10000000000000000000000000000033 := by decide +kernel
  have p33 : ((10 : Int) ^ Int.toNat 33 + 603) = 1000000000000000000000000000000603 := by decide +kernel
  simp only [g__law_draw, gSeq, gIfS, gRet, gSet, gSetN, gSetIx, gDrop, gRaise, gNext, gApp, gFrz, gTry, gAsg, gFor, gRight, nCallW, zSeq, zRet, dVar, dOwn, dC, d2, d1, dN2, aNil, aCons, dTup, nLst, dCall, dBi, tVal, tNot', tAnd', tOr', dAnd, dOr, dNot, dIf, dChain, dCallK, iRg, iSeq, nLc, tTrue, gNm, wipeD, e_onD, e_onB, e_onI, e_slV, e_slO, e_slOo, e_slOw, e_gI, e_gI0, e_add, e_mul, e_mulL, e_neg, e_ixL, e_ixT, e_ixS, e_isi, e_isN, e_notN, e_isNe, e_isNi, e_isNb, e_isNl, e_isNt, e_isNs, e_lenL, e_lenT, e_lenS, e_abs, e_int, e_intB, e_max, e_min, e_gcd, e_tupL, e_tupT, e_repr, e_sum, e_all, e_any, e_allN, e_allC, e_seqL, e_seqT, e_seqS, e_rg1, e_rg2, e_excN, e_excE, e_val, e_at0, e_at1, e_at2, e_get0, e_get1, e_get2, e_get3, e_get4, e_get5, e_get6, e_get7, e_set0, e_set1, e_set2, e_set3, e_set4, e_set5, e_set6, e_set7, e_ixn0, e_ixn1, e_ixn2, e_ex, List.replicate, List.cons_append, List.nil_append, List.map, fnB, p29, p31, p33]
  split
  · rename_i ha
    have ha : 0 < a := of_decide_eq_true ha
    have f1 := fdiv_nn w1 h0
    have f2 := fdiv_le w1 h0
    refine ⟨by omega, fdivOk h0 h1, _, _, _, _, rfl, ⟨f1, w2, w3, ?_, w5, by omega⟩, rfl, fmod_nn h0, fmod_lt h0⟩
    have : (a.fdiv many).natAbs ≤ a.natAbs := by omega
    exact Nat.lt_of_le_of_lt this w4
  · have mc : MB 61 (c + 1) := MB.of (by omega) (by omega)
    have mb : MB 200 b := w5
    have mb31 : MB 201 (b + 31) := mb.add (MB.le (a := 5) (by unfold MB; decide) (by decide))
    have mc5 : MB 62 (c + 1 + 5) := mc.add (MB.le (a := 3) (by unfold MB; decide) (by decide))
    have k1 : MB 30 998244353 := by unfold MB; decide
    have k2 : MB 30 424242427 := by unfold MB; decide
    have k7 : MB 3 7 := by unfold MB; decide
    have m1 := fmod_nn (i := (b + 31) * (c + 1 + 5) * 998244353 + (c + 1) * (c + 1) * (c + 1) * 424242427 + 77) (j := 100000000000000000000000000319) (by decide)
    have m1' := fmod_lt (i := (b + 31) * (c + 1 + 5) * 998244353 + (c + 1) * (c + 1) * (c + 1) * 424242427 + 77) (j := 100000000000000000000000000319) (by decide)
    refine ⟨mb31.ok mc5 (by decide), (mb31.mul mc5).ok k1 (by decide), mc.ok mc (by decide), (mc.mul mc).ok mc (by decide), ((mc.mul mc).mul mc).ok k2 (by decide), ⟨by decide, by decide, by decide⟩, by decide, ?_⟩
    generalize ((b + 31) * (c + 1 + 5) * 998244353 + (c + 1) * (c + 1) * (c + 1) * 424242427 + 77).fmod 100000000000000000000000000319 = M1 at m1 m1' ⊢
    have b1 : MB 120 M1 := MB.of m1 (by omega)
    have m2 := fmod_nn (i := M1 * M1 + b * 7 + (c + 1)) (j := 10000000000000000000000000000033) (by decide)
    have m2' := fmod_lt (i := M1 * M1 + b * 7 + (c + 1)) (j := 10000000000000000000000000000033) (by decide)
    refine ⟨b1.ok b1 (by decide), mb.ok k7 (by decide), ⟨by decide, by decide, by decide⟩, by decide, ?_⟩
    generalize (M1 * M1 + b * 7 + (c + 1)).fmod 10000000000000000000000000000033 = M2 at m2 m2' ⊢
    have b2 : MB 120 M2 := MB.of m2 (by omega)
    refine ⟨b2.ok b2 (by decide), (b2.mul b2).ok (MB.le (a := 2) (by unfold MB; decide) (by decide) : MB 4 3) (by decide), b2.ok (by unfold MB; decide : MB 4 11) (by decide), ⟨by decide, by decide, by decide⟩, by decide, fdivOk (by decide) (by decide), by omega, ?_⟩
    exact ⟨_, _, _, _, rfl, ⟨w1, w2, by omega, w4, w5, by omega⟩, rfl, fmod_nn h0, fmod_lt h0⟩

theorem well_loop {b0 : Int} {D : DEnds} {v0 v1 v2 v5 : Sl} (hnx : ∀ wh x, 0 ≤ wh → wh < 10 ^ 25 + 13 → D.nx [v0, v1, v2, .v (.d (.int wh)), x, v5]) : ∀ (ns : List Int) (wh : Int) (x : Sl), 0 ≤ wh → wh < 10 ^ 25 + 13 →
    loopD (gNm 4) (gSet 3 (d2 gMod (dBi bInt (aCons (d2 gAdd (d2 gMul (dOwn 3) (dC (.int 5323))) (d2 gMod (dBi bInt (aCons (dOwn 4) aNil)) (d2 gAdd (d2 gPow (dC (.int 10)) (dC (.int 19))) (dC (.int 51))))) aNil)) (d2 gAdd (d2 gPow (dC (.int 10)) (dC (.int 25))) (dC (.int 13)))) ) D (ns.map .int) [v0, v1, v2, .v (.d (.int wh)), x, v5]
  | [], wh, x, h0, h1 => by
    unfold loopD
    exact hnx wh x h0 h1
  | z :: ns, wh, x, h0, h1 => by
    have p25 : ((10 : Int) ^ Int.toNat 25 + 13) = 10000000000000000000000013 := by decide +kernel
    have q25 : ((10 : Int) ^ 25 + 13) = 10000000000000000000000013 := by decide +kernel
    rw [q25] at h1
    unfold loopD
    simp only [gSeq, gIfS, gRet, gSet, gSetN, gSetIx, gDrop, gRaise, gNext, gApp, gFrz, gTry, gAsg, gFor, gRight, nCallW, zSeq, zRet, dVar, dOwn, dC, d2, d1, dN2, aNil, aCons, dTup, nLst, dCall, dBi, tVal, tNot', tAnd', tOr', dAnd, dOr, dNot, dIf, dChain, dCallK, iRg, iSeq, nLc, tTrue, gNm, wipeD, e_onD, e_onB, e_onI, e_slV, e_slO, e_slOo, e_slOw, e_gI, e_gI0, e_add, e_mul, e_mulL, e_neg, e_ixL, e_ixT, e_ixS, e_isi, e_isN, e_notN, e_isNe, e_isNi, e_isNb, e_isNl, e_isNt, e_isNs, e_lenL, e_lenT, e_lenS, e_abs, e_int, e_intB, e_max, e_min, e_gcd, e_tupL, e_tupT, e_repr, e_sum, e_all, e_any, e_allN, e_allC, e_seqL, e_seqT, e_seqS, e_rg1, e_rg2, e_excN, e_excE, e_val, e_at0, e_at1, e_at2, e_get0, e_get1, e_get2, e_get3, e_get4, e_get5, e_get6, e_get7, e_set0, e_set1, e_set2, e_set3, e_set4, e_set5, e_set6, e_set7, e_ixn0, e_ixn1, e_ixn2, e_ex, List.replicate, List.cons_append, List.nil_append, List.map, fnB, p25]
    refine ⟨⟨100, 13, (MB.of h0 (by omega) : MB 100 wh), by decide, by decide⟩, cpow10 (by decide) (by decide), by decide, cpow10 (by decide) (by decide), by decide, ?_⟩
    exact well_loop (b0 := b0) hnx ns _ _ (fmod_nn (by decide)) (by rw [q25]; exact fmod_lt (by decide))
theorem atI_of {ns : List Int} {k : Int} (h0 : 0 ≤ k) (h : k < ns.length) : ∃ y, atI ns k = some y ∧ y ∈ ns := by
  have hk : k.toNat < ns.length := by omega
  refine ⟨ns[k.toNat], ?_, List.getElem_mem hk⟩
  unfold atI ixN
  rw [if_pos h0, if_pos h]
  exact List.getElem?_eq_getElem hk
theorem ev_well : WellLaw 4 g__law_well := by
  rintro ns k ⟨hk0, hk1, hl, hz⟩
  have p28 : ((10 : Int) ^ Int.toNat 28 + 331) = 10000000000000000000000000331 := by decide +kernel
  have p18 : ((10 : Int) ^ Int.toNat 18) = 1000000000000000000 := by decide +kernel
  have p25 : ((10 : Int) ^ 25 + 13) = 10000000000000000000000013 := by decide +kernel
  have mk : MB 30 k := MB.of hk0 (by omega)
  simp only [g__law_well, gSeq, gIfS, gRet, gSet, gSetN, gSetIx, gDrop, gRaise, gNext, gApp, gFrz, gTry, gAsg, gFor, gRight, nCallW, zSeq, zRet, dVar, dOwn, dC, d2, d1, dN2, aNil, aCons, dTup, nLst, dCall, dBi, tVal, tNot', tAnd', tOr', dAnd, dOr, dNot, dIf, dChain, dCallK, iRg, iSeq, nLc, tTrue, gNm, wipeD, e_onD, e_onB, e_onI, e_slV, e_slO, e_slOo, e_slOw, e_gI, e_gI0, e_add, e_mul, e_mulL, e_neg, e_ixL, e_ixT, e_ixS, e_isi, e_isN, e_notN, e_isNe, e_isNi, e_isNb, e_isNl, e_isNt, e_isNs, e_lenL, e_lenT, e_lenS, e_abs, e_int, e_intB, e_max, e_min, e_gcd, e_tupL, e_tupT, e_repr, e_sum, e_all, e_any, e_allN, e_allC, e_seqL, e_seqT, e_seqS, e_rg1, e_rg2, e_excN, e_excE, e_val, e_at0, e_at1, e_at2, e_get0, e_get1, e_get2, e_get3, e_get4, e_get5, e_get6, e_get7, e_set0, e_set1, e_set2, e_set3, e_set4, e_set5, e_set6, e_set7, e_ixn0, e_ixn1, e_ixn2, e_ex, List.replicate, List.cons_append, List.nil_append, List.map, fnB]
  split
  case' isTrue =>
    obtain ⟨y, hy, hm⟩ := atI_of (ns := ns) hk0 (of_decide_eq_true (by assumption))
    refine ⟨y, hy, ?_⟩
    have hc : MB 1150000 y := MB.le (hz y hm) (by decide)
    generalize y = c at hc ⊢
  case' isFalse =>
    refine ⟨MB.ok (MB.le (a := 20) (by unfold MB; decide) (Nat.le_refl _)) mk (by decide), ?_⟩
    have hc : MB 1150000 (79 * k + 47) := MB.le (MB.add (MB.le (MB.mul (a := 20) (by unfold MB; decide) mk) (Nat.le_refl _)) (MB.le (a := 20) (by unfold MB; decide) (by decide))) (by decide)
    generalize (79 * k + 47) = c at hc ⊢
  all_goals
    refine ⟨by simpa using hl, well_loop (b0 := 0) ?_ ns _ _ (by omega) (by omega)⟩
    intro wh x h0 h1
    rw [p25] at h1
    have mw : MB 100 wh := MB.of h0 (by omega)
    have mc : MB 1150000 ((c.natAbs : Nat) : Int) := by
      unfold MB at hc ⊢
      rw [Int.natAbs_natCast]
      exact hc
    simp only [gSeq, gIfS, gRet, gSet, gSetN, gSetIx, gDrop, gRaise, gNext, gApp, gFrz, gTry, gAsg, gFor, gRight, nCallW, zSeq, zRet, dVar, dOwn, dC, d2, d1, dN2, aNil, aCons, dTup, nLst, dCall, dBi, tVal, tNot', tAnd', tOr', dAnd, dOr, dNot, dIf, dChain, dCallK, iRg, iSeq, nLc, tTrue, gNm, wipeD, e_onD, e_onB, e_onI, e_slV, e_slO, e_slOo, e_slOw, e_gI, e_gI0, e_add, e_mul, e_mulL, e_neg, e_ixL, e_ixT, e_ixS, e_isi, e_isN, e_notN, e_isNe, e_isNi, e_isNb, e_isNl, e_isNt, e_isNs, e_lenL, e_lenT, e_lenS, e_abs, e_int, e_intB, e_max, e_min, e_gcd, e_tupL, e_tupT, e_repr, e_sum, e_all, e_any, e_allN, e_allC, e_seqL, e_seqT, e_seqS, e_rg1, e_rg2, e_excN, e_excE, e_val, e_at0, e_at1, e_at2, e_get0, e_get1, e_get2, e_get3, e_get4, e_get5, e_get6, e_get7, e_set0, e_set1, e_set2, e_set3, e_set4, e_set5, e_set6, e_set7, e_ixn0, e_ixn1, e_ixn2, e_ex, List.replicate, List.cons_append, List.nil_append, List.map, fnB, p28, p18]
    refine ⟨mc.ok (MB.le (a := 20) (by unfold MB; decide) (Nat.le_refl _)) (by decide), mw.ok (MB.le (a := 20) (by unfold MB; decide) (Nat.le_refl _)) (by decide), MB.ok (a := 2) (b := 2) (by unfold MB; decide) (by split <;> (unfold MB; decide)) (by decide),
      MB.ok (MB.le (a := 20) (by unfold MB; decide) (Nat.le_refl _)) mk (by decide), cpow10 (by decide) (by decide), by decide, cpow10 (by decide) (by decide), by simp, _, _, _, rfl, ?_, fmod_nn (by decide), by decide, ?_, ?_, by decide⟩
    · split <;> omega
    · have : (if ((c.natAbs : Nat) : Int) - 1000000000000000000 > 0 then ((c.natAbs : Nat) : Int) - 1000000000000000000 else 0).natAbs ≤ c.natAbs := by split <;> omega
      exact Nat.lt_of_le_of_lt this (Nat.lt_of_lt_of_le hc (Nat.pow_le_pow_right (by decide) (by decide)))
    · exact Nat.lt_of_lt_of_le (show _ < 10000000000000000000000000331 from by
        have h1 := fmod_nn (i := ((c.natAbs : Nat) : Int) * 15 + wh * 35 + 3 * (if decide (c < 0) = true then 1 else 0) + 61 * k) (j := 10000000000000000000000000331) (by decide)
        have h2 := fmod_lt (i := ((c.natAbs : Nat) : Int) * 15 + wh * 35 + 3 * (if decide (c < 0) = true then 1 else 0) + 61 * k) (j := 10000000000000000000000000331) (by decide)
        omega) (by decide)

theorem filterMap_some {α : Type} : ∀ l : List α, l.filterMap some = l
  | [] => rfl
  | a :: l => by rw [List.filterMap_cons, filterMap_some l]
theorem ev_anew (j : Nat) : ∀ xs R Er, anewFn j xs R Er → fnB 1 1 (g_anew (anewG j)) xs R Er := by
  rintro xs R Er ⟨x, rfl, hd, hR⟩
  have it : ∀ {ys : List PD} {R : List PD → Prop} {s0 : Sl}, (∃ j', j = j' + 1 ∧ ∀ y ∈ ys, okD j' y) → R ys → lcD (gNm 1) tTrue (dCall (anewG j) (aCons (dVar 1) aNil)) [s0, .no] ys R := by
    rintro ys R s0 ⟨j', rfl, hy⟩ hR
    refine lcD_of some (fun y hm P hP => ?_) (by rw [filterMap_some]; exact hR)
    simp only [gSeq, gIfS, gRet, gSet, gSetN, gSetIx, gDrop, gRaise, gNext, gApp, gFrz, gTry, gAsg, gFor, gRight, nCallW, zSeq, zRet, dVar, dOwn, dC, d2, d1, dN2, aNil, aCons, dTup, nLst, dCall, dBi, tVal, tNot', tAnd', tOr', dAnd, dOr, dNot, dIf, dChain, dCallK, iRg, iSeq, nLc, tTrue, gNm, wipeD, e_onD, e_onB, e_onI, e_slV, e_slO, e_slOo, e_slOw, e_gI, e_gI0, e_add, e_mul, e_mulL, e_neg, e_ixL, e_ixT, e_ixS, e_isi, e_isN, e_notN, e_isNe, e_isNi, e_isNb, e_isNl, e_isNt, e_isNs, e_lenL, e_lenT, e_lenS, e_abs, e_int, e_intB, e_max, e_min, e_gcd, e_tupL, e_tupT, e_repr, e_sum, e_all, e_any, e_allN, e_allC, e_seqL, e_seqT, e_seqS, e_rg1, e_rg2, e_excN, e_excE, e_val, e_at0, e_at1, e_at2, e_get0, e_get1, e_get2, e_get3, e_get4, e_get5, e_get6, e_get7, e_set0, e_set1, e_set2, e_set3, e_set4, e_set5, e_set6, e_set7, e_ixn0, e_ixn1, e_ixn2, e_ex, List.replicate, List.cons_append, List.nil_append, List.map, fnB, if_true]
    exact ⟨y, rfl, hy y hm, hP⟩
  cases x with
  | list ys =>
    cases j with
    | zero => exact hd.elim
    | succ j =>
      refine ⟨rfl, ?_⟩
      simp only [g_anew, gSeq, gIfS, gRet, gSet, gSetN, gSetIx, gDrop, gRaise, gNext, gApp, gFrz, gTry, gAsg, gFor, gRight, nCallW, zSeq, zRet, dVar, dOwn, dC, d2, d1, dN2, aNil, aCons, dTup, nLst, dCall, dBi, tVal, tNot', tAnd', tOr', dAnd, dOr, dNot, dIf, dChain, dCallK, iRg, iSeq, nLc, tTrue, gNm, wipeD, e_onD, e_onB, e_onI, e_slV, e_slO, e_slOo, e_slOw, e_gI, e_gI0, e_add, e_mul, e_mulL, e_neg, e_ixL, e_ixT, e_ixS, e_isi, e_isN, e_notN, e_isNe, e_isNi, e_isNb, e_isNl, e_isNt, e_isNs, e_lenL, e_lenT, e_lenS, e_abs, e_int, e_intB, e_max, e_min, e_gcd, e_tupL, e_tupT, e_repr, e_sum, e_all, e_any, e_allN, e_allC, e_seqL, e_seqT, e_seqS, e_rg1, e_rg2, e_excN, e_excE, e_val, e_at0, e_at1, e_at2, e_get0, e_get1, e_get2, e_get3, e_get4, e_get5, e_get6, e_get7, e_set0, e_set1, e_set2, e_set3, e_set4, e_set5, e_set6, e_set7, e_ixn0, e_ixn1, e_ixn2, e_ex, List.replicate, List.cons_append, List.nil_append, List.map, fnB]
      rw [if_pos (by rfl)]
      exact ⟨hd.1, it (R := fun zs => R (.d (.list zs))) ⟨j, rfl, hd.2⟩ hR⟩
  | tuple ys =>
    cases j with
    | zero => exact hd.elim
    | succ j =>
      refine ⟨rfl, ?_⟩
      simp only [g_anew, gSeq, gIfS, gRet, gSet, gSetN, gSetIx, gDrop, gRaise, gNext, gApp, gFrz, gTry, gAsg, gFor, gRight, nCallW, zSeq, zRet, dVar, dOwn, dC, d2, d1, dN2, aNil, aCons, dTup, nLst, dCall, dBi, tVal, tNot', tAnd', tOr', dAnd, dOr, dNot, dIf, dChain, dCallK, iRg, iSeq, nLc, tTrue, gNm, wipeD, e_onD, e_onB, e_onI, e_slV, e_slO, e_slOo, e_slOw, e_gI, e_gI0, e_add, e_mul, e_mulL, e_neg, e_ixL, e_ixT, e_ixS, e_isi, e_isN, e_notN, e_isNe, e_isNi, e_isNb, e_isNl, e_isNt, e_isNs, e_lenL, e_lenT, e_lenS, e_abs, e_int, e_intB, e_max, e_min, e_gcd, e_tupL, e_tupT, e_repr, e_sum, e_all, e_any, e_allN, e_allC, e_seqL, e_seqT, e_seqS, e_rg1, e_rg2, e_excN, e_excE, e_val, e_at0, e_at1, e_at2, e_get0, e_get1, e_get2, e_get3, e_get4, e_get5, e_get6, e_get7, e_set0, e_set1, e_set2, e_set3, e_set4, e_set5, e_set6, e_set7, e_ixn0, e_ixn1, e_ixn2, e_ex, List.replicate, List.cons_append, List.nil_append, List.map, fnB]
      rw [if_neg (by simp [subTy, tyD]), if_pos (by rfl)]
      exact ⟨hd.1, it (R := fun zs => R (.d (.tuple zs))) ⟨j, rfl, hd.2⟩ hR⟩
  | _ =>
    refine ⟨rfl, ?_⟩
    simp only [g_anew, gSeq, gIfS, gRet, gSet, gSetN, gSetIx, gDrop, gRaise, gNext, gApp, gFrz, gTry, gAsg, gFor, gRight, nCallW, zSeq, zRet, dVar, dOwn, dC, d2, d1, dN2, aNil, aCons, dTup, nLst, dCall, dBi, tVal, tNot', tAnd', tOr', dAnd, dOr, dNot, dIf, dChain, dCallK, iRg, iSeq, nLc, tTrue, gNm, wipeD, e_onD, e_onB, e_onI, e_slV, e_slO, e_slOo, e_slOw, e_gI, e_gI0, e_add, e_mul, e_mulL, e_neg, e_ixL, e_ixT, e_ixS, e_isi, e_isN, e_notN, e_isNe, e_isNi, e_isNb, e_isNl, e_isNt, e_isNs, e_lenL, e_lenT, e_lenS, e_abs, e_int, e_intB, e_max, e_min, e_gcd, e_tupL, e_tupT, e_repr, e_sum, e_all, e_any, e_allN, e_allC, e_seqL, e_seqT, e_seqS, e_rg1, e_rg2, e_excN, e_excE, e_val, e_at0, e_at1, e_at2, e_get0, e_get1, e_get2, e_get3, e_get4, e_get5, e_get6, e_get7, e_set0, e_set1, e_set2, e_set3, e_set4, e_set5, e_set6, e_set7, e_ixn0, e_ixn1, e_ixn2, e_ex, List.replicate, List.cons_append, List.nil_append, List.map, fnB]
    rw [if_neg (by simp [subTy, tyD]), if_neg (by simp [subTy, tyD])]
    exact hR

/-- the inner walk: the well is lent at each turn -/
theorem turns {D : DEnds} {s0 s1 : Sl} {m K : Nat} (hnx : ∀ s2 s3, D.nx [s0, s1, s2, s3]) : ∀ (xs : List PD) (s3 : Sl) (a b c : Int), WOk (m + xs.length * K) a b c → loopD (gNm 3) (gRight K 2) D xs [s0, s1, .own [.int a, .int b, .int c], s3]
  | [], s3, a, b, c, h => by
    unfold loopD
    exact hnx _ _
  | x :: xs, s3, a, b, c, h => by
    unfold loopD
    simp only [gSeq, gIfS, gRet, gSet, gSetN, gSetIx, gDrop, gRaise, gNext, gApp, gFrz, gTry, gAsg, gFor, gRight, nCallW, zSeq, zRet, dVar, dOwn, dC, d2, d1, dN2, aNil, aCons, dTup, nLst, dCall, dBi, tVal, tNot', tAnd', tOr', dAnd, dOr, dNot, dIf, dChain, dCallK, iRg, iSeq, nLc, tTrue, gNm, wipeD, e_onD, e_onB, e_onI, e_slV, e_slO, e_slOo, e_slOw, e_gI, e_gI0, e_add, e_mul, e_mulL, e_neg, e_ixL, e_ixT, e_ixS, e_isi, e_isN, e_notN, e_isNe, e_isNi, e_isNb, e_isNl, e_isNt, e_isNs, e_lenL, e_lenT, e_lenS, e_abs, e_int, e_intB, e_max, e_min, e_gcd, e_tupL, e_tupT, e_repr, e_sum, e_all, e_any, e_allN, e_allC, e_seqL, e_seqT, e_seqS, e_rg1, e_rg2, e_excN, e_excE, e_val, e_at0, e_at1, e_at2, e_get0, e_get1, e_get2, e_get3, e_get4, e_get5, e_get6, e_get7, e_set0, e_set1, e_set2, e_set3, e_set4, e_set5, e_set6, e_set7, e_ixn0, e_ixn1, e_ixn2, e_ex, List.replicate, List.cons_append, List.nil_append, List.map, fnB]
    refine ⟨a, b, c, m + xs.length * K, rfl, h.le ?_, fun a b c h => turns hnx xs _ a b c h⟩
    rw [List.length_cons, Nat.add_mul]
    omega
theorem outer {D : DEnds} {ns : List Int} (hl : ns.length ≤ 63) (hz : ∀ z ∈ ns, z.natAbs < 2 ^ 1100000) (hnx : ∀ s1 s2 s3, D.nx [.v (.scr ns), s1, s2, s3]) : ∀ (xs : List PD) (s1 s2 s3 : Sl), (∀ x ∈ xs, ∃ k : Int, x = .int k ∧ 0 ≤ k ∧ k < 3) →
    loopD (gNm 1) (gSeq (gSetN 2 (nCallW (aCons (dVar 0) (aCons (dVar 1) aNil)))) (gFor 100000 (iRg rg1 (aCons (dC (.int 4)) aNil)) (gNm 3) (gRight 49286 2))) D xs [.v (.scr ns), s1, s2, s3]
  | [], s1, s2, s3, _ => by
    unfold loopD
    exact hnx _ _ _
  | x :: xs, s1, s2, s3, h => by
    obtain ⟨k, rfl, h0, h1⟩ := h x (by simp)
    unfold loopD
    simp only [gSeq, gIfS, gRet, gSet, gSetN, gSetIx, gDrop, gRaise, gNext, gApp, gFrz, gTry, gAsg, gFor, gRight, nCallW, zSeq, zRet, dVar, dOwn, dC, d2, d1, dN2, aNil, aCons, dTup, nLst, dCall, dBi, tVal, tNot', tAnd', tOr', dAnd, dOr, dNot, dIf, dChain, dCallK, iRg, iSeq, nLc, tTrue, gNm, wipeD, e_onD, e_onB, e_onI, e_slV, e_slO, e_slOo, e_slOw, e_gI, e_gI0, e_add, e_mul, e_mulL, e_neg, e_ixL, e_ixT, e_ixS, e_isi, e_isN, e_notN, e_isNe, e_isNi, e_isNb, e_isNl, e_isNt, e_isNs, e_lenL, e_lenT, e_lenS, e_abs, e_int, e_intB, e_max, e_min, e_gcd, e_tupL, e_tupT, e_repr, e_sum, e_all, e_any, e_allN, e_allC, e_seqL, e_seqT, e_seqS, e_rg1, e_rg2, e_excN, e_excE, e_val, e_at0, e_at1, e_at2, e_get0, e_get1, e_get2, e_get3, e_get4, e_get5, e_get6, e_get7, e_set0, e_set1, e_set2, e_set3, e_set4, e_set5, e_set6, e_set7, e_ixn0, e_ixn1, e_ixn2, e_ex, List.replicate, List.cons_append, List.nil_append, List.map, fnB]
    refine ⟨ns, k, rfl, ⟨h0, by omega, by omega, hz⟩, fun a b c hW => ⟨⟨by decide, by decide⟩, by rw [rngD_len]; decide, turns (m := 0) (K := 49286) (fun s2 s3 => outer hl hz hnx xs _ s2 s3 fun y hy => h y (by simp [hy])) _ _ a b c (hW.le ?_)⟩⟩
    rw [rngD_len]
    decide
theorem ev_law : LawFn 63 m_law := by
  intro ns R hl hz hR
  rw [q_law]
  refine ⟨rfl, ?_⟩
  simp only [g_law, gSeq, gIfS, gRet, gSet, gSetN, gSetIx, gDrop, gRaise, gNext, gApp, gFrz, gTry, gAsg, gFor, gRight, nCallW, zSeq, zRet, dVar, dOwn, dC, d2, d1, dN2, aNil, aCons, dTup, nLst, dCall, dBi, tVal, tNot', tAnd', tOr', dAnd, dOr, dNot, dIf, dChain, dCallK, iRg, iSeq, nLc, tTrue, gNm, wipeD, e_onD, e_onB, e_onI, e_slV, e_slO, e_slOo, e_slOw, e_gI, e_gI0, e_add, e_mul, e_mulL, e_neg, e_ixL, e_ixT, e_ixS, e_isi, e_isN, e_notN, e_isNe, e_isNi, e_isNb, e_isNl, e_isNt, e_isNs, e_lenL, e_lenT, e_lenS, e_abs, e_int, e_intB, e_max, e_min, e_gcd, e_tupL, e_tupT, e_repr, e_sum, e_all, e_any, e_allN, e_allC, e_seqL, e_seqT, e_seqS, e_rg1, e_rg2, e_excN, e_excE, e_val, e_at0, e_at1, e_at2, e_get0, e_get1, e_get2, e_get3, e_get4, e_get5, e_get6, e_get7, e_set0, e_set1, e_set2, e_set3, e_set4, e_set5, e_set6, e_set7, e_ixn0, e_ixn1, e_ixn2, e_ex, List.replicate, List.cons_append, List.nil_append, List.map, fnB]
  refine ⟨?_, ?_, outer hl hz (fun _ _ _ => ?_) _ _ _ _ fun x hx => ?_⟩
  · unfold RgB; split <;> split <;> omega
  · rw [rngD_len]; split <;> split <;> omega
  · simp only [gSeq, gIfS, gRet, gSet, gSetN, gSetIx, gDrop, gRaise, gNext, gApp, gFrz, gTry, gAsg, gFor, gRight, nCallW, zSeq, zRet, dVar, dOwn, dC, d2, d1, dN2, aNil, aCons, dTup, nLst, dCall, dBi, tVal, tNot', tAnd', tOr', dAnd, dOr, dNot, dIf, dChain, dCallK, iRg, iSeq, nLc, tTrue, gNm, wipeD, e_onD, e_onB, e_onI, e_slV, e_slO, e_slOo, e_slOw, e_gI, e_gI0, e_add, e_mul, e_mulL, e_neg, e_ixL, e_ixT, e_ixS, e_isi, e_isN, e_notN, e_isNe, e_isNi, e_isNb, e_isNl, e_isNt, e_isNs, e_lenL, e_lenT, e_lenS, e_abs, e_int, e_intB, e_max, e_min, e_gcd, e_tupL, e_tupT, e_repr, e_sum, e_all, e_any, e_allN, e_allC, e_seqL, e_seqT, e_seqS, e_rg1, e_rg2, e_excN, e_excE, e_val, e_at0, e_at1, e_at2, e_get0, e_get1, e_get2, e_get3, e_get4, e_get5, e_get6, e_get7, e_set0, e_set1, e_set2, e_set3, e_set4, e_set5, e_set6, e_set7, e_ixn0, e_ixn1, e_ixn2, e_ex, List.replicate, List.cons_append, List.nil_append, List.map, fnB]
    exact hR
  · obtain ⟨k, rfl, h0, h1⟩ := rng_nonneg hx
    refine ⟨k, rfl, h0, ?_⟩
    revert h1
    split <;> split <;> omega

/-! basic checks -/
def isInt : PD → Bool
  | .int _ => true
  | _ => false
theorem ev_is_integer {x : PD} {R : DV → Prop} {E : EK} (h : R (.d (.bool (isInt x)))) : m_is_integer [.d x] R E := by
  rw [q_is_integer]
  refine ⟨rfl, ?_⟩
  cases x <;> (simp only [g_is_integer, subTy, tyD]; array_get_dec; exact h)
def isBtw (lo hi : Int) : PD → Bool
  | .int i => decide (lo ≤ i) && decide (i ≤ hi)
  | _ => false
def isTup (lo hi : Int) : PD → Bool
  | .tuple xs => decide (lo ≤ xs.length) && decide ((xs.length : Int) ≤ hi)
  | _ => false
theorem ev_is_tuple {x : PD} {lo hi : Int} {R : DV → Prop} {E : EK} (h : R (.d (.bool (isTup lo hi x)))) : m_is_tuple [.d x, .d (.int lo), .d (.int hi)] R E := by
  rw [q_is_tuple]
  refine ⟨rfl, ?_⟩
  cases x with
  | tuple xs =>
    simp only [g_is_tuple]
    array_get_dec
    refine ite_t rfl ?_
    unfold isTup at h
    by_cases h1 : lo ≤ (xs.length : Int)
    · refine ite_t (decide_eq_true h1) ?_
      simpa [h1] using h
    · refine ite_f (decide_eq_false h1) ?_
      simpa [h1] using h
  | _ =>
    simp only [g_is_tuple]
    array_get_dec
    exact ite_f rfl h

/-! what is told of an error -/
def toldD (c : Int) (x : PD) : PD := .tuple [.list [.int c], .str x.shown]
theorem cp_told {c : Int} {v : PD} {e n : Nat} (hv : Rp e n v) : Cp 2 (toldD c v) := Cp.tup (CpA.cons (Cp.list (CpA.cons Cp.int CpA.nil)) (CpA.cons (Cp.str hv.st) CpA.nil))
theorem cpA_repl {e : Nat} {d : PD} (h : Cp e d) : ∀ k, CpA e (List.replicate k d)
  | 0 => CpA.nil
  | k + 1 => CpA.cons h (cpA_repl h k)
theorem flat_repl {α : Type} (d : α) : ∀ k, (List.replicate k [d]).flatten = List.replicate k d
  | 0 => rfl
  | k + 1 => by rw [List.replicate_succ, List.flatten_cons, flat_repl d k]; rfl
theorem sum_le {α : Type} {f : α → Int} {B : Nat} : ∀ {l : List α}, (∀ x ∈ l, (f x).natAbs ≤ B) → ((l.map f).sum).natAbs ≤ l.length * B
  | [], _ => by simp
  | a :: l, h => by
    have h1 := h a (by simp)
    have h2 := sum_le (l := l) fun x hx => h x (by simp [hx])
    simp only [List.map_cons, List.sum_cons, List.length_cons, Nat.add_mul]
    have := Int.natAbs_add_le (f a) (l.map f).sum
    omega
theorem mb_prod {b : Nat} {i j : Int} (h : MB b i) (k : MB b j) : (i * j).natAbs ≤ 2 ^ (b + b) := Nat.le_of_lt (h.mul k)
theorem rpA_le {e n e' n' : Nat} {d : List PD} (h : RpA e n d) (h1 : e ≤ e') (h2 : n ≤ n') : RpA e' n' d := ⟨h.sh, h.ls, h.cl, Nat.le_trans h.dp h1, Nat.le_trans h.wt h2, h.st⟩
theorem rpA_app {e n m : Nat} : ∀ {xs ys : List PD}, RpA e n xs → RpA e m ys → RpA e (n + m) (xs ++ ys)
  | [], ys, _, h => rpA_le h (Nat.le_refl _) (by omega)
  | x :: xs, ys, h, k => by
    have hx : PyData.showable x = true ∧ PyData.showableAll xs = true := by
      have := h.sh
      simp only [PyData.showableAll, Bool.and_eq_true] at this
      exact this
    have hl : PyData.leavesShort 600 x = true ∧ PyData.leavesShortAll 600 xs = true := by
      have := h.ls
      simp only [PyData.leavesShortAll, Bool.and_eq_true] at this
      exact this
    have hc : PyData.canLay0 x = true ∧ PyData.canLayAll0 xs = true := by
      have := h.cl
      simp only [PyData.canLayAll0, Bool.and_eq_true] at this
      exact this
    have hd := h.dp
    have hw := h.wt
    simp only [PyData.depthAll, PyData.weightAll] at hd hw
    have r1 : Rp e x.weight x := ⟨hx.1, hl.1, hc.1, by omega, Nat.le_refl _, h.st _ (by show x.shown ∈ x.shown :: PyData.shownAll xs; simp)⟩
    have r2 : RpA e (PyData.weightAll xs) xs := ⟨hx.2, hl.2, hc.2, by omega, Nat.le_refl _, fun t ht => h.st t (by show t ∈ x.shown :: PyData.shownAll xs; simp [ht])⟩
    exact rpA_le (RpA.cons r1 (rpA_app r2 k)) (Nat.le_refl _) (by omega)
theorem cutL_1 {α : Type} (xs : List α) : cutL xs (some 1) none = xs.drop 1 := by
  unfold cutL HT.sIx
  cases xs with
  | nil => simp
  | cons a r => simp <;> omega
theorem cutL_m1 {α : Type} (xs : List α) : cutL xs none (some (-1)) = xs.dropLast := by
  unfold cutL HT.sIx
  rw [List.dropLast_eq_take]
  cases xs with
  | nil => simp
  | cons a r =>
    simp
    congr 1
    omega
theorem all2_len {α β : Type} {r : α → β → Prop} {l : List α} {k : List β} (h : All2 r l k) : k.length = l.length := by
  induction h with
  | nil => rfl
  | cons _ _ ih => rw [List.length_cons, List.length_cons, ih]
theorem all2_mem {α β : Type} {r : α → β → Prop} {P : β → Prop} (hp : ∀ a b, r a b → P b) {l : List α} {k : List β} (h : All2 r l k) : ∀ y ∈ k, P y := by
  induction h with
  | nil => intro y hy; cases hy
  | cons h _ ih =>
    intro y hy
    rcases List.mem_cons.mp hy with rfl | hy
    · exact hp _ _ h
    · exact ih y hy

/-! primes, fractions -/
def primes : List Int := [0, 2, 3, 5, 7, 11, 13]
def isPrime : PD → Bool
  | .int i => primes.any fun j => j == i
  | _ => false
theorem ev_is_prime_in {x : PD} {R : DV → Prop} {E : EK} (h : R (.d (.bool (isPrime x)))) : m_is_prime_in [.d x] R E := by
  rw [q_is_prime_in]
  refine ⟨rfl, ?_⟩
  simp only [g_is_prime_in, gSeq, gIfS, gRet, gSet, gSetN, gSetIx, gDrop, gRaise, gNext, gApp, gFrz, gTry, gAsg, gFor, gRight, nCallW, zSeq, zRet, dVar, dOwn, dC, d2, d1, dN2, aNil, aCons, dTup, nLst, dCall, dBi, tVal, tNot', tAnd', tOr', dAnd, dOr, dNot, dIf, dChain, dCallK, iRg, iSeq, nLc, tTrue, gNm, wipeD, e_onD, e_onB, e_onI, e_slV, e_slO, e_slOo, e_slOw, e_gI, e_gI0, e_add, e_mul, e_mulL, e_neg, e_ixL, e_ixT, e_ixS, e_isi, e_isN, e_notN, e_isNe, e_isNi, e_isNb, e_isNl, e_isNt, e_isNs, e_lenL, e_lenT, e_lenS, e_abs, e_int, e_intB, e_max, e_min, e_gcd, e_tupL, e_tupT, e_repr, e_sum, e_all, e_any, e_allN, e_allC, e_seqL, e_seqT, e_seqS, e_rg1, e_rg2, e_excN, e_excE, e_val, e_at0, e_at1, e_at2, e_get0, e_get1, e_get2, e_get3, e_get4, e_get5, e_get6, e_get7, e_set0, e_set1, e_set2, e_set3, e_set4, e_set5, e_set6, e_set7, e_ixn0, e_ixn1, e_ixn2, e_ex, List.replicate, List.cons_append, List.nil_append, List.map, fnB]
  apply ev_is_integer
  simp only [gSeq, gIfS, gRet, gSet, gSetN, gSetIx, gDrop, gRaise, gNext, gApp, gFrz, gTry, gAsg, gFor, gRight, nCallW, zSeq, zRet, dVar, dOwn, dC, d2, d1, dN2, aNil, aCons, dTup, nLst, dCall, dBi, tVal, tNot', tAnd', tOr', dAnd, dOr, dNot, dIf, dChain, dCallK, iRg, iSeq, nLc, tTrue, gNm, wipeD, e_onD, e_onB, e_onI, e_slV, e_slO, e_slOo, e_slOw, e_gI, e_gI0, e_add, e_mul, e_mulL, e_neg, e_ixL, e_ixT, e_ixS, e_isi, e_isN, e_notN, e_isNe, e_isNi, e_isNb, e_isNl, e_isNt, e_isNs, e_lenL, e_lenT, e_lenS, e_abs, e_int, e_intB, e_max, e_min, e_gcd, e_tupL, e_tupT, e_repr, e_sum, e_all, e_any, e_allN, e_allC, e_seqL, e_seqT, e_seqS, e_rg1, e_rg2, e_excN, e_excE, e_val, e_at0, e_at1, e_at2, e_get0, e_get1, e_get2, e_get3, e_get4, e_get5, e_get6, e_get7, e_set0, e_set1, e_set2, e_set3, e_set4, e_set5, e_set6, e_set7, e_ixn0, e_ixn1, e_ixn2, e_ex, List.replicate, List.cons_append, List.nil_append, List.map, fnB]
  cases x with
  | int i =>
    simp only [isInt, if_true, gSeq, gIfS, gRet, gSet, gSetN, gSetIx, gDrop, gRaise, gNext, gApp, gFrz, gTry, gAsg, gFor, gRight, nCallW, zSeq, zRet, dVar, dOwn, dC, d2, d1, dN2, aNil, aCons, dTup, nLst, dCall, dBi, tVal, tNot', tAnd', tOr', dAnd, dOr, dNot, dIf, dChain, dCallK, iRg, iSeq, nLc, tTrue, gNm, wipeD, e_onD, e_onB, e_onI, e_slV, e_slO, e_slOo, e_slOw, e_gI, e_gI0, e_add, e_mul, e_mulL, e_neg, e_ixL, e_ixT, e_ixS, e_isi, e_isN, e_notN, e_isNe, e_isNi, e_isNb, e_isNl, e_isNt, e_isNs, e_lenL, e_lenT, e_lenS, e_abs, e_int, e_intB, e_max, e_min, e_gcd, e_tupL, e_tupT, e_repr, e_sum, e_all, e_any, e_allN, e_allC, e_seqL, e_seqT, e_seqS, e_rg1, e_rg2, e_excN, e_excE, e_val, e_at0, e_at1, e_at2, e_get0, e_get1, e_get2, e_get3, e_get4, e_get5, e_get6, e_get7, e_set0, e_set1, e_set2, e_set3, e_set4, e_set5, e_set6, e_set7, e_ixn0, e_ixn1, e_ixn2, e_ex, List.replicate, List.cons_append, List.nil_append, List.map, fnB]
    refine ⟨rfl, rfl, ?_⟩
    have e : ([PyData.int 0, .int 2, .int 3, .int 5, .int 7, .int 11, .int 13].any fun z => PyData.eqv z (.int i)) = isPrime (.int i) := by
      simp [isPrime, primes, PyData.eqv]
    show R (.d (.bool ([PyData.int 0, .int 2, .int 3, .int 5, .int 7, .int 11, .int 13].any fun z => PyData.eqv z (.int i))))
    rw [e]
    exact h
  | _ =>
    simp only [isInt, gSeq, gIfS, gRet, gSet, gSetN, gSetIx, gDrop, gRaise, gNext, gApp, gFrz, gTry, gAsg, gFor, gRight, nCallW, zSeq, zRet, dVar, dOwn, dC, d2, d1, dN2, aNil, aCons, dTup, nLst, dCall, dBi, tVal, tNot', tAnd', tOr', dAnd, dOr, dNot, dIf, dChain, dCallK, iRg, iSeq, nLc, tTrue, gNm, wipeD, e_onD, e_onB, e_onI, e_slV, e_slO, e_slOo, e_slOw, e_gI, e_gI0, e_add, e_mul, e_mulL, e_neg, e_ixL, e_ixT, e_ixS, e_isi, e_isN, e_notN, e_isNe, e_isNi, e_isNb, e_isNl, e_isNt, e_isNs, e_lenL, e_lenT, e_lenS, e_abs, e_int, e_intB, e_max, e_min, e_gcd, e_tupL, e_tupT, e_repr, e_sum, e_all, e_any, e_allN, e_allC, e_seqL, e_seqT, e_seqS, e_rg1, e_rg2, e_excN, e_excE, e_val, e_at0, e_at1, e_at2, e_get0, e_get1, e_get2, e_get3, e_get4, e_get5, e_get6, e_get7, e_set0, e_set1, e_set2, e_set3, e_set4, e_set5, e_set6, e_set7, e_ixn0, e_ixn1, e_ixn2, e_ex, List.replicate, List.cons_append, List.nil_append, List.map, fnB]
    exact h
/-! fractions -/
def fr (q : Rat) : PD := .tuple [.int q.num, .int (q.den : Int)]
def sg (m : Int) : Int := if m < 0 then -1 else 1
theorem sg_sign {m : Int} (h : m ≠ 0) : m.sign = sg m := by
  unfold sg
  split
  · exact Int.sign_eq_neg_one_of_neg (by assumption)
  · exact Int.sign_eq_one_of_pos (by omega)
theorem gcd_pos' {n m : Int} (h : m ≠ 0) : 0 < Nat.gcd n.natAbs m.natAbs := Nat.gcd_pos_of_pos_right _ (by omega)
theorem num_eq {n m : Int} (h : m ≠ 0) : (Rat.divInt n m).num = (sg m * n) / ((Nat.gcd n.natAbs m.natAbs : Nat) : Int) := by
  rw [Rat.num_divInt, sg_sign h]
  unfold Int.gcd
  rw [Nat.gcd_comm]
theorem den_eq {n m : Int} (h : m ≠ 0) : ((Rat.divInt n m).den : Int) = (sg m * m) / ((Nat.gcd n.natAbs m.natAbs : Nat) : Int) := by
  rw [Rat.den_divInt, if_neg h]
  unfold Int.gcd
  rw [Nat.gcd_comm]
  have : sg m * m = (m.natAbs : Int) := by unfold sg; split <;> omega
  rw [this]
  norm_cast
theorem fdiv_g {n m : Int} (h : m ≠ 0) (k : Int) : (sg m * k).fdiv ((Nat.gcd n.natAbs m.natAbs : Nat) : Int) = (sg m * k) / ((Nat.gcd n.natAbs m.natAbs : Nat) : Int) :=
  Int.fdiv_eq_ediv_of_nonneg _ (by omega)
theorem fr_cut {n m : Int} (h : m ≠ 0) : fr (Rat.divInt n m) = .tuple [.int ((sg m * n).fdiv ((Nat.gcd n.natAbs m.natAbs : Nat) : Int)), .int ((sg m * m).fdiv ((Nat.gcd n.natAbs m.natAbs : Nat) : Int))] := by
  unfold fr
  rw [num_eq h, den_eq h, fdiv_g h, fdiv_g h]
theorem fdiv_sg {g m k : Int} (hg : 0 < g) (hd : g ∣ k) : k.fdiv (sg m * g) = (sg m * k).fdiv g := by
  obtain ⟨c, rfl⟩ := hd
  unfold sg
  split
  · rw [show (-1 : Int) * g = -g by omega, show g * c = (-g) * (-c) by rw [Int.neg_mul_neg], Int.mul_fdiv_cancel_left _ (by omega), show (-1 : Int) * (-g * -c) = g * (-c) by rw [Int.neg_mul_neg, Int.mul_neg]; omega, Int.mul_fdiv_cancel_left _ (by omega)]
  · rw [Int.one_mul, Int.one_mul]
theorem gcd_le' {n m : Int} (h : m ≠ 0) : Nat.gcd n.natAbs m.natAbs ≤ m.natAbs := Nat.le_of_dvd (by omega) (Nat.gcd_dvd_right _ _)
theorem fdivOkG {n m : Int} {a : Nat} (h : m ≠ 0) (hb : MB a m) (ha : a ≤ 9000) (s : Int) (hs : s = 1 ∨ s = -1) : FdivOk n (s * ((Nat.gcd n.natAbs m.natAbs : Nat) : Int)) := by
  have g1 := gcd_pos' (n := n) h
  have g2 := gcd_le' (n := n) h
  refine ⟨?_, ?_⟩
  · rcases hs with rfl | rfl <;> omega
  · have : (s * ((Nat.gcd n.natAbs m.natAbs : Nat) : Int)).natAbs ≤ m.natAbs := by rcases hs with rfl | rfl <;> omega
    exact Nat.lt_of_le_of_lt this (MB.le hb ha)
def Pp (p : Int) : Prop := p = 2 ∨ p = 3 ∨ p = 5 ∨ p = 7 ∨ p = 11 ∨ p = 13
theorem Pp.pos {p : Int} (h : Pp p) : 0 < p := by rcases h with rfl | rfl | rfl | rfl | rfl | rfl <;> decide
theorem Pp.le {p : Int} (h : Pp p) : p ≤ 13 := by rcases h with rfl | rfl | rfl | rfl | rfl | rfl <;> decide
theorem mb_divInt {n m : Int} {a b : Nat} (h : m ≠ 0) (hn : MB a n) (hm : MB b m) : MB a (Rat.divInt n m).num ∧ MB b ((Rat.divInt n m).den : Int) := by
  have g1 := gcd_pos' (n := n) h
  rw [num_eq h, den_eq h]
  have le : ∀ (k g : Int), 0 < g → (sg m * k / g).natAbs ≤ k.natAbs := fun k g hg => by
    have e : (sg m * k).natAbs = k.natAbs := by unfold sg; split <;> simp
    rw [← e]
    have e2 := Int.natAbs_ediv_le_natAbs (sg m * k) g
    exact e2
  exact ⟨Nat.lt_of_le_of_lt (le n _ (by omega)) hn, Nat.lt_of_le_of_lt (le m _ (by omega)) hm⟩
theorem den_pos (r : Rat) : 0 < (r.den : Int) := by have := r.den_pos; omega
theorem add_div (a b : Rat) : a + b = Rat.divInt (a.num * b.den + b.num * a.den) (a.den * b.den) := by
  rw [Rat.add_def']
  rw [show ((a.den : Int) * (b.den : Int)) = ((a.den * b.den : Nat) : Int) by norm_cast]
  rfl
theorem mul_div (a b : Rat) : a * b = Rat.divInt (a.num * b.num) (a.den * b.den) := by
  rw [Rat.mul_def']
  rw [show ((a.den : Int) * (b.den : Int)) = ((a.den * b.den : Nat) : Int) by norm_cast]
  rfl
theorem dd_ne (a b : Rat) : (a.den : Int) * (b.den : Int) ≠ 0 := by
  have := Int.mul_pos (den_pos a) (den_pos b)
  omega
theorem fmod_e {i p : Int} (h : 0 ≤ p) : i.fmod p = i % p := Int.fmod_eq_emod_of_nonneg _ h
def Pz (p : Int) : Prop := p = 0 ∨ Pp p
theorem isPrime_ok {p : Int} (h : Pz p) : isPrime (.int p) = true := by rcases h with rfl | rfl | rfl | rfl | rfl | rfl | rfl <;> decide
theorem fr_int (k : Int) : fr (Rat.divInt k 1) = .tuple [.int k, .int 1] := by
  rw [fr_cut (by decide)]
  simp [sg]

/-! fraction_in -/
theorem ev_fraction_in {n m : Int} {a : Nat} {R : DV → Prop} {E : EK} (h : m ≠ 0) (hb : MB a m) (ha : a ≤ 9000) (hR : R (.d (fr (Rat.divInt n m)))) : m_fraction_in [.d (.int n), .d (.int m)] R E := by
  rw [q_fraction_in]
  refine ⟨rfl, ?_⟩
  have g1 := gcd_pos' (n := n) h
  have dv1 : ((Nat.gcd n.natAbs m.natAbs : Nat) : Int) ∣ n := Int.ofNat_dvd_left.mpr (Nat.gcd_dvd_left _ _)
  have dv2 : ((Nat.gcd n.natAbs m.natAbs : Nat) : Int) ∣ m := Int.ofNat_dvd_left.mpr (Nat.gcd_dvd_right _ _)
  rw [fr_cut h, ← fdiv_sg (by omega) dv1, ← fdiv_sg (by omega) dv2] at hR
  simp only [g_fraction_in, gSeq, gIfS, gRet, gSet, gSetN, gSetIx, gDrop, gRaise, gNext, gApp, gFrz, gTry, gAsg, gFor, gRight, nCallW, zSeq, zRet, dVar, dOwn, dC, d2, d1, dN2, aNil, aCons, dTup, nLst, dCall, dBi, tVal, tNot', tAnd', tOr', dAnd, dOr, dNot, dIf, dChain, dCallK, iRg, iSeq, nLc, tTrue, gNm, wipeD, e_onD, e_onB, e_onI, e_slV, e_slO, e_slOo, e_slOw, e_gI, e_gI0, e_add, e_mul, e_mulL, e_neg, e_ixL, e_ixT, e_ixS, e_isi, e_isN, e_notN, e_isNe, e_isNi, e_isNb, e_isNl, e_isNt, e_isNs, e_lenL, e_lenT, e_lenS, e_abs, e_int, e_intB, e_max, e_min, e_gcd, e_tupL, e_tupT, e_repr, e_sum, e_all, e_any, e_allN, e_allC, e_seqL, e_seqT, e_seqS, e_rg1, e_rg2, e_excN, e_excE, e_val, e_at0, e_at1, e_at2, e_get0, e_get1, e_get2, e_get3, e_get4, e_get5, e_get6, e_get7, e_set0, e_set1, e_set2, e_set3, e_set4, e_set5, e_set6, e_set7, e_ixn0, e_ixn1, e_ixn2, e_ex, List.replicate, List.cons_append, List.nil_append, List.map, fnB]
  by_cases hm : m < 0
  · rw [if_pos (decide_eq_true hm)]
    have e : sg m * ((Nat.gcd n.natAbs m.natAbs : Nat) : Int) = -((Nat.gcd n.natAbs m.natAbs : Nat) : Int) := by unfold sg; rw [if_pos hm]; omega
    rw [e] at hR
    have f := fdivOkG (n := n) h hb ha (-1) (.inr rfl)
    rw [show (-1 : Int) * ((Nat.gcd n.natAbs m.natAbs : Nat) : Int) = -((Nat.gcd n.natAbs m.natAbs : Nat) : Int) by omega] at f
    exact ⟨f, f, (by show 2 ≤ 100000; decide), hR⟩
  · rw [if_neg (show ¬ decide (m < 0) = true by rw [decide_eq_true_eq]; exact hm)]
    have e : sg m * ((Nat.gcd n.natAbs m.natAbs : Nat) : Int) = ((Nat.gcd n.natAbs m.natAbs : Nat) : Int) := by unfold sg; rw [if_neg hm]; omega
    rw [e] at hR
    have f := fdivOkG (n := n) h hb ha 1 (.inl rfl)
    rw [Int.one_mul] at f
    exact ⟨f, f, (by show 2 ≤ 100000; decide), hR⟩

/-! _law_cut -/
theorem ev_law_cut {n m : Int} {a : Nat} {R : DV → Prop} {E : EK} (h : m ≠ 0) (hb : MB a m) (ha : a ≤ 9000) (hn : MB 9000 n) (hR : R (.d (fr (Rat.divInt n m)))) : m__law_cut [.d (.int n), .d (.int m)] R E := by
  rw [q__law_cut]
  refine ⟨rfl, ?_⟩
  rw [fr_cut h] at hR
  simp only [g__law_cut, gSeq, gIfS, gRet, gSet, gSetN, gSetIx, gDrop, gRaise, gNext, gApp, gFrz, gTry, gAsg, gFor, gRight, nCallW, zSeq, zRet, dVar, dOwn, dC, d2, d1, dN2, aNil, aCons, dTup, nLst, dCall, dBi, tVal, tNot', tAnd', tOr', dAnd, dOr, dNot, dIf, dChain, dCallK, iRg, iSeq, nLc, tTrue, gNm, wipeD, e_onD, e_onB, e_onI, e_slV, e_slO, e_slOo, e_slOw, e_gI, e_gI0, e_add, e_mul, e_mulL, e_neg, e_ixL, e_ixT, e_ixS, e_isi, e_isN, e_notN, e_isNe, e_isNi, e_isNb, e_isNl, e_isNt, e_isNs, e_lenL, e_lenT, e_lenS, e_abs, e_int, e_intB, e_max, e_min, e_gcd, e_tupL, e_tupT, e_repr, e_sum, e_all, e_any, e_allN, e_allC, e_seqL, e_seqT, e_seqS, e_rg1, e_rg2, e_excN, e_excE, e_val, e_at0, e_at1, e_at2, e_get0, e_get1, e_get2, e_get3, e_get4, e_get5, e_get6, e_get7, e_set0, e_set1, e_set2, e_set3, e_set4, e_set5, e_set6, e_set7, e_ixn0, e_ixn1, e_ixn2, e_ex, List.replicate, List.cons_append, List.nil_append, List.map, fnB, gPar, gWhile]
  have g1 := gcd_pos' (n := n) h
  refine ⟨fun k ρ => ∃ x y : Int, ∃ s : Sl, ρ = [.v (.d (.int n)), .v (.d (.int m)), .v (.d (.int x)), .v (.d (.int y)), s] ∧ 0 ≤ x ∧ 0 ≤ y ∧ k = y.toNat ∧ Nat.gcd x.natAbs y.natAbs = Nat.gcd n.natAbs m.natAbs, ⟨_, _, _, _, rfl, by omega, by omega, rfl, by rw [Int.natAbs_natCast, Int.natAbs_natCast]⟩, ?_⟩
  rintro k ρ ⟨x, y, s, rfl, hx, hy, rfl, hg⟩
  simp only [gSeq, gIfS, gRet, gSet, gSetN, gSetIx, gDrop, gRaise, gNext, gApp, gFrz, gTry, gAsg, gFor, gRight, nCallW, zSeq, zRet, dVar, dOwn, dC, d2, d1, dN2, aNil, aCons, dTup, nLst, dCall, dBi, tVal, tNot', tAnd', tOr', dAnd, dOr, dNot, dIf, dChain, dCallK, iRg, iSeq, nLc, tTrue, gNm, wipeD, e_onD, e_onB, e_onI, e_slV, e_slO, e_slOo, e_slOw, e_gI, e_gI0, e_add, e_mul, e_mulL, e_neg, e_ixL, e_ixT, e_ixS, e_isi, e_isN, e_notN, e_isNe, e_isNi, e_isNb, e_isNl, e_isNt, e_isNs, e_lenL, e_lenT, e_lenS, e_abs, e_int, e_intB, e_max, e_min, e_gcd, e_tupL, e_tupT, e_repr, e_sum, e_all, e_any, e_allN, e_allC, e_seqL, e_seqT, e_seqS, e_rg1, e_rg2, e_excN, e_excE, e_val, e_at0, e_at1, e_at2, e_get0, e_get1, e_get2, e_get3, e_get4, e_get5, e_get6, e_get7, e_set0, e_set1, e_set2, e_set3, e_set4, e_set5, e_set6, e_set7, e_ixn0, e_ixn1, e_ixn2, e_ex, List.replicate, List.cons_append, List.nil_append, List.map, fnB]
  by_cases hy0 : 0 < y
  · rw [if_pos (decide_eq_true hy0)]
    refine ⟨by omega, (x.fmod y).toNat, ?_, y, x.fmod y, s, rfl, hy, fmod_nn hy0, rfl, ?_⟩
    · have := fmod_lt (i := x) hy0
      have := fmod_nn (i := x) hy0
      omega
    · rw [← hg, Int.fmod_eq_emod_of_nonneg _ hy]
      have e : (x % y).natAbs = x.natAbs % y.natAbs := by
        rw [Int.natAbs_emod_of_nonneg hx]
      rw [e, Nat.gcd_comm x.natAbs]
      exact (Nat.gcd_rec y.natAbs x.natAbs).symm ▸ (Nat.gcd_comm _ _)
  · rw [if_neg (show ¬ decide (0 < y) = true by rw [decide_eq_true_eq]; exact hy0)]
    have y0 : y = 0 := by omega
    subst y0
    have hx2 : x = ((Nat.gcd n.natAbs m.natAbs : Nat) : Int) := by
      rw [← hg]
      simp
      omega
    subst hx2
    have f1 := fdivOkG (n := n) h hb ha 1 (.inl rfl)
    rw [Int.one_mul] at f1
    have f : FdivOk (n) ((Nat.gcd n.natAbs m.natAbs : Nat) : Int) := f1
    have mo : ∀ z : Int, MB 9000 z → MulOk (-1) z ∧ MulOk 1 z := fun z hz => ⟨MB.ok (a := 1) (by unfold MB; decide) hz (by decide), MB.ok (a := 1) (by unfold MB; decide) hz (by decide)⟩
    have e1 := (mo n hn)
    have e2 := (mo m (hb.le ha))
    by_cases hm : m < 0
    · rw [if_pos (decide_eq_true hm)]
      have e : sg m = -1 := by unfold sg; rw [if_pos hm]
      rw [e] at hR
      exact ⟨e1.1, f, e2.1, f, (by show 2 ≤ 100000; decide), hR⟩
    · rw [if_neg (show ¬ decide (m < 0) = true by rw [decide_eq_true_eq]; exact hm)]
      have e : sg m = 1 := by unfold sg; rw [if_neg hm]
      rw [e] at hR
      exact ⟨e1.2, f, e2.2, f, (by show 2 ≤ 100000; decide), hR⟩

/-! is_scalar_in -/
def isSc (p : Int) (x : PD) : Bool := if 0 < p then (match x with
    | .int i => decide (0 ≤ i) && decide (i < p)
    | _ => false) else (match x with
    | .tuple [.int a, .int b] => decide (1 ≤ b) && decide (Nat.gcd a.natAbs b.natAbs = 1)
    | _ => false)
theorem ev_is_scalar_in {p : Int} {x : PD} {R : DV → Prop} {E : EK} (h : R (.d (.bool (isSc p x)))) : m_is_scalar_in [.d (.int p), .d x] R E := by
  rw [q_is_scalar_in]
  refine ⟨rfl, ?_⟩
  simp only [g_is_scalar_in, gSeq, gIfS, gRet, gSet, gSetN, gSetIx, gDrop, gRaise, gNext, gApp, gFrz, gTry, gAsg, gFor, gRight, nCallW, zSeq, zRet, dVar, dOwn, dC, d2, d1, dN2, aNil, aCons, dTup, nLst, dCall, dBi, tVal, tNot', tAnd', tOr', dAnd, dOr, dNot, dIf, dChain, dCallK, iRg, iSeq, nLc, tTrue, gNm, wipeD, e_onD, e_onB, e_onI, e_slV, e_slO, e_slOo, e_slOw, e_gI, e_gI0, e_add, e_mul, e_mulL, e_neg, e_ixL, e_ixT, e_ixS, e_isi, e_isN, e_notN, e_isNe, e_isNi, e_isNb, e_isNl, e_isNt, e_isNs, e_lenL, e_lenT, e_lenS, e_abs, e_int, e_intB, e_max, e_min, e_gcd, e_tupL, e_tupT, e_repr, e_sum, e_all, e_any, e_allN, e_allC, e_seqL, e_seqT, e_seqS, e_rg1, e_rg2, e_excN, e_excE, e_val, e_at0, e_at1, e_at2, e_get0, e_get1, e_get2, e_get3, e_get4, e_get5, e_get6, e_get7, e_set0, e_set1, e_set2, e_set3, e_set4, e_set5, e_set6, e_set7, e_ixn0, e_ixn1, e_ixn2, e_ex, List.replicate, List.cons_append, List.nil_append, List.map, fnB]
  by_cases hp : 0 < p
  · refine ite_t (decide_eq_true hp) (ev_is_integer ?_)
    simp only [gSeq, gIfS, gRet, gSet, gSetN, gSetIx, gDrop, gRaise, gNext, gApp, gFrz, gTry, gAsg, gFor, gRight, nCallW, zSeq, zRet, dVar, dOwn, dC, d2, d1, dN2, aNil, aCons, dTup, nLst, dCall, dBi, tVal, tNot', tAnd', tOr', dAnd, dOr, dNot, dIf, dChain, dCallK, iRg, iSeq, nLc, tTrue, gNm, wipeD, e_onD, e_onB, e_onI, e_slV, e_slO, e_slOo, e_slOw, e_gI, e_gI0, e_add, e_mul, e_mulL, e_neg, e_ixL, e_ixT, e_ixS, e_isi, e_isN, e_notN, e_isNe, e_isNi, e_isNb, e_isNl, e_isNt, e_isNs, e_lenL, e_lenT, e_lenS, e_abs, e_int, e_intB, e_max, e_min, e_gcd, e_tupL, e_tupT, e_repr, e_sum, e_all, e_any, e_allN, e_allC, e_seqL, e_seqT, e_seqS, e_rg1, e_rg2, e_excN, e_excE, e_val, e_at0, e_at1, e_at2, e_get0, e_get1, e_get2, e_get3, e_get4, e_get5, e_get6, e_get7, e_set0, e_set1, e_set2, e_set3, e_set4, e_set5, e_set6, e_set7, e_ixn0, e_ixn1, e_ixn2, e_ex, List.replicate, List.cons_append, List.nil_append, List.map, fnB]
    unfold isSc at h
    rw [if_pos hp] at h
    cases x with
    | int i =>
      simp only [isInt, if_true, gSeq, gIfS, gRet, gSet, gSetN, gSetIx, gDrop, gRaise, gNext, gApp, gFrz, gTry, gAsg, gFor, gRight, nCallW, zSeq, zRet, dVar, dOwn, dC, d2, d1, dN2, aNil, aCons, dTup, nLst, dCall, dBi, tVal, tNot', tAnd', tOr', dAnd, dOr, dNot, dIf, dChain, dCallK, iRg, iSeq, nLc, tTrue, gNm, wipeD, e_onD, e_onB, e_onI, e_slV, e_slO, e_slOo, e_slOw, e_gI, e_gI0, e_add, e_mul, e_mulL, e_neg, e_ixL, e_ixT, e_ixS, e_isi, e_isN, e_notN, e_isNe, e_isNi, e_isNb, e_isNl, e_isNt, e_isNs, e_lenL, e_lenT, e_lenS, e_abs, e_int, e_intB, e_max, e_min, e_gcd, e_tupL, e_tupT, e_repr, e_sum, e_all, e_any, e_allN, e_allC, e_seqL, e_seqT, e_seqS, e_rg1, e_rg2, e_excN, e_excE, e_val, e_at0, e_at1, e_at2, e_get0, e_get1, e_get2, e_get3, e_get4, e_get5, e_get6, e_get7, e_set0, e_set1, e_set2, e_set3, e_set4, e_set5, e_set6, e_set7, e_ixn0, e_ixn1, e_ixn2, e_ex, List.replicate, List.cons_append, List.nil_append, List.map, fnB]
      by_cases h0 : 0 ≤ i
      · refine ite_t (decide_eq_true h0) ?_
        simpa [h0] using h
      · refine ite_f (decide_eq_false h0) ?_
        simpa [h0] using h
    | _ => exact h
  · refine ite_f (decide_eq_false hp) (ev_is_tuple ?_)
    unfold isSc at h
    rw [if_neg hp] at h
    simp only [gSeq, gIfS, gRet, gSet, gSetN, gSetIx, gDrop, gRaise, gNext, gApp, gFrz, gTry, gAsg, gFor, gRight, nCallW, zSeq, zRet, dVar, dOwn, dC, d2, d1, dN2, aNil, aCons, dTup, nLst, dCall, dBi, tVal, tNot', tAnd', tOr', dAnd, dOr, dNot, dIf, dChain, dCallK, iRg, iSeq, nLc, tTrue, gNm, wipeD, e_onD, e_onB, e_onI, e_slV, e_slO, e_slOo, e_slOw, e_gI, e_gI0, e_add, e_mul, e_mulL, e_neg, e_ixL, e_ixT, e_ixS, e_isi, e_isN, e_notN, e_isNe, e_isNi, e_isNb, e_isNl, e_isNt, e_isNs, e_lenL, e_lenT, e_lenS, e_abs, e_int, e_intB, e_max, e_min, e_gcd, e_tupL, e_tupT, e_repr, e_sum, e_all, e_any, e_allN, e_allC, e_seqL, e_seqT, e_seqS, e_rg1, e_rg2, e_excN, e_excE, e_val, e_at0, e_at1, e_at2, e_get0, e_get1, e_get2, e_get3, e_get4, e_get5, e_get6, e_get7, e_set0, e_set1, e_set2, e_set3, e_set4, e_set5, e_set6, e_set7, e_ixn0, e_ixn1, e_ixn2, e_ex, List.replicate, List.cons_append, List.nil_append, List.map, fnB]
    cases x with
    | tuple xs =>
      match xs, h with
      | [], h =>
        simp only [gSeq, gIfS, gRet, gSet, gSetN, gSetIx, gDrop, gRaise, gNext, gApp, gFrz, gTry, gAsg, gFor, gRight, nCallW, zSeq, zRet, dVar, dOwn, dC, d2, d1, dN2, aNil, aCons, dTup, nLst, dCall, dBi, tVal, tNot', tAnd', tOr', dAnd, dOr, dNot, dIf, dChain, dCallK, iRg, iSeq, nLc, tTrue, gNm, wipeD, e_onD, e_onB, e_onI, e_slV, e_slO, e_slOo, e_slOw, e_gI, e_gI0, e_add, e_mul, e_mulL, e_neg, e_ixL, e_ixT, e_ixS, e_isi, e_isN, e_notN, e_isNe, e_isNi, e_isNb, e_isNl, e_isNt, e_isNs, e_lenL, e_lenT, e_lenS, e_abs, e_int, e_intB, e_max, e_min, e_gcd, e_tupL, e_tupT, e_repr, e_sum, e_all, e_any, e_allN, e_allC, e_seqL, e_seqT, e_seqS, e_rg1, e_rg2, e_excN, e_excE, e_val, e_at0, e_at1, e_at2, e_get0, e_get1, e_get2, e_get3, e_get4, e_get5, e_get6, e_get7, e_set0, e_set1, e_set2, e_set3, e_set4, e_set5, e_set6, e_set7, e_ixn0, e_ixn1, e_ixn2, e_ex, List.replicate, List.cons_append, List.nil_append, List.map, fnB]
        exact ite_t (by rfl) h
      | [u], h =>
        simp only [gSeq, gIfS, gRet, gSet, gSetN, gSetIx, gDrop, gRaise, gNext, gApp, gFrz, gTry, gAsg, gFor, gRight, nCallW, zSeq, zRet, dVar, dOwn, dC, d2, d1, dN2, aNil, aCons, dTup, nLst, dCall, dBi, tVal, tNot', tAnd', tOr', dAnd, dOr, dNot, dIf, dChain, dCallK, iRg, iSeq, nLc, tTrue, gNm, wipeD, e_onD, e_onB, e_onI, e_slV, e_slO, e_slOo, e_slOw, e_gI, e_gI0, e_add, e_mul, e_mulL, e_neg, e_ixL, e_ixT, e_ixS, e_isi, e_isN, e_notN, e_isNe, e_isNi, e_isNb, e_isNl, e_isNt, e_isNs, e_lenL, e_lenT, e_lenS, e_abs, e_int, e_intB, e_max, e_min, e_gcd, e_tupL, e_tupT, e_repr, e_sum, e_all, e_any, e_allN, e_allC, e_seqL, e_seqT, e_seqS, e_rg1, e_rg2, e_excN, e_excE, e_val, e_at0, e_at1, e_at2, e_get0, e_get1, e_get2, e_get3, e_get4, e_get5, e_get6, e_get7, e_set0, e_set1, e_set2, e_set3, e_set4, e_set5, e_set6, e_set7, e_ixn0, e_ixn1, e_ixn2, e_ex, List.replicate, List.cons_append, List.nil_append, List.map, fnB]
        exact ite_t (by rfl) (by rw [if_pos True.intro]; cases u <;> exact h)
      | [u, w], h =>
        simp only [gSeq, gIfS, gRet, gSet, gSetN, gSetIx, gDrop, gRaise, gNext, gApp, gFrz, gTry, gAsg, gFor, gRight, nCallW, zSeq, zRet, dVar, dOwn, dC, d2, d1, dN2, aNil, aCons, dTup, nLst, dCall, dBi, tVal, tNot', tAnd', tOr', dAnd, dOr, dNot, dIf, dChain, dCallK, iRg, iSeq, nLc, tTrue, gNm, wipeD, e_onD, e_onB, e_onI, e_slV, e_slO, e_slOo, e_slOw, e_gI, e_gI0, e_add, e_mul, e_mulL, e_neg, e_ixL, e_ixT, e_ixS, e_isi, e_isN, e_notN, e_isNe, e_isNi, e_isNb, e_isNl, e_isNt, e_isNs, e_lenL, e_lenT, e_lenS, e_abs, e_int, e_intB, e_max, e_min, e_gcd, e_tupL, e_tupT, e_repr, e_sum, e_all, e_any, e_allN, e_allC, e_seqL, e_seqT, e_seqS, e_rg1, e_rg2, e_excN, e_excE, e_val, e_at0, e_at1, e_at2, e_get0, e_get1, e_get2, e_get3, e_get4, e_get5, e_get6, e_get7, e_set0, e_set1, e_set2, e_set3, e_set4, e_set5, e_set6, e_set7, e_ixn0, e_ixn1, e_ixn2, e_ex, List.replicate, List.cons_append, List.nil_append, List.map, fnB]
        refine ite_f rfl (ev_is_integer ?_)
        simp only [gSeq, gIfS, gRet, gSet, gSetN, gSetIx, gDrop, gRaise, gNext, gApp, gFrz, gTry, gAsg, gFor, gRight, nCallW, zSeq, zRet, dVar, dOwn, dC, d2, d1, dN2, aNil, aCons, dTup, nLst, dCall, dBi, tVal, tNot', tAnd', tOr', dAnd, dOr, dNot, dIf, dChain, dCallK, iRg, iSeq, nLc, tTrue, gNm, wipeD, e_onD, e_onB, e_onI, e_slV, e_slO, e_slOo, e_slOw, e_gI, e_gI0, e_add, e_mul, e_mulL, e_neg, e_ixL, e_ixT, e_ixS, e_isi, e_isN, e_notN, e_isNe, e_isNi, e_isNb, e_isNl, e_isNt, e_isNs, e_lenL, e_lenT, e_lenS, e_abs, e_int, e_intB, e_max, e_min, e_gcd, e_tupL, e_tupT, e_repr, e_sum, e_all, e_any, e_allN, e_allC, e_seqL, e_seqT, e_seqS, e_rg1, e_rg2, e_excN, e_excE, e_val, e_at0, e_at1, e_at2, e_get0, e_get1, e_get2, e_get3, e_get4, e_get5, e_get6, e_get7, e_set0, e_set1, e_set2, e_set3, e_set4, e_set5, e_set6, e_set7, e_ixn0, e_ixn1, e_ixn2, e_ex, List.replicate, List.cons_append, List.nil_append, List.map, fnB]
        cases u with
        | int a =>
          refine ite_f rfl (ev_is_integer ?_)
          simp only [gSeq, gIfS, gRet, gSet, gSetN, gSetIx, gDrop, gRaise, gNext, gApp, gFrz, gTry, gAsg, gFor, gRight, nCallW, zSeq, zRet, dVar, dOwn, dC, d2, d1, dN2, aNil, aCons, dTup, nLst, dCall, dBi, tVal, tNot', tAnd', tOr', dAnd, dOr, dNot, dIf, dChain, dCallK, iRg, iSeq, nLc, tTrue, gNm, wipeD, e_onD, e_onB, e_onI, e_slV, e_slO, e_slOo, e_slOw, e_gI, e_gI0, e_add, e_mul, e_mulL, e_neg, e_ixL, e_ixT, e_ixS, e_isi, e_isN, e_notN, e_isNe, e_isNi, e_isNb, e_isNl, e_isNt, e_isNs, e_lenL, e_lenT, e_lenS, e_abs, e_int, e_intB, e_max, e_min, e_gcd, e_tupL, e_tupT, e_repr, e_sum, e_all, e_any, e_allN, e_allC, e_seqL, e_seqT, e_seqS, e_rg1, e_rg2, e_excN, e_excE, e_val, e_at0, e_at1, e_at2, e_get0, e_get1, e_get2, e_get3, e_get4, e_get5, e_get6, e_get7, e_set0, e_set1, e_set2, e_set3, e_set4, e_set5, e_set6, e_set7, e_ixn0, e_ixn1, e_ixn2, e_ex, List.replicate, List.cons_append, List.nil_append, List.map, fnB]
          cases w with
          | int b =>
            refine ite_f rfl ?_
            simp only [gSeq, gIfS, gRet, gSet, gSetN, gSetIx, gDrop, gRaise, gNext, gApp, gFrz, gTry, gAsg, gFor, gRight, nCallW, zSeq, zRet, dVar, dOwn, dC, d2, d1, dN2, aNil, aCons, dTup, nLst, dCall, dBi, tVal, tNot', tAnd', tOr', dAnd, dOr, dNot, dIf, dChain, dCallK, iRg, iSeq, nLc, tTrue, gNm, wipeD, e_onD, e_onB, e_onI, e_slV, e_slO, e_slOo, e_slOw, e_gI, e_gI0, e_add, e_mul, e_mulL, e_neg, e_ixL, e_ixT, e_ixS, e_isi, e_isN, e_notN, e_isNe, e_isNi, e_isNb, e_isNl, e_isNt, e_isNs, e_lenL, e_lenT, e_lenS, e_abs, e_int, e_intB, e_max, e_min, e_gcd, e_tupL, e_tupT, e_repr, e_sum, e_all, e_any, e_allN, e_allC, e_seqL, e_seqT, e_seqS, e_rg1, e_rg2, e_excN, e_excE, e_val, e_at0, e_at1, e_at2, e_get0, e_get1, e_get2, e_get3, e_get4, e_get5, e_get6, e_get7, e_set0, e_set1, e_set2, e_set3, e_set4, e_set5, e_set6, e_set7, e_ixn0, e_ixn1, e_ixn2, e_ex, List.replicate, List.cons_append, List.nil_append, List.map, fnB]
            have h : R (.d (.bool (decide (1 ≤ b) && decide (Nat.gcd a.natAbs b.natAbs = 1)))) := h
            by_cases h1 : 1 ≤ b
            · refine ite_t (decide_eq_true h1) ?_
              refine ⟨rfl, rfl, ?_⟩
              have e : PyData.eqv (.int ((Nat.gcd a.natAbs b.natAbs : Nat) : Int)) (.int 1) = decide (Nat.gcd a.natAbs b.natAbs = 1) := by
                rw [eqv_int]
                exact decide_eq_decide.mpr (by omega)
              show R (.d (.bool (PyData.eqv (.int ((Nat.gcd a.natAbs b.natAbs : Nat) : Int)) (.int 1))))
              rw [e]
              simpa [h1] using h
            · refine ite_f (decide_eq_false h1) ?_
              simpa [h1] using h
          | _ => exact h
        | _ => exact h
      | u :: w :: z :: r, h =>
        have e : isTup 2 2 (.tuple (u :: w :: z :: r)) = false := by
          show (decide ((2 : Int) ≤ ((u :: w :: z :: r).length : Int)) && decide (((u :: w :: z :: r).length : Int) ≤ 2)) = false
          have : ¬ (((u :: w :: z :: r).length : Int) ≤ 2) := by simp; omega
          rw [decide_eq_false this, Bool.and_false]
        simp only [gSeq, gIfS, gRet, gSet, gSetN, gSetIx, gDrop, gRaise, gNext, gApp, gFrz, gTry, gAsg, gFor, gRight, nCallW, zSeq, zRet, dVar, dOwn, dC, d2, d1, dN2, aNil, aCons, dTup, nLst, dCall, dBi, tVal, tNot', tAnd', tOr', dAnd, dOr, dNot, dIf, dChain, dCallK, iRg, iSeq, nLc, tTrue, gNm, wipeD, e_onD, e_onB, e_onI, e_slV, e_slO, e_slOo, e_slOw, e_gI, e_gI0, e_add, e_mul, e_mulL, e_neg, e_ixL, e_ixT, e_ixS, e_isi, e_isN, e_notN, e_isNe, e_isNi, e_isNb, e_isNl, e_isNt, e_isNs, e_lenL, e_lenT, e_lenS, e_abs, e_int, e_intB, e_max, e_min, e_gcd, e_tupL, e_tupT, e_repr, e_sum, e_all, e_any, e_allN, e_allC, e_seqL, e_seqT, e_seqS, e_rg1, e_rg2, e_excN, e_excE, e_val, e_at0, e_at1, e_at2, e_get0, e_get1, e_get2, e_get3, e_get4, e_get5, e_get6, e_get7, e_set0, e_set1, e_set2, e_set3, e_set4, e_set5, e_set6, e_set7, e_ixn0, e_ixn1, e_ixn2, e_ex, List.replicate, List.cons_append, List.nil_append, List.map, fnB]
        exact ite_t (by rw [e]; rfl) (by rw [if_pos True.intro]; cases u <;> first | exact h | (cases w <;> exact h))
    | _ => exact h

/-! scalars as fields -/
open Lean.Grind (Field)
def QB (b : Nat) (r : Rat) : Prop := MB b r.num ∧ MB b (r.den : Int)
structure KQ (p : Int) (α : Type) [Field α] (enc : α → PD) (B : Nat → α → Prop) (f : α → Rat) : Prop where
  p0 : p = 0
  en : ∀ x, enc x = fr (f x)
  add : ∀ x y, f (x + y) = f x + f y
  mul : ∀ x y, f (x * y) = f x * f y
  neg : ∀ x, f (-x) = -f x
  inv : ∀ x, f (x⁻¹) = (f x)⁻¹
  zero : f 0 = 0
  one : f 1 = 1
  inj : ∀ x y, f x = f y → x = y
  sur : ∀ q, ∃ x, f x = q
  bd : ∀ b x, B b x ↔ QB b (f x)
structure KZ (p : Int) (α : Type) [Field α] (enc : α → PD) (B : Nat → α → Prop) (f : α → Int) : Prop where
  pp : Pp p
  en : ∀ x, enc x = .int (f x)
  rng : ∀ x, 0 ≤ f x ∧ f x < p
  add : ∀ x y, f (x + y) = (f x + f y) % p
  mul : ∀ x y, f (x * y) = (f x * f y) % p
  neg : ∀ x, f (-x) = (-f x) % p
  zero : f 0 = 0
  one : f 1 = 1
  inj : ∀ x y, f x = f y → x = y
  sur : ∀ i, 0 ≤ i → i < p → ∃ x, f x = i
  bd : ∀ b x, B b x
class SF (p : outParam Int) (α : Type) [Field α] where
  enc : α → PD
  B : Nat → α → Prop
  kd : (∃ f, KQ p α enc B f) ∨ ∃ f, KZ p α enc B f
section
variable {p : Int} {α : Type} [Field α] [S : SF p α]
theorem sf_pz (p : Int) (α : Type) [Field α] [S : SF p α] : Pz p := by
  rcases S.kd with ⟨f, k⟩ | ⟨f, k⟩
  · exact .inl k.p0
  · exact .inr k.pp
theorem QB.add {b c : Nat} {x y : Rat} (hx : QB b x) (hy : QB c y) : QB (b + c + 1) (x + y) := by
  unfold QB
  rw [add_div]
  exact mb_divInt (dd_ne x y) (MB.add (hx.1.mul hy.2) ((hy.1.mul hx.2).le (by omega))) ((hx.2.mul hy.2).le (by omega))
theorem QB.mul {b c : Nat} {x y : Rat} (hx : QB b x) (hy : QB c y) : QB (b + c) (x * y) := by
  unfold QB
  rw [mul_div]
  exact mb_divInt (dd_ne x y) (hx.1.mul hy.1) (hx.2.mul hy.2)
theorem B_le {b c : Nat} {x : α} (h : S.B b x) (l : b ≤ c) : S.B c x := by
  rcases S.kd with ⟨f, k⟩ | ⟨f, k⟩
  · have := (k.bd b x).mp h
    exact (k.bd c x).mpr ⟨this.1.le l, this.2.le l⟩
  · exact k.bd _ _
theorem B_add {b c : Nat} {x y : α} (h : S.B b x) (h2 : S.B c y) : S.B (b + c + 1) (x + y) := by
  rcases S.kd with ⟨f, k⟩ | ⟨f, k⟩
  · rw [k.bd] at h h2 ⊢
    rw [k.add]
    exact h.add h2
  · exact k.bd _ _
theorem B_mul {b c : Nat} {x y : α} (h : S.B b x) (h2 : S.B c y) : S.B (b + c) (x * y) := by
  rcases S.kd with ⟨f, k⟩ | ⟨f, k⟩
  · rw [k.bd] at h h2 ⊢
    rw [k.mul]
    exact h.mul h2
  · exact k.bd _ _
theorem B_zero : S.B 1 (0 : α) := by
  rcases S.kd with ⟨f, k⟩ | ⟨f, k⟩
  · rw [k.bd, k.zero]
    exact ⟨by unfold MB; decide, by unfold MB; decide⟩
  · exact k.bd _ _
theorem B_one : S.B 1 (1 : α) := by
  rcases S.kd with ⟨f, k⟩ | ⟨f, k⟩
  · rw [k.bd, k.one]
    exact ⟨by unfold MB; decide, by unfold MB; decide⟩
  · exact k.bd _ _
theorem enc_inj {x y : α} (h : S.enc x = S.enc y) : x = y := by
  rcases S.kd with ⟨f, k⟩ | ⟨f, k⟩
  · rw [k.en, k.en] at h
    unfold fr at h
    simp only [PyData.tuple.injEq, List.cons.injEq, PyData.int.injEq, and_true] at h
    exact k.inj _ _ (Rat.ext h.1 (by omega))
  · rw [k.en, k.en] at h
    exact k.inj _ _ (by injection h)
theorem eqv_fr (q r : Rat) : PyData.eqv (fr q) (fr r) = decide (q = r) := by
  unfold fr
  rw [eqv_t2, ← Bool.decide_and]
  exact decide_eq_decide.mpr ⟨fun h => Rat.ext h.1 (by omega), fun h => by rw [h]; exact ⟨rfl, rfl⟩⟩
theorem eqv_enc [DecidableEq α] (x y : α) : PyData.eqv (S.enc x) (S.enc y) = decide (x = y) := by
  rcases S.kd with ⟨f, k⟩ | ⟨f, k⟩
  · rw [k.en, k.en, eqv_fr]
    exact decide_eq_decide.mpr ⟨k.inj x y, fun h => by rw [h]⟩
  · rw [k.en, k.en, eqv_int]
    exact decide_eq_decide.mpr ⟨k.inj x y, fun h => by rw [h]⟩
theorem cp_enc (x : α) : Cp 1 (S.enc x) := by
  rcases S.kd with ⟨f, k⟩ | ⟨f, k⟩
  · rw [k.en]
    exact Cp.tup (CpA.cons Cp.int (CpA.cons Cp.int CpA.nil))
  · rw [k.en]
    exact Cp.int.le (Nat.zero_le _)
theorem rp_enc {b : Nat} {x : α} (h : S.B b x) (hb : b ≤ 1800) : Rp 1 (2 * b + 12) (S.enc x) := by
  rcases S.kd with ⟨f, k⟩ | ⟨f, k⟩
  · rw [k.en]
    have h := (k.bd b x).mp h
    exact (Rp.tup (RpA.cons (Rp.int h.1 (by omega)) (RpA.cons (Rp.int h.2 (by omega)) RpA.nil))).le (Nat.le_refl _) (by omega)
  · rw [k.en]
    have := k.pp.le
    have r := k.rng x
    exact (Rp.int (MB.of r.1 (by omega) : MB 4 (f x)) (by decide)).le (Nat.le_refl _) (by omega)
theorem isSc_enc (x : α) : isSc p (S.enc x) = true := by
  rcases S.kd with ⟨f, k⟩ | ⟨f, k⟩
  · rw [k.en, k.p0]
    have := den_pos (f x)
    have rd := (f x).reduced
    unfold Nat.Coprime at rd
    simp [isSc, fr, rd]
    omega
  · rw [k.en]
    have hp := k.pp.pos
    have := k.rng x
    simp [isSc, hp, this.1, this.2]
theorem okD_enc (j : Nat) (x : α) : okD (j + 1) (S.enc x) := by
  rcases S.kd with ⟨f, k⟩ | ⟨f, k⟩
  · rw [k.en]
    exact ⟨by show 2 ≤ 100000; decide, by intro y hy; simp at hy; rcases hy with rfl | rfl <;> cases j <;> trivial⟩
  · rw [k.en]; trivial
end
/-! they are there -/
@[reducible] def mkF (n : Nat) [NeZero n] (inv : Fin n → Fin n) (h0 : inv 0 = 0) (h1 : (0 : Fin n) ≠ 1) (hm : ∀ a : Fin n, a ≠ 0 → a * inv a = 1) (hi : ∀ a, inv (inv a) = a) : Field (Fin n) :=
  { (inferInstance : Lean.Grind.CommRing (Fin n)) with
    inv := inv
    div := fun a b => a * inv b
    div_eq_mul_inv := fun _ _ => rfl
    zero_ne_one := h1
    inv_zero := h0
    mul_inv_cancel := fun {a} h => hm a h
    zpow := ⟨fun a i => match i with
      | .ofNat k => a ^ k
      | .negSucc k => inv (a ^ (k + 1))⟩
    zpow_zero := fun a => Lean.Grind.Semiring.pow_zero a
    zpow_succ := fun a k => Lean.Grind.Semiring.pow_succ a k
    zpow_neg := fun a i => by
      have p0 : inv 1 = 1 := by
        have := hm 1 (fun e => h1 e.symm)
        rwa [Lean.Grind.Semiring.one_mul] at this
      cases i with
      | ofNat k =>
        cases k with
        | zero =>
          show a ^ (0 : Nat) = inv (a ^ (0 : Nat))
          rw [Lean.Grind.Semiring.pow_zero a, p0]
        | succ k => rfl
      | negSucc k => exact (hi (a ^ (k + 1))).symm }
def invF (n : Nat) [NeZero n] (a : Fin n) : Fin n := ((List.finRange n).filter fun b => decide (a * b = 1)).headD 0
instance : Field (Fin 2) := mkF 2 (invF 2) (by decide) (by decide) (by decide) (by decide)
instance : Field (Fin 3) := mkF 3 (invF 3) (by decide) (by decide) (by decide) (by decide)
instance : Field (Fin 5) := mkF 5 (invF 5) (by decide) (by decide) (by decide) (by decide)
instance : Field (Fin 7) := mkF 7 (invF 7) (by decide) (by decide) (by decide) (by decide)
instance : Field (Fin 11) := mkF 11 (invF 11) (by decide) (by decide) (by decide) (by decide)
instance : Field (Fin 13) := mkF 13 (invF 13) (by decide) (by decide) (by decide) (by decide)
theorem kz_fin {n : Nat} [NeZero n] [F : Field (Fin n)] (hp : Pp (n : Int)) (ha : ∀ a b : Fin n, ((F.toCommRing.toRing.toSemiring.toAdd.add a b).val : Int) = ((a.val : Int) + b.val) % n) (hm : ∀ a b : Fin n, ((F.toCommRing.toRing.toSemiring.toMul.mul a b).val : Int) = ((a.val : Int) * b.val) % n)
    (hn : ∀ a : Fin n, ((F.toCommRing.toRing.toNeg.neg a).val : Int) = (-(a.val : Int)) % n) (h0 : ((F.toCommRing.toRing.toSemiring.ofNat 0).ofNat : Fin n).val = 0) (h1 : ((F.toCommRing.toRing.toSemiring.ofNat 1).ofNat : Fin n).val = 1) : KZ (n : Int) (Fin n) (fun a => .int (a.val : Int)) (fun _ _ => True) (fun a => (a.val : Int)) :=
  ⟨hp, fun _ => rfl, fun x => ⟨by omega, by have := x.isLt; omega⟩, ha, hm, hn, by show ((_ : Nat) : Int) = 0; rw [h0]; rfl, by show ((_ : Nat) : Int) = 1; rw [h1]; rfl, fun x y h => Fin.ext (by omega), fun i h2 h3 => ⟨⟨i.toNat, by omega⟩, by show ((i.toNat : Nat) : Int) = i; omega⟩, fun _ _ => trivial⟩
instance : SF 0 Rat := ⟨fr, QB, .inl ⟨id, rfl, fun _ => rfl, fun _ _ => rfl, fun _ _ => rfl, fun _ => rfl, fun _ => rfl, rfl, rfl, fun _ _ h => h, fun q => ⟨q, rfl⟩, fun _ _ => Iff.rfl⟩⟩
instance : SF 2 (Fin 2) := ⟨fun a => .int (a.val : Int), fun _ _ => True, .inr ⟨_, kz_fin (n := 2) (.inl rfl) (by decide) (by decide) (by decide) (by decide) (by decide)⟩⟩
instance : SF 3 (Fin 3) := ⟨fun a => .int (a.val : Int), fun _ _ => True, .inr ⟨_, kz_fin (n := 3) (.inr (.inl rfl)) (by decide) (by decide) (by decide) (by decide) (by decide)⟩⟩
instance : SF 5 (Fin 5) := ⟨fun a => .int (a.val : Int), fun _ _ => True, .inr ⟨_, kz_fin (n := 5) (.inr (.inr (.inl rfl))) (by decide) (by decide) (by decide) (by decide) (by decide)⟩⟩
instance : SF 7 (Fin 7) := ⟨fun a => .int (a.val : Int), fun _ _ => True, .inr ⟨_, kz_fin (n := 7) (.inr (.inr (.inr (.inl rfl)))) (by decide) (by decide) (by decide) (by decide) (by decide)⟩⟩
instance : SF 11 (Fin 11) := ⟨fun a => .int (a.val : Int), fun _ _ => True, .inr ⟨_, kz_fin (n := 11) (.inr (.inr (.inr (.inr (.inl rfl))))) (by decide) (by decide) (by decide) (by decide) (by decide)⟩⟩
instance : SF 13 (Fin 13) := ⟨fun a => .int (a.val : Int), fun _ _ => True, .inr ⟨_, kz_fin (n := 13) (.inr (.inr (.inr (.inr (.inr rfl))))) (by decide) (by decide) (by decide) (by decide) (by decide)⟩⟩
/-- for each prime there is its field -/
theorem sf_all {P : Prop} {p : Int} (hp : Pz p) (h : ∀ (α : Type) (_ : Field α) (_ : DecidableEq α) (_ : SF p α), P) : P := by
  rcases hp with rfl | rfl | rfl | rfl | rfl | rfl | rfl
  · exact h Rat inferInstance inferInstance inferInstance
  · exact h (Fin 2) inferInstance inferInstance inferInstance
  · exact h (Fin 3) inferInstance inferInstance inferInstance
  · exact h (Fin 5) inferInstance inferInstance inferInstance
  · exact h (Fin 7) inferInstance inferInstance inferInstance
  · exact h (Fin 11) inferInstance inferInstance inferInstance
  · exact h (Fin 13) inferInstance inferInstance inferInstance

/-! scalar_in of 0 and 1 -/
section
variable {p : Int} {α : Type} [Lean.Grind.Field α] [S : SF p α]
theorem enc01 : (p = 0 ∧ S.enc 0 = .tuple [.int 0, .int 1] ∧ S.enc 1 = .tuple [.int 1, .int 1]) ∨ (Pp p ∧ S.enc 0 = .int 0 ∧ S.enc 1 = .int 1) := by
  rcases S.kd with ⟨f, k⟩ | ⟨f, k⟩
  · exact .inl ⟨k.p0, by rw [k.en, k.zero]; rfl, by rw [k.en, k.one]; rfl⟩
  · exact .inr ⟨k.pp, by rw [k.en, k.zero], by rw [k.en, k.one]⟩
theorem one_mod {p : Int} (h : Pp p) : (1 : Int).fmod p = 1 := by rcases h with rfl | rfl | rfl | rfl | rfl | rfl <;> decide
theorem zero_mod {p : Int} (h : Pp p) : (0 : Int).fmod p = 0 := by rcases h with rfl | rfl | rfl | rfl | rfl | rfl <;> decide
theorem ev_scalar_in {k : Bool} {R : DV → Prop} {E : EK} (h : R (.d (S.enc (if k = true then 1 else 0)))) : m_scalar_in [.d (.int p), .d (.int (if k = true then 1 else 0))] R E := by
  rw [q_scalar_in]
  refine ⟨rfl, ?_⟩
  simp only [g_scalar_in]
  array_get_dec
  rcases enc01 (S := S) with ⟨rfl, e0, e1⟩ | ⟨pp, e0, e1⟩
  · refine ite_t rfl ?_
    cases k with
    | true => simp only [if_true] at h ⊢; rw [e1] at h; exact h
    | false => simp only [Bool.false_eq_true, if_false] at h ⊢; rw [e0] at h; exact h
  · have := pp.pos
    refine ite_f (decide_eq_false (by omega)) ⟨by omega, ?_⟩
    cases k with
    | true => simp only [if_true] at h ⊢; rw [e1] at h; rw [one_mod pp]; exact h
    | false => simp only [Bool.false_eq_true, if_false] at h ⊢; rw [e0] at h; rw [zero_mod pp]; exact h
theorem ev_scalar_in0 {R : DV → Prop} {E : EK} (h : R (.d (S.enc 0))) : m_scalar_in [.d (.int p), .d (.int 0)] R E := ev_scalar_in (S := S) (k := false) h
theorem ev_scalar_in1 {R : DV → Prop} {E : EK} (h : R (.d (S.enc 1))) : m_scalar_in [.d (.int p), .d (.int 1)] R E := ev_scalar_in (S := S) (k := true) h
end

/-! _law_num of 0 and 1 -/
section
variable {p : Int} {α : Type} [Lean.Grind.Field α] [S : SF p α]
theorem ev_law_num {k : Bool} {R : DV → Prop} {E : EK} (h : R (.d (S.enc (if k = true then 1 else 0)))) : m__law_num [.d (.int p), .d (.int (if k = true then 1 else 0))] R E := by
  rw [q__law_num]
  refine ⟨rfl, ?_⟩
  simp only [g__law_num]
  array_get_dec
  rcases enc01 (S := S) with ⟨rfl, e0, e1⟩ | ⟨pp, e0, e1⟩
  · refine ite_t rfl ?_
    cases k with
    | true => simp only [if_true] at h ⊢; rw [e1] at h; exact h
    | false => simp only [Bool.false_eq_true, if_false] at h ⊢; rw [e0] at h; exact h
  · have := pp.pos
    refine ite_f (decide_eq_false (by omega)) ⟨by omega, ?_⟩
    cases k with
    | true => simp only [if_true] at h ⊢; rw [e1] at h; rw [one_mod pp]; exact h
    | false => simp only [Bool.false_eq_true, if_false] at h ⊢; rw [e0] at h; rw [zero_mod pp]; exact h
theorem ev_law_num0 {R : DV → Prop} {E : EK} (h : R (.d (S.enc 0))) : m__law_num [.d (.int p), .d (.int 0)] R E := ev_law_num (S := S) (k := false) h
theorem ev_law_num1 {R : DV → Prop} {E : EK} (h : R (.d (S.enc 1))) : m__law_num [.d (.int p), .d (.int 1)] R E := ev_law_num (S := S) (k := true) h
end

/-! plus_in -/
theorem ev_plus_in {p : Int} {α : Type} [Lean.Grind.Field α] [S : SF p α] {b c : Nat} {x y : α} {R : DV → Prop} {E : EK} (hx : S.B b x) (hy : S.B c y) (hb : b ≤ 4000) (hc : c ≤ 4000) (h : R (.d (S.enc (x + y)))) : m_plus_in [.d (.int p), .d (S.enc x), .d (S.enc y)] R E := by
  rw [q_plus_in]
  refine ⟨rfl, ?_⟩
  rcases S.kd with ⟨f, k⟩ | ⟨f, k⟩
  · have p0 := k.p0
    subst p0
    obtain ⟨hn, hd⟩ := (k.bd b x).mp hx
    obtain ⟨hn2, hd2⟩ := (k.bd c y).mp hy
    rw [k.en, k.add] at h
    simp only [g_plus_in]
    rw [k.en, k.en]
    unfold fr
    array_get_dec
    refine ite_f (by decide) ?_
    refine ⟨hn.ok hd2 (by omega), hn2.ok hd (by omega), hd.ok hd2 (by omega), ev_fraction_in (dd_ne (f x) (f y)) (hd.mul hd2) (by omega) ?_⟩
    rw [← add_div]
    exact h
  · have hp := k.pp.pos
    rw [k.en, k.add] at h
    simp only [g_plus_in]
    rw [k.en, k.en]
    array_get_dec
    refine ite_t (decide_eq_true hp) ⟨by omega, ?_⟩
    rw [fmod_e (by omega)]
    exact h

/-! times_in -/
theorem ev_times_in {p : Int} {α : Type} [Lean.Grind.Field α] [S : SF p α] {b c : Nat} {x y : α} {R : DV → Prop} {E : EK} (hx : S.B b x) (hy : S.B c y) (hb : b ≤ 4000) (hc : c ≤ 4000) (h : R (.d (S.enc (x * y)))) : m_times_in [.d (.int p), .d (S.enc x), .d (S.enc y)] R E := by
  rw [q_times_in]
  refine ⟨rfl, ?_⟩
  rcases S.kd with ⟨f, k⟩ | ⟨f, k⟩
  · have p0 := k.p0
    subst p0
    obtain ⟨hn, hd⟩ := (k.bd b x).mp hx
    obtain ⟨hn2, hd2⟩ := (k.bd c y).mp hy
    rw [k.en, k.mul] at h
    simp only [g_times_in]
    rw [k.en, k.en]
    unfold fr
    array_get_dec
    refine ite_f (by decide) ?_
    refine ⟨hn.ok hn2 (by omega), hd.ok hd2 (by omega), ev_fraction_in (dd_ne (f x) (f y)) (hd.mul hd2) (by omega) ?_⟩
    rw [← mul_div]
    exact h
  · have hp := k.pp.pos
    have l13 := k.pp.le
    have r1 := k.rng x
    have r2 := k.rng y
    rw [k.en, k.mul] at h
    simp only [g_times_in]
    rw [k.en, k.en]
    array_get_dec
    refine ite_t (decide_eq_true hp) ⟨MB.ok (a := 4) (b := 4) (MB.of r1.1 (by omega)) (MB.of r2.1 (by omega)) (by decide), by omega, ?_⟩
    rw [fmod_e (by omega)]
    exact h

/-! _law_plus -/
theorem ev_law_plus {p : Int} {α : Type} [Lean.Grind.Field α] [S : SF p α] {b c : Nat} {x y : α} {R : DV → Prop} {E : EK} (hx : S.B b x) (hy : S.B c y) (hb : b ≤ 4000) (hc : c ≤ 4000) (h : R (.d (S.enc (x + y)))) : m__law_plus [.d (.int p), .d (S.enc x), .d (S.enc y)] R E := by
  rw [q__law_plus]
  refine ⟨rfl, ?_⟩
  rcases S.kd with ⟨f, k⟩ | ⟨f, k⟩
  · have p0 := k.p0
    subst p0
    obtain ⟨hn, hd⟩ := (k.bd b x).mp hx
    obtain ⟨hn2, hd2⟩ := (k.bd c y).mp hy
    rw [k.en, k.add] at h
    simp only [g__law_plus]
    rw [k.en, k.en]
    unfold fr
    array_get_dec
    refine ite_f (by decide) ?_
    refine ⟨hn.ok hd2 (by omega), hn2.ok hd (by omega), hd.ok hd2 (by omega), ev_law_cut (dd_ne (f x) (f y)) (hd.mul hd2) (by omega) ((MB.add (MB.le (hn.mul hd2) (Nat.le_refl _)) ((hn2.mul hd).le (by omega))).le (by omega)) ?_⟩
    rw [← add_div]
    exact h
  · have hp := k.pp.pos
    rw [k.en, k.add] at h
    simp only [g__law_plus]
    rw [k.en, k.en]
    array_get_dec
    refine ite_t (decide_eq_true hp) ⟨by omega, ?_⟩
    rw [fmod_e (by omega)]
    exact h

/-! _law_times -/
theorem ev_law_times {p : Int} {α : Type} [Lean.Grind.Field α] [S : SF p α] {b c : Nat} {x y : α} {R : DV → Prop} {E : EK} (hx : S.B b x) (hy : S.B c y) (hb : b ≤ 4000) (hc : c ≤ 4000) (h : R (.d (S.enc (x * y)))) : m__law_times [.d (.int p), .d (S.enc x), .d (S.enc y)] R E := by
  rw [q__law_times]
  refine ⟨rfl, ?_⟩
  rcases S.kd with ⟨f, k⟩ | ⟨f, k⟩
  · have p0 := k.p0
    subst p0
    obtain ⟨hn, hd⟩ := (k.bd b x).mp hx
    obtain ⟨hn2, hd2⟩ := (k.bd c y).mp hy
    rw [k.en, k.mul] at h
    simp only [g__law_times]
    rw [k.en, k.en]
    unfold fr
    array_get_dec
    refine ite_f (by decide) ?_
    refine ⟨hn.ok hn2 (by omega), hd.ok hd2 (by omega), ev_law_cut (dd_ne (f x) (f y)) (hd.mul hd2) (by omega) ((hn.mul hn2).le (by omega)) ?_⟩
    rw [← mul_div]
    exact h
  · have hp := k.pp.pos
    have l13 := k.pp.le
    have r1 := k.rng x
    have r2 := k.rng y
    rw [k.en, k.mul] at h
    simp only [g__law_times]
    rw [k.en, k.en]
    array_get_dec
    refine ite_t (decide_eq_true hp) ⟨MB.ok (a := 4) (b := 4) (MB.of r1.1 (by omega)) (MB.of r2.1 (by omega)) (by decide), by omega, ?_⟩
    rw [fmod_e (by omega)]
    exact h

/-! drawn scalars -/
theorem ev_draw_of {p : Int} {R : DV → Prop} {E : EK} (h0 : 0 < p) (h1 : p < 2 ^ 60) (h : ∀ a : Int, 0 ≤ a → a < p → R (.d (.int a))) : m__law_draw [.wel, .d (.int p)] R E := ⟨p, rfl, h0, h1, h⟩
theorem ev_law_drawn {p : Int} {α : Type} [Lean.Grind.Field α] [S : SF p α] {R : DV → Prop} {E : EK} (h : ∀ x : α, S.B 8 x → R (.d (S.enc x))) : m__law_drawn [.wel, .d (.int p)] R E := by
  rw [q__law_drawn]
  refine ⟨rfl, ?_⟩
  simp only [g__law_drawn]
  array_get_dec
  rcases S.kd with ⟨f, k⟩ | ⟨f, k⟩
  · have p0 := k.p0
    subst p0
    refine ite_f (by decide) (ev_draw_of (by decide) (by decide) fun a a0 a1 => ?_)
    array_get_dec
    refine ev_draw_of (by decide) (by decide) fun b b0 b1 => ?_
    array_get_dec
    have ma : MB 8 (a - 3) := by unfold MB; omega
    have mb : MB 8 (1 + b) := by unfold MB; omega
    refine ev_law_cut (by omega) mb (by decide) (ma.le (by decide)) ?_
    obtain ⟨x, hx⟩ := k.sur (Rat.divInt (a - 3) (1 + b))
    have q := mb_divInt (n := a - 3) (m := 1 + b) (by omega) ma mb
    have h := h x ((k.bd 8 x).mpr (by rw [hx]; exact q))
    rw [k.en, hx] at h
    exact h
  · have hp := k.pp.pos
    have := k.pp.le
    refine ite_t (decide_eq_true hp) (ev_draw_of hp (by omega) fun a a0 a1 => ?_)
    obtain ⟨x, hx⟩ := k.sur a a0 a1
    have h := h x (k.bd _ _)
    rw [k.en, hx] at h
    exact h

/-! need_prime, need_scalar -/
theorem ev_need_prime {p : Int} {R : DV → Prop} {E : EK} (hp : Pz p) (h : R (.d .none)) : m_need_prime [.d (.int p)] R E := by
  rw [q_need_prime]
  refine ⟨rfl, ?_⟩
  simp only [g_need_prime]
  array_get_dec
  refine ev_is_prime_in ?_
  array_get_dec
  rw [isPrime_ok hp]
  exact ite_f rfl h

theorem ev_need_scalar {p : Int} {α : Type} [Lean.Grind.Field α] [S : SF p α] {x : α} {R : DV → Prop} {E : EK} (h : R (.d .none)) : m_need_scalar [.d (.int p), .d (S.enc x)] R E := by
  rw [q_need_scalar]
  refine ⟨rfl, ?_⟩
  simp only [g_need_scalar]
  array_get_dec
  refine ev_is_scalar_in ?_
  array_get_dec
  rw [isSc_enc x]
  exact ite_f rfl h
theorem bad_need_scalar {p : Int} {x : PD} {R : DV → Prop} {E : EK} (hx : isSc p x = false) (ho : okD 9 x) (h : E 2 x) : m_need_scalar [.d (.int p), .d x] R E := by
  rw [q_need_scalar]
  refine ⟨rfl, ?_⟩
  simp only [g_need_scalar]
  array_get_dec
  refine ev_is_scalar_in ?_
  array_get_dec
  rw [hx]
  exact ite_t rfl ⟨x, rfl, ho, h⟩

/-! sums of products -/
section
variable {p : Int} {α : Type} [Lean.Grind.Field α]
def dot : List α → List α → α
  | a :: r, b :: q => a * b + dot r q
  | _, _ => 0
def dotA (acc : α) : List (α × α) → α
  | [] => acc
  | x :: l => dotA (acc + x.1 * x.2) l
theorem dotA_add : ∀ (l : List (α × α)) (acc : α), dotA acc l = acc + dotA 0 l
  | [], acc => by simp only [dotA]; grind
  | x :: l, acc => by
    simp only [dotA]
    rw [dotA_add l (acc + x.1 * x.2), dotA_add l (0 + x.1 * x.2)]
    grind
theorem dotA_dot : ∀ r q : List α, dotA 0 (r.zip q) = dot r q
  | [], _ => rfl
  | _ :: _, [] => rfl
  | a :: r, b :: q => by
    show dotA (0 + a * b) (r.zip q) = a * b + dot r q
    rw [dotA_add, dotA_dot r q]
    grind
variable [S : SF p α]
def VB (b : Nat) (r : List α) : Prop := ∀ x ∈ r, S.B b x
theorem VB.le {b c : Nat} {r : List α} (h : VB (S := S) b r) (l : b ≤ c) : VB (S := S) c r := fun x hx => B_le (h x hx) l
theorem dotA_B {b : Nat} : ∀ (l : List (α × α)) (acc : α) (c : Nat), (∀ x ∈ l, S.B b x.1 ∧ S.B b x.2) → S.B c acc → S.B (c + l.length * (2 * b + 1)) (dotA acc l)
  | [], acc, c, _, h => by simpa [dotA] using h
  | x :: l, acc, c, hx, h => by
    have h1 := hx x (by simp)
    have h2 := B_add h (B_mul h1.1 h1.2)
    have := dotA_B l (acc + x.1 * x.2) (c + (b + b) + 1) (fun y hy => hx y (by simp [hy])) h2
    simp only [dotA, List.length_cons, Nat.add_mul]
    exact B_le this (by omega)
theorem zipB {b : Nat} {r q : List α} (hr : VB (S := S) b r) (hq : VB (S := S) b q) : ∀ x ∈ r.zip q, S.B b x.1 ∧ S.B b x.2 := fun x hx => ⟨hr _ (List.of_mem_zip (a := x.1) (b := x.2) hx).1, hq _ (List.of_mem_zip (a := x.1) (b := x.2) hx).2⟩
theorem dot_B {b : Nat} {r q : List α} (hr : VB (S := S) b r) (hq : VB (S := S) b q) : S.B (1 + r.length * (2 * b + 1)) (dot r q) := by
  rw [← dotA_dot]
  refine B_le (dotA_B _ 0 1 (zipB hr hq) B_zero) ?_
  have : (r.zip q).length ≤ r.length := by rw [List.length_zip]; omega
  have := Nat.mul_le_mul_right (2 * b + 1) this
  omega
def rowD (r : List α) : PD := .tuple (r.map S.enc)
def pairD (x : α × α) : PD := .tuple [S.enc x.1, S.enc x.2]
theorem zip_enc (r q : List α) : List.zipWith (fun a b => PyData.tuple [a, b]) (r.map S.enc) (q.map S.enc) = (r.zip q).map (pairD (S := S)) := zip_map S.enc S.enc r q
end

/-! _law_dot -/
section
variable {p : Int} {α : Type} [Lean.Grind.Field α] [S : SF p α]
theorem law_dot_loop {D : DEnds} {b : Nat} {s1 s2 : Sl} (hb : b ≤ 1000) : ∀ (l : List (α × α)) (acc : α) (c : Nat) (s4 s5 : Sl), (∀ x ∈ l, S.B b x.1 ∧ S.B b x.2) → S.B c acc → c + l.length * (2 * b + 1) ≤ 4000 →
    (∀ s4 s5, D.nx [.v (.d (.int p)), s1, s2, .v (.d (S.enc (dotA acc l))), s4, s5]) →
    loopD (gTp (gsCons (gNm 4) (gsCons (gNm 5) gsNil))) g__law_dot_b0 D (l.map (pairD (S := S))) [.v (.d (.int p)), s1, s2, .v (.d (S.enc acc)), s4, s5]
  | [], acc, c, s4, s5, _, _, _, h => h s4 s5
  | x :: l, acc, c, s4, s5, hx, hc, hl, h => by
    rw [List.map_cons]
    unfold loopD
    simp only [g__law_dot_b0, pairD]
    array_get_dec
    have h1 := hx x (by simp)
    simp only [List.length_cons, Nat.add_mul] at hl
    refine ev_law_times (S := S) h1.1 h1.2 (by omega) (by omega) ?_
    array_get_dec
    refine ev_law_plus (S := S) hc (B_mul h1.1 h1.2) (by omega) (by omega) ?_
    array_get_dec
    exact law_dot_loop hb l (acc + x.1 * x.2) (c + (b + b) + 1) _ _ (fun y hy => hx y (by simp [hy])) (B_add hc (B_mul h1.1 h1.2)) (by omega) h
theorem ev_law_dot {b : Nat} {r q : List α} {x y : PD} {R : DV → Prop} {E : EK} (hx : x = .tuple (r.map S.enc) ∨ x = .list (r.map S.enc)) (hy : y = .tuple (q.map S.enc) ∨ y = .list (q.map S.enc)) (hr : VB (S := S) b r) (hq : VB (S := S) b q) (hb : b ≤ 1000) (hl : 1 + r.length * (2 * b + 1) ≤ 4000) (h : R (.d (S.enc (dot r q)))) :
    m__law_dot [.d (.int p), .d x, .d y] R E := by
  rw [q__law_dot]
  refine ⟨rfl, ?_⟩
  have hz : (r.zip q).length ≤ r.length := by rw [List.length_zip]; omega
  have hm := Nat.mul_le_mul_right (2 * b + 1) hz
  have hrl : r.length ≤ 100000 := by
    have : r.length * 1 ≤ r.length * (2 * b + 1) := Nat.mul_le_mul_left _ (by omega)
    omega
  have key : ∀ D : DEnds, (∀ s4 s5, D.nx [.v (.d (.int p)), .v (.d x), .v (.d y), .v (.d (S.enc (dot r q))), s4, s5]) → ∀ s4 s5, loopD (gTp (gsCons (gNm 4) (gsCons (gNm 5) gsNil))) g__law_dot_b0 D ((r.zip q).map (pairD (S := S))) [.v (.d (.int p)), .v (.d x), .v (.d y), .v (.d (S.enc 0)), s4, s5] := fun D hD s4 s5 =>
    law_dot_loop (b := b) hb (r.zip q) 0 1 s4 s5 (zipB hr hq) B_zero (by omega) (by rw [dotA_dot]; exact hD)
  simp only [g__law_dot]
  array_get_dec
  refine ev_law_num0 (S := S) ?_
  rcases hx with rfl | rfl <;> rcases hy with rfl | rfl
  all_goals
    array_get_dec
    rw [zip_enc]
    refine ⟨by rw [List.length_map]; omega, key _ (fun s4 s5 => ?_) _ _⟩
    array_get_dec
    exact h
end

/-! dot_in -/
section
variable {p : Int} {α : Type} [Lean.Grind.Field α] [S : SF p α]
theorem acc_add (q a b : Rat) : q + a * b = Rat.divInt (q.num * a.den * b.den + a.num * b.num * q.den) (q.den * a.den * b.den) := by
  have e1 : Rat.divInt q.num q.den = q := Rat.num_divInt_den q
  have hq : (q.den : Int) ≠ 0 := by have := den_pos q; omega
  conv => lhs; rw [← e1, mul_div, Rat.divInt_add_divInt _ _ hq (dd_ne a b)]
  rw [← Int.mul_assoc, ← Int.mul_assoc]
theorem dotQ_loop {D : DEnds} {b : Nat} {f : α → Rat} {s0 s1 s2 : Sl} (k : KQ p α S.enc S.B f) (hb : b ≤ 1000) : ∀ (l : List (α × α)) (acc : Rat) (c : Nat) (s5 s6 : Sl), (∀ x ∈ l, S.B b x.1 ∧ S.B b x.2) → QB c acc → c + l.length * (2 * b + 1) ≤ 4000 →
    (∀ s5 s6, D.nx [s0, s1, s2, .v (.d (.int (acc + f (dotA 0 l)).num)), .v (.d (.int ((acc + f (dotA 0 l)).den : Int))), s5, s6]) →
    loopD (gTp (gsCons (gNm 5) (gsCons (gNm 6) gsNil))) g_dot_in_b0 D (l.map (pairD (S := S))) [s0, s1, s2, .v (.d (.int acc.num)), .v (.d (.int (acc.den : Int))), s5, s6]
  | [], acc, c, s5, s6, _, _, _, h => by
    have h := h s5 s6
    simp only [dotA, k.zero, Rat.add_zero] at h
    exact h
  | x :: l, acc, c, s5, s6, hx, hc, hl, h => by
    rw [List.map_cons]
    unfold loopD
    have h1 := hx x (by simp)
    obtain ⟨n1, d1⟩ := (k.bd b _).mp h1.1
    obtain ⟨n2, d2⟩ := (k.bd b _).mp h1.2
    simp only [List.length_cons, Nat.add_mul] at hl
    have e : acc + f (dotA 0 (x :: l)) = acc + f x.1 * f x.2 + f (dotA 0 l) := by
      have : dotA 0 (x :: l) = x.1 * x.2 + dotA 0 l := by
        show dotA (0 + x.1 * x.2) l = _
        rw [dotA_add]
        grind
      rw [this, k.add, k.mul, Rat.add_assoc]
    rw [e] at h
    have bq : QB (c + (b + b) + 1) (acc + f x.1 * f x.2) := hc.add (QB.mul ⟨n1, d1⟩ ⟨n2, d2⟩)
    have next := fun s5 s6 => dotQ_loop (D := D) (s0 := s0) (s1 := s1) (s2 := s2) k hb l (acc + f x.1 * f x.2) (c + (b + b) + 1) s5 s6 (fun y hy => hx y (by simp [hy])) bq (by omega) h
    simp only [g_dot_in_b0, pairD]
    rw [k.en, k.en]
    unfold fr
    array_get_dec
    have skip : f x.1 * f x.2 = 0 → acc + f x.1 * f x.2 = acc := fun z => by rw [z, Rat.add_zero]
    by_cases z1 : (f x.1).num = 0
    · rw [decide_eq_true z1]
      have z : f x.1 * f x.2 = 0 := by rw [Rat.num_eq_zero.mp z1, Rat.zero_mul]
      have nx := next
      rw [skip z] at nx
      exact ite_f rfl (nx _ _)
    · rw [decide_eq_false z1]
      refine ite_t rfl ?_
      by_cases z2 : (f x.2).num = 0
      · rw [decide_eq_true z2]
        have z : f x.1 * f x.2 = 0 := by rw [Rat.num_eq_zero.mp z2, Rat.mul_zero]
        have nx := next
        rw [skip z] at nx
        exact ite_f rfl (nx _ _)
      · rw [decide_eq_false z2]
        refine ite_t rfl ?_
        have p1 := den_pos (f x.1)
        have p2 := den_pos (f x.2)
        have p3 := den_pos acc
        have pos : (acc.den : Int) * ((f x.1).den : Int) * ((f x.2).den : Int) ≠ 0 := by
          have := Int.mul_pos (Int.mul_pos p3 p1) p2
          omega
        refine ⟨hc.1.ok d1 (by omega), (hc.1.mul d1).ok d2 (by omega), n1.ok n2 (by omega), (n1.mul n2).ok hc.2 (by omega), hc.2.ok d1 (by omega), (hc.2.mul d1).ok d2 (by omega), ev_fraction_in pos ((hc.2.mul d1).mul d2) (by omega) ?_⟩
        rw [← acc_add]
        unfold fr
        array_get_dec
        exact next _ _
theorem dotZ_val {f : α → Int} (k : KZ p α S.enc S.B f) : ∀ l : List (α × α), f (dotA 0 l) = ((l.map fun x => f x.1 * f x.2).sum) % p
  | [] => by
    have := k.pp.pos
    simp only [dotA, k.zero, List.map_nil, List.sum_nil, Int.zero_emod]
  | x :: l => by
    have e : dotA 0 (x :: l) = x.1 * x.2 + dotA 0 l := by
      show dotA (0 + x.1 * x.2) l = _
      rw [dotA_add]
      grind
    rw [e, k.add, k.mul, dotZ_val k l, List.map_cons, List.sum_cons, ← Int.add_emod]
theorem ev_dot_in {b : Nat} {r q : List α} {R : DV → Prop} {E : EK} (hr : VB (S := S) b r) (hq : VB (S := S) b q) (hb : b ≤ 1000) (hl : 1 + r.length * (2 * b + 1) ≤ 4000) (h : R (.d (S.enc (dot r q)))) : m_dot_in [.d (.int p), .d (rowD r), .d (rowD q)] R E := by
  rw [q_dot_in]
  refine ⟨rfl, ?_⟩
  have hz : (r.zip q).length ≤ r.length := by rw [List.length_zip]; omega
  have hm := Nat.mul_le_mul_right (2 * b + 1) hz
  have hrl : r.length ≤ 100000 := by
    have : r.length * 1 ≤ r.length * (2 * b + 1) := Nat.mul_le_mul_left _ (by omega)
    omega
  simp only [g_dot_in, rowD]
  array_get_dec
  rcases S.kd with ⟨f, k⟩ | ⟨f, k⟩
  · have p0 := k.p0
    refine ite_f (decide_eq_false (by omega)) ?_
    rw [zip_enc]
    refine ⟨by rw [List.length_map]; omega, ?_⟩
    show loopD _ _ _ _ [_, _, _, .v (.d (.int (0 : Rat).num)), .v (.d (.int ((0 : Rat).den : Int))), _, _]
    refine dotQ_loop (S := S) (b := b) k hb (r.zip q) 0 1 _ _ (zipB hr hq) ⟨by unfold MB; decide, by unfold MB; decide⟩ (by omega) fun s5 s6 => ?_
    array_get_dec
    rw [Rat.zero_add, dotA_dot]
    rw [k.en] at h
    exact h
  · have hp := k.pp.pos
    have l13 := k.pp.le
    refine ite_t (decide_eq_true hp) ?_
    rw [zip_enc]
    refine ⟨by rw [List.length_map]; omega, lcD_all (pairD (S := S)) (fun x => .int (f x.1 * f x.2)) (fun x hx P hP => ?_) ?_⟩
    · simp only [pairD]
      rw [k.en, k.en]
      array_get_dec
      have r1 := k.rng x.1
      have r2 := k.rng x.2
      exact ⟨MB.ok (a := 4) (b := 4) (MB.of r1.1 (by omega)) (MB.of r2.1 (by omega)) (by decide), hP⟩
    have em : (r.zip q).map (fun x => PyData.int (f x.1 * f x.2)) = ((r.zip q).map fun x => f x.1 * f x.2).map .int := by rw [List.map_map]; rfl
    rw [em]
    refine ⟨_, asInts_map _, by omega, ?_⟩
    rw [fmod_e (by omega), ← dotZ_val k, dotA_dot]
    rw [k.en] at h
    exact h
end

/-! tables -/
section
variable {p : Int} {α : Type} [Lean.Grind.Field α]
abbrev Tab (α : Type) := List (List α)
structure Shp (m k : Nat) (t : Tab α) : Prop where
  rows : t.length = m
  cols : ∀ r ∈ t, r.length = k
def trn (k : Nat) (t : Tab α) : Tab α := (List.range k).map fun j => t.map fun r => r.getD j 0
def mulT (k : Nat) (s t : Tab α) : Tab α := s.map fun r => (trn k t).map (dot r)
def addR (r q : List α) : List α := List.zipWith (· + ·) r q
def addT (s t : Tab α) : Tab α := List.zipWith addR s t
def sclT (c : α) (t : Tab α) : Tab α := t.map fun r => r.map (c * ·)
def zerT (m k : Nat) : Tab α := List.replicate m (List.replicate k 0)
def uniT (n : Nat) : Tab α := (List.range n).map fun i => (List.range n).map fun j => if i = j then 1 else 0
theorem Shp.trn {m k : Nat} {t : Tab α} (h : Shp m k t) : Shp k m (Law.trn k t) := by
  refine ⟨by unfold Law.trn; rw [List.length_map, List.length_range], fun r hr => ?_⟩
  obtain ⟨j, _, rfl⟩ := List.mem_map.mp hr
  rw [List.length_map]
  exact h.rows
theorem Shp.mul {m k n : Nat} {s t : Tab α} (h : Shp m k s) (g : Shp k n t) : Shp m n (mulT n s t) := by
  refine ⟨by unfold mulT; rw [List.length_map]; exact h.rows, fun r hr => ?_⟩
  obtain ⟨j, _, rfl⟩ := List.mem_map.mp hr
  rw [List.length_map]
  exact g.trn.rows
theorem Shp.scl {m k : Nat} {c : α} {t : Tab α} (h : Shp m k t) : Shp m k (sclT c t) := by
  refine ⟨by unfold sclT; rw [List.length_map]; exact h.rows, fun r hr => ?_⟩
  obtain ⟨q, hq, rfl⟩ := List.mem_map.mp hr
  rw [List.length_map]
  exact h.cols q hq
theorem Shp.uni (n : Nat) : Shp n n (uniT n : Tab α) := by
  refine ⟨by unfold uniT; rw [List.length_map, List.length_range], fun r hr => ?_⟩
  obtain ⟨j, _, rfl⟩ := List.mem_map.mp hr
  rw [List.length_map, List.length_range]
theorem Shp.zer (m k : Nat) : Shp m k (zerT m k : Tab α) := by
  refine ⟨by unfold zerT; rw [List.length_replicate], fun r hr => ?_⟩
  rw [(List.mem_replicate.mp hr).2, List.length_replicate]
variable [S : SF p α]
def tD (t : Tab α) : PD := .tuple (t.map rowD)
def TB (b : Nat) (t : Tab α) : Prop := ∀ r ∈ t, VB b r
theorem TB.le {b c : Nat} {t : Tab α} (h : TB b t) (l : b ≤ c) : TB c t := fun r hr => (h r hr).le l
theorem TB.trn {b k : Nat} {t : Tab α} (h : TB b t) (hb : 1 ≤ b) : TB b (trn k t) := by
  intro r hr
  obtain ⟨j, _, rfl⟩ := List.mem_map.mp hr
  intro x hx
  obtain ⟨q, hq, rfl⟩ := List.mem_map.mp hx
  rw [List.getD_eq_getElem?_getD]
  cases e : q[j]? with
  | none => exact B_le B_zero hb
  | some y => exact h q hq y (List.mem_of_getElem? e)
theorem TB.mul {b m k n : Nat} {s t : Tab α} (hs : Shp m k s) (h : TB b s) (g : TB b t) (hb : 1 ≤ b) : TB (1 + k * (2 * b + 1)) (mulT n s t) := by
  intro r hr
  obtain ⟨q, hq, rfl⟩ := List.mem_map.mp hr
  intro x hx
  obtain ⟨c, hc, rfl⟩ := List.mem_map.mp hx
  have := dot_B (h q hq) (g.trn (k := n) hb c hc)
  rw [hs.cols q hq] at this
  exact this
theorem rng_nat (k : Nat) : rngD 0 (k : Int) = (List.range k).map fun i : Nat => PyData.int (i : Int) := by
  unfold rngD
  have e : ((k : Int) - 0).toNat = k := by omega
  rw [e]
  exact List.map_congr_left fun i _ => by rw [Int.zero_add]
theorem rng_natL (k : Nat) : (rngD 0 (k : Int)).length = k := by rw [rng_nat, List.length_map, List.length_range]
theorem row_at {r : List α} {j : Nat} (h : j < r.length) : atI (r.map S.enc) (j : Int) = some (S.enc (r.getD j 0)) := by
  refine atI_map' S.enc ?_
  rw [atI_get0 (by omega) (by omega), Int.toNat_natCast, List.getD_eq_getElem?_getD, List.getElem?_eq_getElem h]
  rfl
theorem ev_transposed_in {m k : Nat} {t : Tab α} {R : DV → Prop} {E : EK} (h : Shp m k t) (hm : m ≤ 1000) (hk : k ≤ 1000) (hR : R (.d (tD (trn k t)))) : m_transposed_in [.d (tD t), .d (.int k)] R E := by
  have hr := h.rows
  rw [q_transposed_in]
  refine ⟨rfl, ?_⟩
  simp only [g_transposed_in, tD]
  array_get_dec
  refine ⟨⟨by omega, by omega⟩, by rw [rng_natL]; omega, ?_⟩
  rw [rng_nat]
  refine lcD_all _ (fun j : Nat => .tuple (t.map fun r => S.enc (r.getD j 0))) (fun j hj P hP => ?_) ?_
  · array_get_dec
    refine ⟨by rw [List.length_map]; omega, lcD_all rowD (fun r => S.enc (r.getD j 0)) (fun r hr P hP => ?_) ?_⟩
    · simp only [rowD]
      array_get_dec
      exact ⟨_, row_at (by rw [h.cols r hr]; exact List.mem_range.mp hj), hP⟩
    · array_get_dec
      exact hP
  array_get_dec
  have e : (List.range k).map (fun j => PyData.tuple (t.map fun r => S.enc (r.getD j 0))) = (trn k t).map rowD := by
    unfold trn
    rw [List.map_map]
    refine List.map_congr_left fun j _ => ?_
    show _ = PyData.tuple ((t.map fun r => r.getD j 0).map S.enc)
    rw [List.map_map]
    rfl
  rw [e]
  exact hR
end

/-! product_in -/
section
variable {p : Int} {α : Type} [Lean.Grind.Field α] [S : SF p α]
theorem ev_product_in {m k n b : Nat} {s t : Tab α} {R : DV → Prop} {E : EK} (hs : Shp m k s) (ht : Shp k n t) (bs : TB b s) (bt : TB b t) (b1 : 1 ≤ b) (hb : b ≤ 1000) (hl : 1 + k * (2 * b + 1) ≤ 4000) (hm : m ≤ 1000) (hk : k ≤ 1000) (hn : n ≤ 1000) (hR : R (.d (tD (mulT n s t)))) :
    m_product_in [.d (.int p), .d (tD s), .d (tD t), .d (.int n)] R E := by
  have hr := hs.rows
  rw [q_product_in]
  refine ⟨rfl, ?_⟩
  simp only [g_product_in]
  array_get_dec
  refine ev_transposed_in ht hk hn ?_
  simp only [tD]
  array_get_dec
  refine ⟨by rw [List.length_map]; omega, lcD_all rowD (fun r => rowD ((trn n t).map (dot r))) (fun r hr P hP => ?_) ?_⟩
  · array_get_dec
    refine ⟨by rw [List.length_map, ht.trn.rows]; omega, lcD_all rowD (fun c => S.enc (dot r c)) (fun c hc P hP => ?_) ?_⟩
    · array_get_dec
      exact ev_dot_in (bs r hr) (bt.trn b1 c hc) hb (by rw [hs.cols r hr]; exact hl) hP
    · array_get_dec
      have e : (trn n t).map (fun c => S.enc (dot r c)) = ((trn n t).map (dot r)).map S.enc := by rw [List.map_map]; rfl
      rw [e]
      exact hP
  array_get_dec
  have e : s.map (fun r => rowD ((trn n t).map (dot r))) = (mulT n s t).map rowD := by unfold mulT; rw [List.map_map]; rfl
  rw [e]
  exact hR
end

/-! multiple_in, scaled_in, table_sum_in, zeros_in, units_in -/
section
variable {p : Int} {α : Type} [Lean.Grind.Field α] [S : SF p α]
theorem ev_multiple_in {b c : Nat} {x : α} {r : List α} {v : PD} {R : DV → Prop} {E : EK} (hv : v = .tuple (r.map S.enc) ∨ v = .list (r.map S.enc)) (hx : S.B b x) (hr : VB c r) (hb : b ≤ 4000) (hc : c ≤ 4000) (hl : r.length ≤ 1000) (h : R (.d (.list ((r.map (x * ·)).map S.enc)))) :
    m_multiple_in [.d (.int p), .d (S.enc x), .d v] R E := by
  rw [q_multiple_in]
  refine ⟨rfl, ?_⟩
  simp only [g_multiple_in]
  have e : r.map (fun y => S.enc (x * y)) = (r.map (x * ·)).map S.enc := by rw [List.map_map]; rfl
  rcases hv with rfl | rfl
  all_goals
    array_get_dec
    refine ⟨by rw [List.length_map]; omega, lcD_all S.enc (fun y => S.enc (x * y)) (fun y hy P hP => ?_) ?_⟩
    · array_get_dec
      exact ev_times_in hx (hr y hy) hb hc hP
    · array_get_dec
      rw [e]
      exact h
theorem ev_scaled_in {m k b c : Nat} {x : α} {t : Tab α} {R : DV → Prop} {E : EK} (hs : Shp m k t) (hx : S.B b x) (ht : TB c t) (hb : b ≤ 4000) (hc : c ≤ 4000) (hm : m ≤ 1000) (hk : k ≤ 1000) (h : R (.d (tD (sclT x t)))) :
    m_scaled_in [.d (.int p), .d (S.enc x), .d (tD t)] R E := by
  have hr := hs.rows
  rw [q_scaled_in]
  refine ⟨rfl, ?_⟩
  simp only [g_scaled_in, tD]
  array_get_dec
  refine ⟨by rw [List.length_map]; omega, lcD_all rowD (fun r => rowD (r.map (x * ·))) (fun r hr P hP => ?_) ?_⟩
  · array_get_dec
    refine ev_multiple_in (.inl rfl) hx (ht r hr) hb hc (by rw [hs.cols r hr]; exact hk) ?_
    array_get_dec
    exact hP
  · array_get_dec
    have e : t.map (fun r => rowD (r.map (x * ·))) = (sclT x t).map rowD := by unfold sclT; rw [List.map_map]; rfl
    rw [e]
    exact h
theorem zipW_map {β γ δ : Type} (f : β → γ → δ) : ∀ (l : List β) (k : List γ), List.zipWith f l k = (l.zip k).map fun x => f x.1 x.2
  | [], _ => rfl
  | _ :: _, [] => rfl
  | a :: l, b :: k => by rw [List.zipWith_cons_cons, List.zip_cons_cons, List.map_cons, zipW_map f l k]
theorem ev_table_sum_in {m k b c : Nat} {s t : Tab α} {R : DV → Prop} {E : EK} (hs : Shp m k s) (ht : Shp m k t) (bs : TB b s) (bt : TB c t) (hb : b ≤ 4000) (hc : c ≤ 4000) (hm : m ≤ 1000) (hk : k ≤ 1000) (h : R (.d (tD (addT s t)))) :
    m_table_sum_in [.d (.int p), .d (tD s), .d (tD t)] R E := by
  have hr := hs.rows
  rw [q_table_sum_in]
  refine ⟨rfl, ?_⟩
  simp only [g_table_sum_in, tD]
  array_get_dec
  rw [zip_map]
  refine ⟨by rw [List.length_map, List.length_zip]; omega, lcD_all (fun x : List α × List α => PyData.tuple [rowD x.1, rowD x.2]) (fun x => rowD (addR x.1 x.2)) (fun x hx P hP => ?_) ?_⟩
  · have m1 := (List.of_mem_zip (a := x.1) (b := x.2) hx).1
    have m2 := (List.of_mem_zip (a := x.1) (b := x.2) hx).2
    have c1 := hs.cols _ m1
    simp only [rowD]
    array_get_dec
    rw [zip_enc]
    refine ⟨by rw [List.length_map, List.length_zip]; omega, lcD_all pairD (fun y => S.enc (y.1 + y.2)) (fun y hy P hP => ?_) ?_⟩
    · simp only [pairD]
      array_get_dec
      exact ev_plus_in (bs _ m1 _ (List.of_mem_zip (a := y.1) (b := y.2) hy).1) (bt _ m2 _ (List.of_mem_zip (a := y.1) (b := y.2) hy).2) hb hc hP
    · array_get_dec
      have e : (x.1.zip x.2).map (fun y => S.enc (y.1 + y.2)) = (addR x.1 x.2).map S.enc := by unfold addR; rw [zipW_map, List.map_map]; rfl
      rw [e]
      exact hP
  · array_get_dec
    have e : (s.zip t).map (fun x => rowD (addR x.1 x.2)) = (addT s t).map rowD := by unfold addT; rw [zipW_map, List.map_map]; rfl
    rw [e]
    exact h
theorem ev_zeros_in {m k : Nat} {R : DV → Prop} {E : EK} (hm : m ≤ 1000) (hk : k ≤ 1000) (h : R (.d (tD (zerT m k : Tab α)))) : m_zeros_in [.d (.int p), .d (.int m), .d (.int k)] R E := by
  rw [q_zeros_in]
  refine ⟨rfl, ?_⟩
  simp only [g_zeros_in]
  array_get_dec
  refine ev_scalar_in0 (S := S) ?_
  array_get_dec
  refine ⟨⟨by omega, by omega⟩, by omega, ⟨by omega, by omega⟩, by omega, ?_⟩
  rw [flat_repl, flat_repl, Int.toNat_natCast, Int.toNat_natCast]
  unfold tD zerT at h
  rw [List.map_replicate] at h
  unfold rowD at h
  rw [List.map_replicate] at h
  exact h
theorem ev_units_in {n : Nat} {R : DV → Prop} {E : EK} (hn : n ≤ 1000) (h : R (.d (tD (uniT n : Tab α)))) : m_units_in [.d (.int p), .d (.int n)] R E := by
  rw [q_units_in]
  refine ⟨rfl, ?_⟩
  simp only [g_units_in]
  array_get_dec
  refine ⟨⟨by omega, by omega⟩, by rw [rng_natL]; omega, ?_⟩
  rw [rng_nat]
  refine lcD_all _ (fun i : Nat => rowD ((List.range n).map fun j => if i = j then (1 : α) else 0)) (fun i hi P hP => ?_) ?_
  · array_get_dec
    refine ⟨⟨by omega, by omega⟩, by rw [rng_natL]; omega, ?_⟩
    rw [rng_nat]
    refine lcD_all _ (fun j : Nat => S.enc (if i = j then (1 : α) else 0)) (fun j hj P hP => ?_) ?_
    · array_get_dec
      refine ev_scalar_in (S := S) (k := decide ((i : Int) = (j : Int))) ?_
      have e : (if decide ((i : Int) = (j : Int)) = true then (1 : α) else 0) = if i = j then 1 else 0 := by
        by_cases z : i = j
        · rw [if_pos z, if_pos (decide_eq_true (by omega))]
        · rw [if_neg z, if_neg (by rw [decide_eq_true_eq]; omega)]
      rw [e]
      exact hP
    · array_get_dec
      have e : (List.range n).map (fun j => S.enc (if i = j then (1 : α) else 0)) = ((List.range n).map fun j => if i = j then (1 : α) else 0).map S.enc := by rw [List.map_map]; rfl
      rw [e]
      exact hP
  · array_get_dec
    have e : (List.range n).map (fun i => rowD ((List.range n).map fun j => if i = j then (1 : α) else 0)) = (uniT n : Tab α).map rowD := by unfold uniT; rw [List.map_map]; rfl
    rw [e]
    exact h
end

/-! is_vector_in, is_table_in, is_some_table of any object -/
def isVec (p k : Int) : PD → Bool
  | .tuple xs => decide ((xs.length : Int) = k) && xs.all (isSc p)
  | _ => false
def isTab (p m k : Int) : PD → Bool
  | .tuple xs => decide ((xs.length : Int) = m) && xs.all (isVec p k)
  | _ => false
def isT : PD → Bool
  | .tuple _ => true
  | _ => false
def lenT : PD → Int
  | .tuple xs => xs.length
  | _ => 0
def hdOk (p : Int) : List PD → Bool
  | [] => true
  | r :: rs => isTab p ((r :: rs).length : Int) (lenT r) (.tuple (r :: rs))
def isSome (p : Int) : PD → Bool
  | .tuple xs => xs.all isT && hdOk p xs
  | _ => false
theorem isTup_eq {n : Int} (xs : List PD) : isTup n n (.tuple xs) = decide ((xs.length : Int) = n) := by
  show (decide (n ≤ (xs.length : Int)) && decide ((xs.length : Int) ≤ n)) = _
  rw [← Bool.decide_and]
  exact decide_eq_decide.mpr (by omega)
theorem ev_is_vector_in {p k : Int} {x : PD} {R : DV → Prop} {E : EK} (hk : k ≤ 100000) (h : R (.d (.bool (isVec p k x)))) : m_is_vector_in [.d (.int p), .d (.int k), .d x] R E := by
  rw [q_is_vector_in]
  refine ⟨rfl, ?_⟩
  simp only [g_is_vector_in]
  array_get_dec
  refine ev_is_tuple ?_
  array_get_dec
  cases x with
  | tuple xs =>
    rw [isTup_eq]
    unfold isVec at h
    by_cases q : (xs.length : Int) = k
    · refine ite_t (decide_eq_true q) ?_
      array_get_dec
      refine ⟨by omega, ?_⟩
      rw [show xs = xs.map id by simp]
      refine lcD_all id (fun x => .bool (isSc p x)) (fun x _ P hP => ?_) ?_
      · array_get_dec
        exact ev_is_scalar_in hP
      have em : xs.map (fun x => PyData.bool (isSc p x)) = (xs.map (isSc p)).map .bool := by rw [List.map_map]; rfl
      rw [em]
      refine ⟨_, asBools_map _, ?_⟩
      rw [List.all_map]
      simpa [q] using h
    · refine ite_f (decide_eq_false q) ?_
      simpa [q] using h
  | _ => exact ite_f rfl h
theorem ev_is_table_in {p m k : Int} {x : PD} {R : DV → Prop} {E : EK} (hm : m ≤ 100000) (hk : k ≤ 100000) (h : R (.d (.bool (isTab p m k x)))) : m_is_table_in [.d (.int p), .d (.int m), .d (.int k), .d x] R E := by
  rw [q_is_table_in]
  refine ⟨rfl, ?_⟩
  simp only [g_is_table_in]
  array_get_dec
  refine ev_is_tuple ?_
  array_get_dec
  cases x with
  | tuple xs =>
    rw [isTup_eq]
    unfold isTab at h
    by_cases q : (xs.length : Int) = m
    · refine ite_t (decide_eq_true q) ?_
      array_get_dec
      refine ⟨by omega, ?_⟩
      rw [show xs = xs.map id by simp]
      refine lcD_all id (fun x => .bool (isVec p k x)) (fun x _ P hP => ?_) ?_
      · array_get_dec
        exact ev_is_vector_in hk hP
      have em : xs.map (fun x => PyData.bool (isVec p k x)) = (xs.map (isVec p k)).map .bool := by rw [List.map_map]; rfl
      rw [em]
      refine ⟨_, asBools_map _, ?_⟩
      rw [List.all_map]
      simpa [q] using h
    · refine ite_f (decide_eq_false q) ?_
      simpa [q] using h
  | _ => exact ite_f rfl h
/-- is_tuple(x, 0, None) -/
theorem ev_is_tuple0 {x : PD} {R : DV → Prop} {E : EK} (h : R (.d (.bool (isT x)))) : m_is_tuple [.d x, .d (.int 0), .d .none] R E := by
  rw [q_is_tuple]
  refine ⟨rfl, ?_⟩
  cases x with
  | tuple xs =>
    simp only [g_is_tuple]
    array_get_dec
    refine ite_t rfl (ite_t (decide_eq_true (by omega)) ?_)
    exact h
  | _ =>
    simp only [g_is_tuple]
    array_get_dec
    exact ite_f rfl h
theorem ev_is_some_table {p : Int} {x : PD} {R : DV → Prop} {E : EK} (hs : Sh x) (hl : ∀ xs, x = .tuple xs → xs.length ≤ 100000 ∧ ∀ r ∈ xs, lenT r ≤ 100000) (h : R (.d (.bool (isSome p x)))) : m_is_some_table [.d (.int p), .d x] R E := by
  rw [q_is_some_table]
  refine ⟨rfl, ?_⟩
  simp only [g_is_some_table]
  array_get_dec
  refine ev_is_tuple0 ?_
  array_get_dec
  cases x with
  | tuple xs =>
    obtain ⟨l1, l2⟩ := hl xs rfl
    rw [show isT (.tuple xs) = true from rfl]
    refine ite_f rfl ?_
    array_get_dec
    refine ⟨l1, ?_⟩
    rw [show lcD (gNm 2) tTrue _ _ xs = lcD (gNm 2) tTrue _ _ (xs.map id) by rw [List.map_id]]
    refine lcD_all id (fun x => .bool (isT x)) (fun x _ P hP => ?_) ?_
    · array_get_dec
      exact ev_is_tuple0 hP
    have em : xs.map (fun x => PyData.bool (isT x)) = (xs.map isT).map .bool := by rw [List.map_map]; rfl
    rw [em]
    refine ⟨_, asBools_map _, ?_⟩
    rw [List.all_map, show (id ∘ isT) = isT from rfl]
    have h : R (.d (.bool (xs.all isT && hdOk p xs))) := h
    cases q : xs.all isT with
    | false =>
      rw [q] at h
      exact ite_t rfl h
    | true =>
      rw [q] at h
      refine ite_f rfl ⟨hs, ?_⟩
      cases xs with
      | nil => exact ite_t rfl h
      | cons r rs =>
        refine ite_f rfl ?_
        rw [List.all_cons, Bool.and_eq_true] at q
        cases r with
        | tuple ys =>
          have l3 := l2 (.tuple ys) (by simp)
          array_get_dec
          refine ev_is_table_in (by rw [← List.length_cons (a := PyData.tuple ys)]; omega) l3 ?_
          exact h
        | _ => cases q.1
  | _ => exact ite_t rfl h
section
variable {p : Int} {α : Type} [Lean.Grind.Field α] [S : SF p α]
theorem isVec_row {k : Nat} {r : List α} (h : r.length = k) : isVec p k (rowD r) = true := by
  unfold rowD isVec
  simp only [List.length_map, h, decide_true, Bool.true_and, List.all_map, List.all_eq_true]
  intro x _
  exact isSc_enc x
theorem isTab_tD {m k : Nat} {t : Tab α} (h : Shp m k t) : isTab p m k (tD t) = true := by
  unfold tD isTab
  simp only [List.length_map, h.rows, decide_true, Bool.true_and, List.all_map, List.all_eq_true]
  intro r hr
  exact isVec_row (h.cols r hr)
theorem isSome_tD {m k : Nat} {t : Tab α} (h : Shp m k t) : isSome p (tD t) = true := by
  cases t with
  | nil => rfl
  | cons r rs =>
    have hr := h.cols r (by simp)
    have ht := isTab_tD (p := p) h
    have hm := h.rows
    unfold tD at ht ⊢
    simp only [isSome, hdOk, List.map_cons, Bool.and_eq_true]
    refine ⟨?_, ?_⟩
    · simp only [List.all_cons, List.all_map, Bool.and_eq_true, List.all_eq_true]
      exact ⟨rfl, fun x _ => rfl⟩
    · have e1 : lenT (rowD r) = (k : Int) := by
        show (((r.map S.enc).length : Nat) : Int) = k
        rw [List.length_map, hr]
      have e2 : (((rowD r :: rs.map rowD).length : Nat) : Int) = (m : Int) := by
        rw [List.length_cons, List.length_map, ← hm, List.length_cons]
      rw [e1, e2]
      exact ht
theorem cp_row {r : List α} : Cp 2 (rowD r) := by
  have : ∀ l : List α, CpA 1 (l.map S.enc) := fun l => by
    induction l with
    | nil => exact CpA.nil
    | cons a l ih => exact CpA.cons (cp_enc a) ih
  exact Cp.tup (this r)
theorem cpA_rows : ∀ t : Tab α, CpA 2 (t.map rowD)
  | [] => CpA.nil
  | r :: t => CpA.cons cp_row (cpA_rows t)
theorem cp_tab (t : Tab α) : Cp 3 (tD t) := Cp.tup (cpA_rows t)
theorem sh_tab (t : Tab α) : Sh (tD t) := (cp_tab t).sh' (by decide)
theorem rp_row {b : Nat} (hb : b ≤ 1800) : ∀ {r : List α}, VB b r → RpA 1 ((2 * b + 13) * r.length) (r.map S.enc)
  | [], _ => RpA.nil
  | a :: r, h => by
    have := RpA.cons (rp_enc (h a (by simp)) hb) (rp_row hb (r := r) fun i hi => h i (by simp [hi]))
    simp only [List.length_cons, List.map_cons, Nat.mul_add, Nat.mul_one]
    exact rpA_le this (Nat.le_refl _) (by omega)
theorem rp_rows {b m k : Nat} (hb : b ≤ 1800) : ∀ {t : Tab α}, TB b t → (∀ r ∈ t, r.length = k) → RpA 2 (((2 * b + 13) * k + 1) * t.length) (t.map rowD)
  | [], _, _ => RpA.nil
  | r :: t, h, hk => by
    have h1 := rp_row hb (h r (by simp))
    rw [hk r (by simp)] at h1
    have := RpA.cons (Rp.tup h1) (rp_rows (m := m) hb (t := t) (fun i hi => h i (by simp [hi])) fun i hi => hk i (by simp [hi]))
    simp only [List.length_cons, List.map_cons]
    rw [Nat.mul_add, Nat.mul_one, Nat.add_comm]
    exact this
theorem rp_tab {b m k : Nat} {t : Tab α} (hb : b ≤ 1800) (h : TB b t) (hs : Shp m k t) : Rp 3 (((2 * b + 13) * k + 1) * m) (tD t) := by
  have := Rp.tup (rp_rows (m := m) hb h hs.cols)
  rw [hs.rows] at this
  exact this
theorem okD_tab (t : Tab α) (hl : t.length ≤ 100000) (hr : ∀ r ∈ t, r.length ≤ 100000) : okD 9 (tD t) := by
  refine ⟨by rw [List.length_map]; exact hl, fun y hy => ?_⟩
  obtain ⟨r, hr', rfl⟩ := List.mem_map.mp hy
  refine ⟨by rw [List.length_map]; exact hr r hr', fun z hz => ?_⟩
  obtain ⟨x, _, rfl⟩ := List.mem_map.mp hz
  exact okD_enc 6 x
theorem some_tab {m k : Nat} {t : Tab α} {R : DV → Prop} {E : EK} (h : Shp m k t) (hm : m ≤ 1000) (hk : k ≤ 1000) (hR : R (.d (.bool true))) : m_is_some_table [.d (.int p), .d (tD t)] R E := by
  refine ev_is_some_table (sh_tab t) (fun xs e => ?_) (by rw [isSome_tD h]; exact hR)
  unfold tD at e
  cases e
  have := h.rows
  refine ⟨by rw [List.length_map]; omega, fun r hr => ?_⟩
  obtain ⟨q, hq, rfl⟩ := List.mem_map.mp hr
  show (((q.map S.enc).length : Nat) : Int) ≤ 100000
  rw [List.length_map, h.cols q hq]
  omega
end

/-! need_table, need_columns, need_number -/
structure BadT (p : Int) (v : PD) : Prop where
  no : ∀ (R : DV → Prop) (E : EK), R (.d (.bool false)) → m_is_some_table [.d (.int p), .d v] R E
  rp : Rp 4 3000 v
theorem bad_need_table {p : Int} {v : PD} {R : DV → Prop} {E : EK} (hp : Pz p) (hv : BadT p v) (h : E 3 v) : m_need_table [.d (.int p), .d v] R E := by
  rw [q_need_table]
  refine ⟨rfl, ?_⟩
  simp only [g_need_table]
  array_get_dec
  refine ev_need_prime hp ?_
  refine hv.no _ _ ?_
  array_get_dec
  exact ⟨v, rfl, hv.rp.ok9 (by decide) (by decide), h⟩
theorem badT {p : Int} {v : PD} (hr : Rp 4 3000 v) (hl : ∀ xs, v = .tuple xs → xs.length ≤ 100000 ∧ ∀ r ∈ xs, lenT r ≤ 100000) (h : isSome p v = false) : BadT p v :=
  ⟨fun R E hR => ev_is_some_table (hr.sh' (by decide)) hl (by rw [h]; exact hR), hr⟩
section
variable {p : Int} {α : Type} [Lean.Grind.Field α] [S : SF p α]
theorem ev_need_table {m k : Nat} {t : Tab α} {R : DV → Prop} {E : EK} (h : Shp m k t) (hm : m ≤ 1000) (hk : k ≤ 1000) (hR : R (.d .none)) : m_need_table [.d (.int p), .d (tD t)] R E := by
  rw [q_need_table]
  refine ⟨rfl, ?_⟩
  simp only [g_need_table]
  array_get_dec
  refine ev_need_prime (sf_pz p α) (some_tab h hm hk ?_)
  array_get_dec
  exact hR
theorem tab_at0 {r : List α} {t : Tab α} : atI (List.map rowD (r :: t)) 0 = some (rowD r) := e_at0
end

section
variable {p : Int} {α : Type} [Lean.Grind.Field α] [S : SF p α]
theorem ev_need_columns {m k : Nat} {t : Tab α} {R : DV → Prop} {E : EK} (h : Shp m k t) (hm : m ≤ 1000) (hk : k ≤ 1000) (hR : R (.d .none)) : m_need_columns [.d (.int p), .d (tD t), .d (.int k)] R E := by
  rw [q_need_columns]
  refine ⟨rfl, ?_⟩
  simp only [g_need_columns]
  array_get_dec
  refine ev_need_table h hm hk ?_
  refine ite_f (decide_eq_false (by omega)) ?_
  have hs := sh_tab (S := S) t
  cases t with
  | nil =>
    unfold tD at hs ⊢
    array_get_dec
    exact ⟨hs, ite_f rfl hR⟩
  | cons r t =>
    have hc := h.cols r (by simp)
    unfold tD at hs ⊢
    simp only [List.map_cons] at hs ⊢
    array_get_dec
    refine ⟨hs, ite_t rfl ?_⟩
    unfold rowD
    array_get_dec
    rw [List.length_map, hc, decide_eq_true rfl]
    exact ite_f rfl hR
theorem bad_need_columns {m k : Nat} {j : Int} {t : Tab α} {R : DV → Prop} {E : EK} (h : Shp m k t) (hm : m ≤ 1000) (hk : k ≤ 1000) (hj : j < 0 ∨ (0 < m ∧ j ≠ k)) (hR : E 0 (.int j)) : m_need_columns [.d (.int p), .d (tD t), .d (.int j)] R E := by
  rw [q_need_columns]
  refine ⟨rfl, ?_⟩
  simp only [g_need_columns]
  array_get_dec
  refine ev_need_table h hm hk ?_
  by_cases q : j < 0
  · exact ite_t (decide_eq_true q) hR
  refine ite_f (decide_eq_false q) ?_
  have hs := sh_tab (S := S) t
  cases t with
  | nil =>
    have := h.rows
    simp at this
    omega
  | cons r t =>
    have hc := h.cols r (by simp)
    unfold tD at hs ⊢
    simp only [List.map_cons] at hs ⊢
    array_get_dec
    refine ⟨hs, ite_t rfl ?_⟩
    unfold rowD
    array_get_dec
    rw [List.length_map, hc, decide_eq_false (by omega)]
    exact ite_t rfl hR
end

theorem ev_need_number {i lo : Int} {R : DV → Prop} {E : EK} (h : lo ≤ i) (hR : R (.d .none)) : m_need_number [.d (.int i), .d (.int lo), .d .none] R E := by
  rw [q_need_number]
  refine ⟨rfl, ?_⟩
  simp only [g_need_number]
  array_get_dec
  exact ite_f (decide_eq_false (by omega)) hR
theorem bad_need_number {i lo : Int} {R : DV → Prop} {E : EK} (h : i < lo) (hR : E 0 (.int i)) : m_need_number [.d (.int i), .d (.int lo), .d .none] R E := by
  rw [q_need_number]
  refine ⟨rfl, ?_⟩
  simp only [g_need_number]
  array_get_dec
  exact ite_t (decide_eq_true h) hR

/-! the tables' functions -/
section
variable {p : Int} {α : Type} [Lean.Grind.Field α] [S : SF p α]
theorem ev_is_table {m k : Nat} {v : PD} {R : DV → Prop} {E : EK} (hp : Pz p) (hm : m ≤ 1000) (hk : k ≤ 1000) (hR : R (.d (.bool (isTab p m k v)))) : m_is_table [.d (.int p), .d (.int m), .d (.int k), .d v] R E := by
  rw [q_is_table]
  refine ⟨rfl, ?_⟩
  simp only [g_is_table]
  array_get_dec
  refine ev_need_prime hp (ev_need_number (by omega) (ev_need_number (by omega) ?_))
  exact ev_is_table_in (by omega) (by omega) hR
theorem ev_zeros {m k : Nat} {R : DV → Prop} {E : EK} (hm : m ≤ 1000) (hk : k ≤ 1000) (hR : R (.d (tD (zerT m k : Tab α)))) : m_zeros [.d (.int p), .d (.int m), .d (.int k)] R E := by
  rw [q_zeros]
  refine ⟨rfl, ?_⟩
  simp only [g_zeros]
  array_get_dec
  refine ev_need_prime (sf_pz p α) (ev_need_number (by omega) (ev_need_number (by omega) ?_))
  exact ev_zeros_in hm hk hR
theorem ev_units {n : Nat} {R : DV → Prop} {E : EK} (hn : n ≤ 1000) (hR : R (.d (tD (uniT n : Tab α)))) : m_units [.d (.int p), .d (.int n)] R E := by
  rw [q_units]
  refine ⟨rfl, ?_⟩
  simp only [g_units]
  array_get_dec
  refine ev_need_prime (sf_pz p α) (ev_need_number (by omega) ?_)
  exact ev_units_in hn hR
theorem lens_eval {m k : Nat} {t : Tab α} (h : Shp m k t) {ρ : List Sl} {R : List PD → Prop} (hl : 3 < ρ.length) (hR : R (List.replicate m (.int k))) : lcD (gNm 3) tTrue (dBi bLen (aCons (dOwn 3) aNil)) ρ (t.map rowD) R := by
  refine lcD_all rowD (fun r => .int (r.length : Int)) (fun r hr P hP => ?_) ?_
  · unfold rowD
    simp only [gNm, dBi, aCons, aNil, dOwn]
    rw [List.getElem?_set_self hl]
    simp only [slO, bLen, onD]
    rw [List.length_map]
    exact hP
  · have e : t.map (fun r => PyData.int (r.length : Int)) = List.replicate m (.int k) := by
      rw [List.eq_replicate_iff]
      refine ⟨by rw [List.length_map]; exact h.rows, fun b hb => ?_⟩
      obtain ⟨r, hr, rfl⟩ := List.mem_map.mp hb
      rw [h.cols r hr]
    rw [e]
    exact hR
theorem cpA_rep {e : Nat} {d : PD} (h : Cp e d) (k : Nat) : CpA e (List.replicate k d) := cpA_repl h k
theorem ev_table_sum {m k b c : Nat} {s t : Tab α} {R : DV → Prop} {E : EK} (hs : Shp m k s) (ht : Shp m k t) (bs : TB b s) (bt : TB c t) (hb : b ≤ 4000) (hc : c ≤ 4000) (hm : m ≤ 1000) (hk : k ≤ 1000) (h : R (.d (tD (addT s t)))) :
    m_table_sum [.d (.int p), .d (tD s), .d (tD t)] R E := by
  have r1 := hs.rows
  have r2 := ht.rows
  rw [q_table_sum]
  refine ⟨rfl, ?_⟩
  simp only [g_table_sum]
  array_get_dec
  refine ev_need_table hs hm hk (ev_need_table ht hm hk ?_)
  rw [show tD s = .tuple (s.map rowD) from rfl, show tD t = .tuple (t.map rowD) from rfl]
  array_get_dec
  refine ⟨by rw [List.length_map]; omega, lens_eval hs (by simp) ⟨by rw [List.length_map]; omega, lens_eval ht (by simp) ?_⟩⟩
  refine e_neR (Cp.list (cpA_rep (e := 0) Cp.int m) : Cp 1 _) (by decide) ?_
  array_get_dec
  exact ev_table_sum_in hs ht bs bt hb hc hm hk h
theorem ev_scaled {m k b c : Nat} {x : α} {t : Tab α} {R : DV → Prop} {E : EK} (hs : Shp m k t) (hx : S.B b x) (ht : TB c t) (hb : b ≤ 4000) (hc : c ≤ 4000) (hm : m ≤ 1000) (hk : k ≤ 1000) (h : R (.d (tD (sclT x t)))) :
    m_scaled [.d (.int p), .d (S.enc x), .d (tD t)] R E := by
  rw [q_scaled]
  refine ⟨rfl, ?_⟩
  simp only [g_scaled]
  array_get_dec
  refine ev_need_prime (sf_pz p α) (ev_need_scalar (ev_need_table hs hm hk ?_))
  exact ev_scaled_in hs hx ht hb hc hm hk h
theorem ev_transposed {m k : Nat} {t : Tab α} {R : DV → Prop} {E : EK} (h : Shp m k t) (hm : m ≤ 1000) (hk : k ≤ 1000) (hR : R (.d (tD (trn k t)))) : m_transposed [.d (.int p), .d (tD t), .d (.int k)] R E := by
  rw [q_transposed]
  refine ⟨rfl, ?_⟩
  simp only [g_transposed]
  array_get_dec
  exact ev_need_columns h hm hk (ev_transposed_in h hm hk hR)
theorem ev_product {m k n b : Nat} {s t : Tab α} {R : DV → Prop} {E : EK} (hs : Shp m k s) (ht : Shp k n t) (bs : TB b s) (bt : TB b t) (b1 : 1 ≤ b) (hb : b ≤ 1000) (hl : 1 + k * (2 * b + 1) ≤ 4000) (hm : m ≤ 1000) (hk : k ≤ 1000) (hn : n ≤ 1000) (hR : R (.d (tD (mulT n s t)))) :
    m_product [.d (.int p), .d (tD s), .d (tD t), .d (.int n)] R E := by
  rw [q_product]
  refine ⟨rfl, ?_⟩
  simp only [g_product]
  array_get_dec
  refine ev_need_table hs hm hk (ev_need_table ht hk hn ?_)
  have fin : m_need_columns [.d (.int p), .d (tD t), .d (.int n)] (fun _ => m_product_in [.d (.int p), .d (tD s), .d (tD t), .d (.int n)] R E) E := ev_need_columns ht hk hn (ev_product_in hs ht bs bt b1 hb hl hm hk hn hR)
  have hsh := sh_tab (S := S) s
  cases s with
  | nil =>
    rw [show tD ([] : Tab α) = .tuple [] from rfl] at hsh fin ⊢
    array_get_dec
    exact ⟨hsh, ite_f rfl fin⟩
  | cons r s =>
    have hc := hs.cols r (by simp)
    rw [show tD (r :: s) = .tuple (rowD r :: s.map rowD) from rfl] at hsh fin ⊢
    array_get_dec
    refine ⟨hsh, ite_t rfl ?_⟩
    rw [show rowD r = .tuple (r.map S.enc) from rfl, show tD t = .tuple (t.map rowD) from rfl]
    array_get_dec
    rw [List.length_map, List.length_map, hc, ht.rows, decide_eq_true rfl]
    exact ite_f rfl fin
end

/-! tables by their entries -/
section
variable {α : Type} [Lean.Grind.Field α]
def fsum (n : Nat) (f : Nat → α) : α := match n with
  | 0 => 0
  | n + 1 => fsum n f + f n
theorem fsum_congr {f g : Nat → α} : ∀ {n : Nat}, (∀ i, i < n → f i = g i) → fsum n f = fsum n g
  | 0, _ => rfl
  | n + 1, h => by
    show fsum n f + f n = fsum n g + g n
    rw [fsum_congr fun i hi => h i (by omega), h n (by omega)]
theorem fsum_add (f g : Nat → α) : ∀ n, fsum n (fun i => f i + g i) = fsum n f + fsum n g
  | 0 => by simp only [fsum]; grind
  | n + 1 => by simp only [fsum, fsum_add f g n]; grind
theorem fsum_mul (c : α) (f : Nat → α) : ∀ n, fsum n (fun i => c * f i) = c * fsum n f
  | 0 => by simp only [fsum]; grind
  | n + 1 => by simp only [fsum, fsum_mul c f n]; grind
theorem fsum_mulR (c : α) (f : Nat → α) : ∀ n, fsum n (fun i => f i * c) = fsum n f * c
  | 0 => by simp only [fsum]; grind
  | n + 1 => by simp only [fsum, fsum_mulR c f n]; grind
theorem fsum_zero : ∀ n, fsum n (fun _ => (0 : α)) = 0
  | 0 => rfl
  | n + 1 => by simp only [fsum, fsum_zero n]; grind
theorem fsum_comm (f : Nat → Nat → α) (m : Nat) : ∀ n, fsum n (fun i => fsum m (f i)) = fsum m fun j => fsum n fun i => f i j
  | 0 => by simp only [fsum]; rw [fsum_zero]
  | n + 1 => by simp only [fsum]; rw [fsum_comm f m n, ← fsum_add]
theorem fsum_shift (f : Nat → α) : ∀ n, fsum (n + 1) f = f 0 + fsum n fun i => f (i + 1)
  | 0 => by simp only [fsum]; grind
  | n + 1 => by
    show fsum (n + 1) f + f (n + 1) = f 0 + (fsum n (fun i => f (i + 1)) + f (n + 1))
    rw [fsum_shift f n]
    grind
theorem fsum_one {k : Nat} (f : Nat → α) : ∀ {n : Nat}, k < n → fsum n (fun i => if i = k then f i else 0) = f k
  | n + 1, h => by
    simp only [fsum]
    by_cases e : n = k
    · subst e
      rw [if_pos rfl, fsum_congr (g := fun _ => 0) fun i hi => by rw [if_neg (by omega)], fsum_zero]
      grind
    · rw [if_neg e, fsum_one f (by omega)]
      grind
theorem dot_fsum : ∀ (r q : List α) (k : Nat), r.length = k → q.length = k → dot r q = fsum k fun i => r.getD i 0 * q.getD i 0
  | [], [], k, h, _ => by
    subst h
    rfl
  | a :: r, b :: q, k, h, g => by
    cases k with
    | zero => simp at h
    | succ k =>
      rw [fsum_shift]
      show a * b + dot r q = _
      rw [dot_fsum r q k (by simpa using h) (by simpa using g)]
      rfl
def ent (t : Tab α) (i j : Nat) : α := (t.getD i []).getD j 0
theorem getD_map {β γ : Type} (f : β → γ) (l : List β) (i : Nat) (d : β) (e : γ) (h : i < l.length) : (l.map f).getD i e = f (l.getD i d) := by
  rw [List.getD_eq_getElem?_getD, List.getD_eq_getElem?_getD, List.getElem?_map, List.getElem?_eq_getElem h]
  rfl
theorem getD_range {n i : Nat} (h : i < n) : (List.range n).getD i 0 = i := by
  rw [List.getD_eq_getElem?_getD, List.getElem?_range h]
  rfl
theorem getD_mem' {β : Type} {l : List β} {i : Nat} {d : β} (h : i < l.length) : l.getD i d ∈ l := by
  rw [List.getD_eq_getElem?_getD, List.getElem?_eq_getElem h]
  exact List.getElem_mem h
theorem row_ext {r q : List α} {k : Nat} (hr : r.length = k) (hq : q.length = k) (h : ∀ j, j < k → r.getD j 0 = q.getD j 0) : r = q := by
  apply List.ext_getElem (by omega)
  intro i h1 h2
  have := h i (by omega)
  rw [List.getD_eq_getElem?_getD, List.getD_eq_getElem?_getD, List.getElem?_eq_getElem h1, List.getElem?_eq_getElem h2] at this
  exact this
theorem tab_ext {m k : Nat} {s t : Tab α} (hs : Shp m k s) (ht : Shp m k t) (h : ∀ i j, i < m → j < k → ent s i j = ent t i j) : s = t := by
  have r1 := hs.rows
  have r2 := ht.rows
  apply List.ext_getElem (by omega)
  intro i h1 h2
  refine row_ext (hs.cols _ (List.getElem_mem h1)) (ht.cols _ (List.getElem_mem h2)) fun j hj => ?_
  have := h i j (by omega) hj
  unfold ent at this
  rw [List.getD_eq_getElem?_getD (l := s), List.getD_eq_getElem?_getD (l := t), List.getElem?_eq_getElem h1, List.getElem?_eq_getElem h2] at this
  exact this
theorem ent_trn {m k i j : Nat} {t : Tab α} (h : Shp m k t) (hi : i < m) (hj : j < k) : ent (trn k t) j i = ent t i j := by
  unfold ent trn
  rw [getD_map _ _ _ 0 _ (by rw [List.length_range]; exact hj), getD_range hj, getD_map _ _ _ [] _ (by rw [h.rows]; exact hi)]
theorem row_of {m k i : Nat} {t : Tab α} (h : Shp m k t) (hi : i < m) : (t.getD i []).length = k := h.cols _ (getD_mem' (by rw [h.rows]; exact hi))
theorem ent_mul {m k n i j : Nat} {s t : Tab α} (hs : Shp m k s) (ht : Shp k n t) (hi : i < m) (hj : j < n) : ent (mulT n s t) i j = fsum k fun l => ent s i l * ent t l j := by
  have hc : ((trn n t).getD j []).length = k := row_of ht.trn hj
  have e : ent (mulT n s t) i j = dot (s.getD i []) ((trn n t).getD j []) := by
    unfold ent mulT
    rw [getD_map _ _ _ [] _ (by rw [hs.rows]; exact hi), getD_map _ _ _ [] _ (by rw [ht.trn.rows]; exact hj)]
  rw [e, dot_fsum _ _ k (row_of hs hi) hc]
  refine fsum_congr fun l hl => ?_
  have : ((trn n t).getD j []).getD l 0 = ent t l j := ent_trn ht hl hj
  rw [this]
  rfl
theorem ent_uni {n i j : Nat} (hi : i < n) (hj : j < n) : ent (uniT n : Tab α) i j = if i = j then 1 else 0 := by
  unfold ent uniT
  rw [getD_map _ _ _ 0 _ (by rw [List.length_range]; exact hi), getD_range hi, getD_map _ _ _ 0 _ (by rw [List.length_range]; exact hj), getD_range hj]
theorem mul_assocT {m k n r : Nat} {s t u : Tab α} (hs : Shp m k s) (ht : Shp k n t) (hu : Shp n r u) : mulT r (mulT n s t) u = mulT r s (mulT r t u) := by
  refine tab_ext ((hs.mul ht).mul hu) (hs.mul (ht.mul hu)) fun i j hi hj => ?_
  rw [ent_mul (hs.mul ht) hu hi hj, ent_mul hs (ht.mul hu) hi hj]
  rw [fsum_congr (g := fun l => fsum k fun q => ent s i q * (ent t q l * ent u l j)) fun l hl => by
    rw [ent_mul hs ht hi hl, ← fsum_mulR]
    exact fsum_congr fun q _ => by grind]
  rw [fsum_comm]
  refine fsum_congr fun q hq => ?_
  rw [fsum_mul, ent_mul ht hu hq hj]
theorem mul_trnT {m k n : Nat} {s t : Tab α} (hs : Shp m k s) (ht : Shp k n t) : mulT m (trn n t) (trn k s) = trn n (mulT n s t) := by
  refine tab_ext (ht.trn.mul hs.trn) (hs.mul ht).trn fun i j hi hj => ?_
  rw [ent_mul ht.trn hs.trn hi hj, ent_trn (hs.mul ht) hj hi, ent_mul hs ht hj hi]
  refine fsum_congr fun l hl => ?_
  rw [ent_trn ht hl hi, ent_trn hs hj hl]
  grind
theorem mul_uniT {m k : Nat} {s : Tab α} (hs : Shp m k s) : mulT k s (uniT k) = s := by
  refine tab_ext (hs.mul (Shp.uni k)) hs fun i j hi hj => ?_
  rw [ent_mul hs (Shp.uni k) hi hj]
  rw [fsum_congr (g := fun l => if l = j then ent s i l else 0) fun l hl => by
    rw [ent_uni hl hj]
    by_cases e : l = j
    · rw [if_pos e, if_pos e]; grind
    · rw [if_neg e, if_neg e]; grind]
  exact fsum_one (fun l => ent s i l) hj
theorem uni_mulT {m k : Nat} {s : Tab α} (hs : Shp m k s) : mulT k (uniT m) s = s := by
  refine tab_ext ((Shp.uni m).mul hs) hs fun i j hi hj => ?_
  rw [ent_mul (Shp.uni m) hs hi hj]
  rw [fsum_congr (g := fun l => if l = i then ent s l j else 0) fun l hl => by
    rw [ent_uni hi hl]
    by_cases e : l = i
    · rw [if_pos e, if_pos e.symm]; grind
    · rw [if_neg e, if_neg (fun z => e z.symm)]; grind]
  exact fsum_one (fun l => ent s l j) hi
end

/-! the law's tables -/
section
variable {p : Int} {α : Type} [Lean.Grind.Field α] [S : SF p α]
theorem ev_law_table {m k : Nat} {R : DV → Prop} {E : EK} (hm : m ≤ 60) (hk : k ≤ 60) (h : ∀ t : Tab α, Shp m k t → TB 8 t → R (.d (tD t))) : m__law_table [.wel, .d (.int p), .d (.int m), .d (.int k)] R E := by
  rw [q__law_table]
  refine ⟨rfl, ?_⟩
  simp only [g__law_table]
  array_get_dec
  refine ⟨⟨by omega, by omega⟩, by rw [rng_natL]; omega, ?_⟩
  rw [rng_nat]
  refine lcD_any _ rowD (fun _ (r : List α) => r.length = k ∧ VB 8 r) (fun i _ P hP => ?_) fun t ht => ?_
  · array_get_dec
    refine ⟨⟨by omega, by omega⟩, by rw [rng_natL]; omega, ?_⟩
    rw [rng_nat]
    refine lcD_any _ S.enc (fun _ (x : α) => S.B 8 x) (fun j _ P hP => ?_) fun r hr => ?_
    · array_get_dec
      exact ev_law_drawn fun x hx => hP x hx
    · array_get_dec
      refine hP r ⟨?_, all2_mem (P := fun y => S.B 8 y) (fun _ _ h => h) hr⟩
      rw [all2_len hr, List.length_range]
  · array_get_dec
    have hall := all2_mem (P := fun r : List α => r.length = k ∧ VB 8 r) (fun _ _ h => h) ht
    refine h t ⟨?_, fun r hr => (hall r hr).1⟩ fun r hr => (hall r hr).2
    rw [all2_len ht, List.length_range]
theorem ev_law_product {m k n b : Nat} {s t : Tab α} {R : DV → Prop} {E : EK} (hs : Shp m k s) (ht : Shp k n t) (bs : TB b s) (bt : TB b t) (b1 : 1 ≤ b) (hb : b ≤ 1000) (hl : 1 + k * (2 * b + 1) ≤ 4000) (hm : m ≤ 1000) (hk : k ≤ 1000) (hn : n ≤ 1000) (hR : R (.d (tD (mulT n s t)))) :
    m__law_product [.d (.int p), .d (tD s), .d (tD t), .d (.int n)] R E := by
  have hr := hs.rows
  have htr := ht.rows
  rw [q__law_product]
  refine ⟨rfl, ?_⟩
  simp only [g__law_product]
  rw [show tD s = .tuple (s.map rowD) from rfl, show tD t = .tuple (t.map rowD) from rfl]
  array_get_dec
  refine ⟨by rw [List.length_map]; omega, lcD_all rowD (fun r => rowD ((trn n t).map (dot r))) (fun r hr P hP => ?_) ?_⟩
  · array_get_dec
    refine ⟨⟨by omega, by omega⟩, by rw [rng_natL]; omega, ?_⟩
    rw [rng_nat]
    refine lcD_all _ (fun j : Nat => S.enc (dot r (t.map fun q => q.getD j 0))) (fun j hj P hP => ?_) ?_
    · array_get_dec
      have hj : j < n := List.mem_range.mp hj
      refine ⟨by rw [List.length_map]; omega, lcD_all rowD (fun q => S.enc (q.getD j 0)) (fun q hq P hP => ?_) ?_⟩
      · simp only [rowD]
        array_get_dec
        exact ⟨_, row_at (by rw [ht.cols q hq]; exact hj), hP⟩
      · array_get_dec
        have e : t.map (fun q => S.enc (q.getD j 0)) = (t.map fun q => q.getD j 0).map S.enc := by rw [List.map_map]; rfl
        rw [e]
        refine ev_law_dot (.inl rfl) (.inr rfl) (bs r hr) (bt.trn (k := n) b1 _ (List.mem_map.mpr ⟨j, List.mem_range.mpr hj, rfl⟩)) hb (by rw [hs.cols r hr]; exact hl) hP
    · array_get_dec
      have e : (List.range n).map (fun j => S.enc (dot r (t.map fun q => q.getD j 0))) = ((trn n t).map (dot r)).map S.enc := by unfold trn; rw [List.map_map, List.map_map]; rfl
      rw [e]
      exact hP
  array_get_dec
  have e : s.map (fun r => rowD ((trn n t).map (dot r))) = (mulT n s t).map rowD := by unfold mulT; rw [List.map_map]; rfl
  rw [e]
  exact hR
theorem ev_law_units {n : Nat} {R : DV → Prop} {E : EK} (hn : n ≤ 1000) (h : R (.d (tD (uniT n : Tab α)))) : m__law_units [.d (.int p), .d (.int n)] R E := by
  rw [q__law_units]
  refine ⟨rfl, ?_⟩
  simp only [g__law_units]
  array_get_dec
  refine ⟨⟨by omega, by omega⟩, by rw [rng_natL]; omega, ?_⟩
  rw [rng_nat]
  refine lcD_all _ (fun i : Nat => rowD ((List.range n).map fun j => if i = j then (1 : α) else 0)) (fun i hi P hP => ?_) ?_
  · array_get_dec
    refine ⟨⟨by omega, by omega⟩, by rw [rng_natL]; omega, ?_⟩
    rw [rng_nat]
    refine lcD_all _ (fun j : Nat => S.enc (if i = j then (1 : α) else 0)) (fun j hj P hP => ?_) ?_
    · array_get_dec
      refine ev_law_num (S := S) (k := decide ((i : Int) = (j : Int))) ?_
      have e : (if decide ((i : Int) = (j : Int)) = true then (1 : α) else 0) = if i = j then 1 else 0 := by
        by_cases z : i = j
        · rw [if_pos z, if_pos (decide_eq_true (by omega))]
        · rw [if_neg z, if_neg (by rw [decide_eq_true_eq]; omega)]
      rw [e]
      exact hP
    · array_get_dec
      have e : (List.range n).map (fun j => S.enc (if i = j then (1 : α) else 0)) = ((List.range n).map fun j => if i = j then (1 : α) else 0).map S.enc := by rw [List.map_map]; rfl
      rw [e]
      exact hP
  · array_get_dec
    have e : (List.range n).map (fun i => rowD ((List.range n).map fun j => if i = j then (1 : α) else 0)) = (uniT n : Tab α).map rowD := by unfold uniT; rw [List.map_map]; rfl
    rw [e]
    exact h
end

section
variable {p : Int} {α : Type} [Lean.Grind.Field α] [S : SF p α]
theorem ev_law_turned {m k : Nat} {t : Tab α} {R : DV → Prop} {E : EK} (h : Shp m k t) (hm : m ≤ 1000) (hk : k ≤ 1000) (hR : R (.d (tD (trn k t)))) : m__law_turned [.d (tD t), .d (.int k)] R E := by
  have hr := h.rows
  rw [q__law_turned]
  refine ⟨rfl, ?_⟩
  simp only [g__law_turned, tD]
  array_get_dec
  refine ⟨⟨by omega, by omega⟩, by rw [rng_natL]; omega, ?_⟩
  rw [rng_nat]
  refine lcD_all _ (fun j : Nat => .tuple (t.map fun r => S.enc (r.getD j 0))) (fun j hj P hP => ?_) ?_
  · array_get_dec
    refine ⟨by rw [List.length_map]; omega, lcD_all rowD (fun r => S.enc (r.getD j 0)) (fun r hr P hP => ?_) ?_⟩
    · simp only [rowD]
      array_get_dec
      exact ⟨_, row_at (by rw [h.cols r hr]; exact List.mem_range.mp hj), hP⟩
    · array_get_dec
      exact hP
  array_get_dec
  have e : (List.range k).map (fun j => PyData.tuple (t.map fun r => S.enc (r.getD j 0))) = (trn k t).map rowD := by
    unfold trn
    rw [List.map_map]
    refine List.map_congr_left fun j _ => ?_
    show _ = PyData.tuple ((t.map fun r => r.getD j 0).map S.enc)
    rw [List.map_map]
    rfl
  rw [e]
  exact hR
end

/-! _law_is_table of any object -/
theorem all_true {α : Type} {f : α → Bool} : ∀ {l : List α}, (∀ x ∈ l, f x = true) → l.all f = true := fun h => List.all_eq_true.mpr h
theorem lit_loop {p m k : Int} (hp : 0 < p) (hk : k ≤ 1000) {D : DEnds} {s3 : Sl} {r : Bool} (ht : r = true → ∀ a b, D.nx [.v (.d (.int p)), .v (.d (.int m)), .v (.d (.int k)), s3, a, b]) (hf : r = false → ∀ ρ, D.rt ρ (.d (.bool false))) : ∀ (xs : List PD) (a b : Sl), (∀ x ∈ xs, ∃ ys, x = .tuple ys ∧ (ys.length : Int) = k) → r = xs.all (isVec p k) →
    loopD (gNm 4) g__law_is_table_b0 D xs [.v (.d (.int p)), .v (.d (.int m)), .v (.d (.int k)), s3, a, b]
  | [], a, b, _, e => ht e a b
  | x :: xs, a, b, hx, e => by
    obtain ⟨ys, rfl, hl⟩ := hx x (by simp)
    unfold loopD
    simp only [g__law_is_table_b0]
    array_get_dec
    refine ⟨by omega, ?_⟩
    rw [show lcD (gNm 5) tTrue _ _ ys = lcD (gNm 5) tTrue _ _ (ys.map id) by rw [List.map_id]]
    refine lcD_all id (fun x => .bool (isSc p x)) (fun x _ P hP => ?_) ?_
    · array_get_dec
      unfold isSc at hP
      rw [if_pos hp] at hP
      cases x with
      | int i =>
        refine ite_t rfl (ite_t rfl ?_)
        simp only [id_eq]
        array_get_dec
        by_cases h0 : 0 ≤ i
        · refine ite_t (decide_eq_true h0) ?_
          simpa [h0] using hP
        · refine ite_f (decide_eq_false h0) ?_
          simpa [h0] using hP
      | bool q => exact hP
      | _ => exact hP
    have em : ys.map (fun x => PyData.bool (isSc p x)) = (ys.map (isSc p)).map .bool := by rw [List.map_map]; rfl
    rw [em]
    refine ⟨_, asBools_map _, ?_⟩
    rw [List.all_map]
    have ev : isVec p k (.tuple ys) = ys.all (id ∘ isSc p) := by
      show (decide ((ys.length : Int) = k) && ys.all (isSc p)) = _
      rw [decide_eq_true hl]
      rfl
    rw [List.all_cons, ev] at e
    cases q : ys.all (id ∘ isSc p) with
    | true =>
      rw [q] at e
      exact ite_f rfl (lit_loop hp hk ht hf xs _ _ (fun x hx' => hx x (by simp [hx'])) e)
    | false =>
      rw [q] at e
      exact ite_t rfl (hf e _)
theorem ev_law_is_table {p m k : Int} {v : PD} {R : DV → Prop} {E : EK} (hp : 0 < p) (hm : m ≤ 1000) (hk : k ≤ 1000) (hR : R (.d (.bool (isTab p m k v)))) : m__law_is_table [.d (.int p), .d (.int m), .d (.int k), .d v] R E := by
  rw [q__law_is_table]
  refine ⟨rfl, ?_⟩
  simp only [g__law_is_table]
  array_get_dec
  cases v with
  | tuple xs =>
    refine ite_f rfl ?_
    array_get_dec
    have hR : R (.d (.bool (decide ((xs.length : Int) = m) && xs.all (isVec p k)))) := hR
    by_cases q : (xs.length : Int) = m
    · rw [decide_eq_true q] at hR ⊢
      refine ite_f rfl ?_
      array_get_dec
      refine ⟨by omega, ?_⟩
      rw [show lcD (gNm 4) tTrue _ _ xs = lcD (gNm 4) tTrue _ _ (xs.map id) by rw [List.map_id]]
      refine lcD_all id (fun x => .bool (isT x && decide (lenT x = k))) (fun x _ P hP => ?_) ?_
      · array_get_dec
        cases x with
        | tuple ys =>
          refine ite_t rfl ?_
          simp only [id_eq]
          array_get_dec
          exact hP
        | _ => exact hP
      have em : xs.map (fun x => PyData.bool (isT x && decide (lenT x = k))) = (xs.map fun x => isT x && decide (lenT x = k)).map .bool := by rw [List.map_map]; rfl
      rw [em]
      refine ⟨_, asBools_map _, ?_⟩
      rw [List.all_map]
      cases z : xs.all (id ∘ fun x => isT x && decide (lenT x = k)) with
      | false =>
        have e : xs.all (isVec p k) = false := by
          rw [Bool.eq_false_iff] at z ⊢
          refine fun h => z (all_true fun x hx => ?_)
          have := List.all_eq_true.mp h x hx
          cases x with
          | tuple ys =>
            have this : (decide ((ys.length : Int) = k) && ys.all (isSc p)) = true := this
            rw [Bool.and_eq_true] at this
            exact this.1
          | _ => cases this
        rw [e] at hR
        exact ite_t rfl hR
      | true =>
        refine ite_f rfl ?_
        array_get_dec
        refine ⟨by omega, lit_loop hp hk (r := xs.all (isVec p k)) (fun e a b => ?_) (fun e ρ => ?_) xs _ _ (fun x hx => ?_) rfl⟩
        · array_get_dec
          rw [e] at hR
          exact hR
        · rw [e] at hR
          exact hR
        · have := List.all_eq_true.mp z x hx
          cases x with
          | tuple ys =>
            have this : (true && decide ((ys.length : Int) = k)) = true := this
            exact ⟨ys, rfl, of_decide_eq_true this⟩
          | _ => cases this
    · rw [decide_eq_false q] at hR ⊢
      exact ite_t rfl hR
  | _ => exact ite_t rfl hR

section
variable {p : Int} {α : Type} [Lean.Grind.Field α] [S : SF p α]
theorem TB.uni (n : Nat) : TB 1 (uniT n : Tab α) := by
  intro r hr
  obtain ⟨i, _, rfl⟩ := List.mem_map.mp hr
  intro x hx
  obtain ⟨j, _, rfl⟩ := List.mem_map.mp hx
  split
  · exact B_one
  · exact B_zero
theorem TB.zer (m k : Nat) : TB 1 (zerT m k : Tab α) := by
  intro r hr
  have := List.eq_of_mem_replicate hr
  subst this
  intro x hx
  have := List.eq_of_mem_replicate hx
  subst this
  exact B_zero
theorem TB.scl {b c : Nat} {x : α} {t : Tab α} (hx : S.B b x) (h : TB c t) : TB (b + c) (sclT x t) := by
  intro r hr
  obtain ⟨q, hq, rfl⟩ := List.mem_map.mp hr
  intro y hy
  obtain ⟨z, hz, rfl⟩ := List.mem_map.mp hy
  exact B_mul hx (h q hq z hz)
theorem Shp.add {m k : Nat} {s t : Tab α} (hs : Shp m k s) (ht : Shp m k t) : Shp m k (addT s t) := by
  have r1 := hs.rows
  have r2 := ht.rows
  refine ⟨by unfold addT; rw [List.length_zipWith]; omega, fun r hr => ?_⟩
  unfold addT at hr
  rw [zipW_map] at hr
  obtain ⟨x, hx, rfl⟩ := List.mem_map.mp hr
  have c1 := hs.cols _ (List.of_mem_zip (a := x.1) (b := x.2) hx).1
  have c2 := ht.cols _ (List.of_mem_zip (a := x.1) (b := x.2) hx).2
  unfold addR
  rw [List.length_zipWith]
  omega
theorem TB.add {b c : Nat} {s t : Tab α} (hs : TB b s) (ht : TB c t) : TB (b + c + 1) (addT s t) := by
  intro r hr
  unfold addT at hr
  rw [zipW_map] at hr
  obtain ⟨x, hx, rfl⟩ := List.mem_map.mp hr
  intro y hy
  unfold addR at hy
  rw [zipW_map] at hy
  obtain ⟨z, hz, rfl⟩ := List.mem_map.mp hy
  exact B_add (hs _ (List.of_mem_zip (a := x.1) (b := x.2) hx).1 _ (List.of_mem_zip (a := z.1) (b := z.2) hz).1) (ht _ (List.of_mem_zip (a := x.1) (b := x.2) hx).2 _ (List.of_mem_zip (a := z.1) (b := z.2) hz).2)
end

/-! _law_near gives some object -/
theorem atI_ex {α : Type} {xs : List α} {k : Int} {R : α → Prop} (h0 : 0 ≤ k) (h : k < (xs.length : Int)) (hR : ∀ y, y ∈ xs → R y) : ∃ y, atI xs k = some y ∧ R y := by
  obtain ⟨y, h1, h2⟩ := atI_mem h0 h
  exact ⟨y, h1, hR y h2⟩
section
variable {p : Int} {α : Type} [Lean.Grind.Field α] [S : SF p α]
theorem ev_law_near {m k : Nat} {t : Tab α} {R : DV → Prop} {E : EK} (ht : Shp m k t) (hm : m ≤ 60) (hk : k ≤ 60) (hR : ∀ v, R (.d v)) : m__law_near [.wel, .d (tD t)] R E := by
  have r1 := ht.rows
  rw [q__law_near]
  refine ⟨rfl, ?_⟩
  simp only [g__law_near]
  rw [show tD t = .tuple (t.map rowD) from rfl]
  array_get_dec
  refine ⟨by rw [List.length_map]; omega, by rw [List.length_map]; omega, lcD_all rowD (fun r => .list (r.map S.enc)) (fun r hr P hP => ?_) ?_⟩
  · have := ht.cols r hr
    unfold rowD
    array_get_dec
    exact hP
  refine ⟨by rw [List.length_map]; omega, lcD_all rowD (fun r => .tuple (r.map S.enc ++ [.int 0])) (fun r hr P hP => ?_) ?_⟩
  · have := ht.cols r hr
    unfold rowD
    array_get_dec
    exact ⟨by rw [List.length_map]; omega, hP⟩
  refine ⟨by rw [List.length_map]; omega, lcD_all rowD (fun r => .tuple (cutL (r.map S.enc) none (some (-1)) ++ [.bool true])) (fun r hr P hP => ?_) ?_⟩
  · have := ht.cols r hr
    unfold rowD
    array_get_dec
    exact ⟨by rw [cutL_m1, List.length_dropLast, List.length_map]; omega, hP⟩
  refine ev_draw_of (by decide) (by decide) fun k k0 k1 => ?_
  array_get_dec
  exact atI_ex k0 k1 fun v _ => hR v
end

/-! k02: errors told -/
def tix : Nat → Int
  | 3 => 0
  | 4 => 1
  | 0 => 2
  | _ => 3
theorem tell_ok {c : Nat} {x : PD} {D : DEnds} {s0 s1 s2 s3 s4 s6 s7 s8 : Sl} (hc : c = 0 ∨ c = 2 ∨ c = 3 ∨ c = 4) (hr : ROk x) (h : ∀ ρ, D.rt ρ (.d (toldD (tix c) x))) : g__law_told_2 D [s0, s1, s2, s3, s4, .v (.exc c x), s6, s7, s8] := by
  have e2 : rngD 0 4 = [.int 0, .int 1, .int 2, .int 3] := rfl
  simp only [g__law_told_2, g__law_told_3, g__law_told_4]
  array_get_dec
  rw [e2]
  refine ⟨⟨by decide, by decide⟩, by decide, ?_⟩
  rcases hc with rfl | rfl | rfl | rfl <;>
  · simp only [lcD, subE]
    array_get_dec
    repeat first
      | exact ⟨hr, h _⟩
      | refine ite_t rfl ?_
      | refine ite_f rfl ?_
      | refine ⟨_, rfl, ?_⟩
theorem told_of {way p : Int} {a b d : PD} {c : Nat} {x : PD} {R : DV → Prop} {E : EK} (hc : c = 0 ∨ c = 2 ∨ c = 3 ∨ c = 4) (hr : ROk x) (h : R (.d (toldD (tix c) x)))
    (hb : ∀ (Q : DV → Prop) (E' : EK), E' c x → (if decide (way = 0) = true then m_table_sum [.d (.int p), .d a, .d b] Q E' else if decide (way = 1) = true then m_product [.d (.int p), .d a, .d b, .d d] Q E' else if decide (way = 2) = true then m_transposed [.d (.int p), .d a, .d d] Q E' else if decide (way = 3) = true then m_scaled [.d (.int p), .d b, .d a] Q E' else if decide (way = 4) = true then m_zeros [.d (.int p), .d a, .d b] Q E' else m_units [.d (.int p), .d a] Q E')) :
    m__law_told [.d (.int way), .d (.int p), .d a, .d b, .d d] R E := by
  rw [q__law_told]
  refine ⟨rfl, ?_⟩
  simp only [g__law_told, g__law_told_0, g__law_told_1]
  array_get_dec
  exact hb _ _ (tell_ok hc hr fun ρ => h)
/-! the wrong ones -/
section
variable {p : Int} {α : Type} [Lean.Grind.Field α] [S : SF p α]
theorem told_bad1 {way : Int} {v b d : PD} {R : DV → Prop} {E : EK} (hp : Pz p) (hv : BadT p v) (h0 : 0 ≤ way) (h1 : way < 3) (h : R (.d (toldD 0 v))) : m__law_told [.d (.int way), .d (.int p), .d v, .d b, .d d] R E := by
  refine told_of (c := 3) (by decide) (hv.rp.ok (by decide) (by decide)) h fun Q E' e => ?_
  have c : way = 0 ∨ way = 1 ∨ way = 2 := by omega
  rcases c with rfl | rfl | rfl
  · refine ite_t rfl ?_
    rw [q_table_sum]
    refine ⟨rfl, ?_⟩
    simp only [g_table_sum]
    array_get_dec
    exact bad_need_table hp hv e
  · refine ite_f rfl (ite_t rfl ?_)
    rw [q_product]
    refine ⟨rfl, ?_⟩
    simp only [g_product]
    array_get_dec
    exact bad_need_table hp hv e
  · refine ite_f rfl (ite_f rfl (ite_t rfl ?_))
    rw [q_transposed]
    refine ⟨rfl, ?_⟩
    simp only [g_transposed]
    array_get_dec
    rw [q_need_columns]
    refine ⟨rfl, ?_⟩
    simp only [g_need_columns]
    array_get_dec
    exact bad_need_table hp hv e
theorem told_bad2 {way : Int} {m k : Nat} {t : Tab α} {v d : PD} {R : DV → Prop} {E : EK} (ht : Shp m k t) (hm : m ≤ 1000) (hk : k ≤ 1000) (hv : BadT p v) (h0 : 0 ≤ way) (h1 : way < 2) (h : R (.d (toldD 0 v))) : m__law_told [.d (.int way), .d (.int p), .d (tD t), .d v, .d d] R E := by
  have hp := sf_pz p α
  refine told_of (c := 3) (by decide) (hv.rp.ok (by decide) (by decide)) h fun Q E' e => ?_
  have c : way = 0 ∨ way = 1 := by omega
  rcases c with rfl | rfl
  · refine ite_t rfl ?_
    rw [q_table_sum]
    refine ⟨rfl, ?_⟩
    simp only [g_table_sum]
    array_get_dec
    exact ev_need_table ht hm hk (bad_need_table hp hv e)
  · refine ite_f rfl (ite_t rfl ?_)
    rw [q_product]
    refine ⟨rfl, ?_⟩
    simp only [g_product]
    array_get_dec
    exact ev_need_table ht hm hk (bad_need_table hp hv e)
theorem told_none {v d : PD} {R : DV → Prop} {E : EK} (hp : Pz p) (h : R (.d (toldD 3 .none))) : m__law_told [.d (.int 3), .d (.int p), .d v, .d .none, .d d] R E := by
  refine told_of (c := 2) (by decide) ((Rp.none : Rp 0 1 PyData.none).ok (by decide) (by decide)) h fun Q E' e => ?_
  refine ite_f rfl (ite_f rfl (ite_f rfl (ite_t rfl ?_)))
  rw [q_scaled]
  refine ⟨rfl, ?_⟩
  simp only [g_scaled]
  array_get_dec
  refine ev_need_prime hp (bad_need_scalar ?_ trivial e)
  unfold isSc
  split <;> rfl
theorem rp_small {i : Int} (h : i.natAbs < 1000) : Rp 0 20 (.int i) := (Rp.int (a := 10) (e := 0) (show i.natAbs < 2 ^ 10 by omega) (by decide)).le (by decide) (by decide)
theorem told_cols {m k : Nat} {j : Int} {t : Tab α} {b : PD} {R : DV → Prop} {E : EK} (ht : Shp m k t) (hm : m ≤ 1000) (hk : k ≤ 1000) (hj : j < 0 ∨ (0 < m ∧ j ≠ k)) (hs : j.natAbs < 1000) (h : R (.d (toldD 2 (.int j)))) : m__law_told [.d (.int 2), .d (.int p), .d (tD t), .d b, .d (.int j)] R E := by
  refine told_of (c := 0) (by decide) ((rp_small hs).ok (by decide) (by decide)) h fun Q E' e => ?_
  refine ite_f rfl (ite_f rfl (ite_t rfl ?_))
  rw [q_transposed]
  refine ⟨rfl, ?_⟩
  simp only [g_transposed]
  array_get_dec
  exact bad_need_columns ht hm hk hj e
theorem told_4 {a b : Int} {d : PD} {R : DV → Prop} {E : EK} (hp : Pz p) {j : Int} (hj : (a < 0 ∧ j = a) ∨ (0 ≤ a ∧ b < 0 ∧ j = b)) (hs : j.natAbs < 1000) (h : R (.d (toldD 2 (.int j)))) : m__law_told [.d (.int 4), .d (.int p), .d (.int a), .d (.int b), .d d] R E := by
  refine told_of (c := 0) (by decide) ((rp_small hs).ok (by decide) (by decide)) h fun Q E' e => ?_
  refine ite_f rfl (ite_f rfl (ite_f rfl (ite_f rfl (ite_t rfl ?_))))
  rw [q_zeros]
  refine ⟨rfl, ?_⟩
  simp only [g_zeros]
  array_get_dec
  refine ev_need_prime hp ?_
  rcases hj with ⟨h1, rfl⟩ | ⟨h1, h2, rfl⟩
  · exact bad_need_number h1 e
  · exact ev_need_number h1 (bad_need_number h2 e)
theorem told_5 {a : Int} {b d : PD} {R : DV → Prop} {E : EK} (hp : Pz p) (ha : a < 0) (hs : a.natAbs < 1000) (h : R (.d (toldD 2 (.int a)))) : m__law_told [.d (.int 5), .d (.int p), .d (.int a), .d b, .d d] R E := by
  refine told_of (c := 0) (by decide) ((rp_small hs).ok (by decide) (by decide)) h fun Q E' e => ?_
  refine ite_f rfl (ite_f rfl (ite_f rfl (ite_f rfl (ite_f rfl ?_))))
  rw [q_units]
  refine ⟨rfl, ?_⟩
  simp only [g_units]
  array_get_dec
  exact ev_need_prime hp (bad_need_number ha e)
theorem eqv_repI {m k m' k' : Nat} (h : ¬ List.replicate m (k : Int) = List.replicate m' (k' : Int)) : PyData.eqv (.list (List.replicate m (.int k))) (.list (List.replicate m' (.int k'))) = false := by
  have e : ∀ a b : Nat, List.replicate a (PyData.int b) = (List.replicate a (b : Int)).map .int := fun a b => by rw [List.map_replicate]
  rw [e, e]
  show PyData.eqvAll _ _ = false
  rw [eqv_ints]
  exact decide_eq_false h
theorem told_sum {m k m' k' b : Nat} {t u : Tab α} {d : PD} {R : DV → Prop} {E : EK} (ht : Shp m k t) (hu : Shp m' k' u) (hm : m ≤ 1000) (hk : k ≤ 1000) (hm' : m' ≤ 1000) (hk' : k' ≤ 1000) (hn : ¬ List.replicate m (k : Int) = List.replicate m' (k' : Int)) (ru : Rp 4 3000 (tD u)) (h : R (.d (toldD 1 (tD u)))) : m__law_told [.d (.int 0), .d (.int p), .d (tD t), .d (tD u), .d d] R E := by
  have r1 := ht.rows
  have r2 := hu.rows
  refine told_of (c := 4) (by decide) (ru.ok (by decide) (by decide)) h fun Q E' e => ?_
  refine ite_t rfl ?_
  rw [q_table_sum]
  refine ⟨rfl, ?_⟩
  simp only [g_table_sum]
  array_get_dec
  refine ev_need_table ht hm hk (ev_need_table hu hm' hk' ?_)
  have ok := ru.ok9 (by decide) (by decide)
  rw [show tD t = .tuple (t.map rowD) from rfl]
  rw [show tD u = .tuple (u.map rowD) from rfl] at ok e ⊢
  array_get_dec
  refine ⟨by rw [List.length_map]; omega, lens_eval ht (by simp) ⟨by rw [List.length_map]; omega, lens_eval hu (by simp) ?_⟩⟩
  refine e_neG (Cp.list (cpA_rep (e := 0) Cp.int m) |>.sh' (by decide)) (Cp.list (cpA_rep (e := 0) Cp.int m') |>.sh' (by decide)) ?_
  rw [eqv_repI hn]
  array_get_dec
  exact ⟨_, rfl, ok, e⟩
theorem told_prod {m k m' k' : Nat} {t u : Tab α} {d : PD} {R : DV → Prop} {E : EK} (ht : Shp m k t) (hu : Shp m' k' u) (hm : m ≤ 1000) (hk : k ≤ 1000) (hm' : m' ≤ 1000) (hk' : k' ≤ 1000) (h0 : 0 < m) (hn : k ≠ m') (ru : Rp 4 3000 (tD u)) (h : R (.d (toldD 1 (tD u)))) : m__law_told [.d (.int 1), .d (.int p), .d (tD t), .d (tD u), .d d] R E := by
  have r2 := hu.rows
  refine told_of (c := 4) (by decide) (ru.ok (by decide) (by decide)) h fun Q E' e => ?_
  refine ite_f rfl (ite_t rfl ?_)
  rw [q_product]
  refine ⟨rfl, ?_⟩
  simp only [g_product]
  array_get_dec
  refine ev_need_table ht hm hk (ev_need_table hu hm' hk' ?_)
  have ok := ru.ok9 (by decide) (by decide)
  have hsh := sh_tab (S := S) t
  cases t with
  | nil =>
    have := ht.rows
    simp at this
    omega
  | cons r t =>
    have hc := ht.cols r (by simp)
    rw [show tD (r :: t) = .tuple (rowD r :: t.map rowD) from rfl] at hsh ⊢
    array_get_dec
    refine ⟨hsh, ite_t rfl ?_⟩
    rw [show rowD r = .tuple (r.map S.enc) from rfl]
    rw [show tD u = .tuple (u.map rowD) from rfl] at ok e ⊢
    array_get_dec
    rw [List.length_map, List.length_map, hc, r2, decide_eq_false (by omega)]
    exact ite_t rfl ⟨_, rfl, ok, e⟩
end

/-! k02: refused -/
theorem rp_i {e : Nat} (i : Int) (h : i.natAbs < 1000) : Rp e 20 (.int i) := (Rp.int (a := 10) (e := e) (show i.natAbs < 2 ^ 10 by omega) (by decide)).le (Nat.le_refl _) (by decide)
def badA : List PD := [.none, .list [.tuple []], .tuple [.tuple [.int 0, .int 0], .tuple [.int 0]], .tuple [.int 0], .str "", .tuple [.tuple [.none]]]
def bad0 : List PD := [.tuple [.tuple [.int 1]], .tuple [.tuple [.tuple [.int 2, .int 4]]], .none]
theorem badA_ok {p : Int} (hp : 0 < p) : ∀ v ∈ badA, BadT p v := by
  intro v hv
  have t1 : ∀ x : PD, lenT x ≤ 100000 → True := fun _ _ => trivial
  unfold badA at hv
  simp only [List.mem_cons, List.not_mem_nil, or_false] at hv
  rcases hv with rfl | rfl | rfl | rfl | rfl | rfl
  · exact badT Rp.none (fun xs e => nomatch e) rfl
  · exact badT ((Rp.list (RpA.cons (Rp.tup (RpA.nil (e := 0))) RpA.nil)).le (by decide) (by decide)) (fun xs e => nomatch e) rfl
  · refine badT ((Rp.tup (RpA.cons (Rp.tup (RpA.cons (rp_i (e := 0) 0 (by decide)) (RpA.cons (rp_i (e := 0) 0 (by decide)) RpA.nil))) (RpA.cons (Rp.tup (RpA.cons (rp_i (e := 0) 0 (by decide)) RpA.nil)) RpA.nil))).le (by decide) (by decide)) (fun xs e => ?_) ?_
    · injection e with e
      subst e
      refine ⟨by decide, fun r hr => ?_⟩
      simp only [List.mem_cons, List.not_mem_nil, or_false] at hr
      rcases hr with rfl | rfl <;> decide
    · simp [isSome, hdOk, isTab, isVec, isT, lenT]
  · refine badT ((Rp.tup (RpA.cons (rp_i (e := 0) 0 (by decide)) RpA.nil)).le (by decide) (by decide)) (fun xs e => ?_) rfl
    injection e with e
    subst e
    refine ⟨by decide, fun r hr => ?_⟩
    simp only [List.mem_cons, List.not_mem_nil, or_false] at hr
    rcases hr with rfl
    decide
  · exact badT (Rp.str rfl (by decide +kernel) (by decide) (by decide +kernel)) (fun xs e => nomatch e) rfl
  · refine badT ((Rp.tup (RpA.cons (Rp.tup (RpA.cons (Rp.none (e := 0) (n := 1)) RpA.nil)) RpA.nil)).le (by decide) (by decide)) (fun xs e => ?_) ?_
    · injection e with e
      subst e
      refine ⟨by decide, fun r hr => ?_⟩
      simp only [List.mem_cons, List.not_mem_nil, or_false] at hr
      rcases hr with rfl
      decide
    · simp [isSome, hdOk, isTab, isVec, isT, lenT, isSc]
theorem bad0_ok : ∀ v ∈ bad0, BadT 0 v := by
  intro v hv
  unfold bad0 at hv
  simp only [List.mem_cons, List.not_mem_nil, or_false] at hv
  rcases hv with rfl | rfl | rfl
  · refine badT ((Rp.tup (RpA.cons (Rp.tup (RpA.cons (rp_i (e := 0) 1 (by decide)) RpA.nil)) RpA.nil)).le (by decide) (by decide)) (fun xs e => ?_) ?_
    · injection e with e
      subst e
      refine ⟨by decide, fun r hr => ?_⟩
      simp only [List.mem_cons, List.not_mem_nil, or_false] at hr
      rcases hr with rfl
      decide
    · simp [isSome, hdOk, isTab, isVec, isT, lenT, isSc]
  · refine badT ((Rp.tup (RpA.cons (Rp.tup (RpA.cons (Rp.tup (RpA.cons (rp_i (e := 0) 2 (by decide)) (RpA.cons (rp_i (e := 0) 4 (by decide)) RpA.nil))) RpA.nil)) RpA.nil)).le (by decide) (by decide)) (fun xs e => ?_) ?_
    · injection e with e
      subst e
      refine ⟨by decide, fun r hr => ?_⟩
      simp only [List.mem_cons, List.not_mem_nil, or_false] at hr
      rcases hr with rfl
      decide
    · simp [isSome, hdOk, isTab, isVec, isT, lenT, isSc]
  · exact badT Rp.none (fun xs e => nomatch e) rfl
section
variable {p : Int} {α : Type} [Lean.Grind.Field α] [S : SF p α]
theorem refused_7 {D : DEnds} {s0 s2 s3 s4 s5 s6 s7 : Sl} (hp : Pz p) (hR : ∀ ρ, D.rt ρ (.d (.bool true))) :
    g__law_refused_7 D [s0, .v (.d (.int p)), s2, s3, s4, s5, s6, s7] := by
  simp only [g__law_refused_7]
  array_get_dec
  refine told_4 (j := -1) hp (.inl ⟨by decide, rfl⟩) (by decide) ?_
  array_get_dec
  refine told_4 (j := -2) hp (.inr ⟨by decide, by decide, rfl⟩) (by decide) ?_
  array_get_dec
  refine told_5 hp (by decide) (by decide) ?_
  array_get_dec
  have s1 : PyData.shown (.int (-1)) = "-1" := by decide
  have s2 : PyData.shown (.int (-2)) = "-2" := by decide
  have s3 : PyData.shown (.int (-7)) = "-7" := by decide
  unfold toldD
  rw [s1, s2, s3]
  refine e_eqR (e := 9) ?_ (by decide) (hR _)
  have c : ∀ s : Str, SOk s → Cp 2 (.tuple [.list [.int 2], .str s]) := fun s hs => Cp.tup (CpA.cons (Cp.list (CpA.cons Cp.int CpA.nil)) (CpA.cons (Cp.str hs) CpA.nil))
  exact (Cp.list (CpA.cons (c _ (by decide +kernel)) (CpA.cons (c _ (by decide +kernel)) (CpA.cons (c _ (by decide +kernel)) CpA.nil)))).le (by decide)
theorem cpt {c : Int} {v : PD} {e n : Nat} (hv : Rp e n v) : Cp 2 (toldD c v) := cp_told hv
theorem refused_6 {m k : Nat} {t : Tab α} {D : DEnds} {s0 s5 s6 s7 : Sl} (ht : Shp m k t) (hm : m ≤ 4) (hk : k ≤ 4) (hR : ∀ ρ, D.rt ρ (.d (.bool true))) :
    g__law_refused_6 D [s0, .v (.d (.int p)), .v (.d (tD t)), .v (.d (.int m)), .v (.d (.int k)), s5, s6, s7] := by
  have hp := sf_pz p α
  simp only [g__law_refused_6]
  array_get_dec
  by_cases m0 : (0 : Int) < (m : Int)
  · have rk : Rp 0 20 (.int ((k : Int) + 1)) := rp_i _ (by omega)
    have ru : Rp 4 3000 (tD (uniT (k + 1) : Tab α)) := (rp_tab (b := 1) (by decide) (TB.uni (k + 1)) (Shp.uni (k + 1))).le (by decide) (Nat.le_trans (Nat.mul_le_mul (Nat.add_le_add_right (Nat.mul_le_mul_left _ (show k + 1 ≤ 5 by omega)) 1) (show k + 1 ≤ 5 by omega)) (by decide))
    refine ite_t (decide_eq_true m0) ?_
    refine told_cols ht (by omega) (by omega) (.inr ⟨by omega, by omega⟩) (by omega) ?_
    array_get_dec
    refine ⟨rk.ok (by decide) (by decide), ?_⟩
    refine e_neR (cp_told (c := 2) rk) (by decide) ?_
    array_get_dec
    have e1 : ((k : Int) + 1) = ((k + 1 : Nat) : Int) := by omega
    rw [e1]
    refine ev_law_units (α := α) (by omega) ?_
    array_get_dec
    refine told_prod ht (Shp.uni (k + 1)) (by omega) (by omega) (by omega) (by omega) (by omega) (by omega) ru ?_
    array_get_dec
    refine ev_law_units (α := α) (by omega) ?_
    array_get_dec
    refine ⟨ru.ok (by decide) (by decide), ?_⟩
    refine e_neR (cp_told (c := 1) ru) (by decide) ?_
    array_get_dec
    exact refused_7 hp hR
  · refine ite_f (decide_eq_false m0) ?_
    exact refused_7 hp hR
end

section
variable {p : Int} {α : Type} [Lean.Grind.Field α] [S : SF p α]
def widT (k : Nat) : Tab α → Tab α
  | [] => [List.replicate (k + 1) 1]
  | r :: t => (r :: t).map (· ++ [1])
def widM (m : Nat) : Nat := if m = 0 then 1 else m
theorem shp_wid {m k : Nat} {t : Tab α} (h : Shp m k t) : Shp (widM m) (k + 1) (widT k t) := by
  have r1 := h.rows
  cases t with
  | nil =>
    have : m = 0 := by simpa using r1.symm
    subst this
    refine ⟨rfl, fun r hr => ?_⟩
    have : r = List.replicate (k + 1) 1 := by simpa [widT] using hr
    rw [this, List.length_replicate]
  | cons r t =>
    have hm : m ≠ 0 := fun z => by rw [z] at r1; simp at r1
    refine ⟨by unfold widM widT; rw [List.length_map, if_neg hm, r1], fun q hq => ?_⟩
    obtain ⟨y, hy, rfl⟩ := List.mem_map.mp hq
    rw [List.length_append, h.cols y hy]
    rfl
theorem tb_wid {b m k : Nat} {t : Tab α} (h : Shp m k t) (hb : TB b t) (b1 : 1 ≤ b) : TB b (widT k t) := by
  cases t with
  | nil =>
    intro r hr
    have : r = List.replicate (k + 1) 1 := by simpa [widT] using hr
    subst this
    intro x hx
    have := List.eq_of_mem_replicate hx
    subst this
    exact B_le B_one b1
  | cons r t =>
    intro q hq
    obtain ⟨y, hy, rfl⟩ := List.mem_map.mp hq
    intro x hx
    rcases List.mem_append.mp hx with hx | hx
    · exact hb y hy x hx
    · rw [List.mem_singleton.mp hx]
      exact B_le B_one b1
theorem wid_ne {m k : Nat} : ¬ List.replicate m (k : Int) = List.replicate (widM m) ((k + 1 : Nat) : Int) := by
  unfold widM
  by_cases z : m = 0
  · rw [if_pos z, z]
    simp
  · rw [if_neg z]
    obtain ⟨q, rfl⟩ := Nat.exists_eq_succ_of_ne_zero z
    rw [List.replicate_succ, List.replicate_succ]
    intro e
    injection e with e
    omega
theorem rp_wid {m k : Nat} {t : Tab α} (ht : Shp m k t) (bt : TB 8 t) (hm : m ≤ 4) (hk : k ≤ 4) : Rp 4 3000 (tD (widT k t)) :=
  (rp_tab (b := 8) (by decide) (tb_wid ht bt (by decide)) (shp_wid ht)).le (by decide) (Nat.le_trans (Nat.mul_le_mul (Nat.add_le_add_right (Nat.mul_le_mul_left _ (show k + 1 ≤ 5 by omega)) 1) (show widM m ≤ 5 by unfold widM; split <;> omega)) (by decide))
theorem refused_5 {m k : Nat} {t : Tab α} {D : DEnds} {s0 s5 s7 : Sl} (ht : Shp m k t) (bt : TB 8 t) (hm : m ≤ 4) (hk : k ≤ 4) (hR : ∀ ρ, D.rt ρ (.d (.bool true))) :
    g__law_refused_5 D [s0, .v (.d (.int p)), .v (.d (tD t)), .v (.d (.int m)), .v (.d (.int k)), s5, .v (.d (tD (widT k t))), s7] := by
  have ru := rp_wid ht bt hm hk
  simp only [g__law_refused_5]
  array_get_dec
  refine told_sum (b := 8) ht (shp_wid ht) (by omega) (by omega) (by unfold widM; split <;> omega) (by omega) wid_ne ru ?_
  array_get_dec
  refine ⟨ru.ok (by decide) (by decide), ?_⟩
  refine e_neR (cp_told (c := 1) ru) (by decide) ?_
  array_get_dec
  refine told_cols ht (by omega) (by omega) (.inl (by decide)) (by decide) ?_
  array_get_dec
  have s1 : PyData.shown (.int (-1)) = "-1" := by decide
  rw [← s1]
  refine e_neR (cp_told (c := 2) (rp_i (e := 0) (-1) (by decide))) (by decide) ?_
  array_get_dec
  exact refused_6 ht hm hk hR
theorem refused_4 {m k : Nat} {t : Tab α} {D : DEnds} {s0 s5 s6 s7 : Sl} (ht : Shp m k t) (bt : TB 8 t) (hm : m ≤ 4) (hk : k ≤ 4) (hR : ∀ ρ, D.rt ρ (.d (.bool true))) :
    g__law_refused_4 D [s0, .v (.d (.int p)), .v (.d (tD t)), .v (.d (.int m)), .v (.d (.int k)), s5, s6, s7] := by
  have r1 := ht.rows
  simp only [g__law_refused_4]
  rw [show tD t = .tuple (t.map rowD) from rfl]
  array_get_dec
  refine ⟨by rw [List.length_map]; omega, lcD_all rowD (fun r => rowD (r ++ [1])) (fun r hr P hP => ?_) ?_⟩
  · have := ht.cols r hr
    unfold rowD at hP ⊢
    array_get_dec
    refine ev_law_num1 (α := α) ?_
    array_get_dec
    refine ⟨by rw [List.length_map]; omega, ?_⟩
    rw [List.map_append] at hP
    exact hP
  array_get_dec
  cases t with
  | nil =>
    have m0 : m = 0 := by simpa using r1.symm
    subst m0
    refine ite_t rfl (ev_law_num1 (α := α) ?_)
    array_get_dec
    refine ⟨by omega, by omega, ?_⟩
    rw [flat_repl, show ((k : Int) + 1).toNat = k + 1 by omega]
    have := refused_5 (S := S) (D := D) (s0 := s0) (s5 := s5) (s7 := s7) ht bt (by omega) hk hR
    unfold widT tD at this
    simp only [List.map_cons, List.map_nil, rowD, List.map_replicate] at this
    exact this
  | cons r t =>
    have hm : m ≠ 0 := fun z => by rw [z] at r1; simp at r1
    refine ite_f (decide_eq_false (by omega)) ?_
    array_get_dec
    simp only [List.length_cons] at r1
    refine ⟨by rw [List.length_map]; omega, ?_⟩
    have := refused_5 (S := S) (D := D) (s0 := s0) (s5 := s5) (s7 := s7) ht bt (by omega) hk hR
    unfold widT tD at this
    simp only [List.map_cons, List.map_map] at this
    rw [List.append_nil]
    exact this
end

section
variable {p : Int} {α : Type} [Lean.Grind.Field α] [S : SF p α]
theorem refused_3 {m k : Nat} {t : Tab α} {v : PD} {D : DEnds} {s0 s6 s7 : Sl} (ht : Shp m k t) (bt : TB 8 t) (hm : m ≤ 4) (hk : k ≤ 4) (hv : BadT p v) (hR : ∀ ρ, D.rt ρ (.d (.bool true))) :
    g__law_refused_3 D [s0, .v (.d (.int p)), .v (.d (tD t)), .v (.d (.int m)), .v (.d (.int k)), .v (.d v), s6, s7] := by
  have hp := sf_pz p α
  have cw := cp_told (c := 0) hv.rp
  simp only [g__law_refused_3]
  array_get_dec
  refine told_bad2 ht (by omega) (by omega) hv (by decide) (by decide) ?_
  array_get_dec
  refine told_bad2 ht (by omega) (by omega) hv (by decide) (by decide) ?_
  array_get_dec
  refine ⟨hv.rp.ok (by decide) (by decide), ⟨by decide, by decide⟩, by decide, ?_⟩
  refine e_neR (Cp.list (CpA.cons cw (CpA.cons cw CpA.nil)) : Cp 3 (.list [toldD 0 v, toldD 0 v])) (by decide) ?_
  array_get_dec
  refine told_none hp ?_
  array_get_dec
  refine e_neR (e := 2) (d := toldD 3 .none) (cp_told (c := 3) (Rp.none (e := 0) (n := 1))) (by decide) ?_
  array_get_dec
  exact refused_4 ht bt hm hk hR
theorem refused_2 {m k : Nat} {t : Tab α} {v : PD} {D : DEnds} {s0 s6 s7 : Sl} (ht : Shp m k t) (bt : TB 8 t) (hm : m ≤ 4) (hk : k ≤ 4) (hv : BadT p v) (hR : ∀ ρ, D.rt ρ (.d (.bool true))) :
    g__law_refused_2 D [s0, .v (.d (.int p)), .v (.d (tD t)), .v (.d (.int m)), .v (.d (.int k)), .v (.d v), s6, s7] := by
  have hp := sf_pz p α
  have cw := cp_told (c := 0) hv.rp
  simp only [g__law_refused_2]
  array_get_dec
  refine told_bad1 hp hv (by decide) (by decide) ?_
  array_get_dec
  refine told_bad1 hp hv (by decide) (by decide) ?_
  array_get_dec
  refine told_bad1 hp hv (by decide) (by decide) ?_
  array_get_dec
  refine ⟨hv.rp.ok (by decide) (by decide), ⟨by decide, by decide⟩, by decide, ?_⟩
  refine e_neR (Cp.list (CpA.cons cw (CpA.cons cw (CpA.cons cw CpA.nil))) : Cp 3 (.list [toldD 0 v, toldD 0 v, toldD 0 v])) (by decide) ?_
  array_get_dec
  exact refused_3 ht bt hm hk hv hR
theorem ev_law_refused {m k : Nat} {t : Tab α} {R : DV → Prop} {E : EK} (ht : Shp m k t) (bt : TB 8 t) (hm : m ≤ 4) (hk : k ≤ 4) (hR : R (.d (.bool true))) : m__law_refused [.wel, .d (.int p), .d (tD t), .d (.int m), .d (.int k)] R E := by
  have hp := sf_pz p α
  rw [q__law_refused]
  refine ⟨rfl, ?_⟩
  simp only [g__law_refused, g__law_refused_0, g__law_refused_1]
  array_get_dec
  refine ev_draw_of (by decide) (by decide) fun i i0 i1 => ?_
  array_get_dec
  refine atI_ex (xs := badA) i0 i1 fun v hv => ?_
  by_cases z : p = 0
  · refine ite_t (decide_eq_true z) ?_
    refine ev_draw_of (by decide) (by decide) fun i i0 i1 => ?_
    array_get_dec
    refine atI_ex (xs := bad0) i0 i1 fun v hv => ?_
    have b := bad0_ok v hv
    rw [← z] at b
    exact refused_2 ht bt hm hk b (fun _ => hR)
  · refine ite_f (decide_eq_false z) ?_
    have pp : 0 < p := by
      rcases hp with rfl | h
      · exact absurd rfl z
      · exact h.pos
    exact refused_2 ht bt hm hk (badA_ok pp v hv) (fun _ => hR)
end

/-! k02: right -/
abbrev RT (D : DEnds) : Prop := ∀ ρ, D.rt ρ (.d (.bool true))
section
variable {p : Int} {α : Type} [Lean.Grind.Field α] [S : SF p α]
structure Dr (m k n r : Nat) (one more other third : Tab α) (x : α) : Prop where
  hm : m ≤ 4
  hk : k ≤ 4
  hn : n ≤ 4
  hr : r ≤ 4
  s1 : Shp m k one
  s2 : Shp m k more
  s3 : Shp k n other
  s4 : Shp n r third
  b1 : TB 8 one
  b2 : TB 8 more
  b3 : TB 8 other
  b4 : TB 8 third
  bx : S.B 8 x
def dueD (n k : Nat) (one more other : Tab α) (x : α) : PD := .list [tD (mulT n one other), tD (addT one more), tD (sclT x one), tD (trn k one)]
theorem wt_le {b m k M : Nat} (hm : m ≤ 4) (hk : k ≤ 4) (h : ((2 * b + 13) * 4 + 1) * 4 ≤ M) : ((2 * b + 13) * k + 1) * m ≤ M :=
  Nat.le_trans (Nat.mul_le_mul (Nat.add_le_add_right (Nat.mul_le_mul_left _ hk) 1) hm) h
theorem bl {k : Nat} (hk : k ≤ 4) {b B : Nat} (h : 1 + 4 * (2 * b + 1) ≤ B) : 1 + k * (2 * b + 1) ≤ B := Nat.le_trans (Nat.add_le_add_left (Nat.mul_le_mul_right _ hk) 1) h
theorem rp_t {b m k : Nat} {t : Tab α} (hb : b ≤ 69) (hm : m ≤ 4) (hk : k ≤ 4) (h : TB b t) (s : Shp m k t) : Rp 3 3000 (tD t) := (rp_tab (b := 69) (by decide) (h.le hb) s).le (Nat.le_refl _) (wt_le hm hk (by decide))
variable {m k n r : Nat} {one more other third : Tab α} {x : α}
theorem Dr.bp (d : Dr m k n r one more other third x) : TB 69 (mulT n one other) := (TB.mul (n := n) d.s1 d.b1 d.b3 (by decide)).le (bl d.hk (by decide))
theorem Dr.rp (d : Dr m k n r one more other third x) : Rp 4 13000 (dueD n k one more other x) :=
  (Rp.list (RpA.cons (rp_t (by decide) d.hm d.hn d.bp (d.s1.mul d.s3)) (RpA.cons (rp_t (b := 17) (by decide) d.hm d.hk (d.b1.add d.b2) (d.s1.add d.s2)) (RpA.cons (rp_t (b := 16) (by decide) d.hm d.hk (TB.scl d.bx d.b1) d.s1.scl) (RpA.cons (rp_t (b := 8) (by decide) d.hk d.hm (d.b1.trn (by decide)) d.s1.trn) RpA.nil))))).le (by decide) (by decide)
variable {D : DEnds}
def hd (p : Int) (m k n r : Nat) (one more other third : Tab α) : List Sl := [.v .wel, .v (.d (.int p)), .v (.d (.int m)), .v (.d (.int k)), .v (.d (.int n)), .v (.d (.int r)), .v (.d (tD one)), .v (.d (tD more)), .v (.d (tD other)), .v (.d (tD third))]
theorem near_loop (d : Dr m k n r one more other third x) {s0 s4 s5 s7 s8 s9 s10 s12 s15 s16 s17 s18 s19 : Sl} (hw : s0 = .v .wel)
    (h : ∀ s11 s13 s14, D.nx [s0, .v (.d (.int p)), .v (.d (.int m)), .v (.d (.int k)), s4, s5, .v (.d (tD one)), s7, s8, s9, s10, s11, s12, s13, s14, s15, s16, s17, s18, s19]) (pp : 0 < p) : ∀ (xs : List PD) (s11 s13 s14 : Sl),
    loopD (gNm 13) g__law_right_b0 D xs [s0, .v (.d (.int p)), .v (.d (.int m)), .v (.d (.int k)), s4, s5, .v (.d (tD one)), s7, s8, s9, s10, s11, s12, s13, s14, s15, s16, s17, s18, s19]
  | [], s11, s13, s14 => h s11 s13 s14
  | _ :: xs, s11, s13, s14 => by
    have hm := d.hm
    have hk := d.hk
    have hp := sf_pz p α
    subst hw
    unfold loopD
    simp only [g__law_right_b0]
    array_get_dec
    refine ev_law_near d.s1 (by omega) (by omega) fun v => ?_
    array_get_dec
    refine ev_law_is_table pp (by omega) (by omega) ?_
    array_get_dec
    refine ev_is_table hp (by omega) (by omega) ?_
    array_get_dec
    refine ev_is_table hp (by omega) (by omega) ?_
    array_get_dec
    have ro : ROk (.list [.bool (isTab p m k v), .bool (isTab p m k v)]) := (Rp.list (RpA.cons (Rp.bool (e := 0) (n := 1)) (RpA.cons (Rp.bool (e := 0) (n := 1)) RpA.nil))).ok (by decide) (by decide)
    refine ⟨ro, ro, ?_⟩
    refine ite_f (by simp) ?_
    exact near_loop d rfl h pp xs _ _ _
variable {s11 s12 s13 s14 s15 s16 s17 s18 s19 s10 s9 s8 s7 s5 s4 : Sl}
theorem r15 (d : Dr m k n r one more other third x) (hR : RT D) : g__law_right_15 D [.v .wel, .v (.d (.int p)), .v (.d (.int m)), .v (.d (.int k)), s4, s5, .v (.d (tD one)), s7, s8, s9, s10, s11, s12, s13, s14, s15, s16, s17, s18, s19] := by
  simp only [g__law_right_15]
  array_get_dec
  exact ev_law_refused d.s1 d.b1 d.hm d.hk (hR _)
theorem r14 (d : Dr m k n r one more other third x) (hR : RT D) : g__law_right_14 D [.v .wel, .v (.d (.int p)), .v (.d (.int m)), .v (.d (.int k)), s4, s5, .v (.d (tD one)), s7, s8, s9, s10, s11, s12, s13, s14, s15, s16, s17, s18, s19] := by
  simp only [g__law_right_14]
  array_get_dec
  by_cases z : 0 < p
  · refine ite_t (decide_eq_true z) ⟨⟨by decide, by decide⟩, by decide, ?_⟩
    exact near_loop d rfl (fun _ _ _ => r15 d hR) z _ _ _ _
  · exact ite_f (decide_eq_false z) (r15 d hR)
theorem rp_zu (d : Dr m k n r one more other third x) : Rp 4 13000 (.list [tD (zerT m k : Tab α), tD (uniT k : Tab α)]) :=
  (Rp.list (RpA.cons (rp_t (by decide) d.hm d.hk (TB.zer m k) (Shp.zer m k)) (RpA.cons (rp_t (by decide) d.hk d.hk (TB.uni k) (Shp.uni k)) RpA.nil))).le (by decide) (by decide)
theorem r13 (d : Dr m k n r one more other third x) (hR : RT D) : g__law_right_13 D [.v .wel, .v (.d (.int p)), .v (.d (.int m)), .v (.d (.int k)), s4, s5, .v (.d (tD one)), s7, s8, s9, s10, s11, s12, s13, s14, s15, s16, s17, s18, s19] := by
  have hm := d.hm
  have hk := d.hk
  have ro := (rp_zu d).ok (by decide) (by decide)
  simp only [g__law_right_13]
  array_get_dec
  refine ev_zeros (α := α) (m := m) (k := k) (by omega) (by omega) ?_
  array_get_dec
  refine ev_units (α := α) (by omega) ?_
  array_get_dec
  refine ⟨ro, ?_⟩
  refine ev_zeros (α := α) (m := m) (k := k) (by omega) (by omega) ?_
  array_get_dec
  refine ev_units (α := α) (by omega) ?_
  array_get_dec
  refine ⟨ro, ?_⟩
  refine ite_f (by simp) ?_
  refine ev_units (α := α) (by omega) ?_
  array_get_dec
  refine ev_product (b := 8) d.s1 (Shp.uni k) d.b1 ((TB.uni k).le (by decide)) (by decide) (by decide) (bl d.hk (by decide)) (by omega) (by omega) (by omega) ?_
  rw [mul_uniT d.s1]
  refine e_neR (cp_tab one) (by decide) ?_
  array_get_dec
  exact r14 d hR
theorem r12 (d : Dr m k n r one more other third x) (hR : RT D) : g__law_right_12 D [.v .wel, .v (.d (.int p)), .v (.d (.int m)), .v (.d (.int k)), s4, s5, .v (.d (tD one)), s7, s8, s9, s10, s11, s12, s13, s14, s15, s16, s17, s18, s19] := by
  have hm := d.hm
  have hk := d.hk
  have ro := (rp_zu d).ok (by decide) (by decide)
  simp only [g__law_right_12]
  array_get_dec
  refine ev_zeros (α := α) (m := m) (k := k) (by omega) (by omega) ?_
  array_get_dec
  refine ev_units (α := α) (by omega) ?_
  array_get_dec
  refine ⟨ro, ev_law_num0 (α := α) ?_⟩
  array_get_dec
  rw [flat_repl]
  refine ⟨by omega, by omega, by omega, by omega, ?_⟩
  refine ev_law_units (α := α) (by omega) ?_
  array_get_dec
  rw [flat_repl, show ((k : Int)).toNat = k from rfl, show ((m : Int)).toNat = m from rfl]
  have e : (PyData.list [.tuple (List.replicate m (.tuple (List.replicate k (S.enc 0)))), tD (uniT k : Tab α)]) = .list [tD (zerT m k : Tab α), tD (uniT k : Tab α)] := by
    unfold zerT tD rowD
    rw [List.map_replicate, List.map_replicate]
  rw [e]
  refine ⟨ro, ite_f (by simp) ?_⟩
  exact r13 d hR
theorem r11 (d : Dr m k n r one more other third x) (hR : RT D) : g__law_right_11 D [.v .wel, .v (.d (.int p)), .v (.d (.int m)), .v (.d (.int k)), .v (.d (.int n)), s5, .v (.d (tD one)), s7, .v (.d (tD other)), s9, s10, .v (.d (dueD n k one more other x)), s12, s13, s14, s15, s16, s17, s18, s19] := by
  have hm := d.hm
  have hk := d.hk
  have hn := d.hn
  simp only [g__law_right_11]
  array_get_dec
  refine ev_transposed d.s3 (by omega) (by omega) ?_
  array_get_dec
  refine ev_transposed d.s1 (by omega) (by omega) ?_
  array_get_dec
  refine ev_product (b := 8) d.s3.trn d.s1.trn (d.b3.trn (by decide)) (d.b1.trn (by decide)) (by decide) (by decide) (bl d.hk (by decide)) (by omega) (by omega) (by omega) ?_
  unfold dueD
  array_get_dec
  refine ev_transposed (d.s1.mul d.s3) (by omega) (by omega) ?_
  rw [mul_trnT d.s1 d.s3]
  refine e_neR (cp_tab _) (by decide) ?_
  array_get_dec
  exact r12 d hR
theorem r10 (d : Dr m k n r one more other third x) (hR : RT D) : g__law_right_10 D [.v .wel, .v (.d (.int p)), .v (.d (.int m)), .v (.d (.int k)), .v (.d (.int n)), .v (.d (.int r)), .v (.d (tD one)), s7, .v (.d (tD other)), .v (.d (tD third)), s10, .v (.d (dueD n k one more other x)), s12, s13, s14, s15, s16, s17, s18, s19] := by
  have hm := d.hm
  have hk := d.hk
  have hn := d.hn
  have hr := d.hr
  have b2 : TB 69 (mulT r other third) := (TB.mul (n := r) d.s3 d.b3 d.b4 (by decide)).le (bl d.hn (by decide))
  simp only [g__law_right_10]
  rw [show dueD n k one more other x = .list [tD (mulT n one other), tD (addT one more), tD (sclT x one), tD (trn k one)] from rfl]
  array_get_dec
  refine ev_product (b := 69) (d.s1.mul d.s3) d.s4 d.bp (d.b4.le (by decide)) (by decide) (by decide) (bl d.hn (by decide)) (by omega) (by omega) (by omega) ?_
  array_get_dec
  refine ev_product (b := 8) d.s3 d.s4 d.b3 d.b4 (by decide) (by decide) (bl d.hn (by decide)) (by omega) (by omega) (by omega) ?_
  array_get_dec
  refine ev_product (b := 69) d.s1 (d.s3.mul d.s4) (d.b1.le (by decide)) b2 (by decide) (by decide) (bl d.hk (by decide)) (by omega) (by omega) (by omega) ?_
  rw [mul_assocT d.s1 d.s3 d.s4]
  refine e_neR (cp_tab _) (by decide) ?_
  array_get_dec
  exact r11 d hR
theorem r9 (d : Dr m k n r one more other third x) (hR : RT D) : g__law_right_9 D [.v .wel, .v (.d (.int p)), .v (.d (.int m)), .v (.d (.int k)), .v (.d (.int n)), .v (.d (.int r)), .v (.d (tD one)), s7, .v (.d (tD other)), .v (.d (tD third)), s10, .v (.d (dueD n k one more other x)), .v (.d (.list [tD (mulT n one other), tD (addT one more), tD (sclT x one)])), s13, s14, s15, s16, s17, s18, s19] := by
  have hm := d.hm
  have hk := d.hk
  have ro := d.rp.ok (by decide) (by decide)
  simp only [g__law_right_9]
  array_get_dec
  refine ev_transposed d.s1 (by omega) (by omega) ?_
  array_get_dec
  refine ⟨ro, ro, ?_⟩
  refine ite_f (by simp [dueD]) ?_
  exact r10 d hR
theorem r8 (d : Dr m k n r one more other third x) (hR : RT D) : g__law_right_8 D [.v .wel, .v (.d (.int p)), .v (.d (.int m)), .v (.d (.int k)), .v (.d (.int n)), .v (.d (.int r)), .v (.d (tD one)), .v (.d (tD more)), .v (.d (tD other)), .v (.d (tD third)), .v (.d (S.enc x)), .v (.d (dueD n k one more other x)), s12, s13, s14, s15, s16, s17, s18, s19] := by
  have hm := d.hm
  have hk := d.hk
  have hn := d.hn
  simp only [g__law_right_8]
  array_get_dec
  refine ev_product (b := 8) d.s1 d.s3 d.b1 d.b3 (by decide) (by decide) (bl d.hk (by decide)) (by omega) (by omega) (by omega) ?_
  array_get_dec
  refine ev_table_sum (b := 8) (c := 8) d.s1 d.s2 d.b1 d.b2 (by decide) (by decide) (by omega) (by omega) ?_
  array_get_dec
  refine ev_scaled (b := 8) (c := 8) d.s1 d.bx d.b1 (by decide) (by decide) (by omega) (by omega) ?_
  array_get_dec
  exact r9 d hR
theorem r6 (d : Dr m k n r one more other third x) (hR : RT D) : g__law_right_6 D [.v .wel, .v (.d (.int p)), .v (.d (.int m)), .v (.d (.int k)), .v (.d (.int n)), .v (.d (.int r)), .v (.d (tD one)), .v (.d (tD more)), .v (.d (tD other)), .v (.d (tD third)), .v (.d (S.enc x)), .v (.d (dueD n k one more other x)), s12, s13, s14, s15, s16, s17, s18, s19] := by
  have hm := d.hm
  have hk := d.hk
  have hn := d.hn
  have ro := d.rp.ok (by decide) (by decide)
  simp only [g__law_right_6, g__law_right_7]
  array_get_dec
  refine ev_product (b := 8) d.s1 d.s3 d.b1 d.b3 (by decide) (by decide) (bl d.hk (by decide)) (by omega) (by omega) (by omega) ?_
  array_get_dec
  refine ev_table_sum (b := 8) (c := 8) d.s1 d.s2 d.b1 d.b2 (by decide) (by decide) (by omega) (by omega) ?_
  array_get_dec
  refine ev_scaled (b := 8) (c := 8) d.s1 d.bx d.b1 (by decide) (by decide) (by omega) (by omega) ?_
  array_get_dec
  refine ev_transposed d.s1 (by omega) (by omega) ?_
  array_get_dec
  refine ⟨ro, ro, ?_⟩
  refine ite_f (by simp [dueD]) ?_
  exact r8 d hR
def scl2 (x : α) (t : Tab α) : PD := .tuple (t.map fun r => rowD (r.map (x * ·)))
theorem r5 (d : Dr m k n r one more other third x) (hR : RT D) : g__law_right_5 D [.v .wel, .v (.d (.int p)), .v (.d (.int m)), .v (.d (.int k)), .v (.d (.int n)), .v (.d (.int r)), .v (.d (tD one)), .v (.d (tD more)), .v (.d (tD other)), .v (.d (tD third)), .v (.d (S.enc x)), .v (.d (.list [tD (mulT n one other), tD (addT one more)])), s12, s13, s14, s15, s16, s17, s18, s19] := by
  have hm := d.hm
  have hk := d.hk
  have l1 := d.s1.rows
  simp only [g__law_right_5]
  rw [show tD one = .tuple (one.map rowD) from rfl]
  array_get_dec
  refine ⟨by rw [List.length_map]; omega, lcD_all rowD (fun r => rowD (r.map (x * ·))) (fun q hq P hP => ?_) ?_⟩
  · have := d.s1.cols q hq
    simp only [rowD] at hP ⊢
    array_get_dec
    refine ⟨by rw [List.length_map]; omega, lcD_all S.enc (fun y => S.enc (x * y)) (fun y hy P hP => ?_) ?_⟩
    · array_get_dec
      exact ev_law_times d.bx (d.b1 q hq y hy) (by decide) (by decide) hP
    · array_get_dec
      have e : q.map (fun y => S.enc (x * y)) = (q.map (x * ·)).map S.enc := by rw [List.map_map]; rfl
      rw [e]
      exact hP
  array_get_dec
  have e : PyData.tuple (one.map (fun r => rowD (r.map (x * ·)))) = tD (sclT x one) := by unfold sclT tD; rw [List.map_map]; rfl
  rw [e]
  rw [show PyData.tuple (one.map rowD) = tD one from rfl]
  refine ev_law_turned d.s1 (by omega) (by omega) ?_
  array_get_dec
  exact r6 d hR
theorem r3 (d : Dr m k n r one more other third x) (hR : RT D) : g__law_right_4 D [.v .wel, .v (.d (.int p)), .v (.d (.int m)), .v (.d (.int k)), .v (.d (.int n)), .v (.d (.int r)), .v (.d (tD one)), .v (.d (tD more)), .v (.d (tD other)), .v (.d (tD third)), .v (.d (S.enc x)), s11, s12, s13, s14, s15, s16, s17, s18, s19] := by
  have hm := d.hm
  have hk := d.hk
  have hn := d.hn
  have l1 := d.s1.rows
  have l2 := d.s2.rows
  simp only [g__law_right_4]
  array_get_dec
  refine ev_law_product (b := 8) d.s1 d.s3 d.b1 d.b3 (by decide) (by decide) (bl d.hk (by decide)) (by omega) (by omega) (by omega) ?_
  rw [show tD one = .tuple (one.map rowD) from rfl, show tD more = .tuple (more.map rowD) from rfl]
  array_get_dec
  rw [zip_map]
  refine ⟨by rw [List.length_map, List.length_zip]; omega, lcD_all (fun x : List α × List α => PyData.tuple [rowD x.1, rowD x.2]) (fun x => rowD (addR x.1 x.2)) (fun q hq P hP => ?_) ?_⟩
  · have hq := List.of_mem_zip (a := q.1) (b := q.2) hq
    have c1 := d.s1.cols _ hq.1
    have c2 := d.s2.cols _ hq.2
    simp only [rowD] at hP ⊢
    array_get_dec
    rw [zip_map]
    refine ⟨by rw [List.length_map, List.length_zip]; omega, lcD_all (fun x : α × α => PyData.tuple [S.enc x.1, S.enc x.2]) (fun x => S.enc (x.1 + x.2)) (fun y hy P hP => ?_) ?_⟩
    · have hy := List.of_mem_zip (a := y.1) (b := y.2) hy
      array_get_dec
      exact ev_law_plus (d.b1 _ hq.1 _ hy.1) (d.b2 _ hq.2 _ hy.2) (by decide) (by decide) hP
    · array_get_dec
      have e : (q.1.zip q.2).map (fun y => S.enc (y.1 + y.2)) = (addR q.1 q.2).map S.enc := by unfold addR; rw [zipW_map, List.map_map]; rfl
      rw [e]
      exact hP
  array_get_dec
  have e : PyData.tuple ((one.zip more).map (fun x => rowD (addR x.1 x.2))) = tD (addT one more) := by unfold addT tD; rw [zipW_map, List.map_map]; rfl
  rw [e, show PyData.tuple (one.map rowD) = tD one from rfl, show PyData.tuple (more.map rowD) = tD more from rfl]
  exact r5 d hR
end
theorem r2 (p : Int) (α : Type) [Lean.Grind.Field α] [S : SF p α] {D : DEnds} {s6 s7 s8 s9 s10 s11 s12 s13 s14 s15 s16 s17 s18 s19 : Sl} {m k n r : Int} (hm : 0 ≤ m ∧ m < 5) (hk : 0 ≤ k ∧ k < 5) (hn : 0 ≤ n ∧ n < 5) (hr : 0 ≤ r ∧ r < 5) (hR : RT D) : g__law_right_2 D [.v .wel, .v (.d (.int p)), .v (.d (.int m)), .v (.d (.int k)), .v (.d (.int n)), .v (.d (.int r)), s6, s7, s8, s9, s10, s11, s12, s13, s14, s15, s16, s17, s18, s19] := by
  obtain ⟨m, rfl⟩ := Int.eq_ofNat_of_zero_le hm.1
  obtain ⟨k, rfl⟩ := Int.eq_ofNat_of_zero_le hk.1
  obtain ⟨n, rfl⟩ := Int.eq_ofNat_of_zero_le hn.1
  obtain ⟨r, rfl⟩ := Int.eq_ofNat_of_zero_le hr.1
  simp only [g__law_right_2, g__law_right_3]
  array_get_dec
  refine ev_law_table (α := α) (by omega) (by omega) fun one s1 b1 => ?_
  array_get_dec
  refine ev_law_table (α := α) (by omega) (by omega) fun more s2 b2 => ?_
  array_get_dec
  refine ev_law_table (α := α) (by omega) (by omega) fun other s3 b3 => ?_
  array_get_dec
  refine ev_law_table (α := α) (by omega) (by omega) fun third s4 b4 => ?_
  array_get_dec
  refine ev_law_drawn (α := α) fun x bx => ?_
  array_get_dec
  exact r3 ⟨by omega, by omega, by omega, by omega, s1, s2, s3, s4, b1, b2, b3, b4, bx⟩ hR
theorem pz_mem {x : PD} (h : x ∈ [PyData.int 0, .int 2, .int 3, .int 5, .int 13]) : ∃ p, x = .int p ∧ Pz p := by
  simp only [List.mem_cons, List.not_mem_nil, or_false] at h
  rcases h with rfl | rfl | rfl | rfl | rfl
  · exact ⟨_, rfl, .inl rfl⟩
  · exact ⟨_, rfl, .inr (.inl rfl)⟩
  · exact ⟨_, rfl, .inr (.inr (.inl rfl))⟩
  · exact ⟨_, rfl, .inr (.inr (.inr (.inl rfl)))⟩
  · exact ⟨_, rfl, .inr (.inr (.inr (.inr (.inr (.inr rfl)))))⟩
theorem ev_right : RightFn m__law_right := by
  intro R hR
  rw [q__law_right]
  refine ⟨rfl, ?_⟩
  simp only [g__law_right, g__law_right_0, g__law_right_1]
  array_get_dec
  refine ev_draw_of (by decide) (by decide) fun i i0 i1 => ?_
  array_get_dec
  refine atI_ex i0 i1 fun v hv => ?_
  obtain ⟨p, rfl, hp⟩ := pz_mem hv
  array_get_dec
  refine ⟨⟨by decide, by decide⟩, by decide, ?_⟩
  rw [show rngD 0 4 = [.int 0, .int 1, .int 2, .int 3] from rfl]
  simp only [lcD]
  array_get_dec
  refine ev_draw_of (by decide) (by decide) fun m m0 m1 => ?_
  array_get_dec
  refine ev_draw_of (by decide) (by decide) fun k k0 k1 => ?_
  array_get_dec
  refine ev_draw_of (by decide) (by decide) fun n n0 n1 => ?_
  array_get_dec
  refine ev_draw_of (by decide) (by decide) fun r r0 r1 => ?_
  array_get_dec
  refine sf_all hp fun α _ _ _ => ?_
  exact r2 p α ⟨m0, m1⟩ ⟨k0, k1⟩ ⟨n0, n1⟩ ⟨r0, r1⟩ (fun _ => hR)

end Law
namespace Law
open PySem PySem.Spec PyProof.Rows L2 Wb
theorem pl_3210 {α : Type} : ∀ us ws : List α, (px_3210 us ws).length = 4 → us = [] ∧ ∃ a b c d, ws = [a, b, c, d] := by
  intro us ws h
  unfold px_3210 at h
  split at h
  · exact ⟨rfl, _, _, _, _, rfl⟩
  · simp at h
theorem pv_3210 {vs zs : List V} {us ws : List Value} (r : Vals vs us) (z0 : Vals zs ws) : Vals (px_3210 vs zs) (px_3210 us ws) := by
  cases r with
  | cons _ _ => exact .nil
  | nil =>
    cases z0 with
    | nil => exact .nil
    | cons ha z1 =>
      cases z1 with
      | nil => exact .nil
      | cons hb z2 =>
        cases z2 with
        | nil => exact .nil
        | cons hc z3 =>
          cases z3 with
          | nil => exact .nil
          | cons hd z4 =>
            cases z4 with
            | nil => exact (.cons hd (.cons hc (.cons hb (.cons ha .nil))))
            | cons _ _ => exact .nil

theorem pd_3210 {K : Frag} {n : En} (S : Hp) (vs : List V) (xs : List DV) (zs : List V) (ys : List DV) (r : DvAll K n S vs xs) (z0 : DvAll K n S zs ys) : DvAll K n S (px_3210 vs zs) (px_3210 xs ys) := by
  cases r with
  | cons _ _ => exact .nil
  | nil =>
    cases z0 with
    | nil => exact .nil
    | cons ha z1 =>
      cases z1 with
      | nil => exact .nil
      | cons hb z2 =>
        cases z2 with
        | nil => exact .nil
        | cons hc z3 =>
          cases z3 with
          | nil => exact .nil
          | cons hd z4 =>
            cases z4 with
            | nil => exact (.cons hd (.cons hc (.cons hb (.cons ha .nil))))
            | cons _ _ => exact .nil

theorem pl_120 {α : Type} : ∀ us ws : List α, (px_120 us ws).length = 3 → us = [] ∧ ∃ a b c, ws = [a, b, c] := by
  intro us ws h
  unfold px_120 at h
  split at h
  · exact ⟨rfl, _, _, _, rfl⟩
  · simp at h
theorem pv_120 {vs zs : List V} {us ws : List Value} (r : Vals vs us) (z0 : Vals zs ws) : Vals (px_120 vs zs) (px_120 us ws) := by
  cases r with
  | cons _ _ => exact .nil
  | nil =>
    cases z0 with
    | nil => exact .nil
    | cons ha z1 =>
      cases z1 with
      | nil => exact .nil
      | cons hb z2 =>
        cases z2 with
        | nil => exact .nil
        | cons hc z3 =>
          cases z3 with
          | nil => exact (.cons hb (.cons hc (.cons ha .nil)))
          | cons _ _ => exact .nil

theorem pd_120 {K : Frag} {n : En} (S : Hp) (vs : List V) (xs : List DV) (zs : List V) (ys : List DV) (r : DvAll K n S vs xs) (z0 : DvAll K n S zs ys) : DvAll K n S (px_120 vs zs) (px_120 xs ys) := by
  cases r with
  | cons _ _ => exact .nil
  | nil =>
    cases z0 with
    | nil => exact .nil
    | cons ha z1 =>
      cases z1 with
      | nil => exact .nil
      | cons hb z2 =>
        cases z2 with
        | nil => exact .nil
        | cons hc z3 =>
          cases z3 with
          | nil => exact (.cons hb (.cons hc (.cons ha .nil)))
          | cons _ _ => exact .nil

theorem pl_210 {α : Type} : ∀ us ws : List α, (px_210 us ws).length = 3 → us = [] ∧ ∃ a b c, ws = [a, b, c] := by
  intro us ws h
  unfold px_210 at h
  split at h
  · exact ⟨rfl, _, _, _, rfl⟩
  · simp at h
theorem pv_210 {vs zs : List V} {us ws : List Value} (r : Vals vs us) (z0 : Vals zs ws) : Vals (px_210 vs zs) (px_210 us ws) := by
  cases r with
  | cons _ _ => exact .nil
  | nil =>
    cases z0 with
    | nil => exact .nil
    | cons ha z1 =>
      cases z1 with
      | nil => exact .nil
      | cons hb z2 =>
        cases z2 with
        | nil => exact .nil
        | cons hc z3 =>
          cases z3 with
          | nil => exact (.cons hc (.cons hb (.cons ha .nil)))
          | cons _ _ => exact .nil

theorem pd_210 {K : Frag} {n : En} (S : Hp) (vs : List V) (xs : List DV) (zs : List V) (ys : List DV) (r : DvAll K n S vs xs) (z0 : DvAll K n S zs ys) : DvAll K n S (px_210 vs zs) (px_210 xs ys) := by
  cases r with
  | cons _ _ => exact .nil
  | nil =>
    cases z0 with
    | nil => exact .nil
    | cons ha z1 =>
      cases z1 with
      | nil => exact .nil
      | cons hb z2 =>
        cases z2 with
        | nil => exact .nil
        | cons hc z3 =>
          cases z3 with
          | nil => exact (.cons hc (.cons hb (.cons ha .nil)))
          | cons _ _ => exact .nil

theorem pl_10 {α : Type} : ∀ us ws : List α, (px_10 us ws).length = 2 → us = [] ∧ ∃ a b, ws = [a, b] := by
  intro us ws h
  unfold px_10 at h
  split at h
  · exact ⟨rfl, _, _, rfl⟩
  · simp at h
theorem pv_10 {vs zs : List V} {us ws : List Value} (r : Vals vs us) (z0 : Vals zs ws) : Vals (px_10 vs zs) (px_10 us ws) := by
  cases r with
  | cons _ _ => exact .nil
  | nil =>
    cases z0 with
    | nil => exact .nil
    | cons ha z1 =>
      cases z1 with
      | nil => exact .nil
      | cons hb z2 =>
        cases z2 with
        | nil => exact (.cons hb (.cons ha .nil))
        | cons _ _ => exact .nil

theorem pd_10 {K : Frag} {n : En} (S : Hp) (vs : List V) (xs : List DV) (zs : List V) (ys : List DV) (r : DvAll K n S vs xs) (z0 : DvAll K n S zs ys) : DvAll K n S (px_10 vs zs) (px_10 xs ys) := by
  cases r with
  | cons _ _ => exact .nil
  | nil =>
    cases z0 with
    | nil => exact .nil
    | cons ha z1 =>
      cases z1 with
      | nil => exact .nil
      | cons hb z2 =>
        cases z2 with
        | nil => exact (.cons hb (.cons ha .nil))
        | cons _ _ => exact .nil

def top (i : Nat) : Stmt := PySem.Challenge.pw_spacewebs_k02_tables_put_together.main.body.getD i (.Pass ⟨0, 0, 0, 0⟩)
abbrev s_is_integer : Stmt := top 9
theorem sc_is_integer : FnScope ["value"] ["value"] (defScope s_is_integer) := ⟨rfl, rfl, rfl, by decide +kernel, rfl, by decide +kernel, by decide +kernel⟩
abbrev s_is_tuple : Stmt := top 10
theorem sc_is_tuple : FnScope ["value", "low", "high"] ["value", "low", "high"] (defScope s_is_tuple) := ⟨rfl, rfl, rfl, by decide +kernel, rfl, by decide +kernel, by decide +kernel⟩
abbrev s_need_number : Stmt := top 11
theorem sc_need_number : FnScope ["number", "low", "high"] ["number", "low", "high"] (defScope s_need_number) := ⟨rfl, rfl, rfl, by decide +kernel, rfl, by decide +kernel, by decide +kernel⟩
abbrev s_anew : Stmt := top 12
theorem sc_anew : FnScope ["value", "part"] ["value"] (defScope s_anew) := ⟨rfl, rfl, rfl, by decide +kernel, rfl, by decide +kernel, by decide +kernel⟩
abbrev s_is_prime_in : Stmt := top 15
theorem sc_is_prime_in : FnScope ["value"] ["value"] (defScope s_is_prime_in) := ⟨rfl, rfl, rfl, by decide +kernel, rfl, by decide +kernel, by decide +kernel⟩
abbrev s_is_scalar_in : Stmt := top 16
theorem sc_is_scalar_in : FnScope ["prime", "value"] ["prime", "value"] (defScope s_is_scalar_in) := ⟨rfl, rfl, rfl, by decide +kernel, rfl, by decide +kernel, by decide +kernel⟩
abbrev s_fraction_in : Stmt := top 17
theorem sc_fraction_in : FnScope ["above", "below", "shared"] ["above", "below"] (defScope s_fraction_in) := ⟨rfl, rfl, rfl, by decide +kernel, rfl, by decide +kernel, by decide +kernel⟩
abbrev s_scalar_in : Stmt := top 18
theorem sc_scalar_in : FnScope ["prime", "k"] ["prime", "k"] (defScope s_scalar_in) := ⟨rfl, rfl, rfl, by decide +kernel, rfl, by decide +kernel, by decide +kernel⟩
abbrev s_plus_in : Stmt := top 19
theorem sc_plus_in : FnScope ["prime", "one", "other"] ["prime", "one", "other"] (defScope s_plus_in) := ⟨rfl, rfl, rfl, by decide +kernel, rfl, by decide +kernel, by decide +kernel⟩
abbrev s_times_in : Stmt := top 20
theorem sc_times_in : FnScope ["prime", "one", "other"] ["prime", "one", "other"] (defScope s_times_in) := ⟨rfl, rfl, rfl, by decide +kernel, rfl, by decide +kernel, by decide +kernel⟩
abbrev s_dot_in : Stmt := top 21
theorem sc_dot_in : FnScope ["prime", "one", "other", "above", "below", "a", "b"] ["prime", "one", "other"] (defScope s_dot_in) := ⟨rfl, rfl, rfl, by decide +kernel, rfl, by decide +kernel, by decide +kernel⟩
abbrev s_multiple_in : Stmt := top 22
theorem sc_multiple_in : FnScope ["prime", "scalar", "row", "own"] ["prime", "scalar", "row"] (defScope s_multiple_in) := ⟨rfl, rfl, rfl, by decide +kernel, rfl, by decide +kernel, by decide +kernel⟩
abbrev s_need_prime : Stmt := top 24
theorem sc_need_prime : FnScope ["prime"] ["prime"] (defScope s_need_prime) := ⟨rfl, rfl, rfl, by decide +kernel, rfl, by decide +kernel, by decide +kernel⟩
abbrev s_need_scalar : Stmt := top 25
theorem sc_need_scalar : FnScope ["prime", "scalar"] ["prime", "scalar"] (defScope s_need_scalar) := ⟨rfl, rfl, rfl, by decide +kernel, rfl, by decide +kernel, by decide +kernel⟩
abbrev s_is_vector_in : Stmt := top 27
theorem sc_is_vector_in : FnScope ["prime", "size", "value", "own"] ["prime", "size", "value"] (defScope s_is_vector_in) := ⟨rfl, rfl, rfl, by decide +kernel, rfl, by decide +kernel, by decide +kernel⟩
abbrev s_is_table_in : Stmt := top 28
theorem sc_is_table_in : FnScope ["prime", "rows", "columns", "value", "row"] ["prime", "rows", "columns", "value"] (defScope s_is_table_in) := ⟨rfl, rfl, rfl, by decide +kernel, rfl, by decide +kernel, by decide +kernel⟩
abbrev s_is_some_table : Stmt := top 29
theorem sc_is_some_table : FnScope ["prime", "value", "row"] ["prime", "value"] (defScope s_is_some_table) := ⟨rfl, rfl, rfl, by decide +kernel, rfl, by decide +kernel, by decide +kernel⟩
abbrev s_zeros_in : Stmt := top 30
theorem sc_zeros_in : FnScope ["prime", "rows", "columns"] ["prime", "rows", "columns"] (defScope s_zeros_in) := ⟨rfl, rfl, rfl, by decide +kernel, rfl, by decide +kernel, by decide +kernel⟩
abbrev s_units_in : Stmt := top 31
theorem sc_units_in : FnScope ["prime", "size", "column", "row"] ["prime", "size"] (defScope s_units_in) := ⟨rfl, rfl, rfl, by decide +kernel, rfl, by decide +kernel, by decide +kernel⟩
abbrev s_table_sum_in : Stmt := top 32
theorem sc_table_sum_in : FnScope ["prime", "one", "other", "a", "b", "row", "more"] ["prime", "one", "other"] (defScope s_table_sum_in) := ⟨rfl, rfl, rfl, by decide +kernel, rfl, by decide +kernel, by decide +kernel⟩
abbrev s_scaled_in : Stmt := top 33
theorem sc_scaled_in : FnScope ["prime", "scalar", "table", "row"] ["prime", "scalar", "table"] (defScope s_scaled_in) := ⟨rfl, rfl, rfl, by decide +kernel, rfl, by decide +kernel, by decide +kernel⟩
abbrev s_transposed_in : Stmt := top 34
theorem sc_transposed_in : FnScope ["table", "columns", "row", "column"] ["table", "columns"] (defScope s_transposed_in) := ⟨rfl, rfl, rfl, by decide +kernel, rfl, by decide +kernel, by decide +kernel⟩
abbrev s_product_in : Stmt := top 35
theorem sc_product_in : FnScope ["prime", "one", "other", "columns", "turned", "column", "row"] ["prime", "one", "other", "columns"] (defScope s_product_in) := ⟨rfl, rfl, rfl, by decide +kernel, rfl, by decide +kernel, by decide +kernel⟩
abbrev s_need_table : Stmt := top 37
theorem sc_need_table : FnScope ["prime", "table"] ["prime", "table"] (defScope s_need_table) := ⟨rfl, rfl, rfl, by decide +kernel, rfl, by decide +kernel, by decide +kernel⟩
abbrev s_need_columns : Stmt := top 38
theorem sc_need_columns : FnScope ["prime", "table", "columns"] ["prime", "table", "columns"] (defScope s_need_columns) := ⟨rfl, rfl, rfl, by decide +kernel, rfl, by decide +kernel, by decide +kernel⟩
abbrev s_is_table : Stmt := top 39
theorem sc_is_table : FnScope ["prime", "rows", "columns", "value"] ["prime", "rows", "columns", "value"] (defScope s_is_table) := ⟨rfl, rfl, rfl, by decide +kernel, rfl, by decide +kernel, by decide +kernel⟩
abbrev s_zeros : Stmt := top 40
theorem sc_zeros : FnScope ["prime", "rows", "columns"] ["prime", "rows", "columns"] (defScope s_zeros) := ⟨rfl, rfl, rfl, by decide +kernel, rfl, by decide +kernel, by decide +kernel⟩
abbrev s_units : Stmt := top 41
theorem sc_units : FnScope ["prime", "size"] ["prime", "size"] (defScope s_units) := ⟨rfl, rfl, rfl, by decide +kernel, rfl, by decide +kernel, by decide +kernel⟩
abbrev s_table_sum : Stmt := top 42
theorem sc_table_sum : FnScope ["prime", "one", "other", "row"] ["prime", "one", "other"] (defScope s_table_sum) := ⟨rfl, rfl, rfl, by decide +kernel, rfl, by decide +kernel, by decide +kernel⟩
abbrev s_scaled : Stmt := top 43
theorem sc_scaled : FnScope ["prime", "scalar", "table"] ["prime", "scalar", "table"] (defScope s_scaled) := ⟨rfl, rfl, rfl, by decide +kernel, rfl, by decide +kernel, by decide +kernel⟩
abbrev s_product : Stmt := top 44
theorem sc_product : FnScope ["prime", "one", "other", "columns"] ["prime", "one", "other", "columns"] (defScope s_product) := ⟨rfl, rfl, rfl, by decide +kernel, rfl, by decide +kernel, by decide +kernel⟩
abbrev s_transposed : Stmt := top 45
theorem sc_transposed : FnScope ["prime", "table", "columns"] ["prime", "table", "columns"] (defScope s_transposed) := ⟨rfl, rfl, rfl, by decide +kernel, rfl, by decide +kernel, by decide +kernel⟩
abbrev s__law_well : Stmt := top 47
theorem sc__law_well : FnScope ["script", "k", "cell", "whole", "part", "mixed"] ["script", "k"] (defScope s__law_well) := ⟨rfl, rfl, rfl, by decide +kernel, rfl, by decide +kernel, by decide +kernel⟩
abbrev s__law_draw : Stmt := top 48
theorem sc__law_draw : FnScope ["well", "many", "found", "step", "mixed"] ["well", "many"] (defScope s__law_draw) := ⟨rfl, rfl, rfl, by decide +kernel, rfl, by decide +kernel, by decide +kernel⟩
abbrev s__law_cut : Stmt := top 49
theorem sc__law_cut : FnScope ["above", "below", "one", "other", "sign"] ["above", "below"] (defScope s__law_cut) := ⟨rfl, rfl, rfl, by decide +kernel, rfl, by decide +kernel, by decide +kernel⟩
abbrev s__law_num : Stmt := top 50
theorem sc__law_num : FnScope ["p", "k"] ["p", "k"] (defScope s__law_num) := ⟨rfl, rfl, rfl, by decide +kernel, rfl, by decide +kernel, by decide +kernel⟩
abbrev s__law_plus : Stmt := top 51
theorem sc__law_plus : FnScope ["p", "one", "other"] ["p", "one", "other"] (defScope s__law_plus) := ⟨rfl, rfl, rfl, by decide +kernel, rfl, by decide +kernel, by decide +kernel⟩
abbrev s__law_times : Stmt := top 52
theorem sc__law_times : FnScope ["p", "one", "other"] ["p", "one", "other"] (defScope s__law_times) := ⟨rfl, rfl, rfl, by decide +kernel, rfl, by decide +kernel, by decide +kernel⟩
abbrev s__law_drawn : Stmt := top 54
theorem sc__law_drawn : FnScope ["well", "p"] ["well", "p"] (defScope s__law_drawn) := ⟨rfl, rfl, rfl, by decide +kernel, rfl, by decide +kernel, by decide +kernel⟩
abbrev s__law_table : Stmt := top 55
theorem sc__law_table : FnScope ["well", "p", "rows", "columns", "column", "row"] ["well", "p", "rows", "columns"] (defScope s__law_table) := ⟨rfl, rfl, rfl, by decide +kernel, rfl, by decide +kernel, by decide +kernel⟩
abbrev s__law_dot : Stmt := top 56
theorem sc__law_dot : FnScope ["p", "one", "other", "found", "mine", "yours"] ["p", "one", "other"] (defScope s__law_dot) := ⟨rfl, rfl, rfl, by decide +kernel, rfl, by decide +kernel, by decide +kernel⟩
abbrev s__law_product : Stmt := top 57
theorem sc__law_product : FnScope ["p", "one", "other", "columns", "own", "at", "row"] ["p", "one", "other", "columns"] (defScope s__law_product) := ⟨rfl, rfl, rfl, by decide +kernel, rfl, by decide +kernel, by decide +kernel⟩
abbrev s__law_units : Stmt := top 58
theorem sc__law_units : FnScope ["p", "size", "column", "row"] ["p", "size"] (defScope s__law_units) := ⟨rfl, rfl, rfl, by decide +kernel, rfl, by decide +kernel, by decide +kernel⟩
abbrev s__law_turned : Stmt := top 59
theorem sc__law_turned : FnScope ["table", "columns", "row", "at"] ["table", "columns"] (defScope s__law_turned) := ⟨rfl, rfl, rfl, by decide +kernel, rfl, by decide +kernel, by decide +kernel⟩
abbrev s__law_is_table : Stmt := top 60
theorem sc__law_is_table : FnScope ["p", "rows", "columns", "value", "row", "item"] ["p", "rows", "columns", "value"] (defScope s__law_is_table) := ⟨rfl, rfl, rfl, by decide +kernel, rfl, by decide +kernel, by decide +kernel⟩
abbrev s__law_near : Stmt := top 61
theorem sc__law_near : FnScope ["well", "table", "some", "row"] ["well", "table"] (defScope s__law_near) := ⟨rfl, rfl, rfl, by decide +kernel, rfl, by decide +kernel, by decide +kernel⟩
abbrev s__law_told : Stmt := top 62
theorem sc__law_told : FnScope ["way", "p", "one", "other", "columns", "caught", "e", "kinds", "at"] ["way", "p", "one", "other", "columns"] (defScope s__law_told) := ⟨rfl, rfl, rfl, by decide +kernel, rfl, by decide +kernel, by decide +kernel⟩
abbrev s__law_refused : Stmt := top 63
theorem sc__law_refused : FnScope ["well", "p", "one", "m", "k", "bad", "wide", "row"] ["well", "p", "one", "m", "k"] (defScope s__law_refused) := ⟨rfl, rfl, rfl, by decide +kernel, rfl, by decide +kernel, by decide +kernel⟩
abbrev s__law_right : Stmt := top 64
theorem sc__law_right : FnScope ["well", "p", "m", "k", "n", "r", "one", "more", "other", "third", "scalar", "due", "told", "turn", "value", "a", "b", "row", "own", "item"] ["well"] (defScope s__law_right) := ⟨rfl, rfl, rfl, by decide +kernel, rfl, by decide +kernel, by decide +kernel⟩
abbrev s_law : Stmt := top 65
theorem sc_law : FnScope ["script", "k", "well", "turn"] ["script"] (defScope s_law) := ⟨rfl, rfl, rfl, by decide +kernel, rfl, by decide +kernel, by decide +kernel⟩
structure Fx (P : Program) (K : Frag) (mg : Str → Option Value) where
  a_is_integer : Addr
  fd_is_integer : FuncData
  F_is_integer : Fun K "is_integer" "is_integer" s_is_integer a_is_integer fd_is_integer
  M_is_integer : mg "is_integer" = some (.ref a_is_integer)
  B_is_integer : Binds K fd_is_integer ["value"] []
  a_is_tuple : Addr
  fd_is_tuple : FuncData
  F_is_tuple : Fun K "is_tuple" "is_tuple" s_is_tuple a_is_tuple fd_is_tuple
  M_is_tuple : mg "is_tuple" = some (.ref a_is_tuple)
  B_is_tuple : Binds K fd_is_tuple ["value", "low", "high"] []
  a_need_number : Addr
  fd_need_number : FuncData
  F_need_number : Fun K "need_number" "need_number" s_need_number a_need_number fd_need_number
  M_need_number : mg "need_number" = some (.ref a_need_number)
  B_need_number : Binds K fd_need_number ["number", "low", "high"] []
  a_anew : Addr
  fd_anew : FuncData
  F_anew : Fun K "anew" "anew" s_anew a_anew fd_anew
  M_anew : mg "anew" = some (.ref a_anew)
  B_anew : Binds K fd_anew ["value"] []
  a_is_prime_in : Addr
  fd_is_prime_in : FuncData
  F_is_prime_in : Fun K "is_prime_in" "is_prime_in" s_is_prime_in a_is_prime_in fd_is_prime_in
  M_is_prime_in : mg "is_prime_in" = some (.ref a_is_prime_in)
  B_is_prime_in : Binds K fd_is_prime_in ["value"] []
  a_is_scalar_in : Addr
  fd_is_scalar_in : FuncData
  F_is_scalar_in : Fun K "is_scalar_in" "is_scalar_in" s_is_scalar_in a_is_scalar_in fd_is_scalar_in
  M_is_scalar_in : mg "is_scalar_in" = some (.ref a_is_scalar_in)
  B_is_scalar_in : Binds K fd_is_scalar_in ["prime", "value"] []
  a_fraction_in : Addr
  fd_fraction_in : FuncData
  F_fraction_in : Fun K "fraction_in" "fraction_in" s_fraction_in a_fraction_in fd_fraction_in
  M_fraction_in : mg "fraction_in" = some (.ref a_fraction_in)
  B_fraction_in : Binds K fd_fraction_in ["above", "below"] []
  a_scalar_in : Addr
  fd_scalar_in : FuncData
  F_scalar_in : Fun K "scalar_in" "scalar_in" s_scalar_in a_scalar_in fd_scalar_in
  M_scalar_in : mg "scalar_in" = some (.ref a_scalar_in)
  B_scalar_in : Binds K fd_scalar_in ["prime", "k"] []
  a_plus_in : Addr
  fd_plus_in : FuncData
  F_plus_in : Fun K "plus_in" "plus_in" s_plus_in a_plus_in fd_plus_in
  M_plus_in : mg "plus_in" = some (.ref a_plus_in)
  B_plus_in : Binds K fd_plus_in ["prime", "one", "other"] []
  a_times_in : Addr
  fd_times_in : FuncData
  F_times_in : Fun K "times_in" "times_in" s_times_in a_times_in fd_times_in
  M_times_in : mg "times_in" = some (.ref a_times_in)
  B_times_in : Binds K fd_times_in ["prime", "one", "other"] []
  a_dot_in : Addr
  fd_dot_in : FuncData
  F_dot_in : Fun K "dot_in" "dot_in" s_dot_in a_dot_in fd_dot_in
  M_dot_in : mg "dot_in" = some (.ref a_dot_in)
  B_dot_in : Binds K fd_dot_in ["prime", "one", "other"] []
  a_multiple_in : Addr
  fd_multiple_in : FuncData
  F_multiple_in : Fun K "multiple_in" "multiple_in" s_multiple_in a_multiple_in fd_multiple_in
  M_multiple_in : mg "multiple_in" = some (.ref a_multiple_in)
  B_multiple_in : Binds K fd_multiple_in ["prime", "scalar", "row"] []
  a_need_prime : Addr
  fd_need_prime : FuncData
  F_need_prime : Fun K "need_prime" "need_prime" s_need_prime a_need_prime fd_need_prime
  M_need_prime : mg "need_prime" = some (.ref a_need_prime)
  B_need_prime : Binds K fd_need_prime ["prime"] []
  a_need_scalar : Addr
  fd_need_scalar : FuncData
  F_need_scalar : Fun K "need_scalar" "need_scalar" s_need_scalar a_need_scalar fd_need_scalar
  M_need_scalar : mg "need_scalar" = some (.ref a_need_scalar)
  B_need_scalar : Binds K fd_need_scalar ["prime", "scalar"] []
  a_is_vector_in : Addr
  fd_is_vector_in : FuncData
  F_is_vector_in : Fun K "is_vector_in" "is_vector_in" s_is_vector_in a_is_vector_in fd_is_vector_in
  M_is_vector_in : mg "is_vector_in" = some (.ref a_is_vector_in)
  B_is_vector_in : Binds K fd_is_vector_in ["prime", "size", "value"] []
  a_is_table_in : Addr
  fd_is_table_in : FuncData
  F_is_table_in : Fun K "is_table_in" "is_table_in" s_is_table_in a_is_table_in fd_is_table_in
  M_is_table_in : mg "is_table_in" = some (.ref a_is_table_in)
  B_is_table_in : Binds K fd_is_table_in ["prime", "rows", "columns", "value"] []
  a_is_some_table : Addr
  fd_is_some_table : FuncData
  F_is_some_table : Fun K "is_some_table" "is_some_table" s_is_some_table a_is_some_table fd_is_some_table
  M_is_some_table : mg "is_some_table" = some (.ref a_is_some_table)
  B_is_some_table : Binds K fd_is_some_table ["prime", "value"] []
  a_zeros_in : Addr
  fd_zeros_in : FuncData
  F_zeros_in : Fun K "zeros_in" "zeros_in" s_zeros_in a_zeros_in fd_zeros_in
  M_zeros_in : mg "zeros_in" = some (.ref a_zeros_in)
  B_zeros_in : Binds K fd_zeros_in ["prime", "rows", "columns"] []
  a_units_in : Addr
  fd_units_in : FuncData
  F_units_in : Fun K "units_in" "units_in" s_units_in a_units_in fd_units_in
  M_units_in : mg "units_in" = some (.ref a_units_in)
  B_units_in : Binds K fd_units_in ["prime", "size"] []
  a_table_sum_in : Addr
  fd_table_sum_in : FuncData
  F_table_sum_in : Fun K "table_sum_in" "table_sum_in" s_table_sum_in a_table_sum_in fd_table_sum_in
  M_table_sum_in : mg "table_sum_in" = some (.ref a_table_sum_in)
  B_table_sum_in : Binds K fd_table_sum_in ["prime", "one", "other"] []
  a_scaled_in : Addr
  fd_scaled_in : FuncData
  F_scaled_in : Fun K "scaled_in" "scaled_in" s_scaled_in a_scaled_in fd_scaled_in
  M_scaled_in : mg "scaled_in" = some (.ref a_scaled_in)
  B_scaled_in : Binds K fd_scaled_in ["prime", "scalar", "table"] []
  a_transposed_in : Addr
  fd_transposed_in : FuncData
  F_transposed_in : Fun K "transposed_in" "transposed_in" s_transposed_in a_transposed_in fd_transposed_in
  M_transposed_in : mg "transposed_in" = some (.ref a_transposed_in)
  B_transposed_in : Binds K fd_transposed_in ["table", "columns"] []
  a_product_in : Addr
  fd_product_in : FuncData
  F_product_in : Fun K "product_in" "product_in" s_product_in a_product_in fd_product_in
  M_product_in : mg "product_in" = some (.ref a_product_in)
  B_product_in : Binds K fd_product_in ["prime", "one", "other", "columns"] []
  a_need_table : Addr
  fd_need_table : FuncData
  F_need_table : Fun K "need_table" "need_table" s_need_table a_need_table fd_need_table
  M_need_table : mg "need_table" = some (.ref a_need_table)
  B_need_table : Binds K fd_need_table ["prime", "table"] []
  a_need_columns : Addr
  fd_need_columns : FuncData
  F_need_columns : Fun K "need_columns" "need_columns" s_need_columns a_need_columns fd_need_columns
  M_need_columns : mg "need_columns" = some (.ref a_need_columns)
  B_need_columns : Binds K fd_need_columns ["prime", "table", "columns"] []
  a_is_table : Addr
  fd_is_table : FuncData
  F_is_table : Fun K "is_table" "is_table" s_is_table a_is_table fd_is_table
  M_is_table : mg "is_table" = some (.ref a_is_table)
  B_is_table : Binds K fd_is_table ["prime", "rows", "columns", "value"] []
  a_zeros : Addr
  fd_zeros : FuncData
  F_zeros : Fun K "zeros" "zeros" s_zeros a_zeros fd_zeros
  M_zeros : mg "zeros" = some (.ref a_zeros)
  B_zeros : Binds K fd_zeros ["prime", "rows", "columns"] []
  a_units : Addr
  fd_units : FuncData
  F_units : Fun K "units" "units" s_units a_units fd_units
  M_units : mg "units" = some (.ref a_units)
  B_units : Binds K fd_units ["prime", "size"] []
  a_table_sum : Addr
  fd_table_sum : FuncData
  F_table_sum : Fun K "table_sum" "table_sum" s_table_sum a_table_sum fd_table_sum
  M_table_sum : mg "table_sum" = some (.ref a_table_sum)
  B_table_sum : Binds K fd_table_sum ["prime", "one", "other"] []
  a_scaled : Addr
  fd_scaled : FuncData
  F_scaled : Fun K "scaled" "scaled" s_scaled a_scaled fd_scaled
  M_scaled : mg "scaled" = some (.ref a_scaled)
  B_scaled : Binds K fd_scaled ["prime", "scalar", "table"] []
  a_product : Addr
  fd_product : FuncData
  F_product : Fun K "product" "product" s_product a_product fd_product
  M_product : mg "product" = some (.ref a_product)
  B_product : Binds K fd_product ["prime", "one", "other", "columns"] []
  a_transposed : Addr
  fd_transposed : FuncData
  F_transposed : Fun K "transposed" "transposed" s_transposed a_transposed fd_transposed
  M_transposed : mg "transposed" = some (.ref a_transposed)
  B_transposed : Binds K fd_transposed ["prime", "table", "columns"] []
  a__law_well : Addr
  fd__law_well : FuncData
  F__law_well : Fun K "_law_well" "_law_well" s__law_well a__law_well fd__law_well
  M__law_well : mg "_law_well" = some (.ref a__law_well)
  B__law_well : Binds K fd__law_well ["script", "k"] []
  a__law_draw : Addr
  fd__law_draw : FuncData
  F__law_draw : Fun K "_law_draw" "_law_draw" s__law_draw a__law_draw fd__law_draw
  M__law_draw : mg "_law_draw" = some (.ref a__law_draw)
  B__law_draw : Binds K fd__law_draw ["well", "many"] []
  a__law_cut : Addr
  fd__law_cut : FuncData
  F__law_cut : Fun K "_law_cut" "_law_cut" s__law_cut a__law_cut fd__law_cut
  M__law_cut : mg "_law_cut" = some (.ref a__law_cut)
  B__law_cut : Binds K fd__law_cut ["above", "below"] []
  a__law_num : Addr
  fd__law_num : FuncData
  F__law_num : Fun K "_law_num" "_law_num" s__law_num a__law_num fd__law_num
  M__law_num : mg "_law_num" = some (.ref a__law_num)
  B__law_num : Binds K fd__law_num ["p", "k"] []
  a__law_plus : Addr
  fd__law_plus : FuncData
  F__law_plus : Fun K "_law_plus" "_law_plus" s__law_plus a__law_plus fd__law_plus
  M__law_plus : mg "_law_plus" = some (.ref a__law_plus)
  B__law_plus : Binds K fd__law_plus ["p", "one", "other"] []
  a__law_times : Addr
  fd__law_times : FuncData
  F__law_times : Fun K "_law_times" "_law_times" s__law_times a__law_times fd__law_times
  M__law_times : mg "_law_times" = some (.ref a__law_times)
  B__law_times : Binds K fd__law_times ["p", "one", "other"] []
  a__law_drawn : Addr
  fd__law_drawn : FuncData
  F__law_drawn : Fun K "_law_drawn" "_law_drawn" s__law_drawn a__law_drawn fd__law_drawn
  M__law_drawn : mg "_law_drawn" = some (.ref a__law_drawn)
  B__law_drawn : Binds K fd__law_drawn ["well", "p"] []
  a__law_table : Addr
  fd__law_table : FuncData
  F__law_table : Fun K "_law_table" "_law_table" s__law_table a__law_table fd__law_table
  M__law_table : mg "_law_table" = some (.ref a__law_table)
  B__law_table : Binds K fd__law_table ["well", "p", "rows", "columns"] []
  a__law_dot : Addr
  fd__law_dot : FuncData
  F__law_dot : Fun K "_law_dot" "_law_dot" s__law_dot a__law_dot fd__law_dot
  M__law_dot : mg "_law_dot" = some (.ref a__law_dot)
  B__law_dot : Binds K fd__law_dot ["p", "one", "other"] []
  a__law_product : Addr
  fd__law_product : FuncData
  F__law_product : Fun K "_law_product" "_law_product" s__law_product a__law_product fd__law_product
  M__law_product : mg "_law_product" = some (.ref a__law_product)
  B__law_product : Binds K fd__law_product ["p", "one", "other", "columns"] []
  a__law_units : Addr
  fd__law_units : FuncData
  F__law_units : Fun K "_law_units" "_law_units" s__law_units a__law_units fd__law_units
  M__law_units : mg "_law_units" = some (.ref a__law_units)
  B__law_units : Binds K fd__law_units ["p", "size"] []
  a__law_turned : Addr
  fd__law_turned : FuncData
  F__law_turned : Fun K "_law_turned" "_law_turned" s__law_turned a__law_turned fd__law_turned
  M__law_turned : mg "_law_turned" = some (.ref a__law_turned)
  B__law_turned : Binds K fd__law_turned ["table", "columns"] []
  a__law_is_table : Addr
  fd__law_is_table : FuncData
  F__law_is_table : Fun K "_law_is_table" "_law_is_table" s__law_is_table a__law_is_table fd__law_is_table
  M__law_is_table : mg "_law_is_table" = some (.ref a__law_is_table)
  B__law_is_table : Binds K fd__law_is_table ["p", "rows", "columns", "value"] []
  a__law_near : Addr
  fd__law_near : FuncData
  F__law_near : Fun K "_law_near" "_law_near" s__law_near a__law_near fd__law_near
  M__law_near : mg "_law_near" = some (.ref a__law_near)
  B__law_near : Binds K fd__law_near ["well", "table"] []
  a__law_told : Addr
  fd__law_told : FuncData
  F__law_told : Fun K "_law_told" "_law_told" s__law_told a__law_told fd__law_told
  M__law_told : mg "_law_told" = some (.ref a__law_told)
  B__law_told : Binds K fd__law_told ["way", "p", "one", "other", "columns"] []
  a__law_refused : Addr
  fd__law_refused : FuncData
  F__law_refused : Fun K "_law_refused" "_law_refused" s__law_refused a__law_refused fd__law_refused
  M__law_refused : mg "_law_refused" = some (.ref a__law_refused)
  B__law_refused : Binds K fd__law_refused ["well", "p", "one", "m", "k"] []
  a__law_right : Addr
  fd__law_right : FuncData
  F__law_right : Fun K "_law_right" "_law_right" s__law_right a__law_right fd__law_right
  M__law_right : mg "_law_right" = some (.ref a__law_right)
  B__law_right : Binds K fd__law_right ["well"] []
  a_law : Addr
  fd_law : FuncData
  F_law : Fun K "law" "law" s_law a_law fd_law
  M_law : mg "law" = some (.ref a_law)
  B_law : Binds K fd_law ["script"] []
  K_product_3210 : KBinds K fd_product ["prime", "one", "other", "columns"] ["columns", "other", "one", "prime"] px_3210 px_3210
  K_table_sum_120 : KBinds K fd_table_sum ["prime", "one", "other"] ["other", "prime", "one"] px_120 px_120
  K_scaled_210 : KBinds K fd_scaled ["prime", "scalar", "table"] ["table", "scalar", "prime"] px_210 px_210
  K_transposed_120 : KBinds K fd_transposed ["prime", "table", "columns"] ["columns", "prime", "table"] px_120 px_120
  K_zeros_120 : KBinds K fd_zeros ["prime", "rows", "columns"] ["columns", "prime", "rows"] px_120 px_120
  K_units_10 : KBinds K fd_units ["prime", "size"] ["size", "prime"] px_10 px_10
  K_is_table_3210 : KBinds K fd_is_table ["prime", "rows", "columns", "value"] ["value", "columns", "rows", "prime"] px_3210 px_3210
  m_abs : mg "abs" = none
  m_all : mg "all" = none
  m_bool : mg "bool" = none
  m_gcd : mg "gcd" = some (.builtin "math.gcd")
  m_int : mg "int" = none
  m_isinstance : mg "isinstance" = none
  m_len : mg "len" = none
  m_list : mg "list" = none
  m_max : mg "max" = none
  m_min : mg "min" = none
  m_range : mg "range" = none
  m_repr : mg "repr" = none
  m_sum : mg "sum" = none
  m_tuple : mg "tuple" = none
  m_zip : mg "zip" = none
  a_PRIMES : Addr
  u_PRIMES : Value
  M_PRIMES : mg "PRIMES" = some u_PRIMES
  R_PRIMES : RelV (V.ref a_PRIMES) u_PRIMES
  Q_PRIMES : ∀ S, Dq K S (V.ref a_PRIMES) (.tuple [(.int 0), (.int 2), (.int 3), (.int 5), (.int 7), (.int 11), (.int 13)])
  aD : Addr
  fI : Addr
  EB : ErrBase P K mg aD fI
  CT : Nat → Addr
  EC : ∀ c, ErrCls K aD fI (CT c)
  IC : ∀ c, IsC K (CT c)
  M_WebsError : mg "WebsError" = some (.ref aD)
  XM : ∀ c, PySem.W.exmOne K (.ref (CT c)) (.ref aD) = some true
  ME_InvalidNumber : mg "InvalidNumber" = some (.ref (CT 0))
  KN_InvalidNumber : PySem.W.kitOne K (.type "NoneType") (.ref (CT 0)) = some false
  KL_InvalidNumber : ∀ c, PySem.W.kitOne K (.ref (CT c)) (.ref (CT 0)) = some (subE c 0)
  ME_InvalidPrime : mg "InvalidPrime" = some (.ref (CT 1))
  KN_InvalidPrime : PySem.W.kitOne K (.type "NoneType") (.ref (CT 1)) = some false
  KL_InvalidPrime : ∀ c, PySem.W.kitOne K (.ref (CT c)) (.ref (CT 1)) = some (subE c 1)
  ME_InvalidScalar : mg "InvalidScalar" = some (.ref (CT 2))
  KN_InvalidScalar : PySem.W.kitOne K (.type "NoneType") (.ref (CT 2)) = some false
  KL_InvalidScalar : ∀ c, PySem.W.kitOne K (.ref (CT c)) (.ref (CT 2)) = some (subE c 2)
  ME_InvalidTable : mg "InvalidTable" = some (.ref (CT 3))
  KN_InvalidTable : PySem.W.kitOne K (.type "NoneType") (.ref (CT 3)) = some false
  KL_InvalidTable : ∀ c, PySem.W.kitOne K (.ref (CT c)) (.ref (CT 3)) = some (subE c 3)
  ME_UnlikeShapes : mg "UnlikeShapes" = some (.ref (CT 4))
  KN_UnlikeShapes : PySem.W.kitOne K (.type "NoneType") (.ref (CT 4)) = some false
  KL_UnlikeShapes : ∀ c, PySem.W.kitOne K (.ref (CT c)) (.ref (CT 4)) = some (subE c 4)
section
variable {P : Program} {w : World} {K : Frag} {mg : Str → Option Value} {base : Heap} (X : Fx P K mg)
theorem d_is_integer :
    DefG P w K mg base "is_integer" ["value"] 1 X.a_is_integer X.fd_is_integer (spD K X.CT 0 m_is_integer) := by
  rw [q_is_integer]
  exact defG_of (CT := X.CT) (g := g_is_integer) (nl := 0) (κ := 0) X.F_is_integer sc_is_integer X.M_is_integer X.B_is_integer rfl fun cdv A outer s H E wl S0 B => jb_le
    (jb_one (js_ret (je_and (j_isi hT_int b_int X.m_isinstance X.m_int (o 0)) (je_one (je_not (j_isi hT_bool b_bool X.m_isinstance X.m_bool (o 0))))))) (by decide)
theorem d_is_tuple :
    DefG P w K mg base "is_tuple" ["value", "low", "high"] 1 X.a_is_tuple X.fd_is_tuple (spD K X.CT 0 m_is_tuple) := by
  rw [q_is_tuple]
  exact defG_of (CT := X.CT) (g := g_is_tuple) (nl := 0) (κ := 0) X.F_is_tuple sc_is_tuple X.M_is_tuple X.B_is_tuple rfl fun cdv A outer s H E wl S0 B => jb_le
    (jb_one (js_ret (je_and (j_isi hT_tuple b_tuple X.m_isinstance X.m_tuple (o 0)) (je_and (je_ge (je_o (j_len rfl X.m_len (oc (o 0) jo_nil))) (o 1)) (je_one (je_or (je_isN (o 2)) (je_one (je_le (je_o (j_len rfl X.m_len (oc (o 0) jo_nil))) (o 2))))))))) (by decide)
theorem d_need_number :
    DefG P w K mg base "need_number" ["number", "low", "high"] 1 X.a_need_number X.fd_need_number (spD K X.CT 0 m_need_number) := by
  rw [q_need_number]
  exact defG_of (CT := X.CT) (g := g_need_number) (nl := 0) (κ := 0) X.F_need_number sc_need_number X.M_need_number X.B_need_number rfl fun cdv A outer s H E wl S0 B => jb_le
    (jb_one (js_if (jw_pt (jw_or (t_lt (o 0) (o 1)) (jw_or1 (jw_pt (jw_and (jt_notN (o 2)) (jw_and1 (t_gt (o 0) (o 2)))))))) (jb_one (sr (CC := X.CT 0) 0 B.c X.EB X.EC X.ME_InvalidNumber (v 0))) jb_nil)) (by decide)
theorem st_anew {k : Nat} {G : Fn} (D_anew : DefG P w K mg base "anew" ["value"] k X.a_anew X.fd_anew (spD K X.CT 0 G)) : DefG P w K mg base "anew" ["value"] (k + 1) X.a_anew X.fd_anew (spD K X.CT 0 (fnB 1 1 (g_anew G))) :=
  defG_of (CT := X.CT) (g := g_anew G) (nl := 1) (κ := 0) X.F_anew sc_anew X.M_anew X.B_anew rfl fun cdv A outer s H E wl S0 B => jb_le
    (jb_cons (js_if (t_v (j_isi hT_list b_list X.m_isinstance X.m_list (o 0))) (jb_one (js_ret (jn_e (lc [("part", 1)] 100000 B.c (ji_seq (v 0)) (fun s1 H1 q1 l1 p1 => (gn (Cok.blk B.c s1 H1 q1 l1 p1) 1)) (fun s1 H1 q1 l1 p1 => jts_nil) (fun s1 H1 q1 l1 p1 => (cl D_anew (Cok.blk B.c s1 H1 q1 l1 p1) (Nat.le_refl _) (ac (v 1) ja_nil))))))) jb_nil)
    (jb_cons (js_if (t_v (j_isi hT_tuple b_tuple X.m_isinstance X.m_tuple (o 0))) (jb_one (js_ret (j_tuple rfl X.m_tuple (oc (je_o (jn_e (lc [("part", 1)] 100000 B.c (ji_seq (v 0)) (fun s1 H1 q1 l1 p1 => (gn (Cok.blk B.c s1 H1 q1 l1 p1) 1)) (fun s1 H1 q1 l1 p1 => jts_nil) (fun s1 H1 q1 l1 p1 => (cl D_anew (Cok.blk B.c s1 H1 q1 l1 p1) (Nat.le_refl _) (ac (v 1) ja_nil)))))) jo_nil)))) jb_nil)
    (jb_one (js_ret (v 0))))) (by decide)
theorem d_is_prime_in
    (D_is_integer : DefG P w K mg base "is_integer" ["value"] 1 X.a_is_integer X.fd_is_integer (spD K X.CT 0 m_is_integer)) :
    DefG P w K mg base "is_prime_in" ["value"] 2 X.a_is_prime_in X.fd_is_prime_in (spD K X.CT 0 m_is_prime_in) := by
  rw [q_is_prime_in]
  exact defG_of (CT := X.CT) (g := g_is_prime_in) (nl := 0) (κ := 0) X.F_is_prime_in sc_is_prime_in X.M_is_prime_in X.B_is_prime_in rfl fun cdv A outer s H E wl S0 B => jb_le
    (jb_one (js_ret (je_and (cl D_is_integer B.c (by decide) (ac (v 0) ja_nil)) (je_one (j_in B.c (o 0) (je_o (je_glob (by rfl) X.M_PRIMES X.R_PRIMES X.Q_PRIMES (by rfl)))))))) (by decide)
theorem d_is_scalar_in
    (D_is_integer : DefG P w K mg base "is_integer" ["value"] 1 X.a_is_integer X.fd_is_integer (spD K X.CT 0 m_is_integer))
    (D_is_tuple : DefG P w K mg base "is_tuple" ["value", "low", "high"] 1 X.a_is_tuple X.fd_is_tuple (spD K X.CT 0 m_is_tuple)) :
    DefG P w K mg base "is_scalar_in" ["prime", "value"] 2 X.a_is_scalar_in X.fd_is_scalar_in (spD K X.CT 0 m_is_scalar_in) := by
  rw [q_is_scalar_in]
  exact defG_of (CT := X.CT) (g := g_is_scalar_in) (nl := 0) (κ := 0) X.F_is_scalar_in sc_is_scalar_in X.M_is_scalar_in X.B_is_scalar_in rfl fun cdv A outer s H E wl S0 B => jb_le
    (jb_cons (js_if (t_gt (o 0) (je_o je_int)) (jb_one (js_ret (je_and (cl D_is_integer B.c (by decide) (ac (v 1) ja_nil)) (je_one (je_chain op_le oI_le op_lt oI_lt (je_o je_int) (o 1) (o 0) (by rfl)))))) jb_nil)
    (jb_cons (js_if (jw_pt (jw_or (jt_not (t_v (cl D_is_tuple B.c (by decide) (ac (v 1) (ac je_int (ac je_int ja_nil)))))) (jw_or (jt_not (t_v (cl D_is_integer B.c (by decide) (ac (j_ix (o 1) (je_o je_int)) ja_nil)))) (jw_or1 (jt_not (t_v (cl D_is_integer B.c (by decide) (ac (j_ix (o 1) (je_o je_int)) ja_nil)))))))) (jb_one (js_ret je_bl)) jb_nil)
    (jb_one (js_ret (je_and (je_ge (je_o (j_ix (o 1) (je_o je_int))) (je_o je_int)) (je_one (je_eq B.c (je_o (j_gcd X.m_gcd (oc (je_o (j_ix (o 1) (je_o je_int))) (oc (je_o (j_ix (o 1) (je_o je_int))) jo_nil)))) (je_o je_int)))))))) (by decide)
theorem d_fraction_in :
    DefG P w K mg base "fraction_in" ["above", "below"] 1 X.a_fraction_in X.fd_fraction_in (spD K X.CT 0 m_fraction_in) := by
  rw [q_fraction_in]
  exact defG_of (CT := X.CT) (g := g_fraction_in) (nl := 1) (κ := 0) X.F_fraction_in sc_fraction_in X.M_fraction_in X.B_fraction_in rfl fun cdv A outer s H E wl S0 B => jb_le
    (jb_cons (ss B.c 2 (j_gcd X.m_gcd (oc (o 0) (oc (o 1) jo_nil))))
    (jb_cons (js_if (t_lt (o 1) (je_o je_int)) (jb_one (ss B.c 2 (je_neg (o 2)))) jb_nil)
    (jb_one (js_ret (je_tup (ac (je_fdiv (o 0) (o 2)) (ac (je_fdiv (o 1) (o 2)) ja_nil))))))) (by decide)
theorem d_scalar_in :
    DefG P w K mg base "scalar_in" ["prime", "k"] 1 X.a_scalar_in X.fd_scalar_in (spD K X.CT 0 m_scalar_in) := by
  rw [q_scalar_in]
  exact defG_of (CT := X.CT) (g := g_scalar_in) (nl := 0) (κ := 0) X.F_scalar_in sc_scalar_in X.M_scalar_in X.B_scalar_in rfl fun cdv A outer s H E wl S0 B => jb_le
    (jb_one (js_ret (je_if (t_eq B.c (o 0) (je_o je_int)) (je_tup (ac (v 1) (ac je_int ja_nil))) (je_mod (o 1) (o 0))))) (by decide)
theorem d_plus_in
    (D_fraction_in : DefG P w K mg base "fraction_in" ["above", "below"] 1 X.a_fraction_in X.fd_fraction_in (spD K X.CT 0 m_fraction_in)) :
    DefG P w K mg base "plus_in" ["prime", "one", "other"] 2 X.a_plus_in X.fd_plus_in (spD K X.CT 0 m_plus_in) := by
  rw [q_plus_in]
  exact defG_of (CT := X.CT) (g := g_plus_in) (nl := 0) (κ := 0) X.F_plus_in sc_plus_in X.M_plus_in X.B_plus_in rfl fun cdv A outer s H E wl S0 B => jb_le
    (jb_cons (js_if (t_gt (o 0) (je_o je_int)) (jb_one (js_ret (je_mod (je_o (je_add (o 1) (o 2))) (o 0)))) jb_nil)
    (jb_one (js_ret (cl D_fraction_in B.c (by decide) (ac (je_add (je_o (je_mul (je_o (j_ix (o 1) (je_o je_int))) (je_o (j_ix (o 2) (je_o je_int))))) (je_o (je_mul (je_o (j_ix (o 2) (je_o je_int))) (je_o (j_ix (o 1) (je_o je_int)))))) (ac (je_mul (je_o (j_ix (o 1) (je_o je_int))) (je_o (j_ix (o 2) (je_o je_int)))) ja_nil)))))) (by decide)
theorem d_times_in
    (D_fraction_in : DefG P w K mg base "fraction_in" ["above", "below"] 1 X.a_fraction_in X.fd_fraction_in (spD K X.CT 0 m_fraction_in)) :
    DefG P w K mg base "times_in" ["prime", "one", "other"] 2 X.a_times_in X.fd_times_in (spD K X.CT 0 m_times_in) := by
  rw [q_times_in]
  exact defG_of (CT := X.CT) (g := g_times_in) (nl := 0) (κ := 0) X.F_times_in sc_times_in X.M_times_in X.B_times_in rfl fun cdv A outer s H E wl S0 B => jb_le
    (jb_cons (js_if (t_gt (o 0) (je_o je_int)) (jb_one (js_ret (je_mod (je_o (je_mul (o 1) (o 2))) (o 0)))) jb_nil)
    (jb_one (js_ret (cl D_fraction_in B.c (by decide) (ac (je_mul (je_o (j_ix (o 1) (je_o je_int))) (je_o (j_ix (o 2) (je_o je_int)))) (ac (je_mul (je_o (j_ix (o 1) (je_o je_int))) (je_o (j_ix (o 2) (je_o je_int)))) ja_nil)))))) (by decide)
theorem d_dot_in
    (D_fraction_in : DefG P w K mg base "fraction_in" ["above", "below"] 1 X.a_fraction_in X.fd_fraction_in (spD K X.CT 0 m_fraction_in)) :
    DefG P w K mg base "dot_in" ["prime", "one", "other"] 2 X.a_dot_in X.fd_dot_in (spD K X.CT 0 m_dot_in) := by
  rw [q_dot_in]
  exact defG_of (CT := X.CT) (g := g_dot_in) (nl := 4) (κ := 0) X.F_dot_in sc_dot_in X.M_dot_in X.B_dot_in rfl fun cdv A outer s H E wl S0 B => jb_le
    (jb_cons (js_if (t_gt (o 0) (je_o je_int)) (jb_one (js_ret (je_mod (je_o (j_sum B.c rfl X.m_sum (oc (je_o (jn_e (lc [("a", 5), ("b", 6)] 100000 B.c (ji_zip (by rfl) X.m_zip (ac (v 1) (ac (v 2) ja_nil))) (fun s1 H1 q1 l1 p1 => (gt (Cok.blk B.c s1 H1 q1 l1 p1) 2 (gc (gn (Cok.blk B.c s1 H1 q1 l1 p1) 5) (gc (gn (Cok.blk B.c s1 H1 q1 l1 p1) 6) jgs_nil)) (gs_len1 gm_name (gs_len1 gm_name gs_len0)))) (fun s1 H1 q1 l1 p1 => jts_nil) (fun s1 H1 q1 l1 p1 => (je_mul (o 5) (o 6)))))) jo_nil))) (o 0)))) jb_nil)
    (jb_cons (sa (je_tup (ac je_int (ac je_int ja_nil))) (gt B.c 2 (gc (gn B.c 3) (gc (gn B.c 4) jgs_nil)) (gs_len1 gm_name (gs_len1 gm_name gs_len0))))
    (jb_cons (sf 100000 B (ji_zip (by rfl) X.m_zip (ac (v 1) (ac (v 2) ja_nil))) (gt B.c 2 (gc (gn B.c 5) (gc (gn B.c 6) jgs_nil)) (gs_len1 gm_name (gs_len1 gm_name gs_len0))) (jb_one (js_if (jw_pt (jw_and (t_ne B.c (je_o (j_ix (o 5) (je_o je_int))) (je_o je_int)) (jw_and1 (t_ne B.c (je_o (j_ix (o 6) (je_o je_int))) (je_o je_int))))) (jb_one (sa (cl D_fraction_in B.c (by decide) (ac (je_add (je_o (je_mul (je_o (je_mul (o 3) (je_o (j_ix (o 5) (je_o je_int))))) (je_o (j_ix (o 6) (je_o je_int))))) (je_o (je_mul (je_o (je_mul (je_o (j_ix (o 5) (je_o je_int))) (je_o (j_ix (o 6) (je_o je_int))))) (o 4)))) (ac (je_mul (je_o (je_mul (o 4) (je_o (j_ix (o 5) (je_o je_int))))) (je_o (j_ix (o 6) (je_o je_int)))) ja_nil))) (gt B.c 2 (gc (gn B.c 3) (gc (gn B.c 4) jgs_nil)) (gs_len1 gm_name (gs_len1 gm_name gs_len0))))) jb_nil)))
    (jb_one (js_ret (je_tup (ac (v 3) (ac (v 4) ja_nil)))))))) (by decide)
theorem d_multiple_in
    (D_times_in : DefG P w K mg base "times_in" ["prime", "one", "other"] 2 X.a_times_in X.fd_times_in (spD K X.CT 0 m_times_in)) :
    DefG P w K mg base "multiple_in" ["prime", "scalar", "row"] 3 X.a_multiple_in X.fd_multiple_in (spD K X.CT 0 m_multiple_in) := by
  rw [q_multiple_in]
  exact defG_of (CT := X.CT) (g := g_multiple_in) (nl := 1) (κ := 0) X.F_multiple_in sc_multiple_in X.M_multiple_in X.B_multiple_in rfl fun cdv A outer s H E wl S0 B => jb_le
    (jb_one (js_ret (jn_e (lc [("own", 3)] 100000 B.c (ji_seq (v 2)) (fun s1 H1 q1 l1 p1 => (gn (Cok.blk B.c s1 H1 q1 l1 p1) 3)) (fun s1 H1 q1 l1 p1 => jts_nil) (fun s1 H1 q1 l1 p1 => (cl D_times_in (Cok.blk B.c s1 H1 q1 l1 p1) (by decide) (ac (v 0) (ac (v 1) (ac (v 3) ja_nil))))))))) (by decide)
theorem d_need_prime
    (D_is_prime_in : DefG P w K mg base "is_prime_in" ["value"] 2 X.a_is_prime_in X.fd_is_prime_in (spD K X.CT 0 m_is_prime_in))
    (D_anew : DefG P w K mg base "anew" ["value"] 10 X.a_anew X.fd_anew (spD K X.CT 0 m_anew)) :
    DefG P w K mg base "need_prime" ["prime"] 11 X.a_need_prime X.fd_need_prime (spD K X.CT 0 m_need_prime) := by
  rw [q_need_prime]
  exact defG_of (CT := X.CT) (g := g_need_prime) (nl := 0) (κ := 0) X.F_need_prime sc_need_prime X.M_need_prime X.B_need_prime rfl fun cdv A outer s H E wl S0 B => jb_le
    (jb_one (js_if (jt_not (t_v (cl D_is_prime_in B.c (by decide) (ac (v 0) ja_nil)))) (jb_one (sr (CC := X.CT 1) 1 B.c X.EB X.EC X.ME_InvalidPrime (cl D_anew B.c (by decide) (ac (v 0) ja_nil)))) jb_nil)) (by decide)
theorem d_need_scalar
    (D_is_scalar_in : DefG P w K mg base "is_scalar_in" ["prime", "value"] 2 X.a_is_scalar_in X.fd_is_scalar_in (spD K X.CT 0 m_is_scalar_in))
    (D_anew : DefG P w K mg base "anew" ["value"] 10 X.a_anew X.fd_anew (spD K X.CT 0 m_anew)) :
    DefG P w K mg base "need_scalar" ["prime", "scalar"] 11 X.a_need_scalar X.fd_need_scalar (spD K X.CT 0 m_need_scalar) := by
  rw [q_need_scalar]
  exact defG_of (CT := X.CT) (g := g_need_scalar) (nl := 0) (κ := 0) X.F_need_scalar sc_need_scalar X.M_need_scalar X.B_need_scalar rfl fun cdv A outer s H E wl S0 B => jb_le
    (jb_one (js_if (jt_not (t_v (cl D_is_scalar_in B.c (by decide) (ac (v 0) (ac (v 1) ja_nil))))) (jb_one (sr (CC := X.CT 2) 2 B.c X.EB X.EC X.ME_InvalidScalar (cl D_anew B.c (by decide) (ac (v 1) ja_nil)))) jb_nil)) (by decide)
theorem d_is_vector_in
    (D_is_tuple : DefG P w K mg base "is_tuple" ["value", "low", "high"] 1 X.a_is_tuple X.fd_is_tuple (spD K X.CT 0 m_is_tuple))
    (D_is_scalar_in : DefG P w K mg base "is_scalar_in" ["prime", "value"] 2 X.a_is_scalar_in X.fd_is_scalar_in (spD K X.CT 0 m_is_scalar_in)) :
    DefG P w K mg base "is_vector_in" ["prime", "size", "value"] 3 X.a_is_vector_in X.fd_is_vector_in (spD K X.CT 0 m_is_vector_in) := by
  rw [q_is_vector_in]
  exact defG_of (CT := X.CT) (g := g_is_vector_in) (nl := 1) (κ := 0) X.F_is_vector_in sc_is_vector_in X.M_is_vector_in X.B_is_vector_in rfl fun cdv A outer s H E wl S0 B => jb_le
    (jb_one (js_ret (je_and (cl D_is_tuple B.c (by decide) (ac (v 2) (ac (v 1) (ac (v 1) ja_nil)))) (je_one (j_all B.c rfl X.m_all (oc (je_o (jn_e (lc [("own", 3)] 100000 B.c (ji_seq (v 2)) (fun s1 H1 q1 l1 p1 => (gn (Cok.blk B.c s1 H1 q1 l1 p1) 3)) (fun s1 H1 q1 l1 p1 => jts_nil) (fun s1 H1 q1 l1 p1 => (cl D_is_scalar_in (Cok.blk B.c s1 H1 q1 l1 p1) (by decide) (ac (v 0) (ac (v 3) ja_nil))))))) jo_nil)))))) (by decide)
theorem d_is_table_in
    (D_is_tuple : DefG P w K mg base "is_tuple" ["value", "low", "high"] 1 X.a_is_tuple X.fd_is_tuple (spD K X.CT 0 m_is_tuple))
    (D_is_vector_in : DefG P w K mg base "is_vector_in" ["prime", "size", "value"] 3 X.a_is_vector_in X.fd_is_vector_in (spD K X.CT 0 m_is_vector_in)) :
    DefG P w K mg base "is_table_in" ["prime", "rows", "columns", "value"] 4 X.a_is_table_in X.fd_is_table_in (spD K X.CT 0 m_is_table_in) := by
  rw [q_is_table_in]
  exact defG_of (CT := X.CT) (g := g_is_table_in) (nl := 1) (κ := 0) X.F_is_table_in sc_is_table_in X.M_is_table_in X.B_is_table_in rfl fun cdv A outer s H E wl S0 B => jb_le
    (jb_one (js_ret (je_and (cl D_is_tuple B.c (by decide) (ac (v 3) (ac (v 1) (ac (v 1) ja_nil)))) (je_one (j_all B.c rfl X.m_all (oc (je_o (jn_e (lc [("row", 4)] 100000 B.c (ji_seq (v 3)) (fun s1 H1 q1 l1 p1 => (gn (Cok.blk B.c s1 H1 q1 l1 p1) 4)) (fun s1 H1 q1 l1 p1 => jts_nil) (fun s1 H1 q1 l1 p1 => (cl D_is_vector_in (Cok.blk B.c s1 H1 q1 l1 p1) (by decide) (ac (v 0) (ac (v 2) (ac (v 4) ja_nil)))))))) jo_nil)))))) (by decide)
theorem d_is_some_table
    (D_is_table_in : DefG P w K mg base "is_table_in" ["prime", "rows", "columns", "value"] 4 X.a_is_table_in X.fd_is_table_in (spD K X.CT 0 m_is_table_in))
    (D_is_tuple : DefG P w K mg base "is_tuple" ["value", "low", "high"] 1 X.a_is_tuple X.fd_is_tuple (spD K X.CT 0 m_is_tuple)) :
    DefG P w K mg base "is_some_table" ["prime", "value"] 5 X.a_is_some_table X.fd_is_some_table (spD K X.CT 0 m_is_some_table) := by
  rw [q_is_some_table]
  exact defG_of (CT := X.CT) (g := g_is_some_table) (nl := 1) (κ := 0) X.F_is_some_table sc_is_some_table X.M_is_some_table X.B_is_some_table rfl fun cdv A outer s H E wl S0 B => jb_le
    (jb_cons (js_if (jw_pt (jw_or (jt_not (t_v (cl D_is_tuple B.c (by decide) (ac (v 1) (ac je_int (ac je_non ja_nil)))))) (jw_or1 (jt_not (t_v (j_all B.c rfl X.m_all (oc (je_o (jn_e (lc [("row", 2)] 100000 B.c (ji_seq (v 1)) (fun s1 H1 q1 l1 p1 => (gn (Cok.blk B.c s1 H1 q1 l1 p1) 2)) (fun s1 H1 q1 l1 p1 => jts_nil) (fun s1 H1 q1 l1 p1 => (cl D_is_tuple (Cok.blk B.c s1 H1 q1 l1 p1) (by decide) (ac (v 2) (ac je_int (ac je_non ja_nil)))))))) jo_nil))))))) (jb_one (js_ret je_bl)) jb_nil)
    (jb_one (js_ret (je_or (je_eq B.c (o 1) (je_o (je_tup ja_nil))) (je_one (cl D_is_table_in B.c (by decide) (ac (v 0) (ac (j_len rfl X.m_len (oc (o 1) jo_nil)) (ac (j_len rfl X.m_len (oc (je_o (j_ix (o 1) (je_o je_int))) jo_nil)) (ac (v 1) ja_nil)))))))))) (by decide)
theorem d_zeros_in
    (D_scalar_in : DefG P w K mg base "scalar_in" ["prime", "k"] 1 X.a_scalar_in X.fd_scalar_in (spD K X.CT 0 m_scalar_in)) :
    DefG P w K mg base "zeros_in" ["prime", "rows", "columns"] 2 X.a_zeros_in X.fd_zeros_in (spD K X.CT 0 m_zeros_in) := by
  rw [q_zeros_in]
  exact defG_of (CT := X.CT) (g := g_zeros_in) (nl := 0) (κ := 0) X.F_zeros_in sc_zeros_in X.M_zeros_in X.B_zeros_in rfl fun cdv A outer s H E wl S0 B => jb_le
    (jb_one (js_ret (je_mul (je_o (je_tup (ac (je_mul (je_o (je_tup (ac (cl D_scalar_in B.c (by decide) (ac (v 0) (ac je_int ja_nil))) ja_nil))) (o 2)) ja_nil))) (o 1)))) (by decide)
theorem d_units_in
    (D_scalar_in : DefG P w K mg base "scalar_in" ["prime", "k"] 1 X.a_scalar_in X.fd_scalar_in (spD K X.CT 0 m_scalar_in)) :
    DefG P w K mg base "units_in" ["prime", "size"] 2 X.a_units_in X.fd_units_in (spD K X.CT 0 m_units_in) := by
  rw [q_units_in]
  exact defG_of (CT := X.CT) (g := g_units_in) (nl := 2) (κ := 0) X.F_units_in sc_units_in X.M_units_in X.B_units_in rfl fun cdv A outer s H E wl S0 B => jb_le
    (jb_one (js_ret (j_tuple rfl X.m_tuple (oc (je_o (jn_e (lc [("row", 3)] 100000 B.c (r1 X.m_range (oc (o 1) jo_nil)) (fun s1 H1 q1 l1 p1 => (gn (Cok.blk B.c s1 H1 q1 l1 p1) 3)) (fun s1 H1 q1 l1 p1 => jts_nil) (fun s1 H1 q1 l1 p1 => (j_tuple rfl X.m_tuple (oc (je_o (jn_e (lc [("column", 2)] 100000 (Cok.blk B.c s1 H1 q1 l1 p1) (r1 X.m_range (oc (o 1) jo_nil)) (fun s2 H2 q2 l2 p2 => (gn (Cok.blk (Cok.blk B.c s1 H1 q1 l1 p1) s2 H2 q2 l2 p2) 2)) (fun s2 H2 q2 l2 p2 => jts_nil) (fun s2 H2 q2 l2 p2 => (cl D_scalar_in (Cok.blk (Cok.blk B.c s1 H1 q1 l1 p1) s2 H2 q2 l2 p2) (by decide) (ac (v 0) (ac (j_int rfl X.m_int (oc (je_o (je_eq (Cok.blk (Cok.blk B.c s1 H1 q1 l1 p1) s2 H2 q2 l2 p2) (o 3) (o 2))) jo_nil)) ja_nil))))))) jo_nil)))))) jo_nil)))) (by decide)
theorem d_table_sum_in
    (D_plus_in : DefG P w K mg base "plus_in" ["prime", "one", "other"] 2 X.a_plus_in X.fd_plus_in (spD K X.CT 0 m_plus_in)) :
    DefG P w K mg base "table_sum_in" ["prime", "one", "other"] 3 X.a_table_sum_in X.fd_table_sum_in (spD K X.CT 0 m_table_sum_in) := by
  rw [q_table_sum_in]
  exact defG_of (CT := X.CT) (g := g_table_sum_in) (nl := 4) (κ := 0) X.F_table_sum_in sc_table_sum_in X.M_table_sum_in X.B_table_sum_in rfl fun cdv A outer s H E wl S0 B => jb_le
    (jb_one (js_ret (j_tuple rfl X.m_tuple (oc (je_o (jn_e (lc [("row", 5), ("more", 6)] 100000 B.c (ji_zip (by rfl) X.m_zip (ac (v 1) (ac (v 2) ja_nil))) (fun s1 H1 q1 l1 p1 => (gt (Cok.blk B.c s1 H1 q1 l1 p1) 2 (gc (gn (Cok.blk B.c s1 H1 q1 l1 p1) 5) (gc (gn (Cok.blk B.c s1 H1 q1 l1 p1) 6) jgs_nil)) (gs_len1 gm_name (gs_len1 gm_name gs_len0)))) (fun s1 H1 q1 l1 p1 => jts_nil) (fun s1 H1 q1 l1 p1 => (j_tuple rfl X.m_tuple (oc (je_o (jn_e (lc [("a", 3), ("b", 4)] 100000 (Cok.blk B.c s1 H1 q1 l1 p1) (ji_zip (by rfl) X.m_zip (ac (v 5) (ac (v 6) ja_nil))) (fun s2 H2 q2 l2 p2 => (gt (Cok.blk (Cok.blk B.c s1 H1 q1 l1 p1) s2 H2 q2 l2 p2) 2 (gc (gn (Cok.blk (Cok.blk B.c s1 H1 q1 l1 p1) s2 H2 q2 l2 p2) 3) (gc (gn (Cok.blk (Cok.blk B.c s1 H1 q1 l1 p1) s2 H2 q2 l2 p2) 4) jgs_nil)) (gs_len1 gm_name (gs_len1 gm_name gs_len0)))) (fun s2 H2 q2 l2 p2 => jts_nil) (fun s2 H2 q2 l2 p2 => (cl D_plus_in (Cok.blk (Cok.blk B.c s1 H1 q1 l1 p1) s2 H2 q2 l2 p2) (by decide) (ac (v 0) (ac (v 3) (ac (v 4) ja_nil)))))))) jo_nil)))))) jo_nil)))) (by decide)
theorem d_scaled_in
    (D_multiple_in : DefG P w K mg base "multiple_in" ["prime", "scalar", "row"] 3 X.a_multiple_in X.fd_multiple_in (spD K X.CT 0 m_multiple_in)) :
    DefG P w K mg base "scaled_in" ["prime", "scalar", "table"] 4 X.a_scaled_in X.fd_scaled_in (spD K X.CT 0 m_scaled_in) := by
  rw [q_scaled_in]
  exact defG_of (CT := X.CT) (g := g_scaled_in) (nl := 1) (κ := 0) X.F_scaled_in sc_scaled_in X.M_scaled_in X.B_scaled_in rfl fun cdv A outer s H E wl S0 B => jb_le
    (jb_one (js_ret (j_tuple rfl X.m_tuple (oc (je_o (jn_e (lc [("row", 3)] 100000 B.c (ji_seq (v 2)) (fun s1 H1 q1 l1 p1 => (gn (Cok.blk B.c s1 H1 q1 l1 p1) 3)) (fun s1 H1 q1 l1 p1 => jts_nil) (fun s1 H1 q1 l1 p1 => (j_tuple rfl X.m_tuple (oc (je_o (cl D_multiple_in (Cok.blk B.c s1 H1 q1 l1 p1) (by decide) (ac (v 0) (ac (v 1) (ac (v 3) ja_nil))))) jo_nil)))))) jo_nil)))) (by decide)
theorem d_transposed_in :
    DefG P w K mg base "transposed_in" ["table", "columns"] 1 X.a_transposed_in X.fd_transposed_in (spD K X.CT 0 m_transposed_in) := by
  rw [q_transposed_in]
  exact defG_of (CT := X.CT) (g := g_transposed_in) (nl := 2) (κ := 0) X.F_transposed_in sc_transposed_in X.M_transposed_in X.B_transposed_in rfl fun cdv A outer s H E wl S0 B => jb_le
    (jb_one (js_ret (j_tuple rfl X.m_tuple (oc (je_o (jn_e (lc [("column", 3)] 100000 B.c (r1 X.m_range (oc (o 1) jo_nil)) (fun s1 H1 q1 l1 p1 => (gn (Cok.blk B.c s1 H1 q1 l1 p1) 3)) (fun s1 H1 q1 l1 p1 => jts_nil) (fun s1 H1 q1 l1 p1 => (j_tuple rfl X.m_tuple (oc (je_o (jn_e (lc [("row", 2)] 100000 (Cok.blk B.c s1 H1 q1 l1 p1) (ji_seq (v 0)) (fun s2 H2 q2 l2 p2 => (gn (Cok.blk (Cok.blk B.c s1 H1 q1 l1 p1) s2 H2 q2 l2 p2) 2)) (fun s2 H2 q2 l2 p2 => jts_nil) (fun s2 H2 q2 l2 p2 => (j_ix (o 2) (o 3)))))) jo_nil)))))) jo_nil)))) (by decide)
theorem d_product_in
    (D_transposed_in : DefG P w K mg base "transposed_in" ["table", "columns"] 1 X.a_transposed_in X.fd_transposed_in (spD K X.CT 0 m_transposed_in))
    (D_dot_in : DefG P w K mg base "dot_in" ["prime", "one", "other"] 2 X.a_dot_in X.fd_dot_in (spD K X.CT 0 m_dot_in)) :
    DefG P w K mg base "product_in" ["prime", "one", "other", "columns"] 3 X.a_product_in X.fd_product_in (spD K X.CT 0 m_product_in) := by
  rw [q_product_in]
  exact defG_of (CT := X.CT) (g := g_product_in) (nl := 3) (κ := 0) X.F_product_in sc_product_in X.M_product_in X.B_product_in rfl fun cdv A outer s H E wl S0 B => jb_le
    (jb_cons (ss B.c 4 (cl D_transposed_in B.c (by decide) (ac (v 2) (ac (v 3) ja_nil))))
    (jb_one (js_ret (j_tuple rfl X.m_tuple (oc (je_o (jn_e (lc [("row", 6)] 100000 B.c (ji_seq (v 1)) (fun s1 H1 q1 l1 p1 => (gn (Cok.blk B.c s1 H1 q1 l1 p1) 6)) (fun s1 H1 q1 l1 p1 => jts_nil) (fun s1 H1 q1 l1 p1 => (j_tuple rfl X.m_tuple (oc (je_o (jn_e (lc [("column", 5)] 100000 (Cok.blk B.c s1 H1 q1 l1 p1) (ji_seq (v 4)) (fun s2 H2 q2 l2 p2 => (gn (Cok.blk (Cok.blk B.c s1 H1 q1 l1 p1) s2 H2 q2 l2 p2) 5)) (fun s2 H2 q2 l2 p2 => jts_nil) (fun s2 H2 q2 l2 p2 => (cl D_dot_in (Cok.blk (Cok.blk B.c s1 H1 q1 l1 p1) s2 H2 q2 l2 p2) (by decide) (ac (v 0) (ac (v 6) (ac (v 5) ja_nil)))))))) jo_nil)))))) jo_nil))))) (by decide)
theorem d_need_table
    (D_need_prime : DefG P w K mg base "need_prime" ["prime"] 11 X.a_need_prime X.fd_need_prime (spD K X.CT 0 m_need_prime))
    (D_is_some_table : DefG P w K mg base "is_some_table" ["prime", "value"] 5 X.a_is_some_table X.fd_is_some_table (spD K X.CT 0 m_is_some_table))
    (D_anew : DefG P w K mg base "anew" ["value"] 10 X.a_anew X.fd_anew (spD K X.CT 0 m_anew)) :
    DefG P w K mg base "need_table" ["prime", "table"] 12 X.a_need_table X.fd_need_table (spD K X.CT 0 m_need_table) := by
  rw [q_need_table]
  exact defG_of (CT := X.CT) (g := g_need_table) (nl := 0) (κ := 0) X.F_need_table sc_need_table X.M_need_table X.B_need_table rfl fun cdv A outer s H E wl S0 B => jb_le
    (jb_cons (se (cl D_need_prime B.c (by decide) (ac (v 0) ja_nil)))
    (jb_one (js_if (jt_not (t_v (cl D_is_some_table B.c (by decide) (ac (v 0) (ac (v 1) ja_nil))))) (jb_one (sr (CC := X.CT 3) 3 B.c X.EB X.EC X.ME_InvalidTable (cl D_anew B.c (by decide) (ac (v 1) ja_nil)))) jb_nil))) (by decide)
theorem d_need_columns
    (D_need_table : DefG P w K mg base "need_table" ["prime", "table"] 12 X.a_need_table X.fd_need_table (spD K X.CT 0 m_need_table)) :
    DefG P w K mg base "need_columns" ["prime", "table", "columns"] 13 X.a_need_columns X.fd_need_columns (spD K X.CT 0 m_need_columns) := by
  rw [q_need_columns]
  exact defG_of (CT := X.CT) (g := g_need_columns) (nl := 0) (κ := 0) X.F_need_columns sc_need_columns X.M_need_columns X.B_need_columns rfl fun cdv A outer s H E wl S0 B => jb_le
    (jb_cons (se (cl D_need_table B.c (by decide) (ac (v 0) (ac (v 1) ja_nil))))
    (jb_one (js_if (jw_pt (jw_or (t_lt (o 2) (je_o je_int)) (jw_or1 (jw_pt (jw_and (t_ne B.c (o 1) (je_o (je_tup ja_nil))) (jw_and1 (t_ne B.c (o 2) (je_o (j_len rfl X.m_len (oc (je_o (j_ix (o 1) (je_o je_int))) jo_nil)))))))))) (jb_one (sr (CC := X.CT 0) 0 B.c X.EB X.EC X.ME_InvalidNumber (v 2))) jb_nil))) (by decide)
theorem d_is_table
    (D_need_prime : DefG P w K mg base "need_prime" ["prime"] 11 X.a_need_prime X.fd_need_prime (spD K X.CT 0 m_need_prime))
    (D_need_number : DefG P w K mg base "need_number" ["number", "low", "high"] 1 X.a_need_number X.fd_need_number (spD K X.CT 0 m_need_number))
    (D_is_table_in : DefG P w K mg base "is_table_in" ["prime", "rows", "columns", "value"] 4 X.a_is_table_in X.fd_is_table_in (spD K X.CT 0 m_is_table_in)) :
    DefG P w K mg base "is_table" ["prime", "rows", "columns", "value"] 12 X.a_is_table X.fd_is_table (spD K X.CT 0 m_is_table) := by
  rw [q_is_table]
  exact defG_of (CT := X.CT) (g := g_is_table) (nl := 0) (κ := 0) X.F_is_table sc_is_table X.M_is_table X.B_is_table rfl fun cdv A outer s H E wl S0 B => jb_le
    (jb_cons (se (cl D_need_prime B.c (by decide) (ac (v 0) ja_nil)))
    (jb_cons (se (cl D_need_number B.c (by decide) (ac (v 1) (ac je_int (ac je_non ja_nil)))))
    (jb_cons (se (cl D_need_number B.c (by decide) (ac (v 2) (ac je_int (ac je_non ja_nil)))))
    (jb_one (js_ret (cl D_is_table_in B.c (by decide) (ac (v 0) (ac (v 1) (ac (v 2) (ac (v 3) ja_nil)))))))))) (by decide)
theorem d_zeros
    (D_need_prime : DefG P w K mg base "need_prime" ["prime"] 11 X.a_need_prime X.fd_need_prime (spD K X.CT 0 m_need_prime))
    (D_need_number : DefG P w K mg base "need_number" ["number", "low", "high"] 1 X.a_need_number X.fd_need_number (spD K X.CT 0 m_need_number))
    (D_zeros_in : DefG P w K mg base "zeros_in" ["prime", "rows", "columns"] 2 X.a_zeros_in X.fd_zeros_in (spD K X.CT 0 m_zeros_in)) :
    DefG P w K mg base "zeros" ["prime", "rows", "columns"] 12 X.a_zeros X.fd_zeros (spD K X.CT 0 m_zeros) := by
  rw [q_zeros]
  exact defG_of (CT := X.CT) (g := g_zeros) (nl := 0) (κ := 0) X.F_zeros sc_zeros X.M_zeros X.B_zeros rfl fun cdv A outer s H E wl S0 B => jb_le
    (jb_cons (se (cl D_need_prime B.c (by decide) (ac (v 0) ja_nil)))
    (jb_cons (se (cl D_need_number B.c (by decide) (ac (v 1) (ac je_int (ac je_non ja_nil)))))
    (jb_cons (se (cl D_need_number B.c (by decide) (ac (v 2) (ac je_int (ac je_non ja_nil)))))
    (jb_one (js_ret (cl D_zeros_in B.c (by decide) (ac (v 0) (ac (v 1) (ac (v 2) ja_nil))))))))) (by decide)
theorem d_units
    (D_need_prime : DefG P w K mg base "need_prime" ["prime"] 11 X.a_need_prime X.fd_need_prime (spD K X.CT 0 m_need_prime))
    (D_need_number : DefG P w K mg base "need_number" ["number", "low", "high"] 1 X.a_need_number X.fd_need_number (spD K X.CT 0 m_need_number))
    (D_units_in : DefG P w K mg base "units_in" ["prime", "size"] 2 X.a_units_in X.fd_units_in (spD K X.CT 0 m_units_in)) :
    DefG P w K mg base "units" ["prime", "size"] 12 X.a_units X.fd_units (spD K X.CT 0 m_units) := by
  rw [q_units]
  exact defG_of (CT := X.CT) (g := g_units) (nl := 0) (κ := 0) X.F_units sc_units X.M_units X.B_units rfl fun cdv A outer s H E wl S0 B => jb_le
    (jb_cons (se (cl D_need_prime B.c (by decide) (ac (v 0) ja_nil)))
    (jb_cons (se (cl D_need_number B.c (by decide) (ac (v 1) (ac je_int (ac je_non ja_nil)))))
    (jb_one (js_ret (cl D_units_in B.c (by decide) (ac (v 0) (ac (v 1) ja_nil))))))) (by decide)
theorem d_table_sum
    (D_need_table : DefG P w K mg base "need_table" ["prime", "table"] 12 X.a_need_table X.fd_need_table (spD K X.CT 0 m_need_table))
    (D_table_sum_in : DefG P w K mg base "table_sum_in" ["prime", "one", "other"] 3 X.a_table_sum_in X.fd_table_sum_in (spD K X.CT 0 m_table_sum_in))
    (D_anew : DefG P w K mg base "anew" ["value"] 10 X.a_anew X.fd_anew (spD K X.CT 0 m_anew)) :
    DefG P w K mg base "table_sum" ["prime", "one", "other"] 13 X.a_table_sum X.fd_table_sum (spD K X.CT 0 m_table_sum) := by
  rw [q_table_sum]
  exact defG_of (CT := X.CT) (g := g_table_sum) (nl := 1) (κ := 0) X.F_table_sum sc_table_sum X.M_table_sum X.B_table_sum rfl fun cdv A outer s H E wl S0 B => jb_le
    (jb_cons (se (cl D_need_table B.c (by decide) (ac (v 0) (ac (v 1) ja_nil))))
    (jb_cons (se (cl D_need_table B.c (by decide) (ac (v 0) (ac (v 2) ja_nil))))
    (jb_cons (js_if (t_ne B.c (je_o (jn_e (lc [("row", 3)] 100000 B.c (ji_seq (v 1)) (fun s1 H1 q1 l1 p1 => (gn (Cok.blk B.c s1 H1 q1 l1 p1) 3)) (fun s1 H1 q1 l1 p1 => jts_nil) (fun s1 H1 q1 l1 p1 => (j_len rfl X.m_len (oc (o 3) jo_nil)))))) (je_o (jn_e (lc [("row", 3)] 100000 B.c (ji_seq (v 2)) (fun s1 H1 q1 l1 p1 => (gn (Cok.blk B.c s1 H1 q1 l1 p1) 3)) (fun s1 H1 q1 l1 p1 => jts_nil) (fun s1 H1 q1 l1 p1 => (j_len rfl X.m_len (oc (o 3) jo_nil))))))) (jb_one (sr (CC := X.CT 4) 4 B.c X.EB X.EC X.ME_UnlikeShapes (cl D_anew B.c (by decide) (ac (v 2) ja_nil)))) jb_nil)
    (jb_one (js_ret (cl D_table_sum_in B.c (by decide) (ac (v 0) (ac (v 1) (ac (v 2) ja_nil))))))))) (by decide)
theorem d_scaled
    (D_need_prime : DefG P w K mg base "need_prime" ["prime"] 11 X.a_need_prime X.fd_need_prime (spD K X.CT 0 m_need_prime))
    (D_need_scalar : DefG P w K mg base "need_scalar" ["prime", "scalar"] 11 X.a_need_scalar X.fd_need_scalar (spD K X.CT 0 m_need_scalar))
    (D_need_table : DefG P w K mg base "need_table" ["prime", "table"] 12 X.a_need_table X.fd_need_table (spD K X.CT 0 m_need_table))
    (D_scaled_in : DefG P w K mg base "scaled_in" ["prime", "scalar", "table"] 4 X.a_scaled_in X.fd_scaled_in (spD K X.CT 0 m_scaled_in)) :
    DefG P w K mg base "scaled" ["prime", "scalar", "table"] 13 X.a_scaled X.fd_scaled (spD K X.CT 0 m_scaled) := by
  rw [q_scaled]
  exact defG_of (CT := X.CT) (g := g_scaled) (nl := 0) (κ := 0) X.F_scaled sc_scaled X.M_scaled X.B_scaled rfl fun cdv A outer s H E wl S0 B => jb_le
    (jb_cons (se (cl D_need_prime B.c (by decide) (ac (v 0) ja_nil)))
    (jb_cons (se (cl D_need_scalar B.c (by decide) (ac (v 0) (ac (v 1) ja_nil))))
    (jb_cons (se (cl D_need_table B.c (by decide) (ac (v 0) (ac (v 2) ja_nil))))
    (jb_one (js_ret (cl D_scaled_in B.c (by decide) (ac (v 0) (ac (v 1) (ac (v 2) ja_nil))))))))) (by decide)
theorem d_product
    (D_need_table : DefG P w K mg base "need_table" ["prime", "table"] 12 X.a_need_table X.fd_need_table (spD K X.CT 0 m_need_table))
    (D_need_columns : DefG P w K mg base "need_columns" ["prime", "table", "columns"] 13 X.a_need_columns X.fd_need_columns (spD K X.CT 0 m_need_columns))
    (D_product_in : DefG P w K mg base "product_in" ["prime", "one", "other", "columns"] 3 X.a_product_in X.fd_product_in (spD K X.CT 0 m_product_in))
    (D_anew : DefG P w K mg base "anew" ["value"] 10 X.a_anew X.fd_anew (spD K X.CT 0 m_anew)) :
    DefG P w K mg base "product" ["prime", "one", "other", "columns"] 14 X.a_product X.fd_product (spD K X.CT 0 m_product) := by
  rw [q_product]
  exact defG_of (CT := X.CT) (g := g_product) (nl := 0) (κ := 0) X.F_product sc_product X.M_product X.B_product rfl fun cdv A outer s H E wl S0 B => jb_le
    (jb_cons (se (cl D_need_table B.c (by decide) (ac (v 0) (ac (v 1) ja_nil))))
    (jb_cons (se (cl D_need_table B.c (by decide) (ac (v 0) (ac (v 2) ja_nil))))
    (jb_cons (js_if (jw_pt (jw_and (t_ne B.c (o 1) (je_o (je_tup ja_nil))) (jw_and1 (t_ne B.c (je_o (j_len rfl X.m_len (oc (je_o (j_ix (o 1) (je_o je_int))) jo_nil))) (je_o (j_len rfl X.m_len (oc (o 2) jo_nil))))))) (jb_one (sr (CC := X.CT 4) 4 B.c X.EB X.EC X.ME_UnlikeShapes (cl D_anew B.c (by decide) (ac (v 2) ja_nil)))) jb_nil)
    (jb_cons (se (cl D_need_columns B.c (by decide) (ac (v 0) (ac (v 2) (ac (v 3) ja_nil)))))
    (jb_one (js_ret (cl D_product_in B.c (by decide) (ac (v 0) (ac (v 1) (ac (v 2) (ac (v 3) ja_nil))))))))))) (by decide)
theorem d_transposed
    (D_need_columns : DefG P w K mg base "need_columns" ["prime", "table", "columns"] 13 X.a_need_columns X.fd_need_columns (spD K X.CT 0 m_need_columns))
    (D_transposed_in : DefG P w K mg base "transposed_in" ["table", "columns"] 1 X.a_transposed_in X.fd_transposed_in (spD K X.CT 0 m_transposed_in)) :
    DefG P w K mg base "transposed" ["prime", "table", "columns"] 14 X.a_transposed X.fd_transposed (spD K X.CT 0 m_transposed) := by
  rw [q_transposed]
  exact defG_of (CT := X.CT) (g := g_transposed) (nl := 0) (κ := 0) X.F_transposed sc_transposed X.M_transposed X.B_transposed rfl fun cdv A outer s H E wl S0 B => jb_le
    (jb_cons (se (cl D_need_columns B.c (by decide) (ac (v 0) (ac (v 1) (ac (v 2) ja_nil)))))
    (jb_one (js_ret (cl D_transposed_in B.c (by decide) (ac (v 1) (ac (v 2) ja_nil)))))) (by decide)
theorem d__law_well (hL : WellLaw 4 g__law_well) : DefW P w K mg base "_law_well" ["script", "k"] 1 X.a__law_well X.fd__law_well :=
  defW_of (CT := X.CT) (g := g__law_well) (nl := 4) X.F__law_well sc__law_well X.M__law_well X.B__law_well rfl rfl hL fun cdv A outer s H E wl S0 B => jz_le
    (jz_cons (ss B.c 2 (je_if (t_lt (o 1) (je_o (j_len rfl X.m_len (oc (o 0) jo_nil)))) (j_int rfl X.m_int (oc (je_o (j_ix (o 0) (o 1))) jo_nil)) (je_add (je_o (je_mul (je_o je_int) (o 1))) (je_o je_int))))
    (jz_cons (ss B.c 3 (je_add (je_o je_int) (je_o (j_len rfl X.m_len (oc (o 0) jo_nil)))))
    (jz_cons (sf 100000 B (ji_seq (v 0)) (gn B.c 4) (jb_one (ss B.c 3 (je_mod (je_o (j_int rfl X.m_int (oc (je_o (je_add (je_o (je_mul (o 3) (je_o je_int))) (je_o (je_mod (je_o (j_int rfl X.m_int (oc (o 4) jo_nil))) (je_o (je_add (je_o (je_pow (je_o je_int) (je_o je_int))) (je_o je_int))))))) jo_nil))) (je_o (je_add (je_o (je_pow (je_o je_int) (je_o je_int))) (je_o je_int)))))))
    (jz_cons (ss B.c 5 (je_mod (je_o (j_int rfl X.m_int (oc (je_o (je_add (je_o (je_add (je_o (je_add (je_o (je_mul (je_o (j_abs rfl X.m_abs (oc (o 2) jo_nil))) (je_o je_int))) (je_o (je_mul (o 3) (je_o je_int))))) (je_o (je_mul (je_o je_int) (je_o (j_int rfl X.m_int (oc (je_o (je_lt (o 2) (je_o je_int))) jo_nil))))))) (je_o (je_mul (je_o je_int) (o 1))))) jo_nil))) (je_o (je_add (je_o (je_pow (je_o je_int) (je_o je_int))) (je_o je_int)))))
    (jz_ret (jn_lst (ac (j_max B.c rfl X.m_max (oc (je_o je_int) (oc (je_o (je_sub (je_o (j_abs rfl X.m_abs (oc (o 2) jo_nil))) (je_o (je_pow (je_o je_int) (je_o je_int))))) jo_nil))) (ac (v 5) (ac je_int ja_nil))))))))) (by decide)
theorem d__law_draw (hL : DrawLaw 3 g__law_draw) : DefG P w K mg base "_law_draw" ["well", "many"] 1 X.a__law_draw X.fd__law_draw (spD K X.CT 1 m__law_draw) :=
  draw_of (CT := X.CT) (g := g__law_draw) (nl := 3) X.F__law_draw sc__law_draw X.M__law_draw X.B__law_draw rfl rfl hL fun cdv A outer s H E n hn B => jb_le
    (jb_cons (js_if (t_gt (je_o (j_ix (o 0) (je_o je_int))) (je_o je_int)) (jb_cons (ss B.c 2 (je_mod (je_o (j_int rfl X.m_int (oc (je_o (j_ix (o 0) (je_o je_int))) jo_nil))) (o 1)))
    (jb_cons (six 0 (je_fdiv (je_o (j_ix (o 0) (je_o je_int))) (o 1)) je_int)
    (jb_one (js_ret (v 2))))) jb_nil)
    (jb_cons (six 0 (je_add (je_o (j_ix (o 0) (je_o je_int))) (je_o je_int)) je_int)
    (jb_cons (ss B.c 3 (j_ix (o 0) (je_o je_int)))
    (jb_cons (ss B.c 4 (je_mod (je_o (j_int rfl X.m_int (oc (je_o (je_add (je_o (je_add (je_o (je_mul (je_o (je_mul (je_o (je_add (je_o (j_ix (o 0) (je_o je_int))) (je_o je_int))) (je_o (je_add (o 3) (je_o je_int))))) (je_o je_int))) (je_o (je_mul (je_o (je_mul (je_o (je_mul (o 3) (o 3))) (o 3))) (je_o je_int))))) (je_o je_int))) jo_nil))) (je_o (je_add (je_o (je_pow (je_o je_int) (je_o je_int))) (je_o je_int)))))
    (jb_cons (ss B.c 4 (je_mod (je_o (j_int rfl X.m_int (oc (je_o (je_add (je_o (je_add (je_o (je_mul (o 4) (o 4))) (je_o (je_mul (je_o (j_ix (o 0) (je_o je_int))) (je_o je_int))))) (o 3))) jo_nil))) (je_o (je_add (je_o (je_pow (je_o je_int) (je_o je_int))) (je_o je_int)))))
    (jb_cons (ss B.c 4 (je_mod (je_o (j_int rfl X.m_int (oc (je_o (je_add (je_o (je_mul (je_o (je_mul (o 4) (o 4))) (je_o je_int))) (je_o (je_mul (o 4) (je_o je_int))))) jo_nil))) (je_o (je_add (je_o (je_pow (je_o je_int) (je_o je_int))) (je_o je_int)))))
    (jb_one (js_ret (je_mod (je_o (j_int rfl X.m_int (oc (je_o (je_fdiv (o 4) (je_o je_int))) jo_nil))) (o 1)))))))))) (by decide)
theorem d__law_cut :
    DefG P w K mg base "_law_cut" ["above", "below"] 1 X.a__law_cut X.fd__law_cut (spD K X.CT 0 m__law_cut) := by
  rw [q__law_cut]
  exact defG_of (CT := X.CT) (g := g__law_cut) (nl := 3) (κ := 0) X.F__law_cut sc__law_cut X.M__law_cut X.B__law_cut rfl fun cdv A outer s H E wl S0 B => jb_le
    (jb_cons (sp2 B.c 2 3 (ac (j_abs rfl X.m_abs (oc (o 0) jo_nil)) (ac (j_abs rfl X.m_abs (oc (o 1) jo_nil)) ja_nil)))
    (jb_cons (js_while B (t_gt (o 3) (je_o je_int)) (jb_one (sp2 B.c 2 3 (ac (v 3) (ac (je_mod (je_o (j_int rfl X.m_int (oc (o 2) jo_nil))) (o 3)) ja_nil)))))
    (jb_cons (ss B.c 4 (je_if (t_lt (o 1) (je_o je_int)) (je_neg (je_o je_int)) je_int))
    (jb_one (js_ret (je_tup (ac (je_fdiv (je_o (je_mul (o 4) (o 0))) (o 2)) (ac (je_fdiv (je_o (je_mul (o 4) (o 1))) (o 2)) ja_nil)))))))) (by decide)
theorem d__law_num :
    DefG P w K mg base "_law_num" ["p", "k"] 1 X.a__law_num X.fd__law_num (spD K X.CT 0 m__law_num) := by
  rw [q__law_num]
  exact defG_of (CT := X.CT) (g := g__law_num) (nl := 0) (κ := 0) X.F__law_num sc__law_num X.M__law_num X.B__law_num rfl fun cdv A outer s H E wl S0 B => jb_le
    (jb_one (js_ret (je_if (t_eq B.c (o 0) (je_o je_int)) (je_tup (ac (v 1) (ac je_int ja_nil))) (je_mod (je_o (j_int rfl X.m_int (oc (o 1) jo_nil))) (o 0))))) (by decide)
theorem d__law_plus
    (D__law_cut : DefG P w K mg base "_law_cut" ["above", "below"] 1 X.a__law_cut X.fd__law_cut (spD K X.CT 0 m__law_cut)) :
    DefG P w K mg base "_law_plus" ["p", "one", "other"] 2 X.a__law_plus X.fd__law_plus (spD K X.CT 0 m__law_plus) := by
  rw [q__law_plus]
  exact defG_of (CT := X.CT) (g := g__law_plus) (nl := 0) (κ := 0) X.F__law_plus sc__law_plus X.M__law_plus X.B__law_plus rfl fun cdv A outer s H E wl S0 B => jb_le
    (jb_one (js_ret (je_if (t_gt (o 0) (je_o je_int)) (je_mod (je_o (j_int rfl X.m_int (oc (je_o (je_add (o 1) (o 2))) jo_nil))) (o 0)) (cl D__law_cut B.c (by decide) (ac (je_add (je_o (je_mul (je_o (j_ix (o 1) (je_o je_int))) (je_o (j_ix (o 2) (je_o je_int))))) (je_o (je_mul (je_o (j_ix (o 2) (je_o je_int))) (je_o (j_ix (o 1) (je_o je_int)))))) (ac (je_mul (je_o (j_ix (o 1) (je_o je_int))) (je_o (j_ix (o 2) (je_o je_int)))) ja_nil)))))) (by decide)
theorem d__law_times
    (D__law_cut : DefG P w K mg base "_law_cut" ["above", "below"] 1 X.a__law_cut X.fd__law_cut (spD K X.CT 0 m__law_cut)) :
    DefG P w K mg base "_law_times" ["p", "one", "other"] 2 X.a__law_times X.fd__law_times (spD K X.CT 0 m__law_times) := by
  rw [q__law_times]
  exact defG_of (CT := X.CT) (g := g__law_times) (nl := 0) (κ := 0) X.F__law_times sc__law_times X.M__law_times X.B__law_times rfl fun cdv A outer s H E wl S0 B => jb_le
    (jb_one (js_ret (je_if (t_gt (o 0) (je_o je_int)) (je_mod (je_o (j_int rfl X.m_int (oc (je_o (je_mul (o 1) (o 2))) jo_nil))) (o 0)) (cl D__law_cut B.c (by decide) (ac (je_mul (je_o (j_ix (o 1) (je_o je_int))) (je_o (j_ix (o 2) (je_o je_int)))) (ac (je_mul (je_o (j_ix (o 1) (je_o je_int))) (je_o (j_ix (o 2) (je_o je_int)))) ja_nil)))))) (by decide)
theorem d__law_drawn
    (D__law_draw : DefG P w K mg base "_law_draw" ["well", "many"] 1 X.a__law_draw X.fd__law_draw (spD K X.CT 1 m__law_draw))
    (D__law_cut : DefG P w K mg base "_law_cut" ["above", "below"] 1 X.a__law_cut X.fd__law_cut (spD K X.CT 0 m__law_cut)) :
    DefG P w K mg base "_law_drawn" ["well", "p"] 2 X.a__law_drawn X.fd__law_drawn (spD K X.CT 3 m__law_drawn) := by
  rw [q__law_drawn]
  exact defG_of (CT := X.CT) (g := g__law_drawn) (nl := 0) (κ := 3) X.F__law_drawn sc__law_drawn X.M__law_drawn X.B__law_drawn rfl fun cdv A outer s H E wl S0 B => jb_le
    (jb_one (js_ret (je_if (t_gt (o 1) (je_o je_int)) (cl D__law_draw B.c (by decide) (ac (v 0) (ac (v 1) ja_nil))) (cl D__law_cut B.c (by decide) (ac (je_sub (je_o (cl D__law_draw B.c (by decide) (ac (v 0) (ac je_int ja_nil)))) (je_o je_int)) (ac (je_add (je_o je_int) (je_o (cl D__law_draw B.c (by decide) (ac (v 0) (ac je_int ja_nil))))) ja_nil)))))) (by decide)
theorem d__law_table
    (D__law_drawn : DefG P w K mg base "_law_drawn" ["well", "p"] 2 X.a__law_drawn X.fd__law_drawn (spD K X.CT 3 m__law_drawn)) :
    DefG P w K mg base "_law_table" ["well", "p", "rows", "columns"] 3 X.a__law_table X.fd__law_table (spD K X.CT 12288 m__law_table) := by
  rw [q__law_table]
  exact defG_of (CT := X.CT) (g := g__law_table) (nl := 2) (κ := 12288) X.F__law_table sc__law_table X.M__law_table X.B__law_table rfl fun cdv A outer s H E wl S0 B => jb_le
    (jb_one (js_ret (j_tuple rfl X.m_tuple (oc (je_o (jn_e (lc [("row", 5)] 64 B.c (r1 X.m_range (oc (o 2) jo_nil)) (fun s1 H1 q1 l1 p1 => (gn (Cok.blk B.c s1 H1 q1 l1 p1) 5)) (fun s1 H1 q1 l1 p1 => jts_nil) (fun s1 H1 q1 l1 p1 => (j_tuple rfl X.m_tuple (oc (je_o (jn_e (lc [("column", 4)] 64 (Cok.blk B.c s1 H1 q1 l1 p1) (r1 X.m_range (oc (o 3) jo_nil)) (fun s2 H2 q2 l2 p2 => (gn (Cok.blk (Cok.blk B.c s1 H1 q1 l1 p1) s2 H2 q2 l2 p2) 4)) (fun s2 H2 q2 l2 p2 => jts_nil) (fun s2 H2 q2 l2 p2 => (cl D__law_drawn (Cok.blk (Cok.blk B.c s1 H1 q1 l1 p1) s2 H2 q2 l2 p2) (by decide) (ac (v 0) (ac (v 1) ja_nil))))))) jo_nil)))))) jo_nil)))) (by decide)
theorem d__law_dot
    (D__law_num : DefG P w K mg base "_law_num" ["p", "k"] 1 X.a__law_num X.fd__law_num (spD K X.CT 0 m__law_num))
    (D__law_plus : DefG P w K mg base "_law_plus" ["p", "one", "other"] 2 X.a__law_plus X.fd__law_plus (spD K X.CT 0 m__law_plus))
    (D__law_times : DefG P w K mg base "_law_times" ["p", "one", "other"] 2 X.a__law_times X.fd__law_times (spD K X.CT 0 m__law_times)) :
    DefG P w K mg base "_law_dot" ["p", "one", "other"] 3 X.a__law_dot X.fd__law_dot (spD K X.CT 0 m__law_dot) := by
  rw [q__law_dot]
  exact defG_of (CT := X.CT) (g := g__law_dot) (nl := 3) (κ := 0) X.F__law_dot sc__law_dot X.M__law_dot X.B__law_dot rfl fun cdv A outer s H E wl S0 B => jb_le
    (jb_cons (ss B.c 3 (cl D__law_num B.c (by decide) (ac (v 0) (ac je_int ja_nil))))
    (jb_cons (sf 100000 B (ji_zip (by rfl) X.m_zip (ac (v 1) (ac (v 2) ja_nil))) (gt B.c 2 (gc (gn B.c 4) (gc (gn B.c 5) jgs_nil)) (gs_len1 gm_name (gs_len1 gm_name gs_len0))) (jb_one (ss B.c 3 (cl D__law_plus B.c (by decide) (ac (v 0) (ac (v 3) (ac (cl D__law_times B.c (by decide) (ac (v 0) (ac (v 4) (ac (v 5) ja_nil)))) ja_nil)))))))
    (jb_one (js_ret (v 3))))) (by decide)
theorem d__law_product
    (D__law_dot : DefG P w K mg base "_law_dot" ["p", "one", "other"] 3 X.a__law_dot X.fd__law_dot (spD K X.CT 0 m__law_dot)) :
    DefG P w K mg base "_law_product" ["p", "one", "other", "columns"] 4 X.a__law_product X.fd__law_product (spD K X.CT 0 m__law_product) := by
  rw [q__law_product]
  exact defG_of (CT := X.CT) (g := g__law_product) (nl := 3) (κ := 0) X.F__law_product sc__law_product X.M__law_product X.B__law_product rfl fun cdv A outer s H E wl S0 B => jb_le
    (jb_one (js_ret (j_tuple rfl X.m_tuple (oc (je_o (jn_e (lc [("row", 6)] 100000 B.c (ji_seq (v 1)) (fun s1 H1 q1 l1 p1 => (gn (Cok.blk B.c s1 H1 q1 l1 p1) 6)) (fun s1 H1 q1 l1 p1 => jts_nil) (fun s1 H1 q1 l1 p1 => (j_tuple rfl X.m_tuple (oc (je_o (jn_e (lc [("at", 5)] 100000 (Cok.blk B.c s1 H1 q1 l1 p1) (r1 X.m_range (oc (o 3) jo_nil)) (fun s2 H2 q2 l2 p2 => (gn (Cok.blk (Cok.blk B.c s1 H1 q1 l1 p1) s2 H2 q2 l2 p2) 5)) (fun s2 H2 q2 l2 p2 => jts_nil) (fun s2 H2 q2 l2 p2 => (cl D__law_dot (Cok.blk (Cok.blk B.c s1 H1 q1 l1 p1) s2 H2 q2 l2 p2) (by decide) (ac (v 0) (ac (v 6) (ac (jn_e (lc [("own", 4)] 100000 (Cok.blk (Cok.blk B.c s1 H1 q1 l1 p1) s2 H2 q2 l2 p2) (ji_seq (v 2)) (fun s3 H3 q3 l3 p3 => (gn (Cok.blk (Cok.blk (Cok.blk B.c s1 H1 q1 l1 p1) s2 H2 q2 l2 p2) s3 H3 q3 l3 p3) 4)) (fun s3 H3 q3 l3 p3 => jts_nil) (fun s3 H3 q3 l3 p3 => (j_ix (o 4) (o 5))))) ja_nil)))))))) jo_nil)))))) jo_nil)))) (by decide)
theorem d__law_units
    (D__law_num : DefG P w K mg base "_law_num" ["p", "k"] 1 X.a__law_num X.fd__law_num (spD K X.CT 0 m__law_num)) :
    DefG P w K mg base "_law_units" ["p", "size"] 2 X.a__law_units X.fd__law_units (spD K X.CT 0 m__law_units) := by
  rw [q__law_units]
  exact defG_of (CT := X.CT) (g := g__law_units) (nl := 2) (κ := 0) X.F__law_units sc__law_units X.M__law_units X.B__law_units rfl fun cdv A outer s H E wl S0 B => jb_le
    (jb_one (js_ret (j_tuple rfl X.m_tuple (oc (je_o (jn_e (lc [("row", 3)] 100000 B.c (r1 X.m_range (oc (o 1) jo_nil)) (fun s1 H1 q1 l1 p1 => (gn (Cok.blk B.c s1 H1 q1 l1 p1) 3)) (fun s1 H1 q1 l1 p1 => jts_nil) (fun s1 H1 q1 l1 p1 => (j_tuple rfl X.m_tuple (oc (je_o (jn_e (lc [("column", 2)] 100000 (Cok.blk B.c s1 H1 q1 l1 p1) (r1 X.m_range (oc (o 1) jo_nil)) (fun s2 H2 q2 l2 p2 => (gn (Cok.blk (Cok.blk B.c s1 H1 q1 l1 p1) s2 H2 q2 l2 p2) 2)) (fun s2 H2 q2 l2 p2 => jts_nil) (fun s2 H2 q2 l2 p2 => (cl D__law_num (Cok.blk (Cok.blk B.c s1 H1 q1 l1 p1) s2 H2 q2 l2 p2) (by decide) (ac (v 0) (ac (j_int rfl X.m_int (oc (je_o (je_eq (Cok.blk (Cok.blk B.c s1 H1 q1 l1 p1) s2 H2 q2 l2 p2) (o 3) (o 2))) jo_nil)) ja_nil))))))) jo_nil)))))) jo_nil)))) (by decide)
theorem d__law_turned :
    DefG P w K mg base "_law_turned" ["table", "columns"] 1 X.a__law_turned X.fd__law_turned (spD K X.CT 0 m__law_turned) := by
  rw [q__law_turned]
  exact defG_of (CT := X.CT) (g := g__law_turned) (nl := 2) (κ := 0) X.F__law_turned sc__law_turned X.M__law_turned X.B__law_turned rfl fun cdv A outer s H E wl S0 B => jb_le
    (jb_one (js_ret (j_tuple rfl X.m_tuple (oc (je_o (jn_e (lc [("at", 3)] 100000 B.c (r1 X.m_range (oc (o 1) jo_nil)) (fun s1 H1 q1 l1 p1 => (gn (Cok.blk B.c s1 H1 q1 l1 p1) 3)) (fun s1 H1 q1 l1 p1 => jts_nil) (fun s1 H1 q1 l1 p1 => (j_tuple rfl X.m_tuple (oc (je_o (jn_e (lc [("row", 2)] 100000 (Cok.blk B.c s1 H1 q1 l1 p1) (ji_seq (v 0)) (fun s2 H2 q2 l2 p2 => (gn (Cok.blk (Cok.blk B.c s1 H1 q1 l1 p1) s2 H2 q2 l2 p2) 2)) (fun s2 H2 q2 l2 p2 => jts_nil) (fun s2 H2 q2 l2 p2 => (j_ix (o 2) (o 3)))))) jo_nil)))))) jo_nil)))) (by decide)
theorem d__law_is_table :
    DefG P w K mg base "_law_is_table" ["p", "rows", "columns", "value"] 1 X.a__law_is_table X.fd__law_is_table (spD K X.CT 0 m__law_is_table) := by
  rw [q__law_is_table]
  exact defG_of (CT := X.CT) (g := g__law_is_table) (nl := 2) (κ := 0) X.F__law_is_table sc__law_is_table X.M__law_is_table X.B__law_is_table rfl fun cdv A outer s H E wl S0 B => jb_le
    (jb_cons (js_if (jw_pt (jw_or (jt_not (t_v (j_isi hT_tuple b_tuple X.m_isinstance X.m_tuple (o 3)))) (jw_or (t_ne B.c (je_o (j_len rfl X.m_len (oc (o 3) jo_nil))) (o 1)) (jw_or1 (jt_not (t_v (j_all B.c rfl X.m_all (oc (je_o (jn_e (lc [("row", 4)] 100000 B.c (ji_seq (v 3)) (fun s1 H1 q1 l1 p1 => (gn (Cok.blk B.c s1 H1 q1 l1 p1) 4)) (fun s1 H1 q1 l1 p1 => jts_nil) (fun s1 H1 q1 l1 p1 => (je_and (j_isi hT_tuple b_tuple X.m_isinstance X.m_tuple (o 4)) (je_one (je_eq (Cok.blk B.c s1 H1 q1 l1 p1) (je_o (j_len rfl X.m_len (oc (o 4) jo_nil))) (o 2)))))))) jo_nil)))))))) (jb_one (js_ret je_bl)) jb_nil)
    (jb_cons (sf 100000 B (ji_seq (v 3)) (gn B.c 4) (jb_one (js_if (jt_not (t_v (j_all B.c rfl X.m_all (oc (je_o (jn_e (lc [("item", 5)] 100000 B.c (ji_seq (v 4)) (fun s1 H1 q1 l1 p1 => (gn (Cok.blk B.c s1 H1 q1 l1 p1) 5)) (fun s1 H1 q1 l1 p1 => jts_nil) (fun s1 H1 q1 l1 p1 => (je_and (j_isi hT_int b_int X.m_isinstance X.m_int (o 5)) (je_and (je_not (j_isi hT_bool b_bool X.m_isinstance X.m_bool (o 5))) (je_one (je_chain op_le oI_le op_lt oI_lt (je_o je_int) (o 5) (o 0) (by rfl))))))))) jo_nil)))) (jb_one (js_ret je_bl)) jb_nil)))
    (jb_one (js_ret je_bl)))) (by decide)
theorem d__law_near
    (D__law_draw : DefG P w K mg base "_law_draw" ["well", "many"] 1 X.a__law_draw X.fd__law_draw (spD K X.CT 1 m__law_draw)) :
    DefG P w K mg base "_law_near" ["well", "table"] 2 X.a__law_near X.fd__law_near (spD K X.CT 1 m__law_near) := by
  rw [q__law_near]
  exact defG_of (CT := X.CT) (g := g__law_near) (nl := 2) (κ := 1) X.F__law_near sc__law_near X.M__law_near X.B__law_near rfl fun cdv A outer s H E wl S0 B => jb_le
    (jb_cons (ss B.c 2 (jn_e (jn_lst (ac (v 1) (ac je_non (ac (jn_e (jn_of (by rfl) X.m_list (oc (o 1) jo_nil) (by rfl) (by rfl))) (ac (je_add (o 1) (je_o (je_tup (ac (je_tup ja_nil) ja_nil)))) (ac (je_slice (o 1) (jp_at je_int) jp_no) (ac (j_tuple rfl X.m_tuple (oc (je_o (jn_e (lc [("row", 3)] 100000 B.c (ji_seq (v 1)) (fun s1 H1 q1 l1 p1 => (gn (Cok.blk B.c s1 H1 q1 l1 p1) 3)) (fun s1 H1 q1 l1 p1 => jts_nil) (fun s1 H1 q1 l1 p1 => (jn_e (jn_of (by rfl) X.m_list (oc (o 3) jo_nil) (by rfl) (by rfl))))))) jo_nil)) (ac (j_tuple rfl X.m_tuple (oc (je_o (jn_e (lc [("row", 3)] 100000 B.c (ji_seq (v 1)) (fun s1 H1 q1 l1 p1 => (gn (Cok.blk B.c s1 H1 q1 l1 p1) 3)) (fun s1 H1 q1 l1 p1 => jts_nil) (fun s1 H1 q1 l1 p1 => (je_add (o 3) (je_o (je_tup (ac je_int ja_nil)))))))) jo_nil)) ja_nil))))))))))
    (jb_one (js_ret (j_ix (je_o (je_add (o 2) (je_o (jn_e (jn_lst (ac (j_tuple rfl X.m_tuple (oc (je_o (jn_e (lc [("row", 3)] 100000 B.c (ji_seq (v 1)) (fun s1 H1 q1 l1 p1 => (gn (Cok.blk B.c s1 H1 q1 l1 p1) 3)) (fun s1 H1 q1 l1 p1 => jts_nil) (fun s1 H1 q1 l1 p1 => (je_add (je_o (je_slice (o 3) jp_no (jp_at (je_neg (je_o je_int))))) (je_o (je_tup (ac je_bl ja_nil)))))))) jo_nil)) (ac (je_tup (ac (je_tup (ac je_int (ac je_int ja_nil))) (ac (je_tup (ac je_int ja_nil)) ja_nil))) (ac (je_tup (ac (je_tup (ac (je_neg (je_o je_int)) ja_nil)) ja_nil)) (ac (je_tup ja_nil) (ac (je_tup (ac (je_tup ja_nil) ja_nil)) (ac (je_tup (ac (je_tup (ac je_int ja_nil)) ja_nil)) ja_nil))))))))))) (je_o (cl D__law_draw B.c (by decide) (ac (v 0) (ac je_int ja_nil)))))))) (by decide)
theorem d__law_told
    (D_table_sum : DefG P w K mg base "table_sum" ["prime", "one", "other"] 13 X.a_table_sum X.fd_table_sum (spD K X.CT 0 m_table_sum))
    (D_product : DefG P w K mg base "product" ["prime", "one", "other", "columns"] 14 X.a_product X.fd_product (spD K X.CT 0 m_product))
    (D_transposed : DefG P w K mg base "transposed" ["prime", "table", "columns"] 14 X.a_transposed X.fd_transposed (spD K X.CT 0 m_transposed))
    (D_scaled : DefG P w K mg base "scaled" ["prime", "scalar", "table"] 13 X.a_scaled X.fd_scaled (spD K X.CT 0 m_scaled))
    (D_zeros : DefG P w K mg base "zeros" ["prime", "rows", "columns"] 12 X.a_zeros X.fd_zeros (spD K X.CT 0 m_zeros))
    (D_units : DefG P w K mg base "units" ["prime", "size"] 12 X.a_units X.fd_units (spD K X.CT 0 m_units)) :
    DefG P w K mg base "_law_told" ["way", "p", "one", "other", "columns"] 15 X.a__law_told X.fd__law_told (spD K X.CT 0 m__law_told) := by
  rw [q__law_told]
  exact defG_of (CT := X.CT) (g := ((gSeq (gSet 5 (dC .none))
  (gSeq (gTry 6 5 (gIfS (tVal (d2 gEq (dOwn 0) (dC (.int 0)))) (gDrop (dCall m_table_sum (aCons (dVar 1) (aCons (dVar 2) (aCons (dVar 3) aNil))))) (gIfS (tVal (d2 gEq (dOwn 0) (dC (.int 1)))) (gDrop (dCall m_product (aCons (dVar 1) (aCons (dVar 2) (aCons (dVar 3) (aCons (dVar 4) aNil)))))) (gIfS (tVal (d2 gEq (dOwn 0) (dC (.int 2)))) (gDrop (dCall m_transposed (aCons (dVar 1) (aCons (dVar 2) (aCons (dVar 4) aNil))))) (gIfS (tVal (d2 gEq (dOwn 0) (dC (.int 3)))) (gDrop (dCall m_scaled (aCons (dVar 1) (aCons (dVar 3) (aCons (dVar 2) aNil))))) (gIfS (tVal (d2 gEq (dOwn 0) (dC (.int 4)))) (gDrop (dCall m_zeros (aCons (dVar 1) (aCons (dVar 2) (aCons (dVar 3) aNil))))) (gDrop (dCall m_units (aCons (dVar 1) (aCons (dVar 2) aNil))))))))))
  (gSeq (gSetN 7 (nLst (aCons (d1 (gIsE 3 subE) (dOwn 5)) (aCons (d1 (gIsE 4 subE) (dOwn 5)) (aCons (d1 (gIsE 0 subE) (dOwn 5)) aNil)))))
  (gSeq (gApp 7 (d1 (gIsE 2 subE) (dOwn 5)))
  (gRet (dIf (tVal (d1 gIsN (dOwn 5))) (dC .none) (dTup (aCons (dN2 (nLc 100000 (iRg rg1 (aCons (dC (.int 4)) aNil)) (gNm 8) (tVal (d2 gIx (dOwn 7) (dOwn 8))) (dVar 8) [8])) (aCons (dBi bRepr (aCons (d1 gVal (dOwn 5)) aNil)) aNil))))))))))) (nl := 4) (κ := 0) X.F__law_told sc__law_told X.M__law_told X.B__law_told rfl fun cdv A outer s H E wl S0 B => jb_le
    (jb_cons (ss B.c 5 je_non)
    (jb_cons (st_ 6 5 B.c rfl rfl rfl X.M_WebsError X.XM (fun W' pn' xe' C' B' => (jb_one (js_if (t_eq C' (o 0) (je_o je_int)) (jb_one (se (cl D_table_sum C' (by decide) (ac (v 1) (ac (v 2) (ac (v 3) ja_nil)))))) (jb_one (js_if (t_eq C' (o 0) (je_o je_int)) (jb_one (se (cl D_product C' (by decide) (ac (v 1) (ac (v 2) (ac (v 3) (ac (v 4) ja_nil))))))) (jb_one (js_if (t_eq C' (o 0) (je_o je_int)) (jb_one (se (cl D_transposed C' (by decide) (ac (v 1) (ac (v 2) (ac (v 4) ja_nil)))))) (jb_one (js_if (t_eq C' (o 0) (je_o je_int)) (jb_one (se (cl D_scaled C' (by decide) (ac (v 1) (ac (v 3) (ac (v 2) ja_nil)))))) (jb_one (js_if (t_eq C' (o 0) (je_o je_int)) (jb_one (se (cl D_zeros C' (by decide) (ac (v 1) (ac (v 2) (ac (v 3) ja_nil)))))) (jb_one (se (cl D_units C' (by decide) (ac (v 1) (ac (v 2) ja_nil)))))))))))))))))
    (jb_cons (sn B.c 7 (jn_lst (ac (j_isE X.m_isinstance X.ME_InvalidTable X.KN_InvalidTable X.IC X.KL_InvalidTable (o 5)) (ac (j_isE X.m_isinstance X.ME_UnlikeShapes X.KN_UnlikeShapes X.IC X.KL_UnlikeShapes (o 5)) (ac (j_isE X.m_isinstance X.ME_InvalidNumber X.KN_InvalidNumber X.IC X.KL_InvalidNumber (o 5)) ja_nil)))))
    (jb_cons (sap 7 (j_isE X.m_isinstance X.ME_InvalidScalar X.KN_InvalidScalar X.IC X.KL_InvalidScalar (o 5)))
    (jb_one (js_ret (je_if (jt_isN (o 5)) je_non (je_tup (ac (jn_e (lc [("at", 8)] 100000 B.c (r1 X.m_range (oc (je_o je_int) jo_nil)) (fun s1 H1 q1 l1 p1 => (gn (Cok.blk B.c s1 H1 q1 l1 p1) 8)) (fun s1 H1 q1 l1 p1 => (jts_one (t_v (j_ix (o 7) (o 8))))) (fun s1 H1 q1 l1 p1 => (v 8)))) (ac (j_repr B.c rfl X.m_repr (oc (je_o (j_val X.EC (o 5))) jo_nil)) ja_nil)))))))))) (by decide)
theorem d__law_refused
    (D__law_draw : DefG P w K mg base "_law_draw" ["well", "many"] 1 X.a__law_draw X.fd__law_draw (spD K X.CT 1 m__law_draw))
    (D__law_told : DefG P w K mg base "_law_told" ["way", "p", "one", "other", "columns"] 15 X.a__law_told X.fd__law_told (spD K X.CT 0 m__law_told))
    (D__law_units : DefG P w K mg base "_law_units" ["p", "size"] 2 X.a__law_units X.fd__law_units (spD K X.CT 0 m__law_units))
    (D__law_num : DefG P w K mg base "_law_num" ["p", "k"] 1 X.a__law_num X.fd__law_num (spD K X.CT 0 m__law_num)) :
    DefG P w K mg base "_law_refused" ["well", "p", "one", "m", "k"] 16 X.a__law_refused X.fd__law_refused (spD K X.CT 2 m__law_refused) := by
  rw [q__law_refused]
  exact defG_of (CT := X.CT) (g := ((gSeq (gSet 5 (d2 gIx (dN2 (nLst (aCons (dC .none) (aCons (dN2 (nLst (aCons (dTup aNil) aNil))) (aCons (dTup (aCons (dTup (aCons (dC (.int 0)) (aCons (dC (.int 0)) aNil))) (aCons (dTup (aCons (dC (.int 0)) aNil)) aNil))) (aCons (dTup (aCons (dC (.int 0)) aNil)) (aCons (dC (.str "")) (aCons (dTup (aCons (dTup (aCons (dC .none) aNil)) aNil)) aNil)))))))) (dCall m__law_draw (aCons (dVar 0) (aCons (dC (.int 6)) aNil)))))
  (gSeq (gIfS (tVal (d2 gEq (dOwn 1) (dC (.int 0)))) (gSet 5 (d2 gIx (dN2 (nLst (aCons (dTup (aCons (dTup (aCons (dC (.int 1)) aNil)) aNil)) (aCons (dTup (aCons (dTup (aCons (dTup (aCons (dC (.int 2)) (aCons (dC (.int 4)) aNil))) aNil)) aNil)) (aCons (dC .none) aNil))))) (dCall m__law_draw (aCons (dVar 0) (aCons (dC (.int 3)) aNil))))) gNext)
  (gSeq (gIfS (tVal (d2 gNe (dN2 (nLst (aCons (dCall m__law_told (aCons (dC (.int 0)) (aCons (dVar 1) (aCons (dVar 5) (aCons (dC .none) (aCons (dC (.int 0)) aNil)))))) (aCons (dCall m__law_told (aCons (dC (.int 1)) (aCons (dVar 1) (aCons (dVar 5) (aCons (dC .none) (aCons (d1 gNeg (dC (.int 1))) aNil)))))) (aCons (dCall m__law_told (aCons (dC (.int 2)) (aCons (dVar 1) (aCons (dVar 5) (aCons (dC (.int 0)) (aCons (d1 gNeg (dC (.int 1))) aNil)))))) aNil))))) (d2 gMul (dN2 (nLst (aCons (dTup (aCons (dN2 (nLst (aCons (dC (.int 0)) aNil))) (aCons (dBi bRepr (aCons (dOwn 5) aNil)) aNil))) aNil))) (dC (.int 3))))) (gRet (dC (.bool false))) gNext)
  (gSeq (gIfS (tOr' (tVal (d2 gNe (dN2 (nLst (aCons (dCall m__law_told (aCons (dC (.int 0)) (aCons (dVar 1) (aCons (dVar 2) (aCons (dVar 5) (aCons (dC (.int 0)) aNil)))))) (aCons (dCall m__law_told (aCons (dC (.int 1)) (aCons (dVar 1) (aCons (dVar 2) (aCons (dVar 5) (aCons (d1 gNeg (dC (.int 1))) aNil)))))) aNil)))) (d2 gMul (dN2 (nLst (aCons (dTup (aCons (dN2 (nLst (aCons (dC (.int 0)) aNil))) (aCons (dBi bRepr (aCons (dOwn 5) aNil)) aNil))) aNil))) (dC (.int 2))))) (tVal (d2 gNe (dCall m__law_told (aCons (dC (.int 3)) (aCons (dVar 1) (aCons (dVar 5) (aCons (dC .none) (aCons (dC (.int 0)) aNil)))))) (dTup (aCons (dN2 (nLst (aCons (dC (.int 3)) aNil))) (aCons (dC (.str "None")) aNil)))))) (gRet (dC (.bool false))) gNext)
  (gSeq (gSet 6 (d2 gAdd (dBi bTuple (aCons (dN2 (nLc 100000 (iSeq (dVar 2)) (gNm 7) tTrue (d2 gAdd (dOwn 7) (dTup (aCons (dCall m__law_num (aCons (dVar 1) (aCons (dC (.int 1)) aNil))) aNil))) [7])) aNil)) (dIf (tVal (d2 gEq (dOwn 3) (dC (.int 0)))) (dTup (aCons (d2 gMul (dTup (aCons (dCall m__law_num (aCons (dVar 1) (aCons (dC (.int 1)) aNil))) aNil)) (d2 gAdd (dOwn 4) (dC (.int 1)))) aNil)) (dTup aNil))))
  (gSeq (gIfS (tOr' (tVal (d2 gNe (dCall m__law_told (aCons (dC (.int 0)) (aCons (dVar 1) (aCons (dVar 2) (aCons (dVar 6) (aCons (dC (.int 0)) aNil)))))) (dTup (aCons (dN2 (nLst (aCons (dC (.int 1)) aNil))) (aCons (dBi bRepr (aCons (dOwn 6) aNil)) aNil))))) (tVal (d2 gNe (dCall m__law_told (aCons (dC (.int 2)) (aCons (dVar 1) (aCons (dVar 2) (aCons (dC (.int 0)) (aCons (d1 gNeg (dC (.int 1))) aNil)))))) (dTup (aCons (dN2 (nLst (aCons (dC (.int 2)) aNil))) (aCons (dC (.str "-1")) aNil)))))) (gRet (dC (.bool false))) gNext)
  (gSeq (gIfS (tAnd' (tVal (d2 gGt (dOwn 3) (dC (.int 0)))) (tOr' (tVal (d2 gNe (dCall m__law_told (aCons (dC (.int 2)) (aCons (dVar 1) (aCons (dVar 2) (aCons (dC (.int 0)) (aCons (d2 gAdd (dOwn 4) (dC (.int 1))) aNil)))))) (dTup (aCons (dN2 (nLst (aCons (dC (.int 2)) aNil))) (aCons (dBi bRepr (aCons (d2 gAdd (dOwn 4) (dC (.int 1))) aNil)) aNil))))) (tVal (d2 gNe (dCall m__law_told (aCons (dC (.int 1)) (aCons (dVar 1) (aCons (dVar 2) (aCons (dCall m__law_units (aCons (dVar 1) (aCons (d2 gAdd (dOwn 4) (dC (.int 1))) aNil))) (aCons (dC (.int 9)) aNil)))))) (dTup (aCons (dN2 (nLst (aCons (dC (.int 1)) aNil))) (aCons (dBi bRepr (aCons (dCall m__law_units (aCons (dVar 1) (aCons (d2 gAdd (dOwn 4) (dC (.int 1))) aNil))) aNil)) aNil))))))) (gRet (dC (.bool false))) gNext)
  (gRet (d2 gEq (dN2 (nLst (aCons (dCall m__law_told (aCons (dC (.int 4)) (aCons (dVar 1) (aCons (d1 gNeg (dC (.int 1))) (aCons (d1 gNeg (dC (.int 2))) (aCons (dC (.int 0)) aNil)))))) (aCons (dCall m__law_told (aCons (dC (.int 4)) (aCons (dVar 1) (aCons (dC (.int 0)) (aCons (d1 gNeg (dC (.int 2))) (aCons (dC (.int 0)) aNil)))))) (aCons (dCall m__law_told (aCons (dC (.int 5)) (aCons (dVar 1) (aCons (d1 gNeg (dC (.int 7))) (aCons (dC (.int 0)) (aCons (dC (.int 0)) aNil)))))) aNil))))) (dN2 (nLst (aCons (dTup (aCons (dN2 (nLst (aCons (dC (.int 2)) aNil))) (aCons (dC (.str "-1")) aNil))) (aCons (dTup (aCons (dN2 (nLst (aCons (dC (.int 2)) aNil))) (aCons (dC (.str "-2")) aNil))) (aCons (dTup (aCons (dN2 (nLst (aCons (dC (.int 2)) aNil))) (aCons (dC (.str "-7")) aNil))) aNil)))))))))))))))) (nl := 3) (κ := 2) X.F__law_refused sc__law_refused X.M__law_refused X.B__law_refused rfl fun cdv A outer s H E wl S0 B => jb_le
    (jb_cons (ss B.c 5 (j_ix (je_o (jn_e (jn_lst (ac je_non (ac (jn_e (jn_lst (ac (je_tup ja_nil) ja_nil))) (ac (je_tup (ac (je_tup (ac je_int (ac je_int ja_nil))) (ac (je_tup (ac je_int ja_nil)) ja_nil))) (ac (je_tup (ac je_int ja_nil)) (ac je_str (ac (je_tup (ac (je_tup (ac je_non ja_nil)) ja_nil)) ja_nil))))))))) (je_o (cl D__law_draw B.c (by decide) (ac (v 0) (ac je_int ja_nil))))))
    (jb_cons (js_if (t_eq B.c (o 1) (je_o je_int)) (jb_one (ss B.c 5 (j_ix (je_o (jn_e (jn_lst (ac (je_tup (ac (je_tup (ac je_int ja_nil)) ja_nil)) (ac (je_tup (ac (je_tup (ac (je_tup (ac je_int (ac je_int ja_nil))) ja_nil)) ja_nil)) (ac je_non ja_nil)))))) (je_o (cl D__law_draw B.c (by decide) (ac (v 0) (ac je_int ja_nil))))))) jb_nil)
    (jb_cons (js_if (t_ne B.c (je_o (jn_e (jn_lst (ac (cl D__law_told B.c (by decide) (ac je_int (ac (v 1) (ac (v 5) (ac je_non (ac je_int ja_nil)))))) (ac (cl D__law_told B.c (by decide) (ac je_int (ac (v 1) (ac (v 5) (ac je_non (ac (je_neg (je_o je_int)) ja_nil)))))) (ac (cl D__law_told B.c (by decide) (ac je_int (ac (v 1) (ac (v 5) (ac je_int (ac (je_neg (je_o je_int)) ja_nil)))))) ja_nil)))))) (je_o (je_mul (je_o (jn_e (jn_lst (ac (je_tup (ac (jn_e (jn_lst (ac je_int ja_nil))) (ac (j_repr B.c rfl X.m_repr (oc (o 5) jo_nil)) ja_nil))) ja_nil)))) (je_o je_int)))) (jb_one (js_ret je_bl)) jb_nil)
    (jb_cons (js_if (jw_pt (jw_or (t_ne B.c (je_o (jn_e (jn_lst (ac (cl D__law_told B.c (by decide) (ac je_int (ac (v 1) (ac (v 2) (ac (v 5) (ac je_int ja_nil)))))) (ac (cl D__law_told B.c (by decide) (ac je_int (ac (v 1) (ac (v 2) (ac (v 5) (ac (je_neg (je_o je_int)) ja_nil)))))) ja_nil))))) (je_o (je_mul (je_o (jn_e (jn_lst (ac (je_tup (ac (jn_e (jn_lst (ac je_int ja_nil))) (ac (j_repr B.c rfl X.m_repr (oc (o 5) jo_nil)) ja_nil))) ja_nil)))) (je_o je_int)))) (jw_or1 (t_ne B.c (je_o (cl D__law_told B.c (by decide) (ac je_int (ac (v 1) (ac (v 5) (ac je_non (ac je_int ja_nil))))))) (je_o (je_tup (ac (jn_e (jn_lst (ac je_int ja_nil))) (ac je_str ja_nil)))))))) (jb_one (js_ret je_bl)) jb_nil)
    (jb_cons (ss B.c 6 (je_add (je_o (j_tuple rfl X.m_tuple (oc (je_o (jn_e (lc [("row", 7)] 100000 B.c (ji_seq (v 2)) (fun s1 H1 q1 l1 p1 => (gn (Cok.blk B.c s1 H1 q1 l1 p1) 7)) (fun s1 H1 q1 l1 p1 => jts_nil) (fun s1 H1 q1 l1 p1 => (je_add (o 7) (je_o (je_tup (ac (cl D__law_num (Cok.blk B.c s1 H1 q1 l1 p1) (by decide) (ac (v 1) (ac je_int ja_nil))) ja_nil)))))))) jo_nil))) (je_o (je_if (t_eq B.c (o 3) (je_o je_int)) (je_tup (ac (je_mul (je_o (je_tup (ac (cl D__law_num B.c (by decide) (ac (v 1) (ac je_int ja_nil))) ja_nil))) (je_o (je_add (o 4) (je_o je_int)))) ja_nil)) (je_tup ja_nil)))))
    (jb_cons (js_if (jw_pt (jw_or (t_ne B.c (je_o (cl D__law_told B.c (by decide) (ac je_int (ac (v 1) (ac (v 2) (ac (v 6) (ac je_int ja_nil))))))) (je_o (je_tup (ac (jn_e (jn_lst (ac je_int ja_nil))) (ac (j_repr B.c rfl X.m_repr (oc (o 6) jo_nil)) ja_nil))))) (jw_or1 (t_ne B.c (je_o (cl D__law_told B.c (by decide) (ac je_int (ac (v 1) (ac (v 2) (ac je_int (ac (je_neg (je_o je_int)) ja_nil))))))) (je_o (je_tup (ac (jn_e (jn_lst (ac je_int ja_nil))) (ac je_str ja_nil)))))))) (jb_one (js_ret je_bl)) jb_nil)
    (jb_cons (js_if (jw_pt (jw_and (t_gt (o 3) (je_o je_int)) (jw_and1 (jw_pt (jw_or (t_ne B.c (je_o (cl D__law_told B.c (by decide) (ac je_int (ac (v 1) (ac (v 2) (ac je_int (ac (je_add (o 4) (je_o je_int)) ja_nil))))))) (je_o (je_tup (ac (jn_e (jn_lst (ac je_int ja_nil))) (ac (j_repr B.c rfl X.m_repr (oc (je_o (je_add (o 4) (je_o je_int))) jo_nil)) ja_nil))))) (jw_or1 (t_ne B.c (je_o (cl D__law_told B.c (by decide) (ac je_int (ac (v 1) (ac (v 2) (ac (cl D__law_units B.c (by decide) (ac (v 1) (ac (je_add (o 4) (je_o je_int)) ja_nil))) (ac je_int ja_nil))))))) (je_o (je_tup (ac (jn_e (jn_lst (ac je_int ja_nil))) (ac (j_repr B.c rfl X.m_repr (oc (je_o (cl D__law_units B.c (by decide) (ac (v 1) (ac (je_add (o 4) (je_o je_int)) ja_nil)))) jo_nil)) ja_nil))))))))))) (jb_one (js_ret je_bl)) jb_nil)
    (jb_one (js_ret (je_eq B.c (je_o (jn_e (jn_lst (ac (cl D__law_told B.c (by decide) (ac je_int (ac (v 1) (ac (je_neg (je_o je_int)) (ac (je_neg (je_o je_int)) (ac je_int ja_nil)))))) (ac (cl D__law_told B.c (by decide) (ac je_int (ac (v 1) (ac je_int (ac (je_neg (je_o je_int)) (ac je_int ja_nil)))))) (ac (cl D__law_told B.c (by decide) (ac je_int (ac (v 1) (ac (je_neg (je_o je_int)) (ac je_int (ac je_int ja_nil)))))) ja_nil)))))) (je_o (jn_e (jn_lst (ac (je_tup (ac (jn_e (jn_lst (ac je_int ja_nil))) (ac je_str ja_nil))) (ac (je_tup (ac (jn_e (jn_lst (ac je_int ja_nil))) (ac je_str ja_nil))) (ac (je_tup (ac (jn_e (jn_lst (ac je_int ja_nil))) (ac je_str ja_nil))) ja_nil)))))))))))))))) (by decide)
theorem d__law_right
    (D__law_drawn : DefG P w K mg base "_law_drawn" ["well", "p"] 2 X.a__law_drawn X.fd__law_drawn (spD K X.CT 3 m__law_drawn))
    (D__law_refused : DefG P w K mg base "_law_refused" ["well", "p", "one", "m", "k"] 16 X.a__law_refused X.fd__law_refused (spD K X.CT 2 m__law_refused))
    (D__law_draw : DefG P w K mg base "_law_draw" ["well", "many"] 1 X.a__law_draw X.fd__law_draw (spD K X.CT 1 m__law_draw))
    (D__law_table : DefG P w K mg base "_law_table" ["well", "p", "rows", "columns"] 3 X.a__law_table X.fd__law_table (spD K X.CT 12288 m__law_table))
    (D__law_product : DefG P w K mg base "_law_product" ["p", "one", "other", "columns"] 4 X.a__law_product X.fd__law_product (spD K X.CT 0 m__law_product))
    (D_product : DefG P w K mg base "product" ["prime", "one", "other", "columns"] 14 X.a_product X.fd_product (spD K X.CT 0 m_product))
    (D_table_sum : DefG P w K mg base "table_sum" ["prime", "one", "other"] 13 X.a_table_sum X.fd_table_sum (spD K X.CT 0 m_table_sum))
    (D_scaled : DefG P w K mg base "scaled" ["prime", "scalar", "table"] 13 X.a_scaled X.fd_scaled (spD K X.CT 0 m_scaled))
    (D_transposed : DefG P w K mg base "transposed" ["prime", "table", "columns"] 14 X.a_transposed X.fd_transposed (spD K X.CT 0 m_transposed))
    (D__law_turned : DefG P w K mg base "_law_turned" ["table", "columns"] 1 X.a__law_turned X.fd__law_turned (spD K X.CT 0 m__law_turned))
    (D__law_near : DefG P w K mg base "_law_near" ["well", "table"] 2 X.a__law_near X.fd__law_near (spD K X.CT 1 m__law_near))
    (D__law_is_table : DefG P w K mg base "_law_is_table" ["p", "rows", "columns", "value"] 1 X.a__law_is_table X.fd__law_is_table (spD K X.CT 0 m__law_is_table))
    (D_zeros : DefG P w K mg base "zeros" ["prime", "rows", "columns"] 12 X.a_zeros X.fd_zeros (spD K X.CT 0 m_zeros))
    (D_units : DefG P w K mg base "units" ["prime", "size"] 12 X.a_units X.fd_units (spD K X.CT 0 m_units))
    (D__law_units : DefG P w K mg base "_law_units" ["p", "size"] 2 X.a__law_units X.fd__law_units (spD K X.CT 0 m__law_units))
    (D__law_plus : DefG P w K mg base "_law_plus" ["p", "one", "other"] 2 X.a__law_plus X.fd__law_plus (spD K X.CT 0 m__law_plus))
    (D_is_table : DefG P w K mg base "is_table" ["prime", "rows", "columns", "value"] 12 X.a_is_table X.fd_is_table (spD K X.CT 0 m_is_table))
    (D__law_times : DefG P w K mg base "_law_times" ["p", "one", "other"] 2 X.a__law_times X.fd__law_times (spD K X.CT 0 m__law_times))
    (D__law_num : DefG P w K mg base "_law_num" ["p", "k"] 1 X.a__law_num X.fd__law_num (spD K X.CT 0 m__law_num)) :
    DefG P w K mg base "_law_right" ["well"] 17 X.a__law_right X.fd__law_right (spD K X.CT 49286 m__law_right) := by
  rw [q__law_right]
  exact defG_of (CT := X.CT) (g := ((gSeq (gSet 1 (d2 gIx (dN2 (nLst (aCons (dC (.int 0)) (aCons (dC (.int 2)) (aCons (dC (.int 3)) (aCons (dC (.int 5)) (aCons (dC (.int 13)) aNil))))))) (dCall m__law_draw (aCons (dVar 0) (aCons (dC (.int 5)) aNil)))))
  (gSeq (gAsg (dN2 (nLc 64 (iRg rg1 (aCons (dC (.int 4)) aNil)) (gNm 13) tTrue (dCall m__law_draw (aCons (dVar 0) (aCons (dC (.int 5)) aNil))) [13])) (gTpL (gsCons (gNm 2) (gsCons (gNm 3) (gsCons (gNm 4) (gsCons (gNm 5) gsNil))))))
  (gSeq (gAsg (dTup (aCons (dCall m__law_table (aCons (dVar 0) (aCons (dVar 1) (aCons (dVar 2) (aCons (dVar 3) aNil))))) (aCons (dCall m__law_table (aCons (dVar 0) (aCons (dVar 1) (aCons (dVar 2) (aCons (dVar 3) aNil))))) (aCons (dCall m__law_table (aCons (dVar 0) (aCons (dVar 1) (aCons (dVar 3) (aCons (dVar 4) aNil))))) (aCons (dCall m__law_table (aCons (dVar 0) (aCons (dVar 1) (aCons (dVar 4) (aCons (dVar 5) aNil))))) aNil))))) (gTp (gsCons (gNm 6) (gsCons (gNm 7) (gsCons (gNm 8) (gsCons (gNm 9) gsNil))))))
  (gSeq (gSet 10 (dCall m__law_drawn (aCons (dVar 0) (aCons (dVar 1) aNil))))
  (gSeq (gSet 11 (dN2 (nLst (aCons (dCall m__law_product (aCons (dVar 1) (aCons (dVar 6) (aCons (dVar 8) (aCons (dVar 4) aNil))))) (aCons (dBi bTuple (aCons (dN2 (nLc 100000 (iZp (aCons (dVar 6) (aCons (dVar 7) aNil))) (gTp (gsCons (gNm 17) (gsCons (gNm 18) gsNil))) tTrue (dBi bTuple (aCons (dN2 (nLc 100000 (iZp (aCons (dVar 17) (aCons (dVar 18) aNil))) (gTp (gsCons (gNm 15) (gsCons (gNm 16) gsNil))) tTrue (dCall m__law_plus (aCons (dVar 1) (aCons (dVar 15) (aCons (dVar 16) aNil)))) [15, 16])) aNil)) [17, 18])) aNil)) aNil)))))
  (gSeq (gSet 11 (d2 gAdd (dOwn 11) (dN2 (nLst (aCons (dBi bTuple (aCons (dN2 (nLc 100000 (iSeq (dVar 6)) (gNm 17) tTrue (dBi bTuple (aCons (dN2 (nLc 100000 (iSeq (dVar 17)) (gNm 19) tTrue (dCall m__law_times (aCons (dVar 1) (aCons (dVar 10) (aCons (dVar 19) aNil)))) [19])) aNil)) [17])) aNil)) (aCons (dCall m__law_turned (aCons (dVar 6) (aCons (dVar 3) aNil))) aNil))))))
  (gSeq (gSet 12 (dN2 (nLst (aCons (dCall m_product (aCons (dVar 1) (aCons (dVar 6) (aCons (dVar 8) (aCons (dVar 4) aNil))))) (aCons (dCall m_table_sum (aCons (dVar 1) (aCons (dVar 6) (aCons (dVar 7) aNil)))) (aCons (dCall m_scaled (aCons (dVar 1) (aCons (dVar 10) (aCons (dVar 6) aNil)))) (aCons (dCall m_transposed (aCons (dVar 1) (aCons (dVar 6) (aCons (dVar 3) aNil)))) aNil)))))))
  (gSeq (gIfS (tVal (d2 gNe (dBi bRepr (aCons (dOwn 12) aNil)) (dBi bRepr (aCons (dOwn 11) aNil)))) (gRet (dC (.bool false))) gNext)
  (gSeq (gSet 12 (dN2 (nLst (aCons (dCallK m_product px_3210 aNil (aCons (dVar 4) (aCons (dVar 8) (aCons (dVar 6) (aCons (dVar 1) aNil))))) (aCons (dCallK m_table_sum px_120 aNil (aCons (dVar 7) (aCons (dVar 1) (aCons (dVar 6) aNil)))) (aCons (dCallK m_scaled px_210 aNil (aCons (dVar 6) (aCons (dVar 10) (aCons (dVar 1) aNil)))) aNil))))))
  (gSeq (gIfS (tVal (d2 gNe (dBi bRepr (aCons (d2 gAdd (dOwn 12) (dN2 (nLst (aCons (dCallK m_transposed px_120 aNil (aCons (dVar 3) (aCons (dVar 1) (aCons (dVar 6) aNil)))) aNil)))) aNil)) (dBi bRepr (aCons (dOwn 11) aNil)))) (gRet (dC (.bool false))) gNext)
  (gSeq (gIfS (tVal (d2 gNe (dCall m_product (aCons (dVar 1) (aCons (d2 gIx (dOwn 11) (dC (.int 0))) (aCons (dVar 9) (aCons (dVar 5) aNil))))) (dCall m_product (aCons (dVar 1) (aCons (dVar 6) (aCons (dCall m_product (aCons (dVar 1) (aCons (dVar 8) (aCons (dVar 9) (aCons (dVar 5) aNil))))) (aCons (dVar 5) aNil))))))) (gRet (dC (.bool false))) gNext)
  (gSeq (gIfS (tVal (d2 gNe (dCall m_product (aCons (dVar 1) (aCons (dCall m_transposed (aCons (dVar 1) (aCons (dVar 8) (aCons (dVar 4) aNil)))) (aCons (dCall m_transposed (aCons (dVar 1) (aCons (dVar 6) (aCons (dVar 3) aNil)))) (aCons (dVar 2) aNil))))) (dCall m_transposed (aCons (dVar 1) (aCons (d2 gIx (dOwn 11) (dC (.int 0))) (aCons (dVar 4) aNil)))))) (gRet (dC (.bool false))) gNext)
  (gSeq (gIfS (tVal (d2 gNe (dBi bRepr (aCons (dN2 (nLst (aCons (dCall m_zeros (aCons (dVar 1) (aCons (dVar 2) (aCons (dVar 3) aNil)))) (aCons (dCall m_units (aCons (dVar 1) (aCons (dVar 3) aNil))) aNil)))) aNil)) (dBi bRepr (aCons (dN2 (nLst (aCons (d2 gMul (dTup (aCons (d2 gMul (dTup (aCons (dCall m__law_num (aCons (dVar 1) (aCons (dC (.int 0)) aNil))) aNil)) (dOwn 3)) aNil)) (dOwn 2)) (aCons (dCall m__law_units (aCons (dVar 1) (aCons (dVar 3) aNil))) aNil)))) aNil)))) (gRet (dC (.bool false))) gNext)
  (gSeq (gIfS (tOr' (tVal (d2 gNe (dBi bRepr (aCons (dN2 (nLst (aCons (dCallK m_zeros px_120 aNil (aCons (dVar 3) (aCons (dVar 1) (aCons (dVar 2) aNil)))) (aCons (dCallK m_units px_10 aNil (aCons (dVar 3) (aCons (dVar 1) aNil))) aNil)))) aNil)) (dBi bRepr (aCons (dN2 (nLst (aCons (dCall m_zeros (aCons (dVar 1) (aCons (dVar 2) (aCons (dVar 3) aNil)))) (aCons (dCall m_units (aCons (dVar 1) (aCons (dVar 3) aNil))) aNil)))) aNil)))) (tVal (d2 gNe (dCall m_product (aCons (dVar 1) (aCons (dVar 6) (aCons (dCall m_units (aCons (dVar 1) (aCons (dVar 3) aNil))) (aCons (dVar 3) aNil))))) (dOwn 6)))) (gRet (dC (.bool false))) gNext)
  (gSeq (gIfS (tVal (d2 gGt (dOwn 1) (dC (.int 0)))) (gFor 64 (iRg rg1 (aCons (dC (.int 4)) aNil)) (gNm 13) g__law_right_b0) gNext)
  (gRet (dCall m__law_refused (aCons (dVar 0) (aCons (dVar 1) (aCons (dVar 6) (aCons (dVar 2) (aCons (dVar 3) aNil)))))))))))))))))))))))) (nl := 19) (κ := 49286) X.F__law_right sc__law_right X.M__law_right X.B__law_right rfl fun cdv A outer s H E wl S0 B => jb_le
    (jb_cons (ss B.c 1 (j_ix (je_o (jn_e (jn_lst (ac je_int (ac je_int (ac je_int (ac je_int (ac je_int ja_nil)))))))) (je_o (cl D__law_draw B.c (by decide) (ac (v 0) (ac je_int ja_nil))))))
    (jb_cons (sa (jn_e (lc [("turn", 13)] 64 B.c (r1 X.m_range (oc (je_o je_int) jo_nil)) (fun s1 H1 q1 l1 p1 => (gn (Cok.blk B.c s1 H1 q1 l1 p1) 13)) (fun s1 H1 q1 l1 p1 => jts_nil) (fun s1 H1 q1 l1 p1 => (cl D__law_draw (Cok.blk B.c s1 H1 q1 l1 p1) (by decide) (ac (v 0) (ac je_int ja_nil)))))) (gtl B.c 4 (gc (gn B.c 2) (gc (gn B.c 3) (gc (gn B.c 4) (gc (gn B.c 5) jgs_nil)))) (gs_len1 gm_name (gs_len1 gm_name (gs_len1 gm_name (gs_len1 gm_name gs_len0))))))
    (jb_cons (sa (je_tup (ac (cl D__law_table B.c (by decide) (ac (v 0) (ac (v 1) (ac (v 2) (ac (v 3) ja_nil))))) (ac (cl D__law_table B.c (by decide) (ac (v 0) (ac (v 1) (ac (v 2) (ac (v 3) ja_nil))))) (ac (cl D__law_table B.c (by decide) (ac (v 0) (ac (v 1) (ac (v 3) (ac (v 4) ja_nil))))) (ac (cl D__law_table B.c (by decide) (ac (v 0) (ac (v 1) (ac (v 4) (ac (v 5) ja_nil))))) ja_nil))))) (gt B.c 4 (gc (gn B.c 6) (gc (gn B.c 7) (gc (gn B.c 8) (gc (gn B.c 9) jgs_nil)))) (gs_len1 gm_name (gs_len1 gm_name (gs_len1 gm_name (gs_len1 gm_name gs_len0))))))
    (jb_cons (ss B.c 10 (cl D__law_drawn B.c (by decide) (ac (v 0) (ac (v 1) ja_nil))))
    (jb_cons (ss B.c 11 (jn_e (jn_lst (ac (cl D__law_product B.c (by decide) (ac (v 1) (ac (v 6) (ac (v 8) (ac (v 4) ja_nil))))) (ac (j_tuple rfl X.m_tuple (oc (je_o (jn_e (lc [("row", 17), ("own", 18)] 100000 B.c (ji_zip (by rfl) X.m_zip (ac (v 6) (ac (v 7) ja_nil))) (fun s1 H1 q1 l1 p1 => (gt (Cok.blk B.c s1 H1 q1 l1 p1) 2 (gc (gn (Cok.blk B.c s1 H1 q1 l1 p1) 17) (gc (gn (Cok.blk B.c s1 H1 q1 l1 p1) 18) jgs_nil)) (gs_len1 gm_name (gs_len1 gm_name gs_len0)))) (fun s1 H1 q1 l1 p1 => jts_nil) (fun s1 H1 q1 l1 p1 => (j_tuple rfl X.m_tuple (oc (je_o (jn_e (lc [("a", 15), ("b", 16)] 100000 (Cok.blk B.c s1 H1 q1 l1 p1) (ji_zip (by rfl) X.m_zip (ac (v 17) (ac (v 18) ja_nil))) (fun s2 H2 q2 l2 p2 => (gt (Cok.blk (Cok.blk B.c s1 H1 q1 l1 p1) s2 H2 q2 l2 p2) 2 (gc (gn (Cok.blk (Cok.blk B.c s1 H1 q1 l1 p1) s2 H2 q2 l2 p2) 15) (gc (gn (Cok.blk (Cok.blk B.c s1 H1 q1 l1 p1) s2 H2 q2 l2 p2) 16) jgs_nil)) (gs_len1 gm_name (gs_len1 gm_name gs_len0)))) (fun s2 H2 q2 l2 p2 => jts_nil) (fun s2 H2 q2 l2 p2 => (cl D__law_plus (Cok.blk (Cok.blk B.c s1 H1 q1 l1 p1) s2 H2 q2 l2 p2) (by decide) (ac (v 1) (ac (v 15) (ac (v 16) ja_nil)))))))) jo_nil)))))) jo_nil)) ja_nil)))))
    (jb_cons (ss B.c 11 (je_add (o 11) (je_o (jn_e (jn_lst (ac (j_tuple rfl X.m_tuple (oc (je_o (jn_e (lc [("row", 17)] 100000 B.c (ji_seq (v 6)) (fun s1 H1 q1 l1 p1 => (gn (Cok.blk B.c s1 H1 q1 l1 p1) 17)) (fun s1 H1 q1 l1 p1 => jts_nil) (fun s1 H1 q1 l1 p1 => (j_tuple rfl X.m_tuple (oc (je_o (jn_e (lc [("item", 19)] 100000 (Cok.blk B.c s1 H1 q1 l1 p1) (ji_seq (v 17)) (fun s2 H2 q2 l2 p2 => (gn (Cok.blk (Cok.blk B.c s1 H1 q1 l1 p1) s2 H2 q2 l2 p2) 19)) (fun s2 H2 q2 l2 p2 => jts_nil) (fun s2 H2 q2 l2 p2 => (cl D__law_times (Cok.blk (Cok.blk B.c s1 H1 q1 l1 p1) s2 H2 q2 l2 p2) (by decide) (ac (v 1) (ac (v 10) (ac (v 19) ja_nil)))))))) jo_nil)))))) jo_nil)) (ac (cl D__law_turned B.c (by decide) (ac (v 6) (ac (v 3) ja_nil))) ja_nil)))))))
    (jb_cons (ss B.c 12 (jn_e (jn_lst (ac (cl D_product B.c (by decide) (ac (v 1) (ac (v 6) (ac (v 8) (ac (v 4) ja_nil))))) (ac (cl D_table_sum B.c (by decide) (ac (v 1) (ac (v 6) (ac (v 7) ja_nil)))) (ac (cl D_scaled B.c (by decide) (ac (v 1) (ac (v 10) (ac (v 6) ja_nil)))) (ac (cl D_transposed B.c (by decide) (ac (v 1) (ac (v 6) (ac (v 3) ja_nil)))) ja_nil)))))))
    (jb_cons (js_if (t_ne B.c (je_o (j_repr B.c rfl X.m_repr (oc (o 12) jo_nil))) (je_o (j_repr B.c rfl X.m_repr (oc (o 11) jo_nil)))) (jb_one (js_ret je_bl)) jb_nil)
    (jb_cons (ss B.c 12 (jn_e (jn_lst (ac (clk D_product B.c (by decide) X.K_product_3210 (pd_3210) (jk_cons (v 4) (jk_cons (v 8) (jk_cons (v 6) (jk_cons (v 1) jk_nil))))) (ac (clk D_table_sum B.c (by decide) X.K_table_sum_120 (pd_120) (jk_cons (v 7) (jk_cons (v 1) (jk_cons (v 6) jk_nil)))) (ac (clk D_scaled B.c (by decide) X.K_scaled_210 (pd_210) (jk_cons (v 6) (jk_cons (v 10) (jk_cons (v 1) jk_nil)))) ja_nil))))))
    (jb_cons (js_if (t_ne B.c (je_o (j_repr B.c rfl X.m_repr (oc (je_o (je_add (o 12) (je_o (jn_e (jn_lst (ac (clk D_transposed B.c (by decide) X.K_transposed_120 (pd_120) (jk_cons (v 3) (jk_cons (v 1) (jk_cons (v 6) jk_nil)))) ja_nil)))))) jo_nil))) (je_o (j_repr B.c rfl X.m_repr (oc (o 11) jo_nil)))) (jb_one (js_ret je_bl)) jb_nil)
    (jb_cons (js_if (t_ne B.c (je_o (cl D_product B.c (by decide) (ac (v 1) (ac (j_ix (o 11) (je_o je_int)) (ac (v 9) (ac (v 5) ja_nil)))))) (je_o (cl D_product B.c (by decide) (ac (v 1) (ac (v 6) (ac (cl D_product B.c (by decide) (ac (v 1) (ac (v 8) (ac (v 9) (ac (v 5) ja_nil))))) (ac (v 5) ja_nil))))))) (jb_one (js_ret je_bl)) jb_nil)
    (jb_cons (js_if (t_ne B.c (je_o (cl D_product B.c (by decide) (ac (v 1) (ac (cl D_transposed B.c (by decide) (ac (v 1) (ac (v 8) (ac (v 4) ja_nil)))) (ac (cl D_transposed B.c (by decide) (ac (v 1) (ac (v 6) (ac (v 3) ja_nil)))) (ac (v 2) ja_nil)))))) (je_o (cl D_transposed B.c (by decide) (ac (v 1) (ac (j_ix (o 11) (je_o je_int)) (ac (v 4) ja_nil)))))) (jb_one (js_ret je_bl)) jb_nil)
    (jb_cons (js_if (t_ne B.c (je_o (j_repr B.c rfl X.m_repr (oc (je_o (jn_e (jn_lst (ac (cl D_zeros B.c (by decide) (ac (v 1) (ac (v 2) (ac (v 3) ja_nil)))) (ac (cl D_units B.c (by decide) (ac (v 1) (ac (v 3) ja_nil))) ja_nil))))) jo_nil))) (je_o (j_repr B.c rfl X.m_repr (oc (je_o (jn_e (jn_lst (ac (je_mul (je_o (je_tup (ac (je_mul (je_o (je_tup (ac (cl D__law_num B.c (by decide) (ac (v 1) (ac je_int ja_nil))) ja_nil))) (o 3)) ja_nil))) (o 2)) (ac (cl D__law_units B.c (by decide) (ac (v 1) (ac (v 3) ja_nil))) ja_nil))))) jo_nil)))) (jb_one (js_ret je_bl)) jb_nil)
    (jb_cons (js_if (jw_pt (jw_or (t_ne B.c (je_o (j_repr B.c rfl X.m_repr (oc (je_o (jn_e (jn_lst (ac (clk D_zeros B.c (by decide) X.K_zeros_120 (pd_120) (jk_cons (v 3) (jk_cons (v 1) (jk_cons (v 2) jk_nil)))) (ac (clk D_units B.c (by decide) X.K_units_10 (pd_10) (jk_cons (v 3) (jk_cons (v 1) jk_nil))) ja_nil))))) jo_nil))) (je_o (j_repr B.c rfl X.m_repr (oc (je_o (jn_e (jn_lst (ac (cl D_zeros B.c (by decide) (ac (v 1) (ac (v 2) (ac (v 3) ja_nil)))) (ac (cl D_units B.c (by decide) (ac (v 1) (ac (v 3) ja_nil))) ja_nil))))) jo_nil)))) (jw_or1 (t_ne B.c (je_o (cl D_product B.c (by decide) (ac (v 1) (ac (v 6) (ac (cl D_units B.c (by decide) (ac (v 1) (ac (v 3) ja_nil))) (ac (v 3) ja_nil)))))) (o 6))))) (jb_one (js_ret je_bl)) jb_nil)
    (jb_cons (js_if (t_gt (o 1) (je_o je_int)) (jb_one (sf 64 B (r1 X.m_range (oc (je_o je_int) jo_nil)) (gn B.c 13) (jb_cons (ss B.c 14 (cl D__law_near B.c (by decide) (ac (v 0) (ac (v 6) ja_nil))))
    (jb_cons (ss B.c 11 (cl D__law_is_table B.c (by decide) (ac (v 1) (ac (v 2) (ac (v 3) (ac (v 14) ja_nil))))))
    (jb_one (js_if (t_ne B.c (je_o (j_repr B.c rfl X.m_repr (oc (je_o (jn_e (jn_lst (ac (cl D_is_table B.c (by decide) (ac (v 1) (ac (v 2) (ac (v 3) (ac (v 14) ja_nil))))) (ac (clk D_is_table B.c (by decide) X.K_is_table_3210 (pd_3210) (jk_cons (v 14) (jk_cons (v 3) (jk_cons (v 2) (jk_cons (v 1) jk_nil))))) ja_nil))))) jo_nil))) (je_o (j_repr B.c rfl X.m_repr (oc (je_o (jn_e (jn_lst (ac (v 11) (ac (v 11) ja_nil))))) jo_nil)))) (jb_one (js_ret je_bl)) jb_nil)))))) jb_nil)
    (jb_one (js_ret (cl D__law_refused B.c (by decide) (ac (v 0) (ac (v 1) (ac (v 6) (ac (v 2) (ac (v 3) ja_nil))))))))))))))))))))))) (by decide)
theorem d_law
    (D__law_well : DefW P w K mg base "_law_well" ["script", "k"] 1 X.a__law_well X.fd__law_well)
    (D__law_right : DefG P w K mg base "_law_right" ["well"] 17 X.a__law_right X.fd__law_right (spD K X.CT 49286 m__law_right))
    (HR : RightFn m__law_right) :
    DefG P w K mg base "law" ["script"] 18 X.a_law X.fd_law (spD K X.CT 0 m_law) := by
  rw [q_law]
  exact defG_of (CT := X.CT) (g := g_law) (nl := 3) (κ := 0) X.F_law sc_law X.M_law X.B_law rfl fun cdv A outer s H E wl S0 B => jb_le
    (jb_cons (sf 100000 B (r1 X.m_range (oc (je_o (j_max B.c rfl X.m_max (oc (je_o je_int) (oc (je_o (j_min B.c rfl X.m_min (oc (je_o je_int) (oc (je_o (j_len rfl X.m_len (oc (o 0) jo_nil))) jo_nil)))) jo_nil)))) jo_nil)) (gn B.c 1) (jb_cons (sn B.c 2 (jn_callW D__law_well B.c (by decide) (ac (v 0) (ac (v 1) ja_nil))))
    (jb_one (sf 100000 B (r1 X.m_range (oc (je_o je_int) jo_nil)) (gn B.c 3) (jb_one (js_right 2 D__law_right B.c (by decide) HR))))))
    (jb_one (js_ret je_bl))) (by decide)
end
end Law
namespace Law
open PySem PySem.Spec PyProof.Rows L2 Wb

theorem all_anew {P : Program} {w : World} {K : Frag} {mg : Str → Option Value} {base : Heap} (X : Fx P K mg) : ∀ j, DefG P w K mg base "anew" ["value"] j X.a_anew X.fd_anew (spD K X.CT 0 (anewG j))
  | 0 => ⟨⟨fun vs H Q E ⟨_, _, _, _, _, _, _, _, h, _⟩ => h.elim, fun A outer s H args us vs Q E _ _ _ _ _ ⟨_, _, _, _, _, _, _, _, h, _⟩ => h.elim⟩, X.M_anew, X.F_anew.kp, X.B_anew⟩
  | j + 1 => (st_anew X (all_anew X j)).imp (spD_imp (ev_anew j))
theorem all_mk {P : Program} {w : World} {K : Frag} {h : Heap} {mg : Str → Option Value} (kin : K.In h) (G : h.Ns mainGlobals mg) {fa : Addr} (hfa : mg "law" = some (.ref fa))
    {f9 : Addr} {oc9 kV9 dc9 pm9 cd9 ct9 : Value} {od9 an9 : Option Addr} {sl9 : Array (Option Value)}
    {f10 : Addr} {oc10 kV10 dc10 pm10 cd10 ct10 : Value} {od10 an10 : Option Addr} {sl10 : Array (Option Value)}
    {f11 : Addr} {oc11 kV11 dc11 pm11 cd11 ct11 : Value} {od11 an11 : Option Addr} {sl11 : Array (Option Value)}
    {f12 : Addr} {oc12 kV12 dc12 pm12 cd12 ct12 : Value} {od12 an12 : Option Addr} {sl12 : Array (Option Value)}
    {f15 : Addr} {oc15 kV15 dc15 pm15 cd15 ct15 : Value} {od15 an15 : Option Addr} {sl15 : Array (Option Value)}
    {f16 : Addr} {oc16 kV16 dc16 pm16 cd16 ct16 : Value} {od16 an16 : Option Addr} {sl16 : Array (Option Value)}
    {f17 : Addr} {oc17 kV17 dc17 pm17 cd17 ct17 : Value} {od17 an17 : Option Addr} {sl17 : Array (Option Value)}
    {f18 : Addr} {oc18 kV18 dc18 pm18 cd18 ct18 : Value} {od18 an18 : Option Addr} {sl18 : Array (Option Value)}
    {f19 : Addr} {oc19 kV19 dc19 pm19 cd19 ct19 : Value} {od19 an19 : Option Addr} {sl19 : Array (Option Value)}
    {f20 : Addr} {oc20 kV20 dc20 pm20 cd20 ct20 : Value} {od20 an20 : Option Addr} {sl20 : Array (Option Value)}
    {f21 : Addr} {oc21 kV21 dc21 pm21 cd21 ct21 : Value} {od21 an21 : Option Addr} {sl21 : Array (Option Value)}
    {f22 : Addr} {oc22 kV22 dc22 pm22 cd22 ct22 : Value} {od22 an22 : Option Addr} {sl22 : Array (Option Value)}
    {f24 : Addr} {oc24 kV24 dc24 pm24 cd24 ct24 : Value} {od24 an24 : Option Addr} {sl24 : Array (Option Value)}
    {f25 : Addr} {oc25 kV25 dc25 pm25 cd25 ct25 : Value} {od25 an25 : Option Addr} {sl25 : Array (Option Value)}
    {f27 : Addr} {oc27 kV27 dc27 pm27 cd27 ct27 : Value} {od27 an27 : Option Addr} {sl27 : Array (Option Value)}
    {f28 : Addr} {oc28 kV28 dc28 pm28 cd28 ct28 : Value} {od28 an28 : Option Addr} {sl28 : Array (Option Value)}
    {f29 : Addr} {oc29 kV29 dc29 pm29 cd29 ct29 : Value} {od29 an29 : Option Addr} {sl29 : Array (Option Value)}
    {f30 : Addr} {oc30 kV30 dc30 pm30 cd30 ct30 : Value} {od30 an30 : Option Addr} {sl30 : Array (Option Value)}
    {f31 : Addr} {oc31 kV31 dc31 pm31 cd31 ct31 : Value} {od31 an31 : Option Addr} {sl31 : Array (Option Value)}
    {f32 : Addr} {oc32 kV32 dc32 pm32 cd32 ct32 : Value} {od32 an32 : Option Addr} {sl32 : Array (Option Value)}
    {f33 : Addr} {oc33 kV33 dc33 pm33 cd33 ct33 : Value} {od33 an33 : Option Addr} {sl33 : Array (Option Value)}
    {f34 : Addr} {oc34 kV34 dc34 pm34 cd34 ct34 : Value} {od34 an34 : Option Addr} {sl34 : Array (Option Value)}
    {f35 : Addr} {oc35 kV35 dc35 pm35 cd35 ct35 : Value} {od35 an35 : Option Addr} {sl35 : Array (Option Value)}
    {f37 : Addr} {oc37 kV37 dc37 pm37 cd37 ct37 : Value} {od37 an37 : Option Addr} {sl37 : Array (Option Value)}
    {f38 : Addr} {oc38 kV38 dc38 pm38 cd38 ct38 : Value} {od38 an38 : Option Addr} {sl38 : Array (Option Value)}
    {f39 : Addr} {oc39 kV39 dc39 pm39 cd39 ct39 : Value} {od39 an39 : Option Addr} {sl39 : Array (Option Value)}
    {f40 : Addr} {oc40 kV40 dc40 pm40 cd40 ct40 : Value} {od40 an40 : Option Addr} {sl40 : Array (Option Value)}
    {f41 : Addr} {oc41 kV41 dc41 pm41 cd41 ct41 : Value} {od41 an41 : Option Addr} {sl41 : Array (Option Value)}
    {f42 : Addr} {oc42 kV42 dc42 pm42 cd42 ct42 : Value} {od42 an42 : Option Addr} {sl42 : Array (Option Value)}
    {f43 : Addr} {oc43 kV43 dc43 pm43 cd43 ct43 : Value} {od43 an43 : Option Addr} {sl43 : Array (Option Value)}
    {f44 : Addr} {oc44 kV44 dc44 pm44 cd44 ct44 : Value} {od44 an44 : Option Addr} {sl44 : Array (Option Value)}
    {f45 : Addr} {oc45 kV45 dc45 pm45 cd45 ct45 : Value} {od45 an45 : Option Addr} {sl45 : Array (Option Value)}
    {f47 : Addr} {oc47 kV47 dc47 pm47 cd47 ct47 : Value} {od47 an47 : Option Addr} {sl47 : Array (Option Value)}
    {f48 : Addr} {oc48 kV48 dc48 pm48 cd48 ct48 : Value} {od48 an48 : Option Addr} {sl48 : Array (Option Value)}
    {f49 : Addr} {oc49 kV49 dc49 pm49 cd49 ct49 : Value} {od49 an49 : Option Addr} {sl49 : Array (Option Value)}
    {f50 : Addr} {oc50 kV50 dc50 pm50 cd50 ct50 : Value} {od50 an50 : Option Addr} {sl50 : Array (Option Value)}
    {f51 : Addr} {oc51 kV51 dc51 pm51 cd51 ct51 : Value} {od51 an51 : Option Addr} {sl51 : Array (Option Value)}
    {f52 : Addr} {oc52 kV52 dc52 pm52 cd52 ct52 : Value} {od52 an52 : Option Addr} {sl52 : Array (Option Value)}
    {f54 : Addr} {oc54 kV54 dc54 pm54 cd54 ct54 : Value} {od54 an54 : Option Addr} {sl54 : Array (Option Value)}
    {f55 : Addr} {oc55 kV55 dc55 pm55 cd55 ct55 : Value} {od55 an55 : Option Addr} {sl55 : Array (Option Value)}
    {f56 : Addr} {oc56 kV56 dc56 pm56 cd56 ct56 : Value} {od56 an56 : Option Addr} {sl56 : Array (Option Value)}
    {f57 : Addr} {oc57 kV57 dc57 pm57 cd57 ct57 : Value} {od57 an57 : Option Addr} {sl57 : Array (Option Value)}
    {f58 : Addr} {oc58 kV58 dc58 pm58 cd58 ct58 : Value} {od58 an58 : Option Addr} {sl58 : Array (Option Value)}
    {f59 : Addr} {oc59 kV59 dc59 pm59 cd59 ct59 : Value} {od59 an59 : Option Addr} {sl59 : Array (Option Value)}
    {f60 : Addr} {oc60 kV60 dc60 pm60 cd60 ct60 : Value} {od60 an60 : Option Addr} {sl60 : Array (Option Value)}
    {f61 : Addr} {oc61 kV61 dc61 pm61 cd61 ct61 : Value} {od61 an61 : Option Addr} {sl61 : Array (Option Value)}
    {f62 : Addr} {oc62 kV62 dc62 pm62 cd62 ct62 : Value} {od62 an62 : Option Addr} {sl62 : Array (Option Value)}
    {f63 : Addr} {oc63 kV63 dc63 pm63 cd63 ct63 : Value} {od63 an63 : Option Addr} {sl63 : Array (Option Value)}
    {f64 : Addr} {oc64 kV64 dc64 pm64 cd64 ct64 : Value} {od64 an64 : Option Addr} {sl64 : Array (Option Value)}
    {f65 : Addr} {oc65 kV65 dc65 pm65 cd65 ct65 : Value} {od65 an65 : Option Addr} {sl65 : Array (Option Value)}
    {gPRIMES : Addr} {dd_PRIMES : Option Addr} {its_PRIMES : Array Value} {nn_PRIMES : Nat} {sl_PRIMES : Array (Option Value)}
    {eD eI : Addr} {oce : Value} {ode : Option Addr} {doce pme : Value} {ane : Option Addr} {cte kVe : Value} {osle : Array (Option Value)} {cda cc : Addr} {ccl : Value} {cdd : Option Addr} {vse : Array Value} {ccs : Array (Option Value)} {file : Str} {tf : Tok} {cle : Value} {cld : Option Addr} {csl : Array (Option Value)}
    {C0 : Addr} {nm0 q0 : Str} {N0 : Addr} {bs0 : List Value} {sn0 : List Str} {sub0 : List Value} {ab0 : Bool} {col0 : Option Bool} {dd0 : Option Addr} {u00 u10 u20 u30 u50 : Option Value}
    {C1 : Addr} {nm1 q1 : Str} {N1 : Addr} {bs1 : List Value} {sn1 : List Str} {sub1 : List Value} {ab1 : Bool} {col1 : Option Bool} {dd1 : Option Addr} {u01 u11 u21 u31 u51 : Option Value}
    {C2 : Addr} {nm2 q2 : Str} {N2 : Addr} {bs2 : List Value} {sn2 : List Str} {sub2 : List Value} {ab2 : Bool} {col2 : Option Bool} {dd2 : Option Addr} {u02 u12 u22 u32 u52 : Option Value}
    {C3 : Addr} {nm3 q3 : Str} {N3 : Addr} {bs3 : List Value} {sn3 : List Str} {sub3 : List Value} {ab3 : Bool} {col3 : Option Bool} {dd3 : Option Addr} {u03 u13 u23 u33 u53 : Option Value}
    {C4 : Addr} {nm4 q4 : Str} {N4 : Addr} {bs4 : List Value} {sn4 : List Str} {sub4 : List Value} {ab4 : Bool} {col4 : Option Bool} {dd4 : Option Addr} {u04 u14 u24 u34 u54 : Option Value}
    (n9 : PySem.W.nsIn K mainGlobals "is_integer" = some (some (.ref f9)))
    (l9 : K.lookup f9 = some ⟨oc9, od9, .func (PySem.W.fnOf "is_integer" "is_integer" (defArgs s_is_integer) (defBody s_is_integer) (defScope s_is_integer) .none kV9 dc9 pm9 an9 cd9 ct9), sl9⟩)
    (c9 : PySem.W.codeIn K cd9 "is_integer" = true)
    (k9 : PySem.W.keepIn K (.ref f9) = true)
    (n10 : PySem.W.nsIn K mainGlobals "is_tuple" = some (some (.ref f10)))
    (l10 : K.lookup f10 = some ⟨oc10, od10, .func (PySem.W.fnOf "is_tuple" "is_tuple" (defArgs s_is_tuple) (defBody s_is_tuple) (defScope s_is_tuple) .none kV10 dc10 pm10 an10 cd10 ct10), sl10⟩)
    (c10 : PySem.W.codeIn K cd10 "is_tuple" = true)
    (k10 : PySem.W.keepIn K (.ref f10) = true)
    (n11 : PySem.W.nsIn K mainGlobals "need_number" = some (some (.ref f11)))
    (l11 : K.lookup f11 = some ⟨oc11, od11, .func (PySem.W.fnOf "need_number" "need_number" (defArgs s_need_number) (defBody s_need_number) (defScope s_need_number) .none kV11 dc11 pm11 an11 cd11 ct11), sl11⟩)
    (c11 : PySem.W.codeIn K cd11 "need_number" = true)
    (k11 : PySem.W.keepIn K (.ref f11) = true)
    (n12 : PySem.W.nsIn K mainGlobals "anew" = some (some (.ref f12)))
    (l12 : K.lookup f12 = some ⟨oc12, od12, .func (PySem.W.fnOf "anew" "anew" (defArgs s_anew) (defBody s_anew) (defScope s_anew) .none kV12 dc12 pm12 an12 cd12 ct12), sl12⟩)
    (c12 : PySem.W.codeIn K cd12 "anew" = true)
    (k12 : PySem.W.keepIn K (.ref f12) = true)
    (n15 : PySem.W.nsIn K mainGlobals "is_prime_in" = some (some (.ref f15)))
    (l15 : K.lookup f15 = some ⟨oc15, od15, .func (PySem.W.fnOf "is_prime_in" "is_prime_in" (defArgs s_is_prime_in) (defBody s_is_prime_in) (defScope s_is_prime_in) .none kV15 dc15 pm15 an15 cd15 ct15), sl15⟩)
    (c15 : PySem.W.codeIn K cd15 "is_prime_in" = true)
    (k15 : PySem.W.keepIn K (.ref f15) = true)
    (n16 : PySem.W.nsIn K mainGlobals "is_scalar_in" = some (some (.ref f16)))
    (l16 : K.lookup f16 = some ⟨oc16, od16, .func (PySem.W.fnOf "is_scalar_in" "is_scalar_in" (defArgs s_is_scalar_in) (defBody s_is_scalar_in) (defScope s_is_scalar_in) .none kV16 dc16 pm16 an16 cd16 ct16), sl16⟩)
    (c16 : PySem.W.codeIn K cd16 "is_scalar_in" = true)
    (k16 : PySem.W.keepIn K (.ref f16) = true)
    (n17 : PySem.W.nsIn K mainGlobals "fraction_in" = some (some (.ref f17)))
    (l17 : K.lookup f17 = some ⟨oc17, od17, .func (PySem.W.fnOf "fraction_in" "fraction_in" (defArgs s_fraction_in) (defBody s_fraction_in) (defScope s_fraction_in) .none kV17 dc17 pm17 an17 cd17 ct17), sl17⟩)
    (c17 : PySem.W.codeIn K cd17 "fraction_in" = true)
    (k17 : PySem.W.keepIn K (.ref f17) = true)
    (n18 : PySem.W.nsIn K mainGlobals "scalar_in" = some (some (.ref f18)))
    (l18 : K.lookup f18 = some ⟨oc18, od18, .func (PySem.W.fnOf "scalar_in" "scalar_in" (defArgs s_scalar_in) (defBody s_scalar_in) (defScope s_scalar_in) .none kV18 dc18 pm18 an18 cd18 ct18), sl18⟩)
    (c18 : PySem.W.codeIn K cd18 "scalar_in" = true)
    (k18 : PySem.W.keepIn K (.ref f18) = true)
    (n19 : PySem.W.nsIn K mainGlobals "plus_in" = some (some (.ref f19)))
    (l19 : K.lookup f19 = some ⟨oc19, od19, .func (PySem.W.fnOf "plus_in" "plus_in" (defArgs s_plus_in) (defBody s_plus_in) (defScope s_plus_in) .none kV19 dc19 pm19 an19 cd19 ct19), sl19⟩)
    (c19 : PySem.W.codeIn K cd19 "plus_in" = true)
    (k19 : PySem.W.keepIn K (.ref f19) = true)
    (n20 : PySem.W.nsIn K mainGlobals "times_in" = some (some (.ref f20)))
    (l20 : K.lookup f20 = some ⟨oc20, od20, .func (PySem.W.fnOf "times_in" "times_in" (defArgs s_times_in) (defBody s_times_in) (defScope s_times_in) .none kV20 dc20 pm20 an20 cd20 ct20), sl20⟩)
    (c20 : PySem.W.codeIn K cd20 "times_in" = true)
    (k20 : PySem.W.keepIn K (.ref f20) = true)
    (n21 : PySem.W.nsIn K mainGlobals "dot_in" = some (some (.ref f21)))
    (l21 : K.lookup f21 = some ⟨oc21, od21, .func (PySem.W.fnOf "dot_in" "dot_in" (defArgs s_dot_in) (defBody s_dot_in) (defScope s_dot_in) .none kV21 dc21 pm21 an21 cd21 ct21), sl21⟩)
    (c21 : PySem.W.codeIn K cd21 "dot_in" = true)
    (k21 : PySem.W.keepIn K (.ref f21) = true)
    (n22 : PySem.W.nsIn K mainGlobals "multiple_in" = some (some (.ref f22)))
    (l22 : K.lookup f22 = some ⟨oc22, od22, .func (PySem.W.fnOf "multiple_in" "multiple_in" (defArgs s_multiple_in) (defBody s_multiple_in) (defScope s_multiple_in) .none kV22 dc22 pm22 an22 cd22 ct22), sl22⟩)
    (c22 : PySem.W.codeIn K cd22 "multiple_in" = true)
    (k22 : PySem.W.keepIn K (.ref f22) = true)
    (n24 : PySem.W.nsIn K mainGlobals "need_prime" = some (some (.ref f24)))
    (l24 : K.lookup f24 = some ⟨oc24, od24, .func (PySem.W.fnOf "need_prime" "need_prime" (defArgs s_need_prime) (defBody s_need_prime) (defScope s_need_prime) .none kV24 dc24 pm24 an24 cd24 ct24), sl24⟩)
    (c24 : PySem.W.codeIn K cd24 "need_prime" = true)
    (k24 : PySem.W.keepIn K (.ref f24) = true)
    (n25 : PySem.W.nsIn K mainGlobals "need_scalar" = some (some (.ref f25)))
    (l25 : K.lookup f25 = some ⟨oc25, od25, .func (PySem.W.fnOf "need_scalar" "need_scalar" (defArgs s_need_scalar) (defBody s_need_scalar) (defScope s_need_scalar) .none kV25 dc25 pm25 an25 cd25 ct25), sl25⟩)
    (c25 : PySem.W.codeIn K cd25 "need_scalar" = true)
    (k25 : PySem.W.keepIn K (.ref f25) = true)
    (n27 : PySem.W.nsIn K mainGlobals "is_vector_in" = some (some (.ref f27)))
    (l27 : K.lookup f27 = some ⟨oc27, od27, .func (PySem.W.fnOf "is_vector_in" "is_vector_in" (defArgs s_is_vector_in) (defBody s_is_vector_in) (defScope s_is_vector_in) .none kV27 dc27 pm27 an27 cd27 ct27), sl27⟩)
    (c27 : PySem.W.codeIn K cd27 "is_vector_in" = true)
    (k27 : PySem.W.keepIn K (.ref f27) = true)
    (n28 : PySem.W.nsIn K mainGlobals "is_table_in" = some (some (.ref f28)))
    (l28 : K.lookup f28 = some ⟨oc28, od28, .func (PySem.W.fnOf "is_table_in" "is_table_in" (defArgs s_is_table_in) (defBody s_is_table_in) (defScope s_is_table_in) .none kV28 dc28 pm28 an28 cd28 ct28), sl28⟩)
    (c28 : PySem.W.codeIn K cd28 "is_table_in" = true)
    (k28 : PySem.W.keepIn K (.ref f28) = true)
    (n29 : PySem.W.nsIn K mainGlobals "is_some_table" = some (some (.ref f29)))
    (l29 : K.lookup f29 = some ⟨oc29, od29, .func (PySem.W.fnOf "is_some_table" "is_some_table" (defArgs s_is_some_table) (defBody s_is_some_table) (defScope s_is_some_table) .none kV29 dc29 pm29 an29 cd29 ct29), sl29⟩)
    (c29 : PySem.W.codeIn K cd29 "is_some_table" = true)
    (k29 : PySem.W.keepIn K (.ref f29) = true)
    (n30 : PySem.W.nsIn K mainGlobals "zeros_in" = some (some (.ref f30)))
    (l30 : K.lookup f30 = some ⟨oc30, od30, .func (PySem.W.fnOf "zeros_in" "zeros_in" (defArgs s_zeros_in) (defBody s_zeros_in) (defScope s_zeros_in) .none kV30 dc30 pm30 an30 cd30 ct30), sl30⟩)
    (c30 : PySem.W.codeIn K cd30 "zeros_in" = true)
    (k30 : PySem.W.keepIn K (.ref f30) = true)
    (n31 : PySem.W.nsIn K mainGlobals "units_in" = some (some (.ref f31)))
    (l31 : K.lookup f31 = some ⟨oc31, od31, .func (PySem.W.fnOf "units_in" "units_in" (defArgs s_units_in) (defBody s_units_in) (defScope s_units_in) .none kV31 dc31 pm31 an31 cd31 ct31), sl31⟩)
    (c31 : PySem.W.codeIn K cd31 "units_in" = true)
    (k31 : PySem.W.keepIn K (.ref f31) = true)
    (n32 : PySem.W.nsIn K mainGlobals "table_sum_in" = some (some (.ref f32)))
    (l32 : K.lookup f32 = some ⟨oc32, od32, .func (PySem.W.fnOf "table_sum_in" "table_sum_in" (defArgs s_table_sum_in) (defBody s_table_sum_in) (defScope s_table_sum_in) .none kV32 dc32 pm32 an32 cd32 ct32), sl32⟩)
    (c32 : PySem.W.codeIn K cd32 "table_sum_in" = true)
    (k32 : PySem.W.keepIn K (.ref f32) = true)
    (n33 : PySem.W.nsIn K mainGlobals "scaled_in" = some (some (.ref f33)))
    (l33 : K.lookup f33 = some ⟨oc33, od33, .func (PySem.W.fnOf "scaled_in" "scaled_in" (defArgs s_scaled_in) (defBody s_scaled_in) (defScope s_scaled_in) .none kV33 dc33 pm33 an33 cd33 ct33), sl33⟩)
    (c33 : PySem.W.codeIn K cd33 "scaled_in" = true)
    (k33 : PySem.W.keepIn K (.ref f33) = true)
    (n34 : PySem.W.nsIn K mainGlobals "transposed_in" = some (some (.ref f34)))
    (l34 : K.lookup f34 = some ⟨oc34, od34, .func (PySem.W.fnOf "transposed_in" "transposed_in" (defArgs s_transposed_in) (defBody s_transposed_in) (defScope s_transposed_in) .none kV34 dc34 pm34 an34 cd34 ct34), sl34⟩)
    (c34 : PySem.W.codeIn K cd34 "transposed_in" = true)
    (k34 : PySem.W.keepIn K (.ref f34) = true)
    (n35 : PySem.W.nsIn K mainGlobals "product_in" = some (some (.ref f35)))
    (l35 : K.lookup f35 = some ⟨oc35, od35, .func (PySem.W.fnOf "product_in" "product_in" (defArgs s_product_in) (defBody s_product_in) (defScope s_product_in) .none kV35 dc35 pm35 an35 cd35 ct35), sl35⟩)
    (c35 : PySem.W.codeIn K cd35 "product_in" = true)
    (k35 : PySem.W.keepIn K (.ref f35) = true)
    (n37 : PySem.W.nsIn K mainGlobals "need_table" = some (some (.ref f37)))
    (l37 : K.lookup f37 = some ⟨oc37, od37, .func (PySem.W.fnOf "need_table" "need_table" (defArgs s_need_table) (defBody s_need_table) (defScope s_need_table) .none kV37 dc37 pm37 an37 cd37 ct37), sl37⟩)
    (c37 : PySem.W.codeIn K cd37 "need_table" = true)
    (k37 : PySem.W.keepIn K (.ref f37) = true)
    (n38 : PySem.W.nsIn K mainGlobals "need_columns" = some (some (.ref f38)))
    (l38 : K.lookup f38 = some ⟨oc38, od38, .func (PySem.W.fnOf "need_columns" "need_columns" (defArgs s_need_columns) (defBody s_need_columns) (defScope s_need_columns) .none kV38 dc38 pm38 an38 cd38 ct38), sl38⟩)
    (c38 : PySem.W.codeIn K cd38 "need_columns" = true)
    (k38 : PySem.W.keepIn K (.ref f38) = true)
    (n39 : PySem.W.nsIn K mainGlobals "is_table" = some (some (.ref f39)))
    (l39 : K.lookup f39 = some ⟨oc39, od39, .func (PySem.W.fnOf "is_table" "is_table" (defArgs s_is_table) (defBody s_is_table) (defScope s_is_table) .none kV39 dc39 pm39 an39 cd39 ct39), sl39⟩)
    (c39 : PySem.W.codeIn K cd39 "is_table" = true)
    (k39 : PySem.W.keepIn K (.ref f39) = true)
    (n40 : PySem.W.nsIn K mainGlobals "zeros" = some (some (.ref f40)))
    (l40 : K.lookup f40 = some ⟨oc40, od40, .func (PySem.W.fnOf "zeros" "zeros" (defArgs s_zeros) (defBody s_zeros) (defScope s_zeros) .none kV40 dc40 pm40 an40 cd40 ct40), sl40⟩)
    (c40 : PySem.W.codeIn K cd40 "zeros" = true)
    (k40 : PySem.W.keepIn K (.ref f40) = true)
    (n41 : PySem.W.nsIn K mainGlobals "units" = some (some (.ref f41)))
    (l41 : K.lookup f41 = some ⟨oc41, od41, .func (PySem.W.fnOf "units" "units" (defArgs s_units) (defBody s_units) (defScope s_units) .none kV41 dc41 pm41 an41 cd41 ct41), sl41⟩)
    (c41 : PySem.W.codeIn K cd41 "units" = true)
    (k41 : PySem.W.keepIn K (.ref f41) = true)
    (n42 : PySem.W.nsIn K mainGlobals "table_sum" = some (some (.ref f42)))
    (l42 : K.lookup f42 = some ⟨oc42, od42, .func (PySem.W.fnOf "table_sum" "table_sum" (defArgs s_table_sum) (defBody s_table_sum) (defScope s_table_sum) .none kV42 dc42 pm42 an42 cd42 ct42), sl42⟩)
    (c42 : PySem.W.codeIn K cd42 "table_sum" = true)
    (k42 : PySem.W.keepIn K (.ref f42) = true)
    (n43 : PySem.W.nsIn K mainGlobals "scaled" = some (some (.ref f43)))
    (l43 : K.lookup f43 = some ⟨oc43, od43, .func (PySem.W.fnOf "scaled" "scaled" (defArgs s_scaled) (defBody s_scaled) (defScope s_scaled) .none kV43 dc43 pm43 an43 cd43 ct43), sl43⟩)
    (c43 : PySem.W.codeIn K cd43 "scaled" = true)
    (k43 : PySem.W.keepIn K (.ref f43) = true)
    (n44 : PySem.W.nsIn K mainGlobals "product" = some (some (.ref f44)))
    (l44 : K.lookup f44 = some ⟨oc44, od44, .func (PySem.W.fnOf "product" "product" (defArgs s_product) (defBody s_product) (defScope s_product) .none kV44 dc44 pm44 an44 cd44 ct44), sl44⟩)
    (c44 : PySem.W.codeIn K cd44 "product" = true)
    (k44 : PySem.W.keepIn K (.ref f44) = true)
    (n45 : PySem.W.nsIn K mainGlobals "transposed" = some (some (.ref f45)))
    (l45 : K.lookup f45 = some ⟨oc45, od45, .func (PySem.W.fnOf "transposed" "transposed" (defArgs s_transposed) (defBody s_transposed) (defScope s_transposed) .none kV45 dc45 pm45 an45 cd45 ct45), sl45⟩)
    (c45 : PySem.W.codeIn K cd45 "transposed" = true)
    (k45 : PySem.W.keepIn K (.ref f45) = true)
    (n47 : PySem.W.nsIn K mainGlobals "_law_well" = some (some (.ref f47)))
    (l47 : K.lookup f47 = some ⟨oc47, od47, .func (PySem.W.fnOf "_law_well" "_law_well" (defArgs s__law_well) (defBody s__law_well) (defScope s__law_well) .none kV47 dc47 pm47 an47 cd47 ct47), sl47⟩)
    (c47 : PySem.W.codeIn K cd47 "_law_well" = true)
    (k47 : PySem.W.keepIn K (.ref f47) = true)
    (n48 : PySem.W.nsIn K mainGlobals "_law_draw" = some (some (.ref f48)))
    (l48 : K.lookup f48 = some ⟨oc48, od48, .func (PySem.W.fnOf "_law_draw" "_law_draw" (defArgs s__law_draw) (defBody s__law_draw) (defScope s__law_draw) .none kV48 dc48 pm48 an48 cd48 ct48), sl48⟩)
    (c48 : PySem.W.codeIn K cd48 "_law_draw" = true)
    (k48 : PySem.W.keepIn K (.ref f48) = true)
    (n49 : PySem.W.nsIn K mainGlobals "_law_cut" = some (some (.ref f49)))
    (l49 : K.lookup f49 = some ⟨oc49, od49, .func (PySem.W.fnOf "_law_cut" "_law_cut" (defArgs s__law_cut) (defBody s__law_cut) (defScope s__law_cut) .none kV49 dc49 pm49 an49 cd49 ct49), sl49⟩)
    (c49 : PySem.W.codeIn K cd49 "_law_cut" = true)
    (k49 : PySem.W.keepIn K (.ref f49) = true)
    (n50 : PySem.W.nsIn K mainGlobals "_law_num" = some (some (.ref f50)))
    (l50 : K.lookup f50 = some ⟨oc50, od50, .func (PySem.W.fnOf "_law_num" "_law_num" (defArgs s__law_num) (defBody s__law_num) (defScope s__law_num) .none kV50 dc50 pm50 an50 cd50 ct50), sl50⟩)
    (c50 : PySem.W.codeIn K cd50 "_law_num" = true)
    (k50 : PySem.W.keepIn K (.ref f50) = true)
    (n51 : PySem.W.nsIn K mainGlobals "_law_plus" = some (some (.ref f51)))
    (l51 : K.lookup f51 = some ⟨oc51, od51, .func (PySem.W.fnOf "_law_plus" "_law_plus" (defArgs s__law_plus) (defBody s__law_plus) (defScope s__law_plus) .none kV51 dc51 pm51 an51 cd51 ct51), sl51⟩)
    (c51 : PySem.W.codeIn K cd51 "_law_plus" = true)
    (k51 : PySem.W.keepIn K (.ref f51) = true)
    (n52 : PySem.W.nsIn K mainGlobals "_law_times" = some (some (.ref f52)))
    (l52 : K.lookup f52 = some ⟨oc52, od52, .func (PySem.W.fnOf "_law_times" "_law_times" (defArgs s__law_times) (defBody s__law_times) (defScope s__law_times) .none kV52 dc52 pm52 an52 cd52 ct52), sl52⟩)
    (c52 : PySem.W.codeIn K cd52 "_law_times" = true)
    (k52 : PySem.W.keepIn K (.ref f52) = true)
    (n54 : PySem.W.nsIn K mainGlobals "_law_drawn" = some (some (.ref f54)))
    (l54 : K.lookup f54 = some ⟨oc54, od54, .func (PySem.W.fnOf "_law_drawn" "_law_drawn" (defArgs s__law_drawn) (defBody s__law_drawn) (defScope s__law_drawn) .none kV54 dc54 pm54 an54 cd54 ct54), sl54⟩)
    (c54 : PySem.W.codeIn K cd54 "_law_drawn" = true)
    (k54 : PySem.W.keepIn K (.ref f54) = true)
    (n55 : PySem.W.nsIn K mainGlobals "_law_table" = some (some (.ref f55)))
    (l55 : K.lookup f55 = some ⟨oc55, od55, .func (PySem.W.fnOf "_law_table" "_law_table" (defArgs s__law_table) (defBody s__law_table) (defScope s__law_table) .none kV55 dc55 pm55 an55 cd55 ct55), sl55⟩)
    (c55 : PySem.W.codeIn K cd55 "_law_table" = true)
    (k55 : PySem.W.keepIn K (.ref f55) = true)
    (n56 : PySem.W.nsIn K mainGlobals "_law_dot" = some (some (.ref f56)))
    (l56 : K.lookup f56 = some ⟨oc56, od56, .func (PySem.W.fnOf "_law_dot" "_law_dot" (defArgs s__law_dot) (defBody s__law_dot) (defScope s__law_dot) .none kV56 dc56 pm56 an56 cd56 ct56), sl56⟩)
    (c56 : PySem.W.codeIn K cd56 "_law_dot" = true)
    (k56 : PySem.W.keepIn K (.ref f56) = true)
    (n57 : PySem.W.nsIn K mainGlobals "_law_product" = some (some (.ref f57)))
    (l57 : K.lookup f57 = some ⟨oc57, od57, .func (PySem.W.fnOf "_law_product" "_law_product" (defArgs s__law_product) (defBody s__law_product) (defScope s__law_product) .none kV57 dc57 pm57 an57 cd57 ct57), sl57⟩)
    (c57 : PySem.W.codeIn K cd57 "_law_product" = true)
    (k57 : PySem.W.keepIn K (.ref f57) = true)
    (n58 : PySem.W.nsIn K mainGlobals "_law_units" = some (some (.ref f58)))
    (l58 : K.lookup f58 = some ⟨oc58, od58, .func (PySem.W.fnOf "_law_units" "_law_units" (defArgs s__law_units) (defBody s__law_units) (defScope s__law_units) .none kV58 dc58 pm58 an58 cd58 ct58), sl58⟩)
    (c58 : PySem.W.codeIn K cd58 "_law_units" = true)
    (k58 : PySem.W.keepIn K (.ref f58) = true)
    (n59 : PySem.W.nsIn K mainGlobals "_law_turned" = some (some (.ref f59)))
    (l59 : K.lookup f59 = some ⟨oc59, od59, .func (PySem.W.fnOf "_law_turned" "_law_turned" (defArgs s__law_turned) (defBody s__law_turned) (defScope s__law_turned) .none kV59 dc59 pm59 an59 cd59 ct59), sl59⟩)
    (c59 : PySem.W.codeIn K cd59 "_law_turned" = true)
    (k59 : PySem.W.keepIn K (.ref f59) = true)
    (n60 : PySem.W.nsIn K mainGlobals "_law_is_table" = some (some (.ref f60)))
    (l60 : K.lookup f60 = some ⟨oc60, od60, .func (PySem.W.fnOf "_law_is_table" "_law_is_table" (defArgs s__law_is_table) (defBody s__law_is_table) (defScope s__law_is_table) .none kV60 dc60 pm60 an60 cd60 ct60), sl60⟩)
    (c60 : PySem.W.codeIn K cd60 "_law_is_table" = true)
    (k60 : PySem.W.keepIn K (.ref f60) = true)
    (n61 : PySem.W.nsIn K mainGlobals "_law_near" = some (some (.ref f61)))
    (l61 : K.lookup f61 = some ⟨oc61, od61, .func (PySem.W.fnOf "_law_near" "_law_near" (defArgs s__law_near) (defBody s__law_near) (defScope s__law_near) .none kV61 dc61 pm61 an61 cd61 ct61), sl61⟩)
    (c61 : PySem.W.codeIn K cd61 "_law_near" = true)
    (k61 : PySem.W.keepIn K (.ref f61) = true)
    (n62 : PySem.W.nsIn K mainGlobals "_law_told" = some (some (.ref f62)))
    (l62 : K.lookup f62 = some ⟨oc62, od62, .func (PySem.W.fnOf "_law_told" "_law_told" (defArgs s__law_told) (defBody s__law_told) (defScope s__law_told) .none kV62 dc62 pm62 an62 cd62 ct62), sl62⟩)
    (c62 : PySem.W.codeIn K cd62 "_law_told" = true)
    (k62 : PySem.W.keepIn K (.ref f62) = true)
    (n63 : PySem.W.nsIn K mainGlobals "_law_refused" = some (some (.ref f63)))
    (l63 : K.lookup f63 = some ⟨oc63, od63, .func (PySem.W.fnOf "_law_refused" "_law_refused" (defArgs s__law_refused) (defBody s__law_refused) (defScope s__law_refused) .none kV63 dc63 pm63 an63 cd63 ct63), sl63⟩)
    (c63 : PySem.W.codeIn K cd63 "_law_refused" = true)
    (k63 : PySem.W.keepIn K (.ref f63) = true)
    (n64 : PySem.W.nsIn K mainGlobals "_law_right" = some (some (.ref f64)))
    (l64 : K.lookup f64 = some ⟨oc64, od64, .func (PySem.W.fnOf "_law_right" "_law_right" (defArgs s__law_right) (defBody s__law_right) (defScope s__law_right) .none kV64 dc64 pm64 an64 cd64 ct64), sl64⟩)
    (c64 : PySem.W.codeIn K cd64 "_law_right" = true)
    (k64 : PySem.W.keepIn K (.ref f64) = true)
    (n65 : PySem.W.nsIn K mainGlobals "law" = some (some (.ref f65)))
    (l65 : K.lookup f65 = some ⟨oc65, od65, .func (PySem.W.fnOf "law" "law" (defArgs s_law) (defBody s_law) (defScope s_law) .none kV65 dc65 pm65 an65 cd65 ct65), sl65⟩)
    (c65 : PySem.W.codeIn K cd65 "law" = true)
    (k65 : PySem.W.keepIn K (.ref f65) = true)
    (z_abs : PySem.W.nsIn K mainGlobals "abs" = some none)
    (z_all : PySem.W.nsIn K mainGlobals "all" = some none)
    (z_bool : PySem.W.nsIn K mainGlobals "bool" = some none)
    (z_gcd : PySem.W.nsIn K mainGlobals "gcd" = some (some (.builtin "math.gcd")))
    (z_int : PySem.W.nsIn K mainGlobals "int" = some none)
    (z_isinstance : PySem.W.nsIn K mainGlobals "isinstance" = some none)
    (z_len : PySem.W.nsIn K mainGlobals "len" = some none)
    (z_list : PySem.W.nsIn K mainGlobals "list" = some none)
    (z_max : PySem.W.nsIn K mainGlobals "max" = some none)
    (z_min : PySem.W.nsIn K mainGlobals "min" = some none)
    (z_range : PySem.W.nsIn K mainGlobals "range" = some none)
    (z_repr : PySem.W.nsIn K mainGlobals "repr" = some none)
    (z_sum : PySem.W.nsIn K mainGlobals "sum" = some none)
    (z_tuple : PySem.W.nsIn K mainGlobals "tuple" = some none)
    (z_zip : PySem.W.nsIn K mainGlobals "zip" = some none)
    (g_PRIMES : PySem.W.nsIn K mainGlobals "PRIMES" = some (some (.ref gPRIMES)))
    (gl_PRIMES : K.lookup gPRIMES = some ⟨.type "tuple", dd_PRIMES, .seq its_PRIMES nn_PRIMES, sl_PRIMES⟩)
    (gv_PRIMES : Vals [V.int 0, V.int 2, V.int 3, V.int 5, V.int 7, V.int 11, V.int 13] its_PRIMES.toList)
    (gs_PRIMES : its_PRIMES.size ≤ sizeLine)
    (nD : PySem.W.nsIn K mainGlobals "WebsError" = some (some (.ref eD)))
    (eN0 : PySem.W.nsIn K mainGlobals "InvalidNumber" = some (some (.ref C0)))
    (eN1 : PySem.W.nsIn K mainGlobals "InvalidPrime" = some (some (.ref C1)))
    (eN2 : PySem.W.nsIn K mainGlobals "InvalidScalar" = some (some (.ref C2)))
    (eN3 : PySem.W.nsIn K mainGlobals "InvalidTable" = some (some (.ref C3)))
    (eN4 : PySem.W.nsIn K mainGlobals "UnlikeShapes" = some (some (.ref C4)))
    (iC0 : PySem.W.findIn K (.ref C0) "__init__" = some (some (.ref eI)))
    (eFn : K.lookup eI = some ⟨oce, ode, .func (PySem.W.ksFn "__init__" "WebsError.__init__" (iA ⟨5, 17, 5, 21⟩ ⟨5, 23, 5, 28⟩) (iB ⟨6, 8, 6, 13⟩ ⟨6, 8, 6, 15⟩ ⟨6, 8, 6, 24⟩ ⟨6, 25, 6, 36⟩ ⟨6, 8, 6, 37⟩ ⟨6, 8, 6, 37⟩ ⟨7, 8, 7, 12⟩ ⟨7, 8, 7, 18⟩ ⟨7, 21, 7, 26⟩ ⟨7, 8, 7, 26⟩) iS .none kVe doce pme ane (.ref cda) cte cc), osle⟩)
    (eCd : PySem.W.codeIn K (.ref cda) "WebsError.__init__" = true)
    (eCl : K.lookup cda = some ⟨ccl, cdd, .fields vse, ccs⟩)
    (eFi : vse[2]? = some (.str file tf))
    (eFf : ((P.main.file : Str) == file) = true)
    (eCc : K.lookup cc = some ⟨cle, cld, .cell (some (.ref eD)), csl⟩)
    (eClD : (PySem.W.clsIn K eD).isSome = true)
    (eSup : PySem.W.nsIn K mainGlobals "super" = some none)
    (eTop : (P.main.scope.names.lookup ("super" : Str)).isSome = false)
    (eAny : PySem.W.nsIn K PySem.cStatics "thirdparty.any" = some none)
    (eTI : PySem.W.typeIn K (.ref eI) = some (.type "function"))
    (hn : PySem.W.specialIn K (.builtin "object.__class__") "__get__" = some (some (.builtin "getset_descriptor.__get__")))
    (ht : PySem.W.takesIn K (.builtin "object.__class__") = some true)
    (xL0 : K.lookup C0 = some (excClassObj nm0 q0 C0 N0 bs0 [.ref eD, .type "ValueError", .type "Exception", .type "BaseException", .type "object"] true sn0 sub0 ab0 col0 dd0 u00 u10 u20 u30 u50 "ValueError.__new__"))
    (sa0 : PySem.W.findIn K (.ref C0) "__setattr__" = some (some (.builtin "object.__setattr__")))
    (ga0 : PySem.W.findIn K (.ref C0) "__getattribute__" = some (some (.builtin "BaseException.__getattribute__")))
    (gg0 : PySem.W.findIn K (.ref C0) "__getattr__" = some none)
    (nv0 : PySem.W.findIn K (.ref C0) "value" = some none)
    (kC0 : PySem.W.keepIn K (.ref C0) = true)
    (eX0 : PySem.W.subIn K (.ref C0) (.type "BaseException") = some true)
    (eV0 : PySem.W.subIn K (.ref C0) (.type "ValueError") = some true)
    (tC0 : PySem.W.typeIn K (.ref C0) = some (.type "type"))
    (hD0 : PySem.W.hasDictIn K C0 = true)
    (mD0 : PySem.W.mroIn K C0 (.ref eD) = some true)
    (sp0 : PySem.W.ks_superIn K C0 eD "__init__" = some (some (.builtin "ValueError.__init__")))
    (hc0 : (PySem.W.clsIn K C0).isSome = true)
    (ha0 : PySem.W.findIn K (.ref C0) "__class__" = some (some (.builtin "object.__class__")))
    (hm0 : PySem.W.mroIn K C0 (.type "object") = some true)
    (xm0 : PySem.W.exmOne K (.ref C0) (.ref eD) = some true)
    (kn0 : PySem.W.kitOne K (.type "NoneType") (.ref C0) = some false)
    (kl0x0 : PySem.W.kitOne K (.ref C0) (.ref C0) = some true)
    (kl1x0 : PySem.W.kitOne K (.ref C1) (.ref C0) = some false)
    (kl2x0 : PySem.W.kitOne K (.ref C2) (.ref C0) = some false)
    (kl3x0 : PySem.W.kitOne K (.ref C3) (.ref C0) = some false)
    (kl4x0 : PySem.W.kitOne K (.ref C4) (.ref C0) = some false)
    (iC1 : PySem.W.findIn K (.ref C1) "__init__" = some (some (.ref eI)))
    (xL1 : K.lookup C1 = some (excClassObj nm1 q1 C1 N1 bs1 [.ref eD, .type "ValueError", .type "Exception", .type "BaseException", .type "object"] true sn1 sub1 ab1 col1 dd1 u01 u11 u21 u31 u51 "ValueError.__new__"))
    (sa1 : PySem.W.findIn K (.ref C1) "__setattr__" = some (some (.builtin "object.__setattr__")))
    (ga1 : PySem.W.findIn K (.ref C1) "__getattribute__" = some (some (.builtin "BaseException.__getattribute__")))
    (gg1 : PySem.W.findIn K (.ref C1) "__getattr__" = some none)
    (nv1 : PySem.W.findIn K (.ref C1) "value" = some none)
    (kC1 : PySem.W.keepIn K (.ref C1) = true)
    (eX1 : PySem.W.subIn K (.ref C1) (.type "BaseException") = some true)
    (eV1 : PySem.W.subIn K (.ref C1) (.type "ValueError") = some true)
    (tC1 : PySem.W.typeIn K (.ref C1) = some (.type "type"))
    (hD1 : PySem.W.hasDictIn K C1 = true)
    (mD1 : PySem.W.mroIn K C1 (.ref eD) = some true)
    (sp1 : PySem.W.ks_superIn K C1 eD "__init__" = some (some (.builtin "ValueError.__init__")))
    (hc1 : (PySem.W.clsIn K C1).isSome = true)
    (ha1 : PySem.W.findIn K (.ref C1) "__class__" = some (some (.builtin "object.__class__")))
    (hm1 : PySem.W.mroIn K C1 (.type "object") = some true)
    (xm1 : PySem.W.exmOne K (.ref C1) (.ref eD) = some true)
    (kn1 : PySem.W.kitOne K (.type "NoneType") (.ref C1) = some false)
    (kl0x1 : PySem.W.kitOne K (.ref C0) (.ref C1) = some false)
    (kl1x1 : PySem.W.kitOne K (.ref C1) (.ref C1) = some true)
    (kl2x1 : PySem.W.kitOne K (.ref C2) (.ref C1) = some false)
    (kl3x1 : PySem.W.kitOne K (.ref C3) (.ref C1) = some false)
    (kl4x1 : PySem.W.kitOne K (.ref C4) (.ref C1) = some false)
    (iC2 : PySem.W.findIn K (.ref C2) "__init__" = some (some (.ref eI)))
    (xL2 : K.lookup C2 = some (excClassObj nm2 q2 C2 N2 bs2 [.ref eD, .type "ValueError", .type "Exception", .type "BaseException", .type "object"] true sn2 sub2 ab2 col2 dd2 u02 u12 u22 u32 u52 "ValueError.__new__"))
    (sa2 : PySem.W.findIn K (.ref C2) "__setattr__" = some (some (.builtin "object.__setattr__")))
    (ga2 : PySem.W.findIn K (.ref C2) "__getattribute__" = some (some (.builtin "BaseException.__getattribute__")))
    (gg2 : PySem.W.findIn K (.ref C2) "__getattr__" = some none)
    (nv2 : PySem.W.findIn K (.ref C2) "value" = some none)
    (kC2 : PySem.W.keepIn K (.ref C2) = true)
    (eX2 : PySem.W.subIn K (.ref C2) (.type "BaseException") = some true)
    (eV2 : PySem.W.subIn K (.ref C2) (.type "ValueError") = some true)
    (tC2 : PySem.W.typeIn K (.ref C2) = some (.type "type"))
    (hD2 : PySem.W.hasDictIn K C2 = true)
    (mD2 : PySem.W.mroIn K C2 (.ref eD) = some true)
    (sp2 : PySem.W.ks_superIn K C2 eD "__init__" = some (some (.builtin "ValueError.__init__")))
    (hc2 : (PySem.W.clsIn K C2).isSome = true)
    (ha2 : PySem.W.findIn K (.ref C2) "__class__" = some (some (.builtin "object.__class__")))
    (hm2 : PySem.W.mroIn K C2 (.type "object") = some true)
    (xm2 : PySem.W.exmOne K (.ref C2) (.ref eD) = some true)
    (kn2 : PySem.W.kitOne K (.type "NoneType") (.ref C2) = some false)
    (kl0x2 : PySem.W.kitOne K (.ref C0) (.ref C2) = some false)
    (kl1x2 : PySem.W.kitOne K (.ref C1) (.ref C2) = some false)
    (kl2x2 : PySem.W.kitOne K (.ref C2) (.ref C2) = some true)
    (kl3x2 : PySem.W.kitOne K (.ref C3) (.ref C2) = some false)
    (kl4x2 : PySem.W.kitOne K (.ref C4) (.ref C2) = some false)
    (iC3 : PySem.W.findIn K (.ref C3) "__init__" = some (some (.ref eI)))
    (xL3 : K.lookup C3 = some (excClassObj nm3 q3 C3 N3 bs3 [.ref eD, .type "ValueError", .type "Exception", .type "BaseException", .type "object"] true sn3 sub3 ab3 col3 dd3 u03 u13 u23 u33 u53 "ValueError.__new__"))
    (sa3 : PySem.W.findIn K (.ref C3) "__setattr__" = some (some (.builtin "object.__setattr__")))
    (ga3 : PySem.W.findIn K (.ref C3) "__getattribute__" = some (some (.builtin "BaseException.__getattribute__")))
    (gg3 : PySem.W.findIn K (.ref C3) "__getattr__" = some none)
    (nv3 : PySem.W.findIn K (.ref C3) "value" = some none)
    (kC3 : PySem.W.keepIn K (.ref C3) = true)
    (eX3 : PySem.W.subIn K (.ref C3) (.type "BaseException") = some true)
    (eV3 : PySem.W.subIn K (.ref C3) (.type "ValueError") = some true)
    (tC3 : PySem.W.typeIn K (.ref C3) = some (.type "type"))
    (hD3 : PySem.W.hasDictIn K C3 = true)
    (mD3 : PySem.W.mroIn K C3 (.ref eD) = some true)
    (sp3 : PySem.W.ks_superIn K C3 eD "__init__" = some (some (.builtin "ValueError.__init__")))
    (hc3 : (PySem.W.clsIn K C3).isSome = true)
    (ha3 : PySem.W.findIn K (.ref C3) "__class__" = some (some (.builtin "object.__class__")))
    (hm3 : PySem.W.mroIn K C3 (.type "object") = some true)
    (xm3 : PySem.W.exmOne K (.ref C3) (.ref eD) = some true)
    (kn3 : PySem.W.kitOne K (.type "NoneType") (.ref C3) = some false)
    (kl0x3 : PySem.W.kitOne K (.ref C0) (.ref C3) = some false)
    (kl1x3 : PySem.W.kitOne K (.ref C1) (.ref C3) = some false)
    (kl2x3 : PySem.W.kitOne K (.ref C2) (.ref C3) = some false)
    (kl3x3 : PySem.W.kitOne K (.ref C3) (.ref C3) = some true)
    (kl4x3 : PySem.W.kitOne K (.ref C4) (.ref C3) = some false)
    (iC4 : PySem.W.findIn K (.ref C4) "__init__" = some (some (.ref eI)))
    (xL4 : K.lookup C4 = some (excClassObj nm4 q4 C4 N4 bs4 [.ref eD, .type "ValueError", .type "Exception", .type "BaseException", .type "object"] true sn4 sub4 ab4 col4 dd4 u04 u14 u24 u34 u54 "ValueError.__new__"))
    (sa4 : PySem.W.findIn K (.ref C4) "__setattr__" = some (some (.builtin "object.__setattr__")))
    (ga4 : PySem.W.findIn K (.ref C4) "__getattribute__" = some (some (.builtin "BaseException.__getattribute__")))
    (gg4 : PySem.W.findIn K (.ref C4) "__getattr__" = some none)
    (nv4 : PySem.W.findIn K (.ref C4) "value" = some none)
    (kC4 : PySem.W.keepIn K (.ref C4) = true)
    (eX4 : PySem.W.subIn K (.ref C4) (.type "BaseException") = some true)
    (eV4 : PySem.W.subIn K (.ref C4) (.type "ValueError") = some true)
    (tC4 : PySem.W.typeIn K (.ref C4) = some (.type "type"))
    (hD4 : PySem.W.hasDictIn K C4 = true)
    (mD4 : PySem.W.mroIn K C4 (.ref eD) = some true)
    (sp4 : PySem.W.ks_superIn K C4 eD "__init__" = some (some (.builtin "ValueError.__init__")))
    (hc4 : (PySem.W.clsIn K C4).isSome = true)
    (ha4 : PySem.W.findIn K (.ref C4) "__class__" = some (some (.builtin "object.__class__")))
    (hm4 : PySem.W.mroIn K C4 (.type "object") = some true)
    (xm4 : PySem.W.exmOne K (.ref C4) (.ref eD) = some true)
    (kn4 : PySem.W.kitOne K (.type "NoneType") (.ref C4) = some false)
    (kl0x4 : PySem.W.kitOne K (.ref C0) (.ref C4) = some false)
    (kl1x4 : PySem.W.kitOne K (.ref C1) (.ref C4) = some false)
    (kl2x4 : PySem.W.kitOne K (.ref C2) (.ref C4) = some false)
    (kl3x4 : PySem.W.kitOne K (.ref C3) (.ref C4) = some false)
    (kl4x4 : PySem.W.kitOne K (.ref C4) (.ref C4) = some true) :
    ∃ (fd : FuncData) (CT : Nat → Addr), (∀ (s : Shared) (u : Value), BindsTo s fd ⟨[u], []⟩ [("script", u)]) ∧ ∀ base : Heap, K.In base → base.Ns mainGlobals mg → FnG P w K mg base 18 fa fd ["script"] (spD K CT 0 m_law) := by
  have e := hfa.symm.trans (PySem.W.mg_of kin G n65)
  cases e
  let CT : Nat → Addr := fun c => match c with | 0 => C0 | 1 => C1 | 2 => C2 | 3 => C3 | 4 => C4 | _ + 5 => C0
  have ec0 : ErrCls K eD eI C0 := ⟨⟨nm0, q0, N0, bs0, _, sn0, sub0, ab0, col0, dd0, u00, u10, u20, u30, u50, xL0, by rfl⟩, sa0, ga0, gg0, nv0, iC0, kC0, eX0, eV0, tC0, hD0, mD0, sp0⟩
  have ic0 : IsC K C0 := ⟨hc0, ga0, gg0, eX0, ha0, hn, ht, hm0⟩
  have ec1 : ErrCls K eD eI C1 := ⟨⟨nm1, q1, N1, bs1, _, sn1, sub1, ab1, col1, dd1, u01, u11, u21, u31, u51, xL1, by rfl⟩, sa1, ga1, gg1, nv1, iC1, kC1, eX1, eV1, tC1, hD1, mD1, sp1⟩
  have ic1 : IsC K C1 := ⟨hc1, ga1, gg1, eX1, ha1, hn, ht, hm1⟩
  have ec2 : ErrCls K eD eI C2 := ⟨⟨nm2, q2, N2, bs2, _, sn2, sub2, ab2, col2, dd2, u02, u12, u22, u32, u52, xL2, by rfl⟩, sa2, ga2, gg2, nv2, iC2, kC2, eX2, eV2, tC2, hD2, mD2, sp2⟩
  have ic2 : IsC K C2 := ⟨hc2, ga2, gg2, eX2, ha2, hn, ht, hm2⟩
  have ec3 : ErrCls K eD eI C3 := ⟨⟨nm3, q3, N3, bs3, _, sn3, sub3, ab3, col3, dd3, u03, u13, u23, u33, u53, xL3, by rfl⟩, sa3, ga3, gg3, nv3, iC3, kC3, eX3, eV3, tC3, hD3, mD3, sp3⟩
  have ic3 : IsC K C3 := ⟨hc3, ga3, gg3, eX3, ha3, hn, ht, hm3⟩
  have ec4 : ErrCls K eD eI C4 := ⟨⟨nm4, q4, N4, bs4, _, sn4, sub4, ab4, col4, dd4, u04, u14, u24, u34, u54, xL4, by rfl⟩, sa4, ga4, gg4, nv4, iC4, kC4, eX4, eV4, tC4, hD4, mD4, sp4⟩
  have ic4 : IsC K C4 := ⟨hc4, ga4, gg4, eX4, ha4, hn, ht, hm4⟩
  have EB : ErrBase P K mg eD eI := ⟨⟨oce, ode, doce, pme, ane, cte, kVe, osle, ⟨5, 17, 5, 21⟩, ⟨5, 23, 5, 28⟩, ⟨6, 8, 6, 13⟩, ⟨6, 8, 6, 15⟩, ⟨6, 8, 6, 24⟩, ⟨6, 25, 6, 36⟩, ⟨6, 8, 6, 37⟩, ⟨6, 8, 6, 37⟩, ⟨7, 8, 7, 12⟩, ⟨7, 8, 7, 18⟩, ⟨7, 21, 7, 26⟩, ⟨7, 8, 7, 26⟩, cda, cc, ccl, cdd, vse, ccs, file, tf, cle, cld, csl, eFn, eCd, eCl, eFi, eFf, eCc, by rfl⟩, eClD, eSup, PySem.W.mg_none_of kin G eSup, eTop, eAny, eTI⟩
  have F9 := fun_mk (st := s_is_integer) l9 c9 k9
  have b9 := F9.binds (ps := ["value"]) fun _ _ _ _ _ _ us hl => match us, hl with | [_], _ => rfl
  have F10 := fun_mk (st := s_is_tuple) l10 c10 k10
  have b10 := F10.binds (ps := ["value", "low", "high"]) fun _ _ _ _ _ _ us hl => match us, hl with | [_, _, _], _ => rfl
  have F11 := fun_mk (st := s_need_number) l11 c11 k11
  have b11 := F11.binds (ps := ["number", "low", "high"]) fun _ _ _ _ _ _ us hl => match us, hl with | [_, _, _], _ => rfl
  have F12 := fun_mk (st := s_anew) l12 c12 k12
  have b12 := F12.binds (ps := ["value"]) fun _ _ _ _ _ _ us hl => match us, hl with | [_], _ => rfl
  have F15 := fun_mk (st := s_is_prime_in) l15 c15 k15
  have b15 := F15.binds (ps := ["value"]) fun _ _ _ _ _ _ us hl => match us, hl with | [_], _ => rfl
  have F16 := fun_mk (st := s_is_scalar_in) l16 c16 k16
  have b16 := F16.binds (ps := ["prime", "value"]) fun _ _ _ _ _ _ us hl => match us, hl with | [_, _], _ => rfl
  have F17 := fun_mk (st := s_fraction_in) l17 c17 k17
  have b17 := F17.binds (ps := ["above", "below"]) fun _ _ _ _ _ _ us hl => match us, hl with | [_, _], _ => rfl
  have F18 := fun_mk (st := s_scalar_in) l18 c18 k18
  have b18 := F18.binds (ps := ["prime", "k"]) fun _ _ _ _ _ _ us hl => match us, hl with | [_, _], _ => rfl
  have F19 := fun_mk (st := s_plus_in) l19 c19 k19
  have b19 := F19.binds (ps := ["prime", "one", "other"]) fun _ _ _ _ _ _ us hl => match us, hl with | [_, _, _], _ => rfl
  have F20 := fun_mk (st := s_times_in) l20 c20 k20
  have b20 := F20.binds (ps := ["prime", "one", "other"]) fun _ _ _ _ _ _ us hl => match us, hl with | [_, _, _], _ => rfl
  have F21 := fun_mk (st := s_dot_in) l21 c21 k21
  have b21 := F21.binds (ps := ["prime", "one", "other"]) fun _ _ _ _ _ _ us hl => match us, hl with | [_, _, _], _ => rfl
  have F22 := fun_mk (st := s_multiple_in) l22 c22 k22
  have b22 := F22.binds (ps := ["prime", "scalar", "row"]) fun _ _ _ _ _ _ us hl => match us, hl with | [_, _, _], _ => rfl
  have F24 := fun_mk (st := s_need_prime) l24 c24 k24
  have b24 := F24.binds (ps := ["prime"]) fun _ _ _ _ _ _ us hl => match us, hl with | [_], _ => rfl
  have F25 := fun_mk (st := s_need_scalar) l25 c25 k25
  have b25 := F25.binds (ps := ["prime", "scalar"]) fun _ _ _ _ _ _ us hl => match us, hl with | [_, _], _ => rfl
  have F27 := fun_mk (st := s_is_vector_in) l27 c27 k27
  have b27 := F27.binds (ps := ["prime", "size", "value"]) fun _ _ _ _ _ _ us hl => match us, hl with | [_, _, _], _ => rfl
  have F28 := fun_mk (st := s_is_table_in) l28 c28 k28
  have b28 := F28.binds (ps := ["prime", "rows", "columns", "value"]) fun _ _ _ _ _ _ us hl => match us, hl with | [_, _, _, _], _ => rfl
  have F29 := fun_mk (st := s_is_some_table) l29 c29 k29
  have b29 := F29.binds (ps := ["prime", "value"]) fun _ _ _ _ _ _ us hl => match us, hl with | [_, _], _ => rfl
  have F30 := fun_mk (st := s_zeros_in) l30 c30 k30
  have b30 := F30.binds (ps := ["prime", "rows", "columns"]) fun _ _ _ _ _ _ us hl => match us, hl with | [_, _, _], _ => rfl
  have F31 := fun_mk (st := s_units_in) l31 c31 k31
  have b31 := F31.binds (ps := ["prime", "size"]) fun _ _ _ _ _ _ us hl => match us, hl with | [_, _], _ => rfl
  have F32 := fun_mk (st := s_table_sum_in) l32 c32 k32
  have b32 := F32.binds (ps := ["prime", "one", "other"]) fun _ _ _ _ _ _ us hl => match us, hl with | [_, _, _], _ => rfl
  have F33 := fun_mk (st := s_scaled_in) l33 c33 k33
  have b33 := F33.binds (ps := ["prime", "scalar", "table"]) fun _ _ _ _ _ _ us hl => match us, hl with | [_, _, _], _ => rfl
  have F34 := fun_mk (st := s_transposed_in) l34 c34 k34
  have b34 := F34.binds (ps := ["table", "columns"]) fun _ _ _ _ _ _ us hl => match us, hl with | [_, _], _ => rfl
  have F35 := fun_mk (st := s_product_in) l35 c35 k35
  have b35 := F35.binds (ps := ["prime", "one", "other", "columns"]) fun _ _ _ _ _ _ us hl => match us, hl with | [_, _, _, _], _ => rfl
  have F37 := fun_mk (st := s_need_table) l37 c37 k37
  have b37 := F37.binds (ps := ["prime", "table"]) fun _ _ _ _ _ _ us hl => match us, hl with | [_, _], _ => rfl
  have F38 := fun_mk (st := s_need_columns) l38 c38 k38
  have b38 := F38.binds (ps := ["prime", "table", "columns"]) fun _ _ _ _ _ _ us hl => match us, hl with | [_, _, _], _ => rfl
  have F39 := fun_mk (st := s_is_table) l39 c39 k39
  have b39 := F39.binds (ps := ["prime", "rows", "columns", "value"]) fun _ _ _ _ _ _ us hl => match us, hl with | [_, _, _, _], _ => rfl
  have F40 := fun_mk (st := s_zeros) l40 c40 k40
  have b40 := F40.binds (ps := ["prime", "rows", "columns"]) fun _ _ _ _ _ _ us hl => match us, hl with | [_, _, _], _ => rfl
  have F41 := fun_mk (st := s_units) l41 c41 k41
  have b41 := F41.binds (ps := ["prime", "size"]) fun _ _ _ _ _ _ us hl => match us, hl with | [_, _], _ => rfl
  have F42 := fun_mk (st := s_table_sum) l42 c42 k42
  have b42 := F42.binds (ps := ["prime", "one", "other"]) fun _ _ _ _ _ _ us hl => match us, hl with | [_, _, _], _ => rfl
  have F43 := fun_mk (st := s_scaled) l43 c43 k43
  have b43 := F43.binds (ps := ["prime", "scalar", "table"]) fun _ _ _ _ _ _ us hl => match us, hl with | [_, _, _], _ => rfl
  have F44 := fun_mk (st := s_product) l44 c44 k44
  have b44 := F44.binds (ps := ["prime", "one", "other", "columns"]) fun _ _ _ _ _ _ us hl => match us, hl with | [_, _, _, _], _ => rfl
  have F45 := fun_mk (st := s_transposed) l45 c45 k45
  have b45 := F45.binds (ps := ["prime", "table", "columns"]) fun _ _ _ _ _ _ us hl => match us, hl with | [_, _, _], _ => rfl
  have F47 := fun_mk (st := s__law_well) l47 c47 k47
  have b47 := F47.binds (ps := ["script", "k"]) fun _ _ _ _ _ _ us hl => match us, hl with | [_, _], _ => rfl
  have F48 := fun_mk (st := s__law_draw) l48 c48 k48
  have b48 := F48.binds (ps := ["well", "many"]) fun _ _ _ _ _ _ us hl => match us, hl with | [_, _], _ => rfl
  have F49 := fun_mk (st := s__law_cut) l49 c49 k49
  have b49 := F49.binds (ps := ["above", "below"]) fun _ _ _ _ _ _ us hl => match us, hl with | [_, _], _ => rfl
  have F50 := fun_mk (st := s__law_num) l50 c50 k50
  have b50 := F50.binds (ps := ["p", "k"]) fun _ _ _ _ _ _ us hl => match us, hl with | [_, _], _ => rfl
  have F51 := fun_mk (st := s__law_plus) l51 c51 k51
  have b51 := F51.binds (ps := ["p", "one", "other"]) fun _ _ _ _ _ _ us hl => match us, hl with | [_, _, _], _ => rfl
  have F52 := fun_mk (st := s__law_times) l52 c52 k52
  have b52 := F52.binds (ps := ["p", "one", "other"]) fun _ _ _ _ _ _ us hl => match us, hl with | [_, _, _], _ => rfl
  have F54 := fun_mk (st := s__law_drawn) l54 c54 k54
  have b54 := F54.binds (ps := ["well", "p"]) fun _ _ _ _ _ _ us hl => match us, hl with | [_, _], _ => rfl
  have F55 := fun_mk (st := s__law_table) l55 c55 k55
  have b55 := F55.binds (ps := ["well", "p", "rows", "columns"]) fun _ _ _ _ _ _ us hl => match us, hl with | [_, _, _, _], _ => rfl
  have F56 := fun_mk (st := s__law_dot) l56 c56 k56
  have b56 := F56.binds (ps := ["p", "one", "other"]) fun _ _ _ _ _ _ us hl => match us, hl with | [_, _, _], _ => rfl
  have F57 := fun_mk (st := s__law_product) l57 c57 k57
  have b57 := F57.binds (ps := ["p", "one", "other", "columns"]) fun _ _ _ _ _ _ us hl => match us, hl with | [_, _, _, _], _ => rfl
  have F58 := fun_mk (st := s__law_units) l58 c58 k58
  have b58 := F58.binds (ps := ["p", "size"]) fun _ _ _ _ _ _ us hl => match us, hl with | [_, _], _ => rfl
  have F59 := fun_mk (st := s__law_turned) l59 c59 k59
  have b59 := F59.binds (ps := ["table", "columns"]) fun _ _ _ _ _ _ us hl => match us, hl with | [_, _], _ => rfl
  have F60 := fun_mk (st := s__law_is_table) l60 c60 k60
  have b60 := F60.binds (ps := ["p", "rows", "columns", "value"]) fun _ _ _ _ _ _ us hl => match us, hl with | [_, _, _, _], _ => rfl
  have F61 := fun_mk (st := s__law_near) l61 c61 k61
  have b61 := F61.binds (ps := ["well", "table"]) fun _ _ _ _ _ _ us hl => match us, hl with | [_, _], _ => rfl
  have F62 := fun_mk (st := s__law_told) l62 c62 k62
  have b62 := F62.binds (ps := ["way", "p", "one", "other", "columns"]) fun _ _ _ _ _ _ us hl => match us, hl with | [_, _, _, _, _], _ => rfl
  have F63 := fun_mk (st := s__law_refused) l63 c63 k63
  have b63 := F63.binds (ps := ["well", "p", "one", "m", "k"]) fun _ _ _ _ _ _ us hl => match us, hl with | [_, _, _, _, _], _ => rfl
  have F64 := fun_mk (st := s__law_right) l64 c64 k64
  have b64 := F64.binds (ps := ["well"]) fun _ _ _ _ _ _ us hl => match us, hl with | [_], _ => rfl
  have F65 := fun_mk (st := s_law) l65 c65 k65
  have b65 := F65.binds (ps := ["script"]) fun _ _ _ _ _ _ us hl => match us, hl with | [_], _ => rfl
  let X : Fx P K mg :=
    { a_is_integer := _, fd_is_integer := _, F_is_integer := F9, M_is_integer := PySem.W.mg_of kin G n9, B_is_integer := b9,
      a_is_tuple := _, fd_is_tuple := _, F_is_tuple := F10, M_is_tuple := PySem.W.mg_of kin G n10, B_is_tuple := b10,
      a_need_number := _, fd_need_number := _, F_need_number := F11, M_need_number := PySem.W.mg_of kin G n11, B_need_number := b11,
      a_anew := _, fd_anew := _, F_anew := F12, M_anew := PySem.W.mg_of kin G n12, B_anew := b12,
      a_is_prime_in := _, fd_is_prime_in := _, F_is_prime_in := F15, M_is_prime_in := PySem.W.mg_of kin G n15, B_is_prime_in := b15,
      a_is_scalar_in := _, fd_is_scalar_in := _, F_is_scalar_in := F16, M_is_scalar_in := PySem.W.mg_of kin G n16, B_is_scalar_in := b16,
      a_fraction_in := _, fd_fraction_in := _, F_fraction_in := F17, M_fraction_in := PySem.W.mg_of kin G n17, B_fraction_in := b17,
      a_scalar_in := _, fd_scalar_in := _, F_scalar_in := F18, M_scalar_in := PySem.W.mg_of kin G n18, B_scalar_in := b18,
      a_plus_in := _, fd_plus_in := _, F_plus_in := F19, M_plus_in := PySem.W.mg_of kin G n19, B_plus_in := b19,
      a_times_in := _, fd_times_in := _, F_times_in := F20, M_times_in := PySem.W.mg_of kin G n20, B_times_in := b20,
      a_dot_in := _, fd_dot_in := _, F_dot_in := F21, M_dot_in := PySem.W.mg_of kin G n21, B_dot_in := b21,
      a_multiple_in := _, fd_multiple_in := _, F_multiple_in := F22, M_multiple_in := PySem.W.mg_of kin G n22, B_multiple_in := b22,
      a_need_prime := _, fd_need_prime := _, F_need_prime := F24, M_need_prime := PySem.W.mg_of kin G n24, B_need_prime := b24,
      a_need_scalar := _, fd_need_scalar := _, F_need_scalar := F25, M_need_scalar := PySem.W.mg_of kin G n25, B_need_scalar := b25,
      a_is_vector_in := _, fd_is_vector_in := _, F_is_vector_in := F27, M_is_vector_in := PySem.W.mg_of kin G n27, B_is_vector_in := b27,
      a_is_table_in := _, fd_is_table_in := _, F_is_table_in := F28, M_is_table_in := PySem.W.mg_of kin G n28, B_is_table_in := b28,
      a_is_some_table := _, fd_is_some_table := _, F_is_some_table := F29, M_is_some_table := PySem.W.mg_of kin G n29, B_is_some_table := b29,
      a_zeros_in := _, fd_zeros_in := _, F_zeros_in := F30, M_zeros_in := PySem.W.mg_of kin G n30, B_zeros_in := b30,
      a_units_in := _, fd_units_in := _, F_units_in := F31, M_units_in := PySem.W.mg_of kin G n31, B_units_in := b31,
      a_table_sum_in := _, fd_table_sum_in := _, F_table_sum_in := F32, M_table_sum_in := PySem.W.mg_of kin G n32, B_table_sum_in := b32,
      a_scaled_in := _, fd_scaled_in := _, F_scaled_in := F33, M_scaled_in := PySem.W.mg_of kin G n33, B_scaled_in := b33,
      a_transposed_in := _, fd_transposed_in := _, F_transposed_in := F34, M_transposed_in := PySem.W.mg_of kin G n34, B_transposed_in := b34,
      a_product_in := _, fd_product_in := _, F_product_in := F35, M_product_in := PySem.W.mg_of kin G n35, B_product_in := b35,
      a_need_table := _, fd_need_table := _, F_need_table := F37, M_need_table := PySem.W.mg_of kin G n37, B_need_table := b37,
      a_need_columns := _, fd_need_columns := _, F_need_columns := F38, M_need_columns := PySem.W.mg_of kin G n38, B_need_columns := b38,
      a_is_table := _, fd_is_table := _, F_is_table := F39, M_is_table := PySem.W.mg_of kin G n39, B_is_table := b39,
      a_zeros := _, fd_zeros := _, F_zeros := F40, M_zeros := PySem.W.mg_of kin G n40, B_zeros := b40,
      a_units := _, fd_units := _, F_units := F41, M_units := PySem.W.mg_of kin G n41, B_units := b41,
      a_table_sum := _, fd_table_sum := _, F_table_sum := F42, M_table_sum := PySem.W.mg_of kin G n42, B_table_sum := b42,
      a_scaled := _, fd_scaled := _, F_scaled := F43, M_scaled := PySem.W.mg_of kin G n43, B_scaled := b43,
      a_product := _, fd_product := _, F_product := F44, M_product := PySem.W.mg_of kin G n44, B_product := b44,
      a_transposed := _, fd_transposed := _, F_transposed := F45, M_transposed := PySem.W.mg_of kin G n45, B_transposed := b45,
      a__law_well := _, fd__law_well := _, F__law_well := F47, M__law_well := PySem.W.mg_of kin G n47, B__law_well := b47,
      a__law_draw := _, fd__law_draw := _, F__law_draw := F48, M__law_draw := PySem.W.mg_of kin G n48, B__law_draw := b48,
      a__law_cut := _, fd__law_cut := _, F__law_cut := F49, M__law_cut := PySem.W.mg_of kin G n49, B__law_cut := b49,
      a__law_num := _, fd__law_num := _, F__law_num := F50, M__law_num := PySem.W.mg_of kin G n50, B__law_num := b50,
      a__law_plus := _, fd__law_plus := _, F__law_plus := F51, M__law_plus := PySem.W.mg_of kin G n51, B__law_plus := b51,
      a__law_times := _, fd__law_times := _, F__law_times := F52, M__law_times := PySem.W.mg_of kin G n52, B__law_times := b52,
      a__law_drawn := _, fd__law_drawn := _, F__law_drawn := F54, M__law_drawn := PySem.W.mg_of kin G n54, B__law_drawn := b54,
      a__law_table := _, fd__law_table := _, F__law_table := F55, M__law_table := PySem.W.mg_of kin G n55, B__law_table := b55,
      a__law_dot := _, fd__law_dot := _, F__law_dot := F56, M__law_dot := PySem.W.mg_of kin G n56, B__law_dot := b56,
      a__law_product := _, fd__law_product := _, F__law_product := F57, M__law_product := PySem.W.mg_of kin G n57, B__law_product := b57,
      a__law_units := _, fd__law_units := _, F__law_units := F58, M__law_units := PySem.W.mg_of kin G n58, B__law_units := b58,
      a__law_turned := _, fd__law_turned := _, F__law_turned := F59, M__law_turned := PySem.W.mg_of kin G n59, B__law_turned := b59,
      a__law_is_table := _, fd__law_is_table := _, F__law_is_table := F60, M__law_is_table := PySem.W.mg_of kin G n60, B__law_is_table := b60,
      a__law_near := _, fd__law_near := _, F__law_near := F61, M__law_near := PySem.W.mg_of kin G n61, B__law_near := b61,
      a__law_told := _, fd__law_told := _, F__law_told := F62, M__law_told := PySem.W.mg_of kin G n62, B__law_told := b62,
      a__law_refused := _, fd__law_refused := _, F__law_refused := F63, M__law_refused := PySem.W.mg_of kin G n63, B__law_refused := b63,
      a__law_right := _, fd__law_right := _, F__law_right := F64, M__law_right := PySem.W.mg_of kin G n64, B__law_right := b64,
      a_law := _, fd_law := _, F_law := F65, M_law := PySem.W.mg_of kin G n65, B_law := b65,
      K_product_3210 := ⟨fun s us ws _ hl => by
        obtain ⟨rfl, a, b, c, d, rfl⟩ := pl_3210 us ws hl
        exact .of_eq rfl, fun r z => pv_3210 r z⟩,
      K_table_sum_120 := ⟨fun s us ws _ hl => by
        obtain ⟨rfl, a, b, c, rfl⟩ := pl_120 us ws hl
        exact .of_eq rfl, fun r z => pv_120 r z⟩,
      K_scaled_210 := ⟨fun s us ws _ hl => by
        obtain ⟨rfl, a, b, c, rfl⟩ := pl_210 us ws hl
        exact .of_eq rfl, fun r z => pv_210 r z⟩,
      K_transposed_120 := ⟨fun s us ws _ hl => by
        obtain ⟨rfl, a, b, c, rfl⟩ := pl_120 us ws hl
        exact .of_eq rfl, fun r z => pv_120 r z⟩,
      K_zeros_120 := ⟨fun s us ws _ hl => by
        obtain ⟨rfl, a, b, c, rfl⟩ := pl_120 us ws hl
        exact .of_eq rfl, fun r z => pv_120 r z⟩,
      K_units_10 := ⟨fun s us ws _ hl => by
        obtain ⟨rfl, a, b, rfl⟩ := pl_10 us ws hl
        exact .of_eq rfl, fun r z => pv_10 r z⟩,
      K_is_table_3210 := ⟨fun s us ws _ hl => by
        obtain ⟨rfl, a, b, c, d, rfl⟩ := pl_3210 us ws hl
        exact .of_eq rfl, fun r z => pv_3210 r z⟩,
      m_abs := PySem.W.mg_none_of kin G z_abs,
      m_all := PySem.W.mg_none_of kin G z_all,
      m_bool := PySem.W.mg_none_of kin G z_bool,
      m_gcd := PySem.W.mg_of kin G z_gcd,
      m_int := PySem.W.mg_none_of kin G z_int,
      m_isinstance := PySem.W.mg_none_of kin G z_isinstance,
      m_len := PySem.W.mg_none_of kin G z_len,
      m_list := PySem.W.mg_none_of kin G z_list,
      m_max := PySem.W.mg_none_of kin G z_max,
      m_min := PySem.W.mg_none_of kin G z_min,
      m_range := PySem.W.mg_none_of kin G z_range,
      m_repr := PySem.W.mg_none_of kin G z_repr,
      m_sum := PySem.W.mg_none_of kin G z_sum,
      m_tuple := PySem.W.mg_none_of kin G z_tuple,
      m_zip := PySem.W.mg_none_of kin G z_zip,
      a_PRIMES := gPRIMES, u_PRIMES := _, M_PRIMES := PySem.W.mg_of kin G g_PRIMES, R_PRIMES := rfl, Q_PRIMES := fun S => .tup (.inr ⟨_, _, _, gl_PRIMES, rfl, rfl, gs_PRIMES, gv_PRIMES⟩) (.cons (.int _) (.cons (.int _) (.cons (.int _) (.cons (.int _) (.cons (.int _) (.cons (.int _) (.cons (.int _) .nil))))))),
      aD := eD, fI := eI, EB := EB, CT := CT, EC := (fun c => match c with | 0 => ec0 | 1 => ec1 | 2 => ec2 | 3 => ec3 | 4 => ec4 | _ + 5 => ec0), IC := (fun c => match c with | 0 => ic0 | 1 => ic1 | 2 => ic2 | 3 => ic3 | 4 => ic4 | _ + 5 => ic0), M_WebsError := PySem.W.mg_of kin G nD, XM := (fun c => match c with | 0 => xm0 | 1 => xm1 | 2 => xm2 | 3 => xm3 | 4 => xm4 | _ + 5 => xm0),
      ME_InvalidNumber := PySem.W.mg_of kin G eN0, KN_InvalidNumber := kn0, KL_InvalidNumber := (fun c => match c with | 0 => kl0x0 | 1 => kl1x0 | 2 => kl2x0 | 3 => kl3x0 | 4 => kl4x0 | _ + 5 => kl0x0),
      ME_InvalidPrime := PySem.W.mg_of kin G eN1, KN_InvalidPrime := kn1, KL_InvalidPrime := (fun c => match c with | 0 => kl0x1 | 1 => kl1x1 | 2 => kl2x1 | 3 => kl3x1 | 4 => kl4x1 | _ + 5 => kl0x1),
      ME_InvalidScalar := PySem.W.mg_of kin G eN2, KN_InvalidScalar := kn2, KL_InvalidScalar := (fun c => match c with | 0 => kl0x2 | 1 => kl1x2 | 2 => kl2x2 | 3 => kl3x2 | 4 => kl4x2 | _ + 5 => kl0x2),
      ME_InvalidTable := PySem.W.mg_of kin G eN3, KN_InvalidTable := kn3, KL_InvalidTable := (fun c => match c with | 0 => kl0x3 | 1 => kl1x3 | 2 => kl2x3 | 3 => kl3x3 | 4 => kl4x3 | _ + 5 => kl0x3),
      ME_UnlikeShapes := PySem.W.mg_of kin G eN4, KN_UnlikeShapes := kn4, KL_UnlikeShapes := (fun c => match c with | 0 => kl0x4 | 1 => kl1x4 | 2 => kl2x4 | 3 => kl3x4 | 4 => kl4x4 | _ + 5 => kl0x4) }
  refine ⟨PySem.W.fnOf "law" "law" (defArgs s_law) (defBody s_law) (defScope s_law) .none kV65 dc65 pm65 an65 cd65 ct65, CT, fun s u => .of_eq rfl, fun base _ _ => ?_⟩
  have D_is_integer := d_is_integer (w := w) (base := base) X 
  have D_is_tuple := d_is_tuple (w := w) (base := base) X 
  have D_need_number := d_need_number (w := w) (base := base) X 
  have D_anew := all_anew (w := w) (base := base) X 10
  have D_is_prime_in := d_is_prime_in (w := w) (base := base) X D_is_integer
  have D_is_scalar_in := d_is_scalar_in (w := w) (base := base) X D_is_integer D_is_tuple
  have D_fraction_in := d_fraction_in (w := w) (base := base) X 
  have D_scalar_in := d_scalar_in (w := w) (base := base) X 
  have D_plus_in := d_plus_in (w := w) (base := base) X D_fraction_in
  have D_times_in := d_times_in (w := w) (base := base) X D_fraction_in
  have D_dot_in := d_dot_in (w := w) (base := base) X D_fraction_in
  have D_multiple_in := d_multiple_in (w := w) (base := base) X D_times_in
  have D_need_prime := d_need_prime (w := w) (base := base) X D_is_prime_in D_anew
  have D_need_scalar := d_need_scalar (w := w) (base := base) X D_is_scalar_in D_anew
  have D_is_vector_in := d_is_vector_in (w := w) (base := base) X D_is_tuple D_is_scalar_in
  have D_is_table_in := d_is_table_in (w := w) (base := base) X D_is_tuple D_is_vector_in
  have D_is_some_table := d_is_some_table (w := w) (base := base) X D_is_table_in D_is_tuple
  have D_zeros_in := d_zeros_in (w := w) (base := base) X D_scalar_in
  have D_units_in := d_units_in (w := w) (base := base) X D_scalar_in
  have D_table_sum_in := d_table_sum_in (w := w) (base := base) X D_plus_in
  have D_scaled_in := d_scaled_in (w := w) (base := base) X D_multiple_in
  have D_transposed_in := d_transposed_in (w := w) (base := base) X 
  have D_product_in := d_product_in (w := w) (base := base) X D_transposed_in D_dot_in
  have D_need_table := d_need_table (w := w) (base := base) X D_need_prime D_is_some_table D_anew
  have D_need_columns := d_need_columns (w := w) (base := base) X D_need_table
  have D_is_table := d_is_table (w := w) (base := base) X D_need_prime D_need_number D_is_table_in
  have D_zeros := d_zeros (w := w) (base := base) X D_need_prime D_need_number D_zeros_in
  have D_units := d_units (w := w) (base := base) X D_need_prime D_need_number D_units_in
  have D_table_sum := d_table_sum (w := w) (base := base) X D_need_table D_table_sum_in D_anew
  have D_scaled := d_scaled (w := w) (base := base) X D_need_prime D_need_scalar D_need_table D_scaled_in
  have D_product := d_product (w := w) (base := base) X D_need_table D_need_columns D_product_in D_anew
  have D_transposed := d_transposed (w := w) (base := base) X D_need_columns D_transposed_in
  have D__law_well := d__law_well (w := w) (base := base) X ev_well
  have D__law_draw := d__law_draw (w := w) (base := base) X ev_draw
  have D__law_cut := d__law_cut (w := w) (base := base) X 
  have D__law_num := d__law_num (w := w) (base := base) X 
  have D__law_plus := d__law_plus (w := w) (base := base) X D__law_cut
  have D__law_times := d__law_times (w := w) (base := base) X D__law_cut
  have D__law_drawn := d__law_drawn (w := w) (base := base) X D__law_draw D__law_cut
  have D__law_table := d__law_table (w := w) (base := base) X D__law_drawn
  have D__law_dot := d__law_dot (w := w) (base := base) X D__law_num D__law_plus D__law_times
  have D__law_product := d__law_product (w := w) (base := base) X D__law_dot
  have D__law_units := d__law_units (w := w) (base := base) X D__law_num
  have D__law_turned := d__law_turned (w := w) (base := base) X 
  have D__law_is_table := d__law_is_table (w := w) (base := base) X 
  have D__law_near := d__law_near (w := w) (base := base) X D__law_draw
  have D__law_told := d__law_told (w := w) (base := base) X D_table_sum D_product D_transposed D_scaled D_zeros D_units
  have D__law_refused := d__law_refused (w := w) (base := base) X D__law_draw D__law_told D__law_units D__law_num
  have D__law_right := d__law_right (w := w) (base := base) X D__law_drawn D__law_refused D__law_draw D__law_table D__law_product D_product D_table_sum D_scaled D_transposed D__law_turned D__law_near D__law_is_table D_zeros D_units D__law_units D__law_plus D_is_table D__law_times D__law_num
  have D_law := d_law (w := w) (base := base) X D__law_well D__law_right ev_right
  exact D_law.fn

end Law
open PySem PySem.W PyProof.Rows in
set_option maxRecDepth 100000 in
set_option maxHeartbeats 0 in
theorem PySem.Challenge.cw_spacewebs_k02_tables_put_together_holds : PySem.Challenge.rw_spacewebs_k02_tables_put_together.Holds := by
  w_on; o_law; k_head; (case hw => w_witness2)
  k_fill
  refine Wb.walk_end (l := PySem.Challenge.rw_spacewebs_k02_tables_put_together) (n := 63) (k := 18) (x := "script") (G := Law.m_law) rfl (by decide) rfl ⟨rfl, by decide, by decide⟩ Law.ev_law (fun w h Y => PySem.W.kIn_of Y) ?F
  case F =>
    intro w mg fa h KX G hmg
    refine' Law.all_mk KX G hmg ?n9 ?l9 ?c9 ?k9 ?n10 ?l10 ?c10 ?k10 ?n11 ?l11 ?c11 ?k11 ?n12 ?l12 ?c12 ?k12 ?n15 ?l15 ?c15 ?k15 ?n16 ?l16 ?c16 ?k16 ?n17 ?l17 ?c17 ?k17 ?n18 ?l18 ?c18 ?k18 ?n19 ?l19 ?c19 ?k19 ?n20 ?l20 ?c20 ?k20 ?n21 ?l21 ?c21 ?k21 ?n22 ?l22 ?c22 ?k22 ?n24 ?l24 ?c24 ?k24 ?n25 ?l25 ?c25 ?k25 ?n27 ?l27 ?c27 ?k27 ?n28 ?l28 ?c28 ?k28 ?n29 ?l29 ?c29 ?k29 ?n30 ?l30 ?c30 ?k30 ?n31 ?l31 ?c31 ?k31 ?n32 ?l32 ?c32 ?k32 ?n33 ?l33 ?c33 ?k33 ?n34 ?l34 ?c34 ?k34 ?n35 ?l35 ?c35 ?k35 ?n37 ?l37 ?c37 ?k37 ?n38 ?l38 ?c38 ?k38 ?n39 ?l39 ?c39 ?k39 ?n40 ?l40 ?c40 ?k40 ?n41 ?l41 ?c41 ?k41 ?n42 ?l42 ?c42 ?k42 ?n43 ?l43 ?c43 ?k43 ?n44 ?l44 ?c44 ?k44 ?n45 ?l45 ?c45 ?k45 ?n47 ?l47 ?c47 ?k47 ?n48 ?l48 ?c48 ?k48 ?n49 ?l49 ?c49 ?k49 ?n50 ?l50 ?c50 ?k50 ?n51 ?l51 ?c51 ?k51 ?n52 ?l52 ?c52 ?k52 ?n54 ?l54 ?c54 ?k54 ?n55 ?l55 ?c55 ?k55 ?n56 ?l56 ?c56 ?k56 ?n57 ?l57 ?c57 ?k57 ?n58 ?l58 ?c58 ?k58 ?n59 ?l59 ?c59 ?k59 ?n60 ?l60 ?c60 ?k60 ?n61 ?l61 ?c61 ?k61 ?n62 ?l62 ?c62 ?k62 ?n63 ?l63 ?c63 ?k63 ?n64 ?l64 ?c64 ?k64 ?n65 ?l65 ?c65 ?k65 ?z_abs ?z_all ?z_bool ?z_gcd ?z_int ?z_isinstance ?z_len ?z_list ?z_max ?z_min ?z_range ?z_repr ?z_sum ?z_tuple ?z_zip ?g_PRIMES ?gl_PRIMES ?gv_PRIMES ?gs_PRIMES ?nD ?eN0 ?eN1 ?eN2 ?eN3 ?eN4 ?iC0 ?eFn ?eCd ?eCl ?eFi ?eFf ?eCc ?eClD ?eSup ?eTop ?eAny ?eTI ?hn ?ht ?xL0 ?sa0 ?ga0 ?gg0 ?nv0 ?kC0 ?eX0 ?eV0 ?tC0 ?hD0 ?mD0 ?sp0 ?hc0 ?ha0 ?hm0 ?xm0 ?kn0 ?kl0x0 ?kl1x0 ?kl2x0 ?kl3x0 ?kl4x0 ?iC1 ?xL1 ?sa1 ?ga1 ?gg1 ?nv1 ?kC1 ?eX1 ?eV1 ?tC1 ?hD1 ?mD1 ?sp1 ?hc1 ?ha1 ?hm1 ?xm1 ?kn1 ?kl0x1 ?kl1x1 ?kl2x1 ?kl3x1 ?kl4x1 ?iC2 ?xL2 ?sa2 ?ga2 ?gg2 ?nv2 ?kC2 ?eX2 ?eV2 ?tC2 ?hD2 ?mD2 ?sp2 ?hc2 ?ha2 ?hm2 ?xm2 ?kn2 ?kl0x2 ?kl1x2 ?kl2x2 ?kl3x2 ?kl4x2 ?iC3 ?xL3 ?sa3 ?ga3 ?gg3 ?nv3 ?kC3 ?eX3 ?eV3 ?tC3 ?hD3 ?mD3 ?sp3 ?hc3 ?ha3 ?hm3 ?xm3 ?kn3 ?kl0x3 ?kl1x3 ?kl2x3 ?kl3x3 ?kl4x3 ?iC4 ?xL4 ?sa4 ?ga4 ?gg4 ?nv4 ?kC4 ?eX4 ?eV4 ?tC4 ?hD4 ?mD4 ?sp4 ?hc4 ?ha4 ?hm4 ?xm4 ?kn4 ?kl0x4 ?kl1x4 ?kl2x4 ?kl3x4 ?kl4x4
    (case n9 => first | k_is | rfl)
    (case l9 => first | k_is | rfl)
    (case c9 => first | k_is | rfl)
    (case k9 => first | k_is | rfl)
    (case n10 => first | k_is | rfl)
    (case l10 => first | k_is | rfl)
    (case c10 => first | k_is | rfl)
    (case k10 => first | k_is | rfl)
    (case n11 => first | k_is | rfl)
    (case l11 => first | k_is | rfl)
    (case c11 => first | k_is | rfl)
    (case k11 => first | k_is | rfl)
    (case n12 => first | k_is | rfl)
    (case l12 => first | k_is | rfl)
    (case c12 => first | k_is | rfl)
    (case k12 => first | k_is | rfl)
    (case n15 => first | k_is | rfl)
    (case l15 => first | k_is | rfl)
    (case c15 => first | k_is | rfl)
    (case k15 => first | k_is | rfl)
    (case n16 => first | k_is | rfl)
    (case l16 => first | k_is | rfl)
    (case c16 => first | k_is | rfl)
    (case k16 => first | k_is | rfl)
    (case n17 => first | k_is | rfl)
    (case l17 => first | k_is | rfl)
    (case c17 => first | k_is | rfl)
    (case k17 => first | k_is | rfl)
    (case n18 => first | k_is | rfl)
    (case l18 => first | k_is | rfl)
    (case c18 => first | k_is | rfl)
    (case k18 => first | k_is | rfl)
    (case n19 => first | k_is | rfl)
    (case l19 => first | k_is | rfl)
    (case c19 => first | k_is | rfl)
    (case k19 => first | k_is | rfl)
    (case n20 => first | k_is | rfl)
    (case l20 => first | k_is | rfl)
    (case c20 => first | k_is | rfl)
    (case k20 => first | k_is | rfl)
    (case n21 => first | k_is | rfl)
    (case l21 => first | k_is | rfl)
    (case c21 => first | k_is | rfl)
    (case k21 => first | k_is | rfl)
    (case n22 => first | k_is | rfl)
    (case l22 => first | k_is | rfl)
    (case c22 => first | k_is | rfl)
    (case k22 => first | k_is | rfl)
    (case n24 => first | k_is | rfl)
    (case l24 => first | k_is | rfl)
    (case c24 => first | k_is | rfl)
    (case k24 => first | k_is | rfl)
    (case n25 => first | k_is | rfl)
    (case l25 => first | k_is | rfl)
    (case c25 => first | k_is | rfl)
    (case k25 => first | k_is | rfl)
    (case n27 => first | k_is | rfl)
    (case l27 => first | k_is | rfl)
    (case c27 => first | k_is | rfl)
    (case k27 => first | k_is | rfl)
    (case n28 => first | k_is | rfl)
    (case l28 => first | k_is | rfl)
    (case c28 => first | k_is | rfl)
    (case k28 => first | k_is | rfl)
    (case n29 => first | k_is | rfl)
    (case l29 => first | k_is | rfl)
    (case c29 => first | k_is | rfl)
    (case k29 => first | k_is | rfl)
    (case n30 => first | k_is | rfl)
    (case l30 => first | k_is | rfl)
    (case c30 => first | k_is | rfl)
    (case k30 => first | k_is | rfl)
    (case n31 => first | k_is | rfl)
    (case l31 => first | k_is | rfl)
    (case c31 => first | k_is | rfl)
    (case k31 => first | k_is | rfl)
    (case n32 => first | k_is | rfl)
    (case l32 => first | k_is | rfl)
    (case c32 => first | k_is | rfl)
    (case k32 => first | k_is | rfl)
    (case n33 => first | k_is | rfl)
    (case l33 => first | k_is | rfl)
    (case c33 => first | k_is | rfl)
    (case k33 => first | k_is | rfl)
    (case n34 => first | k_is | rfl)
    (case l34 => first | k_is | rfl)
    (case c34 => first | k_is | rfl)
    (case k34 => first | k_is | rfl)
    (case n35 => first | k_is | rfl)
    (case l35 => first | k_is | rfl)
    (case c35 => first | k_is | rfl)
    (case k35 => first | k_is | rfl)
    (case n37 => first | k_is | rfl)
    (case l37 => first | k_is | rfl)
    (case c37 => first | k_is | rfl)
    (case k37 => first | k_is | rfl)
    (case n38 => first | k_is | rfl)
    (case l38 => first | k_is | rfl)
    (case c38 => first | k_is | rfl)
    (case k38 => first | k_is | rfl)
    (case n39 => first | k_is | rfl)
    (case l39 => first | k_is | rfl)
    (case c39 => first | k_is | rfl)
    (case k39 => first | k_is | rfl)
    (case n40 => first | k_is | rfl)
    (case l40 => first | k_is | rfl)
    (case c40 => first | k_is | rfl)
    (case k40 => first | k_is | rfl)
    (case n41 => first | k_is | rfl)
    (case l41 => first | k_is | rfl)
    (case c41 => first | k_is | rfl)
    (case k41 => first | k_is | rfl)
    (case n42 => first | k_is | rfl)
    (case l42 => first | k_is | rfl)
    (case c42 => first | k_is | rfl)
    (case k42 => first | k_is | rfl)
    (case n43 => first | k_is | rfl)
    (case l43 => first | k_is | rfl)
    (case c43 => first | k_is | rfl)
    (case k43 => first | k_is | rfl)
    (case n44 => first | k_is | rfl)
    (case l44 => first | k_is | rfl)
    (case c44 => first | k_is | rfl)
    (case k44 => first | k_is | rfl)
    (case n45 => first | k_is | rfl)
    (case l45 => first | k_is | rfl)
    (case c45 => first | k_is | rfl)
    (case k45 => first | k_is | rfl)
    (case n47 => first | k_is | rfl)
    (case l47 => first | k_is | rfl)
    (case c47 => first | k_is | rfl)
    (case k47 => first | k_is | rfl)
    (case n48 => first | k_is | rfl)
    (case l48 => first | k_is | rfl)
    (case c48 => first | k_is | rfl)
    (case k48 => first | k_is | rfl)
    (case n49 => first | k_is | rfl)
    (case l49 => first | k_is | rfl)
    (case c49 => first | k_is | rfl)
    (case k49 => first | k_is | rfl)
    (case n50 => first | k_is | rfl)
    (case l50 => first | k_is | rfl)
    (case c50 => first | k_is | rfl)
    (case k50 => first | k_is | rfl)
    (case n51 => first | k_is | rfl)
    (case l51 => first | k_is | rfl)
    (case c51 => first | k_is | rfl)
    (case k51 => first | k_is | rfl)
    (case n52 => first | k_is | rfl)
    (case l52 => first | k_is | rfl)
    (case c52 => first | k_is | rfl)
    (case k52 => first | k_is | rfl)
    (case n54 => first | k_is | rfl)
    (case l54 => first | k_is | rfl)
    (case c54 => first | k_is | rfl)
    (case k54 => first | k_is | rfl)
    (case n55 => first | k_is | rfl)
    (case l55 => first | k_is | rfl)
    (case c55 => first | k_is | rfl)
    (case k55 => first | k_is | rfl)
    (case n56 => first | k_is | rfl)
    (case l56 => first | k_is | rfl)
    (case c56 => first | k_is | rfl)
    (case k56 => first | k_is | rfl)
    (case n57 => first | k_is | rfl)
    (case l57 => first | k_is | rfl)
    (case c57 => first | k_is | rfl)
    (case k57 => first | k_is | rfl)
    (case n58 => first | k_is | rfl)
    (case l58 => first | k_is | rfl)
    (case c58 => first | k_is | rfl)
    (case k58 => first | k_is | rfl)
    (case n59 => first | k_is | rfl)
    (case l59 => first | k_is | rfl)
    (case c59 => first | k_is | rfl)
    (case k59 => first | k_is | rfl)
    (case n60 => first | k_is | rfl)
    (case l60 => first | k_is | rfl)
    (case c60 => first | k_is | rfl)
    (case k60 => first | k_is | rfl)
    (case n61 => first | k_is | rfl)
    (case l61 => first | k_is | rfl)
    (case c61 => first | k_is | rfl)
    (case k61 => first | k_is | rfl)
    (case n62 => first | k_is | rfl)
    (case l62 => first | k_is | rfl)
    (case c62 => first | k_is | rfl)
    (case k62 => first | k_is | rfl)
    (case n63 => first | k_is | rfl)
    (case l63 => first | k_is | rfl)
    (case c63 => first | k_is | rfl)
    (case k63 => first | k_is | rfl)
    (case n64 => first | k_is | rfl)
    (case l64 => first | k_is | rfl)
    (case c64 => first | k_is | rfl)
    (case k64 => first | k_is | rfl)
    (case n65 => first | k_is | rfl)
    (case l65 => first | k_is | rfl)
    (case c65 => first | k_is | rfl)
    (case k65 => first | k_is | rfl)
    (case z_abs => first | k_is | rfl)
    (case z_all => first | k_is | rfl)
    (case z_bool => first | k_is | rfl)
    (case z_gcd => first | k_is | rfl)
    (case z_int => first | k_is | rfl)
    (case z_isinstance => first | k_is | rfl)
    (case z_len => first | k_is | rfl)
    (case z_list => first | k_is | rfl)
    (case z_max => first | k_is | rfl)
    (case z_min => first | k_is | rfl)
    (case z_range => first | k_is | rfl)
    (case z_repr => first | k_is | rfl)
    (case z_sum => first | k_is | rfl)
    (case z_tuple => first | k_is | rfl)
    (case z_zip => first | k_is | rfl)
    (case g_PRIMES => first | k_is | rfl)
    (case gl_PRIMES => first | k_is | rfl)
    (case gv_PRIMES => exact (.cons ⟨_, rfl⟩ (.cons ⟨_, rfl⟩ (.cons ⟨_, rfl⟩ (.cons ⟨_, rfl⟩ (.cons ⟨_, rfl⟩ (.cons ⟨_, rfl⟩ (.cons ⟨_, rfl⟩ .nil))))))))
    (case gs_PRIMES => first | decide | decide +kernel)
    (case nD => first | k_is | rfl)
    (case eN0 => first | k_is | rfl)
    (case eN1 => first | k_is | rfl)
    (case eN2 => first | k_is | rfl)
    (case eN3 => first | k_is | rfl)
    (case eN4 => first | k_is | rfl)
    (case iC0 => first | k_is | rfl)
    (case eFn => first | k_is | rfl)
    (case eCd => first | k_is | rfl)
    (case eCl => first | k_is | rfl)
    (case eFi => first | rfl | decide +kernel)
    (case eFf => first | rfl | decide +kernel)
    (case eCc => first | k_is | rfl)
    (case eClD => first | k_is | rfl)
    (case eSup => first | k_is | rfl)
    (case eTop => first | rfl | decide +kernel)
    (case eAny => first | k_is | rfl)
    (case eTI => first | k_is | rfl)
    (case hn => first | k_is | rfl)
    (case ht => first | k_is | rfl)
    (case xL0 => first | k_is | rfl)
    (case sa0 => first | k_is | rfl)
    (case ga0 => first | k_is | rfl)
    (case gg0 => first | k_is | rfl)
    (case nv0 => first | k_is | rfl)
    (case kC0 => first | k_is | rfl)
    (case eX0 => first | k_is | rfl)
    (case eV0 => first | k_is | rfl)
    (case tC0 => first | k_is | rfl)
    (case hD0 => first | k_is | rfl)
    (case mD0 => first | k_is | rfl)
    (case sp0 => first | k_is | rfl)
    (case hc0 => first | k_is | rfl)
    (case ha0 => first | k_is | rfl)
    (case hm0 => first | k_is | rfl)
    (case xm0 => first | k_is | rfl)
    (case kn0 => first | k_is | rfl)
    (case kl0x0 => first | k_is | rfl)
    (case kl1x0 => first | k_is | rfl)
    (case kl2x0 => first | k_is | rfl)
    (case kl3x0 => first | k_is | rfl)
    (case kl4x0 => first | k_is | rfl)
    (case iC1 => first | k_is | rfl)
    (case xL1 => first | k_is | rfl)
    (case sa1 => first | k_is | rfl)
    (case ga1 => first | k_is | rfl)
    (case gg1 => first | k_is | rfl)
    (case nv1 => first | k_is | rfl)
    (case kC1 => first | k_is | rfl)
    (case eX1 => first | k_is | rfl)
    (case eV1 => first | k_is | rfl)
    (case tC1 => first | k_is | rfl)
    (case hD1 => first | k_is | rfl)
    (case mD1 => first | k_is | rfl)
    (case sp1 => first | k_is | rfl)
    (case hc1 => first | k_is | rfl)
    (case ha1 => first | k_is | rfl)
    (case hm1 => first | k_is | rfl)
    (case xm1 => first | k_is | rfl)
    (case kn1 => first | k_is | rfl)
    (case kl0x1 => first | k_is | rfl)
    (case kl1x1 => first | k_is | rfl)
    (case kl2x1 => first | k_is | rfl)
    (case kl3x1 => first | k_is | rfl)
    (case kl4x1 => first | k_is | rfl)
    (case iC2 => first | k_is | rfl)
    (case xL2 => first | k_is | rfl)
    (case sa2 => first | k_is | rfl)
    (case ga2 => first | k_is | rfl)
    (case gg2 => first | k_is | rfl)
    (case nv2 => first | k_is | rfl)
    (case kC2 => first | k_is | rfl)
    (case eX2 => first | k_is | rfl)
    (case eV2 => first | k_is | rfl)
    (case tC2 => first | k_is | rfl)
    (case hD2 => first | k_is | rfl)
    (case mD2 => first | k_is | rfl)
    (case sp2 => first | k_is | rfl)
    (case hc2 => first | k_is | rfl)
    (case ha2 => first | k_is | rfl)
    (case hm2 => first | k_is | rfl)
    (case xm2 => first | k_is | rfl)
    (case kn2 => first | k_is | rfl)
    (case kl0x2 => first | k_is | rfl)
    (case kl1x2 => first | k_is | rfl)
    (case kl2x2 => first | k_is | rfl)
    (case kl3x2 => first | k_is | rfl)
    (case kl4x2 => first | k_is | rfl)
    (case iC3 => first | k_is | rfl)
    (case xL3 => first | k_is | rfl)
    (case sa3 => first | k_is | rfl)
    (case ga3 => first | k_is | rfl)
    (case gg3 => first | k_is | rfl)
    (case nv3 => first | k_is | rfl)
    (case kC3 => first | k_is | rfl)
    (case eX3 => first | k_is | rfl)
    (case eV3 => first | k_is | rfl)
    (case tC3 => first | k_is | rfl)
    (case hD3 => first | k_is | rfl)
    (case mD3 => first | k_is | rfl)
    (case sp3 => first | k_is | rfl)
    (case hc3 => first | k_is | rfl)
    (case ha3 => first | k_is | rfl)
    (case hm3 => first | k_is | rfl)
    (case xm3 => first | k_is | rfl)
    (case kn3 => first | k_is | rfl)
    (case kl0x3 => first | k_is | rfl)
    (case kl1x3 => first | k_is | rfl)
    (case kl2x3 => first | k_is | rfl)
    (case kl3x3 => first | k_is | rfl)
    (case kl4x3 => first | k_is | rfl)
    (case iC4 => first | k_is | rfl)
    (case xL4 => first | k_is | rfl)
    (case sa4 => first | k_is | rfl)
    (case ga4 => first | k_is | rfl)
    (case gg4 => first | k_is | rfl)
    (case nv4 => first | k_is | rfl)
    (case kC4 => first | k_is | rfl)
    (case eX4 => first | k_is | rfl)
    (case eV4 => first | k_is | rfl)
    (case tC4 => first | k_is | rfl)
    (case hD4 => first | k_is | rfl)
    (case mD4 => first | k_is | rfl)
    (case sp4 => first | k_is | rfl)
    (case hc4 => first | k_is | rfl)
    (case ha4 => first | k_is | rfl)
    (case hm4 => first | k_is | rfl)
    (case xm4 => first | k_is | rfl)
    (case kn4 => first | k_is | rfl)
    (case kl0x4 => first | k_is | rfl)
    (case kl1x4 => first | k_is | rfl)
    (case kl2x4 => first | k_is | rfl)
    (case kl3x4 => first | k_is | rfl)
    (case kl4x4 => first | k_is | rfl)

