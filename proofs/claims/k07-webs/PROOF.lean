import PyProof.Rows.All
import Wide.All
import OpenK.AllK
import Wide.FinOn
import PyProof.EqAt
import PyProof.EqKinds
import PyProof.TupleCall
import HandS.ForMost
import HandS.ForExc
import HandS.CallSlots
import HandS.New
import HandS.WideBits
import HandS.Gcd
import HandS.EndBits
import HandS.ExcInit
import HandS.ExcIs
import HandS.ExcSuper
import KE.KExcSuper
import KE.KExcMake
import KE.KExcIs
import PyProof.ReprRoads
import PyProof.CallFns
import HandS.Words
import HandS.TupMul
import HandS.IsInst
import HandS.TupAny
import HandS.Deep
import HandS.Style
import HandS.Conv
import KE.GoesMore
import KE.GoesZip
import KE.GoesEnum
import KE.GoesRev
import KE.DataMinMax
import HandS.NoneIn
import HandS.Rev
import KE.DatumOrd
import HandS.SetFor
import HandS.Strs
import KE.DatumIndex
import KE.KIndexOf
import PySem.Challenge.RW_spacewebs_k07_what_webs_are
set_option Elab.async false
set_option linter.all false
set_option maxRecDepth 100000
set_option maxHeartbeats 4000000
set_option exponentiation.threshold 256
/-! Wb0: calls under no guard (no repr is under way): the promise FnG, its rule and its calls. -/
namespace Wb
open PySem PySem.Spec PyProof.Rows L2

abbrev Frag := PySem.W.Frag
/-- a def's promise, asked where no repr is under way -/
structure FnG (P : Program) (w : World) (K : Frag) (mg : Str → Option Value) (base : Heap) (k : Nat) (f : Addr) (fd : FuncData) (ps : List Str) (sp : Sp) : Prop where
  len : ∀ vs H Q E, sp vs H Q E → vs.length = ps.length
  run : ∀ (A : Around) (outer : List Env) (s : Shared) (H : Hp) (args : Args) (us : List Value) (vs : List V) (Q : VK) (E : XK), A.guards = some [] → Room k A →
    Env0 P w K mg base A outer s H → BindsTo s fd args (ps.zip us) → Vals vs us → sp vs H Q E →
    codeAny (model P w) A (.call (.ref f) args) (CR (L2.CX P w) outer P w H s Q E) s

theorem FnG.mono {P : Program} {w : World} {K : Frag} {mg : Str → Option Value} {base : Heap} {j k : Nat} {f : Addr} {fd : FuncData} {ps : List Str} {sp : Sp}
    (F : FnG P w K mg base j f fd ps sp) (h : j ≤ k) : FnG P w K mg base k f fd ps sp :=
  ⟨F.len, fun A outer s H args us vs Q E hg hr => F.run A outer s H args us vs Q E hg (hr.mono h)⟩
theorem FnG.imp {P : Program} {w : World} {K : Frag} {mg : Str → Option Value} {base : Heap} {k : Nat} {f : Addr} {fd : FuncData} {ps : List Str} {sp sp' : Sp}
    (F : FnG P w K mg base k f fd ps sp) (h : ∀ vs H Q E, sp' vs H Q E → sp vs H Q E) : FnG P w K mg base k f fd ps sp' :=
  ⟨fun vs H Q E q => F.len vs H Q E (h _ _ _ _ q), fun A outer s H args us vs Q E hg hr he hb hv hs => F.run A outer s H args us vs Q E hg hr he hb hv (h _ _ _ _ hs)⟩

/-- a def by its body -/
theorem fnG_of {P : Program} {w : World} {K : Frag} {mg : Str → Option Value} {base : Heap} {k : Nat} {f : Addr} {fd : FuncData} {x qual : Str} {st : Stmt} {N ps : List Str} {sp : Sp}
    (F : Fun K x qual st f fd) (S : FnScope N ps (defScope st)) (len : ∀ vs H Q E, sp vs H Q E → vs.length = ps.length)
    (hbody : ∀ (cdv : Value) (A : Around) (outer : List Env) (s : Shared) (H : Hp) (vs : List V) (Q : VK) (E : XK), A.guards = some [] →
      Room k (A.deeper (envOfC qual (defScope st) s.heap.objs.size f cdv)) → sp vs H Q E →
      ∃ t, PSs (cxOf (L2.CX P w) P w K mg base N qual (defScope st) f cdv A outer s H E) (defBody st) t ∧ t { nx := fun _ H' => Q .non H', rt := Q } (start N vs) H) :
    FnG P w K mg base (k + 1) f fd ps sp := by
  obtain ⟨oc, od, kV, doc, pm, an, cdv, ct, osl, rfl, lk, hcd⟩ := F.ex
  refine ⟨len, fun A outer s H args us vs Q E hgd hr e0 hb r hsp => ?_⟩
  have hl := len _ _ _ _ hsp
  have inHeap : K.In s.heap := e0.mod.kin.keeps fun b o e => (e0.bs b o e).1
  have lim : s.heap.NoLimit := e0.mod.nolimit.keeps fun b o e => (e0.bs b o e).1
  refine codeAny_call_function hr.depth (inHeap _ _ lk) rfl S.co S.gen rfl (PySem.W.codeRec_of inHeap hcd) (hb _ _ _ _ ?_)
  refine wpAny_newFunctionEnv_cells S.kind (fun ⟨n, v⟩ hy => ?_) fun env he s1 x => ?_
  · rcases S.par n (List.of_mem_zip hy).1 with q | q
    · exact .inl q
    · exact .inr ⟨q, PySem.W.cellsFrom_some _ _ _ (.inl q)⟩
  · subst he
    refine ⟨lim.keeps x.toInCall.keep, codeAny_func ?_⟩
    obtain ⟨t, ht, hq⟩ := hbody cdv A outer s H vs Q E hgd (hr.deeper _) hsp
    have I := inv_start (CX := L2.CX P w) (P := P) (w := w) (K := K) (mg := mg) (base := base) (N := N) (qual := qual) (f := f) (cd := cdv) (E := E) S hr.hd e0 hl r x
    refine wpAny_mono (ht.run [] s1 (start N vs) H _ I hq) (fun fl s' hs => ?_) fun e s' hs => hs
    have fin : ∀ {σ' : L2.St} {H' : Hp} {v : V} {u : Value}, Inv (cxOf (L2.CX P w) P w K mg base N qual (defScope st) f cdv A outer s H E) [] σ' H' s' → RelV v u → Q v H' →
        CE outer P w H s Q u s' := fun {σ' H' v u} J rv q => ⟨v, H', J.os, J.bare, J.base, J.hok, rv, q⟩
    cases fl with
    | ret u =>
      obtain ⟨v, σ', H', J, rv, q⟩ := hs
      exact fin J rv q
    | next =>
      obtain ⟨σ', H', J, q⟩ := hs
      exact fin (v := V.non) (u := Value.none) J rfl q
    | brk =>
      obtain ⟨_, _, _, q⟩ := hs
      exact q.elim
    | cont =>
      obtain ⟨_, _, _, q⟩ := hs
      exact q.elim

section
variable {X : Cx} {W : WX} {k : Nat} {f : Addr} {fd : FuncData} {ps ks : List Str} {sp : Sp} {x : Str} {p pos : Pos} {e : Expr} {es : List Expr} {kws : List Keyword} {t tk : TA}
  {g : List Value → List Value → List Value} {gV : List V → List V → List V}
/-- a call's reading: what is raised is wished for at the slots of the caller -/
def tCallG (sp : Sp) (W : WX) (t : TA) : TE := fun σ H Q => t σ H fun vs H1 => sp vs H1 Q fun cls d H' => W cls d σ H'
def tCallGK (sp : Sp) (gV : List V → List V → List V) (W : WX) (t tk : TA) : TE := fun σ H Q => t σ H fun vs H1 => tk σ H1 fun zs H2 => sp (gV vs zs) H2 Q fun cls d H' => W cls d σ H'

theorem run_fnG {pins : List (Addr × Obj)} {σ : L2.St} {H : Hp} {s : Shared} {Q : VK} {args : Args} {us : List Value} {vs : List V} (F : FnG X.prog X.w X.K X.mg X.base k f fd ps sp)
    (hgd : X.A.guards = some []) (hr : Room k X.A) (tk : Takes X W) (I : Inv X pins σ H s) (hb : BindsTo s fd args (ps.zip us)) (r : Vals vs us)
    (h : sp vs H Q fun cls d H' => W cls d σ H') :
    codeAny (model X.prog X.w) X.A (.call (.ref f) args) (fun r s' => match r with | .ok (.ret u) => EP X pins σ Q u s' | .ok _ => False | .error e => X.xe e s') s := by
  refine codeAny_mono (F.run X.A X.stack s H args us vs Q _ hgd hr I.env0 hb r h) fun r s' hq => ?_
  cases r with
  | error e => exact tk e s' (XE.of_call I (fun _ _ _ z => z) hq)
  | ok fl =>
    cases fl with
    | ret u => exact I.after hq
    | next => exact hq.elim
    | brk => exact hq.elim
    | cont => exact hq.elim
theorem call_fnG {pins : List (Addr × Obj)} {σ : L2.St} {H : Hp} {s : Shared} {Q : VK} {us ks' : List Value} {kn : List Str} {ws : List Value} {vs : List V} (F : FnG X.prog X.w X.K X.mg X.base k f fd ps sp)
    (hgd : X.A.guards = some []) (hr : Room k X.A) (tk : Takes X W) (I : Inv X pins σ H s) (hb : BindsTo s fd ⟨us, kn.zip ws⟩ (ps.zip ks')) (r : Vals vs ks')
    (h : sp vs H Q fun cls d H' => W cls d σ H') : wpAny (model X.prog X.w) X.A (call (.ref f) us (kn.zip ws)) (EP X pins σ Q) X.xe s := by
  refine wpAny_call (codeAny_mono (run_fnG F hgd hr tk I hb r h) fun r s' hq => ?_)
  cases r with
  | error e => exact hq
  | ok fl =>
    cases fl with
    | ret u => exact hq
    | next => exact hq.elim
    | brk => exact hq.elim
    | cont => exact hq.elim
/-- f(e, ..) -/
theorem pe_callG (F : FnG X.prog X.w X.K X.mg X.base k f fd ps sp) (hgd : X.A.guards = some []) (hr : Room k X.A) (tk : Takes X W) (hg : Gl X x) (hm : X.mg x = some (.ref f)) (hk : PySem.W.keepIn X.K (.ref f) = true)
    (hb : Binds X.K fd ps []) (ha : PA X (e :: es) t) (hdb : (x == ("__debug__" : Str)) = false := by decide) (he : starEach (e :: es) X.env = (false, eval e X.env) :: starEach es X.env := by rfl)
    (hpl : (backTo pos (starEach es X.env)).any (·.1) = false := by rfl) : PE X (.Call (.Name x p) (e :: es) [] pos) (tCallG sp W t) := by
  refine ⟨fun pins s σ H Q I h => ?_⟩
  refine wpAny_Call_Name_kw (ld_glob I hg hm ?_ hdb)
  refine PySem.W.callWith_K (h₀ := X.base) I.ok.mod.kin hk (thn (ha.run pos pins s σ H _ I h) fun us s1 ⟨vs, H1, I1, r, q⟩ => ⟨I1.kIn, ?_⟩) he hpl
  have hl : (us ++ ([] : List Value)).length = ps.length := by rw [List.append_nil, ← r.length]; exact F.len _ _ _ _ q
  have b := hb s1 us I1.kIn hl
  rw [List.append_nil] at b
  exact call_fnG (kn := []) (ws := []) F hgd hr tk I1 b r q
/-- f() -/
theorem pe_callG0 (F : FnG X.prog X.w X.K X.mg X.base k f fd ps sp) (hgd : X.A.guards = some []) (hr : Room k X.A) (tk : Takes X W) (hg : Gl X x) (hm : X.mg x = some (.ref f)) (hk : PySem.W.keepIn X.K (.ref f) = true)
    (hb : Binds X.K fd ps []) (hdb : (x == ("__debug__" : Str)) = false := by decide) : PE X (.Call (.Name x p) [] [] pos) (tCallG sp W tNil) := by
  refine ⟨fun pins s σ H Q I h => ?_⟩
  refine wpAny_Call_Name_kw (ld_glob I hg hm ?_ hdb)
  have hl : ([] ++ ([] : List Value)).length = ps.length := F.len _ _ _ _ h
  exact PySem.W.callWith_K0 I.kIn hk (call_fnG (us := []) (kn := []) (ws := []) F hgd hr tk I (hb s [] I.kIn hl) .nil h)
/-- f(e, .., k = v, ..) -/
theorem pe_callGK (F : FnG X.prog X.w X.K X.mg X.base k f fd ps sp) (hgd : X.A.guards = some []) (hr : Room k X.A) (tk' : Takes X W) (hg : Gl X x) (hm : X.mg x = some (.ref f)) (hk : PySem.W.keepIn X.K (.ref f) = true)
    (hb : KBinds X.K fd ps ks g gV) (ha : PA X (e :: es) t) (hkw : PK X kws tk) (hall : (backToKw pos (keywordEach kws X.env)).all (·.1.isSome) = true := by rfl)
    (hks : (backToKw pos (keywordEach kws X.env)).filterMap (·.1) = ks := by rfl) (hdb : (x == ("__debug__" : Str)) = false := by decide)
    (he : starEach (e :: es) X.env = (false, eval e X.env) :: starEach es X.env := by rfl)
    (hpl : ((backTo pos (starEach (e :: es) X.env)).any (·.1) || (backToKw pos (keywordEach kws X.env)).any (·.1.isNone)) = false := by rfl) :
    PE X (.Call (.Name x p) (e :: es) kws pos) (tCallGK sp gV W t tk) := by
  refine ⟨fun pins s σ H Q I h => ?_⟩
  refine wpAny_Call_Name_kw (ld_glob I hg hm ?_ hdb)
  refine PySem.W.callWith_KW (h₀ := X.base) I.ok.mod.kin hk hall (thn (ha.run pos pins s σ H _ I h) fun us s1 ⟨vs, H1, I1, r, q⟩ => ?_) hpl he
  refine thn (hkw.run pos pins s1 σ H1 _ I1 q) fun ws s2 ⟨zs, H2, I2, rz, q2⟩ => ⟨I2.kIn, ?_⟩
  rw [hks]
  have r2 := hb.rel r rz
  have hl : (g us ws).length = ps.length := by rw [← r2.length]; exact F.len _ _ _ _ q2
  exact call_fnG F hgd hr tk' I2 (hb.to s2 us ws I2.kIn hl) r2 q2
/-- f(k = v, ..) -/
theorem pe_callGK0 (F : FnG X.prog X.w X.K X.mg X.base k f fd ps sp) (hgd : X.A.guards = some []) (hr : Room k X.A) (tk' : Takes X W) (hg : Gl X x) (hm : X.mg x = some (.ref f)) (hk : PySem.W.keepIn X.K (.ref f) = true)
    (hb : KBinds X.K fd ps ks g gV) (hkw : PK X kws tk) (hall : (backToKw pos (keywordEach kws X.env)).all (·.1.isSome) = true := by rfl)
    (hks : (backToKw pos (keywordEach kws X.env)).filterMap (·.1) = ks := by rfl) (hdb : (x == ("__debug__" : Str)) = false := by decide)
    (hpl : (backToKw pos (keywordEach kws X.env)).any (·.1.isNone) = false := by rfl) :
    PE X (.Call (.Name x p) [] kws pos) (tCallGK sp gV W tNil tk) := by
  refine ⟨fun pins s σ H Q I h => ?_⟩
  refine wpAny_Call_Name_kw (ld_glob I hg hm ?_ hdb)
  refine PySem.W.callWith_KW0 (h₀ := X.base) I.ok.mod.kin hk hall (thn (hkw.run pos pins s σ H _ I h) fun ws s2 ⟨zs, H2, I2, rz, q2⟩ => ⟨I2.kIn, ?_⟩) hpl
  rw [hks]
  have r2 := hb.rel (vs := []) (us := []) .nil rz
  have hl : (g [] ws).length = ps.length := by rw [← r2.length]; exact F.len _ _ _ _ q2
  exact call_fnG F hgd hr tk' I2 (hb.to s2 [] ws I2.kIn hl) r2 q2
end
end Wb
/-! Wb1: the errors of the package: class WebsError(ValueError), its __init__ by super(), the classes under it: made, raised. -/
namespace Wb
open PySem PySem.Spec PyProof.Rows L2
open PySem.W (Looks InstAt)

/-! ### the text of __init__ -/
def iA (p1 p2 : Pos) : Arguments := { posonlyargs := [], args := [{ arg := "self", annotation := none, pos := p1 }, { arg := "value", annotation := none, pos := p2 }], vararg := none, kwonlyargs := [], kw_defaults := [], kwarg := none, defaults := [] }
def iB (q0 q1 q2 q3 q4 q5 q6 q7 q8 q9 : Pos) : List Stmt :=
  [.Expr (.Call (.Attribute (.Call (.Name "super" q0) [] [] q1) "__init__" q2) [.Constant (.str "spacewebs") 0 q3] [] q4) q5,
   .Assign [.Attribute (.Name "self" q6) "value" q7] (.Name "value" q8) q9]
def iS : Scope := { kind := .function, names := [(PySem.Str.ofString "self", .local), (PySem.Str.ofString "value", .local), (PySem.Str.ofString "__class__", .free), (PySem.Str.ofString "super", .globalImplicit)], isGenerator := false, isCoroutine := false, more := [] }

/-- WebsError at D, its __init__ at fI -/
structure ErrBase (P : Program) (K : Frag) (mg : Str → Option Value) (D fI : Addr) : Prop where
  fn : ∃ (oc : Value) (od : Option Addr) (doc pm : Value) (an : Option Addr) (ct kV : Value) (osl : Array (Option Value)) (p1 p2 q0 q1 q2 q3 q4 q5 q6 q7 q8 q9 : Pos) (cda cc : Addr)
      (ccl : Value) (cdd : Option Addr) (vs : Array Value) (ccs : Array (Option Value)) (file : Str) (tf : Tok) (cl : Value) (cld : Option Addr) (csl : Array (Option Value)),
    K.lookup fI = some ⟨oc, od, .func (PySem.W.ksFn "__init__" "WebsError.__init__" (iA p1 p2) (iB q0 q1 q2 q3 q4 q5 q6 q7 q8 q9) iS .none kV doc pm an (.ref cda) ct cc), osl⟩ ∧
    PySem.W.codeIn K (.ref cda) "WebsError.__init__" = true ∧ K.lookup cda = some ⟨ccl, cdd, .fields vs, ccs⟩ ∧ vs[2]? = some (.str file tf) ∧ ((P.main.file : Str) == file) = true ∧
    K.lookup cc = some ⟨cl, cld, .cell (some (.ref D)), csl⟩ ∧ (q2.endLine == q4.line) = true
  clD : (PySem.W.clsIn K D).isSome = true
  sup : PySem.W.nsIn K mainGlobals "super" = some none
  supg : mg "super" = none
  top : (P.main.scope.names.lookup ("super" : Str)).isSome = false
  any : PySem.W.nsIn K PySem.cStatics "thirdparty.any" = some none
  tI : PySem.W.typeIn K (.ref fI) = some (.type "function")
/-- a class of the package's errors, at C -/
structure ErrCls (K : Frag) (D fI C : Addr) : Prop where
  cls : ∃ nm q N bs bm sn sub ab col dd k0 k1 k2 k3 k5, K.lookup C = some (excClassObj nm q C N bs bm true sn sub ab col dd k0 k1 k2 k3 k5 "ValueError.__new__") ∧ PySem.HandSPX.refsVE bm = true
  sa : PySem.W.findIn K (.ref C) "__setattr__" = some (some (.builtin "object.__setattr__"))
  ga : PySem.W.findIn K (.ref C) "__getattribute__" = some (some (.builtin "BaseException.__getattribute__"))
  gg : PySem.W.findIn K (.ref C) "__getattr__" = some none
  noN : PySem.W.findIn K (.ref C) "value" = some none
  iC : PySem.W.findIn K (.ref C) "__init__" = some (some (.ref fI))
  kC : PySem.W.keepIn K (.ref C) = true
  exC : PySem.W.subIn K (.ref C) (.type "BaseException") = some true
  veC : PySem.W.subIn K (.ref C) (.type "ValueError") = some true
  tyC : PySem.W.typeIn K (.ref C) = some (.type "type")
  hdC : PySem.W.hasDictIn K C = true
  mroD : PySem.W.mroIn K C (.ref D) = some true
  sup : PySem.W.ks_superIn K C D "__init__" = some (some (.builtin "ValueError.__init__"))

theorem len1 (v : Value) : [v].length ≤ sizeLine := by
  rw [sizeLine_eq]
  exact (by decide : 1 ≤ 16777216)
abbrev exR (C t : Addr) (dv : Option Addr) : Obj := PySem.W.excRec (.ref C) t dv .none .none (.bool false)
/-- what __init__ leaves of a fresh exception at x -/
structure InitEnd (h h' : Heap) (x C dx t1 : Addr) (v : Value) : Prop where
  keep : ∀ b o, b ≠ x → h.get? b = some o → h'.get? b = some o
  obj : h'.get? x = some (exR C t1 (some dx))
  dbig : h.objs.size ≤ dx
  dne : dx ≠ x
  ns : h'.Ns1 dx (fun y => if y = "value" then some v else none)
/-- a made error -/
structure ErrMade (h h' : Heap) (e C d : Addr) (v : Value) : Prop where
  keep : ∀ b o, h.get? b = some o → h'.get? b = some o
  new : h.objs.size ≤ e
  obj : ∃ oe vs, h'.get? e = some oe ∧ oe.cls = .ref C ∧ oe.dict = some d ∧ oe.data = .fields vs ∧ vs[1]? = some .none
  dbig : h.objs.size ≤ d
  dne : d ≠ e
  ns : h'.Ns1 d (fun y => if y = "value" then some v else none)

section
variable {prog : Program} {w : World} {A : Around} {E : Value → Shared → Prop} {h : Heap} {g : Array GenState} {d : Drawn} {t : Nat} {os : OsState} {K : Frag} {mg : Str → Option Value} {C D fI : Addr}
/-- the wrapper that super().__init__ gives, called -/
theorem call_mw {nm q : Str} {N : Addr} {bs bm : List Value} {sn : List Str} {sub : List Value} {ab : Bool} {col : Option Bool} {dd : Option Addr} {k0 k1 k2 k3 k5 : Option Value} {u e t0 : Addr} {rest : List Value} {Q : Value → Shared → Prop}
    (hC : h.get? C = some (excClassObj nm q C N bs bm true sn sub ab col dd k0 k1 k2 k3 k5 "ValueError.__new__")) (he : h.get? e = some (exR C t0 none)) (hu : h.get? u = some (PySem.W.kxs_mw "ValueError.__init__" e))
    (hrest : rest.length ≤ sizeLine) (hq : ∀ h' t1, (∀ b o, b ≠ e → h.get? b = some o → h'.get? b = some o) → h'.get? e = some (exR C t1 none) → Q .none ⟨h', g, d, t, os⟩) :
    wpAny (model prog w) A (call (.ref u) rest) Q E ⟨h, g, d, t, os⟩ := by
  refine wpAny_call (codeAny_of_tree ?_)
  show wpAny _ A.in1 (callAny (.ref u) _) _ _ _
  simp only [callAny]
  refine wpAny_bind (wpAny_load hu ?_)
  have hm : (Value.type "method-wrapper" == Value.type "method" || Value.type "method-wrapper" == Value.type "builtin_function_or_method" || Value.type "method-wrapper" == Value.type "method-wrapper") = true := by decide
  simp only [PySem.W.kxs_mw, hm, if_true]
  refine PySem.W.KFB.if_so (by decide) (wpAny_bind (PySem.ESX.check_bound F.excBase_ValueError hC he rfl (wpAny_bind (wpAny_pure (wpAny_pure ?_)))))
  refine ⟨plainId_quiet F.excBase_ValueError.init.plain _, codeAny_builtin F.excBase_ValueError.initEntry ?_⟩
  exact PySem.W.exc_init_tree he hrest fun h' k e' _ => hq h' _ k e'

theorem super_call_eq {q0 q1 q2 q3 q4 : Pos} {env : Env} (hl : (q2.endLine == q4.line) = true) :
    eval (.Call (.Attribute (.Call (.Name "super" q0) [] [] q1) "__init__" q2) [.Constant (.str "spacewebs") 0 q3] [] q4) env = (do
      let ov ← attributeBase (.Call (.Name "super" q0) [] [] q1) "__init__" env (eval (.Call (.Name "super" q0) [] [] q1) env)
      standAt q2.atName
      let (f, first) ← holding [ov] (getMethod ov "__init__" (do return (← importBound (.Call (.Name "super" q0) [] [] q1) env).getD true))
      callWith q4 f first (backTo q4 (starEach [.Constant (.str "spacewebs") 0 q3] env)) []) := by
  show (do
      let ov ← attributeBase (.Call (.Name "super" q0) [] [] q1) "__init__" env (eval (.Call (.Name "super" q0) [] [] q1) env)
      standAt q2.atName
      methodCall (.Call (.Name "super" q0) [] [] q1) "__init__" q2 q4 env ov 1 (backTo q4 (starEach [.Constant (.str "spacewebs") 0 q3] env)) []) = _
  unfold methodCall methodCallPos
  rw [hl, Bool.or_true, if_pos rfl]
  rfl

theorem init_run {s : Shared} {R : Result → Shared → Prop} {mb : Str → Option Value} (B : ErrBase prog K mg D fI) (T : ErrCls K D fI C) {x t0 : Addr} {v : Value} (X : K.In s.heap) (hlim : s.heap.NoLimit)
    (hG : s.heap.Ns mainGlobals mg) (hb : s.heap.Ns builtinsNs mb) (hbb : ∀ x : Str, x ≠ "__name__" → mb x = bootBuiltins x)
    (hx : s.heap.get? x = some (exR C t0 none)) (hnx : K.lookup x = none) (hng : x ≠ mainGlobals) (hroom : A.depth < recursionLimit)
    (hq : ∀ h' tk dx t1, InitEnd s.heap h' x C dx t1 v → R (.ok (.ret .none)) { s with heap := h', toks := tk }) :
    codeAny (model prog w) A (.call (.ref fI) ⟨[.ref x, v], []⟩) R s := by
  obtain ⟨oc, od, doc, pm, an, ct, kV, osl, p1, p2, q0, q1, q2, q3, q4, q5, q6, q7, q8, q9, cda, cc, ccl, cdd, vs, ccs, file, tf, cl, cld, csl, lk, hcd, lcode, hvs, hfile, lcell, hline⟩ := B.fn
  obtain ⟨nm, q, N, bs, bm, sn, sub, ab, col, dd, k0, k1, k2, k3, k5, hC, hbm⟩ := T.cls
  have hcl : PySem.W.clsIn K C = some { name := nm, bases := bs, mro := .ref C :: bm, ns := N, qualname := q, hasDict := true, slotNames := sn, subclasses := sub, abstract := ab, collection := col, hasDel := false } := by
    unfold PySem.W.clsIn; rw [hC] <;> rfl
  obtain ⟨hp, g, d, t, os⟩ := s
  have hG : hp.Ns mainGlobals mg := hG
  have hb : hp.Ns builtinsNs mb := hb
  have hx : hp.get? x = some (exR C t0 none) := hx
  have X : K.In hp := X
  refine PySem.ks_codeAny_call_defAt (fd := PySem.W.ksFn "__init__" "WebsError.__init__" (iA p1 p2) (iB q0 q1 q2 q3 q4 q5 q6 q7 q8 q9) iS .none kV doc pm an (.ref cda) ct cc)
    (binds := [("self", .ref x), ("value", v)]) hroom (X _ _ lk) rfl hlim (PySem.W.codeRec_of X hcd) rfl (BindsTo.of_eq (by first | rfl | with_unfolding_all rfl)) ?hcell ?hloc (fun h₁ hn k => ?_)
  case hcell =>
    show ∀ x ∈ iS.names, x.2 ≠ .cell
    decide +kernel
  case hloc =>
    intro y hy
    show iS.names.lookup y.1 = some .local
    rcases List.mem_cons.mp hy with rfl | hy
    · exact (by decide +kernel : iS.names.lookup ("self" : Str) = some .local)
    · rcases List.mem_cons.mp hy with rfl | hy
      · exact (by decide +kernel : iS.names.lookup ("value" : Str) = some .local)
      · cases hy
  have k : ∀ b o, hp.get? b = some o → h₁.get? b = some o := k
  have X₁ : K.In h₁ := X.keeps k
  have hx₁ := k _ _ hx
  have hC₁ := X₁ _ _ hC
  obtain ⟨cdD, hD⟩ := Option.isSome_iff_exists.mp B.clD
  obtain ⟨oD, hoD, hoDd⟩ : ∃ oD, h₁.get? D = some oD ∧ oD.data = .cls cdD := by
    unfold PySem.W.clsIn at hD
    split at hD
    · rename_i c d' cd' sl ho
      cases hD
      exact ⟨_, X₁ _ _ ho, rfl⟩
    · cases hD
  have I₁ : InstAt h₁ x (exR C t0 none) C none := ⟨hx₁, rfl, rfl, trivial⟩
  have hn : h₁.Ns hp.objs.size (fun y => [(("value" : Str), v), (("self" : Str), Value.ref x)].lookup y) := hn
  obtain ⟨env, henv⟩ : ∃ env : Env, env = PySem.W.ksEnv "WebsError.__init__" iS hp.objs.size fI (.ref cda) cc := ⟨_, rfl⟩
  have eL : env.locals = hp.objs.size := by rw [henv]
  have eks : env.kindOf "super" = some .globalImplicit := by rw [henv]; exact (by decide +kernel : iS.names.lookup ("super" : Str) = some .globalImplicit)
  have ekc : env.kindOf "__class__" = some .free := by rw [henv]; exact (by decide +kernel : iS.names.lookup ("__class__" : Str) = some .free)
  have ekf : env.kindOf "self" = some .local := by rw [henv]; exact (by decide +kernel : iS.names.lookup ("self" : Str) = some .local)
  have ekv : env.kindOf "value" = some .local := by rw [henv]; exact (by decide +kernel : iS.names.lookup ("value" : Str) = some .local)
  have efn : env.scope.kind = .function := by rw [henv]; rfl
  have eg : env.globals = mainGlobals := by rw [henv]
  have eb : env.builtins = builtinsNs := by rw [henv]
  have ec : env.cells.lookup ("__class__" : Str) = some cc := by rw [henv]; simp [List.lookup]
  show PySem.wpAt (model prog w) (A.deeper (PySem.W.ksEnv "WebsError.__init__" iS hp.objs.size fI (.ref cda) cc)) (.func (iB q0 q1 q2 q3 q4 q5 q6 q7 q8 q9) (PySem.W.ksEnv "WebsError.__init__" iS hp.objs.size fI (.ref cda) cc))
    (execs (_ :: _) (PySem.W.ksEnv "WebsError.__init__" iS hp.objs.size fI (.ref cda) cc)) _ (fun e s' => wpAny (model prog w) (A.deeper (PySem.W.ksEnv "WebsError.__init__" iS hp.objs.size fI (.ref cda) cc)) (leaving (PySem.W.ksEnv "WebsError.__init__" iS hp.objs.size fI (.ref cda) cc) e) _ _ _)
    ⟨h₁, g, d, _, os⟩
  have ef : env.func = some fI := by rw [henv]
  have eco : env.code = .ref cda := by rw [henv]
  rw [← henv]
  -- super().__init__('spacewebs')
  refine PySem.ks_wpAt_execs_cons (PySem.ks_wpAt_Expr_any (PySem.ks_wpAt_MethodCall ?_ (super_call_eq hline)) ?_ ?_)
  case refine_2 => simp [interactive, efn]
  case refine_3 => first | rfl | with_unfolding_all rfl
  refine PySem.ks_wpAt_super_base eks ekc (by decide) ef (X₁ _ _ lk) rfl rfl eco (X₁ _ _ lcode) rfl hvs hfile B.top ?_
  refine PySem.W.ks_loadName_global efn eks (Calls.loadGlobal_builtin (by rw [eg]; exact hG.keeps k) B.supg (by rw [eb]; exact hb.keeps k) ((hbb _ (by decide +kernel)).trans (by decide +kernel : bootBuiltins "super" = some (.type "super"))) ⟨rfl, ?_⟩)
  refine wpAny_loadName_free efn ekc ec ⟨_, X₁ _ _ lcell, rfl⟩ ?_
  refine wpAny_loadName_local efn ekf (by rw [eL]; exact hn) (show List.lookup ("self" : Str) [(("value" : Str), v), (("self" : Str), Value.ref x)] = some (Value.ref x) by first | rfl | decide +kernel) ?_
  refine PySem.ks_wpAny_isType_cls hoD hoDd ⟨rfl, ?_⟩
  refine PySem.ks_wpAny_call_super hoD hoDd hx₁ rfl (fun c e => by cases e) (PySem.W.looks_mroIn X₁ T.mroD) (fun h2 so2 kk2 => ?_)
  have X2 := X₁.keeps kk2
  have hsup : PySem.W.alongIn K "__init__" (((Value.ref C :: bm).dropWhile (· != .ref D)).drop 1) = some (some (.builtin "ValueError.__init__")) := by
    have z := T.sup
    unfold PySem.W.ks_superIn at z
    rw [hcl] at z
    exact z
  have hI2 : Looks (model prog w) h2 (isInstance (.ref x) (.type "ValueError")) true := (show InstAt h2 x (exR C t0 none) C none from ⟨kk2 _ _ hx₁, rfl, rfl, trivial⟩).type.andThen (PySem.W.looks_subIn X2 T.veC)
  refine PySem.W.kxs_getMethod PySem.W.kxs_ValueError so2 (PySem.W.looks_opaque X2 B.any) (fun A Q E s k q => wpAny_bind ((PySem.W.looks_clsIn X2 hcl) A _ E s k (wpAny_pure q))) rfl X2 hsup hI2 (PySem.W.ks_ne X₁ I₁ hcl) (by decide) ?_
  have hmw : (h2.push (PySem.W.kxs_mw "ValueError.__init__" x)).get? h2.objs.size = some (PySem.W.kxs_mw "ValueError.__init__" x) := Heap.get?_push_at rfl rfl
  have k3' : ∀ b o, h2.get? b = some o → (h2.push (PySem.W.kxs_mw "ValueError.__init__" x)).get? b = some o := fun b o e => Heap.get?_push_of_some _ e
  refine PySem.W.kxs_callWith (i := "ValueError.__init__") (x := x) (by first | rfl | decide) (Calls.evalArgs_plain (Calls.spliced_cons (Calls.Constant_str (k := 0) (pos := q3) (Calls.spliced_nil ⟨hmw, ?_⟩))))
  refine call_mw (X2.keeps k3' _ _ hC) (k3' _ _ (kk2 _ _ hx₁)) hmw (len1 _) (fun h4 t1 k4 e4 => ?_)
  have kk4 : ∀ b o, b ≠ x → h₁.get? b = some o → h4.get? b = some o := fun b o hb e => k4 b o hb (k3' _ _ (kk2 _ _ e))
  have hxL : hp.objs.size ≠ x := Nat.ne_of_gt (Heap.lt_size hx)
  have neK : ∀ b o, K.lookup b = some o → b ≠ x := fun b o e z => by rw [z, hnx] at e; cases e
  have X4 : K.In h4 := fun b o e => kk4 b o (neK b o e) (X₁ b o e)
  have hn4 : h4.Ns hp.objs.size (fun y => [(("value" : Str), v), (("self" : Str), Value.ref x)].lookup y) := by
    obtain ⟨oL, es, ep, hL, r⟩ := hn
    exact ⟨oL, es, ep, kk4 _ _ hxL hL, r⟩
  -- self.value = value
  refine PySem.ks_wpAt_execs_cons (wpAt_of_wpAny (plainObj_wpAny_Assign_Attribute ?_ ?_))
  case refine_2 => first | rfl | with_unfolding_all rfl
  refine wpAny_Name (wpAny_loadName_local efn ekv (by rw [eL]; exact hn4) (show _ = some v by simp [List.lookup]) ?_) (by decide)
  refine wpAny_Name (wpAny_loadName_local efn ekf (by rw [eL]; exact hn4) (show List.lookup ("self" : Str) [(("value" : Str), v), (("self" : Str), Value.ref x)] = some (Value.ref x) by first | rfl | decide +kernel) ?_) (by decide)
  refine PySem.W.set_plain X4 (ox := exR C t1 none) (od := none) ⟨e4, rfl, rfl, trivial⟩ T.sa ?_
  refine PySem.HandSPX.exc_osa X4 e4 hcl (show PySem.HandSPX.refsVE (.ref C :: bm) = true from hbm) rfl T.noN (fun h5 tk5 dx k5 dn dne hx5 hn5 => ?_)
  refine wpAt_of_wpAny (wpAny_execs_nil ?_)
  refine hq h5 tk5 dx t1 ⟨fun b o hb e => k5 b o hb (kk4 b o hb (k b o e)), hx5, ?_, dne, hn5⟩
  have z1 : hp.objs.size < h₁.objs.size := hn.lt
  obtain ⟨oL, es, ep, hL, r⟩ := hn4
  exact Nat.le_trans (Nat.le_of_lt (Heap.lt_size hL)) dn

theorem err_made {s : Shared} {R : Result → Shared → Prop} {mb : Str → Option Value} (B : ErrBase prog K mg D fI) (T : ErrCls K D fI C) {v : Value} (X : K.In s.heap) (hlim : s.heap.NoLimit)
    (hG : s.heap.Ns mainGlobals mg) (hb : s.heap.Ns builtinsNs mb) (hbb : ∀ x : Str, x ≠ "__name__" → mb x = bootBuiltins x) (hroom : A.depth + 1 < recursionLimit)
    (hq : ∀ h' tk e d, ErrMade s.heap h' e C d v → R (.ok (.ret (.ref e))) { s with heap := h', toks := tk }) : codeAny (model prog w) A (.call (.ref C) ⟨[v], []⟩) R s := by
  obtain ⟨nm, q, N, bs, bm, sn, sub, ab, col, dd, k0, k1, k2, k3, k5, hC, hbm⟩ := T.cls
  obtain ⟨hp, g, dr, tk, os⟩ := s
  have hG : hp.Ns mainGlobals mg := hG
  have k : ∀ b o, hp.get? b = some o → ((hp.push (PySem.W.kdv_tup [v])).push (PySem.HandSPX.excO C hp.objs.size)).get? b = some o := fun b o e => Heap.get?_push_of_some _ (Heap.get?_push_of_some _ e)
  have hat : ((hp.push (PySem.W.kdv_tup [v])).push (PySem.HandSPX.excO C hp.objs.size)).get? (hp.objs.size + 1) = some (exR C hp.objs.size none) := by heap_get
  have hnx : K.lookup (hp.objs.size + 1) = none := by
    cases e : K.lookup (hp.objs.size + 1) with
    | none => rfl
    | some o => exact absurd (Nat.lt_of_succ_lt (Heap.lt_size (show hp.get? (hp.objs.size + 1) = some o from X _ _ e))) (Nat.lt_irrefl _)
  have hng : hp.objs.size + 1 ≠ mainGlobals := fun z => by
    obtain ⟨o, _, _, e, _⟩ := hG
    rw [← z] at e
    exact absurd (Nat.lt_of_succ_lt (Heap.lt_size e)) (Nat.lt_irrefl _)
  have nsK : ∀ {b : Addr} {m : Str → Option Value}, hp.Ns b m → ((hp.push (PySem.W.kdv_tup [v])).push (PySem.HandSPX.excO C hp.objs.size)).Ns b m := fun {b m} z => z.keeps k
  refine PySem.HandSPX.call_own F.excBase_ValueError (fun Y => PySem.HandSPX.refsVE_contains Y bm hbm) (X _ _ hC) (PySem.W.looks_findIn X T.iC) (fun self => PySem.W.bind_fn X self B.tI) (len1 v) ?_
  refine init_run (s := ⟨(hp.push (PySem.W.kdv_tup [v])).push (PySem.HandSPX.excO C hp.objs.size), g, dr, tk, os⟩) B T (X.keeps k) (hlim.keeps k) (nsK hG) (nsK hb) hbb hat hnx hng ?_ fun h' tk' dx t1 z => ?_
  · exact hroom
  · have old : ∀ b o, hp.get? b = some o → h'.get? b = some o := fun b o e => z.keep b o (Nat.ne_of_lt (Nat.lt_succ_of_lt (Heap.lt_size e))) (k b o e)
    have z2 : hp.objs.size + 1 + 1 ≤ dx := by
      have y := z.dbig
      first
        | (simpa only [Heap.size_push] using y)
        | (rw [Heap.size_push, Heap.size_push] at y; exact y)
    refine ⟨rfl, hq h' tk' (hp.objs.size + 1) dx ⟨old, Nat.le_succ _, ⟨_, _, z.obj, rfl, rfl, rfl, rfl⟩, ?_, z.dne, z.ns⟩⟩
    show hp.objs.size ≤ dx
    omega
end
theorem relO_value {v : V} {u : Value} (r : RelV v u) (f : Str) : RelO (List.lookup f [(("value" : Str), v)]) (if f = "value" then some u else none) := by
  by_cases e : f = "value"
  · subst e
    rw [if_pos rfl]
    have z : List.lookup ("value" : Str) [(("value" : Str), v)] = some v := by simp [List.lookup]
    rw [z]
    exact r
  · have z : List.lookup f [(("value" : Str), v)] = none := by
      have e2 : (f == ("value" : Str)) = false := by simpa using e
      simp [List.lookup, e2]
    rw [if_neg e, z]
    trivial
section
variable {X : Cx} {C D fI : Addr} {W : WX}
/-- C(e) of an error's class -/
def tMkE (C : Addr) (ta : TA) : L2.St → Hp → XK → Prop := fun σ H Q => ta σ H fun vs H1 => ∃ v, vs = [v] ∧ ∀ d, H1 d = none → Q (.ref C) (some d) (upd H1 d (.xd [(("value" : Str), v)]))
theorem pmk_err {x : Str} {a : Expr} {ta : TA} {p pos : Pos} {k : Nat} (B : ErrBase X.prog X.K X.mg D fI) (T : ErrCls X.K D fI C) (hr : Room k X.A) (gC : X.mg x = some (.ref C)) (ha : PA X [a] ta) (hg : Gl X x)
    (hdb : (x == ("__debug__" : Str)) = false := by decide) (he : starEach (a :: []) X.env = (false, eval a X.env) :: starEach [] X.env := by rfl) (hpl : (backTo pos (starEach [] X.env)).any (·.1) = false := by rfl) :
    PMk X (.Call (.Name x p) [a] [] pos) (tMkE C ta) := by
  intro pins s σ H Q I h
  refine wpAny_Call_Name_kw (ld_glob I hg gC ?_ hdb)
  refine PySem.W.callWith_K (h₀ := X.base) I.ok.mod.kin T.kC (thn (ha.run pos pins s σ H _ I h) fun us s1 hh => ?_) he hpl
  obtain ⟨vs, H1, I1, r1, v, rfl, q1⟩ := hh
  refine ⟨I1.kIn, ?_⟩
  cases r1 with
  | @cons _ v' _ us' rv rn =>
    cases rn
    show wpAny _ _ (call (.ref C) [v']) _ _ _
    have hlim := I1.nolimit
    have hdp := hr.dp
    obtain ⟨mb, hmb, hbb⟩ := I1.mod.blt
    have hbk := I1.bk
    obtain ⟨hp, g, dr, tk, os⟩ := s1
    refine wpAny_call (err_made B T I1.kIn hlim (I1.mod.glob.keeps hbk) (hmb.keeps hbk) hbb (by omega) fun h' tk' e d M => ?_)
    show MkP X pins σ Q (.ref e) ⟨h', g, dr, tk', os⟩
    obtain ⟨oe, fv, hoe, hc, hd, hdat, h1⟩ := M.obj
    have hns := M.ns
    obtain ⟨Gr, g1, g2⟩ := restrict h' fun b => decide (b ≠ e)
    have gk : ∀ b, b ≠ e → Gr.get? b = h'.get? b := fun b hb => g1 b (decide_eq_true hb)
    have ge : Gr.get? e = none := g2 e (by simp)
    have old : ∀ b o, hp.get? b = some o → Gr.get? b = some o := fun b o q => (gk b (Nat.ne_of_lt (Nat.lt_of_lt_of_le (Heap.lt_size q) M.new))).trans (M.keep b o q)
    have ob : ObjOk X.prog X.w (upd H1 d (.xd [(("value" : Str), v)])) Gr d (.xd [(("value" : Str), v)]) :=
      ⟨_, hns.at (fun o q => (gk d M.dne).trans q), fun f => relO_value rv f⟩
    have J : Inv X pins σ (upd H1 d (.xd [(("value" : Str), v)])) ⟨Gr, g, dr, tk', os⟩ := I1.laid (t' := tk') old M.dbig ob
    refine ⟨e, oe, fv, ⟨Gr, g, dr, tk', os⟩, _, .ref C, some d, rfl, J, fun b o q => ?_, ge, hoe, ⟨hc, hd⟩, hdat, h1, ?_, rfl, I1.bare, raises_own T.exC T.tyC, q1 d (I1.hok.fresh M.dbig)⟩
    · by_cases hb : b = e
      · have q' : Gr.get? b = some o := q
        rw [hb, ge] at q'
        cases q'
      · exact (gk b hb).symm.trans q
    · rw [upd_ne (Ne.symm M.dne)]
      exact I1.hok.fresh M.new
/-- raise C(e) -/
theorem ps_raiseE {x : Str} {a : Expr} {ta : TA} {p pos pos2 : Pos} {k : Nat} (hc : X.calm = true) (B : ErrBase X.prog X.K X.mg D fI) (T : ErrCls X.K D fI C) (hr : Room k X.A) (tk : Takes X W) (gC : X.mg x = some (.ref C)) (ha : PA X [a] ta) (hg : Gl X x)
    (hdb : (x == ("__debug__" : Str)) = false := by decide) (he : starEach (a :: []) X.env = (false, eval a X.env) :: starEach [] X.env := by rfl) (hpl : (backTo pos (starEach [] X.env)).any (·.1) = false := by rfl) :
    PS X (.Raise (some (.Call (.Name x p) [a] [] pos)) none pos2) (fun _ σ H => tMkE C ta σ H fun cls d H' => W cls d σ H') :=
  ps_raise hc tk (pmk_err B T hr gC ha hg hdb he hpl)
end
end Wb
/-! Wb2: an error that is caught and kept: tracked; isinstance and .value of it; repr of data. -/
namespace Wb
open PySem PySem.Spec PyProof.Rows L2

/-- at a: a caught error of the class at C, its own dict at d -/
def ExcAt (C d a : Addr) : HO := .ext fun h => ∃ (oe : Obj) (vs : Array Value), h.get? a = some oe ∧ oe.cls = .ref C ∧ oe.dict = some d ∧ oe.data = .fields vs
theorem excAt_ok {P : Program} {w : World} {H : Hp} {h : Heap} {C d a : Addr} {oe : Obj} {vs : Array Value} (e : h.get? a = some oe) (hc : oe.cls = .ref C) (hd : oe.dict = some d) (hv : oe.data = .fields vs) : ObjOk P w H h a (ExcAt C d a) :=
  ⟨⟨oe, vs, e, hc, hd, hv⟩, ⟨oe, e⟩, fun h1 h2 ⟨o, ws, e1, q1, q2, q3⟩ st => ⟨o, ws, st _ e1, q1, q2, q3⟩⟩
section
variable {X : Cx} {pins : List (Addr × Obj)} {σ : L2.St} {H : Hp} {s : Shared}
/-- an object of ours that is not tracked as yet is tracked -/
theorem Inv.trackE {C d a : Addr} {oe : Obj} {vs : Array Value} (I : Inv X pins σ H s) (e : s.heap.get? a = some oe) (hc : oe.cls = .ref C) (hd : oe.dict = some d) (hv : oe.data = .fields vs) (na : H a = none) (nL : a ≠ X.env.locals)
    (n0 : X.s_0.heap.get? a = none) (np : ∀ p ∈ X.pn ++ pins, p.1 ≠ a) : Inv X pins σ (upd H a (ExcAt C d a)) s := by
  have ne0 : ∀ b o, X.s_0.heap.get? b = some o → b ≠ a := fun b o q z => by rw [z, n0] at q; cases q
  have neH : ∀ {b : Addr} {u : HO}, H b = some u → b ≠ a := fun {b u} q => ne_of_none q na
  refine ⟨I.ok, I.os, I.bare, ⟨I.base.keep, I.base.slot, fun b o q n hx => ?_, I.base.there, fun b xs q => ?_, fun b o u q => ?_, fun b ps q => ?_⟩, I.loc, I.cell, ?_, fun x c q => ?_, fun p hp => ?_, fun b u q => ?_, I.len⟩
  · rw [upd_ne (ne0 b o q)]
    exact I.base.free b o q n hx
  · have z := I.base.tups b xs q
    rw [upd_ne (neH z)]
    exact z
  · have z := I.base.frzs b o u q
    rw [upd_ne (neH z)]
    exact z
  · obtain ⟨m, z⟩ := I.base.tbls b ps q
    exact ⟨m, by rw [upd_ne (neH z)]; exact z⟩
  · rw [upd_ne (Ne.symm nL)]
    exact I.free
  · have nc : c ≠ a := fun z => by
      obtain ⟨v, o, ho, hcd⟩ := I.cell x c q
      rw [z, e] at ho
      cases ho
      rw [hv] at hcd
      cases hcd
    rw [upd_ne nc]
    exact I.freeC x c q
  · obtain ⟨q1, q2, q3⟩ := I.pin p hp
    exact ⟨q1, by rw [upd_ne (np p hp)]; exact q2, q3⟩
  · by_cases hb : b = a
    · subst hb
      rw [upd_same] at q
      cases q
      exact excAt_ok e hc hd hv
    · rw [upd_ne hb] at q
      exact (I.hok b u q).stay (fun c v _ z => z) (fun c z => by rw [upd_ne (neH z)]; exact z) fun c xs z => by rw [upd_ne (neH z)]; exact z
end

/-- what the clause 'except x as n: y = n' wishes: n in slot i, y in slot j -/
def wKeep (K : Frag) (c : Value) (i j : Nat) (Wout : WX) (D : Ends) : WX := fun cls d σ H =>
  ∃ b, PySem.W.exmOne K cls c = some b ∧
    (b = true → ∃ C dd, cls = .ref C ∧ d = some dd ∧ ∀ a, H a = none → D.nx (((σ.set i (some (.ref a))).set j (some (.ref a))).set i none) (upd H a (ExcAt C dd a))) ∧ (b = false → Wout cls d σ H)
section
variable {X : Cx} {x n y : Str} {c : Value} {i j : Nat} {body : List Stmt} {np pos pos' p1 p2 p3 : Pos} {tb : WX → TS} {Wout : WX}
theorem ps_try_keep (hs : X.stack = X.env :: X.outer) (hf : X.env.frame = some X.env.locals) (hex : X.ex = []) (hN : X.N.Nodup) (hi : X.N[i]? = some n) (hln : X.env.kindOf n = some .local) (hj : X.N[j]? = some y) (hly : X.env.kindOf y = some .local)
    (hij : i ≠ j) (hnd : (n == ("__debug__" : Str)) = false) (hnc : (n == ("__classdict__" : Str)) = false) (hc : Names X x c) (tk : Takes X Wout)
    (hb : ∀ (W : WX) (pn : List (Addr × Obj)) (xe : Value → Shared → Prop), Takes (X.tr pn xe) W → PassesOwn (model X.prog X.w) X.A X.env xe → PSs (X.tr pn xe) body (tb W))
    (hsw : swapsWith (.Name n p2) (some (.Name y p1)) p3.line X.env = pure false := by rfl) :
    PS X (.Try body [.ExceptHandler (some (.Name x np)) (some n) [.Assign [.Name y p1] (.Name n p2) p3] pos'] [] [] pos) (fun D σ H => tb (wKeep X.K c i j Wout D) D σ H) := by
  refine ⟨fun pins s σ H D I h => ?_⟩
  have ok := I.ok
  have hfr : X.A.frames = some (X.env :: X.outer) := by rw [ok.frames, hs]
  refine wpAny_Try_except ?_
  refine wpAny_mono ((hb (wKeep X.K c i j Wout D) (X.pn ++ pins) (fun e s₁ => wpAny (model X.prog X.w) X.A (noteFrame e X.env) (fun _ s₂ => wpAny (model X.prog X.w) X.A (setFlight e none) (fun _ s₃ =>
    wpAny (model X.prog X.w) X.A (handleBy e X.env [.ExceptHandler (some (.Name x np)) (some n) [.Assign [.Name y p1] (.Name n p2) p3] pos']) (SP X pins D) X.xe s₃) X.xe s₂) X.xe s₁) (fun u s' xx => ?_) PassesOwn.looking).run [] s σ H D (I.toTry _) h) (fun f s1 hsp => ?_) (fun e s1 he => he)
  · obtain ⟨a, B, sI, pins', σ', H', cls, d, rfl, J', nb, up, sky, na, os, ag, b, hb1, hyes, hno⟩ := xx
    have J : Inv X pins σ' H' sI := J'.ofTry ok
    have sky' : Sky B (X.env :: X.outer) a (Zc cls d) X.env.locals s'.heap := by rw [← hs]; exact sky
    show wpAny (model X.prog X.w) X.A (noteFrame (.ref a) X.env) _ _ _
    refine Sky.land Zc.steady hfr hf sky' fun h3 fl3 up3 => ?_
    have J3 : Inv X pins σ' H' { s' with heap := h3 } := J.landed nb fl3.1 (up.trans up3) os ag
    obtain ⟨oe3, vs3, he3, hz3, hd3⟩ := fl3.there
    have Ba : B.get? a = none := fl3.2.1
    have nfr : a ∉ frs (X.env :: X.outer) := fun hm => by
      obtain ⟨_, o', e', hnf⟩ := fl3.2.2.1.mem hm
      rw [he3] at e'
      cases e'
      exact hnf _ hd3
    have nL : a ≠ X.env.locals := fun z => nfr (List.mem_filterMap.mpr ⟨X.env, List.mem_cons_self, by rw [hf, z]⟩)
    have nF : a ∉ X.fs := fun hm => by
      obtain ⟨e, he, q⟩ := List.mem_filterMap.mp hm
      exact nfr (List.mem_filterMap.mpr ⟨e, List.mem_cons_of_mem _ he, q⟩)
    have inB : ∀ b o, sI.heap.get? b = some o → b ∉ frs X.stack → b ≠ a := fun b o q nf z => by
      have := nb b o q nf
      rw [z, Ba] at this
      cases this
    have n0 : X.s_0.heap.get? a = none := by
      cases q : X.s_0.heap.get? a with
      | none => rfl
      | some o =>
        obtain ⟨o', q'⟩ := J.base.there a o q (by rw [hex]; exact List.not_mem_nil)
        exact absurd rfl (inB a o' q' (by rw [hs]; exact nfr))
    have np' : ∀ p ∈ X.pn ++ pins, p.1 ≠ a := fun p hp => by
      obtain ⟨q1, q2, q3, q4, q5⟩ := J.pin p hp
      refine inB p.1 p.2 q1 fun hm => ?_
      rcases List.mem_cons.mp (J.stkSub p.1 hm) with z | z
      · exact q3 z
      · exact q4 z
    have S3 := J3.suite he3 hd3 na nL nF
    refine wpAny_handleBy_cons (codeAny_handlers_test ?_) (by intro q; cases q)
    have LT : PySem.W.Looks (model X.prog X.w) h3 (typeOf (.ref a)) cls := fun A Q E s k q => wpAny_typeOf_ref (k _ _ he3) (by rw [hz3.1]; exact q)
    have LM := PySem.W.exm_one (M := model X.prog X.w) (J3.kIn) LT hb1
    have test : ∀ {Q : Value → Shared → Prop} {E : Value → Shared → Prop}, Q c { s' with heap := h3 } → wpAny (model X.prog X.w) (X.A.mark (some (.ref a))) (eval (.Name x np) X.env) Q E { s' with heap := h3 } := fun {Q E} q => by
      obtain ⟨hg, hdbg, hm | ⟨hm, hv, hnn⟩⟩ := hc
      · exact ld_glob (X := X.suite a ((a, oe3) :: (X.pn ++ pins))) S3 hg hm q hdbg
      · exact ld_blt (X := X.suite a ((a, oe3) :: (X.pn ++ pins))) S3 hg hm hv q hnn hdbg
    refine test (LM.here ?_)
    cases b with
    | true =>
      obtain ⟨C, dd, rfl, rfl, hgo⟩ := hyes rfl
      refine codeAny_handlers_suite_as ?_
      refine HandSPX.lands_againZ fl3 fun h4 fl4 up4 => ?_
      have J4 : Inv X pins σ' H' { s' with heap := h4 } := J.landed nb fl4.1 ((up.trans up3).trans up4) os ag
      obtain ⟨oe4, vs4, he4, hz4, hd4⟩ := fl4.there
      have S4 := J4.suite he4 hd4 na nL nF
      refine store_ok (X := X.suite a ((a, oe4) :: (X.pn ++ pins))) (v := .ref a) S4 hN hi (.inl hln) rfl (fun s5 S5 => ?_) (.inr hln)
      have hil : i < σ'.length := by
        have := J.len
        rw [this]
        exact (List.getElem?_eq_some_iff.mp hi).1
      have body5 : PSs (X.suite a ((a, oe4) :: (X.pn ++ pins))) [.Assign [.Name y p1] (.Name n p2) p3] (tAsg (tVar i) (gName j)) :=
        pss_one (ps_set (X := X.suite a ((a, oe4) :: (X.pn ++ pins))) (i := j) hN hj (.inl hly) (pe_var (X := X.suite a ((a, oe4) :: (X.pn ++ pins))) hi (.inl hln) hnd hnc) hsw (.inr hly))
      refine wpAny_mono (body5.run [] s5 _ H' { nx := fun σ6 H6 => σ6 = (σ'.set i (some (.ref a))).set j (some (.ref a)) ∧ H6 = H', rt := fun _ _ => False } S5 ?_) (fun f s6 hsp => ?_) (fun _ _ z => z.elim)
      · refine ⟨.ref a, ?_, rfl, rfl⟩
        rw [List.getElem?_set_self hil]
      cases f with
      | next =>
        obtain ⟨σ6, H6, S6, rfl, rfl⟩ := hsp
        have I6 : Inv X ((a, oe4) :: pins) ((σ'.set i (some (.ref a))).set j (some (.ref a))) H6 s6 :=
          ⟨ok, S6.os, S6.bare, S6.base, S6.loc, S6.cell, S6.free, S6.freeC, fun p hp => S6.pin p (by
            rw [List.append_nil]
            rcases List.mem_append.mp hp with z | z
            · exact List.mem_cons_of_mem _ (List.mem_append_left _ z)
            · rcases List.mem_cons.mp z with z | z
              · rw [z]; exact List.mem_cons_self
              · exact List.mem_cons_of_mem _ (List.mem_append_right _ z)), S6.hok, S6.len⟩
        refine gone_ok I6 hN hi hln fun s7 J7 => ?_
        obtain ⟨e7, n7, _⟩ := J7.pin (a, oe4) (List.mem_append_right _ List.mem_cons_self)
        have J8 : Inv X pins _ H6 s7 := J7.pins_of fun p hp => J7.pin p (List.mem_append_right _ (List.mem_cons_of_mem _ hp))
        exact ⟨_, _, Inv.trackE J8 e7 hz4.1 hz4.2 hd4 n7 nL n0 np', hgo a n7⟩
      | brk =>
        obtain ⟨_, _, _, q⟩ := hsp
        exact False.elim q
      | cont =>
        obtain ⟨_, _, _, q⟩ := hsp
        exact False.elim q
      | ret u =>
        obtain ⟨_, _, _, _, _, q⟩ := hsp
        exact False.elim q
    | false =>
      show wpAny _ X.A (handleBy (.ref a) X.env []) _ _ _
      refine wpAny_handleBy_nil ?_
      obtain ⟨k1, k2, k3, oe, vs, T, oT, ts', he, hz, hd, h1, hr⟩ := id fl3
      unfold PySem.passOn
      refine wpAny_bind (wpAny_field he hd h1 ?_)
      rw [if_neg (show ¬ ((Value.ref T == Value.none) = true) from by simp)]
      have fin : wpAny (model X.prog X.w) X.A (setFlight (.ref a) X.env.frame) (fun _ s4 => wpAny (model X.prog X.w) X.A (throw (.ref a) : Sem Flow) (SP X pins D) X.xe s4) X.xe { s' with heap := h3 } := by
        rw [hf]
        refine HandSPX.setFlight_upZ fl3 fun h4 hh4 up4 => wpAny_throw (tk _ _ ?_)
        exact ⟨a, B, sI, pins, σ', H', cls, d, rfl, J, nb, (up.trans up3).trans up4, .inr (.inr (by rw [hs]; exact hh4)), na, os, ag, hno rfl⟩
      first
        | exact wpAny_bind (wpAny_pure (wpAny_bind fin))
        | exact wpAny_bind fin
  · cases f with
    | next =>
      obtain ⟨σ', H', J', q⟩ := hsp
      exact wpAny_execs_nil ⟨σ', H', J'.ofTry ok, q⟩
    | brk =>
      obtain ⟨σ', H', J', q⟩ := hsp
      exact ⟨σ', H', J'.ofTry ok, q⟩
    | cont =>
      obtain ⟨σ', H', J', q⟩ := hsp
      exact ⟨σ', H', J'.ofTry ok, q⟩
    | ret u =>
      obtain ⟨v, σ', H', J', r, q⟩ := hsp
      exact ⟨v, σ', H', J'.ofTry ok, r, q⟩
end

/-! ### isinstance, .value of a kept error -/
/-- what a class of errors must say for isinstance to ask its instances rightly -/
structure IsC (K : Frag) (C : Addr) : Prop where
  hcl : (PySem.W.clsIn K C).isSome = true
  hg : PySem.W.findIn K (.ref C) "__getattribute__" = some (some (.builtin "BaseException.__getattribute__"))
  hk : PySem.W.findIn K (.ref C) "__getattr__" = some none
  hs : PySem.W.subIn K (.ref C) (.type "BaseException") = some true
  ha : PySem.W.findIn K (.ref C) "__class__" = some (some (.builtin "object.__class__"))
  hn : PySem.W.specialIn K (.builtin "object.__class__") "__get__" = some (some (.builtin "getset_descriptor.__get__"))
  ht : PySem.W.takesIn K (.builtin "object.__class__") = some true
  hm : PySem.W.mroIn K C (.type "object") = some true
section
variable {X : Cx}
/-- isinstance(e, c), e a kept error -/
def rIsK (K : Frag) : List V → Hp → VK → Prop := fun xs H Q => ∃ (a C dd : Addr) (fs : List (Str × V)) (c : V) (cv : Value) (b : Bool), xs = [.ref a, c] ∧ H a = some (ExcAt C dd a) ∧ H dd = some (.xd fs) ∧ IsC K C ∧ (∀ u, RelV c u → u = cv) ∧
  PySem.W.kitOne K (.ref C) cv = some b ∧ Q (.bl b) H
theorem call_isK : CallR X (.builtin "isinstance") (rIsK X.K) := by
  intro pins s σ H xs us Q I r h
  obtain ⟨a, C, dd, fs, c, cv, b, rfl, ha, hdd, T, hcv, e, q⟩ := h
  cases r with
  | cons rx rr =>
    cases rr with
    | cons rt rr =>
      cases rr
      cases rx
      have ec := hcv _ rt
      subst ec
      obtain ⟨⟨oe, vs, e1, e2, e3, e4⟩, _⟩ := I.hok a _ ha
      obtain ⟨mA, hns, _⟩ := (show ObjOk X.prog X.w H s.heap dd (.xd fs) from I.hok dd _ hdd)
      obtain ⟨od, ho, _⟩ := lookIn_ns hns
      have J : PySem.W.InstAt s.heap a oe C (some od) := ⟨e1, e2, by unfold PySem.W.notCls; rw [e4] <;> rfl, by rw [e3]; exact ho⟩
      exact PySem.W.kia_one (PySem.W.kitx_exc T.hcl T.hg T.hk T.hs T.ha T.hn T.ht T.hm) I.kIn J e (fun z => nomatch z) fun tk => ⟨.bl b, H, I.kept (t' := tk) fun _ _ z => z, rfl, q⟩
/-- e.value, e a kept error -/
def tValue (K : Frag) (D fI : Addr) (te : TE) : TE := fun σ H Q => te σ H fun x H1 => ∃ (a C dd : Addr) (v : V), x = .ref a ∧ ErrCls K D fI C ∧ H1 a = some (ExcAt C dd a) ∧ H1 dd = some (.xd [(("value" : Str), v)]) ∧ Q v H1
theorem pe_value {D fI : Addr} {e : Expr} {te : TE} {pos : Pos} (he : PE X e te) (hb : attributeBase e "value" X.env (eval e X.env) = eval e X.env := by rfl) : PE X (.Attribute e "value" pos) (tValue X.K D fI te) := by
  refine ⟨fun pins s σ H Q I h => ?_⟩
  refine attr_of hb (thn (he.run pins s σ H _ I h) fun u s1 hh => ?_)
  obtain ⟨x, H1, I1, rx, a, C, dd, v, rfl, T, ha, hdd, q⟩ := hh
  obtain rfl : u = Value.ref a := rx
  obtain ⟨⟨oe, vs, e1, e2, e3, e4⟩, _⟩ := I1.hok a _ ha
  obtain ⟨mA, hns, hr⟩ := (show ObjOk X.prog X.w H1 s1.heap dd (.xd [(("value" : Str), v)]) from I1.hok dd _ hdd)
  obtain ⟨od, ho, hl⟩ := lookIn_ns hns
  have l : List.lookup ("value" : Str) [(("value" : Str), v)] = some v := by simp [List.lookup]
  obtain ⟨u, hu, ru⟩ := RelO.some_of (v := v) (o := mA "value") (by rw [← l]; exact hr "value")
  have J : PySem.W.InstAt s1.heap a oe C (some od) := ⟨e1, e2, by unfold PySem.W.notCls; rw [e4] <;> rfl, by rw [e3]; exact ho⟩
  exact HandSPX.exc_get I1.kIn J T.ga T.gg T.exC (PySem.W.findObj_own T.hdC T.noN rfl (by rw [hl, hu])) (handed_of ru) ⟨v, H1, I1.tok _, ru, q⟩

/-! ### repr of data -/
/-- what repr takes: the text fits -/
def ROk (d : PyData) : Prop := d.showable = true ∧ d.shown.length ≤ sizeLine ∧ d.depth ≤ 64
def rRepr (K : Frag) : List V → Hp → VK → Prop := fun xs H Q => ∃ (v : V) (d : PyData), xs = [v] ∧ Dp K H v d ∧ ROk d ∧ Q (.str d.shown) H
mutual
theorem noDict_of {K : Frag} {H : Hp} : ∀ {v : V} {d : PyData}, Dp K H v d → d.hasDict = false
  | _, _, .non => by simp only [PyData.hasDict]
  | _, _, .bl _ => by simp only [PyData.hasDict]
  | _, _, .int _ => by simp only [PyData.hasDict]
  | _, _, .str _ => by simp only [PyData.hasDict]
  | _, _, .lst _ h => by simp only [PyData.hasDict]; exact noDictAll_of h
  | _, _, .tup _ h => by simp only [PyData.hasDict]; exact noDictAll_of h
theorem noDictAll_of {K : Frag} {H : Hp} : ∀ {vs : List V} {ds : List PyData}, DpAll K H vs ds → PyData.hasDictAll ds = false
  | _, _, .nil => by simp only [PyData.hasDictAll]
  | _, _, .cons h1 h2 => by simp only [PyData.hasDictAll, noDict_of h1, noDictAll_of h2, Bool.or_self]
end
theorem call_reprD (hgd : X.A.guards = some []) (hu : X.A.units + 66 < cLine) : CallR X (.builtin "repr") (rRepr X.K) := by
  intro pins s σ H xs us Q I r h
  obtain ⟨v, d, rfl, hd, ⟨r1, r2, r3⟩, q⟩ := h
  cases r with
  | @cons _ u _ us' rx rr =>
    cases rr
    obtain ⟨as, hr⟩ := Dp.reads I d v u hd rx
    have nd := noDict_of hd
    cases hd with
    | non =>
      obtain rfl : u = Value.none := rx
      exact PySem.P.repr_of_none ⟨.str _, H, I.tok _, ⟨_, rfl⟩, q⟩
    | bl b =>
      obtain rfl : u = Value.bool b := rx
      exact PySem.P.repr_of_bool ⟨.str _, H, I.tok _, ⟨_, rfl⟩, q⟩
    | int i =>
      obtain ⟨t, rfl⟩ := rx
      have r1' : i.natAbs.log2 < 1920 := by simpa [PyData.showable] using r1
      exact PySem.P.repr_of_int r1' ⟨.str _, H, I.tok _, ⟨_, rfl⟩, q⟩
    | str x =>
      obtain ⟨t, rfl⟩ := rx
      exact PySem.P.repr_of_str ⟨.str _, H, I.tok _, ⟨_, rfl⟩, q⟩ (by simpa [PyData.shown] using r2)
    | lst hs ha =>
      obtain rfl : u = Value.ref _ := rx
      exact repr_of_reads' hr r1 (PyData.noDict_hsm nd) hgd (by omega) (fun _ _ z => z) (fun h' u' tk k => ⟨.str _, H, I.kept (h' := h') (t' := tk) k, ⟨_, rfl⟩, q⟩) r2
    | tup hs ha =>
      obtain rfl : u = Value.ref _ := rx
      exact repr_of_reads' hr r1 (PyData.noDict_hsm nd) hgd (by omega) (fun _ _ z => z) (fun h' u' tk k => ⟨.str _, H, I.kept (h' := h') (t' := tk) k, ⟨_, rfl⟩, q⟩) r2
end
end Wb
/-! Wb3: values as data. A state of a def is told by what its slots hold as data (DV), lists of its own apart; a reading is a wish about data. -/
namespace Wb
open PySem PySem.Spec PyProof.Rows L2

abbrev PD := PyData
/-- a value told as data: plain data, a kept error (its class by number, what it holds), the well -/
inductive DV where
  | d (x : PD) | exc (c : Nat) (x : PD) | well (script : Option (List Int))
/-- the well itself (with a script's ints: the script, a list that nobody may change) -/
abbrev DV.wel : DV := .well none
abbrev DV.scr (ns : List Int) : DV := .well (some ns)
/-- what a slot holds: nothing told, a value, a list of this def's own -/
inductive Sl where
  | no | v (x : DV) | own (xs : List PD)
abbrev EK := Nat → PD → Prop
abbrev DE := List Sl → (DV → Prop) → EK → Prop
abbrev DT := List Sl → (Bool → Prop) → EK → Prop
abbrev DA := List Sl → (List DV → Prop) → EK → Prop
/-- a list of one's own, new -/
abbrev DN := List Sl → (List PD → Prop) → EK → Prop
structure DEnds where
  nx : List Sl → Prop
  rt : List Sl → DV → Prop
  bk : List Sl → Prop
  ct : List Sl → Prop
  ex : List Sl → EK
abbrev DS := DEnds → List Sl → Prop

/-! ### data heaps within heaps -/
structure Post (wl : Option Addr) (S H S' H' : Hp) : Prop where
  sS : Same S S'
  fr : ∀ a, H a ≠ none → S a = none → S' a = none
  kp : ∀ a o, H a = some o → wl ≠ some a → H' a = some o
  al : ∀ a, H a ≠ none → H' a ≠ none
theorem Post.refl {wl : Option Addr} {S H : Hp} : Post wl S H S H := ⟨Same.refl S, fun _ _ h => h, fun _ _ h _ => h, fun _ h => h⟩
theorem Post.trans {wl : Option Addr} {S H S1 H1 S2 H2 : Hp} (p : Post wl S H S1 H1) (q : Post wl S1 H1 S2 H2) : Post wl S H S2 H2 :=
  ⟨p.sS.trans q.sS, fun a h s => q.fr a (p.al a h) (p.fr a h s), fun a o h w => q.kp a o (p.kp a o h w) w, fun a h => q.al a (p.al a h)⟩
theorem Post.wk {wl : Option Addr} {S H S' H' : Hp} (p : Post none S H S' H') : Post wl S H S' H' := ⟨p.sS, p.fr, fun a o h _ => p.kp a o h (by intro z; cases z), p.al⟩
/-- what grows, all else as it was -/
structure Grow (S H S' H' : Hp) : Prop where
  po : Post none S H S' H'
  sm : Same S' H'
theorem Grow.refl {S H : Hp} (h : Same S H) : Grow S H S H := ⟨Post.refl, h⟩
theorem Grow.trans {S H S1 H1 S2 H2 : Hp} (p : Grow S H S1 H1) (q : Grow S1 H1 S2 H2) : Grow S H S2 H2 := ⟨p.po.trans q.po, q.sm⟩
theorem Grow.new {S H : Hp} {p : Addr} {o : HO} (h : Same S H) (hp : H p = none) : Grow S H (upd S p o) (upd H p o) := by
  have sp : S p = none := h.free hp
  refine ⟨⟨fun b u e => ?_, fun a ha sa => ?_, fun a u e _ => ?_, fun a ha => ?_⟩, fun b u e => ?_⟩
  · rw [upd_ne (ne_of_none e sp)]; exact e
  · have : a ≠ p := fun z => ha (z ▸ hp)
    rw [upd_ne this]; exact sa
  · rw [upd_ne (ne_of_none e hp)]; exact e
  · have : a ≠ p := fun z => ha (z ▸ hp)
    rw [upd_ne this]; exact ha
  · by_cases hb : b = p
    · subst hb; rw [upd_same] at e ⊢; exact e
    · rw [upd_ne hb] at e ⊢; exact h b u e
/-- the new object stands beside, not as data -/
theorem Grow.beside {S H : Hp} {p : Addr} {o : HO} (h : Same S H) (hp : H p = none) : Grow S H S (upd H p o) := by
  refine ⟨⟨Same.refl S, fun _ _ s => s, fun a u e _ => ?_, fun a ha => ?_⟩, fun b u e => ?_⟩
  · rw [upd_ne (ne_of_none e hp)]; exact e
  · have : a ≠ p := fun z => ha (z ▸ hp)
    rw [upd_ne this]; exact ha
  · rw [upd_ne (ne_of_none (h b u e) hp)]; exact h b u e

mutual
/-- v stands for the datum, its lists tracked by S -/
inductive Dq (K : Frag) (S : Hp) : V → PD → Prop
  | non : Dq K S .non .none
  | bl (b : Bool) : Dq K S (.bl b) (.bool b)
  | int (i : Int) : Dq K S (.int i) (.int i)
  | str (x : Str) : Dq K S (.str x) (.str x)
  | lst {a : Addr} {xs : List V} {ds : List PD} : S a = some (.lst xs) → DqAll K S xs ds → Dq K S (.ref a) (.list ds)
  | tup {a : Addr} {xs : List V} {ds : List PD} : SqT K S a xs → DqAll K S xs ds → Dq K S (.ref a) (.tuple ds)
inductive DqAll (K : Frag) (S : Hp) : List V → List PD → Prop
  | nil : DqAll K S [] []
  | cons {v : V} {vs : List V} {d : PD} {ds : List PD} : Dq K S v d → DqAll K S vs ds → DqAll K S (v :: vs) (d :: ds)
end
theorem sqT_mono {K : Frag} {S S' : Hp} {a : Addr} {xs : List V} (e : Same S S') (h : SqT K S a xs) : SqT K S' a xs := by
  rcases h with (h | ⟨o, h⟩) | h
  · exact .inl (.inl (e _ _ h))
  · exact .inl (.inr ⟨o, e _ _ h⟩)
  · exact .inr h
mutual
theorem dq_mono {K : Frag} {S S' : Hp} (e : Same S S') : ∀ {v : V} {d : PD}, Dq K S v d → Dq K S' v d
  | _, _, .non => .non
  | _, _, .bl b => .bl b
  | _, _, .int i => .int i
  | _, _, .str x => .str x
  | _, _, .lst h t => .lst (e _ _ h) (dqAll_mono e t)
  | _, _, .tup h t => .tup (sqT_mono e h) (dqAll_mono e t)
theorem dqAll_mono {K : Frag} {S S' : Hp} (e : Same S S') : ∀ {vs : List V} {ds : List PD}, DqAll K S vs ds → DqAll K S' vs ds
  | _, _, .nil => .nil
  | _, _, .cons h t => .cons (dq_mono e h) (dqAll_mono e t)
end
mutual
theorem Dq.dp {K : Frag} {S : Hp} : ∀ {v : V} {d : PD}, Dq K S v d → Dp K S v d
  | _, _, .non => .non
  | _, _, .bl b => .bl b
  | _, _, .int i => .int i
  | _, _, .str x => .str x
  | _, _, .lst h t => .lst (SqL.of h) (DqAll.dp t)
  | _, _, .tup h t => .tup h (DqAll.dp t)
theorem DqAll.dp {K : Frag} {S : Hp} : ∀ {vs : List V} {ds : List PD}, DqAll K S vs ds → DpAll K S vs ds
  | _, _, .nil => .nil
  | _, _, .cons h t => .cons (Dq.dp h) (DqAll.dp t)
end
theorem DqAll.len {K : Frag} {S : Hp} : ∀ {vs : List V} {ds : List PD}, DqAll K S vs ds → vs.length = ds.length
  | _, _, .nil => rfl
  | _, _, .cons _ t => by rw [List.length_cons, List.length_cons, DqAll.len t]
theorem DqAll.app {K : Frag} {S : Hp} : ∀ {vs us : List V} {ds es : List PD}, DqAll K S vs ds → DqAll K S us es → DqAll K S (vs ++ us) (ds ++ es)
  | _, _, _, _, .nil, h => h
  | _, _, _, _, .cons a t, h => .cons a (DqAll.app t h)
theorem DqAll.at {K : Frag} {S : Hp} : ∀ {vs : List V} {ds : List PD} {i : Nat} {d : PD}, DqAll K S vs ds → ds[i]? = some d → ∃ v, vs[i]? = some v ∧ Dq K S v d
  | _, _, 0, _, .cons a _, e => by
    simp at e
    subst e
    exact ⟨_, rfl, a⟩
  | _, _, i + 1, _, .cons _ t, e => by
    obtain ⟨v, h1, h2⟩ := DqAll.at (i := i) t (by simpa using e)
    exact ⟨v, by simpa using h1, h2⟩
  | _, _, _, _, .nil, e => by simp at e
theorem DqAll.atV {K : Frag} {S : Hp} : ∀ {vs : List V} {ds : List PD} {i : Nat} {v : V}, DqAll K S vs ds → vs[i]? = some v → ∃ d, ds[i]? = some d ∧ Dq K S v d
  | _, _, 0, _, .cons a _, e => by
    simp at e
    subst e
    exact ⟨_, rfl, a⟩
  | _, _, i + 1, _, .cons _ t, e => by
    obtain ⟨v, h1, h2⟩ := DqAll.atV (i := i) t (by simpa using e)
    exact ⟨v, by simpa using h1, h2⟩
  | _, _, _, _, .nil, e => by simp at e
theorem DqAll.set {K : Frag} {S : Hp} {v : V} {d : PD} (h : Dq K S v d) : ∀ {vs : List V} {ds : List PD} (i : Nat), DqAll K S vs ds → DqAll K S (vs.set i v) (ds.set i d)
  | _, _, _, .nil => .nil
  | _, _, 0, .cons _ t => .cons h t
  | _, _, i + 1, .cons a t => .cons a (DqAll.set h i t)
theorem DqAll.take {K : Frag} {S : Hp} : ∀ {vs : List V} {ds : List PD} (i : Nat), DqAll K S vs ds → DqAll K S (vs.take i) (ds.take i)
  | _, _, 0, _ => .nil
  | _, _, _ + 1, .nil => .nil
  | _, _, i + 1, .cons a t => .cons a (DqAll.take i t)
theorem DqAll.drop {K : Frag} {S : Hp} : ∀ {vs : List V} {ds : List PD} (i : Nat), DqAll K S vs ds → DqAll K S (vs.drop i) (ds.drop i)
  | _, _, 0, h => h
  | _, _, _ + 1, .nil => .nil
  | _, _, i + 1, .cons _ t => DqAll.drop i t
theorem DqAll.rev {K : Frag} {S : Hp} : ∀ {vs : List V} {ds : List PD}, DqAll K S vs ds → DqAll K S vs.reverse ds.reverse
  | _, _, .nil => .nil
  | _, _, .cons a t => by rw [List.reverse_cons, List.reverse_cons]; exact DqAll.app (DqAll.rev t) (.cons a .nil)
theorem DqAll.repl {K : Frag} {S : Hp} {v : V} {d : PD} (h : Dq K S v d) : ∀ n, DqAll K S (List.replicate n v) (List.replicate n d)
  | 0 => .nil
  | n + 1 => .cons h (DqAll.repl h n)
theorem DqAll.ints {K : Frag} {S : Hp} : ∀ l : List Int, DqAll K S (l.map V.int) (l.map PyData.int)
  | [] => .nil
  | i :: l => .cons (.int i) (DqAll.ints l)
theorem dq_lst {K : Frag} {S : Hp} {p : Addr} {vs : List V} {ds : List PD} (h : S p = some (.lst vs)) (t : DqAll K S vs ds) : Dq K S (.ref p) (.list ds) := .lst h t
theorem dq_tup {K : Frag} {S : Hp} {p : Addr} {vs : List V} {ds : List PD} (h : S p = some (.tup vs)) (t : DqAll K S vs ds) : Dq K S (.ref p) (.tuple ds) := .tup (SqT.of h) t
/-! ### the state -/
/-- the entry of a def: the well (if it has one), the data heap and the heap there; the table of the classes of errors -/
structure En where
  CT : Nat → Addr
  wl : Option Addr
  S0 : Hp
  H0 : Hp
  pa : Addr → Prop := fun _ => True
abbrev En.of (CT : Nat → Addr) (wl : Option Addr) (S0 H0 : Hp) : En := ⟨CT, wl, S0, H0, fun _ => True⟩
def WOk (m : Nat) (a b c : Int) : Prop := 0 ≤ a ∧ 0 ≤ b ∧ 0 ≤ c ∧ a.natAbs < 2 ^ 1200000 ∧ b.natAbs < 2 ^ 200 ∧ c + (m : Int) ≤ 2 ^ 60
structure Wd (wl : Option Addr) (m : Nat) (S H : Hp) : Prop where
  sm : Same S H
  we : ∀ p, wl = some p → S p = none ∧ ∃ a b c, H p = some (.lst [.int a, .int b, .int c]) ∧ WOk m a b c
def DvOk (K : Frag) (n : En) (S : Hp) (v : V) : DV → Prop
  | .d x => Dq K S v x
  | .exc c x => ∃ a dd v', v = .ref a ∧ S a = some (ExcAt (n.CT c) dd a) ∧ S dd = some (.xd [(("value" : Str), v')]) ∧ Dq K S v' x
  | .well none => ∃ p, v = .ref p ∧ n.wl = some p
  | .well (some ns) => ∃ p, v = .ref p ∧ SqL K S p (ns.map V.int)
inductive DvAll (K : Frag) (n : En) (S : Hp) : List V → List DV → Prop
  | nil : DvAll K n S [] []
  | cons {v : V} {vs : List V} {x : DV} {xs : List DV} : DvOk K n S v x → DvAll K n S vs xs → DvAll K n S (v :: vs) (x :: xs)
def ErrOk (K : Frag) (n : En) (S H : Hp) (c : Nat) (x : PD) (cls : Value) (dx : Option Addr) : Prop := ∃ dd v, cls = .ref (n.CT c) ∧ dx = some dd ∧ S dd = some (.xd [(("value" : Str), v)]) ∧ Dq K S v x
theorem dv_mono {K : Frag} {n : En} {S S' : Hp} (e : Same S S') {v : V} : ∀ {x : DV}, DvOk K n S v x → DvOk K n S' v x
  | .d _, h => dq_mono e h
  | .exc _ _, ⟨a, dd, v', h1, h2, h3, h4⟩ => ⟨a, dd, v', h1, e _ _ h2, e _ _ h3, dq_mono e h4⟩
  | .well none, h => h
  | .well (some _), ⟨p, h1, h2⟩ => ⟨p, h1, e.seq h2⟩
theorem dvAll_mono {K : Frag} {n : En} {S S' : Hp} (e : Same S S') : ∀ {vs : List V} {xs : List DV}, DvAll K n S vs xs → DvAll K n S' vs xs
  | _, _, .nil => .nil
  | _, _, .cons h t => .cons (dv_mono e h) (dvAll_mono e t)
theorem DvAll.len {K : Frag} {n : En} {S : Hp} : ∀ {vs : List V} {xs : List DV}, DvAll K n S vs xs → vs.length = xs.length
  | _, _, .nil => rfl
  | _, _, .cons _ t => by rw [List.length_cons, List.length_cons, DvAll.len t]
def SlOk (K : Frag) (n : En) (S H : Hp) (A : Addr) (o : Option (Option V)) : Sl → Prop
  | .no => True
  | .v x => ∃ v, o = some (some v) ∧ DvOk K n S v x
  | .own xs => o = some (some (.ref A)) ∧ S A = none ∧ (n.H0 A = none ∧ n.pa A) ∧ n.wl ≠ some A ∧ ∃ vs, H A = some (.lst vs) ∧ DqAll K S vs xs
structure StOk (K : Frag) (n : En) (m : Nat) (S H : Hp) (σ : L2.St) (ρ : List Sl) : Prop where
  wd : Wd n.wl m S H
  po : Post n.wl n.S0 n.H0 S H
  len : σ.length = ρ.length
  sl : ∃ A : Nat → Addr, (∀ i s, ρ[i]? = some s → SlOk K n S H (A i) σ[i]? s) ∧ ∀ i j xs ys, ρ[i]? = some (.own xs) → ρ[j]? = some (.own ys) → A i = A j → i = j
section
variable {K : Frag} {n : En} {m m' : Nat} {S H S' H' : Hp} {σ : L2.St} {ρ : List Sl}
theorem Wd.le {wl : Option Addr} (w : Wd wl m S H) (h : m' ≤ m) : Wd wl m' S H := ⟨w.sm, fun p e => by
  obtain ⟨h1, a, b, c, h2, h3, h4, h5, h6, h7, h8⟩ := w.we p e
  exact ⟨h1, a, b, c, h2, h3, h4, h5, h6, h7, by omega⟩⟩
theorem StOk.le (s : StOk K n m S H σ ρ) (h : m' ≤ m) : StOk K n m' S H σ ρ := ⟨s.wd.le h, s.po, s.len, s.sl⟩
theorem SlOk.post {A : Addr} {o : Option (Option V)} (p : Post n.wl S H S' H') : ∀ {s : Sl}, SlOk K n S H A o s → SlOk K n S' H' A o s
  | .no, _ => trivial
  | .v _, ⟨v, h1, h2⟩ => ⟨v, h1, dv_mono p.sS h2⟩
  | .own _, ⟨h1, h2, h3, h4, vs, h5, h6⟩ => ⟨h1, p.fr A (by rw [h5]; exact Option.some_ne_none _) h2, h3, h4, vs, p.kp A _ h5 h4, dqAll_mono p.sS h6⟩
/-- behind a step that keeps this def's own -/
theorem StOk.step (s : StOk K n m S H σ ρ) (p : Post n.wl S H S' H') (w : Wd n.wl m' S' H') : StOk K n m' S' H' σ ρ :=
  ⟨w, s.po.trans p, s.len, let ⟨A, h1, h2⟩ := s.sl; ⟨A, fun i t e => (h1 i t e).post p, h2⟩⟩
theorem Wd.grow {wl : Option Addr} (w : Wd wl m S H) (g : Grow S H S' H') : Wd wl m S' H' := ⟨g.sm, fun p e => by
  obtain ⟨h1, a, b, c, h2, h3⟩ := w.we p e
  exact ⟨g.po.fr p (by rw [h2]; exact Option.some_ne_none _) h1, a, b, c, g.po.kp p _ h2 (by intro z; cases z), h3⟩⟩
theorem StOk.grow (s : StOk K n m S H σ ρ) (g : Grow S H S' H') : StOk K n m S' H' σ ρ := s.step g.po.wk (s.wd.grow g)
theorem StOk.set {i : Nat} {v : V} {x : DV} (s : StOk K n m S H σ ρ) (h : DvOk K n S v x) : StOk K n m S H (σ.set i (some v)) (ρ.set i (.v x)) := by
  refine ⟨s.wd, s.po, by rw [List.length_set, List.length_set]; exact s.len, ?_⟩
  obtain ⟨A, h1, h2⟩ := s.sl
  refine ⟨A, fun j t e => ?_, fun j k xs ys e1 e2 => ?_⟩
  · by_cases hj : i = j
    · subst hj
      have hl : i < ρ.length := by
        have := (List.getElem?_eq_some_iff.mp e).1
        rwa [List.length_set] at this
      rw [List.getElem?_set_self hl] at e
      cases e
      exact ⟨v, by rw [List.getElem?_set_self (by rw [s.len]; exact hl)], h⟩
    · rw [List.getElem?_set_ne hj] at e
      rw [List.getElem?_set_ne hj]
      exact h1 j t e
  · have no : ∀ k zs, (ρ.set i (.v x))[k]? = some (Sl.own zs) → ρ[k]? = some (Sl.own zs) := fun k zs e => by
      by_cases hj : i = k
      · subst hj
        have hl : i < ρ.length := by
          have := (List.getElem?_eq_some_iff.mp e).1
          rwa [List.length_set] at this
        rw [List.getElem?_set_self hl] at e
        cases e
      · rwa [List.getElem?_set_ne hj] at e
    exact h2 j k xs ys (no _ _ e1) (no _ _ e2)
theorem StOk.setNo {i : Nat} {w : Option V} (s : StOk K n m S H σ ρ) : StOk K n m S H (σ.set i w) (ρ.set i .no) := by
  refine ⟨s.wd, s.po, by rw [List.length_set, List.length_set]; exact s.len, ?_⟩
  obtain ⟨A, h1, h2⟩ := s.sl
  refine ⟨A, fun j t e => ?_, fun j k xs ys e1 e2 => ?_⟩
  · by_cases hj : i = j
    · subst hj
      have hl : i < ρ.length := by
        have := (List.getElem?_eq_some_iff.mp e).1
        rwa [List.length_set] at this
      rw [List.getElem?_set_self hl] at e
      cases e
      exact trivial
    · rw [List.getElem?_set_ne hj] at e
      rw [List.getElem?_set_ne hj]
      exact h1 j t e
  · have no : ∀ k zs, (ρ.set i Sl.no)[k]? = some (Sl.own zs) → ρ[k]? = some (Sl.own zs) := fun k zs e => by
      by_cases hj : i = k
      · subst hj
        have hl : i < ρ.length := by
          have := (List.getElem?_eq_some_iff.mp e).1
          rwa [List.length_set] at this
        rw [List.getElem?_set_self hl] at e
        cases e
      · rwa [List.getElem?_set_ne hj] at e
    exact h2 j k xs ys (no _ _ e1) (no _ _ e2)
/-- a new list of one's own goes to a slot -/
theorem StOk.setOwn {i : Nat} {p : Addr} {vs : List V} {xs : List PD} (s : StOk K n m S H σ ρ) (hp : H p = some (.lst vs)) (hs : S p = none) (h0 : n.H0 p = none ∧ n.pa p) (hw : n.wl ≠ some p) (hd : DqAll K S vs xs)
    (hne : ∀ (A : Nat → Addr) j ys, (∀ i s, ρ[i]? = some s → SlOk K n S H (A i) σ[i]? s) → ρ[j]? = some (.own ys) → j ≠ i → A j ≠ p) : StOk K n m S H (σ.set i (some (.ref p))) (ρ.set i (.own xs)) := by
  refine ⟨s.wd, s.po, by rw [List.length_set, List.length_set]; exact s.len, ?_⟩
  obtain ⟨A, h1, h2⟩ := s.sl
  have ne : ∀ j ys, ρ[j]? = some (Sl.own ys) → j ≠ i → A j ≠ p := fun j ys e hj => hne A j ys h1 e hj
  have hl : ∀ {t : Sl}, (ρ.set i (.own xs))[i]? = some t → i < ρ.length := fun {t} e => by
    have := (List.getElem?_eq_some_iff.mp e).1
    rwa [List.length_set] at this
  refine ⟨fun j => if j = i then p else A j, fun j t e => ?_, fun j k ys zs e1 e2 => ?_⟩
  · by_cases hj : i = j
    · subst hj
      have hl := hl e
      rw [List.getElem?_set_self hl] at e
      cases e
      show SlOk K n S H (if i = i then p else A i) _ _
      rw [if_pos rfl]
      exact ⟨by rw [List.getElem?_set_self (by rw [s.len]; exact hl)], hs, h0, hw, vs, hp, hd⟩
    · rw [List.getElem?_set_ne hj] at e
      rw [List.getElem?_set_ne hj]
      show SlOk K n S H (if j = i then p else A j) _ _
      rw [if_neg (Ne.symm hj)]
      exact h1 j t e
  · by_cases hj : j = i
    · by_cases hk : k = i
      · intro _; rw [hj, hk]
      · intro z
        have e2' : ρ[k]? = some (Sl.own zs) := by rwa [List.getElem?_set_ne (Ne.symm hk)] at e2
        have z : (if j = i then p else A j) = (if k = i then p else A k) := z
        rw [if_pos hj, if_neg hk] at z
        exact absurd z.symm (ne k zs e2' hk)
    · have e1' : ρ[j]? = some (Sl.own ys) := by rwa [List.getElem?_set_ne (Ne.symm hj)] at e1
      by_cases hk : k = i
      · intro z
        have z : (if j = i then p else A j) = (if k = i then p else A k) := z
        rw [if_neg hj, if_pos hk] at z
        exact absurd z (ne j ys e1' hj)
      · have e2' : ρ[k]? = some (Sl.own zs) := by rwa [List.getElem?_set_ne (Ne.symm hk)] at e2
        intro z
        have z : (if j = i then p else A j) = (if k = i then p else A k) := z
        rw [if_neg hj, if_neg hk] at z
        exact h2 j k ys zs e1' e2' z
/-- one's own list is changed -/
theorem StOk.write {i : Nat} {xs ys : List PD} (s : StOk K n m S H σ ρ) (hi : ρ[i]? = some (.own xs)) : ∃ p vs, σ[i]? = some (some (.ref p)) ∧ H p = some (.lst vs) ∧ DqAll K S vs xs ∧
    ∀ us, DqAll K S us ys → StOk K n m S (upd H p (.lst us)) σ (ρ.set i (.own ys)) := by
  obtain ⟨A, h1, h2⟩ := s.sl
  obtain ⟨g1, g2, g3, g4, vs, g5, g6⟩ := h1 i _ hi
  have hl : i < ρ.length := (List.getElem?_eq_some_iff.mp hi).1
  refine ⟨A i, vs, g1, g5, g6, fun us hu => ⟨⟨fun b o e => ?_, fun p e => ?_⟩, ⟨s.po.sS, s.po.fr, fun a o e w => ?_, fun a ha => ?_⟩, by rw [List.length_set]; exact s.len, A, fun j t e => ?_, fun j k ys' zs e1 e2 z => ?_⟩⟩
  · rw [upd_ne (ne_of_none e g2)]
    exact s.wd.sm b o e
  · obtain ⟨q1, a, b, c, q2, q3⟩ := s.wd.we p e
    exact ⟨q1, a, b, c, by rw [upd_ne (fun z => g4 (by rw [← z]; exact e))]; exact q2, q3⟩
  · rw [upd_ne (ne_of_none e g3.1)]
    exact s.po.kp a o e w
  · by_cases z : a = A i
    · rw [z, upd_same]; exact Option.some_ne_none _
    · rw [upd_ne z]; exact s.po.al a ha
  · by_cases hj : i = j
    · subst hj
      rw [List.getElem?_set_self hl] at e
      cases e
      exact ⟨g1, g2, g3, g4, us, upd_same, hu⟩
    · rw [List.getElem?_set_ne hj] at e
      have q := h1 j t e
      cases t with
      | no => exact trivial
      | v x => exact q
      | own zs =>
        obtain ⟨q1, q2, q3, q4, ws, q5, q6⟩ := q
        have : A j ≠ A i := fun z => hj (h2 j i zs xs e hi z).symm
        exact ⟨q1, q2, q3, q4, ws, by rw [upd_ne this]; exact q5, q6⟩
  · have oo : ∀ k zs, (ρ.set i (Sl.own ys))[k]? = some (Sl.own zs) → ∃ ws, ρ[k]? = some (Sl.own ws) := fun k zs e => by
      by_cases hk : i = k
      · subst hk; exact ⟨xs, hi⟩
      · rw [List.getElem?_set_ne hk] at e; exact ⟨zs, e⟩
    obtain ⟨_, f1⟩ := oo _ _ e1
    obtain ⟨_, f2⟩ := oo _ _ e2
    exact h2 j k _ _ f1 f2 z
/-- one's own list becomes data -/
theorem StOk.freeze {i : Nat} {xs : List PD} (s : StOk K n m S H σ ρ) (hi : ρ[i]? = some (.own xs)) : ∃ S', Same S S' ∧ StOk K n m S' H σ (ρ.set i (.v (.d (.list xs)))) := by
  obtain ⟨A, h1, h2⟩ := s.sl
  obtain ⟨g1, g2, g3, g4, vs, g5, g6⟩ := h1 i _ hi
  have hl : i < ρ.length := (List.getElem?_eq_some_iff.mp hi).1
  have sS : Same S (upd S (A i) (.lst vs)) := fun b o e => by rw [upd_ne (ne_of_none e g2)]; exact e
  refine ⟨upd S (A i) (.lst vs), sS, ⟨fun b o e => ?_, fun p e => ?_⟩, ⟨s.po.sS.trans sS, fun a ha sa => ?_, s.po.kp, s.po.al⟩, by rw [List.length_set]; exact s.len, A, fun j t e => ?_, fun j k ys zs e1 e2 => ?_⟩
  · by_cases z : b = A i
    · rw [z, upd_same] at e; rw [z, g5]; exact e
    · rw [upd_ne z] at e; exact s.wd.sm b o e
  · obtain ⟨q1, a, b, c, q2, q3⟩ := s.wd.we p e
    exact ⟨by rw [upd_ne (fun z => g4 (by rw [← z]; exact e))]; exact q1, a, b, c, q2, q3⟩
  · have : a ≠ A i := fun z => ha (by rw [z]; exact g3.1)
    rw [upd_ne this]
    exact s.po.fr a ha sa
  · by_cases hj : i = j
    · subst hj
      rw [List.getElem?_set_self hl] at e
      cases e
      exact ⟨_, g1, dq_lst upd_same (dqAll_mono sS g6)⟩
    · rw [List.getElem?_set_ne hj] at e
      have q := h1 j t e
      cases t with
      | no => exact trivial
      | v x =>
        obtain ⟨v, q1, q2⟩ := q
        exact ⟨v, q1, dv_mono sS q2⟩
      | own zs =>
        obtain ⟨q1, q2, q3, q4, ws, q5, q6⟩ := q
        have : A j ≠ A i := fun z => hj (h2 j i zs xs e hi z).symm
        exact ⟨q1, by rw [upd_ne this]; exact q2, q3, q4, ws, q5, dqAll_mono sS q6⟩
  · have no : ∀ k zs, (ρ.set i (Sl.v (.d (.list xs))))[k]? = some (Sl.own zs) → ρ[k]? = some (Sl.own zs) := fun k zs e => by
      by_cases hj : i = k
      · subst hj
        rw [List.getElem?_set_self hl] at e
        cases e
      · rwa [List.getElem?_set_ne hj] at e
    exact h2 j k ys zs (no _ _ e1) (no _ _ e2)
end

/-! ### readings -/
/-- what errors are wished for -/
abbrev KErr (K : Frag) (n : En) (W : WX) (m : Nat) (S : Hp) (σ : L2.St) (ρ : List Sl) (Er : EK) : Prop := ∀ c x cls dx S' H', Er c x → StOk K n m S' H' σ ρ → ErrOk K n S' H' c x cls dx → Same S S' → W cls dx σ H'
theorem ke_af {K : Frag} {n : En} {W : WX} {m : Nat} {S S1 : Hp} {σ : L2.St} {ρ : List Sl} {Er : EK} (q : Same S S1) (k : KErr K n W m S σ ρ Er) : KErr K n W m S1 σ ρ Er := fun c x cls dx S' H' e s er z => k c x cls dx S' H' e s er (q.trans z)
def rdE (K : Frag) (n : En) (W : WX) (κ : Nat) (f : DE) : TE := fun σ H Q => ∃ m S ρ R Er, StOk K n (m + κ) S H σ ρ ∧ f ρ R Er ∧
  (∀ x v S' H', R x → StOk K n m S' H' σ ρ → Post n.wl S H S' H' → DvOk K n S' v x → Q v H') ∧
  KErr K n W m S σ ρ Er
def rdT (K : Frag) (n : En) (W : WX) (κ : Nat) (f : DT) : TT := fun σ H Q => ∃ m S ρ R Er, StOk K n (m + κ) S H σ ρ ∧ f ρ R Er ∧
  (∀ b S' H', R b → StOk K n m S' H' σ ρ → Post n.wl S H S' H' → Q b H') ∧
  KErr K n W m S σ ρ Er
def rdA (K : Frag) (n : En) (W : WX) (κ : Nat) (f : DA) : TA := fun σ H Q => ∃ m S ρ R Er, StOk K n (m + κ) S H σ ρ ∧ f ρ R Er ∧
  (∀ xs vs S' H', R xs → StOk K n m S' H' σ ρ → Post n.wl S H S' H' → DvAll K n S' vs xs → Q vs H') ∧
  KErr K n W m S σ ρ Er
/-- a new list: at p, beside the data -/
def rdN (K : Frag) (n : En) (W : WX) (κ : Nat) (f : DN) : TE := fun σ H Q => ∃ m S ρ R Er, StOk K n (m + κ) S H σ ρ ∧ f ρ R Er ∧
  (∀ xs p vs S' H', R xs → StOk K n m S' H' σ ρ → Post n.wl S H S' H' → H p = none → S' p = none → H' p = some (.lst vs) → DqAll K S' vs xs → Q (.ref p) H') ∧
  KErr K n W m S σ ρ Er
/-- what may be read as d, data or one's own -/
def RdOk (K : Frag) (n : En) (S H : Hp) (v : V) (x : DV) : Prop := DvOk K n S v x ∨ ∃ p vs xs, v = .ref p ∧ x = .d (.list xs) ∧ n.wl ≠ some p ∧ H p = some (.lst vs) ∧ DqAll K S vs xs
def rdO (K : Frag) (n : En) (W : WX) (κ : Nat) (f : DE) : TE := fun σ H Q => ∃ m S ρ R Er, StOk K n (m + κ) S H σ ρ ∧ f ρ R Er ∧
  (∀ x v S' H', R x → StOk K n m S' H' σ ρ → Post n.wl S H S' H' → RdOk K n S' H' v x → Q v H') ∧
  KErr K n W m S σ ρ Er
/-- what a statement's ends are wished -/
structure KSt (K : Frag) (n : En) (W : WX) (m : Nat) (S : Hp) (D : Ends) (Dd : DEnds) : Prop where
  nx : ∀ ρ' σ' S' H', Dd.nx ρ' → StOk K n m S' H' σ' ρ' → Same S S' → D.nx σ' H'
  rt : ∀ ρ' σ' x v S' H', Dd.rt ρ' x → StOk K n m S' H' σ' ρ' → DvOk K n S' v x → D.rt v H'
  bk : ∀ ρ' σ' S' H', Dd.bk ρ' → StOk K n m S' H' σ' ρ' → Same S S' → D.bk σ' H'
  ct : ∀ ρ' σ' S' H', Dd.ct ρ' → StOk K n m S' H' σ' ρ' → Same S S' → D.ct σ' H'
  ex : ∀ ρ' c x cls dx σ' S' H', Dd.ex ρ' c x → StOk K n m S' H' σ' ρ' → ErrOk K n S' H' c x cls dx → Same S S' → W cls dx σ' H'
theorem KSt.af {K : Frag} {n : En} {W : WX} {m : Nat} {S S1 : Hp} {D : Ends} {Dd : DEnds} (k : KSt K n W m S D Dd) (q : Same S S1) : KSt K n W m S1 D Dd :=
  ⟨fun ρ' σ' S' H' h s z => k.nx ρ' σ' S' H' h s (q.trans z), k.rt, fun ρ' σ' S' H' h s z => k.bk ρ' σ' S' H' h s (q.trans z), fun ρ' σ' S' H' h s z => k.ct ρ' σ' S' H' h s (q.trans z), fun ρ' c x cls dx σ' S' H' h s e z => k.ex ρ' c x cls dx σ' S' H' h s e (q.trans z)⟩
theorem KSt.up {K : Frag} {n : En} {W : WX} {m m' : Nat} {S : Hp} {D : Ends} {Dd : DEnds} (k : KSt K n W m S D Dd) (q : m ≤ m') : KSt K n W m' S D Dd :=
  ⟨fun ρ' σ' S' H' h s z => k.nx ρ' σ' S' H' h (s.le q) z, fun ρ' σ' x v S' H' h s d => k.rt ρ' σ' x v S' H' h (s.le q) d, fun ρ' σ' S' H' h s z => k.bk ρ' σ' S' H' h (s.le q) z, fun ρ' σ' S' H' h s z => k.ct ρ' σ' S' H' h (s.le q) z, fun ρ' c x cls dx σ' S' H' h s e z => k.ex ρ' c x cls dx σ' S' H' h (s.le q) e z⟩
/-- an expression's errors are the statement's -/
theorem KSt.ke {K : Frag} {n : En} {W : WX} {m : Nat} {S : Hp} {D : Ends} {Dd : DEnds} {σ : L2.St} {ρ : List Sl} (k : KSt K n W m S D Dd) : KErr K n W m S σ ρ (Dd.ex ρ) := fun c x cls dx S' H' h s er z => k.ex ρ c x cls dx σ S' H' h s er z
theorem ke_up {K : Frag} {n : En} {W : WX} {m m' : Nat} {S : Hp} {σ : L2.St} {ρ : List Sl} {Er : EK} (q : m ≤ m') (k : KErr K n W m S σ ρ Er) : KErr K n W m' S σ ρ Er := fun c x cls dx S' H' e s er z => k c x cls dx S' H' e (s.le q) er z
def rdS (K : Frag) (n : En) (W : WX) (κ : Nat) (g : DS) : TS := fun D σ H => ∃ m S ρ Dd, StOk K n (m + κ) S H σ ρ ∧ g Dd ρ ∧ KSt K n W m S D Dd
section
variable {X : Cx} {e : Expr} {es : List Expr} {st : Stmt} {sts : List Stmt}
theorem PE.to {t t' : TE} (h : PE X e t) (i : ∀ σ H Q, t' σ H Q → t σ H Q) : PE X e t' := ⟨fun pins s σ H Q I q => h.run pins s σ H Q I (i σ H Q q)⟩
theorem PT.to {t t' : TT} (h : PT X e t) (i : ∀ σ H Q, t' σ H Q → t σ H Q) : PT X e t' := ⟨fun pins s σ H Q I q => h.run pins s σ H Q I (i σ H Q q)⟩
theorem PW.to {t t' : TT} (h : PW X e t) (i : ∀ σ H Q, t' σ H Q → t σ H Q) : PW X e t' := ⟨fun wh pins s σ H Q I q => h.run wh pins s σ H Q I (i σ H Q q)⟩
theorem PA.to {t t' : TA} (h : PA X es t) (i : ∀ σ H Q, t' σ H Q → t σ H Q) : PA X es t' := ⟨fun pos pins s σ H Q I q => h.run pos pins s σ H Q I (i σ H Q q)⟩
theorem PS.to {t t' : TS} (h : PS X st t) (i : ∀ D σ H, t' D σ H → t D σ H) : PS X st t' := ⟨fun pins s σ H D I q => h.run pins s σ H D I (i D σ H q)⟩
theorem PSs.to {t t' : TS} (h : PSs X sts t) (i : ∀ D σ H, t' D σ H → t D σ H) : PSs X sts t' := ⟨fun pins s σ H D I q => h.run pins s σ H D I (i D σ H q)⟩
end
abbrev JE (X : Cx) (n : En) (W : WX) (κ : Nat) (e : Expr) (f : DE) : Prop := PE X e (rdE X.K n W κ f)
abbrev JO (X : Cx) (n : En) (W : WX) (κ : Nat) (e : Expr) (f : DE) : Prop := PE X e (rdO X.K n W κ f)
abbrev JN (X : Cx) (n : En) (W : WX) (κ : Nat) (e : Expr) (f : DN) : Prop := PE X e (rdN X.K n W κ f)
abbrev JT (X : Cx) (n : En) (W : WX) (κ : Nat) (e : Expr) (f : DT) : Prop := PT X e (rdT X.K n W κ f)
abbrev JA (X : Cx) (n : En) (W : WX) (κ : Nat) (es : List Expr) (f : DA) : Prop := PA X es (rdA X.K n W κ f)
abbrev JS (X : Cx) (n : En) (W : WX) (κ : Nat) (st : Stmt) (g : DS) : Prop := PS X st (rdS X.K n W κ g)
abbrev JB (X : Cx) (n : En) (W : WX) (κ : Nat) (sts : List Stmt) (g : DS) : Prop := PSs X sts (rdS X.K n W κ g)
end Wb
/-! WbR: tuple * int, any int. -/
namespace Wb
open PySem PySem.Spec PyProof.Rows L2
theorem tuple_mulSame (l : Addr) (items : Array Value) (n : Nat) (dd : Option Addr) (sl : Array (Option Value)) (x : Int) (u : Tok) (c0 : (decide (x < -(2 ^ 63)) || decide (x ≥ 2 ^ 63)) = false) (c1 : (items.isEmpty || x == 1) = true) :
    Meets (Builtin.«tuple.__mul__» ⟨[.ref l, .int x u], []⟩) (fun _ R s => s.heap.get? l = some { cls := .type "tuple", dict := dd, data := .seq items n, slots := sl } ∧ R (.ok (.ret (Value.ref l))) s) :=
  .of_wp fun prog w A R s h => by
    obtain ⟨hp, g, d, tk, os⟩ := s
    obtain ⟨hl, h⟩ := h
    have f1 := AutoSeq1.idx_int
    wp_walk using wpAny_loadPart' hl
    first
      | exact ⟨_, rfl, h⟩
      | (refine wpAny_ite_false (decide_eq_false (by rw [c0]; exact Bool.false_ne_true)) ?_
         wp_walk using wpAny_loadPart' hl
         first
          | exact ⟨_, rfl, h⟩
          | (refine wpAny_ite_true (decide_eq_true c1) ?_
             wp_walk using wpAny_loadPart' hl
             exact ⟨_, rfl, h⟩))
theorem tuple_mulNone (l : Addr) (items : Array Value) (n : Nat) (dd : Option Addr) (sl : Array (Option Value)) (x : Int) (u : Tok) (c0 : (decide (x < -(2 ^ 63)) || decide (x ≥ 2 ^ 63)) = false) (c1 : (items.isEmpty || x == 1) = false) (c2 : (decide (x ≤ 0) || items.isEmpty) = true) :
    Meets (Builtin.«tuple.__mul__» ⟨[.ref l, .int x u], []⟩) (fun _ R s => s.heap.get? l = some { cls := .type "tuple", dict := dd, data := .seq items n, slots := sl } ∧
      R (.ok (.ret (Value.ref s.heap.objs.size))) { s with heap := s.heap.push { cls := Value.type "tuple", data := Data.seq #[] }, toks := s.toks }) :=
  .of_wp fun prog w A R s h => by
    obtain ⟨hp, g, d, tk, os⟩ := s
    obtain ⟨hl, h⟩ := h
    have f1 := AutoSeq1.idx_int
    wp_walk using wpAny_loadPart' hl
    repeat (first
      | (refine wpAny_ite_false (decide_eq_false (by rw [c0]; exact Bool.false_ne_true)) ?_; wp_walk using wpAny_loadPart' hl)
      | (refine wpAny_ite_false (decide_eq_false (by rw [c1]; exact Bool.false_ne_true)) ?_; wp_walk using wpAny_loadPart' hl)
      | (refine wpAny_ite_true (decide_eq_true c2) ?_; wp_walk using wpAny_loadPart' hl))
    exact ⟨_, rfl, h⟩
def rRepTA (K : Frag) : R2 := fun x y H Q => ∃ l k xs, x = .ref l ∧ y = .int k ∧ SqT K H l xs ∧ k ≤ 100000 ∧ -100000 ≤ k ∧ xs.length * k.toNat ≤ 100000 ∧
  ((k = 1 ∨ xs = []) → Q (.ref l) H) ∧ (¬ (k = 1 ∨ xs = []) → ∀ p, H p = none → Q (.ref p) (upd H p (.tup (List.replicate k.toNat xs).flatten)))
theorem op_repTA {X : Cx} : OpR X (binaryOp .Mult) (rRepTA X.K) := by
  intro pins s σ H x y v u Q I rx ry h
  obtain ⟨l, k, xs, rfl, rfl, hT, hk, hk0, hz, qs, qn⟩ := h
  cases rx
  obtain ⟨t, rfl⟩ := ry
  obtain ⟨its, r, ⟨⟨cls, dd, data, sl⟩, ho, hc, n, hd⟩, hs⟩ := I.tuple hT
  simp only at hc hd
  subst hc hd
  have hle : its.length = xs.length := r.length.symm
  have c0 : (decide (k < -(2 ^ 63)) || decide (k ≥ 2 ^ 63)) = false := by
    rw [decide_eq_false (by omega), decide_eq_false (by omega)] <;> rfl
  by_cases h1 : k = 1 ∨ xs = []
  · have c1 : (its.toArray.isEmpty || k == 1) = true := by
      rcases h1 with rfl | rfl
      · simp
      · cases r
        rfl
    refine wpAny_binaryOp_repeat_ref (T := "tuple") (U := "int") (by decide) ⟨_, ho, rfl⟩ (fun s' => typeIs_int s' k t) noFill_tuple_mul F.fills_int_mul F.slot_int_rmul repeat_tuple F.slot_int_index.lookup
      (call_meets F.slot_int_rmul (typeIs_int s k t) F.entry_int_rmul (F.args_int_rmul_2 _ _) (int_rmul_tuple k t l its.toArray n dd sl)
        ⟨ho, rfl, ⟨_, ho, rfl⟩, call_meets F.slot_tuple_mul ⟨_, ho, rfl⟩ F.entry_tuple_mul (F.args_tuple_mul_2 _ _) (tuple_mulSame l its.toArray n dd sl k t c0 c1) ⟨ho, ?_⟩⟩)
    exact ⟨.ref l, H, I, rfl, qs h1⟩
  · have hx : xs ≠ [] := fun e => h1 (.inr e)
    have hn : its ≠ [] := fun e => hx (List.eq_nil_of_length_eq_zero (by rw [← hle, e]; rfl))
    have hi : its.toArray.isEmpty = false := by
      cases its with
      | nil => exact absurd rfl hn
      | cons a b => rfl
    have c1 : (its.toArray.isEmpty || k == 1) = false := by
      rw [hi, Bool.false_or]
      exact beq_eq_false_iff_ne.mpr fun e => h1 (.inl e)
    by_cases h2 : k ≤ 0
    · have c2 : (decide (k ≤ 0) || its.toArray.isEmpty) = true := by rw [decide_eq_true h2]; rfl
      refine wpAny_binaryOp_repeat_ref (T := "tuple") (U := "int") (by decide) ⟨_, ho, rfl⟩ (fun s' => typeIs_int s' k t) noFill_tuple_mul F.fills_int_mul F.slot_int_rmul repeat_tuple F.slot_int_index.lookup
        (call_meets F.slot_int_rmul (typeIs_int s k t) F.entry_int_rmul (F.args_int_rmul_2 _ _) (int_rmul_tuple k t l its.toArray n dd sl)
          ⟨ho, rfl, ⟨_, ho, rfl⟩, call_meets F.slot_tuple_mul ⟨_, ho, rfl⟩ F.entry_tuple_mul (F.args_tuple_mul_2 _ _) (tuple_mulNone l its.toArray n dd sl k t c0 c1 c2) ⟨ho, ?_⟩⟩)
      have e0 : k.toNat = 0 := by omega
      have qn := qn h1
      rw [e0] at qn
      refine ⟨.ref s.heap.objs.size, _, I.laid (t' := s.toks) (o := .tup []) (fun b ob q => Heap.get?_push_of_some _ q) (Nat.le_refl _) ?_, rfl, qn _ (I.hok.fresh (Nat.le_refl _))⟩
      exact ⟨by show 0 ≤ sizeLine; exact Nat.zero_le _, [], .nil, IsTup.new _ _⟩
    · have hsz0 : its.toArray.size = xs.length := by rw [List.size_toArray, hle]
      have hm : ((its.toArray.size : Nat) : Int) * k ≤ 100000 := by
        rw [hsz0]
        have e : ((k.toNat : Nat) : Int) = k := by omega
        have q : ((xs.length * k.toNat : Nat) : Int) ≤ ((100000 : Nat) : Int) := Int.ofNat_le.mpr hz
        rw [Int.natCast_mul, e] at q
        exact q
      have flen : (List.replicate k.toNat its).flatten.length ≤ sizeLine := by
        rw [PyProof.Rows.lm_len_rep_flat, hle, sizeLine_eq]
        rw [Nat.mul_comm]
        omega
      have c2 : (decide (k ≤ 0) || its.toArray.isEmpty) = false := by
        rw [hi, Bool.or_false]
        exact decide_eq_false h2
      have c4 : Builtin.Tuple.tupleTooMany (((its.toArray.size : Nat) : Int) * k) = false := by
        unfold Builtin.Tuple.tupleTooMany
        rw [sizeLine_eq]
        exact decide_eq_false (by omega)
      refine wpAny_binaryOp_repeat_ref (T := "tuple") (U := "int") (by decide) ⟨_, ho, rfl⟩ (fun s' => typeIs_int s' k t) noFill_tuple_mul F.fills_int_mul F.slot_int_rmul repeat_tuple F.slot_int_index.lookup
        (call_meets F.slot_int_rmul (typeIs_int s k t) F.entry_int_rmul (F.args_int_rmul_2 _ _) (int_rmul_tuple k t l its.toArray n dd sl)
          ⟨ho, rfl, ⟨_, ho, rfl⟩, call_meets F.slot_tuple_mul ⟨_, ho, rfl⟩ F.entry_tuple_mul (F.args_tuple_mul_2 _ _) (tuple_mulW l its.toArray n dd sl k t c0 c1 c2 (by omega) c4 (by rw [size_rep, List.size_toArray]; exact flen)) ⟨ho, ?_⟩⟩)
      rw [size_rep]
      refine ⟨.ref s.heap.objs.size, _, I.laid (t' := s.toks) (o := .tup (List.replicate k.toNat xs).flatten) (fun b ob q => Heap.get?_push_of_some _ q) (Nat.le_refl _) ?_, rfl, qn h1 _ (I.hok.fresh (Nat.le_refl _))⟩
      exact ⟨by rw [PyProof.Rows.lm_len_rep_flat, sizeLine_eq, Nat.mul_comm]; omega, _, r.rep k.toNat, IsTup.new _ _⟩
end Wb
/-! Wb4: expressions read as data. -/
namespace Wb
open PySem PySem.Spec PyProof.Rows L2

/-! ### the words of the readings -/
def onD : DV → (PD → Prop) → Prop
  | .d x, R => R x
  | _, _ => False
def onB : DV → (Bool → Prop) → Prop
  | .d (.bool b), R => R b
  | _, _ => False
def onI : DV → (Int → Prop) → Prop
  | .d (.int i), R => R i
  | _, _ => False
def allD : List DV → (List PD → Prop) → Prop
  | [], R => R []
  | .d x :: r, R => allD r fun xs => R (x :: xs)
  | _ :: _, _ => False
def slV : Option Sl → (DV → Prop) → Prop
  | some (.v x), R => R x
  | _, _ => False
def slO : Option Sl → (DV → Prop) → Prop
  | some (.v x), R => R x
  | some (.own xs), R => R (.d (.list xs))
  | _, _ => False
def dVar (i : Nat) : DE := fun ρ R _ => slV ρ[i]? R
def dOwn (i : Nat) : DE := fun ρ R _ => slO ρ[i]? R
def dC (x : PD) : DE := fun _ R _ => R (.d x)
def d2 (g : DV → DV → (DV → Prop) → Prop) (f h : DE) : DE := fun ρ R E => f ρ (fun x => h ρ (fun y => g x y R) E) E
def d1 (g : DV → (DV → Prop) → Prop) (f : DE) : DE := fun ρ R E => f ρ (fun x => g x R) E
def dN2 (f : DN) : DE := fun ρ R E => f ρ (fun xs => R (.d (.list xs))) E
def aNil : DA := fun _ R _ => R []
def aCons (f : DE) (g : DA) : DA := fun ρ R E => f ρ (fun x => g ρ (fun xs => R (x :: xs)) E) E
def dTup (f : DA) : DE := fun ρ R E => f ρ (fun xs => allD xs fun ds => ds.length ≤ 100000 ∧ R (.d (.tuple ds))) E
def nLst (f : DA) : DN := fun ρ R E => f ρ (fun xs => allD xs fun ds => ds.length ≤ 100000 ∧ R ds) E
/-- a def's meaning: the arguments, what is wanted of the answer, of an error -/
abbrev Fn := List DV → (DV → Prop) → EK → Prop
def dCall (g : Fn) (f : DA) : DE := fun ρ R E => f ρ (fun xs => g xs R E) E
def dBi (g : List DV → (DV → Prop) → Prop) (f : DA) : DE := fun ρ R E => f ρ (fun xs => g xs R) E
def tVal (f : DE) : DT := fun ρ R E => f ρ (fun x => onB x R) E
def tNot' (f : DT) : DT := fun ρ R E => f ρ (fun b => R (!b)) E
def tAnd' (f g : DT) : DT := fun ρ R E => f ρ (fun b => if b = true then g ρ R E else R false) E
def tOr' (f g : DT) : DT := fun ρ R E => f ρ (fun b => if b = true then R true else g ρ R E) E
def dAnd (f g : DE) : DE := fun ρ R E => f ρ (fun x => onB x fun b => if b = true then g ρ R E else R (.d (.bool false))) E
def dOr (f g : DE) : DE := fun ρ R E => f ρ (fun x => onB x fun b => if b = true then R (.d (.bool true)) else g ρ R E) E
def dNot (f : DE) : DE := fun ρ R E => f ρ (fun x => onB x fun b => R (.d (.bool (!b)))) E
def dIf (t : DT) (f g : DE) : DE := fun ρ R E => t ρ (fun b => if b = true then f ρ R E else g ρ R E) E
/-- a op b op' c -/
def dChain (g g' : DV → DV → (DV → Prop) → Prop) (f h k : DE) : DE := fun ρ R E => f ρ (fun x => h ρ (fun y => g x y fun z => onB z fun b => if b = true then k ρ (fun w => g' y w R) E else R (.d (.bool false))) E) E

/-! the operators -/
def gI (C : Int → Int → Prop) (f : Int → Int → PD) : DV → DV → (DV → Prop) → Prop
  | .d (.int i), .d (.int j), R => C i j ∧ R (.d (f i j))
  | _, _, _ => False
def gI0 (f : Int → Int → PD) : DV → DV → (DV → Prop) → Prop
  | .d (.int i), .d (.int j), R => R (.d (f i j))
  | _, _, _ => False
def gAdd : DV → DV → (DV → Prop) → Prop
  | .d (.int i), .d (.int j), R => R (.d (.int (i + j)))
  | .d (.str i), .d (.str j), R => i.length + j.length ≤ 100000 ∧ R (.d (.str (i ++ j)))
  | .d (.list i), .d (.list j), R => i.length + j.length ≤ 100000 ∧ R (.d (.list (i ++ j)))
  | .d (.tuple i), .d (.tuple j), R => i.length + j.length ≤ 100000 ∧ R (.d (.tuple (i ++ j)))
  | _, _, _ => False
abbrev gSub := gI0 fun i j => .int (i - j)
/-- the sizes that a product may have -/
def MulOk (i j : Int) : Prop := ∃ a b : Nat, i.natAbs < 2 ^ a ∧ j.natAbs < 2 ^ b ∧ a + b ≤ 134217728
def gMul : DV → DV → (DV → Prop) → Prop
  | .d (.int i), .d (.int j), R => MulOk i j ∧ R (.d (.int (i * j)))
  | .d (.list xs), .d (.int k), R => (0 ≤ k ∧ k ≤ 100000) ∧ xs.length * k.toNat ≤ 100000 ∧ R (.d (.list (List.replicate k.toNat xs).flatten))
  | .d (.tuple xs), .d (.int k), R => (-100000 ≤ k ∧ k ≤ 100000) ∧ xs.length * k.toNat ≤ 100000 ∧ R (.d (.tuple (List.replicate k.toNat xs).flatten))
  | _, _, _ => False
def FdivOk (i j : Int) : Prop := j ≠ 0 ∧ j.natAbs < 2 ^ 9000
abbrev gFdiv := gI FdivOk fun i j => .int (i.fdiv j)
abbrev gMod := gI (fun _ j => j ≠ 0) fun i j => .int (i.fmod j)
abbrev gPow := gI CPow fun i j => .int (i ^ j.toNat)
abbrev gLt := gI0 fun i j => .bool (decide (i < j))
abbrev gLe := gI0 fun i j => .bool (decide (i ≤ j))
abbrev gGt := gI0 fun i j => .bool (decide (j < i))
abbrev gGe := gI0 fun i j => .bool (decide (j ≤ i))
/-- what == may compare -/
def Sh (x : PD) : Prop := SeqAt.shaped x = true
def gEq : DV → DV → (DV → Prop) → Prop
  | .d (.str x), .d (.str y), R => R (.d (.bool (decide (x = y))))
  | .d x, .d y, R => Sh x ∧ Sh y ∧ R (.d (.bool (PyData.eqv x y)))
  | _, _, _ => False
def gNe : DV → DV → (DV → Prop) → Prop
  | .d (.str x), .d (.str y), R => R (.d (.bool (!decide (x = y))))
  | .d x, .d y, R => Sh x ∧ Sh y ∧ R (.d (.bool (!PyData.eqv x y)))
  | _, _, _ => False
def flatD : PD → Bool
  | .none => true
  | .bool _ => true
  | .int _ => true
  | .str _ => true
  | _ => false
def gIn : DV → DV → (DV → Prop) → Prop
  | .d x, .d (.list ys), R => Sh x ∧ Sh (.list ys) ∧ R (.d (.bool (ys.any fun z => PyData.eqv z x)))
  | .d x, .d (.tuple ys), R => flatD x = true ∧ ys.all flatD = true ∧ R (.d (.bool (ys.any fun z => PyData.eqv z x)))
  | _, _, _ => False
def gNotIn : DV → DV → (DV → Prop) → Prop
  | .d x, .d (.list ys), R => Sh x ∧ Sh (.list ys) ∧ R (.d (.bool (!ys.any fun z => PyData.eqv z x)))
  | .d x, .d (.tuple ys), R => flatD x = true ∧ ys.all flatD = true ∧ R (.d (.bool (!ys.any fun z => PyData.eqv z x)))
  | _, _, _ => False
def gIsN : DV → (DV → Prop) → Prop
  | .d .none, R => R (.d (.bool true))
  | _, R => R (.d (.bool false))
def gNotN : DV → (DV → Prop) → Prop
  | .d .none, R => R (.d (.bool false))
  | _, R => R (.d (.bool true))
def gNeg : DV → (DV → Prop) → Prop
  | .d (.int i), R => R (.d (.int (-i)))
  | _, _ => False
/-- the script, indexed -/
def gIxS : Option (List Int) → DV → (DV → Prop) → Prop
  | some ns, .d (.int i), R => ∃ y, atI ns i = some y ∧ R (.d (.int y))
  | _, _, _ => False
def gIx : DV → DV → (DV → Prop) → Prop
  | .well o, y, R => gIxS o y R
  | .d (.list xs), .d (.int i), R => ∃ y, atI xs i = some y ∧ R (.d y)
  | .d (.tuple xs), .d (.int i), R => ∃ y, atI xs i = some y ∧ R (.d y)
  | .d (.str s), .d (.int i), R => s.length ≤ 100000 ∧ ∃ c, atI s.cps.toList i = some c ∧ R (.d (.str ⟨#[c]⟩))
  | _, _, _ => False
/-- the built-in class of a datum -/
def tyD : PD → String
  | .none => "NoneType"
  | .bool _ => "bool"
  | .int _ => "int"
  | .str _ => "str"
  | .list _ => "list"
  | .tuple _ => "tuple"
  | .dict _ => "dict"
def subTy (t T : String) : Bool := t == T || (t == "bool" && T == "int")
def gIsi (T : String) : DV → (DV → Prop) → Prop
  | .d x, R => R (.d (.bool (subTy (tyD x) T)))
  | _, _ => False
def lenS : Option (List Int) → (DV → Prop) → Prop
  | some ns, R => R (.d (.int ns.length))
  | _, _ => False
def bLen : List DV → (DV → Prop) → Prop
  | [.well o], R => lenS o R
  | [.d (.list xs)], R => R (.d (.int xs.length))
  | [.d (.tuple xs)], R => R (.d (.int xs.length))
  | [.d (.str s)], R => s.length ≤ 100000 ∧ R (.d (.int s.length))
  | _, _ => False
def bAbs : List DV → (DV → Prop) → Prop
  | [.d (.int i)], R => R (.d (.int (i.natAbs : Nat)))
  | _, _ => False
def bInt : List DV → (DV → Prop) → Prop
  | [.d (.int i)], R => R (.d (.int i))
  | [.d (.bool b)], R => R (.d (.int (if b then 1 else 0)))
  | _, _ => False
def bMax2 : List DV → (DV → Prop) → Prop
  | [.d (.int i), .d (.int j)], R => R (.d (.int (if j > i then j else i)))
  | _, _ => False
def bMin2 : List DV → (DV → Prop) → Prop
  | [.d (.int i), .d (.int j)], R => R (.d (.int (if j < i then j else i)))
  | _, _ => False
def asInts : List PD → Option (List Int)
  | [] => some []
  | .int i :: r => (asInts r).map (i :: ·)
  | _ :: _ => none
def asBools : List PD → Option (List Bool)
  | [] => some []
  | .bool i :: r => (asBools r).map (i :: ·)
  | _ :: _ => none
def bSum : List DV → (DV → Prop) → Prop
  | [.d (.list xs)], R => ∃ ns, asInts xs = some ns ∧ R (.d (.int ns.sum))
  | _, _ => False
def bAll : List DV → (DV → Prop) → Prop
  | [.d (.list xs)], R => ∃ bs, asBools xs = some bs ∧ R (.d (.bool (bs.all id)))
  | _, _ => False
def bAny : List DV → (DV → Prop) → Prop
  | [.d (.list xs)], R => ∃ bs, asBools xs = some bs ∧ R (.d (.bool (bs.any id)))
  | _, _ => False
def bGcd : List DV → (DV → Prop) → Prop
  | [.d (.int i), .d (.int j)], R => R (.d (.int ((Nat.gcd i.natAbs j.natAbs : Nat) : Int)))
  | _, _ => False
def bTuple : List DV → (DV → Prop) → Prop
  | [.d (.list xs)], R => R (.d (.tuple xs))
  | [.d (.tuple xs)], R => R (.d (.tuple xs))
  | _, _ => False
def bRepr : List DV → (DV → Prop) → Prop
  | [.d x], R => ROk x ∧ R (.d (.str x.shown))
  | _, _ => False

/-! ### by values -/
section
variable {K : Frag} {n : En} {m κ κ' : Nat} {S H S' H' : Hp} {σ : L2.St} {ρ : List Sl} {v u : V} {x y : DV} {W : WX}
theorem RdOk.post (p : Post n.wl S H S' H') (h : RdOk K n S H v x) : RdOk K n S' H' v x := by
  rcases h with h | ⟨q, vs, xs, rfl, rfl, hw, hq, hd⟩
  · exact .inl (dv_mono p.sS h)
  · exact .inr ⟨q, vs, xs, rfl, rfl, hw, p.kp q _ hq hw, dqAll_mono p.sS hd⟩
/-- data read at the heap -/
theorem RdOk.dq {x : PD} (sm : Same S H) (h : RdOk K n S H v (.d x)) : Dq K H v x := by
  rcases h with h | ⟨q, vs, xs, rfl, e, hw, hq, hd⟩
  · exact dq_mono sm h
  · cases e
    exact .lst hq (dqAll_mono sm hd)
inductive RdAll (K : Frag) (n : En) (S H : Hp) : List V → List DV → Prop
  | nil : RdAll K n S H [] []
  | cons {v : V} {vs : List V} {x : DV} {xs : List DV} : RdOk K n S H v x → RdAll K n S H vs xs → RdAll K n S H (v :: vs) (x :: xs)
theorem RdAll.post (p : Post n.wl S H S' H') : ∀ {vs : List V} {xs : List DV}, RdAll K n S H vs xs → RdAll K n S' H' vs xs
  | _, _, .nil => .nil
  | _, _, .cons h t => .cons (h.post p) (RdAll.post p t)
theorem DvAll.rd : ∀ {vs : List V} {xs : List DV}, DvAll K n S vs xs → RdAll K n S H vs xs
  | _, _, .nil => .nil
  | _, _, .cons h t => .cons (.inl h) (DvAll.rd t)
/-- the list items of what is read, as data of S -/
theorem RdOk.items {xs : List PD} (sm : Same S H) (h : RdOk K n S H v (.d (.list xs))) : ∃ p vs, v = .ref p ∧ H p = some (.lst vs) ∧ DqAll K S vs xs := by
  rcases h with h | ⟨q, vs, xs', rfl, e, hw, hq, hd⟩
  · cases h with
    | lst h1 h2 => exact ⟨_, _, rfl, sm _ _ h1, h2⟩
  · cases e
    exact ⟨q, vs, rfl, hq, hd⟩
theorem RdOk.tup {xs : List PD} (h : RdOk K n S H v (.d (.tuple xs))) : ∃ p vs, v = .ref p ∧ SqT K S p vs ∧ DqAll K S vs xs := by
  rcases h with h | ⟨q, vs, xs', rfl, e, hw, hq, hd⟩
  · cases h with
    | tup h1 h2 => exact ⟨_, _, rfl, h1, h2⟩
  · cases e
theorem RdOk.int {i : Int} (h : RdOk K n S H v (.d (.int i))) : v = .int i := by
  rcases h with h | ⟨q, vs, xs', rfl, e, _⟩
  · cases h; rfl
  · cases e
theorem RdOk.bool {b : Bool} (h : RdOk K n S H v (.d (.bool b))) : v = .bl b := by
  rcases h with h | ⟨q, vs, xs', rfl, e, _⟩
  · cases h; rfl
  · cases e
theorem RdOk.str {b : Str} (h : RdOk K n S H v (.d (.str b))) : v = .str b := by
  rcases h with h | ⟨q, vs, xs', rfl, e, _⟩
  · cases h; rfl
  · cases e
/-- what a rule for two values must give -/
def OpD (K : Frag) (r : R2) (g : DV → DV → (DV → Prop) → Prop) : Prop := ∀ (n : En) (S H : Hp) (x y : DV) (v u : V) (R : DV → Prop) (Q : VK), Same S H → RdOk K n S H v x → RdOk K n S H u y → g x y R →
  (∀ z w S' H', R z → Grow S H S' H' → DvOk K n S' w z → Q w H') → r v u H Q
def UnD (K : Frag) (r : V → Hp → VK → Prop) (g : DV → (DV → Prop) → Prop) : Prop := ∀ (n : En) (S H : Hp) (x : DV) (v : V) (R : DV → Prop) (Q : VK), Same S H → RdOk K n S H v x → g x R →
  (∀ z w S' H', R z → Grow S H S' H' → DvOk K n S' w z → Q w H') → r v H Q
def CaD (K : Frag) (r : List V → Hp → VK → Prop) (g : List DV → (DV → Prop) → Prop) : Prop := ∀ (n : En) (S H : Hp) (xs : List DV) (vs : List V) (R : DV → Prop) (Q : VK), Same S H → RdAll K n S H vs xs → g xs R →
  (∀ z w S' H', R z → Grow S H S' H' → DvOk K n S' w z → Q w H') → r vs H Q
end

section
variable {K : Frag}
theorem opD_I {C : Int → Int → Prop} {f : Int → Int → PD} {fv : Int → Int → V} (hf : ∀ i j (S : Hp), Dq K S (fv i j) (f i j)) : OpD K (rI C fv) (gI C f) := by
  intro n S H x y v u R Q sm hx hy hg q
  match x, y, hg with
  | .d (.int i), .d (.int j), ⟨hc, hr⟩ => exact ⟨i, j, hx.int, hy.int, hc, q _ _ _ _ hr (Grow.refl sm) (hf i j S)⟩
theorem opD_I0 {f : Int → Int → PD} {fv : Int → Int → V} (hf : ∀ i j (S : Hp), Dq K S (fv i j) (f i j)) : OpD K (rI0 fv) (gI0 f) := by
  intro n S H x y v u R Q sm hx hy hg q
  match x, y, hg with
  | .d (.int i), .d (.int j), hr => exact ⟨i, j, hx.int, hy.int, q _ _ _ _ hr (Grow.refl sm) (hf i j S)⟩
def rAddS : R2 := fun x y H Q => ∃ i j, x = .str i ∧ y = .str j ∧ i.length + j.length ≤ sizeLine ∧ Q (.str (i ++ j)) H
def rAdd (K : Frag) : R2 := fun x y H Q => (rI0 (fun i j => .int (i + j)) x y H Q) ∨ (rAddS x y H Q ∨ (rCat x y H Q ∨ rCatA K x y H Q))
theorem line5 {a : Nat} (h : a ≤ 100000) : a ≤ sizeLine := Nat.le_trans h (by rw [sizeLine_eq]; decide)
theorem opD_add : OpD K (rAdd K) gAdd := by
  intro n S H x y v u R Q sm hx hy hg q
  match x, y, hg with
  | .d (.int i), .d (.int j), hr => exact .inl ⟨i, j, hx.int, hy.int, q _ _ _ _ hr (Grow.refl sm) (.int _)⟩
  | .d (.str i), .d (.str j), ⟨hl, hr⟩ => exact .inr (.inl ⟨i, j, hx.str, hy.str, line5 hl, q _ _ _ _ hr (Grow.refl sm) (.str _)⟩)
  | .d (.list xs), .d (.list ys), ⟨hl, hr⟩ =>
    obtain ⟨p, vs, rfl, hp, hd⟩ := hx.items sm
    obtain ⟨p2, us, rfl, hp2, hd2⟩ := hy.items sm
    refine .inr (.inr (.inl ⟨p, p2, vs, us, rfl, rfl, hp, hp2, line5 (by rw [hd.len, hd2.len]; exact hl), fun a ha => ?_⟩))
    have g := Grow.new (o := .lst (vs ++ us)) sm ha
    exact q _ _ _ _ hr g (dq_lst upd_same (dqAll_mono g.po.sS (hd.app hd2)))
  | .d (.tuple xs), .d (.tuple ys), ⟨hl, hr⟩ =>
    obtain ⟨p, vs, rfl, hp, hd⟩ := hx.tup
    obtain ⟨p2, us, rfl, hp2, hd2⟩ := hy.tup
    have hz : vs.length + us.length ≤ sizeLine := line5 (by rw [hd.len, hd2.len]; exact hl)
    have e1 : vs.length = xs.length := hd.len
    have e2 : us.length = ys.length := hd2.len
    refine .inr (.inr (.inr ⟨p, p2, vs, us, rfl, rfl, sqT_mono sm hp, sqT_mono sm hp2, hz, fun z => ?_, fun z z2 => ?_, fun _ _ a ha => ?_⟩))
    · have : xs = [] := List.length_eq_zero_iff.mp (by rw [← e1, z]; rfl)
      subst this
      exact q _ _ _ _ hr (Grow.refl sm) (.tup hp2 hd2)
    · have : ys = [] := List.length_eq_zero_iff.mp (by rw [← e2, z2]; rfl)
      subst this
      rw [List.append_nil] at hr
      exact q _ _ _ _ hr (Grow.refl sm) (.tup hp hd)
    · have g := Grow.new (o := .tup (vs ++ us)) sm ha
      exact q _ _ _ _ hr g (dq_tup upd_same (dqAll_mono g.po.sS (hd.app hd2)))
def rMulAll (K : Frag) : R2 := fun x y H Q => rI CMulX (fun i j => .int (i * j)) x y H Q ∨ (rRep x y H Q ∨ rRepTA K x y H Q)
theorem repl_dq {S : Hp} {vs : List V} {xs : List PD} (h : DqAll K S vs xs) : ∀ k, DqAll K S (List.replicate k vs).flatten (List.replicate k xs).flatten
  | 0 => .nil
  | k + 1 => by rw [List.replicate_succ, List.replicate_succ, List.flatten_cons, List.flatten_cons]; exact h.app (repl_dq h k)
theorem opD_mul : OpD K (rMulAll K) gMul := by
  intro n S H x y v u R Q sm hx hy hg q
  match x, y, hg with
  | .d (.int i), .d (.int j), ⟨⟨a, b, h1, h2, h3⟩, hr⟩ => exact .inl ⟨i, j, hx.int, hy.int, mulx_ok h1 h2 h3, q _ _ _ _ hr (Grow.refl sm) (.int _)⟩
  | .d (.list xs), .d (.int k), ⟨⟨h0, h1⟩, hl, hr⟩ =>
    obtain ⟨p, vs, rfl, hp, hd⟩ := hx.items sm
    have e := hy.int
    subst e
    refine .inr (.inl ⟨p, k, vs, rfl, rfl, hp, by omega, by omega, line5 (by rw [hd.len]; exact hl), fun a ha => ?_⟩)
    have g := Grow.new (o := .lst (List.replicate k.toNat vs).flatten) sm ha
    exact q _ _ _ _ hr g (dq_lst upd_same (dqAll_mono g.po.sS (repl_dq hd _)))
  | .d (.tuple xs), .d (.int k), ⟨⟨h0, h1⟩, hl, hr⟩ =>
    obtain ⟨p, vs, rfl, hp, hd⟩ := hx.tup
    have e := hy.int
    subst e
    refine .inr (.inr ⟨p, k, vs, rfl, rfl, sqT_mono sm hp, h1, h0, by rw [hd.len]; exact hl, fun h => ?_, fun h a ha => ?_⟩)
    · have e : (List.replicate k.toNat xs).flatten = xs := by
        rcases h with rfl | rfl
        · simp
        · cases hd
          simp
      rw [e] at hr
      exact q _ _ _ _ hr (Grow.refl sm) (.tup hp hd)
    · have g := Grow.new (o := .tup (List.replicate k.toNat vs).flatten) sm ha
      exact q _ _ _ _ hr g (dq_tup upd_same (dqAll_mono g.po.sS (repl_dq hd _)))
theorem opD_eq : OpD K (fun x y H Q => rEq x y H Q ∨ rEqD K x y H Q) gEq := by
  intro n S H x y v u R Q sm hx hy hg q
  have gen : ∀ a b, x = .d a → y = .d b → Sh a ∧ Sh b ∧ R (.d (.bool (PyData.eqv a b))) → (rEq v u H Q ∨ rEqD K v u H Q) := by
    rintro a b rfl rfl ⟨h1, h2, h3⟩
    exact .inr ⟨a, b, (hx.dq sm).dp, (hy.dq sm).dp, h1, h2, q _ _ _ _ h3 (Grow.refl sm) (.bl _)⟩
  cases x with
  | exc _ _ => cases hg
  | well => cases hg
  | d a =>
    cases y with
    | exc _ _ => cases a <;> cases hg
    | well => cases a <;> cases hg
    | d b =>
      by_cases hs : ∃ s t, a = .str s ∧ b = .str t
      · obtain ⟨s, t, rfl, rfl⟩ := hs
        have e1 := hx.str
        have e2 := hy.str
        subst e1 e2
        refine .inl ⟨rfl, ?_⟩
        have hg : R (.d (.bool (decide (s = t)))) := hg
        have e : decide (V.str s = V.str t) = decide (s = t) := by simp
        rw [e]
        exact q _ _ _ _ hg (Grow.refl sm) (.bl _)
      · refine gen a b rfl rfl ?_
        cases a <;> first | exact hg | (cases b <;> first | exact hg | exact absurd ⟨_, _, rfl, rfl⟩ hs)
theorem opD_ne : OpD K (fun x y H Q => rNe x y H Q ∨ rNeD K x y H Q) gNe := by
  intro n S H x y v u R Q sm hx hy hg q
  have gen : ∀ a b, x = .d a → y = .d b → Sh a ∧ Sh b ∧ R (.d (.bool (!PyData.eqv a b))) → (rNe v u H Q ∨ rNeD K v u H Q) := by
    rintro a b rfl rfl ⟨h1, h2, h3⟩
    exact .inr ⟨a, b, (hx.dq sm).dp, (hy.dq sm).dp, h1, h2, q _ _ _ _ h3 (Grow.refl sm) (.bl _)⟩
  cases x with
  | exc _ _ => cases hg
  | well => cases hg
  | d a =>
    cases y with
    | exc _ _ => cases a <;> cases hg
    | well => cases a <;> cases hg
    | d b =>
      by_cases hs : ∃ s t, a = .str s ∧ b = .str t
      · obtain ⟨s, t, rfl, rfl⟩ := hs
        have e1 := hx.str
        have e2 := hy.str
        subst e1 e2
        refine .inl ⟨rfl, ?_⟩
        have hg : R (.d (.bool (!decide (s = t)))) := hg
        have e : decide (V.str s = V.str t) = decide (s = t) := by simp
        rw [e]
        exact q _ _ _ _ hg (Grow.refl sm) (.bl _)
      · refine gen a b rfl rfl ?_
        cases a <;> first | exact hg | (cases b <;> first | exact hg | exact absurd ⟨_, _, rfl, rfl⟩ hs)
theorem flatV_of {S : Hp} {v : V} {x : PD} (h : Dq K S v x) (f : flatD x = true) : flatV v = true := by
  cases h <;> first | rfl | cases f
theorem flatAll_of {S : Hp} : ∀ {vs : List V} {xs : List PD}, DqAll K S vs xs → xs.all flatD = true → vs.all flatV = true
  | _, _, .nil, _ => rfl
  | _, _, .cons h t, f => by
    rw [List.all_cons, Bool.and_eq_true] at f ⊢
    exact ⟨flatV_of h f.1, flatAll_of t f.2⟩
theorem eqV_of {S : Hp} {v u : V} {x y : PD} (hx : Dq K S v x) (hy : Dq K S u y) (fx : flatD x = true) (fy : flatD y = true) : eqV v u = PyData.eqv x y := by
  cases hx <;> first | (cases fx; done) | (cases hy <;> first | (cases fy; done) | simp [eqV, PyData.eqv])
theorem inV_of {S : Hp} {v : V} {x : PD} (hx : Dq K S v x) (fx : flatD x = true) : ∀ {vs : List V} {xs : List PD}, DqAll K S vs xs → xs.all flatD = true → inV v vs = xs.any fun z => PyData.eqv z x
  | _, _, .nil, _ => rfl
  | _, _, .cons h t, f => by
    rw [List.all_cons, Bool.and_eq_true] at f
    unfold inV
    rw [List.any_cons, List.any_cons, eqV_of h hx f.1 fx]
    have := inV_of hx fx t f.2
    unfold inV at this
    rw [this]
theorem opD_in : OpD K (fun x y H Q => rInD K x y H Q ∨ rIn K false x y H Q) gIn := by
  intro n S H x y v u R Q sm hx hy hg q
  match x, y, hg with
  | .d x, .d (.list ys), ⟨h1, h2, hr⟩ => exact .inl ⟨x, ys, (hx.dq sm).dp, (hy.dq sm).dp, h1, h2, q _ _ _ _ hr (Grow.refl sm) (.bl _)⟩
  | .d x, .d (.tuple ys), ⟨h1, h2, hr⟩ =>
    obtain ⟨p, vs, rfl, hp, hd⟩ := hy.tup
    have hxq := hx.dq sm
    have hdH := dqAll_mono sm hd
    refine .inr ⟨p, vs, rfl, .inr (sqT_mono sm hp), flatV_of hxq h1, flatAll_of hdH h2, ?_⟩
    rw [inV_of hxq h1 hdH h2]
    exact q _ _ _ _ hr (Grow.refl sm) (.bl _)
theorem opD_notIn : OpD K (fun x y H Q => rNotInD K x y H Q ∨ rIn K true x y H Q) gNotIn := by
  intro n S H x y v u R Q sm hx hy hg q
  match x, y, hg with
  | .d x, .d (.list ys), ⟨h1, h2, hr⟩ => exact .inl ⟨x, ys, (hx.dq sm).dp, (hy.dq sm).dp, h1, h2, q _ _ _ _ hr (Grow.refl sm) (.bl _)⟩
  | .d x, .d (.tuple ys), ⟨h1, h2, hr⟩ =>
    obtain ⟨p, vs, rfl, hp, hd⟩ := hy.tup
    have hxq := hx.dq sm
    have hdH := dqAll_mono sm hd
    refine .inr ⟨p, vs, rfl, .inr (sqT_mono sm hp), flatV_of hxq h1, flatAll_of hdH h2, ?_⟩
    rw [inV_of hxq h1 hdH h2]
    exact q _ _ _ _ hr (Grow.refl sm) (.bl _)
theorem atI_dq {S : Hp} {vs : List V} {xs : List PD} {i : Int} {y : PD} (h : DqAll K S vs xs) (e : atI xs i = some y) : ∃ v, atI vs i = some v ∧ Dq K S v y := by
  unfold atI at e ⊢
  rw [h.len]
  cases q : ixN xs.length i with
  | none => rw [q] at e; cases e
  | some j =>
    rw [q] at e
    exact h.at e
theorem RdOk.scr {ns : List Int} (sm : Same S H) (h : RdOk K n S H v (.well (some ns))) : ∃ p, v = .ref p ∧ SqL K H p (ns.map V.int) := by
  rcases h with ⟨p, h1, h2⟩ | ⟨_, _, _, _, z, _⟩
  · exact ⟨p, h1, sm.seq h2⟩
  · cases z
theorem atI_map {α β : Type} (f : α → β) {l : List α} {i : Int} {y : α} (h : atI l i = some y) : atI (l.map f) i = some (f y) := by
  unfold atI at h ⊢
  rw [List.length_map]
  cases q : ixN l.length i with
  | none => rw [q] at h; cases h
  | some j =>
    rw [q] at h
    show (l.map f)[j]? = _
    rw [List.getElem?_map, show l[j]? = some y from h]
    rfl
theorem opD_ix : OpD K (rIx K) gIx := by
  intro n S H x y v u R Q sm hx hy hg q
  match x, y, hg with
  | .well o, y, hg =>
    cases o with
    | none => exact hg.elim
    | some ns =>
      have hg : gIxS (some ns) y R := hg
      match y, hg with
      | .d (.int i), ⟨y, e, hr⟩ =>
        obtain ⟨p, rfl, hp⟩ := hx.scr sm
        exact .inl ⟨p, _, i, _, rfl, hy.int, hp, atI_map V.int e, q _ _ _ _ hr (Grow.refl sm) (.int _)⟩
  | .d (.list xs), .d (.int i), ⟨y, e, hr⟩ =>
    obtain ⟨p, vs, rfl, hp, hd⟩ := hx.items sm
    obtain ⟨w, e2, hw⟩ := atI_dq hd e
    exact .inl ⟨p, vs, i, w, rfl, hy.int, SqL.of hp, e2, q _ _ _ _ hr (Grow.refl sm) hw⟩
  | .d (.tuple xs), .d (.int i), ⟨y, e, hr⟩ =>
    obtain ⟨p, vs, rfl, hp, hd⟩ := hx.tup
    obtain ⟨w, e2, hw⟩ := atI_dq hd e
    exact .inr (.inl ⟨p, vs, i, w, rfl, hy.int, sqT_mono sm hp, e2, q _ _ _ _ hr (Grow.refl sm) hw⟩)
  | .d (.str s), .d (.int i), ⟨hl, c, e, hr⟩ => exact .inr (.inr ⟨s, i, c, hx.str, hy.int, line5 hl, e, q _ _ _ _ hr (Grow.refl sm) (.str _)⟩)
theorem unD_neg : UnD K (rU fun i => .int (-i)) gNeg := by
  intro n S H x v R Q sm hx hg q
  match x, hg with
  | .d (.int i), hr => exact ⟨i, hx.int, q _ _ _ _ hr (Grow.refl sm) (.int _)⟩
/-- None, or not: the value's own make tells -/
theorem non_iff {n : En} {S H : Hp} {v : V} {x : DV} (h : RdOk K n S H v x) : (v = .non ↔ x = .d .none) := by
  rcases h with h | ⟨q, vs, xs, rfl, rfl, _⟩
  · cases x with
    | d x => cases h <;> simp
    | exc c x => obtain ⟨a, dd, v', rfl, _⟩ := h; simp
    | well o => cases o <;> (obtain ⟨p, rfl, _⟩ := h; simp)
  · simp
end
section
variable {K : Frag}
theorem caD_len : CaD K (fun xs H Q => (∃ p ys, xs = [.ref p] ∧ (SqL K H p ys ∨ SqT K H p ys) ∧ Q (.int ys.length) H) ∨ ∃ z, xs = [.str z] ∧ z.length ≤ sizeLine ∧ Q (.int z.length) H) bLen := by
  intro n S H xs vs R Q sm hx hg q
  match xs, hx, hg with
  | [.well o], .cons h .nil, hr =>
    cases o with
    | none => exact hr.elim
    | some ns =>
      obtain ⟨p, rfl, hp⟩ := h.scr sm
      refine .inl ⟨p, _, rfl, .inl hp, ?_⟩
      rw [List.length_map]
      exact q _ _ _ _ hr (Grow.refl sm) (.int _)
  | [.d (.list xs)], .cons h .nil, hr =>
    obtain ⟨p, vs, rfl, hp, hd⟩ := h.items sm
    refine .inl ⟨p, vs, rfl, .inl (SqL.of hp), ?_⟩
    rw [hd.len]
    exact q _ _ _ _ hr (Grow.refl sm) (.int _)
  | [.d (.tuple xs)], .cons h .nil, hr =>
    obtain ⟨p, vs, rfl, hp, hd⟩ := h.tup
    refine .inl ⟨p, vs, rfl, .inr (sqT_mono sm hp), ?_⟩
    rw [hd.len]
    exact q _ _ _ _ hr (Grow.refl sm) (.int _)
  | [.d (.str s)], .cons h .nil, ⟨hl, hr⟩ =>
    have e := h.str
    subst e
    exact .inr ⟨s, rfl, line5 hl, q _ _ _ _ hr (Grow.refl sm) (.int _)⟩
theorem caD_abs : CaD K (fun xs H Q => ∃ i, xs = [.int i] ∧ Q (.int (if i < 0 then -i else i)) H) bAbs := by
  intro n S H xs vs R Q sm hx hg q
  match xs, hx, hg with
  | [.d (.int i)], .cons h .nil, hr =>
    have e := h.int
    subst e
    refine ⟨i, rfl, ?_⟩
    have e : (if i < 0 then -i else i) = (i.natAbs : Int) := by split <;> omega
    rw [e]
    exact q _ _ _ _ hr (Grow.refl sm) (.int _)
theorem caD_int : CaD K (fun xs H Q => (∃ i, xs = [.int i] ∧ Q (.int i) H) ∨ ∃ k, xs = [.bl k] ∧ Q (.int (if k then 1 else 0)) H) bInt := by
  intro n S H xs vs R Q sm hx hg q
  match xs, hx, hg with
  | [.d (.int i)], .cons h .nil, hr =>
    have e := h.int
    subst e
    exact .inl ⟨i, rfl, q _ _ _ _ hr (Grow.refl sm) (.int _)⟩
  | [.d (.bool i)], .cons h .nil, hr =>
    have e := h.bool
    subst e
    exact .inr ⟨i, rfl, q _ _ _ _ hr (Grow.refl sm) (.int _)⟩
theorem caD_max2 : CaD K (fun xs H Q => ∃ i j, xs = [.int i, .int j] ∧ Q (.int (if j > i then j else i)) H) bMax2 := by
  intro n S H xs vs R Q sm hx hg q
  match xs, hx, hg with
  | [.d (.int i), .d (.int j)], .cons h (.cons h2 .nil), hr =>
    have e := h.int
    have e2 := h2.int
    subst e e2
    exact ⟨i, j, rfl, q _ _ _ _ hr (Grow.refl sm) (.int _)⟩
theorem caD_min2 : CaD K (fun xs H Q => ∃ i j, xs = [.int i, .int j] ∧ Q (.int (if j < i then j else i)) H) bMin2 := by
  intro n S H xs vs R Q sm hx hg q
  match xs, hx, hg with
  | [.d (.int i), .d (.int j)], .cons h (.cons h2 .nil), hr =>
    have e := h.int
    have e2 := h2.int
    subst e e2
    exact ⟨i, j, rfl, q _ _ _ _ hr (Grow.refl sm) (.int _)⟩
theorem ints_of {S : Hp} : ∀ {vs : List V} {xs : List PD} {ns : List Int}, DqAll K S vs xs → asInts xs = some ns → vs = ns.map V.int
  | _, _, _, .nil, e => by cases e; rfl
  | _, .int i :: r, ns, .cons h t, e => by
    cases h
    unfold asInts at e
    cases q : asInts r with
    | none => rw [q] at e; cases e
    | some l =>
      rw [q] at e
      cases e
      rw [ints_of t q, List.map_cons]
theorem bools_of {S : Hp} : ∀ {vs : List V} {xs : List PD} {ns : List Bool}, DqAll K S vs xs → asBools xs = some ns → vs = ns.map V.bl
  | _, _, _, .nil, e => by cases e; rfl
  | _, .bool i :: r, ns, .cons h t, e => by
    cases h
    unfold asBools at e
    cases q : asBools r with
    | none => rw [q] at e; cases e
    | some l =>
      rw [q] at e
      cases e
      rw [bools_of t q, List.map_cons]
theorem caD_sum : CaD K (rSum K) bSum := by
  intro n S H xs vs R Q sm hx hg q
  match xs, hx, hg with
  | [.d (.list xs)], .cons h .nil, ⟨ns, e, hr⟩ =>
    obtain ⟨p, vs, rfl, hp, hd⟩ := h.items sm
    have z := ints_of hd e
    subst z
    exact ⟨p, ns, rfl, SqL.of hp, q _ _ _ _ hr (Grow.refl sm) (.int _)⟩
theorem caD_all : CaD K (rAll K) bAll := by
  intro n S H xs vs R Q sm hx hg q
  match xs, hx, hg with
  | [.d (.list xs)], .cons h .nil, ⟨ns, e, hr⟩ =>
    obtain ⟨p, vs, rfl, hp, hd⟩ := h.items sm
    have z := bools_of hd e
    subst z
    exact ⟨p, ns, rfl, SqL.of hp, q _ _ _ _ hr (Grow.refl sm) (.bl _)⟩
theorem caD_any : CaD K (rAny K) bAny := by
  intro n S H xs vs R Q sm hx hg q
  match xs, hx, hg with
  | [.d (.list xs)], .cons h .nil, ⟨ns, e, hr⟩ =>
    obtain ⟨p, vs, rfl, hp, hd⟩ := h.items sm
    have z := bools_of hd e
    subst z
    exact ⟨p, ns, rfl, SqL.of hp, q _ _ _ _ hr (Grow.refl sm) (.bl _)⟩
theorem caD_gcd : CaD K rGcd bGcd := by
  intro n S H xs vs R Q sm hx hg q
  match xs, hx, hg with
  | [.d (.int i), .d (.int j)], .cons h (.cons h2 .nil), hr =>
    have e := h.int
    have e2 := h2.int
    subst e e2
    exact ⟨i, j, rfl, q _ _ _ _ hr (Grow.refl sm) (.int _)⟩
theorem caD_tuple : CaD K (fun xs H Q => ∃ p ys, xs = [.ref p] ∧ ((SqL K H p ys ∧ ∀ l, H l = none → Q (.ref l) (upd H l (.tup ys))) ∨ (SqT K H p ys ∧ Q (.ref p) H))) bTuple := by
  intro n S H xs vs R Q sm hx hg q
  match xs, hx, hg with
  | [.d (.list xs)], .cons h .nil, hr =>
    obtain ⟨p, vs, rfl, hp, hd⟩ := h.items sm
    refine ⟨p, vs, rfl, .inl ⟨SqL.of hp, fun l hl => ?_⟩⟩
    have g := Grow.new (o := .tup vs) sm hl
    exact q _ _ _ _ hr g (dq_tup upd_same (dqAll_mono g.po.sS hd))
  | [.d (.tuple xs)], .cons h .nil, hr =>
    obtain ⟨p, vs, rfl, hp, hd⟩ := h.tup
    exact ⟨p, vs, rfl, .inr ⟨sqT_mono sm hp, q _ _ _ _ hr (Grow.refl sm) (.tup hp hd)⟩⟩
theorem caD_repr : CaD K (rRepr K) bRepr := by
  intro n S H xs vs R Q sm hx hg q
  match xs, hx, hg with
  | [.d x], .cons (v := v) h .nil, ⟨ho, hr⟩ => exact ⟨v, x, rfl, (h.dq sm).dp, ho, q _ _ _ _ hr (Grow.refl sm) (.str _)⟩
end
end Wb
/-! Wb5: the rules: an expression and its reading as data. -/
namespace Wb
open PySem PySem.Spec PyProof.Rows L2

/-- what every context of ours bears -/
structure Cok (X : Cx) (n : En) (W : WX) (k : Nat) : Prop where
  calm : X.calm = true
  tk : Takes X W
  hr : Room k X.A
  hg : X.A.guards = some []
  nd : X.N.Nodup
theorem Cok.le {X : Cx} {n : En} {W : WX} {j k : Nat} (c : Cok X n W k) (h : j ≤ k) : Cok X n W j := ⟨c.calm, c.tk, c.hr.mono h, c.hg, c.nd⟩
theorem st_split {K : Frag} {n : En} {m a b : Nat} {S H : Hp} {σ : L2.St} {ρ : List Sl} (s : StOk K n (m + (a + b)) S H σ ρ) : StOk K n (m + b + a) S H σ ρ := s.le (by omega)
theorem st_down {K : Frag} {n : En} {m b : Nat} {S H : Hp} {σ : L2.St} {ρ : List Sl} (s : StOk K n (m + b) S H σ ρ) : StOk K n m S H σ ρ := s.le (by omega)

theorem bool_of {K : Frag} {n : En} {S : Hp} {v : V} {x : DV} {P : Bool → Prop} (h : DvOk K n S v x) (hb : onB x P) : ∃ k, v = .bl k ∧ x = .d (.bool k) ∧ P k := by
  cases x with
  | exc _ _ => exact hb.elim
  | well => exact hb.elim
  | d x =>
    cases x with
    | bool k =>
      cases h
      exact ⟨k, rfl, rfl, hb⟩
    | _ => exact hb.elim
section
variable {X : Cx} {n : En} {W : WX} {κ κ' κ2 : Nat} {e a b c : Expr} {es : List Expr} {pos : Pos} {f h g : DE} {fa : DA} {t u : DT}

/-! ### names and constants -/
theorem je_var {i : Nat} {x : Str} (hN : X.N[i]? = some x) (hv : Vis X.env.scope x) (hd : (x == ("__debug__" : Str)) = false) (hcd : (x == ("__classdict__" : Str)) = false) : JE X n W 0 (.Name x pos) (dVar i) := by
  refine PE.to (pe_var hN hv hd hcd) fun σ H Q hq => ?_
  obtain ⟨m, S, ρ, R, Er, st, hf, kR, _⟩ := hq
  obtain ⟨A, h1, _⟩ := st.sl
  unfold dVar slV at hf
  cases q : ρ[i]? with
  | none => rw [q] at hf; exact hf.elim
  | some s =>
    rw [q] at hf
    cases s with
    | no => exact hf.elim
    | own _ => exact hf.elim
    | v x =>
      obtain ⟨v, e, d⟩ := h1 i _ q
      exact ⟨v, e, kR x v S H hf st Post.refl d⟩
theorem jo_own {i : Nat} {x : Str} (hN : X.N[i]? = some x) (hv : Vis X.env.scope x) (hd : (x == ("__debug__" : Str)) = false) (hcd : (x == ("__classdict__" : Str)) = false) : JO X n W 0 (.Name x pos) (dOwn i) := by
  refine PE.to (pe_var hN hv hd hcd) fun σ H Q hq => ?_
  obtain ⟨m, S, ρ, R, Er, st, hf, kR, _⟩ := hq
  obtain ⟨A, h1, _⟩ := st.sl
  unfold dOwn slO at hf
  cases q : ρ[i]? with
  | none => rw [q] at hf; exact hf.elim
  | some s =>
    rw [q] at hf
    cases s with
    | no => exact hf.elim
    | own xs =>
      obtain ⟨e, _, _, hw, vs, hp, d⟩ := h1 i _ q
      exact ⟨_, e, kR _ _ S H hf st Post.refl (.inr ⟨_, vs, xs, rfl, rfl, hw, hp, d⟩)⟩
    | v x =>
      obtain ⟨v, e, d⟩ := h1 i _ q
      exact ⟨v, e, kR x v S H hf st Post.refl (.inl d)⟩
theorem je_c {v : V} {x : PD} (he : PE X e (tC v)) (hx : ∀ S, Dq X.K S v x) : JE X n W 0 e (dC x) := by
  refine PE.to he fun σ H Q hq => ?_
  obtain ⟨m, S, ρ, R, Er, st, hf, kR, _⟩ := hq
  exact kR _ v S H hf st Post.refl (hx S)
theorem je_int {i : Int} {j : Nat} : JE X n W 0 (.Constant (.int i) j pos) (dC (.int i)) := je_c pe_int fun _ => .int i
theorem je_bl {i : Bool} {j : Nat} : JE X n W 0 (.Constant (.bool i) j pos) (dC (.bool i)) := je_c pe_bl fun _ => .bl i
theorem je_non {j : Nat} : JE X n W 0 (.Constant .none j pos) (dC .none) := je_c pe_non fun _ => .non
theorem je_str {i : Str} {j : Nat} : JE X n W 0 (.Constant (.str i) j pos) (dC (.str i)) := je_c pe_str fun _ => .str i
theorem je_glob {x : Str} {v : V} {uv : Value} {d : PD} (hg : Gl X x) (hm : X.mg x = some uv) (r : RelV v uv) (hx : ∀ S, Dq X.K S v d) (hd : (x == ("__debug__" : Str)) = false) : JE X n W 0 (.Name x pos) (dC d) :=
  je_c (pe_glob hg hm r hd) hx
/-- data may be read -/
theorem je_o (he : JE X n W κ e f) : JO X n W κ e f := PE.to he fun σ H Q ⟨m, S, ρ, R, Er, st, hf, kR, kE⟩ => ⟨m, S, ρ, R, Er, st, hf, fun x v S' H' hx st' p d => kR x v S' H' hx st' p (.inl d), kE⟩
/-- a new list is data, if nobody changes it -/
theorem jn_e {f : DN} (he : JN X n W κ e f) : JE X n W κ e (dN2 f) := by
  refine PE.to he fun σ H Q ⟨m, S, ρ, R, Er, st, hf, kR, kE⟩ => ⟨m, S, ρ, _, Er, st, hf, fun xs p vs S' H' hx st' po np sp hp d => ?_, kE⟩
  have sS : Same S' (upd S' p (.lst vs)) := fun b o e => by rw [upd_ne (ne_of_none e sp)]; exact e
  have wn : n.wl ≠ some p := fun z => by
    obtain ⟨_, a, b, c, hw, _⟩ := st.wd.we p z
    rw [np] at hw
    cases hw
  have po' : Post n.wl S H (upd S' p (.lst vs)) H' := ⟨po.sS.trans sS, fun a ha sa => by
    have : a ≠ p := fun z => ha (z ▸ np)
    rw [upd_ne this]; exact po.fr a ha sa, po.kp, po.al⟩
  have wd' : Wd n.wl m (upd S' p (.lst vs)) H' := ⟨fun b o e => by
      by_cases z : b = p
      · rw [z, upd_same] at e; rw [z, hp]; exact e
      · rw [upd_ne z] at e; exact st'.wd.sm b o e, fun q e => by
      obtain ⟨w1, w2⟩ := st'.wd.we q e
      exact ⟨by rw [upd_ne (fun z => wn (by rw [← z]; exact e))]; exact w1, w2⟩⟩
  exact kR _ _ _ _ hx (st.step po' wd') po' (dq_lst upd_same (dqAll_mono sS d))

/-! ### two operands -/
theorem j2 {r : R2} {gg : DV → DV → (DV → Prop) → Prop} (hr : OpD X.K r gg) {K : Frag} (eK : K = X.K) {Q : VK} {σ : L2.St} {H : Hp} (hq : rdE K n W (κ + κ') (d2 gg f h) σ H Q) :
    tOp r (rdO K n W κ f) (rdO K n W κ' h) σ H Q := by
  subst eK
  obtain ⟨m, S, ρ, R, Er, st, hf, kR, kE⟩ := hq
  refine ⟨m + κ', S, ρ, _, Er, st_split st, hf, fun x v S1 H1 hx st1 p1 d1 => ?_, fun c x cls dx S' H' e s' er => kE c x cls dx S' H' e (st_down s') er⟩
  refine ⟨m, S1, ρ, _, Er, st1, hx, fun y u S2 H2 hy st2 p2 d2 => ?_, ke_af p1.sS kE⟩
  exact hr n S2 H2 x y v u R Q st2.wd.sm (d1.post p2) d2 hy fun z w S3 H3 hz g dz => kR z w S3 H3 hz (st2.grow g) ((p1.trans p2).trans g.po.wk) dz
theorem je_op {op : Operator} {r : R2} {gg : DV → DV → (DV → Prop) → Prop} (ho : OpR X (binaryOp op) r) (hr : OpD X.K r gg) (ha : JO X n W κ a f) (hb : JO X n W κ' b h) : JE X n W (κ + κ') (.BinOp a op b pos) (d2 gg f h) :=
  PE.to (pe_op ho ha hb) fun σ H Q hq => j2 hr rfl hq
theorem je_cmp {op : CmpOp} {r : R2} {gg : DV → DV → (DV → Prop) → Prop} (ho : OpR X (compareOp op) r) (hr : OpD X.K r gg) (ha : JO X n W κ a f) (hb : JO X n W κ' b h) (hm : behindInMarks op b = false) :
    JE X n W (κ + κ') (.Compare a [op] [b] pos) (d2 gg f h) :=
  PE.to (pe_cmpR ho ha hb hm) fun σ H Q hq => j2 hr rfl hq
theorem je_ix {r : R2} {gg : DV → DV → (DV → Prop) → Prop} (ho : IxR X r) (hr : OpD X.K r gg) (ha : JO X n W κ a f) (hb : JO X n W κ' b h) (hs : PlainIx b) : JE X n W (κ + κ') (.Subscript a b pos) (d2 gg f h) :=
  PE.to (pe_ix ho ha hb hs) fun σ H Q hq => j2 hr rfl hq
theorem je_un {op : UnaryOp} {r : V → Hp → VK → Prop} {gg : DV → (DV → Prop) → Prop} (ho : UnR X (unaryOp op) r) (hr : UnD X.K r gg) (ha : JO X n W κ a f) : JE X n W κ (.UnaryOp op a pos) (d1 gg f) := by
  refine PE.to (pe_un ho ha) fun σ H Q ⟨m, S, ρ, R, Er, st, hf, kR, kE⟩ => ⟨m, S, ρ, _, Er, st, hf, fun x v S1 H1 hx st1 p1 d1 => ?_, kE⟩
  exact hr n S1 H1 x v R Q st1.wd.sm d1 hx fun z w S3 H3 hz g dz => kR z w S3 H3 hz (st1.grow g) (p1.trans g.po.wk) dz
theorem op_addD : OpR X (binaryOp .Add) (rAdd X.K) := op_add.or (op_add_str.or (op_cat.or op_catA))
theorem op_mulD : OpR X (binaryOp .Mult) (rMulAll X.K) := op_mulX.or (op_rep.or op_repTA)
theorem op_eqA {k : Nat} (hr : Room k X.A) : OpR X (compareOp .Eq) (fun x y H Q => rEq x y H Q ∨ rEqD X.K x y H Q) := op_eq.or (op_eqD hr.units)
theorem op_neA {k : Nat} (hr : Room k X.A) : OpR X (compareOp .NotEq) (fun x y H Q => rNe x y H Q ∨ rNeD X.K x y H Q) := op_ne.or (op_neD hr.units)
theorem op_inA {k : Nat} (hr : Room k X.A) : OpR X (compareOp .In) (fun x y H Q => rInD X.K x y H Q ∨ rIn X.K false x y H Q) := (op_inD (by have := hr.un; omega)).or op_in_seq
theorem op_notInA {k : Nat} (hr : Room k X.A) : OpR X (compareOp .NotIn) (fun x y H Q => rNotInD X.K x y H Q ∨ rIn X.K true x y H Q) := (op_notInD (by have := hr.un; omega)).or op_notIn_seq
theorem fdivOk_op : OpR X (binaryOp .FloorDiv) (rI FdivOk fun i j => .int (i.fdiv j)) := opI fun i j _ _ _ _ _ hc q => by
  refine floordiv_int hc.1 q (.inl (PyProof.noPylong_of_log2 ?_))
  exact PySem.Flt.log2_lt_of (by decide) hc.2
theorem je_add (ha : JO X n W κ a f) (hb : JO X n W κ' b h) : JE X n W (κ + κ') (.BinOp a .Add b pos) (d2 gAdd f h) := je_op op_addD opD_add ha hb
theorem je_sub (ha : JO X n W κ a f) (hb : JO X n W κ' b h) : JE X n W (κ + κ') (.BinOp a .Sub b pos) (d2 gSub f h) := je_op op_sub (opD_I0 fun _ _ _ => .int _) ha hb
theorem je_mul (ha : JO X n W κ a f) (hb : JO X n W κ' b h) : JE X n W (κ + κ') (.BinOp a .Mult b pos) (d2 gMul f h) := je_op op_mulD opD_mul ha hb
theorem je_fdiv (ha : JO X n W κ a f) (hb : JO X n W κ' b h) : JE X n W (κ + κ') (.BinOp a .FloorDiv b pos) (d2 gFdiv f h) := je_op fdivOk_op (opD_I fun _ _ _ => .int _) ha hb
theorem je_mod (ha : JO X n W κ a f) (hb : JO X n W κ' b h) : JE X n W (κ + κ') (.BinOp a .Mod b pos) (d2 gMod f h) := je_op op_modN (opD_I fun _ _ _ => .int _) ha hb
theorem je_pow (ha : JO X n W κ a f) (hb : JO X n W κ' b h) : JE X n W (κ + κ') (.BinOp a .Pow b pos) (d2 gPow f h) := je_op op_pow (opD_I fun _ _ _ => .int _) ha hb
theorem je_neg (ha : JO X n W κ a f) : JE X n W κ (.UnaryOp .USub a pos) (d1 gNeg f) := je_un un_neg unD_neg ha
theorem je_lt (ha : JO X n W κ a f) (hb : JO X n W κ' b h) : JE X n W (κ + κ') (.Compare a [.Lt] [b] pos) (d2 gLt f h) := je_cmp op_lt (opD_I0 fun _ _ _ => .bl _) ha hb (nomark _)
theorem je_le (ha : JO X n W κ a f) (hb : JO X n W κ' b h) : JE X n W (κ + κ') (.Compare a [.LtE] [b] pos) (d2 gLe f h) := je_cmp op_le (opD_I0 fun _ _ _ => .bl _) ha hb (nomark _)
theorem je_gt (ha : JO X n W κ a f) (hb : JO X n W κ' b h) : JE X n W (κ + κ') (.Compare a [.Gt] [b] pos) (d2 gGt f h) := je_cmp op_gt (opD_I0 fun _ _ _ => .bl _) ha hb (nomark _)
theorem je_ge (ha : JO X n W κ a f) (hb : JO X n W κ' b h) : JE X n W (κ + κ') (.Compare a [.GtE] [b] pos) (d2 gGe f h) := je_cmp op_ge (opD_I0 fun _ _ _ => .bl _) ha hb (nomark _)
theorem je_eq {k : Nat} (C : Cok X n W k) (ha : JO X n W κ a f) (hb : JO X n W κ' b h) : JE X n W (κ + κ') (.Compare a [.Eq] [b] pos) (d2 gEq f h) := je_cmp (op_eqA C.hr) opD_eq ha hb (nomark _)
theorem je_ne {k : Nat} (C : Cok X n W k) (ha : JO X n W κ a f) (hb : JO X n W κ' b h) : JE X n W (κ + κ') (.Compare a [.NotEq] [b] pos) (d2 gNe f h) := je_cmp (op_neA C.hr) opD_ne ha hb (nomark _)
theorem je_in {k : Nat} (C : Cok X n W k) (ha : JO X n W κ a f) (hb : JO X n W κ' b h) (hm : behindInMarks .In b = false) : JE X n W (κ + κ') (.Compare a [.In] [b] pos) (d2 gIn f h) := je_cmp (op_inA C.hr) opD_in ha hb hm
theorem je_notIn {k : Nat} (C : Cok X n W k) (ha : JO X n W κ a f) (hb : JO X n W κ' b h) (hm : behindInMarks .NotIn b = false) : JE X n W (κ + κ') (.Compare a [.NotIn] [b] pos) (d2 gNotIn f h) := je_cmp (op_notInA C.hr) opD_notIn ha hb hm
theorem je_sub_ix (ha : JO X n W κ a f) (hb : JO X n W κ' b h) (hs : PlainIx b) : JE X n W (κ + κ') (.Subscript a b pos) (d2 gIx f h) := je_ix ix_seq opD_ix ha hb hs
theorem je_isN {j : Nat} {p' : Pos} (ha : JO X n W κ a f) : JE X n W κ (.Compare a [.Is] [.Constant .none j p'] pos) (d1 gIsN f) := by
  refine PE.to (pe_cmp (pc_isN ha)) fun σ H Q ⟨m, S, ρ, R, Er, st, hf, kR, kE⟩ => ⟨m, S, ρ, _, Er, st, hf, fun x v S1 H1 hx st1 p1 d1 => ?_, kE⟩
  have hi := non_iff d1
  show Q (V.bl (decide (v = .non))) H1
  by_cases z : v = .non
  · have e := hi.mp z
    subst e
    rw [decide_eq_true z]
    exact kR _ _ S1 H1 hx st1 p1 (.bl _)
  · rw [decide_eq_false z]
    have hx : R (.d (.bool false)) := by
      cases x with
      | exc _ _ => exact hx
      | well => exact hx
      | d x => cases x <;> first | exact hx | exact absurd (hi.mpr rfl) z
    exact kR _ _ S1 H1 hx st1 p1 (.bl _)
theorem je_notN {j : Nat} {p' : Pos} (ha : JO X n W κ a f) : JE X n W κ (.Compare a [.IsNot] [.Constant .none j p'] pos) (d1 gNotN f) := by
  refine PE.to (pe_cmp (pc_notN ha)) fun σ H Q ⟨m, S, ρ, R, Er, st, hf, kR, kE⟩ => ⟨m, S, ρ, _, Er, st, hf, fun x v S1 H1 hx st1 p1 d1 => ?_, kE⟩
  have hi := non_iff d1
  show Q (V.bl (!decide (v = .non))) H1
  by_cases z : v = .non
  · have e := hi.mp z
    subst e
    rw [decide_eq_true z]
    exact kR _ _ S1 H1 hx st1 p1 (.bl _)
  · rw [decide_eq_false z]
    have hx : R (.d (.bool true)) := by
      cases x with
      | exc _ _ => exact hx
      | well => exact hx
      | d x => cases x <;> first | exact hx | exact absurd (hi.mpr rfl) z
    exact kR _ _ S1 H1 hx st1 p1 (.bl _)

/-! ### chains -/
theorem jchain {r r' : R2} {gg gg' : DV → DV → (DV → Prop) → Prop} (hr : OpD X.K r gg) (hr' : OpD X.K r' gg') {Q : VK} {σ : L2.St} {H : Hp} (hq : rdE X.K n W (κ + (κ' + κ2)) (dChain gg gg' f h g) σ H Q) :
    tChain r r' (rdO X.K n W κ f) (rdO X.K n W κ' h) (rdO X.K n W κ2 g) σ H Q := by
  obtain ⟨m, S, ρ, R, Er, st, hf, kR, kE⟩ := hq
  refine ⟨m + (κ' + κ2), S, ρ, _, Er, st_split st, hf, fun x v S1 H1 hx st1 p1 d1 => ?_, fun c x cls dx S' H' e s' er => kE c x cls dx S' H' e (st_down s') er⟩
  refine ⟨m + κ2, S1, ρ, _, Er, st_split st1, hx, fun y u S2 H2 hy st2 p2 d2 => ?_, fun c x cls dx S' H' e s' er q => kE c x cls dx S' H' e (st_down s') er (p1.sS.trans q)⟩
  refine hr n S2 H2 x y v u _ _ st2.wd.sm (d1.post p2) d2 hy fun z w S3 H3 hz g3 dz => ?_
  obtain ⟨k, rfl, rfl, hz⟩ := bool_of dz hz
  · refine ⟨k, rfl, ?_⟩
    cases k with
    | true =>
      show rdO X.K n W κ2 g σ H3 fun w' H4 => r' u w' H4 Q
      refine ⟨m, S3, ρ, _, Er, st2.grow g3, hz, fun y4 w4 S4 H4 h4 st4 p4 d4 => ?_, ke_af ((p1.trans p2).trans g3.po.wk).sS kE⟩
      exact hr' n S4 H4 y y4 u w4 R Q st4.wd.sm ((d2.post g3.po.wk).post p4) d4 h4 fun z5 w5 S5 H5 h5 g5 d5 => kR z5 w5 S5 H5 h5 (st4.grow g5) ((((p1.trans p2).trans g3.po.wk).trans p4).trans g5.po.wk) d5
    | false =>
      show Q (.bl false) H3
      exact kR _ _ S3 H3 hz (st_down (st2.grow g3)) ((p1.trans p2).trans g3.po.wk) (.bl _)
theorem je_chain {op op' : CmpOp} {r r' : R2} {gg gg' : DV → DV → (DV → Prop) → Prop} (ho : OpR X (compareOp op) r) (hr : OpD X.K r gg) (ho' : OpR X (compareOp op') r') (hr' : OpD X.K r' gg')
    (ha : JO X n W κ a f) (hb : JO X n W κ' b h) (hc : JO X n W κ2 c g) (hm : lastMarks [op, op'] [b, c] = false) : JE X n W (κ + (κ' + κ2)) (.Compare a [op, op'] [b, c] pos) (dChain gg gg' f h g) :=
  PE.to (pe_chain ho ho' ha hb hc hm) fun σ H Q hq => jchain hr hr' hq

/-! ### tests -/
theorem jt_of {t0 : TE} (hp : PT X e (tTest t0)) (hq : ∀ σ H Q, rdE X.K n W κ f σ H Q → t0 σ H Q) : JT X n W κ e (tVal f) := by
  refine PT.to hp fun σ H Q ⟨m, S, ρ, R, Er, st, hf, kR, kE⟩ => hq σ H _ ⟨m, S, ρ, _, Er, st, hf, fun x v S1 H1 hx st1 p1 d1 => ?_, kE⟩
  obtain ⟨k, rfl, rfl, hz⟩ := bool_of d1 hx
  exact ⟨k, rfl, kR k S1 H1 hz st1 p1⟩
theorem jt_cmp {op : CmpOp} {r : R2} {gg : DV → DV → (DV → Prop) → Prop} (ho : OpR X (compareOp op) r) (hr : OpD X.K r gg) (ha : JO X n W κ a f) (hb : JO X n W κ' b h) (hm : behindInMarks op b = false) :
    JT X n W (κ + κ') (.Compare a [op] [b] pos) (tVal (d2 gg f h)) := jt_of (pt_cmpR ho ha hb hm) fun σ H Q hq => j2 hr rfl hq
theorem jt_chain {op op' : CmpOp} {r r' : R2} {gg gg' : DV → DV → (DV → Prop) → Prop} (ho : OpR X (compareOp op) r) (hr : OpD X.K r gg) (ho' : OpR X (compareOp op') r') (hr' : OpD X.K r' gg')
    (ha : JO X n W κ a f) (hb : JO X n W κ' b h) (hc : JO X n W κ2 c g) (hm : lastMarks [op, op'] [b, c] = false) : JT X n W (κ + (κ' + κ2)) (.Compare a [op, op'] [b, c] pos) (tVal (dChain gg gg' f h g)) :=
  jt_of (pt_chain ho ho' ha hb hc hm) fun σ H Q hq => jchain hr hr' hq
/-- an expression whose value is True or False, as a test -/
theorem jt_val (he : JE X n W κ e f) (hw : ∀ whole, isTrue e X.env whole = (do let v ← whole; standAt e.pos; holding [v] (truthy v))) : JT X n W κ e (tVal f) := by
  refine PT.to (pt_val he hw) fun σ H Q ⟨m, S, ρ, R, Er, st, hf, kR, kE⟩ => ⟨m, S, ρ, _, Er, st, hf, fun x v S1 H1 hx st1 p1 d1 => ?_, kE⟩
  obtain ⟨k, rfl, rfl, hz⟩ := bool_of d1 hx
  exact ⟨k, rfl, kR k S1 H1 hz st1 p1⟩
theorem jt_isN {j : Nat} {p' : Pos} (ha : JO X n W κ a f) : JT X n W κ (.Compare a [.Is] [.Constant .none j p'] pos) (tVal (d1 gIsN f)) := by
  refine PT.to (pt_cmp (pc_isN ha)) fun σ H Q ⟨m, S, ρ, R, Er, st, hf, kR, kE⟩ => ⟨m, S, ρ, _, Er, st, hf, fun x v S1 H1 hx st1 p1 d1 => ⟨_, rfl, ?_⟩, kE⟩
  have hi := non_iff d1
  show Q (decide (v = .non)) H1
  by_cases z : v = .non
  · have e := hi.mp z
    subst e
    rw [decide_eq_true z]
    exact kR _ S1 H1 hx st1 p1
  · rw [decide_eq_false z]
    have hx : R false := by
      cases x with
      | exc _ _ => exact hx
      | well => exact hx
      | d x => cases x <;> first | exact hx | exact absurd (hi.mpr rfl) z
    exact kR _ S1 H1 hx st1 p1
theorem jt_notN {j : Nat} {p' : Pos} (ha : JO X n W κ a f) : JT X n W κ (.Compare a [.IsNot] [.Constant .none j p'] pos) (tVal (d1 gNotN f)) := by
  refine PT.to (pt_cmp (pc_notN ha)) fun σ H Q ⟨m, S, ρ, R, Er, st, hf, kR, kE⟩ => ⟨m, S, ρ, _, Er, st, hf, fun x v S1 H1 hx st1 p1 d1 => ⟨_, rfl, ?_⟩, kE⟩
  have hi := non_iff d1
  show Q (!decide (v = .non)) H1
  by_cases z : v = .non
  · have e := hi.mp z
    subst e
    rw [decide_eq_true z]
    exact kR _ S1 H1 hx st1 p1
  · rw [decide_eq_false z]
    have hx : R true := by
      cases x with
      | exc _ _ => exact hx
      | well => exact hx
      | d x => cases x <;> first | exact hx | exact absurd (hi.mpr rfl) z
    exact kR _ S1 H1 hx st1 p1
theorem jt_not (ha : JT X n W κ a t) : JT X n W κ (.UnaryOp .Not a pos) (tNot' t) :=
  PT.to (pt_not ha) fun σ H Q ⟨m, S, ρ, R, Er, st, hf, kR, kE⟩ => ⟨m, S, ρ, _, Er, st, hf, fun b S1 H1 hx st1 p1 => kR _ S1 H1 hx st1 p1, kE⟩
abbrev JW (X : Cx) (n : En) (W : WX) (κ : Nat) (e : Expr) (f : DT) : Prop := PW X e (rdT X.K n W κ f)
theorem jw_pt (ha : JW X n W κ a t) : JT X n W κ a t := PW.pt ha
theorem jw_and1 (ha : JT X n W κ a t) : JW X n W κ (.BoolOp .And [a] pos) t := pw_and1 ha
theorem jw_or1 (ha : JT X n W κ a t) : JW X n W κ (.BoolOp .Or [a] pos) t := pw_or1 ha
theorem jw_and (ha : JT X n W κ a t) (hb : JW X n W κ' (.BoolOp .And (b :: es) pos) u) : JW X n W (κ + κ') (.BoolOp .And (a :: b :: es) pos) (tAnd' t u) := by
  refine PW.to (pw_and ha hb) fun σ H Q ⟨m, S, ρ, R, Er, st, hf, kR, kE⟩ => ⟨m + κ', S, ρ, _, Er, st_split st, hf, fun b S1 H1 hx st1 p1 => ?_, fun c x cls dx S' H' e s' er => kE c x cls dx S' H' e (st_down s') er⟩
  cases b with
  | true =>
    show rdT X.K n W κ' u σ H1 Q
    exact ⟨m, S1, ρ, R, Er, st1, hx, fun b S2 H2 hx st2 p2 => kR b S2 H2 hx st2 (p1.trans p2), ke_af p1.sS kE⟩
  | false =>
    show Q false H1
    exact kR _ S1 H1 hx (st_down st1) p1
theorem jw_or (ha : JT X n W κ a t) (hb : JW X n W κ' (.BoolOp .Or (b :: es) pos) u) : JW X n W (κ + κ') (.BoolOp .Or (a :: b :: es) pos) (tOr' t u) := by
  refine PW.to (pw_or ha hb) fun σ H Q ⟨m, S, ρ, R, Er, st, hf, kR, kE⟩ => ⟨m + κ', S, ρ, _, Er, st_split st, hf, fun b S1 H1 hx st1 p1 => ?_, fun c x cls dx S' H' e s' er => kE c x cls dx S' H' e (st_down s') er⟩
  cases b with
  | false =>
    show rdT X.K n W κ' u σ H1 Q
    exact ⟨m, S1, ρ, R, Er, st1, hx, fun b S2 H2 hx st2 p2 => kR b S2 H2 hx st2 (p1.trans p2), ke_af p1.sS kE⟩
  | true =>
    show Q true H1
    exact kR _ S1 H1 hx (st_down st1) p1
/-! and, or, not, if else as values -/
theorem je_one {op : BoolOp} (ha : JE X n W κ a f) : JE X n W κ (.BoolOp op [a] pos) f := pe_one ha
theorem je_and (ha : JE X n W κ a f) (hb : JE X n W κ' (.BoolOp .And (b :: es) pos) h) : JE X n W (κ + κ') (.BoolOp .And (a :: b :: es) pos) (dAnd f h) := by
  refine PE.to (pe_and ha hb) fun σ H Q ⟨m, S, ρ, R, Er, st, hf, kR, kE⟩ => ⟨m + κ', S, ρ, _, Er, st_split st, hf, fun x v S1 H1 hx st1 p1 d1 => ?_, fun c x cls dx S' H' e s' er => kE c x cls dx S' H' e (st_down s') er⟩
  obtain ⟨k, rfl, rfl, hz⟩ := bool_of d1 hx
  · refine ⟨k, rfl, ?_⟩
    cases k with
    | true =>
      show rdE X.K n W κ' h σ H1 Q
      exact ⟨m, S1, ρ, R, Er, st1, hz, fun x v S2 H2 hx st2 p2 d2 => kR x v S2 H2 hx st2 (p1.trans p2) d2, ke_af p1.sS kE⟩
    | false =>
      show Q (.bl false) H1
      exact kR _ _ S1 H1 hz (st_down st1) p1 (.bl _)
theorem je_or (ha : JE X n W κ a f) (hb : JE X n W κ' (.BoolOp .Or (b :: es) pos) h) : JE X n W (κ + κ') (.BoolOp .Or (a :: b :: es) pos) (dOr f h) := by
  refine PE.to (pe_or ha hb) fun σ H Q ⟨m, S, ρ, R, Er, st, hf, kR, kE⟩ => ⟨m + κ', S, ρ, _, Er, st_split st, hf, fun x v S1 H1 hx st1 p1 d1 => ?_, fun c x cls dx S' H' e s' er => kE c x cls dx S' H' e (st_down s') er⟩
  obtain ⟨k, rfl, rfl, hz⟩ := bool_of d1 hx
  · refine ⟨k, rfl, ?_⟩
    cases k with
    | false =>
      show rdE X.K n W κ' h σ H1 Q
      exact ⟨m, S1, ρ, R, Er, st1, hz, fun x v S2 H2 hx st2 p2 d2 => kR x v S2 H2 hx st2 (p1.trans p2) d2, ke_af p1.sS kE⟩
    | true =>
      show Q (.bl true) H1
      exact kR _ _ S1 H1 hz (st_down st1) p1 (.bl _)
theorem je_not (ha : JE X n W κ a f) : JE X n W κ (.UnaryOp .Not a pos) (dNot f) := by
  refine PE.to (pe_not ha) fun σ H Q ⟨m, S, ρ, R, Er, st, hf, kR, kE⟩ => ⟨m, S, ρ, _, Er, st, hf, fun x v S1 H1 hx st1 p1 d1 => ?_, kE⟩
  obtain ⟨k, rfl, rfl, hz⟩ := bool_of d1 hx
  exact ⟨k, rfl, kR _ _ S1 H1 hz st1 p1 (.bl _)⟩
theorem je_if (hc : JT X n W κ c t) (ha : JE X n W κ' a f) (hb : JE X n W κ2 b h) : JE X n W (κ + (κ' + κ2)) (.IfExp c a b pos) (dIf t f h) := by
  refine PE.to (pe_ifExp hc ha hb) fun σ H Q ⟨m, S, ρ, R, Er, st, hf, kR, kE⟩ => ⟨m + (κ' + κ2), S, ρ, _, Er, st_split st, hf, fun k S1 H1 hx st1 p1 => ?_, fun c x cls dx S' H' e s' er => kE c x cls dx S' H' e (st_down s') er⟩
  cases k with
  | true =>
    show rdE X.K n W κ' f σ H1 Q
    exact ⟨m, S1, ρ, R, Er, st1.le (by omega), hx, fun x v S2 H2 hx st2 p2 d2 => kR x v S2 H2 hx st2 (p1.trans p2) d2, ke_af p1.sS kE⟩
  | false =>
    show rdE X.K n W κ2 h σ H1 Q
    exact ⟨m, S1, ρ, R, Er, st1.le (by omega), hx, fun x v S2 H2 hx st2 p2 d2 => kR x v S2 H2 hx st2 (p1.trans p2) d2, ke_af p1.sS kE⟩

/-! ### arguments, tuples, lists -/
theorem ja_nil : JA X n W 0 [] aNil := PA.to pa_nil fun σ H Q ⟨m, S, ρ, R, Er, st, hf, kR, _⟩ => kR [] [] S H hf st Post.refl .nil
theorem ja_cons {fr : DA} (ha : JE X n W κ e f) (hb : JA X n W κ' es fr) (hs : starEach (e :: es) X.env = (false, eval e X.env) :: starEach es X.env) : JA X n W (κ + κ') (e :: es) (aCons f fr) := by
  refine PA.to (pa_cons ha hb hs) fun σ H Q ⟨m, S, ρ, R, Er, st, hf, kR, kE⟩ => ⟨m + κ', S, ρ, _, Er, st_split st, hf, fun x v S1 H1 hx st1 p1 d1 => ?_, fun c x cls dx S' H' e s' er => kE c x cls dx S' H' e (st_down s') er⟩
  exact ⟨m, S1, ρ, _, Er, st1, hx, fun xs vs S2 H2 hx st2 p2 d2 => kR _ _ S2 H2 hx st2 (p1.trans p2) (.cons (dv_mono p2.sS d1) d2), ke_af p1.sS kE⟩
/-- arguments that may be one's own -/
def rdAO (K : Frag) (n : En) (W : WX) (κ : Nat) (f : DA) : TA := fun σ H Q => ∃ m S ρ R Er, StOk K n (m + κ) S H σ ρ ∧ f ρ R Er ∧
  (∀ xs vs S' H', R xs → StOk K n m S' H' σ ρ → Post n.wl S H S' H' → RdAll K n S' H' vs xs → Q vs H') ∧
  KErr K n W m S σ ρ Er
abbrev JAO (X : Cx) (n : En) (W : WX) (κ : Nat) (es : List Expr) (f : DA) : Prop := PA X es (rdAO X.K n W κ f)
theorem jo_nil : JAO X n W 0 [] aNil := PA.to pa_nil fun σ H Q ⟨m, S, ρ, R, Er, st, hf, kR, _⟩ => kR [] [] S H hf st Post.refl .nil
theorem jo_cons {fr : DA} (ha : JO X n W κ e f) (hb : JAO X n W κ' es fr) (hs : starEach (e :: es) X.env = (false, eval e X.env) :: starEach es X.env) : JAO X n W (κ + κ') (e :: es) (aCons f fr) := by
  refine PA.to (pa_cons ha hb hs) fun σ H Q ⟨m, S, ρ, R, Er, st, hf, kR, kE⟩ => ⟨m + κ', S, ρ, _, Er, st_split st, hf, fun x v S1 H1 hx st1 p1 d1 => ?_, fun c x cls dx S' H' e s' er => kE c x cls dx S' H' e (st_down s') er⟩
  exact ⟨m, S1, ρ, _, Er, st1, hx, fun xs vs S2 H2 hx st2 p2 d2 => kR _ _ S2 H2 hx st2 (p1.trans p2) (.cons (d1.post p2) d2), ke_af p1.sS kE⟩
theorem allD_of {K : Frag} {S : Hp} {vs : List V} {xs : List DV} {P : List PD → Prop} (d : DvAll K n S vs xs) (h : allD xs P) : ∃ ds, DqAll K S vs ds ∧ P ds := by
  induction d generalizing P with
  | nil => exact ⟨[], .nil, h⟩
  | @cons v vs x xs a t ih =>
    cases x with
    | exc _ _ => exact h.elim
    | well _ => exact h.elim
    | d x =>
      obtain ⟨ds, h1, h2⟩ := ih (P := fun ys => P (x :: ys)) h
      exact ⟨x :: ds, .cons a h1, h2⟩
theorem je_tup {x1 : Nat} (ha : JA X n W κ es fa) : JE X n W κ (.Tuple es x1 pos) (dTup fa) := by
  refine PE.to (pe_tup ha) fun σ H Q ⟨m, S, ρ, R, Er, st, hf, kR, kE⟩ => ⟨m, S, ρ, _, Er, st, hf, fun xs vs S1 H1 hx st1 p1 d1 => ?_, kE⟩
  obtain ⟨ds, dd, hl, hr⟩ := allD_of d1 hx
  refine ⟨line5 (by rw [dd.len]; exact hl), fun p hp => ?_⟩
  have g := Grow.new (o := .tup vs) st1.wd.sm hp
  exact kR _ _ _ _ hr (st1.grow g) (p1.trans g.po.wk) (dq_tup upd_same (dqAll_mono g.po.sS dd))
theorem jn_lst (ha : JA X n W κ es fa) : JN X n W κ (.List es pos) (nLst fa) := by
  refine PE.to (pe_lst ha) fun σ H Q ⟨m, S, ρ, R, Er, st, hf, kR, kE⟩ => ⟨m, S, ρ, _, Er, st, hf, fun xs vs S1 H1 hx st1 p1 d1 => ?_, kE⟩
  obtain ⟨ds, dd, hl, hr⟩ := allD_of d1 hx
  refine ⟨line5 (by rw [dd.len]; exact hl), fun p hp => ?_⟩
  have g := Grow.beside (o := .lst vs) st1.wd.sm hp
  have hp0 : H p = none := by
    cases q : H p with
    | none => rfl
    | some o => exact absurd hp (p1.al p (by rw [q]; exact Option.some_ne_none _))
  exact kR ds p vs _ _ hr (st1.grow g) (p1.trans g.po.wk) hp0 (st1.wd.sm.free hp) upd_same dd

/-! ### calls -/
theorem je_bi {id : String} {x : Str} {p : Pos} {r : List V → Hp → VK → Prop} {gg : List DV → (DV → Prop) → Prop} (hc : CallR X (.builtin id) r) (hr : CaD X.K r gg) (hg : Gl X x) (hm : X.mg x = none) (hv : bootBuiltins x = some (.builtin id))
    (ha : JAO X n W κ (e :: es) fa) (hn : x ≠ "__name__") (hdb : (x == ("__debug__" : Str)) = false) (he : starEach (e :: es) X.env = (false, eval e X.env) :: starEach es X.env) (hpl : (backTo pos (starEach es X.env)).any (·.1) = false) :
    JE X n W κ (.Call (.Name x p) (e :: es) [] pos) (dBi gg fa) := by
  refine PE.to (pe_callB hc hg hm hv ha hn hdb he hpl) fun σ H Q ⟨m, S, ρ, R, Er, st, hf, kR, kE⟩ => ⟨m, S, ρ, _, Er, st, hf, fun xs vs S1 H1 hx st1 p1 d1 => ?_, kE⟩
  exact hr n S1 H1 xs vs R Q st1.wd.sm d1 hx fun z w S3 H3 hz g dz => kR z w S3 H3 hz (st1.grow g) (p1.trans g.po.wk) dz
theorem je_ty {T : String} {x : Str} {p : Pos} {r : List V → Hp → VK → Prop} {gg : List DV → (DV → Prop) → Prop} (hc : CallR X (.type T) r) (hr : CaD X.K r gg) (hg : Gl X x) (hm : X.mg x = none) (hv : bootBuiltins x = some (.type T))
    (ha : JAO X n W κ (e :: es) fa) (hn : x ≠ "__name__") (hdb : (x == ("__debug__" : Str)) = false) (he : starEach (e :: es) X.env = (false, eval e X.env) :: starEach es X.env) (hpl : (backTo pos (starEach es X.env)).any (·.1) = false) :
    JE X n W κ (.Call (.Name x p) (e :: es) [] pos) (dBi gg fa) := by
  refine PE.to (pe_callTy hc hg hm hv ha hn hdb he hpl) fun σ H Q ⟨m, S, ρ, R, Er, st, hf, kR, kE⟩ => ⟨m, S, ρ, _, Er, st, hf, fun xs vs S1 H1 hx st1 p1 d1 => ?_, kE⟩
  exact hr n S1 H1 xs vs R Q st1.wd.sm d1 hx fun z w S3 H3 hz g dz => kR z w S3 H3 hz (st1.grow g) (p1.trans g.po.wk) dz
/-- a built-in function that the module names -/
theorem je_bif {id : String} {x : Str} {p : Pos} {r : List V → Hp → VK → Prop} {gg : List DV → (DV → Prop) → Prop} (hc : CallR X (.builtin id) r) (hr : CaD X.K r gg) (hg : Gl X x) (hm : X.mg x = some (.builtin id))
    (ha : JAO X n W κ (e :: es) fa) (hdb : (x == ("__debug__" : Str)) = false) (he : starEach (e :: es) X.env = (false, eval e X.env) :: starEach es X.env) (hpl : (backTo pos (starEach es X.env)).any (·.1) = false) :
    JE X n W κ (.Call (.Name x p) (e :: es) [] pos) (dBi gg fa) := by
  refine PE.to (pe_callBfun hc hg hm ha hdb he hpl) fun σ H Q ⟨m, S, ρ, R, Er, st, hf, kR, kE⟩ => ⟨m, S, ρ, _, Er, st, hf, fun xs vs S1 H1 hx st1 p1 d1 => ?_, kE⟩
  exact hr n S1 H1 xs vs R Q st1.wd.sm d1 hx fun z w S3 H3 hz g dz => kR z w S3 H3 hz (st1.grow g) (p1.trans g.po.wk) dz
end
end Wb
/-! Wb6: calls of one's own defs, isinstance, walks, targets, comprehensions. -/
namespace Wb
open PySem PySem.Spec PyProof.Rows L2

/-! ### the promise of a def, by its meaning g; κ: how often it draws at most -/
def spD (K : Frag) (CT : Nat → Addr) (κ : Nat) (g : Fn) : Sp := fun vs H Q E => ∃ wl m S xs R Er, Wd wl (m + κ) S H ∧ DvAll K (En.of CT wl S H) S vs xs ∧ g xs R Er ∧
  (∀ x v S' H', R x → Wd wl m S' H' → Post wl S H S' H' → DvOk K (En.of CT wl S H) S' v x → Q v H') ∧
  (∀ c x cls dx S' H', Er c x → Wd wl m S' H' → Post wl S H S' H' → ErrOk K (En.of CT wl S H) S' H' c x cls dx → E cls dx H')
theorem spD_imp {K : Frag} {CT : Nat → Addr} {κ : Nat} {g g' : Fn} (h : ∀ xs R Er, g' xs R Er → g xs R Er) : ∀ vs H Q E, spD K CT κ g' vs H Q E → spD K CT κ g vs H Q E :=
  fun vs H Q E ⟨wl, m, S, xs, R, Er, w, d, hg, kR, kE⟩ => ⟨wl, m, S, xs, R, Er, w, d, h _ _ _ hg, kR, kE⟩
theorem dv_en {K : Frag} {n n' : En} {S : Hp} {v : V} (h1 : n'.CT = n.CT) (h2 : n'.wl = n.wl) : ∀ {x : DV}, DvOk K n S v x → DvOk K n' S v x
  | .d _, h => h
  | .exc _ _, ⟨a, dd, v', e1, e2, e3, e4⟩ => ⟨a, dd, v', e1, by rw [h1]; exact e2, e3, e4⟩
  | .well none, ⟨p, e1, e2⟩ => ⟨p, e1, by rw [h2]; exact e2⟩
  | .well (some _), h => h
theorem dvAll_en {K : Frag} {n n' : En} {S : Hp} (h1 : n'.CT = n.CT) (h2 : n'.wl = n.wl) : ∀ {vs : List V} {xs : List DV}, DvAll K n S vs xs → DvAll K n' S vs xs
  | _, _, .nil => .nil
  | _, _, .cons h t => .cons (dv_en h1 h2 h) (dvAll_en h1 h2 t)
/-- a def as it stands: where, its promise -/
structure DefG (P : Program) (w : World) (K : Frag) (mg : Str → Option Value) (base : Heap) (x : Str) (ps : List Str) (k : Nat) (f : Addr) (fd : FuncData) (sp : Sp) : Prop where
  fn : FnG P w K mg base k f fd ps sp
  mgx : mg x = some (.ref f)
  kp : PySem.W.keepIn K (.ref f) = true
  b : Binds K fd ps []
theorem DefG.mono {P : Program} {w : World} {K : Frag} {mg : Str → Option Value} {base : Heap} {x : Str} {ps : List Str} {j k : Nat} {f : Addr} {fd : FuncData} {sp : Sp} (d : DefG P w K mg base x ps j f fd sp) (h : j ≤ k) : DefG P w K mg base x ps k f fd sp :=
  ⟨d.fn.mono h, d.mgx, d.kp, d.b⟩
theorem DefG.imp {P : Program} {w : World} {K : Frag} {mg : Str → Option Value} {base : Heap} {x : Str} {ps : List Str} {k : Nat} {f : Addr} {fd : FuncData} {sp sp' : Sp} (d : DefG P w K mg base x ps k f fd sp) (h : ∀ vs H Q E, sp' vs H Q E → sp vs H Q E) :
    DefG P w K mg base x ps k f fd sp' := ⟨d.fn.imp h, d.mgx, d.kp, d.b⟩
section
variable {X : Cx} {n : En} {W : WX} {κ κ' κ2 κf k k' : Nat} {e a b c : Expr} {es : List Expr} {pos : Pos} {f h g : DE} {fa fk : DA} {t u : DT} {G : Fn}
theorem call_spD {vs : List V} {xs : List DV} {m : Nat} {S H : Hp} {σ : L2.St} {ρ : List Sl} {R : DV → Prop} {Er : EK} {Q : VK} (st : StOk X.K n (m + κf) S H σ ρ) (d : DvAll X.K n S vs xs) (hg : G xs R Er)
    (kR : ∀ x v S' H', R x → StOk X.K n m S' H' σ ρ → Post n.wl S H S' H' → DvOk X.K n S' v x → Q v H') (kE : KErr X.K n W m S σ ρ Er) :
    spD X.K n.CT κf G vs H Q fun cls dx H' => W cls dx σ H' :=
  ⟨n.wl, m, S, xs, R, Er, st.wd, dvAll_en (n := n) (n' := En.of n.CT n.wl S H) rfl rfl d, hg, fun x v S' H' hx w p dx => kR x v S' H' hx (st.step p w) p (dv_en (n' := n) rfl rfl dx), fun c x cls dx S' H' hx w p er => kE c x cls dx S' H' hx (st.step p w) er p.sS⟩
theorem je_call {x : Str} {ps : List Str} {ff : Addr} {fd : FuncData} {p : Pos} (F : DefG X.prog X.w X.K X.mg X.base x ps k ff fd (spD X.K n.CT κf G)) (C : Cok X n W k') (hk : k ≤ k') (ha : JA X n W κ (e :: es) fa) (hg : Gl X x)
    (hdb : (x == ("__debug__" : Str)) = false) (he : starEach (e :: es) X.env = (false, eval e X.env) :: starEach es X.env) (hpl : (backTo pos (starEach es X.env)).any (·.1) = false) :
    JE X n W (κ + κf) (.Call (.Name x p) (e :: es) [] pos) (dCall G fa) := by
  refine PE.to (pe_callG F.fn C.hg (C.hr.mono hk) C.tk hg F.mgx F.kp F.b ha hdb he hpl) fun σ H Q ⟨m, S, ρ, R, Er, st, hf, kR, kE⟩ => ⟨m + κf, S, ρ, _, Er, st_split st, hf, fun xs vs S1 H1 hx st1 p1 d1 => ?_, fun c x cls dx S' H' e s' er => kE c x cls dx S' H' e (st_down s') er⟩
  exact call_spD st1 d1 hx (fun x v S' H' hx s' p' => kR x v S' H' hx s' (p1.trans p')) (ke_af p1.sS kE)
theorem je_call0 {x : Str} {ff : Addr} {fd : FuncData} {p : Pos} (F : DefG X.prog X.w X.K X.mg X.base x [] k ff fd (spD X.K n.CT κf G)) (C : Cok X n W k') (hk : k ≤ k') (hg : Gl X x) (hdb : (x == ("__debug__" : Str)) = false) :
    JE X n W κf (.Call (.Name x p) [] [] pos) (dCall G aNil) := by
  refine PE.to (pe_callG0 F.fn C.hg (C.hr.mono hk) C.tk hg F.mgx F.kp F.b hdb) fun σ H Q ⟨m, S, ρ, R, Er, st, hf, kR, kE⟩ => ?_
  exact call_spD (vs := []) (xs := []) st .nil hf kR kE
/-- keywords -/
theorem jk_of {kws : List Keyword} {ta : TA} (h : PK X kws ta) {ta' : TA} (i : ∀ σ H Q, ta' σ H Q → ta σ H Q) : PK X kws ta' := ⟨fun pos pins s σ H Q I q => h.run pos pins s σ H Q I (i σ H Q q)⟩
abbrev JK (X : Cx) (n : En) (W : WX) (κ : Nat) (kws : List Keyword) (f : DA) : Prop := PK X kws (rdA X.K n W κ f)
theorem jk_nil : JK X n W 0 [] aNil := jk_of pk_nil fun σ H Q ⟨m, S, ρ, R, Er, st, hf, kR, _⟩ => kR [] [] S H hf st Post.refl .nil
theorem jk_cons {kws : List Keyword} {fr : DA} {nm : Option Str} {kpos : Pos} (ha : JE X n W κ e f) (hb : JK X n W κ' kws fr) : JK X n W (κ + κ') (⟨nm, e, kpos⟩ :: kws) (aCons f fr) := by
  refine jk_of (pk_cons ha hb) fun σ H Q ⟨m, S, ρ, R, Er, st, hf, kR, kE⟩ => ⟨m + κ', S, ρ, _, Er, st_split st, hf, fun x v S1 H1 hx st1 p1 d1 => ?_, fun c x cls dx S' H' e s' er => kE c x cls dx S' H' e (st_down s') er⟩
  exact ⟨m, S1, ρ, _, Er, st1, hx, fun xs vs S2 H2 hx st2 p2 d2 => kR _ _ S2 H2 hx st2 (p1.trans p2) (.cons (dv_mono p2.sS d1) d2), ke_af p1.sS kE⟩
/-- a call's positional values and keywords' values in the parameters' order -/
def dCallK (G : Fn) (gD : List DV → List DV → List DV) (fa fk : DA) : DE := fun ρ R E => fa ρ (fun xs => fk ρ (fun ys => G (gD xs ys) R E) E) E
theorem je_callK {x : Str} {ps ks : List Str} {ff : Addr} {fd : FuncData} {p : Pos} {kws : List Keyword} {gg : List Value → List Value → List Value} {gV : List V → List V → List V} {gD : List DV → List DV → List DV}
    (F : DefG X.prog X.w X.K X.mg X.base x ps k ff fd (spD X.K n.CT κf G)) (C : Cok X n W k') (hk : k ≤ k') (hb : KBinds X.K fd ps ks gg gV) (hD : ∀ S vs xs zs ys, DvAll X.K n S vs xs → DvAll X.K n S zs ys → DvAll X.K n S (gV vs zs) (gD xs ys))
    (ha : JA X n W κ (e :: es) fa) (hkw : JK X n W κ' kws fk) (hg : Gl X x) (hall : (backToKw pos (keywordEach kws X.env)).all (·.1.isSome) = true)
    (hks : (backToKw pos (keywordEach kws X.env)).filterMap (·.1) = ks) (hdb : (x == ("__debug__" : Str)) = false)
    (he : starEach (e :: es) X.env = (false, eval e X.env) :: starEach es X.env) (hpl : ((backTo pos (starEach (e :: es) X.env)).any (·.1) || (backToKw pos (keywordEach kws X.env)).any (·.1.isNone)) = false) :
    JE X n W (κ + (κ' + κf)) (.Call (.Name x p) (e :: es) kws pos) (dCallK G gD fa fk) := by
  refine PE.to (pe_callGK F.fn C.hg (C.hr.mono hk) C.tk hg F.mgx F.kp hb ha hkw hall hks hdb he hpl) fun σ H Q ⟨m, S, ρ, R, Er, st, hf, kR, kE⟩ => ⟨m + (κ' + κf), S, ρ, _, Er, st_split st, hf, fun xs vs S1 H1 hx st1 p1 d1 => ?_, fun c x cls dx S' H' e s' er => kE c x cls dx S' H' e (st_down s') er⟩
  refine ⟨m + κf, S1, ρ, _, Er, st_split st1, hx, fun ys zs S2 H2 hy st2 p2 d2 => ?_, fun c x cls dx S' H' e s' er q => kE c x cls dx S' H' e (st_down s') er (p1.sS.trans q)⟩
  exact call_spD st2 (hD S2 _ _ _ _ (dvAll_mono p2.sS d1) d2) hy (fun x v S' H' hx s' p' => kR x v S' H' hx s' ((p1.trans p2).trans p')) (ke_af (p1.trans p2).sS kE)
theorem je_callK0 {x : Str} {ps ks : List Str} {ff : Addr} {fd : FuncData} {p : Pos} {kws : List Keyword} {gg : List Value → List Value → List Value} {gV : List V → List V → List V} {gD : List DV → List DV → List DV}
    (F : DefG X.prog X.w X.K X.mg X.base x ps k ff fd (spD X.K n.CT κf G)) (C : Cok X n W k') (hk : k ≤ k') (hb : KBinds X.K fd ps ks gg gV) (hD : ∀ S vs xs zs ys, DvAll X.K n S vs xs → DvAll X.K n S zs ys → DvAll X.K n S (gV vs zs) (gD xs ys))
    (hkw : JK X n W κ' kws fk) (hg : Gl X x) (hall : (backToKw pos (keywordEach kws X.env)).all (·.1.isSome) = true)
    (hks : (backToKw pos (keywordEach kws X.env)).filterMap (·.1) = ks) (hdb : (x == ("__debug__" : Str)) = false) (hpl : (backToKw pos (keywordEach kws X.env)).any (·.1.isNone) = false) :
    JE X n W (κ' + κf) (.Call (.Name x p) [] kws pos) (dCallK G gD aNil fk) := by
  refine PE.to (pe_callGK0 F.fn C.hg (C.hr.mono hk) C.tk hg F.mgx F.kp hb hkw hall hks hdb hpl) fun σ H Q ⟨m, S, ρ, R, Er, st, hf, kR, kE⟩ => ?_
  refine ⟨m + κf, S, ρ, _, Er, st_split st, hf, fun ys zs S2 H2 hy st2 p2 d2 => ?_, fun c x cls dx S' H' e s' er => kE c x cls dx S' H' e (st_down s') er⟩
  exact call_spD st2 (hD S2 [] [] _ _ .nil d2) hy (fun x v S' H' hx s' p' => kR x v S' H' hx s' (p2.trans p')) (ke_af p2.sS kE)

/-! ### isinstance -/
theorem ty_of {K : Frag} {n : En} {S H : Hp} {v : V} {x : PD} (sm : Same S H) (h : RdOk K n S H v (.d x)) : TyX K H v (.type (tyD x)) := by
  have q := h.dq sm
  cases q with
  | non => exact .base .non
  | bl b => exact .base (.bl b)
  | int i => exact .base (.int i)
  | str x => exact .base (.str x)
  | lst h1 _ => exact .base (.lst h1)
  | tup h1 _ =>
    rcases h1 with (h1 | ⟨o, h1⟩) | ⟨o, its, k, e1, e2, _⟩
    · exact .base (.tup h1)
    · exact .fTuple h1
    · exact .kTuple e1 e2
def kitTypes : List String := ["NoneType", "bool", "int", "str", "list", "tuple"]
theorem kit_tyD {K : Frag} {T : String} (hT : (kitTypes.all fun t => decide (kitB t T = some (subTy t T))) = true) (x : PD) (hd : tyD x ≠ "dict") : PySem.W.kitOne K (.type (tyD x)) (.type T) = some (subTy (tyD x) T) := by
  have all : ∀ t ∈ kitTypes, kitB t T = some (subTy t T) := fun t ht => of_decide_eq_true (List.all_eq_true.mp hT t ht)
  refine kit_ty (all _ ?_)
  cases x <;> first | exact absurd rfl hd | (simp [tyD, kitTypes])
theorem tyD_nd {K : Frag} {S : Hp} {v : V} {x : PD} (h : Dq K S v x) : tyD x ≠ "dict" := by
  cases h <;> simp [tyD]
/-- isinstance(e, T), T a built-in class -/
theorem je_isi {x : Str} {T : String} {p p2 : Pos} (hT : (kitTypes.all fun t => decide (kitB t T = some (subTy t T))) = true) (hgI : Gl X "isinstance") (hmI : X.mg "isinstance" = none) (hg : Gl X x) (hm : X.mg x = none) (hv : bootBuiltins x = some (.type T)) (hn : x ≠ "__name__") (hdb : (x == ("__debug__" : Str)) = false)
    (ha : JO X n W κ a f) (he : starEach [a, .Name x p2] X.env = (false, eval a X.env) :: starEach [.Name x p2] X.env) (he2 : starEach [.Name x p2] X.env = (false, eval (.Name x p2) X.env) :: starEach [] X.env)
    (hpl : (backTo pos (starEach [.Name x p2] X.env)).any (·.1) = false) : JE X n W κ (.Call (.Name "isinstance" p) [a, .Name x p2] [] pos) (d1 (gIsi T) f) := by
  refine PE.to (pe_callB call_isi hgI hmI (by decide +kernel) (pa_cons ha (pa_cons (pe_bltn (v := .ty T) hg hm hv rfl hn hdb) pa_nil he2) he) (by decide) (by decide) he hpl) fun σ H Q ⟨m, S, ρ, R, Er, st, hf, kR, kE⟩ => ⟨m, S, ρ, _, Er, st, hf, fun x v S1 H1 hx st1 p1 d1 => ?_, kE⟩
  cases x with
  | exc _ _ => exact hx.elim
  | well => exact hx.elim
  | d x => exact ⟨v, .ty T, _, _, _, rfl, .ty T, ty_of st1.wd.sm d1, kit_tyD hT x (tyD_nd (d1.dq st1.wd.sm)), kR _ _ S1 H1 hx st1 p1 (.bl _)⟩
/-- isinstance(e, C), C a class of errors (number c'), e None or a kept error -/
def gIsE (c' : Nat) (sub : Nat → Nat → Bool) : DV → (DV → Prop) → Prop
  | .d .none, R => R (.d (.bool false))
  | .exc c _, R => R (.d (.bool (sub c c')))
  | _, _ => False
theorem je_isE {x : Str} {C : Addr} {c' : Nat} {sub : Nat → Nat → Bool} {p p2 : Pos} (hgI : Gl X "isinstance") (hmI : X.mg "isinstance" = none) (hg : Gl X x) (hm : X.mg x = some (.ref C)) (hdb : (x == ("__debug__" : Str)) = false)
    (hN : PySem.W.kitOne X.K (.type "NoneType") (.ref C) = some false) (hI : ∀ c, IsC X.K (n.CT c)) (hL : ∀ c, PySem.W.kitOne X.K (.ref (n.CT c)) (.ref C) = some (sub c c'))
    (ha : JO X n W κ a f) (he : starEach [a, .Name x p2] X.env = (false, eval a X.env) :: starEach [.Name x p2] X.env) (he2 : starEach [.Name x p2] X.env = (false, eval (.Name x p2) X.env) :: starEach [] X.env)
    (hpl : (backTo pos (starEach [.Name x p2] X.env)).any (·.1) = false) : JE X n W κ (.Call (.Name "isinstance" p) [a, .Name x p2] [] pos) (d1 (gIsE c' sub) f) := by
  have call : CallR X (.builtin "isinstance") (fun xs H Q => rIsi X.K xs H Q ∨ rIsK X.K xs H Q) := fun pins s σ H xs us Q I r h => h.elim (call_isi pins s σ H xs us Q I r) (call_isK pins s σ H xs us Q I r)
  refine PE.to (pe_callB call hgI hmI (by decide +kernel) (pa_cons ha (pa_cons (pe_glob (v := .ref C) hg hm rfl hdb) pa_nil he2) he) (by decide) (by decide) he hpl) fun σ H Q ⟨m, S, ρ, R, Er, st, hf, kR, kE⟩ => ⟨m, S, ρ, _, Er, st, hf, fun x v S1 H1 hx st1 p1 d1 => ?_, kE⟩
  cases x with
  | well => exact hx.elim
  | d x =>
    cases x with
    | none => exact .inl ⟨v, .ref C, _, _, _, rfl, .own C, ty_of st1.wd.sm d1, hN, kR _ _ S1 H1 hx st1 p1 (.bl _)⟩
    | _ => exact hx.elim
  | exc c x =>
    rcases d1 with ⟨aa, dd, v', rfl, h1, h2, _⟩ | ⟨_, _, _, _, e, _⟩
    · exact .inr ⟨aa, _, dd, _, .ref C, .ref C, _, rfl, st1.wd.sm _ _ h1, st1.wd.sm _ _ h2, hI c, fun u r => r, hL c, kR _ _ S1 H1 hx st1 p1 (.bl _)⟩
    · cases e
/-- e.value -/
def gVal : DV → (DV → Prop) → Prop
  | .exc _ x, R => R (.d x)
  | _, _ => False
theorem je_value {D fI : Addr} (hE : ∀ c, ErrCls X.K D fI (n.CT c)) (ha : JO X n W κ a f) (hb : attributeBase a "value" X.env (eval a X.env) = eval a X.env) : JE X n W κ (.Attribute a "value" pos) (d1 gVal f) := by
  refine PE.to (pe_value (D := D) (fI := fI) ha hb) fun σ H Q ⟨m, S, ρ, R, Er, st, hf, kR, kE⟩ => ⟨m, S, ρ, _, Er, st, hf, fun x v S1 H1 hx st1 p1 d1 => ?_, kE⟩
  cases x with
  | well => exact hx.elim
  | d x => exact hx.elim
  | exc c x =>
    rcases d1 with ⟨aa, dd, v', rfl, h1, h2, h3⟩ | ⟨_, _, _, _, e, _⟩
    · exact ⟨aa, _, dd, v', rfl, hE c, st1.wd.sm _ _ h1, st1.wd.sm _ _ h2, kR _ _ S1 H1 hx st1 p1 h3⟩
    · cases e

/-! ### walks -/
/-- J goes through xs, wherever the data of S stand -/
def ItD (K : Frag) (J : It) (xs : List PD) (S : Hp) : Prop := ∀ S' H', Same S S' → Same S' H' → (∀ i, i < xs.length → J.go i H') ∧ (∀ i, i = xs.length → J.stop i H') ∧
  ∀ i x H'', i < xs.length → J.yld i H' x H'' → ∃ S'' d, Grow S' H' S'' H'' ∧ xs[i]? = some d ∧ Dq K S'' x d
def rdI (K : Frag) (n : En) (W : WX) (κ : Nat) (f : DN) : TI := fun σ H Rr => ∃ m S ρ R Er, StOk K n (m + κ) S H σ ρ ∧ f ρ R Er ∧
  (∀ xs J S' H', R xs → StOk K n m S' H' σ ρ → Post n.wl S H S' H' → ItD K J xs S' → Rr J H') ∧
  KErr K n W m S σ ρ Er
abbrev JI (X : Cx) (n : En) (W : WX) (κ : Nat) (tg e : Expr) (f : DN) : Prop := PI X tg e (rdI X.K n W κ f)
theorem PI.to {tg e : Expr} {t t' : TI} (h : PI X tg e t) (i : ∀ σ H R, t' σ H R → t σ H R) : PI X tg e t' := ⟨fun pins s σ H R I q => h.run pins s σ H R I (i σ H R q)⟩
def seqS : Option (List Int) → (List PD → Prop) → Prop
  | some ns, R => R (ns.map .int)
  | _, _ => False
def seqD : DV → (List PD → Prop) → Prop
  | .well o, R => seqS o R
  | .d (.list xs), R => R xs
  | .d (.tuple xs), R => R xs
  | _, _ => False
def iSeq (f : DE) : DN := fun ρ R E => f ρ (fun x => seqD x R) E
/-- a list or a tuple -/
def iLT (K : Frag) (tl : TE) : TI := fun σ H R => tl σ H fun x H1 => ∃ a, x = .ref a ∧ (((∃ xs, SqL K H1 a xs) ∧ R (Itl K a) H1) ∨ ((∃ xs, SqT K H1 a xs) ∧ R (Itt K a) H1))
theorem pi_lt {tg l : Expr} {tl : TE} (hl : PE X l tl) : PI X tg l (iLT X.K tl) := by
  refine ⟨fun pins s σ H R I h => ?_⟩
  refine thn (hl.run pins s σ H _ I h) fun v s1 ⟨x, H1, I1, r1, q1⟩ => ?_
  have frs : ∀ b ∈ [s1.heap.objs.size], FpOk X pins H1 b := fun b hb => by
    have e : b = s1.heap.objs.size := by simpa using hb
    subst e
    exact I1.fpOk (Nat.le_refl _) (I1.hok.fresh (Nat.le_refl _))
  obtain ⟨a, rfl, ⟨⟨xs, hq⟩, q⟩ | ⟨⟨xs, hq⟩, q⟩⟩ := q1
  · cases r1
    obtain ⟨its, rv, p, hz⟩ := I1.list hq
    refine wpAny_pyIter_list p.isList ?_
    exact ⟨s1.heap.objs.size, [s1.heap.objs.size], _, _, H1, rfl, I1.kept (t' := s1.toks) fun b o e => Heap.get?_push_of_some _ e, turn_list a _, ⟨_, Heap.get?_push_size _ rfl, rfl, rfl⟩, frs, q⟩
  · cases r1
    obtain ⟨its, rv, p, hz⟩ := I1.tuple hq
    refine wpAny_pyIter_tuple (show s1.heap.IsTuple a its.toArray from p) ?_
    exact ⟨s1.heap.objs.size, [s1.heap.objs.size], _, _, H1, rfl, I1.kept (t' := s1.toks) fun b o e => Heap.get?_push_of_some _ e, turn_tuple a _, ⟨_, Heap.get?_push_size _ rfl, rfl, rfl⟩, frs, q⟩
theorem itd_list {K : Frag} {S : Hp} {a : Addr} {vs : List V} {xs : List PD} (h : SqL K S a vs) (d : DqAll K S vs xs) : ItD K (Itl K a) xs S := by
  intro S' H' e1 e2
  have q : SqL K H' a vs := e2.seq (e1.seq h)
  have dl := d.len
  refine ⟨fun i hi => ⟨vs, vs[i]'(by omega), q, by simp [show i < vs.length by omega]⟩, fun i hi => ⟨vs, q, by omega⟩, fun i x H'' _ y => ?_⟩
  obtain ⟨rfl, y⟩ := y
  obtain ⟨dd, h1, h2⟩ := d.atV (y vs q)
  exact ⟨S', dd, Grow.refl e2, h1, dq_mono e1 h2⟩
theorem itd_tup {K : Frag} {S : Hp} {a : Addr} {vs : List V} {xs : List PD} (h : SqT K S a vs) (d : DqAll K S vs xs) : ItD K (Itt K a) xs S := by
  intro S' H' e1 e2
  have q : SqT K H' a vs := sqT_mono e2 (sqT_mono e1 h)
  have dl := d.len
  refine ⟨fun i hi => ⟨vs, vs[i]'(by omega), q, by simp [show i < vs.length by omega]⟩, fun i hi => ⟨vs, q, by omega⟩, fun i x H'' _ y => ?_⟩
  obtain ⟨rfl, y⟩ := y
  obtain ⟨dd, h1, h2⟩ := d.atV (y vs q)
  exact ⟨S', dd, Grow.refl e2, h1, dq_mono e1 h2⟩
theorem ji_seq {tg : Expr} (he : JE X n W κ e f) : JI X n W κ tg e (iSeq f) := by
  refine PI.to (pi_lt he) fun σ H Rr ⟨m, S, ρ, R, Er, st, hf, kR, kE⟩ => ⟨m, S, ρ, _, Er, st, hf, fun x v S1 H1 hx st1 p1 d1 => ?_, kE⟩
  cases x with
  | exc _ _ => exact hx.elim
  | well o =>
    cases o with
    | none => exact hx.elim
    | some ns =>
      obtain ⟨p, rfl, hp⟩ := d1
      exact ⟨_, rfl, .inl ⟨⟨_, st1.wd.sm.seq hp⟩, kR _ _ S1 H1 hx st1 p1 (itd_list hp (DqAll.ints ns))⟩⟩
  | d x =>
    cases x with
    | list xs =>
      cases d1 with
      | lst h1 h2 => exact ⟨_, rfl, .inl ⟨⟨_, SqL.of (st1.wd.sm _ _ h1)⟩, kR xs _ S1 H1 hx st1 p1 (itd_list (SqL.of h1) h2)⟩⟩
    | tuple xs =>
      cases d1 with
      | tup h1 h2 => exact ⟨_, rfl, .inr ⟨⟨_, sqT_mono st1.wd.sm h1⟩, kR xs _ S1 H1 hx st1 p1 (itd_tup h1 h2)⟩⟩
    | _ => exact hx.elim
/-- the ints of a range -/
def rngD (lo hi : Int) : List PD := (List.range (hi - lo).toNat).map fun i : Nat => .int (lo + (i : Int))
theorem rngD_len (lo hi : Int) : (rngD lo hi).length = (hi - lo).toNat := by unfold rngD; rw [List.length_map, List.length_range]
theorem itd_rng {K : Frag} {S : Hp} {lo hi : Int} : ItD K (Itr lo (hi - lo).toNat) (rngD lo hi) S := by
  intro S' H' e1 e2
  refine ⟨fun i h => by rw [rngD_len] at h; exact h, fun i h => by rw [rngD_len] at h; exact Nat.le_of_eq h.symm, fun i x H'' hi y => ?_⟩
  obtain ⟨rfl, rfl⟩ := y
  rw [rngD_len] at hi
  refine ⟨S', .int (lo + i), Grow.refl e2, ?_, .int _⟩
  unfold rngD
  rw [List.getElem?_map, List.getElem?_range hi]
  rfl
def RgB (i : Int) : Prop := -(2 ^ 62) ≤ i ∧ i < 2 ^ 62
def rg1 : List DV → (List PD → Prop) → Prop
  | [.d (.int j)], R => RgB j ∧ R (rngD 0 j)
  | _, _ => False
def rg2 : List DV → (List PD → Prop) → Prop
  | [.d (.int i), .d (.int j)], R => (RgB i ∧ RgB j) ∧ R (rngD i j)
  | _, _ => False
def iRg (gg : List DV → (List PD → Prop) → Prop) (f : DA) : DN := fun ρ R E => f ρ (fun xs => gg xs R) E
theorem ji_range1 {tg : Expr} {p : Pos} (hg : Gl X "range") (hm : X.mg "range" = none) (ha : JAO X n W κ [a] fa) (hs : starEach [a] X.env = [(false, eval a X.env)]) : JI X n W κ tg (.Call (.Name "range" p) [a] [] pos) (iRg rg1 fa) := by
  refine PI.to (pi_range1 hg hm ha hs) fun σ H Rr ⟨m, S, ρ, R, Er, st, hf, kR, kE⟩ => ⟨m, S, ρ, _, Er, st, hf, fun xs vs S1 H1 hx st1 p1 d1 => ?_, kE⟩
  match xs, d1, hx with
  | [.d (.int j)], .cons h1 .nil, ⟨⟨q1, q2⟩, hr⟩ =>
    have e := h1.int
    subst e
    refine ⟨j, rfl, q1, q2, ?_⟩
    have q := kR _ _ S1 H1 hr st1 p1 itd_rng
    simpa using q
theorem ji_range2 {tg : Expr} {p : Pos} (hg : Gl X "range") (hm : X.mg "range" = none) (ha : JAO X n W κ [a, b] fa) (hs : starEach [a, b] X.env = [(false, eval a X.env), (false, eval b X.env)]) (hs2 : starEach [b] X.env = [(false, eval b X.env)]) :
    JI X n W κ tg (.Call (.Name "range" p) [a, b] [] pos) (iRg rg2 fa) := by
  refine PI.to (pi_range2 hg hm ha hs hs2) fun σ H Rr ⟨m, S, ρ, R, Er, st, hf, kR, kE⟩ => ⟨m, S, ρ, _, Er, st, hf, fun xs vs S1 H1 hx st1 p1 d1 => ?_, kE⟩
  match xs, d1, hx with
  | [.d (.int i), .d (.int j)], .cons h1 (.cons h2 .nil), ⟨⟨⟨q1, q2⟩, q3, q4⟩, hr⟩ =>
    have e := h1.int
    have e2 := h2.int
    subst e e2
    exact ⟨i, j, rfl, ⟨q1, q2, q3, q4⟩, kR _ _ S1 H1 hr st1 p1 itd_rng⟩

/-! ### targets -/
abbrev DG := PD → List Sl → (List Sl → Prop) → Prop
abbrev DGs := List PD → List Sl → (List Sl → Prop) → Prop
/-- wr: the slots that are written -/
def rdG (K : Frag) (n : En) (wr : List Nat) (gd : DG) : TG := fun v σ H Q => ∃ m S ρ x R, StOk K n m S H σ ρ ∧ Dq K S v x ∧ gd x ρ R ∧
  ∀ ρ' σ', R ρ' → StOk K n m S H σ' ρ' → (∀ j, j ∉ wr → σ'[j]? = σ[j]?) → σ'.length = σ.length → Q σ' H
def rdGs (K : Frag) (n : En) (wr : List Nat) (gd : DGs) : TGs := fun vs σ H Q => ∃ m S ρ xs R, StOk K n m S H σ ρ ∧ DqAll K S vs xs ∧ gd xs ρ R ∧
  ∀ ρ' σ', R ρ' → StOk K n m S H σ' ρ' → (∀ j, j ∉ wr → σ'[j]? = σ[j]?) → σ'.length = σ.length → Q σ' H
abbrev JG (X : Cx) (n : En) (wr : List Nat) (tg : Expr) (gd : DG) : Prop := PG X tg (rdG X.K n wr gd)
abbrev JGs (X : Cx) (n : En) (wr : List Nat) (tg : List Expr) (gd : DGs) : Prop := PGs X tg (rdGs X.K n wr gd)
theorem PG.to {tg : Expr} {t t' : TG} (h : PG X tg t) (i : ∀ v σ H Q, t' v σ H Q → t v σ H Q) : PG X tg t' := ⟨fun pins s σ H v u Q I r q => h.run pins s σ H v u Q I r (i v σ H Q q)⟩
theorem PGs.to {tg : List Expr} {t t' : TGs} (h : PGs X tg t) (i : ∀ v σ H Q, t' v σ H Q → t v σ H Q) : PGs X tg t' := ⟨fun pins s σ H v u Q I r q => h.run pins s σ H v u Q I r (i v σ H Q q)⟩
def gNm (i : Nat) : DG := fun x ρ R => R (ρ.set i (.v (.d x)))
def gTp (g : DGs) : DG := fun x ρ R => match x with
  | .tuple xs => g xs ρ R
  | _ => False
def gsNil : DGs := fun xs ρ R => xs = [] ∧ R ρ
def gsCons (g : DG) (h : DGs) : DGs := fun xs ρ R => match xs with
  | x :: r => g x ρ fun ρ' => h r ρ' R
  | [] => False
theorem jg_name {i : Nat} {x : Str} (hN : X.N.Nodup) (hi : X.N[i]? = some x) (hx : Loc X.env.scope x) (hf : X.fn x = true ∨ X.env.scope.names.lookup x = some .local) : JG X n [i] (.Name x pos) (gNm i) := by
  refine PG.to (pg_name hN hi hx hf) fun v σ H Q ⟨m, S, ρ, x, R, st, d, hr, k⟩ => ?_
  exact k _ _ hr (st.set d) (fun j hj => List.getElem?_set_ne (fun z => hj (by simp [z]))) (List.length_set ..)
theorem jgs_nil : JGs X n [] [] gsNil := by
  refine PGs.to pgs_nil fun vs σ H Q ⟨m, S, ρ, xs, R, st, d, hr, k⟩ => ?_
  obtain ⟨rfl, hr⟩ := hr
  cases d
  exact ⟨rfl, k _ _ hr st (fun _ _ => rfl) rfl⟩
theorem jgs_cons {es : List Expr} {w1 w2 : List Nat} {g1 : DG} {g2 : DGs} (h1 : JG X n w1 e g1) (h2 : JGs X n w2 es g2) (hs : (assignEach (e :: es) X.env).map (·.2) = assign e X.env :: (assignEach es X.env).map (·.2)) : JGs X n (w1 ++ w2) (e :: es) (gsCons g1 g2) := by
  refine PGs.to (pgs_cons h1 h2 hs) fun vs σ H Q ⟨m, S, ρ, xs, R, st, d, hr, k⟩ => ?_
  cases d with
  | nil => exact hr.elim
  | cons d1 d2 =>
    refine ⟨_, _, rfl, m, S, ρ, _, _, st, d1, hr, fun ρ1 σ1 hr1 st1 o1 l1 => ?_⟩
    refine ⟨m, S, ρ1, _, R, st1, d2, hr1, fun ρ2 σ2 hr2 st2 o2 l2 => k _ _ hr2 st2 (fun j hj => ?_) (l2.trans l1)⟩
    rw [List.mem_append, not_or] at hj
    rw [o2 j hj.2, o1 j hj.1]
theorem jg_tup {es : List Expr} {kk nn : Nat} {wr : List Nat} {g : DGs} (hc : X.calm = true) (h : JGs X n wr es g) (hn : (assignEach es X.env).length = nn) (hst : (assignEach es X.env).findIdx? (·.1) = none) (hlen : ∀ xs ρ R, g xs ρ R → xs.length = nn) :
    JG X n wr (.Tuple es kk pos) (gTp g) := by
  refine PG.to (pg_tup hc h hn hst) fun v σ H Q ⟨m, S, ρ, x, R, st, d, hr, k⟩ => ?_
  cases d with
  | tup h1 h2 => exact ⟨_, _, rfl, sqT_mono st.wd.sm h1, by rw [h2.len]; exact hlen _ _ _ hr, m, S, ρ, _, R, st, h2, hr, k⟩
  | _ => exact hr.elim
theorem gs_len0 : ∀ xs ρ R, gsNil xs ρ R → xs.length = 0 := fun xs ρ R h => by rw [h.1]; rfl
theorem gs_len1 {g : DG} {h : DGs} {k : Nat} (mono : ∀ x ρ R, g x ρ R → ∃ ρ', R ρ') (hh : ∀ xs ρ R, h xs ρ R → xs.length = k) : ∀ xs ρ R, gsCons g h xs ρ R → xs.length = k + 1 := fun xs ρ R q => by
  cases xs with
  | nil => exact q.elim
  | cons x r =>
    obtain ⟨ρ', z⟩ := mono x ρ _ q
    rw [List.length_cons, hh r ρ' R z]
theorem gm_name {i : Nat} : ∀ x ρ R, gNm i x ρ R → ∃ ρ', R ρ' := fun _ _ _ h => ⟨_, h⟩
theorem gm_tup {g : DGs} (h : ∀ xs ρ R, g xs ρ R → ∃ ρ', R ρ') : ∀ x ρ R, gTp g x ρ R → ∃ ρ', R ρ' := fun x ρ R q => by
  cases x with
  | tuple xs => exact h _ _ _ q
  | _ => exact q.elim
theorem gm_nil : ∀ xs ρ R, gsNil xs ρ R → ∃ ρ', R ρ' := fun _ ρ _ h => ⟨ρ, h.2⟩
theorem gm_cons {g : DG} {h : DGs} (m1 : ∀ x ρ R, g x ρ R → ∃ ρ', R ρ') (m2 : ∀ xs ρ R, h xs ρ R → ∃ ρ', R ρ') : ∀ xs ρ R, gsCons g h xs ρ R → ∃ ρ', R ρ' := fun xs ρ R q => by
  cases xs with
  | nil => exact q.elim
  | cons x r =>
    obtain ⟨ρ', z⟩ := m1 x ρ _ q
    exact m2 r ρ' R z

/-! ### comprehensions -/
def wipeD (ρ : List Sl) : List Nat → List Sl
  | [] => ρ
  | v :: vs => (wipeD ρ vs).set v .no
theorem st_wipe {K : Frag} {m : Nat} {S H : Hp} {σ : L2.St} {ρ : List Sl} (st : StOk K n m S H σ ρ) : ∀ vs, StOk K n m S H (wipe σ vs) (wipeD ρ vs)
  | [] => st
  | v :: vs => by
    unfold wipe wipeD
    exact (st_wipe st vs).setNo
theorem wipe_same {σ σ' : L2.St} (hl : σ'.length = σ.length) : ∀ {vs : List Nat}, (∀ j, j ∉ vs → σ'[j]? = σ[j]?) → wipe σ' vs = wipe σ vs := by
  have get : ∀ (τ : L2.St) (vs : List Nat) (j : Nat), (wipe τ vs)[j]? = if j ∈ vs ∧ j < τ.length then some none else τ[j]? := fun τ vs j => by
    induction vs with
    | nil => simp [wipe]
    | cons v r ih =>
      unfold wipe
      by_cases hv : v = j
      · subst hv
        by_cases hj : v < τ.length
        · rw [List.getElem?_set_self (by rw [wipe_length]; exact hj)]
          simp [hj]
        · rw [List.getElem?_eq_none (by rw [List.length_set, wipe_length]; omega)]
          simp [hj]
      · rw [List.getElem?_set_ne hv, ih]
        have : (j = v ∨ j ∈ r) ↔ j ∈ r := ⟨fun z => z.elim (fun y => absurd y.symm hv) id, .inr⟩
        simp [this]
  intro vs h
  apply List.ext_getElem?
  intro j
  rw [get, get, hl]
  by_cases hj : j ∈ vs
  · by_cases hz : j < σ.length
    · simp [hj, hz]
    · simp [hj, hz]
      omega
  · simp [hj, h j hj]
def WF : WX := fun _ _ _ _ => False
theorem takes_none {Y : Cx} : Takes Y WF := fun u s' ⟨_, _, _, _, _, _, _, _, _, _, _, _, _, _, _, _, w⟩ => w.elim
theorem Cok.blk {scope : Scope} (C : Cok X n W k) (s : Shared) (H : Hp) (CC : Addr) (cl : List (Str × Addr)) (fp : List Addr) : Cok (X.blk s H scope (compEnvC scope cl CC X.env) fp) n WF k :=
  ⟨C.calm, takes_none, C.hr, C.hg, C.nd⟩
def tTrue : DT := fun _ R _ => R true
abbrev JTs (X : Cx) (n : En) (W : WX) (κ : Nat) (ifs : List Expr) (f : DT) : Prop := PTs X ifs (rdT X.K n W κ f)
theorem PTs.to {ifs : List Expr} {t t' : TT} (h : PTs X ifs t) (i : ∀ σ H Q, t' σ H Q → t σ H Q) : PTs X ifs t' := ⟨fun pins s σ H Q I q => h.run pins s σ H Q I (i σ H Q q)⟩
theorem jts_nil : JTs X n W 0 [] tTrue := PTs.to pts_nil fun σ H Q ⟨m, S, ρ, R, Er, st, hf, kR, _⟩ => kR true S H hf st Post.refl
theorem jts_one (h : JT X n W κ e t) : JTs X n W κ [e] t := pts_one h
abbrev noE : EK := fun _ _ => False
/-- the items that a comprehension makes of xs -/
def lcD (gd : DG) (t : DT) (f : DE) (ρ : List Sl) : List PD → (List PD → Prop) → Prop
  | [], R => R []
  | x :: xs, R => gd x ρ fun ρ1 => t ρ1 (fun b => if b = true then f ρ1 (fun y => onD y fun d => lcD gd t f ρ xs fun ds => R (d :: ds)) noE else lcD gd t f ρ xs R) noE
/-- L: at most so many turns (what the cost is reckoned by) -/
def nLc (L : Nat) (fi : DN) (gd : DG) (t : DT) (f : DE) (own : List Nat) : DN := fun ρ R E => fi ρ (fun xs => xs.length ≤ L ∧ lcD gd t f (wipeD ρ own) xs R) E
theorem own_ne {K : Frag} {m : Nat} {S H : Hp} {σ : L2.St} {ρ : List Sl} {D : Addr} (s : StOk K n m S H σ ρ) (hD : H D = none) : ∀ (i : Nat) xs, ρ[i]? = some (Sl.own xs) → σ[i]? ≠ some (some (V.ref D)) := fun i xs e z => by
  obtain ⟨A, h1, _⟩ := s.sl
  obtain ⟨g1, _, _, _, vs, g5, _⟩ := h1 i _ e
  rw [g1] at z
  cases z
  rw [hD] at g5
  cases g5
theorem StOk.side {K : Frag} {m : Nat} {S H : Hp} {σ : L2.St} {ρ : List Sl} {D : Addr} {o : HO} (s : StOk K n m S H σ ρ) (hS : S D = none) (h0 : n.H0 D = none) (hw : n.wl ≠ some D) (ne : ∀ (i : Nat) xs, ρ[i]? = some (Sl.own xs) → σ[i]? ≠ some (some (V.ref D))) :
    StOk K n m S (upd H D o) σ ρ := by
  refine ⟨⟨fun b u e => ?_, fun p e => ?_⟩, ⟨s.po.sS, s.po.fr, fun a u e w => ?_, fun a ha => ?_⟩, s.len, ?_⟩
  · rw [upd_ne (ne_of_none e hS)]; exact s.wd.sm b u e
  · obtain ⟨q1, a, b, c, q2, q3⟩ := s.wd.we p e
    exact ⟨q1, a, b, c, by rw [upd_ne (fun z => hw (by rw [← z]; exact e))]; exact q2, q3⟩
  · rw [upd_ne (ne_of_none e h0)]; exact s.po.kp a u e w
  · by_cases z : a = D
    · rw [z, upd_same]; exact Option.some_ne_none _
    · rw [upd_ne z]; exact s.po.al a ha
  · obtain ⟨A, h1, h2⟩ := s.sl
    refine ⟨A, fun i t e => ?_, h2⟩
    have q := h1 i t e
    cases t with
    | no => exact trivial
    | v x => exact q
    | own xs =>
      obtain ⟨g1, g2, g3, g4, vs, g5, g6⟩ := q
      have : A i ≠ D := fun z => ne i xs e (by rw [g1, z])
      exact ⟨g1, g2, g3, g4, vs, by rw [upd_ne this]; exact g5, g6⟩
theorem Post.side {wl : Option Addr} {S H S' H' : Hp} {D : Addr} {o : HO} (p : Post wl S H S' H') (hD : H D = none) : Post wl S H S' (upd H' D o) :=
  ⟨p.sS, p.fr, fun a u e w => by rw [upd_ne (ne_of_none e hD)]; exact p.kp a u e w, fun a ha => by
    have : a ≠ D := fun z => ha (z ▸ hD)
    rw [upd_ne this]; exact p.al a ha⟩
theorem lcD_core {K : Frag} {m : Nat} {gd : DG} {wr : List Nat} {κt κe L : Nat} {own : List Nat} {J : It} {xs : List PD} {R : List PD → Prop} {S H : Hp} {σ : L2.St} {ρ : List Sl} {Q : VK} {D : Addr} (hL : xs.length ≤ L) (hL2 : L ≤ 100000)
    (hsub : ∀ j ∈ wr, j ∈ own) (st : StOk K n (m + L * (κt + κe)) S H σ ρ) (hJ : ItD K J xs S) (hD : H D = none) (hlc : lcD gd t f (wipeD ρ own) xs R)
    (kR : ∀ ys p vs S' H', R ys → StOk K n m S' H' σ ρ → Post n.wl S H S' H' → H p = none → S' p = none → H' p = some (.lst vs) → DqAll K S' vs ys → Q (.ref p) H') :
    ∃ Wv : Nat → Nat → Hp → Prop, (∃ m, Wv 0 m (upd H D (.lst []))) ∧ ∀ i m H, Wv i m H →
      (J.stop i H ∧ Q (.ref D) H) ∨ (J.go i H ∧ ∃ Nx : Hp → Prop, (∀ H', Nx H' → ∃ m', m' < m ∧ Wv (i + 1) m' H') ∧ ∀ x H', J.yld i H x H' → rdG K n wr gd x (wipe σ own) H' fun σ2 H2 => wipe σ2 own = wipe σ own ∧ rdT K n WF κt t σ2 H2 fun b H3 =>
        if b = true then rdE K n WF κe f σ2 H3 fun y H4 => ∃ acc, H4 D = some (.lst acc) ∧ acc.length < sizeLine ∧ Nx (upd H4 D (.lst (acc ++ [y]))) else Nx H3) := by
  -- at turn i: the data S1, the list so far stands at D beside them
  refine ⟨fun i k H1 => k = xs.length - i ∧ i ≤ xs.length ∧ ∃ S1 acc ys, StOk K n (m + (xs.length - i) * (κt + κe)) S1 H1 σ ρ ∧ Post n.wl S H S1 H1 ∧ S1 D = none ∧ H1 D = some (.lst acc) ∧ acc.length ≤ i ∧ DqAll K S1 acc ys ∧
    lcD gd t f (wipeD ρ own) (xs.drop i) fun ds => R (ys ++ ds), ⟨xs.length, by simp, Nat.zero_le _, S, [], [], ?_⟩, ?_⟩
  · have g := Grow.beside (o := .lst []) st.wd.sm hD
    refine ⟨(st.grow g).le ?_, g.po.wk, st.wd.sm.free hD, upd_same, Nat.le_refl _, .nil, ?_⟩
    · have := Nat.mul_le_mul_right (κt + κe) hL
      simp only [Nat.sub_zero]
      omega
    · simpa using hlc
  · rintro i k H1 ⟨rfl, hi, S1, acc, ys, st1, p1, sD, hacc, hal, dacc, hrest⟩
    obtain ⟨j1, j2, j3⟩ := hJ S1 H1 p1.sS st1.wd.sm
    by_cases hlt : i < xs.length
    · refine .inr ⟨j1 i hlt, fun H2 => i + 1 ≤ xs.length ∧ ∃ S2 acc ys, StOk K n (m + (xs.length - (i + 1)) * (κt + κe)) S2 H2 σ ρ ∧ Post n.wl S H S2 H2 ∧ S2 D = none ∧ H2 D = some (.lst acc) ∧ acc.length ≤ i + 1 ∧ DqAll K S2 acc ys ∧
        lcD gd t f (wipeD ρ own) (xs.drop (i + 1)) fun ds => R (ys ++ ds), fun H2 q => ⟨xs.length - (i + 1), by omega, rfl, q⟩, fun x H2 y => ?_⟩
      obtain ⟨S2, d, g2, hxd, dx⟩ := j3 i x H2 hlt y
      have wD : n.wl ≠ some D := fun z => by
        obtain ⟨_, a, b, c, hw, _⟩ := st.wd.we D z
        rw [hD] at hw
        cases hw
      have nD2 : ∀ {T G : Hp}, Post n.wl S1 H1 T G → T D = none ∧ G D = some (.lst acc) := fun {T G} p => ⟨p.fr D (by rw [hacc]; exact Option.some_ne_none _) sD, p.kp D _ hacc wD⟩
      have hdr : xs.drop i = d :: xs.drop (i + 1) := List.drop_eq_getElem_cons hlt ▸ by
        have : xs[i] = d := Option.some.inj ((List.getElem?_eq_getElem hlt).symm.trans hxd)
        rw [this]
      rw [hdr] at hrest
      have hcost : m + (xs.length - i) * (κt + κe) = (m + (xs.length - (i + 1)) * (κt + κe)) + (κt + κe) := by
        have : xs.length - i = (xs.length - (i + 1)) + 1 := by omega
        rw [this, Nat.add_mul]
        omega
      have st2 : StOk K n ((m + (xs.length - (i + 1)) * (κt + κe)) + (κt + κe)) S2 H2 σ ρ := hcost ▸ st1.grow g2
      have h0D : n.H0 D = none := by
        by_cases z : n.H0 D = none
        · exact z
        · exact absurd hD (st.po.al D z)
      have ne := own_ne st hD
      refine ⟨_, S2, _, d, _, st_wipe st2 own, dx, hrest, fun ρ' σ2 hr' st3 out ln => ⟨?_, ?_⟩⟩
      · rw [wipe_same (σ' := σ2) (σ := wipe σ own) ln fun j hj => out j fun z => hj (hsub j z)]
        exact wipe_same (wipe_length _ _) fun j hj => wipe_out hj
      · have st3' : StOk K n ((m + (xs.length - (i + 1)) * (κt + κe)) + κe + κt) S2 H2 σ2 ρ' := st3.le (by omega)
        refine ⟨_, S2, ρ', _, _, st3', hr', fun b S3 H3 hb st4 p3 => ?_, fun c x cls dx S' H' z => z.elim⟩
        cases b with
        | false =>
          simp only [Bool.false_eq_true, if_false] at hb ⊢
          have p13 := g2.po.wk.trans p3
          obtain ⟨d1, d2⟩ := nD2 p13
          exact ⟨hlt, S3, acc, ys, (st1.step p13 st4.wd).le (by omega), p1.trans p13, d1, d2, by omega, dqAll_mono p13.sS dacc, hb⟩
        | true =>
          simp only [if_true] at hb ⊢
          refine ⟨_, S3, ρ', _, _, st4, hb, fun y v S4 H4 hy st5 p4 dv => ?_, fun c x cls dx S' H' z => z.elim⟩
          cases y with
          | exc _ _ => exact hy.elim
          | well => exact hy.elim
          | d y =>
            have p14 := (g2.po.wk.trans p3).trans p4
            obtain ⟨d1, d2⟩ := nD2 p14
            refine ⟨acc, d2, by have : (100000 : Nat) < sizeLine := by decide
                                omega, hlt, S4, acc ++ [v], ys ++ [y], ((st1.step p14 st5.wd).le (by omega)).side d1 h0D wD ne, (p1.trans p14).side hD, d1, upd_same, by rw [List.length_append, List.length_singleton]; omega, (dqAll_mono p14.sS dacc).app (.cons dv .nil), ?_⟩
            have hy : lcD gd t f (wipeD ρ own) (xs.drop (i + 1)) fun ds => R (ys ++ (y :: ds)) := hy
            have e : (fun ds => R (ys ++ (y :: ds))) = fun ds => R ((ys ++ [y]) ++ ds) := by
              funext ds
              rw [List.append_assoc]
              rfl
            rw [e] at hy
            exact hy
    · have e : i = xs.length := by omega
      subst e
      refine .inl ⟨j2 _ rfl, ?_⟩
      rw [List.drop_length] at hrest
      have hr : R (ys ++ []) := hrest
      rw [List.append_nil] at hr
      exact kR ys D acc S1 H1 hr (st1.le (by omega)) p1 hD sD hacc dacc
end
end Wb
/-! Wb7: comprehensions as values, statements, the rule of a def. -/
namespace Wb
open PySem PySem.Spec PyProof.Rows L2
section
variable {X : Cx} {n : En} {W : WX} {κ κ' κ2 κi κt κe κf k k' : Nat} {e a b c elt tg iter : Expr} {es ifs : List Expr} {pos : Pos} {f h g : DE} {fa fk : DA} {t u : DT} {fi : DN}
/-- [elt for tg in iter if ..] -/
theorem jn_lc {scope : Scope} {own : List (Str × Nat)} {wr : List Nat} {gd : DG} (L : Nat) (hL2 : L ≤ 100000) (hc : X.calm = true) (hN : X.N.Nodup) (hi : JI X n W κi tg iter fi) (ok : BlkOk X.N X.env.scope scope own) (hsub : ∀ j ∈ wr, j ∈ own.map (·.2))
    (hg : ∀ (s : Shared) (H : Hp) (C : Addr) (cl : List (Str × Addr)) (fp : List Addr), JG (X.blk s H scope (compEnvC scope cl C X.env) fp) n wr tg gd)
    (ht : ∀ (s : Shared) (H : Hp) (C : Addr) (cl : List (Str × Addr)) (fp : List Addr), JTs (X.blk s H scope (compEnvC scope cl C X.env) fp) n WF κt ifs t)
    (he : ∀ (s : Shared) (H : Hp) (C : Addr) (cl : List (Str × Addr)) (fp : List Addr), JE (X.blk s H scope (compEnvC scope cl C X.env) fp) n WF κe elt f) (hs : ∀ x, foldedSetIterable iter X.env x = pure x) :
    JN X n W (κi + L * (κt + κe)) (.ListComp elt [⟨tg, iter, ifs, 0⟩] scope pos) (nLc L fi gd t f (own.map (·.2))) := by
  refine PE.to (pe_lc (g := rdG X.K n wr gd) (tt := rdT X.K n WF κt t) (te := rdE X.K n WF κe f) hc hN hi ok hg ht he hs) fun σ H Q ⟨m, S, ρ, R, Er, st, hf, kR, kE⟩ => ?_
  refine ⟨m + L * (κt + κe), S, ρ, _, Er, st_split st, hf, fun xs J S1 H1 hx st1 p1 hJ D hD => ?_, fun c x cls dx S' H' e s' er => kE c x cls dx S' H' e (st_down s') er⟩
  have nH : ∀ a, H1 a = none → H a = none := fun a z => by
    cases q : H a with
    | none => rfl
    | some o => exact absurd z (p1.al a (by rw [q]; exact Option.some_ne_none _))
  exact lcD_core hx.1 hL2 hsub st1 hJ hD hx.2 fun ys p vs S' H' hy st' p' hp sp hp' d => kR ys p vs S' H' hy st' (p1.trans p') (nH p hp) sp hp' d

/-! ### statements -/
structure Bok (X : Cx) (n : En) (W : WX) (k : Nat) : Prop where
  c : Cok X n W k
  po : PassesOwn (model X.prog X.w) X.A X.env X.xe
def gNext : DS := fun D ρ => D.nx ρ
def gBrk : DS := fun D ρ => D.bk ρ
def gCnt : DS := fun D ρ => D.ct ρ
def gSeq (a b : DS) : DS := fun D ρ => a { D with nx := b D } ρ
def gSet (i : Nat) (f : DE) : DS := fun D ρ => f ρ (fun x => D.nx (ρ.set i (.v x))) (D.ex ρ)
def gSetN (i : Nat) (f : DN) : DS := fun D ρ => f ρ (fun xs => D.nx (ρ.set i (.own xs))) (D.ex ρ)
def gDrop (f : DE) : DS := fun D ρ => f ρ (fun _ => D.nx ρ) (D.ex ρ)
def gRet (f : DE) : DS := fun D ρ => f ρ (D.rt ρ) (D.ex ρ)
def gIfS (t : DT) (a b : DS) : DS := fun D ρ => t ρ (fun c => if c = true then a D ρ else b D ρ) (D.ex ρ)
def gRaise (c : Nat) (f : DE) : DS := fun D ρ => f ρ (fun x => onD x fun d => D.ex ρ c d) (D.ex ρ)
def gAsg (f : DE) (gd : DG) : DS := fun D ρ => f ρ (fun x => onD x fun d => gd d ρ D.nx) (D.ex ρ)
def gPar (i j : Nat) (f : DA) : DS := fun D ρ => f ρ (fun xs => match xs with
  | [x, y] => D.nx ((ρ.set i (.v x)).set j (.v y))
  | _ => False) (D.ex ρ)
def gPar3 (i j l : Nat) (f : DA) : DS := fun D ρ => f ρ (fun xs => match xs with
  | [x, y, z] => D.nx (((ρ.set i (.v x)).set j (.v y)).set l (.v z))
  | _ => False) (D.ex ρ)
def slOw : Option Sl → (List PD → Prop) → Prop
  | some (.own xs), P => P xs
  | _, _ => False
def gApp (i : Nat) (f : DE) : DS := fun D ρ => slOw ρ[i]? fun xs => f ρ (fun x => onD x fun d => xs.length ≤ 100000 ∧ D.nx (ρ.set i (.own (xs ++ [d])))) (D.ex ρ)
def onI' : DV → (Int → Prop) → Prop
  | .d (.int i), P => P i
  | _, _ => False
def gSetIx (i : Nat) (fi fe : DE) : DS := fun D ρ => slOw ρ[i]? fun xs => fe ρ (fun x => onD x fun d => fi ρ (fun ix => onI' ix fun k => ∃ j, ixN xs.length k = some j ∧ D.nx (ρ.set i (.own (xs.set j d)))) (D.ex ρ)) (D.ex ρ)
def gAugI (ff : Int → Int → Int) (i : Nat) (f : DE) : DS := fun D ρ => match ρ[i]? with
  | some (.v (.d (.int a))) => f ρ (fun x => onI' x fun b => D.nx (ρ.set i (.v (.d (.int (ff a b)))))) (D.ex ρ)
  | _ => False
/-- what a walk over xs does -/
def loopD (gd : DG) (b : DS) (D : DEnds) : List PD → List Sl → Prop
  | [], ρ => D.nx ρ
  | x :: xs, ρ => gd x ρ fun ρ1 => b { D with nx := loopD gd b D xs, ct := loopD gd b D xs, bk := D.nx } ρ1
def gFor (L : Nat) (fi : DN) (gd : DG) (b : DS) : DS := fun D ρ => fi ρ (fun xs => xs.length ≤ L ∧ loopD gd b D xs ρ) (D.ex ρ)
def gWhile (t : DT) (b : DS) : DS := fun D ρ => ∃ V : Nat → List Sl → Prop, (∃ m, V m ρ) ∧ ∀ m ρ, V m ρ → t ρ (fun c => if c = true then b { D with nx := fun ρ' => ∃ m', m' < m ∧ V m' ρ', ct := fun ρ' => ∃ m', m' < m ∧ V m' ρ', bk := D.nx } ρ else D.nx ρ) (D.ex ρ)
/-- try: .. except WebsError as e: y = e; e in slot i, y in slot j -/
def gTry (i j : Nat) (b : DS) : DS := fun D ρ => b { D with ex := fun ρ' c x => D.nx (((ρ'.set i (.v (.exc c x))).set j (.v (.exc c x))).set i .no) } ρ
def gFrz (i : Nat) (b : DS) : DS := fun D ρ => slOw ρ[i]? fun xs => b D (ρ.set i (.v (.d (.list xs))))

theorem slOw_of {o : Option Sl} {P : List PD → Prop} (h : slOw o P) : ∃ xs, o = some (.own xs) ∧ P xs := by
  cases o with
  | none => exact h.elim
  | some s =>
    cases s with
    | own xs => exact ⟨xs, rfl, h⟩
    | _ => exact h.elim
theorem onD_of {x : DV} {P : PD → Prop} (h : onD x P) : ∃ d, x = .d d ∧ P d := by
  cases x with
  | d d => exact ⟨d, rfl, h⟩
  | _ => exact h.elim
theorem onI_of {x : DV} {P : Int → Prop} (h : onI' x P) : ∃ d, x = .d (.int d) ∧ P d := by
  cases x with
  | d d =>
    cases d with
    | int i => exact ⟨i, rfl, h⟩
    | _ => exact h.elim
  | _ => exact h.elim

variable {st : Stmt} {sts body orelse : List Stmt} {ga gb : DS} {tb : DS}
theorem js_pass : JS X n W 0 (.Pass pos) gNext := PS.to ps_pass fun D σ H ⟨m, S, ρ, Dd, st, hg, ks⟩ => ks.nx ρ σ S H hg st (Same.refl S)
theorem js_break : JS X n W 0 (.Break pos) gBrk := PS.to ps_break fun D σ H ⟨m, S, ρ, Dd, st, hg, ks⟩ => ks.bk ρ σ S H hg st (Same.refl S)
theorem js_continue : JS X n W 0 (.Continue pos) gCnt := PS.to ps_continue fun D σ H ⟨m, S, ρ, Dd, st, hg, ks⟩ => ks.ct ρ σ S H hg st (Same.refl S)
theorem jb_nil : JB X n W 0 [] gNext := PSs.to pss_nil fun D σ H ⟨m, S, ρ, Dd, st, hg, ks⟩ => ks.nx ρ σ S H hg st (Same.refl S)
theorem jb_one (h : JS X n W κ st ga) : JB X n W κ [st] ga := pss_one h
theorem jb_cons (h1 : JS X n W κ st ga) (h2 : JB X n W κ' sts gb) : JB X n W (κ + κ') (st :: sts) (gSeq ga gb) := by
  refine PSs.to (pss_cons h1 h2) fun D σ H ⟨m, S, ρ, Dd, st, hg, ks⟩ => ?_
  have kd := ks.up (m' := m + κ') (by omega)
  refine ⟨m + κ', S, ρ, _, st_split st, hg, fun ρ1 σ1 S1 H1 h1 st1 s1 => ?_, kd.rt, kd.bk, kd.ct, kd.ex⟩
  exact ⟨m, S1, ρ1, Dd, st1, h1, ks.af s1⟩
theorem js_le {κa : Nat} (h : JS X n W κ st ga) (hl : κ ≤ κa) : JS X n W κa st ga := PS.to h fun D σ H ⟨m, S, ρ, Dd, st, hg, k⟩ => ⟨m, S, ρ, Dd, st.le (by omega), hg, k⟩
theorem jb_le {κa : Nat} (h : JB X n W κ sts ga) (hl : κ ≤ κa) : JB X n W κa sts ga := PSs.to h fun D σ H ⟨m, S, ρ, Dd, st, hg, k⟩ => ⟨m, S, ρ, Dd, st.le (by omega), hg, k⟩
/-- a list of one's own becomes data -/
theorem jb_frz {i : Nat} (h : JB X n W κ sts ga) : JB X n W κ sts (gFrz i ga) := by
  refine PSs.to h fun D σ H ⟨m, S, ρ, Dd, st, hg, ks⟩ => ?_
  obtain ⟨xs, hi, hg⟩ := slOw_of hg
  obtain ⟨S', e, st'⟩ := st.freeze hi
  exact ⟨m, S', _, Dd, st', hg, ks.af e⟩
theorem js_frz {i : Nat} (h : JS X n W κ st ga) : JS X n W κ st (gFrz i ga) := by
  refine PS.to h fun D σ H ⟨m, S, ρ, Dd, st, hg, ks⟩ => ?_
  obtain ⟨xs, hi, hg⟩ := slOw_of hg
  obtain ⟨S', e, st'⟩ := st.freeze hi
  exact ⟨m, S', _, Dd, st', hg, ks.af e⟩
theorem js_expr (he : JE X n W κ e f) (hs : swapsWith e none pos.line X.env = pure false) : JS X n W κ (.Expr e pos) (gDrop f) :=
  PS.to (ps_expr he hs) fun D σ H ⟨m, S, ρ, Dd, st, hg, ks⟩ => ⟨m, S, ρ, _, _, st, hg, fun x v S' H' hx st' p d => ks.nx ρ σ S' H' hx st' p.sS, ks.ke⟩
theorem js_doc {x j pos'} : JS X n W 0 (.Expr (.Constant (.str x) j pos) pos') gNext := PS.to ps_doc fun D σ H ⟨m, S, ρ, Dd, st, hg, ks⟩ => ks.nx ρ σ S H hg st (Same.refl S)
theorem js_ret (he : JE X n W κ e f) : JS X n W κ (.Return (some e) pos) (gRet f) :=
  PS.to (ps_ret he) fun D σ H ⟨m, S, ρ, Dd, st, hg, ks⟩ => ⟨m, S, ρ, _, _, st, hg, fun x v S' H' hx st' p d => ks.rt ρ σ x v S' H' hx st' d, ks.ke⟩
theorem js_set {i : Nat} {x : Str} {pos' : Pos} (hN : X.N.Nodup) (hi : X.N[i]? = some x) (hx : Loc X.env.scope x) (he : JE X n W κ e f) (hs : swapsWith e (some (.Name x pos')) pos.line X.env = pure false) (hf : X.fn x = true ∨ X.env.scope.names.lookup x = some .local) :
    JS X n W κ (.Assign [.Name x pos'] e pos) (gSet i f) :=
  PS.to (ps_set hN hi hx he hs hf) fun D σ H ⟨m, S, ρ, Dd, st, hg, ks⟩ => ⟨m, S, ρ, _, _, st, hg, fun x v S' H' hx st' p d => ks.nx _ _ S' H' hx (st'.set d) p.sS, ks.ke⟩
theorem own_new {K : Frag} {m m' : Nat} {S H S' H' : Hp} {σ : L2.St} {ρ : List Sl} {i : Nat} {p : Addr} {vs : List V} {xs : List PD} (s : StOk K n m S H σ ρ) (s' : StOk K n m' S' H' σ ρ) (np : H p = none) (sp : S' p = none) (hp : H' p = some (.lst vs)) (d : DqAll K S' vs xs) (hpa : ∀ a, n.pa a) :
    StOk K n m' S' H' (σ.set i (some (.ref p))) (ρ.set i (.own xs)) := by
  refine s'.setOwn hp sp ⟨?_, hpa p⟩ ?_ d fun A j ys h1 e1 hj z => ?_
  · by_cases z : n.H0 p = none
    · exact z
    · exact absurd np (s.po.al p z)
  · intro z
    obtain ⟨_, a, b, c, hw, _⟩ := s.wd.we p z
    rw [np] at hw
    cases hw
  · exact own_ne s np j ys e1 (by rw [(h1 j _ e1).1, z])
theorem js_setN {i : Nat} {x : Str} {pos' : Pos} {fn : DN} (hpa : ∀ a, n.pa a) (hN : X.N.Nodup) (hi : X.N[i]? = some x) (hx : Loc X.env.scope x) (he : JN X n W κ e fn) (hs : swapsWith e (some (.Name x pos')) pos.line X.env = pure false) (hf : X.fn x = true ∨ X.env.scope.names.lookup x = some .local) :
    JS X n W κ (.Assign [.Name x pos'] e pos) (gSetN i fn) :=
  PS.to (ps_set hN hi hx he hs hf) fun D σ H ⟨m, S, ρ, Dd, st, hg, ks⟩ => ⟨m, S, ρ, _, _, st, hg, fun xs p vs S' H' hx st' po np sp hp d => ks.nx _ _ S' H' hx (own_new st st' np sp hp d hpa) po.sS, ks.ke⟩
/-- name = [..] on one line -/
theorem js_setLc {i : Nat} {y : Str} {py spos : Pos} {scope : Scope} {own : List (Str × Nat)} {wr : List Nat} {gd : DG} (hpa : ∀ a, n.pa a) (L : Nat) (hL2 : L ≤ 100000) (hc : X.calm = true) (hN : X.N.Nodup) (hy : X.N[i]? = some y) (hyl : X.env.scope.names.lookup y = some .local)
    (hsw : swapsWith (.ListComp elt [⟨tg, iter, ifs, 0⟩] scope pos) (some (.Name y py)) spos.line X.env = pure true) (hi : JI X n W κi tg iter fi) (ok : BlkOk X.N X.env.scope scope own) (hsub : ∀ j ∈ wr, j ∈ own.map (·.2))
    (hg : ∀ (s : Shared) (H : Hp) (C : Addr) (cl : List (Str × Addr)) (fp : List Addr), JG (X.blk s H scope (compEnvC scope cl C X.env) fp) n wr tg gd)
    (ht : ∀ (s : Shared) (H : Hp) (C : Addr) (cl : List (Str × Addr)) (fp : List Addr), JTs (X.blk s H scope (compEnvC scope cl C X.env) fp) n WF κt ifs t)
    (he : ∀ (s : Shared) (H : Hp) (C : Addr) (cl : List (Str × Addr)) (fp : List Addr), JE (X.blk s H scope (compEnvC scope cl C X.env) fp) n WF κe elt f) (hs : ∀ x, foldedSetIterable iter X.env x = pure x) :
    JS X n W (κi + L * (κt + κe)) (.Assign [.Name y py] (.ListComp elt [⟨tg, iter, ifs, 0⟩] scope pos) spos) (gSetN i (nLc L fi gd t f (own.map (·.2)))) := by
  refine PS.to (ps_setLc (g := rdG X.K n wr gd) (tt := rdT X.K n WF κt t) (te := rdE X.K n WF κe f) hc hN hy hyl hsw hi ok hg ht he hs) fun D σ H ⟨m, S, ρ, Dd, st, hgd, ks⟩ => ?_
  refine ⟨m + L * (κt + κe), S, ρ, _, _, st_split st, hgd, fun xs J S1 H1 hx st1 p1 hJ A hD => ?_, (ks.up (by omega)).ke⟩
  exact lcD_core (Q := fun v H' => D.nx (σ.set i (some v)) H') hx.1 hL2 hsub st1 hJ hD hx.2 fun ys p vs S' H' hy st' p' hp sp hp' d => ks.nx _ _ S' H' hy (own_new st1 st' hp sp hp' d hpa) (p1.sS.trans p'.sS)
/-- the same, its list data at once -/
theorem js_asF {i : Nat} {fn : DN} (h : JS X n W κ st (gSetN i fn)) : JS X n W κ st (gSet i (dN2 fn)) := by
  refine PS.to h fun D σ H ⟨m, S, ρ, Dd, st, hg, ks⟩ => ?_
  by_cases hi : i < ρ.length
  · refine ⟨m, S, ρ, { Dd with nx := fun ρ' => slOw ρ'[i]? fun xs => Dd.nx (ρ'.set i (.v (.d (.list xs)))) }, st, ?_, fun ρ' σ' S' H' h s z => ?_, ks.rt, ks.bk, ks.ct, ks.ex⟩
    · show fn ρ (fun xs => slOw (ρ.set i (.own xs))[i]? fun xs' => Dd.nx ((ρ.set i (.own xs)).set i (.v (.d (.list xs'))))) (Dd.ex ρ)
      have e : (fun xs => slOw (ρ.set i (.own xs))[i]? fun xs' => Dd.nx ((ρ.set i (.own xs)).set i (.v (.d (.list xs'))))) = fun xs => Dd.nx (ρ.set i (.v (.d (.list xs)))) := by
        funext xs
        rw [List.getElem?_set_self hi]
        show Dd.nx ((ρ.set i (.own xs)).set i (.v (.d (.list xs)))) = _
        rw [List.set_set]
      rw [e]
      exact hg
    · obtain ⟨xs, hi, hx⟩ := slOw_of h
      obtain ⟨S2, e, s2⟩ := s.freeze hi
      exact ks.nx _ _ S2 H' hx s2 (z.trans e)
  · refine ⟨m, S, ρ, Dd, st, ?_, ks⟩
    have e : ∀ s : Sl, ρ.set i s = ρ := fun s => List.set_eq_of_length_le (by omega)
    have hg : fn ρ (fun xs => Dd.nx (ρ.set i (.v (.d (.list xs))))) (Dd.ex ρ) := hg
    show fn ρ (fun xs => Dd.nx (ρ.set i (.own xs))) (Dd.ex ρ)
    simpa only [e] using hg
theorem js_if (hc : JT X n W κ c t) (ha : JB X n W κ' body ga) (hb : JB X n W κ2 orelse gb) : JS X n W (κ + (κ' + κ2)) (.If c body orelse pos) (gIfS t ga gb) := by
  refine PS.to (ps_if hc ha hb) fun D σ H ⟨m, S, ρ, Dd, st, hg, ks⟩ => ?_
  refine ⟨m + (κ' + κ2), S, ρ, _, _, st_split st, hg, fun b S1 H1 hx st1 p1 => ?_, (ks.up (by omega)).ke⟩
  cases b with
  | true => exact ⟨m, S1, ρ, Dd, st1.le (by omega), hx, ks.af p1.sS⟩
  | false => exact ⟨m, S1, ρ, Dd, st1.le (by omega), hx, ks.af p1.sS⟩
theorem js_raise {x : Str} {p pos2 : Pos} {D fI : Addr} {C : Addr} {cn : Nat} (C0 : Cok X n W k) (B : ErrBase X.prog X.K X.mg D fI) (T : ErrCls X.K D fI C) (hC : n.CT cn = C) (gC : X.mg x = some (.ref C)) (ha : JE X n W κ a f) (hg : Gl X x)
    (hdb : (x == ("__debug__" : Str)) = false) (he : starEach (a :: []) X.env = (false, eval a X.env) :: starEach [] X.env) (hpl : (backTo pos (starEach [] X.env)).any (·.1) = false) :
    JS X n W κ (.Raise (some (.Call (.Name x p) [a] [] pos)) none pos2) (gRaise cn f) := by
  refine PS.to (ps_raiseE C0.calm B T C0.hr C0.tk gC (pa_cons ha pa_nil he) hg hdb he hpl) fun D σ H ⟨m, S, ρ, Dd, st, hg, ks⟩ => ?_
  refine ⟨m, S, ρ, _, _, st, hg, fun x v S' H' hx st' p d => ?_, ks.ke⟩
  obtain ⟨x, rfl, hx⟩ := onD_of hx
  refine ⟨v, rfl, fun dd hd => ?_⟩
  have g := Grow.new (o := .xd [(("value" : Str), v)]) st'.wd.sm hd
  exact ks.ex ρ cn x _ _ σ _ _ hx (st'.grow g) ⟨dd, v, by rw [hC], rfl, upd_same, dq_mono g.po.sS d⟩ (p.sS.trans g.po.sS)
theorem js_try {i j : Nat} {x nm y : Str} {cv : Value} {np pos' p1 p2 p3 : Pos} (hs : X.stack = X.env :: X.outer) (hf : X.env.frame = some X.env.locals) (hex : X.ex = []) (hN : X.N.Nodup) (hi : X.N[i]? = some nm) (hln : X.env.kindOf nm = some .local) (hj : X.N[j]? = some y)
    (hly : X.env.kindOf y = some .local) (hij : i ≠ j) (hnd : (nm == ("__debug__" : Str)) = false) (hnc : (nm == ("__classdict__" : Str)) = false) (hc : Names X x cv) (tk : Takes X W) (hX : ∀ c, PySem.W.exmOne X.K (.ref (n.CT c)) cv = some true)
    (hb : ∀ (W : WX) (pn : List (Addr × Obj)) (xe : Value → Shared → Prop), Takes (X.tr pn xe) W → PassesOwn (model X.prog X.w) X.A X.env xe → JB (X.tr pn xe) n W κ body gb) (hsw : swapsWith (.Name nm p2) (some (.Name y p1)) p3.line X.env = pure false) :
    JS X n W κ (.Try body [.ExceptHandler (some (.Name x np)) (some nm) [.Assign [.Name y p1] (.Name nm p2) p3] pos'] [] [] pos) (gTry i j gb) := by
  refine PS.to (ps_try_keep (tb := fun W => rdS X.K n W κ gb) hs hf hex hN hi hln hj hly hij hnd hnc hc tk hb hsw) fun D σ H ⟨m, S, ρ, Dd, st, hg, ks⟩ => ?_
  refine ⟨m, S, ρ, _, st, hg, ks.nx, ks.rt, ks.bk, ks.ct, fun ρ' c x cls dx σ' S' H' h s' er q => ?_⟩
  obtain ⟨dd, v, rfl, rfl, hdd, hv⟩ := er
  refine ⟨true, hX c, fun _ => ⟨_, dd, rfl, rfl, fun a ha => ?_⟩, fun z => nomatch z⟩
  have g := Grow.new (o := ExcAt (n.CT c) dd a) s'.wd.sm ha
  have dv : DvOk X.K n (upd S' a (ExcAt (n.CT c) dd a)) (.ref a) (.exc c x) := ⟨a, dd, v, rfl, upd_same, g.po.sS _ _ hdd, dq_mono g.po.sS hv⟩
  exact ks.nx _ _ _ _ h ((((s'.grow g).set dv).set dv).setNo) (q.trans g.po.sS)
/-- xs.append(e), xs a list of one's own -/
theorem js_app {i : Nat} {x : Str} {pos' p pa : Pos} (hN : X.N[i]? = some x) (hv : Vis X.env.scope x) (hd : (x == ("__debug__" : Str)) = false) (hcd : (x == ("__classdict__" : Str)) = false) (he : JE X n W κ e f)
    (hbase : attributeBase (.Name x p) "append" X.env (eval (.Name x p) X.env) = eval (.Name x p) X.env)
    (hfew : ((backTo pos (starEach (e :: []) X.env)).all (fun x => !x.1) && (backToKw pos (keywordEach [] X.env)).all (fun x => x.1.isSome)
      && decide ((e :: ([] : List Expr)).length + ([] : List Keyword).length + (if ([] : List Keyword).isEmpty then 0 else 1) < 30)) = true)
    (hline : (pa.endLine == pos.line) = true) (hs : starEach (e :: []) X.env = (false, eval e X.env) :: starEach [] X.env) (hplain : (backTo pos (starEach [] X.env)).any (·.1) = false)
    (hsw : swapsWith (.Call (.Attribute (.Name x p) "append" pa) [e] [] pos) none pos'.line X.env = pure false) :
    JS X n W κ (.Expr (.Call (.Attribute (.Name x p) "append" pa) [e] [] pos) pos') (gApp i f) := by
  refine PS.to (ps_expr (pe_bm PySem.F.plainAttrs_list PySem.F.slot_list_append PySem.F.type_list_append mt_append (pe_var hN hv hd hcd) (pa_cons he pa_nil hs) hbase hfew hline hs hplain) hsw) fun D σ H ⟨m, S, ρ, Dd, st, hg, ks⟩ => ?_
  obtain ⟨xs, hi, hg⟩ := slOw_of hg
  obtain ⟨q, vs, e1, e2, e3, _⟩ := st.write (ys := []) hi
  refine ⟨_, e1, .inl ⟨rfl, vs, SqL.of e2⟩, m, S, ρ, _, _, st, hg, fun x v S' H' hx st' po d => ?_, ks.ke⟩
  obtain ⟨x, rfl, hl, hx⟩ := onD_of hx
  obtain ⟨q', us, f1, f2, f3, f4⟩ := st'.write (ys := xs ++ [x]) hi
  rw [e1] at f1
  cases f1
  refine ⟨q, us, v, rfl, rfl, f2, ?_, ?_⟩
  · have := f3.len
    have : (100000 : Nat) < sizeLine := by decide
    omega
  · exact ks.nx _ _ S' _ hx (f4 _ (f3.app (.cons d .nil))) po.sS
/-- xs[i] = e, xs a list of one's own -/
theorem js_setIx {i : Nat} {x : Str} {ei : Expr} {p ps pos' : Pos} {fx : DE} (hN : X.N[i]? = some x) (hv : Vis X.env.scope x) (hd : (x == ("__debug__" : Str)) = false) (hcd : (x == ("__classdict__" : Str)) = false) (he : JE X n W κ e f) (hx : JE X n W κ' ei fx)
    (hs : swapsWithSole [.Subscript (.Name x p) ei ps] e pos.line X.env = pure false) (hw : swappedStores [.Subscript (.Name x p) ei ps] e X.env = pure none) (h1 : (assignEach [.Subscript (.Name x p) ei ps] X.env).map (·.2) = [assign (.Subscript (.Name x p) ei ps) X.env])
    (ha : ∀ v, assign (.Subscript (.Name x p) ei ps) X.env v = (do
      let ov ← holding [v] (eval (.Name x p) X.env)
      let iv ← holding [v, ov] (eval ei X.env)
      standAt ps
      holding [v, ov, iv] (setItem ov iv v)
      release [v, ov, iv] [])) :
    JS X n W (κ + κ') (.Assign [.Subscript (.Name x p) ei ps] e pos) (gSetIx i fx f) := by
  refine PS.to (ps_asg he (pg_sub (pe_var hN hv hd hcd) hx set_list ha) hs hw h1) fun D σ H ⟨m, S, ρ, Dd, st, hg, ks⟩ => ?_
  obtain ⟨xs, hi, hg⟩ := slOw_of hg
  refine ⟨m + κ', S, ρ, _, _, st_split st, hg, fun x v S1 H1 hx st1 p1 d1 => ?_, (ks.up (by omega)).ke⟩
  obtain ⟨x, rfl, hx⟩ := onD_of hx
  obtain ⟨q, vs, e1, e2, e3, _⟩ := st1.write (ys := []) hi
  refine ⟨_, e1, m, S1, ρ, _, _, st1, hx, fun y u S2 H2 hy st2 p2 d2 => ?_, (ks.af p1.sS).ke⟩
  obtain ⟨k, rfl, j, hj, hy⟩ := onI_of hy
  cases d2
  obtain ⟨q', us, f1, f2, f3, f4⟩ := st2.write (ys := xs.set j x) hi
  rw [e1] at f1
  cases f1
  refine ⟨q, us, k, j, rfl, rfl, f2, by rw [f3.len]; exact hj, ?_⟩
  exact ks.nx _ _ S2 _ hy (f4 _ (f3.set (dq_mono p2.sS d1) j)) (p1.sS.trans p2.sS)
theorem js_asg {wr : List Nat} {gd : DG} (he : JE X n W κ e f) (hg : JG X n wr tg gd) (hs : swapsWithSole [tg] e pos.line X.env = pure false) (hw : swappedStores [tg] e X.env = pure none) (h1 : (assignEach [tg] X.env).map (·.2) = [assign tg X.env]) :
    JS X n W κ (.Assign [tg] e pos) (gAsg f gd) := by
  refine PS.to (ps_asg he hg hs hw h1) fun D σ H ⟨m, S, ρ, Dd, st, hg, ks⟩ => ?_
  refine ⟨m, S, ρ, _, _, st, hg, fun x v S1 H1 hx st1 p1 d1 => ?_, ks.ke⟩
  obtain ⟨x, rfl, hx⟩ := onD_of hx
  exact ⟨m, S1, ρ, x, _, st1, d1, hx, fun ρ' σ' h' st' _ _ => ks.nx _ _ S1 H1 h' st' p1.sS⟩
theorem js_par {i j : Nat} {x y : Str} {px py pt : Pos} {kt k2 pt2} (hc : X.calm = true) (hN : X.N.Nodup) (hi : X.N[i]? = some x) (hj : X.N[j]? = some y) (hij : i ≠ j) (hx : X.env.scope.names.lookup x = some .local) (hy : X.env.scope.names.lookup y = some .local)
    (ha : JA X n W κ [a, b] fa) (hw : swappedStores [.Tuple [.Name x px, .Name y py] kt pt] (.Tuple [a, b] k2 pt2) X.env = pure (some [x, y]))
    (hs : swapsWithSole [.Tuple [.Name x px, .Name y py] kt pt] (.Tuple [a, b] k2 pt2) pos.line X.env = pure false) : JS X n W κ (.Assign [.Tuple [.Name x px, .Name y py] kt pt] (.Tuple [a, b] k2 pt2) pos) (gPar i j fa) := by
  refine PS.to (ps_par hc hN hi hj hij hx hy ha hw hs) fun D σ H ⟨m, S, ρ, Dd, st, hg, ks⟩ => ⟨m, S, ρ, _, _, st, hg, fun xs vs S1 H1 hx st1 p1 d1 => ?_, ks.ke⟩
  cases d1 with
  | nil => exact (show False from hx).elim
  | cons d1 t =>
    cases t with
    | nil => exact (show False from hx).elim
    | cons d2 t =>
      cases t with
      | cons _ _ => exact (show False from hx).elim
      | nil => exact ⟨_, _, rfl, ks.nx _ _ S1 H1 hx ((st1.set d1).set d2) p1.sS⟩
theorem js_par3 {i j l : Nat} {x y z : Str} {px py pz pt : Pos} {kt k2 pt2} (hc : X.calm = true) (hN : X.N.Nodup) (hi : X.N[i]? = some x) (hj : X.N[j]? = some y) (hl : X.N[l]? = some z) (hij : i ≠ j) (hil : i ≠ l) (hjl : j ≠ l)
    (hx : X.env.scope.names.lookup x = some .local) (hy : X.env.scope.names.lookup y = some .local) (hz : X.env.scope.names.lookup z = some .local) (ha : JA X n W κ [a, b, c] fa)
    (hw : swappedStores [.Tuple [.Name x px, .Name y py, .Name z pz] kt pt] (.Tuple [a, b, c] k2 pt2) X.env = pure (some [x, y, z]))
    (hs : swapsWithSole [.Tuple [.Name x px, .Name y py, .Name z pz] kt pt] (.Tuple [a, b, c] k2 pt2) pos.line X.env = pure false) : JS X n W κ (.Assign [.Tuple [.Name x px, .Name y py, .Name z pz] kt pt] (.Tuple [a, b, c] k2 pt2) pos) (gPar3 i j l fa) := by
  refine PS.to (ps_par3 hc hN hi hj hl hij hil hjl hx hy hz ha hw hs) fun D σ H ⟨m, S, ρ, Dd, st, hg, ks⟩ => ⟨m, S, ρ, _, _, st, hg, fun xs vs S1 H1 hx st1 p1 d1 => ?_, ks.ke⟩
  cases d1 with
  | nil => exact (show False from hx).elim
  | cons d1 t =>
    cases t with
    | nil => exact (show False from hx).elim
    | cons d2 t =>
      cases t with
      | nil => exact (show False from hx).elim
      | cons d3 t =>
        cases t with
        | cons _ _ => exact (show False from hx).elim
        | nil => exact ⟨_, _, _, rfl, ks.nx _ _ S1 H1 hx (((st1.set d1).set d2).set d3) p1.sS⟩
/-- name += e, -= e of ints -/
theorem js_augI {i : Nat} {x : Str} {op : Operator} {ff : Int → Int → Int} {pos' : Pos} (hN : X.N.Nodup) (hi : X.N[i]? = some x) (hx : Loc X.env.scope x) (he : JE X n W κ e f) (ho : PIp X op (ipI ff)) (hf : X.fn x = true ∨ X.env.scope.names.lookup x = some .local) :
    JS X n W κ (.AugAssign (.Name x pos') op e pos) (gAugI ff i f) := by
  refine PS.to (ps_aug hN hi hx he ho hf) fun D σ H ⟨m, S, ρ, Dd, st, hg, ks⟩ => ?_
  unfold gAugI at hg
  cases q : ρ[i]? with
  | none => rw [q] at hg; exact hg.elim
  | some s =>
    rw [q] at hg
    obtain ⟨A, h1, _⟩ := st.sl
    have sl := h1 i _ q
    cases s with
    | no => exact hg.elim
    | own _ => exact hg.elim
    | v x =>
      cases x with
      | exc _ _ => exact hg.elim
      | well => exact hg.elim
      | d x =>
        cases x with
        | int a =>
          obtain ⟨v, e1, d⟩ := sl
          cases d
          refine ⟨_, e1, m, S, ρ, _, _, st, hg, fun x v S' H' hx st' p d => ?_, ks.ke⟩
          obtain ⟨b, rfl, hx⟩ := onI_of hx
          cases d
          exact ⟨a, b, rfl, rfl, ks.nx _ _ S' H' hx (st'.set (x := .d (.int _)) (.int _)) p.sS⟩
        | _ => exact hg.elim
/-- for tg in iter: .. -/
theorem js_for {κb : Nat} {wr : List Nat} {gd : DG} (L : Nat) (B : Bok X n W k) (hi : JI X n W κi tg iter fi) (hg : JG X n wr tg gd) (hb : JB X n W κb body gb) (hs : ∀ x, foldedSetIterable iter X.env x = pure x) : JS X n W (κi + L * κb) (.For tg iter body [] pos) (gFor L fi gd gb) := by
  refine PS.to (ps_for B.po B.c.calm hi hg hb hs) fun D σ H ⟨m, S, ρ, Dd, st, hgd, ks⟩ => ?_
  refine ⟨m + L * κb, S, ρ, _, _, st_split st, hgd, fun xs J S1 H1 ⟨hL, hx⟩ st1 p1 hJ => ?_, (ks.up (by omega)).ke⟩
  refine ⟨fun i k σ2 H2 => k = xs.length - i ∧ i ≤ xs.length ∧ ∃ S2 ρ2, StOk X.K n (m + (xs.length - i) * κb) S2 H2 σ2 ρ2 ∧ Same S1 S2 ∧ loopD gd gb Dd (xs.drop i) ρ2, ⟨xs.length, by simp, Nat.zero_le _, S1, ρ, st1.le ?_, Same.refl _, by simpa using hx⟩, ?_⟩
  · have := Nat.mul_le_mul_right κb hL
    simp only [Nat.sub_zero]
    omega
  · rintro i k σ2 H2 ⟨rfl, hi, S2, ρ2, st2, s2, hl⟩
    obtain ⟨j1, j2, j3⟩ := hJ S2 H2 s2 st2.wd.sm
    by_cases hlt : i < xs.length
    · have hcost : m + (xs.length - i) * κb = (m + (xs.length - (i + 1)) * κb) + κb := by
        have : xs.length - i = (xs.length - (i + 1)) + 1 := by omega
        rw [this, Nat.add_mul]
        omega
      refine .inr ⟨j1 i hlt, fun σ' H' => i + 1 ≤ xs.length ∧ ∃ S2 ρ2, StOk X.K n (m + (xs.length - (i + 1)) * κb) S2 H' σ' ρ2 ∧ Same S1 S2 ∧ loopD gd gb Dd (xs.drop (i + 1)) ρ2, fun σ' H' q => ⟨xs.length - (i + 1), by omega, rfl, q⟩, fun x H3 y => ?_⟩
      obtain ⟨S3, d, g3, hxd, dx⟩ := j3 i x H3 hlt y
      have hdr : xs.drop i = d :: xs.drop (i + 1) := List.drop_eq_getElem_cons hlt ▸ by
        have : xs[i] = d := Option.some.inj ((List.getElem?_eq_getElem hlt).symm.trans hxd)
        rw [this]
      rw [hdr] at hl
      have s3 := s2.trans g3.po.sS
      have p3 : Same S S3 := p1.sS.trans s3
      have k3 := (ks.up (m' := m + (xs.length - (i + 1)) * κb) (by omega)).af p3
      refine ⟨_, S3, ρ2, d, _, hcost ▸ st2.grow g3, dx, hl, fun ρ4 σ4 h4 st4 _ _ => ?_⟩
      refine ⟨_, S3, ρ4, _, st4, h4, fun ρ5 σ5 S5 H5 h5 st5 s5 => ⟨hlt, S5, ρ5, st5, s3.trans s5, h5⟩, k3.rt, fun ρ5 σ5 S5 H5 h5 st5 s5 => k3.nx ρ5 σ5 S5 H5 h5 st5 s5, fun ρ5 σ5 S5 H5 h5 st5 s5 => ⟨hlt, S5, ρ5, st5, s3.trans s5, h5⟩, k3.ex⟩
    · have e : i = xs.length := by omega
      subst e
      rw [List.drop_length] at hl
      exact .inl ⟨j2 _ rfl, ks.nx ρ2 σ2 S2 H2 hl (st2.le (by omega)) (p1.sS.trans s2)⟩
/-- while c: .., nothing drawn within -/
theorem js_while (B : Bok X n W k) (hc : JT X n W 0 c t) (hb : JB X n W 0 body gb) : JS X n W 0 (.While c body [] pos) (gWhile t gb) := by
  refine PS.to (ps_while B.po hc hb) fun D σ H ⟨m, S, ρ, Dd, st, ⟨V, ⟨m0, v0⟩, turn⟩, ks⟩ => ?_
  refine ⟨fun k σ2 H2 => ∃ S2 ρ2, StOk X.K n m S2 H2 σ2 ρ2 ∧ Same S S2 ∧ V k ρ2, ⟨m0, S, ρ, st, Same.refl _, v0⟩, ?_⟩
  rintro k σ2 H2 ⟨S2, ρ2, st2, s2, v2⟩
  refine ⟨m, S2, ρ2, _, _, st2, turn k ρ2 v2, fun b S3 H3 hb st3 p3 => ?_, (ks.af s2).ke⟩
  cases b with
  | true =>
    simp only [if_true] at hb ⊢
    have k3 := ks.af (s2.trans p3.sS)
    refine ⟨fun σ' H' => ∃ m', m' < k ∧ ∃ S2 ρ2, StOk X.K n m S2 H' σ' ρ2 ∧ Same S S2 ∧ V m' ρ2, fun σ' H' q => q, ?_⟩
    refine ⟨m, S3, ρ2, _, st3, hb, fun ρ5 σ5 S5 H5 ⟨m', hm, h5⟩ st5 s5 => ⟨m', hm, S5, ρ5, st5, (s2.trans p3.sS).trans s5, h5⟩, k3.rt, k3.nx, fun ρ5 σ5 S5 H5 ⟨m', hm, h5⟩ st5 s5 => ⟨m', hm, S5, ρ5, st5, (s2.trans p3.sS).trans s5, h5⟩, k3.ex⟩
  | false =>
    simp only [Bool.false_eq_true, if_false] at hb ⊢
    exact ks.nx ρ2 σ2 S3 H3 hb st3 (s2.trans p3.sS)
end
end Wb
/-! Wb8: the rule of a def; short forms for the printed proofs. -/
namespace Wb
open PySem PySem.Spec PyProof.Rows L2
/-- a body's meaning as a def's: np parameters, then nl names not yet bound -/
def fnB (np nl : Nat) (g : DS) : Fn := fun xs R Er => xs.length = np ∧ g ⟨fun _ => R (.d .none), fun _ => R, fun _ => False, fun _ => False, fun _ => Er⟩ (xs.map .v ++ List.replicate nl .no)
theorem start_st {K : Frag} {CT : Nat → Addr} {wl : Option Addr} {m : Nat} {S H : Hp} {N : List Str} {vs : List V} {xs : List DV} {nl : Nat} (w : Wd wl m S H) (d : DvAll K (En.of CT wl S H) S vs xs) (hn : N.length = xs.length + nl) :
    StOk K (En.of CT wl S H) m S H (L2.start N vs) (xs.map .v ++ List.replicate nl .no) := by
  have dl := d.len
  refine ⟨w, Post.refl, ?_, fun _ => 0, fun i s e => ?_, fun i j ys zs e _ _ => ?_⟩
  · unfold L2.start
    rw [List.length_append, List.length_append, List.length_map, List.length_map, List.length_replicate, List.length_replicate]
    omega
  · by_cases hi : i < xs.length
    · rw [List.getElem?_append_left (by simpa using hi), List.getElem?_map] at e
      unfold L2.start
      rw [List.getElem?_append_left (by rw [List.length_map, dl]; exact hi), List.getElem?_map]
      have get : ∀ {vs : List V} {xs : List DV} {i : Nat} {x : DV}, DvAll K (En.of CT wl S H) S vs xs → xs[i]? = some x → ∃ v, vs[i]? = some v ∧ DvOk K (En.of CT wl S H) S v x := by
        intro vs xs i x d
        induction d generalizing i with
        | nil => intro e; simp at e
        | cons h t ih =>
          intro e
          cases i with
          | zero =>
            simp at e
            subst e
            exact ⟨_, rfl, h⟩
          | succ i => simpa using ih (by simpa using e)
      cases q : xs[i]? with
      | none => rw [q] at e; cases e
      | some x =>
        rw [q] at e
        cases e
        obtain ⟨v, h1, h2⟩ := get d q
        exact ⟨v, by rw [h1]; rfl, h2⟩
    · rw [List.getElem?_append_right (by simpa using hi), List.getElem?_replicate] at e
      split at e
      · cases e; exact trivial
      · cases e
  · by_cases hi : i < xs.length
    · rw [List.getElem?_append_left (by simpa using hi), List.getElem?_map] at e
      cases q : xs[i]? with
      | none => rw [q] at e; cases e
      | some x => rw [q] at e; cases e
    · rw [List.getElem?_append_right (by simpa using hi), List.getElem?_replicate] at e
      split at e <;> cases e
abbrev WE (E : XK) : WX := fun cls d _ H' => E cls d H'
/-- THE RULE of a def -/
theorem defG_of {P : Program} {w : World} {K : Frag} {mg : Str → Option Value} {base : Heap} {k κ nl : Nat} {f : Addr} {fd : FuncData} {x qual : Str} {st : Stmt} {N ps : List Str} {CT : Nat → Addr} {g : DS} (F : Fun K x qual st f fd) (S : FnScope N ps (defScope st)) (hmg : mg x = some (.ref f))
    (hb : Binds K fd ps []) (hl : N.length = ps.length + nl)
    (body : ∀ (cdv : Value) (A : Around) (outer : List Env) (s : Shared) (H : Hp) (E : XK) (wl : Option Addr) (S0 : Hp), Bok (cxOf (L2.CX P w) P w K mg base N qual (defScope st) f cdv A outer s H E) (En.of CT wl S0 H) (WE E) k →
      JB (cxOf (L2.CX P w) P w K mg base N qual (defScope st) f cdv A outer s H E) (En.of CT wl S0 H) (WE E) κ (defBody st) g) :
    DefG P w K mg base x ps (k + 1) f fd (spD K CT κ (fnB ps.length nl g)) := by
  refine ⟨fnG_of F S (fun vs H Q E ⟨wl, m, S, xs, R, Er, w, d, ⟨h1, _⟩, _⟩ => d.len.trans h1) fun cdv A outer s H vs Q E hgd hr hsp => ?_, hmg, F.kp, hb⟩
  obtain ⟨wl, m, S0, xs, R, Er, wd, d, ⟨hx, hg⟩, kR, kE⟩ := hsp
  have nd := S.nd
  refine ⟨_, body cdv A outer s H E wl S0 ⟨⟨rfl, L2.takes_of rfl rfl rfl rfl, hr, hgd, nd⟩, L2.passes_of rfl⟩, m, S0, _, _, start_st wd d (by rw [hl, hx]), hg, fun ρ' σ' S' H' h s z => ?_, fun ρ' σ' x v S' H' h s dv => ?_, fun _ _ _ _ h => h.elim, fun _ _ _ _ h => h.elim, fun ρ' c x cls dx σ' S' H' h s e z => ?_⟩
  · exact kR _ .non S' H' h s.wd s.po .non
  · exact kR x v S' H' h s.wd s.po dv
  · exact kE c x cls dx S' H' h s.wd s.po e

/-! ### the draw: the well as a list of one's own -/
/-- what a draw asks and gives -/
def drawFn : Fn := fun xs R _ => ∃ many : Int, xs = [.wel, .d (.int many)] ∧ 0 < many ∧ many < 2 ^ 60 ∧ ∀ x : Int, 0 ≤ x → x < many → R (.d (.int x))
/-- the law of a draw's body: a b c the well, budget m + 1 -/
def DrawLaw (nl : Nat) (g : DS) : Prop := ∀ (m : Nat) (a b c many : Int), WOk (m + 1) a b c → 0 < many → many < 2 ^ 60 →
  g ⟨fun _ => False, fun ρ x => ∃ a' b' c' z : Int, ρ[0]? = some (.own [.int a', .int b', .int c']) ∧ WOk m a' b' c' ∧ x = .d (.int z) ∧ 0 ≤ z ∧ z < many, fun _ => False, fun _ => False, fun _ _ _ => False⟩
    ([.own [.int a, .int b, .int c], .v (.d (.int many))] ++ List.replicate nl .no)
theorem draw_of {P : Program} {w : World} {K : Frag} {mg : Str → Option Value} {base : Heap} {k nl : Nat} {f : Addr} {fd : FuncData} {x qual : Str} {st : Stmt} {N ps : List Str} {CT : Nat → Addr} {g : DS} (F : Fun K x qual st f fd) (S : FnScope N ps (defScope st)) (hmg : mg x = some (.ref f))
    (hb : Binds K fd ps []) (h2 : ps.length = 2) (hl : N.length = 2 + nl) (law : DrawLaw nl g)
    (body : ∀ (cdv : Value) (A : Around) (outer : List Env) (s : Shared) (H : Hp) (E : XK) (n : En), n.CT = CT → Bok (cxOf (L2.CX P w) P w K mg base N qual (defScope st) f cdv A outer s H E) n (WE E) k →
      JB (cxOf (L2.CX P w) P w K mg base N qual (defScope st) f cdv A outer s H E) n (WE E) 0 (defBody st) g) :
    DefG P w K mg base x ps (k + 1) f fd (spD K CT 1 drawFn) := by
  refine ⟨fnG_of F S (fun vs H Q E ⟨wl, m, S, xs, R, Er, w, d, ⟨many, h1, _⟩, _⟩ => by rw [d.len, h1, h2]; rfl) fun cdv A outer s H vs Q E hgd hr hsp => ?_, hmg, F.kp, hb⟩
  obtain ⟨wl, m, S0, xs, R, Er, wd, d, ⟨many, rfl, hm0, hm1, hR⟩, kR, kE⟩ := hsp
  cases d with
  | cons d1 d2 =>
  cases d2 with
  | cons d2 d3 =>
  cases d3
  obtain ⟨p, rfl, hwl⟩ := d1
  have hwl : wl = some p := hwl
  cases d2
  obtain ⟨sp, a, b, c, hp, hW⟩ := wd.we p hwl
  have nd := S.nd
  have tk := L2.takes_of (X := cxOf (L2.CX P w) P w K mg base N qual (defScope st) f cdv A outer s H E) (E := E) rfl rfl rfl rfl
  let n : En := ⟨CT, none, S0, fun b => if b = p then none else H b, fun a => a = p⟩
  have hn0 : n.H0 p = none := if_pos rfl
  have hne : ∀ b, b ≠ p → n.H0 b = H b := fun b hb => if_neg hb
  have st0 : StOk K n m S0 H (L2.start N [.ref p, .int many]) ([.own [.int a, .int b, .int c], .v (.d (.int many))] ++ List.replicate nl .no) := by
    refine ⟨⟨wd.sm, fun q z => nomatch z⟩, ⟨Same.refl S0, fun _ _ z => z, fun q o z _ => ?_, fun q z => ?_⟩, ?_, fun _ => p, fun i t e => ?_, fun i j ys zs e1 e2 _ => ?_⟩
    · by_cases hq : q = p
      · subst hq; rw [hn0] at z; cases z
      · rw [hne q hq] at z; exact z
    · by_cases hq : q = p
      · subst hq; exact absurd hn0 z
      · rw [hne q hq] at z; exact z
    · unfold L2.start
      rw [List.length_append, List.length_append, List.length_replicate, List.length_replicate, List.length_map, hl]
      simp
    · unfold L2.start
      match i, e with
      | 0, e =>
        cases e
        exact ⟨rfl, sp, ⟨hn0, rfl⟩, (fun z => nomatch z), _, hp, .cons (.int _) (.cons (.int _) (.cons (.int _) .nil))⟩
      | 1, e =>
        cases e
        exact ⟨_, rfl, .int _⟩
      | i + 2, e =>
        have e : (List.replicate nl Sl.no)[i]? = some t := e
        rw [List.getElem?_replicate] at e
        split at e
        · cases e; exact trivial
        · cases e
    · have no : ∀ {i : Nat} {ys}, ([Sl.own [.int a, .int b, .int c], .v (.d (.int many))] ++ List.replicate nl .no)[i]? = some (.own ys) → i = 0 := fun {i ys} e => by
        match i, e with
        | 0, _ => rfl
        | 1, e => cases e
        | i + 2, e =>
          have e : (List.replicate nl Sl.no)[i]? = some (.own ys) := e
          rw [List.getElem?_replicate] at e
          split at e <;> cases e
      rw [no e1, no e2]
  have lw := law m a b c many hW hm0 hm1
  refine ⟨_, body cdv A outer s H E n rfl ⟨⟨rfl, tk, hr, hgd, nd⟩, L2.passes_of rfl⟩, m, S0, _, _, st0, lw, fun _ _ _ _ h => h.elim, fun ρ' σ' x v S' H' h s' dv => ?_, fun _ _ _ _ h => h.elim, fun _ _ _ _ h => h.elim, fun _ _ _ _ _ _ _ _ h => h.elim⟩
  obtain ⟨a', b', c', z, h0, hW', rfl, hz0, hz1⟩ := h
  obtain ⟨A', q1, _⟩ := s'.sl
  obtain ⟨g1, g2, g3, g4, us, g5, g6⟩ := q1 0 _ h0
  have eA : A' 0 = p := g3.2
  rw [eA] at g2 g5
  cases dv
  cases g6 with
  | cons u1 g6 =>
  cases g6 with
  | cons u2 g6 =>
  cases g6 with
  | cons u3 g6 =>
  cases g6
  cases u1
  cases u2
  cases u3
  refine kR _ _ S' H' (hR z hz0 hz1) ⟨s'.wd.sm, fun q e => ?_⟩ ⟨s'.po.sS, fun q hq sq => ?_, fun q o e hq => ?_, fun q hq => ?_⟩ (.int z)
  · rw [hwl] at e
    cases e
    exact ⟨g2, a', b', c', g5, hW'⟩
  · by_cases e : q = p
    · rw [e]; exact g2
    · exact s'.po.fr q (by rw [hne q e]; exact hq) sq
  · have e2 : q ≠ p := fun z => hq (by rw [z]; exact hwl)
    exact s'.po.kp q o (by rw [hne q e2]; exact e) (fun z => nomatch z)
  · by_cases e : q = p
    · rw [e, g5]; exact Option.some_ne_none _
    · exact s'.po.al q (by rw [hne q e]; exact hq)
section
variable {X : Cx} {n : En} {W : WX} {κ κ' κ2 κi κt κe κf k k' : Nat} {e a b c elt tg iter : Expr} {es ifs : List Expr} {pos : Pos} {f h g : DE} {fa fk : DA} {t u : DT} {fi : DN}
theorem js_retN : JS X n W 0 (.Return none pos) (gRet (dC .none)) := PS.to ps_retN fun D σ H ⟨m, S, ρ, Dd, st, hg, ks⟩ => ks.rt ρ σ _ .non S H hg st .non

/-! ### short forms -/
theorem v (i : Nat) {x : Str} (hN : X.N[i]? = some x := by rfl) (hv : Vis X.env.scope x := by first | exact .inl rfl | exact .inr (.inl rfl) | exact .inr (.inr rfl)) (hd : (x == ("__debug__" : Str)) = false := by rfl) (hcd : (x == ("__classdict__" : Str)) = false := by rfl) :
    JE X n W 0 (.Name x pos) (dVar i) := je_var hN hv hd hcd
theorem o (i : Nat) {x : Str} (hN : X.N[i]? = some x := by rfl) (hv : Vis X.env.scope x := by first | exact .inl rfl | exact .inr (.inl rfl) | exact .inr (.inr rfl)) (hd : (x == ("__debug__" : Str)) = false := by rfl) (hcd : (x == ("__classdict__" : Str)) = false := by rfl) :
    JO X n W 0 (.Name x pos) (dOwn i) := jo_own hN hv hd hcd
theorem gn (C : Cok X n W k) (i : Nat) {x : Str} (hi : X.N[i]? = some x := by rfl) (hx : Loc X.env.scope x := by first | exact .inl rfl | exact .inr rfl) (hf : X.fn x = true ∨ X.env.scope.names.lookup x = some .local := by first | exact .inr rfl | exact .inl rfl) :
    JG X n [i] (.Name x pos) (gNm i) := jg_name C.nd hi hx hf
theorem ac {fr : DA} (ha : JE X n W κ e f) (hb : JA X n W κ' es fr) (hs : starEach (e :: es) X.env = (false, eval e X.env) :: starEach es X.env := by rfl) : JA X n W (κ + κ') (e :: es) (aCons f fr) := ja_cons ha hb hs
theorem oc {fr : DA} (ha : JO X n W κ e f) (hb : JAO X n W κ' es fr) (hs : starEach (e :: es) X.env = (false, eval e X.env) :: starEach es X.env := by rfl) : JAO X n W (κ + κ') (e :: es) (aCons f fr) := jo_cons ha hb hs
theorem cl {G : Fn} {x : Str} {ps : List Str} {ff : Addr} {fd : FuncData} {p : Pos} (F : DefG X.prog X.w X.K X.mg X.base x ps k ff fd (spD X.K n.CT κf G)) (C : Cok X n W k') (hk : k ≤ k') (ha : JA X n W κ (e :: es) fa) (hg : Gl X x := by rfl)
    (hdb : (x == ("__debug__" : Str)) = false := by rfl) (he : starEach (e :: es) X.env = (false, eval e X.env) :: starEach es X.env := by rfl) (hpl : (backTo pos (starEach es X.env)).any (·.1) = false := by rfl) : JE X n W (κ + κf) (.Call (.Name x p) (e :: es) [] pos) (dCall G fa) := je_call F C hk ha hg hdb he hpl
theorem bi {id : String} {x : Str} {p : Pos} {r : List V → Hp → VK → Prop} {gg : List DV → (DV → Prop) → Prop} (hc : CallR X (.builtin id) r) (hr : CaD X.K r gg) (hv : bootBuiltins x = some (.builtin id)) (hm : X.mg x = none) (ha : JAO X n W κ (e :: es) fa) (hg : Gl X x := by rfl)
    (hn : x ≠ "__name__" := by decide) (hdb : (x == ("__debug__" : Str)) = false := by rfl) (he : starEach (e :: es) X.env = (false, eval e X.env) :: starEach es X.env := by rfl) (hpl : (backTo pos (starEach es X.env)).any (·.1) = false := by rfl) :
    JE X n W κ (.Call (.Name x p) (e :: es) [] pos) (dBi gg fa) := je_bi hc hr hg hm hv ha hn hdb he hpl
theorem ty {T : String} {x : Str} {p : Pos} {r : List V → Hp → VK → Prop} {gg : List DV → (DV → Prop) → Prop} (hc : CallR X (.type T) r) (hr : CaD X.K r gg) (hv : bootBuiltins x = some (.type T)) (hm : X.mg x = none) (ha : JAO X n W κ (e :: es) fa) (hg : Gl X x := by rfl)
    (hn : x ≠ "__name__" := by decide) (hdb : (x == ("__debug__" : Str)) = false := by rfl) (he : starEach (e :: es) X.env = (false, eval e X.env) :: starEach es X.env := by rfl) (hpl : (backTo pos (starEach es X.env)).any (·.1) = false := by rfl) :
    JE X n W κ (.Call (.Name x p) (e :: es) [] pos) (dBi gg fa) := je_ty hc hr hg hm hv ha hn hdb he hpl

theorem b_abs : bootBuiltins "abs" = some (.builtin "abs") := by decide +kernel
theorem b_max : bootBuiltins "max" = some (.builtin "max") := by decide +kernel
theorem b_min : bootBuiltins "min" = some (.builtin "min") := by decide +kernel
theorem b_sum : bootBuiltins "sum" = some (.builtin "sum") := by decide +kernel
theorem b_all : bootBuiltins "all" = some (.builtin "all") := by decide +kernel
theorem b_any : bootBuiltins "any" = some (.builtin "any") := by decide +kernel
theorem b_repr : bootBuiltins "repr" = some (.builtin "repr") := by decide +kernel
theorem b_len : bootBuiltins "len" = some (.builtin "len") := by decide +kernel
theorem b_int : bootBuiltins "int" = some (.type "int") := by decide +kernel
theorem b_bool : bootBuiltins "bool" = some (.type "bool") := by decide +kernel
theorem b_tuple : bootBuiltins "tuple" = some (.type "tuple") := by decide +kernel
theorem b_list : bootBuiltins "list" = some (.type "list") := by decide +kernel
theorem b_str : bootBuiltins "str" = some (.type "str") := by decide +kernel
theorem c_len : CallR X (.builtin "len") (fun xs H Q => (∃ p ys, xs = [.ref p] ∧ (SqL X.K H p ys ∨ SqT X.K H p ys) ∧ Q (.int ys.length) H) ∨ ∃ z, xs = [.str z] ∧ z.length ≤ sizeLine ∧ Q (.int z.length) H) := call_len_seq.or call_len_str
theorem j_len {x : Str} {p : Pos} (hx : x = "len") (hm : X.mg "len" = none) (ha : JAO X n W κ (e :: es) fa) (hg : Gl X x := by rfl) (he : starEach (e :: es) X.env = (false, eval e X.env) :: starEach es X.env := by rfl) (hpl : (backTo pos (starEach es X.env)).any (·.1) = false := by rfl) :
    JE X n W κ (.Call (.Name x p) (e :: es) [] pos) (dBi bLen fa) := by subst hx; exact je_bi c_len caD_len hg hm b_len ha (by decide) (by decide) he hpl
theorem j_abs {x : Str} {p : Pos} (hx : x = "abs") (hm : X.mg "abs" = none) (ha : JAO X n W κ (e :: es) fa) (hg : Gl X x := by rfl) (he : starEach (e :: es) X.env = (false, eval e X.env) :: starEach es X.env := by rfl) (hpl : (backTo pos (starEach es X.env)).any (·.1) = false := by rfl) :
    JE X n W κ (.Call (.Name x p) (e :: es) [] pos) (dBi bAbs fa) := by subst hx; exact je_bi call_abs caD_abs hg hm b_abs ha (by decide) (by decide) he hpl
theorem j_max {x : Str} {p : Pos} (C : Cok X n W k) (hx : x = "max") (hm : X.mg "max" = none) (ha : JAO X n W κ (e :: es) fa) (hg : Gl X x := by rfl) (he : starEach (e :: es) X.env = (false, eval e X.env) :: starEach es X.env := by rfl) (hpl : (backTo pos (starEach es X.env)).any (·.1) = false := by rfl) :
    JE X n W κ (.Call (.Name x p) (e :: es) [] pos) (dBi bMax2 fa) := by subst hx; exact je_bi (call_max2 C.calm) caD_max2 hg hm b_max ha (by decide) (by decide) he hpl
theorem j_min {x : Str} {p : Pos} (C : Cok X n W k) (hx : x = "min") (hm : X.mg "min" = none) (ha : JAO X n W κ (e :: es) fa) (hg : Gl X x := by rfl) (he : starEach (e :: es) X.env = (false, eval e X.env) :: starEach es X.env := by rfl) (hpl : (backTo pos (starEach es X.env)).any (·.1) = false := by rfl) :
    JE X n W κ (.Call (.Name x p) (e :: es) [] pos) (dBi bMin2 fa) := by subst hx; exact je_bi (call_min2 C.calm) caD_min2 hg hm b_min ha (by decide) (by decide) he hpl
theorem j_sum {x : Str} {p : Pos} (C : Cok X n W k) (hx : x = "sum") (hm : X.mg "sum" = none) (ha : JAO X n W κ (e :: es) fa) (hg : Gl X x := by rfl) (he : starEach (e :: es) X.env = (false, eval e X.env) :: starEach es X.env := by rfl) (hpl : (backTo pos (starEach es X.env)).any (·.1) = false := by rfl) :
    JE X n W κ (.Call (.Name x p) (e :: es) [] pos) (dBi bSum fa) := by subst hx; exact je_bi (cr_sum C.calm) caD_sum hg hm b_sum ha (by decide) (by decide) he hpl
theorem j_all {x : Str} {p : Pos} (C : Cok X n W k) (hx : x = "all") (hm : X.mg "all" = none) (ha : JAO X n W κ (e :: es) fa) (hg : Gl X x := by rfl) (he : starEach (e :: es) X.env = (false, eval e X.env) :: starEach es X.env := by rfl) (hpl : (backTo pos (starEach es X.env)).any (·.1) = false := by rfl) :
    JE X n W κ (.Call (.Name x p) (e :: es) [] pos) (dBi bAll fa) := by subst hx; exact je_bi (cr_all C.calm) caD_all hg hm b_all ha (by decide) (by decide) he hpl
theorem j_any {x : Str} {p : Pos} (C : Cok X n W k) (hx : x = "any") (hm : X.mg "any" = none) (ha : JAO X n W κ (e :: es) fa) (hg : Gl X x := by rfl) (he : starEach (e :: es) X.env = (false, eval e X.env) :: starEach es X.env := by rfl) (hpl : (backTo pos (starEach es X.env)).any (·.1) = false := by rfl) :
    JE X n W κ (.Call (.Name x p) (e :: es) [] pos) (dBi bAny fa) := by subst hx; exact je_bi (cr_any C.calm) caD_any hg hm b_any ha (by decide) (by decide) he hpl
theorem j_repr {x : Str} {p : Pos} (C : Cok X n W k) (hx : x = "repr") (hm : X.mg "repr" = none) (ha : JAO X n W κ (e :: es) fa) (hg : Gl X x := by rfl) (he : starEach (e :: es) X.env = (false, eval e X.env) :: starEach es X.env := by rfl) (hpl : (backTo pos (starEach es X.env)).any (·.1) = false := by rfl) :
    JE X n W κ (.Call (.Name x p) (e :: es) [] pos) (dBi bRepr fa) := by
  subst hx
  exact je_bi (call_reprD C.hg (by have := C.hr.un; omega)) caD_repr hg hm b_repr ha (by decide) (by decide) he hpl
theorem j_int {x : Str} {p : Pos} (hx : x = "int") (hm : X.mg "int" = none) (ha : JAO X n W κ (e :: es) fa) (hg : Gl X x := by rfl) (he : starEach (e :: es) X.env = (false, eval e X.env) :: starEach es X.env := by rfl) (hpl : (backTo pos (starEach es X.env)).any (·.1) = false := by rfl) :
    JE X n W κ (.Call (.Name x p) (e :: es) [] pos) (dBi bInt fa) := by subst hx; exact je_ty call_int1 caD_int hg hm b_int ha (by decide) (by decide) he hpl
theorem j_tuple {x : Str} {p : Pos} (hx : x = "tuple") (hm : X.mg "tuple" = none) (ha : JAO X n W κ (e :: es) fa) (hg : Gl X x := by rfl) (he : starEach (e :: es) X.env = (false, eval e X.env) :: starEach es X.env := by rfl) (hpl : (backTo pos (starEach es X.env)).any (·.1) = false := by rfl) :
    JE X n W κ (.Call (.Name x p) (e :: es) [] pos) (dBi bTuple fa) := by subst hx; exact je_ty call_tuple_of caD_tuple hg hm b_tuple ha (by decide) (by decide) he hpl
theorem j_gcd {x : Str} {p : Pos} (hm : X.mg x = some (.builtin "math.gcd")) (ha : JAO X n W κ (e :: es) fa) (hg : Gl X x := by rfl) (hdb : (x == ("__debug__" : Str)) = false := by rfl) (he : starEach (e :: es) X.env = (false, eval e X.env) :: starEach es X.env := by rfl) (hpl : (backTo pos (starEach es X.env)).any (·.1) = false := by rfl) :
    JE X n W κ (.Call (.Name x p) (e :: es) [] pos) (dBi bGcd fa) := je_bif cr_gcd caD_gcd hg hm ha hdb he hpl
theorem hT_int : (kitTypes.all fun t => decide (kitB t "int" = some (subTy t "int"))) = true := by decide +kernel
theorem hT_bool : (kitTypes.all fun t => decide (kitB t "bool" = some (subTy t "bool"))) = true := by decide +kernel
theorem hT_tuple : (kitTypes.all fun t => decide (kitB t "tuple" = some (subTy t "tuple"))) = true := by decide +kernel
theorem hT_list : (kitTypes.all fun t => decide (kitB t "list" = some (subTy t "list"))) = true := by decide +kernel
theorem hT_str : (kitTypes.all fun t => decide (kitB t "str" = some (subTy t "str"))) = true := by decide +kernel
theorem j_isi {x : Str} {T : String} {p p2 : Pos} (hT : (kitTypes.all fun t => decide (kitB t T = some (subTy t T))) = true) (hv : bootBuiltins x = some (.type T)) (hmI : X.mg "isinstance" = none) (hm : X.mg x = none) (ha : JO X n W κ a f) (hgI : Gl X "isinstance" := by rfl) (hg : Gl X x := by rfl)
    (hn : x ≠ "__name__" := by decide) (hdb : (x == ("__debug__" : Str)) = false := by rfl) (he : starEach [a, .Name x p2] X.env = (false, eval a X.env) :: starEach [.Name x p2] X.env := by rfl) (he2 : starEach [.Name x p2] X.env = (false, eval (.Name x p2) X.env) :: starEach [] X.env := by rfl)
    (hpl : (backTo pos (starEach [.Name x p2] X.env)).any (·.1) = false := by rfl) : JE X n W κ (.Call (.Name "isinstance" p) [a, .Name x p2] [] pos) (d1 (gIsi T) f) := je_isi hT hgI hmI hg hm hv hn hdb ha he he2 hpl
theorem j_isE {x : Str} {C : Addr} {c' : Nat} {sub : Nat → Nat → Bool} {p p2 : Pos} (hmI : X.mg "isinstance" = none) (hm : X.mg x = some (.ref C)) (hN : PySem.W.kitOne X.K (.type "NoneType") (.ref C) = some false) (hI : ∀ c, IsC X.K (n.CT c)) (hL : ∀ c, PySem.W.kitOne X.K (.ref (n.CT c)) (.ref C) = some (sub c c'))
    (ha : JO X n W κ a f) (hgI : Gl X "isinstance" := by rfl) (hg : Gl X x := by rfl) (hdb : (x == ("__debug__" : Str)) = false := by rfl) (he : starEach [a, .Name x p2] X.env = (false, eval a X.env) :: starEach [.Name x p2] X.env := by rfl)
    (he2 : starEach [.Name x p2] X.env = (false, eval (.Name x p2) X.env) :: starEach [] X.env := by rfl) (hpl : (backTo pos (starEach [.Name x p2] X.env)).any (·.1) = false := by rfl) : JE X n W κ (.Call (.Name "isinstance" p) [a, .Name x p2] [] pos) (d1 (gIsE c' sub) f) := je_isE hgI hmI hg hm hdb hN hI hL ha he he2 hpl
theorem j_val {D fI : Addr} (hE : ∀ c, ErrCls X.K D fI (n.CT c)) (ha : JO X n W κ a f) (hb : attributeBase a "value" X.env (eval a X.env) = eval a X.env := by rfl) : JE X n W κ (.Attribute a "value" pos) (d1 gVal f) := je_value hE ha hb
theorem j_ix (ha : JO X n W κ a f) (hb : JO X n W κ' b h) (hs : PlainIx b := by exact fun _ _ => rfl) : JE X n W (κ + κ') (.Subscript a b pos) (d2 gIx f h) := je_sub_ix ha hb hs
theorem j_in (C : Cok X n W k) (ha : JO X n W κ a f) (hb : JO X n W κ' b h) (hm : behindInMarks .In b = false := by rfl) : JE X n W (κ + κ') (.Compare a [.In] [b] pos) (d2 gIn f h) := je_in C ha hb hm
theorem j_nin (C : Cok X n W k) (ha : JO X n W κ a f) (hb : JO X n W κ' b h) (hm : behindInMarks .NotIn b = false := by rfl) : JE X n W (κ + κ') (.Compare a [.NotIn] [b] pos) (d2 gNotIn f h) := je_notIn C ha hb hm
theorem t_lt (ha : JO X n W κ a f) (hb : JO X n W κ' b h) : JT X n W (κ + κ') (.Compare a [.Lt] [b] pos) (tVal (d2 gLt f h)) := jt_cmp op_lt (opD_I0 fun _ _ _ => .bl _) ha hb (nomark _)
theorem t_le (ha : JO X n W κ a f) (hb : JO X n W κ' b h) : JT X n W (κ + κ') (.Compare a [.LtE] [b] pos) (tVal (d2 gLe f h)) := jt_cmp op_le (opD_I0 fun _ _ _ => .bl _) ha hb (nomark _)
theorem t_gt (ha : JO X n W κ a f) (hb : JO X n W κ' b h) : JT X n W (κ + κ') (.Compare a [.Gt] [b] pos) (tVal (d2 gGt f h)) := jt_cmp op_gt (opD_I0 fun _ _ _ => .bl _) ha hb (nomark _)
theorem t_ge (ha : JO X n W κ a f) (hb : JO X n W κ' b h) : JT X n W (κ + κ') (.Compare a [.GtE] [b] pos) (tVal (d2 gGe f h)) := jt_cmp op_ge (opD_I0 fun _ _ _ => .bl _) ha hb (nomark _)
theorem t_eq (C : Cok X n W k) (ha : JO X n W κ a f) (hb : JO X n W κ' b h) : JT X n W (κ + κ') (.Compare a [.Eq] [b] pos) (tVal (d2 gEq f h)) := jt_cmp (op_eqA C.hr) opD_eq ha hb (nomark _)
theorem t_ne (C : Cok X n W k) (ha : JO X n W κ a f) (hb : JO X n W κ' b h) : JT X n W (κ + κ') (.Compare a [.NotEq] [b] pos) (tVal (d2 gNe f h)) := jt_cmp (op_neA C.hr) opD_ne ha hb (nomark _)
theorem t_in (C : Cok X n W k) (ha : JO X n W κ a f) (hb : JO X n W κ' b h) (hm : behindInMarks .In b = false := by rfl) : JT X n W (κ + κ') (.Compare a [.In] [b] pos) (tVal (d2 gIn f h)) := jt_cmp (op_inA C.hr) opD_in ha hb hm
theorem t_nin (C : Cok X n W k) (ha : JO X n W κ a f) (hb : JO X n W κ' b h) (hm : behindInMarks .NotIn b = false := by rfl) : JT X n W (κ + κ') (.Compare a [.NotIn] [b] pos) (tVal (d2 gNotIn f h)) := jt_cmp (op_notInA C.hr) opD_notIn ha hb hm
theorem t_v (he : JE X n W κ e f) (hw : ∀ whole, isTrue e X.env whole = (do let v ← whole; standAt e.pos; holding [v] (truthy v)) := by exact fun _ => rfl) : JT X n W κ e (tVal f) := jt_val he hw
/-- a chain of two comparisons of ints -/
theorem oI_lt : OpD X.K (rI0 fun i j => .bl (decide (i < j))) gLt := opD_I0 fun _ _ _ => .bl _
theorem oI_le : OpD X.K (rI0 fun i j => .bl (decide (i ≤ j))) gLe := opD_I0 fun _ _ _ => .bl _
theorem oI_gt : OpD X.K (rI0 fun i j => .bl (decide (j < i))) gGt := opD_I0 fun _ _ _ => .bl _
theorem oI_ge : OpD X.K (rI0 fun i j => .bl (decide (j ≤ i))) gGe := opD_I0 fun _ _ _ => .bl _
theorem se {f : DE} (he : JE X n W κ e f) (hs : swapsWith e none pos.line X.env = pure false := by rfl) : JS X n W κ (.Expr e pos) (gDrop f) := js_expr he hs
theorem ss (C : Cok X n W k) (i : Nat) {x : Str} {pos' : Pos} (he : JE X n W κ e f) (hi : X.N[i]? = some x := by rfl) (hx : Loc X.env.scope x := by first | exact .inl rfl | exact .inr rfl) (hs : swapsWith e (some (.Name x pos')) pos.line X.env = pure false := by rfl)
    (hf : X.fn x = true ∨ X.env.scope.names.lookup x = some .local := by first | exact .inr rfl | exact .inl rfl) : JS X n W κ (.Assign [.Name x pos'] e pos) (gSet i f) := js_set C.nd hi hx he hs hf
theorem sn (C : Cok X n W k) (i : Nat) {x : Str} {pos' : Pos} {fn : DN} (he : JN X n W κ e fn) (hi : X.N[i]? = some x := by rfl) (hx : Loc X.env.scope x := by first | exact .inl rfl | exact .inr rfl) (hs : swapsWith e (some (.Name x pos')) pos.line X.env = pure false := by rfl)
    (hf : X.fn x = true ∨ X.env.scope.names.lookup x = some .local := by first | exact .inr rfl | exact .inl rfl) (hpa : ∀ a, n.pa a := by exact fun _ => trivial) : JS X n W κ (.Assign [.Name x pos'] e pos) (gSetN i fn) := js_setN hpa C.nd hi hx he hs hf
theorem sa {wr : List Nat} {gd : DG} (he : JE X n W κ e f) (hg : JG X n wr tg gd) (hs : swapsWithSole [tg] e pos.line X.env = pure false := by rfl) (hw : swappedStores [tg] e X.env = pure none := by rfl) (h1 : (assignEach [tg] X.env).map (·.2) = [assign tg X.env] := by rfl) :
    JS X n W κ (.Assign [tg] e pos) (gAsg f gd) := js_asg he hg hs hw h1
theorem gt {es : List Expr} {kk : Nat} {wr : List Nat} {g : DGs} (C : Cok X n W k) (nn : Nat) (h : JGs X n wr es g) (hlen : ∀ xs ρ R, g xs ρ R → xs.length = nn) (hn : (assignEach es X.env).length = nn := by rfl) (hst : (assignEach es X.env).findIdx? (·.1) = none := by rfl) : JG X n wr (.Tuple es kk pos) (gTp g) := jg_tup C.calm h hn hst hlen
theorem gc {es : List Expr} {w1 w2 : List Nat} {g1 : DG} {g2 : DGs} (h1 : JG X n w1 e g1) (h2 : JGs X n w2 es g2) (hs : (assignEach (e :: es) X.env).map (·.2) = assign e X.env :: (assignEach es X.env).map (·.2) := by rfl) : JGs X n (w1 ++ w2) (e :: es) (gsCons g1 g2) := jgs_cons h1 h2 hs
theorem sp2 (C : Cok X n W k) (i j : Nat) {x y : Str} {px py pt : Pos} {kt k2 pt2} (ha : JA X n W κ [a, b] fa) (hi : X.N[i]? = some x := by rfl) (hj : X.N[j]? = some y := by rfl) (hij : i ≠ j := by decide) (hx : X.env.scope.names.lookup x = some .local := by rfl) (hy : X.env.scope.names.lookup y = some .local := by rfl)
    (hw : swappedStores [.Tuple [.Name x px, .Name y py] kt pt] (.Tuple [a, b] k2 pt2) X.env = pure (some [x, y]) := by rfl)
    (hs : swapsWithSole [.Tuple [.Name x px, .Name y py] kt pt] (.Tuple [a, b] k2 pt2) pos.line X.env = pure false := by rfl) : JS X n W κ (.Assign [.Tuple [.Name x px, .Name y py] kt pt] (.Tuple [a, b] k2 pt2) pos) (gPar i j fa) := js_par C.calm C.nd hi hj hij hx hy ha hw hs
theorem sp3 (C : Cok X n W k) (i j l : Nat) {x y z : Str} {px py pz pt : Pos} {kt k2 pt2} (ha : JA X n W κ [a, b, c] fa) (hi : X.N[i]? = some x := by rfl) (hj : X.N[j]? = some y := by rfl) (hl : X.N[l]? = some z := by rfl) (hij : i ≠ j := by decide) (hil : i ≠ l := by decide) (hjl : j ≠ l := by decide)
    (hx : X.env.scope.names.lookup x = some .local := by rfl) (hy : X.env.scope.names.lookup y = some .local := by rfl) (hz : X.env.scope.names.lookup z = some .local := by rfl) 
    (hw : swappedStores [.Tuple [.Name x px, .Name y py, .Name z pz] kt pt] (.Tuple [a, b, c] k2 pt2) X.env = pure (some [x, y, z]) := by rfl)
    (hs : swapsWithSole [.Tuple [.Name x px, .Name y py, .Name z pz] kt pt] (.Tuple [a, b, c] k2 pt2) pos.line X.env = pure false := by rfl) : JS X n W κ (.Assign [.Tuple [.Name x px, .Name y py, .Name z pz] kt pt] (.Tuple [a, b, c] k2 pt2) pos) (gPar3 i j l fa) := js_par3 C.calm C.nd hi hj hl hij hil hjl hx hy hz ha hw hs
theorem lc {scope : Scope} (own : List (Str × Nat)) {wr : List Nat} {gd : DG} (L : Nat) (C : Cok X n W k) (hi : JI X n W κi tg iter fi)
    (hg : ∀ (s : Shared) (H : Hp) (CC : Addr) (cl : List (Str × Addr)) (fp : List Addr), JG (X.blk s H scope (compEnvC scope cl CC X.env) fp) n wr tg gd)
    (ht : ∀ (s : Shared) (H : Hp) (CC : Addr) (cl : List (Str × Addr)) (fp : List Addr), JTs (X.blk s H scope (compEnvC scope cl CC X.env) fp) n WF κt ifs t)
    (he : ∀ (s : Shared) (H : Hp) (CC : Addr) (cl : List (Str × Addr)) (fp : List Addr), JE (X.blk s H scope (compEnvC scope cl CC X.env) fp) n WF κe elt f)
    (hL2 : L ≤ 100000 := by decide) (ok : blkC X.N X.env.scope scope own = true := by rfl) (hsub : ∀ j ∈ wr, j ∈ own.map (·.2) := by decide) (hs : ∀ x, foldedSetIterable iter X.env x = pure x := by exact fun _ => rfl) :
    JN X n W (κi + L * (κt + κe)) (.ListComp elt [⟨tg, iter, ifs, 0⟩] scope pos) (nLc L fi gd t f (own.map (·.2))) := jn_lc L hL2 C.calm C.nd hi (blkOk_by ok) hsub hg ht he hs
theorem slc (i : Nat) {y : Str} {py spos : Pos} {scope : Scope} (own : List (Str × Nat)) {wr : List Nat} {gd : DG} (L : Nat) (C : Cok X n W k) (hi : JI X n W κi tg iter fi)
    (hg : ∀ (s : Shared) (H : Hp) (CC : Addr) (cl : List (Str × Addr)) (fp : List Addr), JG (X.blk s H scope (compEnvC scope cl CC X.env) fp) n wr tg gd)
    (ht : ∀ (s : Shared) (H : Hp) (CC : Addr) (cl : List (Str × Addr)) (fp : List Addr), JTs (X.blk s H scope (compEnvC scope cl CC X.env) fp) n WF κt ifs t)
    (he : ∀ (s : Shared) (H : Hp) (CC : Addr) (cl : List (Str × Addr)) (fp : List Addr), JE (X.blk s H scope (compEnvC scope cl CC X.env) fp) n WF κe elt f)
    (hk : X.env.scope.kind = .function := by rfl) (hl : (py.line == pos.line) = true := by rfl) (hna : (scope.names.any fun (n, k) => n == y && (k == .local || k == .cell)) = false := by rfl)
    (hy : X.N[i]? = some y := by rfl) (hyl : X.env.scope.names.lookup y = some .local := by rfl)
    (hL2 : L ≤ 100000 := by decide) (ok : blkC X.N X.env.scope scope own = true := by rfl) (hsub : ∀ j ∈ wr, j ∈ own.map (·.2) := by decide) (hs : ∀ x, foldedSetIterable iter X.env x = pure x := by exact fun _ => rfl) (hpa : ∀ a, n.pa a := by exact fun _ => trivial) :
    JS X n W (κi + L * (κt + κe)) (.Assign [.Name y py] (.ListComp elt [⟨tg, iter, ifs, 0⟩] scope pos) spos) (gSetN i (nLc L fi gd t f (own.map (·.2)))) := js_setLc hpa L hL2 C.calm C.nd hy hyl (sw_true hk hyl hl hna) hi (blkOk_by ok) hsub hg ht he hs
theorem r1 {tg : Expr} {p : Pos} (hm : X.mg "range" = none) (ha : JAO X n W κ [a] fa) (hg : Gl X "range" := by rfl) (hs : starEach [a] X.env = [(false, eval a X.env)] := by rfl) : JI X n W κ tg (.Call (.Name "range" p) [a] [] pos) (iRg rg1 fa) := ji_range1 hg hm ha hs
theorem r2 {tg : Expr} {p : Pos} (hm : X.mg "range" = none) (ha : JAO X n W κ [a, b] fa) (hg : Gl X "range" := by rfl) (hs : starEach [a, b] X.env = [(false, eval a X.env), (false, eval b X.env)] := by rfl) (hs2 : starEach [b] X.env = [(false, eval b X.env)] := by rfl) : JI X n W κ tg (.Call (.Name "range" p) [a, b] [] pos) (iRg rg2 fa) := ji_range2 hg hm ha hs hs2
theorem sf {body : List Stmt} {gb : DS} {κb : Nat} {wr : List Nat} {gd : DG} (L : Nat) (B : Bok X n W k) (hi : JI X n W κi tg iter fi) (hg : JG X n wr tg gd) (hb : JB X n W κb body gb) (hs : ∀ x, foldedSetIterable iter X.env x = pure x := by exact fun _ => rfl) : JS X n W (κi + L * κb) (.For tg iter body [] pos) (gFor L fi gd gb) := js_for L B hi hg hb hs
theorem sr {x : Str} {p pos2 : Pos} {D fI : Addr} {CC : Addr} (cn : Nat) (C0 : Cok X n W k) (B : ErrBase X.prog X.K X.mg D fI) (hE : ∀ c, ErrCls X.K D fI (n.CT c)) (gC : X.mg x = some (.ref (n.CT cn))) (ha : JE X n W κ a f) (hg : Gl X x := by rfl)
    (hdb : (x == ("__debug__" : Str)) = false := by rfl) (he : starEach (a :: []) X.env = (false, eval a X.env) :: starEach [] X.env := by rfl) (hpl : (backTo pos (starEach [] X.env)).any (·.1) = false := by rfl) :
    JS X n W κ (.Raise (some (.Call (.Name x p) [a] [] pos)) none pos2) (gRaise cn f) := js_raise C0 B (hE cn) rfl gC ha hg hdb he hpl
theorem sap (i : Nat) {x : Str} {pos' p pa : Pos} (he : JE X n W κ e f) (hN : X.N[i]? = some x := by rfl) (hv : Vis X.env.scope x := by first | exact .inl rfl | exact .inr (.inl rfl) | exact .inr (.inr rfl)) (hd : (x == ("__debug__" : Str)) = false := by rfl) (hcd : (x == ("__classdict__" : Str)) = false := by rfl) 
    (hbase : attributeBase (.Name x p) "append" X.env (eval (.Name x p) X.env) = eval (.Name x p) X.env := by rfl)
    (hfew : ((backTo pos (starEach (e :: []) X.env)).all (fun x => !x.1) && (backToKw pos (keywordEach [] X.env)).all (fun x => x.1.isSome)
      && decide ((e :: ([] : List Expr)).length + ([] : List Keyword).length + (if ([] : List Keyword).isEmpty then 0 else 1) < 30)) = true := by rfl)
    (hline : (pa.endLine == pos.line) = true := by rfl) (hs : starEach (e :: []) X.env = (false, eval e X.env) :: starEach [] X.env := by rfl) (hplain : (backTo pos (starEach [] X.env)).any (·.1) = false := by rfl)
    (hsw : swapsWith (.Call (.Attribute (.Name x p) "append" pa) [e] [] pos) none pos'.line X.env = pure false := by rfl) :
    JS X n W κ (.Expr (.Call (.Attribute (.Name x p) "append" pa) [e] [] pos) pos') (gApp i f) := js_app hN hv hd hcd he hbase hfew hline hs hplain hsw
theorem st_ {body : List Stmt} {gb : DS} (i j : Nat) {x nm y : Str} {cv : Value} {np pos' p1 p2 p3 : Pos} (C : Cok X n W k) (hs : X.stack = X.env :: X.outer) (hf : X.env.frame = some X.env.locals) (hex : X.ex = []) (hm : X.mg x = some cv) (hX : ∀ c, PySem.W.exmOne X.K (.ref (n.CT c)) cv = some true)
    (hb : ∀ (W : WX) (pn : List (Addr × Obj)) (xe : Value → Shared → Prop), Cok (X.tr pn xe) n W k → Bok (X.tr pn xe) n W k → JB (X.tr pn xe) n W κ body gb) (hi : X.N[i]? = some nm := by rfl) (hln : X.env.kindOf nm = some .local := by rfl) (hj : X.N[j]? = some y := by rfl)
    (hly : X.env.kindOf y = some .local := by rfl) (hij : i ≠ j := by decide) (hnd : (nm == ("__debug__" : Str)) = false := by rfl) (hnc : (nm == ("__classdict__" : Str)) = false := by rfl) (hg : Gl X x := by rfl) (hdb : (x == ("__debug__" : Str)) = false := by rfl)
    (hsw : swapsWith (.Name nm p2) (some (.Name y p1)) p3.line X.env = pure false := by rfl) :
    JS X n W κ (.Try body [.ExceptHandler (some (.Name x np)) (some nm) [.Assign [.Name y p1] (.Name nm p2) p3] pos'] [] [] pos) (gTry i j gb) :=
  js_try hs hf hex C.nd hi hln hj hly hij hnd hnc ⟨hg, hdb, .inl hm⟩ C.tk hX (fun W pn xe tk po => hb W pn xe ⟨C.calm, tk, C.hr, C.hg, C.nd⟩ ⟨⟨C.calm, tk, C.hr, C.hg, C.nd⟩, po⟩) hsw

theorem six (i : Nat) {x : Str} {ei : Expr} {p ps : Pos} {fx : DE} (he : JE X n W κ e f) (hx : JE X n W κ' ei fx) (hN : X.N[i]? = some x := by rfl) (hv : Vis X.env.scope x := by first | exact .inl rfl | exact .inr (.inl rfl) | exact .inr (.inr rfl)) (hd : (x == ("__debug__" : Str)) = false := by rfl) (hcd : (x == ("__classdict__" : Str)) = false := by rfl)
    (hs : swapsWithSole [.Subscript (.Name x p) ei ps] e pos.line X.env = pure false := by rfl) (hw : swappedStores [.Subscript (.Name x p) ei ps] e X.env = pure none := by rfl) (h1 : (assignEach [.Subscript (.Name x p) ei ps] X.env).map (·.2) = [assign (.Subscript (.Name x p) ei ps) X.env] := by rfl)
    (ha : ∀ v, assign (.Subscript (.Name x p) ei ps) X.env v = (do
      let ov ← holding [v] (eval (.Name x p) X.env)
      let iv ← holding [v, ov] (eval ei X.env)
      standAt ps
      holding [v, ov, iv] (setItem ov iv v)
      release [v, ov, iv] []) := by exact fun _ => rfl) :
    JS X n W (κ + κ') (.Assign [.Subscript (.Name x p) ei ps] e pos) (gSetIx i fx f) := js_setIx (pos' := pos) hN hv hd hcd he hx hs hw h1 ha
theorem clk {G : Fn} {x : Str} {ps ks : List Str} {ff : Addr} {fd : FuncData} {p : Pos} {kws : List Keyword} {gg : List Value → List Value → List Value} {gV : List V → List V → List V} {gD : List DV → List DV → List DV}
    (F : DefG X.prog X.w X.K X.mg X.base x ps k ff fd (spD X.K n.CT κf G)) (C : Cok X n W k') (hk : k ≤ k') (hb : KBinds X.K fd ps ks gg gV) (hD : ∀ S vs xs zs ys, DvAll X.K n S vs xs → DvAll X.K n S zs ys → DvAll X.K n S (gV vs zs) (gD xs ys))
    (hkw : JK X n W κ' kws fk) (hg : Gl X x := by rfl) (hall : (backToKw pos (keywordEach kws X.env)).all (·.1.isSome) = true := by rfl)
    (hks : (backToKw pos (keywordEach kws X.env)).filterMap (·.1) = ks := by rfl) (hdb : (x == ("__debug__" : Str)) = false := by rfl) (hpl : (backToKw pos (keywordEach kws X.env)).any (·.1.isNone) = false := by rfl) :
    JE X n W (κ' + κf) (.Call (.Name x p) [] kws pos) (dCallK G gD aNil fk) := je_callK0 F C hk hb hD hkw hg hall hks hdb hpl
end
end Wb
/-! Wb9: the well made (a new list returned), the law's def, the law's end. -/
namespace Wb
open PySem PySem.Spec PyProof.Rows L2
/-- a body that returns a new list -/
def rdZ (K : Frag) (n : En) (κ : Nat) (g : List Sl → (List PD → Prop) → Prop) : TS := fun D σ H => ∃ m S ρ R, StOk K n (m + κ) S H σ ρ ∧ g ρ R ∧
  ∀ xs p vs S' H', R xs → Wd n.wl m S' H' → Post n.wl n.S0 n.H0 S' H' → n.H0 p = none → S' p = none → H' p = some (.lst vs) → DqAll K S' vs xs → D.rt (.ref p) H'
abbrev JZ (X : Cx) (n : En) (κ : Nat) (sts : List Stmt) (g : List Sl → (List PD → Prop) → Prop) : Prop := PSs X sts (rdZ X.K n κ g)
def zRet (fn : DN) : List Sl → (List PD → Prop) → Prop := fun ρ R => fn ρ R noE
def zSeq (a : DS) (b : List Sl → (List PD → Prop) → Prop) : List Sl → (List PD → Prop) → Prop := fun ρ R => a ⟨fun ρ' => b ρ' R, fun _ _ => False, fun _ => False, fun _ => False, fun _ _ _ => False⟩ ρ
section
variable {X : Cx} {n : En} {W : WX} {κ κ' k k' : Nat} {e : Expr} {es : List Expr} {pos : Pos} {st : Stmt} {sts : List Stmt} {fn : DN} {ga : DS} {gb : List Sl → (List PD → Prop) → Prop} {fa : DA}
theorem jz_ret (h : JN X n W κ e fn) : JZ X n κ [.Return (some e) pos] (zRet fn) := PSs.to (pss_one (ps_ret h)) fun D σ H ⟨m, S, ρ, R, st, hg, kR⟩ => by
  refine ⟨m, S, ρ, R, noE, st, hg, fun xs p vs S' H' hx st' po np sp hp d => kR xs p vs S' H' hx st'.wd st'.po ?_ sp hp d, fun c x cls dx S' H' z => z.elim⟩
  by_cases z : n.H0 p = none
  · exact z
  · exact absurd np (st.po.al p z)
theorem jz_cons (h1 : JS X n W κ st ga) (h2 : JZ X n κ' sts gb) : JZ X n (κ + κ') (st :: sts) (zSeq ga gb) := by
  refine PSs.to (pss_cons h1 h2) fun D σ H ⟨m, S, ρ, R, st, hg, kR⟩ => ?_
  exact ⟨m + κ', S, ρ, _, st_split st, hg, fun ρ1 σ1 S1 H1 h1 st1 s1 => ⟨m, S1, ρ1, R, st1, h1, kR⟩, fun _ _ _ _ _ _ z => z.elim, fun _ _ _ _ z => z.elim, fun _ _ _ _ z => z.elim, fun _ _ _ _ _ _ _ _ z => z.elim⟩
theorem jz_le {κa : Nat} (h : JZ X n κ sts gb) (hl : κ ≤ κa) : JZ X n κa sts gb := PSs.to h fun D σ H ⟨m, S, ρ, R, st, hg, k⟩ => ⟨m, S, ρ, R, st.le (by omega), hg, k⟩
end
/-- the promise of _law_well: of script and k a new list of three ints -/
def spW (K : Frag) (g : Nat → List Int → Int → Prop) : Sp := fun vs H Q _ => ∃ S p0 ns k, vs = [.ref p0, .int k] ∧ Same S H ∧ SqL K S p0 (ns.map V.int) ∧ g 0 ns k ∧
  ∀ p a b c S' H', Same S' H' → Post none S H S' H' → H p = none → S' p = none → H' p = some (.lst [.int a, .int b, .int c]) → WOk (2 ^ 60) a b c → Q (.ref p) H'
/-- what _law_well may be asked -/
def WellAsk : Nat → List Int → Int → Prop := fun _ ns k => 0 ≤ k ∧ k < 2 ^ 30 ∧ ns.length ≤ 100000 ∧ ∀ z ∈ ns, z.natAbs < 2 ^ 1100000
def WellLaw (nl : Nat) (g : List Sl → (List PD → Prop) → Prop) : Prop := ∀ (ns : List Int) (k : Int), WellAsk 0 ns k → g ([.v (.scr ns), .v (.d (.int k))] ++ List.replicate nl .no) fun xs => ∃ a b c : Int, xs = [.int a, .int b, .int c] ∧ WOk (2 ^ 60) a b c
structure DefW (P : Program) (w : World) (K : Frag) (mg : Str → Option Value) (base : Heap) (x : Str) (ps : List Str) (k : Nat) (f : Addr) (fd : FuncData) : Prop where
  fn : FnG P w K mg base k f fd ps (spW K WellAsk)
  mgx : mg x = some (.ref f)
  kp : PySem.W.keepIn K (.ref f) = true
  b : Binds K fd ps []
theorem defW_of {P : Program} {w : World} {K : Frag} {mg : Str → Option Value} {base : Heap} {k nl : Nat} {f : Addr} {fd : FuncData} {x qual : Str} {st : Stmt} {N ps : List Str} {CT : Nat → Addr} {g : List Sl → (List PD → Prop) → Prop} (F : Fun K x qual st f fd) (S : FnScope N ps (defScope st))
    (hmg : mg x = some (.ref f)) (hb : Binds K fd ps []) (h2 : ps.length = 2) (hl : N.length = 2 + nl) (law : WellLaw nl g)
    (body : ∀ (cdv : Value) (A : Around) (outer : List Env) (s : Shared) (H : Hp) (E : XK) (wl : Option Addr) (S0 : Hp), Bok (cxOf (L2.CX P w) P w K mg base N qual (defScope st) f cdv A outer s H E) (En.of CT wl S0 H) (WE E) k →
      JZ (cxOf (L2.CX P w) P w K mg base N qual (defScope st) f cdv A outer s H E) (En.of CT wl S0 H) 0 (defBody st) g) : DefW P w K mg base x ps (k + 1) f fd := by
  refine ⟨fnG_of F S (fun vs H Q E ⟨S, p0, ns, k, e, _⟩ => by rw [e, h2]; rfl) fun cdv A outer s H vs Q E hgd hr hsp => ?_, hmg, F.kp, hb⟩
  obtain ⟨S0, p0, ns, kk, rfl, sm, d1, hask, kR⟩ := hsp
  have nd := S.nd
  have wd : Wd none 0 S0 H := ⟨sm, fun q z => nomatch z⟩
  have da : DvAll K (En.of CT none S0 H) S0 [.ref p0, .int kk] [.scr ns, .d (.int kk)] := .cons ⟨p0, rfl, d1⟩ (.cons (.int kk) .nil)
  have tk := L2.takes_of (X := cxOf (L2.CX P w) P w K mg base N qual (defScope st) f cdv A outer s H E) (E := E) rfl rfl rfl rfl
  refine ⟨_, body cdv A outer s H E none S0 ⟨⟨rfl, tk, hr, hgd, nd⟩, L2.passes_of rfl⟩, 0, S0, _, _, start_st wd da (by rw [hl]; rfl), law ns kk hask, fun xs p vs S' H' hx w po h0 sp hp d => ?_⟩
  obtain ⟨a, b, c, rfl, hW⟩ := hx
  cases d with
  | cons u1 d =>
  cases d with
  | cons u2 d =>
  cases d with
  | cons u3 d =>
  cases d
  cases u1
  cases u2
  cases u3
  exact kR p a b c S' H' w.sm po h0 sp hp hW
section
variable {X : Cx} {n : En} {W : WX} {κ κ' k k' : Nat} {e : Expr} {es : List Expr} {pos : Pos} {st : Stmt} {sts : List Stmt} {fn : DN} {ga : DS} {fa : DA}
def nCallW (f : DA) : DN := fun ρ R E => f ρ (fun xs => ∃ ns k, xs = [.scr ns, .d (.int k)] ∧ WellAsk 0 ns k ∧ ∀ a b c, WOk (2 ^ 60) a b c → R [.int a, .int b, .int c]) E
theorem jn_callW {x : Str} {ps : List Str} {ff : Addr} {fd : FuncData} {p : Pos} (F : DefW X.prog X.w X.K X.mg X.base x ps k ff fd) (C : Cok X n W k') (hk : k ≤ k') (ha : JA X n W κ (e :: es) fa) (hg : Gl X x := by rfl)
    (hdb : (x == ("__debug__" : Str)) = false := by rfl) (he : starEach (e :: es) X.env = (false, eval e X.env) :: starEach es X.env := by rfl) (hpl : (backTo pos (starEach es X.env)).any (·.1) = false := by rfl) : JN X n W κ (.Call (.Name x p) (e :: es) [] pos) (nCallW fa) := by
  refine PE.to (pe_callG F.fn C.hg (C.hr.mono hk) C.tk hg F.mgx F.kp F.b ha hdb he hpl) fun σ H Q ⟨m, S, ρ, R, Er, st, hf, kR, kE⟩ => ⟨m, S, ρ, _, Er, st, hf, fun xs vs S1 H1 hx st1 p1 d1 => ?_, kE⟩
  obtain ⟨ns, kk, rfl, hask, hR⟩ := hx
  cases d1 with
  | cons u1 d1 =>
  cases d1 with
  | cons u2 d1 =>
  cases d1
  obtain ⟨p0, rfl, hq⟩ := u1
  cases u2
  refine ⟨S1, p0, ns, kk, rfl, st1.wd.sm, hq, hask, fun p a b c S' H' sm po hp sp hp' hW => ?_⟩
  have nH : H p = none := by
    cases q : H p with
    | none => rfl
    | some o => exact absurd hp (p1.al p (by rw [q]; exact Option.some_ne_none _))
  have wd' : Wd n.wl m S' H' := ⟨sm, fun q e => by
    obtain ⟨h1, a, b, c, h2, h3⟩ := st1.wd.we q e
    exact ⟨po.fr q (by rw [h2]; exact Option.some_ne_none _) h1, a, b, c, po.kp q _ h2 (fun z => nomatch z), h3⟩⟩
  exact kR _ p _ S' H' (hR a b c hW) (st1.step po.wk wd') (p1.trans po.wk) nH sp hp' (.cons (.int _) (.cons (.int _) (.cons (.int _) .nil)))
/-- if not f(well): return False, f always True -/
def gRight (κr i : Nat) : DS := fun D ρ => slOw ρ[i]? fun xs => ∃ a b c m, xs = [.int a, .int b, .int c] ∧ WOk (m + κr) a b c ∧ ∀ a b c, WOk m a b c → D.nx (ρ.set i (.own [.int a, .int b, .int c]))
/-- what f must be -/
def RightFn (G : Fn) : Prop := ∀ R : DV → Prop, R (.d (.bool true)) → G [.wel] R noE
theorem WOk.le {m m' : Nat} {a b c : Int} (h : WOk m a b c) (hl : m' ≤ m) : WOk m' a b c := by
  obtain ⟨h1, h2, h3, h4, h5, h6⟩ := h
  exact ⟨h1, h2, h3, h4, h5, by omega⟩
theorem StOk.callW {K : Frag} {m mm : Nat} {S H S' H' : Hp} {σ : L2.St} {ρ : List Sl} {i : Nat} {p : Addr} {xs : List PD} (s : StOk K n m S H σ ρ) (hi : ρ[i]? = some (.own xs)) (ep : σ[i]? = some (some (.ref p))) (po : Post (some p) S H S' H') (w : Wd (some p) mm S' H') :
    ∃ a b c, WOk mm a b c ∧ StOk K n m S' H' σ (ρ.set i (.own [.int a, .int b, .int c])) := by
  obtain ⟨A, h1, h2⟩ := s.sl
  obtain ⟨g1, g2, g3, g4, vs, g5, g6⟩ := h1 i _ hi
  rw [ep] at g1
  cases g1
  obtain ⟨sp, a, b, c, hp, hW⟩ := w.we _ rfl
  have hl : i < ρ.length := (List.getElem?_eq_some_iff.mp hi).1
  refine ⟨a, b, c, hW, ⟨w.sm, fun q e => ?_⟩, ⟨s.po.sS.trans po.sS, fun a ha sa => po.fr a (s.po.al a ha) (s.po.fr a ha sa), fun a o e wn => ?_, fun a ha => po.al a (s.po.al a ha)⟩, by rw [List.length_set]; exact s.len, A, fun j t e => ?_, fun j k ys' zs e1 e2 z => ?_⟩
  · obtain ⟨q1, a, b, c, q2, q3⟩ := s.wd.we q e
    have ne : q ≠ A i := fun z => g4 (by rw [← z]; exact e)
    exact ⟨po.fr q (by rw [q2]; exact Option.some_ne_none _) q1, a, b, c, po.kp q _ q2 (fun z => ne (Option.some.inj z).symm), q3⟩
  · have ne : a ≠ A i := fun z => by rw [z, g3.1] at e; cases e
    exact po.kp a o (s.po.kp a o e wn) (fun z => ne (Option.some.inj z).symm)
  · by_cases hj : i = j
    · subst hj
      rw [List.getElem?_set_self hl] at e
      cases e
      exact ⟨ep, sp, g3, g4, _, hp, .cons (.int _) (.cons (.int _) (.cons (.int _) .nil))⟩
    · rw [List.getElem?_set_ne hj] at e
      have q := h1 j t e
      cases t with
      | no => exact trivial
      | v x =>
        obtain ⟨v, q1, q2⟩ := q
        exact ⟨v, q1, dv_mono po.sS q2⟩
      | own zs =>
        obtain ⟨q1, q2, q3, q4, ws, q5, q6⟩ := q
        have ne : A j ≠ A i := fun z => hj (h2 j i zs xs e hi z).symm
        exact ⟨q1, po.fr (A j) (by rw [q5]; exact Option.some_ne_none _) q2, q3, q4, ws, po.kp (A j) _ q5 (fun z => ne (Option.some.inj z).symm), dqAll_mono po.sS q6⟩
  · have oo : ∀ k zs, (ρ.set i (Sl.own [.int a, .int b, .int c]))[k]? = some (Sl.own zs) → ∃ ws, ρ[k]? = some (Sl.own ws) := fun k zs e => by
      by_cases hk : i = k
      · subst hk; exact ⟨xs, hi⟩
      · rw [List.getElem?_set_ne hk] at e; exact ⟨zs, e⟩
    obtain ⟨_, f1⟩ := oo _ _ e1
    obtain ⟨_, f2⟩ := oo _ _ e2
    exact h2 j k _ _ f1 f2 z
/-- the well of slot i is lent to a call -/
theorem lend {G : Fn} {κr m i : Nat} {S H : Hp} {σ : L2.St} {ρ : List Sl} {D : Ends} {Dd : DEnds} (hG : RightFn G) (st : StOk X.K n m S H σ ρ) (hg : gRight κr i Dd ρ) (ks : KSt X.K n W m S D Dd) (E : XK) :
    ∃ p, σ[i]? = some (some (.ref p)) ∧ spD X.K n.CT κr G [.ref p] H (fun v H' => v = .bl true ∧ D.nx σ H') E := by
  obtain ⟨xs, hi, a, b, c, m2, rfl, hW, hR⟩ := slOw_of hg
  obtain ⟨A, h1, h2⟩ := st.sl
  obtain ⟨g1, g2, g3, g4, vs, g5, g6⟩ := h1 i _ hi
  cases g6 with
  | cons u1 g6 =>
  cases g6 with
  | cons u2 g6 =>
  cases g6 with
  | cons u3 g6 =>
  cases g6
  cases u1
  cases u2
  cases u3
  refine ⟨A i, g1, some (A i), m2, S, [.wel], fun x => x = .d (.bool true), noE, ⟨st.wd.sm, fun q e => ?_⟩, .cons ⟨A i, rfl, rfl⟩ .nil, hG _ rfl, fun x v S' H' hx w po dv => ?_, fun c x cls dx S' H' z => z.elim⟩
  · cases e
    exact ⟨g2, a, b, c, g5, hW⟩
  · subst hx
    cases dv
    obtain ⟨a', b', c', hW', st'⟩ := st.callW hi g1 po w
    exact ⟨rfl, ks.nx _ σ S' H' (hR a' b' c' hW') st' po.sS⟩
theorem js_right {G : Fn} {κr : Nat} (i : Nat) {x y : Str} {ps : List Str} {ff : Addr} {fd : FuncData} {p p2 p3 p4 p5 p6 : Pos} {j5 : Nat} (F : DefG X.prog X.w X.K X.mg X.base x ps k ff fd (spD X.K n.CT κr G)) (C : Cok X n W k') (hk : k ≤ k') (hG : RightFn G)
    (hg : Gl X x := by rfl) (hN : X.N[i]? = some y := by rfl) (hv : Vis X.env.scope y := by first | exact .inl rfl | exact .inr (.inl rfl) | exact .inr (.inr rfl)) (hd : (y == ("__debug__" : Str)) = false := by rfl) (hcd : (y == ("__classdict__" : Str)) = false := by rfl)
    (hdb : (x == ("__debug__" : Str)) = false := by rfl) (he : starEach (.Name y p2 :: []) X.env = (false, eval (.Name y p2) X.env) :: starEach [] X.env := by rfl) (hpl : (backTo p3 (starEach [] X.env)).any (·.1) = false := by rfl)
    (hw : ∀ whole, isTrue (.Call (.Name x p) [.Name y p2] [] p3) X.env whole = (do let v ← whole; standAt (Expr.Call (.Name x p) [.Name y p2] [] p3).pos; holding [v] (truthy v)) := by exact fun _ => rfl) :
    JS X n W 0 (.If (.UnaryOp .Not (.Call (.Name x p) [.Name y p2] [] p3) p4) [.Return (some (.Constant (.bool false) j5 p5)) p6] [] pos) (gRight κr i) := by
  refine PS.to (ps_if (pt_not (pt_val (pe_callG F.fn C.hg (C.hr.mono hk) C.tk hg F.mgx F.kp F.b (pa_cons (pe_var hN hv hd hcd) pa_nil he) hdb he hpl) hw)) (pss_one (ps_ret pe_bl)) pss_nil) fun D σ H ⟨m, S, ρ, Dd, st, hg, ks⟩ => ?_
  obtain ⟨q, e1, hs⟩ := lend hG st hg ks (fun cls d H' => W cls d σ H')
  refine ⟨_, e1, ?_⟩
  obtain ⟨wl, m, S, xs, R, Er, w, d, hg, kR, kE⟩ := hs
  exact ⟨wl, m, S, xs, R, Er, w, d, hg, fun x v S' H' hx w p dv => by
    obtain ⟨rfl, hnx⟩ := kR x v S' H' hx w p dv
    exact ⟨true, rfl, hnx⟩, kE⟩
end
/-! ### the law's end -/
/-- what law(script) must be -/
def LawFn (n : Nat) (G : Fn) : Prop := ∀ (ns : List Int) (R : DV → Prop), ns.length ≤ n → (∀ z ∈ ns, z.natAbs < 2 ^ 1100000) → R (.d (.bool true)) → G [.scr ns] R noE

/-- the one thing tracked at the law's entry: the script, unless it is the kit's own -/
def oneH (q : Addr) (u : HO) : Hp := fun b => if b = q then some u else none
def only1 (H : Hp) (q : Addr) (u : HO) : Prop := ∀ b v, H b = some v → b = q ∧ v = u
theorem oneH_only (q : Addr) (u : HO) : only1 (oneH q u) q u := fun b v e => by
  unfold oneH at e
  by_cases hb : b = q
  · rw [if_pos hb] at e; exact ⟨hb, (Option.some.inj e).symm⟩
  · rw [if_neg hb] at e; cases e
theorem law_end {P : Program} {w : World} {K : Frag} {mg mb : Str → Option Value} {k : Nat} {fa a : Addr} {fd : FuncData} {x : Str} {CT : Nat → Addr} {G : Fn} {t : Shared} {us : List Value} {ns : List Int} (kin : K.In t.heap) (gl : t.heap.Ns mainGlobals mg)
    (bl : t.heap.Ns builtinsNs mb) (bb : ∀ y : Str, y ≠ "__name__" → mb y = bootBuiltins y) (nl : t.heap.NoLimit) (gn : t.gens = #[]) (obj : t.heap.get? a = some { cls := .type "list", data := .seq us.toArray }) (ia : IntsAre us ns) (sz : ns.length ≤ sizeLine) (rm : Room k callerA)
    (F : ∀ base : Heap, K.In base → base.Ns mainGlobals mg → FnG P w K mg base k fa fd [x] (spD K CT 0 G)) (bind : ∀ (r : Shared) (u : Value), BindsTo r fd ⟨[u], []⟩ [(x, u)]) (hG : ∀ R : DV → Prop, R (.d (.bool true)) → G [.scr ns] R noE) :
    codeAny (model P w) callerA (.call (.ref fa) ⟨[.ref a], []⟩) (fun r t' => r = .ok (.ret (.bool true)) ∧ OldK t.heap t'.heap ∧ t'.os = t.os ∧ AllBare t'.gens) t := by
  have rel := vals_ints ia
  have go : ∀ (H : Hp) (u : HO), u = .frz { cls := .type "list", data := .seq us.toArray } (.lst (ns.map V.int)) → only1 H a u → (∀ v, H a = some v → K.lookup a = none) → SqL K H a (ns.map V.int) → HOk P w H t.heap →
      codeAny (model P w) callerA (.call (.ref fa) ⟨[.ref a], []⟩) (fun r t' => r = .ok (.ret (.bool true)) ∧ OldK t.heap t'.heap ∧ t'.os = t.os ∧ AllBare t'.gens) t := by
    intro H u hu on fr sq ok
    have away : ∀ {b : Addr} {ob : Obj}, t.heap.get? b = some ob → (∀ es ep, ob.data = .dict es ep → True) → (b = a → H a = none) → (hidT t.heap H).get? b = some ob := fun {b ob} e _ hb => hidT_get e (by
      cases q : H b with
      | none => rfl
      | some v =>
        obtain ⟨e1, _⟩ := on b v q
        rw [e1, hb e1] at q
        cases q)
    have names : ∀ {b : Addr} {m : Str → Option Value}, t.heap.Ns b m → (hidT t.heap H).Ns b m := fun {b m} z => by
      obtain ⟨ob, es, ep, e, dd, r⟩ := z
      refine ⟨ob, es, ep, away e (fun _ _ _ => trivial) (fun hb => ?_), dd, r⟩
      subst hb
      rw [obj] at e
      cases e
      have dd : Data.seq us.toArray _ = Data.dict es ep := dd
      cases dd
    have kin2 : K.In (hidT t.heap H) := fun b ob e => away (kin b ob e) (fun _ _ _ => trivial) fun hb => by
      cases q : H a with
      | none => rfl
      | some v =>
        subst hb
        rw [fr v q] at e
        cases e
    obtain ⟨mc, n1, n2⟩ := nl
    have en : Env0 P w K mg (hidT t.heap H) callerA [] t H := ⟨rfl, ⟨kin2, names gl, ⟨mb, names bl, bb⟩, mc, names n1, n2⟩, fun b ob e => of_hidT e, Nat.le_of_eq (hidT_size _ _), trivial, (fun b hb => nomatch (show b ∈ ([] : List Addr) from hb)), ok, .of_eq gn⟩
    have wd : Wd none 0 H H := ⟨Same.refl H, fun q e => nomatch e⟩
    refine codeAny_mono ((F _ kin2 (names gl)).run callerA [] t H ⟨[.ref a], []⟩ [.ref a] [.ref a] (fun v _ => v = .bl true) (fun _ _ _ => False) rfl rm en (bind t (.ref a)) (.cons rfl .nil)
      ⟨none, 0, H, [.scr ns], fun y => y = .d (.bool true), noE, wd, .cons ⟨a, rfl, sq⟩ .nil, hG _ rfl, fun y v S' H' hy _ _ dv => by subst hy; cases dv; rfl, fun _ _ _ _ _ _ z => z.elim⟩) fun r t' h => ?_
    match r, h with
    | .error e, h =>
      obtain ⟨_, _, _, _, _, _, _, _, _, _, _, _, z⟩ := h
      exact z.elim
    | .ok (.ret v), h =>
      obtain ⟨v', H', h1, h2, h3, h4, h5, h6⟩ := h
      have h6 : v' = .bl true := h6
      subst h6
      obtain rfl : v = Value.bool true := h5
      refine ⟨rfl, OldK.of_keep fun b ob e => ?_, h1, h2⟩
      cases q : H b with
      | none => exact h3.keep b ob e q (fun z => nomatch (show b ∈ ([] : List Addr) from z)) (fun z => nomatch z)
      | some v =>
        obtain ⟨rfl, rfl⟩ := on b v q
        subst hu
        rw [obj] at e
        cases e
        exact (h4 _ _ (h3.frzs _ _ _ q)).1
  cases inK : K.lookup a with
  | some ob =>
    have e := kin a ob inK
    rw [obj] at e
    cases e
    exact go (fun _ => none) _ rfl (fun b v z => nomatch z) (fun v z => nomatch z) (.inr ⟨_, us.toArray, _, inK, rfl, rfl, rfl, by rw [List.size_toArray, ia.length]; exact sz, by simpa using rel⟩) (fun b v z => nomatch z)
  | none =>
    refine go (oneH a _) _ rfl (oneH_only a _) (fun _ _ => inK) (.inl (.inr ⟨{ cls := .type "list", data := .seq us.toArray }, if_pos rfl⟩)) fun b v z => ?_
    obtain ⟨rfl, rfl⟩ := oneH_only a _ b v z
    exact ⟨obj, by rw [List.length_map]; exact sz, us, _, rel, obj⟩

theorem bits_lt {n : Int} (h : Builtin.Int.intBits n ≤ 1048576) : n.natAbs < 2 ^ 1100000 := by
  unfold Builtin.Int.intBits at h
  by_cases z : n = 0
  · subst z; exact Nat.pos_of_ne_zero (by simp)
  · have h0 : (n == 0) = false := by simpa using z
    rw [h0] at h
    have h : n.natAbs.log2 + 1 ≤ 1048576 := h
    have : n.natAbs < 2 ^ (n.natAbs.log2 + 1) := Nat.lt_log2_self
    exact Nat.lt_of_lt_of_le this (Nat.pow_le_pow_right (by decide) (by omega))
open PySem.W in
/-- the goal that the head leaves -/
theorem walk_end {l : OpenLaw} {n k : Nat} {q : Program} {loose : List Str} {XP : (Str → Option Value) → Heap → Prop} {YP : World → Heap → Prop} {d : DefRec} {K : Params → Frag} {x : Str} {G : Fn}
    (hn : l.most = some n) (hn2 : n ≤ 63) (hdf : d.params.defaults = []) (rm : Room k callerA) (hG : LawFn 63 G)
    (hY : ∀ (w : World) (h : Heap), YP w h → (K w.params).In h)
    (F : ∀ (w : World) (mg : Str → Option Value) (fa : Addr) (h : Heap), (K w.params).In h → h.Ns mainGlobals mg → mg d.name = some (.ref fa) →
      ∃ (fd : FuncData) (CT : Nat → Addr), (∀ (s : Shared) (u : Value), BindsTo s fd ⟨[u], []⟩ [(x, u)]) ∧ ∀ base : Heap, (K w.params).In base → base.Ns mainGlobals mg → FnG l.prog w (K w.params) mg base k fa fd [x] (spD (K w.params) CT 0 G)) :
    WalkO q loose XP YP l.row.toRowW d [] (fun f vs => PySem.call f vs) := by
  refine Att.attach_callB hn hdf fun w s₀ t mg mb fa o pm cd doc a us ns gr y ho hd hcd hmg hobj hints hlen hbits hg => ?_
  have kin := hY w _ y
  obtain ⟨fd, CT, bind, hF⟩ := F w mg fa _ kin gr.T.g hmg
  have h63 : (63 : Nat) ≤ sizeLine := by decide
  exact law_end kin gr.T.g gr.T.b gr.T.builtins gr.T.nolimit hg hobj hints (by omega) rm hF bind fun R hR => hG ns R (by omega) (fun z hz => bits_lt (hbits z hz)) hR
end Wb
/-! Wb10: plain lemmas about the words: comprehensions, loops; anew. -/
namespace Wb
open PySem PySem.Spec PyProof.Rows L2
/-- what anew does, to depth j -/
def okD : Nat → PD → Prop
  | 0, .list _ => False
  | 0, .tuple _ => False
  | j + 1, .list xs => xs.length ≤ 100000 ∧ ∀ y ∈ xs, okD j y
  | j + 1, .tuple xs => xs.length ≤ 100000 ∧ ∀ y ∈ xs, okD j y
  | _, _ => True
def anewFn (j : Nat) : Fn := fun xs R _ => ∃ x, xs = [.d x] ∧ okD j x ∧ R (.d x)
def anewG : Nat → Fn
  | 0 => fun _ _ _ => False
  | j + 1 => anewFn j
theorem lcD_of {gd : DG} {t : DT} {f : DE} {ρ : List Sl} {R : List PD → Prop} (h : PD → Option PD) : ∀ {xs : List PD}, (∀ x ∈ xs, ∀ P : Option PD → Prop, P (h x) → gd x ρ fun ρ1 => t ρ1 (fun b => if b = true then f ρ1 (fun y => onD y fun d => P (some d)) noE else P none) noE) → R (xs.filterMap h) → lcD gd t f ρ xs R
  | [], _, hR => hR
  | x :: xs, hb, hR => by
    unfold lcD
    have := hb x (by simp) (fun o => match o with
      | some d => lcD gd t f ρ xs fun ds => R (d :: ds)
      | none => lcD gd t f ρ xs R) (by
        cases q : h x with
        | none =>
          refine lcD_of h (fun y hy => hb y (by simp [hy])) ?_
          rw [List.filterMap_cons, q] at hR
          exact hR
        | some d =>
          refine lcD_of (R := fun ds => R (d :: ds)) h (fun y hy => hb y (by simp [hy])) ?_
          rw [List.filterMap_cons, q] at hR
          exact hR)
    exact this
/-- .. where the items are not told by a function -/
inductive Picks (r : PD → Option PD → Prop) : List PD → List PD → Prop
  | nil : Picks r [] []
  | skip {x : PD} {xs ys : List PD} : r x none → Picks r xs ys → Picks r (x :: xs) ys
  | take {x y : PD} {xs ys : List PD} : r x (some y) → Picks r xs ys → Picks r (x :: xs) (y :: ys)
theorem lcD_rel {gd : DG} {t : DT} {f : DE} {ρ : List Sl} (r : PD → Option PD → Prop) : ∀ {xs : List PD} {R : List PD → Prop}, (∀ x ∈ xs, ∀ P : Option PD → Prop, (∀ o, r x o → P o) → gd x ρ fun ρ1 => t ρ1 (fun b => if b = true then f ρ1 (fun y => onD y fun d => P (some d)) noE else P none) noE) →
    (∀ ys, Picks r xs ys → R ys) → lcD gd t f ρ xs R
  | [], _, _, hR => hR [] .nil
  | x :: xs, R, hb, hR => by
    unfold lcD
    exact hb x (by simp) (fun o => match o with
      | some d => lcD gd t f ρ xs fun ds => R (d :: ds)
      | none => lcD gd t f ρ xs R) fun o ho => by
        cases o with
        | none => exact lcD_rel r (fun y hy => hb y (by simp [hy])) fun ys hy => hR ys (.skip ho hy)
        | some d => exact lcD_rel r (fun y hy => hb y (by simp [hy])) fun ys hy => hR (d :: ys) (.take ho hy)
/-- a loop by an invariant -/
theorem loopD_inv {gd : DG} {b : DS} {D : DEnds} (I : List PD → List Sl → Prop) (hs : ∀ x xs ρ, I (x :: xs) ρ → gd x ρ fun ρ1 => b { D with nx := I xs, ct := I xs, bk := D.nx } ρ1) (he : ∀ ρ, I [] ρ → D.nx ρ)
    (mono : ∀ (P Q : List Sl → Prop) x ρ, (∀ ρ, P ρ → Q ρ) → (gd x ρ fun ρ1 => b { D with nx := P, ct := P, bk := D.nx } ρ1) → gd x ρ fun ρ1 => b { D with nx := Q, ct := Q, bk := D.nx } ρ1) : ∀ {xs : List PD} {ρ : List Sl}, I xs ρ → loopD gd b D xs ρ
  | [], ρ, h => he ρ h
  | x :: xs, ρ, h => mono _ _ x ρ (fun ρ h => loopD_inv I hs he mono h) (hs x xs ρ h)

section
variable {x y : PD} {xs ys : List PD} {i j : Int} {b c : Bool} {a a2 : Str} {R : DV → Prop} {P : PD → Prop} {Pb : Bool → Prop} {Pi : Int → Prop} {Pv : DV → Prop} {Pl : List PD → Prop} {C : Int → Int → Prop} {ff : Int → Int → PD} {v : DV} {vs : List DV} {T : String} {ns : List Int}
theorem e_onD : onD (.d x) P = P x := rfl
theorem e_onB : onB (.d (.bool b)) Pb = Pb b := rfl
theorem e_onI : onI' (.d (.int i)) Pi = Pi i := rfl
theorem e_slV : slV (some (.v v)) Pv = Pv v := rfl
theorem e_slO : slO (some (.v v)) Pv = Pv v := rfl
theorem e_slOo : slO (some (.own xs)) Pv = Pv (.d (.list xs)) := rfl
theorem e_slOw : slOw (some (.own xs)) Pl = Pl xs := rfl
theorem e_gI : gI C ff (.d (.int i)) (.d (.int j)) R = (C i j ∧ R (.d (ff i j))) := rfl
theorem e_gI0 : gI0 ff (.d (.int i)) (.d (.int j)) R = R (.d (ff i j)) := rfl
theorem e_add : gAdd (.d (.int i)) (.d (.int j)) R = R (.d (.int (i + j))) := rfl
theorem e_mul : gMul (.d (.int i)) (.d (.int j)) R = (MulOk i j ∧ R (.d (.int (i * j)))) := rfl
theorem e_mulL : gMul (.d (.list xs)) (.d (.int i)) R = ((0 ≤ i ∧ i ≤ 100000) ∧ xs.length * i.toNat ≤ 100000 ∧ R (.d (.list (List.replicate i.toNat xs).flatten))) := rfl
theorem e_neg : gNeg (.d (.int i)) R = R (.d (.int (-i))) := rfl
theorem e_ixL : gIx (.d (.list xs)) (.d (.int i)) R = ∃ y, atI xs i = some y ∧ R (.d y) := rfl
theorem e_ixT : gIx (.d (.tuple xs)) (.d (.int i)) R = ∃ y, atI xs i = some y ∧ R (.d y) := rfl
theorem e_ixS : gIx (.scr ns) (.d (.int i)) R = ∃ y, atI ns i = some y ∧ R (.d (.int y)) := rfl
theorem e_isi : gIsi T (.d x) R = R (.d (.bool (subTy (tyD x) T))) := rfl
theorem e_isN : gIsN (.d .none) R = R (.d (.bool true)) := rfl
theorem e_notN : gNotN (.d .none) R = R (.d (.bool false)) := rfl
theorem e_isNi : gIsN (.d (.int i)) R = R (.d (.bool false)) := rfl
theorem e_isNb : gIsN (.d (.bool b)) R = R (.d (.bool false)) := rfl
theorem e_isNl : gIsN (.d (.list xs)) R = R (.d (.bool false)) := rfl
theorem e_isNt : gIsN (.d (.tuple xs)) R = R (.d (.bool false)) := rfl
theorem e_isNs : gIsN (.d (.str a)) R = R (.d (.bool false)) := rfl
theorem e_isNe {k : Nat} : gIsN (.exc k x) R = R (.d (.bool false)) := rfl
theorem e_lenL : bLen [.d (.list xs)] R = R (.d (.int xs.length)) := rfl
theorem e_lenT : bLen [.d (.tuple xs)] R = R (.d (.int xs.length)) := rfl
theorem e_lenS : bLen [.scr ns] R = R (.d (.int ns.length)) := rfl
theorem e_abs : bAbs [.d (.int i)] R = R (.d (.int (i.natAbs : Nat))) := rfl
theorem e_int : bInt [.d (.int i)] R = R (.d (.int i)) := rfl
theorem e_intB : bInt [.d (.bool b)] R = R (.d (.int (if b then 1 else 0))) := rfl
theorem e_max : bMax2 [.d (.int i), .d (.int j)] R = R (.d (.int (if j > i then j else i))) := rfl
theorem e_min : bMin2 [.d (.int i), .d (.int j)] R = R (.d (.int (if j < i then j else i))) := rfl
theorem e_gcd : bGcd [.d (.int i), .d (.int j)] R = R (.d (.int ((Nat.gcd i.natAbs j.natAbs : Nat) : Int))) := rfl
theorem e_tupL : bTuple [.d (.list xs)] R = R (.d (.tuple xs)) := rfl
theorem e_tupT : bTuple [.d (.tuple xs)] R = R (.d (.tuple xs)) := rfl
theorem e_repr : bRepr [.d x] R = (ROk x ∧ R (.d (.str x.shown))) := rfl
theorem e_sum : bSum [.d (.list xs)] R = ∃ ns, asInts xs = some ns ∧ R (.d (.int ns.sum)) := rfl
theorem e_all : bAll [.d (.list xs)] R = ∃ bs, asBools xs = some bs ∧ R (.d (.bool (bs.all id))) := rfl
theorem e_any : bAny [.d (.list xs)] R = ∃ bs, asBools xs = some bs ∧ R (.d (.bool (bs.any id))) := rfl
theorem e_allN : allD [] Pl = Pl [] := rfl
theorem e_allC : allD (.d x :: vs) Pl = allD vs fun xs => Pl (x :: xs) := rfl
theorem e_seqL : seqD (.d (.list xs)) Pl = Pl xs := rfl
theorem e_seqT : seqD (.d (.tuple xs)) Pl = Pl xs := rfl
theorem e_seqS : seqD (.scr ns) Pl = Pl (ns.map .int) := rfl
theorem e_rg1 : rg1 [.d (.int j)] Pl = (RgB j ∧ Pl (rngD 0 j)) := rfl
theorem e_rg2 : rg2 [.d (.int i), .d (.int j)] Pl = ((RgB i ∧ RgB j) ∧ Pl (rngD i j)) := rfl
theorem e_excN {k : Nat} {sub : Nat → Nat → Bool} : gIsE k sub (.d .none) R = R (.d (.bool false)) := rfl
theorem e_excE {k m : Nat} {sub : Nat → Nat → Bool} : gIsE k sub (.exc m x) R = R (.d (.bool (sub m k))) := rfl
theorem e_val {k : Nat} : gVal (.exc k x) R = R (.d x) := rfl
theorem e_at0 {α : Type} {a : α} {l : List α} : atI (a :: l) 0 = some a := by
  unfold atI ixN; simp
theorem e_at1 {α : Type} {a b : α} {l : List α} : atI (a :: b :: l) 1 = some b := by
  unfold atI ixN; simp [show (1 : Int) < (l.length : Int) + 1 + 1 by omega]
theorem e_at2 {α : Type} {a b c : α} {l : List α} : atI (a :: b :: c :: l) 2 = some c := by
  unfold atI ixN; simp [show (2 : Int) < (l.length : Int) + 1 + 1 + 1 by omega]
theorem e_get0 {α : Type} {a : α} {l : List α} : (a :: l)[0]? = some a := rfl
theorem e_get1 {α : Type} {a b : α} {l : List α} : (a :: b :: l)[1]? = some b := rfl
theorem e_get2 {α : Type} {a b c : α} {l : List α} : (a :: b :: c :: l)[2]? = some c := rfl
theorem e_get3 {α : Type} {a b c d : α} {l : List α} : (a :: b :: c :: d :: l)[3]? = some d := rfl
theorem e_get4 {α : Type} {a b c d e : α} {l : List α} : (a :: b :: c :: d :: e :: l)[4]? = some e := rfl
theorem e_get5 {α : Type} {a b c d e f : α} {l : List α} : (a :: b :: c :: d :: e :: f :: l)[5]? = some f := rfl
theorem e_get6 {α : Type} {a b c d e f g : α} {l : List α} : (a :: b :: c :: d :: e :: f :: g :: l)[6]? = some g := rfl
theorem e_get7 {α : Type} {a b c d e f g h : α} {l : List α} : (a :: b :: c :: d :: e :: f :: g :: h :: l)[7]? = some h := rfl
theorem e_set0 {α : Type} {a z : α} {l : List α} : (a :: l).set 0 z = z :: l := rfl
theorem e_set1 {α : Type} {a b z : α} {l : List α} : (a :: b :: l).set 1 z = a :: z :: l := rfl
theorem e_set2 {α : Type} {a b c z : α} {l : List α} : (a :: b :: c :: l).set 2 z = a :: b :: z :: l := rfl
theorem e_set3 {α : Type} {a b c d z : α} {l : List α} : (a :: b :: c :: d :: l).set 3 z = a :: b :: c :: z :: l := rfl
theorem e_set4 {α : Type} {a b c d e z : α} {l : List α} : (a :: b :: c :: d :: e :: l).set 4 z = a :: b :: c :: d :: z :: l := rfl
theorem e_set5 {α : Type} {a b c d e f z : α} {l : List α} : (a :: b :: c :: d :: e :: f :: l).set 5 z = a :: b :: c :: d :: e :: z :: l := rfl
theorem e_set6 {α : Type} {a b c d e f g z : α} {l : List α} : (a :: b :: c :: d :: e :: f :: g :: l).set 6 z = a :: b :: c :: d :: e :: f :: z :: l := rfl
theorem e_set7 {α : Type} {a b c d e f g h z : α} {l : List α} : (a :: b :: c :: d :: e :: f :: g :: h :: l).set 7 z = a :: b :: c :: d :: e :: f :: g :: z :: l := rfl
theorem e_ex {α : Type} {a : α} {Q : α → Prop} : (∃ y, some a = some y ∧ Q y) = Q a := by
  apply propext
  exact ⟨fun ⟨y, e, q⟩ => by cases e; exact q, fun q => ⟨a, rfl, q⟩⟩
theorem e_ixn0 {α : Type} {a : α} {l : List α} : ixN (a :: l).length 0 = some 0 := by unfold ixN; simp
theorem e_ixn1 {α : Type} {a b : α} {l : List α} : ixN (a :: b :: l).length 1 = some 1 := by unfold ixN; simp [show (1 : Int) < (l.length : Int) + 1 + 1 by omega]
theorem e_ixn2 {α : Type} {a b c : α} {l : List α} : ixN (a :: b :: c :: l).length 2 = some 2 := by unfold ixN; simp [show (2 : Int) < (l.length : Int) + 1 + 1 + 1 by omega]
/-- i has at most a bits -/
def MB (a : Nat) (i : Int) : Prop := i.natAbs < 2 ^ a
theorem MB.le {a b : Nat} {i : Int} (h : MB a i) (l : a ≤ b) : MB b i := Nat.lt_of_lt_of_le h (Nat.pow_le_pow_right (by decide) l)
theorem MB.mul {a b : Nat} {i j : Int} (h : MB a i) (k : MB b j) : MB (a + b) (i * j) := by
  unfold MB at *
  rw [Int.natAbs_mul, Nat.pow_add]
  exact Nat.mul_lt_mul'' h k
theorem MB.add {a : Nat} {i j : Int} (h : MB a i) (k : MB a j) : MB (a + 1) (i + j) := by
  unfold MB at *
  have := Int.natAbs_add_le i j
  rw [Nat.pow_succ]
  omega
theorem MB.ok {a b : Nat} {i j : Int} (h : MB a i) (k : MB b j) (l : a + b ≤ 134217728) : MulOk i j := ⟨a, b, h, k, l⟩
theorem MB.of {a : Nat} {i : Int} (h0 : 0 ≤ i) (h : i < (2 : Int) ^ a) : MB a i := by
  unfold MB
  have e : ((2 ^ a : Nat) : Int) = (2 : Int) ^ a := by norm_cast
  omega
theorem fmod_nn {i j : Int} (h : 0 < j) : 0 ≤ i.fmod j := Int.fmod_nonneg_of_pos i h
theorem fmod_lt {i j : Int} (h : 0 < j) : i.fmod j < j := Int.fmod_lt_of_pos i h
theorem fdivOk {i j : Int} (h : 0 < j) (l : j < 2 ^ 60) : FdivOk i j := ⟨by omega, Nat.lt_of_lt_of_le (show j.natAbs < 2 ^ 60 by omega) (Nat.pow_le_pow_right (by decide) (by decide))⟩
theorem fdiv_nn {i j : Int} (h : 0 ≤ i) (k : 0 < j) : 0 ≤ i.fdiv j := Int.fdiv_nonneg h (by omega)
theorem fdiv_le {i j : Int} (h : 0 ≤ i) (k : 0 < j) : i.fdiv j ≤ i := by
  rw [Int.fdiv_eq_ediv_of_nonneg _ (by omega)]
  exact Int.ediv_le_self _ h
theorem ixN0 {n : Nat} (h : 0 < n) : ixN n 0 = some 0 := by unfold ixN; simp [h]
theorem mulOk {i j : Int} (a b : Nat) (h1 : i.natAbs < 2 ^ a) (h2 : j.natAbs < 2 ^ b) (h : a + b ≤ 134217728) : MulOk i j := ⟨a, b, h1, h2, h⟩
end
end Wb
/-! Wb11: walks over zip and enumerate of lists and tuples, mixed. -/
namespace Wb
open PySem PySem.Spec PyProof.Rows L2
/-- an iterator that gives out tuples, as a walk of ours -/
theorem turn_w {P : Program} {w : World} {K : Frag} {elts : List Expr} {kk : Nat} {tpos : Pos} {J : It} {fp : List Addr} {it : Addr} {tn : Nat → Heap → Prop} (mem : it ∈ fp)
    (obj : ∀ i h, tn i h → ∀ b ∈ fp, ∃ o, h.get? b = some o ∧ ∀ v, o.data ≠ .cell v)
    (keep : ∀ i h h', tn i h → (∀ b ∈ fp, ∀ o, h.get? b = some o → h'.get? b = some o) → tn i h')
    (step : ∀ (X : Cx), X.prog = P → X.w = w → X.K = K → X.calm = true → ∀ (i : Nat) (pins : List (Addr × Obj)) (s : Shared) (σ : L2.St) (H : Hp), Inv X pins σ H s → tn i s.heap → (J.go i H ∨ J.stop i H) →
      ∃ n fpW wr Pt St Mid, WalksT P w X.A it fpW wr n Pt St Mid ∧ (∀ b ∈ wr, b ∈ fp) ∧ St i s.heap ∧ (J.go i H → i < n) ∧ (J.stop i H → i = n) ∧ (∀ h', St (i + 1) h' → tn (i + 1) h') ∧
        (∀ vals, J.go i H → Pt i vals → ∃ xs, Vals xs vals.toList ∧ xs.length ≤ sizeLine ∧ ∀ T, H T = none → J.yld i H (.ref T) (upd H T (.tup xs))))
    (self : ∀ (A : Around) (i : Nat) (s : Shared) (Q : Value → Shared → Prop) (E : Value → Shared → Prop), tn i s.heap → Q (.ref it) s → wpAny (model P w) A (pyIter (.ref it)) Q E s) :
    Turn P w K (.Tuple elts kk tpos) J fp it tn where
  mem := mem
  obj := obj
  keep := keep
  item := by
    intro X hP hw hK hc i pins s σ H E I hf st hg
    obtain ⟨n, fpW, wr, Pt, St, Mid, W, hwr, hst, hgo, _, hback, hval⟩ := step X hP hw hK hc i pins s σ H I st (.inl hg)
    refine W.item i s _ _ (hgo hg) hst fun T vals h' tk hp hT hTup hMid hk => ⟨_, rfl, ?_⟩
    refine W.go elts kk tpos i T { s with heap := h', toks := tk } _ _ hMid fun h2 hst2 hk2 => ?_
    obtain ⟨xs, rv, hsz, hy⟩ := hval vals hg hp
    have Twr : T ∉ wr := W.apart _ _ _ hMid
    obtain ⟨o, ho, hcl, n', hd⟩ := hTup
    have hT2 : IsTup h2 T vals.toList.toArray := ⟨o, hk2 T o Twr ho, hcl, n', by rw [hd]⟩
    subst hP hw hK
    have hn : H T = none := I.hok.fresh hT
    have I1 : Inv X pins σ (upd H T (.tup xs)) { s with heap := h2, toks := tk } :=
      I.turnedNew (ch := wr) (fun b o hb e => hk2 b o hb (hk b o hb e)) (fun b hb => hf b (hwr b hb)) hT ⟨hsz, vals.toList, rv, hT2⟩
    refine ⟨.ref T, _, I1, rfl, hy T hn, hback h2 hst2, fun b hb => ?_⟩
    obtain ⟨ob, hob, _⟩ := obj i s.heap st b hb
    have hlt : b < s.heap.objs.size := Heap.lt_size hob
    have hle : s.heap.objs.size ≤ T := hT
    have : b ≠ T := fun z => by
      have z1 : b < b := Nat.lt_of_lt_of_le hlt (z ▸ hle)
      exact Nat.lt_irrefl _ z1
    rw [upd_ne this]
    exact (hf b hb).1
  done := by
    intro X hP hw hK hc i pins s σ H E I hf st hg
    obtain ⟨n, fpW, wr, Pt, St, Mid, W, hwr, hst, _, hend, _, _⟩ := step X hP hw hK hc i pins s σ H I st (.inr hg)
    have e := hend hg
    subst e
    exact W.done s _ _ hst fun h' tk hk => ⟨rfl, I.turnedL (ch := wr) hk fun b hb => hf b (hwr b hb)⟩
  self := self

/-! ### lists and tuples, told by a kind -/
def SqX : Bool → Frag → Hp → Addr → List V → Prop
  | true, K, H, a, xs => SqL K H a xs
  | false, K, H, a, xs => SqT K H a xs
def ItrX (h : Heap) : Bool → Addr → Addr → Nat → Prop
  | true, it, l, i => h.IsListIter it l i
  | false, it, l, i => h.IsTupleIter it l i
def SeqX (h : Heap) : Bool → Addr → Array Value → Prop
  | true, l, xs => h.IsList l xs
  | false, l, xs => h.IsTuple l xs
def itO : Bool → Addr → Obj
  | true, l => { cls := .type "list_iterator", data := .fields #[.ref l, .int 0 0] }
  | false, l => { cls := .type "tuple_iterator", data := .fields #[.ref l, .int 0 0] }
theorem drawsX {prog : Program} {w : World} {A : Around} (hh : A.handled = none) (k : Bool) (it l : Addr) (hne : l ≠ it) (items : Array Value) :
    Draws prog w A it [it, l] items.size (fun i v => items[i]? = some v) (fun i h => ItrX h k it l i ∧ SeqX h k l items) := by
  cases k with
  | true => exact Draws.list hh it l hne items
  | false => exact Draws.tuple hh it l hne items
theorem beginsX (k : Bool) (l : Addr) (items : Array Value) : Begins (.ref l) (itO k l) fun h => SeqX h k l items := by
  cases k with
  | true => exact begins_list l items
  | false => exact begins_tuple l items
theorem seqX_of {X : Cx} {pins : List (Addr × Obj)} {σ : L2.St} {H : Hp} {s : Shared} {k : Bool} {a : Addr} {xs : List V} (I : Inv X pins σ H s) (h : SqX k X.K H a xs) :
    ∃ its : List Value, Vals xs its ∧ SeqX s.heap k a its.toArray ∧ xs.length ≤ sizeLine ∧ a < s.heap.objs.size := by
  cases k with
  | true =>
    obtain ⟨its, rv, p, hz⟩ := I.list h
    exact ⟨its, rv, p.isList, hz, p.lt⟩
  | false =>
    obtain ⟨its, rv, p, hz⟩ := I.tuple h
    obtain ⟨o, ho, _⟩ := id p
    exact ⟨its, rv, p, hz, Heap.lt_size ho⟩
theorem sqX_inj {X : Cx} {pins : List (Addr × Obj)} {σ : L2.St} {H : Hp} {s : Shared} {k : Bool} {a : Addr} {xs ys : List V} (I : Inv X pins σ H s) (h : SqX k X.K H a xs) (h' : SqX k X.K H a ys) : xs = ys := by
  cases k with
  | true => exact I.list_inj h h'
  | false => exact I.tuple_inj h h'
theorem itrX_at {h h' : Heap} {k : Bool} {it l : Addr} {i : Nat} (x : ItrX h k it l i) (e : ∀ o, h.get? it = some o → h'.get? it = some o) : ItrX h' k it l i := by
  cases k with
  | true => exact Heap.IsListIter.at x e
  | false => exact Heap.IsTupleIter.at x e
theorem itrX_obj {h : Heap} {k : Bool} {it l : Addr} {i : Nat} (x : ItrX h k it l i) : ∃ o, h.get? it = some o ∧ ∀ v, o.data ≠ .cell v := by
  cases k with
  | true =>
    obtain ⟨o, e, _, d⟩ := x
    exact ⟨o, e, fun v q => by rw [d] at q; cases q⟩
  | false =>
    obtain ⟨o, e, _, d⟩ := x
    exact ⟨o, e, fun v q => by rw [d] at q; cases q⟩
theorem itrX_new {h : Heap} {k : Bool} {it l : Addr} (e : h.get? it = some (itO k l)) : ItrX h k it l 0 := by
  cases k with
  | true => exact ⟨_, e, rfl, rfl⟩
  | false => exact ⟨_, e, rfl, rfl⟩
theorem sqX_same {K : Frag} {H H' : Hp} {k : Bool} {a : Addr} {xs : List V} (sm : Same H H') (h : SqX k K H a xs) : SqX k K H' a xs := by
  cases k with
  | true => exact sm.seq h
  | false => exact sqT_mono sm h

/-! ### zip -/
def ItzX (k1 k2 : Bool) (K : Frag) (a b : Addr) : It :=
  ⟨fun i H => ∃ xs ys, SqX k1 K H a xs ∧ SqX k2 K H b ys ∧ i < xs.length ∧ i < ys.length,
    fun i H v H' => ∃ T x y, v = .ref T ∧ H T = none ∧ H' = upd H T (.tup [x, y]) ∧ (∀ xs, SqX k1 K H a xs → xs[i]? = some x) ∧ ∀ ys, SqX k2 K H b ys → ys[i]? = some y,
    fun i H => ∃ xs ys, SqX k1 K H a xs ∧ SqX k2 K H b ys ∧ i = min xs.length ys.length⟩
theorem vget {xs : List V} {its : List Value} (rv : Vals xs its) : ∀ {i : Nat} {u : Value}, its[i]? = some u → ∃ x, xs[i]? = some x ∧ RelV x u := by
  induction rv with
  | nil => intro i u e; simp at e
  | cons h t ih =>
    intro i u e
    cases i with
    | zero => simp at e; subst e; exact ⟨_, rfl, h⟩
    | succ i => simpa using ih (by simpa using e)
theorem turn_zipX {P : Program} {w : World} {K : Frag} {elts : List Expr} {kk : Nat} {tpos : Pos} {k1 k2 : Bool} {a b z TI TO i1 i2 : Addr} (hz1 : ZipSep2 z TI TO i1 i2 [i1, a] [i2, b]) (ha : a ≠ i1) (hb : b ≠ i2) :
    Turn P w K (.Tuple elts kk tpos) (ItzX k1 k2 K a b) [z, TI, TO, i1, i2] z (fun i h => IsZip h z TI TO .none ∧ IsTupOf2 h TI (.ref i1) (.ref i2) ∧ (∃ x y, IsTupOf2 h TO x y) ∧ ItrX h k1 i1 a i ∧ ItrX h k2 i2 b i) := by
  refine turn_w (by simp) (fun i h st c hc => ?_) (fun i h h' st kp => ?_) (fun X hP hw hK hc i pins s σ H I st hgs => ?_) (fun A i s Q E st h => wpAny_pyIter_zip st.1 h)
  · obtain ⟨hz, hTI, ⟨x, y, hTO⟩, q1, q2⟩ := st
    have e' : c = z ∨ c = TI ∨ c = TO ∨ c = i1 ∨ c = i2 := by simpa using hc
    rcases e' with rfl | rfl | rfl | rfl | rfl
    · exact ⟨_, hz, fun v q => nomatch q⟩
    · exact ⟨_, hTI, fun v q => nomatch q⟩
    · exact ⟨_, hTO, fun v q => nomatch q⟩
    · exact itrX_obj q1
    · exact itrX_obj q2
  · obtain ⟨hz, hTI, ⟨x, y, hTO⟩, q1, q2⟩ := st
    exact ⟨kp z (by simp) _ hz, kp TI (by simp) _ hTI, ⟨x, y, kp TO (by simp) _ hTO⟩, itrX_at q1 (kp i1 (by simp)), itrX_at q2 (kp i2 (by simp))⟩
  · subst hP hw hK
    obtain ⟨hz, hTI, ⟨x, y, hTO⟩, q1, q2⟩ := st
    have both : ∃ xs ys, SqX k1 X.K H a xs ∧ SqX k2 X.K H b ys := by
      rcases hgs with ⟨xs, ys, h1, h2, _⟩ | ⟨xs, ys, h1, h2, _⟩ <;> exact ⟨xs, ys, h1, h2⟩
    obtain ⟨xs, ys, hx, hy⟩ := both
    obtain ⟨its, rv, p1, l1, _⟩ := seqX_of I hx
    obtain ⟨its2, rv2, p2, l2, _⟩ := seqX_of I hy
    have e1 := rv.length
    have e2 := rv2.length
    have hh : X.A.in1.handled = none := I.ok.hd hc
    refine ⟨_, _, _, _, _, _, WalksT.zipD2 hz1 (drawsX (prog := X.prog) (w := X.w) (A := X.A.in1) hh k1 i1 a ha its.toArray) (drawsX (prog := X.prog) (w := X.w) (A := X.A.in1) hh k2 i2 b hb its2.toArray), fun c hc => ?_, ⟨hz, hTI, ⟨x, y, hTO⟩, ⟨q1, p1⟩, ⟨q2, p2⟩⟩, fun hg => ?_, fun hs => ?_, fun h' st' => ?_, fun vals hg hp => ?_⟩
    · simp at hc ⊢
      rcases hc with h | h | h | h <;> simp [h]
    · obtain ⟨xs', ys', g1, g2, g3, g4⟩ := hg
      have := sqX_inj I hx g1
      have := sqX_inj I hy g2
      subst xs' ys'
      simp only [List.size_toArray]
      omega
    · obtain ⟨xs', ys', g1, g2, g3⟩ := hs
      have := sqX_inj I hx g1
      have := sqX_inj I hy g2
      subst xs' ys'
      simp only [List.size_toArray]
      omega
    · obtain ⟨r1, r2, r3, ⟨r4, _⟩, ⟨r5, _⟩⟩ := st'
      exact ⟨r1, r2, r3, r4, r5⟩
    · obtain ⟨x1, x2, y1, y2, rfl⟩ := hp
      obtain ⟨v1, e3, r1⟩ := vget rv (by simpa using y1)
      obtain ⟨v2, e4, r2⟩ := vget rv2 (by simpa using y2)
      refine ⟨[v1, v2], .cons r1 (.cons r2 .nil), by show 2 ≤ sizeLine; decide, fun T hT => ⟨T, v1, v2, rfl, hT, rfl, fun l hl => ?_, fun l hl => ?_⟩⟩
      · rw [sqX_inj I hl hx]; exact e3
      · rw [sqX_inj I hl hy]; exact e4
def iZipX (K : Frag) (ta : TA) : TI := fun σ H R => ta σ H fun vs H1 => ∃ a b xs ys k1 k2, vs = [.ref a, .ref b] ∧ SqX k1 K H1 a xs ∧ SqX k2 K H1 b ys ∧ R (ItzX k1 k2 K a b) H1
theorem pi_zipX {X : Cx} {e e2 : Expr} {ta : TA} {p pos tpos : Pos} {elts : List Expr} {kk : Nat} (hg : Gl X "zip") (hm : X.mg "zip" = none) (ha : PA X [e, e2] ta)
    (hs : starEach [e, e2] X.env = (false, eval e X.env) :: starEach [e2] X.env := by rfl) (hpl : (backTo pos (starEach [e2] X.env)).any (·.1) = false := by rfl) :
    PI X (.Tuple elts kk tpos) (.Call (.Name "zip" p) [e, e2] [] pos) (iZipX X.K ta) := by
  refine ⟨fun pins s σ H R I h => ?_⟩
  refine Call_ (ld_blt I hg hm PyProof.Rows.boot_zip (PyProof.Rows.callWith_type1 (thn (ha.run pos pins s σ H _ I h) fun us s1 ⟨vs, H1, I1, r1, q1⟩ => ?_) hs hpl))
  obtain ⟨a, b, xs, ys, k1, k2, rfl, hqx, hqy, q⟩ := q1
  cases r1 with
  | cons r rr =>
  cases rr with
  | cons r' rr =>
  cases rr
  cases r
  cases r'
  obtain ⟨its, rv, p1, _, la⟩ := seqX_of I1 hqx
  obtain ⟨its2, rv2, p2, _, lb⟩ := seqX_of I1 hqy
  refine zip_begins2 (beginsX k1 a its.toArray) (beginsX k2 b its2.toArray) p1 p2 fun h' hz hTI hTO h1 h2 hsz hk => wpAny_pyIter_zip hz ?_
  have I2 : Inv X pins σ H1 { s1 with heap := h' } := I1.kept (t' := s1.toks) hk
  have na : a ≠ s1.heap.objs.size := Nat.ne_of_lt la
  have nb : b ≠ s1.heap.objs.size + 1 := Nat.ne_of_lt (Nat.lt_succ_of_lt lb)
  refine ⟨_, _, _, _, H1, rfl, I2, turn_zipX (k1 := k1) (k2 := k2) (a := a) (b := b) (zip_sep2 (N := s1.heap.objs.size) (fp1 := [a]) (fp2 := [b]) (by simpa using la) (by simpa using lb)) na nb, ⟨hz, hTI, ⟨_, _, hTO⟩, itrX_new h1, itrX_new h2⟩, fun c hcm => ?_, q⟩
  have hle : s1.heap.objs.size ≤ c := by
    simp only [List.mem_cons, List.not_mem_nil, or_false] at hcm
    rcases hcm with z | z | z | z | z
    · rw [z]; exact Nat.le_add_right _ _
    · rw [z]; exact Nat.le_add_right _ _
    · rw [z]; exact Nat.le_add_right _ _
    · rw [z]; exact Nat.le_refl _
    · rw [z]; exact Nat.le_add_right _ _
  exact I1.fpOk hle (I1.hok.fresh hle)
end Wb
/-! Wb12: more rules: zip, slices, list(..), min and max of one, pairs of new lists, pop. -/
namespace Wb
open PySem PySem.Spec PyProof.Rows L2
section
variable {X : Cx} {n : En} {W : WX} {κ κ' κ2 κi κt κe κf k k' : Nat} {e a b c elt tg iter : Expr} {es ifs : List Expr} {pos : Pos} {f h g : DE} {fa fk : DA} {t u : DT} {fi fn fm : DN}

/-! ### zip -/
def zpD : List DV → (List PD → Prop) → Prop
  | [.d x, .d y], R => seqD (.d x) fun xs => seqD (.d y) fun ys => R (List.zipWith (fun a b => .tuple [a, b]) xs ys)
  | _, _ => False
def iZp (f : DA) : DN := fun ρ R E => f ρ (fun xs => zpD xs R) E
theorem seq_of {K : Frag} {n : En} {S H : Hp} {v : V} {x : PD} {R : List PD → Prop} (sm : Same S H) (d : RdOk K n S H v (.d x)) (h : seqD (.d x) R) : ∃ k a vs xs, v = .ref a ∧ SqX k K H a vs ∧ DqAll K S vs xs ∧ R xs ∧ (DvOk K n S v (.d x) → SqX k K S a vs) := by
  cases x with
  | list xs =>
    rcases d with d | ⟨q, vs, ys, rfl, e, hw, hq, hd⟩
    · cases d with
      | lst h1 h2 => exact ⟨true, _, _, _, rfl, SqL.of (sm _ _ h1), h2, h, fun _ => SqL.of h1⟩
    · cases e
      refine ⟨true, _, _, _, rfl, SqL.of hq, hd, h, fun d => ?_⟩
      cases d with
      | lst h1 h2 =>
        have e := sm _ _ h1
        rw [hq] at e
        cases e
        exact SqL.of h1
  | tuple xs =>
    rcases d with d | ⟨q, vs, ys, rfl, e, hw, hq, hd⟩
    · cases d with
      | tup h1 h2 => exact ⟨false, _, _, _, rfl, sqT_mono sm h1, h2, h, fun _ => h1⟩
    · cases e
  | _ => exact h.elim
theorem itd_zip {K : Frag} {S : Hp} {k1 k2 : Bool} {a b : Addr} {vs us : List V} {xs ys : List PD} (h1 : SqX k1 K S a vs) (h2 : SqX k2 K S b us) (d1 : DqAll K S vs xs) (d2 : DqAll K S us ys) :
    ItD K (ItzX k1 k2 K a b) (List.zipWith (fun a b => .tuple [a, b]) xs ys) S := by
  intro S' H' e1 e2
  have q1 := sqX_same e2 (sqX_same e1 h1)
  have q2 := sqX_same e2 (sqX_same e1 h2)
  have l1 := d1.len
  have l2 := d2.len
  refine ⟨fun i hi => ?_, fun i hi => ?_, fun i x H'' hi y => ?_⟩
  · rw [List.length_zipWith] at hi
    exact ⟨vs, us, q1, q2, by omega, by omega⟩
  · rw [List.length_zipWith] at hi
    exact ⟨vs, us, q1, q2, by rw [l1, l2]; exact hi⟩
  · obtain ⟨T, x1, y1, rfl, hT, rfl, g1, g2⟩ := y
    obtain ⟨p, hp, dp⟩ := d1.atV (g1 vs q1)
    obtain ⟨q, hq, dq⟩ := d2.atV (g2 us q2)
    have g := Grow.new (o := .tup [x1, y1]) e2 hT
    refine ⟨_, .tuple [p, q], g, ?_, dq_tup upd_same (.cons (dq_mono (e1.trans g.po.sS) dp) (.cons (dq_mono (e1.trans g.po.sS) dq) .nil))⟩
    rw [List.getElem?_zipWith, hp, hq]
theorem ji_zip {p tpos : Pos} {elts : List Expr} {kk : Nat} (hg : Gl X "zip") (hm : X.mg "zip" = none) (ha : JA X n W κ [a, b] fa) (hs : starEach [a, b] X.env = (false, eval a X.env) :: starEach [b] X.env := by rfl) (hpl : (backTo pos (starEach [b] X.env)).any (·.1) = false := by rfl) :
    JI X n W κ (.Tuple elts kk tpos) (.Call (.Name "zip" p) [a, b] [] pos) (iZp fa) := by
  refine PI.to (pi_zipX hg hm ha hs hpl) fun σ H Rr ⟨m, S, ρ, R, Er, st, hf, kR, kE⟩ => ⟨m, S, ρ, _, Er, st, hf, fun xs vs S1 H1 hx st1 p1 d1 => ?_, kE⟩
  match xs, d1, hx with
  | [.d x, .d y], .cons h1 (.cons h2 .nil), hr =>
    obtain ⟨k1, a1, vs1, xs1, rfl, q1, r1, hr, z1⟩ := seq_of st1.wd.sm (.inl h1) hr
    obtain ⟨k2, a2, vs2, xs2, rfl, q2, r2, hr, z2⟩ := seq_of st1.wd.sm (.inl h2) hr
    exact ⟨a1, a2, vs1, vs2, k1, k2, rfl, q1, q2, kR _ _ S1 H1 hr st1 p1 (itd_zip (z1 h1) (z2 h2) r1 r2)⟩

/-! ### slices -/
abbrev DP := List Sl → (Option Int → Prop) → EK → Prop
def rdP (K : Frag) (n : En) (W : WX) (κ : Nat) (f : DP) : TO := fun σ H Q => ∃ m S ρ R Er, StOk K n (m + κ) S H σ ρ ∧ f ρ R Er ∧
  (∀ o S' H', R o → StOk K n m S' H' σ ρ → Post n.wl S H S' H' → Q o H') ∧
  KErr K n W m S σ ρ Er
theorem PO.to {o : Option Expr} {t t' : TO} (h : PO X o t) (i : ∀ σ H Q, t' σ H Q → t σ H Q) : PO X o t' := ⟨fun pins s σ H Q I q => h.run pins s σ H Q I (i σ H Q q)⟩
abbrev JP (X : Cx) (n : En) (W : WX) (κ : Nat) (o : Option Expr) (f : DP) : Prop := PO X o (rdP X.K n W κ f)
def pNo : DP := fun _ R _ => R none
def pAt (f : DE) : DP := fun ρ R E => f ρ (fun x => onI' x fun i => R (some i)) E
theorem jp_no : JP X n W 0 none pNo := PO.to po_none fun σ H Q ⟨m, S, ρ, R, Er, st, hf, kR, _⟩ => kR none S H hf st Post.refl
theorem jp_at (he : JE X n W κ e f) : JP X n W κ (some e) (pAt f) := by
  refine PO.to (po_some he) fun σ H Q ⟨m, S, ρ, R, Er, st, hf, kR, kE⟩ => ⟨m, S, ρ, _, Er, st, hf, fun x v S1 H1 hx st1 p1 d1 => ?_, kE⟩
  obtain ⟨i, rfl, hx⟩ := onI_of hx
  cases d1
  exact ⟨i, rfl, kR _ S1 H1 hx st1 p1⟩
/-- the items of xs[lo:hi] -/
def cutL {α : Type} (xs : List α) (lo hi : Option Int) : List α := (xs.drop (HT.sIx xs.length 0 lo)).take (HT.sIx xs.length xs.length hi - HT.sIx xs.length 0 lo)
def gSl : DV → Option Int → Option Int → (DV → Prop) → Prop
  | .d (.tuple xs), l, u, R => R (.d (.tuple (cutL xs l u)))
  | .d (.list xs), l, u, R => R (.d (.list (cutL xs l u)))
  | _, _, _, _ => False
def dSl (f : DE) (pl pu : DP) : DE := fun ρ R E => f ρ (fun x => pl ρ (fun l => pu ρ (fun u => gSl x l u R) E) E) E
theorem cut_dq {K : Frag} {S : Hp} {vs : List V} {xs : List PD} (d : DqAll K S vs xs) (l u : Option Int) : DqAll K S (cutV vs l u) (cutL xs l u) := by
  unfold cutV cutL
  rw [d.len]
  exact (d.drop _).take _
theorem je_slice {lo hi : Option Expr} {pl pu : DP} {p2 : Pos} (he : JO X n W κ e f) (hl : JP X n W κ' lo pl) (hu : JP X n W κ2 hi pu) : JE X n W (κ + (κ' + κ2)) (.Subscript e (.Slice lo hi none p2) pos) (dSl f pl pu) := by
  refine PE.to (pe_slice (sl_tupA.or sl_list) he hl hu) fun σ H Q ⟨m, S, ρ, R, Er, st, hf, kR, kE⟩ => ?_
  refine ⟨m + (κ' + κ2), S, ρ, _, Er, st_split st, hf, fun x v S1 H1 hx st1 p1 d1 => ?_, fun c x cls dx S' H' e s' er => kE c x cls dx S' H' e (st_down s') er⟩
  refine ⟨m + κ2, S1, ρ, _, Er, st_split st1, hx, fun l S2 H2 hy st2 p2 => ?_, fun c x cls dx S' H' e s' er q => kE c x cls dx S' H' e (st_down s') er (p1.sS.trans q)⟩
  refine ⟨m, S2, ρ, _, Er, st2, hy, fun u S3 H3 hz st3 p3 => ?_, fun c x cls dx S' H' e s' er q => kE c x cls dx S' H' e s' er ((p1.sS.trans p2.sS).trans q)⟩
  have d3 := (d1.post p2).post p3
  match x, hz with
  | .d (.tuple xs), hr =>
    obtain ⟨p, vs, rfl, hp, hd⟩ := d3.tup
    refine .inl ⟨p, vs, rfl, sqT_mono st3.wd.sm hp, fun hw => ?_, fun hw q hq => ?_⟩
    · have e : cutL xs l u = xs := by
        unfold cutL
        rw [hd.len] at hw
        rw [hw.1, hw.2]
        simp
      have hr : R (.d (.tuple (cutL xs l u))) := hr
      rw [e] at hr
      exact kR _ _ S3 H3 hr st3 ((p1.trans p2).trans p3) (.tup hp hd)
    · have g := Grow.new (o := .tup (cutV vs l u)) st3.wd.sm hq
      exact kR _ _ _ _ hr (st3.grow g) (((p1.trans p2).trans p3).trans g.po.wk) (dq_tup upd_same (dqAll_mono g.po.sS (cut_dq hd l u)))
  | .d (.list xs), hr =>
    obtain ⟨p, vs, rfl, hp, hd⟩ := d3.items st3.wd.sm
    refine .inr ⟨p, vs, rfl, SqL.of hp, fun q hq => ?_⟩
    have g := Grow.new (o := .lst (cutV vs l u)) st3.wd.sm hq
    exact kR _ _ _ _ hr (st3.grow g) (((p1.trans p2).trans p3).trans g.po.wk) (dq_lst upd_same (dqAll_mono g.po.sS (cut_dq hd l u)))

/-! ### list(..) -/
def nOf (f : DA) : DN := fun ρ R E => f ρ (fun xs => match xs with
  | [x] => seqD x R
  | _ => False) E
theorem jn_of {p : Pos} (hg : Gl X "list") (hm : X.mg "list" = none) (ha : JAO X n W κ [a] fa) (he : starEach [a] X.env = (false, eval a X.env) :: starEach [] X.env) (hpl : (backTo pos (starEach [] X.env)).any (·.1) = false) :
    JN X n W κ (.Call (.Name "list" p) [a] [] pos) (nOf fa) := by
  refine PE.to (pe_callTy call_list_of hg hm b_list ha (by decide) (by decide) he hpl) fun σ H Q ⟨m, S, ρ, R, Er, st, hf, kR, kE⟩ => ⟨m, S, ρ, _, Er, st, hf, fun xs vs S1 H1 hx st1 p1 d1 => ?_, kE⟩
  have fin : ∀ (q : Addr) (ys : List V) (ds : List PD), (SqL X.K H1 q ys ∨ SqT X.K H1 q ys) → DqAll X.K S1 ys ds → R ds → vs = [.ref q] →
      ∃ p ys, vs = [.ref p] ∧ (SqL X.K H1 p ys ∨ SqT X.K H1 p ys) ∧ ∀ l, H1 l = none → Q (.ref l) (upd H1 l (.lst ys)) := by
    rintro q ys ds hq hd hr rfl
    refine ⟨q, ys, rfl, hq, fun l hl => ?_⟩
    have g := Grow.beside (o := .lst ys) st1.wd.sm hl
    have hp0 : H l = none := by
      cases z : H l with
      | none => rfl
      | some o => exact absurd hl (p1.al l (by rw [z]; exact Option.some_ne_none _))
    exact kR ds l ys _ _ hr (st1.grow g) (p1.trans g.po.wk) hp0 (st1.wd.sm.free hl) upd_same hd
  cases d1 with
  | nil => exact hx.elim
  | cons d1 t =>
    cases t with
    | cons _ _ => exact hx.elim
    | nil =>
      rename_i v x
      cases x with
      | exc _ _ => exact hx.elim
      | well o =>
        cases o with
        | none => exact hx.elim
        | some ns =>
          obtain ⟨q, rfl, hq⟩ := d1.scr st1.wd.sm
          exact fin q _ _ (.inl hq) (DqAll.ints ns) hx rfl
      | d x =>
        obtain ⟨k, q, ys, ds, rfl, hq, hd, hr, _⟩ := seq_of st1.wd.sm d1 hx
        cases k with
        | true => exact fin q ys ds (.inl hq) hd hr rfl
        | false => exact fin q ys ds (.inr hq) hd hr rfl
def RgL (i j : Int) : Prop := RgOk i j
def nRg1 (f : DE) : DN := fun ρ R E => f ρ (fun x => onI' x fun j => RgL 0 j ∧ R (rngD 0 j)) E
theorem rg_dq {K : Frag} {S : Hp} (i j : Int) : DqAll K S (rgV i j) (rngD i j) := by
  unfold rgV rngD
  have : ∀ l : List Nat, DqAll K S (l.map fun i' => V.int (i + (i' : Nat))) (l.map fun i' : Nat => PyData.int (i + (i' : Int))) := fun l => by
    induction l with
    | nil => exact .nil
    | cons x r ih => exact .cons (.int _) ih
  exact this _
theorem jn_listRg {p q rpos : Pos} (C : X.calm = true) (hg : Gl X "list") (hm : X.mg "list" = none) (hgr : Gl X "range") (hmr : X.mg "range" = none) (ha : JO X n W κ a f)
    (na : starEach [a] X.env = (false, eval a X.env) :: starEach [] X.env) (na2 : starEach [Expr.Call (.Name "range" q) [a] [] rpos] X.env = (false, eval (Expr.Call (.Name "range" q) [a] [] rpos) X.env) :: starEach [] X.env) :
    JN X n W κ (.Call (.Name "list" p) [.Call (.Name "range" q) [a] [] rpos] [] pos) (nRg1 f) := by
  refine PE.to (pe_listRg C hg hm (prg_1 hgr hmr ha na) na2) fun σ H Q ⟨m, S, ρ, R, Er, st, hf, kR, kE⟩ => ⟨m, S, ρ, _, Er, st, hf, fun x v S1 H1 hx st1 p1 d1 => ?_, kE⟩
  obtain ⟨j, rfl, hk, hr⟩ := onI_of hx
  have e := d1.int
  subst e
  refine ⟨j, rfl, hk, fun l hl => ?_⟩
  have g := Grow.beside (o := .lst (rgV 0 j)) st1.wd.sm hl
  have hp0 : H l = none := by
    cases z : H l with
    | none => rfl
    | some o => exact absurd hl (p1.al l (by rw [z]; exact Option.some_ne_none _))
  exact kR _ l _ _ _ hr (st1.grow g) (p1.trans g.po.wk) hp0 (st1.wd.sm.free hl) upd_same (rg_dq 0 j)

/-! ### min(x), max(x) of one list or tuple of ints -/
def seqInts : PD → Option (List Int)
  | .list xs => asInts xs
  | .tuple xs => asInts xs
  | _ => none
def bMax1 : List DV → (DV → Prop) → Prop
  | [.d x], R => ∃ ns, seqInts x = some ns ∧ ns ≠ [] ∧ ∀ m ∈ ns, (∀ y ∈ ns, y ≤ m) → R (.d (.int m))
  | _, _ => False
def bMin1 : List DV → (DV → Prop) → Prop
  | [.d x], R => ∃ ns, seqInts x = some ns ∧ ns ≠ [] ∧ ∀ m ∈ ns, (∀ y ∈ ns, m ≤ y) → R (.d (.int m))
  | _, _ => False
end
end Wb
/-! Wb13: min and max of one, unpacking, reversed, pairs of new lists, pop. -/
namespace Wb
open PySem PySem.Spec PyProof.Rows L2
open PySem.W (max_list_datum max_tuple_datum min_list_datum min_tuple_datum maxOf minOf DatumOrd Datum Holds HoldAll)
open RT (pi_revA ItvT)
section
variable {X : Cx} {n : En} {W : WX} {κ κ' κ2 κi κt κe κf k k' : Nat} {e a b c elt tg iter : Expr} {es ifs : List Expr} {pos : Pos} {f h g : DE} {fa fk : DA} {t u : DT} {fi fn fm : DN}

theorem holds_int_inv {h : Heap} {v : Value} {m : Int} (H : Holds h v m) : ∃ t, v = .int m t := by
  obtain ⟨as, r⟩ := H
  have r : Reads h v (.int m) as := r
  cases r
  exact ⟨_, rfl⟩
theorem maxOf_mem : ∀ (ns : List Int) (n : Int), maxOf n ns ∈ n :: ns ∧ ∀ y ∈ n :: ns, y ≤ maxOf n ns
  | [], n => ⟨by simp [maxOf], fun y hy => by simp [maxOf] at hy ⊢; omega⟩
  | x :: r, n => by
    have e : maxOf n (x :: r) = maxOf (if n < x then x else n) r := by
      unfold maxOf
      rw [List.foldl_cons]
      have : (DatumOrd.lt n x = true) = (n < x) := by
        show (decide (n < x) = true) = _
        simp
      simp only [this]
    rw [e]
    obtain ⟨h1, h2⟩ := maxOf_mem r (if n < x then x else n)
    have h3 := h2 (if n < x then x else n) (by simp)
    refine ⟨?_, fun y hy => ?_⟩
    · rcases List.mem_cons.mp h1 with h | h
      · rw [h]; split <;> simp
      · simp [h]
    · rcases List.mem_cons.mp hy with rfl | hy
      · exact Int.le_trans (by split <;> omega) h3
      · rcases List.mem_cons.mp hy with rfl | hy
        · exact Int.le_trans (by split <;> omega) h3
        · exact h2 y (by simp [hy])
theorem minOf_mem : ∀ (ns : List Int) (n : Int), minOf n ns ∈ n :: ns ∧ ∀ y ∈ n :: ns, minOf n ns ≤ y
  | [], n => ⟨by simp [minOf], fun y hy => by simp [minOf] at hy ⊢; omega⟩
  | x :: r, n => by
    have e : minOf n (x :: r) = minOf (if x < n then x else n) r := by
      unfold minOf
      rw [List.foldl_cons]
      have : (DatumOrd.lt x n = true) = (x < n) := by
        show (decide (x < n) = true) = _
        simp
      simp only [this]
    rw [e]
    obtain ⟨h1, h2⟩ := minOf_mem r (if x < n then x else n)
    have h3 := h2 (if x < n then x else n) (by simp)
    refine ⟨?_, fun y hy => ?_⟩
    · rcases List.mem_cons.mp h1 with h | h
      · rw [h]; split <;> simp
      · simp [h]
    · rcases List.mem_cons.mp hy with rfl | hy
      · exact Int.le_trans h3 (by split <;> omega)
      · rcases List.mem_cons.mp hy with rfl | hy
        · exact Int.le_trans h3 (by split <;> omega)
        · exact h2 y (by simp [hy])
def rMaxX (K : Frag) : List V → Hp → VK → Prop := fun vs H Q => ∃ (k : Bool) (a : Addr) (ns : List Int), vs = [V.ref a] ∧ SqX k K H a (ns.map V.int) ∧ ns ≠ [] ∧ ∀ m, m ∈ ns → (∀ y, y ∈ ns → y ≤ m) → Q (.int m) H
def rMinX (K : Frag) : List V → Hp → VK → Prop := fun vs H Q => ∃ (k : Bool) (a : Addr) (ns : List Int), vs = [V.ref a] ∧ SqX k K H a (ns.map V.int) ∧ ns ≠ [] ∧ ∀ m, m ∈ ns → (∀ y, y ∈ ns → m ≤ y) → Q (.int m) H
theorem cr_maxX (C : Cok X n W k) : CallR X (.builtin "max") (rMaxX X.K) := by
  intro pins s σ H vs us Q I r h
  obtain ⟨kk, a, ns, rfl, hs, hne, q⟩ := h
  rw [Vals.ref1 r]
  cases ns with
  | nil => exact absurd rfl hne
  | cons x rs =>
    have hu := C.hr.units
    have hh : X.A.handled = none := I.ok.hd C.calm
    obtain ⟨m1, m2⟩ := maxOf_mem rs x
    cases kk with
    | true =>
      obtain ⟨its, rv, hl, _⟩ := I.list hs
      refine max_list_datum (α := Int) (x := x) (xs := rs) hh hl.isList (HoldAll.of_ints (by simpa using rv.ints)) (by show X.A.units + 1 + 0 < cLine; omega) fun i v h' tk _ H1 hk => ?_
      obtain ⟨t, rfl⟩ := holds_int_inv H1
      exact ⟨.int _, H, I.kept hk, ⟨_, rfl⟩, q _ m1 m2⟩
    | false =>
      obtain ⟨its, rv, hl, _⟩ := I.tuple hs
      refine max_tuple_datum (α := Int) (x := x) (xs := rs) hh (show s.heap.IsTuple a its.toArray from hl) (HoldAll.of_ints (by simpa using rv.ints)) (by show X.A.units + 1 + 0 < cLine; omega) fun i v h' tk _ H1 hk => ?_
      obtain ⟨t, rfl⟩ := holds_int_inv H1
      exact ⟨.int _, H, I.kept hk, ⟨_, rfl⟩, q _ m1 m2⟩
theorem cr_minX (C : Cok X n W k) : CallR X (.builtin "min") (rMinX X.K) := by
  intro pins s σ H vs us Q I r h
  obtain ⟨kk, a, ns, rfl, hs, hne, q⟩ := h
  rw [Vals.ref1 r]
  cases ns with
  | nil => exact absurd rfl hne
  | cons x rs =>
    have hu := C.hr.units
    have hh : X.A.handled = none := I.ok.hd C.calm
    obtain ⟨m1, m2⟩ := minOf_mem rs x
    cases kk with
    | true =>
      obtain ⟨its, rv, hl, _⟩ := I.list hs
      refine min_list_datum (α := Int) (x := x) (xs := rs) hh hl.isList (HoldAll.of_ints (by simpa using rv.ints)) (by show X.A.units + 1 + 0 < cLine; omega) fun i v h' tk _ H1 hk => ?_
      obtain ⟨t, rfl⟩ := holds_int_inv H1
      exact ⟨.int _, H, I.kept hk, ⟨_, rfl⟩, q _ m1 m2⟩
    | false =>
      obtain ⟨its, rv, hl, _⟩ := I.tuple hs
      refine min_tuple_datum (α := Int) (x := x) (xs := rs) hh (show s.heap.IsTuple a its.toArray from hl) (HoldAll.of_ints (by simpa using rv.ints)) (by show X.A.units + 1 + 0 < cLine; omega) fun i v h' tk _ H1 hk => ?_
      obtain ⟨t, rfl⟩ := holds_int_inv H1
      exact ⟨.int _, H, I.kept hk, ⟨_, rfl⟩, q _ m1 m2⟩
theorem seqInts_of {K : Frag} {n : En} {S H : Hp} {v : V} {x : PD} {ns : List Int} (sm : Same S H) (d : RdOk K n S H v (.d x)) (h : seqInts x = some ns) : ∃ k a, v = .ref a ∧ SqX k K H a (ns.map V.int) := by
  have hs : ∃ xs, asInts xs = some ns ∧ seqD (.d x) (fun ys => ys = xs) := by
    cases x <;> first | exact ⟨_, h, rfl⟩ | cases h
  obtain ⟨xs, h1, h2⟩ := hs
  obtain ⟨k, a, vs, ys, rfl, q, hd, rfl, _⟩ := seq_of sm d h2
  rw [ints_of hd h1] at q
  exact ⟨k, a, rfl, q⟩
theorem caD_max1 {K : Frag} : CaD K (rMaxX K) bMax1 := by
  intro n S H xs vs R Q sm hx hg q
  match xs, hx, hg with
  | [.d x], .cons h .nil, ⟨ns, e, hne, hr⟩ =>
    obtain ⟨k, a, rfl, z⟩ := seqInts_of sm h e
    exact ⟨k, a, ns, rfl, z, hne, fun m h1 h2 => q _ _ _ _ (hr m h1 h2) (Grow.refl sm) (.int _)⟩
theorem caD_min1 {K : Frag} : CaD K (rMinX K) bMin1 := by
  intro n S H xs vs R Q sm hx hg q
  match xs, hx, hg with
  | [.d x], .cons h .nil, ⟨ns, e, hne, hr⟩ =>
    obtain ⟨k, a, rfl, z⟩ := seqInts_of sm h e
    exact ⟨k, a, ns, rfl, z, hne, fun m h1 h2 => q _ _ _ _ (hr m h1 h2) (Grow.refl sm) (.int _)⟩
theorem j_max1 (C : Cok X n W k) {p : Pos} (hm : X.mg "max" = none) (ha : JAO X n W κ [a] fa) (hg : Gl X "max" := by rfl) (he : starEach [a] X.env = (false, eval a X.env) :: starEach [] X.env := by rfl) (hpl : (backTo pos (starEach [] X.env)).any (·.1) = false := by rfl) :
    JE X n W κ (.Call (.Name "max" p) [a] [] pos) (dBi bMax1 fa) := je_bi (cr_maxX C) caD_max1 hg hm b_max ha (by decide) (by decide) he hpl
theorem j_min1 (C : Cok X n W k) {p : Pos} (hm : X.mg "min" = none) (ha : JAO X n W κ [a] fa) (hg : Gl X "min" := by rfl) (he : starEach [a] X.env = (false, eval a X.env) :: starEach [] X.env := by rfl) (hpl : (backTo pos (starEach [] X.env)).any (·.1) = false := by rfl) :
    JE X n W κ (.Call (.Name "min" p) [a] [] pos) (dBi bMin1 fa) := je_bi (cr_minX C) caD_min1 hg hm b_min ha (by decide) (by decide) he hpl

/-! ### (a, b, ..) = a list -/
def gTpL (g : DGs) : DG := fun x ρ R => match x with
  | .list xs => g xs ρ R
  | _ => False
theorem jg_lst {es : List Expr} {kk nn : Nat} {wr : List Nat} {g : DGs} (hc : X.calm = true) (h : JGs X n wr es g) (hn : (assignEach es X.env).length = nn) (hst : (assignEach es X.env).findIdx? (·.1) = none) (hlen : ∀ xs ρ R, g xs ρ R → xs.length = nn) :
    JG X n wr (.Tuple es kk pos) (gTpL g) := by
  refine PG.to (pg_unl hc h hn hst) fun v σ H Q ⟨m, S, ρ, x, R, st, d, hr, k⟩ => ?_
  cases d with
  | lst h1 h2 => exact ⟨_, _, rfl, SqL.of (st.wd.sm _ _ h1), by rw [h2.len]; exact hlen _ _ _ hr, m, S, ρ, _, R, st, h2, hr, k⟩
  | _ => exact hr.elim
theorem gtl {es : List Expr} {kk : Nat} {wr : List Nat} {g : DGs} (C : Cok X n W k) (nn : Nat) (h : JGs X n wr es g) (hlen : ∀ xs ρ R, g xs ρ R → xs.length = nn) (hn : (assignEach es X.env).length = nn := by rfl) (hst : (assignEach es X.env).findIdx? (·.1) = none := by rfl) : JG X n wr (.Tuple es kk pos) (gTpL g) := jg_lst C.calm h hn hst hlen

/-! ### reversed -/
def iRv (f : DE) : DN := fun ρ R E => f ρ (fun x => seqD x fun xs => R xs.reverse) E
theorem itd_rev {K : Frag} {S : Hp} {a : Addr} {vs : List V} {xs : List PD} (h : SqL K S a vs) (d : DqAll K S vs xs) : ItD K (Itv K a vs.length) xs.reverse S := by
  intro S' H' e1 e2
  have q : SqL K H' a vs := e2.seq (e1.seq h)
  have dl := d.len
  refine ⟨fun i hi => ?_, fun i hi => by rw [List.length_reverse] at hi; show vs.length ≤ i; omega, fun i x H'' hi y => ?_⟩
  · rw [List.length_reverse] at hi
    exact ⟨by omega, vs, vs[vs.length - 1 - i]'(by omega), q, by simp [show vs.length - 1 - i < vs.length by omega]⟩
  · rw [List.length_reverse] at hi
    obtain ⟨rfl, y⟩ := y
    obtain ⟨dd, h1, h2⟩ := d.atV (y vs q)
    refine ⟨S', dd, Grow.refl e2, ?_, dq_mono e1 h2⟩
    rw [List.getElem?_reverse hi, ← h1, dl]
theorem itd_revT {K : Frag} {S : Hp} {a : Addr} {vs : List V} {xs : List PD} (h : SqT K S a vs) (d : DqAll K S vs xs) : ItD K (ItvT K a vs.length) xs.reverse S := by
  intro S' H' e1 e2
  have q : SqT K H' a vs := sqT_mono e2 (sqT_mono e1 h)
  have dl := d.len
  refine ⟨fun i hi => ?_, fun i hi => by rw [List.length_reverse] at hi; show vs.length ≤ i; omega, fun i x H'' hi y => ?_⟩
  · rw [List.length_reverse] at hi
    exact ⟨by omega, vs, vs[vs.length - 1 - i]'(by omega), q, by simp [show vs.length - 1 - i < vs.length by omega]⟩
  · rw [List.length_reverse] at hi
    obtain ⟨rfl, y⟩ := y
    obtain ⟨dd, h1, h2⟩ := d.atV (y vs q)
    refine ⟨S', dd, Grow.refl e2, ?_, dq_mono e1 h2⟩
    rw [List.getElem?_reverse hi, ← h1, dl]
theorem ji_rev {tg : Expr} {p : Pos} (hm : X.mg "reversed" = none) (he : JE X n W κ e f) (hg : Gl X "reversed" := by rfl) (hs : starEach [e] X.env = (false, eval e X.env) :: starEach [] X.env := by rfl) : JI X n W κ tg (.Call (.Name "reversed" p) [e] [] pos) (iRv f) := by
  refine PI.to (pi_revA hg hm he hs) fun σ H Rr ⟨m, S, ρ, R, Er, st, hf, kR, kE⟩ => ⟨m, S, ρ, _, Er, st, hf, fun x v S1 H1 hx st1 p1 d1 => ?_, kE⟩
  match x, hx with
  | .well (some ns), hx =>
    obtain ⟨p, rfl, hp⟩ := d1
    exact ⟨_, _, rfl, .inl ⟨st1.wd.sm.seq hp, kR _ _ S1 H1 hx st1 p1 (itd_rev hp (DqAll.ints ns))⟩⟩
  | .d x, hx =>
    obtain ⟨k, a, vs, xs, rfl, q, r, hr, z⟩ := seq_of st1.wd.sm (.inl d1) hx
    cases k with
    | true => exact ⟨a, vs, rfl, .inl ⟨q, kR _ _ S1 H1 hr st1 p1 (itd_rev (z d1) r)⟩⟩
    | false => exact ⟨a, vs, rfl, .inr ⟨q, kR _ _ S1 H1 hr st1 p1 (itd_revT (z d1) r)⟩⟩

/-! ### two names, new lists among what they get -/
def gParNN (i j : Nat) (fa fb : DN) : DS := fun D ρ => fa ρ (fun xs => fb ρ (fun ys => D.nx ((ρ.set i (.own xs)).set j (.own ys))) (D.ex ρ)) (D.ex ρ)
def gParDN (i j : Nat) (fa : DE) (fb : DN) : DS := fun D ρ => fa ρ (fun x => fb ρ (fun ys => D.nx ((ρ.set i (.v x)).set j (.own ys))) (D.ex ρ)) (D.ex ρ)
def gParND (i j : Nat) (fa : DN) (fb : DE) : DS := fun D ρ => fa ρ (fun xs => fb ρ (fun y => D.nx ((ρ.set i (.own xs)).set j (.v y))) (D.ex ρ)) (D.ex ρ)
theorem wl_ne {K : Frag} {m : Nat} {S H : Hp} {σ : L2.St} {ρ : List Sl} {p : Addr} (s : StOk K n m S H σ ρ) (np : H p = none) : n.wl ≠ some p := fun z => by
  obtain ⟨_, a, b, c, hw, _⟩ := s.wd.we p z
  rw [np] at hw
  cases hw
section
variable {i j : Nat} {x y : Str} {px py pt : Pos} {kt k2 pt2 : _}
theorem js_parNN {kt k2 : Nat} {pt2 : Pos} (hpa : ∀ a, n.pa a) (hc : X.calm = true) (hN : X.N.Nodup) (hi : X.N[i]? = some x) (hj : X.N[j]? = some y) (hij : i ≠ j) (hx : X.env.scope.names.lookup x = some .local) (hy : X.env.scope.names.lookup y = some .local)
    (ha : JN X n W κ a fn) (hb : JN X n W κ' b fm) (hs1 : starEach [a, b] X.env = (false, eval a X.env) :: starEach [b] X.env) (hs2 : starEach [b] X.env = (false, eval b X.env) :: starEach [] X.env) (hw : swappedStores [.Tuple [.Name x px, .Name y py] kt pt] (.Tuple [a, b] k2 pt2) X.env = pure (some [x, y]))
    (hs : swapsWithSole [.Tuple [.Name x px, .Name y py] kt pt] (.Tuple [a, b] k2 pt2) pos.line X.env = pure false) : JS X n W (κ + κ') (.Assign [.Tuple [.Name x px, .Name y py] kt pt] (.Tuple [a, b] k2 pt2) pos) (gParNN i j fn fm) := by
  refine PS.to (ps_par hc hN hi hj hij hx hy (pa_cons ha (pa_cons hb pa_nil hs2) hs1) hw hs) fun D σ H ⟨m, S, ρ, Dd, st, hg, ks⟩ => ?_
  refine ⟨m + κ', S, ρ, _, _, st_split st, hg, fun xs p vs S1 H1 hx st1 p1 np sp hp d1 => ?_, (ks.up (by omega)).ke⟩
  refine ⟨m, S1, ρ, _, _, st1, hx, fun ys q us S2 H2 hy st2 p2 nq sq hq d2 => ?_, (ks.af p1.sS).ke⟩
  have hp1 : H1 p ≠ none := by rw [hp]; exact Option.some_ne_none _
  have t1 := own_new (i := i) st st1 np sp hp d1 hpa
  have t2 := own_new (i := i) st st2 np (p2.fr p hp1 sp) (p2.kp p _ hp (wl_ne st np)) (dqAll_mono p2.sS d1) hpa
  exact ⟨_, _, rfl, ks.nx _ _ S2 H2 hy (own_new (i := j) t1 t2 nq sq hq d2 hpa) (p1.sS.trans p2.sS)⟩
theorem js_parDN {kt k2 : Nat} {pt2 : Pos} (hpa : ∀ a, n.pa a) (hc : X.calm = true) (hN : X.N.Nodup) (hi : X.N[i]? = some x) (hj : X.N[j]? = some y) (hij : i ≠ j) (hx : X.env.scope.names.lookup x = some .local) (hy : X.env.scope.names.lookup y = some .local)
    (ha : JE X n W κ a f) (hb : JN X n W κ' b fm) (hs1 : starEach [a, b] X.env = (false, eval a X.env) :: starEach [b] X.env) (hs2 : starEach [b] X.env = (false, eval b X.env) :: starEach [] X.env) (hw : swappedStores [.Tuple [.Name x px, .Name y py] kt pt] (.Tuple [a, b] k2 pt2) X.env = pure (some [x, y]))
    (hs : swapsWithSole [.Tuple [.Name x px, .Name y py] kt pt] (.Tuple [a, b] k2 pt2) pos.line X.env = pure false) : JS X n W (κ + κ') (.Assign [.Tuple [.Name x px, .Name y py] kt pt] (.Tuple [a, b] k2 pt2) pos) (gParDN i j f fm) := by
  refine PS.to (ps_par hc hN hi hj hij hx hy (pa_cons ha (pa_cons hb pa_nil hs2) hs1) hw hs) fun D σ H ⟨m, S, ρ, Dd, st, hg, ks⟩ => ?_
  refine ⟨m + κ', S, ρ, _, _, st_split st, hg, fun xv v S1 H1 hx st1 p1 d1 => ?_, (ks.up (by omega)).ke⟩
  refine ⟨m, S1, ρ, _, _, st1, hx, fun ys q us S2 H2 hy st2 p2 nq sq hq d2 => ?_, (ks.af p1.sS).ke⟩
  exact ⟨_, _, rfl, ks.nx _ _ S2 H2 hy (own_new (i := j) (st1.set d1) (st2.set (dv_mono p2.sS d1)) nq sq hq d2 hpa) (p1.sS.trans p2.sS)⟩
theorem js_parND {kt k2 : Nat} {pt2 : Pos} (hpa : ∀ a, n.pa a) (hc : X.calm = true) (hN : X.N.Nodup) (hi : X.N[i]? = some x) (hj : X.N[j]? = some y) (hij : i ≠ j) (hx : X.env.scope.names.lookup x = some .local) (hy : X.env.scope.names.lookup y = some .local)
    (ha : JN X n W κ a fn) (hb : JE X n W κ' b f) (hs1 : starEach [a, b] X.env = (false, eval a X.env) :: starEach [b] X.env) (hs2 : starEach [b] X.env = (false, eval b X.env) :: starEach [] X.env) (hw : swappedStores [.Tuple [.Name x px, .Name y py] kt pt] (.Tuple [a, b] k2 pt2) X.env = pure (some [x, y]))
    (hs : swapsWithSole [.Tuple [.Name x px, .Name y py] kt pt] (.Tuple [a, b] k2 pt2) pos.line X.env = pure false) : JS X n W (κ + κ') (.Assign [.Tuple [.Name x px, .Name y py] kt pt] (.Tuple [a, b] k2 pt2) pos) (gParND i j fn f) := by
  refine PS.to (ps_par hc hN hi hj hij hx hy (pa_cons ha (pa_cons hb pa_nil hs2) hs1) hw hs) fun D σ H ⟨m, S, ρ, Dd, st, hg, ks⟩ => ?_
  refine ⟨m + κ', S, ρ, _, _, st_split st, hg, fun xs p vs S1 H1 hx st1 p1 np sp hp d1 => ?_, (ks.up (by omega)).ke⟩
  refine ⟨m, S1, ρ, _, _, st1, hx, fun yv v S2 H2 hy st2 p2 d2 => ?_, (ks.af p1.sS).ke⟩
  have hp1 : H1 p ≠ none := by rw [hp]; exact Option.some_ne_none _
  have t2 := own_new (i := i) st st2 np (p2.fr p hp1 sp) (p2.kp p _ hp (wl_ne st np)) (dqAll_mono p2.sS d1) hpa
  exact ⟨_, _, rfl, ks.nx _ _ S2 H2 hy (t2.set d2) (p1.sS.trans p2.sS)⟩
end

/-! ### expressions that change a list of one's own: xs.pop(..) -/
abbrev DX := List Sl → (DV → List Sl → Prop) → EK → Prop
def rdX (K : Frag) (n : En) (W : WX) (κ : Nat) (f : DX) : TE := fun σ H Q => ∃ m S ρ R Er, StOk K n (m + κ) S H σ ρ ∧ f ρ R Er ∧
  (∀ x v ρ' S' H', R x ρ' → StOk K n m S' H' σ ρ' → Same S S' → DvOk K n S' v x → Q v H') ∧
  KErr K n W m S σ ρ Er
abbrev JX (X : Cx) (n : En) (W : WX) (κ : Nat) (e : Expr) (f : DX) : Prop := PE X e (rdX X.K n W κ f)
def xPopAt (j : Nat) (f : DE) : DX := fun ρ R E => slOw ρ[j]? fun _ => f ρ (fun x => onI' x fun t => slOw ρ[j]? fun ys => ∃ k y, ixN ys.length t = some k ∧ ys[k]? = some y ∧ ys.length ≤ 100000 ∧ R (.d y) (ρ.set j (.own (ys.eraseIdx k)))) E
def xPop (j : Nat) : DX := fun ρ R E => slOw ρ[j]? fun ys => ∃ y, ys[ys.length - 1]? = some y ∧ R (.d y) (ρ.set j (.own ys.dropLast))
theorem dqErase {K : Frag} {S : Hp} : ∀ {vs : List V} {xs : List PD} (k : Nat), DqAll K S vs xs → DqAll K S (vs.eraseIdx k) (xs.eraseIdx k)
  | _, _, _, .nil => .nil
  | _, _, 0, .cons _ t => t
  | _, _, k + 1, .cons h t => .cons h (dqErase k t)
theorem dqDropLast {K : Frag} {S : Hp} {vs : List V} {xs : List PD} (d : DqAll K S vs xs) : DqAll K S vs.dropLast xs.dropLast := by
  rw [List.dropLast_eq_take, List.dropLast_eq_take, d.len]
  exact d.take _
section
variable {j : Nat} {x : Str} {p pa : Pos}
theorem jx_popAt (hN : X.N[j]? = some x) (hv : Vis X.env.scope x) (hd : (x == ("__debug__" : Str)) = false) (hcd : (x == ("__classdict__" : Str)) = false) (he : JE X n W κ e f)
    (hbase : attributeBase (.Name x p) "pop" X.env (eval (.Name x p) X.env) = eval (.Name x p) X.env)
    (hfew : ((backTo pos (starEach (e :: []) X.env)).all (fun x => !x.1) && (backToKw pos (keywordEach [] X.env)).all (fun x => x.1.isSome)
      && decide ((e :: ([] : List Expr)).length + ([] : List Keyword).length + (if ([] : List Keyword).isEmpty then 0 else 1) < 30)) = true)
    (hline : (pa.endLine == pos.line) = true) (hs : starEach (e :: []) X.env = (false, eval e X.env) :: starEach [] X.env) (hplain : (backTo pos (starEach [] X.env)).any (·.1) = false) :
    JX X n W κ (.Call (.Attribute (.Name x p) "pop" pa) [e] [] pos) (xPopAt j f) := by
  refine PE.to (pe_bm PySem.F.plainAttrs_list PySem.F.slot_list_pop PySem.F.type_list_pop mt_popAt (pe_var hN hv hd hcd) (pa_cons he pa_nil hs) hbase hfew hline hs hplain) fun σ H Q ⟨m, S, ρ, R, Er, st, hg, kR, kE⟩ => ?_
  obtain ⟨xs, hi, hg⟩ := slOw_of hg
  obtain ⟨q, vs, e1, e2, e3, _⟩ := st.write (ys := []) hi
  refine ⟨_, e1, .inl ⟨rfl, vs, SqL.of e2⟩, m, S, ρ, _, _, st, hg, fun x v S' H' hx st' po d => ?_, kE⟩
  obtain ⟨t, rfl, hx⟩ := onI_of hx
  cases d
  obtain ⟨ys, hi', k, y, hk, hy, hl, hr⟩ := slOw_of hx
  rw [hi] at hi'
  cases hi'
  obtain ⟨q', us, f1, f2, f3, f4⟩ := st'.write (ys := xs.eraseIdx k) hi
  rw [e1] at f1
  cases f1
  obtain ⟨u, hu, du⟩ := f3.at hy
  rw [← f3.len] at hk
  obtain ⟨k1, k2, k3, k4⟩ := ixN_seq hk
  have hl2 : us.length ≤ 100000 := by rw [f3.len]; exact hl
  exact ⟨q, us, t, k, u, rfl, rfl, f2, by omega, by omega, k1, hu, kR _ _ _ _ _ hr (f4 _ (dqErase k f3)) po.sS du⟩
theorem jx_pop (hN : X.N[j]? = some x) (hv : Vis X.env.scope x) (hd : (x == ("__debug__" : Str)) = false) (hcd : (x == ("__classdict__" : Str)) = false)
    (hbase : attributeBase (.Name x p) "pop" X.env (eval (.Name x p) X.env) = eval (.Name x p) X.env) (hline : (pa.endLine == pos.line) = true) :
    JX X n W 0 (.Call (.Attribute (.Name x p) "pop" pa) [] [] pos) (xPop j) := by
  refine PE.to (pe_bm0 PySem.F.plainAttrs_list PySem.F.slot_list_pop PySem.F.type_list_pop mt_pop (pe_var hN hv hd hcd) hbase hline) fun σ H Q ⟨m, S, ρ, R, Er, st, hg, kR, kE⟩ => ?_
  obtain ⟨xs, hi, y, hy, hr⟩ := slOw_of hg
  obtain ⟨q, vs, e1, e2, e3, f4⟩ := st.write (ys := xs.dropLast) hi
  obtain ⟨u, hu, du⟩ := e3.at hy
  rw [← e3.len] at hu
  exact ⟨_, e1, .inl ⟨rfl, vs, SqL.of e2⟩, q, vs, u, rfl, rfl, e2, hu, kR _ _ _ _ _ hr (f4 _ (dqDropLast e3)) (Same.refl S) du⟩
/-- ys.append(e), e changes lists of one's own -/
def gAppX (i : Nat) (f : DX) : DS := fun D ρ => slOw ρ[i]? fun _ => f ρ (fun x ρ' => onD x fun d => slOw ρ'[i]? fun xs => xs.length ≤ 100000 ∧ D.nx (ρ'.set i (.own (xs ++ [d])))) (D.ex ρ)
theorem js_appX {i : Nat} {pos' : Pos} {fx : DX} (hN : X.N[i]? = some x) (hv : Vis X.env.scope x) (hd : (x == ("__debug__" : Str)) = false) (hcd : (x == ("__classdict__" : Str)) = false) (he : JX X n W κ e fx)
    (hbase : attributeBase (.Name x p) "append" X.env (eval (.Name x p) X.env) = eval (.Name x p) X.env)
    (hfew : ((backTo pos (starEach (e :: []) X.env)).all (fun x => !x.1) && (backToKw pos (keywordEach [] X.env)).all (fun x => x.1.isSome)
      && decide ((e :: ([] : List Expr)).length + ([] : List Keyword).length + (if ([] : List Keyword).isEmpty then 0 else 1) < 30)) = true)
    (hline : (pa.endLine == pos.line) = true) (hs : starEach (e :: []) X.env = (false, eval e X.env) :: starEach [] X.env) (hplain : (backTo pos (starEach [] X.env)).any (·.1) = false)
    (hsw : swapsWith (.Call (.Attribute (.Name x p) "append" pa) [e] [] pos) none pos'.line X.env = pure false) :
    JS X n W κ (.Expr (.Call (.Attribute (.Name x p) "append" pa) [e] [] pos) pos') (gAppX i fx) := by
  refine PS.to (ps_expr (pe_bm PySem.F.plainAttrs_list PySem.F.slot_list_append PySem.F.type_list_append mt_append (pe_var hN hv hd hcd) (pa_cons he pa_nil hs) hbase hfew hline hs hplain) hsw) fun D σ H ⟨m, S, ρ, Dd, st, hg, ks⟩ => ?_
  obtain ⟨xs, hi, hg⟩ := slOw_of hg
  obtain ⟨q, vs, e1, e2, e3, _⟩ := st.write (ys := []) hi
  refine ⟨_, e1, .inl ⟨rfl, vs, SqL.of e2⟩, m, S, ρ, _, _, st, hg, fun x v ρ' S' H' hx st' po d => ?_, ks.ke⟩
  obtain ⟨x, rfl, hx⟩ := onD_of hx
  obtain ⟨xs', hi', hl, hx⟩ := slOw_of hx
  obtain ⟨q', us, f1, f2, f3, f4⟩ := st'.write (ys := xs' ++ [x]) hi'
  rw [e1] at f1
  cases f1
  refine ⟨q, us, v, rfl, rfl, f2, ?_, ?_⟩
  · have := f3.len
    have : (100000 : Nat) < sizeLine := by decide
    omega
  · exact ks.nx _ _ S' _ hx (f4 _ (f3.app (.cons d .nil))) po
/-- a statement that is such an expression; its value to a name -/
def gDropX (f : DX) : DS := fun D ρ => f ρ (fun _ ρ' => D.nx ρ') (D.ex ρ)
theorem js_dropX {fx : DX} (he : JX X n W κ e fx) (hs : swapsWith e none pos.line X.env = pure false) : JS X n W κ (.Expr e pos) (gDropX fx) :=
  PS.to (ps_expr he hs) fun D σ H ⟨m, S, ρ, Dd, st, hg, ks⟩ => ⟨m, S, ρ, _, _, st, hg, fun x v ρ' S' H' hx st' p d => ks.nx _ σ S' H' hx st' p, ks.ke⟩
def gSetX (i : Nat) (f : DX) : DS := fun D ρ => f ρ (fun x ρ' => D.nx (ρ'.set i (.v x))) (D.ex ρ)
theorem js_setX {i : Nat} {pos' : Pos} {fx : DX} (hN : X.N.Nodup) (hi : X.N[i]? = some x) (hx : Loc X.env.scope x) (he : JX X n W κ e fx) (hs : swapsWith e (some (.Name x pos')) pos.line X.env = pure false) (hf : X.fn x = true ∨ X.env.scope.names.lookup x = some .local) :
    JS X n W κ (.Assign [.Name x pos'] e pos) (gSetX i fx) :=
  PS.to (ps_set hN hi hx he hs hf) fun D σ H ⟨m, S, ρ, Dd, st, hg, ks⟩ => ⟨m, S, ρ, _, _, st, hg, fun x v ρ' S' H' hx st' p d => ks.nx _ _ S' H' hx (st'.set d) p, ks.ke⟩
end
end
end Wb
/-! Wb14: short forms of the rules of Wb11 .. Wb13. -/
namespace Wb
open PySem PySem.Spec PyProof.Rows L2
section
variable {X : Cx} {n : En} {W : WX} {κ κ' κ2 κi κt κe κf k k' : Nat} {e a b c elt tg iter : Expr} {es ifs : List Expr} {pos : Pos} {f h g : DE} {fa fk : DA} {t u : DT} {fi fn fm : DN} {fx : DX}
theorem spNN (C : Cok X n W k) (i j : Nat) {x y : Str} {px py pt : Pos} {kt k2 : Nat} {pt2 : Pos} (ha : JN X n W κ a fn) (hb : JN X n W κ' b fm) (hi : X.N[i]? = some x := by rfl) (hj : X.N[j]? = some y := by rfl) (hij : i ≠ j := by decide) (hx : X.env.scope.names.lookup x = some .local := by rfl) (hy : X.env.scope.names.lookup y = some .local := by rfl)
    (hs1 : starEach [a, b] X.env = (false, eval a X.env) :: starEach [b] X.env := by rfl) (hs2 : starEach [b] X.env = (false, eval b X.env) :: starEach [] X.env := by rfl)
    (hw : swappedStores [.Tuple [.Name x px, .Name y py] kt pt] (.Tuple [a, b] k2 pt2) X.env = pure (some [x, y]) := by rfl)
    (hs : swapsWithSole [.Tuple [.Name x px, .Name y py] kt pt] (.Tuple [a, b] k2 pt2) pos.line X.env = pure false := by rfl) (hpa : ∀ a, n.pa a := by exact fun _ => trivial) : JS X n W (κ + κ') (.Assign [.Tuple [.Name x px, .Name y py] kt pt] (.Tuple [a, b] k2 pt2) pos) (gParNN i j fn fm) :=
  js_parNN hpa C.calm C.nd hi hj hij hx hy ha hb hs1 hs2 hw hs
theorem spDN (C : Cok X n W k) (i j : Nat) {x y : Str} {px py pt : Pos} {kt k2 : Nat} {pt2 : Pos} (ha : JE X n W κ a f) (hb : JN X n W κ' b fm) (hi : X.N[i]? = some x := by rfl) (hj : X.N[j]? = some y := by rfl) (hij : i ≠ j := by decide) (hx : X.env.scope.names.lookup x = some .local := by rfl) (hy : X.env.scope.names.lookup y = some .local := by rfl)
    (hs1 : starEach [a, b] X.env = (false, eval a X.env) :: starEach [b] X.env := by rfl) (hs2 : starEach [b] X.env = (false, eval b X.env) :: starEach [] X.env := by rfl)
    (hw : swappedStores [.Tuple [.Name x px, .Name y py] kt pt] (.Tuple [a, b] k2 pt2) X.env = pure (some [x, y]) := by rfl)
    (hs : swapsWithSole [.Tuple [.Name x px, .Name y py] kt pt] (.Tuple [a, b] k2 pt2) pos.line X.env = pure false := by rfl) (hpa : ∀ a, n.pa a := by exact fun _ => trivial) : JS X n W (κ + κ') (.Assign [.Tuple [.Name x px, .Name y py] kt pt] (.Tuple [a, b] k2 pt2) pos) (gParDN i j f fm) :=
  js_parDN hpa C.calm C.nd hi hj hij hx hy ha hb hs1 hs2 hw hs
theorem spND (C : Cok X n W k) (i j : Nat) {x y : Str} {px py pt : Pos} {kt k2 : Nat} {pt2 : Pos} (ha : JN X n W κ a fn) (hb : JE X n W κ' b f) (hi : X.N[i]? = some x := by rfl) (hj : X.N[j]? = some y := by rfl) (hij : i ≠ j := by decide) (hx : X.env.scope.names.lookup x = some .local := by rfl) (hy : X.env.scope.names.lookup y = some .local := by rfl)
    (hs1 : starEach [a, b] X.env = (false, eval a X.env) :: starEach [b] X.env := by rfl) (hs2 : starEach [b] X.env = (false, eval b X.env) :: starEach [] X.env := by rfl)
    (hw : swappedStores [.Tuple [.Name x px, .Name y py] kt pt] (.Tuple [a, b] k2 pt2) X.env = pure (some [x, y]) := by rfl)
    (hs : swapsWithSole [.Tuple [.Name x px, .Name y py] kt pt] (.Tuple [a, b] k2 pt2) pos.line X.env = pure false := by rfl) (hpa : ∀ a, n.pa a := by exact fun _ => trivial) : JS X n W (κ + κ') (.Assign [.Tuple [.Name x px, .Name y py] kt pt] (.Tuple [a, b] k2 pt2) pos) (gParND i j fn f) :=
  js_parND hpa C.calm C.nd hi hj hij hx hy ha hb hs1 hs2 hw hs
theorem xp (j : Nat) {x : Str} {p pa : Pos} (he : JE X n W κ e f) (hN : X.N[j]? = some x := by rfl) (hv : Vis X.env.scope x := by first | exact .inl rfl | exact .inr (.inl rfl) | exact .inr (.inr rfl)) (hd : (x == ("__debug__" : Str)) = false := by rfl) (hcd : (x == ("__classdict__" : Str)) = false := by rfl)
    (hbase : attributeBase (.Name x p) "pop" X.env (eval (.Name x p) X.env) = eval (.Name x p) X.env := by rfl)
    (hfew : ((backTo pos (starEach (e :: []) X.env)).all (fun x => !x.1) && (backToKw pos (keywordEach [] X.env)).all (fun x => x.1.isSome)
      && decide ((e :: ([] : List Expr)).length + ([] : List Keyword).length + (if ([] : List Keyword).isEmpty then 0 else 1) < 30)) = true := by rfl)
    (hline : (pa.endLine == pos.line) = true := by rfl) (hs : starEach (e :: []) X.env = (false, eval e X.env) :: starEach [] X.env := by rfl) (hplain : (backTo pos (starEach [] X.env)).any (·.1) = false := by rfl) :
    JX X n W κ (.Call (.Attribute (.Name x p) "pop" pa) [e] [] pos) (xPopAt j f) := jx_popAt hN hv hd hcd he hbase hfew hline hs hplain
theorem xp0 (j : Nat) {x : Str} {p pa : Pos} (hN : X.N[j]? = some x := by rfl) (hv : Vis X.env.scope x := by first | exact .inl rfl | exact .inr (.inl rfl) | exact .inr (.inr rfl)) (hd : (x == ("__debug__" : Str)) = false := by rfl) (hcd : (x == ("__classdict__" : Str)) = false := by rfl)
    (hbase : attributeBase (.Name x p) "pop" X.env (eval (.Name x p) X.env) = eval (.Name x p) X.env := by rfl) (hline : (pa.endLine == pos.line) = true := by rfl) :
    JX X n W 0 (.Call (.Attribute (.Name x p) "pop" pa) [] [] pos) (xPop j) := jx_pop hN hv hd hcd hbase hline
theorem sapX (i : Nat) {x : Str} {pos' p pa : Pos} (he : JX X n W κ e fx) (hN : X.N[i]? = some x := by rfl) (hv : Vis X.env.scope x := by first | exact .inl rfl | exact .inr (.inl rfl) | exact .inr (.inr rfl)) (hd : (x == ("__debug__" : Str)) = false := by rfl) (hcd : (x == ("__classdict__" : Str)) = false := by rfl)
    (hbase : attributeBase (.Name x p) "append" X.env (eval (.Name x p) X.env) = eval (.Name x p) X.env := by rfl)
    (hfew : ((backTo pos (starEach (e :: []) X.env)).all (fun x => !x.1) && (backToKw pos (keywordEach [] X.env)).all (fun x => x.1.isSome)
      && decide ((e :: ([] : List Expr)).length + ([] : List Keyword).length + (if ([] : List Keyword).isEmpty then 0 else 1) < 30)) = true := by rfl)
    (hline : (pa.endLine == pos.line) = true := by rfl) (hs : starEach (e :: []) X.env = (false, eval e X.env) :: starEach [] X.env := by rfl) (hplain : (backTo pos (starEach [] X.env)).any (·.1) = false := by rfl)
    (hsw : swapsWith (.Call (.Attribute (.Name x p) "append" pa) [e] [] pos) none pos'.line X.env = pure false := by rfl) :
    JS X n W κ (.Expr (.Call (.Attribute (.Name x p) "append" pa) [e] [] pos) pos') (gAppX i fx) := js_appX hN hv hd hcd he hbase hfew hline hs hplain hsw
theorem sdX (he : JX X n W κ e fx) (hs : swapsWith e none pos.line X.env = pure false := by rfl) : JS X n W κ (.Expr e pos) (gDropX fx) := js_dropX he hs
theorem ssX (C : Cok X n W k) (i : Nat) {x : Str} {pos' : Pos} (he : JX X n W κ e fx) (hi : X.N[i]? = some x := by rfl) (hx : Loc X.env.scope x := by first | exact .inl rfl | exact .inr rfl) (hs : swapsWith e (some (.Name x pos')) pos.line X.env = pure false := by rfl)
    (hf : X.fn x = true ∨ X.env.scope.names.lookup x = some .local := by first | exact .inr rfl | exact .inl rfl) : JS X n W κ (.Assign [.Name x pos'] e pos) (gSetX i fx) := js_setX C.nd hi hx he hs hf
end
end Wb
/-! Wb15: plain lemmas for the mathematics over mirrors: texts, equality, lists of ints, comprehensions over typed lists. -/
namespace Wb
open PySem PySem.Spec PyProof.Rows L2
theorem ite_t {b : Bool} {A B : Prop} (h : b = true) (q : A) : if b = true then A else B := by rw [if_pos h]; exact q
theorem ite_f {b : Bool} {A B : Prop} (h : b = false) (q : B) : if b = true then A else B := by rw [if_neg (by rw [h]; decide)]; exact q
theorem atI_mem {α : Type} {xs : List α} {k : Int} (h0 : 0 ≤ k) (h : k < (xs.length : Int)) : ∃ y, atI xs k = some y ∧ y ∈ xs := by
  have hk : k.toNat < xs.length := by omega
  refine ⟨xs[k.toNat], ?_, List.getElem_mem hk⟩
  unfold atI ixN
  rw [if_pos h0, if_pos h]
  exact List.getElem?_eq_getElem hk
theorem cpow10 {n : Int} (h0 : 0 ≤ n) (h : n ≤ 1000) : CPow 10 n := ⟨h0, by omega, by decide⟩
theorem rng_nonneg {j : Int} {x : PD} (h : x ∈ rngD 0 j) : ∃ k : Int, x = .int k ∧ 0 ≤ k ∧ k < j := by
  unfold rngD at h
  simp only [List.mem_map, List.mem_range] at h
  obtain ⟨i, hi, rfl⟩ := h
  exact ⟨0 + (i : Int), rfl, by omega, by omega⟩
/-! texts are of true code points -/
abbrev SOk (x : Str) : Prop := PyData.strOk x = true
theorem ok_app {a b : Str} (h : SOk a) (k : SOk b) : SOk (a ++ b) := by
  show ((a.cps ++ b.cps).all fun c => decide (c < 0x110000)) = true
  rw [Array.all_append]
  have h : (a.cps.all fun c => decide (c < 0x110000)) = true := h
  have k : (b.cps.all fun c => decide (c < 0x110000)) = true := k
  rw [h, k]
  rfl
theorem ok_of (s : String) : SOk (Str.ofString s) := by
  show ((Str.ofString s).cps.all fun c => decide (c < 0x110000)) = true
  rw [PySem.Str.ofString_eq_toList]
  rw [Array.all_eq_true_iff_forall_mem]
  intro c hc
  have hc : c ∈ (s.toList.map Char.toNat).toArray := hc
  rw [List.mem_toArray, List.mem_map] at hc
  obtain ⟨ch, _, rfl⟩ := hc
  have v := ch.valid
  rw [decide_eq_true_eq]
  rcases v with v | v
  · have v : ch.toNat < 0xd800 := v
    omega
  · exact v.2
theorem ok_textFrom : ∀ (ts : List Str) (k : Nat) (acc : Str), SOk acc → (∀ t ∈ ts, SOk t) → SOk (textFrom k acc ts)
  | [], _, _, h, _ => h
  | t :: ts, k, acc, h, ht => ok_textFrom ts (k + 1) _ (ok_app (ok_app h (ok_of _)) (ht t (by simp))) fun u hu => ht u (by simp [hu])
theorem ok_listText {ts : List Str} (h : ∀ t ∈ ts, SOk t) : SOk (listText ts) := ok_app (ok_textFrom ts 0 _ (ok_of _) h) (ok_of _)
theorem ok_join : ∀ {ts : List Str}, (∀ t ∈ ts, SOk t) → SOk (Str.join ", " ts)
  | [], _ => by decide +kernel
  | [t], h => h t (by simp)
  | t :: u :: r, h => ok_app (ok_app (h t (by simp)) (ok_of _)) (ok_join fun v hv => h v (by simp at hv ⊢; right; exact hv))
theorem ok_tupleText {ts : List Str} (h : ∀ t ∈ ts, SOk t) : SOk (tupleText ts) := ok_app (ok_app (ok_of _) (ok_join h)) (ok_of _)
/-! what repr and == take: depth at most e, weight at most n -/
structure Rp (e n : Nat) (d : PD) : Prop where
  sh : d.showable = true
  ls : d.leavesShort 600 = true
  cl : d.canLay0 = true
  dp : d.depth ≤ e
  wt : d.weight ≤ n
  st : SOk d.shown
structure RpA (e n : Nat) (xs : List PD) : Prop where
  sh : PyData.showableAll xs = true
  ls : PyData.leavesShortAll 600 xs = true
  cl : PyData.canLayAll0 xs = true
  dp : PyData.depthAll xs ≤ e
  wt : PyData.weightAll xs ≤ n
  st : ∀ t ∈ PyData.shownAll xs, SOk t
theorem Rp.le {e n e' n' : Nat} {d : PD} (h : Rp e n d) (h1 : e ≤ e') (h2 : n ≤ n') : Rp e' n' d := ⟨h.sh, h.ls, h.cl, Nat.le_trans h.dp h1, Nat.le_trans h.wt h2, h.st⟩
theorem Rp.none {e n : Nat} : Rp e n .none := ⟨rfl, rfl, by simp only [PyData.canLay0], Nat.zero_le _, Nat.zero_le _, ok_of _⟩
theorem Rp.bool {e n : Nat} {b : Bool} : Rp e n (.bool b) := ⟨rfl, rfl, by simp only [PyData.canLay0], Nat.zero_le _, Nat.zero_le _, by cases b <;> exact ok_of _⟩
theorem Rp.int {e a : Nat} {i : Int} (h : MB a i) (ha : a ≤ 1900) : Rp e a (.int i) := by
  have hl : i ≠ 0 → i.natAbs.log2 < a := fun z => (Nat.log2_lt (by omega)).mpr h
  refine ⟨?_, ?_, by simp only [PyData.canLay0], Nat.zero_le _, ?_, ok_of _⟩
  · simp only [PyData.showable, decide_eq_true_eq]
    by_cases z : i = 0
    · subst z; decide
    · have := hl z; omega
  · simp only [PyData.leavesShort, decide_eq_true_eq]
    show (Str.ofString (toString i)).length ≤ 600
    rw [PySem.ofString_length]
    have h2 : i.natAbs < 10 ^ 572 := Nat.lt_of_lt_of_le (MB.le h ha) (by decide +kernel)
    have := PySem.int_text_length_le10 (k := 572) (by decide) h2
    omega
  · simp only [PyData.weight]
    by_cases z : i = 0
    · subst z; simp
    · have := hl z
      have e : (i == 0) = false := by simpa using z
      rw [e]
      simp
      omega
theorem RpA.nil {e : Nat} : RpA e 0 [] := ⟨rfl, rfl, rfl, Nat.zero_le _, Nat.zero_le _, fun _ h => nomatch h⟩
theorem RpA.cons {e n m : Nat} {x : PD} {xs : List PD} (h : Rp e n x) (t : RpA e m xs) : RpA e (n + 1 + m) (x :: xs) := by
  refine ⟨?_, ?_, ?_, ?_, ?_, fun u hu => by
    rcases List.mem_cons.mp (show u ∈ x.shown :: PyData.shownAll xs from hu) with rfl | hu
    · exact h.st
    · exact t.st u hu⟩
  · simp only [PyData.showableAll, h.sh, t.sh, Bool.and_self]
  · simp only [PyData.leavesShortAll, h.ls, t.ls, Bool.and_self]
  · simp only [PyData.canLayAll0, h.cl, t.cl, Bool.and_self]
  · simp only [PyData.depthAll]
    have := h.dp; have := t.dp
    omega
  · simp only [PyData.weightAll]
    have := h.wt; have := t.wt
    omega
theorem Rp.list {e n : Nat} {xs : List PD} (h : RpA e n xs) : Rp (e + 1) n (.list xs) := by
  refine ⟨?_, ?_, ?_, ?_, ?_, ok_listText h.st⟩
  · simp only [PyData.showable, h.sh]
  · simp only [PyData.leavesShort, h.ls]
  · simp only [PyData.canLay0, h.cl]
  · simp only [PyData.depth]; have := h.dp; omega
  · simp only [PyData.weight]; exact h.wt
theorem Rp.tup {e n : Nat} {xs : List PD} (h : RpA e n xs) : Rp (e + 1) n (.tuple xs) := by
  refine ⟨?_, ?_, ?_, ?_, ?_, ok_tupleText h.st⟩
  · simp only [PyData.showable, h.sh]
  · simp only [PyData.leavesShort, h.ls]
  · simp only [PyData.canLay0, h.cl]
  · simp only [PyData.depth]; have := h.dp; omega
  · simp only [PyData.weight]; exact h.wt
theorem Rp.ok {e n : Nat} {d : PD} (h : Rp e n d) (he : e ≤ 60) (hn : n ≤ 20000) : ROk d := by
  refine ⟨h.sh, ?_, by have := h.dp; omega⟩
  have q := PyData.shown_le 600 (by decide) d h.ls
  have w := h.wt
  have s : (16777216 : Nat) ≤ sizeLine := by decide
  have : (600 + 2) * d.weight ≤ 602 * 20000 := Nat.mul_le_mul (Nat.le_refl _) (by omega)
  omega
theorem Rp.sh' {e n : Nat} {d : PD} (h : Rp e n d) (he : e ≤ 60) : Sh d := by
  show (d.canLay0 && decide (d.depth ≤ 64)) = true
  rw [h.cl, Bool.true_and, decide_eq_true_eq]
  have := h.dp
  omega
theorem Rp.str {e n : Nat} {x : Str} (h : (PyData.str x).leavesShort 600 = true) (h2 : (PyData.str x).canLay0 = true) (h3 : (PyData.str x).weight ≤ n) (h4 : SOk (PyData.str x).shown) : Rp e n (.str x) := ⟨rfl, h, h2, Nat.zero_le _, h3, h4⟩
/-- what == takes -/
structure Cp (e : Nat) (d : PD) : Prop where
  cl : d.canLay0 = true
  dp : d.depth ≤ e
structure CpA (e : Nat) (xs : List PD) : Prop where
  cl : PyData.canLayAll0 xs = true
  dp : PyData.depthAll xs ≤ e
theorem Rp.cp {e n : Nat} {d : PD} (h : Rp e n d) : Cp e d := ⟨h.cl, h.dp⟩
theorem Cp.le {e e' : Nat} {d : PD} (h : Cp e d) (l : e ≤ e') : Cp e' d := ⟨h.cl, Nat.le_trans h.dp l⟩
theorem Cp.int {e : Nat} {i : Int} : Cp e (.int i) := ⟨by simp only [PyData.canLay0], Nat.zero_le _⟩
theorem Cp.bool {e : Nat} {i : Bool} : Cp e (.bool i) := ⟨by simp only [PyData.canLay0], Nat.zero_le _⟩
theorem Cp.none {e : Nat} : Cp e .none := ⟨by simp only [PyData.canLay0], Nat.zero_le _⟩
theorem Cp.str {e : Nat} {x : Str} (h : SOk x) : Cp e (.str x) := ⟨by simpa only [PyData.canLay0] using h, Nat.zero_le _⟩
theorem CpA.nil {e : Nat} : CpA e [] := ⟨rfl, Nat.zero_le _⟩
theorem CpA.cons {e : Nat} {x : PD} {xs : List PD} (h : Cp e x) (t : CpA e xs) : CpA e (x :: xs) := by
  refine ⟨?_, ?_⟩
  · simp only [PyData.canLayAll0, h.cl, t.cl, Bool.and_self]
  · simp only [PyData.depthAll]; have := h.dp; have := t.dp; omega
theorem Cp.list {e : Nat} {xs : List PD} (h : CpA e xs) : Cp (e + 1) (.list xs) := by
  refine ⟨?_, ?_⟩
  · simp only [PyData.canLay0, h.cl]
  · simp only [PyData.depth]; have := h.dp; omega
theorem Cp.tup {e : Nat} {xs : List PD} (h : CpA e xs) : Cp (e + 1) (.tuple xs) := by
  refine ⟨?_, ?_⟩
  · simp only [PyData.canLay0, h.cl]
  · simp only [PyData.depth]; have := h.dp; omega
theorem Cp.sh' {e : Nat} {d : PD} (h : Cp e d) (he : e ≤ 60) : Sh d := by
  show (d.canLay0 && decide (d.depth ≤ 64)) = true
  rw [h.cl, Bool.true_and, decide_eq_true_eq]
  have := h.dp
  omega
/-- a == a -/
theorem e_eqR {e : Nat} {d : PD} {R : DV → Prop} (h : Cp e d) (he : e ≤ 60) (hR : R (.d (.bool true))) : gEq (.d d) (.d d) R := by
  have r := PySem.SeqAt.eqv_refl d h.cl
  cases d with
  | str x =>
    show R (.d (.bool (decide (x = x))))
    simpa using hR
  | _ => exact ⟨h.sh' he, h.sh' he, by rw [r]; exact hR⟩
theorem e_neR {e : Nat} {d : PD} {R : DV → Prop} (h : Cp e d) (he : e ≤ 60) (hR : R (.d (.bool false))) : gNe (.d d) (.d d) R := by
  have r := PySem.SeqAt.eqv_refl d h.cl
  cases d with
  | str x =>
    show R (.d (.bool (!decide (x = x))))
    simpa using hR
  | _ => exact ⟨h.sh' he, h.sh' he, by rw [r]; exact hR⟩
theorem e_neS {x y : Str} {R : DV → Prop} : gNe (.d (.str x)) (.d (.str y)) R = R (.d (.bool (!decide (x = y)))) := rfl
/-- repr of the same -/
theorem e_reprNe {d : PD} {R : DV → Prop} (hR : R (.d (.bool false))) : gNe (.d (.str d.shown)) (.d (.str d.shown)) R := by
  rw [e_neS]
  simpa using hR
theorem e_eqI {i j : Int} {R : DV → Prop} : gEq (.d (.int i)) (.d (.int j)) R = R (.d (.bool (decide (i = j)))) := by
  apply propext
  show (Sh (.int i) ∧ Sh (.int j) ∧ R (.d (.bool (PyData.eqv (.int i) (.int j))))) ↔ _
  have e : PyData.eqv (.int i) (.int j) = decide (i = j) := by rw [Bool.eq_iff_iff]; simp [PyData.eqv]
  rw [e]
  exact ⟨fun h => h.2.2, fun h => ⟨rfl, rfl, h⟩⟩
theorem e_neI {i j : Int} {R : DV → Prop} : gNe (.d (.int i)) (.d (.int j)) R = R (.d (.bool (!decide (i = j)))) := by
  apply propext
  show (Sh (.int i) ∧ Sh (.int j) ∧ R (.d (.bool (!PyData.eqv (.int i) (.int j))))) ↔ _
  have e : PyData.eqv (.int i) (.int j) = decide (i = j) := by rw [Bool.eq_iff_iff]; simp [PyData.eqv]
  rw [e]
  exact ⟨fun h => h.2.2, fun h => ⟨rfl, rfl, h⟩⟩
theorem len_weight : ∀ xs : List PD, xs.length ≤ PyData.weightAll xs
  | [] => Nat.le_refl _
  | x :: xs => by
    simp only [PyData.weightAll, List.length_cons]
    have := len_weight xs
    omega
theorem mem_weight : ∀ {xs : List PD} {y : PD}, y ∈ xs → y.weight ≤ PyData.weightAll xs ∧ y.depth ≤ PyData.depthAll xs
  | x :: xs, y, h => by
    simp only [PyData.weightAll, PyData.depthAll]
    rcases List.mem_cons.mp h with rfl | h
    · omega
    · have := mem_weight h
      omega
theorem okD_of : ∀ (j : Nat) (d : PD), d.depth ≤ j → d.weight ≤ 100000 → okD j d
  | j, .none, _, _ => by cases j <;> trivial
  | j, .bool _, _, _ => by cases j <;> trivial
  | j, .int _, _, _ => by cases j <;> trivial
  | j, .str _, _, _ => by cases j <;> trivial
  | j, .dict _, _, _ => by cases j <;> trivial
  | 0, .list xs, h, _ => by simp only [PyData.depth] at h; omega
  | 0, .tuple xs, h, _ => by simp only [PyData.depth] at h; omega
  | j + 1, .list xs, h, w => by
    simp only [PyData.depth] at h
    simp only [PyData.weight] at w
    have l := len_weight xs
    exact ⟨by omega, fun y hy => okD_of j y (by have := (mem_weight hy).2; omega) (by have := (mem_weight hy).1; omega)⟩
  | j + 1, .tuple xs, h, w => by
    simp only [PyData.depth] at h
    simp only [PyData.weight] at w
    have l := len_weight xs
    exact ⟨by omega, fun y hy => okD_of j y (by have := (mem_weight hy).2; omega) (by have := (mem_weight hy).1; omega)⟩
theorem Rp.ok9 {e n : Nat} {d : PD} (h : Rp e n d) (he : e ≤ 9) (hn : n ≤ 100000) : okD 9 d := okD_of 9 d (by have := h.dp; omega) (by have := h.wt; omega)
theorem mb_weight {i : Int} {n : Nat} (h : (PyData.int i).weight ≤ n) : MB n i := by
  unfold MB
  simp only [PyData.weight] at h
  by_cases z : i = 0
  · subst z; exact Nat.pos_of_ne_zero (by simp)
  · have e : (i == 0) = false := by simpa using z
    rw [e] at h
    have h : i.natAbs.log2 + 1 ≤ n := h
    exact Nat.lt_of_lt_of_le Nat.lt_log2_self (Nat.pow_le_pow_right (by decide) h)
theorem eqv_t2 (x y a b : Int) : PyData.eqv (.tuple [.int x, .int y]) (.tuple [.int a, .int b]) = (decide (x = a) && decide (y = b)) := by
  rw [Bool.eq_iff_iff]
  simp [PyData.eqv, PyData.eqvAll]

/-! lists of ints, ranges -/
def irg (lo hi : Int) : List Int := (List.range (hi - lo).toNat).map fun i : Nat => lo + (i : Int)
theorem rngD_irg (lo hi : Int) : rngD lo hi = (irg lo hi).map .int := by
  unfold rngD irg
  rw [List.map_map]
  rfl
theorem mem_irg {lo hi i : Int} : i ∈ irg lo hi ↔ lo ≤ i ∧ i < hi := by
  unfold irg
  simp only [List.mem_map, List.mem_range]
  constructor
  · rintro ⟨k, hk, rfl⟩
    omega
  · intro ⟨h1, h2⟩
    exact ⟨(i - lo).toNat, by omega, by omega⟩
theorem irg_len (lo hi : Int) : (irg lo hi).length = (hi - lo).toNat := by unfold irg; rw [List.length_map, List.length_range]
theorem nodup_map {α β : Type} {f : α → β} (hf : ∀ a b, f a = f b → a = b) : ∀ {l : List α}, l.Nodup → (l.map f).Nodup
  | [], _ => List.nodup_nil
  | a :: l, h => by
    rw [List.nodup_cons] at h
    rw [List.map_cons, List.nodup_cons]
    refine ⟨fun hm => ?_, nodup_map hf h.2⟩
    obtain ⟨b, hb, e⟩ := List.mem_map.mp hm
    rw [hf _ _ e] at hb
    exact h.1 hb
theorem irg_nodup (lo hi : Int) : (irg lo hi).Nodup := by
  unfold irg
  exact nodup_map (fun a b h => by omega) List.nodup_range
theorem asInts_map : ∀ l : List Int, asInts (l.map .int) = some l
  | [] => rfl
  | a :: l => by
    show (asInts (l.map .int)).map (a :: ·) = _
    rw [asInts_map l]
    rfl
theorem asBools_map : ∀ l : List Bool, asBools (l.map .bool) = some l
  | [] => rfl
  | a :: l => by
    show (asBools (l.map .bool)).map (a :: ·) = _
    rw [asBools_map l]
    rfl
theorem cpA_ints {e : Nat} : ∀ l : List Int, CpA e (l.map .int)
  | [] => CpA.nil
  | a :: l => CpA.cons Cp.int (cpA_ints l)
theorem sh_ints (l : List Int) : Sh (.list (l.map .int)) := (Cp.list (cpA_ints (e := 0) l)).sh' (by decide)
theorem sh_intsT (l : List Int) : Sh (.tuple (l.map .int)) := (Cp.tup (cpA_ints (e := 0) l)).sh' (by decide)
theorem eqv_int (a b : Int) : PyData.eqv (.int a) (.int b) = decide (a = b) := by
  rw [Bool.eq_iff_iff]
  simp [PyData.eqv]
theorem any_eqv (i : Int) : ∀ l : List Int, ((l.map PyData.int).any fun z => PyData.eqv z (.int i)) = decide (i ∈ l)
  | [] => rfl
  | a :: l => by
    rw [List.map_cons, List.any_cons, any_eqv i l, eqv_int, ← Bool.decide_or]
    exact decide_eq_decide.mpr (by rw [List.mem_cons, eq_comm])
theorem flat_ints : ∀ l : List Int, (l.map PyData.int).all flatD = true
  | [] => rfl
  | a :: l => by rw [List.map_cons, List.all_cons, flat_ints l]; rfl
theorem e_inL {i : Int} {l : List Int} {R : DV → Prop} : gIn (.d (.int i)) (.d (.list (l.map .int))) R = R (.d (.bool (decide (i ∈ l)))) := by
  apply propext
  show (Sh _ ∧ Sh _ ∧ R (.d (.bool ((l.map PyData.int).any fun z => PyData.eqv z (.int i))))) ↔ _
  rw [any_eqv]
  exact ⟨fun h => h.2.2, fun h => ⟨rfl, sh_ints l, h⟩⟩
theorem e_ninL {i : Int} {l : List Int} {R : DV → Prop} : gNotIn (.d (.int i)) (.d (.list (l.map .int))) R = R (.d (.bool (!decide (i ∈ l)))) := by
  apply propext
  show (Sh _ ∧ Sh _ ∧ R (.d (.bool (!(l.map PyData.int).any fun z => PyData.eqv z (.int i))))) ↔ _
  rw [any_eqv]
  exact ⟨fun h => h.2.2, fun h => ⟨rfl, sh_ints l, h⟩⟩
theorem e_inT {i : Int} {l : List Int} {R : DV → Prop} : gIn (.d (.int i)) (.d (.tuple (l.map .int))) R = R (.d (.bool (decide (i ∈ l)))) := by
  apply propext
  show (flatD (.int i) = true ∧ (l.map PyData.int).all flatD = true ∧ R (.d (.bool ((l.map PyData.int).any fun z => PyData.eqv z (.int i))))) ↔ _
  rw [any_eqv]
  exact ⟨fun h => h.2.2, fun h => ⟨rfl, flat_ints l, h⟩⟩
theorem e_ninT {i : Int} {l : List Int} {R : DV → Prop} : gNotIn (.d (.int i)) (.d (.tuple (l.map .int))) R = R (.d (.bool (!decide (i ∈ l)))) := by
  apply propext
  show (flatD (.int i) = true ∧ (l.map PyData.int).all flatD = true ∧ R (.d (.bool (!(l.map PyData.int).any fun z => PyData.eqv z (.int i))))) ↔ _
  rw [any_eqv]
  exact ⟨fun h => h.2.2, fun h => ⟨rfl, flat_ints l, h⟩⟩
/-- == of any two that may be compared -/
theorem e_eqG {x y : PD} {R : DV → Prop} (hx : Sh x) (hy : Sh y) (h : R (.d (.bool (PyData.eqv x y)))) : gEq (.d x) (.d y) R := by
  by_cases q : ∃ s t, x = .str s ∧ y = .str t
  · obtain ⟨s, t, rfl, rfl⟩ := q
    show R (.d (.bool (decide (s = t))))
    have e : PyData.eqv (.str s) (.str t) = decide (s = t) := by rw [Bool.eq_iff_iff]; simp [PyData.eqv]
    rw [← e]
    exact h
  · cases x <;> first | exact ⟨hx, hy, h⟩ | (cases y <;> first | exact ⟨hx, hy, h⟩ | exact absurd ⟨_, _, rfl, rfl⟩ q)
theorem e_neG {x y : PD} {R : DV → Prop} (hx : Sh x) (hy : Sh y) (h : R (.d (.bool (!PyData.eqv x y)))) : gNe (.d x) (.d y) R := by
  by_cases q : ∃ s t, x = .str s ∧ y = .str t
  · obtain ⟨s, t, rfl, rfl⟩ := q
    show R (.d (.bool (!decide (s = t))))
    have e : PyData.eqv (.str s) (.str t) = decide (s = t) := by rw [Bool.eq_iff_iff]; simp [PyData.eqv]
    rw [← e]
    exact h
  · cases x <;> first | exact ⟨hx, hy, h⟩ | (cases y <;> first | exact ⟨hx, hy, h⟩ | exact absurd ⟨_, _, rfl, rfl⟩ q)
theorem eqv_nil (xs : List PD) : PyData.eqv (.list xs) (.list []) = xs.isEmpty := by cases xs <;> simp [PyData.eqv, PyData.eqvAll]
theorem eqv_nilT (xs : List PD) : PyData.eqv (.tuple xs) (.tuple []) = xs.isEmpty := by cases xs <;> simp [PyData.eqv, PyData.eqvAll]
theorem eqvAll_c (x y : PD) (xs ys : List PD) : PyData.eqvAll (x :: xs) (y :: ys) = (PyData.eqv x y && PyData.eqvAll xs ys) := by
  conv => lhs; unfold PyData.eqvAll
theorem eqv_ints : ∀ l k : List Int, PyData.eqvAll (l.map .int) (k.map .int) = decide (l = k)
  | [], [] => by simp [PyData.eqvAll]
  | [], b :: k => by simp [PyData.eqvAll]
  | a :: l, [] => by simp [PyData.eqvAll]
  | a :: l, b :: k => by
    rw [List.map_cons, List.map_cons, eqvAll_c, eqv_ints l k, eqv_int, ← Bool.decide_and]
    exact decide_eq_decide.mpr (by rw [List.cons.injEq])
/-! comprehensions and loops over lists told by a map -/
theorem lcD_map {α : Type} {gd : DG} {t : DT} {f : DE} {ρ : List Sl} {R : List PD → Prop} (enc : α → PD) (h : α → Option PD) : ∀ {l : List α}, (∀ x ∈ l, ∀ P : Option PD → Prop, P (h x) → gd (enc x) ρ fun ρ1 => t ρ1 (fun b => if b = true then f ρ1 (fun y => onD y fun d => P (some d)) noE else P none) noE) →
    R (l.filterMap h) → lcD gd t f ρ (l.map enc) R
  | [], _, hR => hR
  | x :: l, hb, hR => by
    rw [List.map_cons]
    unfold lcD
    exact hb x (by simp) (fun o => match o with
      | some d => lcD gd t f ρ (l.map enc) fun ds => R (d :: ds)
      | none => lcD gd t f ρ (l.map enc) R) (by
        rw [List.filterMap_cons] at hR
        cases q : h x with
        | none =>
          rw [q] at hR
          exact lcD_map enc h (fun y hy => hb y (by simp [hy])) hR
        | some d =>
          rw [q] at hR
          exact lcD_map (R := fun ds => R (d :: ds)) enc h (fun y hy => hb y (by simp [hy])) hR)
/-- no test, each item told -/
theorem lcD_all {α : Type} {gd : DG} {f : DE} {ρ : List Sl} {R : List PD → Prop} (enc : α → PD) (h : α → PD) : ∀ {l : List α}, (∀ x ∈ l, ∀ P : PD → Prop, P (h x) → gd (enc x) ρ fun ρ1 => f ρ1 (fun y => onD y P) noE) →
    R (l.map h) → lcD gd tTrue f ρ (l.map enc) R
  | [], _, hR => hR
  | x :: l, hb, hR => by
    rw [List.map_cons]
    unfold lcD
    simp only [tTrue, if_true]
    exact hb x (by simp) (fun d => lcD gd tTrue f ρ (l.map enc) fun ds => R (d :: ds)) (lcD_all (R := fun ds => R (h x :: ds)) enc h (fun y hy => hb y (by simp [hy])) hR)
inductive All2 {α β : Type} (r : α → β → Prop) : List α → List β → Prop
  | nil : All2 r [] []
  | cons {a : α} {b : β} {l : List α} {k : List β} : r a b → All2 r l k → All2 r (a :: l) (b :: k)
/-- no test, drawn items -/
theorem lcD_any {α β : Type} {gd : DG} {f : DE} {ρ : List Sl} {R : List PD → Prop} (enc : α → PD) (dec : β → PD) (r : α → β → Prop) : ∀ {l : List α}, (∀ x ∈ l, ∀ P : PD → Prop, (∀ y, r x y → P (dec y)) → gd (enc x) ρ fun ρ1 => f ρ1 (fun y => onD y P) noE) →
    (∀ ys : List β, All2 r l ys → R (ys.map dec)) → lcD gd tTrue f ρ (l.map enc) R
  | [], _, hR => hR [] .nil
  | x :: l, hb, hR => by
    rw [List.map_cons]
    unfold lcD
    simp only [tTrue, if_true]
    exact hb x (by simp) (fun d => lcD gd tTrue f ρ (l.map enc) fun ds => R (d :: ds)) fun y hy => lcD_any (R := fun ds => R (dec y :: ds)) enc dec r (fun z hz => hb z (by simp [hz])) fun ys hys => hR (y :: ys) (.cons hy hys)
theorem lcD_test {α : Type} {gd : DG} {t : DT} {f : DE} {ρ : List Sl} {R : List PD → Prop} (enc : α → PD) (p : α → Bool) (h : α → PD) {l : List α} (hb : ∀ x ∈ l, ∀ P : Option PD → Prop, P (if p x = true then some (h x) else none) → gd (enc x) ρ fun ρ1 => t ρ1 (fun b => if b = true then f ρ1 (fun y => onD y fun d => P (some d)) noE else P none) noE)
    (hR : R ((l.filter p).map h)) : lcD gd t f ρ (l.map enc) R := by
  refine lcD_map enc (fun x => if p x = true then some (h x) else none) hb ?_
  have : l.filterMap (fun x => if p x = true then some (h x) else none) = (l.filter p).map h := by
    clear hb hR
    induction l with
    | nil => rfl
    | cons a l ih =>
      rw [List.filterMap_cons, List.filter_cons]
      split <;> simp_all
  rw [this]
  exact hR
theorem zip_map {α β : Type} (f : α → PD) (g : β → PD) (l : List α) (k : List β) : List.zipWith (fun a b => PyData.tuple [a, b]) (l.map f) (k.map g) = (l.zip k).map fun x => .tuple [f x.1, g x.2] := by
  induction l generalizing k with
  | nil => rfl
  | cons a l ih => cases k with
    | nil => rfl
    | cons b k => simp [ih]
theorem atI_map' {α : Type} (f : α → PD) {l : List α} {i : Int} {y : α} (h : atI l i = some y) : atI (l.map f) i = some (f y) := by
  unfold atI at h ⊢
  rw [List.length_map]
  cases q : ixN l.length i with
  | none => rw [q] at h; cases h
  | some j =>
    rw [q] at h
    show (l.map f)[j]? = _
    rw [List.getElem?_map, show l[j]? = some y from h]
    rfl
theorem atI_get0 {α : Type} {l : List α} {i : Int} (h0 : 0 ≤ i) (h1 : i < l.length) : atI l i = l[i.toNat]? := by
  unfold atI ixN
  rw [if_pos h0, if_pos h1]
  rfl
theorem e_get8 {α : Type} {a0 a1 a2 a3 a4 a5 a6 a7 a8 : α} {l : List α} : (a0 :: a1 :: a2 :: a3 :: a4 :: a5 :: a6 :: a7 :: a8 :: l)[8]? = some a8 := rfl
theorem e_set8 {α : Type} {a0 a1 a2 a3 a4 a5 a6 a7 a8 z : α} {l : List α} : (a0 :: a1 :: a2 :: a3 :: a4 :: a5 :: a6 :: a7 :: a8 :: l).set 8 z = a0 :: a1 :: a2 :: a3 :: a4 :: a5 :: a6 :: a7 :: z :: l := rfl
theorem e_get9 {α : Type} {a0 a1 a2 a3 a4 a5 a6 a7 a8 a9 : α} {l : List α} : (a0 :: a1 :: a2 :: a3 :: a4 :: a5 :: a6 :: a7 :: a8 :: a9 :: l)[9]? = some a9 := rfl
theorem e_set9 {α : Type} {a0 a1 a2 a3 a4 a5 a6 a7 a8 a9 z : α} {l : List α} : (a0 :: a1 :: a2 :: a3 :: a4 :: a5 :: a6 :: a7 :: a8 :: a9 :: l).set 9 z = a0 :: a1 :: a2 :: a3 :: a4 :: a5 :: a6 :: a7 :: a8 :: z :: l := rfl
theorem e_get10 {α : Type} {a0 a1 a2 a3 a4 a5 a6 a7 a8 a9 a10 : α} {l : List α} : (a0 :: a1 :: a2 :: a3 :: a4 :: a5 :: a6 :: a7 :: a8 :: a9 :: a10 :: l)[10]? = some a10 := rfl
theorem e_set10 {α : Type} {a0 a1 a2 a3 a4 a5 a6 a7 a8 a9 a10 z : α} {l : List α} : (a0 :: a1 :: a2 :: a3 :: a4 :: a5 :: a6 :: a7 :: a8 :: a9 :: a10 :: l).set 10 z = a0 :: a1 :: a2 :: a3 :: a4 :: a5 :: a6 :: a7 :: a8 :: a9 :: z :: l := rfl
theorem e_get11 {α : Type} {a0 a1 a2 a3 a4 a5 a6 a7 a8 a9 a10 a11 : α} {l : List α} : (a0 :: a1 :: a2 :: a3 :: a4 :: a5 :: a6 :: a7 :: a8 :: a9 :: a10 :: a11 :: l)[11]? = some a11 := rfl
theorem e_set11 {α : Type} {a0 a1 a2 a3 a4 a5 a6 a7 a8 a9 a10 a11 z : α} {l : List α} : (a0 :: a1 :: a2 :: a3 :: a4 :: a5 :: a6 :: a7 :: a8 :: a9 :: a10 :: a11 :: l).set 11 z = a0 :: a1 :: a2 :: a3 :: a4 :: a5 :: a6 :: a7 :: a8 :: a9 :: a10 :: z :: l := rfl
theorem e_get12 {α : Type} {a0 a1 a2 a3 a4 a5 a6 a7 a8 a9 a10 a11 a12 : α} {l : List α} : (a0 :: a1 :: a2 :: a3 :: a4 :: a5 :: a6 :: a7 :: a8 :: a9 :: a10 :: a11 :: a12 :: l)[12]? = some a12 := rfl
theorem e_set12 {α : Type} {a0 a1 a2 a3 a4 a5 a6 a7 a8 a9 a10 a11 a12 z : α} {l : List α} : (a0 :: a1 :: a2 :: a3 :: a4 :: a5 :: a6 :: a7 :: a8 :: a9 :: a10 :: a11 :: a12 :: l).set 12 z = a0 :: a1 :: a2 :: a3 :: a4 :: a5 :: a6 :: a7 :: a8 :: a9 :: a10 :: a11 :: z :: l := rfl
theorem e_get13 {α : Type} {a0 a1 a2 a3 a4 a5 a6 a7 a8 a9 a10 a11 a12 a13 : α} {l : List α} : (a0 :: a1 :: a2 :: a3 :: a4 :: a5 :: a6 :: a7 :: a8 :: a9 :: a10 :: a11 :: a12 :: a13 :: l)[13]? = some a13 := rfl
theorem e_set13 {α : Type} {a0 a1 a2 a3 a4 a5 a6 a7 a8 a9 a10 a11 a12 a13 z : α} {l : List α} : (a0 :: a1 :: a2 :: a3 :: a4 :: a5 :: a6 :: a7 :: a8 :: a9 :: a10 :: a11 :: a12 :: a13 :: l).set 13 z = a0 :: a1 :: a2 :: a3 :: a4 :: a5 :: a6 :: a7 :: a8 :: a9 :: a10 :: a11 :: a12 :: z :: l := rfl
theorem e_get14 {α : Type} {a0 a1 a2 a3 a4 a5 a6 a7 a8 a9 a10 a11 a12 a13 a14 : α} {l : List α} : (a0 :: a1 :: a2 :: a3 :: a4 :: a5 :: a6 :: a7 :: a8 :: a9 :: a10 :: a11 :: a12 :: a13 :: a14 :: l)[14]? = some a14 := rfl
theorem e_set14 {α : Type} {a0 a1 a2 a3 a4 a5 a6 a7 a8 a9 a10 a11 a12 a13 a14 z : α} {l : List α} : (a0 :: a1 :: a2 :: a3 :: a4 :: a5 :: a6 :: a7 :: a8 :: a9 :: a10 :: a11 :: a12 :: a13 :: a14 :: l).set 14 z = a0 :: a1 :: a2 :: a3 :: a4 :: a5 :: a6 :: a7 :: a8 :: a9 :: a10 :: a11 :: a12 :: a13 :: z :: l := rfl
theorem e_get15 {α : Type} {a0 a1 a2 a3 a4 a5 a6 a7 a8 a9 a10 a11 a12 a13 a14 a15 : α} {l : List α} : (a0 :: a1 :: a2 :: a3 :: a4 :: a5 :: a6 :: a7 :: a8 :: a9 :: a10 :: a11 :: a12 :: a13 :: a14 :: a15 :: l)[15]? = some a15 := rfl
theorem e_set15 {α : Type} {a0 a1 a2 a3 a4 a5 a6 a7 a8 a9 a10 a11 a12 a13 a14 a15 z : α} {l : List α} : (a0 :: a1 :: a2 :: a3 :: a4 :: a5 :: a6 :: a7 :: a8 :: a9 :: a10 :: a11 :: a12 :: a13 :: a14 :: a15 :: l).set 15 z = a0 :: a1 :: a2 :: a3 :: a4 :: a5 :: a6 :: a7 :: a8 :: a9 :: a10 :: a11 :: a12 :: a13 :: a14 :: z :: l := rfl
theorem e_get16 {α : Type} {a0 a1 a2 a3 a4 a5 a6 a7 a8 a9 a10 a11 a12 a13 a14 a15 a16 : α} {l : List α} : (a0 :: a1 :: a2 :: a3 :: a4 :: a5 :: a6 :: a7 :: a8 :: a9 :: a10 :: a11 :: a12 :: a13 :: a14 :: a15 :: a16 :: l)[16]? = some a16 := rfl
theorem e_set16 {α : Type} {a0 a1 a2 a3 a4 a5 a6 a7 a8 a9 a10 a11 a12 a13 a14 a15 a16 z : α} {l : List α} : (a0 :: a1 :: a2 :: a3 :: a4 :: a5 :: a6 :: a7 :: a8 :: a9 :: a10 :: a11 :: a12 :: a13 :: a14 :: a15 :: a16 :: l).set 16 z = a0 :: a1 :: a2 :: a3 :: a4 :: a5 :: a6 :: a7 :: a8 :: a9 :: a10 :: a11 :: a12 :: a13 :: a14 :: a15 :: z :: l := rfl
theorem e_get17 {α : Type} {a0 a1 a2 a3 a4 a5 a6 a7 a8 a9 a10 a11 a12 a13 a14 a15 a16 a17 : α} {l : List α} : (a0 :: a1 :: a2 :: a3 :: a4 :: a5 :: a6 :: a7 :: a8 :: a9 :: a10 :: a11 :: a12 :: a13 :: a14 :: a15 :: a16 :: a17 :: l)[17]? = some a17 := rfl
theorem e_set17 {α : Type} {a0 a1 a2 a3 a4 a5 a6 a7 a8 a9 a10 a11 a12 a13 a14 a15 a16 a17 z : α} {l : List α} : (a0 :: a1 :: a2 :: a3 :: a4 :: a5 :: a6 :: a7 :: a8 :: a9 :: a10 :: a11 :: a12 :: a13 :: a14 :: a15 :: a16 :: a17 :: l).set 17 z = a0 :: a1 :: a2 :: a3 :: a4 :: a5 :: a6 :: a7 :: a8 :: a9 :: a10 :: a11 :: a12 :: a13 :: a14 :: a15 :: a16 :: z :: l := rfl
theorem e_get18 {α : Type} {a0 a1 a2 a3 a4 a5 a6 a7 a8 a9 a10 a11 a12 a13 a14 a15 a16 a17 a18 : α} {l : List α} : (a0 :: a1 :: a2 :: a3 :: a4 :: a5 :: a6 :: a7 :: a8 :: a9 :: a10 :: a11 :: a12 :: a13 :: a14 :: a15 :: a16 :: a17 :: a18 :: l)[18]? = some a18 := rfl
theorem e_set18 {α : Type} {a0 a1 a2 a3 a4 a5 a6 a7 a8 a9 a10 a11 a12 a13 a14 a15 a16 a17 a18 z : α} {l : List α} : (a0 :: a1 :: a2 :: a3 :: a4 :: a5 :: a6 :: a7 :: a8 :: a9 :: a10 :: a11 :: a12 :: a13 :: a14 :: a15 :: a16 :: a17 :: a18 :: l).set 18 z = a0 :: a1 :: a2 :: a3 :: a4 :: a5 :: a6 :: a7 :: a8 :: a9 :: a10 :: a11 :: a12 :: a13 :: a14 :: a15 :: a16 :: a17 :: z :: l := rfl
theorem e_get19 {α : Type} {a0 a1 a2 a3 a4 a5 a6 a7 a8 a9 a10 a11 a12 a13 a14 a15 a16 a17 a18 a19 : α} {l : List α} : (a0 :: a1 :: a2 :: a3 :: a4 :: a5 :: a6 :: a7 :: a8 :: a9 :: a10 :: a11 :: a12 :: a13 :: a14 :: a15 :: a16 :: a17 :: a18 :: a19 :: l)[19]? = some a19 := rfl
theorem e_set19 {α : Type} {a0 a1 a2 a3 a4 a5 a6 a7 a8 a9 a10 a11 a12 a13 a14 a15 a16 a17 a18 a19 z : α} {l : List α} : (a0 :: a1 :: a2 :: a3 :: a4 :: a5 :: a6 :: a7 :: a8 :: a9 :: a10 :: a11 :: a12 :: a13 :: a14 :: a15 :: a16 :: a17 :: a18 :: a19 :: l).set 19 z = a0 :: a1 :: a2 :: a3 :: a4 :: a5 :: a6 :: a7 :: a8 :: a9 :: a10 :: a11 :: a12 :: a13 :: a14 :: a15 :: a16 :: a17 :: a18 :: z :: l := rfl
theorem e_get20 {α : Type} {a0 a1 a2 a3 a4 a5 a6 a7 a8 a9 a10 a11 a12 a13 a14 a15 a16 a17 a18 a19 a20 : α} {l : List α} : (a0 :: a1 :: a2 :: a3 :: a4 :: a5 :: a6 :: a7 :: a8 :: a9 :: a10 :: a11 :: a12 :: a13 :: a14 :: a15 :: a16 :: a17 :: a18 :: a19 :: a20 :: l)[20]? = some a20 := rfl
theorem e_set20 {α : Type} {a0 a1 a2 a3 a4 a5 a6 a7 a8 a9 a10 a11 a12 a13 a14 a15 a16 a17 a18 a19 a20 z : α} {l : List α} : (a0 :: a1 :: a2 :: a3 :: a4 :: a5 :: a6 :: a7 :: a8 :: a9 :: a10 :: a11 :: a12 :: a13 :: a14 :: a15 :: a16 :: a17 :: a18 :: a19 :: a20 :: l).set 20 z = a0 :: a1 :: a2 :: a3 :: a4 :: a5 :: a6 :: a7 :: a8 :: a9 :: a10 :: a11 :: a12 :: a13 :: a14 :: a15 :: a16 :: a17 :: a18 :: a19 :: z :: l := rfl
theorem e_get21 {α : Type} {a0 a1 a2 a3 a4 a5 a6 a7 a8 a9 a10 a11 a12 a13 a14 a15 a16 a17 a18 a19 a20 a21 : α} {l : List α} : (a0 :: a1 :: a2 :: a3 :: a4 :: a5 :: a6 :: a7 :: a8 :: a9 :: a10 :: a11 :: a12 :: a13 :: a14 :: a15 :: a16 :: a17 :: a18 :: a19 :: a20 :: a21 :: l)[21]? = some a21 := rfl
theorem e_set21 {α : Type} {a0 a1 a2 a3 a4 a5 a6 a7 a8 a9 a10 a11 a12 a13 a14 a15 a16 a17 a18 a19 a20 a21 z : α} {l : List α} : (a0 :: a1 :: a2 :: a3 :: a4 :: a5 :: a6 :: a7 :: a8 :: a9 :: a10 :: a11 :: a12 :: a13 :: a14 :: a15 :: a16 :: a17 :: a18 :: a19 :: a20 :: a21 :: l).set 21 z = a0 :: a1 :: a2 :: a3 :: a4 :: a5 :: a6 :: a7 :: a8 :: a9 :: a10 :: a11 :: a12 :: a13 :: a14 :: a15 :: a16 :: a17 :: a18 :: a19 :: a20 :: z :: l := rfl
theorem e_get22 {α : Type} {a0 a1 a2 a3 a4 a5 a6 a7 a8 a9 a10 a11 a12 a13 a14 a15 a16 a17 a18 a19 a20 a21 a22 : α} {l : List α} : (a0 :: a1 :: a2 :: a3 :: a4 :: a5 :: a6 :: a7 :: a8 :: a9 :: a10 :: a11 :: a12 :: a13 :: a14 :: a15 :: a16 :: a17 :: a18 :: a19 :: a20 :: a21 :: a22 :: l)[22]? = some a22 := rfl
theorem e_set22 {α : Type} {a0 a1 a2 a3 a4 a5 a6 a7 a8 a9 a10 a11 a12 a13 a14 a15 a16 a17 a18 a19 a20 a21 a22 z : α} {l : List α} : (a0 :: a1 :: a2 :: a3 :: a4 :: a5 :: a6 :: a7 :: a8 :: a9 :: a10 :: a11 :: a12 :: a13 :: a14 :: a15 :: a16 :: a17 :: a18 :: a19 :: a20 :: a21 :: a22 :: l).set 22 z = a0 :: a1 :: a2 :: a3 :: a4 :: a5 :: a6 :: a7 :: a8 :: a9 :: a10 :: a11 :: a12 :: a13 :: a14 :: a15 :: a16 :: a17 :: a18 :: a19 :: a20 :: a21 :: z :: l := rfl
theorem e_get23 {α : Type} {a0 a1 a2 a3 a4 a5 a6 a7 a8 a9 a10 a11 a12 a13 a14 a15 a16 a17 a18 a19 a20 a21 a22 a23 : α} {l : List α} : (a0 :: a1 :: a2 :: a3 :: a4 :: a5 :: a6 :: a7 :: a8 :: a9 :: a10 :: a11 :: a12 :: a13 :: a14 :: a15 :: a16 :: a17 :: a18 :: a19 :: a20 :: a21 :: a22 :: a23 :: l)[23]? = some a23 := rfl
theorem e_set23 {α : Type} {a0 a1 a2 a3 a4 a5 a6 a7 a8 a9 a10 a11 a12 a13 a14 a15 a16 a17 a18 a19 a20 a21 a22 a23 z : α} {l : List α} : (a0 :: a1 :: a2 :: a3 :: a4 :: a5 :: a6 :: a7 :: a8 :: a9 :: a10 :: a11 :: a12 :: a13 :: a14 :: a15 :: a16 :: a17 :: a18 :: a19 :: a20 :: a21 :: a22 :: a23 :: l).set 23 z = a0 :: a1 :: a2 :: a3 :: a4 :: a5 :: a6 :: a7 :: a8 :: a9 :: a10 :: a11 :: a12 :: a13 :: a14 :: a15 :: a16 :: a17 :: a18 :: a19 :: a20 :: a21 :: a22 :: z :: l := rfl
theorem e_get24 {α : Type} {a0 a1 a2 a3 a4 a5 a6 a7 a8 a9 a10 a11 a12 a13 a14 a15 a16 a17 a18 a19 a20 a21 a22 a23 a24 : α} {l : List α} : (a0 :: a1 :: a2 :: a3 :: a4 :: a5 :: a6 :: a7 :: a8 :: a9 :: a10 :: a11 :: a12 :: a13 :: a14 :: a15 :: a16 :: a17 :: a18 :: a19 :: a20 :: a21 :: a22 :: a23 :: a24 :: l)[24]? = some a24 := rfl
theorem e_set24 {α : Type} {a0 a1 a2 a3 a4 a5 a6 a7 a8 a9 a10 a11 a12 a13 a14 a15 a16 a17 a18 a19 a20 a21 a22 a23 a24 z : α} {l : List α} : (a0 :: a1 :: a2 :: a3 :: a4 :: a5 :: a6 :: a7 :: a8 :: a9 :: a10 :: a11 :: a12 :: a13 :: a14 :: a15 :: a16 :: a17 :: a18 :: a19 :: a20 :: a21 :: a22 :: a23 :: a24 :: l).set 24 z = a0 :: a1 :: a2 :: a3 :: a4 :: a5 :: a6 :: a7 :: a8 :: a9 :: a10 :: a11 :: a12 :: a13 :: a14 :: a15 :: a16 :: a17 :: a18 :: a19 :: a20 :: a21 :: a22 :: a23 :: z :: l := rfl
theorem e_get25 {α : Type} {a0 a1 a2 a3 a4 a5 a6 a7 a8 a9 a10 a11 a12 a13 a14 a15 a16 a17 a18 a19 a20 a21 a22 a23 a24 a25 : α} {l : List α} : (a0 :: a1 :: a2 :: a3 :: a4 :: a5 :: a6 :: a7 :: a8 :: a9 :: a10 :: a11 :: a12 :: a13 :: a14 :: a15 :: a16 :: a17 :: a18 :: a19 :: a20 :: a21 :: a22 :: a23 :: a24 :: a25 :: l)[25]? = some a25 := rfl
theorem e_set25 {α : Type} {a0 a1 a2 a3 a4 a5 a6 a7 a8 a9 a10 a11 a12 a13 a14 a15 a16 a17 a18 a19 a20 a21 a22 a23 a24 a25 z : α} {l : List α} : (a0 :: a1 :: a2 :: a3 :: a4 :: a5 :: a6 :: a7 :: a8 :: a9 :: a10 :: a11 :: a12 :: a13 :: a14 :: a15 :: a16 :: a17 :: a18 :: a19 :: a20 :: a21 :: a22 :: a23 :: a24 :: a25 :: l).set 25 z = a0 :: a1 :: a2 :: a3 :: a4 :: a5 :: a6 :: a7 :: a8 :: a9 :: a10 :: a11 :: a12 :: a13 :: a14 :: a15 :: a16 :: a17 :: a18 :: a19 :: a20 :: a21 :: a22 :: a23 :: a24 :: z :: l := rfl
section
variable {x y : PD} {xs ys : List PD} {i j : Int} {l u : Option Int} {R : DV → Prop} {Pl : List PD → Prop} {a b : Str}
theorem e_zp : zpD [.d x, .d y] Pl = seqD (.d x) fun xs => seqD (.d y) fun ys => Pl (List.zipWith (fun a b => .tuple [a, b]) xs ys) := rfl
theorem e_slT : gSl (.d (.tuple xs)) l u R = R (.d (.tuple (cutL xs l u))) := rfl
theorem e_slL : gSl (.d (.list xs)) l u R = R (.d (.list (cutL xs l u))) := rfl
theorem e_max1 : bMax1 [.d x] R = ∃ ns, seqInts x = some ns ∧ ns ≠ [] ∧ ∀ m ∈ ns, (∀ y ∈ ns, y ≤ m) → R (.d (.int m)) := rfl
theorem e_min1 : bMin1 [.d x] R = ∃ ns, seqInts x = some ns ∧ ns ≠ [] ∧ ∀ m ∈ ns, (∀ y ∈ ns, m ≤ y) → R (.d (.int m)) := rfl
theorem e_addT : gAdd (.d (.tuple xs)) (.d (.tuple ys)) R = (xs.length + ys.length ≤ 100000 ∧ R (.d (.tuple (xs ++ ys)))) := rfl
theorem e_addL : gAdd (.d (.list xs)) (.d (.list ys)) R = (xs.length + ys.length ≤ 100000 ∧ R (.d (.list (xs ++ ys)))) := rfl
theorem e_addS : gAdd (.d (.str a)) (.d (.str b)) R = (a.length + b.length ≤ 100000 ∧ R (.d (.str (a ++ b)))) := rfl
theorem e_mulT : gMul (.d (.tuple xs)) (.d (.int i)) R = ((-100000 ≤ i ∧ i ≤ 100000) ∧ xs.length * i.toNat ≤ 100000 ∧ R (.d (.tuple (List.replicate i.toNat xs).flatten))) := rfl
theorem e_onIs : onI' (.d (.int i)) (fun z => R (.d (.int z))) = R (.d (.int i)) := rfl
theorem e_eqN : gEq (.d (.list xs)) (.d (.list [])) R = (Sh (.list xs) ∧ R (.d (.bool xs.isEmpty))) := by
  apply propext
  show (Sh _ ∧ Sh _ ∧ R (.d (.bool (PyData.eqv (.list xs) (.list []))))) ↔ _
  rw [eqv_nil]
  exact ⟨fun h => ⟨h.1, h.2.2⟩, fun h => ⟨h.1, rfl, h.2⟩⟩
theorem e_neN : gNe (.d (.list xs)) (.d (.list [])) R = (Sh (.list xs) ∧ R (.d (.bool (!xs.isEmpty)))) := by
  apply propext
  show (Sh _ ∧ Sh _ ∧ R (.d (.bool (!PyData.eqv (.list xs) (.list []))))) ↔ _
  rw [eqv_nil]
  exact ⟨fun h => ⟨h.1, h.2.2⟩, fun h => ⟨h.1, rfl, h.2⟩⟩
theorem e_eqNT : gEq (.d (.tuple xs)) (.d (.tuple [])) R = (Sh (.tuple xs) ∧ R (.d (.bool xs.isEmpty))) := by
  apply propext
  show (Sh _ ∧ Sh _ ∧ R (.d (.bool (PyData.eqv (.tuple xs) (.tuple []))))) ↔ _
  rw [eqv_nilT]
  exact ⟨fun h => ⟨h.1, h.2.2⟩, fun h => ⟨h.1, rfl, h.2⟩⟩
theorem e_neNT : gNe (.d (.tuple xs)) (.d (.tuple [])) R = (Sh (.tuple xs) ∧ R (.d (.bool (!xs.isEmpty)))) := by
  apply propext
  show (Sh _ ∧ Sh _ ∧ R (.d (.bool (!PyData.eqv (.tuple xs) (.tuple []))))) ↔ _
  rw [eqv_nilT]
  exact ⟨fun h => ⟨h.1, h.2.2⟩, fun h => ⟨h.1, rfl, h.2⟩⟩
theorem e_siL : seqInts (.list xs) = asInts xs := rfl
theorem e_siT : seqInts (.tuple xs) = asInts xs := rfl
end
section
variable {F : Fn} {gD : List DV → List DV → List DV} {ρ : List Sl} {R : DV → Prop} {E : EK}
theorem e_call0 : dCall F aNil ρ R E = F [] R E := rfl
theorem e_call1 {f0 : DE} : dCall F (aCons f0 aNil) ρ R E = f0 ρ (fun a0 => F [a0] R E) E := rfl
theorem e_callk1 {f0 : DE} : dCallK F gD aNil (aCons f0 aNil) ρ R E = f0 ρ (fun a0 => F (gD [] [a0]) R E) E := rfl
theorem e_call2 {f0 f1 : DE} : dCall F (aCons f0 (aCons f1 aNil)) ρ R E = f0 ρ (fun a0 => f1 ρ (fun a1 => F [a0, a1] R E) E) E := rfl
theorem e_callk2 {f0 f1 : DE} : dCallK F gD aNil (aCons f0 (aCons f1 aNil)) ρ R E = f0 ρ (fun a0 => f1 ρ (fun a1 => F (gD [] [a0, a1]) R E) E) E := rfl
theorem e_call3 {f0 f1 f2 : DE} : dCall F (aCons f0 (aCons f1 (aCons f2 aNil))) ρ R E = f0 ρ (fun a0 => f1 ρ (fun a1 => f2 ρ (fun a2 => F [a0, a1, a2] R E) E) E) E := rfl
theorem e_callk3 {f0 f1 f2 : DE} : dCallK F gD aNil (aCons f0 (aCons f1 (aCons f2 aNil))) ρ R E = f0 ρ (fun a0 => f1 ρ (fun a1 => f2 ρ (fun a2 => F (gD [] [a0, a1, a2]) R E) E) E) E := rfl
theorem e_call4 {f0 f1 f2 f3 : DE} : dCall F (aCons f0 (aCons f1 (aCons f2 (aCons f3 aNil)))) ρ R E = f0 ρ (fun a0 => f1 ρ (fun a1 => f2 ρ (fun a2 => f3 ρ (fun a3 => F [a0, a1, a2, a3] R E) E) E) E) E := rfl
theorem e_callk4 {f0 f1 f2 f3 : DE} : dCallK F gD aNil (aCons f0 (aCons f1 (aCons f2 (aCons f3 aNil)))) ρ R E = f0 ρ (fun a0 => f1 ρ (fun a1 => f2 ρ (fun a2 => f3 ρ (fun a3 => F (gD [] [a0, a1, a2, a3]) R E) E) E) E) E := rfl
theorem e_call5 {f0 f1 f2 f3 f4 : DE} : dCall F (aCons f0 (aCons f1 (aCons f2 (aCons f3 (aCons f4 aNil))))) ρ R E = f0 ρ (fun a0 => f1 ρ (fun a1 => f2 ρ (fun a2 => f3 ρ (fun a3 => f4 ρ (fun a4 => F [a0, a1, a2, a3, a4] R E) E) E) E) E) E := rfl
theorem e_callk5 {f0 f1 f2 f3 f4 : DE} : dCallK F gD aNil (aCons f0 (aCons f1 (aCons f2 (aCons f3 (aCons f4 aNil))))) ρ R E = f0 ρ (fun a0 => f1 ρ (fun a1 => f2 ρ (fun a2 => f3 ρ (fun a3 => f4 ρ (fun a4 => F (gD [] [a0, a1, a2, a3, a4]) R E) E) E) E) E) E := rfl
theorem e_call6 {f0 f1 f2 f3 f4 f5 : DE} : dCall F (aCons f0 (aCons f1 (aCons f2 (aCons f3 (aCons f4 (aCons f5 aNil)))))) ρ R E = f0 ρ (fun a0 => f1 ρ (fun a1 => f2 ρ (fun a2 => f3 ρ (fun a3 => f4 ρ (fun a4 => f5 ρ (fun a5 => F [a0, a1, a2, a3, a4, a5] R E) E) E) E) E) E) E := rfl
theorem e_callk6 {f0 f1 f2 f3 f4 f5 : DE} : dCallK F gD aNil (aCons f0 (aCons f1 (aCons f2 (aCons f3 (aCons f4 (aCons f5 aNil)))))) ρ R E = f0 ρ (fun a0 => f1 ρ (fun a1 => f2 ρ (fun a2 => f3 ρ (fun a3 => f4 ρ (fun a4 => f5 ρ (fun a5 => F (gD [] [a0, a1, a2, a3, a4, a5]) R E) E) E) E) E) E) E := rfl
theorem e_call7 {f0 f1 f2 f3 f4 f5 f6 : DE} : dCall F (aCons f0 (aCons f1 (aCons f2 (aCons f3 (aCons f4 (aCons f5 (aCons f6 aNil))))))) ρ R E = f0 ρ (fun a0 => f1 ρ (fun a1 => f2 ρ (fun a2 => f3 ρ (fun a3 => f4 ρ (fun a4 => f5 ρ (fun a5 => f6 ρ (fun a6 => F [a0, a1, a2, a3, a4, a5, a6] R E) E) E) E) E) E) E) E := rfl
theorem e_callk7 {f0 f1 f2 f3 f4 f5 f6 : DE} : dCallK F gD aNil (aCons f0 (aCons f1 (aCons f2 (aCons f3 (aCons f4 (aCons f5 (aCons f6 aNil))))))) ρ R E = f0 ρ (fun a0 => f1 ρ (fun a1 => f2 ρ (fun a2 => f3 ρ (fun a3 => f4 ρ (fun a4 => f5 ρ (fun a5 => f6 ρ (fun a6 => F (gD [] [a0, a1, a2, a3, a4, a5, a6]) R E) E) E) E) E) E) E) E := rfl
theorem e_call8 {f0 f1 f2 f3 f4 f5 f6 f7 : DE} : dCall F (aCons f0 (aCons f1 (aCons f2 (aCons f3 (aCons f4 (aCons f5 (aCons f6 (aCons f7 aNil)))))))) ρ R E = f0 ρ (fun a0 => f1 ρ (fun a1 => f2 ρ (fun a2 => f3 ρ (fun a3 => f4 ρ (fun a4 => f5 ρ (fun a5 => f6 ρ (fun a6 => f7 ρ (fun a7 => F [a0, a1, a2, a3, a4, a5, a6, a7] R E) E) E) E) E) E) E) E) E := rfl
theorem e_callk8 {f0 f1 f2 f3 f4 f5 f6 f7 : DE} : dCallK F gD aNil (aCons f0 (aCons f1 (aCons f2 (aCons f3 (aCons f4 (aCons f5 (aCons f6 (aCons f7 aNil)))))))) ρ R E = f0 ρ (fun a0 => f1 ρ (fun a1 => f2 ρ (fun a2 => f3 ρ (fun a3 => f4 ρ (fun a4 => f5 ρ (fun a5 => f6 ρ (fun a6 => f7 ρ (fun a7 => F (gD [] [a0, a1, a2, a3, a4, a5, a6, a7]) R E) E) E) E) E) E) E) E) E := rfl
theorem e_call9 {f0 f1 f2 f3 f4 f5 f6 f7 f8 : DE} : dCall F (aCons f0 (aCons f1 (aCons f2 (aCons f3 (aCons f4 (aCons f5 (aCons f6 (aCons f7 (aCons f8 aNil))))))))) ρ R E = f0 ρ (fun a0 => f1 ρ (fun a1 => f2 ρ (fun a2 => f3 ρ (fun a3 => f4 ρ (fun a4 => f5 ρ (fun a5 => f6 ρ (fun a6 => f7 ρ (fun a7 => f8 ρ (fun a8 => F [a0, a1, a2, a3, a4, a5, a6, a7, a8] R E) E) E) E) E) E) E) E) E) E := rfl
theorem e_callk9 {f0 f1 f2 f3 f4 f5 f6 f7 f8 : DE} : dCallK F gD aNil (aCons f0 (aCons f1 (aCons f2 (aCons f3 (aCons f4 (aCons f5 (aCons f6 (aCons f7 (aCons f8 aNil))))))))) ρ R E = f0 ρ (fun a0 => f1 ρ (fun a1 => f2 ρ (fun a2 => f3 ρ (fun a3 => f4 ρ (fun a4 => f5 ρ (fun a5 => f6 ρ (fun a6 => f7 ρ (fun a7 => f8 ρ (fun a8 => F (gD [] [a0, a1, a2, a3, a4, a5, a6, a7, a8]) R E) E) E) E) E) E) E) E) E) E := rfl
end
section
variable {nx : List Sl → Prop} {rt : List Sl → DV → Prop} {bk ct : List Sl → Prop} {ex : List Sl → EK}
theorem e_nx : DEnds.nx ⟨nx, rt, bk, ct, ex⟩ = nx := rfl
theorem e_rt : DEnds.rt ⟨nx, rt, bk, ct, ex⟩ = rt := rfl
theorem e_bk : DEnds.bk ⟨nx, rt, bk, ct, ex⟩ = bk := rfl
theorem e_ct : DEnds.ct ⟨nx, rt, bk, ct, ex⟩ = ct := rfl
theorem e_exc : DEnds.ex ⟨nx, rt, bk, ct, ex⟩ = ex := rfl
end
end Wb
/-! WbS: set(xs) of a list of ints. -/
namespace Wb
open PySem PySem.Spec PyProof.Rows L2
section
variable {P : Program} {w : World} {A : Around} {E : Value → Shared → Prop} {s : Shared}
theorem call_set_listI {l : Addr} {items : Array Value} (ns : List Int) {Q : Value → Shared → Prop} (hh : A.handled = none) (hl : s.heap.IsList l items) (hit : IntsAre items.toList ns) (hb : ns.length + 1 < scanBound)
    (h : ∀ (h' : Heap) (tk c : Nat), SetR w h' s.heap.objs.size (fun j => decide (j ∈ ns)) c → c ≤ ns.length → (∀ b o, s.heap.get? b = some o → h'.get? b = some o) → Q (.ref s.heap.objs.size) { s with heap := h', toks := tk }) :
    wpAny (model P w) A (call (.type "set") [.ref l]) Q E s := by
  have hisz : items.size = ns.length := by
    have q := IntsAre.length hit
    rw [Array.length_toList] at q
    exact q
  obtain ⟨c, tl, hmro⟩ := F.called_set.mro
  have hmade := F.called_set.made
  have hsub := F.called_set.sub
  refine wpAny_call (codeAny_of_tree ?_)
  show wpAny _ _ (callAny (.type "set") _) _ _ _
  refine wpAny_pure ⟨Code.quiet_builtin _ (by decide +kernel), codeAny_builtin F.entry_type_call ?_⟩
  rw [Around.under_plain (weight_type_call_type "set" [.ref l] []) rfl]
  have h1 := F.called_set.notType
  have h2 := F.called_set.canCreate
  have hct := F.typeCall_set_1 (.ref l)
  repeat (any_goals (first | assumption | wp_step))
  refine codeAny_mono (code_set_led1 (.ref l) (E := E) (Q₁ := fun obj s₁ => obj = .ref s.heap.objs.size ∧ s₁ = { s with heap := s.heap.push { cls := .type "set", dict := none, data := .set #[] 0 (.fresh 0 0 (!w.params.followText "set-order")) } }) ⟨rfl, rfl⟩) fun r s₁ hr => ?_
  cases r with
  | error e => exact hr
  | ok fl =>
    cases fl with
    | ret obj =>
      obtain ⟨rfl, rfl⟩ := hr
      have hS : (s.heap.push { cls := .type "set", dict := none, data := .set #[] 0 (.fresh 0 0 (!w.params.followText "set-order")) }).get? s.heap.objs.size = some { cls := .type "set", dict := none, data := .set #[] 0 (.fresh 0 0 (!w.params.followText "set-order")) } := Heap.get?_push_size _ rfl
      have hT : Shared.TypeIs { s with heap := s.heap.push { cls := .type "set", dict := none, data := .set #[] 0 (.fresh 0 0 (!w.params.followText "set-order")) } } (.ref s.heap.objs.size) "set" := ⟨_, hS, rfl⟩
      have hli := F.called_set.init.lookup
      have hbi := F.called_set.init.bind (.ref s.heap.objs.size)
      repeat (any_goals (first | assumption | wp_step))
      refine codeAny_mono (codeAny_call_builtin (R := wants (fun r s₂ => r = .none ∧ ∃ h' tk c, s₂ = { s with heap := h', toks := tk } ∧ SetR w h' s.heap.objs.size (fun j => decide (j ∈ ns)) c ∧ c ≤ ns.length ∧
          (∀ b o, s.heap.get? b = some o → h'.get? b = some o)) E) F.called_set.init.plain F.entry_set_init (check_set_init_1 hT ?_)) fun r₂ s₂ hr₂ => ?_
      · obtain ⟨⟨ocls, odict, odata, oslots⟩, hol, hcl, nl, hdl⟩ := hl
        simp only at hcl hdl
        subst hcl hdl
        have hol' : (s.heap.push { cls := .type "set", dict := none, data := .set #[] 0 (.fresh 0 0 (!w.params.followText "set-order")) }).get? l = some { cls := .type "list", dict := odict, data := .seq items nl, slots := oslots } := Heap.get?_push_of_some _ hol
        have hsls := F.sub_list_set
        have hslf := F.sub_list_frozenset
        have hne : (Value.type "list" == Value.type "dict") = false := by decide
        have hl1 : (s.heap.push { cls := .type "set", dict := none, data := .set #[] 0 (.fresh 0 0 (!w.params.followText "set-order")) }).IsList l items := ⟨_, hol', rfl, nl, rfl⟩
        unfold Builtin.«set.__init__» noKeywords Builtin.Frozenset.updateFrom
        generalize hPI : pyIter = PI
        wp_walk
        subst hPI
        refine wpAny_pyIter_list hl1 ?_
        refine wpAny_bind (wpAny_runValue ?_)
        have hlS : l < s.heap.objs.size := Heap.lt_size hol
        have hh3 : A.in1.in1.in1.handled = none := by simp [hh]
        have hz : (s.heap.push { cls := .type "set", dict := none, data := .set #[] 0 (.fresh 0 0 (!w.params.followText "set-order")) }).objs.size = s.heap.objs.size + 1 := Heap.size_push ..
        have hneI : l ≠ (s.heap.push { cls := .type "set", dict := none, data := .set #[] 0 (.fresh 0 0 (!w.params.followText "set-order")) }).objs.size := by
          rw [Heap.size_push]; exact Nat.ne_of_lt (Nat.lt_succ_of_lt hlS)
        have hSf : s.heap.objs.size ∉ [(s.heap.push { cls := .type "set", dict := none, data := .set #[] 0 (.fresh 0 0 (!w.params.followText "set-order")) }).objs.size, l] := by
          rw [Heap.size_push]
          simp only [List.mem_cons, List.not_mem_nil, or_false, not_or]
          exact ⟨Nat.ne_of_lt (Nat.lt_succ_self _), Nat.ne_of_gt hlS⟩
        have hval : ∀ (i : Nat) (v : Value), items[i]? = some v → ∃ k t, ns[i]? = some k ∧ v = .int k t := fun i v hv => by
          have hi : i < ns.length := by rw [← hisz]; exact (Array.getElem?_eq_some_iff.mp hv).1
          obtain ⟨t, e⟩ := PyProof.Rows.IntsAre.int_at hit i v (by rw [Array.getElem?_toList]; exact hv)
          refine ⟨ns[i], t, List.getElem?_eq_getElem hi, ?_⟩
          rw [e, List.getD_eq_getElem?_getD, List.getElem?_eq_getElem hi] <;> rfl
        refine set_update_ints ((Walks.list hh3 _ l hneI items).toS) s.heap.objs.size hSf ns hisz hb hval (items.size - 0) 0 _ (by omega) (Nat.zero_le _) ⟨⟨_, Heap.get?_push_size _ rfl, rfl, rfl⟩, (hl1.push _)⟩ ⟨0, Nat.le_refl 0, ?_⟩ ?_
        · refine setR_new_at ?_
          exact Heap.get?_push_of_some _ hS
        · rintro ⟨h', g2, d', tk', os'⟩ c' hm hc' hS'
          have eg : g2 = s.gens := hm.gens
          have ed : d' = s.drawn := hm.drawn
          have eo : os' = s.os := hm.os
          subst eg ed eo
          show wpAny _ _ _ _ _ _
          refine wpAny_pure ?_
          show wpAny _ _ (ret Value.none) _ _ _
          rw [hisz] at hc'
          refine wpAny_pure ⟨rfl, h', tk', c', rfl, hS', hc', fun b o e => ?_⟩
          have hb0 : b < s.heap.objs.size := Heap.lt_size e
          have hb1 : b ≠ s.heap.objs.size := Nat.ne_of_lt hb0
          have hb2 : b ≠ (s.heap.push { cls := .type "set", dict := none, data := .set #[] 0 (.fresh 0 0 (!w.params.followText "set-order")) }).objs.size := by
            rw [Heap.size_push]; exact Nat.ne_of_lt (Nat.lt_succ_of_lt hb0)
          refine hm.heap b o ?_ (Heap.get?_push_of_some _ (Heap.get?_push_of_some _ e))
          simp only [List.mem_cons, List.not_mem_nil, or_false, not_or]
          exact ⟨hb1, hb2⟩
      · cases r₂ with
        | error e => exact hr₂
        | ok fl₂ =>
          cases fl₂ with
          | ret r =>
            obtain ⟨rfl, h', tk, c', rfl, hS', hc', hk'⟩ := hr₂
            repeat (any_goals (first | assumption | wp_step))
            exact h _ _ _ hS' hc' hk'
          | _ => exact hr₂.elim
    | _ => exact hr.elim
end
end Wb
/-! Wb16: sorted(set(..)), lists times a number as one's own, index. -/
namespace Wb
open PySem PySem.Spec PyProof.Rows L2
section
variable {X : Cx} {n : En} {W : WX} {κ κ' κ2 κi κt κe κf k k' : Nat} {e a b c elt tg iter : Expr} {es ifs : List Expr} {pos : Pos} {f h g : DE} {fa fk : DA} {t u : DT} {fi fn fm : DN}
def rSetL (K : Frag) (w : World) : List V → Hp → VK → Prop := fun vs H Q => ∃ (l : Addr) (ns : List Int), vs = [V.ref l] ∧ SqL K H l (ns.map V.int) ∧ ns.length < 64 ∧
  ∀ (p : Addr) (c : Nat), H p = none → c ≤ ns.length → Q (.ref p) (upd H p (SetO w p (fun j => decide (j ∈ ns)) c))
theorem cr_setL (hc : X.calm = true) : CallR X (.type "set") (rSetL X.K X.w) := by
  intro pins s σ H vs us Q I r h
  obtain ⟨l, ns, rfl, hq, hl, q⟩ := h
  rw [Vals.ref1 r]
  obtain ⟨its, rv, pl, hz⟩ := I.list hq
  refine call_set_listI ns (I.ok.hd hc) pl.isList (by simpa using rv.ints) (by unfold scanBound; omega) fun h' tk c hS hcl hk => ?_
  exact ⟨.ref _, upd H s.heap.objs.size (SetO X.w s.heap.objs.size (fun j => decide (j ∈ ns)) c), I.laid (t' := tk) (fun b o e => hk b o e) (Nat.le_refl _) (setO_new hS), rfl, q _ c (I.hok.fresh (Nat.le_refl _)) hcl⟩
theorem b_sorted : bootBuiltins "sorted" = some (.builtin "sorted") := by first | rfl | kernel_rfl
theorem b_set : bootBuiltins "set" = some (.type "set") := by first | rfl | kernel_rfl
def listInts : DV → Option (List Int)
  | .d (.list xs) => asInts xs
  | _ => none
/-- sorted(set(xs)) -/
def nSs (f : DE) : DN := fun ρ R E => f ρ (fun x => ∃ ns, listInts x = some ns ∧ ns.length < 64 ∧ ∀ ms : List Int, ms.Pairwise (· < ·) → (∀ k, k ∈ ms ↔ k ∈ ns) → R (ms.map .int)) E
/-- sorted(xs) -/
def nSd (f : DE) : DN := fun ρ R E => f ρ (fun x => ∃ ns, listInts x = some ns ∧ ns.length < 64 ∧ ∀ ms : List Int, ms.Perm ns → ms.Pairwise (· ≤ ·) → R (ms.map .int)) E
theorem listInts_of {K : Frag} {S H : Hp} {v : V} {x : DV} {ns : List Int} (sm : Same S H) (d : RdOk K n S H v x) (h : listInts x = some ns) : ∃ a, v = .ref a ∧ SqL K H a (ns.map V.int) := by
  match x, h with
  | .d (.list xs), h =>
    obtain ⟨p, vs, rfl, hp, hd⟩ := d.items sm
    rw [ints_of hd h] at hp
    exact ⟨p, rfl, SqL.of hp⟩
theorem jn_sortset {p p2 q : Pos} (C : Cok X n W k) (hm : X.mg "sorted" = none) (hm2 : X.mg "set" = none) (ha : JO X n W κ a f) (hg : Gl X "sorted" := by rfl) (hg2 : Gl X "set" := by rfl)
    (ha1 : starEach [a] X.env = (false, eval a X.env) :: starEach [] X.env := by rfl) (hp1 : (backTo q (starEach [] X.env)).any (·.1) = false := by rfl)
    (ha2 : starEach [Expr.Call (.Name "set" p2) [a] [] q] X.env = (false, eval (Expr.Call (.Name "set" p2) [a] [] q) X.env) :: starEach [] X.env := by rfl) (hp2 : (backTo pos (starEach [] X.env)).any (·.1) = false := by rfl) :
    JN X n W κ (.Call (.Name "sorted" p) [.Call (.Name "set" p2) [a] [] q] [] pos) (nSs f) := by
  refine PE.to (pe_callB (cr_sortedSet C.calm) hg hm b_sorted (pa_cons (pe_callTy (cr_setL C.calm) hg2 hm2 b_set (pa_cons ha pa_nil ha1) (by decide) (by decide) ha1 hp1) pa_nil ha2) (by decide) (by decide) ha2 hp2) fun σ H Q ⟨m, S, ρ, R, Er, st, hf, kR, kE⟩ => ⟨m, S, ρ, _, Er, st, hf, fun x v S1 H1 hx st1 p1 d1 => ?_, kE⟩
  obtain ⟨ns, e, hl, hr⟩ := hx
  obtain ⟨l, rfl, hs⟩ := listInts_of st1.wd.sm d1 e
  refine ⟨l, ns, rfl, hs, hl, fun p c hp hc => ?_⟩
  have g1 := Grow.beside (o := SetO X.w p (fun j => decide (j ∈ ns)) c) st1.wd.sm hp
  refine ⟨p, _, c, rfl, upd_same, by omega, fun ms q h1 h2 _ hq => ?_⟩
  have g2 := Grow.beside (o := .lst (ms.map V.int)) g1.sm hq
  have hq0 : H q = none := by
    cases z : H q with
    | none => rfl
    | some o => exact absurd hq (g1.po.al q (p1.al q (by rw [z]; exact Option.some_ne_none _)))
  exact kR _ q _ _ _ (hr ms h1 fun k => by rw [h2 k]; simp) ((st1.grow g1).grow g2) ((p1.trans g1.po.wk).trans g2.po.wk) hq0 (g1.sm.free hq) upd_same (DqAll.ints ms)
theorem jn_sorted {p : Pos} (C : Cok X n W k) (hm : X.mg "sorted" = none) (ha : JO X n W κ a f) (hg : Gl X "sorted" := by rfl)
    (ha1 : starEach [a] X.env = (false, eval a X.env) :: starEach [] X.env := by rfl) (hp1 : (backTo pos (starEach [] X.env)).any (·.1) = false := by rfl) :
    JN X n W κ (.Call (.Name "sorted" p) [a] [] pos) (nSd f) := by
  refine PE.to (pe_callB cr_sorted hg hm b_sorted (pa_cons ha pa_nil ha1) (by decide) (by decide) ha1 hp1) fun σ H Q ⟨m, S, ρ, R, Er, st, hf, kR, kE⟩ => ⟨m, S, ρ, _, Er, st, hf, fun x v S1 H1 hx st1 p1 d1 => ?_, kE⟩
  obtain ⟨ns, e, hl, hr⟩ := hx
  obtain ⟨l, rfl, hs⟩ := listInts_of st1.wd.sm d1 e
  refine ⟨l, ns, rfl, hs, hl, fun ms q h1 h2 hq => ?_⟩
  have g2 := Grow.beside (o := .lst (ms.map V.int)) st1.wd.sm hq
  have hq0 : H q = none := by
    cases z : H q with
    | none => rfl
    | some o => exact absurd hq (p1.al q (by rw [z]; exact Option.some_ne_none _))
  exact kR _ q _ _ _ (hr ms h1 h2) (st1.grow g2) (p1.trans g2.po.wk) hq0 (st1.wd.sm.free hq) upd_same (DqAll.ints ms)
/-- xs * k, as one's own -/
def nRep (f h : DE) : DN := fun ρ R E => f ρ (fun x => h ρ (fun y => match x, y with
  | .d (.list xs), .d (.int k) => k ≤ 100000 ∧ -100000 ≤ k ∧ xs.length * k.toNat ≤ 100000 ∧ R (List.replicate k.toNat xs).flatten
  | _, _ => False) E) E
theorem jn_rep (ha : JO X n W κ a f) (hb : JO X n W κ' b h) : JN X n W (κ + κ') (.BinOp a .Mult b pos) (nRep f h) := by
  refine PE.to (pe_op op_rep ha hb) fun σ H Q ⟨m, S, ρ, R, Er, st, hf, kR, kE⟩ => ⟨m + κ', S, ρ, _, Er, st_split st, hf, fun x v S1 H1 hx st1 p1 d1 => ?_, fun c x cls dx S' H' e s' er => kE c x cls dx S' H' e (st_down s') er⟩
  refine ⟨m, S1, ρ, _, Er, st1, hx, fun y u S2 H2 hy st2 p2 d2 => ?_, ke_af p1.sS kE⟩
  match x, y, hy with
  | .d (.list xs), .d (.int k), ⟨h1, h0, hl, hr⟩ =>
    obtain ⟨p, vs, rfl, hp, hd⟩ := (d1.post p2).items st2.wd.sm
    have e := d2.int
    subst e
    refine ⟨p, k, vs, rfl, rfl, hp, by omega, by omega, line5 (by rw [hd.len]; exact hl), fun q hq => ?_⟩
    have g := Grow.beside (o := .lst (List.replicate k.toNat vs).flatten) st2.wd.sm hq
    have po := p1.trans p2
    have hq0 : H q = none := by
      cases z : H q with
      | none => rfl
      | some o => exact absurd hq (po.al q (by rw [z]; exact Option.some_ne_none _))
    exact kR _ q _ _ _ hr (st2.grow g) (po.trans g.po.wk) hq0 (st2.wd.sm.free hq) upd_same (repl_dq hd _)
end
end Wb
/-! Wb17: lemmas for walking by rule. -/
namespace Wb
open PySem PySem.Spec PyProof.Rows L2
theorem e_mapA {α β : Type} {f : α → β} {a b : List α} : a.map f ++ b.map f = (a ++ b).map f := List.map_append.symm
theorem e_mapS {α β : Type} {f : α → β} {a : List α} {b : α} : a.map f ++ [f b] = (a ++ [b]).map f := by rw [List.map_append]; rfl
theorem e_liI {l : List Int} : listInts (.d (.list (l.map .int))) = some l := asInts_map l
theorem e_liN : listInts (.d (.list [])) = some [] := rfl
theorem a_push {b : Bool} {y : PD} {P : Option PD → Prop} (h : P (if b = true then some y else none)) : if b = true then P (some y) else P none := by
  cases b <;> exact h
theorem a_push' {b : Bool} {y : PD} {P : Option PD → Prop} (h : P (if (!b) = true then some y else none)) : if b = true then P none else P (some y) := by
  cases b <;> exact h
section
variable {α : Type} {gd : DG} {t : DT} {f : DE} {ρ : List Sl} {R : List PD → Prop}
theorem lcD_testI (enc : α → PD) (p : α → Bool) (h : α → Int) {l : List α} (hb : ∀ x ∈ l, ∀ P : Option PD → Prop, P (if p x = true then some (.int (h x)) else none) → gd (enc x) ρ fun ρ1 => t ρ1 (fun b => if b = true then f ρ1 (fun y => onD y fun d => P (some d)) noE else P none) noE)
    (hR : R (((l.filter p).map h).map .int)) : lcD gd t f ρ (l.map enc) R :=
  lcD_test enc p (fun x => .int (h x)) hb (by rw [List.map_map] at hR; exact hR)
theorem lcD_allI (enc : α → PD) (h : α → Int) {l : List α} (hb : ∀ x ∈ l, ∀ P : PD → Prop, P (.int (h x)) → gd (enc x) ρ fun ρ1 => f ρ1 (fun y => onD y P) noE)
    (hR : R ((l.map h).map .int)) : lcD gd tTrue f ρ (l.map enc) R :=
  lcD_all enc (fun x => .int (h x)) hb (by rw [List.map_map] at hR; exact hR)
theorem lcD_allB (enc : α → PD) (h : α → Bool) {l : List α} (hb : ∀ x ∈ l, ∀ P : PD → Prop, P (.bool (h x)) → gd (enc x) ρ fun ρ1 => f ρ1 (fun y => onD y P) noE)
    (hR : R ((l.map h).map .bool)) : lcD gd tTrue f ρ (l.map enc) R :=
  lcD_all enc (fun x => .bool (h x)) hb (by rw [List.map_map] at hR; exact hR)
end
/-- an entry of a list told by a map -/
theorem at_map {α : Type} [Inhabited α] {enc : α → PD} {l : List α} {i : Int} {R : PD → Prop} (h0 : 0 ≤ i) (h1 : i < l.length) (h : R (enc (l.getD i.toNat default))) : ∃ y, atI (l.map enc) i = some y ∧ R y := by
  refine ⟨_, atI_map' enc (by rw [atI_get0 h0 h1]; exact List.getElem?_eq_getElem (by omega)), ?_⟩
  have : l.getD i.toNat default = l[i.toNat]'(by omega) := by
    rw [List.getD_eq_getElem?_getD, List.getElem?_eq_getElem (by omega)]; rfl
  rw [this] at h
  exact h
/-- a loop that folds: mk lays a state and what stands in the slots of no account -/
theorem loopD_st {α σ J : Type} {gd : DG} {b : DS} {D : DEnds} (enc : α → PD) (mk : σ → J → List Sl) (f : σ → α → σ) (I : List α → σ → Prop)
    (hs : ∀ x l s j (P : List Sl → Prop), I (x :: l) s → (∀ j, P (mk (f s x) j)) → gd (enc x) (mk s j) fun ρ => b { D with nx := P, ct := P, bk := D.nx } ρ)
    (hi : ∀ x l s, I (x :: l) s → I l (f s x)) : ∀ (l : List α) (s : σ) (j : J), I l s → (I [] (l.foldl f s) → ∀ j, D.nx (mk (l.foldl f s) j)) → loopD gd b D (l.map enc) (mk s j)
  | [], s, j, hI, h => h hI j
  | x :: l, s, j, hI, h => by
    rw [List.map_cons]
    unfold loopD
    exact hs x l s j _ hI fun j => loopD_st enc mk f I hs hi l (f s x) j (hi x l s hI) h
/-- a loop over a list of no account -/
theorem loopD_n {σ J : Type} {gd : DG} {b : DS} {D : DEnds} (mk : σ → J → List Sl) (f : σ → σ) (I : Nat → σ → Prop)
    (hs : ∀ x k s j (P : List Sl → Prop), I (k + 1) s → (∀ j, P (mk (f s) j)) → gd x (mk s j) fun ρ => b { D with nx := P, ct := P, bk := D.nx } ρ)
    (hi : ∀ k s, I (k + 1) s → I k (f s)) : ∀ (l : List PD) (s : σ) (j : J), I l.length s → (I 0 (Nat.repeat f l.length s) → ∀ j, D.nx (mk (Nat.repeat f l.length s) j)) → loopD gd b D l (mk s j)
  | [], s, j, hI, h => h hI j
  | x :: l, s, j, hI, h => by
    unfold loopD
    have e : ∀ (n : Nat) (s : σ), Nat.repeat f (n + 1) s = Nat.repeat f n (f s) := fun n => by
      induction n with
      | zero => intro s; rfl
      | succ n ih => intro s; show f (Nat.repeat f (n + 1) s) = f (Nat.repeat f n (f s)); rw [ih]
    refine hs x l.length s j _ hI fun j => loopD_n mk f I hs hi l (f s) j (hi _ s hI) ?_
    rw [List.length_cons, e] at h
    exact h
theorem t_int_int (i : Int) : subTy (tyD (.int i)) "int" = true := by first | rfl | decide | (simp [subTy, tyD])
theorem t_int_bool (i : Int) : subTy (tyD (.int i)) "bool" = false := by first | rfl | decide | (simp [subTy, tyD])
theorem t_int_tuple (i : Int) : subTy (tyD (.int i)) "tuple" = false := by first | rfl | decide | (simp [subTy, tyD])
theorem t_int_list (i : Int) : subTy (tyD (.int i)) "list" = false := by first | rfl | decide | (simp [subTy, tyD])
theorem t_int_str (i : Int) : subTy (tyD (.int i)) "str" = false := by first | rfl | decide | (simp [subTy, tyD])
theorem t_bool_int (b : Bool) : subTy (tyD (.bool b)) "int" = true := by first | rfl | decide | (simp [subTy, tyD])
theorem t_bool_bool (b : Bool) : subTy (tyD (.bool b)) "bool" = true := by first | rfl | decide | (simp [subTy, tyD])
theorem t_bool_tuple (b : Bool) : subTy (tyD (.bool b)) "tuple" = false := by first | rfl | decide | (simp [subTy, tyD])
theorem t_bool_list (b : Bool) : subTy (tyD (.bool b)) "list" = false := by first | rfl | decide | (simp [subTy, tyD])
theorem t_bool_str (b : Bool) : subTy (tyD (.bool b)) "str" = false := by first | rfl | decide | (simp [subTy, tyD])
theorem t_none_int  : subTy (tyD (.none)) "int" = false := by first | rfl | decide | (simp [subTy, tyD])
theorem t_none_bool  : subTy (tyD (.none)) "bool" = false := by first | rfl | decide | (simp [subTy, tyD])
theorem t_none_tuple  : subTy (tyD (.none)) "tuple" = false := by first | rfl | decide | (simp [subTy, tyD])
theorem t_none_list  : subTy (tyD (.none)) "list" = false := by first | rfl | decide | (simp [subTy, tyD])
theorem t_none_str  : subTy (tyD (.none)) "str" = false := by first | rfl | decide | (simp [subTy, tyD])
theorem t_str_int (s : Str) : subTy (tyD (.str s)) "int" = false := by first | rfl | decide | (simp [subTy, tyD])
theorem t_str_bool (s : Str) : subTy (tyD (.str s)) "bool" = false := by first | rfl | decide | (simp [subTy, tyD])
theorem t_str_tuple (s : Str) : subTy (tyD (.str s)) "tuple" = false := by first | rfl | decide | (simp [subTy, tyD])
theorem t_str_list (s : Str) : subTy (tyD (.str s)) "list" = false := by first | rfl | decide | (simp [subTy, tyD])
theorem t_str_str (s : Str) : subTy (tyD (.str s)) "str" = true := by first | rfl | decide | (simp [subTy, tyD])
theorem t_list_int (l : List PD) : subTy (tyD (.list l)) "int" = false := by first | rfl | decide | (simp [subTy, tyD])
theorem t_list_bool (l : List PD) : subTy (tyD (.list l)) "bool" = false := by first | rfl | decide | (simp [subTy, tyD])
theorem t_list_tuple (l : List PD) : subTy (tyD (.list l)) "tuple" = false := by first | rfl | decide | (simp [subTy, tyD])
theorem t_list_list (l : List PD) : subTy (tyD (.list l)) "list" = true := by first | rfl | decide | (simp [subTy, tyD])
theorem t_list_str (l : List PD) : subTy (tyD (.list l)) "str" = false := by first | rfl | decide | (simp [subTy, tyD])
theorem t_tuple_int (l : List PD) : subTy (tyD (.tuple l)) "int" = false := by first | rfl | decide | (simp [subTy, tyD])
theorem t_tuple_bool (l : List PD) : subTy (tyD (.tuple l)) "bool" = false := by first | rfl | decide | (simp [subTy, tyD])
theorem t_tuple_tuple (l : List PD) : subTy (tyD (.tuple l)) "tuple" = true := by first | rfl | decide | (simp [subTy, tyD])
theorem t_tuple_list (l : List PD) : subTy (tyD (.tuple l)) "list" = false := by first | rfl | decide | (simp [subTy, tyD])
theorem t_tuple_str (l : List PD) : subTy (tyD (.tuple l)) "str" = false := by first | rfl | decide | (simp [subTy, tyD])
theorem e_ifN {b : Bool} {A B : Prop} : (if (!b) = true then A else B) = (if b = true then B else A) := by cases b <;> rfl
theorem e_ifA {b c : Bool} {R : DV → Prop} : (if b = true then R (.d (.bool c)) else R (.d (.bool false))) = R (.d (.bool (b && c))) := by cases b <;> rfl
theorem e_ifO {b c : Bool} {R : DV → Prop} : (if b = true then R (.d (.bool true)) else R (.d (.bool c))) = R (.d (.bool (b || c))) := by cases b <;> rfl
theorem e_lcNil {gd : DG} {t : DT} {f : DE} {ρ : List Sl} {R : List PD → Prop} : lcD gd t f ρ [] R = R [] := rfl
theorem e_lcC {gd : DG} {f : DE} {ρ : List Sl} {x : PD} {xs : List PD} {R : List PD → Prop} : lcD gd tTrue f ρ (x :: xs) R = gd x ρ fun ρ1 => f ρ1 (fun y => onD y fun d => lcD gd tTrue f ρ xs fun ds => R (d :: ds)) noE := by
  conv => lhs; unfold lcD
  simp only [tTrue, if_true]
theorem e_asB1 {a0 : Bool} : asBools [.bool a0] = some [a0] := rfl
theorem e_asI1 {a0 : Int} : asInts [.int a0] = some [a0] := rfl
theorem e_asB2 {a0 a1 : Bool} : asBools [.bool a0, .bool a1] = some [a0, a1] := rfl
theorem e_asI2 {a0 a1 : Int} : asInts [.int a0, .int a1] = some [a0, a1] := rfl
theorem e_asB3 {a0 a1 a2 : Bool} : asBools [.bool a0, .bool a1, .bool a2] = some [a0, a1, a2] := rfl
theorem e_asI3 {a0 a1 a2 : Int} : asInts [.int a0, .int a1, .int a2] = some [a0, a1, a2] := rfl
theorem e_asB4 {a0 a1 a2 a3 : Bool} : asBools [.bool a0, .bool a1, .bool a2, .bool a3] = some [a0, a1, a2, a3] := rfl
theorem e_asI4 {a0 a1 a2 a3 : Int} : asInts [.int a0, .int a1, .int a2, .int a3] = some [a0, a1, a2, a3] := rfl
theorem e_asB5 {a0 a1 a2 a3 a4 : Bool} : asBools [.bool a0, .bool a1, .bool a2, .bool a3, .bool a4] = some [a0, a1, a2, a3, a4] := rfl
theorem e_asI5 {a0 a1 a2 a3 a4 : Int} : asInts [.int a0, .int a1, .int a2, .int a3, .int a4] = some [a0, a1, a2, a3, a4] := rfl
theorem e_asB6 {a0 a1 a2 a3 a4 a5 : Bool} : asBools [.bool a0, .bool a1, .bool a2, .bool a3, .bool a4, .bool a5] = some [a0, a1, a2, a3, a4, a5] := rfl
theorem e_asI6 {a0 a1 a2 a3 a4 a5 : Int} : asInts [.int a0, .int a1, .int a2, .int a3, .int a4, .int a5] = some [a0, a1, a2, a3, a4, a5] := rfl
/-- a loop that looks at each item and answers False at the first one that fails -/
theorem loopD_chk {α J : Type} {gd : DG} {b : DS} {D : DEnds} (enc : α → PD) (mk : J → List Sl) (p : α → Bool) : ∀ {l : List α}, (∀ x ∈ l, ∀ j (P : List Sl → Prop), (p x = true → ∀ j, P (mk j)) → (p x = false → ∀ ρ, D.rt ρ (.d (.bool false))) → gd (enc x) (mk j) fun ρ => b { D with nx := P, ct := P, bk := D.nx } ρ) →
    ∀ (j : J), (l.all p = true → ∀ j, D.nx (mk j)) → (l.all p = false → ∀ ρ, D.rt ρ (.d (.bool false))) → loopD gd b D (l.map enc) (mk j)
  | [], _, j, h, _ => h rfl j
  | x :: l, hb, j, h, h2 => by
    rw [List.map_cons]
    unfold loopD
    exact hb x (by simp) j _ (fun q j => loopD_chk enc mk p (fun y hy => hb y (by simp [hy])) j (fun r => h (by rw [List.all_cons, q, r]; rfl)) fun r => h2 (by rw [List.all_cons, q, r]; rfl)) fun q => h2 (by rw [List.all_cons, q]; rfl)
theorem e_ifAP {b c : Bool} {P : PD → Prop} : (if b = true then P (.bool c) else P (.bool false)) = P (.bool (b && c)) := by cases b <;> rfl
theorem e_ifOP {b c : Bool} {P : PD → Prop} : (if b = true then P (.bool true) else P (.bool c)) = P (.bool (b || c)) := by cases b <;> rfl
/-- a loop that ends at the first item that has what is looked for -/
theorem loopD_find {α J : Type} {gd : DG} {b : DS} {D : DEnds} (enc : α → PD) (mk : J → List Sl) (p : α → Bool) (B : α → Prop) : ∀ {l : List α}, (∀ x ∈ l, ∀ j (P : List Sl → Prop), (p x = false → ∀ j, P (mk j)) → (p x = true → B x) → gd (enc x) (mk j) fun ρ => b { D with nx := P, ct := P, bk := D.nx } ρ) →
    ∀ (j : J), (l.find? p = none → ∀ j, D.nx (mk j)) → (∀ c, l.find? p = some c → B c) → loopD gd b D (l.map enc) (mk j)
  | [], _, j, h, _ => h rfl j
  | x :: l, hb, j, h, h2 => by
    rw [List.map_cons]
    unfold loopD
    exact hb x (by simp) j _ (fun q j => loopD_find enc mk p B (fun y hy => hb y (by simp [hy])) j (fun r => h (by rw [List.find?_cons, q]; exact r)) fun c r => h2 c (by rw [List.find?_cons, q]; exact r)) fun q => h2 x (by rw [List.find?_cons, q])
theorem e_anyM {α : Type} {p : α → Bool} {l : List α} : (l.map p).any id = l.any p := by rw [List.any_map]; rfl
theorem e_allM {α : Type} {p : α → Bool} {l : List α} : (l.map p).all id = l.all p := by rw [List.all_map]; rfl
theorem e_cutM {α β : Type} {f : α → β} {l : List α} {a b : Option Int} : cutL (l.map f) a b = (cutL l a b).map f := by
  unfold cutL
  rw [List.length_map, List.map_take, List.map_drop]
theorem e_flatM {α β : Type} {f : α → β} {l : List α} {k : Nat} : (List.replicate k (l.map f)).flatten = ((List.replicate k l).flatten).map f := by
  rw [List.map_flatten, List.map_replicate]
theorem cutL_len {α : Type} {l : List α} {a b : Option Int} : (cutL l a b).length ≤ l.length := by
  unfold cutL
  rw [List.length_take, List.length_drop]
  omega
theorem flat_len {α : Type} {l : List α} {k : Nat} : (List.replicate k l).flatten.length = k * l.length := by simp
end Wb
/-! Wb18: the words' readings, head first (printed by wip/mk18.py). -/
namespace Wb
open PySem PySem.Spec PyProof.Rows L2
def setS (i : Nat) (s : Sl) (ρ : List Sl) (k : List Sl → Prop) : Prop := k (ρ.set i s)
def rdV (i : Nat) (ρ : List Sl) (R : DV → Prop) : Prop := slV ρ[i]? R
def rdOw (i : Nat) (ρ : List Sl) (R : DV → Prop) : Prop := slO ρ[i]? R
def rdW (i : Nat) (ρ : List Sl) (R : List PD → Prop) : Prop := slOw ρ[i]? R
section
variable {a b : DS} {f g h kk : DE} {fa fk : DA} {fn fm : DN} {fx : DX} {t u : DT} {gd : DG} {gs : DGs} {pl pu : DP} {D : DEnds} {ρ : List Sl} {R : DV → Prop} {Rb : Bool → Prop} {Ra : List DV → Prop} {Rl : List PD → Prop} {Rs : List Sl → Prop} {Rp : Option Int → Prop} {E : EK} {i j l L c : Nat} {own : List Nat} {x : PD} {xs : List PD}
  {o1 : DV → (DV → Prop) → Prop} {o2 o3 : DV → DV → (DV → Prop) → Prop} {ob : List DV → (DV → Prop) → Prop} {og : List DV → (List PD → Prop) → Prop} {F : Fn} {gD : List DV → List DV → List DV} {nx : List Sl → Prop}
theorem p_gNext : (gNext D ρ) = (D.nx ρ) := rfl
theorem p_gBrk : (gBrk D ρ) = (D.bk ρ) := rfl
theorem p_gCnt : (gCnt D ρ) = (D.ct ρ) := rfl
theorem p_gSeq : (gSeq a b D ρ) = (a ⟨b D, D.rt, D.bk, D.ct, D.ex⟩ ρ) := rfl
theorem p_gSet : (gSet i f D ρ) = (f ρ (fun x => setS i (.v x) ρ D.nx) (D.ex ρ)) := rfl
theorem p_gSetN : (gSetN i fn D ρ) = (fn ρ (fun xs => setS i (.own xs) ρ D.nx) (D.ex ρ)) := rfl
theorem p_gDrop : (gDrop f D ρ) = (f ρ (fun _ => D.nx ρ) (D.ex ρ)) := rfl
theorem p_gRet : (gRet f D ρ) = (f ρ (D.rt ρ) (D.ex ρ)) := rfl
theorem p_gIfS : (gIfS t a b D ρ) = (t ρ (fun c => if c = true then a D ρ else b D ρ) (D.ex ρ)) := rfl
theorem p_gRaise : (gRaise c f D ρ) = (f ρ (fun x => onD x fun d => D.ex ρ c d) (D.ex ρ)) := rfl
theorem p_gAsg : (gAsg f gd D ρ) = (f ρ (fun x => onD x fun d => gd d ρ D.nx) (D.ex ρ)) := rfl
def parS (i j : Nat) (ρ : List Sl) (k : List Sl → Prop) : List DV → Prop
  | [x, y] => setS i (.v x) ρ fun ρ => setS j (.v y) ρ k
  | _ => False
def parS3 (i j l : Nat) (ρ : List Sl) (k : List Sl → Prop) : List DV → Prop
  | [x, y, z] => setS i (.v x) ρ fun ρ => setS j (.v y) ρ fun ρ => setS l (.v z) ρ k
  | _ => False
theorem p_parS {x y : DV} : parS i j ρ nx [x, y] = setS i (.v x) ρ fun ρ => setS j (.v y) ρ nx := rfl
theorem p_parS3 {x y z : DV} : parS3 i j l ρ nx [x, y, z] = setS i (.v x) ρ fun ρ => setS j (.v y) ρ fun ρ => setS l (.v z) ρ nx := rfl
theorem p_gPar : gPar i j fa D ρ = fa ρ (parS i j ρ D.nx) (D.ex ρ) := by
  unfold gPar
  congr 1
theorem p_gPar3 : gPar3 i j l fa D ρ = fa ρ (parS3 i j l ρ D.nx) (D.ex ρ) := by
  unfold gPar3
  congr 1
theorem p_gApp : (gApp i f D ρ) = (rdW i ρ fun xs => f ρ (fun x => onD x fun d => xs.length ≤ 100000 ∧ setS i (.own (xs ++ [d])) ρ D.nx) (D.ex ρ)) := rfl
theorem p_gSetIx : (gSetIx i f g D ρ) = (rdW i ρ fun xs => g ρ (fun x => onD x fun d => f ρ (fun ix => onI' ix fun k => ∃ j, ixN xs.length k = some j ∧ setS i (.own (xs.set j d)) ρ D.nx) (D.ex ρ)) (D.ex ρ)) := rfl
theorem p_gFor : (gFor L fn gd b D ρ) = (fn ρ (fun xs => xs.length ≤ L ∧ loopD gd b D xs ρ) (D.ex ρ)) := rfl
theorem p_gTry : (gTry i j b D ρ) = (b ⟨D.nx, D.rt, D.bk, D.ct, fun ρ' c x => setS i (.v (.exc c x)) ρ' fun ρ' => setS j (.v (.exc c x)) ρ' fun ρ' => setS i .no ρ' D.nx⟩ ρ) := rfl
theorem p_gFrz : (gFrz i b D ρ) = (rdW i ρ fun xs => setS i (.v (.d (.list xs))) ρ (b D)) := rfl
theorem p_gParNN : (gParNN i j fn fm D ρ) = (fn ρ (fun xs => fm ρ (fun ys => setS i (.own xs) ρ fun ρ => setS j (.own ys) ρ D.nx) (D.ex ρ)) (D.ex ρ)) := rfl
theorem p_gParDN : (gParDN i j f fm D ρ) = (f ρ (fun xs => fm ρ (fun ys => setS i (.v xs) ρ fun ρ => setS j (.own ys) ρ D.nx) (D.ex ρ)) (D.ex ρ)) := rfl
theorem p_gParND : (gParND i j fn f D ρ) = (fn ρ (fun xs => f ρ (fun ys => setS i (.own xs) ρ fun ρ => setS j (.v ys) ρ D.nx) (D.ex ρ)) (D.ex ρ)) := rfl
theorem p_gDropX : (gDropX fx D ρ) = (fx ρ (fun _ ρ' => D.nx ρ') (D.ex ρ)) := rfl
theorem p_gSetX : (gSetX i fx D ρ) = (fx ρ (fun x ρ' => setS i (.v x) ρ' D.nx) (D.ex ρ)) := rfl
theorem p_gAppX : (gAppX i fx D ρ) = (rdW i ρ fun _ => fx ρ (fun x ρ' => onD x fun d => rdW i ρ' fun xs => xs.length ≤ 100000 ∧ setS i (.own (xs ++ [d])) ρ' D.nx) (D.ex ρ)) := rfl
theorem p_dVar : (dVar i ρ R E) = (rdV i ρ R) := rfl
theorem p_dOwn : (dOwn i ρ R E) = (rdOw i ρ R) := rfl
theorem p_dC : (dC x ρ R E) = (R (.d x)) := rfl
theorem p_d2 : (d2 o2 f h ρ R E) = (f ρ (fun x => h ρ (fun y => o2 x y R) E) E) := rfl
theorem p_d1 : (d1 o1 f ρ R E) = (f ρ (fun x => o1 x R) E) := rfl
theorem p_dN2 : (dN2 fn ρ R E) = (fn ρ (fun xs => R (.d (.list xs))) E) := rfl
theorem p_aNil : (aNil ρ Ra E) = (Ra []) := rfl
theorem p_aCons : (aCons f fa ρ Ra E) = (f ρ (fun x => fa ρ (fun xs => Ra (x :: xs)) E) E) := rfl
theorem p_dTup : (dTup fa ρ R E) = (fa ρ (fun xs => allD xs fun ds => ds.length ≤ 100000 ∧ R (.d (.tuple ds))) E) := rfl
theorem p_nLst : (nLst fa ρ Rl E) = (fa ρ (fun xs => allD xs fun ds => ds.length ≤ 100000 ∧ Rl ds) E) := rfl
theorem p_dCall : (dCall F fa ρ R E) = (fa ρ (fun xs => F xs R E) E) := rfl
theorem p_dCallK : (dCallK F gD fa fk ρ R E) = (fa ρ (fun xs => fk ρ (fun ys => F (gD xs ys) R E) E) E) := rfl
theorem p_dBi : (dBi ob fa ρ R E) = (fa ρ (fun xs => ob xs R) E) := rfl
theorem p_tVal : (tVal f ρ Rb E) = (f ρ (fun x => onB x Rb) E) := rfl
theorem p_tNot : (tNot' t ρ Rb E) = (t ρ (fun b => Rb (!b)) E) := rfl
theorem p_tAnd : (tAnd' t u ρ Rb E) = (t ρ (fun b => if b = true then u ρ Rb E else Rb false) E) := rfl
theorem p_tOr : (tOr' t u ρ Rb E) = (t ρ (fun b => if b = true then Rb true else u ρ Rb E) E) := rfl
theorem p_dAnd : (dAnd f g ρ R E) = (f ρ (fun x => onB x fun b => if b = true then g ρ R E else R (.d (.bool false))) E) := rfl
theorem p_dOr : (dOr f g ρ R E) = (f ρ (fun x => onB x fun b => if b = true then R (.d (.bool true)) else g ρ R E) E) := rfl
theorem p_dNot : (dNot f ρ R E) = (f ρ (fun x => onB x fun b => R (.d (.bool (!b)))) E) := rfl
theorem p_dIf : (dIf t f g ρ R E) = (t ρ (fun b => if b = true then f ρ R E else g ρ R E) E) := rfl
theorem p_dChain : (dChain o2 o3 f h kk ρ R E) = (f ρ (fun x => h ρ (fun y => o2 x y fun z => onB z fun b => if b = true then kk ρ (fun w => o3 y w R) E else R (.d (.bool false))) E) E) := rfl
theorem p_dSl : (dSl f pl pu ρ R E) = (f ρ (fun x => pl ρ (fun l => pu ρ (fun u => gSl x l u R) E) E) E) := rfl
theorem p_pNo : (pNo ρ Rp E) = (Rp none) := rfl
theorem p_pAt : (pAt f ρ Rp E) = (f ρ (fun x => onI' x fun i => Rp (some i)) E) := rfl
def ofS (R : List PD → Prop) : List DV → Prop
  | [x] => seqD x R
  | _ => False
theorem p_ofS {x : DV} : ofS Rl [x] = seqD x Rl := rfl
theorem p_nOf : nOf fa ρ Rl E = fa ρ (ofS Rl) E := by
  unfold nOf
  congr 1
theorem p_nRg1 : (nRg1 f ρ Rl E) = (f ρ (fun x => onI' x fun j => RgL 0 j ∧ Rl (rngD 0 j)) E) := rfl
theorem p_iRg : (iRg og fa ρ Rl E) = (fa ρ (fun xs => og xs Rl) E) := rfl
theorem p_iSeq : (iSeq f ρ Rl E) = (f ρ (fun x => seqD x Rl) E) := rfl
theorem p_iZp : (iZp fa ρ Rl E) = (fa ρ (fun xs => zpD xs Rl) E) := rfl
theorem p_iRv : (iRv f ρ Rl E) = (f ρ (fun x => seqD x fun xs => Rl xs.reverse) E) := rfl
theorem p_nLc : (nLc L fn gd t f own ρ Rl E) = (fn ρ (fun xs => xs.length ≤ L ∧ lcD gd t f (wipeD ρ own) xs Rl) E) := rfl
theorem p_tTrue : (tTrue ρ Rb E) = (Rb true) := rfl
theorem p_gNm : (gNm i x ρ Rs) = (setS i (.v (.d x)) ρ Rs) := rfl
theorem p_gTp : (gTp gs (.tuple xs) ρ Rs) = (gs xs ρ Rs) := rfl
theorem p_gTpL : (gTpL gs (.list xs) ρ Rs) = (gs xs ρ Rs) := rfl
theorem p_gsCons : (gsCons gd gs (x :: xs) ρ Rs) = (gd x ρ fun ρ' => gs xs ρ' Rs) := rfl
theorem p_gsNil : (gsNil [] ρ Rs) = (Rs ρ) := by apply propext; exact ⟨fun h => h.2, fun h => ⟨rfl, h⟩⟩
theorem p_nSs : (nSs f ρ Rl E) = (f ρ (fun x => ∃ ns, listInts x = some ns ∧ ns.length < 64 ∧ ∀ ms : List Int, ms.Pairwise (· < ·) → (∀ k, k ∈ ms ↔ k ∈ ns) → Rl (ms.map .int)) E) := rfl
theorem p_nSd : (nSd f ρ Rl E) = (f ρ (fun x => ∃ ns, listInts x = some ns ∧ ns.length < 64 ∧ ∀ ms : List Int, ms.Perm ns → ms.Pairwise (· ≤ ·) → Rl (ms.map .int)) E) := rfl
end
section
variable {R : DV → Prop} {Rl : List PD → Prop} {k : List Sl → Prop} {s z a0 a1 a2 a3 a4 a5 a6 a7 a8 a9 a10 a11 a12 a13 a14 a15 a16 a17 a18 a19 a20 a21 a22 a23 a24 a25 : Sl} {l : List Sl} {x : DV} {xs : List PD}
theorem p_st0 : setS 0 s (z :: l) k = k (s :: l) := rfl
theorem p_rv0 : rdV 0 (.v x :: l) R = R x := rfl
theorem p_ro0 : rdOw 0 (.v x :: l) R = R x := rfl
theorem p_rp0 : rdOw 0 (.own xs :: l) R = R (.d (.list xs)) := rfl
theorem p_rw0 : rdW 0 (.own xs :: l) Rl = Rl xs := rfl
theorem p_st1 : setS 1 s (a0 :: z :: l) k = k (a0 :: s :: l) := rfl
theorem p_rv1 : rdV 1 (a0 :: .v x :: l) R = R x := rfl
theorem p_ro1 : rdOw 1 (a0 :: .v x :: l) R = R x := rfl
theorem p_rp1 : rdOw 1 (a0 :: .own xs :: l) R = R (.d (.list xs)) := rfl
theorem p_rw1 : rdW 1 (a0 :: .own xs :: l) Rl = Rl xs := rfl
theorem p_st2 : setS 2 s (a0 :: a1 :: z :: l) k = k (a0 :: a1 :: s :: l) := rfl
theorem p_rv2 : rdV 2 (a0 :: a1 :: .v x :: l) R = R x := rfl
theorem p_ro2 : rdOw 2 (a0 :: a1 :: .v x :: l) R = R x := rfl
theorem p_rp2 : rdOw 2 (a0 :: a1 :: .own xs :: l) R = R (.d (.list xs)) := rfl
theorem p_rw2 : rdW 2 (a0 :: a1 :: .own xs :: l) Rl = Rl xs := rfl
theorem p_st3 : setS 3 s (a0 :: a1 :: a2 :: z :: l) k = k (a0 :: a1 :: a2 :: s :: l) := rfl
theorem p_rv3 : rdV 3 (a0 :: a1 :: a2 :: .v x :: l) R = R x := rfl
theorem p_ro3 : rdOw 3 (a0 :: a1 :: a2 :: .v x :: l) R = R x := rfl
theorem p_rp3 : rdOw 3 (a0 :: a1 :: a2 :: .own xs :: l) R = R (.d (.list xs)) := rfl
theorem p_rw3 : rdW 3 (a0 :: a1 :: a2 :: .own xs :: l) Rl = Rl xs := rfl
theorem p_st4 : setS 4 s (a0 :: a1 :: a2 :: a3 :: z :: l) k = k (a0 :: a1 :: a2 :: a3 :: s :: l) := rfl
theorem p_rv4 : rdV 4 (a0 :: a1 :: a2 :: a3 :: .v x :: l) R = R x := rfl
theorem p_ro4 : rdOw 4 (a0 :: a1 :: a2 :: a3 :: .v x :: l) R = R x := rfl
theorem p_rp4 : rdOw 4 (a0 :: a1 :: a2 :: a3 :: .own xs :: l) R = R (.d (.list xs)) := rfl
theorem p_rw4 : rdW 4 (a0 :: a1 :: a2 :: a3 :: .own xs :: l) Rl = Rl xs := rfl
theorem p_st5 : setS 5 s (a0 :: a1 :: a2 :: a3 :: a4 :: z :: l) k = k (a0 :: a1 :: a2 :: a3 :: a4 :: s :: l) := rfl
theorem p_rv5 : rdV 5 (a0 :: a1 :: a2 :: a3 :: a4 :: .v x :: l) R = R x := rfl
theorem p_ro5 : rdOw 5 (a0 :: a1 :: a2 :: a3 :: a4 :: .v x :: l) R = R x := rfl
theorem p_rp5 : rdOw 5 (a0 :: a1 :: a2 :: a3 :: a4 :: .own xs :: l) R = R (.d (.list xs)) := rfl
theorem p_rw5 : rdW 5 (a0 :: a1 :: a2 :: a3 :: a4 :: .own xs :: l) Rl = Rl xs := rfl
theorem p_st6 : setS 6 s (a0 :: a1 :: a2 :: a3 :: a4 :: a5 :: z :: l) k = k (a0 :: a1 :: a2 :: a3 :: a4 :: a5 :: s :: l) := rfl
theorem p_rv6 : rdV 6 (a0 :: a1 :: a2 :: a3 :: a4 :: a5 :: .v x :: l) R = R x := rfl
theorem p_ro6 : rdOw 6 (a0 :: a1 :: a2 :: a3 :: a4 :: a5 :: .v x :: l) R = R x := rfl
theorem p_rp6 : rdOw 6 (a0 :: a1 :: a2 :: a3 :: a4 :: a5 :: .own xs :: l) R = R (.d (.list xs)) := rfl
theorem p_rw6 : rdW 6 (a0 :: a1 :: a2 :: a3 :: a4 :: a5 :: .own xs :: l) Rl = Rl xs := rfl
theorem p_st7 : setS 7 s (a0 :: a1 :: a2 :: a3 :: a4 :: a5 :: a6 :: z :: l) k = k (a0 :: a1 :: a2 :: a3 :: a4 :: a5 :: a6 :: s :: l) := rfl
theorem p_rv7 : rdV 7 (a0 :: a1 :: a2 :: a3 :: a4 :: a5 :: a6 :: .v x :: l) R = R x := rfl
theorem p_ro7 : rdOw 7 (a0 :: a1 :: a2 :: a3 :: a4 :: a5 :: a6 :: .v x :: l) R = R x := rfl
theorem p_rp7 : rdOw 7 (a0 :: a1 :: a2 :: a3 :: a4 :: a5 :: a6 :: .own xs :: l) R = R (.d (.list xs)) := rfl
theorem p_rw7 : rdW 7 (a0 :: a1 :: a2 :: a3 :: a4 :: a5 :: a6 :: .own xs :: l) Rl = Rl xs := rfl
theorem p_st8 : setS 8 s (a0 :: a1 :: a2 :: a3 :: a4 :: a5 :: a6 :: a7 :: z :: l) k = k (a0 :: a1 :: a2 :: a3 :: a4 :: a5 :: a6 :: a7 :: s :: l) := rfl
theorem p_rv8 : rdV 8 (a0 :: a1 :: a2 :: a3 :: a4 :: a5 :: a6 :: a7 :: .v x :: l) R = R x := rfl
theorem p_ro8 : rdOw 8 (a0 :: a1 :: a2 :: a3 :: a4 :: a5 :: a6 :: a7 :: .v x :: l) R = R x := rfl
theorem p_rp8 : rdOw 8 (a0 :: a1 :: a2 :: a3 :: a4 :: a5 :: a6 :: a7 :: .own xs :: l) R = R (.d (.list xs)) := rfl
theorem p_rw8 : rdW 8 (a0 :: a1 :: a2 :: a3 :: a4 :: a5 :: a6 :: a7 :: .own xs :: l) Rl = Rl xs := rfl
theorem p_st9 : setS 9 s (a0 :: a1 :: a2 :: a3 :: a4 :: a5 :: a6 :: a7 :: a8 :: z :: l) k = k (a0 :: a1 :: a2 :: a3 :: a4 :: a5 :: a6 :: a7 :: a8 :: s :: l) := rfl
theorem p_rv9 : rdV 9 (a0 :: a1 :: a2 :: a3 :: a4 :: a5 :: a6 :: a7 :: a8 :: .v x :: l) R = R x := rfl
theorem p_ro9 : rdOw 9 (a0 :: a1 :: a2 :: a3 :: a4 :: a5 :: a6 :: a7 :: a8 :: .v x :: l) R = R x := rfl
theorem p_rp9 : rdOw 9 (a0 :: a1 :: a2 :: a3 :: a4 :: a5 :: a6 :: a7 :: a8 :: .own xs :: l) R = R (.d (.list xs)) := rfl
theorem p_rw9 : rdW 9 (a0 :: a1 :: a2 :: a3 :: a4 :: a5 :: a6 :: a7 :: a8 :: .own xs :: l) Rl = Rl xs := rfl
theorem p_st10 : setS 10 s (a0 :: a1 :: a2 :: a3 :: a4 :: a5 :: a6 :: a7 :: a8 :: a9 :: z :: l) k = k (a0 :: a1 :: a2 :: a3 :: a4 :: a5 :: a6 :: a7 :: a8 :: a9 :: s :: l) := rfl
theorem p_rv10 : rdV 10 (a0 :: a1 :: a2 :: a3 :: a4 :: a5 :: a6 :: a7 :: a8 :: a9 :: .v x :: l) R = R x := rfl
theorem p_ro10 : rdOw 10 (a0 :: a1 :: a2 :: a3 :: a4 :: a5 :: a6 :: a7 :: a8 :: a9 :: .v x :: l) R = R x := rfl
theorem p_rp10 : rdOw 10 (a0 :: a1 :: a2 :: a3 :: a4 :: a5 :: a6 :: a7 :: a8 :: a9 :: .own xs :: l) R = R (.d (.list xs)) := rfl
theorem p_rw10 : rdW 10 (a0 :: a1 :: a2 :: a3 :: a4 :: a5 :: a6 :: a7 :: a8 :: a9 :: .own xs :: l) Rl = Rl xs := rfl
theorem p_st11 : setS 11 s (a0 :: a1 :: a2 :: a3 :: a4 :: a5 :: a6 :: a7 :: a8 :: a9 :: a10 :: z :: l) k = k (a0 :: a1 :: a2 :: a3 :: a4 :: a5 :: a6 :: a7 :: a8 :: a9 :: a10 :: s :: l) := rfl
theorem p_rv11 : rdV 11 (a0 :: a1 :: a2 :: a3 :: a4 :: a5 :: a6 :: a7 :: a8 :: a9 :: a10 :: .v x :: l) R = R x := rfl
theorem p_ro11 : rdOw 11 (a0 :: a1 :: a2 :: a3 :: a4 :: a5 :: a6 :: a7 :: a8 :: a9 :: a10 :: .v x :: l) R = R x := rfl
theorem p_rp11 : rdOw 11 (a0 :: a1 :: a2 :: a3 :: a4 :: a5 :: a6 :: a7 :: a8 :: a9 :: a10 :: .own xs :: l) R = R (.d (.list xs)) := rfl
theorem p_rw11 : rdW 11 (a0 :: a1 :: a2 :: a3 :: a4 :: a5 :: a6 :: a7 :: a8 :: a9 :: a10 :: .own xs :: l) Rl = Rl xs := rfl
theorem p_st12 : setS 12 s (a0 :: a1 :: a2 :: a3 :: a4 :: a5 :: a6 :: a7 :: a8 :: a9 :: a10 :: a11 :: z :: l) k = k (a0 :: a1 :: a2 :: a3 :: a4 :: a5 :: a6 :: a7 :: a8 :: a9 :: a10 :: a11 :: s :: l) := rfl
theorem p_rv12 : rdV 12 (a0 :: a1 :: a2 :: a3 :: a4 :: a5 :: a6 :: a7 :: a8 :: a9 :: a10 :: a11 :: .v x :: l) R = R x := rfl
theorem p_ro12 : rdOw 12 (a0 :: a1 :: a2 :: a3 :: a4 :: a5 :: a6 :: a7 :: a8 :: a9 :: a10 :: a11 :: .v x :: l) R = R x := rfl
theorem p_rp12 : rdOw 12 (a0 :: a1 :: a2 :: a3 :: a4 :: a5 :: a6 :: a7 :: a8 :: a9 :: a10 :: a11 :: .own xs :: l) R = R (.d (.list xs)) := rfl
theorem p_rw12 : rdW 12 (a0 :: a1 :: a2 :: a3 :: a4 :: a5 :: a6 :: a7 :: a8 :: a9 :: a10 :: a11 :: .own xs :: l) Rl = Rl xs := rfl
theorem p_st13 : setS 13 s (a0 :: a1 :: a2 :: a3 :: a4 :: a5 :: a6 :: a7 :: a8 :: a9 :: a10 :: a11 :: a12 :: z :: l) k = k (a0 :: a1 :: a2 :: a3 :: a4 :: a5 :: a6 :: a7 :: a8 :: a9 :: a10 :: a11 :: a12 :: s :: l) := rfl
theorem p_rv13 : rdV 13 (a0 :: a1 :: a2 :: a3 :: a4 :: a5 :: a6 :: a7 :: a8 :: a9 :: a10 :: a11 :: a12 :: .v x :: l) R = R x := rfl
theorem p_ro13 : rdOw 13 (a0 :: a1 :: a2 :: a3 :: a4 :: a5 :: a6 :: a7 :: a8 :: a9 :: a10 :: a11 :: a12 :: .v x :: l) R = R x := rfl
theorem p_rp13 : rdOw 13 (a0 :: a1 :: a2 :: a3 :: a4 :: a5 :: a6 :: a7 :: a8 :: a9 :: a10 :: a11 :: a12 :: .own xs :: l) R = R (.d (.list xs)) := rfl
theorem p_rw13 : rdW 13 (a0 :: a1 :: a2 :: a3 :: a4 :: a5 :: a6 :: a7 :: a8 :: a9 :: a10 :: a11 :: a12 :: .own xs :: l) Rl = Rl xs := rfl
theorem p_st14 : setS 14 s (a0 :: a1 :: a2 :: a3 :: a4 :: a5 :: a6 :: a7 :: a8 :: a9 :: a10 :: a11 :: a12 :: a13 :: z :: l) k = k (a0 :: a1 :: a2 :: a3 :: a4 :: a5 :: a6 :: a7 :: a8 :: a9 :: a10 :: a11 :: a12 :: a13 :: s :: l) := rfl
theorem p_rv14 : rdV 14 (a0 :: a1 :: a2 :: a3 :: a4 :: a5 :: a6 :: a7 :: a8 :: a9 :: a10 :: a11 :: a12 :: a13 :: .v x :: l) R = R x := rfl
theorem p_ro14 : rdOw 14 (a0 :: a1 :: a2 :: a3 :: a4 :: a5 :: a6 :: a7 :: a8 :: a9 :: a10 :: a11 :: a12 :: a13 :: .v x :: l) R = R x := rfl
theorem p_rp14 : rdOw 14 (a0 :: a1 :: a2 :: a3 :: a4 :: a5 :: a6 :: a7 :: a8 :: a9 :: a10 :: a11 :: a12 :: a13 :: .own xs :: l) R = R (.d (.list xs)) := rfl
theorem p_rw14 : rdW 14 (a0 :: a1 :: a2 :: a3 :: a4 :: a5 :: a6 :: a7 :: a8 :: a9 :: a10 :: a11 :: a12 :: a13 :: .own xs :: l) Rl = Rl xs := rfl
theorem p_st15 : setS 15 s (a0 :: a1 :: a2 :: a3 :: a4 :: a5 :: a6 :: a7 :: a8 :: a9 :: a10 :: a11 :: a12 :: a13 :: a14 :: z :: l) k = k (a0 :: a1 :: a2 :: a3 :: a4 :: a5 :: a6 :: a7 :: a8 :: a9 :: a10 :: a11 :: a12 :: a13 :: a14 :: s :: l) := rfl
theorem p_rv15 : rdV 15 (a0 :: a1 :: a2 :: a3 :: a4 :: a5 :: a6 :: a7 :: a8 :: a9 :: a10 :: a11 :: a12 :: a13 :: a14 :: .v x :: l) R = R x := rfl
theorem p_ro15 : rdOw 15 (a0 :: a1 :: a2 :: a3 :: a4 :: a5 :: a6 :: a7 :: a8 :: a9 :: a10 :: a11 :: a12 :: a13 :: a14 :: .v x :: l) R = R x := rfl
theorem p_rp15 : rdOw 15 (a0 :: a1 :: a2 :: a3 :: a4 :: a5 :: a6 :: a7 :: a8 :: a9 :: a10 :: a11 :: a12 :: a13 :: a14 :: .own xs :: l) R = R (.d (.list xs)) := rfl
theorem p_rw15 : rdW 15 (a0 :: a1 :: a2 :: a3 :: a4 :: a5 :: a6 :: a7 :: a8 :: a9 :: a10 :: a11 :: a12 :: a13 :: a14 :: .own xs :: l) Rl = Rl xs := rfl
theorem p_st16 : setS 16 s (a0 :: a1 :: a2 :: a3 :: a4 :: a5 :: a6 :: a7 :: a8 :: a9 :: a10 :: a11 :: a12 :: a13 :: a14 :: a15 :: z :: l) k = k (a0 :: a1 :: a2 :: a3 :: a4 :: a5 :: a6 :: a7 :: a8 :: a9 :: a10 :: a11 :: a12 :: a13 :: a14 :: a15 :: s :: l) := rfl
theorem p_rv16 : rdV 16 (a0 :: a1 :: a2 :: a3 :: a4 :: a5 :: a6 :: a7 :: a8 :: a9 :: a10 :: a11 :: a12 :: a13 :: a14 :: a15 :: .v x :: l) R = R x := rfl
theorem p_ro16 : rdOw 16 (a0 :: a1 :: a2 :: a3 :: a4 :: a5 :: a6 :: a7 :: a8 :: a9 :: a10 :: a11 :: a12 :: a13 :: a14 :: a15 :: .v x :: l) R = R x := rfl
theorem p_rp16 : rdOw 16 (a0 :: a1 :: a2 :: a3 :: a4 :: a5 :: a6 :: a7 :: a8 :: a9 :: a10 :: a11 :: a12 :: a13 :: a14 :: a15 :: .own xs :: l) R = R (.d (.list xs)) := rfl
theorem p_rw16 : rdW 16 (a0 :: a1 :: a2 :: a3 :: a4 :: a5 :: a6 :: a7 :: a8 :: a9 :: a10 :: a11 :: a12 :: a13 :: a14 :: a15 :: .own xs :: l) Rl = Rl xs := rfl
theorem p_st17 : setS 17 s (a0 :: a1 :: a2 :: a3 :: a4 :: a5 :: a6 :: a7 :: a8 :: a9 :: a10 :: a11 :: a12 :: a13 :: a14 :: a15 :: a16 :: z :: l) k = k (a0 :: a1 :: a2 :: a3 :: a4 :: a5 :: a6 :: a7 :: a8 :: a9 :: a10 :: a11 :: a12 :: a13 :: a14 :: a15 :: a16 :: s :: l) := rfl
theorem p_rv17 : rdV 17 (a0 :: a1 :: a2 :: a3 :: a4 :: a5 :: a6 :: a7 :: a8 :: a9 :: a10 :: a11 :: a12 :: a13 :: a14 :: a15 :: a16 :: .v x :: l) R = R x := rfl
theorem p_ro17 : rdOw 17 (a0 :: a1 :: a2 :: a3 :: a4 :: a5 :: a6 :: a7 :: a8 :: a9 :: a10 :: a11 :: a12 :: a13 :: a14 :: a15 :: a16 :: .v x :: l) R = R x := rfl
theorem p_rp17 : rdOw 17 (a0 :: a1 :: a2 :: a3 :: a4 :: a5 :: a6 :: a7 :: a8 :: a9 :: a10 :: a11 :: a12 :: a13 :: a14 :: a15 :: a16 :: .own xs :: l) R = R (.d (.list xs)) := rfl
theorem p_rw17 : rdW 17 (a0 :: a1 :: a2 :: a3 :: a4 :: a5 :: a6 :: a7 :: a8 :: a9 :: a10 :: a11 :: a12 :: a13 :: a14 :: a15 :: a16 :: .own xs :: l) Rl = Rl xs := rfl
theorem p_st18 : setS 18 s (a0 :: a1 :: a2 :: a3 :: a4 :: a5 :: a6 :: a7 :: a8 :: a9 :: a10 :: a11 :: a12 :: a13 :: a14 :: a15 :: a16 :: a17 :: z :: l) k = k (a0 :: a1 :: a2 :: a3 :: a4 :: a5 :: a6 :: a7 :: a8 :: a9 :: a10 :: a11 :: a12 :: a13 :: a14 :: a15 :: a16 :: a17 :: s :: l) := rfl
theorem p_rv18 : rdV 18 (a0 :: a1 :: a2 :: a3 :: a4 :: a5 :: a6 :: a7 :: a8 :: a9 :: a10 :: a11 :: a12 :: a13 :: a14 :: a15 :: a16 :: a17 :: .v x :: l) R = R x := rfl
theorem p_ro18 : rdOw 18 (a0 :: a1 :: a2 :: a3 :: a4 :: a5 :: a6 :: a7 :: a8 :: a9 :: a10 :: a11 :: a12 :: a13 :: a14 :: a15 :: a16 :: a17 :: .v x :: l) R = R x := rfl
theorem p_rp18 : rdOw 18 (a0 :: a1 :: a2 :: a3 :: a4 :: a5 :: a6 :: a7 :: a8 :: a9 :: a10 :: a11 :: a12 :: a13 :: a14 :: a15 :: a16 :: a17 :: .own xs :: l) R = R (.d (.list xs)) := rfl
theorem p_rw18 : rdW 18 (a0 :: a1 :: a2 :: a3 :: a4 :: a5 :: a6 :: a7 :: a8 :: a9 :: a10 :: a11 :: a12 :: a13 :: a14 :: a15 :: a16 :: a17 :: .own xs :: l) Rl = Rl xs := rfl
theorem p_st19 : setS 19 s (a0 :: a1 :: a2 :: a3 :: a4 :: a5 :: a6 :: a7 :: a8 :: a9 :: a10 :: a11 :: a12 :: a13 :: a14 :: a15 :: a16 :: a17 :: a18 :: z :: l) k = k (a0 :: a1 :: a2 :: a3 :: a4 :: a5 :: a6 :: a7 :: a8 :: a9 :: a10 :: a11 :: a12 :: a13 :: a14 :: a15 :: a16 :: a17 :: a18 :: s :: l) := rfl
theorem p_rv19 : rdV 19 (a0 :: a1 :: a2 :: a3 :: a4 :: a5 :: a6 :: a7 :: a8 :: a9 :: a10 :: a11 :: a12 :: a13 :: a14 :: a15 :: a16 :: a17 :: a18 :: .v x :: l) R = R x := rfl
theorem p_ro19 : rdOw 19 (a0 :: a1 :: a2 :: a3 :: a4 :: a5 :: a6 :: a7 :: a8 :: a9 :: a10 :: a11 :: a12 :: a13 :: a14 :: a15 :: a16 :: a17 :: a18 :: .v x :: l) R = R x := rfl
theorem p_rp19 : rdOw 19 (a0 :: a1 :: a2 :: a3 :: a4 :: a5 :: a6 :: a7 :: a8 :: a9 :: a10 :: a11 :: a12 :: a13 :: a14 :: a15 :: a16 :: a17 :: a18 :: .own xs :: l) R = R (.d (.list xs)) := rfl
theorem p_rw19 : rdW 19 (a0 :: a1 :: a2 :: a3 :: a4 :: a5 :: a6 :: a7 :: a8 :: a9 :: a10 :: a11 :: a12 :: a13 :: a14 :: a15 :: a16 :: a17 :: a18 :: .own xs :: l) Rl = Rl xs := rfl
theorem p_st20 : setS 20 s (a0 :: a1 :: a2 :: a3 :: a4 :: a5 :: a6 :: a7 :: a8 :: a9 :: a10 :: a11 :: a12 :: a13 :: a14 :: a15 :: a16 :: a17 :: a18 :: a19 :: z :: l) k = k (a0 :: a1 :: a2 :: a3 :: a4 :: a5 :: a6 :: a7 :: a8 :: a9 :: a10 :: a11 :: a12 :: a13 :: a14 :: a15 :: a16 :: a17 :: a18 :: a19 :: s :: l) := rfl
theorem p_rv20 : rdV 20 (a0 :: a1 :: a2 :: a3 :: a4 :: a5 :: a6 :: a7 :: a8 :: a9 :: a10 :: a11 :: a12 :: a13 :: a14 :: a15 :: a16 :: a17 :: a18 :: a19 :: .v x :: l) R = R x := rfl
theorem p_ro20 : rdOw 20 (a0 :: a1 :: a2 :: a3 :: a4 :: a5 :: a6 :: a7 :: a8 :: a9 :: a10 :: a11 :: a12 :: a13 :: a14 :: a15 :: a16 :: a17 :: a18 :: a19 :: .v x :: l) R = R x := rfl
theorem p_rp20 : rdOw 20 (a0 :: a1 :: a2 :: a3 :: a4 :: a5 :: a6 :: a7 :: a8 :: a9 :: a10 :: a11 :: a12 :: a13 :: a14 :: a15 :: a16 :: a17 :: a18 :: a19 :: .own xs :: l) R = R (.d (.list xs)) := rfl
theorem p_rw20 : rdW 20 (a0 :: a1 :: a2 :: a3 :: a4 :: a5 :: a6 :: a7 :: a8 :: a9 :: a10 :: a11 :: a12 :: a13 :: a14 :: a15 :: a16 :: a17 :: a18 :: a19 :: .own xs :: l) Rl = Rl xs := rfl
theorem p_st21 : setS 21 s (a0 :: a1 :: a2 :: a3 :: a4 :: a5 :: a6 :: a7 :: a8 :: a9 :: a10 :: a11 :: a12 :: a13 :: a14 :: a15 :: a16 :: a17 :: a18 :: a19 :: a20 :: z :: l) k = k (a0 :: a1 :: a2 :: a3 :: a4 :: a5 :: a6 :: a7 :: a8 :: a9 :: a10 :: a11 :: a12 :: a13 :: a14 :: a15 :: a16 :: a17 :: a18 :: a19 :: a20 :: s :: l) := rfl
theorem p_rv21 : rdV 21 (a0 :: a1 :: a2 :: a3 :: a4 :: a5 :: a6 :: a7 :: a8 :: a9 :: a10 :: a11 :: a12 :: a13 :: a14 :: a15 :: a16 :: a17 :: a18 :: a19 :: a20 :: .v x :: l) R = R x := rfl
theorem p_ro21 : rdOw 21 (a0 :: a1 :: a2 :: a3 :: a4 :: a5 :: a6 :: a7 :: a8 :: a9 :: a10 :: a11 :: a12 :: a13 :: a14 :: a15 :: a16 :: a17 :: a18 :: a19 :: a20 :: .v x :: l) R = R x := rfl
theorem p_rp21 : rdOw 21 (a0 :: a1 :: a2 :: a3 :: a4 :: a5 :: a6 :: a7 :: a8 :: a9 :: a10 :: a11 :: a12 :: a13 :: a14 :: a15 :: a16 :: a17 :: a18 :: a19 :: a20 :: .own xs :: l) R = R (.d (.list xs)) := rfl
theorem p_rw21 : rdW 21 (a0 :: a1 :: a2 :: a3 :: a4 :: a5 :: a6 :: a7 :: a8 :: a9 :: a10 :: a11 :: a12 :: a13 :: a14 :: a15 :: a16 :: a17 :: a18 :: a19 :: a20 :: .own xs :: l) Rl = Rl xs := rfl
theorem p_st22 : setS 22 s (a0 :: a1 :: a2 :: a3 :: a4 :: a5 :: a6 :: a7 :: a8 :: a9 :: a10 :: a11 :: a12 :: a13 :: a14 :: a15 :: a16 :: a17 :: a18 :: a19 :: a20 :: a21 :: z :: l) k = k (a0 :: a1 :: a2 :: a3 :: a4 :: a5 :: a6 :: a7 :: a8 :: a9 :: a10 :: a11 :: a12 :: a13 :: a14 :: a15 :: a16 :: a17 :: a18 :: a19 :: a20 :: a21 :: s :: l) := rfl
theorem p_rv22 : rdV 22 (a0 :: a1 :: a2 :: a3 :: a4 :: a5 :: a6 :: a7 :: a8 :: a9 :: a10 :: a11 :: a12 :: a13 :: a14 :: a15 :: a16 :: a17 :: a18 :: a19 :: a20 :: a21 :: .v x :: l) R = R x := rfl
theorem p_ro22 : rdOw 22 (a0 :: a1 :: a2 :: a3 :: a4 :: a5 :: a6 :: a7 :: a8 :: a9 :: a10 :: a11 :: a12 :: a13 :: a14 :: a15 :: a16 :: a17 :: a18 :: a19 :: a20 :: a21 :: .v x :: l) R = R x := rfl
theorem p_rp22 : rdOw 22 (a0 :: a1 :: a2 :: a3 :: a4 :: a5 :: a6 :: a7 :: a8 :: a9 :: a10 :: a11 :: a12 :: a13 :: a14 :: a15 :: a16 :: a17 :: a18 :: a19 :: a20 :: a21 :: .own xs :: l) R = R (.d (.list xs)) := rfl
theorem p_rw22 : rdW 22 (a0 :: a1 :: a2 :: a3 :: a4 :: a5 :: a6 :: a7 :: a8 :: a9 :: a10 :: a11 :: a12 :: a13 :: a14 :: a15 :: a16 :: a17 :: a18 :: a19 :: a20 :: a21 :: .own xs :: l) Rl = Rl xs := rfl
theorem p_st23 : setS 23 s (a0 :: a1 :: a2 :: a3 :: a4 :: a5 :: a6 :: a7 :: a8 :: a9 :: a10 :: a11 :: a12 :: a13 :: a14 :: a15 :: a16 :: a17 :: a18 :: a19 :: a20 :: a21 :: a22 :: z :: l) k = k (a0 :: a1 :: a2 :: a3 :: a4 :: a5 :: a6 :: a7 :: a8 :: a9 :: a10 :: a11 :: a12 :: a13 :: a14 :: a15 :: a16 :: a17 :: a18 :: a19 :: a20 :: a21 :: a22 :: s :: l) := rfl
theorem p_rv23 : rdV 23 (a0 :: a1 :: a2 :: a3 :: a4 :: a5 :: a6 :: a7 :: a8 :: a9 :: a10 :: a11 :: a12 :: a13 :: a14 :: a15 :: a16 :: a17 :: a18 :: a19 :: a20 :: a21 :: a22 :: .v x :: l) R = R x := rfl
theorem p_ro23 : rdOw 23 (a0 :: a1 :: a2 :: a3 :: a4 :: a5 :: a6 :: a7 :: a8 :: a9 :: a10 :: a11 :: a12 :: a13 :: a14 :: a15 :: a16 :: a17 :: a18 :: a19 :: a20 :: a21 :: a22 :: .v x :: l) R = R x := rfl
theorem p_rp23 : rdOw 23 (a0 :: a1 :: a2 :: a3 :: a4 :: a5 :: a6 :: a7 :: a8 :: a9 :: a10 :: a11 :: a12 :: a13 :: a14 :: a15 :: a16 :: a17 :: a18 :: a19 :: a20 :: a21 :: a22 :: .own xs :: l) R = R (.d (.list xs)) := rfl
theorem p_rw23 : rdW 23 (a0 :: a1 :: a2 :: a3 :: a4 :: a5 :: a6 :: a7 :: a8 :: a9 :: a10 :: a11 :: a12 :: a13 :: a14 :: a15 :: a16 :: a17 :: a18 :: a19 :: a20 :: a21 :: a22 :: .own xs :: l) Rl = Rl xs := rfl
theorem p_st24 : setS 24 s (a0 :: a1 :: a2 :: a3 :: a4 :: a5 :: a6 :: a7 :: a8 :: a9 :: a10 :: a11 :: a12 :: a13 :: a14 :: a15 :: a16 :: a17 :: a18 :: a19 :: a20 :: a21 :: a22 :: a23 :: z :: l) k = k (a0 :: a1 :: a2 :: a3 :: a4 :: a5 :: a6 :: a7 :: a8 :: a9 :: a10 :: a11 :: a12 :: a13 :: a14 :: a15 :: a16 :: a17 :: a18 :: a19 :: a20 :: a21 :: a22 :: a23 :: s :: l) := rfl
theorem p_rv24 : rdV 24 (a0 :: a1 :: a2 :: a3 :: a4 :: a5 :: a6 :: a7 :: a8 :: a9 :: a10 :: a11 :: a12 :: a13 :: a14 :: a15 :: a16 :: a17 :: a18 :: a19 :: a20 :: a21 :: a22 :: a23 :: .v x :: l) R = R x := rfl
theorem p_ro24 : rdOw 24 (a0 :: a1 :: a2 :: a3 :: a4 :: a5 :: a6 :: a7 :: a8 :: a9 :: a10 :: a11 :: a12 :: a13 :: a14 :: a15 :: a16 :: a17 :: a18 :: a19 :: a20 :: a21 :: a22 :: a23 :: .v x :: l) R = R x := rfl
theorem p_rp24 : rdOw 24 (a0 :: a1 :: a2 :: a3 :: a4 :: a5 :: a6 :: a7 :: a8 :: a9 :: a10 :: a11 :: a12 :: a13 :: a14 :: a15 :: a16 :: a17 :: a18 :: a19 :: a20 :: a21 :: a22 :: a23 :: .own xs :: l) R = R (.d (.list xs)) := rfl
theorem p_rw24 : rdW 24 (a0 :: a1 :: a2 :: a3 :: a4 :: a5 :: a6 :: a7 :: a8 :: a9 :: a10 :: a11 :: a12 :: a13 :: a14 :: a15 :: a16 :: a17 :: a18 :: a19 :: a20 :: a21 :: a22 :: a23 :: .own xs :: l) Rl = Rl xs := rfl
theorem p_st25 : setS 25 s (a0 :: a1 :: a2 :: a3 :: a4 :: a5 :: a6 :: a7 :: a8 :: a9 :: a10 :: a11 :: a12 :: a13 :: a14 :: a15 :: a16 :: a17 :: a18 :: a19 :: a20 :: a21 :: a22 :: a23 :: a24 :: z :: l) k = k (a0 :: a1 :: a2 :: a3 :: a4 :: a5 :: a6 :: a7 :: a8 :: a9 :: a10 :: a11 :: a12 :: a13 :: a14 :: a15 :: a16 :: a17 :: a18 :: a19 :: a20 :: a21 :: a22 :: a23 :: a24 :: s :: l) := rfl
theorem p_rv25 : rdV 25 (a0 :: a1 :: a2 :: a3 :: a4 :: a5 :: a6 :: a7 :: a8 :: a9 :: a10 :: a11 :: a12 :: a13 :: a14 :: a15 :: a16 :: a17 :: a18 :: a19 :: a20 :: a21 :: a22 :: a23 :: a24 :: .v x :: l) R = R x := rfl
theorem p_ro25 : rdOw 25 (a0 :: a1 :: a2 :: a3 :: a4 :: a5 :: a6 :: a7 :: a8 :: a9 :: a10 :: a11 :: a12 :: a13 :: a14 :: a15 :: a16 :: a17 :: a18 :: a19 :: a20 :: a21 :: a22 :: a23 :: a24 :: .v x :: l) R = R x := rfl
theorem p_rp25 : rdOw 25 (a0 :: a1 :: a2 :: a3 :: a4 :: a5 :: a6 :: a7 :: a8 :: a9 :: a10 :: a11 :: a12 :: a13 :: a14 :: a15 :: a16 :: a17 :: a18 :: a19 :: a20 :: a21 :: a22 :: a23 :: a24 :: .own xs :: l) R = R (.d (.list xs)) := rfl
theorem p_rw25 : rdW 25 (a0 :: a1 :: a2 :: a3 :: a4 :: a5 :: a6 :: a7 :: a8 :: a9 :: a10 :: a11 :: a12 :: a13 :: a14 :: a15 :: a16 :: a17 :: a18 :: a19 :: a20 :: a21 :: a22 :: a23 :: a24 :: .own xs :: l) Rl = Rl xs := rfl
end
end Wb
namespace Law
open PySem PySem.Spec PyProof.Rows L2 Wb

abbrev subE : Nat → Nat → Bool := fun c d => decide ((if c < 3 then c else 0) = d)
def px_0 {α : Type} (us ws : List α) : List α := match us, ws with
  | [], [a] => [a]
  | _, _ => []
def px_10 {α : Type} (us ws : List α) : List α := match us, ws with
  | [], [a, b] => [b, a]
  | _, _ => []
def px_01 {α : Type} (us ws : List α) : List α := match us, ws with
  | [], [a, b] => [a, b]
  | _, _ => []
def g_is_integer : DS :=
  (gRet (dAnd (d1 (gIsi "int") (dOwn 0)) (dNot (d1 (gIsi "bool") (dOwn 0)))))
theorem x_is_integer : ∃ F : Fn, F = fnB 1 0 g_is_integer := ⟨_, rfl⟩
noncomputable def m_is_integer : Fn := Classical.choose x_is_integer
theorem q_is_integer : m_is_integer = fnB 1 0 g_is_integer := Classical.choose_spec x_is_integer
def g_is_between : DS :=
  (gRet (dAnd (dCall m_is_integer (aCons (dVar 0) aNil)) (dChain gLe gLe (dOwn 1) (dOwn 0) (dOwn 2))))
theorem x_is_between : ∃ F : Fn, F = fnB 3 0 g_is_between := ⟨_, rfl⟩
noncomputable def m_is_between : Fn := Classical.choose x_is_between
theorem q_is_between : m_is_between = fnB 3 0 g_is_between := Classical.choose_spec x_is_between
def g_is_tuple : DS :=
  (gRet (dAnd (d1 (gIsi "tuple") (dOwn 0)) (dAnd (d2 gGe (dBi bLen (aCons (dOwn 0) aNil)) (dOwn 1)) (dOr (d1 gIsN (dOwn 2)) (d2 gLe (dBi bLen (aCons (dOwn 0) aNil)) (dOwn 2))))))
theorem x_is_tuple : ∃ F : Fn, F = fnB 3 0 g_is_tuple := ⟨_, rfl⟩
noncomputable def m_is_tuple : Fn := Classical.choose x_is_tuple
theorem q_is_tuple : m_is_tuple = fnB 3 0 g_is_tuple := Classical.choose_spec x_is_tuple
def g_anew (G : Fn) : DS :=
  (gSeq (gIfS (tVal (d1 (gIsi "list") (dOwn 0))) (gRet (dN2 (nLc 100000 (iSeq (dVar 0)) (gNm 1) tTrue (dCall G (aCons (dVar 1) aNil)) [1]))) gNext)
  (gSeq (gIfS (tVal (d1 (gIsi "tuple") (dOwn 0))) (gRet (dBi bTuple (aCons (dN2 (nLc 100000 (iSeq (dVar 0)) (gNm 1) tTrue (dCall G (aCons (dVar 1) aNil)) [1])) aNil))) gNext)
  (gRet (dVar 0))))
def m_anew : Fn := anewFn 9
def g_rounded_b0 : DS :=
  (gSeq (gSet 5 (dN2 (nLc 100000 (iRg rg1 (aCons (dOwn 1) aNil)) (gNm 7) (tVal (d2 gNotIn (dOwn 7) (dOwn 3))) (dVar 7) [7])))
  (gSeq (gSet 6 (dN2 (nLc 100000 (iSeq (dVar 2)) (gTp (gsCons (gNm 8) (gsCons (gNm 9) gsNil))) (tVal (d2 gNotIn (dOwn 9) (dOwn 3))) (dVar 8) [8, 9])))
  (gSeq (gSet 5 (dN2 (nLc 100000 (iSeq (dVar 5)) (gNm 7) (tVal (d2 gNotIn (dOwn 7) (dOwn 6))) (dVar 7) [7])))
  (gSeq (gIfS (tVal (d2 gEq (dOwn 5) (dN2 (nLst aNil)))) gBrk gNext)
  (gApp 3 (d2 gIx (dOwn 5) (dC (.int 0))))))))
def g_rounded : DS :=
  (gSeq (gAsg (dVar 0) (gTp (gsCons (gNm 1) (gsCons (gNm 2) gsNil))))
  (gSeq (gSetN 3 (nLst aNil))
  (gSeq (gFor 100000 (iRg rg1 (aCons (dOwn 1) aNil)) (gNm 4) g_rounded_b0)
  (gRet (dBi bTuple (aCons (dOwn 3) aNil))))))
theorem x_rounded : ∃ F : Fn, F = fnB 1 9 g_rounded := ⟨_, rfl⟩
noncomputable def m_rounded : Fn := Classical.choose x_rounded
theorem q_rounded : m_rounded = fnB 1 9 g_rounded := Classical.choose_spec x_rounded
def g_is_arrow : DS :=
  (gSeq (gIfS (tOr' (tNot' (tVal (dCall m_is_tuple (aCons (dVar 1) (aCons (dC (.int 2)) (aCons (dC (.int 2)) aNil)))))) (tOr' (tNot' (tVal (dCall m_is_between (aCons (d2 gIx (dOwn 1) (dC (.int 0))) (aCons (dC (.int 0)) (aCons (d2 gSub (dOwn 0) (dC (.int 1))) aNil)))))) (tNot' (tVal (dCall m_is_between (aCons (d2 gIx (dOwn 1) (dC (.int 1))) (aCons (dC (.int 0)) (aCons (d2 gSub (dOwn 0) (dC (.int 1))) aNil)))))))) (gRet (dC (.bool false))) gNext)
  (gRet (d2 gNe (d2 gIx (dOwn 1) (dC (.int 0))) (d2 gIx (dOwn 1) (dC (.int 1))))))
theorem x_is_arrow : ∃ F : Fn, F = fnB 2 0 g_is_arrow := ⟨_, rfl⟩
noncomputable def m_is_arrow : Fn := Classical.choose x_is_arrow
theorem q_is_arrow : m_is_arrow = fnB 2 0 g_is_arrow := Classical.choose_spec x_is_arrow
def g_is_web : DS :=
  (gSeq (gIfS (tOr' (tNot' (tVal (dCall m_is_tuple (aCons (dVar 0) (aCons (dC (.int 2)) (aCons (dC (.int 2)) aNil)))))) (tOr' (tNot' (tVal (dCall m_is_between (aCons (d2 gIx (dOwn 0) (dC (.int 0))) (aCons (dC (.int 1)) (aCons (dC (.int 9)) aNil)))))) (tNot' (tVal (dCall m_is_tuple (aCons (d2 gIx (dOwn 0) (dC (.int 1))) (aCons (dC (.int 0)) (aCons (dC (.int 12)) aNil)))))))) (gRet (dC (.bool false))) gNext)
  (gSeq (gIfS (tNot' (tVal (dBi bAll (aCons (dN2 (nLc 100000 (iSeq (d2 gIx (dOwn 0) (dC (.int 1)))) (gNm 1) tTrue (dCall m_is_arrow (aCons (d2 gIx (dOwn 0) (dC (.int 0))) (aCons (dVar 1) aNil))) [1])) aNil)))) (gRet (dC (.bool false))) gNext)
  (gRet (d2 gEq (dBi bLen (aCons (dCall m_rounded (aCons (dVar 0) aNil)) aNil)) (d2 gIx (dOwn 0) (dC (.int 0)))))))
theorem x_is_web : ∃ F : Fn, F = fnB 1 1 g_is_web := ⟨_, rfl⟩
noncomputable def m_is_web : Fn := Classical.choose x_is_web
theorem q_is_web : m_is_web = fnB 1 1 g_is_web := Classical.choose_spec x_is_web
def g_need_web : DS :=
  (gIfS (tNot' (tVal (dCall m_is_web (aCons (dVar 0) aNil)))) (gRaise 0 (dCall m_anew (aCons (dVar 0) aNil))) gNext)
theorem x_need_web : ∃ F : Fn, F = fnB 1 0 g_need_web := ⟨_, rfl⟩
noncomputable def m_need_web : Fn := Classical.choose x_need_web
theorem q_need_web : m_need_web = fnB 1 0 g_need_web := Classical.choose_spec x_need_web
def g_need_place : DS :=
  (gIfS (tOr' (tVal (d2 gLt (dOwn 1) (dC (.int 0)))) (tVal (d2 gGe (dOwn 1) (d2 gIx (dOwn 0) (dC (.int 0)))))) (gRaise 1 (dVar 1)) gNext)
theorem x_need_place : ∃ F : Fn, F = fnB 2 0 g_need_place := ⟨_, rfl⟩
noncomputable def m_need_place : Fn := Classical.choose x_need_place
theorem q_need_place : m_need_place = fnB 2 0 g_need_place := Classical.choose_spec x_need_place
def g_need_at : DS :=
  (gSeq (gDrop (dCall m_need_web (aCons (dVar 0) aNil)))
  (gDrop (dCall m_need_place (aCons (dVar 0) (aCons (dVar 1) aNil)))))
theorem x_need_at : ∃ F : Fn, F = fnB 2 0 g_need_at := ⟨_, rfl⟩
noncomputable def m_need_at : Fn := Classical.choose x_need_at
theorem q_need_at : m_need_at = fnB 2 0 g_need_at := Classical.choose_spec x_need_at
def g_ends_in : DS :=
  (gSeq (gSet 1 (dN2 (nLc 100000 (iSeq (d2 gIx (dOwn 0) (dC (.int 1)))) (gTp (gsCons (gNm 2) (gsCons (gNm 3) gsNil))) tTrue (dVar 2) [2, 3])))
  (gRet (dBi bTuple (aCons (dN2 (nLc 100000 (iRg rg1 (aCons (d2 gIx (dOwn 0) (dC (.int 0))) aNil)) (gNm 4) (tVal (d2 gNotIn (dOwn 4) (dOwn 1))) (dVar 4) [4])) aNil))))
theorem x_ends_in : ∃ F : Fn, F = fnB 1 4 g_ends_in := ⟨_, rfl⟩
noncomputable def m_ends_in : Fn := Classical.choose x_ends_in
theorem q_ends_in : m_ends_in = fnB 1 4 g_ends_in := Classical.choose_spec x_ends_in
def g_opposite_in : DS :=
  (gRet (dTup (aCons (d2 gIx (dOwn 0) (dC (.int 0))) (aCons (dBi bTuple (aCons (dN2 (nLc 100000 (iSeq (d2 gIx (dOwn 0) (dC (.int 1)))) (gTp (gsCons (gNm 1) (gsCons (gNm 2) gsNil))) tTrue (dTup (aCons (dVar 2) (aCons (dVar 1) aNil))) [1, 2])) aNil)) aNil))))
theorem x_opposite_in : ∃ F : Fn, F = fnB 1 2 g_opposite_in := ⟨_, rfl⟩
noncomputable def m_opposite_in : Fn := Classical.choose x_opposite_in
theorem q_opposite_in : m_opposite_in = fnB 1 2 g_opposite_in := Classical.choose_spec x_opposite_in
def g_begins_in : DS :=
  (gRet (dCall m_ends_in (aCons (dCall m_opposite_in (aCons (dVar 0) aNil)) aNil)))
theorem x_begins_in : ∃ F : Fn, F = fnB 1 0 g_begins_in := ⟨_, rfl⟩
noncomputable def m_begins_in : Fn := Classical.choose x_begins_in
theorem q_begins_in : m_begins_in = fnB 1 0 g_begins_in := Classical.choose_spec x_begins_in
def g_turned_web : DS :=
  (gRet (dTup (aCons (d2 gIx (dOwn 0) (dC (.int 0))) (aCons (dBi bTuple (aCons (dN2 (nLc 100000 (iSeq (d2 gIx (dOwn 0) (dC (.int 1)))) (gTp (gsCons (gNm 2) (gsCons (gNm 3) gsNil))) tTrue (dIf (tVal (d2 gIn (dOwn 1) (dTup (aCons (dVar 2) (aCons (dVar 3) aNil))))) (dTup (aCons (dVar 3) (aCons (dVar 2) aNil))) (dTup (aCons (dVar 2) (aCons (dVar 3) aNil)))) [2, 3])) aNil)) aNil))))
theorem x_turned_web : ∃ F : Fn, F = fnB 2 2 g_turned_web := ⟨_, rfl⟩
noncomputable def m_turned_web : Fn := Classical.choose x_turned_web
theorem q_turned_web : m_turned_web = fnB 2 2 g_turned_web := Classical.choose_spec x_turned_web
def g_need_turnable : DS :=
  (gSeq (gDrop (dCall m_need_at (aCons (dVar 0) (aCons (dVar 1) aNil))))
  (gIfS (tAnd' (tVal (d2 gNotIn (dOwn 1) (dCall m_ends_in (aCons (dVar 0) aNil)))) (tVal (d2 gNotIn (dOwn 1) (dCall m_begins_in (aCons (dVar 0) aNil))))) (gRaise 2 (dVar 1)) gNext))
theorem x_need_turnable : ∃ F : Fn, F = fnB 2 0 g_need_turnable := ⟨_, rfl⟩
noncomputable def m_need_turnable : Fn := Classical.choose x_need_turnable
theorem q_need_turnable : m_need_turnable = fnB 2 0 g_need_turnable := Classical.choose_spec x_need_turnable
def g_pieces_in_b0 : DS :=
  (gSeq (gSet 5 (dBi bMin2 (aCons (d2 gIx (dOwn 1) (dOwn 3)) (aCons (d2 gIx (dOwn 1) (dOwn 4)) aNil))))
  (gSeq (gSetIx 1 (dVar 3) (dVar 5))
  (gSetIx 1 (dVar 4) (dVar 5))))
def g_pieces_in_b1 : DS :=
  (gFor 100000 (iSeq (d2 gIx (dOwn 0) (dC (.int 1)))) (gTp (gsCons (gNm 3) (gsCons (gNm 4) gsNil))) g_pieces_in_b0)
def g_pieces_in : DS :=
  (gSeq (gSetN 1 (nRg1 (d2 gIx (dOwn 0) (dC (.int 0)))))
  (gSeq (gFor 100000 (iRg rg1 (aCons (d2 gIx (dOwn 0) (dC (.int 0))) aNil)) (gNm 2) g_pieces_in_b1)
  (gRet (dN2 (nLc 100000 (iRg rg1 (aCons (d2 gIx (dOwn 0) (dC (.int 0))) aNil)) (gNm 7) (tVal (d2 gIn (dOwn 7) (dOwn 1))) (dN2 (nLc 100000 (iRg rg1 (aCons (d2 gIx (dOwn 0) (dC (.int 0))) aNil)) (gNm 6) (tVal (d2 gEq (d2 gIx (dOwn 1) (dOwn 6)) (dOwn 7))) (dVar 6) [6])) [7])))))
theorem x_pieces_in : ∃ F : Fn, F = fnB 1 7 g_pieces_in := ⟨_, rfl⟩
noncomputable def m_pieces_in : Fn := Classical.choose x_pieces_in
theorem q_pieces_in : m_pieces_in = fnB 1 7 g_pieces_in := Classical.choose_spec x_pieces_in
def g_pieces : DS :=
  (gSeq (gDrop (dCall m_need_web (aCons (dVar 0) aNil)))
  (gRet (dBi bTuple (aCons (dN2 (nLc 100000 (iSeq (dCall m_pieces_in (aCons (dVar 0) aNil))) (gNm 1) tTrue (dBi bTuple (aCons (dOwn 1) aNil)) [1])) aNil))))
theorem x_pieces : ∃ F : Fn, F = fnB 1 1 g_pieces := ⟨_, rfl⟩
noncomputable def m_pieces : Fn := Classical.choose x_pieces
theorem q_pieces : m_pieces = fnB 1 1 g_pieces := Classical.choose_spec x_pieces
def g_ends : DS :=
  (gSeq (gDrop (dCall m_need_web (aCons (dVar 0) aNil)))
  (gRet (dCall m_ends_in (aCons (dVar 0) aNil))))
theorem x_ends : ∃ F : Fn, F = fnB 1 0 g_ends := ⟨_, rfl⟩
noncomputable def m_ends : Fn := Classical.choose x_ends
theorem q_ends : m_ends = fnB 1 0 g_ends := Classical.choose_spec x_ends
def g_begins : DS :=
  (gSeq (gDrop (dCall m_need_web (aCons (dVar 0) aNil)))
  (gRet (dCall m_begins_in (aCons (dVar 0) aNil))))
theorem x_begins : ∃ F : Fn, F = fnB 1 0 g_begins := ⟨_, rfl⟩
noncomputable def m_begins : Fn := Classical.choose x_begins
theorem q_begins : m_begins = fnB 1 0 g_begins := Classical.choose_spec x_begins
def g_opposite : DS :=
  (gSeq (gDrop (dCall m_need_web (aCons (dVar 0) aNil)))
  (gRet (dCall m_opposite_in (aCons (dVar 0) aNil))))
theorem x_opposite : ∃ F : Fn, F = fnB 1 0 g_opposite := ⟨_, rfl⟩
noncomputable def m_opposite : Fn := Classical.choose x_opposite
theorem q_opposite : m_opposite = fnB 1 0 g_opposite := Classical.choose_spec x_opposite
def g_turned_at : DS :=
  (gSeq (gDrop (dCall m_need_turnable (aCons (dVar 0) (aCons (dVar 1) aNil))))
  (gRet (dCall m_turned_web (aCons (dVar 0) (aCons (dVar 1) aNil)))))
theorem x_turned_at : ∃ F : Fn, F = fnB 2 0 g_turned_at := ⟨_, rfl⟩
noncomputable def m_turned_at : Fn := Classical.choose x_turned_at
theorem q_turned_at : m_turned_at = fnB 2 0 g_turned_at := Classical.choose_spec x_turned_at
def g_round_of : DS :=
  (gSeq (gDrop (dCall m_need_web (aCons (dVar 0) aNil)))
  (gRet (dCall m_rounded (aCons (dVar 0) aNil))))
theorem x_round_of : ∃ F : Fn, F = fnB 1 0 g_round_of := ⟨_, rfl⟩
noncomputable def m_round_of : Fn := Classical.choose x_round_of
theorem q_round_of : m_round_of = fnB 1 0 g_round_of := Classical.choose_spec x_round_of
def g__law_well : List Sl → (List PD → Prop) → Prop :=
  (zSeq (gSet 2 (dIf (tVal (d2 gLt (dOwn 1) (dBi bLen (aCons (dOwn 0) aNil)))) (dBi bInt (aCons (d2 gIx (dOwn 0) (dOwn 1)) aNil)) (d2 gAdd (d2 gMul (dC (.int 103)) (dOwn 1)) (dC (.int 71)))))
  (zSeq (gSet 3 (d2 gAdd (dC (.int 83)) (dBi bLen (aCons (dOwn 0) aNil))))
  (zSeq (gFor 100000 (iSeq (dVar 0)) (gNm 4) (gSet 3 (d2 gMod (dBi bInt (aCons (d2 gAdd (d2 gMul (dOwn 3) (dC (.int 5323))) (d2 gMod (dBi bInt (aCons (dOwn 4) aNil)) (d2 gAdd (d2 gPow (dC (.int 10)) (dC (.int 19))) (dC (.int 51))))) aNil)) (d2 gAdd (d2 gPow (dC (.int 10)) (dC (.int 25))) (dC (.int 13))))))
  (zSeq (gSet 5 (d2 gMod (dBi bInt (aCons (d2 gAdd (d2 gAdd (d2 gAdd (d2 gMul (dBi bAbs (aCons (dOwn 2) aNil)) (dC (.int 25))) (d2 gMul (dOwn 3) (dC (.int 47)))) (d2 gMul (dC (.int 3)) (dBi bInt (aCons (d2 gLt (dOwn 2) (dC (.int 0))) aNil)))) (d2 gMul (dC (.int 61)) (dOwn 1))) aNil)) (d2 gAdd (d2 gPow (dC (.int 10)) (dC (.int 28))) (dC (.int 331)))))
  (zRet (nLst (aCons (dBi bMax2 (aCons (dC (.int 0)) (aCons (d2 gSub (dBi bAbs (aCons (dOwn 2) aNil)) (d2 gPow (dC (.int 10)) (dC (.int 18)))) aNil))) (aCons (dVar 5) (aCons (dC (.int 0)) aNil)))))))))
def g__law_draw : DS :=
  (gSeq (gIfS (tVal (d2 gGt (d2 gIx (dOwn 0) (dC (.int 0))) (dC (.int 0)))) (gSeq (gSet 2 (d2 gMod (dBi bInt (aCons (d2 gIx (dOwn 0) (dC (.int 0))) aNil)) (dOwn 1)))
  (gSeq (gSetIx 0 (dC (.int 0)) (d2 gFdiv (d2 gIx (dOwn 0) (dC (.int 0))) (dOwn 1)))
  (gRet (dVar 2)))) gNext)
  (gSeq (gSetIx 0 (dC (.int 2)) (d2 gAdd (d2 gIx (dOwn 0) (dC (.int 2))) (dC (.int 1))))
  (gSeq (gSet 3 (d2 gIx (dOwn 0) (dC (.int 2))))
  (gSeq (gSet 4 (d2 gMod (dBi bInt (aCons (d2 gAdd (d2 gAdd (d2 gMul (d2 gMul (d2 gAdd (d2 gIx (dOwn 0) (dC (.int 1))) (dC (.int 31))) (d2 gAdd (dOwn 3) (dC (.int 5)))) (dC (.int 998244353))) (d2 gMul (d2 gMul (d2 gMul (dOwn 3) (dOwn 3)) (dOwn 3)) (dC (.int 424242427)))) (dC (.int 77))) aNil)) (d2 gAdd (d2 gPow (dC (.int 10)) (dC (.int 29))) (dC (.int 319)))))
  (gSeq (gSet 4 (d2 gMod (dBi bInt (aCons (d2 gAdd (d2 gAdd (d2 gMul (dOwn 4) (dOwn 4)) (d2 gMul (d2 gIx (dOwn 0) (dC (.int 1))) (dC (.int 7)))) (dOwn 3)) aNil)) (d2 gAdd (d2 gPow (dC (.int 10)) (dC (.int 31))) (dC (.int 33)))))
  (gSeq (gSet 4 (d2 gMod (dBi bInt (aCons (d2 gAdd (d2 gMul (d2 gMul (dOwn 4) (dOwn 4)) (dC (.int 3))) (d2 gMul (dOwn 4) (dC (.int 11)))) aNil)) (d2 gAdd (d2 gPow (dC (.int 10)) (dC (.int 33))) (dC (.int 603)))))
  (gRet (d2 gMod (dBi bInt (aCons (d2 gFdiv (dOwn 4) (dC (.int 50021))) aNil)) (dOwn 1)))))))))
def m__law_draw : Fn := drawFn
def g__law_order_b0 : DS :=
  (gAppX 3 (xPopAt 2 (dCall m__law_draw (aCons (dVar 0) (aCons (dBi bLen (aCons (dOwn 2) aNil)) aNil)))))
def g__law_order : DS :=
  (gSeq (gParNN 2 3 (nRg1 (dOwn 1)) (nLst aNil))
  (gSeq (gFor 64 (iRg rg1 (aCons (dOwn 1) aNil)) (gNm 4) g__law_order_b0)
  (gFrz 3 (gRet (dVar 3)))))
theorem x__law_order : ∃ F : Fn, F = fnB 2 3 g__law_order := ⟨_, rfl⟩
noncomputable def m__law_order : Fn := Classical.choose x__law_order
theorem q__law_order : m__law_order = fnB 2 3 g__law_order := Classical.choose_spec x__law_order
def g__law_web_b0 : DS :=
  (gSeq (gSet 7 (dCall m__law_draw (aCons (dVar 0) (aCons (d2 gSub (dOwn 3) (dC (.int 1))) aNil))))
  (gApp 4 (dTup (aCons (d2 gIx (dOwn 5) (dOwn 7)) (aCons (d2 gIx (dOwn 5) (d2 gAdd (d2 gAdd (dOwn 7) (dC (.int 1))) (dCall m__law_draw (aCons (dVar 0) (aCons (d2 gSub (d2 gSub (dOwn 3) (dC (.int 1))) (dOwn 7)) aNil))))) aNil)))))
def g__law_web : DS :=
  (gSeq (gParDN 3 4 (d2 gAdd (dC (.int 1)) (dCall m__law_draw (aCons (dVar 0) (aCons (dVar 1) aNil)))) (nLst aNil))
  (gSeq (gSet 5 (dCall m__law_order (aCons (dVar 0) (aCons (dVar 3) aNil))))
  (gSeq (gFor 64 (iRg rg1 (aCons (dIf (tVal (d2 gGt (dOwn 3) (dC (.int 1)))) (dCall m__law_draw (aCons (dVar 0) (aCons (d2 gAdd (dOwn 2) (dC (.int 1))) aNil))) (dC (.int 0))) aNil)) (gNm 6) g__law_web_b0)
  (gRet (dTup (aCons (dVar 3) (aCons (dBi bTuple (aCons (dOwn 4) aNil)) aNil)))))))
theorem x__law_web : ∃ F : Fn, F = fnB 3 5 g__law_web := ⟨_, rfl⟩
noncomputable def m__law_web : Fn := Classical.choose x__law_web
theorem q__law_web : m__law_web = fnB 3 5 g__law_web := Classical.choose_spec x__law_web
def g__law_is_count : DS :=
  (gRet (dAnd (d1 (gIsi "int") (dOwn 0)) (dAnd (dNot (d1 (gIsi "bool") (dOwn 0))) (dChain gLe gLe (dOwn 1) (dOwn 0) (dOwn 2)))))
theorem x__law_is_count : ∃ F : Fn, F = fnB 3 0 g__law_is_count := ⟨_, rfl⟩
noncomputable def m__law_is_count : Fn := Classical.choose x__law_is_count
theorem q__law_is_count : m__law_is_count = fnB 3 0 g__law_is_count := Classical.choose_spec x__law_is_count
def g__law_reached_b0 : DS :=
  (gSet 3 (dN2 (nSs (d2 gAdd (dOwn 3) (dN2 (nLc 100000 (iSeq (dVar 1)) (gTp (gsCons (gNm 5) (gsCons (gNm 6) gsNil))) (tVal (d2 gIn (dOwn 5) (dOwn 3))) (dVar 6) [5, 6]))))))
def g__law_reached : DS :=
  (gSeq (gSet 3 (dN2 (nLc 100000 (iSeq (dVar 1)) (gTp (gsCons (gNm 5) (gsCons (gNm 6) gsNil))) (tVal (d2 gEq (dOwn 5) (dOwn 2))) (dVar 6) [5, 6])))
  (gSeq (gFor 100000 (iRg rg1 (aCons (dOwn 0) aNil)) (gNm 4) g__law_reached_b0)
  (gRet (dVar 3))))
theorem x__law_reached : ∃ F : Fn, F = fnB 3 4 g__law_reached := ⟨_, rfl⟩
noncomputable def m__law_reached : Fn := Classical.choose x__law_reached
theorem q__law_reached : m__law_reached = fnB 3 4 g__law_reached := Classical.choose_spec x__law_reached
def g__law_is_web_b0 : DS :=
  (gSeq (gIfS (tOr' (tNot' (tVal (d1 (gIsi "tuple") (dOwn 1)))) (tOr' (tVal (d2 gNe (dBi bLen (aCons (dOwn 1) aNil)) (dC (.int 2)))) (tNot' (tVal (dBi bAll (aCons (dN2 (nLc 100000 (iSeq (dVar 1)) (gNm 2) tTrue (dCall m__law_is_count (aCons (dVar 2) (aCons (dC (.int 0)) (aCons (d2 gSub (d2 gIx (dOwn 0) (dC (.int 0))) (dC (.int 1))) aNil)))) [2])) aNil)))))) (gRet (dC (.bool false))) gNext)
  (gIfS (tVal (d2 gEq (d2 gIx (dOwn 1) (dC (.int 0))) (d2 gIx (dOwn 1) (dC (.int 1))))) (gRet (dC (.bool false))) gNext))
def g__law_is_web : DS :=
  (gSeq (gIfS (tOr' (tNot' (tVal (d1 (gIsi "tuple") (dOwn 0)))) (tOr' (tVal (d2 gNe (dBi bLen (aCons (dOwn 0) aNil)) (dC (.int 2)))) (tNot' (tVal (dCall m__law_is_count (aCons (d2 gIx (dOwn 0) (dC (.int 0))) (aCons (dC (.int 1)) (aCons (dC (.int 9)) aNil)))))))) (gRet (dC (.bool false))) gNext)
  (gSeq (gIfS (tOr' (tNot' (tVal (d1 (gIsi "tuple") (d2 gIx (dOwn 0) (dC (.int 1)))))) (tVal (d2 gGt (dBi bLen (aCons (d2 gIx (dOwn 0) (dC (.int 1))) aNil)) (dC (.int 12))))) (gRet (dC (.bool false))) gNext)
  (gSeq (gFor 100000 (iSeq (d2 gIx (dOwn 0) (dC (.int 1)))) (gNm 1) g__law_is_web_b0)
  (gRet (dNot (dBi bAny (aCons (dN2 (nLc 100000 (iRg rg1 (aCons (d2 gIx (dOwn 0) (dC (.int 0))) aNil)) (gNm 3) tTrue (d2 gIn (dOwn 3) (dCall m__law_reached (aCons (d2 gIx (dOwn 0) (dC (.int 0))) (aCons (d2 gIx (dOwn 0) (dC (.int 1))) (aCons (dVar 3) aNil))))) [3])) aNil)))))))
theorem x__law_is_web : ∃ F : Fn, F = fnB 1 3 g__law_is_web := ⟨_, rfl⟩
noncomputable def m__law_is_web : Fn := Classical.choose x__law_is_web
theorem q__law_is_web : m__law_is_web = fnB 1 3 g__law_is_web := Classical.choose_spec x__law_is_web
theorem v__law_near_5 : ∃ g : DS, g =
  (gRet (d2 gIx (dOwn 4) (dCall m__law_draw (aCons (dVar 0) (aCons (dC (.int 20)) aNil))))) := ⟨_, rfl⟩
noncomputable def g__law_near_5 : DS := Classical.choose v__law_near_5
theorem u__law_near_5 : g__law_near_5 =
  (gRet (d2 gIx (dOwn 4) (dCall m__law_draw (aCons (dVar 0) (aCons (dC (.int 20)) aNil))))) := Classical.choose_spec v__law_near_5
theorem v__law_near_4 : ∃ g : DS, g =
  gSeq (gIfS (tAnd' (tVal (d2 gGt (dOwn 2) (dC (.int 2)))) (tVal (d2 gEq (dCall m__law_draw (aCons (dVar 0) (aCons (dC (.int 3)) aNil))) (dC (.int 0))))) (gRet (dTup (aCons (dVar 2) (aCons (dTup (aCons (dTup (aCons (dC (.int 0)) (aCons (dC (.int 1)) aNil))) (aCons (dTup (aCons (dC (.int 1)) (aCons (dC (.int 2)) aNil))) (aCons (dTup (aCons (dC (.int 2)) (aCons (dC (.int 0)) aNil))) aNil)))) aNil)))) gNext) g__law_near_5 := ⟨_, rfl⟩
noncomputable def g__law_near_4 : DS := Classical.choose v__law_near_4
theorem u__law_near_4 : g__law_near_4 =
  gSeq (gIfS (tAnd' (tVal (d2 gGt (dOwn 2) (dC (.int 2)))) (tVal (d2 gEq (dCall m__law_draw (aCons (dVar 0) (aCons (dC (.int 3)) aNil))) (dC (.int 0))))) (gRet (dTup (aCons (dVar 2) (aCons (dTup (aCons (dTup (aCons (dC (.int 0)) (aCons (dC (.int 1)) aNil))) (aCons (dTup (aCons (dC (.int 1)) (aCons (dC (.int 2)) aNil))) (aCons (dTup (aCons (dC (.int 2)) (aCons (dC (.int 0)) aNil))) aNil)))) aNil)))) gNext) g__law_near_5 := Classical.choose_spec v__law_near_4
theorem v__law_near_3 : ∃ g : DS, g =
  gSeq (gSet 4 (d2 gAdd (dOwn 4) (dN2 (nLst (aCons (dTup (aCons (dC (.bool true)) (aCons (dTup aNil) aNil))) (aCons (dTup (aCons (dVar 2) (aCons (d2 gAdd (dOwn 3) (dTup (aCons (dTup (aCons (dC (.int 0)) (aCons (dC (.bool true)) aNil))) aNil))) aNil))) (aCons (dTup (aCons (dVar 2) (aCons (dVar 3) (aCons (dC (.int 0)) aNil)))) (aCons (dTup (aCons (dC (.int 9)) (aCons (dTup aNil) aNil))) (aCons (dTup (aCons (dC (.int 10)) (aCons (dTup aNil) aNil))) (aCons (dTup (aCons (dC (.int 0)) (aCons (dTup aNil) aNil))) (aCons (dTup (aCons (dC (.int 1)) (aCons (dTup (aCons (dTup (aCons (dC (.int 0)) (aCons (dC (.int 0)) aNil))) aNil)) aNil))) (aCons (dTup (aCons (dVar 2) aNil)) (aCons (dVar 3) aNil))))))))))))) g__law_near_4 := ⟨_, rfl⟩
noncomputable def g__law_near_3 : DS := Classical.choose v__law_near_3
theorem u__law_near_3 : g__law_near_3 =
  gSeq (gSet 4 (d2 gAdd (dOwn 4) (dN2 (nLst (aCons (dTup (aCons (dC (.bool true)) (aCons (dTup aNil) aNil))) (aCons (dTup (aCons (dVar 2) (aCons (d2 gAdd (dOwn 3) (dTup (aCons (dTup (aCons (dC (.int 0)) (aCons (dC (.bool true)) aNil))) aNil))) aNil))) (aCons (dTup (aCons (dVar 2) (aCons (dVar 3) (aCons (dC (.int 0)) aNil)))) (aCons (dTup (aCons (dC (.int 9)) (aCons (dTup aNil) aNil))) (aCons (dTup (aCons (dC (.int 10)) (aCons (dTup aNil) aNil))) (aCons (dTup (aCons (dC (.int 0)) (aCons (dTup aNil) aNil))) (aCons (dTup (aCons (dC (.int 1)) (aCons (dTup (aCons (dTup (aCons (dC (.int 0)) (aCons (dC (.int 0)) aNil))) aNil)) aNil))) (aCons (dTup (aCons (dVar 2) aNil)) (aCons (dVar 3) aNil))))))))))))) g__law_near_4 := Classical.choose_spec v__law_near_3
theorem v__law_near_2 : ∃ g : DS, g =
  gSeq (gSet 4 (d2 gAdd (dOwn 4) (dN2 (nLst (aCons (dTup (aCons (dVar 2) (aCons (d2 gAdd (dOwn 3) (dTup (aCons (dTup (aCons (dC (.int 0)) (aCons (dC (.int 0)) aNil))) aNil))) aNil))) (aCons (dTup (aCons (dVar 2) (aCons (d2 gAdd (dOwn 3) (dBi bTuple (aCons (dN2 (nLc 100000 (iSeq (dSl (dOwn 3) pNo (pAt (dC (.int 1))))) (gTp (gsCons (gNm 5) (gsCons (gNm 6) gsNil))) tTrue (dTup (aCons (dVar 6) (aCons (dVar 5) aNil))) [5, 6])) aNil))) aNil))) (aCons (dTup (aCons (dVar 2) (aCons (d2 gAdd (dOwn 3) (dTup (aCons (dTup (aCons (dC (.int 0)) (aCons (dC (.int 1)) (aCons (dC (.int 0)) aNil)))) aNil))) aNil))) aNil))))))) g__law_near_3 := ⟨_, rfl⟩
noncomputable def g__law_near_2 : DS := Classical.choose v__law_near_2
theorem u__law_near_2 : g__law_near_2 =
  gSeq (gSet 4 (d2 gAdd (dOwn 4) (dN2 (nLst (aCons (dTup (aCons (dVar 2) (aCons (d2 gAdd (dOwn 3) (dTup (aCons (dTup (aCons (dC (.int 0)) (aCons (dC (.int 0)) aNil))) aNil))) aNil))) (aCons (dTup (aCons (dVar 2) (aCons (d2 gAdd (dOwn 3) (dBi bTuple (aCons (dN2 (nLc 100000 (iSeq (dSl (dOwn 3) pNo (pAt (dC (.int 1))))) (gTp (gsCons (gNm 5) (gsCons (gNm 6) gsNil))) tTrue (dTup (aCons (dVar 6) (aCons (dVar 5) aNil))) [5, 6])) aNil))) aNil))) (aCons (dTup (aCons (dVar 2) (aCons (d2 gAdd (dOwn 3) (dTup (aCons (dTup (aCons (dC (.int 0)) (aCons (dC (.int 1)) (aCons (dC (.int 0)) aNil)))) aNil))) aNil))) aNil))))))) g__law_near_3 := Classical.choose_spec v__law_near_2
theorem v__law_near_1 : ∃ g : DS, g =
  gSeq (gSet 4 (dN2 (nLst (aCons (dVar 1) (aCons (dC .none) (aCons (dN2 (nOf (aCons (dOwn 1) aNil))) (aCons (dTup (aCons (dVar 2) (aCons (dN2 (nOf (aCons (dOwn 3) aNil))) aNil))) (aCons (dTup (aCons (d2 gAdd (dOwn 2) (dC (.int 1))) (aCons (dVar 3) aNil))) (aCons (dTup (aCons (d2 gSub (dOwn 2) (dC (.int 1))) (aCons (dVar 3) aNil))) (aCons (dTup (aCons (dVar 2) (aCons (d2 gMul (dOwn 3) (dC (.int 3))) aNil))) (aCons (dTup (aCons (dVar 2) (aCons (d2 gAdd (dOwn 3) (dTup (aCons (dTup (aCons (dC (.int 0)) (aCons (dVar 2) aNil))) aNil))) aNil))) aNil))))))))))) g__law_near_2 := ⟨_, rfl⟩
noncomputable def g__law_near_1 : DS := Classical.choose v__law_near_1
theorem u__law_near_1 : g__law_near_1 =
  gSeq (gSet 4 (dN2 (nLst (aCons (dVar 1) (aCons (dC .none) (aCons (dN2 (nOf (aCons (dOwn 1) aNil))) (aCons (dTup (aCons (dVar 2) (aCons (dN2 (nOf (aCons (dOwn 3) aNil))) aNil))) (aCons (dTup (aCons (d2 gAdd (dOwn 2) (dC (.int 1))) (aCons (dVar 3) aNil))) (aCons (dTup (aCons (d2 gSub (dOwn 2) (dC (.int 1))) (aCons (dVar 3) aNil))) (aCons (dTup (aCons (dVar 2) (aCons (d2 gMul (dOwn 3) (dC (.int 3))) aNil))) (aCons (dTup (aCons (dVar 2) (aCons (d2 gAdd (dOwn 3) (dTup (aCons (dTup (aCons (dC (.int 0)) (aCons (dVar 2) aNil))) aNil))) aNil))) aNil))))))))))) g__law_near_2 := Classical.choose_spec v__law_near_1
theorem v__law_near_0 : ∃ g : DS, g =
  gSeq (gAsg (dVar 1) (gTp (gsCons (gNm 2) (gsCons (gNm 3) gsNil)))) g__law_near_1 := ⟨_, rfl⟩
noncomputable def g__law_near_0 : DS := Classical.choose v__law_near_0
theorem u__law_near_0 : g__law_near_0 =
  gSeq (gAsg (dVar 1) (gTp (gsCons (gNm 2) (gsCons (gNm 3) gsNil)))) g__law_near_1 := Classical.choose_spec v__law_near_0
def g__law_near : DS := g__law_near_0
theorem x__law_near : ∃ F : Fn, F = fnB 2 5 g__law_near := ⟨_, rfl⟩
noncomputable def m__law_near : Fn := Classical.choose x__law_near
theorem q__law_near : m__law_near = fnB 2 5 g__law_near := Classical.choose_spec x__law_near
def g__law_pieces_b0 : DS :=
  (gSeq (gSet 5 (d2 gAdd (dN2 (nLc 100000 (iSeq (d2 gIx (dOwn 0) (dC (.int 1)))) (gTp (gsCons (gNm 6) (gsCons (gNm 7) gsNil))) (tVal (d2 gIn (dOwn 6) (dOwn 3))) (dVar 7) [6, 7])) (dN2 (nLc 100000 (iSeq (d2 gIx (dOwn 0) (dC (.int 1)))) (gTp (gsCons (gNm 6) (gsCons (gNm 7) gsNil))) (tVal (d2 gIn (dOwn 7) (dOwn 3))) (dVar 6) [6, 7]))))
  (gSet 3 (dN2 (nSs (d2 gAdd (dOwn 3) (dOwn 5))))))
def g__law_pieces_b1 : DS :=
  (gSeq (gSet 3 (dN2 (nLst (aCons (d2 gIx (dOwn 1) (dC (.int 0))) aNil))))
  (gSeq (gFor 100000 (iRg rg1 (aCons (d2 gIx (dOwn 0) (dC (.int 0))) aNil)) (gNm 4) g__law_pieces_b0)
  (gSeq (gApp 2 (dBi bTuple (aCons (dOwn 3) aNil)))
  (gSet 1 (dN2 (nLc 100000 (iSeq (dVar 1)) (gNm 8) (tVal (d2 gNotIn (dOwn 8) (dOwn 3))) (dVar 8) [8]))))))
def g__law_pieces : DS :=
  (gSeq (gParDN 1 2 (dN2 (nRg1 (d2 gIx (dOwn 0) (dC (.int 0))))) (nLst aNil))
  (gSeq (gWhile (tVal (d2 gNe (dOwn 1) (dN2 (nLst aNil)))) g__law_pieces_b1)
  (gRet (dBi bTuple (aCons (dOwn 2) aNil)))))
theorem x__law_pieces : ∃ F : Fn, F = fnB 1 8 g__law_pieces := ⟨_, rfl⟩
noncomputable def m__law_pieces : Fn := Classical.choose x__law_pieces
theorem q__law_pieces : m__law_pieces = fnB 1 8 g__law_pieces := Classical.choose_spec x__law_pieces
def g__law_round_b0 : DS :=
  (gIfS (tAnd' (tVal (d2 gNotIn (dOwn 3) (dOwn 1))) (tNot' (tVal (dBi bAny (aCons (dN2 (nLc 100000 (iSeq (d2 gIx (dOwn 0) (dC (.int 1)))) (gTp (gsCons (gNm 4) (gsCons (gNm 5) gsNil))) tTrue (dAnd (d2 gEq (dOwn 4) (dOwn 3)) (d2 gNotIn (dOwn 5) (dOwn 1))) [4, 5])) aNil))))) (gSeq (gApp 1 (dVar 3))
  gBrk) gNext)
def g__law_round_b1 : DS :=
  (gFor 100000 (iRg rg1 (aCons (d2 gIx (dOwn 0) (dC (.int 0))) aNil)) (gNm 3) g__law_round_b0)
def g__law_round : DS :=
  (gSeq (gSetN 1 (nLst aNil))
  (gSeq (gFor 100000 (iRg rg1 (aCons (d2 gIx (dOwn 0) (dC (.int 0))) aNil)) (gNm 2) g__law_round_b1)
  (gRet (dBi bTuple (aCons (dOwn 1) aNil)))))
theorem x__law_round : ∃ F : Fn, F = fnB 1 5 g__law_round := ⟨_, rfl⟩
noncomputable def m__law_round : Fn := Classical.choose x__law_round
theorem q__law_round : m__law_round = fnB 1 5 g__law_round := Classical.choose_spec x__law_round
theorem v__law_told_3 : ∃ g : DS, g =
  (gRet (dIf (tVal (d1 gIsN (dOwn 3))) (dC .none) (dTup (aCons (dN2 (nLc 100000 (iRg rg1 (aCons (dC (.int 3)) aNil)) (gNm 6) (tVal (d2 gIx (dOwn 5) (dOwn 6))) (dVar 6) [6])) (aCons (dBi bRepr (aCons (d1 gVal (dOwn 3)) aNil)) aNil))))) := ⟨_, rfl⟩
noncomputable def g__law_told_3 : DS := Classical.choose v__law_told_3
theorem u__law_told_3 : g__law_told_3 =
  (gRet (dIf (tVal (d1 gIsN (dOwn 3))) (dC .none) (dTup (aCons (dN2 (nLc 100000 (iRg rg1 (aCons (dC (.int 3)) aNil)) (gNm 6) (tVal (d2 gIx (dOwn 5) (dOwn 6))) (dVar 6) [6])) (aCons (dBi bRepr (aCons (d1 gVal (dOwn 3)) aNil)) aNil))))) := Classical.choose_spec v__law_told_3
theorem v__law_told_2 : ∃ g : DS, g =
  gSeq (gSet 5 (dN2 (nLst (aCons (d1 (gIsE 0 subE) (dOwn 3)) (aCons (d1 (gIsE 1 subE) (dOwn 3)) (aCons (d1 (gIsE 2 subE) (dOwn 3)) aNil)))))) g__law_told_3 := ⟨_, rfl⟩
noncomputable def g__law_told_2 : DS := Classical.choose v__law_told_2
theorem u__law_told_2 : g__law_told_2 =
  gSeq (gSet 5 (dN2 (nLst (aCons (d1 (gIsE 0 subE) (dOwn 3)) (aCons (d1 (gIsE 1 subE) (dOwn 3)) (aCons (d1 (gIsE 2 subE) (dOwn 3)) aNil)))))) g__law_told_3 := Classical.choose_spec v__law_told_2
theorem v__law_told_1 : ∃ g : DS, g =
  gSeq (gTry 4 3 (gIfS (tVal (d2 gEq (dOwn 0) (dC (.int 0)))) (gDrop (dCall m_pieces (aCons (dVar 1) aNil))) (gIfS (tVal (d2 gEq (dOwn 0) (dC (.int 1)))) (gDrop (dCallK m_round_of px_0 aNil (aCons (dVar 1) aNil))) (gIfS (tVal (d2 gEq (dOwn 0) (dC (.int 2)))) (gDrop (dCall m_opposite (aCons (dVar 1) aNil))) (gDrop (dCallK m_turned_at px_10 aNil (aCons (dVar 2) (aCons (dVar 1) aNil)))))))) g__law_told_2 := ⟨_, rfl⟩
noncomputable def g__law_told_1 : DS := Classical.choose v__law_told_1
theorem u__law_told_1 : g__law_told_1 =
  gSeq (gTry 4 3 (gIfS (tVal (d2 gEq (dOwn 0) (dC (.int 0)))) (gDrop (dCall m_pieces (aCons (dVar 1) aNil))) (gIfS (tVal (d2 gEq (dOwn 0) (dC (.int 1)))) (gDrop (dCallK m_round_of px_0 aNil (aCons (dVar 1) aNil))) (gIfS (tVal (d2 gEq (dOwn 0) (dC (.int 2)))) (gDrop (dCall m_opposite (aCons (dVar 1) aNil))) (gDrop (dCallK m_turned_at px_10 aNil (aCons (dVar 2) (aCons (dVar 1) aNil)))))))) g__law_told_2 := Classical.choose_spec v__law_told_1
theorem v__law_told_0 : ∃ g : DS, g =
  gSeq (gSet 3 (dC .none)) g__law_told_1 := ⟨_, rfl⟩
noncomputable def g__law_told_0 : DS := Classical.choose v__law_told_0
theorem u__law_told_0 : g__law_told_0 =
  gSeq (gSet 3 (dC .none)) g__law_told_1 := Classical.choose_spec v__law_told_0
def g__law_told : DS := g__law_told_0
theorem x__law_told : ∃ F : Fn, F = fnB 3 4 g__law_told := ⟨_, rfl⟩
noncomputable def m__law_told : Fn := Classical.choose x__law_told
theorem q__law_told : m__law_told = fnB 3 4 g__law_told := Classical.choose_spec x__law_told
def g__law_turned_right_b0 : DS :=
  (gSeq (gPar 2 3 (aCons (d2 gNotIn (dOwn 1) (dN2 (nLc 100000 (iSeq (d2 gIx (dOwn 0) (dC (.int 1)))) (gTp (gsCons (gNm 5) (gsCons (gNm 6) gsNil))) tTrue (dVar 5) [5, 6]))) (aCons (d2 gNotIn (dOwn 1) (dN2 (nLc 100000 (iSeq (d2 gIx (dOwn 0) (dC (.int 1)))) (gTp (gsCons (gNm 5) (gsCons (gNm 6) gsNil))) tTrue (dVar 6) [5, 6]))) aNil)))
  (gIfS (tAnd' (tNot' (tVal (dVar 2))) (tNot' (tVal (dVar 3)))) (gIfS (tVal (d2 gNe (dCall m__law_told (aCons (dC (.int 3)) (aCons (dVar 0) (aCons (dVar 1) aNil)))) (dTup (aCons (dN2 (nLst (aCons (dC (.int 2)) aNil))) (aCons (dBi bRepr (aCons (dOwn 1) aNil)) aNil))))) (gRet (dC (.bool false))) gNext) (gIfS (tVal (d2 gNe (dCall m_turned_at (aCons (dVar 0) (aCons (dVar 1) aNil))) (dTup (aCons (d2 gIx (dOwn 0) (dC (.int 0))) (aCons (dBi bTuple (aCons (dN2 (nLc 100000 (iSeq (d2 gIx (dOwn 0) (dC (.int 1)))) (gTp (gsCons (gNm 5) (gsCons (gNm 6) gsNil))) tTrue (dIf (tVal (d2 gIn (dOwn 1) (dTup (aCons (dVar 5) (aCons (dVar 6) aNil))))) (dTup (aCons (dVar 6) (aCons (dVar 5) aNil))) (dTup (aCons (dVar 5) (aCons (dVar 6) aNil)))) [5, 6])) aNil)) aNil))))) (gRet (dC (.bool false))) gNext)))
def g__law_turned_right_b1 : DS :=
  (gSeq (gIfS (tVal (d2 gNotIn (dOwn 1) (dCall m_ends (aCons (dVar 4) aNil)))) (gRet (dC (.bool false))) gNext)
  (gSet 4 (dCallK m_turned_at px_01 aNil (aCons (dVar 4) (aCons (dVar 1) aNil)))))
def g__law_turned_right : DS :=
  (gSeq (gFor 100000 (iRg rg1 (aCons (d2 gIx (dOwn 0) (dC (.int 0))) aNil)) (gNm 1) g__law_turned_right_b0)
  (gSeq (gSet 4 (dVar 0))
  (gSeq (gFor 100000 (iSeq (dCall m_round_of (aCons (dVar 0) aNil))) (gNm 1) g__law_turned_right_b1)
  (gRet (d2 gEq (dOwn 4) (dOwn 0))))))
theorem x__law_turned_right : ∃ F : Fn, F = fnB 1 6 g__law_turned_right := ⟨_, rfl⟩
noncomputable def m__law_turned_right : Fn := Classical.choose x__law_turned_right
theorem q__law_turned_right : m__law_turned_right = fnB 1 6 g__law_turned_right := Classical.choose_spec x__law_turned_right
def g__law_right_b0 : DS :=
  (gSeq (gSet 5 (dCall m__law_near (aCons (dVar 0) (aCons (dVar 1) aNil))))
  (gSeq (gSet 6 (dCall m__law_is_web (aCons (dVar 5) aNil)))
  (gSeq (gIfS (tVal (d2 gNe (dBi bRepr (aCons (dN2 (nLst (aCons (dCall m_is_web (aCons (dVar 5) aNil)) (aCons (dCallK m_is_web px_0 aNil (aCons (dVar 5) aNil)) aNil)))) aNil)) (dBi bRepr (aCons (dN2 (nLst (aCons (dVar 6) (aCons (dVar 6) aNil)))) aNil)))) (gRet (dC (.bool false))) gNext)
  (gIfS (tAnd' (tNot' (tVal (dVar 6))) (tVal (d2 gNe (dN2 (nLc 100000 (iRg rg1 (aCons (dC (.int 4)) aNil)) (gNm 12) tTrue (dCall m__law_told (aCons (dVar 12) (aCons (dVar 5) (aCons (d1 gNeg (dC (.int 1))) aNil)))) [12])) (d2 gMul (dN2 (nLst (aCons (dTup (aCons (dN2 (nLst (aCons (dC (.int 0)) aNil))) (aCons (dBi bRepr (aCons (dOwn 5) aNil)) aNil))) aNil))) (dC (.int 4)))))) (gRet (dC (.bool false))) gNext))))
theorem v__law_right_7 : ∃ g : DS, g =
  (gRet (dAnd (dCall m__law_turned_right (aCons (dVar 1) aNil)) (d2 gEq (dCall m_opposite (aCons (dCall m_opposite (aCons (dVar 1) aNil)) aNil)) (dOwn 1)))) := ⟨_, rfl⟩
noncomputable def g__law_right_7 : DS := Classical.choose v__law_right_7
theorem u__law_right_7 : g__law_right_7 =
  (gRet (dAnd (dCall m__law_turned_right (aCons (dVar 1) aNil)) (d2 gEq (dCall m_opposite (aCons (dCall m_opposite (aCons (dVar 1) aNil)) aNil)) (dOwn 1)))) := Classical.choose_spec v__law_right_7
theorem v__law_right_6 : ∃ g : DS, g =
  gSeq (gIfS (tVal (d2 gNe (dN2 (nLc 100000 (iSeq (dTup (aCons (d1 gNeg (dC (.int 1))) (aCons (d2 gIx (dOwn 1) (dC (.int 0))) aNil)))) (gNm 7) tTrue (dCall m__law_told (aCons (dC (.int 3)) (aCons (dVar 1) (aCons (dVar 7) aNil)))) [7])) (dN2 (nLst (aCons (dTup (aCons (dN2 (nLst (aCons (dC (.int 1)) aNil))) (aCons (dC (.str "-1")) aNil))) (aCons (dTup (aCons (dN2 (nLst (aCons (dC (.int 1)) aNil))) (aCons (dBi bRepr (aCons (d2 gIx (dOwn 1) (dC (.int 0))) aNil)) aNil))) aNil)))))) (gRet (dC (.bool false))) gNext) g__law_right_7 := ⟨_, rfl⟩
noncomputable def g__law_right_6 : DS := Classical.choose v__law_right_6
theorem u__law_right_6 : g__law_right_6 =
  gSeq (gIfS (tVal (d2 gNe (dN2 (nLc 100000 (iSeq (dTup (aCons (d1 gNeg (dC (.int 1))) (aCons (d2 gIx (dOwn 1) (dC (.int 0))) aNil)))) (gNm 7) tTrue (dCall m__law_told (aCons (dC (.int 3)) (aCons (dVar 1) (aCons (dVar 7) aNil)))) [7])) (dN2 (nLst (aCons (dTup (aCons (dN2 (nLst (aCons (dC (.int 1)) aNil))) (aCons (dC (.str "-1")) aNil))) (aCons (dTup (aCons (dN2 (nLst (aCons (dC (.int 1)) aNil))) (aCons (dBi bRepr (aCons (d2 gIx (dOwn 1) (dC (.int 0))) aNil)) aNil))) aNil)))))) (gRet (dC (.bool false))) gNext) g__law_right_7 := Classical.choose_spec v__law_right_6
theorem v__law_right_5 : ∃ g : DS, g =
  gSeq (gFor 64 (iRg rg1 (aCons (dC (.int 5)) aNil)) (gNm 4) g__law_right_b0) g__law_right_6 := ⟨_, rfl⟩
noncomputable def g__law_right_5 : DS := Classical.choose v__law_right_5
theorem u__law_right_5 : g__law_right_5 =
  gSeq (gFor 64 (iRg rg1 (aCons (dC (.int 5)) aNil)) (gNm 4) g__law_right_b0) g__law_right_6 := Classical.choose_spec v__law_right_5
theorem v__law_right_4 : ∃ g : DS, g =
  gSeq (gIfS (tVal (d2 gNe (dBi bRepr (aCons (dN2 (nLst (aCons (dCallK m_pieces px_0 aNil (aCons (dVar 1) aNil)) (aCons (dCallK m_ends px_0 aNil (aCons (dVar 1) aNil)) (aCons (dCallK m_begins px_0 aNil (aCons (dVar 1) aNil)) (aCons (dCallK m_opposite px_0 aNil (aCons (dVar 1) aNil)) (aCons (dCallK m_round_of px_0 aNil (aCons (dVar 1) aNil)) aNil))))))) aNil)) (dBi bRepr (aCons (dOwn 3) aNil)))) (gRet (dC (.bool false))) gNext) g__law_right_5 := ⟨_, rfl⟩
noncomputable def g__law_right_4 : DS := Classical.choose v__law_right_4
theorem u__law_right_4 : g__law_right_4 =
  gSeq (gIfS (tVal (d2 gNe (dBi bRepr (aCons (dN2 (nLst (aCons (dCallK m_pieces px_0 aNil (aCons (dVar 1) aNil)) (aCons (dCallK m_ends px_0 aNil (aCons (dVar 1) aNil)) (aCons (dCallK m_begins px_0 aNil (aCons (dVar 1) aNil)) (aCons (dCallK m_opposite px_0 aNil (aCons (dVar 1) aNil)) (aCons (dCallK m_round_of px_0 aNil (aCons (dVar 1) aNil)) aNil))))))) aNil)) (dBi bRepr (aCons (dOwn 3) aNil)))) (gRet (dC (.bool false))) gNext) g__law_right_5 := Classical.choose_spec v__law_right_4
theorem v__law_right_3 : ∃ g : DS, g =
  gSeq (gIfS (tVal (d2 gNe (dBi bRepr (aCons (dN2 (nLst (aCons (dCall m_pieces (aCons (dVar 1) aNil)) (aCons (dCall m_ends (aCons (dVar 1) aNil)) (aCons (dCall m_begins (aCons (dVar 1) aNil)) (aCons (dCall m_opposite (aCons (dVar 1) aNil)) (aCons (dCall m_round_of (aCons (dVar 1) aNil)) aNil))))))) aNil)) (dBi bRepr (aCons (dOwn 3) aNil)))) (gRet (dC (.bool false))) gNext) g__law_right_4 := ⟨_, rfl⟩
noncomputable def g__law_right_3 : DS := Classical.choose v__law_right_3
theorem u__law_right_3 : g__law_right_3 =
  gSeq (gIfS (tVal (d2 gNe (dBi bRepr (aCons (dN2 (nLst (aCons (dCall m_pieces (aCons (dVar 1) aNil)) (aCons (dCall m_ends (aCons (dVar 1) aNil)) (aCons (dCall m_begins (aCons (dVar 1) aNil)) (aCons (dCall m_opposite (aCons (dVar 1) aNil)) (aCons (dCall m_round_of (aCons (dVar 1) aNil)) aNil))))))) aNil)) (dBi bRepr (aCons (dOwn 3) aNil)))) (gRet (dC (.bool false))) gNext) g__law_right_4 := Classical.choose_spec v__law_right_3
theorem v__law_right_2 : ∃ g : DS, g =
  gSeq (gSet 3 (dN2 (nLst (aCons (dCall m__law_pieces (aCons (dVar 1) aNil)) (aCons (d2 gIx (dOwn 2) (dC (.int 0))) (aCons (d2 gIx (dOwn 2) (dC (.int 1))) (aCons (dTup (aCons (d2 gIx (dOwn 1) (dC (.int 0))) (aCons (dBi bTuple (aCons (dN2 (nLc 100000 (iSeq (d2 gIx (dOwn 1) (dC (.int 1)))) (gTp (gsCons (gNm 10) (gsCons (gNm 11) gsNil))) tTrue (dTup (aCons (dVar 11) (aCons (dVar 10) aNil))) [10, 11])) aNil)) aNil))) (aCons (dCall m__law_round (aCons (dVar 1) aNil)) aNil)))))))) g__law_right_3 := ⟨_, rfl⟩
noncomputable def g__law_right_2 : DS := Classical.choose v__law_right_2
theorem u__law_right_2 : g__law_right_2 =
  gSeq (gSet 3 (dN2 (nLst (aCons (dCall m__law_pieces (aCons (dVar 1) aNil)) (aCons (d2 gIx (dOwn 2) (dC (.int 0))) (aCons (d2 gIx (dOwn 2) (dC (.int 1))) (aCons (dTup (aCons (d2 gIx (dOwn 1) (dC (.int 0))) (aCons (dBi bTuple (aCons (dN2 (nLc 100000 (iSeq (d2 gIx (dOwn 1) (dC (.int 1)))) (gTp (gsCons (gNm 10) (gsCons (gNm 11) gsNil))) tTrue (dTup (aCons (dVar 11) (aCons (dVar 10) aNil))) [10, 11])) aNil)) aNil))) (aCons (dCall m__law_round (aCons (dVar 1) aNil)) aNil)))))))) g__law_right_3 := Classical.choose_spec v__law_right_2
theorem v__law_right_1 : ∃ g : DS, g =
  gSeq (gSet 2 (dN2 (nLc 100000 (iSeq (dTup (aCons (dC (.int 0)) (aCons (dC (.int 1)) aNil)))) (gNm 9) tTrue (dBi bTuple (aCons (dN2 (nLc 100000 (iRg rg1 (aCons (d2 gIx (dOwn 1) (dC (.int 0))) aNil)) (gNm 7) (tVal (d2 gNotIn (dOwn 7) (dN2 (nLc 100000 (iSeq (d2 gIx (dOwn 1) (dC (.int 1)))) (gNm 8) tTrue (d2 gIx (dOwn 8) (dOwn 9)) [8])))) (dVar 7) [7])) aNil)) [9]))) g__law_right_2 := ⟨_, rfl⟩
noncomputable def g__law_right_1 : DS := Classical.choose v__law_right_1
theorem u__law_right_1 : g__law_right_1 =
  gSeq (gSet 2 (dN2 (nLc 100000 (iSeq (dTup (aCons (dC (.int 0)) (aCons (dC (.int 1)) aNil)))) (gNm 9) tTrue (dBi bTuple (aCons (dN2 (nLc 100000 (iRg rg1 (aCons (d2 gIx (dOwn 1) (dC (.int 0))) aNil)) (gNm 7) (tVal (d2 gNotIn (dOwn 7) (dN2 (nLc 100000 (iSeq (d2 gIx (dOwn 1) (dC (.int 1)))) (gNm 8) tTrue (d2 gIx (dOwn 8) (dOwn 9)) [8])))) (dVar 7) [7])) aNil)) [9]))) g__law_right_2 := Classical.choose_spec v__law_right_1
theorem v__law_right_0 : ∃ g : DS, g =
  gSeq (gSet 1 (dCall m__law_web (aCons (dVar 0) (aCons (dC (.int 9)) (aCons (dC (.int 12)) aNil))))) g__law_right_1 := ⟨_, rfl⟩
noncomputable def g__law_right_0 : DS := Classical.choose v__law_right_0
theorem u__law_right_0 : g__law_right_0 =
  gSeq (gSet 1 (dCall m__law_web (aCons (dVar 0) (aCons (dC (.int 9)) (aCons (dC (.int 12)) aNil))))) g__law_right_1 := Classical.choose_spec v__law_right_0
def g__law_right : DS := g__law_right_0
theorem x__law_right : ∃ F : Fn, F = fnB 1 12 g__law_right := ⟨_, rfl⟩
noncomputable def m__law_right : Fn := Classical.choose x__law_right
theorem q__law_right : m__law_right = fnB 1 12 g__law_right := Classical.choose_spec x__law_right
def g_law : DS :=
  (gSeq (gFor 100000 (iRg rg1 (aCons (dBi bMax2 (aCons (dC (.int 1)) (aCons (dBi bMin2 (aCons (dC (.int 3)) (aCons (dBi bLen (aCons (dOwn 0) aNil)) aNil))) aNil))) aNil)) (gNm 1) (gSeq (gSetN 2 (nCallW (aCons (dVar 0) (aCons (dVar 1) aNil))))
  (gFor 100000 (iRg rg1 (aCons (dC (.int 4)) aNil)) (gNm 3) (gRight 322 2))))
  (gRet (dC (.bool true))))
theorem x_law : ∃ F : Fn, F = fnB 1 3 g_law := ⟨_, rfl⟩
noncomputable def m_law : Fn := Classical.choose x_law
theorem q_law : m_law = fnB 1 3 g_law := Classical.choose_spec x_law
end Law
namespace Law
open PySem PySem.Spec PyProof.Rows L2 Wb
local macro_rules | `(tactic| array_get_dec) => `(tactic| try simp -implicitDefEqProofs -proj only [gSeq, gIfS, gRet, gSet, gSetN, gSetIx, gDrop, gRaise, gNext, gBrk, gCnt, gApp, gFrz, gTry, gAsg, gFor, gPar, gPar3, gParNN, gParDN, gParND, gAppX, xPopAt, xPop, gDropX, gSetX, gAugI, dVar, dOwn, dC, d2, d1, dN2, aNil, aCons, dTup, nLst, dBi, tVal, tNot', tAnd', tOr', dAnd, dOr, dNot, dIf, dChain, dSl, pAt, pNo, nOf, nRg1, iRg, iSeq, iZp, iRv, nLc, tTrue, gNm, gTp, gTpL, gsCons, gsNil, wipeD, e_onD, e_onB, e_onI, e_slV, e_slO, e_slOo, e_slOw, e_gI, e_gI0, e_add, e_mul, e_mulL, e_neg, e_ixL, e_ixT, e_ixS, e_isi, e_isN, e_notN, e_isNe, e_isNi, e_isNb, e_isNl, e_isNt, e_isNs, e_lenL, e_lenT, e_lenS, e_abs, e_int, e_intB, e_max, e_min, e_gcd, e_tupL, e_tupT, e_repr, e_sum, e_all, e_any, e_allN, e_allC, e_seqL, e_seqT, e_seqS, e_rg1, e_rg2, e_excN, e_excE, e_val, e_at0, e_at1, e_at2, e_ixn0, e_ixn1, e_ixn2, e_ex, e_zp, e_slT, e_slL, e_max1, e_min1, e_addT, e_addL, e_addS, e_mulT, e_eqN, e_neN, e_eqNT, e_neNT, e_siL, e_siT, e_inL, e_ninL, e_inT, e_ninT, e_eqI, e_neI, e_neS, e_nx, e_rt, e_bk, e_ct, e_exc, e_call0, e_call1, e_call2, e_call3, e_call4, e_call5, e_call6, e_call7, e_call8, e_call9, e_callk1, e_callk2, e_callk3, e_callk4, e_callk5, e_callk6, e_callk7, e_callk8, e_callk9, e_get0, e_get1, e_get2, e_get3, e_get4, e_get5, e_get6, e_get7, e_get8, e_get9, e_get10, e_get11, e_get12, e_get13, e_get14, e_get15, e_get16, e_get17, e_get18, e_get19, e_get20, e_get21, e_get22, e_get23, e_get24, e_get25, e_set0, e_set1, e_set2, e_set3, e_set4, e_set5, e_set6, e_set7, e_set8, e_set9, e_set10, e_set11, e_set12, e_set13, e_set14, e_set15, e_set16, e_set17, e_set18, e_set19, e_set20, e_set21, e_set22, e_set23, e_set24, e_set25, List.replicate, List.cons_append, List.nil_append, List.map_cons, List.map_nil, fnB, ↓reduceIte, Bool.false_eq_true, Bool.not_true, Bool.not_false, List.length_cons, List.length_nil, Nat.zero_add, Nat.reduceAdd, Nat.reduceLeDiff, true_and, px_0, px_10, px_01, nSs, nSd, nRep])
local macro_rules | `(tactic| sizeOf_list_dec) => `(tactic| first | assumption | exact trivial | omega | (simp only [List.length_map, List.length_append, List.length_cons, List.length_nil, List.length_replicate, List.length_reverse, List.length_set, List.length_zip, List.length_zipWith, rngD_len, irg_len] at *; omega) | decide | grind [List.length_filter_le, cutL_len] | (refine ⟨by omega, by omega⟩) | rfl | (intro _ hq; first | exact hq | (simp only [mem_irg] at hq; omega)))
local macro_rules | `(tactic| ac_rfl) => `(tactic| first
  | array_mem_dec
  | ((with_reducible apply And.intro); focus sizeOf_list_dec)
  | refine ite_t (decide_eq_true (by sizeOf_list_dec)) ?_
  | refine ite_f (decide_eq_false (by sizeOf_list_dec)) ?_
  | refine ite_t rfl ?_
  | refine ite_f rfl ?_
  | refine at_map (by sizeOf_list_dec) (by sizeOf_list_dec) ?_
  | (apply lcD_testI; focus (intro x hx P hP; bv_omega; first | exact a_push hP | exact a_push' hP))
  | (apply lcD_test; focus (intro x hx P hP; bv_omega; first | exact a_push hP | exact a_push' hP))
  | (apply lcD_allI; focus (intro x hx P hP; bv_omega; exact hP))
  | (apply lcD_allB; focus (intro x hx P hP; bv_omega; exact hP))
  | (apply lcD_all; focus (intro x hx P hP; bv_omega; exact hP))
  | infer_instance)
local macro_rules | `(tactic| bv_omega) => `(tactic| repeat ac_rfl)
theorem ev_draw : DrawLaw 3 g__law_draw := by
  intro m a b c many hW h0 h1
  obtain ⟨w1, w2, w3, w4, w5, w6⟩ := hW
  have p29 : ((10 : Int) ^ Int.toNat 29 + 319) = 100000000000000000000000000319 := by decide +kernel
  have p31 : ((10 : Int) ^ Int.toNat 31 + 33) = 10000000000000000000000000000033 := by decide +kernel
  have p33 : ((10 : Int) ^ Int.toNat 33 + 603) = 1000000000000000000000000000000603 := by decide +kernel
  simp only [g__law_draw, gSeq, gIfS, gRet, gSet, gSetN, gSetIx, gDrop, gRaise, gNext, gApp, gFrz, gTry, gAsg, gFor, gRight, nCallW, zSeq, zRet, dVar, dOwn, dC, d2, d1, dN2, aNil, aCons, dTup, nLst, dCall, dBi, tVal, tNot', tAnd', tOr', dAnd, dOr, dNot, dIf, dChain, dCallK, iRg, iSeq, nLc, tTrue, gNm, wipeD, e_onD, e_onB, e_onI, e_slV, e_slO, e_slOo, e_slOw, e_gI, e_gI0, e_add, e_mul, e_mulL, e_neg, e_ixL, e_ixT, e_ixS, e_isi, e_isN, e_notN, e_isNe, e_isNi, e_isNb, e_isNl, e_isNt, e_isNs, e_lenL, e_lenT, e_lenS, e_abs, e_int, e_intB, e_max, e_min, e_gcd, e_tupL, e_tupT, e_repr, e_sum, e_all, e_any, e_allN, e_allC, e_seqL, e_seqT, e_seqS, e_rg1, e_rg2, e_excN, e_excE, e_val, e_at0, e_at1, e_at2, e_get0, e_get1, e_get2, e_get3, e_get4, e_get5, e_get6, e_get7, e_set0, e_set1, e_set2, e_set3, e_set4, e_set5, e_set6, e_set7, e_ixn0, e_ixn1, e_ixn2, e_ex, List.replicate, List.cons_append, List.nil_append, List.map, fnB, p29, p31, p33]
  split
  · rename_i ha
    have ha : 0 < a := of_decide_eq_true ha
    have f1 := fdiv_nn w1 h0
    have f2 := fdiv_le w1 h0
    refine ⟨by omega, fdivOk h0 h1, _, _, _, _, rfl, ⟨f1, w2, w3, ?_, w5, by omega⟩, rfl, fmod_nn h0, fmod_lt h0⟩
    have : (a.fdiv many).natAbs ≤ a.natAbs := by omega
    exact Nat.lt_of_le_of_lt this w4
  · have mc : MB 61 (c + 1) := MB.of (by omega) (by omega)
    have mb : MB 200 b := w5
    have mb31 : MB 201 (b + 31) := mb.add (MB.le (a := 5) (by unfold MB; decide) (by decide))
    have mc5 : MB 62 (c + 1 + 5) := mc.add (MB.le (a := 3) (by unfold MB; decide) (by decide))
    have k1 : MB 30 998244353 := by unfold MB; decide
    have k2 : MB 30 424242427 := by unfold MB; decide
    have k7 : MB 3 7 := by unfold MB; decide
    have m1 := fmod_nn (i := (b + 31) * (c + 1 + 5) * 998244353 + (c + 1) * (c + 1) * (c + 1) * 424242427 + 77) (j := 100000000000000000000000000319) (by decide)
    have m1' := fmod_lt (i := (b + 31) * (c + 1 + 5) * 998244353 + (c + 1) * (c + 1) * (c + 1) * 424242427 + 77) (j := 100000000000000000000000000319) (by decide)
    refine ⟨mb31.ok mc5 (by decide), (mb31.mul mc5).ok k1 (by decide), mc.ok mc (by decide), (mc.mul mc).ok mc (by decide), ((mc.mul mc).mul mc).ok k2 (by decide), ⟨by decide, by decide, by decide⟩, by decide, ?_⟩
    generalize ((b + 31) * (c + 1 + 5) * 998244353 + (c + 1) * (c + 1) * (c + 1) * 424242427 + 77).fmod 100000000000000000000000000319 = M1 at m1 m1' ⊢
    have b1 : MB 120 M1 := MB.of m1 (by omega)
    have m2 := fmod_nn (i := M1 * M1 + b * 7 + (c + 1)) (j := 10000000000000000000000000000033) (by decide)
    have m2' := fmod_lt (i := M1 * M1 + b * 7 + (c + 1)) (j := 10000000000000000000000000000033) (by decide)
    refine ⟨b1.ok b1 (by decide), mb.ok k7 (by decide), ⟨by decide, by decide, by decide⟩, by decide, ?_⟩
    generalize (M1 * M1 + b * 7 + (c + 1)).fmod 10000000000000000000000000000033 = M2 at m2 m2' ⊢
    have b2 : MB 120 M2 := MB.of m2 (by omega)
    refine ⟨b2.ok b2 (by decide), (b2.mul b2).ok (MB.le (a := 2) (by unfold MB; decide) (by decide) : MB 4 3) (by decide), b2.ok (by unfold MB; decide : MB 4 11) (by decide), ⟨by decide, by decide, by decide⟩, by decide, fdivOk (by decide) (by decide), by omega, ?_⟩
    exact ⟨_, _, _, _, rfl, ⟨w1, w2, by omega, w4, w5, by omega⟩, rfl, fmod_nn h0, fmod_lt h0⟩


theorem well_loop {b0 : Int} {D : DEnds} {v0 v1 v2 v5 : Sl} (hnx : ∀ wh x, 0 ≤ wh → wh < 10 ^ 25 + 13 → D.nx [v0, v1, v2, .v (.d (.int wh)), x, v5]) : ∀ (ns : List Int) (wh : Int) (x : Sl), 0 ≤ wh → wh < 10 ^ 25 + 13 →
    loopD (gNm 4) (gSet 3 (d2 gMod (dBi bInt (aCons (d2 gAdd (d2 gMul (dOwn 3) (dC (.int 5323))) (d2 gMod (dBi bInt (aCons (dOwn 4) aNil)) (d2 gAdd (d2 gPow (dC (.int 10)) (dC (.int 19))) (dC (.int 51))))) aNil)) (d2 gAdd (d2 gPow (dC (.int 10)) (dC (.int 25))) (dC (.int 13)))) ) D (ns.map .int) [v0, v1, v2, .v (.d (.int wh)), x, v5]
  | [], wh, x, h0, h1 => by
    unfold loopD
    exact hnx wh x h0 h1
  | z :: ns, wh, x, h0, h1 => by
    have p25 : ((10 : Int) ^ Int.toNat 25 + 13) = 10000000000000000000000013 := by decide +kernel
    have q25 : ((10 : Int) ^ 25 + 13) = 10000000000000000000000013 := by decide +kernel
    rw [q25] at h1
    unfold loopD
    simp only [gSeq, gIfS, gRet, gSet, gSetN, gSetIx, gDrop, gRaise, gNext, gApp, gFrz, gTry, gAsg, gFor, gRight, nCallW, zSeq, zRet, dVar, dOwn, dC, d2, d1, dN2, aNil, aCons, dTup, nLst, dCall, dBi, tVal, tNot', tAnd', tOr', dAnd, dOr, dNot, dIf, dChain, dCallK, iRg, iSeq, nLc, tTrue, gNm, wipeD, e_onD, e_onB, e_onI, e_slV, e_slO, e_slOo, e_slOw, e_gI, e_gI0, e_add, e_mul, e_mulL, e_neg, e_ixL, e_ixT, e_ixS, e_isi, e_isN, e_notN, e_isNe, e_isNi, e_isNb, e_isNl, e_isNt, e_isNs, e_lenL, e_lenT, e_lenS, e_abs, e_int, e_intB, e_max, e_min, e_gcd, e_tupL, e_tupT, e_repr, e_sum, e_all, e_any, e_allN, e_allC, e_seqL, e_seqT, e_seqS, e_rg1, e_rg2, e_excN, e_excE, e_val, e_at0, e_at1, e_at2, e_get0, e_get1, e_get2, e_get3, e_get4, e_get5, e_get6, e_get7, e_set0, e_set1, e_set2, e_set3, e_set4, e_set5, e_set6, e_set7, e_ixn0, e_ixn1, e_ixn2, e_ex, List.replicate, List.cons_append, List.nil_append, List.map, fnB, p25]
    refine ⟨⟨100, 13, (MB.of h0 (by omega) : MB 100 wh), by decide, by decide⟩, cpow10 (by decide) (by decide), by decide, cpow10 (by decide) (by decide), by decide, ?_⟩
    exact well_loop (b0 := b0) hnx ns _ _ (fmod_nn (by decide)) (by rw [q25]; exact fmod_lt (by decide))
theorem atI_of {ns : List Int} {k : Int} (h0 : 0 ≤ k) (h : k < ns.length) : ∃ y, atI ns k = some y ∧ y ∈ ns := by
  have hk : k.toNat < ns.length := by omega
  refine ⟨ns[k.toNat], ?_, List.getElem_mem hk⟩
  unfold atI ixN
  rw [if_pos h0, if_pos h]
  exact List.getElem?_eq_getElem hk
theorem ev_well : WellLaw 4 g__law_well := by
  rintro ns k ⟨hk0, hk1, hl, hz⟩
  have p28 : ((10 : Int) ^ Int.toNat 28 + 331) = 10000000000000000000000000331 := by decide +kernel
  have p18 : ((10 : Int) ^ Int.toNat 18) = 1000000000000000000 := by decide +kernel
  have p25 : ((10 : Int) ^ 25 + 13) = 10000000000000000000000013 := by decide +kernel
  have mk : MB 30 k := MB.of hk0 (by omega)
  simp only [g__law_well, gSeq, gIfS, gRet, gSet, gSetN, gSetIx, gDrop, gRaise, gNext, gApp, gFrz, gTry, gAsg, gFor, gRight, nCallW, zSeq, zRet, dVar, dOwn, dC, d2, d1, dN2, aNil, aCons, dTup, nLst, dCall, dBi, tVal, tNot', tAnd', tOr', dAnd, dOr, dNot, dIf, dChain, dCallK, iRg, iSeq, nLc, tTrue, gNm, wipeD, e_onD, e_onB, e_onI, e_slV, e_slO, e_slOo, e_slOw, e_gI, e_gI0, e_add, e_mul, e_mulL, e_neg, e_ixL, e_ixT, e_ixS, e_isi, e_isN, e_notN, e_isNe, e_isNi, e_isNb, e_isNl, e_isNt, e_isNs, e_lenL, e_lenT, e_lenS, e_abs, e_int, e_intB, e_max, e_min, e_gcd, e_tupL, e_tupT, e_repr, e_sum, e_all, e_any, e_allN, e_allC, e_seqL, e_seqT, e_seqS, e_rg1, e_rg2, e_excN, e_excE, e_val, e_at0, e_at1, e_at2, e_get0, e_get1, e_get2, e_get3, e_get4, e_get5, e_get6, e_get7, e_set0, e_set1, e_set2, e_set3, e_set4, e_set5, e_set6, e_set7, e_ixn0, e_ixn1, e_ixn2, e_ex, List.replicate, List.cons_append, List.nil_append, List.map, fnB]
  split
  case' isTrue =>
    obtain ⟨y, hy, hm⟩ := atI_of (ns := ns) hk0 (of_decide_eq_true (by assumption))
    refine ⟨y, hy, ?_⟩
    have hc : MB 1150000 y := MB.le (hz y hm) (by decide)
    generalize y = c at hc ⊢
  case' isFalse =>
    refine ⟨MB.ok (MB.le (a := 20) (by unfold MB; decide) (Nat.le_refl _)) mk (by decide), ?_⟩
    have hc : MB 1150000 (103 * k + 71) := MB.le (MB.add (MB.le (MB.mul (a := 20) (by unfold MB; decide) mk) (Nat.le_refl _)) (MB.le (a := 20) (by unfold MB; decide) (by decide))) (by decide)
    generalize (103 * k + 71) = c at hc ⊢
  all_goals
    refine ⟨by simpa using hl, well_loop (b0 := 0) ?_ ns _ _ (by omega) (by omega)⟩
    intro wh x h0 h1
    rw [p25] at h1
    have mw : MB 100 wh := MB.of h0 (by omega)
    have mc : MB 1150000 ((c.natAbs : Nat) : Int) := by
      unfold MB at hc ⊢
      rw [Int.natAbs_natCast]
      exact hc
    simp only [gSeq, gIfS, gRet, gSet, gSetN, gSetIx, gDrop, gRaise, gNext, gApp, gFrz, gTry, gAsg, gFor, gRight, nCallW, zSeq, zRet, dVar, dOwn, dC, d2, d1, dN2, aNil, aCons, dTup, nLst, dCall, dBi, tVal, tNot', tAnd', tOr', dAnd, dOr, dNot, dIf, dChain, dCallK, iRg, iSeq, nLc, tTrue, gNm, wipeD, e_onD, e_onB, e_onI, e_slV, e_slO, e_slOo, e_slOw, e_gI, e_gI0, e_add, e_mul, e_mulL, e_neg, e_ixL, e_ixT, e_ixS, e_isi, e_isN, e_notN, e_isNe, e_isNi, e_isNb, e_isNl, e_isNt, e_isNs, e_lenL, e_lenT, e_lenS, e_abs, e_int, e_intB, e_max, e_min, e_gcd, e_tupL, e_tupT, e_repr, e_sum, e_all, e_any, e_allN, e_allC, e_seqL, e_seqT, e_seqS, e_rg1, e_rg2, e_excN, e_excE, e_val, e_at0, e_at1, e_at2, e_get0, e_get1, e_get2, e_get3, e_get4, e_get5, e_get6, e_get7, e_set0, e_set1, e_set2, e_set3, e_set4, e_set5, e_set6, e_set7, e_ixn0, e_ixn1, e_ixn2, e_ex, List.replicate, List.cons_append, List.nil_append, List.map, fnB, p28, p18]
    refine ⟨mc.ok (MB.le (a := 20) (by unfold MB; decide) (Nat.le_refl _)) (by decide), mw.ok (MB.le (a := 20) (by unfold MB; decide) (Nat.le_refl _)) (by decide), MB.ok (a := 2) (b := 2) (by unfold MB; decide) (by split <;> (unfold MB; decide)) (by decide),
      MB.ok (MB.le (a := 20) (by unfold MB; decide) (Nat.le_refl _)) mk (by decide), cpow10 (by decide) (by decide), by decide, cpow10 (by decide) (by decide), by simp, _, _, _, rfl, ?_, fmod_nn (by decide), by decide, ?_, ?_, by decide⟩
    · split <;> omega
    · have : (if ((c.natAbs : Nat) : Int) - 1000000000000000000 > 0 then ((c.natAbs : Nat) : Int) - 1000000000000000000 else 0).natAbs ≤ c.natAbs := by split <;> omega
      exact Nat.lt_of_le_of_lt this (Nat.lt_of_lt_of_le hc (Nat.pow_le_pow_right (by decide) (by decide)))
    · exact Nat.lt_of_lt_of_le (show _ < 10000000000000000000000000331 from by
        have h1 := fmod_nn (i := ((c.natAbs : Nat) : Int) * 25 + wh * 47 + 3 * (if decide (c < 0) = true then 1 else 0) + 61 * k) (j := 10000000000000000000000000331) (by decide)
        have h2 := fmod_lt (i := ((c.natAbs : Nat) : Int) * 25 + wh * 47 + 3 * (if decide (c < 0) = true then 1 else 0) + 61 * k) (j := 10000000000000000000000000331) (by decide)
        omega) (by decide)


theorem filterMap_some {α : Type} : ∀ l : List α, l.filterMap some = l
  | [] => rfl
  | a :: l => by rw [List.filterMap_cons, filterMap_some l]
theorem ev_anew (j : Nat) : ∀ xs R Er, anewFn j xs R Er → fnB 1 1 (g_anew (anewG j)) xs R Er := by
  rintro xs R Er ⟨x, rfl, hd, hR⟩
  have it : ∀ {ys : List PD} {R : List PD → Prop} {s0 : Sl}, (∃ j', j = j' + 1 ∧ ∀ y ∈ ys, okD j' y) → R ys → lcD (gNm 1) tTrue (dCall (anewG j) (aCons (dVar 1) aNil)) [s0, .no] ys R := by
    rintro ys R s0 ⟨j', rfl, hy⟩ hR
    refine lcD_of some (fun y hm P hP => ?_) (by rw [filterMap_some]; exact hR)
    simp only [gSeq, gIfS, gRet, gSet, gSetN, gSetIx, gDrop, gRaise, gNext, gApp, gFrz, gTry, gAsg, gFor, gRight, nCallW, zSeq, zRet, dVar, dOwn, dC, d2, d1, dN2, aNil, aCons, dTup, nLst, dCall, dBi, tVal, tNot', tAnd', tOr', dAnd, dOr, dNot, dIf, dChain, dCallK, iRg, iSeq, nLc, tTrue, gNm, wipeD, e_onD, e_onB, e_onI, e_slV, e_slO, e_slOo, e_slOw, e_gI, e_gI0, e_add, e_mul, e_mulL, e_neg, e_ixL, e_ixT, e_ixS, e_isi, e_isN, e_notN, e_isNe, e_isNi, e_isNb, e_isNl, e_isNt, e_isNs, e_lenL, e_lenT, e_lenS, e_abs, e_int, e_intB, e_max, e_min, e_gcd, e_tupL, e_tupT, e_repr, e_sum, e_all, e_any, e_allN, e_allC, e_seqL, e_seqT, e_seqS, e_rg1, e_rg2, e_excN, e_excE, e_val, e_at0, e_at1, e_at2, e_get0, e_get1, e_get2, e_get3, e_get4, e_get5, e_get6, e_get7, e_set0, e_set1, e_set2, e_set3, e_set4, e_set5, e_set6, e_set7, e_ixn0, e_ixn1, e_ixn2, e_ex, List.replicate, List.cons_append, List.nil_append, List.map, fnB, if_true]
    exact ⟨y, rfl, hy y hm, hP⟩
  cases x with
  | list ys =>
    cases j with
    | zero => exact hd.elim
    | succ j =>
      refine ⟨rfl, ?_⟩
      simp only [g_anew, gSeq, gIfS, gRet, gSet, gSetN, gSetIx, gDrop, gRaise, gNext, gApp, gFrz, gTry, gAsg, gFor, gRight, nCallW, zSeq, zRet, dVar, dOwn, dC, d2, d1, dN2, aNil, aCons, dTup, nLst, dCall, dBi, tVal, tNot', tAnd', tOr', dAnd, dOr, dNot, dIf, dChain, dCallK, iRg, iSeq, nLc, tTrue, gNm, wipeD, e_onD, e_onB, e_onI, e_slV, e_slO, e_slOo, e_slOw, e_gI, e_gI0, e_add, e_mul, e_mulL, e_neg, e_ixL, e_ixT, e_ixS, e_isi, e_isN, e_notN, e_isNe, e_isNi, e_isNb, e_isNl, e_isNt, e_isNs, e_lenL, e_lenT, e_lenS, e_abs, e_int, e_intB, e_max, e_min, e_gcd, e_tupL, e_tupT, e_repr, e_sum, e_all, e_any, e_allN, e_allC, e_seqL, e_seqT, e_seqS, e_rg1, e_rg2, e_excN, e_excE, e_val, e_at0, e_at1, e_at2, e_get0, e_get1, e_get2, e_get3, e_get4, e_get5, e_get6, e_get7, e_set0, e_set1, e_set2, e_set3, e_set4, e_set5, e_set6, e_set7, e_ixn0, e_ixn1, e_ixn2, e_ex, List.replicate, List.cons_append, List.nil_append, List.map, fnB]
      rw [if_pos (by rfl)]
      exact ⟨hd.1, it (R := fun zs => R (.d (.list zs))) ⟨j, rfl, hd.2⟩ hR⟩
  | tuple ys =>
    cases j with
    | zero => exact hd.elim
    | succ j =>
      refine ⟨rfl, ?_⟩
      simp only [g_anew, gSeq, gIfS, gRet, gSet, gSetN, gSetIx, gDrop, gRaise, gNext, gApp, gFrz, gTry, gAsg, gFor, gRight, nCallW, zSeq, zRet, dVar, dOwn, dC, d2, d1, dN2, aNil, aCons, dTup, nLst, dCall, dBi, tVal, tNot', tAnd', tOr', dAnd, dOr, dNot, dIf, dChain, dCallK, iRg, iSeq, nLc, tTrue, gNm, wipeD, e_onD, e_onB, e_onI, e_slV, e_slO, e_slOo, e_slOw, e_gI, e_gI0, e_add, e_mul, e_mulL, e_neg, e_ixL, e_ixT, e_ixS, e_isi, e_isN, e_notN, e_isNe, e_isNi, e_isNb, e_isNl, e_isNt, e_isNs, e_lenL, e_lenT, e_lenS, e_abs, e_int, e_intB, e_max, e_min, e_gcd, e_tupL, e_tupT, e_repr, e_sum, e_all, e_any, e_allN, e_allC, e_seqL, e_seqT, e_seqS, e_rg1, e_rg2, e_excN, e_excE, e_val, e_at0, e_at1, e_at2, e_get0, e_get1, e_get2, e_get3, e_get4, e_get5, e_get6, e_get7, e_set0, e_set1, e_set2, e_set3, e_set4, e_set5, e_set6, e_set7, e_ixn0, e_ixn1, e_ixn2, e_ex, List.replicate, List.cons_append, List.nil_append, List.map, fnB]
      rw [if_neg (by simp [subTy, tyD]), if_pos (by rfl)]
      exact ⟨hd.1, it (R := fun zs => R (.d (.tuple zs))) ⟨j, rfl, hd.2⟩ hR⟩
  | _ =>
    refine ⟨rfl, ?_⟩
    simp only [g_anew, gSeq, gIfS, gRet, gSet, gSetN, gSetIx, gDrop, gRaise, gNext, gApp, gFrz, gTry, gAsg, gFor, gRight, nCallW, zSeq, zRet, dVar, dOwn, dC, d2, d1, dN2, aNil, aCons, dTup, nLst, dCall, dBi, tVal, tNot', tAnd', tOr', dAnd, dOr, dNot, dIf, dChain, dCallK, iRg, iSeq, nLc, tTrue, gNm, wipeD, e_onD, e_onB, e_onI, e_slV, e_slO, e_slOo, e_slOw, e_gI, e_gI0, e_add, e_mul, e_mulL, e_neg, e_ixL, e_ixT, e_ixS, e_isi, e_isN, e_notN, e_isNe, e_isNi, e_isNb, e_isNl, e_isNt, e_isNs, e_lenL, e_lenT, e_lenS, e_abs, e_int, e_intB, e_max, e_min, e_gcd, e_tupL, e_tupT, e_repr, e_sum, e_all, e_any, e_allN, e_allC, e_seqL, e_seqT, e_seqS, e_rg1, e_rg2, e_excN, e_excE, e_val, e_at0, e_at1, e_at2, e_get0, e_get1, e_get2, e_get3, e_get4, e_get5, e_get6, e_get7, e_set0, e_set1, e_set2, e_set3, e_set4, e_set5, e_set6, e_set7, e_ixn0, e_ixn1, e_ixn2, e_ex, List.replicate, List.cons_append, List.nil_append, List.map, fnB]
    rw [if_neg (by simp [subTy, tyD]), if_neg (by simp [subTy, tyD])]
    exact hR

local macro_rules | `(tactic| infer_instance) => `(tactic| refine ev_anew  ?_)

/-- the inner walk: the well is lent at each turn -/
theorem turns {D : DEnds} {s0 s1 : Sl} {m K : Nat} (hnx : ∀ s2 s3, D.nx [s0, s1, s2, s3]) : ∀ (xs : List PD) (s3 : Sl) (a b c : Int), WOk (m + xs.length * K) a b c → loopD (gNm 3) (gRight K 2) D xs [s0, s1, .own [.int a, .int b, .int c], s3]
  | [], s3, a, b, c, h => by
    unfold loopD
    exact hnx _ _
  | x :: xs, s3, a, b, c, h => by
    unfold loopD
    simp only [gSeq, gIfS, gRet, gSet, gSetN, gSetIx, gDrop, gRaise, gNext, gApp, gFrz, gTry, gAsg, gFor, gRight, nCallW, zSeq, zRet, dVar, dOwn, dC, d2, d1, dN2, aNil, aCons, dTup, nLst, dCall, dBi, tVal, tNot', tAnd', tOr', dAnd, dOr, dNot, dIf, dChain, dCallK, iRg, iSeq, nLc, tTrue, gNm, wipeD, e_onD, e_onB, e_onI, e_slV, e_slO, e_slOo, e_slOw, e_gI, e_gI0, e_add, e_mul, e_mulL, e_neg, e_ixL, e_ixT, e_ixS, e_isi, e_isN, e_notN, e_isNe, e_isNi, e_isNb, e_isNl, e_isNt, e_isNs, e_lenL, e_lenT, e_lenS, e_abs, e_int, e_intB, e_max, e_min, e_gcd, e_tupL, e_tupT, e_repr, e_sum, e_all, e_any, e_allN, e_allC, e_seqL, e_seqT, e_seqS, e_rg1, e_rg2, e_excN, e_excE, e_val, e_at0, e_at1, e_at2, e_get0, e_get1, e_get2, e_get3, e_get4, e_get5, e_get6, e_get7, e_set0, e_set1, e_set2, e_set3, e_set4, e_set5, e_set6, e_set7, e_ixn0, e_ixn1, e_ixn2, e_ex, List.replicate, List.cons_append, List.nil_append, List.map, fnB]
    refine ⟨a, b, c, m + xs.length * K, rfl, h.le ?_, fun a b c h => turns hnx xs _ a b c h⟩
    rw [List.length_cons, Nat.add_mul]
    omega
theorem outer {D : DEnds} {ns : List Int} (hl : ns.length ≤ 63) (hz : ∀ z ∈ ns, z.natAbs < 2 ^ 1100000) (hnx : ∀ s1 s2 s3, D.nx [.v (.scr ns), s1, s2, s3]) : ∀ (xs : List PD) (s1 s2 s3 : Sl), (∀ x ∈ xs, ∃ k : Int, x = .int k ∧ 0 ≤ k ∧ k < 3) →
    loopD (gNm 1) (gSeq (gSetN 2 (nCallW (aCons (dVar 0) (aCons (dVar 1) aNil)))) (gFor 100000 (iRg rg1 (aCons (dC (.int 4)) aNil)) (gNm 3) (gRight 322 2))) D xs [.v (.scr ns), s1, s2, s3]
  | [], s1, s2, s3, _ => by
    unfold loopD
    exact hnx _ _ _
  | x :: xs, s1, s2, s3, h => by
    obtain ⟨k, rfl, h0, h1⟩ := h x (by simp)
    unfold loopD
    simp only [gSeq, gIfS, gRet, gSet, gSetN, gSetIx, gDrop, gRaise, gNext, gApp, gFrz, gTry, gAsg, gFor, gRight, nCallW, zSeq, zRet, dVar, dOwn, dC, d2, d1, dN2, aNil, aCons, dTup, nLst, dCall, dBi, tVal, tNot', tAnd', tOr', dAnd, dOr, dNot, dIf, dChain, dCallK, iRg, iSeq, nLc, tTrue, gNm, wipeD, e_onD, e_onB, e_onI, e_slV, e_slO, e_slOo, e_slOw, e_gI, e_gI0, e_add, e_mul, e_mulL, e_neg, e_ixL, e_ixT, e_ixS, e_isi, e_isN, e_notN, e_isNe, e_isNi, e_isNb, e_isNl, e_isNt, e_isNs, e_lenL, e_lenT, e_lenS, e_abs, e_int, e_intB, e_max, e_min, e_gcd, e_tupL, e_tupT, e_repr, e_sum, e_all, e_any, e_allN, e_allC, e_seqL, e_seqT, e_seqS, e_rg1, e_rg2, e_excN, e_excE, e_val, e_at0, e_at1, e_at2, e_get0, e_get1, e_get2, e_get3, e_get4, e_get5, e_get6, e_get7, e_set0, e_set1, e_set2, e_set3, e_set4, e_set5, e_set6, e_set7, e_ixn0, e_ixn1, e_ixn2, e_ex, List.replicate, List.cons_append, List.nil_append, List.map, fnB]
    refine ⟨ns, k, rfl, ⟨h0, by omega, by omega, hz⟩, fun a b c hW => ⟨⟨by decide, by decide⟩, by rw [rngD_len]; decide, turns (m := 0) (K := 322) (fun s2 s3 => outer hl hz hnx xs _ s2 s3 fun y hy => h y (by simp [hy])) _ _ a b c (hW.le ?_)⟩⟩
    rw [rngD_len]
    decide
theorem ev_law : LawFn 63 m_law := by
  intro ns R hl hz hR
  rw [q_law]
  refine ⟨rfl, ?_⟩
  simp only [g_law, gSeq, gIfS, gRet, gSet, gSetN, gSetIx, gDrop, gRaise, gNext, gApp, gFrz, gTry, gAsg, gFor, gRight, nCallW, zSeq, zRet, dVar, dOwn, dC, d2, d1, dN2, aNil, aCons, dTup, nLst, dCall, dBi, tVal, tNot', tAnd', tOr', dAnd, dOr, dNot, dIf, dChain, dCallK, iRg, iSeq, nLc, tTrue, gNm, wipeD, e_onD, e_onB, e_onI, e_slV, e_slO, e_slOo, e_slOw, e_gI, e_gI0, e_add, e_mul, e_mulL, e_neg, e_ixL, e_ixT, e_ixS, e_isi, e_isN, e_notN, e_isNe, e_isNi, e_isNb, e_isNl, e_isNt, e_isNs, e_lenL, e_lenT, e_lenS, e_abs, e_int, e_intB, e_max, e_min, e_gcd, e_tupL, e_tupT, e_repr, e_sum, e_all, e_any, e_allN, e_allC, e_seqL, e_seqT, e_seqS, e_rg1, e_rg2, e_excN, e_excE, e_val, e_at0, e_at1, e_at2, e_get0, e_get1, e_get2, e_get3, e_get4, e_get5, e_get6, e_get7, e_set0, e_set1, e_set2, e_set3, e_set4, e_set5, e_set6, e_set7, e_ixn0, e_ixn1, e_ixn2, e_ex, List.replicate, List.cons_append, List.nil_append, List.map, fnB]
  refine ⟨?_, ?_, outer hl hz (fun _ _ _ => ?_) _ _ _ _ fun x hx => ?_⟩
  · unfold RgB; split <;> split <;> omega
  · rw [rngD_len]; split <;> split <;> omega
  · simp only [gSeq, gIfS, gRet, gSet, gSetN, gSetIx, gDrop, gRaise, gNext, gApp, gFrz, gTry, gAsg, gFor, gRight, nCallW, zSeq, zRet, dVar, dOwn, dC, d2, d1, dN2, aNil, aCons, dTup, nLst, dCall, dBi, tVal, tNot', tAnd', tOr', dAnd, dOr, dNot, dIf, dChain, dCallK, iRg, iSeq, nLc, tTrue, gNm, wipeD, e_onD, e_onB, e_onI, e_slV, e_slO, e_slOo, e_slOw, e_gI, e_gI0, e_add, e_mul, e_mulL, e_neg, e_ixL, e_ixT, e_ixS, e_isi, e_isN, e_notN, e_isNe, e_isNi, e_isNb, e_isNl, e_isNt, e_isNs, e_lenL, e_lenT, e_lenS, e_abs, e_int, e_intB, e_max, e_min, e_gcd, e_tupL, e_tupT, e_repr, e_sum, e_all, e_any, e_allN, e_allC, e_seqL, e_seqT, e_seqS, e_rg1, e_rg2, e_excN, e_excE, e_val, e_at0, e_at1, e_at2, e_get0, e_get1, e_get2, e_get3, e_get4, e_get5, e_get6, e_get7, e_set0, e_set1, e_set2, e_set3, e_set4, e_set5, e_set6, e_set7, e_ixn0, e_ixn1, e_ixn2, e_ex, List.replicate, List.cons_append, List.nil_append, List.map, fnB]
    exact hR
  · obtain ⟨k, rfl, h0, h1⟩ := rng_nonneg hx
    refine ⟨k, rfl, h0, ?_⟩
    revert h1
    split <;> split <;> omega


/-! basic checks -/
def isInt : PD → Bool
  | .int _ => true
  | _ => false
theorem ev_is_integer {x : PD} {R : DV → Prop} {E : EK} (h : R (.d (.bool (isInt x)))) : m_is_integer [.d x] R E := by
  rw [q_is_integer]
  refine ⟨rfl, ?_⟩
  cases x <;> (simp only [g_is_integer, subTy, tyD]; array_get_dec; exact h)
def isBtw (lo hi : Int) : PD → Bool
  | .int i => decide (lo ≤ i) && decide (i ≤ hi)
  | _ => false
def isTup (lo hi : Int) : PD → Bool
  | .tuple xs => decide (lo ≤ xs.length) && decide ((xs.length : Int) ≤ hi)
  | _ => false
theorem ev_is_tuple {x : PD} {lo hi : Int} {R : DV → Prop} {E : EK} (h : R (.d (.bool (isTup lo hi x)))) : m_is_tuple [.d x, .d (.int lo), .d (.int hi)] R E := by
  rw [q_is_tuple]
  refine ⟨rfl, ?_⟩
  cases x with
  | tuple xs =>
    simp only [g_is_tuple]
    array_get_dec
    refine ite_t rfl ?_
    unfold isTup at h
    by_cases h1 : lo ≤ (xs.length : Int)
    · refine ite_t (decide_eq_true h1) ?_
      simpa [h1] using h
    · refine ite_f (decide_eq_false h1) ?_
      simpa [h1] using h
  | _ =>
    simp only [g_is_tuple]
    array_get_dec
    exact ite_f rfl h

local macro_rules | `(tactic| infer_instance) => `(tactic| refine ev_is_integer  ?_)
local macro_rules | `(tactic| infer_instance) => `(tactic| refine ev_is_tuple  ?_)

theorem ev_is_between {x : PD} {lo hi : Int} {R : DV → Prop} {E : EK} (h : R (.d (.bool (isBtw lo hi x)))) : m_is_between [.d x, .d (.int lo), .d (.int hi)] R E := by
  rw [q_is_between]
  refine ⟨rfl, ?_⟩
  simp only [g_is_between]
  array_get_dec
  refine ev_is_integer ?_
  array_get_dec
  cases x with
  | int i =>
    unfold isBtw at h
    refine ite_t rfl ?_
    array_get_dec
    by_cases h1 : lo ≤ i
    · refine ite_t (decide_eq_true h1) ?_
      simpa [h1] using h
    · refine ite_f (decide_eq_false h1) ?_
      simpa [h1] using h
  | _ => exact ite_f rfl h

local macro_rules | `(tactic| infer_instance) => `(tactic| refine ev_is_between  ?_)

/-! webs -/
abbrev Arr := Int × Int
def aD (x : Arr) : PD := .tuple [.int x.1, .int x.2]
def wD (n : Int) (as : List Arr) : PD := .tuple [.int n, .tuple (as.map aD)]
/-- places that have an arrow to one not found -/
def barred (as : List Arr) (found : List Int) : List Int := (as.filter fun x => !decide (x.2 ∈ found)).map (·.1)
def cand (n : Int) (as : List Arr) (found : List Int) : List Int := ((irg 0 n).filter fun i => !decide (i ∈ found)).filter fun i => !decide (i ∈ barred as found)
def rndL (n : Int) (as : List Arr) : Nat → List Int → List Int
  | 0, found => found
  | k + 1, found => match cand n as found with
    | [] => found
    | c :: _ => rndL n as k (found ++ [c])
def rnd (n : Int) (as : List Arr) : List Int := rndL n as n.toNat []
theorem isEmpty_map {α β : Type} (f : α → β) (l : List α) : (l.map f).isEmpty = l.isEmpty := by cases l <;> rfl
theorem flen {α : Type} (p : α → Bool) (l : List α) : (l.filter p).length ≤ l.length := List.length_filter_le p l
theorem rounded_step {D : DEnds} {n : Int} {as : List Arr} {found : List Int} {s0 s4 s5 s6 s7 s8 s9 : Sl} (hn : n ≤ 9) (hn0 : 0 ≤ n) (ha : as.length ≤ 100000) (hf : found.length ≤ 100000)
    (h : ∀ s5 s6, match cand n as found with
      | [] => D.bk [s0, .v (.d (.int n)), .v (.d (.tuple (as.map aD))), .own (found.map .int), s4, s5, s6, s7, s8, s9]
      | c :: _ => D.nx [s0, .v (.d (.int n)), .v (.d (.tuple (as.map aD))), .own ((found ++ [c]).map .int), s4, s5, s6, s7, s8, s9]) :
    g_rounded_b0 D [s0, .v (.d (.int n)), .v (.d (.tuple (as.map aD))), .own (found.map .int), s4, s5, s6, s7, s8, s9] := by
  unfold g_rounded_b0
  array_get_dec
  refine ⟨⟨by omega, by omega⟩, by rw [rngD_len]; omega, ?_⟩
  rw [rngD_irg]
  refine lcD_test .int (fun i => !decide (i ∈ found)) .int (fun x _ P hP => ?_) ?_
  · array_get_dec
    split <;> simp_all
  array_get_dec
  refine ⟨by rw [List.length_map]; exact ha, ?_⟩
  refine lcD_test aD (fun x => !decide (x.2 ∈ found)) (fun x => .int x.1) (fun x _ P hP => ?_) ?_
  · simp only [aD]
    array_get_dec
    split <;> simp_all
  have eb : (as.filter fun x => !decide (x.2 ∈ found)).map (fun x => PyData.int x.1) = (barred as found).map .int := by
    unfold barred
    rw [List.map_map]
    rfl
  rw [eb]
  have hl : ((irg 0 n).filter fun i => !decide (i ∈ found)).length ≤ 100000 := by
    have := flen (fun i => !decide (i ∈ found)) (irg 0 n)
    rw [irg_len] at this
    omega
  refine ⟨by rw [List.length_map]; exact hl, ?_⟩
  refine lcD_test .int (fun i => !decide (i ∈ barred as found)) .int (fun x _ P hP => ?_) ?_
  · array_get_dec
    split <;> simp_all
  have h := h (.v (.d (.list ((cand n as found).map .int)))) (.v (.d (.list ((barred as found).map .int))))
  unfold cand at h
  generalize ((irg 0 n).filter fun i => !decide (i ∈ found)).filter (fun i => !decide (i ∈ barred as found)) = c at h ⊢
  refine ⟨sh_ints c, ?_⟩
  rw [isEmpty_map]
  cases c with
  | nil => exact ite_t rfl h
  | cons a r =>
    refine ite_f rfl ⟨.int a, ?_, by rw [List.length_map]; exact hf, ?_⟩
    · rw [List.map_cons]; exact e_at0
    · rw [show found.map PyData.int ++ [.int a] = (found ++ [a]).map .int from by rw [List.map_append]; rfl]
      exact h
theorem rounded_loop {D : DEnds} {n : Int} {as : List Arr} {s0 : Sl} (hn : n ≤ 9) (hn0 : 0 ≤ n) (ha : as.length ≤ 100000) : ∀ (l : List PD) (found : List Int) (s4 s5 s6 s7 s8 s9 : Sl), found.length + l.length ≤ 100 →
    (∀ s4 s5 s6 s7 s8 s9, D.nx [s0, .v (.d (.int n)), .v (.d (.tuple (as.map aD))), .own ((rndL n as l.length found).map .int), s4, s5, s6, s7, s8, s9]) →
    loopD (gNm 4) g_rounded_b0 D l [s0, .v (.d (.int n)), .v (.d (.tuple (as.map aD))), .own (found.map .int), s4, s5, s6, s7, s8, s9]
  | [], found, s4, s5, s6, s7, s8, s9, _, h => h _ _ _ _ _ _
  | x :: l, found, s4, s5, s6, s7, s8, s9, hl, h => by
    unfold loopD
    array_get_dec
    simp only [List.length_cons] at hl
    refine rounded_step hn hn0 ha (by omega) fun s5 s6 => ?_
    cases q : cand n as found with
    | nil =>
      have h := h (.v (.d x)) s5 s6 s7 s8 s9
      simp only [List.length_cons, rndL, q] at h
      exact h
    | cons c r =>
      refine rounded_loop hn hn0 ha l (found ++ [c]) _ _ _ _ _ _ (by simp; omega) fun s4 s5 s6 s7 s8 s9 => ?_
      have h := h s4 s5 s6 s7 s8 s9
      simp only [List.length_cons, rndL, q] at h
      exact h
theorem ev_rounded {n : Int} {as : List Arr} {R : DV → Prop} {E : EK} (hn : n ≤ 9) (hn0 : 0 ≤ n) (ha : as.length ≤ 100000) (h : R (.d (.tuple ((rnd n as).map .int)))) : m_rounded [.d (wD n as)] R E := by
  rw [q_rounded]
  refine ⟨rfl, ?_⟩
  simp only [g_rounded, wD]
  array_get_dec
  refine ⟨⟨by omega, by omega⟩, by rw [rngD_len]; omega, ?_⟩
  refine rounded_loop hn hn0 ha _ [] _ _ _ _ _ _ (by rw [rngD_len]; simp; omega) fun s4 s5 s6 s7 s8 s9 => ?_
  array_get_dec
  rw [rngD_len]
  have e : (n - 0).toNat = n.toNat := by rw [Int.sub_zero]
  rw [e]
  exact h
/-! when a walk comes to an end -/
def Acy (as : List Arr) : Prop := ∃ f : Int → Int, ∀ x ∈ as, f x.1 < f x.2
structure WebOk (n : Int) (as : List Arr) : Prop where
  lo : 1 ≤ n
  hi : n ≤ 9
  len : as.length ≤ 12
  rng : ∀ x ∈ as, 0 ≤ x.1 ∧ x.1 < n ∧ 0 ≤ x.2 ∧ x.2 < n ∧ x.1 ≠ x.2
  acy : Acy as
theorem has_max (f : Int → Int) : ∀ l : List Int, l ≠ [] → ∃ m ∈ l, ∀ y ∈ l, f y ≤ f m
  | [a], _ => ⟨a, by simp, by simp⟩
  | a :: b :: l, _ => by
    obtain ⟨m, hm, h⟩ := has_max f (b :: l) (by simp)
    by_cases q : f a ≤ f m
    · exact ⟨m, by simp at hm ⊢; right; exact hm, fun y hy => by
        rcases List.mem_cons.mp hy with rfl | hy
        · exact q
        · exact h y hy⟩
    · exact ⟨a, by simp, fun y hy => by
        rcases List.mem_cons.mp hy with rfl | hy
        · exact Int.le_refl _
        · have := h y hy; omega⟩
theorem mem_cand {n : Int} {as : List Arr} {found : List Int} {i : Int} : i ∈ cand n as found ↔ (0 ≤ i ∧ i < n) ∧ i ∉ found ∧ ∀ x ∈ as, x.1 = i → x.2 ∈ found := by
  unfold cand barred
  simp only [List.mem_filter, mem_irg, Bool.not_eq_true', decide_eq_false_iff_not, List.mem_map, not_exists, not_and]
  constructor
  · rintro ⟨⟨h1, h2⟩, h3⟩
    refine ⟨h1, h2, fun x hx e => ?_⟩
    refine Classical.byContradiction fun hn => h3 x ⟨hx, hn⟩ e
  · rintro ⟨h1, h2, h3⟩
    exact ⟨⟨h1, h2⟩, fun x ⟨hx, hn⟩ e => hn (h3 x hx e)⟩
theorem cand_ne {n : Int} {as : List Arr} {found : List Int} (h : ∀ x ∈ as, 0 ≤ x.2 ∧ x.2 < n) (ac : Acy as) {p : Int} (hp : 0 ≤ p ∧ p < n) (hf : p ∉ found) : cand n as found ≠ [] := by
  obtain ⟨f, hf2⟩ := ac
  have ne : (irg 0 n).filter (fun i => !decide (i ∈ found)) ≠ [] := by
    intro e
    have : p ∈ (irg 0 n).filter (fun i => !decide (i ∈ found)) := by simp [List.mem_filter, mem_irg, hp, hf]
    rw [e] at this
    cases this
  obtain ⟨m, hm, hmax⟩ := has_max f _ ne
  simp only [List.mem_filter, mem_irg, Bool.not_eq_true', decide_eq_false_iff_not] at hm hmax
  have : m ∈ cand n as found := mem_cand.mpr ⟨hm.1, hm.2, fun x hx e => Classical.byContradiction fun hn => by
    have h1 := hf2 x hx
    have h2 := hmax x.2 ⟨h x hx, hn⟩
    rw [e] at h1
    omega⟩
  intro e
  rw [e] at this
  cases this
theorem rndL_ok {n : Int} {as : List Arr} (h : ∀ x ∈ as, 0 ≤ x.2 ∧ x.2 < n) (ac : Acy as) : ∀ (k : Nat) (found : List Int), found.Nodup → (∀ i ∈ found, 0 ≤ i ∧ i < n) → found.length + k = n.toNat →
    (rndL n as k found).Nodup ∧ (∀ i ∈ rndL n as k found, 0 ≤ i ∧ i < n) ∧ (rndL n as k found).length = n.toNat
  | 0, found, h1, h2, h3 => ⟨h1, h2, by simpa [rndL] using h3⟩
  | k + 1, found, h1, h2, h3 => by
    have ex : ∃ p, (0 ≤ p ∧ p < n) ∧ p ∉ found := by
      refine Classical.byContradiction fun hn => ?_
      have : irg 0 n ⊆ found := fun p hp => Classical.byContradiction fun q => hn ⟨p, mem_irg.mp hp, q⟩
      have := List.Nodup.length_le_of_subset (irg_nodup 0 n) this
      rw [irg_len] at this
      omega
    obtain ⟨p, hp, hpf⟩ := ex
    have ne := cand_ne h ac hp hpf
    unfold rndL
    cases q : cand n as found with
    | nil => exact absurd q ne
    | cons c r =>
      have hc : c ∈ cand n as found := by rw [q]; simp
      obtain ⟨c1, c2, _⟩ := mem_cand.mp hc
      refine rndL_ok h ac k (found ++ [c]) ?_ (fun i hi => ?_) (by simp; omega)
      · rw [List.nodup_append]
        exact ⟨h1, by simp, fun a ha b hb => by
          simp at hb
          rw [hb]
          exact fun e => c2 (e ▸ ha)⟩
      · rcases List.mem_append.mp hi with hi | hi
        · exact h2 i hi
        · simp at hi
          rw [hi]
          exact c1
theorem WebOk.rnd {n : Int} {as : List Arr} (w : WebOk n as) : (rnd n as).Nodup ∧ (∀ i ∈ rnd n as, 0 ≤ i ∧ i < n) ∧ (rnd n as).length = n.toNat :=
  rndL_ok (fun x hx => ⟨(w.rng x hx).2.2.1, (w.rng x hx).2.2.2.1⟩) w.acy n.toNat [] List.nodup_nil (by simp) (by simp)
/-! is_web -/
def arrOk (n : Int) (x : Arr) : Bool := (decide (0 ≤ x.1) && decide (x.1 ≤ n - 1)) && ((decide (0 ≤ x.2) && decide (x.2 ≤ n - 1)) && !decide (x.1 = x.2))
theorem ev_is_arrow {n : Int} {x : Arr} {R : DV → Prop} {E : EK} (h : R (.d (.bool (arrOk n x)))) : m_is_arrow [.d (.int n), .d (aD x)] R E := by
  rw [q_is_arrow]
  refine ⟨rfl, ?_⟩
  obtain ⟨a, b⟩ := x
  unfold arrOk at h
  simp only [g_is_arrow, aD] at h ⊢
  array_get_dec
  refine ev_is_tuple ?_
  array_get_dec
  refine ite_f rfl (ev_is_between ?_)
  array_get_dec
  rw [show isBtw 0 (n - 1) (.int a) = (decide (0 ≤ a) && decide (a ≤ n - 1)) from rfl]
  cases q1 : (decide (0 ≤ a) && decide (a ≤ n - 1)) with
  | false => rw [q1] at h; exact ite_t rfl h
  | true =>
    rw [q1] at h
    refine ite_f rfl (ev_is_between ?_)
    array_get_dec
    rw [show isBtw 0 (n - 1) (.int b) = (decide (0 ≤ b) && decide (b ≤ n - 1)) from rfl]
    cases q2 : (decide (0 ≤ b) && decide (b ≤ n - 1)) with
    | false => rw [q2] at h; exact ite_t rfl h
    | true =>
      rw [q2] at h
      exact ite_f rfl h
theorem all_map {α : Type} (p : α → Bool) (l : List α) : (l.map p).all id = l.all p := by rw [List.all_map]; rfl
theorem ev_is_web {n : Int} {as : List Arr} {R : DV → Prop} {E : EK} (h1 : 1 ≤ n) (h9 : n ≤ 9) (ha : as.length ≤ 12) (h : R (.d (.bool (as.all (arrOk n) && decide (((rnd n as).length : Int) = n))))) : m_is_web [.d (wD n as)] R E := by
  rw [q_is_web]
  refine ⟨rfl, ?_⟩
  simp only [g_is_web, wD]
  array_get_dec
  refine ev_is_tuple ?_
  array_get_dec
  refine ite_f rfl (ev_is_between ?_)
  array_get_dec
  have b1 : isBtw 1 9 (.int n) = true := by simp [isBtw, h1, h9]
  rw [b1]
  refine ite_f rfl (ev_is_tuple ?_)
  array_get_dec
  have b2 : isTup 0 12 (.tuple (as.map aD)) = true := by simp [isTup]; omega
  rw [b2]
  refine ite_f rfl ⟨by rw [List.length_map]; omega, ?_⟩
  refine lcD_all aD (fun x => .bool (arrOk n x)) (fun x _ P hP => ?_) ?_
  · array_get_dec
    exact ev_is_arrow hP
  have em : as.map (fun x => PyData.bool (arrOk n x)) = (as.map (arrOk n)).map .bool := by rw [List.map_map]; rfl
  rw [em]
  refine ⟨_, asBools_map _, ?_⟩
  rw [all_map]
  cases q : as.all (arrOk n) with
  | false => rw [q] at h; exact ite_t rfl h
  | true =>
    rw [q] at h
    refine ite_f rfl ?_
    array_get_dec
    refine ev_rounded h9 (by omega) (by omega) ?_
    array_get_dec
    rw [List.length_map]
    exact h
theorem WebOk.is {n : Int} {as : List Arr} (w : WebOk n as) : (as.all (arrOk n) && decide (((Law.rnd n as).length : Int) = n)) = true := by
  rw [Bool.and_eq_true, List.all_eq_true]
  refine ⟨fun x hx => ?_, ?_⟩
  · obtain ⟨a, b, c, d, e⟩ := w.rng x hx
    simp [arrOk, a, c, e]
    omega
  · have := w.rnd.2.2
    have := w.lo
    simp only [decide_eq_true_eq]
    omega
theorem ev_need_web {n : Int} {as : List Arr} {R : DV → Prop} {E : EK} (w : WebOk n as) (h : R (.d .none)) : m_need_web [.d (wD n as)] R E := by
  rw [q_need_web]
  refine ⟨rfl, ?_⟩
  simp only [g_need_web]
  array_get_dec
  refine ev_is_web w.lo w.hi w.len ?_
  array_get_dec
  rw [w.is]
  exact ite_f rfl h
/-- an object that is no web -/
def NoWeb (x : PD) : Prop := ∀ (R : DV → Prop) (E : EK), R (.d (.bool false)) → m_is_web [.d x] R E
theorem bad_need_web {x : PD} {R : DV → Prop} {E : EK} (hx : NoWeb x) (ho : okD 9 x) (h : E 0 x) : m_need_web [.d x] R E := by
  rw [q_need_web]
  refine ⟨rfl, ?_⟩
  simp only [g_need_web]
  array_get_dec
  refine hx _ _ ?_
  array_get_dec
  exact ⟨x, rfl, ho, h⟩
theorem noWeb_tup {x : PD} (h : isTup 2 2 x = false) : NoWeb x := fun R E hR => by
  rw [q_is_web]
  refine ⟨rfl, ?_⟩
  simp only [g_is_web]
  array_get_dec
  refine ev_is_tuple ?_
  array_get_dec
  rw [h]
  exact ite_t rfl hR
theorem noWeb_w {n : Int} {as : List Arr} (h1 : 1 ≤ n) (h9 : n ≤ 9) (ha : as.length ≤ 12) (h : (as.all (arrOk n) && decide (((rnd n as).length : Int) = n)) = false) : NoWeb (wD n as) := fun R E hR => by
  refine ev_is_web h1 h9 ha ?_
  rw [h]
  exact hR
/-! drawn webs -/
theorem perm_erase {α : Type} : ∀ {l : List α} {k : Nat} {y : α}, l[k]? = some y → l.Perm (y :: l.eraseIdx k)
  | a :: l, 0, y, h => by simp at h; subst h; exact List.Perm.refl _
  | a :: l, k + 1, y, h => by
    simp at h
    have := perm_erase (l := l) (k := k) (y := y) (by simpa using h)
    exact (this.cons a).trans (List.Perm.swap _ _ _)
theorem ev_draw_of {p : Int} {R : DV → Prop} {E : EK} (h0 : 0 < p) (h1 : p < 2 ^ 60) (h : ∀ a : Int, 0 ≤ a → a < p → R (.d (.int a))) : m__law_draw [.wel, .d (.int p)] R E := ⟨p, rfl, h0, h1, h⟩
theorem eraseIdx_map {α β : Type} (f : α → β) : ∀ (l : List α) (k : Nat), (l.map f).eraseIdx k = (l.eraseIdx k).map f
  | [], _ => rfl
  | _ :: _, 0 => rfl
  | a :: l, k + 1 => by
    show f a :: (l.map f).eraseIdx k = f a :: (l.eraseIdx k).map f
    rw [eraseIdx_map f l k]
theorem order_loop {D : DEnds} {n : Int} {s0 s1 : Sl} (hs : s0 = .v .wel) (hn : n ≤ 1000) : ∀ (l : List PD) (left found : List Int) (s4 : Sl), (found ++ left).Perm (irg 0 n) → left.length = l.length →
    (∀ (fin : List Int) s4, fin.Perm (irg 0 n) → D.nx [s0, s1, .own [], .own (fin.map .int), s4]) →
    loopD (gNm 4) g__law_order_b0 D l [s0, s1, .own (left.map .int), .own (found.map .int), s4]
  | [], left, found, s4, hp, hl, h => by
    have e : left = [] := List.length_eq_zero_iff.mp hl
    subst e
    rw [List.append_nil] at hp
    exact h found s4 hp
  | x :: l, left, found, s4, hp, hl, h => by
    unfold loopD
    subst hs
    simp only [g__law_order_b0]
    array_get_dec
    have hlen := hp.length_eq
    rw [List.length_append, irg_len] at hlen
    simp only [List.length_cons] at hl
    refine ev_draw_of (by rw [List.length_map]; omega) (by rw [List.length_map]; omega) fun k k0 k1 => ?_
    array_get_dec
    rw [List.length_map] at k1 ⊢
    have hk : k.toNat < left.length := by omega
    have ge : left[k.toNat]? = some left[k.toNat] := List.getElem?_eq_getElem hk
    refine ⟨k.toNat, .int left[k.toNat], ?_, ?_, by omega, by rw [List.length_map]; omega, ?_⟩
    · unfold ixN
      rw [if_pos k0, if_pos k1]
    · rw [List.getElem?_map, ge]
      rfl
    · rw [eraseIdx_map]
      have em : found.map PyData.int ++ [.int left[k.toNat]] = (found ++ [left[k.toNat]]).map .int := by rw [List.map_append]; rfl
      rw [em]
      refine order_loop rfl hn l (left.eraseIdx k.toNat) (found ++ [left[k.toNat]]) _ ?_ ?_ h
      · rw [List.append_assoc]
        exact ((List.Perm.append_left found (perm_erase ge)).symm).trans hp
      · rw [List.length_eraseIdx]
        rw [if_pos hk]
        omega
theorem ev_law_order {n : Int} {R : DV → Prop} {E : EK} (hn0 : 0 ≤ n) (hn : n ≤ 60) (h : ∀ l : List Int, l.Perm (irg 0 n) → R (.d (.list (l.map .int)))) : m__law_order [.wel, .d (.int n)] R E := by
  rw [q__law_order]
  refine ⟨rfl, ?_⟩
  simp only [g__law_order]
  array_get_dec
  refine ⟨RgOk.of_le (by omega) (by omega) (by omega) (by omega), ⟨by omega, by omega⟩, by rw [rngD_len]; omega, ?_⟩
  have e := rngD_irg 0 n
  have hl : (rngD 0 n).length = (irg 0 n).length := by rw [rngD_len, irg_len]
  rw [show (Sl.own (rngD 0 n)) = .own ((irg 0 n).map .int) by rw [e]]
  refine order_loop (n := n) rfl (by omega) (rngD 0 n) (irg 0 n) [] _ (List.Perm.refl _) hl.symm fun fin s4 hp => ?_
  array_get_dec
  exact h fin hp
theorem nodup_get {l : List Int} (h : l.Nodup) {i j : Nat} (hi : i < l.length) (hj : j < l.length) (hij : i ≠ j) : l[i] ≠ l[j] := fun e => by
  have h1 := List.Nodup.idxOf_getElem h i hi
  have h2 := List.Nodup.idxOf_getElem h j hj
  rw [e, h2] at h1
  exact hij h1.symm
/-- arrows that keep a sequence -/
def Along (order : List Int) (as : List Arr) : Prop := ∀ x ∈ as, ∃ i j : Nat, ∃ (hi : i < order.length) (hj : j < order.length), i < j ∧ x = (order[i], order[j])
theorem Along.acy {order : List Int} {as : List Arr} (h : Along order as) (hn : order.Nodup) : Acy as := by
  refine ⟨fun p => (order.idxOf p : Nat), fun x hx => ?_⟩
  obtain ⟨i, j, hi, hj, hij, rfl⟩ := h x hx
  have h1 := List.Nodup.idxOf_getElem hn i hi
  have h2 := List.Nodup.idxOf_getElem hn j hj
  simp only [h1, h2]
  omega
theorem web_loop {D : DEnds} {n : Int} {order : List Int} {s0 s1 s2 : Sl} (hs : s0 = .v .wel) (h2 : 2 ≤ n) (h9 : n ≤ 9) (ho : order.Perm (irg 0 n)) : ∀ (l : List PD) (as : List Arr) (s6 s7 : Sl), Along order as → as.length + l.length ≤ 1000 →
    (∀ (as' : List Arr) s6 s7, Along order as' → as'.length = as.length + l.length → D.nx [s0, s1, s2, .v (.d (.int n)), .own (as'.map aD), .v (.d (.list (order.map .int))), s6, s7]) →
    loopD (gNm 6) g__law_web_b0 D l [s0, s1, s2, .v (.d (.int n)), .own (as.map aD), .v (.d (.list (order.map .int))), s6, s7]
  | [], as, s6, s7, ha, hl, h => h as s6 s7 ha (by simp)
  | x :: l, as, s6, s7, ha, hl, h => by
    unfold loopD
    subst hs
    simp only [g__law_web_b0]
    array_get_dec
    have hlen := ho.length_eq
    rw [irg_len] at hlen
    simp only [List.length_cons] at hl
    refine ev_draw_of (by omega) (by omega) fun k k0 k1 => ?_
    array_get_dec
    have hk : k.toNat < order.length := by omega
    refine ⟨.int order[k.toNat], ?_, ev_draw_of (by omega) (by omega) fun m m0 m1 => ?_⟩
    · exact atI_map' .int (by rw [atI_get0 k0 (by omega)]; exact List.getElem?_eq_getElem hk)
    array_get_dec
    have hm : (k + 1 + m).toNat < order.length := by omega
    refine ⟨.int order[(k + 1 + m).toNat], atI_map' .int (by rw [atI_get0 (by omega) (by omega)]; exact List.getElem?_eq_getElem hm), by rw [List.length_map]; omega, ?_⟩
    have em : as.map aD ++ [.tuple [.int order[k.toNat], .int order[(k + 1 + m).toNat]]] = (as ++ [(order[k.toNat], order[(k + 1 + m).toNat])]).map aD := by rw [List.map_append]; rfl
    rw [em]
    refine web_loop rfl h2 h9 ho l (as ++ [(order[k.toNat], order[(k + 1 + m).toNat])]) _ _ (fun x hx => ?_) (by simp; omega) fun as' s6 s7 h1 h2 => h as' s6 s7 h1 (by rw [h2]; simp; omega)
    rcases List.mem_append.mp hx with hx | hx
    · exact ha x hx
    · simp at hx
      exact ⟨k.toNat, (k + 1 + m).toNat, hk, hm, by omega, hx⟩
theorem Along.web {n : Int} {order : List Int} {as : List Arr} (h : Along order as) (hp : order.Perm (irg 0 n)) (h1 : 1 ≤ n) (h9 : n ≤ 9) (hl : as.length ≤ 12) : WebOk n as := by
  have nd : order.Nodup := (hp.symm).nodup (irg_nodup 0 n)
  refine ⟨h1, h9, hl, fun x hx => ?_, h.acy nd⟩
  obtain ⟨i, j, hi, hj, hij, rfl⟩ := h x hx
  have m1 := mem_irg.mp (hp.mem_iff.mp (List.getElem_mem hi))
  have m2 := mem_irg.mp (hp.mem_iff.mp (List.getElem_mem hj))
  exact ⟨m1.1, m1.2, m2.1, m2.2, nodup_get nd hi hj (by omega)⟩
theorem ev_law_web {most arrows : Int} {R : DV → Prop} {E : EK} (hm : 1 ≤ most) (hm9 : most ≤ 9) (ha0 : 0 ≤ arrows) (ha : arrows ≤ 12) (h : ∀ n as, WebOk n as → n ≤ most → (as.length : Int) ≤ arrows → R (.d (wD n as))) : m__law_web [.wel, .d (.int most), .d (.int arrows)] R E := by
  rw [q__law_web]
  refine ⟨rfl, ?_⟩
  simp only [g__law_web]
  array_get_dec
  refine ev_draw_of (by omega) (by omega) fun k k0 k1 => ?_
  array_get_dec
  refine ev_law_order (by omega) (by omega) fun order ho => ?_
  array_get_dec
  by_cases h2 : 1 + k > 1
  · refine ite_t (decide_eq_true h2) (ev_draw_of (by omega) (by omega) fun m m0 m1 => ?_)
    array_get_dec
    refine ⟨⟨by omega, by omega⟩, by rw [rngD_len]; omega, ?_⟩
    refine web_loop (n := 1 + k) rfl (by omega) (by omega) ho _ [] _ _ (by intro x hx; cases hx) (by rw [rngD_len]; simp; omega) fun as s6 s7 hal hle => ?_
    array_get_dec
    rw [rngD_len] at hle
    simp at hle
    exact h (1 + k) as (hal.web ho (by omega) (by omega) (by omega)) (by omega) (by omega)
  · refine ite_f (decide_eq_false h2) ⟨⟨by omega, by omega⟩, by rw [rngD_len]; simp, ?_⟩
    have hal : Along order [] := fun x hx => by cases hx
    rw [show rngD 0 0 = [] from rfl]
    unfold loopD
    array_get_dec
    exact h (1 + k) [] (hal.web ho (by omega) (by omega) (by simp)) (by omega) (by simp; omega)
/-! the opposite web -/
def swap (x : Arr) : Arr := (x.2, x.1)
theorem ev_opposite_in {n : Int} {as : List Arr} {R : DV → Prop} {E : EK} (ha : as.length ≤ 100000) (h : R (.d (wD n (as.map swap)))) : m_opposite_in [.d (wD n as)] R E := by
  rw [q_opposite_in]
  refine ⟨rfl, ?_⟩
  simp only [g_opposite_in, wD]
  array_get_dec
  refine ⟨by rw [List.length_map]; exact ha, lcD_all aD (fun x => aD (swap x)) (fun x _ P hP => ?_) ?_⟩
  · simp only [aD, swap] at hP ⊢
    array_get_dec
    exact hP
  array_get_dec
  have e : as.map (fun x => aD (swap x)) = (as.map swap).map aD := by rw [List.map_map]; rfl
  rw [e]
  exact h
theorem Acy.swap {as : List Arr} (h : Acy as) : Acy (as.map swap) := by
  obtain ⟨f, hf⟩ := h
  refine ⟨fun p => - f p, fun x hx => ?_⟩
  obtain ⟨y, hy, rfl⟩ := List.mem_map.mp hx
  have := hf y hy
  simp only [Law.swap]
  omega
theorem WebOk.swap {n : Int} {as : List Arr} (w : WebOk n as) : WebOk n (as.map Law.swap) := by
  refine ⟨w.lo, w.hi, by rw [List.length_map]; exact w.len, fun x hx => ?_, w.acy.swap⟩
  obtain ⟨y, hy, rfl⟩ := List.mem_map.mp hx
  obtain ⟨a, b, c, d, e⟩ := w.rng y hy
  exact ⟨c, d, a, b, fun z => e z.symm⟩
theorem ev_opposite {n : Int} {as : List Arr} {R : DV → Prop} {E : EK} (w : WebOk n as) (h : R (.d (wD n (as.map swap)))) : m_opposite [.d (wD n as)] R E := by
  rw [q_opposite]
  refine ⟨rfl, ?_⟩
  simp only [g_opposite]
  array_get_dec
  exact ev_need_web w (ev_opposite_in (by have := w.len; omega) h)

local macro_rules | `(tactic| infer_instance) => `(tactic| refine ev_rounded (by sizeOf_list_dec) (by sizeOf_list_dec) (by sizeOf_list_dec) ?_)
local macro_rules | `(tactic| infer_instance) => `(tactic| refine ev_is_arrow  ?_)
local macro_rules | `(tactic| infer_instance) => `(tactic| refine ev_is_web (by sizeOf_list_dec) (by sizeOf_list_dec) (by sizeOf_list_dec) ?_)
local macro_rules | `(tactic| infer_instance) => `(tactic| refine ev_need_web (by sizeOf_list_dec) ?_)
local macro_rules | `(tactic| infer_instance) => `(tactic| refine ev_draw_of (by sizeOf_list_dec) (by sizeOf_list_dec) ?_)
local macro_rules | `(tactic| infer_instance) => `(tactic| refine ev_law_order (by sizeOf_list_dec) (by sizeOf_list_dec) ?_)
local macro_rules | `(tactic| infer_instance) => `(tactic| refine ev_law_web (by sizeOf_list_dec) (by sizeOf_list_dec) (by sizeOf_list_dec) (by sizeOf_list_dec) ?_)
local macro_rules | `(tactic| infer_instance) => `(tactic| refine ev_opposite_in (by sizeOf_list_dec) ?_)
local macro_rules | `(tactic| infer_instance) => `(tactic| refine ev_opposite (by sizeOf_list_dec) ?_)

/-! what is told of an error -/
def toldD (c : Int) (x : PD) : PD := .tuple [.list [.int c], .str x.shown]
theorem cp_told {c : Int} {v : PD} {e n : Nat} (hv : Rp e n v) : Cp 2 (toldD c v) := Cp.tup (CpA.cons (Cp.list (CpA.cons Cp.int CpA.nil)) (CpA.cons (Cp.str hv.st) CpA.nil))
theorem cpA_repl {e : Nat} {d : PD} (h : Cp e d) : ∀ k, CpA e (List.replicate k d)
  | 0 => CpA.nil
  | k + 1 => CpA.cons h (cpA_repl h k)
theorem flat_repl {α : Type} (d : α) : ∀ k, (List.replicate k [d]).flatten = List.replicate k d
  | 0 => rfl
  | k + 1 => by rw [List.replicate_succ, List.flatten_cons, flat_repl d k]; rfl
theorem sum_le {α : Type} {f : α → Int} {B : Nat} : ∀ {l : List α}, (∀ x ∈ l, (f x).natAbs ≤ B) → ((l.map f).sum).natAbs ≤ l.length * B
  | [], _ => by simp
  | a :: l, h => by
    have h1 := h a (by simp)
    have h2 := sum_le (l := l) fun x hx => h x (by simp [hx])
    simp only [List.map_cons, List.sum_cons, List.length_cons, Nat.add_mul]
    have := Int.natAbs_add_le (f a) (l.map f).sum
    omega
theorem mb_prod {b : Nat} {i j : Int} (h : MB b i) (k : MB b j) : (i * j).natAbs ≤ 2 ^ (b + b) := Nat.le_of_lt (h.mul k)
theorem rpA_le {e n e' n' : Nat} {d : List PD} (h : RpA e n d) (h1 : e ≤ e') (h2 : n ≤ n') : RpA e' n' d := ⟨h.sh, h.ls, h.cl, Nat.le_trans h.dp h1, Nat.le_trans h.wt h2, h.st⟩
theorem rpA_app {e n m : Nat} : ∀ {xs ys : List PD}, RpA e n xs → RpA e m ys → RpA e (n + m) (xs ++ ys)
  | [], ys, _, h => rpA_le h (Nat.le_refl _) (by omega)
  | x :: xs, ys, h, k => by
    have hx : PyData.showable x = true ∧ PyData.showableAll xs = true := by
      have := h.sh
      simp only [PyData.showableAll, Bool.and_eq_true] at this
      exact this
    have hl : PyData.leavesShort 600 x = true ∧ PyData.leavesShortAll 600 xs = true := by
      have := h.ls
      simp only [PyData.leavesShortAll, Bool.and_eq_true] at this
      exact this
    have hc : PyData.canLay0 x = true ∧ PyData.canLayAll0 xs = true := by
      have := h.cl
      simp only [PyData.canLayAll0, Bool.and_eq_true] at this
      exact this
    have hd := h.dp
    have hw := h.wt
    simp only [PyData.depthAll, PyData.weightAll] at hd hw
    have r1 : Rp e x.weight x := ⟨hx.1, hl.1, hc.1, by omega, Nat.le_refl _, h.st _ (by show x.shown ∈ x.shown :: PyData.shownAll xs; simp)⟩
    have r2 : RpA e (PyData.weightAll xs) xs := ⟨hx.2, hl.2, hc.2, by omega, Nat.le_refl _, fun t ht => h.st t (by show t ∈ x.shown :: PyData.shownAll xs; simp [ht])⟩
    exact rpA_le (RpA.cons r1 (rpA_app r2 k)) (Nat.le_refl _) (by omega)
theorem cutL_1 {α : Type} (xs : List α) : cutL xs (some 1) none = xs.drop 1 := by
  unfold cutL HT.sIx
  cases xs with
  | nil => simp
  | cons a r => simp <;> omega
theorem cutL_m1 {α : Type} (xs : List α) : cutL xs none (some (-1)) = xs.dropLast := by
  unfold cutL HT.sIx
  rw [List.dropLast_eq_take]
  cases xs with
  | nil => simp
  | cons a r =>
    simp
    congr 1
    omega
theorem all2_len {α β : Type} {r : α → β → Prop} {l : List α} {k : List β} (h : All2 r l k) : k.length = l.length := by
  induction h with
  | nil => rfl
  | cons _ _ ih => rw [List.length_cons, List.length_cons, ih]
theorem all2_mem {α β : Type} {r : α → β → Prop} {P : β → Prop} (hp : ∀ a b, r a b → P b) {l : List α} {k : List β} (h : All2 r l k) : ∀ y ∈ k, P y := by
  induction h with
  | nil => intro y hy; cases hy
  | cons h _ ih =>
    intro y hy
    rcases List.mem_cons.mp hy with rfl | hy
    · exact hp _ _ h
    · exact ih y hy


/-! sets of places that grow -/
theorem srt_ext : ∀ {l k : List Int}, l.Pairwise (· < ·) → k.Pairwise (· < ·) → (∀ x, x ∈ l ↔ x ∈ k) → l = k
  | [], [], _, _, _ => rfl
  | [], b :: k, _, _, h => absurd ((h b).mpr (by simp)) (by simp)
  | a :: l, [], _, _, h => absurd ((h a).mp (by simp)) (by simp)
  | a :: l, b :: k, h1, h2, h => by
    obtain ⟨a1, a2⟩ := List.pairwise_cons.mp h1
    obtain ⟨b1, b2⟩ := List.pairwise_cons.mp h2
    have e : a = b := by
      rcases List.mem_cons.mp ((h a).mp (by simp)) with e | e
      · exact e
      · rcases List.mem_cons.mp ((h b).mpr (by simp)) with e2 | e2
        · exact e2.symm
        · have := a1 b e2
          have := b1 a e
          omega
    subst e
    rw [srt_ext a2 b2 fun x => ⟨fun hx => ?_, fun hx => ?_⟩]
    · rcases List.mem_cons.mp ((h x).mp (by simp [hx])) with e | e
      · have := a1 x hx; omega
      · exact e
    · rcases List.mem_cons.mp ((h x).mpr (by simp [hx])) with e | e
      · have := b1 x hx; omega
      · exact e
theorem irg_srt (lo hi : Int) : (irg lo hi).Pairwise (· < ·) := by
  unfold irg
  rw [List.pairwise_map]
  exact List.pairwise_lt_range.imp fun h => by omega
theorem srt_filter {l : List Int} (h : l.Pairwise (· < ·)) (p : Int → Bool) : (l.filter p).Pairwise (· < ·) := h.filter p
theorem srt_nodup {l : List Int} (h : l.Pairwise (· < ·)) : l.Nodup := h.imp fun h => by omega
/-- a strictly rising list within 0 .. n-1 is not longer than n -/
theorem srt_len {n : Int} {l : List Int} (h : l.Pairwise (· < ·)) (hb : ∀ x ∈ l, 0 ≤ x ∧ x < n) : l.length ≤ n.toNat := by
  have := List.Nodup.length_le_of_subset (srt_nodup h) (fun x hx => mem_irg.mpr (hb x hx) : l ⊆ irg 0 n)
  rw [irg_len] at this
  omega
theorem sub_lt {l k : List Int} (hl : l.Nodup) (h : ∀ x ∈ l, x ∈ k) {y : Int} (hy : y ∈ k) (hn : y ∉ l) : l.length < k.length := by
  have : (y :: l).length ≤ k.length := List.Nodup.length_le_of_subset (List.nodup_cons.mpr ⟨hn, hl⟩) fun x hx => by
    rcases List.mem_cons.mp hx with rfl | hx
    · exact hy
    · exact h x hx
  rw [List.length_cons] at this
  omega
/-- sets that grow till they are closed are closed after n steps -/
theorem grow_closed {n : Nat} {F : Nat → List Int} {C : List Int → Prop} (hb : ∀ k, (F k).length ≤ n) (h0 : C (F 0) ∨ 1 ≤ (F 0).length) (hs : ∀ k, C (F k) → C (F (k + 1))) (hg : ∀ k, C (F k) ∨ (F k).length < (F (k + 1)).length) : C (F n) := by
  have key : ∀ k, C (F k) ∨ k + 1 ≤ (F k).length := fun k => by
    induction k with
    | zero => exact h0
    | succ k ih =>
      rcases ih with ih | ih
      · exact .inl (hs k ih)
      · rcases hg k with hg | hg
        · exact .inl (hs k hg)
        · exact .inr (by omega)
  rcases key n with h | h
  · exact h
  · have := hb n
    omega


/-! a list's entry -/
def rg (r : List Int) (i : Int) : Int := (r[i.toNat]?).getD 0
theorem rg_at {r : List Int} {i : Int} (h0 : 0 ≤ i) (h1 : i < r.length) : atI (r.map PyData.int) i = some (.int (rg r i)) := by
  refine atI_map' .int ?_
  rw [atI_get0 h0 h1]
  unfold rg
  have : i.toNat < r.length := by omega
  rw [List.getElem?_eq_getElem this]
  rfl
theorem rg_mem {r : List Int} {i : Int} (h0 : 0 ≤ i) (h1 : i < r.length) : rg r i ∈ r := by
  unfold rg
  have : i.toNat < r.length := by omega
  rw [List.getElem?_eq_getElem this]
  exact List.getElem_mem this


/-! pieces: connected places -/
def Cn (as : List Arr) (m x : Int) : Prop := ∀ P : Int → Prop, P m → (∀ e ∈ as, P e.1 ↔ P e.2) → P x
theorem Cn.refl (as : List Arr) (m : Int) : Cn as m m := fun _ h _ => h
theorem Cn.trans {as : List Arr} {a b c : Int} (h : Cn as a b) (k : Cn as b c) : Cn as a c := fun P p q => k P (h P p q) q
theorem Cn.symm {as : List Arr} {a b : Int} (h : Cn as a b) : Cn as b a := h (fun x => Cn as x a) (Cn.refl as a) fun e he =>
  ⟨fun k => Cn.trans (fun P p q => (q e he).mpr p) k, fun k => Cn.trans (fun P p q => (q e he).mp p) k⟩
theorem Cn.arr {as : List Arr} {e : Arr} (he : e ∈ as) : Cn as e.1 e.2 := fun P p q => (q e he).mp p
theorem Cn.arr' {as : List Arr} {e : Arr} (he : e ∈ as) : Cn as e.2 e.1 := fun P p q => (q e he).mpr p
/-- what names the piece of a place: its least place -/
structure Lst (n : Int) (as : List Arr) (L : Int → Int) : Prop where
  eq : ∀ e ∈ as, L e.1 = L e.2
  cn : ∀ x, 0 ≤ x → x < n → Cn as x (L x)
  le : ∀ x, 0 ≤ x → x < n → 0 ≤ L x ∧ L x ≤ x
theorem Lst.of {n : Int} {as : List Arr} {L : Int → Int} (h : Lst n as L) {a b : Int} (k : Cn as a b) : L a = L b := k (fun x => L a = L x) rfl fun e he => by rw [h.eq e he]
theorem Lst.idem {n : Int} {as : List Arr} {L : Int → Int} (h : Lst n as L) {x : Int} (h0 : 0 ≤ x) (h1 : x < n) : L (L x) = L x := (h.of (h.cn x h0 h1)).symm
/-- the pieces, told by L -/
def roots (n : Int) (L : Int → Int) : List Int := (irg 0 n).filter fun m => decide (L m = m)
def piece (n : Int) (L : Int → Int) (m : Int) : List Int := (irg 0 n).filter fun x => decide (L x = m)
def pcs (n : Int) (L : Int → Int) : List (List Int) := (roots n L).map (piece n L)
/-! marks -/
def mrk (ms : List Int) (e : Arr) : List Int := (ms.set e.1.toNat (min (rg ms e.1) (rg ms e.2))).set e.2.toNat (min (rg ms e.1) (rg ms e.2))
def sweep (as : List Arr) (ms : List Int) : List Int := as.foldl mrk ms
def sweeps (as : List Arr) (ms : List Int) : Nat → List Int
  | 0 => ms
  | k + 1 => sweep as (sweeps as ms k)
theorem rg_set {ms : List Int} {i : Int} {v : Int} (h0 : 0 ≤ i) (h1 : i < ms.length) {j : Int} (hj : 0 ≤ j) : rg (ms.set i.toNat v) j = if j = i then v else rg ms j := by
  unfold rg
  by_cases e : j = i
  · subst e
    rw [if_pos rfl, List.getElem?_set_self (by omega)]
    rfl
  · rw [if_neg e, List.getElem?_set_ne (by omega)]
theorem rg_mrk {ms : List Int} {e : Arr} (h0 : 0 ≤ e.1 ∧ e.1 < ms.length) (h1 : 0 ≤ e.2 ∧ e.2 < ms.length) {j : Int} (hj : 0 ≤ j) : rg (mrk ms e) j = if j = e.2 ∨ j = e.1 then min (rg ms e.1) (rg ms e.2) else rg ms j := by
  unfold mrk
  rw [rg_set h1.1 (by rw [List.length_set]; exact h1.2) hj, rg_set h0.1 h0.2 hj]
  by_cases a : j = e.2
  · rw [if_pos a, if_pos (.inl a)]
  · rw [if_neg a]
    by_cases b : j = e.1
    · rw [if_pos b, if_pos (.inr b)]
    · rw [if_neg b, if_neg (by simp [a, b])]
/-- what holds of marks at all times -/
structure MkOk (n : Int) (as : List Arr) (ms : List Int) : Prop where
  len : (ms.length : Int) = n
  cn : ∀ x, 0 ≤ x → x < n → Cn as x (rg ms x)
  le : ∀ x, 0 ≤ x → x < n → 0 ≤ rg ms x ∧ rg ms x ≤ x
theorem MkOk.step {n : Int} {as : List Arr} {ms : List Int} (h : MkOk n as ms) {e : Arr} (he : e ∈ as) (hr : (0 ≤ e.1 ∧ e.1 < n) ∧ 0 ≤ e.2 ∧ e.2 < n) : MkOk n as (mrk ms e) ∧ ∀ x, 0 ≤ x → x < n → rg (mrk ms e) x ≤ rg ms x := by
  have hl := h.len
  obtain ⟨⟨a0, a1⟩, b0, b1⟩ := hr
  have g : ∀ j, 0 ≤ j → rg (mrk ms e) j = if j = e.2 ∨ j = e.1 then min (rg ms e.1) (rg ms e.2) else rg ms j := fun j hj => rg_mrk ⟨a0, by omega⟩ ⟨b0, by omega⟩ hj
  have la := h.le e.1 a0 a1
  have lb := h.le e.2 b0 b1
  refine ⟨⟨by unfold mrk; rw [List.length_set, List.length_set]; exact hl, fun x x0 x1 => ?_, fun x x0 x1 => ?_⟩, fun x x0 x1 => ?_⟩
  · rw [g x x0]
    have c1 := h.cn e.1 a0 a1
    have c2 := h.cn e.2 b0 b1
    split
    · rename_i hx
      have k1 : Cn as x e.1 := by
        rcases hx with rfl | rfl
        · exact Cn.arr' he
        · exact Cn.refl _ _
      rcases (by omega : min (rg ms e.1) (rg ms e.2) = rg ms e.1 ∨ min (rg ms e.1) (rg ms e.2) = rg ms e.2) with q | q <;> rw [q]
      · exact k1.trans c1
      · exact (k1.trans (Cn.arr he)).trans c2
    · exact h.cn x x0 x1
  · rw [g x x0]
    have := h.le x x0 x1
    split
    · rename_i hx
      rcases hx with rfl | rfl <;> omega
    · exact this
  · rw [g x x0]
    split
    · rename_i hx
      rcases hx with rfl | rfl <;> omega
    · omega
theorem MkOk.fold {n : Int} {as : List Arr} (hr : ∀ e ∈ as, (0 ≤ e.1 ∧ e.1 < n) ∧ 0 ≤ e.2 ∧ e.2 < n) : ∀ (l : List Arr) (ms : List Int), (∀ e ∈ l, e ∈ as) → MkOk n as ms → MkOk n as (l.foldl mrk ms) ∧ (∀ x, 0 ≤ x → x < n → rg (l.foldl mrk ms) x ≤ rg ms x) ∧
    ∀ e ∈ l, ∀ m, (∀ x, 0 ≤ x → x < n → Cn as m x → m ≤ x) → Cn as m e.1 → (rg ms e.1 = m ∨ rg ms e.2 = m) → rg (l.foldl mrk ms) e.1 = m ∧ rg (l.foldl mrk ms) e.2 = m
  | [], ms, _, h => ⟨h, fun _ _ _ => Int.le_refl _, fun e he => absurd he (by simp)⟩
  | a :: l, ms, hs, h => by
    have ha := hs a (by simp)
    have hra := hr a ha
    obtain ⟨h1, h2⟩ := h.step ha hra
    obtain ⟨f1, f2, f3⟩ := MkOk.fold hr l (mrk ms a) (fun e he => hs e (by simp [he])) h1
    rw [List.foldl_cons]
    refine ⟨f1, fun x x0 x1 => Int.le_trans (f2 x x0 x1) (h2 x x0 x1), fun e he m hm hc hq => ?_⟩
    -- a mark that is the least one stays
    have stay : ∀ (ms' : List Int), MkOk n as ms' → ∀ x, 0 ≤ x → x < n → Cn as m x → rg ms' x ≤ m → rg ms' x = m := fun ms' k x x0 x1 hx hle => by
      have := hm (rg ms' x) (k.le x x0 x1).1 (by have := (k.le x x0 x1).2; omega) (hx.trans (k.cn x x0 x1))
      omega
    have hre := hr e (hs e he)
    have hc2 : Cn as m e.2 := hc.trans (Cn.arr (hs e he))
    rcases List.mem_cons.mp he with rfl | he
    · have hl := h.len
      have g1 := rg_mrk (ms := ms) (e := e) ⟨hre.1.1, by omega⟩ ⟨hre.2.1, by omega⟩ hre.1.1
      have g2 := rg_mrk (ms := ms) (e := e) ⟨hre.1.1, by omega⟩ ⟨hre.2.1, by omega⟩ hre.2.1
      rw [if_pos (.inr rfl)] at g1
      rw [if_pos (.inl rfl)] at g2
      have q1 := f2 e.1 hre.1.1 hre.1.2
      have q2 := f2 e.2 hre.2.1 hre.2.2
      rw [g1] at q1
      rw [g2] at q2
      have : min (rg ms e.1) (rg ms e.2) ≤ m := by omega
      exact ⟨stay _ f1 _ hre.1.1 hre.1.2 hc (by omega), stay _ f1 _ hre.2.1 hre.2.2 hc2 (by omega)⟩
    · refine f3 e he m hm hc ?_
      rcases hq with hq | hq
      · exact .inl (stay _ h1 _ hre.1.1 hre.1.2 hc (by have := h2 e.1 hre.1.1 hre.1.2; omega))
      · exact .inr (stay _ h1 _ hre.2.1 hre.2.2 hc2 (by have := h2 e.2 hre.2.1 hre.2.2; omega))
theorem MkOk.sweeps {n : Int} {as : List Arr} {ms : List Int} (hr : ∀ e ∈ as, (0 ≤ e.1 ∧ e.1 < n) ∧ 0 ≤ e.2 ∧ e.2 < n) (h : MkOk n as ms) : ∀ k, MkOk n as (Law.sweeps as ms k)
  | 0 => h
  | k + 1 => (MkOk.fold hr as _ (fun _ he => he) (MkOk.sweeps hr h k)).1
theorem has_least (p : Int → Prop) : ∀ l : List Int, (∃ x ∈ l, p x) → ∃ m ∈ l, p m ∧ ∀ y ∈ l, p y → m ≤ y
  | [], h => by obtain ⟨x, hx, _⟩ := h; cases hx
  | a :: l, h => by
    by_cases q : ∃ x ∈ l, p x
    · obtain ⟨m, hm, pm, hl⟩ := has_least p l q
      by_cases pa : p a
      · by_cases z : a ≤ m
        · exact ⟨a, by simp, pa, fun y hy py => by
            rcases List.mem_cons.mp hy with rfl | hy
            · exact Int.le_refl _
            · exact Int.le_trans z (hl y hy py)⟩
        · exact ⟨m, by simp [hm], pm, fun y hy py => by
            rcases List.mem_cons.mp hy with rfl | hy
            · omega
            · exact hl y hy py⟩
      · exact ⟨m, by simp [hm], pm, fun y hy py => by
          rcases List.mem_cons.mp hy with rfl | hy
          · exact absurd py pa
          · exact hl y hy py⟩
    · obtain ⟨x, hx, px⟩ := h
      rcases List.mem_cons.mp hx with rfl | hx
      · exact ⟨x, by simp, px, fun y hy py => by
          rcases List.mem_cons.mp hy with rfl | hy
          · exact Int.le_refl _
          · exact absurd ⟨y, hy, py⟩ q⟩
      · exact absurd ⟨x, hx, px⟩ q
/-- after n sweeps marks are alike along arrows -/
theorem sweeps_lst {n : Int} {as : List Arr} {ms : List Int} (hr : ∀ e ∈ as, (0 ≤ e.1 ∧ e.1 < n) ∧ 0 ≤ e.2 ∧ e.2 < n) (h : MkOk n as ms) (hi : ∀ x, 0 ≤ x → x < n → rg ms x = x) : Lst n as (rg (sweeps as ms n.toNat)) := by
  have ok := fun k => MkOk.sweeps hr h k
  refine ⟨fun e he => ?_, (ok _).cn, (ok _).le⟩
  obtain ⟨⟨a0, a1⟩, b0, b1⟩ := hr e he
  obtain ⟨m, hm, hc, hl⟩ := has_least (fun x => Cn as e.1 x) (irg 0 n) ⟨e.1, mem_irg.mpr ⟨a0, a1⟩, Cn.refl _ _⟩
  obtain ⟨m0, m1⟩ := mem_irg.mp hm
  have hmin : ∀ x, 0 ≤ x → x < n → Cn as m x → m ≤ x := fun x x0 x1 k => hl x (mem_irg.mpr ⟨x0, x1⟩) (hc.trans k)
  have stay : ∀ k x, 0 ≤ x → x < n → Cn as m x → rg (sweeps as ms k) x ≤ m → rg (sweeps as ms k) x = m := fun k x x0 x1 hx hle => by
    have q := (ok k).le x x0 x1
    have := hmin _ q.1 (by omega) (hx.trans ((ok k).cn x x0 x1))
    omega
  -- places marked m
  let F : Nat → List Int := fun k => (irg 0 n).filter fun x => decide (rg (sweeps as ms k) x = m)
  have mF : ∀ k x, x ∈ F k ↔ (0 ≤ x ∧ x < n) ∧ rg (sweeps as ms k) x = m := fun k x => by
    show x ∈ (irg 0 n).filter _ ↔ _
    rw [List.mem_filter, mem_irg, decide_eq_true_eq]
  have cF : ∀ k x, x ∈ F k → Cn as m x := fun k x hx => by
    obtain ⟨⟨x0, x1⟩, e⟩ := (mF k x).mp hx
    have := (ok k).cn x x0 x1
    rw [e] at this
    exact this.symm
  have mem_m : ∀ k, m ∈ F k := fun k => (mF k m).mpr ⟨⟨m0, m1⟩, stay k m m0 m1 (Cn.refl _ _) ((ok k).le m m0 m1).2⟩
  let C : List Int → Prop := fun l => ∀ x, 0 ≤ x → x < n → Cn as m x → x ∈ l
  have step : ∀ k x, x ∈ F k → x ∈ F (k + 1) := fun k x hx => by
    obtain ⟨⟨x0, x1⟩, e⟩ := (mF k x).mp hx
    refine (mF (k + 1) x).mpr ⟨⟨x0, x1⟩, stay (k + 1) x x0 x1 (cF k x hx) ?_⟩
    have := (MkOk.fold hr as _ (fun _ he => he) (ok k)).2.1 x x0 x1
    rw [e] at this
    exact this
  have nxt : ∀ k, ∀ g ∈ as, (g.1 ∈ F k ∨ g.2 ∈ F k) → g.1 ∈ F (k + 1) ∧ g.2 ∈ F (k + 1) := fun k g hg hq => by
    have r := hr g hg
    have c1 : Cn as m g.1 := by
      rcases hq with hq | hq
      · exact cF k _ hq
      · exact (cF k _ hq).trans (Cn.arr' hg)
    obtain ⟨e1, e2⟩ := (MkOk.fold hr as _ (fun _ he => he) (ok k)).2.2 g hg m hmin c1 (hq.imp (fun z => ((mF k _).mp z).2) fun z => ((mF k _).mp z).2)
    exact ⟨(mF _ _).mpr ⟨r.1, e1⟩, (mF _ _).mpr ⟨r.2, e2⟩⟩
  have cl : C (F n.toNat) := by
    refine grow_closed (F := F) (C := C) (fun k => ?_) (.inr ?_) (fun k hk x x0 x1 hx => step k x (hk x x0 x1 hx)) fun k => ?_
    · refine Nat.le_trans (List.length_filter_le _ _) ?_
      rw [irg_len]
      omega
    · exact List.length_pos_of_mem (mem_m 0)
    · by_cases q : ∀ g ∈ as, g.1 ∈ F k ↔ g.2 ∈ F k
      · exact .inl fun x _ _ hx => hx (fun y => y ∈ F k) (mem_m k) q
      · obtain ⟨g, q⟩ := Classical.not_forall.mp q
        obtain ⟨hg, q⟩ := Classical.not_imp.mp q
        refine .inr ?_
        have nd : (F k).Nodup := (irg_nodup 0 n).filter _
        by_cases z : g.1 ∈ F k
        · exact sub_lt nd (step k) (nxt k g hg (.inl z)).2 fun w => q ⟨fun _ => w, fun _ => z⟩
        · have z2 : g.2 ∈ F k := Classical.byContradiction fun w => q ⟨fun v => absurd v z, fun v => absurd v w⟩
          exact sub_lt nd (step k) (nxt k g hg (.inr z2)).1 z
  have e1 := ((mF _ _).mp (cl e.1 a0 a1 hc.symm)).2
  have e2 := ((mF _ _).mp (cl e.2 b0 b1 (hc.symm.trans (Cn.arr he)))).2
  rw [e1, e2]


/-! pieces_in, pieces -/
theorem ixn_nat {m : Nat} {i : Int} (h0 : 0 ≤ i) (h1 : i < m) : ixN m i = some i.toNat := by
  unfold ixN
  rw [if_pos h0, if_pos h1]
theorem marks_loop {D : DEnds} {n : Int} {s0 s2 : Sl} (hn : n ≤ 9) : ∀ (l : List Arr) (ms : List Int) (s3 s4 s5 s6 s7 : Sl), (ms.length : Int) = n → (∀ e ∈ l, (0 ≤ e.1 ∧ e.1 < n) ∧ 0 ≤ e.2 ∧ e.2 < n) →
    (∀ s3 s4 s5, D.nx [s0, .own ((sweep l ms).map .int), s2, s3, s4, s5, s6, s7]) →
    loopD (gTp (gsCons (gNm 3) (gsCons (gNm 4) gsNil))) g_pieces_in_b0 D (l.map aD) [s0, .own (ms.map .int), s2, s3, s4, s5, s6, s7]
  | [], ms, s3, s4, s5, s6, s7, _, _, h => h _ _ _
  | e :: l, ms, s3, s4, s5, s6, s7, hl, hr, h => by
    obtain ⟨⟨a0, a1⟩, b0, b1⟩ := hr e (by simp)
    rw [List.map_cons]
    unfold loopD
    simp only [g_pieces_in_b0, aD]
    array_get_dec
    refine ⟨_, rg_at a0 (by omega), _, rg_at b0 (by omega), ?_⟩
    array_get_dec
    refine ⟨_, ixn_nat a0 (by rw [List.length_map]; omega), _, ixn_nat b0 (by rw [List.length_set, List.length_map]; omega), ?_⟩
    have em : (if rg ms e.2 < rg ms e.1 then rg ms e.2 else rg ms e.1) = min (rg ms e.1) (rg ms e.2) := by split <;> omega
    rw [em, ← List.map_set, ← List.map_set]
    exact marks_loop hn l (mrk ms e) _ _ _ _ _ (by unfold mrk; rw [List.length_set, List.length_set]; exact hl) (fun g hg => hr g (by simp [hg])) h
theorem sweep_len (as : List Arr) : ∀ ms, (sweep as ms).length = ms.length := by
  unfold sweep
  induction as with
  | nil => intro ms; rfl
  | cons e as ih =>
    intro ms
    rw [List.foldl_cons, ih]
    unfold mrk
    rw [List.length_set, List.length_set]
theorem sweeps_succ (as : List Arr) (ms : List Int) : ∀ k, sweeps as (sweep as ms) k = sweeps as ms (k + 1)
  | 0 => rfl
  | k + 1 => by
    show sweep as (sweeps as (sweep as ms) k) = sweep as (sweeps as ms (k + 1))
    rw [sweeps_succ as ms k]
theorem turns_loop {D : DEnds} {n : Int} {as : List Arr} (hn : n ≤ 9) (ha : as.length ≤ 100000) (hr : ∀ e ∈ as, (0 ≤ e.1 ∧ e.1 < n) ∧ 0 ≤ e.2 ∧ e.2 < n) : ∀ (l : List PD) (ms : List Int) (s2 s3 s4 s5 s6 s7 : Sl), (ms.length : Int) = n →
    (∀ s2 s3 s4 s5, D.nx [.v (.d (wD n as)), .own ((sweeps as ms l.length).map .int), s2, s3, s4, s5, s6, s7]) →
    loopD (gNm 2) g_pieces_in_b1 D l [.v (.d (wD n as)), .own (ms.map .int), s2, s3, s4, s5, s6, s7]
  | [], ms, s2, s3, s4, s5, s6, s7, _, h => h _ _ _ _
  | x :: l, ms, s2, s3, s4, s5, s6, s7, hl, h => by
    unfold loopD
    simp only [g_pieces_in_b1, wD]
    array_get_dec
    refine ⟨by rw [List.length_map]; exact ha, ?_⟩
    refine marks_loop hn as ms _ _ _ _ _ hl hr fun s3 s4 s5 => ?_
    refine turns_loop hn ha hr l (sweep as ms) _ _ _ _ _ _ (by rw [sweep_len]; exact hl) fun s2 s3 s4 s5 => ?_
    rw [sweeps_succ]
    exact h _ _ _ _
theorem mk_start {n : Int} {as : List Arr} (h0 : 0 ≤ n) : MkOk n as (irg 0 n) ∧ ∀ x, 0 ≤ x → x < n → rg (irg 0 n) x = x := by
  have e : ∀ x, 0 ≤ x → x < n → rg (irg 0 n) x = x := fun x x0 x1 => by
    unfold rg irg
    rw [List.getElem?_map, List.getElem?_range (by omega)]
    show (0 : Int) + (x.toNat : Int) = x
    omega
  refine ⟨⟨by rw [irg_len]; omega, fun x x0 x1 => ?_, fun x x0 x1 => ?_⟩, e⟩
  · rw [e x x0 x1]
    exact Cn.refl _ _
  · rw [e x x0 x1]
    omega
/-- the program's names of pieces -/
def lst (n : Int) (as : List Arr) : Int → Int := rg (sweeps as (irg 0 n) n.toNat)
theorem lst_ok {n : Int} {as : List Arr} (w : WebOk n as) : Lst n as (lst n as) :=
  sweeps_lst (fun e he => ⟨⟨(w.rng e he).1, (w.rng e he).2.1⟩, (w.rng e he).2.2.1, (w.rng e he).2.2.2.1⟩) (mk_start (as := as) (by have := w.lo; omega)).1 (mk_start (as := as) (by have := w.lo; omega)).2
def pD (l : List Int) : PD := .list (l.map .int)
theorem ev_pieces_in {n : Int} {as : List Arr} {R : DV → Prop} {E : EK} (w : WebOk n as) (h : R (.d (.list ((pcs n (lst n as)).map pD)))) : m_pieces_in [.d (wD n as)] R E := by
  have lo := w.lo
  have hi := w.hi
  have wl := w.len
  have ok := lst_ok w
  have hr : ∀ e ∈ as, (0 ≤ e.1 ∧ e.1 < n) ∧ 0 ≤ e.2 ∧ e.2 < n := fun e he => ⟨⟨(w.rng e he).1, (w.rng e he).2.1⟩, (w.rng e he).2.2.1, (w.rng e he).2.2.2.1⟩
  rw [q_pieces_in]
  refine ⟨rfl, ?_⟩
  simp only [g_pieces_in]
  rw [show wD n as = .tuple [.int n, .tuple (as.map aD)] from rfl]
  array_get_dec
  refine ⟨RgOk.of_le (by omega) (by omega) (by omega) (by omega), ⟨by omega, by omega⟩, by rw [rngD_len]; omega, ?_⟩
  rw [show Sl.own (rngD 0 n) = .own ((irg 0 n).map .int) by rw [rngD_irg]]
  refine turns_loop (n := n) (as := as) hi (by omega) hr (rngD 0 n) (irg 0 n) _ _ _ _ _ _ (by rw [irg_len]; omega) fun s2 s3 s4 s5 => ?_
  rw [rngD_len, show (n - 0).toNat = n.toNat by rw [Int.sub_zero], show wD n as = .tuple [.int n, .tuple (as.map aD)] from rfl]
  array_get_dec
  have lm : (sweeps as (irg 0 n) n.toNat).length = n.toNat := by
    have : ∀ k, (sweeps as (irg 0 n) k).length = n.toNat := fun k => by
      induction k with
      | zero => show (irg 0 n).length = _; rw [irg_len, Int.sub_zero]
      | succ k ih => show (sweep as _).length = _; rw [sweep_len, ih]
    exact this _
  refine ⟨⟨by omega, by omega⟩, by rw [rngD_len]; omega, ?_⟩
  rw [rngD_irg]
  refine lcD_test .int (fun m => decide (m ∈ sweeps as (irg 0 n) n.toNat)) (fun m => pD (piece n (lst n as) m)) (fun m hm P hP => ?_) ?_
  · array_get_dec
    by_cases z : m ∈ sweeps as (irg 0 n) n.toNat
    · rw [decide_eq_true z] at hP ⊢
      refine ite_t rfl ?_
      array_get_dec
      refine ⟨⟨by omega, by omega⟩, by rw [rngD_len]; omega, ?_⟩
      rw [rngD_irg]
      refine lcD_test .int (fun x => decide (lst n as x = m)) .int (fun x hx P hP => ?_) ?_
      · array_get_dec
        obtain ⟨x0, x1⟩ := mem_irg.mp hx
        refine ⟨_, rg_at x0 (by omega), ?_⟩
        array_get_dec
        by_cases z : lst n as x = m
        · rw [decide_eq_true z] at hP
          exact ite_t (decide_eq_true z) hP
        · rw [decide_eq_false z] at hP
          exact ite_f (decide_eq_false z) hP
      · exact hP
    · rw [decide_eq_false z] at hP ⊢
      exact ite_f rfl hP
  · have e : (irg 0 n).filter (fun m => decide (m ∈ sweeps as (irg 0 n) n.toNat)) = roots n (lst n as) := by
      refine List.filter_congr fun m hm => ?_
      obtain ⟨m0, m1⟩ := mem_irg.mp hm
      refine decide_eq_decide.mpr ⟨fun h => ?_, fun h => ?_⟩
      · obtain ⟨j, hj, e⟩ := List.getElem_of_mem h
        have : lst n as (j : Int) = m := by
          show rg _ _ = m
          unfold rg
          rw [show ((j : Int)).toNat = j from rfl, List.getElem?_eq_getElem hj]
          exact e
        rw [← this]
        exact ok.idem (by omega) (by omega)
      · have := rg_mem (r := sweeps as (irg 0 n) n.toNat) m0 (by omega)
        have h : rg (sweeps as (irg 0 n) n.toNat) m = m := h
        rw [h] at this
        exact this
    rw [e]
    have e2 : (roots n (lst n as)).map (fun m => pD (piece n (lst n as) m)) = (pcs n (lst n as)).map pD := by unfold pcs; rw [List.map_map]; rfl
    rw [e2]
    exact h

local macro_rules | `(tactic| infer_instance) => `(tactic| refine ev_pieces_in (by sizeOf_list_dec) ?_)

def psD (n : Int) (as : List Arr) : PD := .tuple ((pcs n (lst n as)).map fun l => .tuple (l.map .int))
theorem pcs_len {n : Int} {L : Int → Int} (h : n ≤ 9) : (pcs n L).length ≤ 9 ∧ ∀ l ∈ pcs n L, l.length ≤ 9 := by
  have e : (irg 0 n).length ≤ 9 := by rw [irg_len]; omega
  refine ⟨?_, fun l hl => ?_⟩
  · unfold pcs roots
    rw [List.length_map]
    exact Nat.le_trans (List.length_filter_le _ _) e
  · obtain ⟨m, _, rfl⟩ := List.mem_map.mp hl
    exact Nat.le_trans (List.length_filter_le _ _) e
theorem ev_pieces {n : Int} {as : List Arr} {R : DV → Prop} {E : EK} (w : WebOk n as) (h : R (.d (psD n as))) : m_pieces [.d (wD n as)] R E := by
  obtain ⟨l1, l2⟩ := pcs_len (L := lst n as) w.hi
  rw [q_pieces]
  refine ⟨rfl, ?_⟩
  simp only [g_pieces]
  array_get_dec
  refine ev_need_web w (ev_pieces_in w ?_)
  array_get_dec
  refine ⟨by rw [List.length_map]; omega, lcD_all pD (fun l => .tuple (l.map .int)) (fun l hl P hP => ?_) ?_⟩
  · have := l2 l hl
    simp only [pD]
    array_get_dec
    exact hP
  · array_get_dec
    exact h

local macro_rules | `(tactic| infer_instance) => `(tactic| refine ev_pieces (by sizeOf_list_dec) ?_)

/-! ends, begins, turned -/
def endsL (n : Int) (as : List Arr) : List Int := (irg 0 n).filter fun i => !decide (i ∈ as.map (·.1))
def begL (n : Int) (as : List Arr) : List Int := (irg 0 n).filter fun i => !decide (i ∈ as.map (·.2))
def tInt (l : List Int) : PD := .tuple (l.map .int)
theorem ev_ends_in {n : Int} {as : List Arr} {R : DV → Prop} {E : EK} (h0 : 0 ≤ n) (hn : n ≤ 9) (ha : as.length ≤ 100000) (h : R (.d (tInt (endsL n as)))) : m_ends_in [.d (wD n as)] R E := by
  rw [q_ends_in]
  refine ⟨rfl, ?_⟩
  simp only [g_ends_in, wD]
  array_get_dec
  refine ⟨by rw [List.length_map]; exact ha, lcD_all aD (fun x => .int x.1) (fun x _ P hP => ?_) ?_⟩
  · simp only [aD]
    array_get_dec
    exact hP
  have e : as.map (fun x => PyData.int x.1) = (as.map (·.1)).map .int := by rw [List.map_map]; rfl
  rw [e]
  array_get_dec
  refine ⟨⟨by omega, by omega⟩, by rw [rngD_len]; omega, ?_⟩
  rw [rngD_irg]
  refine lcD_test .int (fun i => !decide (i ∈ as.map (·.1))) .int (fun x _ P hP => ?_) ?_
  · array_get_dec
    by_cases z : x ∈ as.map (·.1)
    · rw [decide_eq_true z] at hP ⊢
      exact ite_f rfl hP
    · rw [decide_eq_false z] at hP ⊢
      exact ite_t rfl hP
  array_get_dec
  exact h
theorem ev_begins_in {n : Int} {as : List Arr} {R : DV → Prop} {E : EK} (h0 : 0 ≤ n) (hn : n ≤ 9) (ha : as.length ≤ 100000) (h : R (.d (tInt (begL n as)))) : m_begins_in [.d (wD n as)] R E := by
  rw [q_begins_in]
  refine ⟨rfl, ?_⟩
  simp only [g_begins_in]
  array_get_dec
  refine ev_opposite_in ha ?_
  array_get_dec
  refine ev_ends_in h0 hn (by rw [List.length_map]; exact ha) ?_
  have e : endsL n (as.map swap) = begL n as := by
    unfold endsL begL
    rw [List.map_map]
    rfl
  rw [e]
  exact h
def turnA (p : Int) (x : Arr) : Arr := if x.1 = p ∨ x.2 = p then swap x else x
theorem ev_turned_web {n p : Int} {as : List Arr} {R : DV → Prop} {E : EK} (ha : as.length ≤ 100000) (h : R (.d (wD n (as.map (turnA p))))) : m_turned_web [.d (wD n as), .d (.int p)] R E := by
  rw [q_turned_web]
  refine ⟨rfl, ?_⟩
  simp only [g_turned_web, wD]
  array_get_dec
  refine ⟨by rw [List.length_map]; exact ha, lcD_all aD (fun x => aD (turnA p x)) (fun x _ P hP => ?_) ?_⟩
  · simp only [aD, turnA, swap] at hP ⊢
    array_get_dec
    refine ⟨rfl, rfl, ?_⟩
    have e : ([PyData.int x.1, .int x.2].any fun z => PyData.eqv z (.int p)) = decide (x.1 = p ∨ x.2 = p) := by
      simp only [List.any_cons, List.any_nil, eqv_int, Bool.or_false]
      rw [← Bool.decide_or]
    rw [e]
    by_cases z : x.1 = p ∨ x.2 = p
    · rw [if_pos z] at hP
      exact ite_t (decide_eq_true z) hP
    · rw [if_neg z] at hP
      exact ite_f (decide_eq_false z) hP
  array_get_dec
  have e : as.map (fun x => aD (turnA p x)) = (as.map (turnA p)).map aD := by rw [List.map_map]; rfl
  rw [e]
  exact h

local macro_rules | `(tactic| infer_instance) => `(tactic| refine ev_ends_in (by sizeOf_list_dec) (by sizeOf_list_dec) (by sizeOf_list_dec) ?_)
local macro_rules | `(tactic| infer_instance) => `(tactic| refine ev_begins_in (by sizeOf_list_dec) (by sizeOf_list_dec) (by sizeOf_list_dec) ?_)
local macro_rules | `(tactic| infer_instance) => `(tactic| refine ev_turned_web (by sizeOf_list_dec) ?_)

/-! ends, begins, opposite, round_of, turned_at -/
section
variable {n p : Int} {as : List Arr} {R : DV → Prop} {E : EK}
theorem ev_ends (w : WebOk n as) (h : R (.d (tInt (endsL n as)))) : m_ends [.d (wD n as)] R E := by
  have := w.lo; have := w.hi; have := w.len
  rw [q_ends]
  refine ⟨rfl, ?_⟩
  simp only [g_ends]
  array_get_dec
  exact ev_need_web w (ev_ends_in (by omega) (by omega) (by omega) h)
theorem ev_begins (w : WebOk n as) (h : R (.d (tInt (begL n as)))) : m_begins [.d (wD n as)] R E := by
  have := w.lo; have := w.hi; have := w.len
  rw [q_begins]
  refine ⟨rfl, ?_⟩
  simp only [g_begins]
  array_get_dec
  exact ev_need_web w (ev_begins_in (by omega) (by omega) (by omega) h)
theorem ev_round_of (w : WebOk n as) (h : R (.d (tInt (rnd n as)))) : m_round_of [.d (wD n as)] R E := by
  have := w.lo; have := w.hi; have := w.len
  rw [q_round_of]
  refine ⟨rfl, ?_⟩
  simp only [g_round_of]
  array_get_dec
  exact ev_need_web w (ev_rounded (by omega) (by omega) (by omega) h)
theorem e_inInts {p : Int} {l : List Int} {R : DV → Prop} (h : R (.d (.bool (!decide (p ∈ l))))) : gNotIn (.d (.int p)) (.d (tInt l)) R := by
  refine ⟨rfl, ?_, ?_⟩
  · exact List.all_eq_true.mpr fun x hx => by
      obtain ⟨y, _, rfl⟩ := List.mem_map.mp hx
      rfl
  · rw [any_eqv]
    exact h
theorem ev_need_turnable (w : WebOk n as) (hp : 0 ≤ p ∧ p < n) (ht : p ∈ endsL n as ∨ p ∈ begL n as) (h : R (.d .none)) : m_need_turnable [.d (wD n as), .d (.int p)] R E := by
  have := w.lo; have := w.hi; have := w.len
  rw [q_need_turnable]
  refine ⟨rfl, ?_⟩
  simp only [g_need_turnable]
  array_get_dec
  rw [q_need_at]
  refine ⟨rfl, ?_⟩
  simp only [g_need_at]
  array_get_dec
  refine ev_need_web w ?_
  rw [q_need_place]
  refine ⟨rfl, ?_⟩
  simp only [g_need_place]
  rw [show wD n as = .tuple [.int n, .tuple (as.map aD)] from rfl]
  array_get_dec
  refine ite_f (decide_eq_false (by omega)) (ite_f (decide_eq_false (by omega)) ?_)
  refine ev_ends_in (n := n) (as := as) (by omega) (by omega) (by omega) ?_
  refine e_inInts ?_
  array_get_dec
  by_cases z : p ∈ endsL n as
  · rw [decide_eq_true z]
    exact ite_f rfl h
  · rw [decide_eq_false z]
    refine ite_t rfl (ev_begins_in (n := n) (as := as) (by omega) (by omega) (by omega) (e_inInts ?_))
    array_get_dec
    rw [decide_eq_true (ht.resolve_left z)]
    exact ite_f rfl h
theorem bad_need_turnable (w : WebOk n as) (hp : 0 ≤ p ∧ p < n) (ht : p ∉ endsL n as ∧ p ∉ begL n as) (h : E 2 (.int p)) : m_need_turnable [.d (wD n as), .d (.int p)] R E := by
  have := w.lo; have := w.hi; have := w.len
  rw [q_need_turnable]
  refine ⟨rfl, ?_⟩
  simp only [g_need_turnable]
  array_get_dec
  rw [q_need_at]
  refine ⟨rfl, ?_⟩
  simp only [g_need_at]
  array_get_dec
  refine ev_need_web w ?_
  rw [q_need_place]
  refine ⟨rfl, ?_⟩
  simp only [g_need_place]
  rw [show wD n as = .tuple [.int n, .tuple (as.map aD)] from rfl]
  array_get_dec
  refine ite_f (decide_eq_false (by omega)) (ite_f (decide_eq_false (by omega)) ?_)
  refine ev_ends_in (n := n) (as := as) (by omega) (by omega) (by omega) ?_
  refine e_inInts ?_
  array_get_dec
  rw [decide_eq_false ht.1]
  refine ite_t rfl (ev_begins_in (n := n) (as := as) (by omega) (by omega) (by omega) (e_inInts ?_))
  array_get_dec
  rw [decide_eq_false ht.2]
  exact ite_t rfl h
theorem bad_need_at (w : WebOk n as) (hp : p < 0 ∨ n ≤ p) (h : E 1 (.int p)) : m_need_turnable [.d (wD n as), .d (.int p)] R E := by
  have := w.lo; have := w.hi; have := w.len
  rw [q_need_turnable]
  refine ⟨rfl, ?_⟩
  simp only [g_need_turnable]
  array_get_dec
  rw [q_need_at]
  refine ⟨rfl, ?_⟩
  simp only [g_need_at]
  array_get_dec
  refine ev_need_web w ?_
  rw [q_need_place]
  refine ⟨rfl, ?_⟩
  simp only [g_need_place]
  rw [show wD n as = .tuple [.int n, .tuple (as.map aD)] from rfl]
  array_get_dec
  by_cases z : p < 0
  · exact ite_t (decide_eq_true z) h
  · exact ite_f (decide_eq_false z) (ite_t (decide_eq_true (by omega)) h)
theorem ev_turned_at (w : WebOk n as) (hp : 0 ≤ p ∧ p < n) (ht : p ∈ endsL n as ∨ p ∈ begL n as) (h : R (.d (wD n (as.map (turnA p))))) : m_turned_at [.d (wD n as), .d (.int p)] R E := by
  have := w.len
  rw [q_turned_at]
  refine ⟨rfl, ?_⟩
  simp only [g_turned_at]
  array_get_dec
  exact ev_need_turnable w hp ht (ev_turned_web (by omega) h)
end

local macro_rules | `(tactic| infer_instance) => `(tactic| refine ev_ends (by sizeOf_list_dec) ?_)
local macro_rules | `(tactic| infer_instance) => `(tactic| refine ev_begins (by sizeOf_list_dec) ?_)
local macro_rules | `(tactic| infer_instance) => `(tactic| refine ev_round_of (by sizeOf_list_dec) ?_)
local macro_rules | `(tactic| infer_instance) => `(tactic| refine ev_need_turnable (by sizeOf_list_dec) (by sizeOf_list_dec) (by sizeOf_list_dec) ?_)
local macro_rules | `(tactic| infer_instance) => `(tactic| refine ev_turned_at (by sizeOf_list_dec) (by sizeOf_list_dec) (by sizeOf_list_dec) ?_)

/-! the law's pieces: places reached along arrows and back -/
def nb (as : List Arr) (found : List Int) : List Int := (as.filter fun e => decide (e.1 ∈ found)).map (·.2) ++ (as.filter fun e => decide (e.2 ∈ found)).map (·.1)
def stp (n : Int) (as : List Arr) (found : List Int) : List Int := (irg 0 n).filter fun x => decide (x ∈ found ++ nb as found)
def flood (n : Int) (as : List Arr) (found : List Int) : Nat → List Int
  | 0 => found
  | k + 1 => stp n as (flood n as found k)
theorem mem_nb {as : List Arr} {found : List Int} {x : Int} : x ∈ nb as found ↔ ∃ e ∈ as, (e.1 ∈ found ∧ e.2 = x) ∨ (e.2 ∈ found ∧ e.1 = x) := by
  unfold nb
  rw [List.mem_append, List.mem_map, List.mem_map]
  constructor
  · rintro (⟨e, he, rfl⟩ | ⟨e, he, rfl⟩)
    · obtain ⟨h1, h2⟩ := List.mem_filter.mp he
      exact ⟨e, h1, .inl ⟨of_decide_eq_true h2, rfl⟩⟩
    · obtain ⟨h1, h2⟩ := List.mem_filter.mp he
      exact ⟨e, h1, .inr ⟨of_decide_eq_true h2, rfl⟩⟩
  · rintro ⟨e, he, ⟨h1, rfl⟩ | ⟨h1, rfl⟩⟩
    · exact .inl ⟨e, List.mem_filter.mpr ⟨he, decide_eq_true h1⟩, rfl⟩
    · exact .inr ⟨e, List.mem_filter.mpr ⟨he, decide_eq_true h1⟩, rfl⟩
theorem nb_rng {n : Int} {as : List Arr} (hr : ∀ e ∈ as, (0 ≤ e.1 ∧ e.1 < n) ∧ 0 ≤ e.2 ∧ e.2 < n) {found : List Int} : ∀ x ∈ nb as found, 0 ≤ x ∧ x < n := fun x hx => by
  obtain ⟨e, he, h | h⟩ := mem_nb.mp hx
  · rw [← h.2]; exact (hr e he).2
  · rw [← h.2]; exact (hr e he).1
theorem stp_of {n : Int} {as : List Arr} (hr : ∀ e ∈ as, (0 ≤ e.1 ∧ e.1 < n) ∧ 0 ≤ e.2 ∧ e.2 < n) {found ms : List Int} (hf : ∀ x ∈ found, 0 ≤ x ∧ x < n) (h1 : ms.Pairwise (· < ·)) (h2 : ∀ x, x ∈ ms ↔ x ∈ found ++ nb as found) : ms = stp n as found := by
  refine srt_ext h1 (srt_filter (irg_srt 0 n) _) fun x => ?_
  unfold stp
  rw [List.mem_filter, mem_irg, decide_eq_true_eq, h2]
  refine ⟨fun h => ⟨?_, h⟩, fun h => h.2⟩
  rcases List.mem_append.mp h with h | h
  · exact hf x h
  · exact nb_rng hr x h
theorem stp_rng {n : Int} {as : List Arr} {found : List Int} : ∀ x ∈ stp n as found, 0 ≤ x ∧ x < n := fun x hx => mem_irg.mp (List.mem_filter.mp hx).1
theorem mem_stp {n : Int} {as : List Arr} {found : List Int} {x : Int} : x ∈ stp n as found ↔ (0 ≤ x ∧ x < n) ∧ (x ∈ found ∨ x ∈ nb as found) := by
  unfold stp
  rw [List.mem_filter, mem_irg, decide_eq_true_eq, List.mem_append]
theorem flood_piece {n : Int} {as : List Arr} {L : Int → Int} (ok : Lst n as L) (hr : ∀ e ∈ as, (0 ≤ e.1 ∧ e.1 < n) ∧ 0 ≤ e.2 ∧ e.2 < n) {m : Int} (h0 : 0 ≤ m) (h1 : m < n) (hm : L m = m) : flood n as [m] n.toNat = piece n L m := by
  have rng : ∀ k, ∀ x ∈ flood n as [m] k, 0 ≤ x ∧ x < n := fun k => by
    cases k with
    | zero => intro x hx; rw [List.mem_singleton.mp hx]; exact ⟨h0, h1⟩
    | succ k => exact stp_rng
  have srt : ∀ k, (flood n as [m] k).Pairwise (· < ·) := fun k => by
    cases k with
    | zero => exact List.pairwise_singleton _ _
    | succ k => exact srt_filter (irg_srt 0 n) _
  have incl : ∀ k, ∀ x ∈ flood n as [m] k, L x = m := fun k => by
    induction k with
    | zero => intro x hx; rw [List.mem_singleton.mp hx]; exact hm
    | succ k ih =>
      intro x hx
      rcases (mem_stp.mp hx).2 with hx | hx
      · exact ih x hx
      · obtain ⟨e, he, h | h⟩ := mem_nb.mp hx
        · rw [← h.2, ← ok.eq e he]; exact ih _ h.1
        · rw [← h.2, ok.eq e he]; exact ih _ h.1
  have step : ∀ k, ∀ x ∈ flood n as [m] k, x ∈ flood n as [m] (k + 1) := fun k x hx => mem_stp.mpr ⟨rng k x hx, .inl hx⟩
  have mm : ∀ k, m ∈ flood n as [m] k := fun k => by
    induction k with
    | zero => exact List.mem_singleton.mpr rfl
    | succ k ih => exact step k m ih
  let C : List Int → Prop := fun l => ∀ e ∈ as, e.1 ∈ l ↔ e.2 ∈ l
  have cl : C (flood n as [m] n.toNat) := by
    refine grow_closed (F := flood n as [m]) (C := C) (fun k => srt_len (srt k) (rng k)) (.inr (List.length_pos_of_mem (mm 0))) (fun k hk => ?_) fun k => ?_
    · have e : flood n as [m] (k + 1) = flood n as [m] k := by
        refine srt_ext (srt _) (srt _) fun x => ⟨fun hx => ?_, step k x⟩
        rcases (mem_stp.mp hx).2 with hx | hx
        · exact hx
        · obtain ⟨e, he, h | h⟩ := mem_nb.mp hx
          · rw [← h.2]; exact (hk e he).mp h.1
          · rw [← h.2]; exact (hk e he).mpr h.1
      rw [e]
      exact hk
    · by_cases q : C (flood n as [m] k)
      · exact .inl q
      · obtain ⟨g, q⟩ := Classical.not_forall.mp q
        obtain ⟨hg, q⟩ := Classical.not_imp.mp q
        refine .inr ?_
        by_cases z : g.1 ∈ flood n as [m] k
        · exact sub_lt (srt_nodup (srt k)) (step k) (y := g.2) (mem_stp.mpr ⟨(hr g hg).2, .inr (mem_nb.mpr ⟨g, hg, .inl ⟨z, rfl⟩⟩)⟩) fun w => q ⟨fun _ => w, fun _ => z⟩
        · have z2 : g.2 ∈ flood n as [m] k := Classical.byContradiction fun w => q ⟨fun v => absurd v z, fun v => absurd v w⟩
          exact sub_lt (srt_nodup (srt k)) (step k) (y := g.1) (mem_stp.mpr ⟨(hr g hg).1, .inr (mem_nb.mpr ⟨g, hg, .inr ⟨z2, rfl⟩⟩)⟩) z
  refine srt_ext (srt _) (srt_filter (irg_srt 0 n) _) fun x => ⟨fun hx => ?_, fun hx => ?_⟩
  · exact List.mem_filter.mpr ⟨mem_irg.mpr (rng _ x hx), decide_eq_true (incl _ x hx)⟩
  · obtain ⟨hx, e⟩ := List.mem_filter.mp hx
    obtain ⟨x0, x1⟩ := mem_irg.mp hx
    have e := of_decide_eq_true e
    have c := ok.cn x x0 x1
    rw [e] at c
    exact c.symm (fun y => y ∈ flood n as [m] n.toNat) (mm _) cl


local macro_rules | `(tactic| array_mem_dec) => `(tactic| simp -implicitDefEqProofs -proj only [↓p_gNext, ↓p_gBrk, ↓p_gCnt, ↓p_gSeq, ↓p_gSet, ↓p_gSetN, ↓p_gDrop, ↓p_gRet, ↓p_gIfS, ↓p_gRaise, ↓p_gAsg, ↓p_parS, ↓p_parS3, ↓p_gPar, ↓p_gPar3, ↓p_gApp, ↓p_gSetIx, ↓p_gFor, ↓p_gTry, ↓p_gFrz, ↓p_gParNN, ↓p_gParDN, ↓p_gParND, ↓p_gDropX, ↓p_gSetX, ↓p_gAppX, ↓p_dVar, ↓p_dOwn, ↓p_dC, ↓p_d2, ↓p_d1, ↓p_dN2, ↓p_aNil, ↓p_aCons, ↓p_dTup, ↓p_nLst, ↓p_dCall, ↓p_dCallK, ↓p_dBi, ↓p_tVal, ↓p_tNot, ↓p_tAnd, ↓p_tOr, ↓p_dAnd, ↓p_dOr, ↓p_dNot, ↓p_dIf, ↓p_dChain, ↓p_dSl, ↓p_pNo, ↓p_pAt, ↓p_ofS, ↓p_nOf, ↓p_nRg1, ↓p_iRg, ↓p_iSeq, ↓p_iZp, ↓p_iRv, ↓p_nLc, ↓p_tTrue, ↓p_gNm, ↓p_gTp, ↓p_gTpL, ↓p_gsCons, ↓p_gsNil, ↓p_nSs, ↓p_nSd, ↓p_st0, ↓p_rv0, ↓p_ro0, ↓p_rp0, ↓p_rw0, ↓p_st1, ↓p_rv1, ↓p_ro1, ↓p_rp1, ↓p_rw1, ↓p_st2, ↓p_rv2, ↓p_ro2, ↓p_rp2, ↓p_rw2, ↓p_st3, ↓p_rv3, ↓p_ro3, ↓p_rp3, ↓p_rw3, ↓p_st4, ↓p_rv4, ↓p_ro4, ↓p_rp4, ↓p_rw4, ↓p_st5, ↓p_rv5, ↓p_ro5, ↓p_rp5, ↓p_rw5, ↓p_st6, ↓p_rv6, ↓p_ro6, ↓p_rp6, ↓p_rw6, ↓p_st7, ↓p_rv7, ↓p_ro7, ↓p_rp7, ↓p_rw7, ↓p_st8, ↓p_rv8, ↓p_ro8, ↓p_rp8, ↓p_rw8, ↓p_st9, ↓p_rv9, ↓p_ro9, ↓p_rp9, ↓p_rw9, ↓p_st10, ↓p_rv10, ↓p_ro10, ↓p_rp10, ↓p_rw10, ↓p_st11, ↓p_rv11, ↓p_ro11, ↓p_rp11, ↓p_rw11, ↓p_st12, ↓p_rv12, ↓p_ro12, ↓p_rp12, ↓p_rw12, ↓p_st13, ↓p_rv13, ↓p_ro13, ↓p_rp13, ↓p_rw13, ↓p_st14, ↓p_rv14, ↓p_ro14, ↓p_rp14, ↓p_rw14, ↓p_st15, ↓p_rv15, ↓p_ro15, ↓p_rp15, ↓p_rw15, ↓p_st16, ↓p_rv16, ↓p_ro16, ↓p_rp16, ↓p_rw16, ↓p_st17, ↓p_rv17, ↓p_ro17, ↓p_rp17, ↓p_rw17, ↓p_st18, ↓p_rv18, ↓p_ro18, ↓p_rp18, ↓p_rw18, ↓p_st19, ↓p_rv19, ↓p_ro19, ↓p_rp19, ↓p_rw19, ↓p_st20, ↓p_rv20, ↓p_ro20, ↓p_rp20, ↓p_rw20, ↓p_st21, ↓p_rv21, ↓p_ro21, ↓p_rp21, ↓p_rw21, ↓p_st22, ↓p_rv22, ↓p_ro22, ↓p_rp22, ↓p_rw22, ↓p_st23, ↓p_rv23, ↓p_ro23, ↓p_rp23, ↓p_rw23, ↓p_st24, ↓p_rv24, ↓p_ro24, ↓p_rp24, ↓p_rw24, ↓p_st25, ↓p_rv25, ↓p_ro25, ↓p_rp25, ↓p_rw25, ↓e_onD, ↓e_onB, ↓e_onI, ↓e_slV, ↓e_slO, ↓e_slOo, ↓e_slOw, ↓e_gI, ↓e_gI0, ↓e_add, ↓e_mul, ↓e_mulL, ↓e_neg, ↓e_ixL, ↓e_ixT, ↓e_ixS, ↓e_isi, ↓e_isN, ↓e_notN, ↓e_isNe, ↓e_isNi, ↓e_isNb, ↓e_isNl, ↓e_isNt, ↓e_isNs, ↓e_lenL, ↓e_lenT, ↓e_lenS, ↓e_abs, ↓e_int, ↓e_intB, ↓e_max, ↓e_min, ↓e_gcd, ↓e_tupL, ↓e_tupT, ↓e_repr, ↓e_sum, ↓e_all, ↓e_any, ↓e_allN, ↓e_allC, ↓e_seqL, ↓e_seqT, ↓e_seqS, ↓e_rg1, ↓e_rg2, ↓e_excN, ↓e_excE, ↓e_val, ↓e_at0, ↓e_at1, ↓e_at2, ↓e_ixn0, ↓e_ixn1, ↓e_ixn2, ↓e_ex, ↓e_zp, ↓e_slT, ↓e_slL, ↓e_max1, ↓e_min1, ↓e_addT, ↓e_addL, ↓e_addS, ↓e_mulT, ↓e_eqN, ↓e_neN, ↓e_eqNT, ↓e_neNT, ↓e_siL, ↓e_siT, ↓e_inL, ↓e_ninL, ↓e_inT, ↓e_ninT, ↓e_eqI, ↓e_neI, ↓e_neS, ↓e_nx, ↓e_rt, ↓e_bk, ↓e_ct, ↓e_exc, e_onD, e_onB, e_onI, e_slV, e_slO, e_slOo, e_slOw, e_gI, e_gI0, e_add, e_mul, e_mulL, e_neg, e_ixL, e_ixT, e_ixS, e_isi, e_isN, e_notN, e_isNe, e_isNi, e_isNb, e_isNl, e_isNt, e_isNs, e_lenL, e_lenT, e_lenS, e_abs, e_int, e_intB, e_max, e_min, e_gcd, e_tupL, e_tupT, e_repr, e_sum, e_all, e_any, e_allN, e_allC, e_seqL, e_seqT, e_seqS, e_rg1, e_rg2, e_excN, e_excE, e_val, e_at0, e_at1, e_at2, e_ixn0, e_ixn1, e_ixn2, e_ex, e_zp, e_slT, e_slL, e_max1, e_min1, e_addT, e_addL, e_addS, e_mulT, e_eqN, e_neN, e_eqNT, e_neNT, e_siL, e_siT, e_inL, e_ninL, e_inT, e_ninT, e_eqI, e_neI, e_neS, e_nx, e_rt, e_bk, e_ct, e_exc, e_set0, e_set1, e_set2, e_set3, e_set4, e_set5, e_set6, e_set7, e_set8, e_set9, e_set10, e_set11, e_set12, e_set13, e_set14, e_set15, e_set16, e_set17, e_set18, e_set19, e_set20, e_set21, e_set22, e_set23, e_set24, e_set25, wipeD, List.replicate, List.cons_append, List.nil_append, List.map_cons, List.map_nil, fnB, ↓reduceIte, Bool.false_eq_true, Bool.not_true, Bool.not_false, List.length_cons, List.length_nil, Nat.zero_add, Nat.reduceAdd, Nat.reduceLeDiff, true_and, ↓px_0, ↓px_10, ↓px_01, e_mapA, e_mapS, e_ifN, e_ifA, e_ifO, e_cutM, e_flatM, e_anyM, e_allM, e_ifAP, e_ifOP, e_lcNil, e_lcC, e_asB1, e_asB2, e_asB3, e_asB4, e_asB5, e_asB6, e_asI1, e_asI2, e_asI3, e_asI4, e_asI5, e_asI6, List.all_cons, List.all_nil, List.any_cons, List.any_nil, Bool.and_true, Bool.or_false, List.sum_cons, List.sum_nil, t_int_int, t_int_bool, t_int_tuple, t_int_list, t_int_str, t_bool_int, t_bool_bool, t_bool_tuple, t_bool_list, t_bool_str, t_none_int, t_none_bool, t_none_tuple, t_none_list, t_none_str, t_str_int, t_str_bool, t_str_tuple, t_str_list, t_str_str, t_list_int, t_list_bool, t_list_tuple, t_list_list, t_list_str, t_tuple_int, t_tuple_bool, t_tuple_tuple, t_tuple_list, t_tuple_str, e_liI, e_liN, asInts_map, asBools_map, rngD_irg, List.map_id', List.map_id_fun', id_eq, Int.sub_zero, Bool.not_not, aD, wD, pD, tInt])
/-! _law_pieces -/
def lef (n : Int) (L : Int → Int) (D : List Int) : List Int := (irg 0 n).filter fun x => !decide (L x ∈ D)
theorem root_of {n : Int} {as : List Arr} {L : Int → Int} (ok : Lst n as L) {x : Int} (h0 : 0 ≤ x) (h1 : x < n) : L x ∈ roots n L := by
  have l := ok.le x h0 h1
  exact List.mem_filter.mpr ⟨mem_irg.mpr ⟨l.1, by omega⟩, decide_eq_true (ok.idem h0 h1)⟩
theorem lef_nil {n : Int} {as : List Arr} {L : Int → Int} (ok : Lst n as L) : lef n L (roots n L) = [] := by
  unfold lef
  rw [List.filter_eq_nil_iff]
  intro x hx
  obtain ⟨x0, x1⟩ := mem_irg.mp hx
  simp [root_of ok x0 x1]
/-- the first place left is the next root -/
theorem lef_cons {n : Int} {as : List Arr} {L : Int → Int} (ok : Lst n as L) {D rest : List Int} {r : Int} (h : roots n L = D ++ r :: rest) : ∃ l, lef n L D = r :: l := by
  have sr : (roots n L).Pairwise (· < ·) := srt_filter (irg_srt 0 n) _
  rw [h] at sr
  have s2 := (List.pairwise_append.mp sr)
  have hr : r ∈ roots n L := by rw [h]; simp
  obtain ⟨hr1, hr2⟩ := List.mem_filter.mp hr
  have hr2 := of_decide_eq_true hr2
  have nD : r ∉ D := fun z => by
    have := s2.2.2 r z r (by simp)
    omega
  have hl : r ∈ lef n L D := List.mem_filter.mpr ⟨hr1, by rw [hr2]; simp [nD]⟩
  have sl : (lef n L D).Pairwise (· < ·) := srt_filter (irg_srt 0 n) _
  cases q : lef n L D with
  | nil => rw [q] at hl; cases hl
  | cons x l =>
    rw [q] at hl sl
    have hx : x ∈ lef n L D := by rw [q]; simp
    obtain ⟨hx1, hx2⟩ := List.mem_filter.mp hx
    obtain ⟨x0, x1⟩ := mem_irg.mp hx1
    have hx2 : L x ∉ D := by simpa using hx2
    have hLx := root_of ok x0 x1
    rw [h] at hLx
    have ge : r ≤ L x := by
      rcases List.mem_append.mp hLx with z | z
      · exact absurd z hx2
      · rcases List.mem_cons.mp z with z | z
        · omega
        · have := (List.pairwise_cons.mp s2.2.1).1 (L x) z
          omega
    have := (ok.le x x0 x1).2
    rcases List.mem_cons.mp hl with z | z
    · exact ⟨l, by rw [z]⟩
    · have := (List.pairwise_cons.mp sl).1 r z
      omega
theorem lef_next {n : Int} {L : Int → Int} {D : List Int} {r : Int} : (lef n L D).filter (fun x => !decide (x ∈ piece n L r)) = lef n L (D ++ [r]) := by
  unfold lef
  rw [List.filter_filter]
  refine List.filter_congr fun x hx => ?_
  have : x ∈ piece n L r ↔ L x = r := by
    unfold piece
    rw [List.mem_filter]
    simp [hx]
  by_cases a : L x = r <;> by_cases b : L x ∈ D <;> simp [this, a, b]
  all_goals (try rw [a] at b; try simp_all)
theorem flood_step {n : Int} {as : List Arr} (hr : ∀ e ∈ as, (0 ≤ e.1 ∧ e.1 < n) ∧ 0 ≤ e.2 ∧ e.2 < n) (hn : n ≤ 9) (ha : as.length ≤ 12) {D : DEnds} {s1 s2 s4 s5 s6 s7 s8 : Sl} {found : List Int} (hf : ∀ x ∈ found, 0 ≤ x ∧ x < n) (hl : found.length ≤ 20)
    (h : ∀ s5, D.nx [.v (.d (wD n as)), s1, s2, .v (.d (.list ((stp n as found).map .int))), s4, s5, s6, s7, s8]) :
    g__law_pieces_b0 D [.v (.d (wD n as)), s1, s2, .v (.d (.list (found.map .int))), s4, s5, s6, s7, s8] := by
  simp only [g__law_pieces_b0, wD]
  bv_omega
  intro ms m1 m2
  rw [stp_of hr hf m1 fun x => (m2 x).trans (by unfold nb; rfl)]
  exact h _
theorem law_flood {D : DEnds} {n : Int} {as : List Arr} (hr : ∀ e ∈ as, (0 ≤ e.1 ∧ e.1 < n) ∧ 0 ≤ e.2 ∧ e.2 < n) (hn : n ≤ 9) (ha : as.length ≤ 12) {s1 s2 s6 s7 s8 : Sl} : ∀ (l : List PD) (found : List Int) (s4 s5 : Sl), (∀ x ∈ found, 0 ≤ x ∧ x < n) → found.length ≤ 20 →
    (∀ s4 s5, D.nx [.v (.d (wD n as)), s1, s2, .v (.d (.list ((flood n as found l.length).map .int))), s4, s5, s6, s7, s8]) →
    loopD (gNm 4) g__law_pieces_b0 D l [.v (.d (wD n as)), s1, s2, .v (.d (.list (found.map .int))), s4, s5, s6, s7, s8]
  | [], found, s4, s5, hf, hl, h => h _ _
  | x :: l, found, s4, s5, hf, hl, h => by
    unfold loopD
    array_get_dec
    refine flood_step hr hn ha hf hl fun s5 => law_flood hr hn ha l (stp n as found) _ _ stp_rng ?_ fun s4 s5 => ?_
    · unfold stp
      exact Nat.le_trans (List.length_filter_le _ _) (by rw [irg_len]; omega)
    · have e : ∀ k, flood n as (stp n as found) k = flood n as found (k + 1) := fun k => by
        induction k with
        | zero => rfl
        | succ k ih => show stp n as _ = stp n as _; rw [ih]
      rw [e]
      exact h _ _
theorem law_piece {D : DEnds} {n : Int} {as : List Arr} (w : WebOk n as) {s3 s4 s5 s6 s7 s8 : Sl} {Dn rest : List Int} {r : Int} (hR : roots n (lst n as) = Dn ++ r :: rest)
    (h : ∀ s3 s4 s5, D.nx [.v (.d (wD n as)), .v (.d (.list ((lef n (lst n as) (Dn ++ [r])).map .int))), .own ((Dn ++ [r]).map fun m => tInt (piece n (lst n as) m)), s3, s4, s5, s6, s7, s8]) :
    g__law_pieces_b1 D [.v (.d (wD n as)), .v (.d (.list ((lef n (lst n as) Dn).map .int))), .own (Dn.map fun m => tInt (piece n (lst n as) m)), s3, s4, s5, s6, s7, s8] := by
  have ok := lst_ok w
  have hn := w.hi
  have h1 := w.lo
  have ha := w.len
  have hr : ∀ e ∈ as, (0 ≤ e.1 ∧ e.1 < n) ∧ 0 ≤ e.2 ∧ e.2 < n := fun e he => ⟨⟨(w.rng e he).1, (w.rng e he).2.1⟩, (w.rng e he).2.2.1, (w.rng e he).2.2.2.1⟩
  obtain ⟨l, hl⟩ := lef_cons ok hR
  have hr1 : r ∈ roots n (lst n as) := by rw [hR]; simp
  obtain ⟨hr1, hr2⟩ := List.mem_filter.mp hr1
  obtain ⟨r0, r1⟩ := mem_irg.mp hr1
  have hr2 := of_decide_eq_true hr2
  have hD : Dn.length ≤ 9 := by
    have : (roots n (lst n as)).length ≤ 9 := by unfold roots; exact Nat.le_trans (List.length_filter_le _ _) (by rw [irg_len]; omega)
    rw [hR, List.length_append] at this
    omega
  have hg : (lef n (lst n as) Dn).getD (Int.toNat 0) default = r := by rw [hl]; rfl
  have hp : (piece n (lst n as) r).length ≤ 9 := by unfold piece; exact Nat.le_trans (List.length_filter_le _ _) (by rw [irg_len]; omega)
  have hl9 : (lef n (lst n as) Dn).length ≤ 9 := by unfold lef; exact Nat.le_trans (List.length_filter_le _ _) (by rw [irg_len]; omega)
  have hl0 : 0 < (lef n (lst n as) Dn).length := by rw [hl]; simp
  simp only [g__law_pieces_b1]
  rw [show wD n as = .tuple [.int n, .tuple (as.map aD)] from rfl]
  bv_omega
  rw [hg, show Sl.v (.d (.list [.int r])) = Sl.v (.d (.list (([r] : List Int).map .int))) from rfl]
  refine law_flood hr hn ha _ [r] _ _ (fun x hx => by rw [List.mem_singleton.mp hx]; exact ⟨r0, r1⟩) (by simp) fun s4 s5 => ?_
  rw [List.length_map, irg_len, Int.sub_zero, flood_piece ok hr r0 r1 hr2, show wD n as = .tuple [.int n, .tuple (as.map aD)] from rfl]
  bv_omega
  rw [lef_next]
  exact h _ _ _
theorem ev_law_pieces {n : Int} {as : List Arr} {R : DV → Prop} {E : EK} (w : WebOk n as) (h : R (.d (psD n as))) : m__law_pieces [.d (wD n as)] R E := by
  have ok := lst_ok w
  have hn := w.hi
  have h1 := w.lo
  have hl9 : ∀ D, (lef n (lst n as) D).length ≤ 9 := fun D => by unfold lef; exact Nat.le_trans (List.length_filter_le _ _) (by rw [irg_len]; omega)
  rw [q__law_pieces]
  refine ⟨rfl, ?_⟩
  simp only [g__law_pieces, wD]
  bv_omega
  have e0 : irg 0 n = lef n (lst n as) [] := (List.filter_eq_self.mpr (by simp)).symm
  refine ⟨fun (m : Nat) (ρ : List Sl) => ∃ Dn rest s3 s4 s5, roots n (lst n as) = Dn ++ rest ∧ rest.length = m ∧
    ρ = [Sl.v (.d (wD n as)), .v (.d (.list ((lef n (lst n as) Dn).map .int))), .own (Dn.map fun m => tInt (piece n (lst n as) m)), s3, s4, s5, .no, .no, .no],
    ⟨_, [], roots n (lst n as), .no, .no, .no, rfl, rfl, by rw [e0]; rfl⟩, ?_⟩
  rintro m ρ ⟨Dn, rest, s3, s4, s5, hR, rfl, rfl⟩
  array_get_dec
  refine ⟨sh_ints _, ?_⟩
  rw [isEmpty_map]
  cases rest with
  | nil =>
    rw [List.append_nil] at hR
    rw [← hR, lef_nil ok]
    refine ite_f rfl ?_
    have hl : (roots n (lst n as)).length ≤ 9 := by unfold roots; exact Nat.le_trans (List.length_filter_le _ _) (by rw [irg_len]; omega)
    array_get_dec
    have e : (roots n (lst n as)).map (fun m => tInt (piece n (lst n as) m)) = (pcs n (lst n as)).map fun l => .tuple (l.map .int) := by unfold pcs; rw [List.map_map]; rfl
    rw [e]
    exact h
  | cons r rest =>
    obtain ⟨l, hl⟩ := lef_cons ok hR
    rw [hl]
    refine ite_t rfl ?_
    rw [← hl]
    exact law_piece w hR fun s3 s4 s5 => ⟨rest.length, by rw [List.length_cons]; omega, Dn ++ [r], rest, s3, s4, s5, by rw [hR]; simp, rfl, rfl⟩
local macro_rules | `(tactic| infer_instance) => `(tactic| refine ev_law_pieces (by sizeOf_list_dec) ?_)

/-! when all places stand in the round: no place leads back to itself -/
def Rch (as : List Arr) (p x : Int) : Prop := ∀ P : Int → Prop, (∀ e ∈ as, e.1 = p → P e.2) → (∀ e ∈ as, P e.1 → P e.2) → P x
theorem Rch.arr {as : List Arr} {e : Arr} (he : e ∈ as) : Rch as e.1 e.2 := fun _ h _ => h e he rfl
theorem Rch.step {as : List Arr} {p : Int} {e : Arr} (h : Rch as p e.1) (he : e ∈ as) : Rch as p e.2 := fun P q r => r e he (h P q r)
theorem acy_no {as : List Arr} (h : Acy as) (p : Int) : ¬ Rch as p p := fun r => by
  obtain ⟨f, hf⟩ := h
  have := r (fun x => f p < f x) (fun e he q => by rw [← q]; exact hf e he) fun e he q => by have := hf e he; omega
  omega
open Classical in
theorem no_acy {n : Int} {as : List Arr} (hr : ∀ e ∈ as, (0 ≤ e.1 ∧ e.1 < n) ∧ 0 ≤ e.2 ∧ e.2 < n) (h : ∀ p, 0 ≤ p → p < n → ¬ Rch as p p) : Acy as := by
  refine ⟨fun p => (((irg 0 n).filter fun q => decide (Rch as q p)).length : Int), fun e he => ?_⟩
  have r := hr e he
  have := sub_lt (l := (irg 0 n).filter fun q => decide (Rch as q e.1)) (k := (irg 0 n).filter fun q => decide (Rch as q e.2)) ((irg_nodup 0 n).filter _) (y := e.1)
    (fun x hx => by
      obtain ⟨h1, h2⟩ := List.mem_filter.mp hx
      exact List.mem_filter.mpr ⟨h1, decide_eq_true (Rch.step (of_decide_eq_true h2) he)⟩)
    (List.mem_filter.mpr ⟨mem_irg.mpr r.1, decide_eq_true (Rch.arr he)⟩)
    (fun hx => h e.1 r.1.1 r.1.2 (of_decide_eq_true (List.mem_filter.mp hx).2))
  show ((_ : Nat) : Int) < ((_ : Nat) : Int)
  omega
theorem rndL_ord {n : Int} {as : List Arr} : ∀ (k : Nat) (found : List Int), found.Nodup → (∀ i ∈ found, 0 ≤ i ∧ i < n) → (∀ e ∈ as, e.1 ∈ found → e.2 ∈ found ∧ found.idxOf e.2 < found.idxOf e.1) →
    (rndL n as k found).Nodup ∧ (∀ i ∈ rndL n as k found, 0 ≤ i ∧ i < n) ∧ ∀ e ∈ as, e.1 ∈ rndL n as k found → (rndL n as k found).idxOf e.2 < (rndL n as k found).idxOf e.1
  | 0, found, h1, h2, h3 => ⟨h1, h2, fun e he q => (h3 e he q).2⟩
  | k + 1, found, h1, h2, h3 => by
    unfold rndL
    cases q : cand n as found with
    | nil => exact ⟨h1, h2, fun e he q => (h3 e he q).2⟩
    | cons c r =>
      have hc : c ∈ cand n as found := by rw [q]; simp
      obtain ⟨c1, c2, c3⟩ := mem_cand.mp hc
      refine rndL_ord k (found ++ [c]) ?_ (fun i hi => ?_) fun e he hm => ?_
      · rw [List.nodup_append]
        exact ⟨h1, by simp, fun a ha b hb => by
          simp at hb
          rw [hb]
          exact fun e => c2 (e ▸ ha)⟩
      · rcases List.mem_append.mp hi with hi | hi
        · exact h2 i hi
        · simp at hi
          rw [hi]
          exact c1
      · by_cases z : e.1 ∈ found
        · obtain ⟨y1, y2⟩ := h3 e he z
          exact ⟨by simp [y1], by rw [List.idxOf_append, if_pos y1, List.idxOf_append, if_pos z]; exact y2⟩
        · have ec : e.1 = c := by
            rcases List.mem_append.mp hm with hm | hm
            · exact absurd hm z
            · exact List.mem_singleton.mp hm
          have y1 := c3 e he ec
          refine ⟨by simp [y1], ?_⟩
          rw [List.idxOf_append, if_pos y1, List.idxOf_append, if_neg z]
          have := List.idxOf_lt_length_of_mem y1
          omega
theorem rnd_acy {n : Int} {as : List Arr} (hr : ∀ e ∈ as, (0 ≤ e.1 ∧ e.1 < n) ∧ 0 ≤ e.2 ∧ e.2 < n) (h : ((rnd n as).length : Int) = n) : Acy as := by
  obtain ⟨h1, h2, h3⟩ := rndL_ord (n := n) (as := as) n.toNat [] List.nodup_nil (by simp) (by simp)
  have all : ∀ p, 0 ≤ p → p < n → p ∈ rnd n as := fun p p0 p1 => Classical.byContradiction fun q => by
    have := sub_lt h1 (k := irg 0 n) (fun x hx => mem_irg.mpr (h2 x hx)) (y := p) (mem_irg.mpr ⟨p0, p1⟩) q
    rw [irg_len] at this
    unfold rnd at h
    omega
  refine ⟨fun p => - ((rnd n as).idxOf p : Int), fun e he => ?_⟩
  have := h3 e he (all e.1 (hr e he).1.1 (hr e he).1.2)
  show - (((rnd n as).idxOf e.1 : Nat) : Int) < - (((rnd n as).idxOf e.2 : Nat) : Int)
  unfold rnd
  omega
theorem rnd_iff {n : Int} {as : List Arr} (h0 : 0 ≤ n) (hr : ∀ e ∈ as, (0 ≤ e.1 ∧ e.1 < n) ∧ 0 ≤ e.2 ∧ e.2 < n) : ((rnd n as).length : Int) = n ↔ ∀ p, 0 ≤ p → p < n → ¬ Rch as p p :=
  ⟨fun h p _ _ => acy_no (rnd_acy hr h) p, fun h => by
    have := (rndL_ok (fun x hx => (hr x hx).2) (no_acy hr h) n.toNat [] List.nodup_nil (by simp) (by simp)).2.2
    unfold rnd
    omega⟩
/-! what the law reaches from a place -/
def rstp (n : Int) (as : List Arr) (f : List Int) : List Int := (irg 0 n).filter fun x => decide (x ∈ f ++ (as.filter fun e => decide (e.1 ∈ f)).map (·.2))
def rgrow (n : Int) (as : List Arr) (f : List Int) : Nat → List Int
  | 0 => f
  | k + 1 => rgrow n as (rstp n as f) k
def rch0 (as : List Arr) (p : Int) : List Int := (as.filter fun e => decide (e.1 = p)).map (·.2)
theorem mem_rstp {n : Int} {as : List Arr} {f : List Int} {x : Int} : x ∈ rstp n as f ↔ (0 ≤ x ∧ x < n) ∧ (x ∈ f ∨ ∃ e ∈ as, e.1 ∈ f ∧ e.2 = x) := by
  unfold rstp
  rw [List.mem_filter, mem_irg, decide_eq_true_eq, List.mem_append, List.mem_map]
  refine and_congr_right fun _ => or_congr_right ⟨?_, ?_⟩
  · rintro ⟨e, he, q⟩
    obtain ⟨h1, h2⟩ := List.mem_filter.mp he
    exact ⟨e, h1, of_decide_eq_true h2, q⟩
  · rintro ⟨e, he, h1, q⟩
    exact ⟨e, List.mem_filter.mpr ⟨he, decide_eq_true h1⟩, q⟩
theorem rgrow_succ (n : Int) (as : List Arr) : ∀ (k : Nat) (f : List Int), rgrow n as f (k + 1) = rstp n as (rgrow n as f k)
  | 0, _ => rfl
  | k + 1, f => rgrow_succ n as k (rstp n as f)
theorem rgrow_mem {n : Int} {as : List Arr} (hr : ∀ e ∈ as, (0 ≤ e.1 ∧ e.1 < n) ∧ 0 ≤ e.2 ∧ e.2 < n) (h1 : 1 ≤ n) (p x : Int) : x ∈ rgrow n as (rch0 as p) n.toNat ↔ Rch as p x := by
  -- as sets without what stands twice
  let F : Nat → List Int := fun k => (irg 0 n).filter fun x => decide (x ∈ rgrow n as (rch0 as p) k)
  have r0 : ∀ x ∈ rch0 as p, 0 ≤ x ∧ x < n := fun x hx => by
    obtain ⟨e, he, rfl⟩ := List.mem_map.mp hx
    exact (hr e (List.mem_filter.mp he).1).2
  have rg : ∀ k, ∀ x ∈ rgrow n as (rch0 as p) k, 0 ≤ x ∧ x < n := fun k => by
    cases k with
    | zero => exact r0
    | succ k => intro x hx; rw [rgrow_succ] at hx; exact (mem_rstp.mp hx).1
  have mF : ∀ k x, x ∈ F k ↔ x ∈ rgrow n as (rch0 as p) k := fun k x => by
    show x ∈ (irg 0 n).filter _ ↔ _
    rw [List.mem_filter, mem_irg, decide_eq_true_eq]
    exact ⟨fun h => h.2, fun h => ⟨rg k x h, h⟩⟩
  have step : ∀ k x, x ∈ F k → x ∈ F (k + 1) := fun k x hx => by
    have hx := (mF k x).mp hx
    rw [mF, rgrow_succ]
    exact mem_rstp.mpr ⟨rg k x hx, .inl hx⟩
  have nxt : ∀ k, ∀ e ∈ as, e.1 ∈ F k → e.2 ∈ F (k + 1) := fun k e he h => by
    rw [mF, rgrow_succ]
    exact mem_rstp.mpr ⟨(hr e he).2, .inr ⟨e, he, (mF _ _).mp h, rfl⟩⟩
  let C : List Int → Prop := fun l => ∀ e ∈ as, e.1 ∈ l → e.2 ∈ l
  have cl : C (F n.toNat) := by
    refine grow_closed (F := F) (C := C) (fun k => ?_) ?_ (fun k hk e he h => ?_) fun k => ?_
    · refine Nat.le_trans (List.length_filter_le _ _) ?_
      rw [irg_len]
      omega
    · cases q : F 0 with
      | nil => exact .inl fun e he h => by cases h
      | cons a l => exact .inr (by simp)
    · have : e.1 ∈ F k := by
        have h := (mF _ _).mp h
        rw [rgrow_succ] at h
        rcases (mem_rstp.mp h).2 with h | ⟨g, hg, h2, h3⟩
        · exact (mF _ _).mpr h
        · rw [← h3]
          exact hk g hg ((mF _ _).mpr h2)
      exact step k _ (hk e he this)
    · by_cases q : C (F k)
      · exact .inl q
      · obtain ⟨g, q⟩ := Classical.not_forall.mp q
        obtain ⟨hg, q⟩ := Classical.not_imp.mp q
        obtain ⟨q1, q2⟩ := Classical.not_imp.mp q
        exact .inr (sub_lt ((irg_nodup 0 n).filter _) (step k) (nxt k g hg q1) q2)
  have incl : ∀ k x, x ∈ F k → Rch as p x := fun k => by
    induction k with
    | zero =>
      intro x hx
      obtain ⟨e, he, rfl⟩ := List.mem_map.mp ((mF 0 x).mp hx)
      obtain ⟨h1, h2⟩ := List.mem_filter.mp he
      rw [← of_decide_eq_true h2]
      exact Rch.arr h1
    | succ k ih =>
      intro x hx
      have hx := (mF _ x).mp hx
      rw [rgrow_succ] at hx
      rcases (mem_rstp.mp hx).2 with h | ⟨g, hg, h2, h3⟩
      · exact ih x ((mF _ _).mpr h)
      · rw [← h3]
        exact Rch.step (ih _ ((mF _ _).mpr h2)) hg
  have st0 : ∀ k, ∀ x ∈ rch0 as p, x ∈ F k := fun k => by
    induction k with
    | zero => intro x hx; exact (mF _ _).mpr hx
    | succ k ih => intro x hx; exact step k x (ih x hx)
  rw [← mF]
  refine ⟨incl _ x, fun h => h (fun y => y ∈ F n.toNat) (fun e he q => st0 _ _ ?_) cl⟩
  exact List.mem_map.mpr ⟨e, List.mem_filter.mpr ⟨he, decide_eq_true q⟩, rfl⟩


/-! is_web of any object near to a web, both ways -/
theorem ev_law_is_count {x : PD} {lo hi : Int} {R : DV → Prop} {E : EK} (h : R (.d (.bool (isBtw lo hi x)))) : m__law_is_count [.d x, .d (.int lo), .d (.int hi)] R E := by
  rw [q__law_is_count]
  refine ⟨rfl, ?_⟩
  simp only [g__law_is_count]
  cases x <;> (bv_omega; try exact h)
local macro_rules | `(tactic| infer_instance) => `(tactic| refine ev_law_is_count  ?_)
theorem ev_law_reached {n p : Int} {as : List Arr} {R : DV → Prop} {E : EK} (hr : ∀ e ∈ as, (0 ≤ e.1 ∧ e.1 < n) ∧ 0 ≤ e.2 ∧ e.2 < n) (h1 : 1 ≤ n) (hn : n ≤ 9) (ha : as.length ≤ 12)
    (h : R (.d (.list ((rgrow n as (rch0 as p) n.toNat).map .int)))) : m__law_reached [.d (.int n), .d (.tuple (as.map aD)), .d (.int p)] R E := by
  rw [q__law_reached]
  refine ⟨rfl, ?_⟩
  simp only [g__law_reached]
  bv_omega
  have e : ∀ (k : Nat) f, Nat.repeat (rstp n as) k f = rgrow n as f k := fun k => by
    induction k with
    | zero => intro f; rfl
    | succ k ih => intro f; rw [rgrow_succ, ← ih]; rfl
  refine loopD_n (σ := List Int) (J := Sl) (fun f j => [.v (.d (.int n)), .v (.d (.tuple (as.map aD))), .v (.d (.int p)), .v (.d (.list (f.map .int))), j, .no, .no]) (rstp n as) (fun _ f => (∀ x ∈ f, 0 ≤ x ∧ x < n) ∧ f.length ≤ 20) (fun x k f j P hI hP => ?_) (fun k f _ => ⟨fun x hx => (mem_rstp.mp hx).1, ?_⟩) _ (rch0 as p) .no ⟨fun x hx => ?_, ?_⟩ fun _ j => ?_
  · obtain ⟨hf, hl⟩ := hI
    simp only [g__law_reached_b0]
    bv_omega
    intro ms m1 m2
    have : ms = rstp n as f := srt_ext m1 (srt_filter (irg_srt 0 n) _) fun x => by
      rw [m2 x]
      unfold rstp
      rw [List.mem_filter, mem_irg, decide_eq_true_eq]
      refine ⟨fun h => ⟨?_, h⟩, fun h => h.2⟩
      rcases List.mem_append.mp h with h | h
      · exact hf x h
      · obtain ⟨e, he, rfl⟩ := List.mem_map.mp h
        exact (hr e (List.mem_filter.mp he).1).2
    rw [this]
    exact hP _
  · unfold rstp
    exact Nat.le_trans (List.length_filter_le _ _) (by rw [irg_len]; omega)
  · obtain ⟨e, he, rfl⟩ := List.mem_map.mp hx
    exact (hr e (List.mem_filter.mp he).1).2
  · unfold rch0
    rw [List.length_map]
    exact Nat.le_trans (List.length_filter_le _ _) (by omega)
  · rw [e, List.length_map, irg_len, Int.sub_zero]
    bv_omega
    exact h
local macro_rules | `(tactic| infer_instance) => `(tactic| refine ev_law_reached (by sizeOf_list_dec) (by sizeOf_list_dec) (by sizeOf_list_dec) (by sizeOf_list_dec) ?_)
/-- arrows, and what stands among them in an object near to a web -/
inductive KA where
  | ar (e : Arr)
  | three
  | bl
def kaD : KA → PD
  | .ar e => aD e
  | .three => .tuple [.int 0, .int 1, .int 0]
  | .bl => .tuple [.int 0, .bool true]
def kaB (n : Int) : KA → Bool
  | .ar e => arrOk n e
  | _ => false
theorem ev_is_arrow_k {n : Int} {k : KA} {R : DV → Prop} {E : EK} (h : R (.d (.bool (kaB n k)))) : m_is_arrow [.d (.int n), .d (kaD k)] R E := by
  cases k with
  | ar e => exact ev_is_arrow h
  | three =>
    rw [q_is_arrow]
    refine ⟨rfl, ?_⟩
    simp only [g_is_arrow, kaD]
    bv_omega
    exact h
  | bl =>
    rw [q_is_arrow]
    refine ⟨rfl, ?_⟩
    simp only [g_is_arrow, kaD]
    bv_omega
    by_cases z : isBtw 0 (n - 1) (.int 0) = true
    · rw [z]
      bv_omega
      exact h
    · rw [Bool.eq_false_iff.mpr z]
      bv_omega
      exact h
local macro_rules | `(tactic| infer_instance) => `(tactic| refine ev_is_arrow_k  ?_)
def arsOf : List KA → List Arr
  | [] => []
  | .ar e :: l => e :: arsOf l
  | _ :: l => arsOf l
theorem arsOf_map {n : Int} : ∀ {l : List KA}, l.all (kaB n) = true → l.map kaD = (arsOf l).map aD ∧ (∀ e ∈ arsOf l, arrOk n e = true) ∧ (arsOf l).length = l.length
  | [], _ => ⟨rfl, fun e he => (by cases he), rfl⟩
  | .ar e :: l, h => by
    rw [List.all_cons, Bool.and_eq_true] at h
    obtain ⟨h1, h2, h3⟩ := arsOf_map h.2
    refine ⟨by rw [List.map_cons, h1]; rfl, fun g hg => ?_, by show (e :: arsOf l).length = _; rw [List.length_cons, h3]; rfl⟩
    rcases List.mem_cons.mp hg with rfl | hg
    · exact h.1
    · exact h2 g hg
  | .three :: l, h => by
    rw [List.all_cons, Bool.and_eq_true] at h
    exact absurd h.1 (by simp [kaB])
  | .bl :: l, h => by
    rw [List.all_cons, Bool.and_eq_true] at h
    exact absurd h.1 (by simp [kaB])
theorem arrOk_rng {n : Int} {e : Arr} (h : arrOk n e = true) : ((0 ≤ e.1 ∧ e.1 < n) ∧ 0 ≤ e.2 ∧ e.2 < n) ∧ e.1 ≠ e.2 := by
  unfold arrOk at h
  simp only [Bool.and_eq_true, decide_eq_true_eq, Bool.not_eq_true', decide_eq_false_iff_not] at h
  exact ⟨⟨⟨h.1.1, by omega⟩, h.2.1.1, by omega⟩, h.2.2⟩
def kwD (n : Int) (l : List KA) : PD := .tuple [.int n, .tuple (l.map kaD)]
/-- whether it is a web -/
def kwB (n : Int) (l : List KA) : Bool := decide (1 ≤ n) && (decide (n ≤ 9) && (decide (l.length ≤ 12) && (l.all (kaB n) && decide (((rnd n (arsOf l)).length : Int) = n))))
theorem isTup_map {α : Type} {f : α → PD} {l : List α} {k : Int} : isTup 0 k (.tuple (l.map f)) = decide ((l.length : Int) ≤ k) := by
  show (decide (0 ≤ (((l.map f).length : Nat) : Int)) && decide (((l.map f).length : Int) ≤ k)) = _
  rw [List.length_map]
  simp
/-- a tuple of two, the first one an int, the second one a tuple of such -/
theorem ev_is_web_k {n : Int} {l : List KA} {R : DV → Prop} {E : EK} (hl : l.length ≤ 1000) (h : R (.d (.bool (kwB n l)))) : m_is_web [.d (kwD n l)] R E := by
  rw [q_is_web]
  refine ⟨rfl, ?_⟩
  simp only [g_is_web, kwD]
  bv_omega
  unfold kwB at h
  rw [show isBtw 1 9 (.int n) = (decide (1 ≤ n) && decide (n ≤ 9)) from rfl]
  by_cases z1 : 1 ≤ n
  case neg => rw [decide_eq_false z1] at h ⊢; exact h
  by_cases z2 : n ≤ 9
  case neg => rw [decide_eq_false z2] at h ⊢; rw [decide_eq_true z1] at h ⊢; exact h
  rw [decide_eq_true z1, decide_eq_true z2] at h ⊢
  refine ite_t rfl (ev_is_tuple ?_)
  rw [isTup_map]
  array_get_dec
  by_cases z3 : l.length ≤ 12
  case neg => rw [decide_eq_false (by omega)]; rw [decide_eq_false z3] at h; exact ite_f rfl h
  rw [decide_eq_true z3] at h
  rw [decide_eq_true (by omega)]
  refine ite_t rfl ⟨by rw [List.length_map]; omega, ?_⟩
  refine lcD_allB kaD (kaB n) (fun x hx P hP => ?_) ?_
  · bv_omega
    exact hP
  bv_omega
  cases q : l.all (kaB n) with
  | false => rw [q] at h; exact h
  | true =>
    rw [q] at h
    obtain ⟨a1, a2, a3⟩ := arsOf_map q
    refine ite_t rfl ?_
    rw [a1]
    refine ev_rounded z2 (by omega) (by omega) ?_
    bv_omega
    rw [List.length_map]
    exact h
local macro_rules | `(tactic| infer_instance) => `(tactic| refine ev_is_web_k (by sizeOf_list_dec) ?_)
theorem law_arrow {n : Int} {y : PD} {s2 s3 : Sl} {D : DEnds} {x : KA} (h1 : kaB n x = true → ∀ s1 s2, D.nx [.v (.d (.tuple [.int n, y])), s1, s2, s3]) (h2 : kaB n x = false → ∀ ρ, D.rt ρ (.d (.bool false))) :
    g__law_is_web_b0 D [.v (.d (.tuple [.int n, y])), .v (.d (kaD x)), s2, s3] := by
  simp only [g__law_is_web_b0]
  cases x with
  | three =>
    simp only [kaD]
    bv_omega
    exact h2 rfl _
  | bl =>
    simp only [kaD]
    bv_omega
    rw [show isBtw 0 (n - 1) (.bool true) = false from rfl, Bool.and_false]
    exact h2 rfl _
  | ar e =>
    simp only [kaD, aD]
    bv_omega
    rw [show kaB n (.ar e) = (isBtw 0 (n - 1) (.int e.1) && (isBtw 0 (n - 1) (.int e.2) && !decide (e.1 = e.2))) from rfl, ← Bool.and_assoc] at h1 h2
    cases q : (isBtw 0 (n - 1) (.int e.1) && isBtw 0 (n - 1) (.int e.2)) with
    | false => rw [q] at h2; exact h2 rfl _
    | true =>
      rw [q] at h1 h2
      by_cases z : e.1 = e.2
      · rw [decide_eq_true z] at h2 ⊢
        exact h2 rfl _
      · rw [decide_eq_false z] at h1 ⊢
        exact h1 rfl _ _
theorem ev_law_is_web_k {n : Int} {l : List KA} {R : DV → Prop} {E : EK} (hl : l.length ≤ 1000) (h : R (.d (.bool (kwB n l)))) : m__law_is_web [.d (kwD n l)] R E := by
  rw [q__law_is_web]
  refine ⟨rfl, ?_⟩
  simp only [g__law_is_web, kwD]
  bv_omega
  unfold kwB at h
  rw [show isBtw 1 9 (.int n) = (decide (1 ≤ n) && decide (n ≤ 9)) from rfl]
  by_cases z1 : 1 ≤ n
  case neg => rw [decide_eq_false z1] at h ⊢; exact h
  by_cases z2 : n ≤ 9
  case neg => rw [decide_eq_false z2] at h ⊢; rw [decide_eq_true z1] at h ⊢; exact h
  rw [decide_eq_true z1, decide_eq_true z2] at h ⊢
  refine ite_t rfl ?_
  rw [List.length_map]
  by_cases z3 : l.length ≤ 12
  case neg => rw [decide_eq_false z3] at h; exact ite_t (decide_eq_true (by omega)) h
  rw [decide_eq_true z3] at h
  refine ite_f (decide_eq_false (by omega)) ⟨by omega, ?_⟩
  refine loopD_chk (J := Sl × Sl) kaD (fun j => [.v (.d (.tuple [.int n, .tuple (l.map kaD)])), j.1, j.2, .no]) (kaB n) (fun x hx j P h1 h2 => ?_) (.no, .no) (fun q s => ?_) fun q s => ?_
  · bv_omega
    exact law_arrow (fun q s1 s2 => h1 q (s1, s2)) h2
  · rw [q] at h
    obtain ⟨a1, a2, a3⟩ := arsOf_map q
    have hr : ∀ e ∈ arsOf l, (0 ≤ e.1 ∧ e.1 < n) ∧ 0 ≤ e.2 ∧ e.2 < n := fun e he => (arrOk_rng (a2 e he)).1
    have ha : (arsOf l).length ≤ 12 := by omega
    rw [a1]
    bv_omega
    have e : ((irg 0 n).any fun x => decide (x ∈ rgrow n (arsOf l) (rch0 (arsOf l) x) n.toNat)) = !decide (((rnd n (arsOf l)).length : Int) = n) := by
      rw [Bool.eq_iff_iff, List.any_eq_true, Bool.not_eq_true', decide_eq_false_iff_not, rnd_iff (by omega) hr]
      simp only [Function.comp, id, decide_eq_true_eq, mem_irg, rgrow_mem hr z1]
      constructor
      · rintro ⟨x, hx, hc⟩ hn
        exact hn x hx.1 hx.2 hc
      · intro hn
        refine Classical.byContradiction fun hc => hn fun p p0 p1 hp => hc ⟨p, ⟨p0, p1⟩, hp⟩
    rw [e, Bool.not_not]
    exact h
  · rw [q] at h
    exact h
local macro_rules | `(tactic| infer_instance) => `(tactic| refine ev_law_is_web_k (by sizeOf_list_dec) ?_)

/-! the round, worked out by the law -/
def lfree (n : Int) (as : List Arr) (found : List Int) (i : Int) : Bool := !decide (i ∈ found) && !(as.any fun e => decide (e.1 = i) && !decide (e.2 ∈ found))
theorem mem_barred {as : List Arr} {found : List Int} {i : Int} : i ∈ barred as found ↔ ∃ x ∈ as, x.2 ∉ found ∧ x.1 = i := by
  unfold barred
  rw [List.mem_map]
  constructor
  · rintro ⟨x, hx, e⟩
    obtain ⟨h1, h2⟩ := List.mem_filter.mp hx
    exact ⟨x, h1, by simpa using h2, e⟩
  · rintro ⟨x, hx, h2, e⟩
    exact ⟨x, List.mem_filter.mpr ⟨hx, by simpa using h2⟩, e⟩
theorem find_cand {n : Int} {as : List Arr} {found : List Int} : (irg 0 n).find? (lfree n as found) = (cand n as found).head? := by
  have e : cand n as found = (irg 0 n).filter (lfree n as found) := by
    unfold cand
    rw [List.filter_filter]
    refine List.filter_congr fun i hi => ?_
    have : decide (i ∈ barred as found) = as.any fun e => decide (e.1 = i) && !decide (e.2 ∈ found) := by
      rw [Bool.eq_iff_iff, decide_eq_true_eq, mem_barred, List.any_eq_true]
      simp only [Bool.and_eq_true, decide_eq_true_eq, Bool.not_eq_true', decide_eq_false_iff_not]
      exact ⟨fun ⟨x, h1, h2, h3⟩ => ⟨x, h1, h3, h2⟩, fun ⟨x, h1, h3, h2⟩ => ⟨x, h1, h2, h3⟩⟩
    unfold lfree
    rw [this, Bool.and_comm]
  rw [e, List.head?_filter]
def rone (n : Int) (as : List Arr) (f : List Int) : List Int := match cand n as f with
  | [] => f
  | c :: _ => f ++ [c]
theorem rndL_stuck {n : Int} {as : List Arr} {f : List Int} (h : cand n as f = []) : ∀ k, rndL n as k f = f
  | 0 => rfl
  | k + 1 => by unfold rndL; rw [h]
theorem rndL_rone (n : Int) (as : List Arr) (f : List Int) (k : Nat) : rndL n as (k + 1) f = rndL n as k (rone n as f) := by
  conv => lhs; unfold rndL
  unfold rone
  cases q : cand n as f with
  | nil => exact (rndL_stuck q k).symm
  | cons c r => rfl
theorem repeat_succ {α : Type} (f : α → α) : ∀ (n : Nat) (s : α), Nat.repeat f (n + 1) s = Nat.repeat f n (f s)
  | 0, _ => rfl
  | n + 1, s => by show f (Nat.repeat f (n + 1) s) = f (Nat.repeat f n (f s)); rw [repeat_succ f n s]
theorem rndL_repeat (n : Int) (as : List Arr) : ∀ (k : Nat) f, Nat.repeat (rone n as) k f = rndL n as k f
  | 0, _ => rfl
  | k + 1, f => by rw [repeat_succ, rndL_rone, rndL_repeat n as k]
theorem ev_law_round {n : Int} {as : List Arr} {R : DV → Prop} {E : EK} (w : WebOk n as) (h : R (.d (tInt (rnd n as)))) : m__law_round [.d (wD n as)] R E := by
  have hn := w.hi
  have h1 := w.lo
  have ha := w.len
  rw [q__law_round]
  refine ⟨rfl, ?_⟩
  simp only [g__law_round, wD]
  bv_omega
  refine loopD_n (σ := List Int) (J := Sl × Sl) (fun f j => [.v (.d (.tuple [.int n, .tuple (as.map aD)])), .own (f.map .int), j.1, j.2, .no, .no]) (rone n as) (fun k f => f.length + k ≤ 20) (fun x k f j P hI hP => ?_) (fun k f hI => ?_) _ [] (.no, .no) ?_ fun _ j => ?_
  · simp only [g__law_round_b1]
    bv_omega
    refine loopD_find (J := Sl) .int (fun s => [.v (.d (.tuple [.int n, .tuple (as.map aD)])), .own (f.map .int), .v (.d x), s, .no, .no]) (lfree n as f) (fun c => ∀ s, P [.v (.d (.tuple [.int n, .tuple (as.map aD)])), .own ((f ++ [c]).map .int), .v (.d x), s, .no, .no]) (fun x hx j P h2 h3 => ?_) j.2 (fun q s => ?_) fun c q s => ?_
    · bv_omega
      simp only [g__law_round_b0]
      bv_omega
      by_cases z : x ∈ f
      · rw [decide_eq_true z]
        exact h2 (by unfold lfree; rw [decide_eq_true z]; rfl) _
      · rw [decide_eq_false z]
        bv_omega
        cases q : as.any fun e => decide (e.1 = x) && !decide (e.2 ∈ f) with
        | true => exact h2 (by unfold lfree; rw [q, Bool.not_true, Bool.and_false]) _
        | false =>
          bv_omega
          exact h3 (by unfold lfree; rw [q, decide_eq_false z]; rfl) _
    · rw [find_cand] at q
      have := hP (.v (.d x), s)
      unfold rone at this
      cases q2 : cand n as f with
      | nil => rw [q2] at this; exact this
      | cons c r => rw [q2] at q; cases q
    · rw [find_cand] at q
      have := hP (.v (.d x), s)
      unfold rone at this
      cases q2 : cand n as f with
      | nil => rw [q2] at q; cases q
      | cons c r => rw [q2] at q this; cases q; exact this
  · unfold rone
    cases cand n as f with
    | nil => show f.length + k ≤ 20; omega
    | cons c r => show (f ++ [c]).length + k ≤ 20; rw [List.length_append]; simp; omega
  · rw [List.length_map, irg_len]; simp; omega
  · rw [rndL_repeat, List.length_map, irg_len, Int.sub_zero]
    bv_omega
    exact h
local macro_rules | `(tactic| infer_instance) => `(tactic| refine ev_law_round (by sizeOf_list_dec) ?_)
/-! what is told of an error -/
def tix : Nat → Int
  | 0 => 0
  | 1 => 1
  | _ => 2
theorem tell_ok {c : Nat} {x : PD} {D : DEnds} {s0 s1 s2 s4 s5 s6 : Sl} (hc : c = 0 ∨ c = 1 ∨ c = 2) (hr : ROk x) (h : ∀ ρ, D.rt ρ (.d (toldD (tix c) x))) : g__law_told_2 D [s0, s1, s2, .v (.exc c x), s4, s5, s6] := by
  have e2 : rngD 0 3 = [.int 0, .int 1, .int 2] := rfl
  simp only [u__law_told_2, u__law_told_3]
  array_get_dec
  rw [e2]
  refine ⟨⟨by decide, by decide⟩, by decide, ?_⟩
  rcases hc with rfl | rfl | rfl <;>
  · simp only [lcD, subE]
    array_get_dec
    repeat first
      | exact ⟨hr, h _⟩
      | refine ite_t rfl ?_
      | refine ite_f rfl ?_
      | refine ⟨_, rfl, ?_⟩
theorem told_of {way : Int} {a b : PD} {c : Nat} {x : PD} {R : DV → Prop} {E : EK} (hc : c = 0 ∨ c = 1 ∨ c = 2) (hr : ROk x) (h : R (.d (toldD (tix c) x)))
    (hb : ∀ (Q : DV → Prop) (E' : EK), E' c x → (if decide (way = 0) = true then m_pieces [.d a] Q E' else if decide (way = 1) = true then m_round_of [.d a] Q E' else if decide (way = 2) = true then m_opposite [.d a] Q E' else m_turned_at [.d a, .d b] Q E')) :
    m__law_told [.d (.int way), .d a, .d b] R E := by
  rw [q__law_told]
  refine ⟨rfl, ?_⟩
  simp only [g__law_told, u__law_told_0, u__law_told_1]
  array_get_dec
  exact hb _ _ (tell_ok hc hr fun ρ => h)
theorem bad_need_turnable_w {x p : PD} {R : DV → Prop} {E : EK} (hx : NoWeb x) (ho : okD 9 x) (h : E 0 x) : m_need_turnable [.d x, .d p] R E := by
  rw [q_need_turnable]
  refine ⟨rfl, ?_⟩
  simp only [g_need_turnable]
  array_get_dec
  rw [q_need_at]
  refine ⟨rfl, ?_⟩
  simp only [g_need_at]
  array_get_dec
  exact bad_need_web hx ho h
theorem told_bad {way : Int} {x p : PD} {R : DV → Prop} {E : EK} (hx : NoWeb x) {e k : Nat} (hp : Rp e k x) (he : e ≤ 9) (hk : k ≤ 20000) (h : R (.d (toldD 0 x))) : m__law_told [.d (.int way), .d x, .d p] R E := by
  refine told_of (c := 0) (by decide) (hp.ok (by omega) hk) h fun Q E' e => ?_
  have ho := hp.ok9 he (by omega)
  by_cases z0 : way = 0
  · refine ite_t (decide_eq_true z0) ?_
    rw [q_pieces]
    refine ⟨rfl, ?_⟩
    simp only [g_pieces]
    array_get_dec
    exact bad_need_web hx ho e
  refine ite_f (decide_eq_false z0) ?_
  by_cases z1 : way = 1
  · refine ite_t (decide_eq_true z1) ?_
    rw [q_round_of]
    refine ⟨rfl, ?_⟩
    simp only [g_round_of]
    array_get_dec
    exact bad_need_web hx ho e
  refine ite_f (decide_eq_false z1) ?_
  by_cases z2 : way = 2
  · refine ite_t (decide_eq_true z2) ?_
    rw [q_opposite]
    refine ⟨rfl, ?_⟩
    simp only [g_opposite]
    array_get_dec
    exact bad_need_web hx ho e
  refine ite_f (decide_eq_false z2) ?_
  rw [q_turned_at]
  refine ⟨rfl, ?_⟩
  simp only [g_turned_at]
  array_get_dec
  exact bad_need_turnable_w hx ho e
theorem told_at {n p : Int} {as : List Arr} {R : DV → Prop} {E : EK} (w : WebOk n as) (hp : p < 0 ∨ n ≤ p) (hb : MB 60 p) (h : R (.d (toldD 1 (.int p)))) : m__law_told [.d (.int 3), .d (wD n as), .d (.int p)] R E := by
  refine told_of (c := 1) (by decide) ((Rp.int (e := 1) hb (by decide)).ok (by decide) (by decide)) h fun Q E' e => ?_
  refine ite_f rfl (ite_f rfl (ite_f rfl ?_))
  rw [q_turned_at]
  refine ⟨rfl, ?_⟩
  simp only [g_turned_at]
  array_get_dec
  exact bad_need_at w hp e
theorem told_nt {n p : Int} {as : List Arr} {R : DV → Prop} {E : EK} (w : WebOk n as) (hp : 0 ≤ p ∧ p < n) (ht : p ∉ endsL n as ∧ p ∉ begL n as) (hb : MB 60 p) (h : R (.d (toldD 2 (.int p)))) : m__law_told [.d (.int 3), .d (wD n as), .d (.int p)] R E := by
  refine told_of (c := 2) (by decide) ((Rp.int (e := 1) hb (by decide)).ok (by decide) (by decide)) h fun Q E' e => ?_
  refine ite_f rfl (ite_f rfl (ite_f rfl ?_))
  rw [q_turned_at]
  refine ⟨rfl, ?_⟩
  simp only [g_turned_at]
  array_get_dec
  exact bad_need_turnable w hp ht e

/-! objects near to a web -/
structure NearW (x : PD) : Prop where
  rp : Rp 5 8000 x
  eq : ∃ b : Bool, (∀ (R : DV → Prop) (E : EK), R (.d (.bool b)) → m_is_web [.d x] R E) ∧ ∀ (R : DV → Prop) (E : EK), R (.d (.bool b)) → m__law_is_web [.d x] R E
theorem rpA_map {α : Type} {f : α → PD} {e n : Nat} : ∀ {l : List α}, (∀ x ∈ l, Rp e n (f x)) → RpA e ((n + 1) * l.length) (l.map f)
  | [], _ => RpA.nil
  | a :: l, h => by
    have := RpA.cons (h a (by simp)) (rpA_map (l := l) fun x hx => h x (by simp [hx]))
    rw [List.length_cons, List.map_cons, Nat.mul_add, Nat.mul_one, Nat.add_comm]
    exact this
def kaS : KA → Prop
  | .ar e => MB 10 e.1 ∧ MB 10 e.2
  | _ => True
theorem rp_ka : ∀ {k : KA}, kaS k → Rp 1 50 (kaD k)
  | .ar e, h => (Rp.tup (RpA.cons (Rp.int (e := 0) h.1 (by decide)) (RpA.cons (Rp.int (e := 0) h.2 (by decide)) RpA.nil))).le (by decide) (by decide)
  | .three, _ => (Rp.tup (RpA.cons (Rp.int (e := 0) (a := 2) (by unfold MB; decide) (by decide)) (RpA.cons (Rp.int (e := 0) (a := 2) (by unfold MB; decide) (by decide)) (RpA.cons (Rp.int (e := 0) (a := 2) (by unfold MB; decide) (by decide)) RpA.nil)))).le (by decide) (by decide)
  | .bl, _ => (Rp.tup (RpA.cons (Rp.int (e := 0) (a := 2) (by unfold MB; decide) (by decide)) (RpA.cons (Rp.bool (e := 0) (n := 2)) RpA.nil))).le (by decide) (by decide)
theorem rpA_ka {l : List KA} (h : ∀ k ∈ l, kaS k) (hl : l.length ≤ 40) : RpA 1 2040 (l.map kaD) := rpA_le (rpA_map fun k hk => rp_ka (h k hk)) (Nat.le_refl _) (by omega)
theorem near_kw {n : Int} {l : List KA} (hn : MB 10 n) (h : ∀ k ∈ l, kaS k) (hl : l.length ≤ 40) : NearW (kwD n l) :=
  ⟨(Rp.tup (RpA.cons (Rp.int (e := 2) hn (by decide)) (RpA.cons (Rp.tup (rpA_ka h hl)) RpA.nil))).le (by decide) (by decide),
    _, fun R E hR => ev_is_web_k (by omega) hR, fun R E hR => ev_law_is_web_k (by omega) hR⟩
theorem near_no {x : PD} (h : isTup 2 2 x = false) (hr : Rp 5 8000 x) : NearW x := ⟨hr, false, noWeb_tup h, fun R E hR => by
  rw [q__law_is_web]
  refine ⟨rfl, ?_⟩
  simp only [g__law_is_web]
  cases x with
  | tuple xs =>
    bv_omega
    refine ite_f (decide_eq_false ?_) hR
    intro e
    simp [isTup, e] at h
  | _ => bv_omega; exact hR⟩
theorem near_0 {a b : PD} (h : isBtw 1 9 a = false) (hr : Rp 5 8000 (.tuple [a, b])) : NearW (.tuple [a, b]) := ⟨hr, false, fun R E hR => by
  rw [q_is_web]
  refine ⟨rfl, ?_⟩
  simp only [g_is_web]
  bv_omega
  rw [h]
  bv_omega
  exact hR, fun R E hR => by
  rw [q__law_is_web]
  refine ⟨rfl, ?_⟩
  simp only [g__law_is_web]
  bv_omega
  rw [h]
  bv_omega
  exact hR⟩
theorem near_1 {a : PD} {b : List PD} (hr : Rp 5 8000 (.tuple [a, .list b])) : NearW (.tuple [a, .list b]) := by
  by_cases h : isBtw 1 9 a = true
  · exact ⟨hr, false, fun R E hR => by
      rw [q_is_web]
      refine ⟨rfl, ?_⟩
      simp only [g_is_web]
      bv_omega
      rw [h]
      bv_omega
      exact hR, fun R E hR => by
      rw [q__law_is_web]
      refine ⟨rfl, ?_⟩
      simp only [g__law_is_web]
      bv_omega
      rw [h]
      bv_omega
      exact hR⟩
  · exact near_0 (by simpa using h) hr
theorem mb10 {i : Int} (h0 : -100 ≤ i) (h1 : i ≤ 100) : MB 10 i := by unfold MB; omega
theorem ar_map (l : List Arr) : (l.map KA.ar).map kaD = l.map aD := by rw [List.map_map]; rfl
theorem near_as {n : Int} {l : List Arr} (hn : MB 10 n) (h : ∀ e ∈ l, MB 10 e.1 ∧ MB 10 e.2) (hl : l.length ≤ 40) : NearW (.tuple [.int n, .tuple (l.map aD)]) := by
  have := near_kw (l := l.map KA.ar) hn (fun k hk => by
    obtain ⟨e, he, rfl⟩ := List.mem_map.mp hk
    exact h e he) (by rw [List.length_map]; exact hl)
  unfold kwD at this
  rw [ar_map] at this
  exact this
theorem near_app {n : Int} {l : List Arr} {k : KA} {d : PD} (hd : d = kaD k) (hn : MB 10 n) (h : ∀ e ∈ l, MB 10 e.1 ∧ MB 10 e.2) (hk : kaS k) (hl : l.length ≤ 30) : NearW (.tuple [.int n, .tuple (l.map aD ++ [d])]) := by
  have := near_kw (l := l.map KA.ar ++ [k]) hn (fun k' hk' => by
    rcases List.mem_append.mp hk' with q | q
    · obtain ⟨e, he, rfl⟩ := List.mem_map.mp q
      exact h e he
    · rw [List.mem_singleton.mp q]; exact hk) (by rw [List.length_append, List.length_map]; simp; omega)
  unfold kwD at this
  rw [List.map_append, ar_map] at this
  rw [hd]
  exact this
theorem rpA_as {l : List Arr} (h : ∀ e ∈ l, MB 10 e.1 ∧ MB 10 e.2) (hl : l.length ≤ 40) : RpA 1 2040 (l.map aD) := by
  have := rpA_ka (l := l.map KA.ar) (fun k hk => by
    obtain ⟨e, he, rfl⟩ := List.mem_map.mp hk
    exact h e he) (by rw [List.length_map]; exact hl)
  rw [ar_map] at this
  exact this
theorem atI_ex {α : Type} {xs : List α} {k : Int} {R : α → Prop} (h0 : 0 ≤ k) (h : k < (xs.length : Int)) (hR : ∀ y, y ∈ xs → R y) : ∃ y, atI xs k = some y ∧ R y := by
  obtain ⟨y, h1, h2⟩ := atI_mem h0 h
  exact ⟨y, h1, hR y h2⟩
def nearL (n : Int) (as : List Arr) : List PD := [.tuple [.int n, .tuple (as.map aD)], .none, .list [.int n, .tuple (as.map aD)], .tuple [.int n, .list (as.map aD)], .tuple [.int (n + 1), .tuple (as.map aD)], .tuple [.int (n - 1), .tuple (as.map aD)],
  .tuple [.int n, .tuple ((List.replicate (Int.toNat 3) as).flatten.map aD)], .tuple [.int n, .tuple (as.map aD ++ [.tuple [.int 0, .int n]])], .tuple [.int n, .tuple (as.map aD ++ [.tuple [.int 0, .int 0]])],
  .tuple [.int n, .tuple (as.map aD ++ (cutL as none (some 1)).map fun x => .tuple [.int x.2, .int x.1])], .tuple [.int n, .tuple (as.map aD ++ [.tuple [.int 0, .int 1, .int 0]])], .tuple [.bool true, .tuple []], .tuple [.int n, .tuple (as.map aD ++ [.tuple [.int 0, .bool true]])],
  .tuple [.int n, .tuple (as.map aD), .int 0], .tuple [.int 9, .tuple []], .tuple [.int 10, .tuple []], .tuple [.int 0, .tuple []], .tuple [.int 1, .tuple [.tuple [.int 0, .int 0]]], .tuple [.int n], .tuple (as.map aD)]
theorem nearL_ok {n : Int} {as : List Arr} (w : WebOk n as) : ∀ v ∈ nearL n as, NearW v := by
  have hn := w.hi
  have h1 := w.lo
  have ha := w.len
  intro v hv
  have kas : ∀ e ∈ as, MB 10 e.1 ∧ MB 10 e.2 := fun e he => by
    obtain ⟨a, b, c, d, _⟩ := w.rng e he
    exact ⟨mb10 (by omega) (by omega), mb10 (by omega) (by omega)⟩
  have mn : MB 10 n := mb10 (by omega) (by omega)
  have ra := rpA_as kas (by omega)
  have ri : Rp 3 10 (.int n) := Rp.int mn (by decide)
  have z : ∀ i : Int, i = 0 ∨ i = 1 ∨ i = 2 → MB 10 i := fun i hi => mb10 (by omega) (by omega)
  simp only [nearL, List.mem_cons, List.not_mem_nil, or_false] at hv
  rcases hv with rfl | rfl | rfl | rfl | rfl | rfl | rfl | rfl | rfl | rfl | rfl | rfl | rfl | rfl | rfl | rfl | rfl | rfl | rfl | rfl
  · exact near_as mn kas (by omega)
  · exact near_no rfl Rp.none
  · exact near_no rfl ((Rp.list (RpA.cons ri (RpA.cons ((Rp.tup ra).le (e' := 3) (n' := 2040) (by decide) (by decide)) RpA.nil) : RpA 3 _ _)).le (by decide) (by decide))
  · exact near_1 ((Rp.tup (RpA.cons ri (RpA.cons ((Rp.list ra).le (e' := 3) (n' := 2040) (by decide) (by decide)) RpA.nil) : RpA 3 _ _)).le (by decide) (by decide))
  · exact near_as (mb10 (by omega) (by omega)) kas (by omega)
  · exact near_as (mb10 (by omega) (by omega)) kas (by omega)
  · refine near_as mn (fun e he => ?_) (by rw [flat_len]; simp; omega)
    obtain ⟨l, hl, he⟩ := List.mem_flatten.mp he
    rw [List.eq_of_mem_replicate hl] at he
    exact kas e he
  · exact near_app (k := .ar (0, n)) rfl mn kas ⟨z 0 (by decide), mn⟩ (by omega)
  · exact near_app (k := .ar (0, 0)) rfl mn kas ⟨z 0 (by decide), z 0 (by decide)⟩ (by omega)
  · rw [show (List.map (fun x : Arr => PyData.tuple [PyData.int x.snd, PyData.int x.fst]) (cutL as none (some 1))) = ((cutL as none (some 1)).map swap).map aD by rw [List.map_map]; rfl, ← List.map_append]
    have sub : ∀ e ∈ cutL as none (some 1), e ∈ as := fun e he => by
      unfold cutL at he
      exact List.mem_of_mem_drop (List.mem_of_mem_take he)
    have len : (cutL as none (some 1)).length ≤ as.length := cutL_len
    refine near_as mn (fun e he => ?_) (by rw [List.length_append, List.length_map]; omega)
    rcases List.mem_append.mp he with he | he
    · exact kas e he
    · obtain ⟨g, hg, rfl⟩ := List.mem_map.mp he
      exact ⟨(kas g (sub g hg)).2, (kas g (sub g hg)).1⟩
  · exact near_app (k := .three) rfl mn kas trivial (by omega)
  · exact near_0 rfl ((Rp.tup (RpA.cons (Rp.bool (n := 1)) (RpA.cons (Rp.tup RpA.nil) RpA.nil) : RpA 3 _ _)).le (by decide) (by decide))
  · exact near_app (k := .bl) rfl mn kas trivial (by omega)
  · exact near_no rfl ((Rp.tup (RpA.cons ri (RpA.cons ((Rp.tup ra).le (e' := 3) (n' := 2040) (by decide) (by decide)) (RpA.cons (Rp.int (z 0 (by decide)) (by decide)) RpA.nil)) : RpA 3 _ _)).le (by decide) (by decide))
  · exact near_as (n := 9) (l := []) (mb10 (by decide) (by decide)) (by simp) (by decide)
  · exact near_as (n := 10) (l := []) (mb10 (by decide) (by decide)) (by simp) (by decide)
  · exact near_as (n := 0) (l := []) (z 0 (by decide)) (by simp) (by decide)
  · exact near_as (n := 1) (l := [(0, 0)]) (z 1 (by decide)) (by simp; exact z 0 (by decide)) (by decide)
  · exact near_no rfl ((Rp.tup (RpA.cons ri RpA.nil)).le (by decide) (by decide))
  · have rt : Rp 5 8000 (.tuple (as.map aD)) := (Rp.tup ra).le (by decide) (by decide)
    match as, rt with
    | [], rt => exact near_no rfl rt
    | [_], rt => exact near_no rfl rt
    | [_, _], rt => exact near_0 rfl rt
    | _ :: _ :: _ :: r, rt =>
      refine near_no ?_ rt
      have e : ¬ ((((r.map aD).length + 1 + 1 + 1 : Nat) : Int) ≤ 2) := by omega
      show (decide ((2 : Int) ≤ (((r.map aD).length + 1 + 1 + 1 : Nat) : Int)) && decide ((((r.map aD).length + 1 + 1 + 1 : Nat) : Int) ≤ 2)) = false
      rw [decide_eq_false e, Bool.and_false]
theorem ev_law_near {n : Int} {as : List Arr} {R : DV → Prop} {E : EK} (w : WebOk n as) (h : ∀ v, NearW v → R (.d v)) : m__law_near [.wel, .d (wD n as)] R E := by
  have hn := w.hi
  have h1 := w.lo
  have ha := w.len
  rw [q__law_near]
  refine ⟨rfl, ?_⟩
  simp only [g__law_near, u__law_near_0, u__law_near_1, wD]
  bv_omega
  simp only [u__law_near_2]
  bv_omega
  simp only [u__law_near_3]
  bv_omega
  simp only [u__law_near_4, u__law_near_5]
  bv_omega
  have main : ∀ k : Int, 0 ≤ k → k < 20 → ∃ y, atI (nearL n as) k = some y ∧ R (.d y) := fun k k0 k1 => atI_ex k0 (by simpa [nearL] using k1) fun v hv => h v (nearL_ok w v hv)
  have mn : MB 10 n := mb10 (by omega) (by omega)
  have z : ∀ i : Int, i = 0 ∨ i = 1 ∨ i = 2 → MB 10 i := fun i hi => mb10 (by omega) (by omega)
  by_cases z2 : 2 < n
  · refine ite_t (decide_eq_true z2) (ev_draw_of (by decide) (by decide) fun k k0 k1 => ?_)
    bv_omega
    by_cases z3 : k = 0
    · refine ite_t (decide_eq_true z3) (h _ ?_)
      exact near_as (l := [(0, 1), (1, 2), (2, 0)]) mn (by simp; exact ⟨⟨z 0 (by decide), z 1 (by decide)⟩, ⟨z 1 (by decide), z 2 (by decide)⟩, z 2 (by decide), z 0 (by decide)⟩) (by decide)
    · refine ite_f (decide_eq_false z3) (ev_draw_of (by decide) (by decide) fun k k0 k1 => ?_)
      exact main k k0 k1
  · refine ite_f (decide_eq_false z2) (ev_draw_of (by decide) (by decide) fun k k0 k1 => ?_)
    exact main k k0 k1
local macro_rules | `(tactic| infer_instance) => `(tactic| refine ev_law_near (by sizeOf_list_dec) ?_)

/-! turned along the round -/
theorem bnd (f : Int → Int) : ∀ as : List Arr, ∃ B : Int, ∀ e ∈ as, f e.1 < B ∧ f e.2 < B ∧ -B < f e.1 ∧ -B < f e.2
  | [] => ⟨0, fun e he => by cases he⟩
  | a :: as => by
    obtain ⟨B, hB⟩ := bnd f as
    refine ⟨(if B < 0 then 0 else B) + ((f a.1).natAbs : Int) + ((f a.2).natAbs : Int) + 1, fun e he => ?_⟩
    rcases List.mem_cons.mp he with rfl | he
    · split <;> omega
    · have := hB e he
      split <;> omega
theorem mem_endsL {n p : Int} {as : List Arr} : p ∈ endsL n as ↔ (0 ≤ p ∧ p < n) ∧ ∀ e ∈ as, e.1 ≠ p := by
  unfold endsL
  rw [List.mem_filter, mem_irg]
  simp only [Bool.not_eq_true', decide_eq_false_iff_not, List.mem_map, not_exists, not_and]
theorem mem_begL {n p : Int} {as : List Arr} : p ∈ begL n as ↔ (0 ≤ p ∧ p < n) ∧ ∀ e ∈ as, e.2 ≠ p := by
  unfold begL
  rw [List.mem_filter, mem_irg]
  simp only [Bool.not_eq_true', decide_eq_false_iff_not, List.mem_map, not_exists, not_and]
theorem WebOk.turn {n p : Int} {as : List Arr} (w : WebOk n as) (hp : p ∈ endsL n as) : WebOk n (as.map (turnA p)) := by
  obtain ⟨hp, he⟩ := mem_endsL.mp hp
  refine ⟨w.lo, w.hi, by rw [List.length_map]; exact w.len, fun x hx => ?_, ?_⟩
  · obtain ⟨e, h, rfl⟩ := List.mem_map.mp hx
    obtain ⟨a, b, c, d, z⟩ := w.rng e h
    unfold turnA
    split
    · exact ⟨c, d, a, b, fun q => z q.symm⟩
    · exact ⟨a, b, c, d, z⟩
  · obtain ⟨f, hf⟩ := w.acy
    obtain ⟨B, hB⟩ := bnd f as
    refine ⟨fun x => if x = p then -B else f x, fun x hx => ?_⟩
    obtain ⟨e, h, rfl⟩ := List.mem_map.mp hx
    have h1 := he e h
    have h2 := hB e h
    have h3 := hf e h
    have h4 := (w.rng e h).2.2.2.2
    unfold turnA
    by_cases z : e.2 = p
    · rw [if_pos (.inr z)]
      show (if e.2 = p then _ else _) < (if e.1 = p then _ else _)
      rw [if_pos z, if_neg h1]
      show -B < f e.1
      omega
    · rw [if_neg (by simp [h1, z])]
      show (if e.1 = p then _ else _) < (if e.2 = p then _ else _)
      rw [if_neg h1, if_neg z]
      exact h3
/-- turned at all of F -/
def tvF (F : List Int) (e : Arr) : Arr := if (e.1 ∈ F) ↔ (e.2 ∈ F) then e else swap e
theorem tv_step {F : List Int} {c : Int} {e : Arr} (hc : c ∉ F) (hn : e.1 ≠ e.2) : turnA c (tvF F e) = tvF (F ++ [c]) e := by
  obtain ⟨x, y⟩ := e
  unfold tvF turnA
  have hn : x ≠ y := hn
  simp only [List.mem_append, List.mem_singleton, swap]
  by_cases hx : x = c
  · subst hx
    by_cases b : y ∈ F <;> simp [hc, b, Ne.symm hn]
  · by_cases hy : y = c
    · subst hy
      by_cases a : x ∈ F <;> simp [hc, a, hn]
    · by_cases a : x ∈ F <;> by_cases b : y ∈ F <;> simp [a, b, hx, hy]
theorem tv_end {n : Int} {as : List Arr} {F : List Int} {c : Int} (hc : c ∈ cand n as F) (ho : ∀ e ∈ as, e.1 ∈ F → e.2 ∈ F) : c ∈ endsL n (as.map (tvF F)) := by
  obtain ⟨h1, h2, h3⟩ := mem_cand.mp hc
  refine mem_endsL.mpr ⟨h1, fun x hx => ?_⟩
  obtain ⟨e, he, rfl⟩ := List.mem_map.mp hx
  unfold tvF
  by_cases a : e.1 ∈ F
  · have b := ho e he a
    rw [if_pos (by simp [a, b])]
    exact fun z => h2 (z ▸ a)
  · by_cases b : e.2 ∈ F
    · rw [if_neg (by simp [a, b])]
      show e.2 ≠ c
      exact fun z => h2 (z ▸ b)
    · rw [if_pos (by simp [a, b])]
      exact fun z => b (h3 e he z)
theorem tv_nil {as : List Arr} : as.map (tvF []) = as := by
  conv => rhs; rw [← List.map_id as]
  refine List.map_congr_left fun e _ => ?_
  simp [tvF]
theorem tv_all {as : List Arr} {F : List Int} (h : ∀ e ∈ as, e.1 ∈ F ∧ e.2 ∈ F) : as.map (tvF F) = as := by
  conv => rhs; rw [← List.map_id as]
  refine List.map_congr_left fun e he => ?_
  simp [tvF, h e he]
/-- what a walk along the round meets -/
theorem round_ind {n : Int} {as : List Arr} : ∀ (k : Nat) (F : List Int), (∀ e ∈ as, e.1 ∈ F → e.2 ∈ F) → ∃ l, rndL n as k F = F ++ l ∧ (∀ (pre : List Int) c post, l = pre ++ c :: post → c ∈ cand n as (F ++ pre) ∧ ∀ e ∈ as, e.1 ∈ F ++ pre → e.2 ∈ F ++ pre)
  | 0, F, h => ⟨[], by simp [rndL], fun pre c post e => by cases pre <;> cases e⟩
  | k + 1, F, h => by
    unfold rndL
    cases q : cand n as F with
    | nil => exact ⟨[], by simp, fun pre c post e => by cases pre <;> cases e⟩
    | cons c r =>
      have hc : c ∈ cand n as F := by rw [q]; simp
      obtain ⟨_, _, c3⟩ := mem_cand.mp hc
      obtain ⟨l, h1, h2⟩ := round_ind (n := n) (as := as) k (F ++ [c]) (fun e he hm => by
        rcases List.mem_append.mp hm with hm | hm
        · exact List.mem_append_left _ (h e he hm)
        · exact List.mem_append_left _ (c3 e he (List.mem_singleton.mp hm)))
      refine ⟨c :: l, by show rndL n as k (F ++ [c]) = _; rw [h1]; simp, fun pre c' post e => ?_⟩
      cases pre with
      | nil =>
        cases e
        rw [List.append_nil]
        exact ⟨hc, h⟩
      | cons d pre =>
        cases e
        have := h2 pre c' post rfl
        rw [List.append_assoc] at this
        exact this
theorem cp_web {n : Int} {as : List Arr} : Cp 3 (wD n as) := by
  have : ∀ l : List Arr, CpA 1 (l.map aD) := fun l => by
    induction l with
    | nil => exact CpA.nil
    | cons a l ih => exact CpA.cons (Cp.tup (CpA.cons Cp.int (CpA.cons Cp.int CpA.nil))) ih
  exact Cp.tup (CpA.cons Cp.int (CpA.cons (Cp.tup (this as)) CpA.nil))
theorem turn_loop {D : DEnds} {n : Int} {as : List Arr} {s0 s2 s3 s5 s6 : Sl} (w : WebOk n as) : ∀ (post pre : List Int) (s1 : Sl), rnd n as = pre ++ post → WebOk n (as.map (tvF pre)) →
    (∀ s1, D.nx [s0, s1, s2, s3, .v (.d (wD n (as.map (tvF (pre ++ post))))), s5, s6]) →
    loopD (gNm 1) g__law_turned_right_b1 D (post.map .int) [s0, s1, s2, s3, .v (.d (wD n (as.map (tvF pre)))), s5, s6]
  | [], pre, s1, hr, ok, h => by
    rw [List.append_nil] at h
    exact h _
  | c :: post, pre, s1, hr, ok, h => by
    rw [List.map_cons]
    unfold loopD
    ac_rfl
    generalize hb : loopD (gNm 1) g__law_turned_right_b1 D (List.map PyData.int post) = next
    simp only [g__law_turned_right_b1]
    have hn := w.hi
    have h1 := w.lo
    have ha := w.len
    obtain ⟨l, e1, e2⟩ := round_ind (n := n) (as := as) n.toNat [] (by simp)
    rw [List.nil_append] at e1
    have e1 : rnd n as = l := e1
    obtain ⟨q1, q2⟩ := e2 pre c post (by rw [← e1, hr])
    rw [List.nil_append] at q1 q2
    have qe := tv_end q1 q2
    have hc := (mem_cand.mp q1)
    ac_rfl
    refine ev_ends ok (e_inInts ?_)
    rw [decide_eq_true qe]
    ac_rfl
    refine ev_turned_at ok hc.1 (.inl qe) ?_
    have e3 : (as.map (tvF pre)).map (turnA c) = as.map (tvF (pre ++ [c])) := by
      rw [List.map_map]
      exact List.map_congr_left fun e he => tv_step hc.2.1 (w.rng e he).2.2.2.2
    have ok2 := ok.turn qe
    rw [e3] at ok2 ⊢
    rw [← hb]
    exact turn_loop w post (pre ++ [c]) _ (by rw [hr]; simp) ok2 (by rw [List.append_assoc]; exact h)
theorem turn_all {D : DEnds} {n : Int} {as : List Arr} {s0 s1 s2 s3 s5 s6 : Sl} (w : WebOk n as) (h : ∀ s1, D.nx [s0, s1, s2, s3, .v (.d (wD n as)), s5, s6]) :
    loopD (gNm 1) g__law_turned_right_b1 D ((rnd n as).map .int) [s0, s1, s2, s3, .v (.d (wD n as)), s5, s6] := by
  have r := w.rnd
  have all : ∀ e ∈ as, e.1 ∈ rnd n as ∧ e.2 ∈ rnd n as := fun e he => by
    have full : ∀ x, 0 ≤ x → x < n → x ∈ rnd n as := fun x x0 x1 => Classical.byContradiction fun q => by
      have := sub_lt r.1 (k := irg 0 n) (fun y hy => mem_irg.mpr (r.2.1 y hy)) (y := x) (mem_irg.mpr ⟨x0, x1⟩) q
      rw [irg_len] at this
      omega
    obtain ⟨a, b, c, d, _⟩ := w.rng e he
    exact ⟨full _ a b, full _ c d⟩
  have t := fun h => turn_loop (D := D) (s0 := s0) (s2 := s2) (s3 := s3) (s5 := s5) (s6 := s6) w (rnd n as) [] s1 rfl (by rw [tv_nil]; exact w) h
  rw [tv_nil, List.nil_append, tv_all all] at t
  exact t h
theorem rp_at {p : Int} (h0 : -100 ≤ p) (h1 : p ≤ 100) : Rp 1 10 (.int p) := Rp.int (mb10 h0 h1) (by decide)
theorem place_step {n p : Int} {as : List Arr} {D : DEnds} {s2 s3 s4 : Sl} (w : WebOk n as) (hp : 0 ≤ p ∧ p < n) (h : ∀ s2 s3, D.nx [.v (.d (wD n as)), .v (.d (.int p)), s2, s3, s4, .no, .no]) :
    g__law_turned_right_b0 D [.v (.d (wD n as)), .v (.d (.int p)), s2, s3, s4, .no, .no] := by
  have hn := w.hi
  have h1 := w.lo
  have ha := w.len
  simp only [g__law_turned_right_b0]
  rw [show wD n as = .tuple [.int n, .tuple (as.map aD)] from rfl]
  bv_omega
  have turnable : (p ∈ endsL n as ∨ p ∈ begL n as) → m_turned_at [DV.d (PyData.tuple [PyData.int n, PyData.tuple (List.map aD as)]), DV.d (PyData.int p)] (fun x =>
          (List.map aD as).length ≤ 100000 ∧
            lcD (gTp (gsCons (gNm 5) (gsCons (gNm 6) gsNil))) tTrue
              (dIf (tVal (d2 gIn (dOwn 1) (dTup (aCons (dVar 5) (aCons (dVar 6) aNil)))))
                (dTup (aCons (dVar 6) (aCons (dVar 5) aNil))) (dTup (aCons (dVar 5) (aCons (dVar 6) aNil))))
              [Sl.v (DV.d (PyData.tuple [PyData.int n, PyData.tuple (List.map aD as)])), Sl.v (DV.d (PyData.int p)),
                Sl.v (DV.d (PyData.bool !decide (p ∈ List.map Prod.fst as))),
                Sl.v (DV.d (PyData.bool !decide (p ∈ List.map Prod.snd as))), s4, Sl.no, Sl.no]
              (List.map aD as) fun xs =>
              gNe x (DV.d (PyData.tuple [PyData.int n, PyData.tuple xs])) fun x =>
                onB x fun c =>
                  if c = true then
                    D.rt
                      [Sl.v (DV.d (PyData.tuple [PyData.int n, PyData.tuple (List.map aD as)])),
                        Sl.v (DV.d (PyData.int p)), Sl.v (DV.d (PyData.bool !decide (p ∈ List.map Prod.fst as))),
                        Sl.v (DV.d (PyData.bool !decide (p ∈ List.map Prod.snd as))), s4, Sl.no, Sl.no]
                      (DV.d (PyData.bool false))
                  else
                    D.nx
                      [Sl.v (DV.d (PyData.tuple [PyData.int n, PyData.tuple (List.map aD as)])),
                        Sl.v (DV.d (PyData.int p)), Sl.v (DV.d (PyData.bool !decide (p ∈ List.map Prod.fst as))),
                        Sl.v (DV.d (PyData.bool !decide (p ∈ List.map Prod.snd as))), s4, Sl.no, Sl.no])
        (D.ex
          [Sl.v (DV.d (PyData.tuple [PyData.int n, PyData.tuple (List.map aD as)])), Sl.v (DV.d (PyData.int p)),
            Sl.v (DV.d (PyData.bool !decide (p ∈ List.map Prod.fst as))),
            Sl.v (DV.d (PyData.bool !decide (p ∈ List.map Prod.snd as))), s4, Sl.no, Sl.no]) := fun ht => by
    refine ev_turned_at w hp ht ⟨by rw [List.length_map]; omega, lcD_all aD (fun x => aD (turnA p x)) (fun x _ P hP => ?_) ?_⟩
    · simp only [aD, turnA, swap] at hP ⊢
      array_get_dec
      refine ⟨rfl, rfl, ?_⟩
      have e : ([PyData.int x.1, .int x.2].any fun z => PyData.eqv z (.int p)) = decide (x.1 = p ∨ x.2 = p) := by
        simp only [List.any_cons, List.any_nil, eqv_int, Bool.or_false]
        rw [← Bool.decide_or]
      rw [e]
      by_cases z : x.1 = p ∨ x.2 = p
      · rw [if_pos z] at hP
        exact ite_t (decide_eq_true z) hP
      · rw [if_neg z] at hP
        exact ite_f (decide_eq_false z) hP
    have e : as.map (fun x => aD (turnA p x)) = (as.map (turnA p)).map aD := by rw [List.map_map]; rfl
    rw [e]
    refine e_neR (cp_web (n := n) (as := as.map (turnA p))) (by decide) ?_
    array_get_dec
    exact h _ _
  by_cases a : p ∈ as.map Prod.fst
  · refine ite_t (decide_eq_true a) ?_
    by_cases b : p ∈ as.map Prod.snd
    · refine ite_t (decide_eq_true b) (told_nt (n := n) (as := as) w hp ⟨fun z => ?_, fun z => ?_⟩ ((mb10 (by omega) (by omega)).le (by decide)) ?_)
      · obtain ⟨e, he, q⟩ := List.mem_map.mp a
        exact (mem_endsL.mp z).2 e he q
      · obtain ⟨e, he, q⟩ := List.mem_map.mp b
        exact (mem_begL.mp z).2 e he q
      refine ⟨(rp_at (by omega) (by omega)).ok (by decide) (by decide), e_neR (cp_told (c := 2) (rp_at (p := p) (by omega) (by omega))) (by decide) ?_⟩
      array_get_dec
      exact h _ _
    · refine ite_f (decide_eq_false b) (turnable (.inr (mem_begL.mpr ⟨hp, fun e he q => b (List.mem_map.mpr ⟨e, he, q⟩)⟩)))
  · refine ite_f (decide_eq_false a) (turnable (.inl (mem_endsL.mpr ⟨hp, fun e he q => a (List.mem_map.mpr ⟨e, he, q⟩)⟩)))
theorem ev_law_turned_right {n : Int} {as : List Arr} {R : DV → Prop} {E : EK} (w : WebOk n as) (h : R (.d (.bool true))) : m__law_turned_right [.d (wD n as)] R E := by
  have hn := w.hi
  have h1 := w.lo
  have ha := w.len
  rw [q__law_turned_right]
  refine ⟨rfl, ?_⟩
  simp only [g__law_turned_right]
  rw [show wD n as = .tuple [.int n, .tuple (as.map aD)] from rfl]
  bv_omega
  refine loopD_st (σ := Unit) (J := Sl × Sl × Sl) PyData.int (fun _ j => [.v (.d (wD n as)), j.1, j.2.1, j.2.2, .no, .no, .no]) (fun _ _ => ()) (fun l _ => ∀ x ∈ l, 0 ≤ x ∧ x < n) (fun p l s j P hI hP => ?_) (fun x l s hI y hy => hI y (by simp [hy])) _ () (.no, .no, .no) (fun x hx => mem_irg.mp hx) fun _ j => ?_
  · ac_rfl
    exact place_step w (hI p (by simp)) fun s2 s3 => hP (_, s2, s3)
  rw [show wD n as = .tuple [.int n, .tuple (as.map aD)] from rfl]
  ac_rfl
  have r := w.rnd
  refine ev_round_of w ?_
  bv_omega
  refine turn_all w fun s1 => ?_
  ac_rfl
  exact e_eqR (cp_web (n := n) (as := as)) (by decide) h
local macro_rules | `(tactic| infer_instance) => `(tactic| refine ev_law_turned_right (by sizeOf_list_dec) ?_)

/-! k07: all together -/
def dueD (n : Int) (as : List Arr) : PD := .list [psD n as, tInt (endsL n as), tInt (begL n as), wD n (as.map swap), tInt (rnd n as)]
theorem rp_tInt {l : List Int} (h : ∀ x ∈ l, 0 ≤ x ∧ x < 9) (hl : l.length ≤ 9) : Rp 1 99 (tInt l) :=
  (Rp.tup (rpA_le (rpA_map (e := 0) (n := 10) fun x hx => Rp.int (mb10 (by have := h x hx; omega) (by have := h x hx; omega)) (by decide)) (Nat.le_refl _) (n' := 99) (by omega))).le (by decide) (by decide)
theorem rp_web {n : Int} {as : List Arr} (w : WebOk n as) : Rp 3 3000 (wD n as) := by
  have hn := w.hi
  have h1 := w.lo
  have ha := w.len
  have kas : ∀ e ∈ as, MB 10 e.1 ∧ MB 10 e.2 := fun e he => by
    obtain ⟨a, b, c, d, _⟩ := w.rng e he
    exact ⟨mb10 (by omega) (by omega), mb10 (by omega) (by omega)⟩
  exact (Rp.tup (RpA.cons (Rp.int (e := 2) (mb10 (i := n) (by omega) (by omega)) (by decide)) (RpA.cons (Rp.tup (rpA_as kas (by omega))) RpA.nil))).le (by decide) (by decide)
theorem rp_due {n : Int} {as : List Arr} (w : WebOk n as) : Rp 5 8000 (dueD n as) := by
  have hn := w.hi
  have h1 := w.lo
  obtain ⟨l1, l2⟩ := pcs_len (n := n) (L := lst n as) hn
  have i9 : ∀ p : Int → Bool, (∀ x ∈ (irg 0 n).filter p, 0 ≤ x ∧ x < 9) ∧ ((irg 0 n).filter p).length ≤ 9 := fun p => ⟨fun x hx => by
    have := mem_irg.mp (List.mem_filter.mp hx).1
    omega, Nat.le_trans (List.length_filter_le _ _) (by rw [irg_len]; omega)⟩
  have ps : Rp 2 1000 (psD n as) := by
    refine (Rp.tup (rpA_le (rpA_map (e := 1) (n := 99) fun l hl => ?_) (Nat.le_refl _) (n' := 900) (by omega)) : Rp 2 900 (psD n as)).le (by decide) (by decide)
    obtain ⟨m, _, rfl⟩ := List.mem_map.mp hl
    exact rp_tInt (i9 _).1 (i9 _).2
  have r := w.rnd
  have e1 := rp_tInt (l := endsL n as) (i9 _).1 (i9 _).2
  have e2 := rp_tInt (l := begL n as) (i9 _).1 (i9 _).2
  have e3 := rp_tInt (l := rnd n as) (fun x hx => by have := r.2.1 x hx; omega) (by omega)
  have e4 := rp_web w.swap
  exact (Rp.list (RpA.cons (ps.le (e' := 4) (by decide) (Nat.le_refl _)) (RpA.cons (e1.le (by decide) (Nat.le_refl _)) (RpA.cons (e2.le (by decide) (Nat.le_refl _)) (RpA.cons (e4.le (by decide) (Nat.le_refl _)) (RpA.cons (e3.le (by decide) (Nat.le_refl _)) RpA.nil)))))).le (by decide) (by decide)
abbrev RT (D : DEnds) : Prop := ∀ ρ, D.rt ρ (.d (.bool true))
theorem sh_m1 : PyData.shown (.int (-1)) = Str.ofString "-1" := by rfl
theorem z7 {D : DEnds} {n : Int} {as : List Arr} {l : List Sl} (hD : RT D) (w : WebOk n as) : g__law_right_7 D (.v .wel :: .v (.d (wD n as)) :: l) := by
  simp only [u__law_right_7]
  ac_rfl
  refine ev_law_turned_right w ?_
  ac_rfl
  refine ev_opposite w ?_
  ac_rfl
  refine ev_opposite w.swap ?_
  have e : (as.map swap).map swap = as := by rw [List.map_map]; exact List.map_id as
  rw [e]
  exact e_eqR (cp_web (n := n) (as := as)) (by decide) (hD _)
theorem z6 {D : DEnds} {n : Int} {as : List Arr} {s2 s3 s4 s5 s6 s7 s8 s9 s10 s11 s12 : Sl} (hD : RT D) (w : WebOk n as) : g__law_right_6 D [.v .wel, .v (.d (wD n as)), s2, s3, s4, s5, s6, s7, s8, s9, s10, s11, s12] := by
  have hn := w.hi
  have h1 := w.lo
  simp only [u__law_right_6]
  rw [show wD n as = .tuple [.int n, .tuple (as.map aD)] from rfl]
  bv_omega
  refine told_at w (.inl (by decide)) (by unfold MB; decide) ?_
  ac_rfl
  refine told_at w (.inr (Int.le_refl _)) ((mb10 (by omega) (by omega)).le (by decide)) ?_
  ac_rfl
  rw [← sh_m1]
  have c1 := cp_told (c := 1) (rp_at (p := -1) (by decide) (by decide))
  have c2 := cp_told (c := 1) (rp_at (p := n) (by omega) (by omega))
  refine ⟨(rp_at (by omega) (by omega)).ok (by decide) (by decide), e_neR (Cp.list (CpA.cons c1 (CpA.cons c2 CpA.nil)) : Cp 3 (.list [toldD 1 (.int (-1)), toldD 1 (.int n)])) (by decide) ?_⟩
  ac_rfl
  exact z7 hD w
theorem near_step {D : DEnds} {n : Int} {as : List Arr} {s2 s3 s4 s5 s6 s7 s8 s9 s10 s11 s12 : Sl} (w : WebOk n as) (h : ∀ s5 s6, D.nx [.v .wel, .v (.d (wD n as)), s2, s3, s4, s5, s6, s7, s8, s9, s10, s11, s12]) :
    g__law_right_b0 D [.v .wel, .v (.d (wD n as)), s2, s3, s4, s5, s6, s7, s8, s9, s10, s11, s12] := by
  simp only [g__law_right_b0]
  ac_rfl
  refine ev_law_near w fun v hv => ?_
  obtain ⟨b, k1, k2⟩ := hv.eq
  ac_rfl
  refine k2 _ _ ?_
  ac_rfl
  refine k1 _ _ ?_
  ac_rfl
  refine k1 _ _ ?_
  ac_rfl
  have rb : ROk (.list [.bool b, .bool b]) := (Rp.list (RpA.cons (Rp.bool (e := 0) (n := 1)) (RpA.cons (Rp.bool (n := 1)) RpA.nil))).ok (by decide) (by decide)
  refine ⟨rb, rb, ?_⟩
  bv_omega
  cases b with
  | true => bv_omega; exact h _ _
  | false =>
    bv_omega
    have hx : NoWeb v := fun R E hR => k1 R E hR
    refine lcD_all .int (fun _ => toldD 0 v) (fun i hi P hP => ?_) ?_
    · ac_rfl
      exact told_bad hx hv.rp (by decide) (by decide) hP
    have e : (irg 0 4).map (fun _ => toldD 0 v) = [toldD 0 v, toldD 0 v, toldD 0 v, toldD 0 v] := rfl
    rw [e]
    have cv := cp_told (c := 0) hv.rp
    refine ⟨hv.rp.ok (by decide) (by decide), by decide, by decide, e_neR (Cp.list (CpA.cons cv (CpA.cons cv (CpA.cons cv (CpA.cons cv CpA.nil)))) : Cp 3 (.list [toldD 0 v, toldD 0 v, toldD 0 v, toldD 0 v])) (by decide) ?_⟩
    ac_rfl
    exact h _ _
theorem z5 {D : DEnds} {n : Int} {as : List Arr} {s2 s3 s4 s5 s6 s7 s8 s9 s10 s11 s12 : Sl} (hD : RT D) (w : WebOk n as) : g__law_right_5 D [.v .wel, .v (.d (wD n as)), s2, s3, s4, s5, s6, s7, s8, s9, s10, s11, s12] := by
  simp only [u__law_right_5]
  ac_rfl
  refine ⟨⟨by decide, by decide⟩, by decide, ?_⟩
  refine loopD_st (σ := Unit) (J := Sl × Sl × Sl) PyData.int (fun _ j => [.v .wel, .v (.d (wD n as)), s2, s3, j.1, j.2.1, j.2.2, s7, s8, s9, s10, s11, s12]) (fun _ _ => ()) (fun l _ => True) (fun p l s j P hI hP => ?_) (fun x l s hI => trivial) _ () (s4, s5, s6) trivial fun _ j => ?_
  · ac_rfl
    exact near_step w fun s5 s6 => hP (_, s5, s6)
  · exact z6 hD w
theorem z4 {D : DEnds} {n : Int} {as : List Arr} {s2 s4 s5 s6 s7 s8 s9 s10 s11 s12 : Sl} (hD : RT D) (w : WebOk n as) : g__law_right_4 D [.v .wel, .v (.d (wD n as)), s2, .v (.d (dueD n as)), s4, s5, s6, s7, s8, s9, s10, s11, s12] := by
  have ro := (rp_due w).ok (by decide) (by decide)
  simp only [u__law_right_4]
  ac_rfl
  refine ev_pieces w ?_
  ac_rfl
  refine ev_ends w ?_
  ac_rfl
  refine ev_begins w ?_
  ac_rfl
  refine ev_opposite w ?_
  ac_rfl
  refine ev_round_of w ?_
  ac_rfl
  refine ⟨ro, ro, ite_t (decide_eq_true rfl) ?_⟩
  exact z5 hD w
theorem z3 {D : DEnds} {n : Int} {as : List Arr} {s2 s4 s5 s6 s7 s8 s9 s10 s11 s12 : Sl} (hD : RT D) (w : WebOk n as) : g__law_right_3 D [.v .wel, .v (.d (wD n as)), s2, .v (.d (dueD n as)), s4, s5, s6, s7, s8, s9, s10, s11, s12] := by
  have ro := (rp_due w).ok (by decide) (by decide)
  simp only [u__law_right_3]
  ac_rfl
  refine ev_pieces w ?_
  ac_rfl
  refine ev_ends w ?_
  ac_rfl
  refine ev_begins w ?_
  ac_rfl
  refine ev_opposite w ?_
  ac_rfl
  refine ev_round_of w ?_
  ac_rfl
  refine ⟨ro, ro, ite_t (decide_eq_true rfl) ?_⟩
  exact z4 hD w
theorem z1 {D : DEnds} {n : Int} {as : List Arr} {s2 s3 s4 s5 s6 s12 : Sl} (hD : RT D) (w : WebOk n as) : g__law_right_1 D [.v .wel, .v (.d (wD n as)), s2, s3, s4, s5, s6, .no, .no, .no, .no, .no, s12] := by
  have hn := w.hi
  have h1 := w.lo
  have ha := w.len
  simp only [u__law_right_1, u__law_right_2]
  rw [show wD n as = .tuple [.int n, .tuple (as.map aD)] from rfl]
  bv_omega
  rw [show as.map (fun x => PyData.tuple [.int x.2, .int x.1]) = (as.map swap).map aD by rw [List.map_map]; rfl]
  exact z3 hD w
theorem ev_right : RightFn m__law_right := by
  intro R hR
  rw [q__law_right]
  refine ⟨rfl, ?_⟩
  simp only [g__law_right, u__law_right_0]
  ac_rfl
  refine ev_law_web (by decide) (by decide) (by decide) (by decide) fun n as w _ _ => ?_
  ac_rfl
  exact z1 (fun ρ => hR) w

end Law
namespace Law
open PySem PySem.Spec PyProof.Rows L2 Wb
theorem pl_0 {α : Type} : ∀ us ws : List α, (px_0 us ws).length = 1 → us = [] ∧ ∃ a, ws = [a] := by
  intro us ws h
  unfold px_0 at h
  split at h
  · exact ⟨rfl, _, rfl⟩
  · simp at h
theorem pv_0 {vs zs : List V} {us ws : List Value} (r : Vals vs us) (z0 : Vals zs ws) : Vals (px_0 vs zs) (px_0 us ws) := by
  cases r with
  | cons _ _ => exact .nil
  | nil =>
    cases z0 with
    | nil => exact .nil
    | cons ha z1 =>
      cases z1 with
      | nil => exact (.cons ha .nil)
      | cons _ _ => exact .nil

theorem pd_0 {K : Frag} {n : En} (S : Hp) (vs : List V) (xs : List DV) (zs : List V) (ys : List DV) (r : DvAll K n S vs xs) (z0 : DvAll K n S zs ys) : DvAll K n S (px_0 vs zs) (px_0 xs ys) := by
  cases r with
  | cons _ _ => exact .nil
  | nil =>
    cases z0 with
    | nil => exact .nil
    | cons ha z1 =>
      cases z1 with
      | nil => exact (.cons ha .nil)
      | cons _ _ => exact .nil

theorem pl_10 {α : Type} : ∀ us ws : List α, (px_10 us ws).length = 2 → us = [] ∧ ∃ a b, ws = [a, b] := by
  intro us ws h
  unfold px_10 at h
  split at h
  · exact ⟨rfl, _, _, rfl⟩
  · simp at h
theorem pv_10 {vs zs : List V} {us ws : List Value} (r : Vals vs us) (z0 : Vals zs ws) : Vals (px_10 vs zs) (px_10 us ws) := by
  cases r with
  | cons _ _ => exact .nil
  | nil =>
    cases z0 with
    | nil => exact .nil
    | cons ha z1 =>
      cases z1 with
      | nil => exact .nil
      | cons hb z2 =>
        cases z2 with
        | nil => exact (.cons hb (.cons ha .nil))
        | cons _ _ => exact .nil

theorem pd_10 {K : Frag} {n : En} (S : Hp) (vs : List V) (xs : List DV) (zs : List V) (ys : List DV) (r : DvAll K n S vs xs) (z0 : DvAll K n S zs ys) : DvAll K n S (px_10 vs zs) (px_10 xs ys) := by
  cases r with
  | cons _ _ => exact .nil
  | nil =>
    cases z0 with
    | nil => exact .nil
    | cons ha z1 =>
      cases z1 with
      | nil => exact .nil
      | cons hb z2 =>
        cases z2 with
        | nil => exact (.cons hb (.cons ha .nil))
        | cons _ _ => exact .nil

theorem pl_01 {α : Type} : ∀ us ws : List α, (px_01 us ws).length = 2 → us = [] ∧ ∃ a b, ws = [a, b] := by
  intro us ws h
  unfold px_01 at h
  split at h
  · exact ⟨rfl, _, _, rfl⟩
  · simp at h
theorem pv_01 {vs zs : List V} {us ws : List Value} (r : Vals vs us) (z0 : Vals zs ws) : Vals (px_01 vs zs) (px_01 us ws) := by
  cases r with
  | cons _ _ => exact .nil
  | nil =>
    cases z0 with
    | nil => exact .nil
    | cons ha z1 =>
      cases z1 with
      | nil => exact .nil
      | cons hb z2 =>
        cases z2 with
        | nil => exact (.cons ha (.cons hb .nil))
        | cons _ _ => exact .nil

theorem pd_01 {K : Frag} {n : En} (S : Hp) (vs : List V) (xs : List DV) (zs : List V) (ys : List DV) (r : DvAll K n S vs xs) (z0 : DvAll K n S zs ys) : DvAll K n S (px_01 vs zs) (px_01 xs ys) := by
  cases r with
  | cons _ _ => exact .nil
  | nil =>
    cases z0 with
    | nil => exact .nil
    | cons ha z1 =>
      cases z1 with
      | nil => exact .nil
      | cons hb z2 =>
        cases z2 with
        | nil => exact (.cons ha (.cons hb .nil))
        | cons _ _ => exact .nil

def top (i : Nat) : Stmt := PySem.Challenge.pw_spacewebs_k07_what_webs_are.main.body.getD i (.Pass ⟨0, 0, 0, 0⟩)
abbrev s_is_integer : Stmt := top 6
theorem sc_is_integer : FnScope ["value"] ["value"] (defScope s_is_integer) := ⟨rfl, rfl, rfl, by decide +kernel, rfl, by decide +kernel, by decide +kernel⟩
abbrev s_is_between : Stmt := top 7
theorem sc_is_between : FnScope ["value", "low", "high"] ["value", "low", "high"] (defScope s_is_between) := ⟨rfl, rfl, rfl, by decide +kernel, rfl, by decide +kernel, by decide +kernel⟩
abbrev s_is_tuple : Stmt := top 8
theorem sc_is_tuple : FnScope ["value", "low", "high"] ["value", "low", "high"] (defScope s_is_tuple) := ⟨rfl, rfl, rfl, by decide +kernel, rfl, by decide +kernel, by decide +kernel⟩
abbrev s_anew : Stmt := top 9
theorem sc_anew : FnScope ["value", "part"] ["value"] (defScope s_anew) := ⟨rfl, rfl, rfl, by decide +kernel, rfl, by decide +kernel, by decide +kernel⟩
abbrev s_rounded : Stmt := top 13
theorem sc_rounded : FnScope ["web", "many", "arrows", "found", "turn", "some", "barred", "at", "one", "other"] ["web"] (defScope s_rounded) := ⟨rfl, rfl, rfl, by decide +kernel, rfl, by decide +kernel, by decide +kernel⟩
abbrev s_is_arrow : Stmt := top 14
theorem sc_is_arrow : FnScope ["many", "value"] ["many", "value"] (defScope s_is_arrow) := ⟨rfl, rfl, rfl, by decide +kernel, rfl, by decide +kernel, by decide +kernel⟩
abbrev s_is_web : Stmt := top 15
theorem sc_is_web : FnScope ["value", "arrow"] ["value"] (defScope s_is_web) := ⟨rfl, rfl, rfl, by decide +kernel, rfl, by decide +kernel, by decide +kernel⟩
abbrev s_need_web : Stmt := top 16
theorem sc_need_web : FnScope ["web"] ["web"] (defScope s_need_web) := ⟨rfl, rfl, rfl, by decide +kernel, rfl, by decide +kernel, by decide +kernel⟩
abbrev s_need_place : Stmt := top 17
theorem sc_need_place : FnScope ["web", "place"] ["web", "place"] (defScope s_need_place) := ⟨rfl, rfl, rfl, by decide +kernel, rfl, by decide +kernel, by decide +kernel⟩
abbrev s_need_at : Stmt := top 18
theorem sc_need_at : FnScope ["web", "place"] ["web", "place"] (defScope s_need_at) := ⟨rfl, rfl, rfl, by decide +kernel, rfl, by decide +kernel, by decide +kernel⟩
abbrev s_ends_in : Stmt := top 19
theorem sc_ends_in : FnScope ["web", "froms", "one", "other", "at"] ["web"] (defScope s_ends_in) := ⟨rfl, rfl, rfl, by decide +kernel, rfl, by decide +kernel, by decide +kernel⟩
abbrev s_opposite_in : Stmt := top 21
theorem sc_opposite_in : FnScope ["web", "one", "other"] ["web"] (defScope s_opposite_in) := ⟨rfl, rfl, rfl, by decide +kernel, rfl, by decide +kernel, by decide +kernel⟩
abbrev s_begins_in : Stmt := top 20
theorem sc_begins_in : FnScope ["web"] ["web"] (defScope s_begins_in) := ⟨rfl, rfl, rfl, by decide +kernel, rfl, by decide +kernel, by decide +kernel⟩
abbrev s_turned_web : Stmt := top 22
theorem sc_turned_web : FnScope ["web", "place", "one", "other"] ["web", "place"] (defScope s_turned_web) := ⟨rfl, rfl, rfl, by decide +kernel, rfl, by decide +kernel, by decide +kernel⟩
abbrev s_need_turnable : Stmt := top 23
theorem sc_need_turnable : FnScope ["web", "place"] ["web", "place"] (defScope s_need_turnable) := ⟨rfl, rfl, rfl, by decide +kernel, rfl, by decide +kernel, by decide +kernel⟩
abbrev s_pieces_in : Stmt := top 24
theorem sc_pieces_in : FnScope ["web", "marks", "turn", "one", "other", "least", "at", "mark"] ["web"] (defScope s_pieces_in) := ⟨rfl, rfl, rfl, by decide +kernel, rfl, by decide +kernel, by decide +kernel⟩
abbrev s_pieces : Stmt := top 25
theorem sc_pieces : FnScope ["web", "piece"] ["web"] (defScope s_pieces) := ⟨rfl, rfl, rfl, by decide +kernel, rfl, by decide +kernel, by decide +kernel⟩
abbrev s_ends : Stmt := top 26
theorem sc_ends : FnScope ["web"] ["web"] (defScope s_ends) := ⟨rfl, rfl, rfl, by decide +kernel, rfl, by decide +kernel, by decide +kernel⟩
abbrev s_begins : Stmt := top 27
theorem sc_begins : FnScope ["web"] ["web"] (defScope s_begins) := ⟨rfl, rfl, rfl, by decide +kernel, rfl, by decide +kernel, by decide +kernel⟩
abbrev s_opposite : Stmt := top 28
theorem sc_opposite : FnScope ["web"] ["web"] (defScope s_opposite) := ⟨rfl, rfl, rfl, by decide +kernel, rfl, by decide +kernel, by decide +kernel⟩
abbrev s_turned_at : Stmt := top 29
theorem sc_turned_at : FnScope ["web", "place"] ["web", "place"] (defScope s_turned_at) := ⟨rfl, rfl, rfl, by decide +kernel, rfl, by decide +kernel, by decide +kernel⟩
abbrev s_round_of : Stmt := top 30
theorem sc_round_of : FnScope ["web"] ["web"] (defScope s_round_of) := ⟨rfl, rfl, rfl, by decide +kernel, rfl, by decide +kernel, by decide +kernel⟩
abbrev s__law_well : Stmt := top 32
theorem sc__law_well : FnScope ["script", "k", "cell", "whole", "part", "mixed"] ["script", "k"] (defScope s__law_well) := ⟨rfl, rfl, rfl, by decide +kernel, rfl, by decide +kernel, by decide +kernel⟩
abbrev s__law_draw : Stmt := top 33
theorem sc__law_draw : FnScope ["well", "many", "found", "step", "mixed"] ["well", "many"] (defScope s__law_draw) := ⟨rfl, rfl, rfl, by decide +kernel, rfl, by decide +kernel, by decide +kernel⟩
abbrev s__law_order : Stmt := top 34
theorem sc__law_order : FnScope ["well", "many", "left", "found", "turn"] ["well", "many"] (defScope s__law_order) := ⟨rfl, rfl, rfl, by decide +kernel, rfl, by decide +kernel, by decide +kernel⟩
abbrev s__law_web : Stmt := top 35
theorem sc__law_web : FnScope ["well", "most", "arrows", "many", "found", "order", "turn", "one"] ["well", "most", "arrows"] (defScope s__law_web) := ⟨rfl, rfl, rfl, by decide +kernel, rfl, by decide +kernel, by decide +kernel⟩
abbrev s__law_is_count : Stmt := top 36
theorem sc__law_is_count : FnScope ["value", "low", "high"] ["value", "low", "high"] (defScope s__law_is_count) := ⟨rfl, rfl, rfl, by decide +kernel, rfl, by decide +kernel, by decide +kernel⟩
abbrev s__law_reached : Stmt := top 37
theorem sc__law_reached : FnScope ["many", "arrows", "place", "found", "turn", "begin", "end"] ["many", "arrows", "place"] (defScope s__law_reached) := ⟨rfl, rfl, rfl, by decide +kernel, rfl, by decide +kernel, by decide +kernel⟩
abbrev s__law_is_web : Stmt := top 38
theorem sc__law_is_web : FnScope ["value", "arrow", "own", "place"] ["value"] (defScope s__law_is_web) := ⟨rfl, rfl, rfl, by decide +kernel, rfl, by decide +kernel, by decide +kernel⟩
abbrev s__law_near : Stmt := top 39
theorem sc__law_near : FnScope ["well", "web", "many", "arrows", "some", "begin", "end"] ["well", "web"] (defScope s__law_near) := ⟨rfl, rfl, rfl, by decide +kernel, rfl, by decide +kernel, by decide +kernel⟩
abbrev s__law_pieces : Stmt := top 40
theorem sc__law_pieces : FnScope ["web", "left", "found", "piece", "turn", "more", "begin", "end", "place"] ["web"] (defScope s__law_pieces) := ⟨rfl, rfl, rfl, by decide +kernel, rfl, by decide +kernel, by decide +kernel⟩
abbrev s__law_round : Stmt := top 41
theorem sc__law_round : FnScope ["web", "found", "turn", "place", "begin", "end"] ["web"] (defScope s__law_round) := ⟨rfl, rfl, rfl, by decide +kernel, rfl, by decide +kernel, by decide +kernel⟩
abbrev s__law_told : Stmt := top 42
theorem sc__law_told : FnScope ["way", "web", "place", "caught", "e", "kinds", "at"] ["way", "web", "place"] (defScope s__law_told) := ⟨rfl, rfl, rfl, by decide +kernel, rfl, by decide +kernel, by decide +kernel⟩
abbrev s__law_turned_right : Stmt := top 43
theorem sc__law_turned_right : FnScope ["web", "place", "is_end", "is_begin", "now", "begin", "end"] ["web"] (defScope s__law_turned_right) := ⟨rfl, rfl, rfl, by decide +kernel, rfl, by decide +kernel, by decide +kernel⟩
abbrev s__law_right : Stmt := top 44
theorem sc__law_right : FnScope ["well", "web", "some", "due", "turn", "value", "own", "place", "arrow", "side", "begin", "end", "way"] ["well"] (defScope s__law_right) := ⟨rfl, rfl, rfl, by decide +kernel, rfl, by decide +kernel, by decide +kernel⟩
abbrev s_law : Stmt := top 45
theorem sc_law : FnScope ["script", "k", "well", "turn"] ["script"] (defScope s_law) := ⟨rfl, rfl, rfl, by decide +kernel, rfl, by decide +kernel, by decide +kernel⟩
structure Fx (P : Program) (K : Frag) (mg : Str → Option Value) where
  a_is_integer : Addr
  fd_is_integer : FuncData
  F_is_integer : Fun K "is_integer" "is_integer" s_is_integer a_is_integer fd_is_integer
  M_is_integer : mg "is_integer" = some (.ref a_is_integer)
  B_is_integer : Binds K fd_is_integer ["value"] []
  a_is_between : Addr
  fd_is_between : FuncData
  F_is_between : Fun K "is_between" "is_between" s_is_between a_is_between fd_is_between
  M_is_between : mg "is_between" = some (.ref a_is_between)
  B_is_between : Binds K fd_is_between ["value", "low", "high"] []
  a_is_tuple : Addr
  fd_is_tuple : FuncData
  F_is_tuple : Fun K "is_tuple" "is_tuple" s_is_tuple a_is_tuple fd_is_tuple
  M_is_tuple : mg "is_tuple" = some (.ref a_is_tuple)
  B_is_tuple : Binds K fd_is_tuple ["value", "low", "high"] []
  a_anew : Addr
  fd_anew : FuncData
  F_anew : Fun K "anew" "anew" s_anew a_anew fd_anew
  M_anew : mg "anew" = some (.ref a_anew)
  B_anew : Binds K fd_anew ["value"] []
  a_rounded : Addr
  fd_rounded : FuncData
  F_rounded : Fun K "rounded" "rounded" s_rounded a_rounded fd_rounded
  M_rounded : mg "rounded" = some (.ref a_rounded)
  B_rounded : Binds K fd_rounded ["web"] []
  a_is_arrow : Addr
  fd_is_arrow : FuncData
  F_is_arrow : Fun K "is_arrow" "is_arrow" s_is_arrow a_is_arrow fd_is_arrow
  M_is_arrow : mg "is_arrow" = some (.ref a_is_arrow)
  B_is_arrow : Binds K fd_is_arrow ["many", "value"] []
  a_is_web : Addr
  fd_is_web : FuncData
  F_is_web : Fun K "is_web" "is_web" s_is_web a_is_web fd_is_web
  M_is_web : mg "is_web" = some (.ref a_is_web)
  B_is_web : Binds K fd_is_web ["value"] []
  a_need_web : Addr
  fd_need_web : FuncData
  F_need_web : Fun K "need_web" "need_web" s_need_web a_need_web fd_need_web
  M_need_web : mg "need_web" = some (.ref a_need_web)
  B_need_web : Binds K fd_need_web ["web"] []
  a_need_place : Addr
  fd_need_place : FuncData
  F_need_place : Fun K "need_place" "need_place" s_need_place a_need_place fd_need_place
  M_need_place : mg "need_place" = some (.ref a_need_place)
  B_need_place : Binds K fd_need_place ["web", "place"] []
  a_need_at : Addr
  fd_need_at : FuncData
  F_need_at : Fun K "need_at" "need_at" s_need_at a_need_at fd_need_at
  M_need_at : mg "need_at" = some (.ref a_need_at)
  B_need_at : Binds K fd_need_at ["web", "place"] []
  a_ends_in : Addr
  fd_ends_in : FuncData
  F_ends_in : Fun K "ends_in" "ends_in" s_ends_in a_ends_in fd_ends_in
  M_ends_in : mg "ends_in" = some (.ref a_ends_in)
  B_ends_in : Binds K fd_ends_in ["web"] []
  a_opposite_in : Addr
  fd_opposite_in : FuncData
  F_opposite_in : Fun K "opposite_in" "opposite_in" s_opposite_in a_opposite_in fd_opposite_in
  M_opposite_in : mg "opposite_in" = some (.ref a_opposite_in)
  B_opposite_in : Binds K fd_opposite_in ["web"] []
  a_begins_in : Addr
  fd_begins_in : FuncData
  F_begins_in : Fun K "begins_in" "begins_in" s_begins_in a_begins_in fd_begins_in
  M_begins_in : mg "begins_in" = some (.ref a_begins_in)
  B_begins_in : Binds K fd_begins_in ["web"] []
  a_turned_web : Addr
  fd_turned_web : FuncData
  F_turned_web : Fun K "turned_web" "turned_web" s_turned_web a_turned_web fd_turned_web
  M_turned_web : mg "turned_web" = some (.ref a_turned_web)
  B_turned_web : Binds K fd_turned_web ["web", "place"] []
  a_need_turnable : Addr
  fd_need_turnable : FuncData
  F_need_turnable : Fun K "need_turnable" "need_turnable" s_need_turnable a_need_turnable fd_need_turnable
  M_need_turnable : mg "need_turnable" = some (.ref a_need_turnable)
  B_need_turnable : Binds K fd_need_turnable ["web", "place"] []
  a_pieces_in : Addr
  fd_pieces_in : FuncData
  F_pieces_in : Fun K "pieces_in" "pieces_in" s_pieces_in a_pieces_in fd_pieces_in
  M_pieces_in : mg "pieces_in" = some (.ref a_pieces_in)
  B_pieces_in : Binds K fd_pieces_in ["web"] []
  a_pieces : Addr
  fd_pieces : FuncData
  F_pieces : Fun K "pieces" "pieces" s_pieces a_pieces fd_pieces
  M_pieces : mg "pieces" = some (.ref a_pieces)
  B_pieces : Binds K fd_pieces ["web"] []
  a_ends : Addr
  fd_ends : FuncData
  F_ends : Fun K "ends" "ends" s_ends a_ends fd_ends
  M_ends : mg "ends" = some (.ref a_ends)
  B_ends : Binds K fd_ends ["web"] []
  a_begins : Addr
  fd_begins : FuncData
  F_begins : Fun K "begins" "begins" s_begins a_begins fd_begins
  M_begins : mg "begins" = some (.ref a_begins)
  B_begins : Binds K fd_begins ["web"] []
  a_opposite : Addr
  fd_opposite : FuncData
  F_opposite : Fun K "opposite" "opposite" s_opposite a_opposite fd_opposite
  M_opposite : mg "opposite" = some (.ref a_opposite)
  B_opposite : Binds K fd_opposite ["web"] []
  a_turned_at : Addr
  fd_turned_at : FuncData
  F_turned_at : Fun K "turned_at" "turned_at" s_turned_at a_turned_at fd_turned_at
  M_turned_at : mg "turned_at" = some (.ref a_turned_at)
  B_turned_at : Binds K fd_turned_at ["web", "place"] []
  a_round_of : Addr
  fd_round_of : FuncData
  F_round_of : Fun K "round_of" "round_of" s_round_of a_round_of fd_round_of
  M_round_of : mg "round_of" = some (.ref a_round_of)
  B_round_of : Binds K fd_round_of ["web"] []
  a__law_well : Addr
  fd__law_well : FuncData
  F__law_well : Fun K "_law_well" "_law_well" s__law_well a__law_well fd__law_well
  M__law_well : mg "_law_well" = some (.ref a__law_well)
  B__law_well : Binds K fd__law_well ["script", "k"] []
  a__law_draw : Addr
  fd__law_draw : FuncData
  F__law_draw : Fun K "_law_draw" "_law_draw" s__law_draw a__law_draw fd__law_draw
  M__law_draw : mg "_law_draw" = some (.ref a__law_draw)
  B__law_draw : Binds K fd__law_draw ["well", "many"] []
  a__law_order : Addr
  fd__law_order : FuncData
  F__law_order : Fun K "_law_order" "_law_order" s__law_order a__law_order fd__law_order
  M__law_order : mg "_law_order" = some (.ref a__law_order)
  B__law_order : Binds K fd__law_order ["well", "many"] []
  a__law_web : Addr
  fd__law_web : FuncData
  F__law_web : Fun K "_law_web" "_law_web" s__law_web a__law_web fd__law_web
  M__law_web : mg "_law_web" = some (.ref a__law_web)
  B__law_web : Binds K fd__law_web ["well", "most", "arrows"] []
  a__law_is_count : Addr
  fd__law_is_count : FuncData
  F__law_is_count : Fun K "_law_is_count" "_law_is_count" s__law_is_count a__law_is_count fd__law_is_count
  M__law_is_count : mg "_law_is_count" = some (.ref a__law_is_count)
  B__law_is_count : Binds K fd__law_is_count ["value", "low", "high"] []
  a__law_reached : Addr
  fd__law_reached : FuncData
  F__law_reached : Fun K "_law_reached" "_law_reached" s__law_reached a__law_reached fd__law_reached
  M__law_reached : mg "_law_reached" = some (.ref a__law_reached)
  B__law_reached : Binds K fd__law_reached ["many", "arrows", "place"] []
  a__law_is_web : Addr
  fd__law_is_web : FuncData
  F__law_is_web : Fun K "_law_is_web" "_law_is_web" s__law_is_web a__law_is_web fd__law_is_web
  M__law_is_web : mg "_law_is_web" = some (.ref a__law_is_web)
  B__law_is_web : Binds K fd__law_is_web ["value"] []
  a__law_near : Addr
  fd__law_near : FuncData
  F__law_near : Fun K "_law_near" "_law_near" s__law_near a__law_near fd__law_near
  M__law_near : mg "_law_near" = some (.ref a__law_near)
  B__law_near : Binds K fd__law_near ["well", "web"] []
  a__law_pieces : Addr
  fd__law_pieces : FuncData
  F__law_pieces : Fun K "_law_pieces" "_law_pieces" s__law_pieces a__law_pieces fd__law_pieces
  M__law_pieces : mg "_law_pieces" = some (.ref a__law_pieces)
  B__law_pieces : Binds K fd__law_pieces ["web"] []
  a__law_round : Addr
  fd__law_round : FuncData
  F__law_round : Fun K "_law_round" "_law_round" s__law_round a__law_round fd__law_round
  M__law_round : mg "_law_round" = some (.ref a__law_round)
  B__law_round : Binds K fd__law_round ["web"] []
  a__law_told : Addr
  fd__law_told : FuncData
  F__law_told : Fun K "_law_told" "_law_told" s__law_told a__law_told fd__law_told
  M__law_told : mg "_law_told" = some (.ref a__law_told)
  B__law_told : Binds K fd__law_told ["way", "web", "place"] []
  a__law_turned_right : Addr
  fd__law_turned_right : FuncData
  F__law_turned_right : Fun K "_law_turned_right" "_law_turned_right" s__law_turned_right a__law_turned_right fd__law_turned_right
  M__law_turned_right : mg "_law_turned_right" = some (.ref a__law_turned_right)
  B__law_turned_right : Binds K fd__law_turned_right ["web"] []
  a__law_right : Addr
  fd__law_right : FuncData
  F__law_right : Fun K "_law_right" "_law_right" s__law_right a__law_right fd__law_right
  M__law_right : mg "_law_right" = some (.ref a__law_right)
  B__law_right : Binds K fd__law_right ["well"] []
  a_law : Addr
  fd_law : FuncData
  F_law : Fun K "law" "law" s_law a_law fd_law
  M_law : mg "law" = some (.ref a_law)
  B_law : Binds K fd_law ["script"] []
  K_round_of_0 : KBinds K fd_round_of ["web"] ["web"] px_0 px_0
  K_turned_at_10 : KBinds K fd_turned_at ["web", "place"] ["place", "web"] px_10 px_10
  K_turned_at_01 : KBinds K fd_turned_at ["web", "place"] ["web", "place"] px_01 px_01
  K_pieces_0 : KBinds K fd_pieces ["web"] ["web"] px_0 px_0
  K_ends_0 : KBinds K fd_ends ["web"] ["web"] px_0 px_0
  K_begins_0 : KBinds K fd_begins ["web"] ["web"] px_0 px_0
  K_opposite_0 : KBinds K fd_opposite ["web"] ["web"] px_0 px_0
  K_is_web_0 : KBinds K fd_is_web ["value"] ["value"] px_0 px_0
  m_abs : mg "abs" = none
  m_all : mg "all" = none
  m_any : mg "any" = none
  m_bool : mg "bool" = none
  m_int : mg "int" = none
  m_isinstance : mg "isinstance" = none
  m_len : mg "len" = none
  m_list : mg "list" = none
  m_max : mg "max" = none
  m_min : mg "min" = none
  m_range : mg "range" = none
  m_repr : mg "repr" = none
  m_set : mg "set" = none
  m_sorted : mg "sorted" = none
  m_tuple : mg "tuple" = none
  a_PLACES : Addr
  u_PLACES : Value
  M_PLACES : mg "PLACES" = some u_PLACES
  R_PLACES : RelV (V.int 9) u_PLACES
  Q_PLACES : ∀ S, Dq K S (V.int 9) (.int 9)
  a_ARROWS : Addr
  u_ARROWS : Value
  M_ARROWS : mg "ARROWS" = some u_ARROWS
  R_ARROWS : RelV (V.int 12) u_ARROWS
  Q_ARROWS : ∀ S, Dq K S (V.int 12) (.int 12)
  aD : Addr
  fI : Addr
  EB : ErrBase P K mg aD fI
  CT : Nat → Addr
  EC : ∀ c, ErrCls K aD fI (CT c)
  IC : ∀ c, IsC K (CT c)
  M_WebsError : mg "WebsError" = some (.ref aD)
  XM : ∀ c, PySem.W.exmOne K (.ref (CT c)) (.ref aD) = some true
  ME_InvalidWeb : mg "InvalidWeb" = some (.ref (CT 0))
  KN_InvalidWeb : PySem.W.kitOne K (.type "NoneType") (.ref (CT 0)) = some false
  KL_InvalidWeb : ∀ c, PySem.W.kitOne K (.ref (CT c)) (.ref (CT 0)) = some (subE c 0)
  ME_InvalidPlace : mg "InvalidPlace" = some (.ref (CT 1))
  KN_InvalidPlace : PySem.W.kitOne K (.type "NoneType") (.ref (CT 1)) = some false
  KL_InvalidPlace : ∀ c, PySem.W.kitOne K (.ref (CT c)) (.ref (CT 1)) = some (subE c 1)
  ME_NotTurnable : mg "NotTurnable" = some (.ref (CT 2))
  KN_NotTurnable : PySem.W.kitOne K (.type "NoneType") (.ref (CT 2)) = some false
  KL_NotTurnable : ∀ c, PySem.W.kitOne K (.ref (CT c)) (.ref (CT 2)) = some (subE c 2)
section
variable {P : Program} {w : World} {K : Frag} {mg : Str → Option Value} {base : Heap} (X : Fx P K mg)
theorem d_is_integer :
    DefG P w K mg base "is_integer" ["value"] 1 X.a_is_integer X.fd_is_integer (spD K X.CT 0 m_is_integer) := by
  rw [q_is_integer]
  exact defG_of (CT := X.CT) (g := g_is_integer) (nl := 0) (κ := 0) X.F_is_integer sc_is_integer X.M_is_integer X.B_is_integer rfl fun cdv A outer s H E wl S0 B => jb_le
    (jb_one (js_ret (je_and (j_isi hT_int b_int X.m_isinstance X.m_int (o 0)) (je_one (je_not (j_isi hT_bool b_bool X.m_isinstance X.m_bool (o 0))))))) (by decide)
theorem d_is_between
    (D_is_integer : DefG P w K mg base "is_integer" ["value"] 1 X.a_is_integer X.fd_is_integer (spD K X.CT 0 m_is_integer)) :
    DefG P w K mg base "is_between" ["value", "low", "high"] 2 X.a_is_between X.fd_is_between (spD K X.CT 0 m_is_between) := by
  rw [q_is_between]
  exact defG_of (CT := X.CT) (g := g_is_between) (nl := 0) (κ := 0) X.F_is_between sc_is_between X.M_is_between X.B_is_between rfl fun cdv A outer s H E wl S0 B => jb_le
    (jb_one (js_ret (je_and (cl D_is_integer B.c (by decide) (ac (v 0) ja_nil)) (je_one (je_chain op_le oI_le op_le oI_le (o 1) (o 0) (o 2) (by rfl)))))) (by decide)
theorem d_is_tuple :
    DefG P w K mg base "is_tuple" ["value", "low", "high"] 1 X.a_is_tuple X.fd_is_tuple (spD K X.CT 0 m_is_tuple) := by
  rw [q_is_tuple]
  exact defG_of (CT := X.CT) (g := g_is_tuple) (nl := 0) (κ := 0) X.F_is_tuple sc_is_tuple X.M_is_tuple X.B_is_tuple rfl fun cdv A outer s H E wl S0 B => jb_le
    (jb_one (js_ret (je_and (j_isi hT_tuple b_tuple X.m_isinstance X.m_tuple (o 0)) (je_and (je_ge (je_o (j_len rfl X.m_len (oc (o 0) jo_nil))) (o 1)) (je_one (je_or (je_isN (o 2)) (je_one (je_le (je_o (j_len rfl X.m_len (oc (o 0) jo_nil))) (o 2))))))))) (by decide)
theorem st_anew {k : Nat} {G : Fn} (D_anew : DefG P w K mg base "anew" ["value"] k X.a_anew X.fd_anew (spD K X.CT 0 G)) : DefG P w K mg base "anew" ["value"] (k + 1) X.a_anew X.fd_anew (spD K X.CT 0 (fnB 1 1 (g_anew G))) :=
  defG_of (CT := X.CT) (g := g_anew G) (nl := 1) (κ := 0) X.F_anew sc_anew X.M_anew X.B_anew rfl fun cdv A outer s H E wl S0 B => jb_le
    (jb_cons (js_if (t_v (j_isi hT_list b_list X.m_isinstance X.m_list (o 0))) (jb_one (js_ret (jn_e (lc [("part", 1)] 100000 B.c (ji_seq (v 0)) (fun s1 H1 q1 l1 p1 => (gn (Cok.blk B.c s1 H1 q1 l1 p1) 1)) (fun s1 H1 q1 l1 p1 => jts_nil) (fun s1 H1 q1 l1 p1 => (cl D_anew (Cok.blk B.c s1 H1 q1 l1 p1) (Nat.le_refl _) (ac (v 1) ja_nil))))))) jb_nil)
    (jb_cons (js_if (t_v (j_isi hT_tuple b_tuple X.m_isinstance X.m_tuple (o 0))) (jb_one (js_ret (j_tuple rfl X.m_tuple (oc (je_o (jn_e (lc [("part", 1)] 100000 B.c (ji_seq (v 0)) (fun s1 H1 q1 l1 p1 => (gn (Cok.blk B.c s1 H1 q1 l1 p1) 1)) (fun s1 H1 q1 l1 p1 => jts_nil) (fun s1 H1 q1 l1 p1 => (cl D_anew (Cok.blk B.c s1 H1 q1 l1 p1) (Nat.le_refl _) (ac (v 1) ja_nil)))))) jo_nil)))) jb_nil)
    (jb_one (js_ret (v 0))))) (by decide)
theorem d_rounded :
    DefG P w K mg base "rounded" ["web"] 1 X.a_rounded X.fd_rounded (spD K X.CT 0 m_rounded) := by
  rw [q_rounded]
  exact defG_of (CT := X.CT) (g := g_rounded) (nl := 9) (κ := 0) X.F_rounded sc_rounded X.M_rounded X.B_rounded rfl fun cdv A outer s H E wl S0 B => jb_le
    (jb_cons (sa (v 0) (gt B.c 2 (gc (gn B.c 1) (gc (gn B.c 2) jgs_nil)) (gs_len1 gm_name (gs_len1 gm_name gs_len0))))
    (jb_cons (sn B.c 3 (jn_lst ja_nil))
    (jb_cons (sf 100000 B (r1 X.m_range (oc (o 1) jo_nil)) (gn B.c 4) (jb_cons (js_asF (slc 5 [("at", 7)] 100000 B.c (r1 X.m_range (oc (o 1) jo_nil)) (fun s1 H1 q1 l1 p1 => (gn (Cok.blk B.c s1 H1 q1 l1 p1) 7)) (fun s1 H1 q1 l1 p1 => (jts_one (t_nin (Cok.blk B.c s1 H1 q1 l1 p1) (o 7) (o 3)))) (fun s1 H1 q1 l1 p1 => (v 7))))
    (jb_cons (ss B.c 6 (jn_e (lc [("one", 8), ("other", 9)] 100000 B.c (ji_seq (v 2)) (fun s1 H1 q1 l1 p1 => (gt (Cok.blk B.c s1 H1 q1 l1 p1) 2 (gc (gn (Cok.blk B.c s1 H1 q1 l1 p1) 8) (gc (gn (Cok.blk B.c s1 H1 q1 l1 p1) 9) jgs_nil)) (gs_len1 gm_name (gs_len1 gm_name gs_len0)))) (fun s1 H1 q1 l1 p1 => (jts_one (t_nin (Cok.blk B.c s1 H1 q1 l1 p1) (o 9) (o 3)))) (fun s1 H1 q1 l1 p1 => (v 8)))))
    (jb_cons (js_asF (slc 5 [("at", 7)] 100000 B.c (ji_seq (v 5)) (fun s1 H1 q1 l1 p1 => (gn (Cok.blk B.c s1 H1 q1 l1 p1) 7)) (fun s1 H1 q1 l1 p1 => (jts_one (t_nin (Cok.blk B.c s1 H1 q1 l1 p1) (o 7) (o 6)))) (fun s1 H1 q1 l1 p1 => (v 7))))
    (jb_cons (js_if (t_eq B.c (o 5) (je_o (jn_e (jn_lst ja_nil)))) (jb_one js_break) jb_nil)
    (jb_one (sap 3 (j_ix (o 5) (je_o je_int)))))))))
    (jb_one (js_ret (j_tuple rfl X.m_tuple (oc (o 3) jo_nil))))))) (by decide)
theorem d_is_arrow
    (D_is_tuple : DefG P w K mg base "is_tuple" ["value", "low", "high"] 1 X.a_is_tuple X.fd_is_tuple (spD K X.CT 0 m_is_tuple))
    (D_is_between : DefG P w K mg base "is_between" ["value", "low", "high"] 2 X.a_is_between X.fd_is_between (spD K X.CT 0 m_is_between)) :
    DefG P w K mg base "is_arrow" ["many", "value"] 3 X.a_is_arrow X.fd_is_arrow (spD K X.CT 0 m_is_arrow) := by
  rw [q_is_arrow]
  exact defG_of (CT := X.CT) (g := g_is_arrow) (nl := 0) (κ := 0) X.F_is_arrow sc_is_arrow X.M_is_arrow X.B_is_arrow rfl fun cdv A outer s H E wl S0 B => jb_le
    (jb_cons (js_if (jw_pt (jw_or (jt_not (t_v (cl D_is_tuple B.c (by decide) (ac (v 1) (ac je_int (ac je_int ja_nil)))))) (jw_or (jt_not (t_v (cl D_is_between B.c (by decide) (ac (j_ix (o 1) (je_o je_int)) (ac je_int (ac (je_sub (o 0) (je_o je_int)) ja_nil)))))) (jw_or1 (jt_not (t_v (cl D_is_between B.c (by decide) (ac (j_ix (o 1) (je_o je_int)) (ac je_int (ac (je_sub (o 0) (je_o je_int)) ja_nil)))))))))) (jb_one (js_ret je_bl)) jb_nil)
    (jb_one (js_ret (je_ne B.c (je_o (j_ix (o 1) (je_o je_int))) (je_o (j_ix (o 1) (je_o je_int))))))) (by decide)
theorem d_is_web
    (D_is_tuple : DefG P w K mg base "is_tuple" ["value", "low", "high"] 1 X.a_is_tuple X.fd_is_tuple (spD K X.CT 0 m_is_tuple))
    (D_is_between : DefG P w K mg base "is_between" ["value", "low", "high"] 2 X.a_is_between X.fd_is_between (spD K X.CT 0 m_is_between))
    (D_rounded : DefG P w K mg base "rounded" ["web"] 1 X.a_rounded X.fd_rounded (spD K X.CT 0 m_rounded))
    (D_is_arrow : DefG P w K mg base "is_arrow" ["many", "value"] 3 X.a_is_arrow X.fd_is_arrow (spD K X.CT 0 m_is_arrow)) :
    DefG P w K mg base "is_web" ["value"] 4 X.a_is_web X.fd_is_web (spD K X.CT 0 m_is_web) := by
  rw [q_is_web]
  exact defG_of (CT := X.CT) (g := g_is_web) (nl := 1) (κ := 0) X.F_is_web sc_is_web X.M_is_web X.B_is_web rfl fun cdv A outer s H E wl S0 B => jb_le
    (jb_cons (js_if (jw_pt (jw_or (jt_not (t_v (cl D_is_tuple B.c (by decide) (ac (v 0) (ac je_int (ac je_int ja_nil)))))) (jw_or (jt_not (t_v (cl D_is_between B.c (by decide) (ac (j_ix (o 0) (je_o je_int)) (ac je_int (ac (je_glob (by rfl) X.M_PLACES X.R_PLACES X.Q_PLACES (by rfl)) ja_nil)))))) (jw_or1 (jt_not (t_v (cl D_is_tuple B.c (by decide) (ac (j_ix (o 0) (je_o je_int)) (ac je_int (ac (je_glob (by rfl) X.M_ARROWS X.R_ARROWS X.Q_ARROWS (by rfl)) ja_nil)))))))))) (jb_one (js_ret je_bl)) jb_nil)
    (jb_cons (js_if (jt_not (t_v (j_all B.c rfl X.m_all (oc (je_o (jn_e (lc [("arrow", 1)] 100000 B.c (ji_seq (j_ix (o 0) (je_o je_int))) (fun s1 H1 q1 l1 p1 => (gn (Cok.blk B.c s1 H1 q1 l1 p1) 1)) (fun s1 H1 q1 l1 p1 => jts_nil) (fun s1 H1 q1 l1 p1 => (cl D_is_arrow (Cok.blk B.c s1 H1 q1 l1 p1) (by decide) (ac (j_ix (o 0) (je_o je_int)) (ac (v 1) ja_nil))))))) jo_nil)))) (jb_one (js_ret je_bl)) jb_nil)
    (jb_one (js_ret (je_eq B.c (je_o (j_len rfl X.m_len (oc (je_o (cl D_rounded B.c (by decide) (ac (v 0) ja_nil))) jo_nil))) (je_o (j_ix (o 0) (je_o je_int)))))))) (by decide)
theorem d_need_web
    (D_is_web : DefG P w K mg base "is_web" ["value"] 4 X.a_is_web X.fd_is_web (spD K X.CT 0 m_is_web))
    (D_anew : DefG P w K mg base "anew" ["value"] 10 X.a_anew X.fd_anew (spD K X.CT 0 m_anew)) :
    DefG P w K mg base "need_web" ["web"] 11 X.a_need_web X.fd_need_web (spD K X.CT 0 m_need_web) := by
  rw [q_need_web]
  exact defG_of (CT := X.CT) (g := g_need_web) (nl := 0) (κ := 0) X.F_need_web sc_need_web X.M_need_web X.B_need_web rfl fun cdv A outer s H E wl S0 B => jb_le
    (jb_one (js_if (jt_not (t_v (cl D_is_web B.c (by decide) (ac (v 0) ja_nil)))) (jb_one (sr (CC := X.CT 0) 0 B.c X.EB X.EC X.ME_InvalidWeb (cl D_anew B.c (by decide) (ac (v 0) ja_nil)))) jb_nil)) (by decide)
theorem d_need_place :
    DefG P w K mg base "need_place" ["web", "place"] 1 X.a_need_place X.fd_need_place (spD K X.CT 0 m_need_place) := by
  rw [q_need_place]
  exact defG_of (CT := X.CT) (g := g_need_place) (nl := 0) (κ := 0) X.F_need_place sc_need_place X.M_need_place X.B_need_place rfl fun cdv A outer s H E wl S0 B => jb_le
    (jb_one (js_if (jw_pt (jw_or (t_lt (o 1) (je_o je_int)) (jw_or1 (t_ge (o 1) (je_o (j_ix (o 0) (je_o je_int))))))) (jb_one (sr (CC := X.CT 1) 1 B.c X.EB X.EC X.ME_InvalidPlace (v 1))) jb_nil)) (by decide)
theorem d_need_at
    (D_need_web : DefG P w K mg base "need_web" ["web"] 11 X.a_need_web X.fd_need_web (spD K X.CT 0 m_need_web))
    (D_need_place : DefG P w K mg base "need_place" ["web", "place"] 1 X.a_need_place X.fd_need_place (spD K X.CT 0 m_need_place)) :
    DefG P w K mg base "need_at" ["web", "place"] 12 X.a_need_at X.fd_need_at (spD K X.CT 0 m_need_at) := by
  rw [q_need_at]
  exact defG_of (CT := X.CT) (g := g_need_at) (nl := 0) (κ := 0) X.F_need_at sc_need_at X.M_need_at X.B_need_at rfl fun cdv A outer s H E wl S0 B => jb_le
    (jb_cons (se (cl D_need_web B.c (by decide) (ac (v 0) ja_nil)))
    (jb_one (se (cl D_need_place B.c (by decide) (ac (v 0) (ac (v 1) ja_nil)))))) (by decide)
theorem d_ends_in :
    DefG P w K mg base "ends_in" ["web"] 1 X.a_ends_in X.fd_ends_in (spD K X.CT 0 m_ends_in) := by
  rw [q_ends_in]
  exact defG_of (CT := X.CT) (g := g_ends_in) (nl := 4) (κ := 0) X.F_ends_in sc_ends_in X.M_ends_in X.B_ends_in rfl fun cdv A outer s H E wl S0 B => jb_le
    (jb_cons (ss B.c 1 (jn_e (lc [("one", 2), ("other", 3)] 100000 B.c (ji_seq (j_ix (o 0) (je_o je_int))) (fun s1 H1 q1 l1 p1 => (gt (Cok.blk B.c s1 H1 q1 l1 p1) 2 (gc (gn (Cok.blk B.c s1 H1 q1 l1 p1) 2) (gc (gn (Cok.blk B.c s1 H1 q1 l1 p1) 3) jgs_nil)) (gs_len1 gm_name (gs_len1 gm_name gs_len0)))) (fun s1 H1 q1 l1 p1 => jts_nil) (fun s1 H1 q1 l1 p1 => (v 2)))))
    (jb_one (js_ret (j_tuple rfl X.m_tuple (oc (je_o (jn_e (lc [("at", 4)] 100000 B.c (r1 X.m_range (oc (je_o (j_ix (o 0) (je_o je_int))) jo_nil)) (fun s1 H1 q1 l1 p1 => (gn (Cok.blk B.c s1 H1 q1 l1 p1) 4)) (fun s1 H1 q1 l1 p1 => (jts_one (t_nin (Cok.blk B.c s1 H1 q1 l1 p1) (o 4) (o 1)))) (fun s1 H1 q1 l1 p1 => (v 4))))) jo_nil))))) (by decide)
theorem d_opposite_in :
    DefG P w K mg base "opposite_in" ["web"] 1 X.a_opposite_in X.fd_opposite_in (spD K X.CT 0 m_opposite_in) := by
  rw [q_opposite_in]
  exact defG_of (CT := X.CT) (g := g_opposite_in) (nl := 2) (κ := 0) X.F_opposite_in sc_opposite_in X.M_opposite_in X.B_opposite_in rfl fun cdv A outer s H E wl S0 B => jb_le
    (jb_one (js_ret (je_tup (ac (j_ix (o 0) (je_o je_int)) (ac (j_tuple rfl X.m_tuple (oc (je_o (jn_e (lc [("one", 1), ("other", 2)] 100000 B.c (ji_seq (j_ix (o 0) (je_o je_int))) (fun s1 H1 q1 l1 p1 => (gt (Cok.blk B.c s1 H1 q1 l1 p1) 2 (gc (gn (Cok.blk B.c s1 H1 q1 l1 p1) 1) (gc (gn (Cok.blk B.c s1 H1 q1 l1 p1) 2) jgs_nil)) (gs_len1 gm_name (gs_len1 gm_name gs_len0)))) (fun s1 H1 q1 l1 p1 => jts_nil) (fun s1 H1 q1 l1 p1 => (je_tup (ac (v 2) (ac (v 1) ja_nil))))))) jo_nil)) ja_nil))))) (by decide)
theorem d_begins_in
    (D_ends_in : DefG P w K mg base "ends_in" ["web"] 1 X.a_ends_in X.fd_ends_in (spD K X.CT 0 m_ends_in))
    (D_opposite_in : DefG P w K mg base "opposite_in" ["web"] 1 X.a_opposite_in X.fd_opposite_in (spD K X.CT 0 m_opposite_in)) :
    DefG P w K mg base "begins_in" ["web"] 2 X.a_begins_in X.fd_begins_in (spD K X.CT 0 m_begins_in) := by
  rw [q_begins_in]
  exact defG_of (CT := X.CT) (g := g_begins_in) (nl := 0) (κ := 0) X.F_begins_in sc_begins_in X.M_begins_in X.B_begins_in rfl fun cdv A outer s H E wl S0 B => jb_le
    (jb_one (js_ret (cl D_ends_in B.c (by decide) (ac (cl D_opposite_in B.c (by decide) (ac (v 0) ja_nil)) ja_nil)))) (by decide)
theorem d_turned_web :
    DefG P w K mg base "turned_web" ["web", "place"] 1 X.a_turned_web X.fd_turned_web (spD K X.CT 0 m_turned_web) := by
  rw [q_turned_web]
  exact defG_of (CT := X.CT) (g := g_turned_web) (nl := 2) (κ := 0) X.F_turned_web sc_turned_web X.M_turned_web X.B_turned_web rfl fun cdv A outer s H E wl S0 B => jb_le
    (jb_one (js_ret (je_tup (ac (j_ix (o 0) (je_o je_int)) (ac (j_tuple rfl X.m_tuple (oc (je_o (jn_e (lc [("one", 2), ("other", 3)] 100000 B.c (ji_seq (j_ix (o 0) (je_o je_int))) (fun s1 H1 q1 l1 p1 => (gt (Cok.blk B.c s1 H1 q1 l1 p1) 2 (gc (gn (Cok.blk B.c s1 H1 q1 l1 p1) 2) (gc (gn (Cok.blk B.c s1 H1 q1 l1 p1) 3) jgs_nil)) (gs_len1 gm_name (gs_len1 gm_name gs_len0)))) (fun s1 H1 q1 l1 p1 => jts_nil) (fun s1 H1 q1 l1 p1 => (je_if (t_in (Cok.blk B.c s1 H1 q1 l1 p1) (o 1) (je_o (je_tup (ac (v 2) (ac (v 3) ja_nil))))) (je_tup (ac (v 3) (ac (v 2) ja_nil))) (je_tup (ac (v 2) (ac (v 3) ja_nil)))))))) jo_nil)) ja_nil))))) (by decide)
theorem d_need_turnable
    (D_need_at : DefG P w K mg base "need_at" ["web", "place"] 12 X.a_need_at X.fd_need_at (spD K X.CT 0 m_need_at))
    (D_ends_in : DefG P w K mg base "ends_in" ["web"] 1 X.a_ends_in X.fd_ends_in (spD K X.CT 0 m_ends_in))
    (D_begins_in : DefG P w K mg base "begins_in" ["web"] 2 X.a_begins_in X.fd_begins_in (spD K X.CT 0 m_begins_in)) :
    DefG P w K mg base "need_turnable" ["web", "place"] 13 X.a_need_turnable X.fd_need_turnable (spD K X.CT 0 m_need_turnable) := by
  rw [q_need_turnable]
  exact defG_of (CT := X.CT) (g := g_need_turnable) (nl := 0) (κ := 0) X.F_need_turnable sc_need_turnable X.M_need_turnable X.B_need_turnable rfl fun cdv A outer s H E wl S0 B => jb_le
    (jb_cons (se (cl D_need_at B.c (by decide) (ac (v 0) (ac (v 1) ja_nil))))
    (jb_one (js_if (jw_pt (jw_and (t_nin B.c (o 1) (je_o (cl D_ends_in B.c (by decide) (ac (v 0) ja_nil)))) (jw_and1 (t_nin B.c (o 1) (je_o (cl D_begins_in B.c (by decide) (ac (v 0) ja_nil))))))) (jb_one (sr (CC := X.CT 2) 2 B.c X.EB X.EC X.ME_NotTurnable (v 1))) jb_nil))) (by decide)
theorem d_pieces_in :
    DefG P w K mg base "pieces_in" ["web"] 1 X.a_pieces_in X.fd_pieces_in (spD K X.CT 0 m_pieces_in) := by
  rw [q_pieces_in]
  exact defG_of (CT := X.CT) (g := g_pieces_in) (nl := 7) (κ := 0) X.F_pieces_in sc_pieces_in X.M_pieces_in X.B_pieces_in rfl fun cdv A outer s H E wl S0 B => jb_le
    (jb_cons (sn B.c 1 (jn_listRg (Cok.calm B.c) (by rfl) X.m_list (by rfl) X.m_range (je_o (j_ix (o 0) (je_o je_int))) (by rfl) (by rfl)))
    (jb_cons (sf 100000 B (r1 X.m_range (oc (je_o (j_ix (o 0) (je_o je_int))) jo_nil)) (gn B.c 2) (jb_one (sf 100000 B (ji_seq (j_ix (o 0) (je_o je_int))) (gt B.c 2 (gc (gn B.c 3) (gc (gn B.c 4) jgs_nil)) (gs_len1 gm_name (gs_len1 gm_name gs_len0))) (jb_cons (ss B.c 5 (j_min B.c rfl X.m_min (oc (je_o (j_ix (o 1) (o 3))) (oc (je_o (j_ix (o 1) (o 4))) jo_nil))))
    (jb_cons (six 1 (v 5) (v 3))
    (jb_one (six 1 (v 5) (v 4))))))))
    (jb_one (js_ret (jn_e (lc [("mark", 7)] 100000 B.c (r1 X.m_range (oc (je_o (j_ix (o 0) (je_o je_int))) jo_nil)) (fun s1 H1 q1 l1 p1 => (gn (Cok.blk B.c s1 H1 q1 l1 p1) 7)) (fun s1 H1 q1 l1 p1 => (jts_one (t_in (Cok.blk B.c s1 H1 q1 l1 p1) (o 7) (o 1)))) (fun s1 H1 q1 l1 p1 => (jn_e (lc [("at", 6)] 100000 (Cok.blk B.c s1 H1 q1 l1 p1) (r1 X.m_range (oc (je_o (j_ix (o 0) (je_o je_int))) jo_nil)) (fun s2 H2 q2 l2 p2 => (gn (Cok.blk (Cok.blk B.c s1 H1 q1 l1 p1) s2 H2 q2 l2 p2) 6)) (fun s2 H2 q2 l2 p2 => (jts_one (t_eq (Cok.blk (Cok.blk B.c s1 H1 q1 l1 p1) s2 H2 q2 l2 p2) (je_o (j_ix (o 1) (o 6))) (o 7)))) (fun s2 H2 q2 l2 p2 => (v 6))))))))))) (by decide)
theorem d_pieces
    (D_need_web : DefG P w K mg base "need_web" ["web"] 11 X.a_need_web X.fd_need_web (spD K X.CT 0 m_need_web))
    (D_pieces_in : DefG P w K mg base "pieces_in" ["web"] 1 X.a_pieces_in X.fd_pieces_in (spD K X.CT 0 m_pieces_in)) :
    DefG P w K mg base "pieces" ["web"] 12 X.a_pieces X.fd_pieces (spD K X.CT 0 m_pieces) := by
  rw [q_pieces]
  exact defG_of (CT := X.CT) (g := g_pieces) (nl := 1) (κ := 0) X.F_pieces sc_pieces X.M_pieces X.B_pieces rfl fun cdv A outer s H E wl S0 B => jb_le
    (jb_cons (se (cl D_need_web B.c (by decide) (ac (v 0) ja_nil)))
    (jb_one (js_ret (j_tuple rfl X.m_tuple (oc (je_o (jn_e (lc [("piece", 1)] 100000 B.c (ji_seq (cl D_pieces_in B.c (by decide) (ac (v 0) ja_nil))) (fun s1 H1 q1 l1 p1 => (gn (Cok.blk B.c s1 H1 q1 l1 p1) 1)) (fun s1 H1 q1 l1 p1 => jts_nil) (fun s1 H1 q1 l1 p1 => (j_tuple rfl X.m_tuple (oc (o 1) jo_nil)))))) jo_nil))))) (by decide)
theorem d_ends
    (D_need_web : DefG P w K mg base "need_web" ["web"] 11 X.a_need_web X.fd_need_web (spD K X.CT 0 m_need_web))
    (D_ends_in : DefG P w K mg base "ends_in" ["web"] 1 X.a_ends_in X.fd_ends_in (spD K X.CT 0 m_ends_in)) :
    DefG P w K mg base "ends" ["web"] 12 X.a_ends X.fd_ends (spD K X.CT 0 m_ends) := by
  rw [q_ends]
  exact defG_of (CT := X.CT) (g := g_ends) (nl := 0) (κ := 0) X.F_ends sc_ends X.M_ends X.B_ends rfl fun cdv A outer s H E wl S0 B => jb_le
    (jb_cons (se (cl D_need_web B.c (by decide) (ac (v 0) ja_nil)))
    (jb_one (js_ret (cl D_ends_in B.c (by decide) (ac (v 0) ja_nil))))) (by decide)
theorem d_begins
    (D_need_web : DefG P w K mg base "need_web" ["web"] 11 X.a_need_web X.fd_need_web (spD K X.CT 0 m_need_web))
    (D_begins_in : DefG P w K mg base "begins_in" ["web"] 2 X.a_begins_in X.fd_begins_in (spD K X.CT 0 m_begins_in)) :
    DefG P w K mg base "begins" ["web"] 12 X.a_begins X.fd_begins (spD K X.CT 0 m_begins) := by
  rw [q_begins]
  exact defG_of (CT := X.CT) (g := g_begins) (nl := 0) (κ := 0) X.F_begins sc_begins X.M_begins X.B_begins rfl fun cdv A outer s H E wl S0 B => jb_le
    (jb_cons (se (cl D_need_web B.c (by decide) (ac (v 0) ja_nil)))
    (jb_one (js_ret (cl D_begins_in B.c (by decide) (ac (v 0) ja_nil))))) (by decide)
theorem d_opposite
    (D_need_web : DefG P w K mg base "need_web" ["web"] 11 X.a_need_web X.fd_need_web (spD K X.CT 0 m_need_web))
    (D_opposite_in : DefG P w K mg base "opposite_in" ["web"] 1 X.a_opposite_in X.fd_opposite_in (spD K X.CT 0 m_opposite_in)) :
    DefG P w K mg base "opposite" ["web"] 12 X.a_opposite X.fd_opposite (spD K X.CT 0 m_opposite) := by
  rw [q_opposite]
  exact defG_of (CT := X.CT) (g := g_opposite) (nl := 0) (κ := 0) X.F_opposite sc_opposite X.M_opposite X.B_opposite rfl fun cdv A outer s H E wl S0 B => jb_le
    (jb_cons (se (cl D_need_web B.c (by decide) (ac (v 0) ja_nil)))
    (jb_one (js_ret (cl D_opposite_in B.c (by decide) (ac (v 0) ja_nil))))) (by decide)
theorem d_turned_at
    (D_need_turnable : DefG P w K mg base "need_turnable" ["web", "place"] 13 X.a_need_turnable X.fd_need_turnable (spD K X.CT 0 m_need_turnable))
    (D_turned_web : DefG P w K mg base "turned_web" ["web", "place"] 1 X.a_turned_web X.fd_turned_web (spD K X.CT 0 m_turned_web)) :
    DefG P w K mg base "turned_at" ["web", "place"] 14 X.a_turned_at X.fd_turned_at (spD K X.CT 0 m_turned_at) := by
  rw [q_turned_at]
  exact defG_of (CT := X.CT) (g := g_turned_at) (nl := 0) (κ := 0) X.F_turned_at sc_turned_at X.M_turned_at X.B_turned_at rfl fun cdv A outer s H E wl S0 B => jb_le
    (jb_cons (se (cl D_need_turnable B.c (by decide) (ac (v 0) (ac (v 1) ja_nil))))
    (jb_one (js_ret (cl D_turned_web B.c (by decide) (ac (v 0) (ac (v 1) ja_nil)))))) (by decide)
theorem d_round_of
    (D_need_web : DefG P w K mg base "need_web" ["web"] 11 X.a_need_web X.fd_need_web (spD K X.CT 0 m_need_web))
    (D_rounded : DefG P w K mg base "rounded" ["web"] 1 X.a_rounded X.fd_rounded (spD K X.CT 0 m_rounded)) :
    DefG P w K mg base "round_of" ["web"] 12 X.a_round_of X.fd_round_of (spD K X.CT 0 m_round_of) := by
  rw [q_round_of]
  exact defG_of (CT := X.CT) (g := g_round_of) (nl := 0) (κ := 0) X.F_round_of sc_round_of X.M_round_of X.B_round_of rfl fun cdv A outer s H E wl S0 B => jb_le
    (jb_cons (se (cl D_need_web B.c (by decide) (ac (v 0) ja_nil)))
    (jb_one (js_ret (cl D_rounded B.c (by decide) (ac (v 0) ja_nil))))) (by decide)
theorem d__law_well (hL : WellLaw 4 g__law_well) : DefW P w K mg base "_law_well" ["script", "k"] 1 X.a__law_well X.fd__law_well :=
  defW_of (CT := X.CT) (g := g__law_well) (nl := 4) X.F__law_well sc__law_well X.M__law_well X.B__law_well rfl rfl hL fun cdv A outer s H E wl S0 B => jz_le
    (jz_cons (ss B.c 2 (je_if (t_lt (o 1) (je_o (j_len rfl X.m_len (oc (o 0) jo_nil)))) (j_int rfl X.m_int (oc (je_o (j_ix (o 0) (o 1))) jo_nil)) (je_add (je_o (je_mul (je_o je_int) (o 1))) (je_o je_int))))
    (jz_cons (ss B.c 3 (je_add (je_o je_int) (je_o (j_len rfl X.m_len (oc (o 0) jo_nil)))))
    (jz_cons (sf 100000 B (ji_seq (v 0)) (gn B.c 4) (jb_one (ss B.c 3 (je_mod (je_o (j_int rfl X.m_int (oc (je_o (je_add (je_o (je_mul (o 3) (je_o je_int))) (je_o (je_mod (je_o (j_int rfl X.m_int (oc (o 4) jo_nil))) (je_o (je_add (je_o (je_pow (je_o je_int) (je_o je_int))) (je_o je_int))))))) jo_nil))) (je_o (je_add (je_o (je_pow (je_o je_int) (je_o je_int))) (je_o je_int)))))))
    (jz_cons (ss B.c 5 (je_mod (je_o (j_int rfl X.m_int (oc (je_o (je_add (je_o (je_add (je_o (je_add (je_o (je_mul (je_o (j_abs rfl X.m_abs (oc (o 2) jo_nil))) (je_o je_int))) (je_o (je_mul (o 3) (je_o je_int))))) (je_o (je_mul (je_o je_int) (je_o (j_int rfl X.m_int (oc (je_o (je_lt (o 2) (je_o je_int))) jo_nil))))))) (je_o (je_mul (je_o je_int) (o 1))))) jo_nil))) (je_o (je_add (je_o (je_pow (je_o je_int) (je_o je_int))) (je_o je_int)))))
    (jz_ret (jn_lst (ac (j_max B.c rfl X.m_max (oc (je_o je_int) (oc (je_o (je_sub (je_o (j_abs rfl X.m_abs (oc (o 2) jo_nil))) (je_o (je_pow (je_o je_int) (je_o je_int))))) jo_nil))) (ac (v 5) (ac je_int ja_nil))))))))) (by decide)
theorem d__law_draw (hL : DrawLaw 3 g__law_draw) : DefG P w K mg base "_law_draw" ["well", "many"] 1 X.a__law_draw X.fd__law_draw (spD K X.CT 1 m__law_draw) :=
  draw_of (CT := X.CT) (g := g__law_draw) (nl := 3) X.F__law_draw sc__law_draw X.M__law_draw X.B__law_draw rfl rfl hL fun cdv A outer s H E n hn B => jb_le
    (jb_cons (js_if (t_gt (je_o (j_ix (o 0) (je_o je_int))) (je_o je_int)) (jb_cons (ss B.c 2 (je_mod (je_o (j_int rfl X.m_int (oc (je_o (j_ix (o 0) (je_o je_int))) jo_nil))) (o 1)))
    (jb_cons (six 0 (je_fdiv (je_o (j_ix (o 0) (je_o je_int))) (o 1)) je_int)
    (jb_one (js_ret (v 2))))) jb_nil)
    (jb_cons (six 0 (je_add (je_o (j_ix (o 0) (je_o je_int))) (je_o je_int)) je_int)
    (jb_cons (ss B.c 3 (j_ix (o 0) (je_o je_int)))
    (jb_cons (ss B.c 4 (je_mod (je_o (j_int rfl X.m_int (oc (je_o (je_add (je_o (je_add (je_o (je_mul (je_o (je_mul (je_o (je_add (je_o (j_ix (o 0) (je_o je_int))) (je_o je_int))) (je_o (je_add (o 3) (je_o je_int))))) (je_o je_int))) (je_o (je_mul (je_o (je_mul (je_o (je_mul (o 3) (o 3))) (o 3))) (je_o je_int))))) (je_o je_int))) jo_nil))) (je_o (je_add (je_o (je_pow (je_o je_int) (je_o je_int))) (je_o je_int)))))
    (jb_cons (ss B.c 4 (je_mod (je_o (j_int rfl X.m_int (oc (je_o (je_add (je_o (je_add (je_o (je_mul (o 4) (o 4))) (je_o (je_mul (je_o (j_ix (o 0) (je_o je_int))) (je_o je_int))))) (o 3))) jo_nil))) (je_o (je_add (je_o (je_pow (je_o je_int) (je_o je_int))) (je_o je_int)))))
    (jb_cons (ss B.c 4 (je_mod (je_o (j_int rfl X.m_int (oc (je_o (je_add (je_o (je_mul (je_o (je_mul (o 4) (o 4))) (je_o je_int))) (je_o (je_mul (o 4) (je_o je_int))))) jo_nil))) (je_o (je_add (je_o (je_pow (je_o je_int) (je_o je_int))) (je_o je_int)))))
    (jb_one (js_ret (je_mod (je_o (j_int rfl X.m_int (oc (je_o (je_fdiv (o 4) (je_o je_int))) jo_nil))) (o 1)))))))))) (by decide)
theorem d__law_order
    (D__law_draw : DefG P w K mg base "_law_draw" ["well", "many"] 1 X.a__law_draw X.fd__law_draw (spD K X.CT 1 m__law_draw)) :
    DefG P w K mg base "_law_order" ["well", "many"] 2 X.a__law_order X.fd__law_order (spD K X.CT 64 m__law_order) := by
  rw [q__law_order]
  exact defG_of (CT := X.CT) (g := g__law_order) (nl := 3) (κ := 64) X.F__law_order sc__law_order X.M__law_order X.B__law_order rfl fun cdv A outer s H E wl S0 B => jb_le
    (jb_cons (spNN B.c 2 3 (jn_listRg (Cok.calm B.c) (by rfl) X.m_list (by rfl) X.m_range (o 1) (by rfl) (by rfl)) (jn_lst ja_nil))
    (jb_cons (sf 64 B (r1 X.m_range (oc (o 1) jo_nil)) (gn B.c 4) (jb_one (sapX 3 (xp 2 (cl D__law_draw B.c (by decide) (ac (v 0) (ac (j_len rfl X.m_len (oc (o 2) jo_nil)) ja_nil)))))))
    (jb_one (js_frz (i := 3) (js_ret (v 3)))))) (by decide)
theorem d__law_web
    (D__law_order : DefG P w K mg base "_law_order" ["well", "many"] 2 X.a__law_order X.fd__law_order (spD K X.CT 64 m__law_order))
    (D__law_draw : DefG P w K mg base "_law_draw" ["well", "many"] 1 X.a__law_draw X.fd__law_draw (spD K X.CT 1 m__law_draw)) :
    DefG P w K mg base "_law_web" ["well", "most", "arrows"] 3 X.a__law_web X.fd__law_web (spD K X.CT 194 m__law_web) := by
  rw [q__law_web]
  exact defG_of (CT := X.CT) (g := g__law_web) (nl := 5) (κ := 194) X.F__law_web sc__law_web X.M__law_web X.B__law_web rfl fun cdv A outer s H E wl S0 B => jb_le
    (jb_cons (spDN B.c 3 4 (je_add (je_o je_int) (je_o (cl D__law_draw B.c (by decide) (ac (v 0) (ac (v 1) ja_nil))))) (jn_lst ja_nil))
    (jb_cons (ss B.c 5 (cl D__law_order B.c (by decide) (ac (v 0) (ac (v 3) ja_nil))))
    (jb_cons (sf 64 B (r1 X.m_range (oc (je_o (je_if (t_gt (o 3) (je_o je_int)) (cl D__law_draw B.c (by decide) (ac (v 0) (ac (je_add (o 2) (je_o je_int)) ja_nil))) je_int)) jo_nil)) (gn B.c 6) (jb_cons (ss B.c 7 (cl D__law_draw B.c (by decide) (ac (v 0) (ac (je_sub (o 3) (je_o je_int)) ja_nil))))
    (jb_one (sap 4 (je_tup (ac (j_ix (o 5) (o 7)) (ac (j_ix (o 5) (je_o (je_add (je_o (je_add (o 7) (je_o je_int))) (je_o (cl D__law_draw B.c (by decide) (ac (v 0) (ac (je_sub (je_o (je_sub (o 3) (je_o je_int))) (o 7)) ja_nil))))))) ja_nil)))))))
    (jb_one (js_ret (je_tup (ac (v 3) (ac (j_tuple rfl X.m_tuple (oc (o 4) jo_nil)) ja_nil)))))))) (by decide)
theorem d__law_is_count :
    DefG P w K mg base "_law_is_count" ["value", "low", "high"] 1 X.a__law_is_count X.fd__law_is_count (spD K X.CT 0 m__law_is_count) := by
  rw [q__law_is_count]
  exact defG_of (CT := X.CT) (g := g__law_is_count) (nl := 0) (κ := 0) X.F__law_is_count sc__law_is_count X.M__law_is_count X.B__law_is_count rfl fun cdv A outer s H E wl S0 B => jb_le
    (jb_one (js_ret (je_and (j_isi hT_int b_int X.m_isinstance X.m_int (o 0)) (je_and (je_not (j_isi hT_bool b_bool X.m_isinstance X.m_bool (o 0))) (je_one (je_chain op_le oI_le op_le oI_le (o 1) (o 0) (o 2) (by rfl))))))) (by decide)
theorem d__law_reached :
    DefG P w K mg base "_law_reached" ["many", "arrows", "place"] 1 X.a__law_reached X.fd__law_reached (spD K X.CT 0 m__law_reached) := by
  rw [q__law_reached]
  exact defG_of (CT := X.CT) (g := g__law_reached) (nl := 4) (κ := 0) X.F__law_reached sc__law_reached X.M__law_reached X.B__law_reached rfl fun cdv A outer s H E wl S0 B => jb_le
    (jb_cons (ss B.c 3 (jn_e (lc [("begin", 5), ("end", 6)] 100000 B.c (ji_seq (v 1)) (fun s1 H1 q1 l1 p1 => (gt (Cok.blk B.c s1 H1 q1 l1 p1) 2 (gc (gn (Cok.blk B.c s1 H1 q1 l1 p1) 5) (gc (gn (Cok.blk B.c s1 H1 q1 l1 p1) 6) jgs_nil)) (gs_len1 gm_name (gs_len1 gm_name gs_len0)))) (fun s1 H1 q1 l1 p1 => (jts_one (t_eq (Cok.blk B.c s1 H1 q1 l1 p1) (o 5) (o 2)))) (fun s1 H1 q1 l1 p1 => (v 6)))))
    (jb_cons (sf 100000 B (r1 X.m_range (oc (o 0) jo_nil)) (gn B.c 4) (jb_one (ss B.c 3 (jn_e (jn_sortset B.c X.m_sorted X.m_set (je_o (je_add (o 3) (je_o (jn_e (lc [("begin", 5), ("end", 6)] 100000 B.c (ji_seq (v 1)) (fun s1 H1 q1 l1 p1 => (gt (Cok.blk B.c s1 H1 q1 l1 p1) 2 (gc (gn (Cok.blk B.c s1 H1 q1 l1 p1) 5) (gc (gn (Cok.blk B.c s1 H1 q1 l1 p1) 6) jgs_nil)) (gs_len1 gm_name (gs_len1 gm_name gs_len0)))) (fun s1 H1 q1 l1 p1 => (jts_one (t_in (Cok.blk B.c s1 H1 q1 l1 p1) (o 5) (o 3)))) (fun s1 H1 q1 l1 p1 => (v 6))))))))))))
    (jb_one (js_ret (v 3))))) (by decide)
theorem d__law_is_web
    (D__law_is_count : DefG P w K mg base "_law_is_count" ["value", "low", "high"] 1 X.a__law_is_count X.fd__law_is_count (spD K X.CT 0 m__law_is_count))
    (D__law_reached : DefG P w K mg base "_law_reached" ["many", "arrows", "place"] 1 X.a__law_reached X.fd__law_reached (spD K X.CT 0 m__law_reached)) :
    DefG P w K mg base "_law_is_web" ["value"] 2 X.a__law_is_web X.fd__law_is_web (spD K X.CT 0 m__law_is_web) := by
  rw [q__law_is_web]
  exact defG_of (CT := X.CT) (g := g__law_is_web) (nl := 3) (κ := 0) X.F__law_is_web sc__law_is_web X.M__law_is_web X.B__law_is_web rfl fun cdv A outer s H E wl S0 B => jb_le
    (jb_cons (js_if (jw_pt (jw_or (jt_not (t_v (j_isi hT_tuple b_tuple X.m_isinstance X.m_tuple (o 0)))) (jw_or (t_ne B.c (je_o (j_len rfl X.m_len (oc (o 0) jo_nil))) (je_o je_int)) (jw_or1 (jt_not (t_v (cl D__law_is_count B.c (by decide) (ac (j_ix (o 0) (je_o je_int)) (ac je_int (ac je_int ja_nil)))))))))) (jb_one (js_ret je_bl)) jb_nil)
    (jb_cons (js_if (jw_pt (jw_or (jt_not (t_v (j_isi hT_tuple b_tuple X.m_isinstance X.m_tuple (je_o (j_ix (o 0) (je_o je_int)))))) (jw_or1 (t_gt (je_o (j_len rfl X.m_len (oc (je_o (j_ix (o 0) (je_o je_int))) jo_nil))) (je_o je_int))))) (jb_one (js_ret je_bl)) jb_nil)
    (jb_cons (sf 100000 B (ji_seq (j_ix (o 0) (je_o je_int))) (gn B.c 1) (jb_cons (js_if (jw_pt (jw_or (jt_not (t_v (j_isi hT_tuple b_tuple X.m_isinstance X.m_tuple (o 1)))) (jw_or (t_ne B.c (je_o (j_len rfl X.m_len (oc (o 1) jo_nil))) (je_o je_int)) (jw_or1 (jt_not (t_v (j_all B.c rfl X.m_all (oc (je_o (jn_e (lc [("own", 2)] 100000 B.c (ji_seq (v 1)) (fun s1 H1 q1 l1 p1 => (gn (Cok.blk B.c s1 H1 q1 l1 p1) 2)) (fun s1 H1 q1 l1 p1 => jts_nil) (fun s1 H1 q1 l1 p1 => (cl D__law_is_count (Cok.blk B.c s1 H1 q1 l1 p1) (by decide) (ac (v 2) (ac je_int (ac (je_sub (je_o (j_ix (o 0) (je_o je_int))) (je_o je_int)) ja_nil)))))))) jo_nil)))))))) (jb_one (js_ret je_bl)) jb_nil)
    (jb_one (js_if (t_eq B.c (je_o (j_ix (o 1) (je_o je_int))) (je_o (j_ix (o 1) (je_o je_int)))) (jb_one (js_ret je_bl)) jb_nil))))
    (jb_one (js_ret (je_not (j_any B.c rfl X.m_any (oc (je_o (jn_e (lc [("place", 3)] 100000 B.c (r1 X.m_range (oc (je_o (j_ix (o 0) (je_o je_int))) jo_nil)) (fun s1 H1 q1 l1 p1 => (gn (Cok.blk B.c s1 H1 q1 l1 p1) 3)) (fun s1 H1 q1 l1 p1 => jts_nil) (fun s1 H1 q1 l1 p1 => (j_in (Cok.blk B.c s1 H1 q1 l1 p1) (o 3) (je_o (cl D__law_reached (Cok.blk B.c s1 H1 q1 l1 p1) (by decide) (ac (j_ix (o 0) (je_o je_int)) (ac (j_ix (o 0) (je_o je_int)) (ac (v 3) ja_nil)))))))))) jo_nil)))))))) (by decide)
theorem d__law_near
    (D__law_draw : DefG P w K mg base "_law_draw" ["well", "many"] 1 X.a__law_draw X.fd__law_draw (spD K X.CT 1 m__law_draw)) :
    DefG P w K mg base "_law_near" ["well", "web"] 2 X.a__law_near X.fd__law_near (spD K X.CT 2 m__law_near) := by
  rw [q__law_near]
  unfold g__law_near
  rw [u__law_near_0, u__law_near_1, u__law_near_2, u__law_near_3, u__law_near_4, u__law_near_5]
  exact defG_of (CT := X.CT) (g := ((gSeq (gAsg (dVar 1) (gTp (gsCons (gNm 2) (gsCons (gNm 3) gsNil))))
  (gSeq (gSet 4 (dN2 (nLst (aCons (dVar 1) (aCons (dC .none) (aCons (dN2 (nOf (aCons (dOwn 1) aNil))) (aCons (dTup (aCons (dVar 2) (aCons (dN2 (nOf (aCons (dOwn 3) aNil))) aNil))) (aCons (dTup (aCons (d2 gAdd (dOwn 2) (dC (.int 1))) (aCons (dVar 3) aNil))) (aCons (dTup (aCons (d2 gSub (dOwn 2) (dC (.int 1))) (aCons (dVar 3) aNil))) (aCons (dTup (aCons (dVar 2) (aCons (d2 gMul (dOwn 3) (dC (.int 3))) aNil))) (aCons (dTup (aCons (dVar 2) (aCons (d2 gAdd (dOwn 3) (dTup (aCons (dTup (aCons (dC (.int 0)) (aCons (dVar 2) aNil))) aNil))) aNil))) aNil)))))))))))
  (gSeq (gSet 4 (d2 gAdd (dOwn 4) (dN2 (nLst (aCons (dTup (aCons (dVar 2) (aCons (d2 gAdd (dOwn 3) (dTup (aCons (dTup (aCons (dC (.int 0)) (aCons (dC (.int 0)) aNil))) aNil))) aNil))) (aCons (dTup (aCons (dVar 2) (aCons (d2 gAdd (dOwn 3) (dBi bTuple (aCons (dN2 (nLc 100000 (iSeq (dSl (dOwn 3) pNo (pAt (dC (.int 1))))) (gTp (gsCons (gNm 5) (gsCons (gNm 6) gsNil))) tTrue (dTup (aCons (dVar 6) (aCons (dVar 5) aNil))) [5, 6])) aNil))) aNil))) (aCons (dTup (aCons (dVar 2) (aCons (d2 gAdd (dOwn 3) (dTup (aCons (dTup (aCons (dC (.int 0)) (aCons (dC (.int 1)) (aCons (dC (.int 0)) aNil)))) aNil))) aNil))) aNil)))))))
  (gSeq (gSet 4 (d2 gAdd (dOwn 4) (dN2 (nLst (aCons (dTup (aCons (dC (.bool true)) (aCons (dTup aNil) aNil))) (aCons (dTup (aCons (dVar 2) (aCons (d2 gAdd (dOwn 3) (dTup (aCons (dTup (aCons (dC (.int 0)) (aCons (dC (.bool true)) aNil))) aNil))) aNil))) (aCons (dTup (aCons (dVar 2) (aCons (dVar 3) (aCons (dC (.int 0)) aNil)))) (aCons (dTup (aCons (dC (.int 9)) (aCons (dTup aNil) aNil))) (aCons (dTup (aCons (dC (.int 10)) (aCons (dTup aNil) aNil))) (aCons (dTup (aCons (dC (.int 0)) (aCons (dTup aNil) aNil))) (aCons (dTup (aCons (dC (.int 1)) (aCons (dTup (aCons (dTup (aCons (dC (.int 0)) (aCons (dC (.int 0)) aNil))) aNil)) aNil))) (aCons (dTup (aCons (dVar 2) aNil)) (aCons (dVar 3) aNil)))))))))))))
  (gSeq (gIfS (tAnd' (tVal (d2 gGt (dOwn 2) (dC (.int 2)))) (tVal (d2 gEq (dCall m__law_draw (aCons (dVar 0) (aCons (dC (.int 3)) aNil))) (dC (.int 0))))) (gRet (dTup (aCons (dVar 2) (aCons (dTup (aCons (dTup (aCons (dC (.int 0)) (aCons (dC (.int 1)) aNil))) (aCons (dTup (aCons (dC (.int 1)) (aCons (dC (.int 2)) aNil))) (aCons (dTup (aCons (dC (.int 2)) (aCons (dC (.int 0)) aNil))) aNil)))) aNil)))) gNext)
  (gRet (d2 gIx (dOwn 4) (dCall m__law_draw (aCons (dVar 0) (aCons (dC (.int 20)) aNil)))))))))))) (nl := 5) (κ := 2) X.F__law_near sc__law_near X.M__law_near X.B__law_near rfl fun cdv A outer s H E wl S0 B => jb_le
    (jb_cons (sa (v 1) (gt B.c 2 (gc (gn B.c 2) (gc (gn B.c 3) jgs_nil)) (gs_len1 gm_name (gs_len1 gm_name gs_len0))))
    (jb_cons (ss B.c 4 (jn_e (jn_lst (ac (v 1) (ac je_non (ac (jn_e (jn_of (by rfl) X.m_list (oc (o 1) jo_nil) (by rfl) (by rfl))) (ac (je_tup (ac (v 2) (ac (jn_e (jn_of (by rfl) X.m_list (oc (o 3) jo_nil) (by rfl) (by rfl))) ja_nil))) (ac (je_tup (ac (je_add (o 2) (je_o je_int)) (ac (v 3) ja_nil))) (ac (je_tup (ac (je_sub (o 2) (je_o je_int)) (ac (v 3) ja_nil))) (ac (je_tup (ac (v 2) (ac (je_mul (o 3) (je_o je_int)) ja_nil))) (ac (je_tup (ac (v 2) (ac (je_add (o 3) (je_o (je_tup (ac (je_tup (ac je_int (ac (v 2) ja_nil))) ja_nil)))) ja_nil))) ja_nil)))))))))))
    (jb_cons (ss B.c 4 (je_add (o 4) (je_o (jn_e (jn_lst (ac (je_tup (ac (v 2) (ac (je_add (o 3) (je_o (je_tup (ac (je_tup (ac je_int (ac je_int ja_nil))) ja_nil)))) ja_nil))) (ac (je_tup (ac (v 2) (ac (je_add (o 3) (je_o (j_tuple rfl X.m_tuple (oc (je_o (jn_e (lc [("begin", 5), ("end", 6)] 100000 B.c (ji_seq (je_slice (o 3) jp_no (jp_at je_int))) (fun s1 H1 q1 l1 p1 => (gt (Cok.blk B.c s1 H1 q1 l1 p1) 2 (gc (gn (Cok.blk B.c s1 H1 q1 l1 p1) 5) (gc (gn (Cok.blk B.c s1 H1 q1 l1 p1) 6) jgs_nil)) (gs_len1 gm_name (gs_len1 gm_name gs_len0)))) (fun s1 H1 q1 l1 p1 => jts_nil) (fun s1 H1 q1 l1 p1 => (je_tup (ac (v 6) (ac (v 5) ja_nil))))))) jo_nil)))) ja_nil))) (ac (je_tup (ac (v 2) (ac (je_add (o 3) (je_o (je_tup (ac (je_tup (ac je_int (ac je_int (ac je_int ja_nil)))) ja_nil)))) ja_nil))) ja_nil))))))))
    (jb_cons (ss B.c 4 (je_add (o 4) (je_o (jn_e (jn_lst (ac (je_tup (ac je_bl (ac (je_tup ja_nil) ja_nil))) (ac (je_tup (ac (v 2) (ac (je_add (o 3) (je_o (je_tup (ac (je_tup (ac je_int (ac je_bl ja_nil))) ja_nil)))) ja_nil))) (ac (je_tup (ac (v 2) (ac (v 3) (ac je_int ja_nil)))) (ac (je_tup (ac je_int (ac (je_tup ja_nil) ja_nil))) (ac (je_tup (ac je_int (ac (je_tup ja_nil) ja_nil))) (ac (je_tup (ac je_int (ac (je_tup ja_nil) ja_nil))) (ac (je_tup (ac je_int (ac (je_tup (ac (je_tup (ac je_int (ac je_int ja_nil))) ja_nil)) ja_nil))) (ac (je_tup (ac (v 2) ja_nil)) (ac (v 3) ja_nil))))))))))))))
    (jb_cons (js_if (jw_pt (jw_and (t_gt (o 2) (je_o je_int)) (jw_and1 (t_eq B.c (je_o (cl D__law_draw B.c (by decide) (ac (v 0) (ac je_int ja_nil)))) (je_o je_int))))) (jb_one (js_ret (je_tup (ac (v 2) (ac (je_tup (ac (je_tup (ac je_int (ac je_int ja_nil))) (ac (je_tup (ac je_int (ac je_int ja_nil))) (ac (je_tup (ac je_int (ac je_int ja_nil))) ja_nil)))) ja_nil))))) jb_nil)
    (jb_one (js_ret (j_ix (o 4) (je_o (cl D__law_draw B.c (by decide) (ac (v 0) (ac je_int ja_nil)))))))))))) (by decide)
theorem d__law_pieces :
    DefG P w K mg base "_law_pieces" ["web"] 1 X.a__law_pieces X.fd__law_pieces (spD K X.CT 0 m__law_pieces) := by
  rw [q__law_pieces]
  exact defG_of (CT := X.CT) (g := g__law_pieces) (nl := 8) (κ := 0) X.F__law_pieces sc__law_pieces X.M__law_pieces X.B__law_pieces rfl fun cdv A outer s H E wl S0 B => jb_le
    (jb_cons (spDN B.c 1 2 (jn_e (jn_listRg (Cok.calm B.c) (by rfl) X.m_list (by rfl) X.m_range (je_o (j_ix (o 0) (je_o je_int))) (by rfl) (by rfl))) (jn_lst ja_nil))
    (jb_cons (js_while B (t_ne B.c (o 1) (je_o (jn_e (jn_lst ja_nil)))) (jb_cons (ss B.c 3 (jn_e (jn_lst (ac (j_ix (o 1) (je_o je_int)) ja_nil))))
    (jb_cons (sf 100000 B (r1 X.m_range (oc (je_o (j_ix (o 0) (je_o je_int))) jo_nil)) (gn B.c 4) (jb_cons (ss B.c 5 (je_add (je_o (jn_e (lc [("begin", 6), ("end", 7)] 100000 B.c (ji_seq (j_ix (o 0) (je_o je_int))) (fun s1 H1 q1 l1 p1 => (gt (Cok.blk B.c s1 H1 q1 l1 p1) 2 (gc (gn (Cok.blk B.c s1 H1 q1 l1 p1) 6) (gc (gn (Cok.blk B.c s1 H1 q1 l1 p1) 7) jgs_nil)) (gs_len1 gm_name (gs_len1 gm_name gs_len0)))) (fun s1 H1 q1 l1 p1 => (jts_one (t_in (Cok.blk B.c s1 H1 q1 l1 p1) (o 6) (o 3)))) (fun s1 H1 q1 l1 p1 => (v 7))))) (je_o (jn_e (lc [("begin", 6), ("end", 7)] 100000 B.c (ji_seq (j_ix (o 0) (je_o je_int))) (fun s1 H1 q1 l1 p1 => (gt (Cok.blk B.c s1 H1 q1 l1 p1) 2 (gc (gn (Cok.blk B.c s1 H1 q1 l1 p1) 6) (gc (gn (Cok.blk B.c s1 H1 q1 l1 p1) 7) jgs_nil)) (gs_len1 gm_name (gs_len1 gm_name gs_len0)))) (fun s1 H1 q1 l1 p1 => (jts_one (t_in (Cok.blk B.c s1 H1 q1 l1 p1) (o 7) (o 3)))) (fun s1 H1 q1 l1 p1 => (v 6)))))))
    (jb_one (ss B.c 3 (jn_e (jn_sortset B.c X.m_sorted X.m_set (je_o (je_add (o 3) (o 5)))))))))
    (jb_cons (sap 2 (j_tuple rfl X.m_tuple (oc (o 3) jo_nil)))
    (jb_one (js_asF (slc 1 [("place", 8)] 100000 B.c (ji_seq (v 1)) (fun s1 H1 q1 l1 p1 => (gn (Cok.blk B.c s1 H1 q1 l1 p1) 8)) (fun s1 H1 q1 l1 p1 => (jts_one (t_nin (Cok.blk B.c s1 H1 q1 l1 p1) (o 8) (o 3)))) (fun s1 H1 q1 l1 p1 => (v 8)))))))))
    (jb_one (js_ret (j_tuple rfl X.m_tuple (oc (o 2) jo_nil)))))) (by decide)
theorem d__law_round :
    DefG P w K mg base "_law_round" ["web"] 1 X.a__law_round X.fd__law_round (spD K X.CT 0 m__law_round) := by
  rw [q__law_round]
  exact defG_of (CT := X.CT) (g := g__law_round) (nl := 5) (κ := 0) X.F__law_round sc__law_round X.M__law_round X.B__law_round rfl fun cdv A outer s H E wl S0 B => jb_le
    (jb_cons (sn B.c 1 (jn_lst ja_nil))
    (jb_cons (sf 100000 B (r1 X.m_range (oc (je_o (j_ix (o 0) (je_o je_int))) jo_nil)) (gn B.c 2) (jb_one (sf 100000 B (r1 X.m_range (oc (je_o (j_ix (o 0) (je_o je_int))) jo_nil)) (gn B.c 3) (jb_one (js_if (jw_pt (jw_and (t_nin B.c (o 3) (o 1)) (jw_and1 (jt_not (t_v (j_any B.c rfl X.m_any (oc (je_o (jn_e (lc [("begin", 4), ("end", 5)] 100000 B.c (ji_seq (j_ix (o 0) (je_o je_int))) (fun s1 H1 q1 l1 p1 => (gt (Cok.blk B.c s1 H1 q1 l1 p1) 2 (gc (gn (Cok.blk B.c s1 H1 q1 l1 p1) 4) (gc (gn (Cok.blk B.c s1 H1 q1 l1 p1) 5) jgs_nil)) (gs_len1 gm_name (gs_len1 gm_name gs_len0)))) (fun s1 H1 q1 l1 p1 => jts_nil) (fun s1 H1 q1 l1 p1 => (je_and (je_eq (Cok.blk B.c s1 H1 q1 l1 p1) (o 4) (o 3)) (je_one (j_nin (Cok.blk B.c s1 H1 q1 l1 p1) (o 5) (o 1)))))))) jo_nil))))))) (jb_cons (sap 1 (v 3))
    (jb_one js_break)) jb_nil)))))
    (jb_one (js_ret (j_tuple rfl X.m_tuple (oc (o 1) jo_nil)))))) (by decide)
theorem d__law_told
    (D_pieces : DefG P w K mg base "pieces" ["web"] 12 X.a_pieces X.fd_pieces (spD K X.CT 0 m_pieces))
    (D_round_of : DefG P w K mg base "round_of" ["web"] 12 X.a_round_of X.fd_round_of (spD K X.CT 0 m_round_of))
    (D_opposite : DefG P w K mg base "opposite" ["web"] 12 X.a_opposite X.fd_opposite (spD K X.CT 0 m_opposite))
    (D_turned_at : DefG P w K mg base "turned_at" ["web", "place"] 14 X.a_turned_at X.fd_turned_at (spD K X.CT 0 m_turned_at)) :
    DefG P w K mg base "_law_told" ["way", "web", "place"] 15 X.a__law_told X.fd__law_told (spD K X.CT 0 m__law_told) := by
  rw [q__law_told]
  unfold g__law_told
  rw [u__law_told_0, u__law_told_1, u__law_told_2, u__law_told_3]
  exact defG_of (CT := X.CT) (g := ((gSeq (gSet 3 (dC .none))
  (gSeq (gTry 4 3 (gIfS (tVal (d2 gEq (dOwn 0) (dC (.int 0)))) (gDrop (dCall m_pieces (aCons (dVar 1) aNil))) (gIfS (tVal (d2 gEq (dOwn 0) (dC (.int 1)))) (gDrop (dCallK m_round_of px_0 aNil (aCons (dVar 1) aNil))) (gIfS (tVal (d2 gEq (dOwn 0) (dC (.int 2)))) (gDrop (dCall m_opposite (aCons (dVar 1) aNil))) (gDrop (dCallK m_turned_at px_10 aNil (aCons (dVar 2) (aCons (dVar 1) aNil))))))))
  (gSeq (gSet 5 (dN2 (nLst (aCons (d1 (gIsE 0 subE) (dOwn 3)) (aCons (d1 (gIsE 1 subE) (dOwn 3)) (aCons (d1 (gIsE 2 subE) (dOwn 3)) aNil))))))
  (gRet (dIf (tVal (d1 gIsN (dOwn 3))) (dC .none) (dTup (aCons (dN2 (nLc 100000 (iRg rg1 (aCons (dC (.int 3)) aNil)) (gNm 6) (tVal (d2 gIx (dOwn 5) (dOwn 6))) (dVar 6) [6])) (aCons (dBi bRepr (aCons (d1 gVal (dOwn 3)) aNil)) aNil)))))))))) (nl := 4) (κ := 0) X.F__law_told sc__law_told X.M__law_told X.B__law_told rfl fun cdv A outer s H E wl S0 B => jb_le
    (jb_cons (ss B.c 3 je_non)
    (jb_cons (st_ 4 3 B.c rfl rfl rfl X.M_WebsError X.XM (fun W' pn' xe' C' B' => (jb_one (js_if (t_eq C' (o 0) (je_o je_int)) (jb_one (se (cl D_pieces C' (by decide) (ac (v 1) ja_nil)))) (jb_one (js_if (t_eq C' (o 0) (je_o je_int)) (jb_one (se (clk D_round_of C' (by decide) X.K_round_of_0 (pd_0) (jk_cons (v 1) jk_nil)))) (jb_one (js_if (t_eq C' (o 0) (je_o je_int)) (jb_one (se (cl D_opposite C' (by decide) (ac (v 1) ja_nil)))) (jb_one (se (clk D_turned_at C' (by decide) X.K_turned_at_10 (pd_10) (jk_cons (v 2) (jk_cons (v 1) jk_nil)))))))))))))
    (jb_cons (ss B.c 5 (jn_e (jn_lst (ac (j_isE X.m_isinstance X.ME_InvalidWeb X.KN_InvalidWeb X.IC X.KL_InvalidWeb (o 3)) (ac (j_isE X.m_isinstance X.ME_InvalidPlace X.KN_InvalidPlace X.IC X.KL_InvalidPlace (o 3)) (ac (j_isE X.m_isinstance X.ME_NotTurnable X.KN_NotTurnable X.IC X.KL_NotTurnable (o 3)) ja_nil))))))
    (jb_one (js_ret (je_if (jt_isN (o 3)) je_non (je_tup (ac (jn_e (lc [("at", 6)] 100000 B.c (r1 X.m_range (oc (je_o je_int) jo_nil)) (fun s1 H1 q1 l1 p1 => (gn (Cok.blk B.c s1 H1 q1 l1 p1) 6)) (fun s1 H1 q1 l1 p1 => (jts_one (t_v (j_ix (o 5) (o 6))))) (fun s1 H1 q1 l1 p1 => (v 6)))) (ac (j_repr B.c rfl X.m_repr (oc (je_o (j_val X.EC (o 3))) jo_nil)) ja_nil))))))))) (by decide)
theorem d__law_turned_right
    (D_round_of : DefG P w K mg base "round_of" ["web"] 12 X.a_round_of X.fd_round_of (spD K X.CT 0 m_round_of))
    (D_turned_at : DefG P w K mg base "turned_at" ["web", "place"] 14 X.a_turned_at X.fd_turned_at (spD K X.CT 0 m_turned_at))
    (D_ends : DefG P w K mg base "ends" ["web"] 12 X.a_ends X.fd_ends (spD K X.CT 0 m_ends))
    (D__law_told : DefG P w K mg base "_law_told" ["way", "web", "place"] 15 X.a__law_told X.fd__law_told (spD K X.CT 0 m__law_told)) :
    DefG P w K mg base "_law_turned_right" ["web"] 16 X.a__law_turned_right X.fd__law_turned_right (spD K X.CT 0 m__law_turned_right) := by
  rw [q__law_turned_right]
  exact defG_of (CT := X.CT) (g := g__law_turned_right) (nl := 6) (κ := 0) X.F__law_turned_right sc__law_turned_right X.M__law_turned_right X.B__law_turned_right rfl fun cdv A outer s H E wl S0 B => jb_le
    (jb_cons (sf 100000 B (r1 X.m_range (oc (je_o (j_ix (o 0) (je_o je_int))) jo_nil)) (gn B.c 1) (jb_cons (sp2 B.c 2 3 (ac (j_nin B.c (o 1) (je_o (jn_e (lc [("begin", 5), ("end", 6)] 100000 B.c (ji_seq (j_ix (o 0) (je_o je_int))) (fun s1 H1 q1 l1 p1 => (gt (Cok.blk B.c s1 H1 q1 l1 p1) 2 (gc (gn (Cok.blk B.c s1 H1 q1 l1 p1) 5) (gc (gn (Cok.blk B.c s1 H1 q1 l1 p1) 6) jgs_nil)) (gs_len1 gm_name (gs_len1 gm_name gs_len0)))) (fun s1 H1 q1 l1 p1 => jts_nil) (fun s1 H1 q1 l1 p1 => (v 5)))))) (ac (j_nin B.c (o 1) (je_o (jn_e (lc [("begin", 5), ("end", 6)] 100000 B.c (ji_seq (j_ix (o 0) (je_o je_int))) (fun s1 H1 q1 l1 p1 => (gt (Cok.blk B.c s1 H1 q1 l1 p1) 2 (gc (gn (Cok.blk B.c s1 H1 q1 l1 p1) 5) (gc (gn (Cok.blk B.c s1 H1 q1 l1 p1) 6) jgs_nil)) (gs_len1 gm_name (gs_len1 gm_name gs_len0)))) (fun s1 H1 q1 l1 p1 => jts_nil) (fun s1 H1 q1 l1 p1 => (v 6)))))) ja_nil)))
    (jb_one (js_if (jw_pt (jw_and (jt_not (t_v (v 2))) (jw_and1 (jt_not (t_v (v 3)))))) (jb_one (js_if (t_ne B.c (je_o (cl D__law_told B.c (by decide) (ac je_int (ac (v 0) (ac (v 1) ja_nil))))) (je_o (je_tup (ac (jn_e (jn_lst (ac je_int ja_nil))) (ac (j_repr B.c rfl X.m_repr (oc (o 1) jo_nil)) ja_nil))))) (jb_one (js_ret je_bl)) jb_nil)) (jb_one (js_if (t_ne B.c (je_o (cl D_turned_at B.c (by decide) (ac (v 0) (ac (v 1) ja_nil)))) (je_o (je_tup (ac (j_ix (o 0) (je_o je_int)) (ac (j_tuple rfl X.m_tuple (oc (je_o (jn_e (lc [("begin", 5), ("end", 6)] 100000 B.c (ji_seq (j_ix (o 0) (je_o je_int))) (fun s1 H1 q1 l1 p1 => (gt (Cok.blk B.c s1 H1 q1 l1 p1) 2 (gc (gn (Cok.blk B.c s1 H1 q1 l1 p1) 5) (gc (gn (Cok.blk B.c s1 H1 q1 l1 p1) 6) jgs_nil)) (gs_len1 gm_name (gs_len1 gm_name gs_len0)))) (fun s1 H1 q1 l1 p1 => jts_nil) (fun s1 H1 q1 l1 p1 => (je_if (t_in (Cok.blk B.c s1 H1 q1 l1 p1) (o 1) (je_o (je_tup (ac (v 5) (ac (v 6) ja_nil))))) (je_tup (ac (v 6) (ac (v 5) ja_nil))) (je_tup (ac (v 5) (ac (v 6) ja_nil)))))))) jo_nil)) ja_nil))))) (jb_one (js_ret je_bl)) jb_nil))))))
    (jb_cons (ss B.c 4 (v 0))
    (jb_cons (sf 100000 B (ji_seq (cl D_round_of B.c (by decide) (ac (v 0) ja_nil))) (gn B.c 1) (jb_cons (js_if (t_nin B.c (o 1) (je_o (cl D_ends B.c (by decide) (ac (v 4) ja_nil)))) (jb_one (js_ret je_bl)) jb_nil)
    (jb_one (ss B.c 4 (clk D_turned_at B.c (by decide) X.K_turned_at_01 (pd_01) (jk_cons (v 4) (jk_cons (v 1) jk_nil)))))))
    (jb_one (js_ret (je_eq B.c (o 4) (o 0))))))) (by decide)
theorem d__law_right
    (D__law_web : DefG P w K mg base "_law_web" ["well", "most", "arrows"] 3 X.a__law_web X.fd__law_web (spD K X.CT 194 m__law_web))
    (D__law_pieces : DefG P w K mg base "_law_pieces" ["web"] 1 X.a__law_pieces X.fd__law_pieces (spD K X.CT 0 m__law_pieces))
    (D__law_round : DefG P w K mg base "_law_round" ["web"] 1 X.a__law_round X.fd__law_round (spD K X.CT 0 m__law_round))
    (D__law_near : DefG P w K mg base "_law_near" ["well", "web"] 2 X.a__law_near X.fd__law_near (spD K X.CT 2 m__law_near))
    (D__law_is_web : DefG P w K mg base "_law_is_web" ["value"] 2 X.a__law_is_web X.fd__law_is_web (spD K X.CT 0 m__law_is_web))
    (D__law_turned_right : DefG P w K mg base "_law_turned_right" ["web"] 16 X.a__law_turned_right X.fd__law_turned_right (spD K X.CT 0 m__law_turned_right))
    (D__law_told : DefG P w K mg base "_law_told" ["way", "web", "place"] 15 X.a__law_told X.fd__law_told (spD K X.CT 0 m__law_told))
    (D_opposite : DefG P w K mg base "opposite" ["web"] 12 X.a_opposite X.fd_opposite (spD K X.CT 0 m_opposite))
    (D_pieces : DefG P w K mg base "pieces" ["web"] 12 X.a_pieces X.fd_pieces (spD K X.CT 0 m_pieces))
    (D_ends : DefG P w K mg base "ends" ["web"] 12 X.a_ends X.fd_ends (spD K X.CT 0 m_ends))
    (D_begins : DefG P w K mg base "begins" ["web"] 12 X.a_begins X.fd_begins (spD K X.CT 0 m_begins))
    (D_round_of : DefG P w K mg base "round_of" ["web"] 12 X.a_round_of X.fd_round_of (spD K X.CT 0 m_round_of))
    (D_is_web : DefG P w K mg base "is_web" ["value"] 4 X.a_is_web X.fd_is_web (spD K X.CT 0 m_is_web)) :
    DefG P w K mg base "_law_right" ["well"] 17 X.a__law_right X.fd__law_right (spD K X.CT 322 m__law_right) := by
  rw [q__law_right]
  unfold g__law_right
  rw [u__law_right_0, u__law_right_1, u__law_right_2, u__law_right_3, u__law_right_4, u__law_right_5, u__law_right_6, u__law_right_7]
  exact defG_of (CT := X.CT) (g := ((gSeq (gSet 1 (dCall m__law_web (aCons (dVar 0) (aCons (dC (.int 9)) (aCons (dC (.int 12)) aNil)))))
  (gSeq (gSet 2 (dN2 (nLc 100000 (iSeq (dTup (aCons (dC (.int 0)) (aCons (dC (.int 1)) aNil)))) (gNm 9) tTrue (dBi bTuple (aCons (dN2 (nLc 100000 (iRg rg1 (aCons (d2 gIx (dOwn 1) (dC (.int 0))) aNil)) (gNm 7) (tVal (d2 gNotIn (dOwn 7) (dN2 (nLc 100000 (iSeq (d2 gIx (dOwn 1) (dC (.int 1)))) (gNm 8) tTrue (d2 gIx (dOwn 8) (dOwn 9)) [8])))) (dVar 7) [7])) aNil)) [9])))
  (gSeq (gSet 3 (dN2 (nLst (aCons (dCall m__law_pieces (aCons (dVar 1) aNil)) (aCons (d2 gIx (dOwn 2) (dC (.int 0))) (aCons (d2 gIx (dOwn 2) (dC (.int 1))) (aCons (dTup (aCons (d2 gIx (dOwn 1) (dC (.int 0))) (aCons (dBi bTuple (aCons (dN2 (nLc 100000 (iSeq (d2 gIx (dOwn 1) (dC (.int 1)))) (gTp (gsCons (gNm 10) (gsCons (gNm 11) gsNil))) tTrue (dTup (aCons (dVar 11) (aCons (dVar 10) aNil))) [10, 11])) aNil)) aNil))) (aCons (dCall m__law_round (aCons (dVar 1) aNil)) aNil))))))))
  (gSeq (gIfS (tVal (d2 gNe (dBi bRepr (aCons (dN2 (nLst (aCons (dCall m_pieces (aCons (dVar 1) aNil)) (aCons (dCall m_ends (aCons (dVar 1) aNil)) (aCons (dCall m_begins (aCons (dVar 1) aNil)) (aCons (dCall m_opposite (aCons (dVar 1) aNil)) (aCons (dCall m_round_of (aCons (dVar 1) aNil)) aNil))))))) aNil)) (dBi bRepr (aCons (dOwn 3) aNil)))) (gRet (dC (.bool false))) gNext)
  (gSeq (gIfS (tVal (d2 gNe (dBi bRepr (aCons (dN2 (nLst (aCons (dCallK m_pieces px_0 aNil (aCons (dVar 1) aNil)) (aCons (dCallK m_ends px_0 aNil (aCons (dVar 1) aNil)) (aCons (dCallK m_begins px_0 aNil (aCons (dVar 1) aNil)) (aCons (dCallK m_opposite px_0 aNil (aCons (dVar 1) aNil)) (aCons (dCallK m_round_of px_0 aNil (aCons (dVar 1) aNil)) aNil))))))) aNil)) (dBi bRepr (aCons (dOwn 3) aNil)))) (gRet (dC (.bool false))) gNext)
  (gSeq (gFor 64 (iRg rg1 (aCons (dC (.int 5)) aNil)) (gNm 4) g__law_right_b0)
  (gSeq (gIfS (tVal (d2 gNe (dN2 (nLc 100000 (iSeq (dTup (aCons (d1 gNeg (dC (.int 1))) (aCons (d2 gIx (dOwn 1) (dC (.int 0))) aNil)))) (gNm 7) tTrue (dCall m__law_told (aCons (dC (.int 3)) (aCons (dVar 1) (aCons (dVar 7) aNil)))) [7])) (dN2 (nLst (aCons (dTup (aCons (dN2 (nLst (aCons (dC (.int 1)) aNil))) (aCons (dC (.str "-1")) aNil))) (aCons (dTup (aCons (dN2 (nLst (aCons (dC (.int 1)) aNil))) (aCons (dBi bRepr (aCons (d2 gIx (dOwn 1) (dC (.int 0))) aNil)) aNil))) aNil)))))) (gRet (dC (.bool false))) gNext)
  (gRet (dAnd (dCall m__law_turned_right (aCons (dVar 1) aNil)) (d2 gEq (dCall m_opposite (aCons (dCall m_opposite (aCons (dVar 1) aNil)) aNil)) (dOwn 1))))))))))))) (nl := 12) (κ := 322) X.F__law_right sc__law_right X.M__law_right X.B__law_right rfl fun cdv A outer s H E wl S0 B => jb_le
    (jb_cons (ss B.c 1 (cl D__law_web B.c (by decide) (ac (v 0) (ac je_int (ac je_int ja_nil)))))
    (jb_cons (js_asF (slc 2 [("side", 9)] 100000 B.c (ji_seq (je_tup (ac je_int (ac je_int ja_nil)))) (fun s1 H1 q1 l1 p1 => (gn (Cok.blk B.c s1 H1 q1 l1 p1) 9)) (fun s1 H1 q1 l1 p1 => jts_nil) (fun s1 H1 q1 l1 p1 => (j_tuple rfl X.m_tuple (oc (je_o (jn_e (lc [("place", 7)] 100000 (Cok.blk B.c s1 H1 q1 l1 p1) (r1 X.m_range (oc (je_o (j_ix (o 1) (je_o je_int))) jo_nil)) (fun s2 H2 q2 l2 p2 => (gn (Cok.blk (Cok.blk B.c s1 H1 q1 l1 p1) s2 H2 q2 l2 p2) 7)) (fun s2 H2 q2 l2 p2 => (jts_one (t_nin (Cok.blk (Cok.blk B.c s1 H1 q1 l1 p1) s2 H2 q2 l2 p2) (o 7) (je_o (jn_e (lc [("arrow", 8)] 100000 (Cok.blk (Cok.blk B.c s1 H1 q1 l1 p1) s2 H2 q2 l2 p2) (ji_seq (j_ix (o 1) (je_o je_int))) (fun s3 H3 q3 l3 p3 => (gn (Cok.blk (Cok.blk (Cok.blk B.c s1 H1 q1 l1 p1) s2 H2 q2 l2 p2) s3 H3 q3 l3 p3) 8)) (fun s3 H3 q3 l3 p3 => jts_nil) (fun s3 H3 q3 l3 p3 => (j_ix (o 8) (o 9))))))))) (fun s2 H2 q2 l2 p2 => (v 7))))) jo_nil)))))
    (jb_cons (ss B.c 3 (jn_e (jn_lst (ac (cl D__law_pieces B.c (by decide) (ac (v 1) ja_nil)) (ac (j_ix (o 2) (je_o je_int)) (ac (j_ix (o 2) (je_o je_int)) (ac (je_tup (ac (j_ix (o 1) (je_o je_int)) (ac (j_tuple rfl X.m_tuple (oc (je_o (jn_e (lc [("begin", 10), ("end", 11)] 100000 B.c (ji_seq (j_ix (o 1) (je_o je_int))) (fun s1 H1 q1 l1 p1 => (gt (Cok.blk B.c s1 H1 q1 l1 p1) 2 (gc (gn (Cok.blk B.c s1 H1 q1 l1 p1) 10) (gc (gn (Cok.blk B.c s1 H1 q1 l1 p1) 11) jgs_nil)) (gs_len1 gm_name (gs_len1 gm_name gs_len0)))) (fun s1 H1 q1 l1 p1 => jts_nil) (fun s1 H1 q1 l1 p1 => (je_tup (ac (v 11) (ac (v 10) ja_nil))))))) jo_nil)) ja_nil))) (ac (cl D__law_round B.c (by decide) (ac (v 1) ja_nil)) ja_nil))))))))
    (jb_cons (js_if (t_ne B.c (je_o (j_repr B.c rfl X.m_repr (oc (je_o (jn_e (jn_lst (ac (cl D_pieces B.c (by decide) (ac (v 1) ja_nil)) (ac (cl D_ends B.c (by decide) (ac (v 1) ja_nil)) (ac (cl D_begins B.c (by decide) (ac (v 1) ja_nil)) (ac (cl D_opposite B.c (by decide) (ac (v 1) ja_nil)) (ac (cl D_round_of B.c (by decide) (ac (v 1) ja_nil)) ja_nil)))))))) jo_nil))) (je_o (j_repr B.c rfl X.m_repr (oc (o 3) jo_nil)))) (jb_one (js_ret je_bl)) jb_nil)
    (jb_cons (js_if (t_ne B.c (je_o (j_repr B.c rfl X.m_repr (oc (je_o (jn_e (jn_lst (ac (clk D_pieces B.c (by decide) X.K_pieces_0 (pd_0) (jk_cons (v 1) jk_nil)) (ac (clk D_ends B.c (by decide) X.K_ends_0 (pd_0) (jk_cons (v 1) jk_nil)) (ac (clk D_begins B.c (by decide) X.K_begins_0 (pd_0) (jk_cons (v 1) jk_nil)) (ac (clk D_opposite B.c (by decide) X.K_opposite_0 (pd_0) (jk_cons (v 1) jk_nil)) (ac (clk D_round_of B.c (by decide) X.K_round_of_0 (pd_0) (jk_cons (v 1) jk_nil)) ja_nil)))))))) jo_nil))) (je_o (j_repr B.c rfl X.m_repr (oc (o 3) jo_nil)))) (jb_one (js_ret je_bl)) jb_nil)
    (jb_cons (sf 64 B (r1 X.m_range (oc (je_o je_int) jo_nil)) (gn B.c 4) (jb_cons (ss B.c 5 (cl D__law_near B.c (by decide) (ac (v 0) (ac (v 1) ja_nil))))
    (jb_cons (ss B.c 6 (cl D__law_is_web B.c (by decide) (ac (v 5) ja_nil)))
    (jb_cons (js_if (t_ne B.c (je_o (j_repr B.c rfl X.m_repr (oc (je_o (jn_e (jn_lst (ac (cl D_is_web B.c (by decide) (ac (v 5) ja_nil)) (ac (clk D_is_web B.c (by decide) X.K_is_web_0 (pd_0) (jk_cons (v 5) jk_nil)) ja_nil))))) jo_nil))) (je_o (j_repr B.c rfl X.m_repr (oc (je_o (jn_e (jn_lst (ac (v 6) (ac (v 6) ja_nil))))) jo_nil)))) (jb_one (js_ret je_bl)) jb_nil)
    (jb_one (js_if (jw_pt (jw_and (jt_not (t_v (v 6))) (jw_and1 (t_ne B.c (je_o (jn_e (lc [("way", 12)] 100000 B.c (r1 X.m_range (oc (je_o je_int) jo_nil)) (fun s1 H1 q1 l1 p1 => (gn (Cok.blk B.c s1 H1 q1 l1 p1) 12)) (fun s1 H1 q1 l1 p1 => jts_nil) (fun s1 H1 q1 l1 p1 => (cl D__law_told (Cok.blk B.c s1 H1 q1 l1 p1) (by decide) (ac (v 12) (ac (v 5) (ac (je_neg (je_o je_int)) ja_nil)))))))) (je_o (je_mul (je_o (jn_e (jn_lst (ac (je_tup (ac (jn_e (jn_lst (ac je_int ja_nil))) (ac (j_repr B.c rfl X.m_repr (oc (o 5) jo_nil)) ja_nil))) ja_nil)))) (je_o je_int))))))) (jb_one (js_ret je_bl)) jb_nil))))))
    (jb_cons (js_if (t_ne B.c (je_o (jn_e (lc [("place", 7)] 100000 B.c (ji_seq (je_tup (ac (je_neg (je_o je_int)) (ac (j_ix (o 1) (je_o je_int)) ja_nil)))) (fun s1 H1 q1 l1 p1 => (gn (Cok.blk B.c s1 H1 q1 l1 p1) 7)) (fun s1 H1 q1 l1 p1 => jts_nil) (fun s1 H1 q1 l1 p1 => (cl D__law_told (Cok.blk B.c s1 H1 q1 l1 p1) (by decide) (ac je_int (ac (v 1) (ac (v 7) ja_nil)))))))) (je_o (jn_e (jn_lst (ac (je_tup (ac (jn_e (jn_lst (ac je_int ja_nil))) (ac je_str ja_nil))) (ac (je_tup (ac (jn_e (jn_lst (ac je_int ja_nil))) (ac (j_repr B.c rfl X.m_repr (oc (je_o (j_ix (o 1) (je_o je_int))) jo_nil)) ja_nil))) ja_nil)))))) (jb_one (js_ret je_bl)) jb_nil)
    (jb_one (js_ret (je_and (cl D__law_turned_right B.c (by decide) (ac (v 1) ja_nil)) (je_one (je_eq B.c (je_o (cl D_opposite B.c (by decide) (ac (cl D_opposite B.c (by decide) (ac (v 1) ja_nil)) ja_nil))) (o 1))))))))))))) (by decide)
theorem d_law
    (D__law_well : DefW P w K mg base "_law_well" ["script", "k"] 1 X.a__law_well X.fd__law_well)
    (D__law_right : DefG P w K mg base "_law_right" ["well"] 17 X.a__law_right X.fd__law_right (spD K X.CT 322 m__law_right))
    (HR : RightFn m__law_right) :
    DefG P w K mg base "law" ["script"] 18 X.a_law X.fd_law (spD K X.CT 0 m_law) := by
  rw [q_law]
  exact defG_of (CT := X.CT) (g := g_law) (nl := 3) (κ := 0) X.F_law sc_law X.M_law X.B_law rfl fun cdv A outer s H E wl S0 B => jb_le
    (jb_cons (sf 100000 B (r1 X.m_range (oc (je_o (j_max B.c rfl X.m_max (oc (je_o je_int) (oc (je_o (j_min B.c rfl X.m_min (oc (je_o je_int) (oc (je_o (j_len rfl X.m_len (oc (o 0) jo_nil))) jo_nil)))) jo_nil)))) jo_nil)) (gn B.c 1) (jb_cons (sn B.c 2 (jn_callW D__law_well B.c (by decide) (ac (v 0) (ac (v 1) ja_nil))))
    (jb_one (sf 100000 B (r1 X.m_range (oc (je_o je_int) jo_nil)) (gn B.c 3) (jb_one (js_right 2 D__law_right B.c (by decide) HR))))))
    (jb_one (js_ret je_bl))) (by decide)
end
end Law
namespace Law
open PySem PySem.Spec PyProof.Rows L2 Wb

theorem all_anew {P : Program} {w : World} {K : Frag} {mg : Str → Option Value} {base : Heap} (X : Fx P K mg) : ∀ j, DefG P w K mg base "anew" ["value"] j X.a_anew X.fd_anew (spD K X.CT 0 (anewG j))
  | 0 => ⟨⟨fun vs H Q E ⟨_, _, _, _, _, _, _, _, h, _⟩ => h.elim, fun A outer s H args us vs Q E _ _ _ _ _ ⟨_, _, _, _, _, _, _, _, h, _⟩ => h.elim⟩, X.M_anew, X.F_anew.kp, X.B_anew⟩
  | j + 1 => (st_anew X (all_anew X j)).imp (spD_imp (ev_anew j))
theorem all_mk {P : Program} {w : World} {K : Frag} {h : Heap} {mg : Str → Option Value} (kin : K.In h) (G : h.Ns mainGlobals mg) {fa : Addr} (hfa : mg "law" = some (.ref fa))
    {f6 : Addr} {oc6 kV6 dc6 pm6 cd6 ct6 : Value} {od6 an6 : Option Addr} {sl6 : Array (Option Value)}
    {f7 : Addr} {oc7 kV7 dc7 pm7 cd7 ct7 : Value} {od7 an7 : Option Addr} {sl7 : Array (Option Value)}
    {f8 : Addr} {oc8 kV8 dc8 pm8 cd8 ct8 : Value} {od8 an8 : Option Addr} {sl8 : Array (Option Value)}
    {f9 : Addr} {oc9 kV9 dc9 pm9 cd9 ct9 : Value} {od9 an9 : Option Addr} {sl9 : Array (Option Value)}
    {f13 : Addr} {oc13 kV13 dc13 pm13 cd13 ct13 : Value} {od13 an13 : Option Addr} {sl13 : Array (Option Value)}
    {f14 : Addr} {oc14 kV14 dc14 pm14 cd14 ct14 : Value} {od14 an14 : Option Addr} {sl14 : Array (Option Value)}
    {f15 : Addr} {oc15 kV15 dc15 pm15 cd15 ct15 : Value} {od15 an15 : Option Addr} {sl15 : Array (Option Value)}
    {f16 : Addr} {oc16 kV16 dc16 pm16 cd16 ct16 : Value} {od16 an16 : Option Addr} {sl16 : Array (Option Value)}
    {f17 : Addr} {oc17 kV17 dc17 pm17 cd17 ct17 : Value} {od17 an17 : Option Addr} {sl17 : Array (Option Value)}
    {f18 : Addr} {oc18 kV18 dc18 pm18 cd18 ct18 : Value} {od18 an18 : Option Addr} {sl18 : Array (Option Value)}
    {f19 : Addr} {oc19 kV19 dc19 pm19 cd19 ct19 : Value} {od19 an19 : Option Addr} {sl19 : Array (Option Value)}
    {f21 : Addr} {oc21 kV21 dc21 pm21 cd21 ct21 : Value} {od21 an21 : Option Addr} {sl21 : Array (Option Value)}
    {f20 : Addr} {oc20 kV20 dc20 pm20 cd20 ct20 : Value} {od20 an20 : Option Addr} {sl20 : Array (Option Value)}
    {f22 : Addr} {oc22 kV22 dc22 pm22 cd22 ct22 : Value} {od22 an22 : Option Addr} {sl22 : Array (Option Value)}
    {f23 : Addr} {oc23 kV23 dc23 pm23 cd23 ct23 : Value} {od23 an23 : Option Addr} {sl23 : Array (Option Value)}
    {f24 : Addr} {oc24 kV24 dc24 pm24 cd24 ct24 : Value} {od24 an24 : Option Addr} {sl24 : Array (Option Value)}
    {f25 : Addr} {oc25 kV25 dc25 pm25 cd25 ct25 : Value} {od25 an25 : Option Addr} {sl25 : Array (Option Value)}
    {f26 : Addr} {oc26 kV26 dc26 pm26 cd26 ct26 : Value} {od26 an26 : Option Addr} {sl26 : Array (Option Value)}
    {f27 : Addr} {oc27 kV27 dc27 pm27 cd27 ct27 : Value} {od27 an27 : Option Addr} {sl27 : Array (Option Value)}
    {f28 : Addr} {oc28 kV28 dc28 pm28 cd28 ct28 : Value} {od28 an28 : Option Addr} {sl28 : Array (Option Value)}
    {f29 : Addr} {oc29 kV29 dc29 pm29 cd29 ct29 : Value} {od29 an29 : Option Addr} {sl29 : Array (Option Value)}
    {f30 : Addr} {oc30 kV30 dc30 pm30 cd30 ct30 : Value} {od30 an30 : Option Addr} {sl30 : Array (Option Value)}
    {f32 : Addr} {oc32 kV32 dc32 pm32 cd32 ct32 : Value} {od32 an32 : Option Addr} {sl32 : Array (Option Value)}
    {f33 : Addr} {oc33 kV33 dc33 pm33 cd33 ct33 : Value} {od33 an33 : Option Addr} {sl33 : Array (Option Value)}
    {f34 : Addr} {oc34 kV34 dc34 pm34 cd34 ct34 : Value} {od34 an34 : Option Addr} {sl34 : Array (Option Value)}
    {f35 : Addr} {oc35 kV35 dc35 pm35 cd35 ct35 : Value} {od35 an35 : Option Addr} {sl35 : Array (Option Value)}
    {f36 : Addr} {oc36 kV36 dc36 pm36 cd36 ct36 : Value} {od36 an36 : Option Addr} {sl36 : Array (Option Value)}
    {f37 : Addr} {oc37 kV37 dc37 pm37 cd37 ct37 : Value} {od37 an37 : Option Addr} {sl37 : Array (Option Value)}
    {f38 : Addr} {oc38 kV38 dc38 pm38 cd38 ct38 : Value} {od38 an38 : Option Addr} {sl38 : Array (Option Value)}
    {f39 : Addr} {oc39 kV39 dc39 pm39 cd39 ct39 : Value} {od39 an39 : Option Addr} {sl39 : Array (Option Value)}
    {f40 : Addr} {oc40 kV40 dc40 pm40 cd40 ct40 : Value} {od40 an40 : Option Addr} {sl40 : Array (Option Value)}
    {f41 : Addr} {oc41 kV41 dc41 pm41 cd41 ct41 : Value} {od41 an41 : Option Addr} {sl41 : Array (Option Value)}
    {f42 : Addr} {oc42 kV42 dc42 pm42 cd42 ct42 : Value} {od42 an42 : Option Addr} {sl42 : Array (Option Value)}
    {f43 : Addr} {oc43 kV43 dc43 pm43 cd43 ct43 : Value} {od43 an43 : Option Addr} {sl43 : Array (Option Value)}
    {f44 : Addr} {oc44 kV44 dc44 pm44 cd44 ct44 : Value} {od44 an44 : Option Addr} {sl44 : Array (Option Value)}
    {f45 : Addr} {oc45 kV45 dc45 pm45 cd45 ct45 : Value} {od45 an45 : Option Addr} {sl45 : Array (Option Value)}
    {t_PLACES : Tok}
    {t_ARROWS : Tok}
    {eD eI : Addr} {oce : Value} {ode : Option Addr} {doce pme : Value} {ane : Option Addr} {cte kVe : Value} {osle : Array (Option Value)} {cda cc : Addr} {ccl : Value} {cdd : Option Addr} {vse : Array Value} {ccs : Array (Option Value)} {file : Str} {tf : Tok} {cle : Value} {cld : Option Addr} {csl : Array (Option Value)}
    {C0 : Addr} {nm0 q0 : Str} {N0 : Addr} {bs0 : List Value} {sn0 : List Str} {sub0 : List Value} {ab0 : Bool} {col0 : Option Bool} {dd0 : Option Addr} {u00 u10 u20 u30 u50 : Option Value}
    {C1 : Addr} {nm1 q1 : Str} {N1 : Addr} {bs1 : List Value} {sn1 : List Str} {sub1 : List Value} {ab1 : Bool} {col1 : Option Bool} {dd1 : Option Addr} {u01 u11 u21 u31 u51 : Option Value}
    {C2 : Addr} {nm2 q2 : Str} {N2 : Addr} {bs2 : List Value} {sn2 : List Str} {sub2 : List Value} {ab2 : Bool} {col2 : Option Bool} {dd2 : Option Addr} {u02 u12 u22 u32 u52 : Option Value}
    (n6 : PySem.W.nsIn K mainGlobals "is_integer" = some (some (.ref f6)))
    (l6 : K.lookup f6 = some ⟨oc6, od6, .func (PySem.W.fnOf "is_integer" "is_integer" (defArgs s_is_integer) (defBody s_is_integer) (defScope s_is_integer) .none kV6 dc6 pm6 an6 cd6 ct6), sl6⟩)
    (c6 : PySem.W.codeIn K cd6 "is_integer" = true)
    (k6 : PySem.W.keepIn K (.ref f6) = true)
    (n7 : PySem.W.nsIn K mainGlobals "is_between" = some (some (.ref f7)))
    (l7 : K.lookup f7 = some ⟨oc7, od7, .func (PySem.W.fnOf "is_between" "is_between" (defArgs s_is_between) (defBody s_is_between) (defScope s_is_between) .none kV7 dc7 pm7 an7 cd7 ct7), sl7⟩)
    (c7 : PySem.W.codeIn K cd7 "is_between" = true)
    (k7 : PySem.W.keepIn K (.ref f7) = true)
    (n8 : PySem.W.nsIn K mainGlobals "is_tuple" = some (some (.ref f8)))
    (l8 : K.lookup f8 = some ⟨oc8, od8, .func (PySem.W.fnOf "is_tuple" "is_tuple" (defArgs s_is_tuple) (defBody s_is_tuple) (defScope s_is_tuple) .none kV8 dc8 pm8 an8 cd8 ct8), sl8⟩)
    (c8 : PySem.W.codeIn K cd8 "is_tuple" = true)
    (k8 : PySem.W.keepIn K (.ref f8) = true)
    (n9 : PySem.W.nsIn K mainGlobals "anew" = some (some (.ref f9)))
    (l9 : K.lookup f9 = some ⟨oc9, od9, .func (PySem.W.fnOf "anew" "anew" (defArgs s_anew) (defBody s_anew) (defScope s_anew) .none kV9 dc9 pm9 an9 cd9 ct9), sl9⟩)
    (c9 : PySem.W.codeIn K cd9 "anew" = true)
    (k9 : PySem.W.keepIn K (.ref f9) = true)
    (n13 : PySem.W.nsIn K mainGlobals "rounded" = some (some (.ref f13)))
    (l13 : K.lookup f13 = some ⟨oc13, od13, .func (PySem.W.fnOf "rounded" "rounded" (defArgs s_rounded) (defBody s_rounded) (defScope s_rounded) .none kV13 dc13 pm13 an13 cd13 ct13), sl13⟩)
    (c13 : PySem.W.codeIn K cd13 "rounded" = true)
    (k13 : PySem.W.keepIn K (.ref f13) = true)
    (n14 : PySem.W.nsIn K mainGlobals "is_arrow" = some (some (.ref f14)))
    (l14 : K.lookup f14 = some ⟨oc14, od14, .func (PySem.W.fnOf "is_arrow" "is_arrow" (defArgs s_is_arrow) (defBody s_is_arrow) (defScope s_is_arrow) .none kV14 dc14 pm14 an14 cd14 ct14), sl14⟩)
    (c14 : PySem.W.codeIn K cd14 "is_arrow" = true)
    (k14 : PySem.W.keepIn K (.ref f14) = true)
    (n15 : PySem.W.nsIn K mainGlobals "is_web" = some (some (.ref f15)))
    (l15 : K.lookup f15 = some ⟨oc15, od15, .func (PySem.W.fnOf "is_web" "is_web" (defArgs s_is_web) (defBody s_is_web) (defScope s_is_web) .none kV15 dc15 pm15 an15 cd15 ct15), sl15⟩)
    (c15 : PySem.W.codeIn K cd15 "is_web" = true)
    (k15 : PySem.W.keepIn K (.ref f15) = true)
    (n16 : PySem.W.nsIn K mainGlobals "need_web" = some (some (.ref f16)))
    (l16 : K.lookup f16 = some ⟨oc16, od16, .func (PySem.W.fnOf "need_web" "need_web" (defArgs s_need_web) (defBody s_need_web) (defScope s_need_web) .none kV16 dc16 pm16 an16 cd16 ct16), sl16⟩)
    (c16 : PySem.W.codeIn K cd16 "need_web" = true)
    (k16 : PySem.W.keepIn K (.ref f16) = true)
    (n17 : PySem.W.nsIn K mainGlobals "need_place" = some (some (.ref f17)))
    (l17 : K.lookup f17 = some ⟨oc17, od17, .func (PySem.W.fnOf "need_place" "need_place" (defArgs s_need_place) (defBody s_need_place) (defScope s_need_place) .none kV17 dc17 pm17 an17 cd17 ct17), sl17⟩)
    (c17 : PySem.W.codeIn K cd17 "need_place" = true)
    (k17 : PySem.W.keepIn K (.ref f17) = true)
    (n18 : PySem.W.nsIn K mainGlobals "need_at" = some (some (.ref f18)))
    (l18 : K.lookup f18 = some ⟨oc18, od18, .func (PySem.W.fnOf "need_at" "need_at" (defArgs s_need_at) (defBody s_need_at) (defScope s_need_at) .none kV18 dc18 pm18 an18 cd18 ct18), sl18⟩)
    (c18 : PySem.W.codeIn K cd18 "need_at" = true)
    (k18 : PySem.W.keepIn K (.ref f18) = true)
    (n19 : PySem.W.nsIn K mainGlobals "ends_in" = some (some (.ref f19)))
    (l19 : K.lookup f19 = some ⟨oc19, od19, .func (PySem.W.fnOf "ends_in" "ends_in" (defArgs s_ends_in) (defBody s_ends_in) (defScope s_ends_in) .none kV19 dc19 pm19 an19 cd19 ct19), sl19⟩)
    (c19 : PySem.W.codeIn K cd19 "ends_in" = true)
    (k19 : PySem.W.keepIn K (.ref f19) = true)
    (n21 : PySem.W.nsIn K mainGlobals "opposite_in" = some (some (.ref f21)))
    (l21 : K.lookup f21 = some ⟨oc21, od21, .func (PySem.W.fnOf "opposite_in" "opposite_in" (defArgs s_opposite_in) (defBody s_opposite_in) (defScope s_opposite_in) .none kV21 dc21 pm21 an21 cd21 ct21), sl21⟩)
    (c21 : PySem.W.codeIn K cd21 "opposite_in" = true)
    (k21 : PySem.W.keepIn K (.ref f21) = true)
    (n20 : PySem.W.nsIn K mainGlobals "begins_in" = some (some (.ref f20)))
    (l20 : K.lookup f20 = some ⟨oc20, od20, .func (PySem.W.fnOf "begins_in" "begins_in" (defArgs s_begins_in) (defBody s_begins_in) (defScope s_begins_in) .none kV20 dc20 pm20 an20 cd20 ct20), sl20⟩)
    (c20 : PySem.W.codeIn K cd20 "begins_in" = true)
    (k20 : PySem.W.keepIn K (.ref f20) = true)
    (n22 : PySem.W.nsIn K mainGlobals "turned_web" = some (some (.ref f22)))
    (l22 : K.lookup f22 = some ⟨oc22, od22, .func (PySem.W.fnOf "turned_web" "turned_web" (defArgs s_turned_web) (defBody s_turned_web) (defScope s_turned_web) .none kV22 dc22 pm22 an22 cd22 ct22), sl22⟩)
    (c22 : PySem.W.codeIn K cd22 "turned_web" = true)
    (k22 : PySem.W.keepIn K (.ref f22) = true)
    (n23 : PySem.W.nsIn K mainGlobals "need_turnable" = some (some (.ref f23)))
    (l23 : K.lookup f23 = some ⟨oc23, od23, .func (PySem.W.fnOf "need_turnable" "need_turnable" (defArgs s_need_turnable) (defBody s_need_turnable) (defScope s_need_turnable) .none kV23 dc23 pm23 an23 cd23 ct23), sl23⟩)
    (c23 : PySem.W.codeIn K cd23 "need_turnable" = true)
    (k23 : PySem.W.keepIn K (.ref f23) = true)
    (n24 : PySem.W.nsIn K mainGlobals "pieces_in" = some (some (.ref f24)))
    (l24 : K.lookup f24 = some ⟨oc24, od24, .func (PySem.W.fnOf "pieces_in" "pieces_in" (defArgs s_pieces_in) (defBody s_pieces_in) (defScope s_pieces_in) .none kV24 dc24 pm24 an24 cd24 ct24), sl24⟩)
    (c24 : PySem.W.codeIn K cd24 "pieces_in" = true)
    (k24 : PySem.W.keepIn K (.ref f24) = true)
    (n25 : PySem.W.nsIn K mainGlobals "pieces" = some (some (.ref f25)))
    (l25 : K.lookup f25 = some ⟨oc25, od25, .func (PySem.W.fnOf "pieces" "pieces" (defArgs s_pieces) (defBody s_pieces) (defScope s_pieces) .none kV25 dc25 pm25 an25 cd25 ct25), sl25⟩)
    (c25 : PySem.W.codeIn K cd25 "pieces" = true)
    (k25 : PySem.W.keepIn K (.ref f25) = true)
    (n26 : PySem.W.nsIn K mainGlobals "ends" = some (some (.ref f26)))
    (l26 : K.lookup f26 = some ⟨oc26, od26, .func (PySem.W.fnOf "ends" "ends" (defArgs s_ends) (defBody s_ends) (defScope s_ends) .none kV26 dc26 pm26 an26 cd26 ct26), sl26⟩)
    (c26 : PySem.W.codeIn K cd26 "ends" = true)
    (k26 : PySem.W.keepIn K (.ref f26) = true)
    (n27 : PySem.W.nsIn K mainGlobals "begins" = some (some (.ref f27)))
    (l27 : K.lookup f27 = some ⟨oc27, od27, .func (PySem.W.fnOf "begins" "begins" (defArgs s_begins) (defBody s_begins) (defScope s_begins) .none kV27 dc27 pm27 an27 cd27 ct27), sl27⟩)
    (c27 : PySem.W.codeIn K cd27 "begins" = true)
    (k27 : PySem.W.keepIn K (.ref f27) = true)
    (n28 : PySem.W.nsIn K mainGlobals "opposite" = some (some (.ref f28)))
    (l28 : K.lookup f28 = some ⟨oc28, od28, .func (PySem.W.fnOf "opposite" "opposite" (defArgs s_opposite) (defBody s_opposite) (defScope s_opposite) .none kV28 dc28 pm28 an28 cd28 ct28), sl28⟩)
    (c28 : PySem.W.codeIn K cd28 "opposite" = true)
    (k28 : PySem.W.keepIn K (.ref f28) = true)
    (n29 : PySem.W.nsIn K mainGlobals "turned_at" = some (some (.ref f29)))
    (l29 : K.lookup f29 = some ⟨oc29, od29, .func (PySem.W.fnOf "turned_at" "turned_at" (defArgs s_turned_at) (defBody s_turned_at) (defScope s_turned_at) .none kV29 dc29 pm29 an29 cd29 ct29), sl29⟩)
    (c29 : PySem.W.codeIn K cd29 "turned_at" = true)
    (k29 : PySem.W.keepIn K (.ref f29) = true)
    (n30 : PySem.W.nsIn K mainGlobals "round_of" = some (some (.ref f30)))
    (l30 : K.lookup f30 = some ⟨oc30, od30, .func (PySem.W.fnOf "round_of" "round_of" (defArgs s_round_of) (defBody s_round_of) (defScope s_round_of) .none kV30 dc30 pm30 an30 cd30 ct30), sl30⟩)
    (c30 : PySem.W.codeIn K cd30 "round_of" = true)
    (k30 : PySem.W.keepIn K (.ref f30) = true)
    (n32 : PySem.W.nsIn K mainGlobals "_law_well" = some (some (.ref f32)))
    (l32 : K.lookup f32 = some ⟨oc32, od32, .func (PySem.W.fnOf "_law_well" "_law_well" (defArgs s__law_well) (defBody s__law_well) (defScope s__law_well) .none kV32 dc32 pm32 an32 cd32 ct32), sl32⟩)
    (c32 : PySem.W.codeIn K cd32 "_law_well" = true)
    (k32 : PySem.W.keepIn K (.ref f32) = true)
    (n33 : PySem.W.nsIn K mainGlobals "_law_draw" = some (some (.ref f33)))
    (l33 : K.lookup f33 = some ⟨oc33, od33, .func (PySem.W.fnOf "_law_draw" "_law_draw" (defArgs s__law_draw) (defBody s__law_draw) (defScope s__law_draw) .none kV33 dc33 pm33 an33 cd33 ct33), sl33⟩)
    (c33 : PySem.W.codeIn K cd33 "_law_draw" = true)
    (k33 : PySem.W.keepIn K (.ref f33) = true)
    (n34 : PySem.W.nsIn K mainGlobals "_law_order" = some (some (.ref f34)))
    (l34 : K.lookup f34 = some ⟨oc34, od34, .func (PySem.W.fnOf "_law_order" "_law_order" (defArgs s__law_order) (defBody s__law_order) (defScope s__law_order) .none kV34 dc34 pm34 an34 cd34 ct34), sl34⟩)
    (c34 : PySem.W.codeIn K cd34 "_law_order" = true)
    (k34 : PySem.W.keepIn K (.ref f34) = true)
    (n35 : PySem.W.nsIn K mainGlobals "_law_web" = some (some (.ref f35)))
    (l35 : K.lookup f35 = some ⟨oc35, od35, .func (PySem.W.fnOf "_law_web" "_law_web" (defArgs s__law_web) (defBody s__law_web) (defScope s__law_web) .none kV35 dc35 pm35 an35 cd35 ct35), sl35⟩)
    (c35 : PySem.W.codeIn K cd35 "_law_web" = true)
    (k35 : PySem.W.keepIn K (.ref f35) = true)
    (n36 : PySem.W.nsIn K mainGlobals "_law_is_count" = some (some (.ref f36)))
    (l36 : K.lookup f36 = some ⟨oc36, od36, .func (PySem.W.fnOf "_law_is_count" "_law_is_count" (defArgs s__law_is_count) (defBody s__law_is_count) (defScope s__law_is_count) .none kV36 dc36 pm36 an36 cd36 ct36), sl36⟩)
    (c36 : PySem.W.codeIn K cd36 "_law_is_count" = true)
    (k36 : PySem.W.keepIn K (.ref f36) = true)
    (n37 : PySem.W.nsIn K mainGlobals "_law_reached" = some (some (.ref f37)))
    (l37 : K.lookup f37 = some ⟨oc37, od37, .func (PySem.W.fnOf "_law_reached" "_law_reached" (defArgs s__law_reached) (defBody s__law_reached) (defScope s__law_reached) .none kV37 dc37 pm37 an37 cd37 ct37), sl37⟩)
    (c37 : PySem.W.codeIn K cd37 "_law_reached" = true)
    (k37 : PySem.W.keepIn K (.ref f37) = true)
    (n38 : PySem.W.nsIn K mainGlobals "_law_is_web" = some (some (.ref f38)))
    (l38 : K.lookup f38 = some ⟨oc38, od38, .func (PySem.W.fnOf "_law_is_web" "_law_is_web" (defArgs s__law_is_web) (defBody s__law_is_web) (defScope s__law_is_web) .none kV38 dc38 pm38 an38 cd38 ct38), sl38⟩)
    (c38 : PySem.W.codeIn K cd38 "_law_is_web" = true)
    (k38 : PySem.W.keepIn K (.ref f38) = true)
    (n39 : PySem.W.nsIn K mainGlobals "_law_near" = some (some (.ref f39)))
    (l39 : K.lookup f39 = some ⟨oc39, od39, .func (PySem.W.fnOf "_law_near" "_law_near" (defArgs s__law_near) (defBody s__law_near) (defScope s__law_near) .none kV39 dc39 pm39 an39 cd39 ct39), sl39⟩)
    (c39 : PySem.W.codeIn K cd39 "_law_near" = true)
    (k39 : PySem.W.keepIn K (.ref f39) = true)
    (n40 : PySem.W.nsIn K mainGlobals "_law_pieces" = some (some (.ref f40)))
    (l40 : K.lookup f40 = some ⟨oc40, od40, .func (PySem.W.fnOf "_law_pieces" "_law_pieces" (defArgs s__law_pieces) (defBody s__law_pieces) (defScope s__law_pieces) .none kV40 dc40 pm40 an40 cd40 ct40), sl40⟩)
    (c40 : PySem.W.codeIn K cd40 "_law_pieces" = true)
    (k40 : PySem.W.keepIn K (.ref f40) = true)
    (n41 : PySem.W.nsIn K mainGlobals "_law_round" = some (some (.ref f41)))
    (l41 : K.lookup f41 = some ⟨oc41, od41, .func (PySem.W.fnOf "_law_round" "_law_round" (defArgs s__law_round) (defBody s__law_round) (defScope s__law_round) .none kV41 dc41 pm41 an41 cd41 ct41), sl41⟩)
    (c41 : PySem.W.codeIn K cd41 "_law_round" = true)
    (k41 : PySem.W.keepIn K (.ref f41) = true)
    (n42 : PySem.W.nsIn K mainGlobals "_law_told" = some (some (.ref f42)))
    (l42 : K.lookup f42 = some ⟨oc42, od42, .func (PySem.W.fnOf "_law_told" "_law_told" (defArgs s__law_told) (defBody s__law_told) (defScope s__law_told) .none kV42 dc42 pm42 an42 cd42 ct42), sl42⟩)
    (c42 : PySem.W.codeIn K cd42 "_law_told" = true)
    (k42 : PySem.W.keepIn K (.ref f42) = true)
    (n43 : PySem.W.nsIn K mainGlobals "_law_turned_right" = some (some (.ref f43)))
    (l43 : K.lookup f43 = some ⟨oc43, od43, .func (PySem.W.fnOf "_law_turned_right" "_law_turned_right" (defArgs s__law_turned_right) (defBody s__law_turned_right) (defScope s__law_turned_right) .none kV43 dc43 pm43 an43 cd43 ct43), sl43⟩)
    (c43 : PySem.W.codeIn K cd43 "_law_turned_right" = true)
    (k43 : PySem.W.keepIn K (.ref f43) = true)
    (n44 : PySem.W.nsIn K mainGlobals "_law_right" = some (some (.ref f44)))
    (l44 : K.lookup f44 = some ⟨oc44, od44, .func (PySem.W.fnOf "_law_right" "_law_right" (defArgs s__law_right) (defBody s__law_right) (defScope s__law_right) .none kV44 dc44 pm44 an44 cd44 ct44), sl44⟩)
    (c44 : PySem.W.codeIn K cd44 "_law_right" = true)
    (k44 : PySem.W.keepIn K (.ref f44) = true)
    (n45 : PySem.W.nsIn K mainGlobals "law" = some (some (.ref f45)))
    (l45 : K.lookup f45 = some ⟨oc45, od45, .func (PySem.W.fnOf "law" "law" (defArgs s_law) (defBody s_law) (defScope s_law) .none kV45 dc45 pm45 an45 cd45 ct45), sl45⟩)
    (c45 : PySem.W.codeIn K cd45 "law" = true)
    (k45 : PySem.W.keepIn K (.ref f45) = true)
    (z_abs : PySem.W.nsIn K mainGlobals "abs" = some none)
    (z_all : PySem.W.nsIn K mainGlobals "all" = some none)
    (z_any : PySem.W.nsIn K mainGlobals "any" = some none)
    (z_bool : PySem.W.nsIn K mainGlobals "bool" = some none)
    (z_int : PySem.W.nsIn K mainGlobals "int" = some none)
    (z_isinstance : PySem.W.nsIn K mainGlobals "isinstance" = some none)
    (z_len : PySem.W.nsIn K mainGlobals "len" = some none)
    (z_list : PySem.W.nsIn K mainGlobals "list" = some none)
    (z_max : PySem.W.nsIn K mainGlobals "max" = some none)
    (z_min : PySem.W.nsIn K mainGlobals "min" = some none)
    (z_range : PySem.W.nsIn K mainGlobals "range" = some none)
    (z_repr : PySem.W.nsIn K mainGlobals "repr" = some none)
    (z_set : PySem.W.nsIn K mainGlobals "set" = some none)
    (z_sorted : PySem.W.nsIn K mainGlobals "sorted" = some none)
    (z_tuple : PySem.W.nsIn K mainGlobals "tuple" = some none)
    (g_PLACES : PySem.W.nsIn K mainGlobals "PLACES" = some (some (.int 9 t_PLACES)))
    (g_ARROWS : PySem.W.nsIn K mainGlobals "ARROWS" = some (some (.int 12 t_ARROWS)))
    (nD : PySem.W.nsIn K mainGlobals "WebsError" = some (some (.ref eD)))
    (eN0 : PySem.W.nsIn K mainGlobals "InvalidWeb" = some (some (.ref C0)))
    (eN1 : PySem.W.nsIn K mainGlobals "InvalidPlace" = some (some (.ref C1)))
    (eN2 : PySem.W.nsIn K mainGlobals "NotTurnable" = some (some (.ref C2)))
    (iC0 : PySem.W.findIn K (.ref C0) "__init__" = some (some (.ref eI)))
    (eFn : K.lookup eI = some ⟨oce, ode, .func (PySem.W.ksFn "__init__" "WebsError.__init__" (iA ⟨4, 17, 4, 21⟩ ⟨4, 23, 4, 28⟩) (iB ⟨5, 8, 5, 13⟩ ⟨5, 8, 5, 15⟩ ⟨5, 8, 5, 24⟩ ⟨5, 25, 5, 36⟩ ⟨5, 8, 5, 37⟩ ⟨5, 8, 5, 37⟩ ⟨6, 8, 6, 12⟩ ⟨6, 8, 6, 18⟩ ⟨6, 21, 6, 26⟩ ⟨6, 8, 6, 26⟩) iS .none kVe doce pme ane (.ref cda) cte cc), osle⟩)
    (eCd : PySem.W.codeIn K (.ref cda) "WebsError.__init__" = true)
    (eCl : K.lookup cda = some ⟨ccl, cdd, .fields vse, ccs⟩)
    (eFi : vse[2]? = some (.str file tf))
    (eFf : ((P.main.file : Str) == file) = true)
    (eCc : K.lookup cc = some ⟨cle, cld, .cell (some (.ref eD)), csl⟩)
    (eClD : (PySem.W.clsIn K eD).isSome = true)
    (eSup : PySem.W.nsIn K mainGlobals "super" = some none)
    (eTop : (P.main.scope.names.lookup ("super" : Str)).isSome = false)
    (eAny : PySem.W.nsIn K PySem.cStatics "thirdparty.any" = some none)
    (eTI : PySem.W.typeIn K (.ref eI) = some (.type "function"))
    (hn : PySem.W.specialIn K (.builtin "object.__class__") "__get__" = some (some (.builtin "getset_descriptor.__get__")))
    (ht : PySem.W.takesIn K (.builtin "object.__class__") = some true)
    (xL0 : K.lookup C0 = some (excClassObj nm0 q0 C0 N0 bs0 [.ref eD, .type "ValueError", .type "Exception", .type "BaseException", .type "object"] true sn0 sub0 ab0 col0 dd0 u00 u10 u20 u30 u50 "ValueError.__new__"))
    (sa0 : PySem.W.findIn K (.ref C0) "__setattr__" = some (some (.builtin "object.__setattr__")))
    (ga0 : PySem.W.findIn K (.ref C0) "__getattribute__" = some (some (.builtin "BaseException.__getattribute__")))
    (gg0 : PySem.W.findIn K (.ref C0) "__getattr__" = some none)
    (nv0 : PySem.W.findIn K (.ref C0) "value" = some none)
    (kC0 : PySem.W.keepIn K (.ref C0) = true)
    (eX0 : PySem.W.subIn K (.ref C0) (.type "BaseException") = some true)
    (eV0 : PySem.W.subIn K (.ref C0) (.type "ValueError") = some true)
    (tC0 : PySem.W.typeIn K (.ref C0) = some (.type "type"))
    (hD0 : PySem.W.hasDictIn K C0 = true)
    (mD0 : PySem.W.mroIn K C0 (.ref eD) = some true)
    (sp0 : PySem.W.ks_superIn K C0 eD "__init__" = some (some (.builtin "ValueError.__init__")))
    (hc0 : (PySem.W.clsIn K C0).isSome = true)
    (ha0 : PySem.W.findIn K (.ref C0) "__class__" = some (some (.builtin "object.__class__")))
    (hm0 : PySem.W.mroIn K C0 (.type "object") = some true)
    (xm0 : PySem.W.exmOne K (.ref C0) (.ref eD) = some true)
    (kn0 : PySem.W.kitOne K (.type "NoneType") (.ref C0) = some false)
    (kl0x0 : PySem.W.kitOne K (.ref C0) (.ref C0) = some true)
    (kl1x0 : PySem.W.kitOne K (.ref C1) (.ref C0) = some false)
    (kl2x0 : PySem.W.kitOne K (.ref C2) (.ref C0) = some false)
    (iC1 : PySem.W.findIn K (.ref C1) "__init__" = some (some (.ref eI)))
    (xL1 : K.lookup C1 = some (excClassObj nm1 q1 C1 N1 bs1 [.ref eD, .type "ValueError", .type "Exception", .type "BaseException", .type "object"] true sn1 sub1 ab1 col1 dd1 u01 u11 u21 u31 u51 "ValueError.__new__"))
    (sa1 : PySem.W.findIn K (.ref C1) "__setattr__" = some (some (.builtin "object.__setattr__")))
    (ga1 : PySem.W.findIn K (.ref C1) "__getattribute__" = some (some (.builtin "BaseException.__getattribute__")))
    (gg1 : PySem.W.findIn K (.ref C1) "__getattr__" = some none)
    (nv1 : PySem.W.findIn K (.ref C1) "value" = some none)
    (kC1 : PySem.W.keepIn K (.ref C1) = true)
    (eX1 : PySem.W.subIn K (.ref C1) (.type "BaseException") = some true)
    (eV1 : PySem.W.subIn K (.ref C1) (.type "ValueError") = some true)
    (tC1 : PySem.W.typeIn K (.ref C1) = some (.type "type"))
    (hD1 : PySem.W.hasDictIn K C1 = true)
    (mD1 : PySem.W.mroIn K C1 (.ref eD) = some true)
    (sp1 : PySem.W.ks_superIn K C1 eD "__init__" = some (some (.builtin "ValueError.__init__")))
    (hc1 : (PySem.W.clsIn K C1).isSome = true)
    (ha1 : PySem.W.findIn K (.ref C1) "__class__" = some (some (.builtin "object.__class__")))
    (hm1 : PySem.W.mroIn K C1 (.type "object") = some true)
    (xm1 : PySem.W.exmOne K (.ref C1) (.ref eD) = some true)
    (kn1 : PySem.W.kitOne K (.type "NoneType") (.ref C1) = some false)
    (kl0x1 : PySem.W.kitOne K (.ref C0) (.ref C1) = some false)
    (kl1x1 : PySem.W.kitOne K (.ref C1) (.ref C1) = some true)
    (kl2x1 : PySem.W.kitOne K (.ref C2) (.ref C1) = some false)
    (iC2 : PySem.W.findIn K (.ref C2) "__init__" = some (some (.ref eI)))
    (xL2 : K.lookup C2 = some (excClassObj nm2 q2 C2 N2 bs2 [.ref eD, .type "ValueError", .type "Exception", .type "BaseException", .type "object"] true sn2 sub2 ab2 col2 dd2 u02 u12 u22 u32 u52 "ValueError.__new__"))
    (sa2 : PySem.W.findIn K (.ref C2) "__setattr__" = some (some (.builtin "object.__setattr__")))
    (ga2 : PySem.W.findIn K (.ref C2) "__getattribute__" = some (some (.builtin "BaseException.__getattribute__")))
    (gg2 : PySem.W.findIn K (.ref C2) "__getattr__" = some none)
    (nv2 : PySem.W.findIn K (.ref C2) "value" = some none)
    (kC2 : PySem.W.keepIn K (.ref C2) = true)
    (eX2 : PySem.W.subIn K (.ref C2) (.type "BaseException") = some true)
    (eV2 : PySem.W.subIn K (.ref C2) (.type "ValueError") = some true)
    (tC2 : PySem.W.typeIn K (.ref C2) = some (.type "type"))
    (hD2 : PySem.W.hasDictIn K C2 = true)
    (mD2 : PySem.W.mroIn K C2 (.ref eD) = some true)
    (sp2 : PySem.W.ks_superIn K C2 eD "__init__" = some (some (.builtin "ValueError.__init__")))
    (hc2 : (PySem.W.clsIn K C2).isSome = true)
    (ha2 : PySem.W.findIn K (.ref C2) "__class__" = some (some (.builtin "object.__class__")))
    (hm2 : PySem.W.mroIn K C2 (.type "object") = some true)
    (xm2 : PySem.W.exmOne K (.ref C2) (.ref eD) = some true)
    (kn2 : PySem.W.kitOne K (.type "NoneType") (.ref C2) = some false)
    (kl0x2 : PySem.W.kitOne K (.ref C0) (.ref C2) = some false)
    (kl1x2 : PySem.W.kitOne K (.ref C1) (.ref C2) = some false)
    (kl2x2 : PySem.W.kitOne K (.ref C2) (.ref C2) = some true) :
    ∃ (fd : FuncData) (CT : Nat → Addr), (∀ (s : Shared) (u : Value), BindsTo s fd ⟨[u], []⟩ [("script", u)]) ∧ ∀ base : Heap, K.In base → base.Ns mainGlobals mg → FnG P w K mg base 18 fa fd ["script"] (spD K CT 0 m_law) := by
  have e := hfa.symm.trans (PySem.W.mg_of kin G n45)
  cases e
  let CT : Nat → Addr := fun c => match c with | 0 => C0 | 1 => C1 | 2 => C2 | _ + 3 => C0
  have ec0 : ErrCls K eD eI C0 := ⟨⟨nm0, q0, N0, bs0, _, sn0, sub0, ab0, col0, dd0, u00, u10, u20, u30, u50, xL0, by rfl⟩, sa0, ga0, gg0, nv0, iC0, kC0, eX0, eV0, tC0, hD0, mD0, sp0⟩
  have ic0 : IsC K C0 := ⟨hc0, ga0, gg0, eX0, ha0, hn, ht, hm0⟩
  have ec1 : ErrCls K eD eI C1 := ⟨⟨nm1, q1, N1, bs1, _, sn1, sub1, ab1, col1, dd1, u01, u11, u21, u31, u51, xL1, by rfl⟩, sa1, ga1, gg1, nv1, iC1, kC1, eX1, eV1, tC1, hD1, mD1, sp1⟩
  have ic1 : IsC K C1 := ⟨hc1, ga1, gg1, eX1, ha1, hn, ht, hm1⟩
  have ec2 : ErrCls K eD eI C2 := ⟨⟨nm2, q2, N2, bs2, _, sn2, sub2, ab2, col2, dd2, u02, u12, u22, u32, u52, xL2, by rfl⟩, sa2, ga2, gg2, nv2, iC2, kC2, eX2, eV2, tC2, hD2, mD2, sp2⟩
  have ic2 : IsC K C2 := ⟨hc2, ga2, gg2, eX2, ha2, hn, ht, hm2⟩
  have EB : ErrBase P K mg eD eI := ⟨⟨oce, ode, doce, pme, ane, cte, kVe, osle, ⟨4, 17, 4, 21⟩, ⟨4, 23, 4, 28⟩, ⟨5, 8, 5, 13⟩, ⟨5, 8, 5, 15⟩, ⟨5, 8, 5, 24⟩, ⟨5, 25, 5, 36⟩, ⟨5, 8, 5, 37⟩, ⟨5, 8, 5, 37⟩, ⟨6, 8, 6, 12⟩, ⟨6, 8, 6, 18⟩, ⟨6, 21, 6, 26⟩, ⟨6, 8, 6, 26⟩, cda, cc, ccl, cdd, vse, ccs, file, tf, cle, cld, csl, eFn, eCd, eCl, eFi, eFf, eCc, by rfl⟩, eClD, eSup, PySem.W.mg_none_of kin G eSup, eTop, eAny, eTI⟩
  have F6 := fun_mk (st := s_is_integer) l6 c6 k6
  have b6 := F6.binds (ps := ["value"]) fun _ _ _ _ _ _ us hl => match us, hl with | [_], _ => rfl
  have F7 := fun_mk (st := s_is_between) l7 c7 k7
  have b7 := F7.binds (ps := ["value", "low", "high"]) fun _ _ _ _ _ _ us hl => match us, hl with | [_, _, _], _ => rfl
  have F8 := fun_mk (st := s_is_tuple) l8 c8 k8
  have b8 := F8.binds (ps := ["value", "low", "high"]) fun _ _ _ _ _ _ us hl => match us, hl with | [_, _, _], _ => rfl
  have F9 := fun_mk (st := s_anew) l9 c9 k9
  have b9 := F9.binds (ps := ["value"]) fun _ _ _ _ _ _ us hl => match us, hl with | [_], _ => rfl
  have F13 := fun_mk (st := s_rounded) l13 c13 k13
  have b13 := F13.binds (ps := ["web"]) fun _ _ _ _ _ _ us hl => match us, hl with | [_], _ => rfl
  have F14 := fun_mk (st := s_is_arrow) l14 c14 k14
  have b14 := F14.binds (ps := ["many", "value"]) fun _ _ _ _ _ _ us hl => match us, hl with | [_, _], _ => rfl
  have F15 := fun_mk (st := s_is_web) l15 c15 k15
  have b15 := F15.binds (ps := ["value"]) fun _ _ _ _ _ _ us hl => match us, hl with | [_], _ => rfl
  have F16 := fun_mk (st := s_need_web) l16 c16 k16
  have b16 := F16.binds (ps := ["web"]) fun _ _ _ _ _ _ us hl => match us, hl with | [_], _ => rfl
  have F17 := fun_mk (st := s_need_place) l17 c17 k17
  have b17 := F17.binds (ps := ["web", "place"]) fun _ _ _ _ _ _ us hl => match us, hl with | [_, _], _ => rfl
  have F18 := fun_mk (st := s_need_at) l18 c18 k18
  have b18 := F18.binds (ps := ["web", "place"]) fun _ _ _ _ _ _ us hl => match us, hl with | [_, _], _ => rfl
  have F19 := fun_mk (st := s_ends_in) l19 c19 k19
  have b19 := F19.binds (ps := ["web"]) fun _ _ _ _ _ _ us hl => match us, hl with | [_], _ => rfl
  have F21 := fun_mk (st := s_opposite_in) l21 c21 k21
  have b21 := F21.binds (ps := ["web"]) fun _ _ _ _ _ _ us hl => match us, hl with | [_], _ => rfl
  have F20 := fun_mk (st := s_begins_in) l20 c20 k20
  have b20 := F20.binds (ps := ["web"]) fun _ _ _ _ _ _ us hl => match us, hl with | [_], _ => rfl
  have F22 := fun_mk (st := s_turned_web) l22 c22 k22
  have b22 := F22.binds (ps := ["web", "place"]) fun _ _ _ _ _ _ us hl => match us, hl with | [_, _], _ => rfl
  have F23 := fun_mk (st := s_need_turnable) l23 c23 k23
  have b23 := F23.binds (ps := ["web", "place"]) fun _ _ _ _ _ _ us hl => match us, hl with | [_, _], _ => rfl
  have F24 := fun_mk (st := s_pieces_in) l24 c24 k24
  have b24 := F24.binds (ps := ["web"]) fun _ _ _ _ _ _ us hl => match us, hl with | [_], _ => rfl
  have F25 := fun_mk (st := s_pieces) l25 c25 k25
  have b25 := F25.binds (ps := ["web"]) fun _ _ _ _ _ _ us hl => match us, hl with | [_], _ => rfl
  have F26 := fun_mk (st := s_ends) l26 c26 k26
  have b26 := F26.binds (ps := ["web"]) fun _ _ _ _ _ _ us hl => match us, hl with | [_], _ => rfl
  have F27 := fun_mk (st := s_begins) l27 c27 k27
  have b27 := F27.binds (ps := ["web"]) fun _ _ _ _ _ _ us hl => match us, hl with | [_], _ => rfl
  have F28 := fun_mk (st := s_opposite) l28 c28 k28
  have b28 := F28.binds (ps := ["web"]) fun _ _ _ _ _ _ us hl => match us, hl with | [_], _ => rfl
  have F29 := fun_mk (st := s_turned_at) l29 c29 k29
  have b29 := F29.binds (ps := ["web", "place"]) fun _ _ _ _ _ _ us hl => match us, hl with | [_, _], _ => rfl
  have F30 := fun_mk (st := s_round_of) l30 c30 k30
  have b30 := F30.binds (ps := ["web"]) fun _ _ _ _ _ _ us hl => match us, hl with | [_], _ => rfl
  have F32 := fun_mk (st := s__law_well) l32 c32 k32
  have b32 := F32.binds (ps := ["script", "k"]) fun _ _ _ _ _ _ us hl => match us, hl with | [_, _], _ => rfl
  have F33 := fun_mk (st := s__law_draw) l33 c33 k33
  have b33 := F33.binds (ps := ["well", "many"]) fun _ _ _ _ _ _ us hl => match us, hl with | [_, _], _ => rfl
  have F34 := fun_mk (st := s__law_order) l34 c34 k34
  have b34 := F34.binds (ps := ["well", "many"]) fun _ _ _ _ _ _ us hl => match us, hl with | [_, _], _ => rfl
  have F35 := fun_mk (st := s__law_web) l35 c35 k35
  have b35 := F35.binds (ps := ["well", "most", "arrows"]) fun _ _ _ _ _ _ us hl => match us, hl with | [_, _, _], _ => rfl
  have F36 := fun_mk (st := s__law_is_count) l36 c36 k36
  have b36 := F36.binds (ps := ["value", "low", "high"]) fun _ _ _ _ _ _ us hl => match us, hl with | [_, _, _], _ => rfl
  have F37 := fun_mk (st := s__law_reached) l37 c37 k37
  have b37 := F37.binds (ps := ["many", "arrows", "place"]) fun _ _ _ _ _ _ us hl => match us, hl with | [_, _, _], _ => rfl
  have F38 := fun_mk (st := s__law_is_web) l38 c38 k38
  have b38 := F38.binds (ps := ["value"]) fun _ _ _ _ _ _ us hl => match us, hl with | [_], _ => rfl
  have F39 := fun_mk (st := s__law_near) l39 c39 k39
  have b39 := F39.binds (ps := ["well", "web"]) fun _ _ _ _ _ _ us hl => match us, hl with | [_, _], _ => rfl
  have F40 := fun_mk (st := s__law_pieces) l40 c40 k40
  have b40 := F40.binds (ps := ["web"]) fun _ _ _ _ _ _ us hl => match us, hl with | [_], _ => rfl
  have F41 := fun_mk (st := s__law_round) l41 c41 k41
  have b41 := F41.binds (ps := ["web"]) fun _ _ _ _ _ _ us hl => match us, hl with | [_], _ => rfl
  have F42 := fun_mk (st := s__law_told) l42 c42 k42
  have b42 := F42.binds (ps := ["way", "web", "place"]) fun _ _ _ _ _ _ us hl => match us, hl with | [_, _, _], _ => rfl
  have F43 := fun_mk (st := s__law_turned_right) l43 c43 k43
  have b43 := F43.binds (ps := ["web"]) fun _ _ _ _ _ _ us hl => match us, hl with | [_], _ => rfl
  have F44 := fun_mk (st := s__law_right) l44 c44 k44
  have b44 := F44.binds (ps := ["well"]) fun _ _ _ _ _ _ us hl => match us, hl with | [_], _ => rfl
  have F45 := fun_mk (st := s_law) l45 c45 k45
  have b45 := F45.binds (ps := ["script"]) fun _ _ _ _ _ _ us hl => match us, hl with | [_], _ => rfl
  let X : Fx P K mg :=
    { a_is_integer := _, fd_is_integer := _, F_is_integer := F6, M_is_integer := PySem.W.mg_of kin G n6, B_is_integer := b6,
      a_is_between := _, fd_is_between := _, F_is_between := F7, M_is_between := PySem.W.mg_of kin G n7, B_is_between := b7,
      a_is_tuple := _, fd_is_tuple := _, F_is_tuple := F8, M_is_tuple := PySem.W.mg_of kin G n8, B_is_tuple := b8,
      a_anew := _, fd_anew := _, F_anew := F9, M_anew := PySem.W.mg_of kin G n9, B_anew := b9,
      a_rounded := _, fd_rounded := _, F_rounded := F13, M_rounded := PySem.W.mg_of kin G n13, B_rounded := b13,
      a_is_arrow := _, fd_is_arrow := _, F_is_arrow := F14, M_is_arrow := PySem.W.mg_of kin G n14, B_is_arrow := b14,
      a_is_web := _, fd_is_web := _, F_is_web := F15, M_is_web := PySem.W.mg_of kin G n15, B_is_web := b15,
      a_need_web := _, fd_need_web := _, F_need_web := F16, M_need_web := PySem.W.mg_of kin G n16, B_need_web := b16,
      a_need_place := _, fd_need_place := _, F_need_place := F17, M_need_place := PySem.W.mg_of kin G n17, B_need_place := b17,
      a_need_at := _, fd_need_at := _, F_need_at := F18, M_need_at := PySem.W.mg_of kin G n18, B_need_at := b18,
      a_ends_in := _, fd_ends_in := _, F_ends_in := F19, M_ends_in := PySem.W.mg_of kin G n19, B_ends_in := b19,
      a_opposite_in := _, fd_opposite_in := _, F_opposite_in := F21, M_opposite_in := PySem.W.mg_of kin G n21, B_opposite_in := b21,
      a_begins_in := _, fd_begins_in := _, F_begins_in := F20, M_begins_in := PySem.W.mg_of kin G n20, B_begins_in := b20,
      a_turned_web := _, fd_turned_web := _, F_turned_web := F22, M_turned_web := PySem.W.mg_of kin G n22, B_turned_web := b22,
      a_need_turnable := _, fd_need_turnable := _, F_need_turnable := F23, M_need_turnable := PySem.W.mg_of kin G n23, B_need_turnable := b23,
      a_pieces_in := _, fd_pieces_in := _, F_pieces_in := F24, M_pieces_in := PySem.W.mg_of kin G n24, B_pieces_in := b24,
      a_pieces := _, fd_pieces := _, F_pieces := F25, M_pieces := PySem.W.mg_of kin G n25, B_pieces := b25,
      a_ends := _, fd_ends := _, F_ends := F26, M_ends := PySem.W.mg_of kin G n26, B_ends := b26,
      a_begins := _, fd_begins := _, F_begins := F27, M_begins := PySem.W.mg_of kin G n27, B_begins := b27,
      a_opposite := _, fd_opposite := _, F_opposite := F28, M_opposite := PySem.W.mg_of kin G n28, B_opposite := b28,
      a_turned_at := _, fd_turned_at := _, F_turned_at := F29, M_turned_at := PySem.W.mg_of kin G n29, B_turned_at := b29,
      a_round_of := _, fd_round_of := _, F_round_of := F30, M_round_of := PySem.W.mg_of kin G n30, B_round_of := b30,
      a__law_well := _, fd__law_well := _, F__law_well := F32, M__law_well := PySem.W.mg_of kin G n32, B__law_well := b32,
      a__law_draw := _, fd__law_draw := _, F__law_draw := F33, M__law_draw := PySem.W.mg_of kin G n33, B__law_draw := b33,
      a__law_order := _, fd__law_order := _, F__law_order := F34, M__law_order := PySem.W.mg_of kin G n34, B__law_order := b34,
      a__law_web := _, fd__law_web := _, F__law_web := F35, M__law_web := PySem.W.mg_of kin G n35, B__law_web := b35,
      a__law_is_count := _, fd__law_is_count := _, F__law_is_count := F36, M__law_is_count := PySem.W.mg_of kin G n36, B__law_is_count := b36,
      a__law_reached := _, fd__law_reached := _, F__law_reached := F37, M__law_reached := PySem.W.mg_of kin G n37, B__law_reached := b37,
      a__law_is_web := _, fd__law_is_web := _, F__law_is_web := F38, M__law_is_web := PySem.W.mg_of kin G n38, B__law_is_web := b38,
      a__law_near := _, fd__law_near := _, F__law_near := F39, M__law_near := PySem.W.mg_of kin G n39, B__law_near := b39,
      a__law_pieces := _, fd__law_pieces := _, F__law_pieces := F40, M__law_pieces := PySem.W.mg_of kin G n40, B__law_pieces := b40,
      a__law_round := _, fd__law_round := _, F__law_round := F41, M__law_round := PySem.W.mg_of kin G n41, B__law_round := b41,
      a__law_told := _, fd__law_told := _, F__law_told := F42, M__law_told := PySem.W.mg_of kin G n42, B__law_told := b42,
      a__law_turned_right := _, fd__law_turned_right := _, F__law_turned_right := F43, M__law_turned_right := PySem.W.mg_of kin G n43, B__law_turned_right := b43,
      a__law_right := _, fd__law_right := _, F__law_right := F44, M__law_right := PySem.W.mg_of kin G n44, B__law_right := b44,
      a_law := _, fd_law := _, F_law := F45, M_law := PySem.W.mg_of kin G n45, B_law := b45,
      K_round_of_0 := ⟨fun s us ws _ hl => by
        obtain ⟨rfl, a, rfl⟩ := pl_0 us ws hl
        exact .of_eq rfl, fun r z => pv_0 r z⟩,
      K_turned_at_10 := ⟨fun s us ws _ hl => by
        obtain ⟨rfl, a, b, rfl⟩ := pl_10 us ws hl
        exact .of_eq rfl, fun r z => pv_10 r z⟩,
      K_turned_at_01 := ⟨fun s us ws _ hl => by
        obtain ⟨rfl, a, b, rfl⟩ := pl_01 us ws hl
        exact .of_eq rfl, fun r z => pv_01 r z⟩,
      K_pieces_0 := ⟨fun s us ws _ hl => by
        obtain ⟨rfl, a, rfl⟩ := pl_0 us ws hl
        exact .of_eq rfl, fun r z => pv_0 r z⟩,
      K_ends_0 := ⟨fun s us ws _ hl => by
        obtain ⟨rfl, a, rfl⟩ := pl_0 us ws hl
        exact .of_eq rfl, fun r z => pv_0 r z⟩,
      K_begins_0 := ⟨fun s us ws _ hl => by
        obtain ⟨rfl, a, rfl⟩ := pl_0 us ws hl
        exact .of_eq rfl, fun r z => pv_0 r z⟩,
      K_opposite_0 := ⟨fun s us ws _ hl => by
        obtain ⟨rfl, a, rfl⟩ := pl_0 us ws hl
        exact .of_eq rfl, fun r z => pv_0 r z⟩,
      K_is_web_0 := ⟨fun s us ws _ hl => by
        obtain ⟨rfl, a, rfl⟩ := pl_0 us ws hl
        exact .of_eq rfl, fun r z => pv_0 r z⟩,
      m_abs := PySem.W.mg_none_of kin G z_abs,
      m_all := PySem.W.mg_none_of kin G z_all,
      m_any := PySem.W.mg_none_of kin G z_any,
      m_bool := PySem.W.mg_none_of kin G z_bool,
      m_int := PySem.W.mg_none_of kin G z_int,
      m_isinstance := PySem.W.mg_none_of kin G z_isinstance,
      m_len := PySem.W.mg_none_of kin G z_len,
      m_list := PySem.W.mg_none_of kin G z_list,
      m_max := PySem.W.mg_none_of kin G z_max,
      m_min := PySem.W.mg_none_of kin G z_min,
      m_range := PySem.W.mg_none_of kin G z_range,
      m_repr := PySem.W.mg_none_of kin G z_repr,
      m_set := PySem.W.mg_none_of kin G z_set,
      m_sorted := PySem.W.mg_none_of kin G z_sorted,
      m_tuple := PySem.W.mg_none_of kin G z_tuple,
      a_PLACES := 0, u_PLACES := _, M_PLACES := PySem.W.mg_of kin G g_PLACES, R_PLACES := ⟨_, rfl⟩, Q_PLACES := fun _ => .int _,
      a_ARROWS := 0, u_ARROWS := _, M_ARROWS := PySem.W.mg_of kin G g_ARROWS, R_ARROWS := ⟨_, rfl⟩, Q_ARROWS := fun _ => .int _,
      aD := eD, fI := eI, EB := EB, CT := CT, EC := (fun c => match c with | 0 => ec0 | 1 => ec1 | 2 => ec2 | _ + 3 => ec0), IC := (fun c => match c with | 0 => ic0 | 1 => ic1 | 2 => ic2 | _ + 3 => ic0), M_WebsError := PySem.W.mg_of kin G nD, XM := (fun c => match c with | 0 => xm0 | 1 => xm1 | 2 => xm2 | _ + 3 => xm0),
      ME_InvalidWeb := PySem.W.mg_of kin G eN0, KN_InvalidWeb := kn0, KL_InvalidWeb := (fun c => match c with | 0 => kl0x0 | 1 => kl1x0 | 2 => kl2x0 | _ + 3 => kl0x0),
      ME_InvalidPlace := PySem.W.mg_of kin G eN1, KN_InvalidPlace := kn1, KL_InvalidPlace := (fun c => match c with | 0 => kl0x1 | 1 => kl1x1 | 2 => kl2x1 | _ + 3 => kl0x1),
      ME_NotTurnable := PySem.W.mg_of kin G eN2, KN_NotTurnable := kn2, KL_NotTurnable := (fun c => match c with | 0 => kl0x2 | 1 => kl1x2 | 2 => kl2x2 | _ + 3 => kl0x2) }
  refine ⟨PySem.W.fnOf "law" "law" (defArgs s_law) (defBody s_law) (defScope s_law) .none kV45 dc45 pm45 an45 cd45 ct45, CT, fun s u => .of_eq rfl, fun base _ _ => ?_⟩
  have D_is_integer := d_is_integer (w := w) (base := base) X 
  have D_is_between := d_is_between (w := w) (base := base) X D_is_integer
  have D_is_tuple := d_is_tuple (w := w) (base := base) X 
  have D_anew := all_anew (w := w) (base := base) X 10
  have D_rounded := d_rounded (w := w) (base := base) X 
  have D_is_arrow := d_is_arrow (w := w) (base := base) X D_is_tuple D_is_between
  have D_is_web := d_is_web (w := w) (base := base) X D_is_tuple D_is_between D_rounded D_is_arrow
  have D_need_web := d_need_web (w := w) (base := base) X D_is_web D_anew
  have D_need_place := d_need_place (w := w) (base := base) X 
  have D_need_at := d_need_at (w := w) (base := base) X D_need_web D_need_place
  have D_ends_in := d_ends_in (w := w) (base := base) X 
  have D_opposite_in := d_opposite_in (w := w) (base := base) X 
  have D_begins_in := d_begins_in (w := w) (base := base) X D_ends_in D_opposite_in
  have D_turned_web := d_turned_web (w := w) (base := base) X 
  have D_need_turnable := d_need_turnable (w := w) (base := base) X D_need_at D_ends_in D_begins_in
  have D_pieces_in := d_pieces_in (w := w) (base := base) X 
  have D_pieces := d_pieces (w := w) (base := base) X D_need_web D_pieces_in
  have D_ends := d_ends (w := w) (base := base) X D_need_web D_ends_in
  have D_begins := d_begins (w := w) (base := base) X D_need_web D_begins_in
  have D_opposite := d_opposite (w := w) (base := base) X D_need_web D_opposite_in
  have D_turned_at := d_turned_at (w := w) (base := base) X D_need_turnable D_turned_web
  have D_round_of := d_round_of (w := w) (base := base) X D_need_web D_rounded
  have D__law_well := d__law_well (w := w) (base := base) X ev_well
  have D__law_draw := d__law_draw (w := w) (base := base) X ev_draw
  have D__law_order := d__law_order (w := w) (base := base) X D__law_draw
  have D__law_web := d__law_web (w := w) (base := base) X D__law_order D__law_draw
  have D__law_is_count := d__law_is_count (w := w) (base := base) X 
  have D__law_reached := d__law_reached (w := w) (base := base) X 
  have D__law_is_web := d__law_is_web (w := w) (base := base) X D__law_is_count D__law_reached
  have D__law_near := d__law_near (w := w) (base := base) X D__law_draw
  have D__law_pieces := d__law_pieces (w := w) (base := base) X 
  have D__law_round := d__law_round (w := w) (base := base) X 
  have D__law_told := d__law_told (w := w) (base := base) X D_pieces D_round_of D_opposite D_turned_at
  have D__law_turned_right := d__law_turned_right (w := w) (base := base) X D_round_of D_turned_at D_ends D__law_told
  have D__law_right := d__law_right (w := w) (base := base) X D__law_web D__law_pieces D__law_round D__law_near D__law_is_web D__law_turned_right D__law_told D_opposite D_pieces D_ends D_begins D_round_of D_is_web
  have D_law := d_law (w := w) (base := base) X D__law_well D__law_right ev_right
  exact D_law.fn

end Law
open PySem PySem.W PyProof.Rows in
set_option maxRecDepth 100000 in
set_option maxHeartbeats 0 in
theorem PySem.Challenge.cw_spacewebs_k07_what_webs_are_holds : PySem.Challenge.rw_spacewebs_k07_what_webs_are.Holds := by
  w_on; o_law; k_head; (case hw => w_witness2)
  k_fill
  refine Wb.walk_end (l := PySem.Challenge.rw_spacewebs_k07_what_webs_are) (n := 63) (k := 18) (x := "script") (G := Law.m_law) rfl (by decide) rfl ⟨rfl, by decide, by decide⟩ Law.ev_law (fun w h Y => PySem.W.kIn_of Y) ?F
  case F =>
    intro w mg fa h KX G hmg
    refine' Law.all_mk KX G hmg ?n6 ?l6 ?c6 ?k6 ?n7 ?l7 ?c7 ?k7 ?n8 ?l8 ?c8 ?k8 ?n9 ?l9 ?c9 ?k9 ?n13 ?l13 ?c13 ?k13 ?n14 ?l14 ?c14 ?k14 ?n15 ?l15 ?c15 ?k15 ?n16 ?l16 ?c16 ?k16 ?n17 ?l17 ?c17 ?k17 ?n18 ?l18 ?c18 ?k18 ?n19 ?l19 ?c19 ?k19 ?n21 ?l21 ?c21 ?k21 ?n20 ?l20 ?c20 ?k20 ?n22 ?l22 ?c22 ?k22 ?n23 ?l23 ?c23 ?k23 ?n24 ?l24 ?c24 ?k24 ?n25 ?l25 ?c25 ?k25 ?n26 ?l26 ?c26 ?k26 ?n27 ?l27 ?c27 ?k27 ?n28 ?l28 ?c28 ?k28 ?n29 ?l29 ?c29 ?k29 ?n30 ?l30 ?c30 ?k30 ?n32 ?l32 ?c32 ?k32 ?n33 ?l33 ?c33 ?k33 ?n34 ?l34 ?c34 ?k34 ?n35 ?l35 ?c35 ?k35 ?n36 ?l36 ?c36 ?k36 ?n37 ?l37 ?c37 ?k37 ?n38 ?l38 ?c38 ?k38 ?n39 ?l39 ?c39 ?k39 ?n40 ?l40 ?c40 ?k40 ?n41 ?l41 ?c41 ?k41 ?n42 ?l42 ?c42 ?k42 ?n43 ?l43 ?c43 ?k43 ?n44 ?l44 ?c44 ?k44 ?n45 ?l45 ?c45 ?k45 ?z_abs ?z_all ?z_any ?z_bool ?z_int ?z_isinstance ?z_len ?z_list ?z_max ?z_min ?z_range ?z_repr ?z_set ?z_sorted ?z_tuple ?g_PLACES ?g_ARROWS ?nD ?eN0 ?eN1 ?eN2 ?iC0 ?eFn ?eCd ?eCl ?eFi ?eFf ?eCc ?eClD ?eSup ?eTop ?eAny ?eTI ?hn ?ht ?xL0 ?sa0 ?ga0 ?gg0 ?nv0 ?kC0 ?eX0 ?eV0 ?tC0 ?hD0 ?mD0 ?sp0 ?hc0 ?ha0 ?hm0 ?xm0 ?kn0 ?kl0x0 ?kl1x0 ?kl2x0 ?iC1 ?xL1 ?sa1 ?ga1 ?gg1 ?nv1 ?kC1 ?eX1 ?eV1 ?tC1 ?hD1 ?mD1 ?sp1 ?hc1 ?ha1 ?hm1 ?xm1 ?kn1 ?kl0x1 ?kl1x1 ?kl2x1 ?iC2 ?xL2 ?sa2 ?ga2 ?gg2 ?nv2 ?kC2 ?eX2 ?eV2 ?tC2 ?hD2 ?mD2 ?sp2 ?hc2 ?ha2 ?hm2 ?xm2 ?kn2 ?kl0x2 ?kl1x2 ?kl2x2
    (case n6 => first | k_is | rfl)
    (case l6 => first | k_is | rfl)
    (case c6 => first | k_is | rfl)
    (case k6 => first | k_is | rfl)
    (case n7 => first | k_is | rfl)
    (case l7 => first | k_is | rfl)
    (case c7 => first | k_is | rfl)
    (case k7 => first | k_is | rfl)
    (case n8 => first | k_is | rfl)
    (case l8 => first | k_is | rfl)
    (case c8 => first | k_is | rfl)
    (case k8 => first | k_is | rfl)
    (case n9 => first | k_is | rfl)
    (case l9 => first | k_is | rfl)
    (case c9 => first | k_is | rfl)
    (case k9 => first | k_is | rfl)
    (case n13 => first | k_is | rfl)
    (case l13 => first | k_is | rfl)
    (case c13 => first | k_is | rfl)
    (case k13 => first | k_is | rfl)
    (case n14 => first | k_is | rfl)
    (case l14 => first | k_is | rfl)
    (case c14 => first | k_is | rfl)
    (case k14 => first | k_is | rfl)
    (case n15 => first | k_is | rfl)
    (case l15 => first | k_is | rfl)
    (case c15 => first | k_is | rfl)
    (case k15 => first | k_is | rfl)
    (case n16 => first | k_is | rfl)
    (case l16 => first | k_is | rfl)
    (case c16 => first | k_is | rfl)
    (case k16 => first | k_is | rfl)
    (case n17 => first | k_is | rfl)
    (case l17 => first | k_is | rfl)
    (case c17 => first | k_is | rfl)
    (case k17 => first | k_is | rfl)
    (case n18 => first | k_is | rfl)
    (case l18 => first | k_is | rfl)
    (case c18 => first | k_is | rfl)
    (case k18 => first | k_is | rfl)
    (case n19 => first | k_is | rfl)
    (case l19 => first | k_is | rfl)
    (case c19 => first | k_is | rfl)
    (case k19 => first | k_is | rfl)
    (case n21 => first | k_is | rfl)
    (case l21 => first | k_is | rfl)
    (case c21 => first | k_is | rfl)
    (case k21 => first | k_is | rfl)
    (case n20 => first | k_is | rfl)
    (case l20 => first | k_is | rfl)
    (case c20 => first | k_is | rfl)
    (case k20 => first | k_is | rfl)
    (case n22 => first | k_is | rfl)
    (case l22 => first | k_is | rfl)
    (case c22 => first | k_is | rfl)
    (case k22 => first | k_is | rfl)
    (case n23 => first | k_is | rfl)
    (case l23 => first | k_is | rfl)
    (case c23 => first | k_is | rfl)
    (case k23 => first | k_is | rfl)
    (case n24 => first | k_is | rfl)
    (case l24 => first | k_is | rfl)
    (case c24 => first | k_is | rfl)
    (case k24 => first | k_is | rfl)
    (case n25 => first | k_is | rfl)
    (case l25 => first | k_is | rfl)
    (case c25 => first | k_is | rfl)
    (case k25 => first | k_is | rfl)
    (case n26 => first | k_is | rfl)
    (case l26 => first | k_is | rfl)
    (case c26 => first | k_is | rfl)
    (case k26 => first | k_is | rfl)
    (case n27 => first | k_is | rfl)
    (case l27 => first | k_is | rfl)
    (case c27 => first | k_is | rfl)
    (case k27 => first | k_is | rfl)
    (case n28 => first | k_is | rfl)
    (case l28 => first | k_is | rfl)
    (case c28 => first | k_is | rfl)
    (case k28 => first | k_is | rfl)
    (case n29 => first | k_is | rfl)
    (case l29 => first | k_is | rfl)
    (case c29 => first | k_is | rfl)
    (case k29 => first | k_is | rfl)
    (case n30 => first | k_is | rfl)
    (case l30 => first | k_is | rfl)
    (case c30 => first | k_is | rfl)
    (case k30 => first | k_is | rfl)
    (case n32 => first | k_is | rfl)
    (case l32 => first | k_is | rfl)
    (case c32 => first | k_is | rfl)
    (case k32 => first | k_is | rfl)
    (case n33 => first | k_is | rfl)
    (case l33 => first | k_is | rfl)
    (case c33 => first | k_is | rfl)
    (case k33 => first | k_is | rfl)
    (case n34 => first | k_is | rfl)
    (case l34 => first | k_is | rfl)
    (case c34 => first | k_is | rfl)
    (case k34 => first | k_is | rfl)
    (case n35 => first | k_is | rfl)
    (case l35 => first | k_is | rfl)
    (case c35 => first | k_is | rfl)
    (case k35 => first | k_is | rfl)
    (case n36 => first | k_is | rfl)
    (case l36 => first | k_is | rfl)
    (case c36 => first | k_is | rfl)
    (case k36 => first | k_is | rfl)
    (case n37 => first | k_is | rfl)
    (case l37 => first | k_is | rfl)
    (case c37 => first | k_is | rfl)
    (case k37 => first | k_is | rfl)
    (case n38 => first | k_is | rfl)
    (case l38 => first | k_is | rfl)
    (case c38 => first | k_is | rfl)
    (case k38 => first | k_is | rfl)
    (case n39 => first | k_is | rfl)
    (case l39 => first | k_is | rfl)
    (case c39 => first | k_is | rfl)
    (case k39 => first | k_is | rfl)
    (case n40 => first | k_is | rfl)
    (case l40 => first | k_is | rfl)
    (case c40 => first | k_is | rfl)
    (case k40 => first | k_is | rfl)
    (case n41 => first | k_is | rfl)
    (case l41 => first | k_is | rfl)
    (case c41 => first | k_is | rfl)
    (case k41 => first | k_is | rfl)
    (case n42 => first | k_is | rfl)
    (case l42 => first | k_is | rfl)
    (case c42 => first | k_is | rfl)
    (case k42 => first | k_is | rfl)
    (case n43 => first | k_is | rfl)
    (case l43 => first | k_is | rfl)
    (case c43 => first | k_is | rfl)
    (case k43 => first | k_is | rfl)
    (case n44 => first | k_is | rfl)
    (case l44 => first | k_is | rfl)
    (case c44 => first | k_is | rfl)
    (case k44 => first | k_is | rfl)
    (case n45 => first | k_is | rfl)
    (case l45 => first | k_is | rfl)
    (case c45 => first | k_is | rfl)
    (case k45 => first | k_is | rfl)
    (case z_abs => first | k_is | rfl)
    (case z_all => first | k_is | rfl)
    (case z_any => first | k_is | rfl)
    (case z_bool => first | k_is | rfl)
    (case z_int => first | k_is | rfl)
    (case z_isinstance => first | k_is | rfl)
    (case z_len => first | k_is | rfl)
    (case z_list => first | k_is | rfl)
    (case z_max => first | k_is | rfl)
    (case z_min => first | k_is | rfl)
    (case z_range => first | k_is | rfl)
    (case z_repr => first | k_is | rfl)
    (case z_set => first | k_is | rfl)
    (case z_sorted => first | k_is | rfl)
    (case z_tuple => first | k_is | rfl)
    (case g_PLACES => first | k_is | rfl)
    (case g_ARROWS => first | k_is | rfl)
    (case nD => first | k_is | rfl)
    (case eN0 => first | k_is | rfl)
    (case eN1 => first | k_is | rfl)
    (case eN2 => first | k_is | rfl)
    (case iC0 => first | k_is | rfl)
    (case eFn => first | k_is | rfl)
    (case eCd => first | k_is | rfl)
    (case eCl => first | k_is | rfl)
    (case eFi => first | rfl | decide +kernel)
    (case eFf => first | rfl | decide +kernel)
    (case eCc => first | k_is | rfl)
    (case eClD => first | k_is | rfl)
    (case eSup => first | k_is | rfl)
    (case eTop => first | rfl | decide +kernel)
    (case eAny => first | k_is | rfl)
    (case eTI => first | k_is | rfl)
    (case hn => first | k_is | rfl)
    (case ht => first | k_is | rfl)
    (case xL0 => first | k_is | rfl)
    (case sa0 => first | k_is | rfl)
    (case ga0 => first | k_is | rfl)
    (case gg0 => first | k_is | rfl)
    (case nv0 => first | k_is | rfl)
    (case kC0 => first | k_is | rfl)
    (case eX0 => first | k_is | rfl)
    (case eV0 => first | k_is | rfl)
    (case tC0 => first | k_is | rfl)
    (case hD0 => first | k_is | rfl)
    (case mD0 => first | k_is | rfl)
    (case sp0 => first | k_is | rfl)
    (case hc0 => first | k_is | rfl)
    (case ha0 => first | k_is | rfl)
    (case hm0 => first | k_is | rfl)
    (case xm0 => first | k_is | rfl)
    (case kn0 => first | k_is | rfl)
    (case kl0x0 => first | k_is | rfl)
    (case kl1x0 => first | k_is | rfl)
    (case kl2x0 => first | k_is | rfl)
    (case iC1 => first | k_is | rfl)
    (case xL1 => first | k_is | rfl)
    (case sa1 => first | k_is | rfl)
    (case ga1 => first | k_is | rfl)
    (case gg1 => first | k_is | rfl)
    (case nv1 => first | k_is | rfl)
    (case kC1 => first | k_is | rfl)
    (case eX1 => first | k_is | rfl)
    (case eV1 => first | k_is | rfl)
    (case tC1 => first | k_is | rfl)
    (case hD1 => first | k_is | rfl)
    (case mD1 => first | k_is | rfl)
    (case sp1 => first | k_is | rfl)
    (case hc1 => first | k_is | rfl)
    (case ha1 => first | k_is | rfl)
    (case hm1 => first | k_is | rfl)
    (case xm1 => first | k_is | rfl)
    (case kn1 => first | k_is | rfl)
    (case kl0x1 => first | k_is | rfl)
    (case kl1x1 => first | k_is | rfl)
    (case kl2x1 => first | k_is | rfl)
    (case iC2 => first | k_is | rfl)
    (case xL2 => first | k_is | rfl)
    (case sa2 => first | k_is | rfl)
    (case ga2 => first | k_is | rfl)
    (case gg2 => first | k_is | rfl)
    (case nv2 => first | k_is | rfl)
    (case kC2 => first | k_is | rfl)
    (case eX2 => first | k_is | rfl)
    (case eV2 => first | k_is | rfl)
    (case tC2 => first | k_is | rfl)
    (case hD2 => first | k_is | rfl)
    (case mD2 => first | k_is | rfl)
    (case sp2 => first | k_is | rfl)
    (case hc2 => first | k_is | rfl)
    (case ha2 => first | k_is | rfl)
    (case hm2 => first | k_is | rfl)
    (case xm2 => first | k_is | rfl)
    (case kn2 => first | k_is | rfl)
    (case kl0x2 => first | k_is | rfl)
    (case kl1x2 => first | k_is | rfl)
    (case kl2x2 => first | k_is | rfl)

