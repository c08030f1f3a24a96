import PyProof.Rows.All
import Wide.All
import OpenK.AllK
import Wide.FinOn
import PyProof.EqAt
import PyProof.EqKinds
import PyProof.TupleCall
import HandS.ForMost
import HandS.ForExc
import HandS.CallSlots
import HandS.New
import HandS.WideBits
import HandS.Gcd
import HandS.EndBits
import HandS.ExcInit
import HandS.ExcIs
import HandS.ExcSuper
import KE.KExcSuper
import KE.KExcMake
import KE.KExcIs
import PyProof.ReprRoads
import PyProof.CallFns
import HandS.Words
import HandS.TupMul
import HandS.IsInst
import HandS.TupAny
import HandS.Deep
import HandS.Style
import HandS.Conv
import KE.GoesMore
import KE.GoesZip
import KE.GoesEnum
import KE.GoesRev
import KE.DataMinMax
import HandS.NoneIn
import HandS.Rev
import KE.DatumOrd
import HandS.SetFor
import HandS.Strs
import KE.DatumIndex
import KE.KIndexOf
import PySem.Challenge.RW_spacewebs_k04_determinants_and_tables_un
set_option Elab.async false
set_option linter.all false
set_option maxRecDepth 100000
set_option maxHeartbeats 4000000
set_option exponentiation.threshold 256
/-! Wb0: calls under no guard (no repr is under way): the promise FnG, its rule and its calls. -/
namespace Wb
open PySem PySem.Spec PyProof.Rows L2

abbrev Frag := PySem.W.Frag
/-- a def's promise, asked where no repr is under way -/
structure FnG (P : Program) (w : World) (K : Frag) (mg : Str → Option Value) (base : Heap) (k : Nat) (f : Addr) (fd : FuncData) (ps : List Str) (sp : Sp) : Prop where
  len : ∀ vs H Q E, sp vs H Q E → vs.length = ps.length
  run : ∀ (A : Around) (outer : List Env) (s : Shared) (H : Hp) (args : Args) (us : List Value) (vs : List V) (Q : VK) (E : XK), A.guards = some [] → Room k A →
    Env0 P w K mg base A outer s H → BindsTo s fd args (ps.zip us) → Vals vs us → sp vs H Q E →
    codeAny (model P w) A (.call (.ref f) args) (CR (L2.CX P w) outer P w H s Q E) s

theorem FnG.mono {P : Program} {w : World} {K : Frag} {mg : Str → Option Value} {base : Heap} {j k : Nat} {f : Addr} {fd : FuncData} {ps : List Str} {sp : Sp}
    (F : FnG P w K mg base j f fd ps sp) (h : j ≤ k) : FnG P w K mg base k f fd ps sp :=
  ⟨F.len, fun A outer s H args us vs Q E hg hr => F.run A outer s H args us vs Q E hg (hr.mono h)⟩
theorem FnG.imp {P : Program} {w : World} {K : Frag} {mg : Str → Option Value} {base : Heap} {k : Nat} {f : Addr} {fd : FuncData} {ps : List Str} {sp sp' : Sp}
    (F : FnG P w K mg base k f fd ps sp) (h : ∀ vs H Q E, sp' vs H Q E → sp vs H Q E) : FnG P w K mg base k f fd ps sp' :=
  ⟨fun vs H Q E q => F.len vs H Q E (h _ _ _ _ q), fun A outer s H args us vs Q E hg hr he hb hv hs => F.run A outer s H args us vs Q E hg hr he hb hv (h _ _ _ _ hs)⟩

/-- a def by its body -/
theorem fnG_of {P : Program} {w : World} {K : Frag} {mg : Str → Option Value} {base : Heap} {k : Nat} {f : Addr} {fd : FuncData} {x qual : Str} {st : Stmt} {N ps : List Str} {sp : Sp}
    (F : Fun K x qual st f fd) (S : FnScope N ps (defScope st)) (len : ∀ vs H Q E, sp vs H Q E → vs.length = ps.length)
    (hbody : ∀ (cdv : Value) (A : Around) (outer : List Env) (s : Shared) (H : Hp) (vs : List V) (Q : VK) (E : XK), A.guards = some [] →
      Room k (A.deeper (envOfC qual (defScope st) s.heap.objs.size f cdv)) → sp vs H Q E →
      ∃ t, PSs (cxOf (L2.CX P w) P w K mg base N qual (defScope st) f cdv A outer s H E) (defBody st) t ∧ t { nx := fun _ H' => Q .non H', rt := Q } (start N vs) H) :
    FnG P w K mg base (k + 1) f fd ps sp := by
  obtain ⟨oc, od, kV, doc, pm, an, cdv, ct, osl, rfl, lk, hcd⟩ := F.ex
  refine ⟨len, fun A outer s H args us vs Q E hgd hr e0 hb r hsp => ?_⟩
  have hl := len _ _ _ _ hsp
  have inHeap : K.In s.heap := e0.mod.kin.keeps fun b o e => (e0.bs b o e).1
  have lim : s.heap.NoLimit := e0.mod.nolimit.keeps fun b o e => (e0.bs b o e).1
  refine codeAny_call_function hr.depth (inHeap _ _ lk) rfl S.co S.gen rfl (PySem.W.codeRec_of inHeap hcd) (hb _ _ _ _ ?_)
  refine wpAny_newFunctionEnv_cells S.kind (fun ⟨n, v⟩ hy => ?_) fun env he s1 x => ?_
  · rcases S.par n (List.of_mem_zip hy).1 with q | q
    · exact .inl q
    · exact .inr ⟨q, PySem.W.cellsFrom_some _ _ _ (.inl q)⟩
  · subst he
    refine ⟨lim.keeps x.toInCall.keep, codeAny_func ?_⟩
    obtain ⟨t, ht, hq⟩ := hbody cdv A outer s H vs Q E hgd (hr.deeper _) hsp
    have I := inv_start (CX := L2.CX P w) (P := P) (w := w) (K := K) (mg := mg) (base := base) (N := N) (qual := qual) (f := f) (cd := cdv) (E := E) S hr.hd e0 hl r x
    refine wpAny_mono (ht.run [] s1 (start N vs) H _ I hq) (fun fl s' hs => ?_) fun e s' hs => hs
    have fin : ∀ {σ' : L2.St} {H' : Hp} {v : V} {u : Value}, Inv (cxOf (L2.CX P w) P w K mg base N qual (defScope st) f cdv A outer s H E) [] σ' H' s' → RelV v u → Q v H' →
        CE outer P w H s Q u s' := fun {σ' H' v u} J rv q => ⟨v, H', J.os, J.bare, J.base, J.hok, rv, q⟩
    cases fl with
    | ret u =>
      obtain ⟨v, σ', H', J, rv, q⟩ := hs
      exact fin J rv q
    | next =>
      obtain ⟨σ', H', J, q⟩ := hs
      exact fin (v := V.non) (u := Value.none) J rfl q
    | brk =>
      obtain ⟨_, _, _, q⟩ := hs
      exact q.elim
    | cont =>
      obtain ⟨_, _, _, q⟩ := hs
      exact q.elim

section
variable {X : Cx} {W : WX} {k : Nat} {f : Addr} {fd : FuncData} {ps ks : List Str} {sp : Sp} {x : Str} {p pos : Pos} {e : Expr} {es : List Expr} {kws : List Keyword} {t tk : TA}
  {g : List Value → List Value → List Value} {gV : List V → List V → List V}
/-- a call's reading: what is raised is wished for at the slots of the caller -/
def tCallG (sp : Sp) (W : WX) (t : TA) : TE := fun σ H Q => t σ H fun vs H1 => sp vs H1 Q fun cls d H' => W cls d σ H'
def tCallGK (sp : Sp) (gV : List V → List V → List V) (W : WX) (t tk : TA) : TE := fun σ H Q => t σ H fun vs H1 => tk σ H1 fun zs H2 => sp (gV vs zs) H2 Q fun cls d H' => W cls d σ H'

theorem run_fnG {pins : List (Addr × Obj)} {σ : L2.St} {H : Hp} {s : Shared} {Q : VK} {args : Args} {us : List Value} {vs : List V} (F : FnG X.prog X.w X.K X.mg X.base k f fd ps sp)
    (hgd : X.A.guards = some []) (hr : Room k X.A) (tk : Takes X W) (I : Inv X pins σ H s) (hb : BindsTo s fd args (ps.zip us)) (r : Vals vs us)
    (h : sp vs H Q fun cls d H' => W cls d σ H') :
    codeAny (model X.prog X.w) X.A (.call (.ref f) args) (fun r s' => match r with | .ok (.ret u) => EP X pins σ Q u s' | .ok _ => False | .error e => X.xe e s') s := by
  refine codeAny_mono (F.run X.A X.stack s H args us vs Q _ hgd hr I.env0 hb r h) fun r s' hq => ?_
  cases r with
  | error e => exact tk e s' (XE.of_call I (fun _ _ _ z => z) hq)
  | ok fl =>
    cases fl with
    | ret u => exact I.after hq
    | next => exact hq.elim
    | brk => exact hq.elim
    | cont => exact hq.elim
theorem call_fnG {pins : List (Addr × Obj)} {σ : L2.St} {H : Hp} {s : Shared} {Q : VK} {us ks' : List Value} {kn : List Str} {ws : List Value} {vs : List V} (F : FnG X.prog X.w X.K X.mg X.base k f fd ps sp)
    (hgd : X.A.guards = some []) (hr : Room k X.A) (tk : Takes X W) (I : Inv X pins σ H s) (hb : BindsTo s fd ⟨us, kn.zip ws⟩ (ps.zip ks')) (r : Vals vs ks')
    (h : sp vs H Q fun cls d H' => W cls d σ H') : wpAny (model X.prog X.w) X.A (call (.ref f) us (kn.zip ws)) (EP X pins σ Q) X.xe s := by
  refine wpAny_call (codeAny_mono (run_fnG F hgd hr tk I hb r h) fun r s' hq => ?_)
  cases r with
  | error e => exact hq
  | ok fl =>
    cases fl with
    | ret u => exact hq
    | next => exact hq.elim
    | brk => exact hq.elim
    | cont => exact hq.elim
/-- f(e, ..) -/
theorem pe_callG (F : FnG X.prog X.w X.K X.mg X.base k f fd ps sp) (hgd : X.A.guards = some []) (hr : Room k X.A) (tk : Takes X W) (hg : Gl X x) (hm : X.mg x = some (.ref f)) (hk : PySem.W.keepIn X.K (.ref f) = true)
    (hb : Binds X.K fd ps []) (ha : PA X (e :: es) t) (hdb : (x == ("__debug__" : Str)) = false := by decide) (he : starEach (e :: es) X.env = (false, eval e X.env) :: starEach es X.env := by rfl)
    (hpl : (backTo pos (starEach es X.env)).any (·.1) = false := by rfl) : PE X (.Call (.Name x p) (e :: es) [] pos) (tCallG sp W t) := by
  refine ⟨fun pins s σ H Q I h => ?_⟩
  refine wpAny_Call_Name_kw (ld_glob I hg hm ?_ hdb)
  refine PySem.W.callWith_K (h₀ := X.base) I.ok.mod.kin hk (thn (ha.run pos pins s σ H _ I h) fun us s1 ⟨vs, H1, I1, r, q⟩ => ⟨I1.kIn, ?_⟩) he hpl
  have hl : (us ++ ([] : List Value)).length = ps.length := by rw [List.append_nil, ← r.length]; exact F.len _ _ _ _ q
  have b := hb s1 us I1.kIn hl
  rw [List.append_nil] at b
  exact call_fnG (kn := []) (ws := []) F hgd hr tk I1 b r q
/-- f() -/
theorem pe_callG0 (F : FnG X.prog X.w X.K X.mg X.base k f fd ps sp) (hgd : X.A.guards = some []) (hr : Room k X.A) (tk : Takes X W) (hg : Gl X x) (hm : X.mg x = some (.ref f)) (hk : PySem.W.keepIn X.K (.ref f) = true)
    (hb : Binds X.K fd ps []) (hdb : (x == ("__debug__" : Str)) = false := by decide) : PE X (.Call (.Name x p) [] [] pos) (tCallG sp W tNil) := by
  refine ⟨fun pins s σ H Q I h => ?_⟩
  refine wpAny_Call_Name_kw (ld_glob I hg hm ?_ hdb)
  have hl : ([] ++ ([] : List Value)).length = ps.length := F.len _ _ _ _ h
  exact PySem.W.callWith_K0 I.kIn hk (call_fnG (us := []) (kn := []) (ws := []) F hgd hr tk I (hb s [] I.kIn hl) .nil h)
/-- f(e, .., k = v, ..) -/
theorem pe_callGK (F : FnG X.prog X.w X.K X.mg X.base k f fd ps sp) (hgd : X.A.guards = some []) (hr : Room k X.A) (tk' : Takes X W) (hg : Gl X x) (hm : X.mg x = some (.ref f)) (hk : PySem.W.keepIn X.K (.ref f) = true)
    (hb : KBinds X.K fd ps ks g gV) (ha : PA X (e :: es) t) (hkw : PK X kws tk) (hall : (backToKw pos (keywordEach kws X.env)).all (·.1.isSome) = true := by rfl)
    (hks : (backToKw pos (keywordEach kws X.env)).filterMap (·.1) = ks := by rfl) (hdb : (x == ("__debug__" : Str)) = false := by decide)
    (he : starEach (e :: es) X.env = (false, eval e X.env) :: starEach es X.env := by rfl)
    (hpl : ((backTo pos (starEach (e :: es) X.env)).any (·.1) || (backToKw pos (keywordEach kws X.env)).any (·.1.isNone)) = false := by rfl) :
    PE X (.Call (.Name x p) (e :: es) kws pos) (tCallGK sp gV W t tk) := by
  refine ⟨fun pins s σ H Q I h => ?_⟩
  refine wpAny_Call_Name_kw (ld_glob I hg hm ?_ hdb)
  refine PySem.W.callWith_KW (h₀ := X.base) I.ok.mod.kin hk hall (thn (ha.run pos pins s σ H _ I h) fun us s1 ⟨vs, H1, I1, r, q⟩ => ?_) hpl he
  refine thn (hkw.run pos pins s1 σ H1 _ I1 q) fun ws s2 ⟨zs, H2, I2, rz, q2⟩ => ⟨I2.kIn, ?_⟩
  rw [hks]
  have r2 := hb.rel r rz
  have hl : (g us ws).length = ps.length := by rw [← r2.length]; exact F.len _ _ _ _ q2
  exact call_fnG F hgd hr tk' I2 (hb.to s2 us ws I2.kIn hl) r2 q2
/-- f(k = v, ..) -/
theorem pe_callGK0 (F : FnG X.prog X.w X.K X.mg X.base k f fd ps sp) (hgd : X.A.guards = some []) (hr : Room k X.A) (tk' : Takes X W) (hg : Gl X x) (hm : X.mg x = some (.ref f)) (hk : PySem.W.keepIn X.K (.ref f) = true)
    (hb : KBinds X.K fd ps ks g gV) (hkw : PK X kws tk) (hall : (backToKw pos (keywordEach kws X.env)).all (·.1.isSome) = true := by rfl)
    (hks : (backToKw pos (keywordEach kws X.env)).filterMap (·.1) = ks := by rfl) (hdb : (x == ("__debug__" : Str)) = false := by decide)
    (hpl : (backToKw pos (keywordEach kws X.env)).any (·.1.isNone) = false := by rfl) :
    PE X (.Call (.Name x p) [] kws pos) (tCallGK sp gV W tNil tk) := by
  refine ⟨fun pins s σ H Q I h => ?_⟩
  refine wpAny_Call_Name_kw (ld_glob I hg hm ?_ hdb)
  refine PySem.W.callWith_KW0 (h₀ := X.base) I.ok.mod.kin hk hall (thn (hkw.run pos pins s σ H _ I h) fun ws s2 ⟨zs, H2, I2, rz, q2⟩ => ⟨I2.kIn, ?_⟩) hpl
  rw [hks]
  have r2 := hb.rel (vs := []) (us := []) .nil rz
  have hl : (g [] ws).length = ps.length := by rw [← r2.length]; exact F.len _ _ _ _ q2
  exact call_fnG F hgd hr tk' I2 (hb.to s2 [] ws I2.kIn hl) r2 q2
end
end Wb
/-! Wb1: the errors of the package: class WebsError(ValueError), its __init__ by super(), the classes under it: made, raised. -/
namespace Wb
open PySem PySem.Spec PyProof.Rows L2
open PySem.W (Looks InstAt)

/-! ### the text of __init__ -/
def iA (p1 p2 : Pos) : Arguments := { posonlyargs := [], args := [{ arg := "self", annotation := none, pos := p1 }, { arg := "value", annotation := none, pos := p2 }], vararg := none, kwonlyargs := [], kw_defaults := [], kwarg := none, defaults := [] }
def iB (q0 q1 q2 q3 q4 q5 q6 q7 q8 q9 : Pos) : List Stmt :=
  [.Expr (.Call (.Attribute (.Call (.Name "super" q0) [] [] q1) "__init__" q2) [.Constant (.str "spacewebs") 0 q3] [] q4) q5,
   .Assign [.Attribute (.Name "self" q6) "value" q7] (.Name "value" q8) q9]
def iS : Scope := { kind := .function, names := [(PySem.Str.ofString "self", .local), (PySem.Str.ofString "value", .local), (PySem.Str.ofString "__class__", .free), (PySem.Str.ofString "super", .globalImplicit)], isGenerator := false, isCoroutine := false, more := [] }

/-- WebsError at D, its __init__ at fI -/
structure ErrBase (P : Program) (K : Frag) (mg : Str → Option Value) (D fI : Addr) : Prop where
  fn : ∃ (oc : Value) (od : Option Addr) (doc pm : Value) (an : Option Addr) (ct kV : Value) (osl : Array (Option Value)) (p1 p2 q0 q1 q2 q3 q4 q5 q6 q7 q8 q9 : Pos) (cda cc : Addr)
      (ccl : Value) (cdd : Option Addr) (vs : Array Value) (ccs : Array (Option Value)) (file : Str) (tf : Tok) (cl : Value) (cld : Option Addr) (csl : Array (Option Value)),
    K.lookup fI = some ⟨oc, od, .func (PySem.W.ksFn "__init__" "WebsError.__init__" (iA p1 p2) (iB q0 q1 q2 q3 q4 q5 q6 q7 q8 q9) iS .none kV doc pm an (.ref cda) ct cc), osl⟩ ∧
    PySem.W.codeIn K (.ref cda) "WebsError.__init__" = true ∧ K.lookup cda = some ⟨ccl, cdd, .fields vs, ccs⟩ ∧ vs[2]? = some (.str file tf) ∧ ((P.main.file : Str) == file) = true ∧
    K.lookup cc = some ⟨cl, cld, .cell (some (.ref D)), csl⟩ ∧ (q2.endLine == q4.line) = true
  clD : (PySem.W.clsIn K D).isSome = true
  sup : PySem.W.nsIn K mainGlobals "super" = some none
  supg : mg "super" = none
  top : (P.main.scope.names.lookup ("super" : Str)).isSome = false
  any : PySem.W.nsIn K PySem.cStatics "thirdparty.any" = some none
  tI : PySem.W.typeIn K (.ref fI) = some (.type "function")
/-- a class of the package's errors, at C -/
structure ErrCls (K : Frag) (D fI C : Addr) : Prop where
  cls : ∃ nm q N bs bm sn sub ab col dd k0 k1 k2 k3 k5, K.lookup C = some (excClassObj nm q C N bs bm true sn sub ab col dd k0 k1 k2 k3 k5 "ValueError.__new__") ∧ PySem.HandSPX.refsVE bm = true
  sa : PySem.W.findIn K (.ref C) "__setattr__" = some (some (.builtin "object.__setattr__"))
  ga : PySem.W.findIn K (.ref C) "__getattribute__" = some (some (.builtin "BaseException.__getattribute__"))
  gg : PySem.W.findIn K (.ref C) "__getattr__" = some none
  noN : PySem.W.findIn K (.ref C) "value" = some none
  iC : PySem.W.findIn K (.ref C) "__init__" = some (some (.ref fI))
  kC : PySem.W.keepIn K (.ref C) = true
  exC : PySem.W.subIn K (.ref C) (.type "BaseException") = some true
  veC : PySem.W.subIn K (.ref C) (.type "ValueError") = some true
  tyC : PySem.W.typeIn K (.ref C) = some (.type "type")
  hdC : PySem.W.hasDictIn K C = true
  mroD : PySem.W.mroIn K C (.ref D) = some true
  sup : PySem.W.ks_superIn K C D "__init__" = some (some (.builtin "ValueError.__init__"))

theorem len1 (v : Value) : [v].length ≤ sizeLine := by
  rw [sizeLine_eq]
  exact (by decide : 1 ≤ 16777216)
abbrev exR (C t : Addr) (dv : Option Addr) : Obj := PySem.W.excRec (.ref C) t dv .none .none (.bool false)
/-- what __init__ leaves of a fresh exception at x -/
structure InitEnd (h h' : Heap) (x C dx t1 : Addr) (v : Value) : Prop where
  keep : ∀ b o, b ≠ x → h.get? b = some o → h'.get? b = some o
  obj : h'.get? x = some (exR C t1 (some dx))
  dbig : h.objs.size ≤ dx
  dne : dx ≠ x
  ns : h'.Ns1 dx (fun y => if y = "value" then some v else none)
/-- a made error -/
structure ErrMade (h h' : Heap) (e C d : Addr) (v : Value) : Prop where
  keep : ∀ b o, h.get? b = some o → h'.get? b = some o
  new : h.objs.size ≤ e
  obj : ∃ oe vs, h'.get? e = some oe ∧ oe.cls = .ref C ∧ oe.dict = some d ∧ oe.data = .fields vs ∧ vs[1]? = some .none
  dbig : h.objs.size ≤ d
  dne : d ≠ e
  ns : h'.Ns1 d (fun y => if y = "value" then some v else none)

section
variable {prog : Program} {w : World} {A : Around} {E : Value → Shared → Prop} {h : Heap} {g : Array GenState} {d : Drawn} {t : Nat} {os : OsState} {K : Frag} {mg : Str → Option Value} {C D fI : Addr}
/-- the wrapper that super().__init__ gives, called -/
theorem call_mw {nm q : Str} {N : Addr} {bs bm : List Value} {sn : List Str} {sub : List Value} {ab : Bool} {col : Option Bool} {dd : Option Addr} {k0 k1 k2 k3 k5 : Option Value} {u e t0 : Addr} {rest : List Value} {Q : Value → Shared → Prop}
    (hC : h.get? C = some (excClassObj nm q C N bs bm true sn sub ab col dd k0 k1 k2 k3 k5 "ValueError.__new__")) (he : h.get? e = some (exR C t0 none)) (hu : h.get? u = some (PySem.W.kxs_mw "ValueError.__init__" e))
    (hrest : rest.length ≤ sizeLine) (hq : ∀ h' t1, (∀ b o, b ≠ e → h.get? b = some o → h'.get? b = some o) → h'.get? e = some (exR C t1 none) → Q .none ⟨h', g, d, t, os⟩) :
    wpAny (model prog w) A (call (.ref u) rest) Q E ⟨h, g, d, t, os⟩ := by
  refine wpAny_call (codeAny_of_tree ?_)
  show wpAny _ A.in1 (callAny (.ref u) _) _ _ _
  simp only [callAny]
  refine wpAny_bind (wpAny_load hu ?_)
  have hm : (Value.type "method-wrapper" == Value.type "method" || Value.type "method-wrapper" == Value.type "builtin_function_or_method" || Value.type "method-wrapper" == Value.type "method-wrapper") = true := by decide
  simp only [PySem.W.kxs_mw, hm, if_true]
  refine PySem.W.KFB.if_so (by decide) (wpAny_bind (PySem.ESX.check_bound F.excBase_ValueError hC he rfl (wpAny_bind (wpAny_pure (wpAny_pure ?_)))))
  refine ⟨plainId_quiet F.excBase_ValueError.init.plain _, codeAny_builtin F.excBase_ValueError.initEntry ?_⟩
  exact PySem.W.exc_init_tree he hrest fun h' k e' _ => hq h' _ k e'

theorem super_call_eq {q0 q1 q2 q3 q4 : Pos} {env : Env} (hl : (q2.endLine == q4.line) = true) :
    eval (.Call (.Attribute (.Call (.Name "super" q0) [] [] q1) "__init__" q2) [.Constant (.str "spacewebs") 0 q3] [] q4) env = (do
      let ov ← attributeBase (.Call (.Name "super" q0) [] [] q1) "__init__" env (eval (.Call (.Name "super" q0) [] [] q1) env)
      standAt q2.atName
      let (f, first) ← holding [ov] (getMethod ov "__init__" (do return (← importBound (.Call (.Name "super" q0) [] [] q1) env).getD true))
      callWith q4 f first (backTo q4 (starEach [.Constant (.str "spacewebs") 0 q3] env)) []) := by
  show (do
      let ov ← attributeBase (.Call (.Name "super" q0) [] [] q1) "__init__" env (eval (.Call (.Name "super" q0) [] [] q1) env)
      standAt q2.atName
      methodCall (.Call (.Name "super" q0) [] [] q1) "__init__" q2 q4 env ov 1 (backTo q4 (starEach [.Constant (.str "spacewebs") 0 q3] env)) []) = _
  unfold methodCall methodCallPos
  rw [hl, Bool.or_true, if_pos rfl]
  rfl

theorem init_run {s : Shared} {R : Result → Shared → Prop} {mb : Str → Option Value} (B : ErrBase prog K mg D fI) (T : ErrCls K D fI C) {x t0 : Addr} {v : Value} (X : K.In s.heap) (hlim : s.heap.NoLimit)
    (hG : s.heap.Ns mainGlobals mg) (hb : s.heap.Ns builtinsNs mb) (hbb : ∀ x : Str, x ≠ "__name__" → mb x = bootBuiltins x)
    (hx : s.heap.get? x = some (exR C t0 none)) (hnx : K.lookup x = none) (hng : x ≠ mainGlobals) (hroom : A.depth < recursionLimit)
    (hq : ∀ h' tk dx t1, InitEnd s.heap h' x C dx t1 v → R (.ok (.ret .none)) { s with heap := h', toks := tk }) :
    codeAny (model prog w) A (.call (.ref fI) ⟨[.ref x, v], []⟩) R s := by
  obtain ⟨oc, od, doc, pm, an, ct, kV, osl, p1, p2, q0, q1, q2, q3, q4, q5, q6, q7, q8, q9, cda, cc, ccl, cdd, vs, ccs, file, tf, cl, cld, csl, lk, hcd, lcode, hvs, hfile, lcell, hline⟩ := B.fn
  obtain ⟨nm, q, N, bs, bm, sn, sub, ab, col, dd, k0, k1, k2, k3, k5, hC, hbm⟩ := T.cls
  have hcl : PySem.W.clsIn K C = some { name := nm, bases := bs, mro := .ref C :: bm, ns := N, qualname := q, hasDict := true, slotNames := sn, subclasses := sub, abstract := ab, collection := col, hasDel := false } := by
    unfold PySem.W.clsIn; rw [hC] <;> rfl
  obtain ⟨hp, g, d, t, os⟩ := s
  have hG : hp.Ns mainGlobals mg := hG
  have hb : hp.Ns builtinsNs mb := hb
  have hx : hp.get? x = some (exR C t0 none) := hx
  have X : K.In hp := X
  refine PySem.ks_codeAny_call_defAt (fd := PySem.W.ksFn "__init__" "WebsError.__init__" (iA p1 p2) (iB q0 q1 q2 q3 q4 q5 q6 q7 q8 q9) iS .none kV doc pm an (.ref cda) ct cc)
    (binds := [("self", .ref x), ("value", v)]) hroom (X _ _ lk) rfl hlim (PySem.W.codeRec_of X hcd) rfl (BindsTo.of_eq (by first | rfl | with_unfolding_all rfl)) ?hcell ?hloc (fun h₁ hn k => ?_)
  case hcell =>
    show ∀ x ∈ iS.names, x.2 ≠ .cell
    decide +kernel
  case hloc =>
    intro y hy
    show iS.names.lookup y.1 = some .local
    rcases List.mem_cons.mp hy with rfl | hy
    · exact (by decide +kernel : iS.names.lookup ("self" : Str) = some .local)
    · rcases List.mem_cons.mp hy with rfl | hy
      · exact (by decide +kernel : iS.names.lookup ("value" : Str) = some .local)
      · cases hy
  have k : ∀ b o, hp.get? b = some o → h₁.get? b = some o := k
  have X₁ : K.In h₁ := X.keeps k
  have hx₁ := k _ _ hx
  have hC₁ := X₁ _ _ hC
  obtain ⟨cdD, hD⟩ := Option.isSome_iff_exists.mp B.clD
  obtain ⟨oD, hoD, hoDd⟩ : ∃ oD, h₁.get? D = some oD ∧ oD.data = .cls cdD := by
    unfold PySem.W.clsIn at hD
    split at hD
    · rename_i c d' cd' sl ho
      cases hD
      exact ⟨_, X₁ _ _ ho, rfl⟩
    · cases hD
  have I₁ : InstAt h₁ x (exR C t0 none) C none := ⟨hx₁, rfl, rfl, trivial⟩
  have hn : h₁.Ns hp.objs.size (fun y => [(("value" : Str), v), (("self" : Str), Value.ref x)].lookup y) := hn
  obtain ⟨env, henv⟩ : ∃ env : Env, env = PySem.W.ksEnv "WebsError.__init__" iS hp.objs.size fI (.ref cda) cc := ⟨_, rfl⟩
  have eL : env.locals = hp.objs.size := by rw [henv]
  have eks : env.kindOf "super" = some .globalImplicit := by rw [henv]; exact (by decide +kernel : iS.names.lookup ("super" : Str) = some .globalImplicit)
  have ekc : env.kindOf "__class__" = some .free := by rw [henv]; exact (by decide +kernel : iS.names.lookup ("__class__" : Str) = some .free)
  have ekf : env.kindOf "self" = some .local := by rw [henv]; exact (by decide +kernel : iS.names.lookup ("self" : Str) = some .local)
  have ekv : env.kindOf "value" = some .local := by rw [henv]; exact (by decide +kernel : iS.names.lookup ("value" : Str) = some .local)
  have efn : env.scope.kind = .function := by rw [henv]; rfl
  have eg : env.globals = mainGlobals := by rw [henv]
  have eb : env.builtins = builtinsNs := by rw [henv]
  have ec : env.cells.lookup ("__class__" : Str) = some cc := by rw [henv]; simp [List.lookup]
  show PySem.wpAt (model prog w) (A.deeper (PySem.W.ksEnv "WebsError.__init__" iS hp.objs.size fI (.ref cda) cc)) (.func (iB q0 q1 q2 q3 q4 q5 q6 q7 q8 q9) (PySem.W.ksEnv "WebsError.__init__" iS hp.objs.size fI (.ref cda) cc))
    (execs (_ :: _) (PySem.W.ksEnv "WebsError.__init__" iS hp.objs.size fI (.ref cda) cc)) _ (fun e s' => wpAny (model prog w) (A.deeper (PySem.W.ksEnv "WebsError.__init__" iS hp.objs.size fI (.ref cda) cc)) (leaving (PySem.W.ksEnv "WebsError.__init__" iS hp.objs.size fI (.ref cda) cc) e) _ _ _)
    ⟨h₁, g, d, _, os⟩
  have ef : env.func = some fI := by rw [henv]
  have eco : env.code = .ref cda := by rw [henv]
  rw [← henv]
  -- super().__init__('spacewebs')
  refine PySem.ks_wpAt_execs_cons (PySem.ks_wpAt_Expr_any (PySem.ks_wpAt_MethodCall ?_ (super_call_eq hline)) ?_ ?_)
  case refine_2 => simp [interactive, efn]
  case refine_3 => first | rfl | with_unfolding_all rfl
  refine PySem.ks_wpAt_super_base eks ekc (by decide) ef (X₁ _ _ lk) rfl rfl eco (X₁ _ _ lcode) rfl hvs hfile B.top ?_
  refine PySem.W.ks_loadName_global efn eks (Calls.loadGlobal_builtin (by rw [eg]; exact hG.keeps k) B.supg (by rw [eb]; exact hb.keeps k) ((hbb _ (by decide +kernel)).trans (by decide +kernel : bootBuiltins "super" = some (.type "super"))) ⟨rfl, ?_⟩)
  refine wpAny_loadName_free efn ekc ec ⟨_, X₁ _ _ lcell, rfl⟩ ?_
  refine wpAny_loadName_local efn ekf (by rw [eL]; exact hn) (show List.lookup ("self" : Str) [(("value" : Str), v), (("self" : Str), Value.ref x)] = some (Value.ref x) by first | rfl | decide +kernel) ?_
  refine PySem.ks_wpAny_isType_cls hoD hoDd ⟨rfl, ?_⟩
  refine PySem.ks_wpAny_call_super hoD hoDd hx₁ rfl (fun c e => by cases e) (PySem.W.looks_mroIn X₁ T.mroD) (fun h2 so2 kk2 => ?_)
  have X2 := X₁.keeps kk2
  have hsup : PySem.W.alongIn K "__init__" (((Value.ref C :: bm).dropWhile (· != .ref D)).drop 1) = some (some (.builtin "ValueError.__init__")) := by
    have z := T.sup
    unfold PySem.W.ks_superIn at z
    rw [hcl] at z
    exact z
  have hI2 : Looks (model prog w) h2 (isInstance (.ref x) (.type "ValueError")) true := (show InstAt h2 x (exR C t0 none) C none from ⟨kk2 _ _ hx₁, rfl, rfl, trivial⟩).type.andThen (PySem.W.looks_subIn X2 T.veC)
  refine PySem.W.kxs_getMethod PySem.W.kxs_ValueError so2 (PySem.W.looks_opaque X2 B.any) (fun A Q E s k q => wpAny_bind ((PySem.W.looks_clsIn X2 hcl) A _ E s k (wpAny_pure q))) rfl X2 hsup hI2 (PySem.W.ks_ne X₁ I₁ hcl) (by decide) ?_
  have hmw : (h2.push (PySem.W.kxs_mw "ValueError.__init__" x)).get? h2.objs.size = some (PySem.W.kxs_mw "ValueError.__init__" x) := Heap.get?_push_at rfl rfl
  have k3' : ∀ b o, h2.get? b = some o → (h2.push (PySem.W.kxs_mw "ValueError.__init__" x)).get? b = some o := fun b o e => Heap.get?_push_of_some _ e
  refine PySem.W.kxs_callWith (i := "ValueError.__init__") (x := x) (by first | rfl | decide) (Calls.evalArgs_plain (Calls.spliced_cons (Calls.Constant_str (k := 0) (pos := q3) (Calls.spliced_nil ⟨hmw, ?_⟩))))
  refine call_mw (X2.keeps k3' _ _ hC) (k3' _ _ (kk2 _ _ hx₁)) hmw (len1 _) (fun h4 t1 k4 e4 => ?_)
  have kk4 : ∀ b o, b ≠ x → h₁.get? b = some o → h4.get? b = some o := fun b o hb e => k4 b o hb (k3' _ _ (kk2 _ _ e))
  have hxL : hp.objs.size ≠ x := Nat.ne_of_gt (Heap.lt_size hx)
  have neK : ∀ b o, K.lookup b = some o → b ≠ x := fun b o e z => by rw [z, hnx] at e; cases e
  have X4 : K.In h4 := fun b o e => kk4 b o (neK b o e) (X₁ b o e)
  have hn4 : h4.Ns hp.objs.size (fun y => [(("value" : Str), v), (("self" : Str), Value.ref x)].lookup y) := by
    obtain ⟨oL, es, ep, hL, r⟩ := hn
    exact ⟨oL, es, ep, kk4 _ _ hxL hL, r⟩
  -- self.value = value
  refine PySem.ks_wpAt_execs_cons (wpAt_of_wpAny (plainObj_wpAny_Assign_Attribute ?_ ?_))
  case refine_2 => first | rfl | with_unfolding_all rfl
  refine wpAny_Name (wpAny_loadName_local efn ekv (by rw [eL]; exact hn4) (show _ = some v by simp [List.lookup]) ?_) (by decide)
  refine wpAny_Name (wpAny_loadName_local efn ekf (by rw [eL]; exact hn4) (show List.lookup ("self" : Str) [(("value" : Str), v), (("self" : Str), Value.ref x)] = some (Value.ref x) by first | rfl | decide +kernel) ?_) (by decide)
  refine PySem.W.set_plain X4 (ox := exR C t1 none) (od := none) ⟨e4, rfl, rfl, trivial⟩ T.sa ?_
  refine PySem.HandSPX.exc_osa X4 e4 hcl (show PySem.HandSPX.refsVE (.ref C :: bm) = true from hbm) rfl T.noN (fun h5 tk5 dx k5 dn dne hx5 hn5 => ?_)
  refine wpAt_of_wpAny (wpAny_execs_nil ?_)
  refine hq h5 tk5 dx t1 ⟨fun b o hb e => k5 b o hb (kk4 b o hb (k b o e)), hx5, ?_, dne, hn5⟩
  have z1 : hp.objs.size < h₁.objs.size := hn.lt
  obtain ⟨oL, es, ep, hL, r⟩ := hn4
  exact Nat.le_trans (Nat.le_of_lt (Heap.lt_size hL)) dn

theorem err_made {s : Shared} {R : Result → Shared → Prop} {mb : Str → Option Value} (B : ErrBase prog K mg D fI) (T : ErrCls K D fI C) {v : Value} (X : K.In s.heap) (hlim : s.heap.NoLimit)
    (hG : s.heap.Ns mainGlobals mg) (hb : s.heap.Ns builtinsNs mb) (hbb : ∀ x : Str, x ≠ "__name__" → mb x = bootBuiltins x) (hroom : A.depth + 1 < recursionLimit)
    (hq : ∀ h' tk e d, ErrMade s.heap h' e C d v → R (.ok (.ret (.ref e))) { s with heap := h', toks := tk }) : codeAny (model prog w) A (.call (.ref C) ⟨[v], []⟩) R s := by
  obtain ⟨nm, q, N, bs, bm, sn, sub, ab, col, dd, k0, k1, k2, k3, k5, hC, hbm⟩ := T.cls
  obtain ⟨hp, g, dr, tk, os⟩ := s
  have hG : hp.Ns mainGlobals mg := hG
  have k : ∀ b o, hp.get? b = some o → ((hp.push (PySem.W.kdv_tup [v])).push (PySem.HandSPX.excO C hp.objs.size)).get? b = some o := fun b o e => Heap.get?_push_of_some _ (Heap.get?_push_of_some _ e)
  have hat : ((hp.push (PySem.W.kdv_tup [v])).push (PySem.HandSPX.excO C hp.objs.size)).get? (hp.objs.size + 1) = some (exR C hp.objs.size none) := by heap_get
  have hnx : K.lookup (hp.objs.size + 1) = none := by
    cases e : K.lookup (hp.objs.size + 1) with
    | none => rfl
    | some o => exact absurd (Nat.lt_of_succ_lt (Heap.lt_size (show hp.get? (hp.objs.size + 1) = some o from X _ _ e))) (Nat.lt_irrefl _)
  have hng : hp.objs.size + 1 ≠ mainGlobals := fun z => by
    obtain ⟨o, _, _, e, _⟩ := hG
    rw [← z] at e
    exact absurd (Nat.lt_of_succ_lt (Heap.lt_size e)) (Nat.lt_irrefl _)
  have nsK : ∀ {b : Addr} {m : Str → Option Value}, hp.Ns b m → ((hp.push (PySem.W.kdv_tup [v])).push (PySem.HandSPX.excO C hp.objs.size)).Ns b m := fun {b m} z => z.keeps k
  refine PySem.HandSPX.call_own F.excBase_ValueError (fun Y => PySem.HandSPX.refsVE_contains Y bm hbm) (X _ _ hC) (PySem.W.looks_findIn X T.iC) (fun self => PySem.W.bind_fn X self B.tI) (len1 v) ?_
  refine init_run (s := ⟨(hp.push (PySem.W.kdv_tup [v])).push (PySem.HandSPX.excO C hp.objs.size), g, dr, tk, os⟩) B T (X.keeps k) (hlim.keeps k) (nsK hG) (nsK hb) hbb hat hnx hng ?_ fun h' tk' dx t1 z => ?_
  · exact hroom
  · have old : ∀ b o, hp.get? b = some o → h'.get? b = some o := fun b o e => z.keep b o (Nat.ne_of_lt (Nat.lt_succ_of_lt (Heap.lt_size e))) (k b o e)
    have z2 : hp.objs.size + 1 + 1 ≤ dx := by
      have y := z.dbig
      first
        | (simpa only [Heap.size_push] using y)
        | (rw [Heap.size_push, Heap.size_push] at y; exact y)
    refine ⟨rfl, hq h' tk' (hp.objs.size + 1) dx ⟨old, Nat.le_succ _, ⟨_, _, z.obj, rfl, rfl, rfl, rfl⟩, ?_, z.dne, z.ns⟩⟩
    show hp.objs.size ≤ dx
    omega
end
theorem relO_value {v : V} {u : Value} (r : RelV v u) (f : Str) : RelO (List.lookup f [(("value" : Str), v)]) (if f = "value" then some u else none) := by
  by_cases e : f = "value"
  · subst e
    rw [if_pos rfl]
    have z : List.lookup ("value" : Str) [(("value" : Str), v)] = some v := by simp [List.lookup]
    rw [z]
    exact r
  · have z : List.lookup f [(("value" : Str), v)] = none := by
      have e2 : (f == ("value" : Str)) = false := by simpa using e
      simp [List.lookup, e2]
    rw [if_neg e, z]
    trivial
section
variable {X : Cx} {C D fI : Addr} {W : WX}
/-- C(e) of an error's class -/
def tMkE (C : Addr) (ta : TA) : L2.St → Hp → XK → Prop := fun σ H Q => ta σ H fun vs H1 => ∃ v, vs = [v] ∧ ∀ d, H1 d = none → Q (.ref C) (some d) (upd H1 d (.xd [(("value" : Str), v)]))
theorem pmk_err {x : Str} {a : Expr} {ta : TA} {p pos : Pos} {k : Nat} (B : ErrBase X.prog X.K X.mg D fI) (T : ErrCls X.K D fI C) (hr : Room k X.A) (gC : X.mg x = some (.ref C)) (ha : PA X [a] ta) (hg : Gl X x)
    (hdb : (x == ("__debug__" : Str)) = false := by decide) (he : starEach (a :: []) X.env = (false, eval a X.env) :: starEach [] X.env := by rfl) (hpl : (backTo pos (starEach [] X.env)).any (·.1) = false := by rfl) :
    PMk X (.Call (.Name x p) [a] [] pos) (tMkE C ta) := by
  intro pins s σ H Q I h
  refine wpAny_Call_Name_kw (ld_glob I hg gC ?_ hdb)
  refine PySem.W.callWith_K (h₀ := X.base) I.ok.mod.kin T.kC (thn (ha.run pos pins s σ H _ I h) fun us s1 hh => ?_) he hpl
  obtain ⟨vs, H1, I1, r1, v, rfl, q1⟩ := hh
  refine ⟨I1.kIn, ?_⟩
  cases r1 with
  | @cons _ v' _ us' rv rn =>
    cases rn
    show wpAny _ _ (call (.ref C) [v']) _ _ _
    have hlim := I1.nolimit
    have hdp := hr.dp
    obtain ⟨mb, hmb, hbb⟩ := I1.mod.blt
    have hbk := I1.bk
    obtain ⟨hp, g, dr, tk, os⟩ := s1
    refine wpAny_call (err_made B T I1.kIn hlim (I1.mod.glob.keeps hbk) (hmb.keeps hbk) hbb (by omega) fun h' tk' e d M => ?_)
    show MkP X pins σ Q (.ref e) ⟨h', g, dr, tk', os⟩
    obtain ⟨oe, fv, hoe, hc, hd, hdat, h1⟩ := M.obj
    have hns := M.ns
    obtain ⟨Gr, g1, g2⟩ := restrict h' fun b => decide (b ≠ e)
    have gk : ∀ b, b ≠ e → Gr.get? b = h'.get? b := fun b hb => g1 b (decide_eq_true hb)
    have ge : Gr.get? e = none := g2 e (by simp)
    have old : ∀ b o, hp.get? b = some o → Gr.get? b = some o := fun b o q => (gk b (Nat.ne_of_lt (Nat.lt_of_lt_of_le (Heap.lt_size q) M.new))).trans (M.keep b o q)
    have ob : ObjOk X.prog X.w (upd H1 d (.xd [(("value" : Str), v)])) Gr d (.xd [(("value" : Str), v)]) :=
      ⟨_, hns.at (fun o q => (gk d M.dne).trans q), fun f => relO_value rv f⟩
    have J : Inv X pins σ (upd H1 d (.xd [(("value" : Str), v)])) ⟨Gr, g, dr, tk', os⟩ := I1.laid (t' := tk') old M.dbig ob
    refine ⟨e, oe, fv, ⟨Gr, g, dr, tk', os⟩, _, .ref C, some d, rfl, J, fun b o q => ?_, ge, hoe, ⟨hc, hd⟩, hdat, h1, ?_, rfl, I1.bare, raises_own T.exC T.tyC, q1 d (I1.hok.fresh M.dbig)⟩
    · by_cases hb : b = e
      · have q' : Gr.get? b = some o := q
        rw [hb, ge] at q'
        cases q'
      · exact (gk b hb).symm.trans q
    · rw [upd_ne (Ne.symm M.dne)]
      exact I1.hok.fresh M.new
/-- raise C(e) -/
theorem ps_raiseE {x : Str} {a : Expr} {ta : TA} {p pos pos2 : Pos} {k : Nat} (hc : X.calm = true) (B : ErrBase X.prog X.K X.mg D fI) (T : ErrCls X.K D fI C) (hr : Room k X.A) (tk : Takes X W) (gC : X.mg x = some (.ref C)) (ha : PA X [a] ta) (hg : Gl X x)
    (hdb : (x == ("__debug__" : Str)) = false := by decide) (he : starEach (a :: []) X.env = (false, eval a X.env) :: starEach [] X.env := by rfl) (hpl : (backTo pos (starEach [] X.env)).any (·.1) = false := by rfl) :
    PS X (.Raise (some (.Call (.Name x p) [a] [] pos)) none pos2) (fun _ σ H => tMkE C ta σ H fun cls d H' => W cls d σ H') :=
  ps_raise hc tk (pmk_err B T hr gC ha hg hdb he hpl)
end
end Wb
/-! Wb2: an error that is caught and kept: tracked; isinstance and .value of it; repr of data. -/
namespace Wb
open PySem PySem.Spec PyProof.Rows L2

/-- at a: a caught error of the class at C, its own dict at d -/
def ExcAt (C d a : Addr) : HO := .ext fun h => ∃ (oe : Obj) (vs : Array Value), h.get? a = some oe ∧ oe.cls = .ref C ∧ oe.dict = some d ∧ oe.data = .fields vs
theorem excAt_ok {P : Program} {w : World} {H : Hp} {h : Heap} {C d a : Addr} {oe : Obj} {vs : Array Value} (e : h.get? a = some oe) (hc : oe.cls = .ref C) (hd : oe.dict = some d) (hv : oe.data = .fields vs) : ObjOk P w H h a (ExcAt C d a) :=
  ⟨⟨oe, vs, e, hc, hd, hv⟩, ⟨oe, e⟩, fun h1 h2 ⟨o, ws, e1, q1, q2, q3⟩ st => ⟨o, ws, st _ e1, q1, q2, q3⟩⟩
section
variable {X : Cx} {pins : List (Addr × Obj)} {σ : L2.St} {H : Hp} {s : Shared}
/-- an object of ours that is not tracked as yet is tracked -/
theorem Inv.trackE {C d a : Addr} {oe : Obj} {vs : Array Value} (I : Inv X pins σ H s) (e : s.heap.get? a = some oe) (hc : oe.cls = .ref C) (hd : oe.dict = some d) (hv : oe.data = .fields vs) (na : H a = none) (nL : a ≠ X.env.locals)
    (n0 : X.s_0.heap.get? a = none) (np : ∀ p ∈ X.pn ++ pins, p.1 ≠ a) : Inv X pins σ (upd H a (ExcAt C d a)) s := by
  have ne0 : ∀ b o, X.s_0.heap.get? b = some o → b ≠ a := fun b o q z => by rw [z, n0] at q; cases q
  have neH : ∀ {b : Addr} {u : HO}, H b = some u → b ≠ a := fun {b u} q => ne_of_none q na
  refine ⟨I.ok, I.os, I.bare, ⟨I.base.keep, I.base.slot, fun b o q n hx => ?_, I.base.there, fun b xs q => ?_, fun b o u q => ?_, fun b ps q => ?_⟩, I.loc, I.cell, ?_, fun x c q => ?_, fun p hp => ?_, fun b u q => ?_, I.len⟩
  · rw [upd_ne (ne0 b o q)]
    exact I.base.free b o q n hx
  · have z := I.base.tups b xs q
    rw [upd_ne (neH z)]
    exact z
  · have z := I.base.frzs b o u q
    rw [upd_ne (neH z)]
    exact z
  · obtain ⟨m, z⟩ := I.base.tbls b ps q
    exact ⟨m, by rw [upd_ne (neH z)]; exact z⟩
  · rw [upd_ne (Ne.symm nL)]
    exact I.free
  · have nc : c ≠ a := fun z => by
      obtain ⟨v, o, ho, hcd⟩ := I.cell x c q
      rw [z, e] at ho
      cases ho
      rw [hv] at hcd
      cases hcd
    rw [upd_ne nc]
    exact I.freeC x c q
  · obtain ⟨q1, q2, q3⟩ := I.pin p hp
    exact ⟨q1, by rw [upd_ne (np p hp)]; exact q2, q3⟩
  · by_cases hb : b = a
    · subst hb
      rw [upd_same] at q
      cases q
      exact excAt_ok e hc hd hv
    · rw [upd_ne hb] at q
      exact (I.hok b u q).stay (fun c v _ z => z) (fun c z => by rw [upd_ne (neH z)]; exact z) fun c xs z => by rw [upd_ne (neH z)]; exact z
end

/-- what the clause 'except x as n: y = n' wishes: n in slot i, y in slot j -/
def wKeep (K : Frag) (c : Value) (i j : Nat) (Wout : WX) (D : Ends) : WX := fun cls d σ H =>
  ∃ b, PySem.W.exmOne K cls c = some b ∧
    (b = true → ∃ C dd, cls = .ref C ∧ d = some dd ∧ ∀ a, H a = none → D.nx (((σ.set i (some (.ref a))).set j (some (.ref a))).set i none) (upd H a (ExcAt C dd a))) ∧ (b = false → Wout cls d σ H)
section
variable {X : Cx} {x n y : Str} {c : Value} {i j : Nat} {body : List Stmt} {np pos pos' p1 p2 p3 : Pos} {tb : WX → TS} {Wout : WX}
theorem ps_try_keep (hs : X.stack = X.env :: X.outer) (hf : X.env.frame = some X.env.locals) (hex : X.ex = []) (hN : X.N.Nodup) (hi : X.N[i]? = some n) (hln : X.env.kindOf n = some .local) (hj : X.N[j]? = some y) (hly : X.env.kindOf y = some .local)
    (hij : i ≠ j) (hnd : (n == ("__debug__" : Str)) = false) (hnc : (n == ("__classdict__" : Str)) = false) (hc : Names X x c) (tk : Takes X Wout)
    (hb : ∀ (W : WX) (pn : List (Addr × Obj)) (xe : Value → Shared → Prop), Takes (X.tr pn xe) W → PassesOwn (model X.prog X.w) X.A X.env xe → PSs (X.tr pn xe) body (tb W))
    (hsw : swapsWith (.Name n p2) (some (.Name y p1)) p3.line X.env = pure false := by rfl) :
    PS X (.Try body [.ExceptHandler (some (.Name x np)) (some n) [.Assign [.Name y p1] (.Name n p2) p3] pos'] [] [] pos) (fun D σ H => tb (wKeep X.K c i j Wout D) D σ H) := by
  refine ⟨fun pins s σ H D I h => ?_⟩
  have ok := I.ok
  have hfr : X.A.frames = some (X.env :: X.outer) := by rw [ok.frames, hs]
  refine wpAny_Try_except ?_
  refine wpAny_mono ((hb (wKeep X.K c i j Wout D) (X.pn ++ pins) (fun e s₁ => wpAny (model X.prog X.w) X.A (noteFrame e X.env) (fun _ s₂ => wpAny (model X.prog X.w) X.A (setFlight e none) (fun _ s₃ =>
    wpAny (model X.prog X.w) X.A (handleBy e X.env [.ExceptHandler (some (.Name x np)) (some n) [.Assign [.Name y p1] (.Name n p2) p3] pos']) (SP X pins D) X.xe s₃) X.xe s₂) X.xe s₁) (fun u s' xx => ?_) PassesOwn.looking).run [] s σ H D (I.toTry _) h) (fun f s1 hsp => ?_) (fun e s1 he => he)
  · obtain ⟨a, B, sI, pins', σ', H', cls, d, rfl, J', nb, up, sky, na, os, ag, b, hb1, hyes, hno⟩ := xx
    have J : Inv X pins σ' H' sI := J'.ofTry ok
    have sky' : Sky B (X.env :: X.outer) a (Zc cls d) X.env.locals s'.heap := by rw [← hs]; exact sky
    show wpAny (model X.prog X.w) X.A (noteFrame (.ref a) X.env) _ _ _
    refine Sky.land Zc.steady hfr hf sky' fun h3 fl3 up3 => ?_
    have J3 : Inv X pins σ' H' { s' with heap := h3 } := J.landed nb fl3.1 (up.trans up3) os ag
    obtain ⟨oe3, vs3, he3, hz3, hd3⟩ := fl3.there
    have Ba : B.get? a = none := fl3.2.1
    have nfr : a ∉ frs (X.env :: X.outer) := fun hm => by
      obtain ⟨_, o', e', hnf⟩ := fl3.2.2.1.mem hm
      rw [he3] at e'
      cases e'
      exact hnf _ hd3
    have nL : a ≠ X.env.locals := fun z => nfr (List.mem_filterMap.mpr ⟨X.env, List.mem_cons_self, by rw [hf, z]⟩)
    have nF : a ∉ X.fs := fun hm => by
      obtain ⟨e, he, q⟩ := List.mem_filterMap.mp hm
      exact nfr (List.mem_filterMap.mpr ⟨e, List.mem_cons_of_mem _ he, q⟩)
    have inB : ∀ b o, sI.heap.get? b = some o → b ∉ frs X.stack → b ≠ a := fun b o q nf z => by
      have := nb b o q nf
      rw [z, Ba] at this
      cases this
    have n0 : X.s_0.heap.get? a = none := by
      cases q : X.s_0.heap.get? a with
      | none => rfl
      | some o =>
        obtain ⟨o', q'⟩ := J.base.there a o q (by rw [hex]; exact List.not_mem_nil)
        exact absurd rfl (inB a o' q' (by rw [hs]; exact nfr))
    have np' : ∀ p ∈ X.pn ++ pins, p.1 ≠ a := fun p hp => by
      obtain ⟨q1, q2, q3, q4, q5⟩ := J.pin p hp
      refine inB p.1 p.2 q1 fun hm => ?_
      rcases List.mem_cons.mp (J.stkSub p.1 hm) with z | z
      · exact q3 z
      · exact q4 z
    have S3 := J3.suite he3 hd3 na nL nF
    refine wpAny_handleBy_cons (codeAny_handlers_test ?_) (by intro q; cases q)
    have LT : PySem.W.Looks (model X.prog X.w) h3 (typeOf (.ref a)) cls := fun A Q E s k q => wpAny_typeOf_ref (k _ _ he3) (by rw [hz3.1]; exact q)
    have LM := PySem.W.exm_one (M := model X.prog X.w) (J3.kIn) LT hb1
    have test : ∀ {Q : Value → Shared → Prop} {E : Value → Shared → Prop}, Q c { s' with heap := h3 } → wpAny (model X.prog X.w) (X.A.mark (some (.ref a))) (eval (.Name x np) X.env) Q E { s' with heap := h3 } := fun {Q E} q => by
      obtain ⟨hg, hdbg, hm | ⟨hm, hv, hnn⟩⟩ := hc
      · exact ld_glob (X := X.suite a ((a, oe3) :: (X.pn ++ pins))) S3 hg hm q hdbg
      · exact ld_blt (X := X.suite a ((a, oe3) :: (X.pn ++ pins))) S3 hg hm hv q hnn hdbg
    refine test (LM.here ?_)
    cases b with
    | true =>
      obtain ⟨C, dd, rfl, rfl, hgo⟩ := hyes rfl
      refine codeAny_handlers_suite_as ?_
      refine HandSPX.lands_againZ fl3 fun h4 fl4 up4 => ?_
      have J4 : Inv X pins σ' H' { s' with heap := h4 } := J.landed nb fl4.1 ((up.trans up3).trans up4) os ag
      obtain ⟨oe4, vs4, he4, hz4, hd4⟩ := fl4.there
      have S4 := J4.suite he4 hd4 na nL nF
      refine store_ok (X := X.suite a ((a, oe4) :: (X.pn ++ pins))) (v := .ref a) S4 hN hi (.inl hln) rfl (fun s5 S5 => ?_) (.inr hln)
      have hil : i < σ'.length := by
        have := J.len
        rw [this]
        exact (List.getElem?_eq_some_iff.mp hi).1
      have body5 : PSs (X.suite a ((a, oe4) :: (X.pn ++ pins))) [.Assign [.Name y p1] (.Name n p2) p3] (tAsg (tVar i) (gName j)) :=
        pss_one (ps_set (X := X.suite a ((a, oe4) :: (X.pn ++ pins))) (i := j) hN hj (.inl hly) (pe_var (X := X.suite a ((a, oe4) :: (X.pn ++ pins))) hi (.inl hln) hnd hnc) hsw (.inr hly))
      refine wpAny_mono (body5.run [] s5 _ H' { nx := fun σ6 H6 => σ6 = (σ'.set i (some (.ref a))).set j (some (.ref a)) ∧ H6 = H', rt := fun _ _ => False } S5 ?_) (fun f s6 hsp => ?_) (fun _ _ z => z.elim)
      · refine ⟨.ref a, ?_, rfl, rfl⟩
        rw [List.getElem?_set_self hil]
      cases f with
      | next =>
        obtain ⟨σ6, H6, S6, rfl, rfl⟩ := hsp
        have I6 : Inv X ((a, oe4) :: pins) ((σ'.set i (some (.ref a))).set j (some (.ref a))) H6 s6 :=
          ⟨ok, S6.os, S6.bare, S6.base, S6.loc, S6.cell, S6.free, S6.freeC, fun p hp => S6.pin p (by
            rw [List.append_nil]
            rcases List.mem_append.mp hp with z | z
            · exact List.mem_cons_of_mem _ (List.mem_append_left _ z)
            · rcases List.mem_cons.mp z with z | z
              · rw [z]; exact List.mem_cons_self
              · exact List.mem_cons_of_mem _ (List.mem_append_right _ z)), S6.hok, S6.len⟩
        refine gone_ok I6 hN hi hln fun s7 J7 => ?_
        obtain ⟨e7, n7, _⟩ := J7.pin (a, oe4) (List.mem_append_right _ List.mem_cons_self)
        have J8 : Inv X pins _ H6 s7 := J7.pins_of fun p hp => J7.pin p (List.mem_append_right _ (List.mem_cons_of_mem _ hp))
        exact ⟨_, _, Inv.trackE J8 e7 hz4.1 hz4.2 hd4 n7 nL n0 np', hgo a n7⟩
      | brk =>
        obtain ⟨_, _, _, q⟩ := hsp
        exact False.elim q
      | cont =>
        obtain ⟨_, _, _, q⟩ := hsp
        exact False.elim q
      | ret u =>
        obtain ⟨_, _, _, _, _, q⟩ := hsp
        exact False.elim q
    | false =>
      show wpAny _ X.A (handleBy (.ref a) X.env []) _ _ _
      refine wpAny_handleBy_nil ?_
      obtain ⟨k1, k2, k3, oe, vs, T, oT, ts', he, hz, hd, h1, hr⟩ := id fl3
      unfold PySem.passOn
      refine wpAny_bind (wpAny_field he hd h1 ?_)
      rw [if_neg (show ¬ ((Value.ref T == Value.none) = true) from by simp)]
      have fin : wpAny (model X.prog X.w) X.A (setFlight (.ref a) X.env.frame) (fun _ s4 => wpAny (model X.prog X.w) X.A (throw (.ref a) : Sem Flow) (SP X pins D) X.xe s4) X.xe { s' with heap := h3 } := by
        rw [hf]
        refine HandSPX.setFlight_upZ fl3 fun h4 hh4 up4 => wpAny_throw (tk _ _ ?_)
        exact ⟨a, B, sI, pins, σ', H', cls, d, rfl, J, nb, (up.trans up3).trans up4, .inr (.inr (by rw [hs]; exact hh4)), na, os, ag, hno rfl⟩
      first
        | exact wpAny_bind (wpAny_pure (wpAny_bind fin))
        | exact wpAny_bind fin
  · cases f with
    | next =>
      obtain ⟨σ', H', J', q⟩ := hsp
      exact wpAny_execs_nil ⟨σ', H', J'.ofTry ok, q⟩
    | brk =>
      obtain ⟨σ', H', J', q⟩ := hsp
      exact ⟨σ', H', J'.ofTry ok, q⟩
    | cont =>
      obtain ⟨σ', H', J', q⟩ := hsp
      exact ⟨σ', H', J'.ofTry ok, q⟩
    | ret u =>
      obtain ⟨v, σ', H', J', r, q⟩ := hsp
      exact ⟨v, σ', H', J'.ofTry ok, r, q⟩
end

/-! ### isinstance, .value of a kept error -/
/-- what a class of errors must say for isinstance to ask its instances rightly -/
structure IsC (K : Frag) (C : Addr) : Prop where
  hcl : (PySem.W.clsIn K C).isSome = true
  hg : PySem.W.findIn K (.ref C) "__getattribute__" = some (some (.builtin "BaseException.__getattribute__"))
  hk : PySem.W.findIn K (.ref C) "__getattr__" = some none
  hs : PySem.W.subIn K (.ref C) (.type "BaseException") = some true
  ha : PySem.W.findIn K (.ref C) "__class__" = some (some (.builtin "object.__class__"))
  hn : PySem.W.specialIn K (.builtin "object.__class__") "__get__" = some (some (.builtin "getset_descriptor.__get__"))
  ht : PySem.W.takesIn K (.builtin "object.__class__") = some true
  hm : PySem.W.mroIn K C (.type "object") = some true
section
variable {X : Cx}
/-- isinstance(e, c), e a kept error -/
def rIsK (K : Frag) : List V → Hp → VK → Prop := fun xs H Q => ∃ (a C dd : Addr) (fs : List (Str × V)) (c : V) (cv : Value) (b : Bool), xs = [.ref a, c] ∧ H a = some (ExcAt C dd a) ∧ H dd = some (.xd fs) ∧ IsC K C ∧ (∀ u, RelV c u → u = cv) ∧
  PySem.W.kitOne K (.ref C) cv = some b ∧ Q (.bl b) H
theorem call_isK : CallR X (.builtin "isinstance") (rIsK X.K) := by
  intro pins s σ H xs us Q I r h
  obtain ⟨a, C, dd, fs, c, cv, b, rfl, ha, hdd, T, hcv, e, q⟩ := h
  cases r with
  | cons rx rr =>
    cases rr with
    | cons rt rr =>
      cases rr
      cases rx
      have ec := hcv _ rt
      subst ec
      obtain ⟨⟨oe, vs, e1, e2, e3, e4⟩, _⟩ := I.hok a _ ha
      obtain ⟨mA, hns, _⟩ := (show ObjOk X.prog X.w H s.heap dd (.xd fs) from I.hok dd _ hdd)
      obtain ⟨od, ho, _⟩ := lookIn_ns hns
      have J : PySem.W.InstAt s.heap a oe C (some od) := ⟨e1, e2, by unfold PySem.W.notCls; rw [e4] <;> rfl, by rw [e3]; exact ho⟩
      exact PySem.W.kia_one (PySem.W.kitx_exc T.hcl T.hg T.hk T.hs T.ha T.hn T.ht T.hm) I.kIn J e (fun z => nomatch z) fun tk => ⟨.bl b, H, I.kept (t' := tk) fun _ _ z => z, rfl, q⟩
/-- e.value, e a kept error -/
def tValue (K : Frag) (D fI : Addr) (te : TE) : TE := fun σ H Q => te σ H fun x H1 => ∃ (a C dd : Addr) (v : V), x = .ref a ∧ ErrCls K D fI C ∧ H1 a = some (ExcAt C dd a) ∧ H1 dd = some (.xd [(("value" : Str), v)]) ∧ Q v H1
theorem pe_value {D fI : Addr} {e : Expr} {te : TE} {pos : Pos} (he : PE X e te) (hb : attributeBase e "value" X.env (eval e X.env) = eval e X.env := by rfl) : PE X (.Attribute e "value" pos) (tValue X.K D fI te) := by
  refine ⟨fun pins s σ H Q I h => ?_⟩
  refine attr_of hb (thn (he.run pins s σ H _ I h) fun u s1 hh => ?_)
  obtain ⟨x, H1, I1, rx, a, C, dd, v, rfl, T, ha, hdd, q⟩ := hh
  obtain rfl : u = Value.ref a := rx
  obtain ⟨⟨oe, vs, e1, e2, e3, e4⟩, _⟩ := I1.hok a _ ha
  obtain ⟨mA, hns, hr⟩ := (show ObjOk X.prog X.w H1 s1.heap dd (.xd [(("value" : Str), v)]) from I1.hok dd _ hdd)
  obtain ⟨od, ho, hl⟩ := lookIn_ns hns
  have l : List.lookup ("value" : Str) [(("value" : Str), v)] = some v := by simp [List.lookup]
  obtain ⟨u, hu, ru⟩ := RelO.some_of (v := v) (o := mA "value") (by rw [← l]; exact hr "value")
  have J : PySem.W.InstAt s1.heap a oe C (some od) := ⟨e1, e2, by unfold PySem.W.notCls; rw [e4] <;> rfl, by rw [e3]; exact ho⟩
  exact HandSPX.exc_get I1.kIn J T.ga T.gg T.exC (PySem.W.findObj_own T.hdC T.noN rfl (by rw [hl, hu])) (handed_of ru) ⟨v, H1, I1.tok _, ru, q⟩

/-! ### repr of data -/
/-- what repr takes: the text fits -/
def ROk (d : PyData) : Prop := d.showable = true ∧ d.shown.length ≤ sizeLine ∧ d.depth ≤ 64
def rRepr (K : Frag) : List V → Hp → VK → Prop := fun xs H Q => ∃ (v : V) (d : PyData), xs = [v] ∧ Dp K H v d ∧ ROk d ∧ Q (.str d.shown) H
mutual
theorem noDict_of {K : Frag} {H : Hp} : ∀ {v : V} {d : PyData}, Dp K H v d → d.hasDict = false
  | _, _, .non => by simp only [PyData.hasDict]
  | _, _, .bl _ => by simp only [PyData.hasDict]
  | _, _, .int _ => by simp only [PyData.hasDict]
  | _, _, .str _ => by simp only [PyData.hasDict]
  | _, _, .lst _ h => by simp only [PyData.hasDict]; exact noDictAll_of h
  | _, _, .tup _ h => by simp only [PyData.hasDict]; exact noDictAll_of h
theorem noDictAll_of {K : Frag} {H : Hp} : ∀ {vs : List V} {ds : List PyData}, DpAll K H vs ds → PyData.hasDictAll ds = false
  | _, _, .nil => by simp only [PyData.hasDictAll]
  | _, _, .cons h1 h2 => by simp only [PyData.hasDictAll, noDict_of h1, noDictAll_of h2, Bool.or_self]
end
theorem call_reprD (hgd : X.A.guards = some []) (hu : X.A.units + 66 < cLine) : CallR X (.builtin "repr") (rRepr X.K) := by
  intro pins s σ H xs us Q I r h
  obtain ⟨v, d, rfl, hd, ⟨r1, r2, r3⟩, q⟩ := h
  cases r with
  | @cons _ u _ us' rx rr =>
    cases rr
    obtain ⟨as, hr⟩ := Dp.reads I d v u hd rx
    have nd := noDict_of hd
    cases hd with
    | non =>
      obtain rfl : u = Value.none := rx
      exact PySem.P.repr_of_none ⟨.str _, H, I.tok _, ⟨_, rfl⟩, q⟩
    | bl b =>
      obtain rfl : u = Value.bool b := rx
      exact PySem.P.repr_of_bool ⟨.str _, H, I.tok _, ⟨_, rfl⟩, q⟩
    | int i =>
      obtain ⟨t, rfl⟩ := rx
      have r1' : i.natAbs.log2 < 1920 := by simpa [PyData.showable] using r1
      exact PySem.P.repr_of_int r1' ⟨.str _, H, I.tok _, ⟨_, rfl⟩, q⟩
    | str x =>
      obtain ⟨t, rfl⟩ := rx
      exact PySem.P.repr_of_str ⟨.str _, H, I.tok _, ⟨_, rfl⟩, q⟩ (by simpa [PyData.shown] using r2)
    | lst hs ha =>
      obtain rfl : u = Value.ref _ := rx
      exact repr_of_reads' hr r1 (PyData.noDict_hsm nd) hgd (by omega) (fun _ _ z => z) (fun h' u' tk k => ⟨.str _, H, I.kept (h' := h') (t' := tk) k, ⟨_, rfl⟩, q⟩) r2
    | tup hs ha =>
      obtain rfl : u = Value.ref _ := rx
      exact repr_of_reads' hr r1 (PyData.noDict_hsm nd) hgd (by omega) (fun _ _ z => z) (fun h' u' tk k => ⟨.str _, H, I.kept (h' := h') (t' := tk) k, ⟨_, rfl⟩, q⟩) r2
end
end Wb
/-! Wb3: values as data. A state of a def is told by what its slots hold as data (DV), lists of its own apart; a reading is a wish about data. -/
namespace Wb
open PySem PySem.Spec PyProof.Rows L2

abbrev PD := PyData
/-- a value told as data: plain data, a kept error (its class by number, what it holds), the well -/
inductive DV where
  | d (x : PD) | exc (c : Nat) (x : PD) | well (script : Option (List Int))
/-- the well itself (with a script's ints: the script, a list that nobody may change) -/
abbrev DV.wel : DV := .well none
abbrev DV.scr (ns : List Int) : DV := .well (some ns)
/-- what a slot holds: nothing told, a value, a list of this def's own -/
inductive Sl where
  | no | v (x : DV) | own (xs : List PD)
abbrev EK := Nat → PD → Prop
abbrev DE := List Sl → (DV → Prop) → EK → Prop
abbrev DT := List Sl → (Bool → Prop) → EK → Prop
abbrev DA := List Sl → (List DV → Prop) → EK → Prop
/-- a list of one's own, new -/
abbrev DN := List Sl → (List PD → Prop) → EK → Prop
structure DEnds where
  nx : List Sl → Prop
  rt : List Sl → DV → Prop
  bk : List Sl → Prop
  ct : List Sl → Prop
  ex : List Sl → EK
abbrev DS := DEnds → List Sl → Prop

/-! ### data heaps within heaps -/
structure Post (wl : Option Addr) (S H S' H' : Hp) : Prop where
  sS : Same S S'
  fr : ∀ a, H a ≠ none → S a = none → S' a = none
  kp : ∀ a o, H a = some o → wl ≠ some a → H' a = some o
  al : ∀ a, H a ≠ none → H' a ≠ none
theorem Post.refl {wl : Option Addr} {S H : Hp} : Post wl S H S H := ⟨Same.refl S, fun _ _ h => h, fun _ _ h _ => h, fun _ h => h⟩
theorem Post.trans {wl : Option Addr} {S H S1 H1 S2 H2 : Hp} (p : Post wl S H S1 H1) (q : Post wl S1 H1 S2 H2) : Post wl S H S2 H2 :=
  ⟨p.sS.trans q.sS, fun a h s => q.fr a (p.al a h) (p.fr a h s), fun a o h w => q.kp a o (p.kp a o h w) w, fun a h => q.al a (p.al a h)⟩
theorem Post.wk {wl : Option Addr} {S H S' H' : Hp} (p : Post none S H S' H') : Post wl S H S' H' := ⟨p.sS, p.fr, fun a o h _ => p.kp a o h (by intro z; cases z), p.al⟩
/-- what grows, all else as it was -/
structure Grow (S H S' H' : Hp) : Prop where
  po : Post none S H S' H'
  sm : Same S' H'
theorem Grow.refl {S H : Hp} (h : Same S H) : Grow S H S H := ⟨Post.refl, h⟩
theorem Grow.trans {S H S1 H1 S2 H2 : Hp} (p : Grow S H S1 H1) (q : Grow S1 H1 S2 H2) : Grow S H S2 H2 := ⟨p.po.trans q.po, q.sm⟩
theorem Grow.new {S H : Hp} {p : Addr} {o : HO} (h : Same S H) (hp : H p = none) : Grow S H (upd S p o) (upd H p o) := by
  have sp : S p = none := h.free hp
  refine ⟨⟨fun b u e => ?_, fun a ha sa => ?_, fun a u e _ => ?_, fun a ha => ?_⟩, fun b u e => ?_⟩
  · rw [upd_ne (ne_of_none e sp)]; exact e
  · have : a ≠ p := fun z => ha (z ▸ hp)
    rw [upd_ne this]; exact sa
  · rw [upd_ne (ne_of_none e hp)]; exact e
  · have : a ≠ p := fun z => ha (z ▸ hp)
    rw [upd_ne this]; exact ha
  · by_cases hb : b = p
    · subst hb; rw [upd_same] at e ⊢; exact e
    · rw [upd_ne hb] at e ⊢; exact h b u e
/-- the new object stands beside, not as data -/
theorem Grow.beside {S H : Hp} {p : Addr} {o : HO} (h : Same S H) (hp : H p = none) : Grow S H S (upd H p o) := by
  refine ⟨⟨Same.refl S, fun _ _ s => s, fun a u e _ => ?_, fun a ha => ?_⟩, fun b u e => ?_⟩
  · rw [upd_ne (ne_of_none e hp)]; exact e
  · have : a ≠ p := fun z => ha (z ▸ hp)
    rw [upd_ne this]; exact ha
  · rw [upd_ne (ne_of_none (h b u e) hp)]; exact h b u e

mutual
/-- v stands for the datum, its lists tracked by S -/
inductive Dq (K : Frag) (S : Hp) : V → PD → Prop
  | non : Dq K S .non .none
  | bl (b : Bool) : Dq K S (.bl b) (.bool b)
  | int (i : Int) : Dq K S (.int i) (.int i)
  | str (x : Str) : Dq K S (.str x) (.str x)
  | lst {a : Addr} {xs : List V} {ds : List PD} : S a = some (.lst xs) → DqAll K S xs ds → Dq K S (.ref a) (.list ds)
  | tup {a : Addr} {xs : List V} {ds : List PD} : SqT K S a xs → DqAll K S xs ds → Dq K S (.ref a) (.tuple ds)
inductive DqAll (K : Frag) (S : Hp) : List V → List PD → Prop
  | nil : DqAll K S [] []
  | cons {v : V} {vs : List V} {d : PD} {ds : List PD} : Dq K S v d → DqAll K S vs ds → DqAll K S (v :: vs) (d :: ds)
end
theorem sqT_mono {K : Frag} {S S' : Hp} {a : Addr} {xs : List V} (e : Same S S') (h : SqT K S a xs) : SqT K S' a xs := by
  rcases h with (h | ⟨o, h⟩) | h
  · exact .inl (.inl (e _ _ h))
  · exact .inl (.inr ⟨o, e _ _ h⟩)
  · exact .inr h
mutual
theorem dq_mono {K : Frag} {S S' : Hp} (e : Same S S') : ∀ {v : V} {d : PD}, Dq K S v d → Dq K S' v d
  | _, _, .non => .non
  | _, _, .bl b => .bl b
  | _, _, .int i => .int i
  | _, _, .str x => .str x
  | _, _, .lst h t => .lst (e _ _ h) (dqAll_mono e t)
  | _, _, .tup h t => .tup (sqT_mono e h) (dqAll_mono e t)
theorem dqAll_mono {K : Frag} {S S' : Hp} (e : Same S S') : ∀ {vs : List V} {ds : List PD}, DqAll K S vs ds → DqAll K S' vs ds
  | _, _, .nil => .nil
  | _, _, .cons h t => .cons (dq_mono e h) (dqAll_mono e t)
end
mutual
theorem Dq.dp {K : Frag} {S : Hp} : ∀ {v : V} {d : PD}, Dq K S v d → Dp K S v d
  | _, _, .non => .non
  | _, _, .bl b => .bl b
  | _, _, .int i => .int i
  | _, _, .str x => .str x
  | _, _, .lst h t => .lst (SqL.of h) (DqAll.dp t)
  | _, _, .tup h t => .tup h (DqAll.dp t)
theorem DqAll.dp {K : Frag} {S : Hp} : ∀ {vs : List V} {ds : List PD}, DqAll K S vs ds → DpAll K S vs ds
  | _, _, .nil => .nil
  | _, _, .cons h t => .cons (Dq.dp h) (DqAll.dp t)
end
theorem DqAll.len {K : Frag} {S : Hp} : ∀ {vs : List V} {ds : List PD}, DqAll K S vs ds → vs.length = ds.length
  | _, _, .nil => rfl
  | _, _, .cons _ t => by rw [List.length_cons, List.length_cons, DqAll.len t]
theorem DqAll.app {K : Frag} {S : Hp} : ∀ {vs us : List V} {ds es : List PD}, DqAll K S vs ds → DqAll K S us es → DqAll K S (vs ++ us) (ds ++ es)
  | _, _, _, _, .nil, h => h
  | _, _, _, _, .cons a t, h => .cons a (DqAll.app t h)
theorem DqAll.at {K : Frag} {S : Hp} : ∀ {vs : List V} {ds : List PD} {i : Nat} {d : PD}, DqAll K S vs ds → ds[i]? = some d → ∃ v, vs[i]? = some v ∧ Dq K S v d
  | _, _, 0, _, .cons a _, e => by
    simp at e
    subst e
    exact ⟨_, rfl, a⟩
  | _, _, i + 1, _, .cons _ t, e => by
    obtain ⟨v, h1, h2⟩ := DqAll.at (i := i) t (by simpa using e)
    exact ⟨v, by simpa using h1, h2⟩
  | _, _, _, _, .nil, e => by simp at e
theorem DqAll.atV {K : Frag} {S : Hp} : ∀ {vs : List V} {ds : List PD} {i : Nat} {v : V}, DqAll K S vs ds → vs[i]? = some v → ∃ d, ds[i]? = some d ∧ Dq K S v d
  | _, _, 0, _, .cons a _, e => by
    simp at e
    subst e
    exact ⟨_, rfl, a⟩
  | _, _, i + 1, _, .cons _ t, e => by
    obtain ⟨v, h1, h2⟩ := DqAll.atV (i := i) t (by simpa using e)
    exact ⟨v, by simpa using h1, h2⟩
  | _, _, _, _, .nil, e => by simp at e
theorem DqAll.set {K : Frag} {S : Hp} {v : V} {d : PD} (h : Dq K S v d) : ∀ {vs : List V} {ds : List PD} (i : Nat), DqAll K S vs ds → DqAll K S (vs.set i v) (ds.set i d)
  | _, _, _, .nil => .nil
  | _, _, 0, .cons _ t => .cons h t
  | _, _, i + 1, .cons a t => .cons a (DqAll.set h i t)
theorem DqAll.take {K : Frag} {S : Hp} : ∀ {vs : List V} {ds : List PD} (i : Nat), DqAll K S vs ds → DqAll K S (vs.take i) (ds.take i)
  | _, _, 0, _ => .nil
  | _, _, _ + 1, .nil => .nil
  | _, _, i + 1, .cons a t => .cons a (DqAll.take i t)
theorem DqAll.drop {K : Frag} {S : Hp} : ∀ {vs : List V} {ds : List PD} (i : Nat), DqAll K S vs ds → DqAll K S (vs.drop i) (ds.drop i)
  | _, _, 0, h => h
  | _, _, _ + 1, .nil => .nil
  | _, _, i + 1, .cons _ t => DqAll.drop i t
theorem DqAll.rev {K : Frag} {S : Hp} : ∀ {vs : List V} {ds : List PD}, DqAll K S vs ds → DqAll K S vs.reverse ds.reverse
  | _, _, .nil => .nil
  | _, _, .cons a t => by rw [List.reverse_cons, List.reverse_cons]; exact DqAll.app (DqAll.rev t) (.cons a .nil)
theorem DqAll.repl {K : Frag} {S : Hp} {v : V} {d : PD} (h : Dq K S v d) : ∀ n, DqAll K S (List.replicate n v) (List.replicate n d)
  | 0 => .nil
  | n + 1 => .cons h (DqAll.repl h n)
theorem DqAll.ints {K : Frag} {S : Hp} : ∀ l : List Int, DqAll K S (l.map V.int) (l.map PyData.int)
  | [] => .nil
  | i :: l => .cons (.int i) (DqAll.ints l)
theorem dq_lst {K : Frag} {S : Hp} {p : Addr} {vs : List V} {ds : List PD} (h : S p = some (.lst vs)) (t : DqAll K S vs ds) : Dq K S (.ref p) (.list ds) := .lst h t
theorem dq_tup {K : Frag} {S : Hp} {p : Addr} {vs : List V} {ds : List PD} (h : S p = some (.tup vs)) (t : DqAll K S vs ds) : Dq K S (.ref p) (.tuple ds) := .tup (SqT.of h) t
/-! ### the state -/
/-- the entry of a def: the well (if it has one), the data heap and the heap there; the table of the classes of errors -/
structure En where
  CT : Nat → Addr
  wl : Option Addr
  S0 : Hp
  H0 : Hp
  pa : Addr → Prop := fun _ => True
abbrev En.of (CT : Nat → Addr) (wl : Option Addr) (S0 H0 : Hp) : En := ⟨CT, wl, S0, H0, fun _ => True⟩
def WOk (m : Nat) (a b c : Int) : Prop := 0 ≤ a ∧ 0 ≤ b ∧ 0 ≤ c ∧ a.natAbs < 2 ^ 1200000 ∧ b.natAbs < 2 ^ 200 ∧ c + (m : Int) ≤ 2 ^ 60
structure Wd (wl : Option Addr) (m : Nat) (S H : Hp) : Prop where
  sm : Same S H
  we : ∀ p, wl = some p → S p = none ∧ ∃ a b c, H p = some (.lst [.int a, .int b, .int c]) ∧ WOk m a b c
def DvOk (K : Frag) (n : En) (S : Hp) (v : V) : DV → Prop
  | .d x => Dq K S v x
  | .exc c x => ∃ a dd v', v = .ref a ∧ S a = some (ExcAt (n.CT c) dd a) ∧ S dd = some (.xd [(("value" : Str), v')]) ∧ Dq K S v' x
  | .well none => ∃ p, v = .ref p ∧ n.wl = some p
  | .well (some ns) => ∃ p, v = .ref p ∧ SqL K S p (ns.map V.int)
inductive DvAll (K : Frag) (n : En) (S : Hp) : List V → List DV → Prop
  | nil : DvAll K n S [] []
  | cons {v : V} {vs : List V} {x : DV} {xs : List DV} : DvOk K n S v x → DvAll K n S vs xs → DvAll K n S (v :: vs) (x :: xs)
def ErrOk (K : Frag) (n : En) (S H : Hp) (c : Nat) (x : PD) (cls : Value) (dx : Option Addr) : Prop := ∃ dd v, cls = .ref (n.CT c) ∧ dx = some dd ∧ S dd = some (.xd [(("value" : Str), v)]) ∧ Dq K S v x
theorem dv_mono {K : Frag} {n : En} {S S' : Hp} (e : Same S S') {v : V} : ∀ {x : DV}, DvOk K n S v x → DvOk K n S' v x
  | .d _, h => dq_mono e h
  | .exc _ _, ⟨a, dd, v', h1, h2, h3, h4⟩ => ⟨a, dd, v', h1, e _ _ h2, e _ _ h3, dq_mono e h4⟩
  | .well none, h => h
  | .well (some _), ⟨p, h1, h2⟩ => ⟨p, h1, e.seq h2⟩
theorem dvAll_mono {K : Frag} {n : En} {S S' : Hp} (e : Same S S') : ∀ {vs : List V} {xs : List DV}, DvAll K n S vs xs → DvAll K n S' vs xs
  | _, _, .nil => .nil
  | _, _, .cons h t => .cons (dv_mono e h) (dvAll_mono e t)
theorem DvAll.len {K : Frag} {n : En} {S : Hp} : ∀ {vs : List V} {xs : List DV}, DvAll K n S vs xs → vs.length = xs.length
  | _, _, .nil => rfl
  | _, _, .cons _ t => by rw [List.length_cons, List.length_cons, DvAll.len t]
def SlOk (K : Frag) (n : En) (S H : Hp) (A : Addr) (o : Option (Option V)) : Sl → Prop
  | .no => True
  | .v x => ∃ v, o = some (some v) ∧ DvOk K n S v x
  | .own xs => o = some (some (.ref A)) ∧ S A = none ∧ (n.H0 A = none ∧ n.pa A) ∧ n.wl ≠ some A ∧ ∃ vs, H A = some (.lst vs) ∧ DqAll K S vs xs
structure StOk (K : Frag) (n : En) (m : Nat) (S H : Hp) (σ : L2.St) (ρ : List Sl) : Prop where
  wd : Wd n.wl m S H
  po : Post n.wl n.S0 n.H0 S H
  len : σ.length = ρ.length
  sl : ∃ A : Nat → Addr, (∀ i s, ρ[i]? = some s → SlOk K n S H (A i) σ[i]? s) ∧ ∀ i j xs ys, ρ[i]? = some (.own xs) → ρ[j]? = some (.own ys) → A i = A j → i = j
section
variable {K : Frag} {n : En} {m m' : Nat} {S H S' H' : Hp} {σ : L2.St} {ρ : List Sl}
theorem Wd.le {wl : Option Addr} (w : Wd wl m S H) (h : m' ≤ m) : Wd wl m' S H := ⟨w.sm, fun p e => by
  obtain ⟨h1, a, b, c, h2, h3, h4, h5, h6, h7, h8⟩ := w.we p e
  exact ⟨h1, a, b, c, h2, h3, h4, h5, h6, h7, by omega⟩⟩
theorem StOk.le (s : StOk K n m S H σ ρ) (h : m' ≤ m) : StOk K n m' S H σ ρ := ⟨s.wd.le h, s.po, s.len, s.sl⟩
theorem SlOk.post {A : Addr} {o : Option (Option V)} (p : Post n.wl S H S' H') : ∀ {s : Sl}, SlOk K n S H A o s → SlOk K n S' H' A o s
  | .no, _ => trivial
  | .v _, ⟨v, h1, h2⟩ => ⟨v, h1, dv_mono p.sS h2⟩
  | .own _, ⟨h1, h2, h3, h4, vs, h5, h6⟩ => ⟨h1, p.fr A (by rw [h5]; exact Option.some_ne_none _) h2, h3, h4, vs, p.kp A _ h5 h4, dqAll_mono p.sS h6⟩
/-- behind a step that keeps this def's own -/
theorem StOk.step (s : StOk K n m S H σ ρ) (p : Post n.wl S H S' H') (w : Wd n.wl m' S' H') : StOk K n m' S' H' σ ρ :=
  ⟨w, s.po.trans p, s.len, let ⟨A, h1, h2⟩ := s.sl; ⟨A, fun i t e => (h1 i t e).post p, h2⟩⟩
theorem Wd.grow {wl : Option Addr} (w : Wd wl m S H) (g : Grow S H S' H') : Wd wl m S' H' := ⟨g.sm, fun p e => by
  obtain ⟨h1, a, b, c, h2, h3⟩ := w.we p e
  exact ⟨g.po.fr p (by rw [h2]; exact Option.some_ne_none _) h1, a, b, c, g.po.kp p _ h2 (by intro z; cases z), h3⟩⟩
theorem StOk.grow (s : StOk K n m S H σ ρ) (g : Grow S H S' H') : StOk K n m S' H' σ ρ := s.step g.po.wk (s.wd.grow g)
theorem StOk.set {i : Nat} {v : V} {x : DV} (s : StOk K n m S H σ ρ) (h : DvOk K n S v x) : StOk K n m S H (σ.set i (some v)) (ρ.set i (.v x)) := by
  refine ⟨s.wd, s.po, by rw [List.length_set, List.length_set]; exact s.len, ?_⟩
  obtain ⟨A, h1, h2⟩ := s.sl
  refine ⟨A, fun j t e => ?_, fun j k xs ys e1 e2 => ?_⟩
  · by_cases hj : i = j
    · subst hj
      have hl : i < ρ.length := by
        have := (List.getElem?_eq_some_iff.mp e).1
        rwa [List.length_set] at this
      rw [List.getElem?_set_self hl] at e
      cases e
      exact ⟨v, by rw [List.getElem?_set_self (by rw [s.len]; exact hl)], h⟩
    · rw [List.getElem?_set_ne hj] at e
      rw [List.getElem?_set_ne hj]
      exact h1 j t e
  · have no : ∀ k zs, (ρ.set i (.v x))[k]? = some (Sl.own zs) → ρ[k]? = some (Sl.own zs) := fun k zs e => by
      by_cases hj : i = k
      · subst hj
        have hl : i < ρ.length := by
          have := (List.getElem?_eq_some_iff.mp e).1
          rwa [List.length_set] at this
        rw [List.getElem?_set_self hl] at e
        cases e
      · rwa [List.getElem?_set_ne hj] at e
    exact h2 j k xs ys (no _ _ e1) (no _ _ e2)
theorem StOk.setNo {i : Nat} {w : Option V} (s : StOk K n m S H σ ρ) : StOk K n m S H (σ.set i w) (ρ.set i .no) := by
  refine ⟨s.wd, s.po, by rw [List.length_set, List.length_set]; exact s.len, ?_⟩
  obtain ⟨A, h1, h2⟩ := s.sl
  refine ⟨A, fun j t e => ?_, fun j k xs ys e1 e2 => ?_⟩
  · by_cases hj : i = j
    · subst hj
      have hl : i < ρ.length := by
        have := (List.getElem?_eq_some_iff.mp e).1
        rwa [List.length_set] at this
      rw [List.getElem?_set_self hl] at e
      cases e
      exact trivial
    · rw [List.getElem?_set_ne hj] at e
      rw [List.getElem?_set_ne hj]
      exact h1 j t e
  · have no : ∀ k zs, (ρ.set i Sl.no)[k]? = some (Sl.own zs) → ρ[k]? = some (Sl.own zs) := fun k zs e => by
      by_cases hj : i = k
      · subst hj
        have hl : i < ρ.length := by
          have := (List.getElem?_eq_some_iff.mp e).1
          rwa [List.length_set] at this
        rw [List.getElem?_set_self hl] at e
        cases e
      · rwa [List.getElem?_set_ne hj] at e
    exact h2 j k xs ys (no _ _ e1) (no _ _ e2)
/-- a new list of one's own goes to a slot -/
theorem StOk.setOwn {i : Nat} {p : Addr} {vs : List V} {xs : List PD} (s : StOk K n m S H σ ρ) (hp : H p = some (.lst vs)) (hs : S p = none) (h0 : n.H0 p = none ∧ n.pa p) (hw : n.wl ≠ some p) (hd : DqAll K S vs xs)
    (hne : ∀ (A : Nat → Addr) j ys, (∀ i s, ρ[i]? = some s → SlOk K n S H (A i) σ[i]? s) → ρ[j]? = some (.own ys) → j ≠ i → A j ≠ p) : StOk K n m S H (σ.set i (some (.ref p))) (ρ.set i (.own xs)) := by
  refine ⟨s.wd, s.po, by rw [List.length_set, List.length_set]; exact s.len, ?_⟩
  obtain ⟨A, h1, h2⟩ := s.sl
  have ne : ∀ j ys, ρ[j]? = some (Sl.own ys) → j ≠ i → A j ≠ p := fun j ys e hj => hne A j ys h1 e hj
  have hl : ∀ {t : Sl}, (ρ.set i (.own xs))[i]? = some t → i < ρ.length := fun {t} e => by
    have := (List.getElem?_eq_some_iff.mp e).1
    rwa [List.length_set] at this
  refine ⟨fun j => if j = i then p else A j, fun j t e => ?_, fun j k ys zs e1 e2 => ?_⟩
  · by_cases hj : i = j
    · subst hj
      have hl := hl e
      rw [List.getElem?_set_self hl] at e
      cases e
      show SlOk K n S H (if i = i then p else A i) _ _
      rw [if_pos rfl]
      exact ⟨by rw [List.getElem?_set_self (by rw [s.len]; exact hl)], hs, h0, hw, vs, hp, hd⟩
    · rw [List.getElem?_set_ne hj] at e
      rw [List.getElem?_set_ne hj]
      show SlOk K n S H (if j = i then p else A j) _ _
      rw [if_neg (Ne.symm hj)]
      exact h1 j t e
  · by_cases hj : j = i
    · by_cases hk : k = i
      · intro _; rw [hj, hk]
      · intro z
        have e2' : ρ[k]? = some (Sl.own zs) := by rwa [List.getElem?_set_ne (Ne.symm hk)] at e2
        have z : (if j = i then p else A j) = (if k = i then p else A k) := z
        rw [if_pos hj, if_neg hk] at z
        exact absurd z.symm (ne k zs e2' hk)
    · have e1' : ρ[j]? = some (Sl.own ys) := by rwa [List.getElem?_set_ne (Ne.symm hj)] at e1
      by_cases hk : k = i
      · intro z
        have z : (if j = i then p else A j) = (if k = i then p else A k) := z
        rw [if_neg hj, if_pos hk] at z
        exact absurd z (ne j ys e1' hj)
      · have e2' : ρ[k]? = some (Sl.own zs) := by rwa [List.getElem?_set_ne (Ne.symm hk)] at e2
        intro z
        have z : (if j = i then p else A j) = (if k = i then p else A k) := z
        rw [if_neg hj, if_neg hk] at z
        exact h2 j k ys zs e1' e2' z
/-- one's own list is changed -/
theorem StOk.write {i : Nat} {xs ys : List PD} (s : StOk K n m S H σ ρ) (hi : ρ[i]? = some (.own xs)) : ∃ p vs, σ[i]? = some (some (.ref p)) ∧ H p = some (.lst vs) ∧ DqAll K S vs xs ∧
    ∀ us, DqAll K S us ys → StOk K n m S (upd H p (.lst us)) σ (ρ.set i (.own ys)) := by
  obtain ⟨A, h1, h2⟩ := s.sl
  obtain ⟨g1, g2, g3, g4, vs, g5, g6⟩ := h1 i _ hi
  have hl : i < ρ.length := (List.getElem?_eq_some_iff.mp hi).1
  refine ⟨A i, vs, g1, g5, g6, fun us hu => ⟨⟨fun b o e => ?_, fun p e => ?_⟩, ⟨s.po.sS, s.po.fr, fun a o e w => ?_, fun a ha => ?_⟩, by rw [List.length_set]; exact s.len, A, fun j t e => ?_, fun j k ys' zs e1 e2 z => ?_⟩⟩
  · rw [upd_ne (ne_of_none e g2)]
    exact s.wd.sm b o e
  · obtain ⟨q1, a, b, c, q2, q3⟩ := s.wd.we p e
    exact ⟨q1, a, b, c, by rw [upd_ne (fun z => g4 (by rw [← z]; exact e))]; exact q2, q3⟩
  · rw [upd_ne (ne_of_none e g3.1)]
    exact s.po.kp a o e w
  · by_cases z : a = A i
    · rw [z, upd_same]; exact Option.some_ne_none _
    · rw [upd_ne z]; exact s.po.al a ha
  · by_cases hj : i = j
    · subst hj
      rw [List.getElem?_set_self hl] at e
      cases e
      exact ⟨g1, g2, g3, g4, us, upd_same, hu⟩
    · rw [List.getElem?_set_ne hj] at e
      have q := h1 j t e
      cases t with
      | no => exact trivial
      | v x => exact q
      | own zs =>
        obtain ⟨q1, q2, q3, q4, ws, q5, q6⟩ := q
        have : A j ≠ A i := fun z => hj (h2 j i zs xs e hi z).symm
        exact ⟨q1, q2, q3, q4, ws, by rw [upd_ne this]; exact q5, q6⟩
  · have oo : ∀ k zs, (ρ.set i (Sl.own ys))[k]? = some (Sl.own zs) → ∃ ws, ρ[k]? = some (Sl.own ws) := fun k zs e => by
      by_cases hk : i = k
      · subst hk; exact ⟨xs, hi⟩
      · rw [List.getElem?_set_ne hk] at e; exact ⟨zs, e⟩
    obtain ⟨_, f1⟩ := oo _ _ e1
    obtain ⟨_, f2⟩ := oo _ _ e2
    exact h2 j k _ _ f1 f2 z
/-- one's own list becomes data -/
theorem StOk.freeze {i : Nat} {xs : List PD} (s : StOk K n m S H σ ρ) (hi : ρ[i]? = some (.own xs)) : ∃ S', Same S S' ∧ StOk K n m S' H σ (ρ.set i (.v (.d (.list xs)))) := by
  obtain ⟨A, h1, h2⟩ := s.sl
  obtain ⟨g1, g2, g3, g4, vs, g5, g6⟩ := h1 i _ hi
  have hl : i < ρ.length := (List.getElem?_eq_some_iff.mp hi).1
  have sS : Same S (upd S (A i) (.lst vs)) := fun b o e => by rw [upd_ne (ne_of_none e g2)]; exact e
  refine ⟨upd S (A i) (.lst vs), sS, ⟨fun b o e => ?_, fun p e => ?_⟩, ⟨s.po.sS.trans sS, fun a ha sa => ?_, s.po.kp, s.po.al⟩, by rw [List.length_set]; exact s.len, A, fun j t e => ?_, fun j k ys zs e1 e2 => ?_⟩
  · by_cases z : b = A i
    · rw [z, upd_same] at e; rw [z, g5]; exact e
    · rw [upd_ne z] at e; exact s.wd.sm b o e
  · obtain ⟨q1, a, b, c, q2, q3⟩ := s.wd.we p e
    exact ⟨by rw [upd_ne (fun z => g4 (by rw [← z]; exact e))]; exact q1, a, b, c, q2, q3⟩
  · have : a ≠ A i := fun z => ha (by rw [z]; exact g3.1)
    rw [upd_ne this]
    exact s.po.fr a ha sa
  · by_cases hj : i = j
    · subst hj
      rw [List.getElem?_set_self hl] at e
      cases e
      exact ⟨_, g1, dq_lst upd_same (dqAll_mono sS g6)⟩
    · rw [List.getElem?_set_ne hj] at e
      have q := h1 j t e
      cases t with
      | no => exact trivial
      | v x =>
        obtain ⟨v, q1, q2⟩ := q
        exact ⟨v, q1, dv_mono sS q2⟩
      | own zs =>
        obtain ⟨q1, q2, q3, q4, ws, q5, q6⟩ := q
        have : A j ≠ A i := fun z => hj (h2 j i zs xs e hi z).symm
        exact ⟨q1, by rw [upd_ne this]; exact q2, q3, q4, ws, q5, dqAll_mono sS q6⟩
  · have no : ∀ k zs, (ρ.set i (Sl.v (.d (.list xs))))[k]? = some (Sl.own zs) → ρ[k]? = some (Sl.own zs) := fun k zs e => by
      by_cases hj : i = k
      · subst hj
        rw [List.getElem?_set_self hl] at e
        cases e
      · rwa [List.getElem?_set_ne hj] at e
    exact h2 j k ys zs (no _ _ e1) (no _ _ e2)
end

/-! ### readings -/
/-- what errors are wished for -/
abbrev KErr (K : Frag) (n : En) (W : WX) (m : Nat) (S : Hp) (σ : L2.St) (ρ : List Sl) (Er : EK) : Prop := ∀ c x cls dx S' H', Er c x → StOk K n m S' H' σ ρ → ErrOk K n S' H' c x cls dx → Same S S' → W cls dx σ H'
theorem ke_af {K : Frag} {n : En} {W : WX} {m : Nat} {S S1 : Hp} {σ : L2.St} {ρ : List Sl} {Er : EK} (q : Same S S1) (k : KErr K n W m S σ ρ Er) : KErr K n W m S1 σ ρ Er := fun c x cls dx S' H' e s er z => k c x cls dx S' H' e s er (q.trans z)
def rdE (K : Frag) (n : En) (W : WX) (κ : Nat) (f : DE) : TE := fun σ H Q => ∃ m S ρ R Er, StOk K n (m + κ) S H σ ρ ∧ f ρ R Er ∧
  (∀ x v S' H', R x → StOk K n m S' H' σ ρ → Post n.wl S H S' H' → DvOk K n S' v x → Q v H') ∧
  KErr K n W m S σ ρ Er
def rdT (K : Frag) (n : En) (W : WX) (κ : Nat) (f : DT) : TT := fun σ H Q => ∃ m S ρ R Er, StOk K n (m + κ) S H σ ρ ∧ f ρ R Er ∧
  (∀ b S' H', R b → StOk K n m S' H' σ ρ → Post n.wl S H S' H' → Q b H') ∧
  KErr K n W m S σ ρ Er
def rdA (K : Frag) (n : En) (W : WX) (κ : Nat) (f : DA) : TA := fun σ H Q => ∃ m S ρ R Er, StOk K n (m + κ) S H σ ρ ∧ f ρ R Er ∧
  (∀ xs vs S' H', R xs → StOk K n m S' H' σ ρ → Post n.wl S H S' H' → DvAll K n S' vs xs → Q vs H') ∧
  KErr K n W m S σ ρ Er
/-- a new list: at p, beside the data -/
def rdN (K : Frag) (n : En) (W : WX) (κ : Nat) (f : DN) : TE := fun σ H Q => ∃ m S ρ R Er, StOk K n (m + κ) S H σ ρ ∧ f ρ R Er ∧
  (∀ xs p vs S' H', R xs → StOk K n m S' H' σ ρ → Post n.wl S H S' H' → H p = none → S' p = none → H' p = some (.lst vs) → DqAll K S' vs xs → Q (.ref p) H') ∧
  KErr K n W m S σ ρ Er
/-- what may be read as d, data or one's own -/
def RdOk (K : Frag) (n : En) (S H : Hp) (v : V) (x : DV) : Prop := DvOk K n S v x ∨ ∃ p vs xs, v = .ref p ∧ x = .d (.list xs) ∧ n.wl ≠ some p ∧ H p = some (.lst vs) ∧ DqAll K S vs xs
def rdO (K : Frag) (n : En) (W : WX) (κ : Nat) (f : DE) : TE := fun σ H Q => ∃ m S ρ R Er, StOk K n (m + κ) S H σ ρ ∧ f ρ R Er ∧
  (∀ x v S' H', R x → StOk K n m S' H' σ ρ → Post n.wl S H S' H' → RdOk K n S' H' v x → Q v H') ∧
  KErr K n W m S σ ρ Er
/-- what a statement's ends are wished -/
structure KSt (K : Frag) (n : En) (W : WX) (m : Nat) (S : Hp) (D : Ends) (Dd : DEnds) : Prop where
  nx : ∀ ρ' σ' S' H', Dd.nx ρ' → StOk K n m S' H' σ' ρ' → Same S S' → D.nx σ' H'
  rt : ∀ ρ' σ' x v S' H', Dd.rt ρ' x → StOk K n m S' H' σ' ρ' → DvOk K n S' v x → D.rt v H'
  bk : ∀ ρ' σ' S' H', Dd.bk ρ' → StOk K n m S' H' σ' ρ' → Same S S' → D.bk σ' H'
  ct : ∀ ρ' σ' S' H', Dd.ct ρ' → StOk K n m S' H' σ' ρ' → Same S S' → D.ct σ' H'
  ex : ∀ ρ' c x cls dx σ' S' H', Dd.ex ρ' c x → StOk K n m S' H' σ' ρ' → ErrOk K n S' H' c x cls dx → Same S S' → W cls dx σ' H'
theorem KSt.af {K : Frag} {n : En} {W : WX} {m : Nat} {S S1 : Hp} {D : Ends} {Dd : DEnds} (k : KSt K n W m S D Dd) (q : Same S S1) : KSt K n W m S1 D Dd :=
  ⟨fun ρ' σ' S' H' h s z => k.nx ρ' σ' S' H' h s (q.trans z), k.rt, fun ρ' σ' S' H' h s z => k.bk ρ' σ' S' H' h s (q.trans z), fun ρ' σ' S' H' h s z => k.ct ρ' σ' S' H' h s (q.trans z), fun ρ' c x cls dx σ' S' H' h s e z => k.ex ρ' c x cls dx σ' S' H' h s e (q.trans z)⟩
theorem KSt.up {K : Frag} {n : En} {W : WX} {m m' : Nat} {S : Hp} {D : Ends} {Dd : DEnds} (k : KSt K n W m S D Dd) (q : m ≤ m') : KSt K n W m' S D Dd :=
  ⟨fun ρ' σ' S' H' h s z => k.nx ρ' σ' S' H' h (s.le q) z, fun ρ' σ' x v S' H' h s d => k.rt ρ' σ' x v S' H' h (s.le q) d, fun ρ' σ' S' H' h s z => k.bk ρ' σ' S' H' h (s.le q) z, fun ρ' σ' S' H' h s z => k.ct ρ' σ' S' H' h (s.le q) z, fun ρ' c x cls dx σ' S' H' h s e z => k.ex ρ' c x cls dx σ' S' H' h (s.le q) e z⟩
/-- an expression's errors are the statement's -/
theorem KSt.ke {K : Frag} {n : En} {W : WX} {m : Nat} {S : Hp} {D : Ends} {Dd : DEnds} {σ : L2.St} {ρ : List Sl} (k : KSt K n W m S D Dd) : KErr K n W m S σ ρ (Dd.ex ρ) := fun c x cls dx S' H' h s er z => k.ex ρ c x cls dx σ S' H' h s er z
theorem ke_up {K : Frag} {n : En} {W : WX} {m m' : Nat} {S : Hp} {σ : L2.St} {ρ : List Sl} {Er : EK} (q : m ≤ m') (k : KErr K n W m S σ ρ Er) : KErr K n W m' S σ ρ Er := fun c x cls dx S' H' e s er z => k c x cls dx S' H' e (s.le q) er z
def rdS (K : Frag) (n : En) (W : WX) (κ : Nat) (g : DS) : TS := fun D σ H => ∃ m S ρ Dd, StOk K n (m + κ) S H σ ρ ∧ g Dd ρ ∧ KSt K n W m S D Dd
section
variable {X : Cx} {e : Expr} {es : List Expr} {st : Stmt} {sts : List Stmt}
theorem PE.to {t t' : TE} (h : PE X e t) (i : ∀ σ H Q, t' σ H Q → t σ H Q) : PE X e t' := ⟨fun pins s σ H Q I q => h.run pins s σ H Q I (i σ H Q q)⟩
theorem PT.to {t t' : TT} (h : PT X e t) (i : ∀ σ H Q, t' σ H Q → t σ H Q) : PT X e t' := ⟨fun pins s σ H Q I q => h.run pins s σ H Q I (i σ H Q q)⟩
theorem PW.to {t t' : TT} (h : PW X e t) (i : ∀ σ H Q, t' σ H Q → t σ H Q) : PW X e t' := ⟨fun wh pins s σ H Q I q => h.run wh pins s σ H Q I (i σ H Q q)⟩
theorem PA.to {t t' : TA} (h : PA X es t) (i : ∀ σ H Q, t' σ H Q → t σ H Q) : PA X es t' := ⟨fun pos pins s σ H Q I q => h.run pos pins s σ H Q I (i σ H Q q)⟩
theorem PS.to {t t' : TS} (h : PS X st t) (i : ∀ D σ H, t' D σ H → t D σ H) : PS X st t' := ⟨fun pins s σ H D I q => h.run pins s σ H D I (i D σ H q)⟩
theorem PSs.to {t t' : TS} (h : PSs X sts t) (i : ∀ D σ H, t' D σ H → t D σ H) : PSs X sts t' := ⟨fun pins s σ H D I q => h.run pins s σ H D I (i D σ H q)⟩
end
abbrev JE (X : Cx) (n : En) (W : WX) (κ : Nat) (e : Expr) (f : DE) : Prop := PE X e (rdE X.K n W κ f)
abbrev JO (X : Cx) (n : En) (W : WX) (κ : Nat) (e : Expr) (f : DE) : Prop := PE X e (rdO X.K n W κ f)
abbrev JN (X : Cx) (n : En) (W : WX) (κ : Nat) (e : Expr) (f : DN) : Prop := PE X e (rdN X.K n W κ f)
abbrev JT (X : Cx) (n : En) (W : WX) (κ : Nat) (e : Expr) (f : DT) : Prop := PT X e (rdT X.K n W κ f)
abbrev JA (X : Cx) (n : En) (W : WX) (κ : Nat) (es : List Expr) (f : DA) : Prop := PA X es (rdA X.K n W κ f)
abbrev JS (X : Cx) (n : En) (W : WX) (κ : Nat) (st : Stmt) (g : DS) : Prop := PS X st (rdS X.K n W κ g)
abbrev JB (X : Cx) (n : En) (W : WX) (κ : Nat) (sts : List Stmt) (g : DS) : Prop := PSs X sts (rdS X.K n W κ g)
end Wb
/-! WbR: tuple * int, any int. -/
namespace Wb
open PySem PySem.Spec PyProof.Rows L2
theorem tuple_mulSame (l : Addr) (items : Array Value) (n : Nat) (dd : Option Addr) (sl : Array (Option Value)) (x : Int) (u : Tok) (c0 : (decide (x < -(2 ^ 63)) || decide (x ≥ 2 ^ 63)) = false) (c1 : (items.isEmpty || x == 1) = true) :
    Meets (Builtin.«tuple.__mul__» ⟨[.ref l, .int x u], []⟩) (fun _ R s => s.heap.get? l = some { cls := .type "tuple", dict := dd, data := .seq items n, slots := sl } ∧ R (.ok (.ret (Value.ref l))) s) :=
  .of_wp fun prog w A R s h => by
    obtain ⟨hp, g, d, tk, os⟩ := s
    obtain ⟨hl, h⟩ := h
    have f1 := AutoSeq1.idx_int
    wp_walk using wpAny_loadPart' hl
    first
      | exact ⟨_, rfl, h⟩
      | (refine wpAny_ite_false (decide_eq_false (by rw [c0]; exact Bool.false_ne_true)) ?_
         wp_walk using wpAny_loadPart' hl
         first
          | exact ⟨_, rfl, h⟩
          | (refine wpAny_ite_true (decide_eq_true c1) ?_
             wp_walk using wpAny_loadPart' hl
             exact ⟨_, rfl, h⟩))
theorem tuple_mulNone (l : Addr) (items : Array Value) (n : Nat) (dd : Option Addr) (sl : Array (Option Value)) (x : Int) (u : Tok) (c0 : (decide (x < -(2 ^ 63)) || decide (x ≥ 2 ^ 63)) = false) (c1 : (items.isEmpty || x == 1) = false) (c2 : (decide (x ≤ 0) || items.isEmpty) = true) :
    Meets (Builtin.«tuple.__mul__» ⟨[.ref l, .int x u], []⟩) (fun _ R s => s.heap.get? l = some { cls := .type "tuple", dict := dd, data := .seq items n, slots := sl } ∧
      R (.ok (.ret (Value.ref s.heap.objs.size))) { s with heap := s.heap.push { cls := Value.type "tuple", data := Data.seq #[] }, toks := s.toks }) :=
  .of_wp fun prog w A R s h => by
    obtain ⟨hp, g, d, tk, os⟩ := s
    obtain ⟨hl, h⟩ := h
    have f1 := AutoSeq1.idx_int
    wp_walk using wpAny_loadPart' hl
    repeat (first
      | (refine wpAny_ite_false (decide_eq_false (by rw [c0]; exact Bool.false_ne_true)) ?_; wp_walk using wpAny_loadPart' hl)
      | (refine wpAny_ite_false (decide_eq_false (by rw [c1]; exact Bool.false_ne_true)) ?_; wp_walk using wpAny_loadPart' hl)
      | (refine wpAny_ite_true (decide_eq_true c2) ?_; wp_walk using wpAny_loadPart' hl))
    exact ⟨_, rfl, h⟩
def rRepTA (K : Frag) : R2 := fun x y H Q => ∃ l k xs, x = .ref l ∧ y = .int k ∧ SqT K H l xs ∧ k ≤ 100000 ∧ -100000 ≤ k ∧ xs.length * k.toNat ≤ 100000 ∧
  ((k = 1 ∨ xs = []) → Q (.ref l) H) ∧ (¬ (k = 1 ∨ xs = []) → ∀ p, H p = none → Q (.ref p) (upd H p (.tup (List.replicate k.toNat xs).flatten)))
theorem op_repTA {X : Cx} : OpR X (binaryOp .Mult) (rRepTA X.K) := by
  intro pins s σ H x y v u Q I rx ry h
  obtain ⟨l, k, xs, rfl, rfl, hT, hk, hk0, hz, qs, qn⟩ := h
  cases rx
  obtain ⟨t, rfl⟩ := ry
  obtain ⟨its, r, ⟨⟨cls, dd, data, sl⟩, ho, hc, n, hd⟩, hs⟩ := I.tuple hT
  simp only at hc hd
  subst hc hd
  have hle : its.length = xs.length := r.length.symm
  have c0 : (decide (k < -(2 ^ 63)) || decide (k ≥ 2 ^ 63)) = false := by
    rw [decide_eq_false (by omega), decide_eq_false (by omega)] <;> rfl
  by_cases h1 : k = 1 ∨ xs = []
  · have c1 : (its.toArray.isEmpty || k == 1) = true := by
      rcases h1 with rfl | rfl
      · simp
      · cases r
        rfl
    refine wpAny_binaryOp_repeat_ref (T := "tuple") (U := "int") (by decide) ⟨_, ho, rfl⟩ (fun s' => typeIs_int s' k t) noFill_tuple_mul F.fills_int_mul F.slot_int_rmul repeat_tuple F.slot_int_index.lookup
      (call_meets F.slot_int_rmul (typeIs_int s k t) F.entry_int_rmul (F.args_int_rmul_2 _ _) (int_rmul_tuple k t l its.toArray n dd sl)
        ⟨ho, rfl, ⟨_, ho, rfl⟩, call_meets F.slot_tuple_mul ⟨_, ho, rfl⟩ F.entry_tuple_mul (F.args_tuple_mul_2 _ _) (tuple_mulSame l its.toArray n dd sl k t c0 c1) ⟨ho, ?_⟩⟩)
    exact ⟨.ref l, H, I, rfl, qs h1⟩
  · have hx : xs ≠ [] := fun e => h1 (.inr e)
    have hn : its ≠ [] := fun e => hx (List.eq_nil_of_length_eq_zero (by rw [← hle, e]; rfl))
    have hi : its.toArray.isEmpty = false := by
      cases its with
      | nil => exact absurd rfl hn
      | cons a b => rfl
    have c1 : (its.toArray.isEmpty || k == 1) = false := by
      rw [hi, Bool.false_or]
      exact beq_eq_false_iff_ne.mpr fun e => h1 (.inl e)
    by_cases h2 : k ≤ 0
    · have c2 : (decide (k ≤ 0) || its.toArray.isEmpty) = true := by rw [decide_eq_true h2]; rfl
      refine wpAny_binaryOp_repeat_ref (T := "tuple") (U := "int") (by decide) ⟨_, ho, rfl⟩ (fun s' => typeIs_int s' k t) noFill_tuple_mul F.fills_int_mul F.slot_int_rmul repeat_tuple F.slot_int_index.lookup
        (call_meets F.slot_int_rmul (typeIs_int s k t) F.entry_int_rmul (F.args_int_rmul_2 _ _) (int_rmul_tuple k t l its.toArray n dd sl)
          ⟨ho, rfl, ⟨_, ho, rfl⟩, call_meets F.slot_tuple_mul ⟨_, ho, rfl⟩ F.entry_tuple_mul (F.args_tuple_mul_2 _ _) (tuple_mulNone l its.toArray n dd sl k t c0 c1 c2) ⟨ho, ?_⟩⟩)
      have e0 : k.toNat = 0 := by omega
      have qn := qn h1
      rw [e0] at qn
      refine ⟨.ref s.heap.objs.size, _, I.laid (t' := s.toks) (o := .tup []) (fun b ob q => Heap.get?_push_of_some _ q) (Nat.le_refl _) ?_, rfl, qn _ (I.hok.fresh (Nat.le_refl _))⟩
      exact ⟨by show 0 ≤ sizeLine; exact Nat.zero_le _, [], .nil, IsTup.new _ _⟩
    · have hsz0 : its.toArray.size = xs.length := by rw [List.size_toArray, hle]
      have hm : ((its.toArray.size : Nat) : Int) * k ≤ 100000 := by
        rw [hsz0]
        have e : ((k.toNat : Nat) : Int) = k := by omega
        have q : ((xs.length * k.toNat : Nat) : Int) ≤ ((100000 : Nat) : Int) := Int.ofNat_le.mpr hz
        rw [Int.natCast_mul, e] at q
        exact q
      have flen : (List.replicate k.toNat its).flatten.length ≤ sizeLine := by
        rw [PyProof.Rows.lm_len_rep_flat, hle, sizeLine_eq]
        rw [Nat.mul_comm]
        omega
      have c2 : (decide (k ≤ 0) || its.toArray.isEmpty) = false := by
        rw [hi, Bool.or_false]
        exact decide_eq_false h2
      have c4 : Builtin.Tuple.tupleTooMany (((its.toArray.size : Nat) : Int) * k) = false := by
        unfold Builtin.Tuple.tupleTooMany
        rw [sizeLine_eq]
        exact decide_eq_false (by omega)
      refine wpAny_binaryOp_repeat_ref (T := "tuple") (U := "int") (by decide) ⟨_, ho, rfl⟩ (fun s' => typeIs_int s' k t) noFill_tuple_mul F.fills_int_mul F.slot_int_rmul repeat_tuple F.slot_int_index.lookup
        (call_meets F.slot_int_rmul (typeIs_int s k t) F.entry_int_rmul (F.args_int_rmul_2 _ _) (int_rmul_tuple k t l its.toArray n dd sl)
          ⟨ho, rfl, ⟨_, ho, rfl⟩, call_meets F.slot_tuple_mul ⟨_, ho, rfl⟩ F.entry_tuple_mul (F.args_tuple_mul_2 _ _) (tuple_mulW l its.toArray n dd sl k t c0 c1 c2 (by omega) c4 (by rw [size_rep, List.size_toArray]; exact flen)) ⟨ho, ?_⟩⟩)
      rw [size_rep]
      refine ⟨.ref s.heap.objs.size, _, I.laid (t' := s.toks) (o := .tup (List.replicate k.toNat xs).flatten) (fun b ob q => Heap.get?_push_of_some _ q) (Nat.le_refl _) ?_, rfl, qn h1 _ (I.hok.fresh (Nat.le_refl _))⟩
      exact ⟨by rw [PyProof.Rows.lm_len_rep_flat, sizeLine_eq, Nat.mul_comm]; omega, _, r.rep k.toNat, IsTup.new _ _⟩
end Wb
/-! Wb4: expressions read as data. -/
namespace Wb
open PySem PySem.Spec PyProof.Rows L2

/-! ### the words of the readings -/
def onD : DV → (PD → Prop) → Prop
  | .d x, R => R x
  | _, _ => False
def onB : DV → (Bool → Prop) → Prop
  | .d (.bool b), R => R b
  | _, _ => False
def onI : DV → (Int → Prop) → Prop
  | .d (.int i), R => R i
  | _, _ => False
def allD : List DV → (List PD → Prop) → Prop
  | [], R => R []
  | .d x :: r, R => allD r fun xs => R (x :: xs)
  | _ :: _, _ => False
def slV : Option Sl → (DV → Prop) → Prop
  | some (.v x), R => R x
  | _, _ => False
def slO : Option Sl → (DV → Prop) → Prop
  | some (.v x), R => R x
  | some (.own xs), R => R (.d (.list xs))
  | _, _ => False
def dVar (i : Nat) : DE := fun ρ R _ => slV ρ[i]? R
def dOwn (i : Nat) : DE := fun ρ R _ => slO ρ[i]? R
def dC (x : PD) : DE := fun _ R _ => R (.d x)
def d2 (g : DV → DV → (DV → Prop) → Prop) (f h : DE) : DE := fun ρ R E => f ρ (fun x => h ρ (fun y => g x y R) E) E
def d1 (g : DV → (DV → Prop) → Prop) (f : DE) : DE := fun ρ R E => f ρ (fun x => g x R) E
def dN2 (f : DN) : DE := fun ρ R E => f ρ (fun xs => R (.d (.list xs))) E
def aNil : DA := fun _ R _ => R []
def aCons (f : DE) (g : DA) : DA := fun ρ R E => f ρ (fun x => g ρ (fun xs => R (x :: xs)) E) E
def dTup (f : DA) : DE := fun ρ R E => f ρ (fun xs => allD xs fun ds => ds.length ≤ 100000 ∧ R (.d (.tuple ds))) E
def nLst (f : DA) : DN := fun ρ R E => f ρ (fun xs => allD xs fun ds => ds.length ≤ 100000 ∧ R ds) E
/-- a def's meaning: the arguments, what is wanted of the answer, of an error -/
abbrev Fn := List DV → (DV → Prop) → EK → Prop
def dCall (g : Fn) (f : DA) : DE := fun ρ R E => f ρ (fun xs => g xs R E) E
def dBi (g : List DV → (DV → Prop) → Prop) (f : DA) : DE := fun ρ R E => f ρ (fun xs => g xs R) E
def tVal (f : DE) : DT := fun ρ R E => f ρ (fun x => onB x R) E
def tNot' (f : DT) : DT := fun ρ R E => f ρ (fun b => R (!b)) E
def tAnd' (f g : DT) : DT := fun ρ R E => f ρ (fun b => if b = true then g ρ R E else R false) E
def tOr' (f g : DT) : DT := fun ρ R E => f ρ (fun b => if b = true then R true else g ρ R E) E
def dAnd (f g : DE) : DE := fun ρ R E => f ρ (fun x => onB x fun b => if b = true then g ρ R E else R (.d (.bool false))) E
def dOr (f g : DE) : DE := fun ρ R E => f ρ (fun x => onB x fun b => if b = true then R (.d (.bool true)) else g ρ R E) E
def dNot (f : DE) : DE := fun ρ R E => f ρ (fun x => onB x fun b => R (.d (.bool (!b)))) E
def dIf (t : DT) (f g : DE) : DE := fun ρ R E => t ρ (fun b => if b = true then f ρ R E else g ρ R E) E
/-- a op b op' c -/
def dChain (g g' : DV → DV → (DV → Prop) → Prop) (f h k : DE) : DE := fun ρ R E => f ρ (fun x => h ρ (fun y => g x y fun z => onB z fun b => if b = true then k ρ (fun w => g' y w R) E else R (.d (.bool false))) E) E

/-! the operators -/
def gI (C : Int → Int → Prop) (f : Int → Int → PD) : DV → DV → (DV → Prop) → Prop
  | .d (.int i), .d (.int j), R => C i j ∧ R (.d (f i j))
  | _, _, _ => False
def gI0 (f : Int → Int → PD) : DV → DV → (DV → Prop) → Prop
  | .d (.int i), .d (.int j), R => R (.d (f i j))
  | _, _, _ => False
def gAdd : DV → DV → (DV → Prop) → Prop
  | .d (.int i), .d (.int j), R => R (.d (.int (i + j)))
  | .d (.str i), .d (.str j), R => i.length + j.length ≤ 100000 ∧ R (.d (.str (i ++ j)))
  | .d (.list i), .d (.list j), R => i.length + j.length ≤ 100000 ∧ R (.d (.list (i ++ j)))
  | .d (.tuple i), .d (.tuple j), R => i.length + j.length ≤ 100000 ∧ R (.d (.tuple (i ++ j)))
  | _, _, _ => False
abbrev gSub := gI0 fun i j => .int (i - j)
/-- the sizes that a product may have -/
def MulOk (i j : Int) : Prop := ∃ a b : Nat, i.natAbs < 2 ^ a ∧ j.natAbs < 2 ^ b ∧ a + b ≤ 134217728
def gMul : DV → DV → (DV → Prop) → Prop
  | .d (.int i), .d (.int j), R => MulOk i j ∧ R (.d (.int (i * j)))
  | .d (.list xs), .d (.int k), R => (0 ≤ k ∧ k ≤ 100000) ∧ xs.length * k.toNat ≤ 100000 ∧ R (.d (.list (List.replicate k.toNat xs).flatten))
  | .d (.tuple xs), .d (.int k), R => (-100000 ≤ k ∧ k ≤ 100000) ∧ xs.length * k.toNat ≤ 100000 ∧ R (.d (.tuple (List.replicate k.toNat xs).flatten))
  | _, _, _ => False
def FdivOk (i j : Int) : Prop := j ≠ 0 ∧ j.natAbs < 2 ^ 9000
abbrev gFdiv := gI FdivOk fun i j => .int (i.fdiv j)
abbrev gMod := gI (fun _ j => j ≠ 0) fun i j => .int (i.fmod j)
abbrev gPow := gI CPow fun i j => .int (i ^ j.toNat)
abbrev gLt := gI0 fun i j => .bool (decide (i < j))
abbrev gLe := gI0 fun i j => .bool (decide (i ≤ j))
abbrev gGt := gI0 fun i j => .bool (decide (j < i))
abbrev gGe := gI0 fun i j => .bool (decide (j ≤ i))
/-- what == may compare -/
def Sh (x : PD) : Prop := SeqAt.shaped x = true
def gEq : DV → DV → (DV → Prop) → Prop
  | .d (.str x), .d (.str y), R => R (.d (.bool (decide (x = y))))
  | .d x, .d y, R => Sh x ∧ Sh y ∧ R (.d (.bool (PyData.eqv x y)))
  | _, _, _ => False
def gNe : DV → DV → (DV → Prop) → Prop
  | .d (.str x), .d (.str y), R => R (.d (.bool (!decide (x = y))))
  | .d x, .d y, R => Sh x ∧ Sh y ∧ R (.d (.bool (!PyData.eqv x y)))
  | _, _, _ => False
def flatD : PD → Bool
  | .none => true
  | .bool _ => true
  | .int _ => true
  | .str _ => true
  | _ => false
def gIn : DV → DV → (DV → Prop) → Prop
  | .d x, .d (.list ys), R => Sh x ∧ Sh (.list ys) ∧ R (.d (.bool (ys.any fun z => PyData.eqv z x)))
  | .d x, .d (.tuple ys), R => flatD x = true ∧ ys.all flatD = true ∧ R (.d (.bool (ys.any fun z => PyData.eqv z x)))
  | _, _, _ => False
def gNotIn : DV → DV → (DV → Prop) → Prop
  | .d x, .d (.list ys), R => Sh x ∧ Sh (.list ys) ∧ R (.d (.bool (!ys.any fun z => PyData.eqv z x)))
  | .d x, .d (.tuple ys), R => flatD x = true ∧ ys.all flatD = true ∧ R (.d (.bool (!ys.any fun z => PyData.eqv z x)))
  | _, _, _ => False
def gIsN : DV → (DV → Prop) → Prop
  | .d .none, R => R (.d (.bool true))
  | _, R => R (.d (.bool false))
def gNotN : DV → (DV → Prop) → Prop
  | .d .none, R => R (.d (.bool false))
  | _, R => R (.d (.bool true))
def gNeg : DV → (DV → Prop) → Prop
  | .d (.int i), R => R (.d (.int (-i)))
  | _, _ => False
/-- the script, indexed -/
def gIxS : Option (List Int) → DV → (DV → Prop) → Prop
  | some ns, .d (.int i), R => ∃ y, atI ns i = some y ∧ R (.d (.int y))
  | _, _, _ => False
def gIx : DV → DV → (DV → Prop) → Prop
  | .well o, y, R => gIxS o y R
  | .d (.list xs), .d (.int i), R => ∃ y, atI xs i = some y ∧ R (.d y)
  | .d (.tuple xs), .d (.int i), R => ∃ y, atI xs i = some y ∧ R (.d y)
  | .d (.str s), .d (.int i), R => s.length ≤ 100000 ∧ ∃ c, atI s.cps.toList i = some c ∧ R (.d (.str ⟨#[c]⟩))
  | _, _, _ => False
/-- the built-in class of a datum -/
def tyD : PD → String
  | .none => "NoneType"
  | .bool _ => "bool"
  | .int _ => "int"
  | .str _ => "str"
  | .list _ => "list"
  | .tuple _ => "tuple"
  | .dict _ => "dict"
def subTy (t T : String) : Bool := t == T || (t == "bool" && T == "int")
def gIsi (T : String) : DV → (DV → Prop) → Prop
  | .d x, R => R (.d (.bool (subTy (tyD x) T)))
  | _, _ => False
def lenS : Option (List Int) → (DV → Prop) → Prop
  | some ns, R => R (.d (.int ns.length))
  | _, _ => False
def bLen : List DV → (DV → Prop) → Prop
  | [.well o], R => lenS o R
  | [.d (.list xs)], R => R (.d (.int xs.length))
  | [.d (.tuple xs)], R => R (.d (.int xs.length))
  | [.d (.str s)], R => s.length ≤ 100000 ∧ R (.d (.int s.length))
  | _, _ => False
def bAbs : List DV → (DV → Prop) → Prop
  | [.d (.int i)], R => R (.d (.int (i.natAbs : Nat)))
  | _, _ => False
def bInt : List DV → (DV → Prop) → Prop
  | [.d (.int i)], R => R (.d (.int i))
  | [.d (.bool b)], R => R (.d (.int (if b then 1 else 0)))
  | _, _ => False
def bMax2 : List DV → (DV → Prop) → Prop
  | [.d (.int i), .d (.int j)], R => R (.d (.int (if j > i then j else i)))
  | _, _ => False
def bMin2 : List DV → (DV → Prop) → Prop
  | [.d (.int i), .d (.int j)], R => R (.d (.int (if j < i then j else i)))
  | _, _ => False
def asInts : List PD → Option (List Int)
  | [] => some []
  | .int i :: r => (asInts r).map (i :: ·)
  | _ :: _ => none
def asBools : List PD → Option (List Bool)
  | [] => some []
  | .bool i :: r => (asBools r).map (i :: ·)
  | _ :: _ => none
def bSum : List DV → (DV → Prop) → Prop
  | [.d (.list xs)], R => ∃ ns, asInts xs = some ns ∧ R (.d (.int ns.sum))
  | _, _ => False
def bAll : List DV → (DV → Prop) → Prop
  | [.d (.list xs)], R => ∃ bs, asBools xs = some bs ∧ R (.d (.bool (bs.all id)))
  | _, _ => False
def bAny : List DV → (DV → Prop) → Prop
  | [.d (.list xs)], R => ∃ bs, asBools xs = some bs ∧ R (.d (.bool (bs.any id)))
  | _, _ => False
def bGcd : List DV → (DV → Prop) → Prop
  | [.d (.int i), .d (.int j)], R => R (.d (.int ((Nat.gcd i.natAbs j.natAbs : Nat) : Int)))
  | _, _ => False
def bTuple : List DV → (DV → Prop) → Prop
  | [.d (.list xs)], R => R (.d (.tuple xs))
  | [.d (.tuple xs)], R => R (.d (.tuple xs))
  | _, _ => False
def bRepr : List DV → (DV → Prop) → Prop
  | [.d x], R => ROk x ∧ R (.d (.str x.shown))
  | _, _ => False

/-! ### by values -/
section
variable {K : Frag} {n : En} {m κ κ' : Nat} {S H S' H' : Hp} {σ : L2.St} {ρ : List Sl} {v u : V} {x y : DV} {W : WX}
theorem RdOk.post (p : Post n.wl S H S' H') (h : RdOk K n S H v x) : RdOk K n S' H' v x := by
  rcases h with h | ⟨q, vs, xs, rfl, rfl, hw, hq, hd⟩
  · exact .inl (dv_mono p.sS h)
  · exact .inr ⟨q, vs, xs, rfl, rfl, hw, p.kp q _ hq hw, dqAll_mono p.sS hd⟩
/-- data read at the heap -/
theorem RdOk.dq {x : PD} (sm : Same S H) (h : RdOk K n S H v (.d x)) : Dq K H v x := by
  rcases h with h | ⟨q, vs, xs, rfl, e, hw, hq, hd⟩
  · exact dq_mono sm h
  · cases e
    exact .lst hq (dqAll_mono sm hd)
inductive RdAll (K : Frag) (n : En) (S H : Hp) : List V → List DV → Prop
  | nil : RdAll K n S H [] []
  | cons {v : V} {vs : List V} {x : DV} {xs : List DV} : RdOk K n S H v x → RdAll K n S H vs xs → RdAll K n S H (v :: vs) (x :: xs)
theorem RdAll.post (p : Post n.wl S H S' H') : ∀ {vs : List V} {xs : List DV}, RdAll K n S H vs xs → RdAll K n S' H' vs xs
  | _, _, .nil => .nil
  | _, _, .cons h t => .cons (h.post p) (RdAll.post p t)
theorem DvAll.rd : ∀ {vs : List V} {xs : List DV}, DvAll K n S vs xs → RdAll K n S H vs xs
  | _, _, .nil => .nil
  | _, _, .cons h t => .cons (.inl h) (DvAll.rd t)
/-- the list items of what is read, as data of S -/
theorem RdOk.items {xs : List PD} (sm : Same S H) (h : RdOk K n S H v (.d (.list xs))) : ∃ p vs, v = .ref p ∧ H p = some (.lst vs) ∧ DqAll K S vs xs := by
  rcases h with h | ⟨q, vs, xs', rfl, e, hw, hq, hd⟩
  · cases h with
    | lst h1 h2 => exact ⟨_, _, rfl, sm _ _ h1, h2⟩
  · cases e
    exact ⟨q, vs, rfl, hq, hd⟩
theorem RdOk.tup {xs : List PD} (h : RdOk K n S H v (.d (.tuple xs))) : ∃ p vs, v = .ref p ∧ SqT K S p vs ∧ DqAll K S vs xs := by
  rcases h with h | ⟨q, vs, xs', rfl, e, hw, hq, hd⟩
  · cases h with
    | tup h1 h2 => exact ⟨_, _, rfl, h1, h2⟩
  · cases e
theorem RdOk.int {i : Int} (h : RdOk K n S H v (.d (.int i))) : v = .int i := by
  rcases h with h | ⟨q, vs, xs', rfl, e, _⟩
  · cases h; rfl
  · cases e
theorem RdOk.bool {b : Bool} (h : RdOk K n S H v (.d (.bool b))) : v = .bl b := by
  rcases h with h | ⟨q, vs, xs', rfl, e, _⟩
  · cases h; rfl
  · cases e
theorem RdOk.str {b : Str} (h : RdOk K n S H v (.d (.str b))) : v = .str b := by
  rcases h with h | ⟨q, vs, xs', rfl, e, _⟩
  · cases h; rfl
  · cases e
/-- what a rule for two values must give -/
def OpD (K : Frag) (r : R2) (g : DV → DV → (DV → Prop) → Prop) : Prop := ∀ (n : En) (S H : Hp) (x y : DV) (v u : V) (R : DV → Prop) (Q : VK), Same S H → RdOk K n S H v x → RdOk K n S H u y → g x y R →
  (∀ z w S' H', R z → Grow S H S' H' → DvOk K n S' w z → Q w H') → r v u H Q
def UnD (K : Frag) (r : V → Hp → VK → Prop) (g : DV → (DV → Prop) → Prop) : Prop := ∀ (n : En) (S H : Hp) (x : DV) (v : V) (R : DV → Prop) (Q : VK), Same S H → RdOk K n S H v x → g x R →
  (∀ z w S' H', R z → Grow S H S' H' → DvOk K n S' w z → Q w H') → r v H Q
def CaD (K : Frag) (r : List V → Hp → VK → Prop) (g : List DV → (DV → Prop) → Prop) : Prop := ∀ (n : En) (S H : Hp) (xs : List DV) (vs : List V) (R : DV → Prop) (Q : VK), Same S H → RdAll K n S H vs xs → g xs R →
  (∀ z w S' H', R z → Grow S H S' H' → DvOk K n S' w z → Q w H') → r vs H Q
end

section
variable {K : Frag}
theorem opD_I {C : Int → Int → Prop} {f : Int → Int → PD} {fv : Int → Int → V} (hf : ∀ i j (S : Hp), Dq K S (fv i j) (f i j)) : OpD K (rI C fv) (gI C f) := by
  intro n S H x y v u R Q sm hx hy hg q
  match x, y, hg with
  | .d (.int i), .d (.int j), ⟨hc, hr⟩ => exact ⟨i, j, hx.int, hy.int, hc, q _ _ _ _ hr (Grow.refl sm) (hf i j S)⟩
theorem opD_I0 {f : Int → Int → PD} {fv : Int → Int → V} (hf : ∀ i j (S : Hp), Dq K S (fv i j) (f i j)) : OpD K (rI0 fv) (gI0 f) := by
  intro n S H x y v u R Q sm hx hy hg q
  match x, y, hg with
  | .d (.int i), .d (.int j), hr => exact ⟨i, j, hx.int, hy.int, q _ _ _ _ hr (Grow.refl sm) (hf i j S)⟩
def rAddS : R2 := fun x y H Q => ∃ i j, x = .str i ∧ y = .str j ∧ i.length + j.length ≤ sizeLine ∧ Q (.str (i ++ j)) H
def rAdd (K : Frag) : R2 := fun x y H Q => (rI0 (fun i j => .int (i + j)) x y H Q) ∨ (rAddS x y H Q ∨ (rCat x y H Q ∨ rCatA K x y H Q))
theorem line5 {a : Nat} (h : a ≤ 100000) : a ≤ sizeLine := Nat.le_trans h (by rw [sizeLine_eq]; decide)
theorem opD_add : OpD K (rAdd K) gAdd := by
  intro n S H x y v u R Q sm hx hy hg q
  match x, y, hg with
  | .d (.int i), .d (.int j), hr => exact .inl ⟨i, j, hx.int, hy.int, q _ _ _ _ hr (Grow.refl sm) (.int _)⟩
  | .d (.str i), .d (.str j), ⟨hl, hr⟩ => exact .inr (.inl ⟨i, j, hx.str, hy.str, line5 hl, q _ _ _ _ hr (Grow.refl sm) (.str _)⟩)
  | .d (.list xs), .d (.list ys), ⟨hl, hr⟩ =>
    obtain ⟨p, vs, rfl, hp, hd⟩ := hx.items sm
    obtain ⟨p2, us, rfl, hp2, hd2⟩ := hy.items sm
    refine .inr (.inr (.inl ⟨p, p2, vs, us, rfl, rfl, hp, hp2, line5 (by rw [hd.len, hd2.len]; exact hl), fun a ha => ?_⟩))
    have g := Grow.new (o := .lst (vs ++ us)) sm ha
    exact q _ _ _ _ hr g (dq_lst upd_same (dqAll_mono g.po.sS (hd.app hd2)))
  | .d (.tuple xs), .d (.tuple ys), ⟨hl, hr⟩ =>
    obtain ⟨p, vs, rfl, hp, hd⟩ := hx.tup
    obtain ⟨p2, us, rfl, hp2, hd2⟩ := hy.tup
    have hz : vs.length + us.length ≤ sizeLine := line5 (by rw [hd.len, hd2.len]; exact hl)
    have e1 : vs.length = xs.length := hd.len
    have e2 : us.length = ys.length := hd2.len
    refine .inr (.inr (.inr ⟨p, p2, vs, us, rfl, rfl, sqT_mono sm hp, sqT_mono sm hp2, hz, fun z => ?_, fun z z2 => ?_, fun _ _ a ha => ?_⟩))
    · have : xs = [] := List.length_eq_zero_iff.mp (by rw [← e1, z]; rfl)
      subst this
      exact q _ _ _ _ hr (Grow.refl sm) (.tup hp2 hd2)
    · have : ys = [] := List.length_eq_zero_iff.mp (by rw [← e2, z2]; rfl)
      subst this
      rw [List.append_nil] at hr
      exact q _ _ _ _ hr (Grow.refl sm) (.tup hp hd)
    · have g := Grow.new (o := .tup (vs ++ us)) sm ha
      exact q _ _ _ _ hr g (dq_tup upd_same (dqAll_mono g.po.sS (hd.app hd2)))
def rMulAll (K : Frag) : R2 := fun x y H Q => rI CMulX (fun i j => .int (i * j)) x y H Q ∨ (rRep x y H Q ∨ rRepTA K x y H Q)
theorem repl_dq {S : Hp} {vs : List V} {xs : List PD} (h : DqAll K S vs xs) : ∀ k, DqAll K S (List.replicate k vs).flatten (List.replicate k xs).flatten
  | 0 => .nil
  | k + 1 => by rw [List.replicate_succ, List.replicate_succ, List.flatten_cons, List.flatten_cons]; exact h.app (repl_dq h k)
theorem opD_mul : OpD K (rMulAll K) gMul := by
  intro n S H x y v u R Q sm hx hy hg q
  match x, y, hg with
  | .d (.int i), .d (.int j), ⟨⟨a, b, h1, h2, h3⟩, hr⟩ => exact .inl ⟨i, j, hx.int, hy.int, mulx_ok h1 h2 h3, q _ _ _ _ hr (Grow.refl sm) (.int _)⟩
  | .d (.list xs), .d (.int k), ⟨⟨h0, h1⟩, hl, hr⟩ =>
    obtain ⟨p, vs, rfl, hp, hd⟩ := hx.items sm
    have e := hy.int
    subst e
    refine .inr (.inl ⟨p, k, vs, rfl, rfl, hp, by omega, by omega, line5 (by rw [hd.len]; exact hl), fun a ha => ?_⟩)
    have g := Grow.new (o := .lst (List.replicate k.toNat vs).flatten) sm ha
    exact q _ _ _ _ hr g (dq_lst upd_same (dqAll_mono g.po.sS (repl_dq hd _)))
  | .d (.tuple xs), .d (.int k), ⟨⟨h0, h1⟩, hl, hr⟩ =>
    obtain ⟨p, vs, rfl, hp, hd⟩ := hx.tup
    have e := hy.int
    subst e
    refine .inr (.inr ⟨p, k, vs, rfl, rfl, sqT_mono sm hp, h1, h0, by rw [hd.len]; exact hl, fun h => ?_, fun h a ha => ?_⟩)
    · have e : (List.replicate k.toNat xs).flatten = xs := by
        rcases h with rfl | rfl
        · simp
        · cases hd
          simp
      rw [e] at hr
      exact q _ _ _ _ hr (Grow.refl sm) (.tup hp hd)
    · have g := Grow.new (o := .tup (List.replicate k.toNat vs).flatten) sm ha
      exact q _ _ _ _ hr g (dq_tup upd_same (dqAll_mono g.po.sS (repl_dq hd _)))
theorem opD_eq : OpD K (fun x y H Q => rEq x y H Q ∨ rEqD K x y H Q) gEq := by
  intro n S H x y v u R Q sm hx hy hg q
  have gen : ∀ a b, x = .d a → y = .d b → Sh a ∧ Sh b ∧ R (.d (.bool (PyData.eqv a b))) → (rEq v u H Q ∨ rEqD K v u H Q) := by
    rintro a b rfl rfl ⟨h1, h2, h3⟩
    exact .inr ⟨a, b, (hx.dq sm).dp, (hy.dq sm).dp, h1, h2, q _ _ _ _ h3 (Grow.refl sm) (.bl _)⟩
  cases x with
  | exc _ _ => cases hg
  | well => cases hg
  | d a =>
    cases y with
    | exc _ _ => cases a <;> cases hg
    | well => cases a <;> cases hg
    | d b =>
      by_cases hs : ∃ s t, a = .str s ∧ b = .str t
      · obtain ⟨s, t, rfl, rfl⟩ := hs
        have e1 := hx.str
        have e2 := hy.str
        subst e1 e2
        refine .inl ⟨rfl, ?_⟩
        have hg : R (.d (.bool (decide (s = t)))) := hg
        have e : decide (V.str s = V.str t) = decide (s = t) := by simp
        rw [e]
        exact q _ _ _ _ hg (Grow.refl sm) (.bl _)
      · refine gen a b rfl rfl ?_
        cases a <;> first | exact hg | (cases b <;> first | exact hg | exact absurd ⟨_, _, rfl, rfl⟩ hs)
theorem opD_ne : OpD K (fun x y H Q => rNe x y H Q ∨ rNeD K x y H Q) gNe := by
  intro n S H x y v u R Q sm hx hy hg q
  have gen : ∀ a b, x = .d a → y = .d b → Sh a ∧ Sh b ∧ R (.d (.bool (!PyData.eqv a b))) → (rNe v u H Q ∨ rNeD K v u H Q) := by
    rintro a b rfl rfl ⟨h1, h2, h3⟩
    exact .inr ⟨a, b, (hx.dq sm).dp, (hy.dq sm).dp, h1, h2, q _ _ _ _ h3 (Grow.refl sm) (.bl _)⟩
  cases x with
  | exc _ _ => cases hg
  | well => cases hg
  | d a =>
    cases y with
    | exc _ _ => cases a <;> cases hg
    | well => cases a <;> cases hg
    | d b =>
      by_cases hs : ∃ s t, a = .str s ∧ b = .str t
      · obtain ⟨s, t, rfl, rfl⟩ := hs
        have e1 := hx.str
        have e2 := hy.str
        subst e1 e2
        refine .inl ⟨rfl, ?_⟩
        have hg : R (.d (.bool (!decide (s = t)))) := hg
        have e : decide (V.str s = V.str t) = decide (s = t) := by simp
        rw [e]
        exact q _ _ _ _ hg (Grow.refl sm) (.bl _)
      · refine gen a b rfl rfl ?_
        cases a <;> first | exact hg | (cases b <;> first | exact hg | exact absurd ⟨_, _, rfl, rfl⟩ hs)
theorem flatV_of {S : Hp} {v : V} {x : PD} (h : Dq K S v x) (f : flatD x = true) : flatV v = true := by
  cases h <;> first | rfl | cases f
theorem flatAll_of {S : Hp} : ∀ {vs : List V} {xs : List PD}, DqAll K S vs xs → xs.all flatD = true → vs.all flatV = true
  | _, _, .nil, _ => rfl
  | _, _, .cons h t, f => by
    rw [List.all_cons, Bool.and_eq_true] at f ⊢
    exact ⟨flatV_of h f.1, flatAll_of t f.2⟩
theorem eqV_of {S : Hp} {v u : V} {x y : PD} (hx : Dq K S v x) (hy : Dq K S u y) (fx : flatD x = true) (fy : flatD y = true) : eqV v u = PyData.eqv x y := by
  cases hx <;> first | (cases fx; done) | (cases hy <;> first | (cases fy; done) | simp [eqV, PyData.eqv])
theorem inV_of {S : Hp} {v : V} {x : PD} (hx : Dq K S v x) (fx : flatD x = true) : ∀ {vs : List V} {xs : List PD}, DqAll K S vs xs → xs.all flatD = true → inV v vs = xs.any fun z => PyData.eqv z x
  | _, _, .nil, _ => rfl
  | _, _, .cons h t, f => by
    rw [List.all_cons, Bool.and_eq_true] at f
    unfold inV
    rw [List.any_cons, List.any_cons, eqV_of h hx f.1 fx]
    have := inV_of hx fx t f.2
    unfold inV at this
    rw [this]
theorem opD_in : OpD K (fun x y H Q => rInD K x y H Q ∨ rIn K false x y H Q) gIn := by
  intro n S H x y v u R Q sm hx hy hg q
  match x, y, hg with
  | .d x, .d (.list ys), ⟨h1, h2, hr⟩ => exact .inl ⟨x, ys, (hx.dq sm).dp, (hy.dq sm).dp, h1, h2, q _ _ _ _ hr (Grow.refl sm) (.bl _)⟩
  | .d x, .d (.tuple ys), ⟨h1, h2, hr⟩ =>
    obtain ⟨p, vs, rfl, hp, hd⟩ := hy.tup
    have hxq := hx.dq sm
    have hdH := dqAll_mono sm hd
    refine .inr ⟨p, vs, rfl, .inr (sqT_mono sm hp), flatV_of hxq h1, flatAll_of hdH h2, ?_⟩
    rw [inV_of hxq h1 hdH h2]
    exact q _ _ _ _ hr (Grow.refl sm) (.bl _)
theorem opD_notIn : OpD K (fun x y H Q => rNotInD K x y H Q ∨ rIn K true x y H Q) gNotIn := by
  intro n S H x y v u R Q sm hx hy hg q
  match x, y, hg with
  | .d x, .d (.list ys), ⟨h1, h2, hr⟩ => exact .inl ⟨x, ys, (hx.dq sm).dp, (hy.dq sm).dp, h1, h2, q _ _ _ _ hr (Grow.refl sm) (.bl _)⟩
  | .d x, .d (.tuple ys), ⟨h1, h2, hr⟩ =>
    obtain ⟨p, vs, rfl, hp, hd⟩ := hy.tup
    have hxq := hx.dq sm
    have hdH := dqAll_mono sm hd
    refine .inr ⟨p, vs, rfl, .inr (sqT_mono sm hp), flatV_of hxq h1, flatAll_of hdH h2, ?_⟩
    rw [inV_of hxq h1 hdH h2]
    exact q _ _ _ _ hr (Grow.refl sm) (.bl _)
theorem atI_dq {S : Hp} {vs : List V} {xs : List PD} {i : Int} {y : PD} (h : DqAll K S vs xs) (e : atI xs i = some y) : ∃ v, atI vs i = some v ∧ Dq K S v y := by
  unfold atI at e ⊢
  rw [h.len]
  cases q : ixN xs.length i with
  | none => rw [q] at e; cases e
  | some j =>
    rw [q] at e
    exact h.at e
theorem RdOk.scr {ns : List Int} (sm : Same S H) (h : RdOk K n S H v (.well (some ns))) : ∃ p, v = .ref p ∧ SqL K H p (ns.map V.int) := by
  rcases h with ⟨p, h1, h2⟩ | ⟨_, _, _, _, z, _⟩
  · exact ⟨p, h1, sm.seq h2⟩
  · cases z
theorem atI_map {α β : Type} (f : α → β) {l : List α} {i : Int} {y : α} (h : atI l i = some y) : atI (l.map f) i = some (f y) := by
  unfold atI at h ⊢
  rw [List.length_map]
  cases q : ixN l.length i with
  | none => rw [q] at h; cases h
  | some j =>
    rw [q] at h
    show (l.map f)[j]? = _
    rw [List.getElem?_map, show l[j]? = some y from h]
    rfl
theorem opD_ix : OpD K (rIx K) gIx := by
  intro n S H x y v u R Q sm hx hy hg q
  match x, y, hg with
  | .well o, y, hg =>
    cases o with
    | none => exact hg.elim
    | some ns =>
      have hg : gIxS (some ns) y R := hg
      match y, hg with
      | .d (.int i), ⟨y, e, hr⟩ =>
        obtain ⟨p, rfl, hp⟩ := hx.scr sm
        exact .inl ⟨p, _, i, _, rfl, hy.int, hp, atI_map V.int e, q _ _ _ _ hr (Grow.refl sm) (.int _)⟩
  | .d (.list xs), .d (.int i), ⟨y, e, hr⟩ =>
    obtain ⟨p, vs, rfl, hp, hd⟩ := hx.items sm
    obtain ⟨w, e2, hw⟩ := atI_dq hd e
    exact .inl ⟨p, vs, i, w, rfl, hy.int, SqL.of hp, e2, q _ _ _ _ hr (Grow.refl sm) hw⟩
  | .d (.tuple xs), .d (.int i), ⟨y, e, hr⟩ =>
    obtain ⟨p, vs, rfl, hp, hd⟩ := hx.tup
    obtain ⟨w, e2, hw⟩ := atI_dq hd e
    exact .inr (.inl ⟨p, vs, i, w, rfl, hy.int, sqT_mono sm hp, e2, q _ _ _ _ hr (Grow.refl sm) hw⟩)
  | .d (.str s), .d (.int i), ⟨hl, c, e, hr⟩ => exact .inr (.inr ⟨s, i, c, hx.str, hy.int, line5 hl, e, q _ _ _ _ hr (Grow.refl sm) (.str _)⟩)
theorem unD_neg : UnD K (rU fun i => .int (-i)) gNeg := by
  intro n S H x v R Q sm hx hg q
  match x, hg with
  | .d (.int i), hr => exact ⟨i, hx.int, q _ _ _ _ hr (Grow.refl sm) (.int _)⟩
/-- None, or not: the value's own make tells -/
theorem non_iff {n : En} {S H : Hp} {v : V} {x : DV} (h : RdOk K n S H v x) : (v = .non ↔ x = .d .none) := by
  rcases h with h | ⟨q, vs, xs, rfl, rfl, _⟩
  · cases x with
    | d x => cases h <;> simp
    | exc c x => obtain ⟨a, dd, v', rfl, _⟩ := h; simp
    | well o => cases o <;> (obtain ⟨p, rfl, _⟩ := h; simp)
  · simp
end
section
variable {K : Frag}
theorem caD_len : CaD K (fun xs H Q => (∃ p ys, xs = [.ref p] ∧ (SqL K H p ys ∨ SqT K H p ys) ∧ Q (.int ys.length) H) ∨ ∃ z, xs = [.str z] ∧ z.length ≤ sizeLine ∧ Q (.int z.length) H) bLen := by
  intro n S H xs vs R Q sm hx hg q
  match xs, hx, hg with
  | [.well o], .cons h .nil, hr =>
    cases o with
    | none => exact hr.elim
    | some ns =>
      obtain ⟨p, rfl, hp⟩ := h.scr sm
      refine .inl ⟨p, _, rfl, .inl hp, ?_⟩
      rw [List.length_map]
      exact q _ _ _ _ hr (Grow.refl sm) (.int _)
  | [.d (.list xs)], .cons h .nil, hr =>
    obtain ⟨p, vs, rfl, hp, hd⟩ := h.items sm
    refine .inl ⟨p, vs, rfl, .inl (SqL.of hp), ?_⟩
    rw [hd.len]
    exact q _ _ _ _ hr (Grow.refl sm) (.int _)
  | [.d (.tuple xs)], .cons h .nil, hr =>
    obtain ⟨p, vs, rfl, hp, hd⟩ := h.tup
    refine .inl ⟨p, vs, rfl, .inr (sqT_mono sm hp), ?_⟩
    rw [hd.len]
    exact q _ _ _ _ hr (Grow.refl sm) (.int _)
  | [.d (.str s)], .cons h .nil, ⟨hl, hr⟩ =>
    have e := h.str
    subst e
    exact .inr ⟨s, rfl, line5 hl, q _ _ _ _ hr (Grow.refl sm) (.int _)⟩
theorem caD_abs : CaD K (fun xs H Q => ∃ i, xs = [.int i] ∧ Q (.int (if i < 0 then -i else i)) H) bAbs := by
  intro n S H xs vs R Q sm hx hg q
  match xs, hx, hg with
  | [.d (.int i)], .cons h .nil, hr =>
    have e := h.int
    subst e
    refine ⟨i, rfl, ?_⟩
    have e : (if i < 0 then -i else i) = (i.natAbs : Int) := by split <;> omega
    rw [e]
    exact q _ _ _ _ hr (Grow.refl sm) (.int _)
theorem caD_int : CaD K (fun xs H Q => (∃ i, xs = [.int i] ∧ Q (.int i) H) ∨ ∃ k, xs = [.bl k] ∧ Q (.int (if k then 1 else 0)) H) bInt := by
  intro n S H xs vs R Q sm hx hg q
  match xs, hx, hg with
  | [.d (.int i)], .cons h .nil, hr =>
    have e := h.int
    subst e
    exact .inl ⟨i, rfl, q _ _ _ _ hr (Grow.refl sm) (.int _)⟩
  | [.d (.bool i)], .cons h .nil, hr =>
    have e := h.bool
    subst e
    exact .inr ⟨i, rfl, q _ _ _ _ hr (Grow.refl sm) (.int _)⟩
theorem caD_max2 : CaD K (fun xs H Q => ∃ i j, xs = [.int i, .int j] ∧ Q (.int (if j > i then j else i)) H) bMax2 := by
  intro n S H xs vs R Q sm hx hg q
  match xs, hx, hg with
  | [.d (.int i), .d (.int j)], .cons h (.cons h2 .nil), hr =>
    have e := h.int
    have e2 := h2.int
    subst e e2
    exact ⟨i, j, rfl, q _ _ _ _ hr (Grow.refl sm) (.int _)⟩
theorem caD_min2 : CaD K (fun xs H Q => ∃ i j, xs = [.int i, .int j] ∧ Q (.int (if j < i then j else i)) H) bMin2 := by
  intro n S H xs vs R Q sm hx hg q
  match xs, hx, hg with
  | [.d (.int i), .d (.int j)], .cons h (.cons h2 .nil), hr =>
    have e := h.int
    have e2 := h2.int
    subst e e2
    exact ⟨i, j, rfl, q _ _ _ _ hr (Grow.refl sm) (.int _)⟩
theorem ints_of {S : Hp} : ∀ {vs : List V} {xs : List PD} {ns : List Int}, DqAll K S vs xs → asInts xs = some ns → vs = ns.map V.int
  | _, _, _, .nil, e => by cases e; rfl
  | _, .int i :: r, ns, .cons h t, e => by
    cases h
    unfold asInts at e
    cases q : asInts r with
    | none => rw [q] at e; cases e
    | some l =>
      rw [q] at e
      cases e
      rw [ints_of t q, List.map_cons]
theorem bools_of {S : Hp} : ∀ {vs : List V} {xs : List PD} {ns : List Bool}, DqAll K S vs xs → asBools xs = some ns → vs = ns.map V.bl
  | _, _, _, .nil, e => by cases e; rfl
  | _, .bool i :: r, ns, .cons h t, e => by
    cases h
    unfold asBools at e
    cases q : asBools r with
    | none => rw [q] at e; cases e
    | some l =>
      rw [q] at e
      cases e
      rw [bools_of t q, List.map_cons]
theorem caD_sum : CaD K (rSum K) bSum := by
  intro n S H xs vs R Q sm hx hg q
  match xs, hx, hg with
  | [.d (.list xs)], .cons h .nil, ⟨ns, e, hr⟩ =>
    obtain ⟨p, vs, rfl, hp, hd⟩ := h.items sm
    have z := ints_of hd e
    subst z
    exact ⟨p, ns, rfl, SqL.of hp, q _ _ _ _ hr (Grow.refl sm) (.int _)⟩
theorem caD_all : CaD K (rAll K) bAll := by
  intro n S H xs vs R Q sm hx hg q
  match xs, hx, hg with
  | [.d (.list xs)], .cons h .nil, ⟨ns, e, hr⟩ =>
    obtain ⟨p, vs, rfl, hp, hd⟩ := h.items sm
    have z := bools_of hd e
    subst z
    exact ⟨p, ns, rfl, SqL.of hp, q _ _ _ _ hr (Grow.refl sm) (.bl _)⟩
theorem caD_any : CaD K (rAny K) bAny := by
  intro n S H xs vs R Q sm hx hg q
  match xs, hx, hg with
  | [.d (.list xs)], .cons h .nil, ⟨ns, e, hr⟩ =>
    obtain ⟨p, vs, rfl, hp, hd⟩ := h.items sm
    have z := bools_of hd e
    subst z
    exact ⟨p, ns, rfl, SqL.of hp, q _ _ _ _ hr (Grow.refl sm) (.bl _)⟩
theorem caD_gcd : CaD K rGcd bGcd := by
  intro n S H xs vs R Q sm hx hg q
  match xs, hx, hg with
  | [.d (.int i), .d (.int j)], .cons h (.cons h2 .nil), hr =>
    have e := h.int
    have e2 := h2.int
    subst e e2
    exact ⟨i, j, rfl, q _ _ _ _ hr (Grow.refl sm) (.int _)⟩
theorem caD_tuple : CaD K (fun xs H Q => ∃ p ys, xs = [.ref p] ∧ ((SqL K H p ys ∧ ∀ l, H l = none → Q (.ref l) (upd H l (.tup ys))) ∨ (SqT K H p ys ∧ Q (.ref p) H))) bTuple := by
  intro n S H xs vs R Q sm hx hg q
  match xs, hx, hg with
  | [.d (.list xs)], .cons h .nil, hr =>
    obtain ⟨p, vs, rfl, hp, hd⟩ := h.items sm
    refine ⟨p, vs, rfl, .inl ⟨SqL.of hp, fun l hl => ?_⟩⟩
    have g := Grow.new (o := .tup vs) sm hl
    exact q _ _ _ _ hr g (dq_tup upd_same (dqAll_mono g.po.sS hd))
  | [.d (.tuple xs)], .cons h .nil, hr =>
    obtain ⟨p, vs, rfl, hp, hd⟩ := h.tup
    exact ⟨p, vs, rfl, .inr ⟨sqT_mono sm hp, q _ _ _ _ hr (Grow.refl sm) (.tup hp hd)⟩⟩
theorem caD_repr : CaD K (rRepr K) bRepr := by
  intro n S H xs vs R Q sm hx hg q
  match xs, hx, hg with
  | [.d x], .cons (v := v) h .nil, ⟨ho, hr⟩ => exact ⟨v, x, rfl, (h.dq sm).dp, ho, q _ _ _ _ hr (Grow.refl sm) (.str _)⟩
end
end Wb
/-! Wb5: the rules: an expression and its reading as data. -/
namespace Wb
open PySem PySem.Spec PyProof.Rows L2

/-- what every context of ours bears -/
structure Cok (X : Cx) (n : En) (W : WX) (k : Nat) : Prop where
  calm : X.calm = true
  tk : Takes X W
  hr : Room k X.A
  hg : X.A.guards = some []
  nd : X.N.Nodup
theorem Cok.le {X : Cx} {n : En} {W : WX} {j k : Nat} (c : Cok X n W k) (h : j ≤ k) : Cok X n W j := ⟨c.calm, c.tk, c.hr.mono h, c.hg, c.nd⟩
theorem st_split {K : Frag} {n : En} {m a b : Nat} {S H : Hp} {σ : L2.St} {ρ : List Sl} (s : StOk K n (m + (a + b)) S H σ ρ) : StOk K n (m + b + a) S H σ ρ := s.le (by omega)
theorem st_down {K : Frag} {n : En} {m b : Nat} {S H : Hp} {σ : L2.St} {ρ : List Sl} (s : StOk K n (m + b) S H σ ρ) : StOk K n m S H σ ρ := s.le (by omega)

theorem bool_of {K : Frag} {n : En} {S : Hp} {v : V} {x : DV} {P : Bool → Prop} (h : DvOk K n S v x) (hb : onB x P) : ∃ k, v = .bl k ∧ x = .d (.bool k) ∧ P k := by
  cases x with
  | exc _ _ => exact hb.elim
  | well => exact hb.elim
  | d x =>
    cases x with
    | bool k =>
      cases h
      exact ⟨k, rfl, rfl, hb⟩
    | _ => exact hb.elim
section
variable {X : Cx} {n : En} {W : WX} {κ κ' κ2 : Nat} {e a b c : Expr} {es : List Expr} {pos : Pos} {f h g : DE} {fa : DA} {t u : DT}

/-! ### names and constants -/
theorem je_var {i : Nat} {x : Str} (hN : X.N[i]? = some x) (hv : Vis X.env.scope x) (hd : (x == ("__debug__" : Str)) = false) (hcd : (x == ("__classdict__" : Str)) = false) : JE X n W 0 (.Name x pos) (dVar i) := by
  refine PE.to (pe_var hN hv hd hcd) fun σ H Q hq => ?_
  obtain ⟨m, S, ρ, R, Er, st, hf, kR, _⟩ := hq
  obtain ⟨A, h1, _⟩ := st.sl
  unfold dVar slV at hf
  cases q : ρ[i]? with
  | none => rw [q] at hf; exact hf.elim
  | some s =>
    rw [q] at hf
    cases s with
    | no => exact hf.elim
    | own _ => exact hf.elim
    | v x =>
      obtain ⟨v, e, d⟩ := h1 i _ q
      exact ⟨v, e, kR x v S H hf st Post.refl d⟩
theorem jo_own {i : Nat} {x : Str} (hN : X.N[i]? = some x) (hv : Vis X.env.scope x) (hd : (x == ("__debug__" : Str)) = false) (hcd : (x == ("__classdict__" : Str)) = false) : JO X n W 0 (.Name x pos) (dOwn i) := by
  refine PE.to (pe_var hN hv hd hcd) fun σ H Q hq => ?_
  obtain ⟨m, S, ρ, R, Er, st, hf, kR, _⟩ := hq
  obtain ⟨A, h1, _⟩ := st.sl
  unfold dOwn slO at hf
  cases q : ρ[i]? with
  | none => rw [q] at hf; exact hf.elim
  | some s =>
    rw [q] at hf
    cases s with
    | no => exact hf.elim
    | own xs =>
      obtain ⟨e, _, _, hw, vs, hp, d⟩ := h1 i _ q
      exact ⟨_, e, kR _ _ S H hf st Post.refl (.inr ⟨_, vs, xs, rfl, rfl, hw, hp, d⟩)⟩
    | v x =>
      obtain ⟨v, e, d⟩ := h1 i _ q
      exact ⟨v, e, kR x v S H hf st Post.refl (.inl d)⟩
theorem je_c {v : V} {x : PD} (he : PE X e (tC v)) (hx : ∀ S, Dq X.K S v x) : JE X n W 0 e (dC x) := by
  refine PE.to he fun σ H Q hq => ?_
  obtain ⟨m, S, ρ, R, Er, st, hf, kR, _⟩ := hq
  exact kR _ v S H hf st Post.refl (hx S)
theorem je_int {i : Int} {j : Nat} : JE X n W 0 (.Constant (.int i) j pos) (dC (.int i)) := je_c pe_int fun _ => .int i
theorem je_bl {i : Bool} {j : Nat} : JE X n W 0 (.Constant (.bool i) j pos) (dC (.bool i)) := je_c pe_bl fun _ => .bl i
theorem je_non {j : Nat} : JE X n W 0 (.Constant .none j pos) (dC .none) := je_c pe_non fun _ => .non
theorem je_str {i : Str} {j : Nat} : JE X n W 0 (.Constant (.str i) j pos) (dC (.str i)) := je_c pe_str fun _ => .str i
theorem je_glob {x : Str} {v : V} {uv : Value} {d : PD} (hg : Gl X x) (hm : X.mg x = some uv) (r : RelV v uv) (hx : ∀ S, Dq X.K S v d) (hd : (x == ("__debug__" : Str)) = false) : JE X n W 0 (.Name x pos) (dC d) :=
  je_c (pe_glob hg hm r hd) hx
/-- data may be read -/
theorem je_o (he : JE X n W κ e f) : JO X n W κ e f := PE.to he fun σ H Q ⟨m, S, ρ, R, Er, st, hf, kR, kE⟩ => ⟨m, S, ρ, R, Er, st, hf, fun x v S' H' hx st' p d => kR x v S' H' hx st' p (.inl d), kE⟩
/-- a new list is data, if nobody changes it -/
theorem jn_e {f : DN} (he : JN X n W κ e f) : JE X n W κ e (dN2 f) := by
  refine PE.to he fun σ H Q ⟨m, S, ρ, R, Er, st, hf, kR, kE⟩ => ⟨m, S, ρ, _, Er, st, hf, fun xs p vs S' H' hx st' po np sp hp d => ?_, kE⟩
  have sS : Same S' (upd S' p (.lst vs)) := fun b o e => by rw [upd_ne (ne_of_none e sp)]; exact e
  have wn : n.wl ≠ some p := fun z => by
    obtain ⟨_, a, b, c, hw, _⟩ := st.wd.we p z
    rw [np] at hw
    cases hw
  have po' : Post n.wl S H (upd S' p (.lst vs)) H' := ⟨po.sS.trans sS, fun a ha sa => by
    have : a ≠ p := fun z => ha (z ▸ np)
    rw [upd_ne this]; exact po.fr a ha sa, po.kp, po.al⟩
  have wd' : Wd n.wl m (upd S' p (.lst vs)) H' := ⟨fun b o e => by
      by_cases z : b = p
      · rw [z, upd_same] at e; rw [z, hp]; exact e
      · rw [upd_ne z] at e; exact st'.wd.sm b o e, fun q e => by
      obtain ⟨w1, w2⟩ := st'.wd.we q e
      exact ⟨by rw [upd_ne (fun z => wn (by rw [← z]; exact e))]; exact w1, w2⟩⟩
  exact kR _ _ _ _ hx (st.step po' wd') po' (dq_lst upd_same (dqAll_mono sS d))

/-! ### two operands -/
theorem j2 {r : R2} {gg : DV → DV → (DV → Prop) → Prop} (hr : OpD X.K r gg) {K : Frag} (eK : K = X.K) {Q : VK} {σ : L2.St} {H : Hp} (hq : rdE K n W (κ + κ') (d2 gg f h) σ H Q) :
    tOp r (rdO K n W κ f) (rdO K n W κ' h) σ H Q := by
  subst eK
  obtain ⟨m, S, ρ, R, Er, st, hf, kR, kE⟩ := hq
  refine ⟨m + κ', S, ρ, _, Er, st_split st, hf, fun x v S1 H1 hx st1 p1 d1 => ?_, fun c x cls dx S' H' e s' er => kE c x cls dx S' H' e (st_down s') er⟩
  refine ⟨m, S1, ρ, _, Er, st1, hx, fun y u S2 H2 hy st2 p2 d2 => ?_, ke_af p1.sS kE⟩
  exact hr n S2 H2 x y v u R Q st2.wd.sm (d1.post p2) d2 hy fun z w S3 H3 hz g dz => kR z w S3 H3 hz (st2.grow g) ((p1.trans p2).trans g.po.wk) dz
theorem je_op {op : Operator} {r : R2} {gg : DV → DV → (DV → Prop) → Prop} (ho : OpR X (binaryOp op) r) (hr : OpD X.K r gg) (ha : JO X n W κ a f) (hb : JO X n W κ' b h) : JE X n W (κ + κ') (.BinOp a op b pos) (d2 gg f h) :=
  PE.to (pe_op ho ha hb) fun σ H Q hq => j2 hr rfl hq
theorem je_cmp {op : CmpOp} {r : R2} {gg : DV → DV → (DV → Prop) → Prop} (ho : OpR X (compareOp op) r) (hr : OpD X.K r gg) (ha : JO X n W κ a f) (hb : JO X n W κ' b h) (hm : behindInMarks op b = false) :
    JE X n W (κ + κ') (.Compare a [op] [b] pos) (d2 gg f h) :=
  PE.to (pe_cmpR ho ha hb hm) fun σ H Q hq => j2 hr rfl hq
theorem je_ix {r : R2} {gg : DV → DV → (DV → Prop) → Prop} (ho : IxR X r) (hr : OpD X.K r gg) (ha : JO X n W κ a f) (hb : JO X n W κ' b h) (hs : PlainIx b) : JE X n W (κ + κ') (.Subscript a b pos) (d2 gg f h) :=
  PE.to (pe_ix ho ha hb hs) fun σ H Q hq => j2 hr rfl hq
theorem je_un {op : UnaryOp} {r : V → Hp → VK → Prop} {gg : DV → (DV → Prop) → Prop} (ho : UnR X (unaryOp op) r) (hr : UnD X.K r gg) (ha : JO X n W κ a f) : JE X n W κ (.UnaryOp op a pos) (d1 gg f) := by
  refine PE.to (pe_un ho ha) fun σ H Q ⟨m, S, ρ, R, Er, st, hf, kR, kE⟩ => ⟨m, S, ρ, _, Er, st, hf, fun x v S1 H1 hx st1 p1 d1 => ?_, kE⟩
  exact hr n S1 H1 x v R Q st1.wd.sm d1 hx fun z w S3 H3 hz g dz => kR z w S3 H3 hz (st1.grow g) (p1.trans g.po.wk) dz
theorem op_addD : OpR X (binaryOp .Add) (rAdd X.K) := op_add.or (op_add_str.or (op_cat.or op_catA))
theorem op_mulD : OpR X (binaryOp .Mult) (rMulAll X.K) := op_mulX.or (op_rep.or op_repTA)
theorem op_eqA {k : Nat} (hr : Room k X.A) : OpR X (compareOp .Eq) (fun x y H Q => rEq x y H Q ∨ rEqD X.K x y H Q) := op_eq.or (op_eqD hr.units)
theorem op_neA {k : Nat} (hr : Room k X.A) : OpR X (compareOp .NotEq) (fun x y H Q => rNe x y H Q ∨ rNeD X.K x y H Q) := op_ne.or (op_neD hr.units)
theorem op_inA {k : Nat} (hr : Room k X.A) : OpR X (compareOp .In) (fun x y H Q => rInD X.K x y H Q ∨ rIn X.K false x y H Q) := (op_inD (by have := hr.un; omega)).or op_in_seq
theorem op_notInA {k : Nat} (hr : Room k X.A) : OpR X (compareOp .NotIn) (fun x y H Q => rNotInD X.K x y H Q ∨ rIn X.K true x y H Q) := (op_notInD (by have := hr.un; omega)).or op_notIn_seq
theorem fdivOk_op : OpR X (binaryOp .FloorDiv) (rI FdivOk fun i j => .int (i.fdiv j)) := opI fun i j _ _ _ _ _ hc q => by
  refine floordiv_int hc.1 q (.inl (PyProof.noPylong_of_log2 ?_))
  exact PySem.Flt.log2_lt_of (by decide) hc.2
theorem je_add (ha : JO X n W κ a f) (hb : JO X n W κ' b h) : JE X n W (κ + κ') (.BinOp a .Add b pos) (d2 gAdd f h) := je_op op_addD opD_add ha hb
theorem je_sub (ha : JO X n W κ a f) (hb : JO X n W κ' b h) : JE X n W (κ + κ') (.BinOp a .Sub b pos) (d2 gSub f h) := je_op op_sub (opD_I0 fun _ _ _ => .int _) ha hb
theorem je_mul (ha : JO X n W κ a f) (hb : JO X n W κ' b h) : JE X n W (κ + κ') (.BinOp a .Mult b pos) (d2 gMul f h) := je_op op_mulD opD_mul ha hb
theorem je_fdiv (ha : JO X n W κ a f) (hb : JO X n W κ' b h) : JE X n W (κ + κ') (.BinOp a .FloorDiv b pos) (d2 gFdiv f h) := je_op fdivOk_op (opD_I fun _ _ _ => .int _) ha hb
theorem je_mod (ha : JO X n W κ a f) (hb : JO X n W κ' b h) : JE X n W (κ + κ') (.BinOp a .Mod b pos) (d2 gMod f h) := je_op op_modN (opD_I fun _ _ _ => .int _) ha hb
theorem je_pow (ha : JO X n W κ a f) (hb : JO X n W κ' b h) : JE X n W (κ + κ') (.BinOp a .Pow b pos) (d2 gPow f h) := je_op op_pow (opD_I fun _ _ _ => .int _) ha hb
theorem je_neg (ha : JO X n W κ a f) : JE X n W κ (.UnaryOp .USub a pos) (d1 gNeg f) := je_un un_neg unD_neg ha
theorem je_lt (ha : JO X n W κ a f) (hb : JO X n W κ' b h) : JE X n W (κ + κ') (.Compare a [.Lt] [b] pos) (d2 gLt f h) := je_cmp op_lt (opD_I0 fun _ _ _ => .bl _) ha hb (nomark _)
theorem je_le (ha : JO X n W κ a f) (hb : JO X n W κ' b h) : JE X n W (κ + κ') (.Compare a [.LtE] [b] pos) (d2 gLe f h) := je_cmp op_le (opD_I0 fun _ _ _ => .bl _) ha hb (nomark _)
theorem je_gt (ha : JO X n W κ a f) (hb : JO X n W κ' b h) : JE X n W (κ + κ') (.Compare a [.Gt] [b] pos) (d2 gGt f h) := je_cmp op_gt (opD_I0 fun _ _ _ => .bl _) ha hb (nomark _)
theorem je_ge (ha : JO X n W κ a f) (hb : JO X n W κ' b h) : JE X n W (κ + κ') (.Compare a [.GtE] [b] pos) (d2 gGe f h) := je_cmp op_ge (opD_I0 fun _ _ _ => .bl _) ha hb (nomark _)
theorem je_eq {k : Nat} (C : Cok X n W k) (ha : JO X n W κ a f) (hb : JO X n W κ' b h) : JE X n W (κ + κ') (.Compare a [.Eq] [b] pos) (d2 gEq f h) := je_cmp (op_eqA C.hr) opD_eq ha hb (nomark _)
theorem je_ne {k : Nat} (C : Cok X n W k) (ha : JO X n W κ a f) (hb : JO X n W κ' b h) : JE X n W (κ + κ') (.Compare a [.NotEq] [b] pos) (d2 gNe f h) := je_cmp (op_neA C.hr) opD_ne ha hb (nomark _)
theorem je_in {k : Nat} (C : Cok X n W k) (ha : JO X n W κ a f) (hb : JO X n W κ' b h) (hm : behindInMarks .In b = false) : JE X n W (κ + κ') (.Compare a [.In] [b] pos) (d2 gIn f h) := je_cmp (op_inA C.hr) opD_in ha hb hm
theorem je_notIn {k : Nat} (C : Cok X n W k) (ha : JO X n W κ a f) (hb : JO X n W κ' b h) (hm : behindInMarks .NotIn b = false) : JE X n W (κ + κ') (.Compare a [.NotIn] [b] pos) (d2 gNotIn f h) := je_cmp (op_notInA C.hr) opD_notIn ha hb hm
theorem je_sub_ix (ha : JO X n W κ a f) (hb : JO X n W κ' b h) (hs : PlainIx b) : JE X n W (κ + κ') (.Subscript a b pos) (d2 gIx f h) := je_ix ix_seq opD_ix ha hb hs
theorem je_isN {j : Nat} {p' : Pos} (ha : JO X n W κ a f) : JE X n W κ (.Compare a [.Is] [.Constant .none j p'] pos) (d1 gIsN f) := by
  refine PE.to (pe_cmp (pc_isN ha)) fun σ H Q ⟨m, S, ρ, R, Er, st, hf, kR, kE⟩ => ⟨m, S, ρ, _, Er, st, hf, fun x v S1 H1 hx st1 p1 d1 => ?_, kE⟩
  have hi := non_iff d1
  show Q (V.bl (decide (v = .non))) H1
  by_cases z : v = .non
  · have e := hi.mp z
    subst e
    rw [decide_eq_true z]
    exact kR _ _ S1 H1 hx st1 p1 (.bl _)
  · rw [decide_eq_false z]
    have hx : R (.d (.bool false)) := by
      cases x with
      | exc _ _ => exact hx
      | well => exact hx
      | d x => cases x <;> first | exact hx | exact absurd (hi.mpr rfl) z
    exact kR _ _ S1 H1 hx st1 p1 (.bl _)
theorem je_notN {j : Nat} {p' : Pos} (ha : JO X n W κ a f) : JE X n W κ (.Compare a [.IsNot] [.Constant .none j p'] pos) (d1 gNotN f) := by
  refine PE.to (pe_cmp (pc_notN ha)) fun σ H Q ⟨m, S, ρ, R, Er, st, hf, kR, kE⟩ => ⟨m, S, ρ, _, Er, st, hf, fun x v S1 H1 hx st1 p1 d1 => ?_, kE⟩
  have hi := non_iff d1
  show Q (V.bl (!decide (v = .non))) H1
  by_cases z : v = .non
  · have e := hi.mp z
    subst e
    rw [decide_eq_true z]
    exact kR _ _ S1 H1 hx st1 p1 (.bl _)
  · rw [decide_eq_false z]
    have hx : R (.d (.bool true)) := by
      cases x with
      | exc _ _ => exact hx
      | well => exact hx
      | d x => cases x <;> first | exact hx | exact absurd (hi.mpr rfl) z
    exact kR _ _ S1 H1 hx st1 p1 (.bl _)

/-! ### chains -/
theorem jchain {r r' : R2} {gg gg' : DV → DV → (DV → Prop) → Prop} (hr : OpD X.K r gg) (hr' : OpD X.K r' gg') {Q : VK} {σ : L2.St} {H : Hp} (hq : rdE X.K n W (κ + (κ' + κ2)) (dChain gg gg' f h g) σ H Q) :
    tChain r r' (rdO X.K n W κ f) (rdO X.K n W κ' h) (rdO X.K n W κ2 g) σ H Q := by
  obtain ⟨m, S, ρ, R, Er, st, hf, kR, kE⟩ := hq
  refine ⟨m + (κ' + κ2), S, ρ, _, Er, st_split st, hf, fun x v S1 H1 hx st1 p1 d1 => ?_, fun c x cls dx S' H' e s' er => kE c x cls dx S' H' e (st_down s') er⟩
  refine ⟨m + κ2, S1, ρ, _, Er, st_split st1, hx, fun y u S2 H2 hy st2 p2 d2 => ?_, fun c x cls dx S' H' e s' er q => kE c x cls dx S' H' e (st_down s') er (p1.sS.trans q)⟩
  refine hr n S2 H2 x y v u _ _ st2.wd.sm (d1.post p2) d2 hy fun z w S3 H3 hz g3 dz => ?_
  obtain ⟨k, rfl, rfl, hz⟩ := bool_of dz hz
  · refine ⟨k, rfl, ?_⟩
    cases k with
    | true =>
      show rdO X.K n W κ2 g σ H3 fun w' H4 => r' u w' H4 Q
      refine ⟨m, S3, ρ, _, Er, st2.grow g3, hz, fun y4 w4 S4 H4 h4 st4 p4 d4 => ?_, ke_af ((p1.trans p2).trans g3.po.wk).sS kE⟩
      exact hr' n S4 H4 y y4 u w4 R Q st4.wd.sm ((d2.post g3.po.wk).post p4) d4 h4 fun z5 w5 S5 H5 h5 g5 d5 => kR z5 w5 S5 H5 h5 (st4.grow g5) ((((p1.trans p2).trans g3.po.wk).trans p4).trans g5.po.wk) d5
    | false =>
      show Q (.bl false) H3
      exact kR _ _ S3 H3 hz (st_down (st2.grow g3)) ((p1.trans p2).trans g3.po.wk) (.bl _)
theorem je_chain {op op' : CmpOp} {r r' : R2} {gg gg' : DV → DV → (DV → Prop) → Prop} (ho : OpR X (compareOp op) r) (hr : OpD X.K r gg) (ho' : OpR X (compareOp op') r') (hr' : OpD X.K r' gg')
    (ha : JO X n W κ a f) (hb : JO X n W κ' b h) (hc : JO X n W κ2 c g) (hm : lastMarks [op, op'] [b, c] = false) : JE X n W (κ + (κ' + κ2)) (.Compare a [op, op'] [b, c] pos) (dChain gg gg' f h g) :=
  PE.to (pe_chain ho ho' ha hb hc hm) fun σ H Q hq => jchain hr hr' hq

/-! ### tests -/
theorem jt_of {t0 : TE} (hp : PT X e (tTest t0)) (hq : ∀ σ H Q, rdE X.K n W κ f σ H Q → t0 σ H Q) : JT X n W κ e (tVal f) := by
  refine PT.to hp fun σ H Q ⟨m, S, ρ, R, Er, st, hf, kR, kE⟩ => hq σ H _ ⟨m, S, ρ, _, Er, st, hf, fun x v S1 H1 hx st1 p1 d1 => ?_, kE⟩
  obtain ⟨k, rfl, rfl, hz⟩ := bool_of d1 hx
  exact ⟨k, rfl, kR k S1 H1 hz st1 p1⟩
theorem jt_cmp {op : CmpOp} {r : R2} {gg : DV → DV → (DV → Prop) → Prop} (ho : OpR X (compareOp op) r) (hr : OpD X.K r gg) (ha : JO X n W κ a f) (hb : JO X n W κ' b h) (hm : behindInMarks op b = false) :
    JT X n W (κ + κ') (.Compare a [op] [b] pos) (tVal (d2 gg f h)) := jt_of (pt_cmpR ho ha hb hm) fun σ H Q hq => j2 hr rfl hq
theorem jt_chain {op op' : CmpOp} {r r' : R2} {gg gg' : DV → DV → (DV → Prop) → Prop} (ho : OpR X (compareOp op) r) (hr : OpD X.K r gg) (ho' : OpR X (compareOp op') r') (hr' : OpD X.K r' gg')
    (ha : JO X n W κ a f) (hb : JO X n W κ' b h) (hc : JO X n W κ2 c g) (hm : lastMarks [op, op'] [b, c] = false) : JT X n W (κ + (κ' + κ2)) (.Compare a [op, op'] [b, c] pos) (tVal (dChain gg gg' f h g)) :=
  jt_of (pt_chain ho ho' ha hb hc hm) fun σ H Q hq => jchain hr hr' hq
/-- an expression whose value is True or False, as a test -/
theorem jt_val (he : JE X n W κ e f) (hw : ∀ whole, isTrue e X.env whole = (do let v ← whole; standAt e.pos; holding [v] (truthy v))) : JT X n W κ e (tVal f) := by
  refine PT.to (pt_val he hw) fun σ H Q ⟨m, S, ρ, R, Er, st, hf, kR, kE⟩ => ⟨m, S, ρ, _, Er, st, hf, fun x v S1 H1 hx st1 p1 d1 => ?_, kE⟩
  obtain ⟨k, rfl, rfl, hz⟩ := bool_of d1 hx
  exact ⟨k, rfl, kR k S1 H1 hz st1 p1⟩
theorem jt_isN {j : Nat} {p' : Pos} (ha : JO X n W κ a f) : JT X n W κ (.Compare a [.Is] [.Constant .none j p'] pos) (tVal (d1 gIsN f)) := by
  refine PT.to (pt_cmp (pc_isN ha)) fun σ H Q ⟨m, S, ρ, R, Er, st, hf, kR, kE⟩ => ⟨m, S, ρ, _, Er, st, hf, fun x v S1 H1 hx st1 p1 d1 => ⟨_, rfl, ?_⟩, kE⟩
  have hi := non_iff d1
  show Q (decide (v = .non)) H1
  by_cases z : v = .non
  · have e := hi.mp z
    subst e
    rw [decide_eq_true z]
    exact kR _ S1 H1 hx st1 p1
  · rw [decide_eq_false z]
    have hx : R false := by
      cases x with
      | exc _ _ => exact hx
      | well => exact hx
      | d x => cases x <;> first | exact hx | exact absurd (hi.mpr rfl) z
    exact kR _ S1 H1 hx st1 p1
theorem jt_notN {j : Nat} {p' : Pos} (ha : JO X n W κ a f) : JT X n W κ (.Compare a [.IsNot] [.Constant .none j p'] pos) (tVal (d1 gNotN f)) := by
  refine PT.to (pt_cmp (pc_notN ha)) fun σ H Q ⟨m, S, ρ, R, Er, st, hf, kR, kE⟩ => ⟨m, S, ρ, _, Er, st, hf, fun x v S1 H1 hx st1 p1 d1 => ⟨_, rfl, ?_⟩, kE⟩
  have hi := non_iff d1
  show Q (!decide (v = .non)) H1
  by_cases z : v = .non
  · have e := hi.mp z
    subst e
    rw [decide_eq_true z]
    exact kR _ S1 H1 hx st1 p1
  · rw [decide_eq_false z]
    have hx : R true := by
      cases x with
      | exc _ _ => exact hx
      | well => exact hx
      | d x => cases x <;> first | exact hx | exact absurd (hi.mpr rfl) z
    exact kR _ S1 H1 hx st1 p1
theorem jt_not (ha : JT X n W κ a t) : JT X n W κ (.UnaryOp .Not a pos) (tNot' t) :=
  PT.to (pt_not ha) fun σ H Q ⟨m, S, ρ, R, Er, st, hf, kR, kE⟩ => ⟨m, S, ρ, _, Er, st, hf, fun b S1 H1 hx st1 p1 => kR _ S1 H1 hx st1 p1, kE⟩
abbrev JW (X : Cx) (n : En) (W : WX) (κ : Nat) (e : Expr) (f : DT) : Prop := PW X e (rdT X.K n W κ f)
theorem jw_pt (ha : JW X n W κ a t) : JT X n W κ a t := PW.pt ha
theorem jw_and1 (ha : JT X n W κ a t) : JW X n W κ (.BoolOp .And [a] pos) t := pw_and1 ha
theorem jw_or1 (ha : JT X n W κ a t) : JW X n W κ (.BoolOp .Or [a] pos) t := pw_or1 ha
theorem jw_and (ha : JT X n W κ a t) (hb : JW X n W κ' (.BoolOp .And (b :: es) pos) u) : JW X n W (κ + κ') (.BoolOp .And (a :: b :: es) pos) (tAnd' t u) := by
  refine PW.to (pw_and ha hb) fun σ H Q ⟨m, S, ρ, R, Er, st, hf, kR, kE⟩ => ⟨m + κ', S, ρ, _, Er, st_split st, hf, fun b S1 H1 hx st1 p1 => ?_, fun c x cls dx S' H' e s' er => kE c x cls dx S' H' e (st_down s') er⟩
  cases b with
  | true =>
    show rdT X.K n W κ' u σ H1 Q
    exact ⟨m, S1, ρ, R, Er, st1, hx, fun b S2 H2 hx st2 p2 => kR b S2 H2 hx st2 (p1.trans p2), ke_af p1.sS kE⟩
  | false =>
    show Q false H1
    exact kR _ S1 H1 hx (st_down st1) p1
theorem jw_or (ha : JT X n W κ a t) (hb : JW X n W κ' (.BoolOp .Or (b :: es) pos) u) : JW X n W (κ + κ') (.BoolOp .Or (a :: b :: es) pos) (tOr' t u) := by
  refine PW.to (pw_or ha hb) fun σ H Q ⟨m, S, ρ, R, Er, st, hf, kR, kE⟩ => ⟨m + κ', S, ρ, _, Er, st_split st, hf, fun b S1 H1 hx st1 p1 => ?_, fun c x cls dx S' H' e s' er => kE c x cls dx S' H' e (st_down s') er⟩
  cases b with
  | false =>
    show rdT X.K n W κ' u σ H1 Q
    exact ⟨m, S1, ρ, R, Er, st1, hx, fun b S2 H2 hx st2 p2 => kR b S2 H2 hx st2 (p1.trans p2), ke_af p1.sS kE⟩
  | true =>
    show Q true H1
    exact kR _ S1 H1 hx (st_down st1) p1
/-! and, or, not, if else as values -/
theorem je_one {op : BoolOp} (ha : JE X n W κ a f) : JE X n W κ (.BoolOp op [a] pos) f := pe_one ha
theorem je_and (ha : JE X n W κ a f) (hb : JE X n W κ' (.BoolOp .And (b :: es) pos) h) : JE X n W (κ + κ') (.BoolOp .And (a :: b :: es) pos) (dAnd f h) := by
  refine PE.to (pe_and ha hb) fun σ H Q ⟨m, S, ρ, R, Er, st, hf, kR, kE⟩ => ⟨m + κ', S, ρ, _, Er, st_split st, hf, fun x v S1 H1 hx st1 p1 d1 => ?_, fun c x cls dx S' H' e s' er => kE c x cls dx S' H' e (st_down s') er⟩
  obtain ⟨k, rfl, rfl, hz⟩ := bool_of d1 hx
  · refine ⟨k, rfl, ?_⟩
    cases k with
    | true =>
      show rdE X.K n W κ' h σ H1 Q
      exact ⟨m, S1, ρ, R, Er, st1, hz, fun x v S2 H2 hx st2 p2 d2 => kR x v S2 H2 hx st2 (p1.trans p2) d2, ke_af p1.sS kE⟩
    | false =>
      show Q (.bl false) H1
      exact kR _ _ S1 H1 hz (st_down st1) p1 (.bl _)
theorem je_or (ha : JE X n W κ a f) (hb : JE X n W κ' (.BoolOp .Or (b :: es) pos) h) : JE X n W (κ + κ') (.BoolOp .Or (a :: b :: es) pos) (dOr f h) := by
  refine PE.to (pe_or ha hb) fun σ H Q ⟨m, S, ρ, R, Er, st, hf, kR, kE⟩ => ⟨m + κ', S, ρ, _, Er, st_split st, hf, fun x v S1 H1 hx st1 p1 d1 => ?_, fun c x cls dx S' H' e s' er => kE c x cls dx S' H' e (st_down s') er⟩
  obtain ⟨k, rfl, rfl, hz⟩ := bool_of d1 hx
  · refine ⟨k, rfl, ?_⟩
    cases k with
    | false =>
      show rdE X.K n W κ' h σ H1 Q
      exact ⟨m, S1, ρ, R, Er, st1, hz, fun x v S2 H2 hx st2 p2 d2 => kR x v S2 H2 hx st2 (p1.trans p2) d2, ke_af p1.sS kE⟩
    | true =>
      show Q (.bl true) H1
      exact kR _ _ S1 H1 hz (st_down st1) p1 (.bl _)
theorem je_not (ha : JE X n W κ a f) : JE X n W κ (.UnaryOp .Not a pos) (dNot f) := by
  refine PE.to (pe_not ha) fun σ H Q ⟨m, S, ρ, R, Er, st, hf, kR, kE⟩ => ⟨m, S, ρ, _, Er, st, hf, fun x v S1 H1 hx st1 p1 d1 => ?_, kE⟩
  obtain ⟨k, rfl, rfl, hz⟩ := bool_of d1 hx
  exact ⟨k, rfl, kR _ _ S1 H1 hz st1 p1 (.bl _)⟩
theorem je_if (hc : JT X n W κ c t) (ha : JE X n W κ' a f) (hb : JE X n W κ2 b h) : JE X n W (κ + (κ' + κ2)) (.IfExp c a b pos) (dIf t f h) := by
  refine PE.to (pe_ifExp hc ha hb) fun σ H Q ⟨m, S, ρ, R, Er, st, hf, kR, kE⟩ => ⟨m + (κ' + κ2), S, ρ, _, Er, st_split st, hf, fun k S1 H1 hx st1 p1 => ?_, fun c x cls dx S' H' e s' er => kE c x cls dx S' H' e (st_down s') er⟩
  cases k with
  | true =>
    show rdE X.K n W κ' f σ H1 Q
    exact ⟨m, S1, ρ, R, Er, st1.le (by omega), hx, fun x v S2 H2 hx st2 p2 d2 => kR x v S2 H2 hx st2 (p1.trans p2) d2, ke_af p1.sS kE⟩
  | false =>
    show rdE X.K n W κ2 h σ H1 Q
    exact ⟨m, S1, ρ, R, Er, st1.le (by omega), hx, fun x v S2 H2 hx st2 p2 d2 => kR x v S2 H2 hx st2 (p1.trans p2) d2, ke_af p1.sS kE⟩

/-! ### arguments, tuples, lists -/
theorem ja_nil : JA X n W 0 [] aNil := PA.to pa_nil fun σ H Q ⟨m, S, ρ, R, Er, st, hf, kR, _⟩ => kR [] [] S H hf st Post.refl .nil
theorem ja_cons {fr : DA} (ha : JE X n W κ e f) (hb : JA X n W κ' es fr) (hs : starEach (e :: es) X.env = (false, eval e X.env) :: starEach es X.env) : JA X n W (κ + κ') (e :: es) (aCons f fr) := by
  refine PA.to (pa_cons ha hb hs) fun σ H Q ⟨m, S, ρ, R, Er, st, hf, kR, kE⟩ => ⟨m + κ', S, ρ, _, Er, st_split st, hf, fun x v S1 H1 hx st1 p1 d1 => ?_, fun c x cls dx S' H' e s' er => kE c x cls dx S' H' e (st_down s') er⟩
  exact ⟨m, S1, ρ, _, Er, st1, hx, fun xs vs S2 H2 hx st2 p2 d2 => kR _ _ S2 H2 hx st2 (p1.trans p2) (.cons (dv_mono p2.sS d1) d2), ke_af p1.sS kE⟩
/-- arguments that may be one's own -/
def rdAO (K : Frag) (n : En) (W : WX) (κ : Nat) (f : DA) : TA := fun σ H Q => ∃ m S ρ R Er, StOk K n (m + κ) S H σ ρ ∧ f ρ R Er ∧
  (∀ xs vs S' H', R xs → StOk K n m S' H' σ ρ → Post n.wl S H S' H' → RdAll K n S' H' vs xs → Q vs H') ∧
  KErr K n W m S σ ρ Er
abbrev JAO (X : Cx) (n : En) (W : WX) (κ : Nat) (es : List Expr) (f : DA) : Prop := PA X es (rdAO X.K n W κ f)
theorem jo_nil : JAO X n W 0 [] aNil := PA.to pa_nil fun σ H Q ⟨m, S, ρ, R, Er, st, hf, kR, _⟩ => kR [] [] S H hf st Post.refl .nil
theorem jo_cons {fr : DA} (ha : JO X n W κ e f) (hb : JAO X n W κ' es fr) (hs : starEach (e :: es) X.env = (false, eval e X.env) :: starEach es X.env) : JAO X n W (κ + κ') (e :: es) (aCons f fr) := by
  refine PA.to (pa_cons ha hb hs) fun σ H Q ⟨m, S, ρ, R, Er, st, hf, kR, kE⟩ => ⟨m + κ', S, ρ, _, Er, st_split st, hf, fun x v S1 H1 hx st1 p1 d1 => ?_, fun c x cls dx S' H' e s' er => kE c x cls dx S' H' e (st_down s') er⟩
  exact ⟨m, S1, ρ, _, Er, st1, hx, fun xs vs S2 H2 hx st2 p2 d2 => kR _ _ S2 H2 hx st2 (p1.trans p2) (.cons (d1.post p2) d2), ke_af p1.sS kE⟩
theorem allD_of {K : Frag} {S : Hp} {vs : List V} {xs : List DV} {P : List PD → Prop} (d : DvAll K n S vs xs) (h : allD xs P) : ∃ ds, DqAll K S vs ds ∧ P ds := by
  induction d generalizing P with
  | nil => exact ⟨[], .nil, h⟩
  | @cons v vs x xs a t ih =>
    cases x with
    | exc _ _ => exact h.elim
    | well _ => exact h.elim
    | d x =>
      obtain ⟨ds, h1, h2⟩ := ih (P := fun ys => P (x :: ys)) h
      exact ⟨x :: ds, .cons a h1, h2⟩
theorem je_tup {x1 : Nat} (ha : JA X n W κ es fa) : JE X n W κ (.Tuple es x1 pos) (dTup fa) := by
  refine PE.to (pe_tup ha) fun σ H Q ⟨m, S, ρ, R, Er, st, hf, kR, kE⟩ => ⟨m, S, ρ, _, Er, st, hf, fun xs vs S1 H1 hx st1 p1 d1 => ?_, kE⟩
  obtain ⟨ds, dd, hl, hr⟩ := allD_of d1 hx
  refine ⟨line5 (by rw [dd.len]; exact hl), fun p hp => ?_⟩
  have g := Grow.new (o := .tup vs) st1.wd.sm hp
  exact kR _ _ _ _ hr (st1.grow g) (p1.trans g.po.wk) (dq_tup upd_same (dqAll_mono g.po.sS dd))
theorem jn_lst (ha : JA X n W κ es fa) : JN X n W κ (.List es pos) (nLst fa) := by
  refine PE.to (pe_lst ha) fun σ H Q ⟨m, S, ρ, R, Er, st, hf, kR, kE⟩ => ⟨m, S, ρ, _, Er, st, hf, fun xs vs S1 H1 hx st1 p1 d1 => ?_, kE⟩
  obtain ⟨ds, dd, hl, hr⟩ := allD_of d1 hx
  refine ⟨line5 (by rw [dd.len]; exact hl), fun p hp => ?_⟩
  have g := Grow.beside (o := .lst vs) st1.wd.sm hp
  have hp0 : H p = none := by
    cases q : H p with
    | none => rfl
    | some o => exact absurd hp (p1.al p (by rw [q]; exact Option.some_ne_none _))
  exact kR ds p vs _ _ hr (st1.grow g) (p1.trans g.po.wk) hp0 (st1.wd.sm.free hp) upd_same dd

/-! ### calls -/
theorem je_bi {id : String} {x : Str} {p : Pos} {r : List V → Hp → VK → Prop} {gg : List DV → (DV → Prop) → Prop} (hc : CallR X (.builtin id) r) (hr : CaD X.K r gg) (hg : Gl X x) (hm : X.mg x = none) (hv : bootBuiltins x = some (.builtin id))
    (ha : JAO X n W κ (e :: es) fa) (hn : x ≠ "__name__") (hdb : (x == ("__debug__" : Str)) = false) (he : starEach (e :: es) X.env = (false, eval e X.env) :: starEach es X.env) (hpl : (backTo pos (starEach es X.env)).any (·.1) = false) :
    JE X n W κ (.Call (.Name x p) (e :: es) [] pos) (dBi gg fa) := by
  refine PE.to (pe_callB hc hg hm hv ha hn hdb he hpl) fun σ H Q ⟨m, S, ρ, R, Er, st, hf, kR, kE⟩ => ⟨m, S, ρ, _, Er, st, hf, fun xs vs S1 H1 hx st1 p1 d1 => ?_, kE⟩
  exact hr n S1 H1 xs vs R Q st1.wd.sm d1 hx fun z w S3 H3 hz g dz => kR z w S3 H3 hz (st1.grow g) (p1.trans g.po.wk) dz
theorem je_ty {T : String} {x : Str} {p : Pos} {r : List V → Hp → VK → Prop} {gg : List DV → (DV → Prop) → Prop} (hc : CallR X (.type T) r) (hr : CaD X.K r gg) (hg : Gl X x) (hm : X.mg x = none) (hv : bootBuiltins x = some (.type T))
    (ha : JAO X n W κ (e :: es) fa) (hn : x ≠ "__name__") (hdb : (x == ("__debug__" : Str)) = false) (he : starEach (e :: es) X.env = (false, eval e X.env) :: starEach es X.env) (hpl : (backTo pos (starEach es X.env)).any (·.1) = false) :
    JE X n W κ (.Call (.Name x p) (e :: es) [] pos) (dBi gg fa) := by
  refine PE.to (pe_callTy hc hg hm hv ha hn hdb he hpl) fun σ H Q ⟨m, S, ρ, R, Er, st, hf, kR, kE⟩ => ⟨m, S, ρ, _, Er, st, hf, fun xs vs S1 H1 hx st1 p1 d1 => ?_, kE⟩
  exact hr n S1 H1 xs vs R Q st1.wd.sm d1 hx fun z w S3 H3 hz g dz => kR z w S3 H3 hz (st1.grow g) (p1.trans g.po.wk) dz
/-- a built-in function that the module names -/
theorem je_bif {id : String} {x : Str} {p : Pos} {r : List V → Hp → VK → Prop} {gg : List DV → (DV → Prop) → Prop} (hc : CallR X (.builtin id) r) (hr : CaD X.K r gg) (hg : Gl X x) (hm : X.mg x = some (.builtin id))
    (ha : JAO X n W κ (e :: es) fa) (hdb : (x == ("__debug__" : Str)) = false) (he : starEach (e :: es) X.env = (false, eval e X.env) :: starEach es X.env) (hpl : (backTo pos (starEach es X.env)).any (·.1) = false) :
    JE X n W κ (.Call (.Name x p) (e :: es) [] pos) (dBi gg fa) := by
  refine PE.to (pe_callBfun hc hg hm ha hdb he hpl) fun σ H Q ⟨m, S, ρ, R, Er, st, hf, kR, kE⟩ => ⟨m, S, ρ, _, Er, st, hf, fun xs vs S1 H1 hx st1 p1 d1 => ?_, kE⟩
  exact hr n S1 H1 xs vs R Q st1.wd.sm d1 hx fun z w S3 H3 hz g dz => kR z w S3 H3 hz (st1.grow g) (p1.trans g.po.wk) dz
end
end Wb
/-! Wb6: calls of one's own defs, isinstance, walks, targets, comprehensions. -/
namespace Wb
open PySem PySem.Spec PyProof.Rows L2

/-! ### the promise of a def, by its meaning g; κ: how often it draws at most -/
def spD (K : Frag) (CT : Nat → Addr) (κ : Nat) (g : Fn) : Sp := fun vs H Q E => ∃ wl m S xs R Er, Wd wl (m + κ) S H ∧ DvAll K (En.of CT wl S H) S vs xs ∧ g xs R Er ∧
  (∀ x v S' H', R x → Wd wl m S' H' → Post wl S H S' H' → DvOk K (En.of CT wl S H) S' v x → Q v H') ∧
  (∀ c x cls dx S' H', Er c x → Wd wl m S' H' → Post wl S H S' H' → ErrOk K (En.of CT wl S H) S' H' c x cls dx → E cls dx H')
theorem spD_imp {K : Frag} {CT : Nat → Addr} {κ : Nat} {g g' : Fn} (h : ∀ xs R Er, g' xs R Er → g xs R Er) : ∀ vs H Q E, spD K CT κ g' vs H Q E → spD K CT κ g vs H Q E :=
  fun vs H Q E ⟨wl, m, S, xs, R, Er, w, d, hg, kR, kE⟩ => ⟨wl, m, S, xs, R, Er, w, d, h _ _ _ hg, kR, kE⟩
theorem dv_en {K : Frag} {n n' : En} {S : Hp} {v : V} (h1 : n'.CT = n.CT) (h2 : n'.wl = n.wl) : ∀ {x : DV}, DvOk K n S v x → DvOk K n' S v x
  | .d _, h => h
  | .exc _ _, ⟨a, dd, v', e1, e2, e3, e4⟩ => ⟨a, dd, v', e1, by rw [h1]; exact e2, e3, e4⟩
  | .well none, ⟨p, e1, e2⟩ => ⟨p, e1, by rw [h2]; exact e2⟩
  | .well (some _), h => h
theorem dvAll_en {K : Frag} {n n' : En} {S : Hp} (h1 : n'.CT = n.CT) (h2 : n'.wl = n.wl) : ∀ {vs : List V} {xs : List DV}, DvAll K n S vs xs → DvAll K n' S vs xs
  | _, _, .nil => .nil
  | _, _, .cons h t => .cons (dv_en h1 h2 h) (dvAll_en h1 h2 t)
/-- a def as it stands: where, its promise -/
structure DefG (P : Program) (w : World) (K : Frag) (mg : Str → Option Value) (base : Heap) (x : Str) (ps : List Str) (k : Nat) (f : Addr) (fd : FuncData) (sp : Sp) : Prop where
  fn : FnG P w K mg base k f fd ps sp
  mgx : mg x = some (.ref f)
  kp : PySem.W.keepIn K (.ref f) = true
  b : Binds K fd ps []
theorem DefG.mono {P : Program} {w : World} {K : Frag} {mg : Str → Option Value} {base : Heap} {x : Str} {ps : List Str} {j k : Nat} {f : Addr} {fd : FuncData} {sp : Sp} (d : DefG P w K mg base x ps j f fd sp) (h : j ≤ k) : DefG P w K mg base x ps k f fd sp :=
  ⟨d.fn.mono h, d.mgx, d.kp, d.b⟩
theorem DefG.imp {P : Program} {w : World} {K : Frag} {mg : Str → Option Value} {base : Heap} {x : Str} {ps : List Str} {k : Nat} {f : Addr} {fd : FuncData} {sp sp' : Sp} (d : DefG P w K mg base x ps k f fd sp) (h : ∀ vs H Q E, sp' vs H Q E → sp vs H Q E) :
    DefG P w K mg base x ps k f fd sp' := ⟨d.fn.imp h, d.mgx, d.kp, d.b⟩
section
variable {X : Cx} {n : En} {W : WX} {κ κ' κ2 κf k k' : Nat} {e a b c : Expr} {es : List Expr} {pos : Pos} {f h g : DE} {fa fk : DA} {t u : DT} {G : Fn}
theorem call_spD {vs : List V} {xs : List DV} {m : Nat} {S H : Hp} {σ : L2.St} {ρ : List Sl} {R : DV → Prop} {Er : EK} {Q : VK} (st : StOk X.K n (m + κf) S H σ ρ) (d : DvAll X.K n S vs xs) (hg : G xs R Er)
    (kR : ∀ x v S' H', R x → StOk X.K n m S' H' σ ρ → Post n.wl S H S' H' → DvOk X.K n S' v x → Q v H') (kE : KErr X.K n W m S σ ρ Er) :
    spD X.K n.CT κf G vs H Q fun cls dx H' => W cls dx σ H' :=
  ⟨n.wl, m, S, xs, R, Er, st.wd, dvAll_en (n := n) (n' := En.of n.CT n.wl S H) rfl rfl d, hg, fun x v S' H' hx w p dx => kR x v S' H' hx (st.step p w) p (dv_en (n' := n) rfl rfl dx), fun c x cls dx S' H' hx w p er => kE c x cls dx S' H' hx (st.step p w) er p.sS⟩
theorem je_call {x : Str} {ps : List Str} {ff : Addr} {fd : FuncData} {p : Pos} (F : DefG X.prog X.w X.K X.mg X.base x ps k ff fd (spD X.K n.CT κf G)) (C : Cok X n W k') (hk : k ≤ k') (ha : JA X n W κ (e :: es) fa) (hg : Gl X x)
    (hdb : (x == ("__debug__" : Str)) = false) (he : starEach (e :: es) X.env = (false, eval e X.env) :: starEach es X.env) (hpl : (backTo pos (starEach es X.env)).any (·.1) = false) :
    JE X n W (κ + κf) (.Call (.Name x p) (e :: es) [] pos) (dCall G fa) := by
  refine PE.to (pe_callG F.fn C.hg (C.hr.mono hk) C.tk hg F.mgx F.kp F.b ha hdb he hpl) fun σ H Q ⟨m, S, ρ, R, Er, st, hf, kR, kE⟩ => ⟨m + κf, S, ρ, _, Er, st_split st, hf, fun xs vs S1 H1 hx st1 p1 d1 => ?_, fun c x cls dx S' H' e s' er => kE c x cls dx S' H' e (st_down s') er⟩
  exact call_spD st1 d1 hx (fun x v S' H' hx s' p' => kR x v S' H' hx s' (p1.trans p')) (ke_af p1.sS kE)
theorem je_call0 {x : Str} {ff : Addr} {fd : FuncData} {p : Pos} (F : DefG X.prog X.w X.K X.mg X.base x [] k ff fd (spD X.K n.CT κf G)) (C : Cok X n W k') (hk : k ≤ k') (hg : Gl X x) (hdb : (x == ("__debug__" : Str)) = false) :
    JE X n W κf (.Call (.Name x p) [] [] pos) (dCall G aNil) := by
  refine PE.to (pe_callG0 F.fn C.hg (C.hr.mono hk) C.tk hg F.mgx F.kp F.b hdb) fun σ H Q ⟨m, S, ρ, R, Er, st, hf, kR, kE⟩ => ?_
  exact call_spD (vs := []) (xs := []) st .nil hf kR kE
/-- keywords -/
theorem jk_of {kws : List Keyword} {ta : TA} (h : PK X kws ta) {ta' : TA} (i : ∀ σ H Q, ta' σ H Q → ta σ H Q) : PK X kws ta' := ⟨fun pos pins s σ H Q I q => h.run pos pins s σ H Q I (i σ H Q q)⟩
abbrev JK (X : Cx) (n : En) (W : WX) (κ : Nat) (kws : List Keyword) (f : DA) : Prop := PK X kws (rdA X.K n W κ f)
theorem jk_nil : JK X n W 0 [] aNil := jk_of pk_nil fun σ H Q ⟨m, S, ρ, R, Er, st, hf, kR, _⟩ => kR [] [] S H hf st Post.refl .nil
theorem jk_cons {kws : List Keyword} {fr : DA} {nm : Option Str} {kpos : Pos} (ha : JE X n W κ e f) (hb : JK X n W κ' kws fr) : JK X n W (κ + κ') (⟨nm, e, kpos⟩ :: kws) (aCons f fr) := by
  refine jk_of (pk_cons ha hb) fun σ H Q ⟨m, S, ρ, R, Er, st, hf, kR, kE⟩ => ⟨m + κ', S, ρ, _, Er, st_split st, hf, fun x v S1 H1 hx st1 p1 d1 => ?_, fun c x cls dx S' H' e s' er => kE c x cls dx S' H' e (st_down s') er⟩
  exact ⟨m, S1, ρ, _, Er, st1, hx, fun xs vs S2 H2 hx st2 p2 d2 => kR _ _ S2 H2 hx st2 (p1.trans p2) (.cons (dv_mono p2.sS d1) d2), ke_af p1.sS kE⟩
/-- a call's positional values and keywords' values in the parameters' order -/
def dCallK (G : Fn) (gD : List DV → List DV → List DV) (fa fk : DA) : DE := fun ρ R E => fa ρ (fun xs => fk ρ (fun ys => G (gD xs ys) R E) E) E
theorem je_callK {x : Str} {ps ks : List Str} {ff : Addr} {fd : FuncData} {p : Pos} {kws : List Keyword} {gg : List Value → List Value → List Value} {gV : List V → List V → List V} {gD : List DV → List DV → List DV}
    (F : DefG X.prog X.w X.K X.mg X.base x ps k ff fd (spD X.K n.CT κf G)) (C : Cok X n W k') (hk : k ≤ k') (hb : KBinds X.K fd ps ks gg gV) (hD : ∀ S vs xs zs ys, DvAll X.K n S vs xs → DvAll X.K n S zs ys → DvAll X.K n S (gV vs zs) (gD xs ys))
    (ha : JA X n W κ (e :: es) fa) (hkw : JK X n W κ' kws fk) (hg : Gl X x) (hall : (backToKw pos (keywordEach kws X.env)).all (·.1.isSome) = true)
    (hks : (backToKw pos (keywordEach kws X.env)).filterMap (·.1) = ks) (hdb : (x == ("__debug__" : Str)) = false)
    (he : starEach (e :: es) X.env = (false, eval e X.env) :: starEach es X.env) (hpl : ((backTo pos (starEach (e :: es) X.env)).any (·.1) || (backToKw pos (keywordEach kws X.env)).any (·.1.isNone)) = false) :
    JE X n W (κ + (κ' + κf)) (.Call (.Name x p) (e :: es) kws pos) (dCallK G gD fa fk) := by
  refine PE.to (pe_callGK F.fn C.hg (C.hr.mono hk) C.tk hg F.mgx F.kp hb ha hkw hall hks hdb he hpl) fun σ H Q ⟨m, S, ρ, R, Er, st, hf, kR, kE⟩ => ⟨m + (κ' + κf), S, ρ, _, Er, st_split st, hf, fun xs vs S1 H1 hx st1 p1 d1 => ?_, fun c x cls dx S' H' e s' er => kE c x cls dx S' H' e (st_down s') er⟩
  refine ⟨m + κf, S1, ρ, _, Er, st_split st1, hx, fun ys zs S2 H2 hy st2 p2 d2 => ?_, fun c x cls dx S' H' e s' er q => kE c x cls dx S' H' e (st_down s') er (p1.sS.trans q)⟩
  exact call_spD st2 (hD S2 _ _ _ _ (dvAll_mono p2.sS d1) d2) hy (fun x v S' H' hx s' p' => kR x v S' H' hx s' ((p1.trans p2).trans p')) (ke_af (p1.trans p2).sS kE)
theorem je_callK0 {x : Str} {ps ks : List Str} {ff : Addr} {fd : FuncData} {p : Pos} {kws : List Keyword} {gg : List Value → List Value → List Value} {gV : List V → List V → List V} {gD : List DV → List DV → List DV}
    (F : DefG X.prog X.w X.K X.mg X.base x ps k ff fd (spD X.K n.CT κf G)) (C : Cok X n W k') (hk : k ≤ k') (hb : KBinds X.K fd ps ks gg gV) (hD : ∀ S vs xs zs ys, DvAll X.K n S vs xs → DvAll X.K n S zs ys → DvAll X.K n S (gV vs zs) (gD xs ys))
    (hkw : JK X n W κ' kws fk) (hg : Gl X x) (hall : (backToKw pos (keywordEach kws X.env)).all (·.1.isSome) = true)
    (hks : (backToKw pos (keywordEach kws X.env)).filterMap (·.1) = ks) (hdb : (x == ("__debug__" : Str)) = false) (hpl : (backToKw pos (keywordEach kws X.env)).any (·.1.isNone) = false) :
    JE X n W (κ' + κf) (.Call (.Name x p) [] kws pos) (dCallK G gD aNil fk) := by
  refine PE.to (pe_callGK0 F.fn C.hg (C.hr.mono hk) C.tk hg F.mgx F.kp hb hkw hall hks hdb hpl) fun σ H Q ⟨m, S, ρ, R, Er, st, hf, kR, kE⟩ => ?_
  refine ⟨m + κf, S, ρ, _, Er, st_split st, hf, fun ys zs S2 H2 hy st2 p2 d2 => ?_, fun c x cls dx S' H' e s' er => kE c x cls dx S' H' e (st_down s') er⟩
  exact call_spD st2 (hD S2 [] [] _ _ .nil d2) hy (fun x v S' H' hx s' p' => kR x v S' H' hx s' (p2.trans p')) (ke_af p2.sS kE)

/-! ### isinstance -/
theorem ty_of {K : Frag} {n : En} {S H : Hp} {v : V} {x : PD} (sm : Same S H) (h : RdOk K n S H v (.d x)) : TyX K H v (.type (tyD x)) := by
  have q := h.dq sm
  cases q with
  | non => exact .base .non
  | bl b => exact .base (.bl b)
  | int i => exact .base (.int i)
  | str x => exact .base (.str x)
  | lst h1 _ => exact .base (.lst h1)
  | tup h1 _ =>
    rcases h1 with (h1 | ⟨o, h1⟩) | ⟨o, its, k, e1, e2, _⟩
    · exact .base (.tup h1)
    · exact .fTuple h1
    · exact .kTuple e1 e2
def kitTypes : List String := ["NoneType", "bool", "int", "str", "list", "tuple"]
theorem kit_tyD {K : Frag} {T : String} (hT : (kitTypes.all fun t => decide (kitB t T = some (subTy t T))) = true) (x : PD) (hd : tyD x ≠ "dict") : PySem.W.kitOne K (.type (tyD x)) (.type T) = some (subTy (tyD x) T) := by
  have all : ∀ t ∈ kitTypes, kitB t T = some (subTy t T) := fun t ht => of_decide_eq_true (List.all_eq_true.mp hT t ht)
  refine kit_ty (all _ ?_)
  cases x <;> first | exact absurd rfl hd | (simp [tyD, kitTypes])
theorem tyD_nd {K : Frag} {S : Hp} {v : V} {x : PD} (h : Dq K S v x) : tyD x ≠ "dict" := by
  cases h <;> simp [tyD]
/-- isinstance(e, T), T a built-in class -/
theorem je_isi {x : Str} {T : String} {p p2 : Pos} (hT : (kitTypes.all fun t => decide (kitB t T = some (subTy t T))) = true) (hgI : Gl X "isinstance") (hmI : X.mg "isinstance" = none) (hg : Gl X x) (hm : X.mg x = none) (hv : bootBuiltins x = some (.type T)) (hn : x ≠ "__name__") (hdb : (x == ("__debug__" : Str)) = false)
    (ha : JO X n W κ a f) (he : starEach [a, .Name x p2] X.env = (false, eval a X.env) :: starEach [.Name x p2] X.env) (he2 : starEach [.Name x p2] X.env = (false, eval (.Name x p2) X.env) :: starEach [] X.env)
    (hpl : (backTo pos (starEach [.Name x p2] X.env)).any (·.1) = false) : JE X n W κ (.Call (.Name "isinstance" p) [a, .Name x p2] [] pos) (d1 (gIsi T) f) := by
  refine PE.to (pe_callB call_isi hgI hmI (by decide +kernel) (pa_cons ha (pa_cons (pe_bltn (v := .ty T) hg hm hv rfl hn hdb) pa_nil he2) he) (by decide) (by decide) he hpl) fun σ H Q ⟨m, S, ρ, R, Er, st, hf, kR, kE⟩ => ⟨m, S, ρ, _, Er, st, hf, fun x v S1 H1 hx st1 p1 d1 => ?_, kE⟩
  cases x with
  | exc _ _ => exact hx.elim
  | well => exact hx.elim
  | d x => exact ⟨v, .ty T, _, _, _, rfl, .ty T, ty_of st1.wd.sm d1, kit_tyD hT x (tyD_nd (d1.dq st1.wd.sm)), kR _ _ S1 H1 hx st1 p1 (.bl _)⟩
/-- isinstance(e, C), C a class of errors (number c'), e None or a kept error -/
def gIsE (c' : Nat) (sub : Nat → Nat → Bool) : DV → (DV → Prop) → Prop
  | .d .none, R => R (.d (.bool false))
  | .exc c _, R => R (.d (.bool (sub c c')))
  | _, _ => False
theorem je_isE {x : Str} {C : Addr} {c' : Nat} {sub : Nat → Nat → Bool} {p p2 : Pos} (hgI : Gl X "isinstance") (hmI : X.mg "isinstance" = none) (hg : Gl X x) (hm : X.mg x = some (.ref C)) (hdb : (x == ("__debug__" : Str)) = false)
    (hN : PySem.W.kitOne X.K (.type "NoneType") (.ref C) = some false) (hI : ∀ c, IsC X.K (n.CT c)) (hL : ∀ c, PySem.W.kitOne X.K (.ref (n.CT c)) (.ref C) = some (sub c c'))
    (ha : JO X n W κ a f) (he : starEach [a, .Name x p2] X.env = (false, eval a X.env) :: starEach [.Name x p2] X.env) (he2 : starEach [.Name x p2] X.env = (false, eval (.Name x p2) X.env) :: starEach [] X.env)
    (hpl : (backTo pos (starEach [.Name x p2] X.env)).any (·.1) = false) : JE X n W κ (.Call (.Name "isinstance" p) [a, .Name x p2] [] pos) (d1 (gIsE c' sub) f) := by
  have call : CallR X (.builtin "isinstance") (fun xs H Q => rIsi X.K xs H Q ∨ rIsK X.K xs H Q) := fun pins s σ H xs us Q I r h => h.elim (call_isi pins s σ H xs us Q I r) (call_isK pins s σ H xs us Q I r)
  refine PE.to (pe_callB call hgI hmI (by decide +kernel) (pa_cons ha (pa_cons (pe_glob (v := .ref C) hg hm rfl hdb) pa_nil he2) he) (by decide) (by decide) he hpl) fun σ H Q ⟨m, S, ρ, R, Er, st, hf, kR, kE⟩ => ⟨m, S, ρ, _, Er, st, hf, fun x v S1 H1 hx st1 p1 d1 => ?_, kE⟩
  cases x with
  | well => exact hx.elim
  | d x =>
    cases x with
    | none => exact .inl ⟨v, .ref C, _, _, _, rfl, .own C, ty_of st1.wd.sm d1, hN, kR _ _ S1 H1 hx st1 p1 (.bl _)⟩
    | _ => exact hx.elim
  | exc c x =>
    rcases d1 with ⟨aa, dd, v', rfl, h1, h2, _⟩ | ⟨_, _, _, _, e, _⟩
    · exact .inr ⟨aa, _, dd, _, .ref C, .ref C, _, rfl, st1.wd.sm _ _ h1, st1.wd.sm _ _ h2, hI c, fun u r => r, hL c, kR _ _ S1 H1 hx st1 p1 (.bl _)⟩
    · cases e
/-- e.value -/
def gVal : DV → (DV → Prop) → Prop
  | .exc _ x, R => R (.d x)
  | _, _ => False
theorem je_value {D fI : Addr} (hE : ∀ c, ErrCls X.K D fI (n.CT c)) (ha : JO X n W κ a f) (hb : attributeBase a "value" X.env (eval a X.env) = eval a X.env) : JE X n W κ (.Attribute a "value" pos) (d1 gVal f) := by
  refine PE.to (pe_value (D := D) (fI := fI) ha hb) fun σ H Q ⟨m, S, ρ, R, Er, st, hf, kR, kE⟩ => ⟨m, S, ρ, _, Er, st, hf, fun x v S1 H1 hx st1 p1 d1 => ?_, kE⟩
  cases x with
  | well => exact hx.elim
  | d x => exact hx.elim
  | exc c x =>
    rcases d1 with ⟨aa, dd, v', rfl, h1, h2, h3⟩ | ⟨_, _, _, _, e, _⟩
    · exact ⟨aa, _, dd, v', rfl, hE c, st1.wd.sm _ _ h1, st1.wd.sm _ _ h2, kR _ _ S1 H1 hx st1 p1 h3⟩
    · cases e

/-! ### walks -/
/-- J goes through xs, wherever the data of S stand -/
def ItD (K : Frag) (J : It) (xs : List PD) (S : Hp) : Prop := ∀ S' H', Same S S' → Same S' H' → (∀ i, i < xs.length → J.go i H') ∧ (∀ i, i = xs.length → J.stop i H') ∧
  ∀ i x H'', i < xs.length → J.yld i H' x H'' → ∃ S'' d, Grow S' H' S'' H'' ∧ xs[i]? = some d ∧ Dq K S'' x d
def rdI (K : Frag) (n : En) (W : WX) (κ : Nat) (f : DN) : TI := fun σ H Rr => ∃ m S ρ R Er, StOk K n (m + κ) S H σ ρ ∧ f ρ R Er ∧
  (∀ xs J S' H', R xs → StOk K n m S' H' σ ρ → Post n.wl S H S' H' → ItD K J xs S' → Rr J H') ∧
  KErr K n W m S σ ρ Er
abbrev JI (X : Cx) (n : En) (W : WX) (κ : Nat) (tg e : Expr) (f : DN) : Prop := PI X tg e (rdI X.K n W κ f)
theorem PI.to {tg e : Expr} {t t' : TI} (h : PI X tg e t) (i : ∀ σ H R, t' σ H R → t σ H R) : PI X tg e t' := ⟨fun pins s σ H R I q => h.run pins s σ H R I (i σ H R q)⟩
def seqS : Option (List Int) → (List PD → Prop) → Prop
  | some ns, R => R (ns.map .int)
  | _, _ => False
def seqD : DV → (List PD → Prop) → Prop
  | .well o, R => seqS o R
  | .d (.list xs), R => R xs
  | .d (.tuple xs), R => R xs
  | _, _ => False
def iSeq (f : DE) : DN := fun ρ R E => f ρ (fun x => seqD x R) E
/-- a list or a tuple -/
def iLT (K : Frag) (tl : TE) : TI := fun σ H R => tl σ H fun x H1 => ∃ a, x = .ref a ∧ (((∃ xs, SqL K H1 a xs) ∧ R (Itl K a) H1) ∨ ((∃ xs, SqT K H1 a xs) ∧ R (Itt K a) H1))
theorem pi_lt {tg l : Expr} {tl : TE} (hl : PE X l tl) : PI X tg l (iLT X.K tl) := by
  refine ⟨fun pins s σ H R I h => ?_⟩
  refine thn (hl.run pins s σ H _ I h) fun v s1 ⟨x, H1, I1, r1, q1⟩ => ?_
  have frs : ∀ b ∈ [s1.heap.objs.size], FpOk X pins H1 b := fun b hb => by
    have e : b = s1.heap.objs.size := by simpa using hb
    subst e
    exact I1.fpOk (Nat.le_refl _) (I1.hok.fresh (Nat.le_refl _))
  obtain ⟨a, rfl, ⟨⟨xs, hq⟩, q⟩ | ⟨⟨xs, hq⟩, q⟩⟩ := q1
  · cases r1
    obtain ⟨its, rv, p, hz⟩ := I1.list hq
    refine wpAny_pyIter_list p.isList ?_
    exact ⟨s1.heap.objs.size, [s1.heap.objs.size], _, _, H1, rfl, I1.kept (t' := s1.toks) fun b o e => Heap.get?_push_of_some _ e, turn_list a _, ⟨_, Heap.get?_push_size _ rfl, rfl, rfl⟩, frs, q⟩
  · cases r1
    obtain ⟨its, rv, p, hz⟩ := I1.tuple hq
    refine wpAny_pyIter_tuple (show s1.heap.IsTuple a its.toArray from p) ?_
    exact ⟨s1.heap.objs.size, [s1.heap.objs.size], _, _, H1, rfl, I1.kept (t' := s1.toks) fun b o e => Heap.get?_push_of_some _ e, turn_tuple a _, ⟨_, Heap.get?_push_size _ rfl, rfl, rfl⟩, frs, q⟩
theorem itd_list {K : Frag} {S : Hp} {a : Addr} {vs : List V} {xs : List PD} (h : SqL K S a vs) (d : DqAll K S vs xs) : ItD K (Itl K a) xs S := by
  intro S' H' e1 e2
  have q : SqL K H' a vs := e2.seq (e1.seq h)
  have dl := d.len
  refine ⟨fun i hi => ⟨vs, vs[i]'(by omega), q, by simp [show i < vs.length by omega]⟩, fun i hi => ⟨vs, q, by omega⟩, fun i x H'' _ y => ?_⟩
  obtain ⟨rfl, y⟩ := y
  obtain ⟨dd, h1, h2⟩ := d.atV (y vs q)
  exact ⟨S', dd, Grow.refl e2, h1, dq_mono e1 h2⟩
theorem itd_tup {K : Frag} {S : Hp} {a : Addr} {vs : List V} {xs : List PD} (h : SqT K S a vs) (d : DqAll K S vs xs) : ItD K (Itt K a) xs S := by
  intro S' H' e1 e2
  have q : SqT K H' a vs := sqT_mono e2 (sqT_mono e1 h)
  have dl := d.len
  refine ⟨fun i hi => ⟨vs, vs[i]'(by omega), q, by simp [show i < vs.length by omega]⟩, fun i hi => ⟨vs, q, by omega⟩, fun i x H'' _ y => ?_⟩
  obtain ⟨rfl, y⟩ := y
  obtain ⟨dd, h1, h2⟩ := d.atV (y vs q)
  exact ⟨S', dd, Grow.refl e2, h1, dq_mono e1 h2⟩
theorem ji_seq {tg : Expr} (he : JE X n W κ e f) : JI X n W κ tg e (iSeq f) := by
  refine PI.to (pi_lt he) fun σ H Rr ⟨m, S, ρ, R, Er, st, hf, kR, kE⟩ => ⟨m, S, ρ, _, Er, st, hf, fun x v S1 H1 hx st1 p1 d1 => ?_, kE⟩
  cases x with
  | exc _ _ => exact hx.elim
  | well o =>
    cases o with
    | none => exact hx.elim
    | some ns =>
      obtain ⟨p, rfl, hp⟩ := d1
      exact ⟨_, rfl, .inl ⟨⟨_, st1.wd.sm.seq hp⟩, kR _ _ S1 H1 hx st1 p1 (itd_list hp (DqAll.ints ns))⟩⟩
  | d x =>
    cases x with
    | list xs =>
      cases d1 with
      | lst h1 h2 => exact ⟨_, rfl, .inl ⟨⟨_, SqL.of (st1.wd.sm _ _ h1)⟩, kR xs _ S1 H1 hx st1 p1 (itd_list (SqL.of h1) h2)⟩⟩
    | tuple xs =>
      cases d1 with
      | tup h1 h2 => exact ⟨_, rfl, .inr ⟨⟨_, sqT_mono st1.wd.sm h1⟩, kR xs _ S1 H1 hx st1 p1 (itd_tup h1 h2)⟩⟩
    | _ => exact hx.elim
/-- the ints of a range -/
def rngD (lo hi : Int) : List PD := (List.range (hi - lo).toNat).map fun i : Nat => .int (lo + (i : Int))
theorem rngD_len (lo hi : Int) : (rngD lo hi).length = (hi - lo).toNat := by unfold rngD; rw [List.length_map, List.length_range]
theorem itd_rng {K : Frag} {S : Hp} {lo hi : Int} : ItD K (Itr lo (hi - lo).toNat) (rngD lo hi) S := by
  intro S' H' e1 e2
  refine ⟨fun i h => by rw [rngD_len] at h; exact h, fun i h => by rw [rngD_len] at h; exact Nat.le_of_eq h.symm, fun i x H'' hi y => ?_⟩
  obtain ⟨rfl, rfl⟩ := y
  rw [rngD_len] at hi
  refine ⟨S', .int (lo + i), Grow.refl e2, ?_, .int _⟩
  unfold rngD
  rw [List.getElem?_map, List.getElem?_range hi]
  rfl
def RgB (i : Int) : Prop := -(2 ^ 62) ≤ i ∧ i < 2 ^ 62
def rg1 : List DV → (List PD → Prop) → Prop
  | [.d (.int j)], R => RgB j ∧ R (rngD 0 j)
  | _, _ => False
def rg2 : List DV → (List PD → Prop) → Prop
  | [.d (.int i), .d (.int j)], R => (RgB i ∧ RgB j) ∧ R (rngD i j)
  | _, _ => False
def iRg (gg : List DV → (List PD → Prop) → Prop) (f : DA) : DN := fun ρ R E => f ρ (fun xs => gg xs R) E
theorem ji_range1 {tg : Expr} {p : Pos} (hg : Gl X "range") (hm : X.mg "range" = none) (ha : JAO X n W κ [a] fa) (hs : starEach [a] X.env = [(false, eval a X.env)]) : JI X n W κ tg (.Call (.Name "range" p) [a] [] pos) (iRg rg1 fa) := by
  refine PI.to (pi_range1 hg hm ha hs) fun σ H Rr ⟨m, S, ρ, R, Er, st, hf, kR, kE⟩ => ⟨m, S, ρ, _, Er, st, hf, fun xs vs S1 H1 hx st1 p1 d1 => ?_, kE⟩
  match xs, d1, hx with
  | [.d (.int j)], .cons h1 .nil, ⟨⟨q1, q2⟩, hr⟩ =>
    have e := h1.int
    subst e
    refine ⟨j, rfl, q1, q2, ?_⟩
    have q := kR _ _ S1 H1 hr st1 p1 itd_rng
    simpa using q
theorem ji_range2 {tg : Expr} {p : Pos} (hg : Gl X "range") (hm : X.mg "range" = none) (ha : JAO X n W κ [a, b] fa) (hs : starEach [a, b] X.env = [(false, eval a X.env), (false, eval b X.env)]) (hs2 : starEach [b] X.env = [(false, eval b X.env)]) :
    JI X n W κ tg (.Call (.Name "range" p) [a, b] [] pos) (iRg rg2 fa) := by
  refine PI.to (pi_range2 hg hm ha hs hs2) fun σ H Rr ⟨m, S, ρ, R, Er, st, hf, kR, kE⟩ => ⟨m, S, ρ, _, Er, st, hf, fun xs vs S1 H1 hx st1 p1 d1 => ?_, kE⟩
  match xs, d1, hx with
  | [.d (.int i), .d (.int j)], .cons h1 (.cons h2 .nil), ⟨⟨⟨q1, q2⟩, q3, q4⟩, hr⟩ =>
    have e := h1.int
    have e2 := h2.int
    subst e e2
    exact ⟨i, j, rfl, ⟨q1, q2, q3, q4⟩, kR _ _ S1 H1 hr st1 p1 itd_rng⟩

/-! ### targets -/
abbrev DG := PD → List Sl → (List Sl → Prop) → Prop
abbrev DGs := List PD → List Sl → (List Sl → Prop) → Prop
/-- wr: the slots that are written -/
def rdG (K : Frag) (n : En) (wr : List Nat) (gd : DG) : TG := fun v σ H Q => ∃ m S ρ x R, StOk K n m S H σ ρ ∧ Dq K S v x ∧ gd x ρ R ∧
  ∀ ρ' σ', R ρ' → StOk K n m S H σ' ρ' → (∀ j, j ∉ wr → σ'[j]? = σ[j]?) → σ'.length = σ.length → Q σ' H
def rdGs (K : Frag) (n : En) (wr : List Nat) (gd : DGs) : TGs := fun vs σ H Q => ∃ m S ρ xs R, StOk K n m S H σ ρ ∧ DqAll K S vs xs ∧ gd xs ρ R ∧
  ∀ ρ' σ', R ρ' → StOk K n m S H σ' ρ' → (∀ j, j ∉ wr → σ'[j]? = σ[j]?) → σ'.length = σ.length → Q σ' H
abbrev JG (X : Cx) (n : En) (wr : List Nat) (tg : Expr) (gd : DG) : Prop := PG X tg (rdG X.K n wr gd)
abbrev JGs (X : Cx) (n : En) (wr : List Nat) (tg : List Expr) (gd : DGs) : Prop := PGs X tg (rdGs X.K n wr gd)
theorem PG.to {tg : Expr} {t t' : TG} (h : PG X tg t) (i : ∀ v σ H Q, t' v σ H Q → t v σ H Q) : PG X tg t' := ⟨fun pins s σ H v u Q I r q => h.run pins s σ H v u Q I r (i v σ H Q q)⟩
theorem PGs.to {tg : List Expr} {t t' : TGs} (h : PGs X tg t) (i : ∀ v σ H Q, t' v σ H Q → t v σ H Q) : PGs X tg t' := ⟨fun pins s σ H v u Q I r q => h.run pins s σ H v u Q I r (i v σ H Q q)⟩
def gNm (i : Nat) : DG := fun x ρ R => R (ρ.set i (.v (.d x)))
def gTp (g : DGs) : DG := fun x ρ R => match x with
  | .tuple xs => g xs ρ R
  | _ => False
def gsNil : DGs := fun xs ρ R => xs = [] ∧ R ρ
def gsCons (g : DG) (h : DGs) : DGs := fun xs ρ R => match xs with
  | x :: r => g x ρ fun ρ' => h r ρ' R
  | [] => False
theorem jg_name {i : Nat} {x : Str} (hN : X.N.Nodup) (hi : X.N[i]? = some x) (hx : Loc X.env.scope x) (hf : X.fn x = true ∨ X.env.scope.names.lookup x = some .local) : JG X n [i] (.Name x pos) (gNm i) := by
  refine PG.to (pg_name hN hi hx hf) fun v σ H Q ⟨m, S, ρ, x, R, st, d, hr, k⟩ => ?_
  exact k _ _ hr (st.set d) (fun j hj => List.getElem?_set_ne (fun z => hj (by simp [z]))) (List.length_set ..)
theorem jgs_nil : JGs X n [] [] gsNil := by
  refine PGs.to pgs_nil fun vs σ H Q ⟨m, S, ρ, xs, R, st, d, hr, k⟩ => ?_
  obtain ⟨rfl, hr⟩ := hr
  cases d
  exact ⟨rfl, k _ _ hr st (fun _ _ => rfl) rfl⟩
theorem jgs_cons {es : List Expr} {w1 w2 : List Nat} {g1 : DG} {g2 : DGs} (h1 : JG X n w1 e g1) (h2 : JGs X n w2 es g2) (hs : (assignEach (e :: es) X.env).map (·.2) = assign e X.env :: (assignEach es X.env).map (·.2)) : JGs X n (w1 ++ w2) (e :: es) (gsCons g1 g2) := by
  refine PGs.to (pgs_cons h1 h2 hs) fun vs σ H Q ⟨m, S, ρ, xs, R, st, d, hr, k⟩ => ?_
  cases d with
  | nil => exact hr.elim
  | cons d1 d2 =>
    refine ⟨_, _, rfl, m, S, ρ, _, _, st, d1, hr, fun ρ1 σ1 hr1 st1 o1 l1 => ?_⟩
    refine ⟨m, S, ρ1, _, R, st1, d2, hr1, fun ρ2 σ2 hr2 st2 o2 l2 => k _ _ hr2 st2 (fun j hj => ?_) (l2.trans l1)⟩
    rw [List.mem_append, not_or] at hj
    rw [o2 j hj.2, o1 j hj.1]
theorem jg_tup {es : List Expr} {kk nn : Nat} {wr : List Nat} {g : DGs} (hc : X.calm = true) (h : JGs X n wr es g) (hn : (assignEach es X.env).length = nn) (hst : (assignEach es X.env).findIdx? (·.1) = none) (hlen : ∀ xs ρ R, g xs ρ R → xs.length = nn) :
    JG X n wr (.Tuple es kk pos) (gTp g) := by
  refine PG.to (pg_tup hc h hn hst) fun v σ H Q ⟨m, S, ρ, x, R, st, d, hr, k⟩ => ?_
  cases d with
  | tup h1 h2 => exact ⟨_, _, rfl, sqT_mono st.wd.sm h1, by rw [h2.len]; exact hlen _ _ _ hr, m, S, ρ, _, R, st, h2, hr, k⟩
  | _ => exact hr.elim
theorem gs_len0 : ∀ xs ρ R, gsNil xs ρ R → xs.length = 0 := fun xs ρ R h => by rw [h.1]; rfl
theorem gs_len1 {g : DG} {h : DGs} {k : Nat} (mono : ∀ x ρ R, g x ρ R → ∃ ρ', R ρ') (hh : ∀ xs ρ R, h xs ρ R → xs.length = k) : ∀ xs ρ R, gsCons g h xs ρ R → xs.length = k + 1 := fun xs ρ R q => by
  cases xs with
  | nil => exact q.elim
  | cons x r =>
    obtain ⟨ρ', z⟩ := mono x ρ _ q
    rw [List.length_cons, hh r ρ' R z]
theorem gm_name {i : Nat} : ∀ x ρ R, gNm i x ρ R → ∃ ρ', R ρ' := fun _ _ _ h => ⟨_, h⟩
theorem gm_tup {g : DGs} (h : ∀ xs ρ R, g xs ρ R → ∃ ρ', R ρ') : ∀ x ρ R, gTp g x ρ R → ∃ ρ', R ρ' := fun x ρ R q => by
  cases x with
  | tuple xs => exact h _ _ _ q
  | _ => exact q.elim
theorem gm_nil : ∀ xs ρ R, gsNil xs ρ R → ∃ ρ', R ρ' := fun _ ρ _ h => ⟨ρ, h.2⟩
theorem gm_cons {g : DG} {h : DGs} (m1 : ∀ x ρ R, g x ρ R → ∃ ρ', R ρ') (m2 : ∀ xs ρ R, h xs ρ R → ∃ ρ', R ρ') : ∀ xs ρ R, gsCons g h xs ρ R → ∃ ρ', R ρ' := fun xs ρ R q => by
  cases xs with
  | nil => exact q.elim
  | cons x r =>
    obtain ⟨ρ', z⟩ := m1 x ρ _ q
    exact m2 r ρ' R z

/-! ### comprehensions -/
def wipeD (ρ : List Sl) : List Nat → List Sl
  | [] => ρ
  | v :: vs => (wipeD ρ vs).set v .no
theorem st_wipe {K : Frag} {m : Nat} {S H : Hp} {σ : L2.St} {ρ : List Sl} (st : StOk K n m S H σ ρ) : ∀ vs, StOk K n m S H (wipe σ vs) (wipeD ρ vs)
  | [] => st
  | v :: vs => by
    unfold wipe wipeD
    exact (st_wipe st vs).setNo
theorem wipe_same {σ σ' : L2.St} (hl : σ'.length = σ.length) : ∀ {vs : List Nat}, (∀ j, j ∉ vs → σ'[j]? = σ[j]?) → wipe σ' vs = wipe σ vs := by
  have get : ∀ (τ : L2.St) (vs : List Nat) (j : Nat), (wipe τ vs)[j]? = if j ∈ vs ∧ j < τ.length then some none else τ[j]? := fun τ vs j => by
    induction vs with
    | nil => simp [wipe]
    | cons v r ih =>
      unfold wipe
      by_cases hv : v = j
      · subst hv
        by_cases hj : v < τ.length
        · rw [List.getElem?_set_self (by rw [wipe_length]; exact hj)]
          simp [hj]
        · rw [List.getElem?_eq_none (by rw [List.length_set, wipe_length]; omega)]
          simp [hj]
      · rw [List.getElem?_set_ne hv, ih]
        have : (j = v ∨ j ∈ r) ↔ j ∈ r := ⟨fun z => z.elim (fun y => absurd y.symm hv) id, .inr⟩
        simp [this]
  intro vs h
  apply List.ext_getElem?
  intro j
  rw [get, get, hl]
  by_cases hj : j ∈ vs
  · by_cases hz : j < σ.length
    · simp [hj, hz]
    · simp [hj, hz]
      omega
  · simp [hj, h j hj]
def WF : WX := fun _ _ _ _ => False
theorem takes_none {Y : Cx} : Takes Y WF := fun u s' ⟨_, _, _, _, _, _, _, _, _, _, _, _, _, _, _, _, w⟩ => w.elim
theorem Cok.blk {scope : Scope} (C : Cok X n W k) (s : Shared) (H : Hp) (CC : Addr) (cl : List (Str × Addr)) (fp : List Addr) : Cok (X.blk s H scope (compEnvC scope cl CC X.env) fp) n WF k :=
  ⟨C.calm, takes_none, C.hr, C.hg, C.nd⟩
def tTrue : DT := fun _ R _ => R true
abbrev JTs (X : Cx) (n : En) (W : WX) (κ : Nat) (ifs : List Expr) (f : DT) : Prop := PTs X ifs (rdT X.K n W κ f)
theorem PTs.to {ifs : List Expr} {t t' : TT} (h : PTs X ifs t) (i : ∀ σ H Q, t' σ H Q → t σ H Q) : PTs X ifs t' := ⟨fun pins s σ H Q I q => h.run pins s σ H Q I (i σ H Q q)⟩
theorem jts_nil : JTs X n W 0 [] tTrue := PTs.to pts_nil fun σ H Q ⟨m, S, ρ, R, Er, st, hf, kR, _⟩ => kR true S H hf st Post.refl
theorem jts_one (h : JT X n W κ e t) : JTs X n W κ [e] t := pts_one h
abbrev noE : EK := fun _ _ => False
/-- the items that a comprehension makes of xs -/
def lcD (gd : DG) (t : DT) (f : DE) (ρ : List Sl) : List PD → (List PD → Prop) → Prop
  | [], R => R []
  | x :: xs, R => gd x ρ fun ρ1 => t ρ1 (fun b => if b = true then f ρ1 (fun y => onD y fun d => lcD gd t f ρ xs fun ds => R (d :: ds)) noE else lcD gd t f ρ xs R) noE
/-- L: at most so many turns (what the cost is reckoned by) -/
def nLc (L : Nat) (fi : DN) (gd : DG) (t : DT) (f : DE) (own : List Nat) : DN := fun ρ R E => fi ρ (fun xs => xs.length ≤ L ∧ lcD gd t f (wipeD ρ own) xs R) E
theorem own_ne {K : Frag} {m : Nat} {S H : Hp} {σ : L2.St} {ρ : List Sl} {D : Addr} (s : StOk K n m S H σ ρ) (hD : H D = none) : ∀ (i : Nat) xs, ρ[i]? = some (Sl.own xs) → σ[i]? ≠ some (some (V.ref D)) := fun i xs e z => by
  obtain ⟨A, h1, _⟩ := s.sl
  obtain ⟨g1, _, _, _, vs, g5, _⟩ := h1 i _ e
  rw [g1] at z
  cases z
  rw [hD] at g5
  cases g5
theorem StOk.side {K : Frag} {m : Nat} {S H : Hp} {σ : L2.St} {ρ : List Sl} {D : Addr} {o : HO} (s : StOk K n m S H σ ρ) (hS : S D = none) (h0 : n.H0 D = none) (hw : n.wl ≠ some D) (ne : ∀ (i : Nat) xs, ρ[i]? = some (Sl.own xs) → σ[i]? ≠ some (some (V.ref D))) :
    StOk K n m S (upd H D o) σ ρ := by
  refine ⟨⟨fun b u e => ?_, fun p e => ?_⟩, ⟨s.po.sS, s.po.fr, fun a u e w => ?_, fun a ha => ?_⟩, s.len, ?_⟩
  · rw [upd_ne (ne_of_none e hS)]; exact s.wd.sm b u e
  · obtain ⟨q1, a, b, c, q2, q3⟩ := s.wd.we p e
    exact ⟨q1, a, b, c, by rw [upd_ne (fun z => hw (by rw [← z]; exact e))]; exact q2, q3⟩
  · rw [upd_ne (ne_of_none e h0)]; exact s.po.kp a u e w
  · by_cases z : a = D
    · rw [z, upd_same]; exact Option.some_ne_none _
    · rw [upd_ne z]; exact s.po.al a ha
  · obtain ⟨A, h1, h2⟩ := s.sl
    refine ⟨A, fun i t e => ?_, h2⟩
    have q := h1 i t e
    cases t with
    | no => exact trivial
    | v x => exact q
    | own xs =>
      obtain ⟨g1, g2, g3, g4, vs, g5, g6⟩ := q
      have : A i ≠ D := fun z => ne i xs e (by rw [g1, z])
      exact ⟨g1, g2, g3, g4, vs, by rw [upd_ne this]; exact g5, g6⟩
theorem Post.side {wl : Option Addr} {S H S' H' : Hp} {D : Addr} {o : HO} (p : Post wl S H S' H') (hD : H D = none) : Post wl S H S' (upd H' D o) :=
  ⟨p.sS, p.fr, fun a u e w => by rw [upd_ne (ne_of_none e hD)]; exact p.kp a u e w, fun a ha => by
    have : a ≠ D := fun z => ha (z ▸ hD)
    rw [upd_ne this]; exact p.al a ha⟩
theorem lcD_core {K : Frag} {m : Nat} {gd : DG} {wr : List Nat} {κt κe L : Nat} {own : List Nat} {J : It} {xs : List PD} {R : List PD → Prop} {S H : Hp} {σ : L2.St} {ρ : List Sl} {Q : VK} {D : Addr} (hL : xs.length ≤ L) (hL2 : L ≤ 100000)
    (hsub : ∀ j ∈ wr, j ∈ own) (st : StOk K n (m + L * (κt + κe)) S H σ ρ) (hJ : ItD K J xs S) (hD : H D = none) (hlc : lcD gd t f (wipeD ρ own) xs R)
    (kR : ∀ ys p vs S' H', R ys → StOk K n m S' H' σ ρ → Post n.wl S H S' H' → H p = none → S' p = none → H' p = some (.lst vs) → DqAll K S' vs ys → Q (.ref p) H') :
    ∃ Wv : Nat → Nat → Hp → Prop, (∃ m, Wv 0 m (upd H D (.lst []))) ∧ ∀ i m H, Wv i m H →
      (J.stop i H ∧ Q (.ref D) H) ∨ (J.go i H ∧ ∃ Nx : Hp → Prop, (∀ H', Nx H' → ∃ m', m' < m ∧ Wv (i + 1) m' H') ∧ ∀ x H', J.yld i H x H' → rdG K n wr gd x (wipe σ own) H' fun σ2 H2 => wipe σ2 own = wipe σ own ∧ rdT K n WF κt t σ2 H2 fun b H3 =>
        if b = true then rdE K n WF κe f σ2 H3 fun y H4 => ∃ acc, H4 D = some (.lst acc) ∧ acc.length < sizeLine ∧ Nx (upd H4 D (.lst (acc ++ [y]))) else Nx H3) := by
  -- at turn i: the data S1, the list so far stands at D beside them
  refine ⟨fun i k H1 => k = xs.length - i ∧ i ≤ xs.length ∧ ∃ S1 acc ys, StOk K n (m + (xs.length - i) * (κt + κe)) S1 H1 σ ρ ∧ Post n.wl S H S1 H1 ∧ S1 D = none ∧ H1 D = some (.lst acc) ∧ acc.length ≤ i ∧ DqAll K S1 acc ys ∧
    lcD gd t f (wipeD ρ own) (xs.drop i) fun ds => R (ys ++ ds), ⟨xs.length, by simp, Nat.zero_le _, S, [], [], ?_⟩, ?_⟩
  · have g := Grow.beside (o := .lst []) st.wd.sm hD
    refine ⟨(st.grow g).le ?_, g.po.wk, st.wd.sm.free hD, upd_same, Nat.le_refl _, .nil, ?_⟩
    · have := Nat.mul_le_mul_right (κt + κe) hL
      simp only [Nat.sub_zero]
      omega
    · simpa using hlc
  · rintro i k H1 ⟨rfl, hi, S1, acc, ys, st1, p1, sD, hacc, hal, dacc, hrest⟩
    obtain ⟨j1, j2, j3⟩ := hJ S1 H1 p1.sS st1.wd.sm
    by_cases hlt : i < xs.length
    · refine .inr ⟨j1 i hlt, fun H2 => i + 1 ≤ xs.length ∧ ∃ S2 acc ys, StOk K n (m + (xs.length - (i + 1)) * (κt + κe)) S2 H2 σ ρ ∧ Post n.wl S H S2 H2 ∧ S2 D = none ∧ H2 D = some (.lst acc) ∧ acc.length ≤ i + 1 ∧ DqAll K S2 acc ys ∧
        lcD gd t f (wipeD ρ own) (xs.drop (i + 1)) fun ds => R (ys ++ ds), fun H2 q => ⟨xs.length - (i + 1), by omega, rfl, q⟩, fun x H2 y => ?_⟩
      obtain ⟨S2, d, g2, hxd, dx⟩ := j3 i x H2 hlt y
      have wD : n.wl ≠ some D := fun z => by
        obtain ⟨_, a, b, c, hw, _⟩ := st.wd.we D z
        rw [hD] at hw
        cases hw
      have nD2 : ∀ {T G : Hp}, Post n.wl S1 H1 T G → T D = none ∧ G D = some (.lst acc) := fun {T G} p => ⟨p.fr D (by rw [hacc]; exact Option.some_ne_none _) sD, p.kp D _ hacc wD⟩
      have hdr : xs.drop i = d :: xs.drop (i + 1) := List.drop_eq_getElem_cons hlt ▸ by
        have : xs[i] = d := Option.some.inj ((List.getElem?_eq_getElem hlt).symm.trans hxd)
        rw [this]
      rw [hdr] at hrest
      have hcost : m + (xs.length - i) * (κt + κe) = (m + (xs.length - (i + 1)) * (κt + κe)) + (κt + κe) := by
        have : xs.length - i = (xs.length - (i + 1)) + 1 := by omega
        rw [this, Nat.add_mul]
        omega
      have st2 : StOk K n ((m + (xs.length - (i + 1)) * (κt + κe)) + (κt + κe)) S2 H2 σ ρ := hcost ▸ st1.grow g2
      have h0D : n.H0 D = none := by
        by_cases z : n.H0 D = none
        · exact z
        · exact absurd hD (st.po.al D z)
      have ne := own_ne st hD
      refine ⟨_, S2, _, d, _, st_wipe st2 own, dx, hrest, fun ρ' σ2 hr' st3 out ln => ⟨?_, ?_⟩⟩
      · rw [wipe_same (σ' := σ2) (σ := wipe σ own) ln fun j hj => out j fun z => hj (hsub j z)]
        exact wipe_same (wipe_length _ _) fun j hj => wipe_out hj
      · have st3' : StOk K n ((m + (xs.length - (i + 1)) * (κt + κe)) + κe + κt) S2 H2 σ2 ρ' := st3.le (by omega)
        refine ⟨_, S2, ρ', _, _, st3', hr', fun b S3 H3 hb st4 p3 => ?_, fun c x cls dx S' H' z => z.elim⟩
        cases b with
        | false =>
          simp only [Bool.false_eq_true, if_false] at hb ⊢
          have p13 := g2.po.wk.trans p3
          obtain ⟨d1, d2⟩ := nD2 p13
          exact ⟨hlt, S3, acc, ys, (st1.step p13 st4.wd).le (by omega), p1.trans p13, d1, d2, by omega, dqAll_mono p13.sS dacc, hb⟩
        | true =>
          simp only [if_true] at hb ⊢
          refine ⟨_, S3, ρ', _, _, st4, hb, fun y v S4 H4 hy st5 p4 dv => ?_, fun c x cls dx S' H' z => z.elim⟩
          cases y with
          | exc _ _ => exact hy.elim
          | well => exact hy.elim
          | d y =>
            have p14 := (g2.po.wk.trans p3).trans p4
            obtain ⟨d1, d2⟩ := nD2 p14
            refine ⟨acc, d2, by have : (100000 : Nat) < sizeLine := by decide
                                omega, hlt, S4, acc ++ [v], ys ++ [y], ((st1.step p14 st5.wd).le (by omega)).side d1 h0D wD ne, (p1.trans p14).side hD, d1, upd_same, by rw [List.length_append, List.length_singleton]; omega, (dqAll_mono p14.sS dacc).app (.cons dv .nil), ?_⟩
            have hy : lcD gd t f (wipeD ρ own) (xs.drop (i + 1)) fun ds => R (ys ++ (y :: ds)) := hy
            have e : (fun ds => R (ys ++ (y :: ds))) = fun ds => R ((ys ++ [y]) ++ ds) := by
              funext ds
              rw [List.append_assoc]
              rfl
            rw [e] at hy
            exact hy
    · have e : i = xs.length := by omega
      subst e
      refine .inl ⟨j2 _ rfl, ?_⟩
      rw [List.drop_length] at hrest
      have hr : R (ys ++ []) := hrest
      rw [List.append_nil] at hr
      exact kR ys D acc S1 H1 hr (st1.le (by omega)) p1 hD sD hacc dacc
end
end Wb
/-! Wb7: comprehensions as values, statements, the rule of a def. -/
namespace Wb
open PySem PySem.Spec PyProof.Rows L2
section
variable {X : Cx} {n : En} {W : WX} {κ κ' κ2 κi κt κe κf k k' : Nat} {e a b c elt tg iter : Expr} {es ifs : List Expr} {pos : Pos} {f h g : DE} {fa fk : DA} {t u : DT} {fi : DN}
/-- [elt for tg in iter if ..] -/
theorem jn_lc {scope : Scope} {own : List (Str × Nat)} {wr : List Nat} {gd : DG} (L : Nat) (hL2 : L ≤ 100000) (hc : X.calm = true) (hN : X.N.Nodup) (hi : JI X n W κi tg iter fi) (ok : BlkOk X.N X.env.scope scope own) (hsub : ∀ j ∈ wr, j ∈ own.map (·.2))
    (hg : ∀ (s : Shared) (H : Hp) (C : Addr) (cl : List (Str × Addr)) (fp : List Addr), JG (X.blk s H scope (compEnvC scope cl C X.env) fp) n wr tg gd)
    (ht : ∀ (s : Shared) (H : Hp) (C : Addr) (cl : List (Str × Addr)) (fp : List Addr), JTs (X.blk s H scope (compEnvC scope cl C X.env) fp) n WF κt ifs t)
    (he : ∀ (s : Shared) (H : Hp) (C : Addr) (cl : List (Str × Addr)) (fp : List Addr), JE (X.blk s H scope (compEnvC scope cl C X.env) fp) n WF κe elt f) (hs : ∀ x, foldedSetIterable iter X.env x = pure x) :
    JN X n W (κi + L * (κt + κe)) (.ListComp elt [⟨tg, iter, ifs, 0⟩] scope pos) (nLc L fi gd t f (own.map (·.2))) := by
  refine PE.to (pe_lc (g := rdG X.K n wr gd) (tt := rdT X.K n WF κt t) (te := rdE X.K n WF κe f) hc hN hi ok hg ht he hs) fun σ H Q ⟨m, S, ρ, R, Er, st, hf, kR, kE⟩ => ?_
  refine ⟨m + L * (κt + κe), S, ρ, _, Er, st_split st, hf, fun xs J S1 H1 hx st1 p1 hJ D hD => ?_, fun c x cls dx S' H' e s' er => kE c x cls dx S' H' e (st_down s') er⟩
  have nH : ∀ a, H1 a = none → H a = none := fun a z => by
    cases q : H a with
    | none => rfl
    | some o => exact absurd z (p1.al a (by rw [q]; exact Option.some_ne_none _))
  exact lcD_core hx.1 hL2 hsub st1 hJ hD hx.2 fun ys p vs S' H' hy st' p' hp sp hp' d => kR ys p vs S' H' hy st' (p1.trans p') (nH p hp) sp hp' d

/-! ### statements -/
structure Bok (X : Cx) (n : En) (W : WX) (k : Nat) : Prop where
  c : Cok X n W k
  po : PassesOwn (model X.prog X.w) X.A X.env X.xe
def gNext : DS := fun D ρ => D.nx ρ
def gBrk : DS := fun D ρ => D.bk ρ
def gCnt : DS := fun D ρ => D.ct ρ
def gSeq (a b : DS) : DS := fun D ρ => a { D with nx := b D } ρ
def gSet (i : Nat) (f : DE) : DS := fun D ρ => f ρ (fun x => D.nx (ρ.set i (.v x))) (D.ex ρ)
def gSetN (i : Nat) (f : DN) : DS := fun D ρ => f ρ (fun xs => D.nx (ρ.set i (.own xs))) (D.ex ρ)
def gDrop (f : DE) : DS := fun D ρ => f ρ (fun _ => D.nx ρ) (D.ex ρ)
def gRet (f : DE) : DS := fun D ρ => f ρ (D.rt ρ) (D.ex ρ)
def gIfS (t : DT) (a b : DS) : DS := fun D ρ => t ρ (fun c => if c = true then a D ρ else b D ρ) (D.ex ρ)
def gRaise (c : Nat) (f : DE) : DS := fun D ρ => f ρ (fun x => onD x fun d => D.ex ρ c d) (D.ex ρ)
def gAsg (f : DE) (gd : DG) : DS := fun D ρ => f ρ (fun x => onD x fun d => gd d ρ D.nx) (D.ex ρ)
def gPar (i j : Nat) (f : DA) : DS := fun D ρ => f ρ (fun xs => match xs with
  | [x, y] => D.nx ((ρ.set i (.v x)).set j (.v y))
  | _ => False) (D.ex ρ)
def gPar3 (i j l : Nat) (f : DA) : DS := fun D ρ => f ρ (fun xs => match xs with
  | [x, y, z] => D.nx (((ρ.set i (.v x)).set j (.v y)).set l (.v z))
  | _ => False) (D.ex ρ)
def slOw : Option Sl → (List PD → Prop) → Prop
  | some (.own xs), P => P xs
  | _, _ => False
def gApp (i : Nat) (f : DE) : DS := fun D ρ => slOw ρ[i]? fun xs => f ρ (fun x => onD x fun d => xs.length ≤ 100000 ∧ D.nx (ρ.set i (.own (xs ++ [d])))) (D.ex ρ)
def onI' : DV → (Int → Prop) → Prop
  | .d (.int i), P => P i
  | _, _ => False
def gSetIx (i : Nat) (fi fe : DE) : DS := fun D ρ => slOw ρ[i]? fun xs => fe ρ (fun x => onD x fun d => fi ρ (fun ix => onI' ix fun k => ∃ j, ixN xs.length k = some j ∧ D.nx (ρ.set i (.own (xs.set j d)))) (D.ex ρ)) (D.ex ρ)
def gAugI (ff : Int → Int → Int) (i : Nat) (f : DE) : DS := fun D ρ => match ρ[i]? with
  | some (.v (.d (.int a))) => f ρ (fun x => onI' x fun b => D.nx (ρ.set i (.v (.d (.int (ff a b)))))) (D.ex ρ)
  | _ => False
/-- what a walk over xs does -/
def loopD (gd : DG) (b : DS) (D : DEnds) : List PD → List Sl → Prop
  | [], ρ => D.nx ρ
  | x :: xs, ρ => gd x ρ fun ρ1 => b { D with nx := loopD gd b D xs, ct := loopD gd b D xs, bk := D.nx } ρ1
def gFor (L : Nat) (fi : DN) (gd : DG) (b : DS) : DS := fun D ρ => fi ρ (fun xs => xs.length ≤ L ∧ loopD gd b D xs ρ) (D.ex ρ)
def gWhile (t : DT) (b : DS) : DS := fun D ρ => ∃ V : Nat → List Sl → Prop, (∃ m, V m ρ) ∧ ∀ m ρ, V m ρ → t ρ (fun c => if c = true then b { D with nx := fun ρ' => ∃ m', m' < m ∧ V m' ρ', ct := fun ρ' => ∃ m', m' < m ∧ V m' ρ', bk := D.nx } ρ else D.nx ρ) (D.ex ρ)
/-- try: .. except WebsError as e: y = e; e in slot i, y in slot j -/
def gTry (i j : Nat) (b : DS) : DS := fun D ρ => b { D with ex := fun ρ' c x => D.nx (((ρ'.set i (.v (.exc c x))).set j (.v (.exc c x))).set i .no) } ρ
def gFrz (i : Nat) (b : DS) : DS := fun D ρ => slOw ρ[i]? fun xs => b D (ρ.set i (.v (.d (.list xs))))

theorem slOw_of {o : Option Sl} {P : List PD → Prop} (h : slOw o P) : ∃ xs, o = some (.own xs) ∧ P xs := by
  cases o with
  | none => exact h.elim
  | some s =>
    cases s with
    | own xs => exact ⟨xs, rfl, h⟩
    | _ => exact h.elim
theorem onD_of {x : DV} {P : PD → Prop} (h : onD x P) : ∃ d, x = .d d ∧ P d := by
  cases x with
  | d d => exact ⟨d, rfl, h⟩
  | _ => exact h.elim
theorem onI_of {x : DV} {P : Int → Prop} (h : onI' x P) : ∃ d, x = .d (.int d) ∧ P d := by
  cases x with
  | d d =>
    cases d with
    | int i => exact ⟨i, rfl, h⟩
    | _ => exact h.elim
  | _ => exact h.elim

variable {st : Stmt} {sts body orelse : List Stmt} {ga gb : DS} {tb : DS}
theorem js_pass : JS X n W 0 (.Pass pos) gNext := PS.to ps_pass fun D σ H ⟨m, S, ρ, Dd, st, hg, ks⟩ => ks.nx ρ σ S H hg st (Same.refl S)
theorem js_break : JS X n W 0 (.Break pos) gBrk := PS.to ps_break fun D σ H ⟨m, S, ρ, Dd, st, hg, ks⟩ => ks.bk ρ σ S H hg st (Same.refl S)
theorem js_continue : JS X n W 0 (.Continue pos) gCnt := PS.to ps_continue fun D σ H ⟨m, S, ρ, Dd, st, hg, ks⟩ => ks.ct ρ σ S H hg st (Same.refl S)
theorem jb_nil : JB X n W 0 [] gNext := PSs.to pss_nil fun D σ H ⟨m, S, ρ, Dd, st, hg, ks⟩ => ks.nx ρ σ S H hg st (Same.refl S)
theorem jb_one (h : JS X n W κ st ga) : JB X n W κ [st] ga := pss_one h
theorem jb_cons (h1 : JS X n W κ st ga) (h2 : JB X n W κ' sts gb) : JB X n W (κ + κ') (st :: sts) (gSeq ga gb) := by
  refine PSs.to (pss_cons h1 h2) fun D σ H ⟨m, S, ρ, Dd, st, hg, ks⟩ => ?_
  have kd := ks.up (m' := m + κ') (by omega)
  refine ⟨m + κ', S, ρ, _, st_split st, hg, fun ρ1 σ1 S1 H1 h1 st1 s1 => ?_, kd.rt, kd.bk, kd.ct, kd.ex⟩
  exact ⟨m, S1, ρ1, Dd, st1, h1, ks.af s1⟩
theorem js_le {κa : Nat} (h : JS X n W κ st ga) (hl : κ ≤ κa) : JS X n W κa st ga := PS.to h fun D σ H ⟨m, S, ρ, Dd, st, hg, k⟩ => ⟨m, S, ρ, Dd, st.le (by omega), hg, k⟩
theorem jb_le {κa : Nat} (h : JB X n W κ sts ga) (hl : κ ≤ κa) : JB X n W κa sts ga := PSs.to h fun D σ H ⟨m, S, ρ, Dd, st, hg, k⟩ => ⟨m, S, ρ, Dd, st.le (by omega), hg, k⟩
/-- a list of one's own becomes data -/
theorem jb_frz {i : Nat} (h : JB X n W κ sts ga) : JB X n W κ sts (gFrz i ga) := by
  refine PSs.to h fun D σ H ⟨m, S, ρ, Dd, st, hg, ks⟩ => ?_
  obtain ⟨xs, hi, hg⟩ := slOw_of hg
  obtain ⟨S', e, st'⟩ := st.freeze hi
  exact ⟨m, S', _, Dd, st', hg, ks.af e⟩
theorem js_frz {i : Nat} (h : JS X n W κ st ga) : JS X n W κ st (gFrz i ga) := by
  refine PS.to h fun D σ H ⟨m, S, ρ, Dd, st, hg, ks⟩ => ?_
  obtain ⟨xs, hi, hg⟩ := slOw_of hg
  obtain ⟨S', e, st'⟩ := st.freeze hi
  exact ⟨m, S', _, Dd, st', hg, ks.af e⟩
theorem js_expr (he : JE X n W κ e f) (hs : swapsWith e none pos.line X.env = pure false) : JS X n W κ (.Expr e pos) (gDrop f) :=
  PS.to (ps_expr he hs) fun D σ H ⟨m, S, ρ, Dd, st, hg, ks⟩ => ⟨m, S, ρ, _, _, st, hg, fun x v S' H' hx st' p d => ks.nx ρ σ S' H' hx st' p.sS, ks.ke⟩
theorem js_doc {x j pos'} : JS X n W 0 (.Expr (.Constant (.str x) j pos) pos') gNext := PS.to ps_doc fun D σ H ⟨m, S, ρ, Dd, st, hg, ks⟩ => ks.nx ρ σ S H hg st (Same.refl S)
theorem js_ret (he : JE X n W κ e f) : JS X n W κ (.Return (some e) pos) (gRet f) :=
  PS.to (ps_ret he) fun D σ H ⟨m, S, ρ, Dd, st, hg, ks⟩ => ⟨m, S, ρ, _, _, st, hg, fun x v S' H' hx st' p d => ks.rt ρ σ x v S' H' hx st' d, ks.ke⟩
theorem js_set {i : Nat} {x : Str} {pos' : Pos} (hN : X.N.Nodup) (hi : X.N[i]? = some x) (hx : Loc X.env.scope x) (he : JE X n W κ e f) (hs : swapsWith e (some (.Name x pos')) pos.line X.env = pure false) (hf : X.fn x = true ∨ X.env.scope.names.lookup x = some .local) :
    JS X n W κ (.Assign [.Name x pos'] e pos) (gSet i f) :=
  PS.to (ps_set hN hi hx he hs hf) fun D σ H ⟨m, S, ρ, Dd, st, hg, ks⟩ => ⟨m, S, ρ, _, _, st, hg, fun x v S' H' hx st' p d => ks.nx _ _ S' H' hx (st'.set d) p.sS, ks.ke⟩
theorem own_new {K : Frag} {m m' : Nat} {S H S' H' : Hp} {σ : L2.St} {ρ : List Sl} {i : Nat} {p : Addr} {vs : List V} {xs : List PD} (s : StOk K n m S H σ ρ) (s' : StOk K n m' S' H' σ ρ) (np : H p = none) (sp : S' p = none) (hp : H' p = some (.lst vs)) (d : DqAll K S' vs xs) (hpa : ∀ a, n.pa a) :
    StOk K n m' S' H' (σ.set i (some (.ref p))) (ρ.set i (.own xs)) := by
  refine s'.setOwn hp sp ⟨?_, hpa p⟩ ?_ d fun A j ys h1 e1 hj z => ?_
  · by_cases z : n.H0 p = none
    · exact z
    · exact absurd np (s.po.al p z)
  · intro z
    obtain ⟨_, a, b, c, hw, _⟩ := s.wd.we p z
    rw [np] at hw
    cases hw
  · exact own_ne s np j ys e1 (by rw [(h1 j _ e1).1, z])
theorem js_setN {i : Nat} {x : Str} {pos' : Pos} {fn : DN} (hpa : ∀ a, n.pa a) (hN : X.N.Nodup) (hi : X.N[i]? = some x) (hx : Loc X.env.scope x) (he : JN X n W κ e fn) (hs : swapsWith e (some (.Name x pos')) pos.line X.env = pure false) (hf : X.fn x = true ∨ X.env.scope.names.lookup x = some .local) :
    JS X n W κ (.Assign [.Name x pos'] e pos) (gSetN i fn) :=
  PS.to (ps_set hN hi hx he hs hf) fun D σ H ⟨m, S, ρ, Dd, st, hg, ks⟩ => ⟨m, S, ρ, _, _, st, hg, fun xs p vs S' H' hx st' po np sp hp d => ks.nx _ _ S' H' hx (own_new st st' np sp hp d hpa) po.sS, ks.ke⟩
/-- name = [..] on one line -/
theorem js_setLc {i : Nat} {y : Str} {py spos : Pos} {scope : Scope} {own : List (Str × Nat)} {wr : List Nat} {gd : DG} (hpa : ∀ a, n.pa a) (L : Nat) (hL2 : L ≤ 100000) (hc : X.calm = true) (hN : X.N.Nodup) (hy : X.N[i]? = some y) (hyl : X.env.scope.names.lookup y = some .local)
    (hsw : swapsWith (.ListComp elt [⟨tg, iter, ifs, 0⟩] scope pos) (some (.Name y py)) spos.line X.env = pure true) (hi : JI X n W κi tg iter fi) (ok : BlkOk X.N X.env.scope scope own) (hsub : ∀ j ∈ wr, j ∈ own.map (·.2))
    (hg : ∀ (s : Shared) (H : Hp) (C : Addr) (cl : List (Str × Addr)) (fp : List Addr), JG (X.blk s H scope (compEnvC scope cl C X.env) fp) n wr tg gd)
    (ht : ∀ (s : Shared) (H : Hp) (C : Addr) (cl : List (Str × Addr)) (fp : List Addr), JTs (X.blk s H scope (compEnvC scope cl C X.env) fp) n WF κt ifs t)
    (he : ∀ (s : Shared) (H : Hp) (C : Addr) (cl : List (Str × Addr)) (fp : List Addr), JE (X.blk s H scope (compEnvC scope cl C X.env) fp) n WF κe elt f) (hs : ∀ x, foldedSetIterable iter X.env x = pure x) :
    JS X n W (κi + L * (κt + κe)) (.Assign [.Name y py] (.ListComp elt [⟨tg, iter, ifs, 0⟩] scope pos) spos) (gSetN i (nLc L fi gd t f (own.map (·.2)))) := by
  refine PS.to (ps_setLc (g := rdG X.K n wr gd) (tt := rdT X.K n WF κt t) (te := rdE X.K n WF κe f) hc hN hy hyl hsw hi ok hg ht he hs) fun D σ H ⟨m, S, ρ, Dd, st, hgd, ks⟩ => ?_
  refine ⟨m + L * (κt + κe), S, ρ, _, _, st_split st, hgd, fun xs J S1 H1 hx st1 p1 hJ A hD => ?_, (ks.up (by omega)).ke⟩
  exact lcD_core (Q := fun v H' => D.nx (σ.set i (some v)) H') hx.1 hL2 hsub st1 hJ hD hx.2 fun ys p vs S' H' hy st' p' hp sp hp' d => ks.nx _ _ S' H' hy (own_new st1 st' hp sp hp' d hpa) (p1.sS.trans p'.sS)
/-- the same, its list data at once -/
theorem js_asF {i : Nat} {fn : DN} (h : JS X n W κ st (gSetN i fn)) : JS X n W κ st (gSet i (dN2 fn)) := by
  refine PS.to h fun D σ H ⟨m, S, ρ, Dd, st, hg, ks⟩ => ?_
  by_cases hi : i < ρ.length
  · refine ⟨m, S, ρ, { Dd with nx := fun ρ' => slOw ρ'[i]? fun xs => Dd.nx (ρ'.set i (.v (.d (.list xs)))) }, st, ?_, fun ρ' σ' S' H' h s z => ?_, ks.rt, ks.bk, ks.ct, ks.ex⟩
    · show fn ρ (fun xs => slOw (ρ.set i (.own xs))[i]? fun xs' => Dd.nx ((ρ.set i (.own xs)).set i (.v (.d (.list xs'))))) (Dd.ex ρ)
      have e : (fun xs => slOw (ρ.set i (.own xs))[i]? fun xs' => Dd.nx ((ρ.set i (.own xs)).set i (.v (.d (.list xs'))))) = fun xs => Dd.nx (ρ.set i (.v (.d (.list xs)))) := by
        funext xs
        rw [List.getElem?_set_self hi]
        show Dd.nx ((ρ.set i (.own xs)).set i (.v (.d (.list xs)))) = _
        rw [List.set_set]
      rw [e]
      exact hg
    · obtain ⟨xs, hi, hx⟩ := slOw_of h
      obtain ⟨S2, e, s2⟩ := s.freeze hi
      exact ks.nx _ _ S2 H' hx s2 (z.trans e)
  · refine ⟨m, S, ρ, Dd, st, ?_, ks⟩
    have e : ∀ s : Sl, ρ.set i s = ρ := fun s => List.set_eq_of_length_le (by omega)
    have hg : fn ρ (fun xs => Dd.nx (ρ.set i (.v (.d (.list xs))))) (Dd.ex ρ) := hg
    show fn ρ (fun xs => Dd.nx (ρ.set i (.own xs))) (Dd.ex ρ)
    simpa only [e] using hg
theorem js_if (hc : JT X n W κ c t) (ha : JB X n W κ' body ga) (hb : JB X n W κ2 orelse gb) : JS X n W (κ + (κ' + κ2)) (.If c body orelse pos) (gIfS t ga gb) := by
  refine PS.to (ps_if hc ha hb) fun D σ H ⟨m, S, ρ, Dd, st, hg, ks⟩ => ?_
  refine ⟨m + (κ' + κ2), S, ρ, _, _, st_split st, hg, fun b S1 H1 hx st1 p1 => ?_, (ks.up (by omega)).ke⟩
  cases b with
  | true => exact ⟨m, S1, ρ, Dd, st1.le (by omega), hx, ks.af p1.sS⟩
  | false => exact ⟨m, S1, ρ, Dd, st1.le (by omega), hx, ks.af p1.sS⟩
theorem js_raise {x : Str} {p pos2 : Pos} {D fI : Addr} {C : Addr} {cn : Nat} (C0 : Cok X n W k) (B : ErrBase X.prog X.K X.mg D fI) (T : ErrCls X.K D fI C) (hC : n.CT cn = C) (gC : X.mg x = some (.ref C)) (ha : JE X n W κ a f) (hg : Gl X x)
    (hdb : (x == ("__debug__" : Str)) = false) (he : starEach (a :: []) X.env = (false, eval a X.env) :: starEach [] X.env) (hpl : (backTo pos (starEach [] X.env)).any (·.1) = false) :
    JS X n W κ (.Raise (some (.Call (.Name x p) [a] [] pos)) none pos2) (gRaise cn f) := by
  refine PS.to (ps_raiseE C0.calm B T C0.hr C0.tk gC (pa_cons ha pa_nil he) hg hdb he hpl) fun D σ H ⟨m, S, ρ, Dd, st, hg, ks⟩ => ?_
  refine ⟨m, S, ρ, _, _, st, hg, fun x v S' H' hx st' p d => ?_, ks.ke⟩
  obtain ⟨x, rfl, hx⟩ := onD_of hx
  refine ⟨v, rfl, fun dd hd => ?_⟩
  have g := Grow.new (o := .xd [(("value" : Str), v)]) st'.wd.sm hd
  exact ks.ex ρ cn x _ _ σ _ _ hx (st'.grow g) ⟨dd, v, by rw [hC], rfl, upd_same, dq_mono g.po.sS d⟩ (p.sS.trans g.po.sS)
theorem js_try {i j : Nat} {x nm y : Str} {cv : Value} {np pos' p1 p2 p3 : Pos} (hs : X.stack = X.env :: X.outer) (hf : X.env.frame = some X.env.locals) (hex : X.ex = []) (hN : X.N.Nodup) (hi : X.N[i]? = some nm) (hln : X.env.kindOf nm = some .local) (hj : X.N[j]? = some y)
    (hly : X.env.kindOf y = some .local) (hij : i ≠ j) (hnd : (nm == ("__debug__" : Str)) = false) (hnc : (nm == ("__classdict__" : Str)) = false) (hc : Names X x cv) (tk : Takes X W) (hX : ∀ c, PySem.W.exmOne X.K (.ref (n.CT c)) cv = some true)
    (hb : ∀ (W : WX) (pn : List (Addr × Obj)) (xe : Value → Shared → Prop), Takes (X.tr pn xe) W → PassesOwn (model X.prog X.w) X.A X.env xe → JB (X.tr pn xe) n W κ body gb) (hsw : swapsWith (.Name nm p2) (some (.Name y p1)) p3.line X.env = pure false) :
    JS X n W κ (.Try body [.ExceptHandler (some (.Name x np)) (some nm) [.Assign [.Name y p1] (.Name nm p2) p3] pos'] [] [] pos) (gTry i j gb) := by
  refine PS.to (ps_try_keep (tb := fun W => rdS X.K n W κ gb) hs hf hex hN hi hln hj hly hij hnd hnc hc tk hb hsw) fun D σ H ⟨m, S, ρ, Dd, st, hg, ks⟩ => ?_
  refine ⟨m, S, ρ, _, st, hg, ks.nx, ks.rt, ks.bk, ks.ct, fun ρ' c x cls dx σ' S' H' h s' er q => ?_⟩
  obtain ⟨dd, v, rfl, rfl, hdd, hv⟩ := er
  refine ⟨true, hX c, fun _ => ⟨_, dd, rfl, rfl, fun a ha => ?_⟩, fun z => nomatch z⟩
  have g := Grow.new (o := ExcAt (n.CT c) dd a) s'.wd.sm ha
  have dv : DvOk X.K n (upd S' a (ExcAt (n.CT c) dd a)) (.ref a) (.exc c x) := ⟨a, dd, v, rfl, upd_same, g.po.sS _ _ hdd, dq_mono g.po.sS hv⟩
  exact ks.nx _ _ _ _ h ((((s'.grow g).set dv).set dv).setNo) (q.trans g.po.sS)
/-- xs.append(e), xs a list of one's own -/
theorem js_app {i : Nat} {x : Str} {pos' p pa : Pos} (hN : X.N[i]? = some x) (hv : Vis X.env.scope x) (hd : (x == ("__debug__" : Str)) = false) (hcd : (x == ("__classdict__" : Str)) = false) (he : JE X n W κ e f)
    (hbase : attributeBase (.Name x p) "append" X.env (eval (.Name x p) X.env) = eval (.Name x p) X.env)
    (hfew : ((backTo pos (starEach (e :: []) X.env)).all (fun x => !x.1) && (backToKw pos (keywordEach [] X.env)).all (fun x => x.1.isSome)
      && decide ((e :: ([] : List Expr)).length + ([] : List Keyword).length + (if ([] : List Keyword).isEmpty then 0 else 1) < 30)) = true)
    (hline : (pa.endLine == pos.line) = true) (hs : starEach (e :: []) X.env = (false, eval e X.env) :: starEach [] X.env) (hplain : (backTo pos (starEach [] X.env)).any (·.1) = false)
    (hsw : swapsWith (.Call (.Attribute (.Name x p) "append" pa) [e] [] pos) none pos'.line X.env = pure false) :
    JS X n W κ (.Expr (.Call (.Attribute (.Name x p) "append" pa) [e] [] pos) pos') (gApp i f) := by
  refine PS.to (ps_expr (pe_bm PySem.F.plainAttrs_list PySem.F.slot_list_append PySem.F.type_list_append mt_append (pe_var hN hv hd hcd) (pa_cons he pa_nil hs) hbase hfew hline hs hplain) hsw) fun D σ H ⟨m, S, ρ, Dd, st, hg, ks⟩ => ?_
  obtain ⟨xs, hi, hg⟩ := slOw_of hg
  obtain ⟨q, vs, e1, e2, e3, _⟩ := st.write (ys := []) hi
  refine ⟨_, e1, .inl ⟨rfl, vs, SqL.of e2⟩, m, S, ρ, _, _, st, hg, fun x v S' H' hx st' po d => ?_, ks.ke⟩
  obtain ⟨x, rfl, hl, hx⟩ := onD_of hx
  obtain ⟨q', us, f1, f2, f3, f4⟩ := st'.write (ys := xs ++ [x]) hi
  rw [e1] at f1
  cases f1
  refine ⟨q, us, v, rfl, rfl, f2, ?_, ?_⟩
  · have := f3.len
    have : (100000 : Nat) < sizeLine := by decide
    omega
  · exact ks.nx _ _ S' _ hx (f4 _ (f3.app (.cons d .nil))) po.sS
/-- xs[i] = e, xs a list of one's own -/
theorem js_setIx {i : Nat} {x : Str} {ei : Expr} {p ps pos' : Pos} {fx : DE} (hN : X.N[i]? = some x) (hv : Vis X.env.scope x) (hd : (x == ("__debug__" : Str)) = false) (hcd : (x == ("__classdict__" : Str)) = false) (he : JE X n W κ e f) (hx : JE X n W κ' ei fx)
    (hs : swapsWithSole [.Subscript (.Name x p) ei ps] e pos.line X.env = pure false) (hw : swappedStores [.Subscript (.Name x p) ei ps] e X.env = pure none) (h1 : (assignEach [.Subscript (.Name x p) ei ps] X.env).map (·.2) = [assign (.Subscript (.Name x p) ei ps) X.env])
    (ha : ∀ v, assign (.Subscript (.Name x p) ei ps) X.env v = (do
      let ov ← holding [v] (eval (.Name x p) X.env)
      let iv ← holding [v, ov] (eval ei X.env)
      standAt ps
      holding [v, ov, iv] (setItem ov iv v)
      release [v, ov, iv] [])) :
    JS X n W (κ + κ') (.Assign [.Subscript (.Name x p) ei ps] e pos) (gSetIx i fx f) := by
  refine PS.to (ps_asg he (pg_sub (pe_var hN hv hd hcd) hx set_list ha) hs hw h1) fun D σ H ⟨m, S, ρ, Dd, st, hg, ks⟩ => ?_
  obtain ⟨xs, hi, hg⟩ := slOw_of hg
  refine ⟨m + κ', S, ρ, _, _, st_split st, hg, fun x v S1 H1 hx st1 p1 d1 => ?_, (ks.up (by omega)).ke⟩
  obtain ⟨x, rfl, hx⟩ := onD_of hx
  obtain ⟨q, vs, e1, e2, e3, _⟩ := st1.write (ys := []) hi
  refine ⟨_, e1, m, S1, ρ, _, _, st1, hx, fun y u S2 H2 hy st2 p2 d2 => ?_, (ks.af p1.sS).ke⟩
  obtain ⟨k, rfl, j, hj, hy⟩ := onI_of hy
  cases d2
  obtain ⟨q', us, f1, f2, f3, f4⟩ := st2.write (ys := xs.set j x) hi
  rw [e1] at f1
  cases f1
  refine ⟨q, us, k, j, rfl, rfl, f2, by rw [f3.len]; exact hj, ?_⟩
  exact ks.nx _ _ S2 _ hy (f4 _ (f3.set (dq_mono p2.sS d1) j)) (p1.sS.trans p2.sS)
theorem js_asg {wr : List Nat} {gd : DG} (he : JE X n W κ e f) (hg : JG X n wr tg gd) (hs : swapsWithSole [tg] e pos.line X.env = pure false) (hw : swappedStores [tg] e X.env = pure none) (h1 : (assignEach [tg] X.env).map (·.2) = [assign tg X.env]) :
    JS X n W κ (.Assign [tg] e pos) (gAsg f gd) := by
  refine PS.to (ps_asg he hg hs hw h1) fun D σ H ⟨m, S, ρ, Dd, st, hg, ks⟩ => ?_
  refine ⟨m, S, ρ, _, _, st, hg, fun x v S1 H1 hx st1 p1 d1 => ?_, ks.ke⟩
  obtain ⟨x, rfl, hx⟩ := onD_of hx
  exact ⟨m, S1, ρ, x, _, st1, d1, hx, fun ρ' σ' h' st' _ _ => ks.nx _ _ S1 H1 h' st' p1.sS⟩
theorem js_par {i j : Nat} {x y : Str} {px py pt : Pos} {kt k2 pt2} (hc : X.calm = true) (hN : X.N.Nodup) (hi : X.N[i]? = some x) (hj : X.N[j]? = some y) (hij : i ≠ j) (hx : X.env.scope.names.lookup x = some .local) (hy : X.env.scope.names.lookup y = some .local)
    (ha : JA X n W κ [a, b] fa) (hw : swappedStores [.Tuple [.Name x px, .Name y py] kt pt] (.Tuple [a, b] k2 pt2) X.env = pure (some [x, y]))
    (hs : swapsWithSole [.Tuple [.Name x px, .Name y py] kt pt] (.Tuple [a, b] k2 pt2) pos.line X.env = pure false) : JS X n W κ (.Assign [.Tuple [.Name x px, .Name y py] kt pt] (.Tuple [a, b] k2 pt2) pos) (gPar i j fa) := by
  refine PS.to (ps_par hc hN hi hj hij hx hy ha hw hs) fun D σ H ⟨m, S, ρ, Dd, st, hg, ks⟩ => ⟨m, S, ρ, _, _, st, hg, fun xs vs S1 H1 hx st1 p1 d1 => ?_, ks.ke⟩
  cases d1 with
  | nil => exact (show False from hx).elim
  | cons d1 t =>
    cases t with
    | nil => exact (show False from hx).elim
    | cons d2 t =>
      cases t with
      | cons _ _ => exact (show False from hx).elim
      | nil => exact ⟨_, _, rfl, ks.nx _ _ S1 H1 hx ((st1.set d1).set d2) p1.sS⟩
theorem js_par3 {i j l : Nat} {x y z : Str} {px py pz pt : Pos} {kt k2 pt2} (hc : X.calm = true) (hN : X.N.Nodup) (hi : X.N[i]? = some x) (hj : X.N[j]? = some y) (hl : X.N[l]? = some z) (hij : i ≠ j) (hil : i ≠ l) (hjl : j ≠ l)
    (hx : X.env.scope.names.lookup x = some .local) (hy : X.env.scope.names.lookup y = some .local) (hz : X.env.scope.names.lookup z = some .local) (ha : JA X n W κ [a, b, c] fa)
    (hw : swappedStores [.Tuple [.Name x px, .Name y py, .Name z pz] kt pt] (.Tuple [a, b, c] k2 pt2) X.env = pure (some [x, y, z]))
    (hs : swapsWithSole [.Tuple [.Name x px, .Name y py, .Name z pz] kt pt] (.Tuple [a, b, c] k2 pt2) pos.line X.env = pure false) : JS X n W κ (.Assign [.Tuple [.Name x px, .Name y py, .Name z pz] kt pt] (.Tuple [a, b, c] k2 pt2) pos) (gPar3 i j l fa) := by
  refine PS.to (ps_par3 hc hN hi hj hl hij hil hjl hx hy hz ha hw hs) fun D σ H ⟨m, S, ρ, Dd, st, hg, ks⟩ => ⟨m, S, ρ, _, _, st, hg, fun xs vs S1 H1 hx st1 p1 d1 => ?_, ks.ke⟩
  cases d1 with
  | nil => exact (show False from hx).elim
  | cons d1 t =>
    cases t with
    | nil => exact (show False from hx).elim
    | cons d2 t =>
      cases t with
      | nil => exact (show False from hx).elim
      | cons d3 t =>
        cases t with
        | cons _ _ => exact (show False from hx).elim
        | nil => exact ⟨_, _, _, rfl, ks.nx _ _ S1 H1 hx (((st1.set d1).set d2).set d3) p1.sS⟩
/-- name += e, -= e of ints -/
theorem js_augI {i : Nat} {x : Str} {op : Operator} {ff : Int → Int → Int} {pos' : Pos} (hN : X.N.Nodup) (hi : X.N[i]? = some x) (hx : Loc X.env.scope x) (he : JE X n W κ e f) (ho : PIp X op (ipI ff)) (hf : X.fn x = true ∨ X.env.scope.names.lookup x = some .local) :
    JS X n W κ (.AugAssign (.Name x pos') op e pos) (gAugI ff i f) := by
  refine PS.to (ps_aug hN hi hx he ho hf) fun D σ H ⟨m, S, ρ, Dd, st, hg, ks⟩ => ?_
  unfold gAugI at hg
  cases q : ρ[i]? with
  | none => rw [q] at hg; exact hg.elim
  | some s =>
    rw [q] at hg
    obtain ⟨A, h1, _⟩ := st.sl
    have sl := h1 i _ q
    cases s with
    | no => exact hg.elim
    | own _ => exact hg.elim
    | v x =>
      cases x with
      | exc _ _ => exact hg.elim
      | well => exact hg.elim
      | d x =>
        cases x with
        | int a =>
          obtain ⟨v, e1, d⟩ := sl
          cases d
          refine ⟨_, e1, m, S, ρ, _, _, st, hg, fun x v S' H' hx st' p d => ?_, ks.ke⟩
          obtain ⟨b, rfl, hx⟩ := onI_of hx
          cases d
          exact ⟨a, b, rfl, rfl, ks.nx _ _ S' H' hx (st'.set (x := .d (.int _)) (.int _)) p.sS⟩
        | _ => exact hg.elim
/-- for tg in iter: .. -/
theorem js_for {κb : Nat} {wr : List Nat} {gd : DG} (L : Nat) (B : Bok X n W k) (hi : JI X n W κi tg iter fi) (hg : JG X n wr tg gd) (hb : JB X n W κb body gb) (hs : ∀ x, foldedSetIterable iter X.env x = pure x) : JS X n W (κi + L * κb) (.For tg iter body [] pos) (gFor L fi gd gb) := by
  refine PS.to (ps_for B.po B.c.calm hi hg hb hs) fun D σ H ⟨m, S, ρ, Dd, st, hgd, ks⟩ => ?_
  refine ⟨m + L * κb, S, ρ, _, _, st_split st, hgd, fun xs J S1 H1 ⟨hL, hx⟩ st1 p1 hJ => ?_, (ks.up (by omega)).ke⟩
  refine ⟨fun i k σ2 H2 => k = xs.length - i ∧ i ≤ xs.length ∧ ∃ S2 ρ2, StOk X.K n (m + (xs.length - i) * κb) S2 H2 σ2 ρ2 ∧ Same S1 S2 ∧ loopD gd gb Dd (xs.drop i) ρ2, ⟨xs.length, by simp, Nat.zero_le _, S1, ρ, st1.le ?_, Same.refl _, by simpa using hx⟩, ?_⟩
  · have := Nat.mul_le_mul_right κb hL
    simp only [Nat.sub_zero]
    omega
  · rintro i k σ2 H2 ⟨rfl, hi, S2, ρ2, st2, s2, hl⟩
    obtain ⟨j1, j2, j3⟩ := hJ S2 H2 s2 st2.wd.sm
    by_cases hlt : i < xs.length
    · have hcost : m + (xs.length - i) * κb = (m + (xs.length - (i + 1)) * κb) + κb := by
        have : xs.length - i = (xs.length - (i + 1)) + 1 := by omega
        rw [this, Nat.add_mul]
        omega
      refine .inr ⟨j1 i hlt, fun σ' H' => i + 1 ≤ xs.length ∧ ∃ S2 ρ2, StOk X.K n (m + (xs.length - (i + 1)) * κb) S2 H' σ' ρ2 ∧ Same S1 S2 ∧ loopD gd gb Dd (xs.drop (i + 1)) ρ2, fun σ' H' q => ⟨xs.length - (i + 1), by omega, rfl, q⟩, fun x H3 y => ?_⟩
      obtain ⟨S3, d, g3, hxd, dx⟩ := j3 i x H3 hlt y
      have hdr : xs.drop i = d :: xs.drop (i + 1) := List.drop_eq_getElem_cons hlt ▸ by
        have : xs[i] = d := Option.some.inj ((List.getElem?_eq_getElem hlt).symm.trans hxd)
        rw [this]
      rw [hdr] at hl
      have s3 := s2.trans g3.po.sS
      have p3 : Same S S3 := p1.sS.trans s3
      have k3 := (ks.up (m' := m + (xs.length - (i + 1)) * κb) (by omega)).af p3
      refine ⟨_, S3, ρ2, d, _, hcost ▸ st2.grow g3, dx, hl, fun ρ4 σ4 h4 st4 _ _ => ?_⟩
      refine ⟨_, S3, ρ4, _, st4, h4, fun ρ5 σ5 S5 H5 h5 st5 s5 => ⟨hlt, S5, ρ5, st5, s3.trans s5, h5⟩, k3.rt, fun ρ5 σ5 S5 H5 h5 st5 s5 => k3.nx ρ5 σ5 S5 H5 h5 st5 s5, fun ρ5 σ5 S5 H5 h5 st5 s5 => ⟨hlt, S5, ρ5, st5, s3.trans s5, h5⟩, k3.ex⟩
    · have e : i = xs.length := by omega
      subst e
      rw [List.drop_length] at hl
      exact .inl ⟨j2 _ rfl, ks.nx ρ2 σ2 S2 H2 hl (st2.le (by omega)) (p1.sS.trans s2)⟩
/-- while c: .., nothing drawn within -/
theorem js_while (B : Bok X n W k) (hc : JT X n W 0 c t) (hb : JB X n W 0 body gb) : JS X n W 0 (.While c body [] pos) (gWhile t gb) := by
  refine PS.to (ps_while B.po hc hb) fun D σ H ⟨m, S, ρ, Dd, st, ⟨V, ⟨m0, v0⟩, turn⟩, ks⟩ => ?_
  refine ⟨fun k σ2 H2 => ∃ S2 ρ2, StOk X.K n m S2 H2 σ2 ρ2 ∧ Same S S2 ∧ V k ρ2, ⟨m0, S, ρ, st, Same.refl _, v0⟩, ?_⟩
  rintro k σ2 H2 ⟨S2, ρ2, st2, s2, v2⟩
  refine ⟨m, S2, ρ2, _, _, st2, turn k ρ2 v2, fun b S3 H3 hb st3 p3 => ?_, (ks.af s2).ke⟩
  cases b with
  | true =>
    simp only [if_true] at hb ⊢
    have k3 := ks.af (s2.trans p3.sS)
    refine ⟨fun σ' H' => ∃ m', m' < k ∧ ∃ S2 ρ2, StOk X.K n m S2 H' σ' ρ2 ∧ Same S S2 ∧ V m' ρ2, fun σ' H' q => q, ?_⟩
    refine ⟨m, S3, ρ2, _, st3, hb, fun ρ5 σ5 S5 H5 ⟨m', hm, h5⟩ st5 s5 => ⟨m', hm, S5, ρ5, st5, (s2.trans p3.sS).trans s5, h5⟩, k3.rt, k3.nx, fun ρ5 σ5 S5 H5 ⟨m', hm, h5⟩ st5 s5 => ⟨m', hm, S5, ρ5, st5, (s2.trans p3.sS).trans s5, h5⟩, k3.ex⟩
  | false =>
    simp only [Bool.false_eq_true, if_false] at hb ⊢
    exact ks.nx ρ2 σ2 S3 H3 hb st3 (s2.trans p3.sS)
end
end Wb
/-! Wb8: the rule of a def; short forms for the printed proofs. -/
namespace Wb
open PySem PySem.Spec PyProof.Rows L2
/-- a body's meaning as a def's: np parameters, then nl names not yet bound -/
def fnB (np nl : Nat) (g : DS) : Fn := fun xs R Er => xs.length = np ∧ g ⟨fun _ => R (.d .none), fun _ => R, fun _ => False, fun _ => False, fun _ => Er⟩ (xs.map .v ++ List.replicate nl .no)
theorem start_st {K : Frag} {CT : Nat → Addr} {wl : Option Addr} {m : Nat} {S H : Hp} {N : List Str} {vs : List V} {xs : List DV} {nl : Nat} (w : Wd wl m S H) (d : DvAll K (En.of CT wl S H) S vs xs) (hn : N.length = xs.length + nl) :
    StOk K (En.of CT wl S H) m S H (L2.start N vs) (xs.map .v ++ List.replicate nl .no) := by
  have dl := d.len
  refine ⟨w, Post.refl, ?_, fun _ => 0, fun i s e => ?_, fun i j ys zs e _ _ => ?_⟩
  · unfold L2.start
    rw [List.length_append, List.length_append, List.length_map, List.length_map, List.length_replicate, List.length_replicate]
    omega
  · by_cases hi : i < xs.length
    · rw [List.getElem?_append_left (by simpa using hi), List.getElem?_map] at e
      unfold L2.start
      rw [List.getElem?_append_left (by rw [List.length_map, dl]; exact hi), List.getElem?_map]
      have get : ∀ {vs : List V} {xs : List DV} {i : Nat} {x : DV}, DvAll K (En.of CT wl S H) S vs xs → xs[i]? = some x → ∃ v, vs[i]? = some v ∧ DvOk K (En.of CT wl S H) S v x := by
        intro vs xs i x d
        induction d generalizing i with
        | nil => intro e; simp at e
        | cons h t ih =>
          intro e
          cases i with
          | zero =>
            simp at e
            subst e
            exact ⟨_, rfl, h⟩
          | succ i => simpa using ih (by simpa using e)
      cases q : xs[i]? with
      | none => rw [q] at e; cases e
      | some x =>
        rw [q] at e
        cases e
        obtain ⟨v, h1, h2⟩ := get d q
        exact ⟨v, by rw [h1]; rfl, h2⟩
    · rw [List.getElem?_append_right (by simpa using hi), List.getElem?_replicate] at e
      split at e
      · cases e; exact trivial
      · cases e
  · by_cases hi : i < xs.length
    · rw [List.getElem?_append_left (by simpa using hi), List.getElem?_map] at e
      cases q : xs[i]? with
      | none => rw [q] at e; cases e
      | some x => rw [q] at e; cases e
    · rw [List.getElem?_append_right (by simpa using hi), List.getElem?_replicate] at e
      split at e <;> cases e
abbrev WE (E : XK) : WX := fun cls d _ H' => E cls d H'
/-- THE RULE of a def -/
theorem defG_of {P : Program} {w : World} {K : Frag} {mg : Str → Option Value} {base : Heap} {k κ nl : Nat} {f : Addr} {fd : FuncData} {x qual : Str} {st : Stmt} {N ps : List Str} {CT : Nat → Addr} {g : DS} (F : Fun K x qual st f fd) (S : FnScope N ps (defScope st)) (hmg : mg x = some (.ref f))
    (hb : Binds K fd ps []) (hl : N.length = ps.length + nl)
    (body : ∀ (cdv : Value) (A : Around) (outer : List Env) (s : Shared) (H : Hp) (E : XK) (wl : Option Addr) (S0 : Hp), Bok (cxOf (L2.CX P w) P w K mg base N qual (defScope st) f cdv A outer s H E) (En.of CT wl S0 H) (WE E) k →
      JB (cxOf (L2.CX P w) P w K mg base N qual (defScope st) f cdv A outer s H E) (En.of CT wl S0 H) (WE E) κ (defBody st) g) :
    DefG P w K mg base x ps (k + 1) f fd (spD K CT κ (fnB ps.length nl g)) := by
  refine ⟨fnG_of F S (fun vs H Q E ⟨wl, m, S, xs, R, Er, w, d, ⟨h1, _⟩, _⟩ => d.len.trans h1) fun cdv A outer s H vs Q E hgd hr hsp => ?_, hmg, F.kp, hb⟩
  obtain ⟨wl, m, S0, xs, R, Er, wd, d, ⟨hx, hg⟩, kR, kE⟩ := hsp
  have nd := S.nd
  refine ⟨_, body cdv A outer s H E wl S0 ⟨⟨rfl, L2.takes_of rfl rfl rfl rfl, hr, hgd, nd⟩, L2.passes_of rfl⟩, m, S0, _, _, start_st wd d (by rw [hl, hx]), hg, fun ρ' σ' S' H' h s z => ?_, fun ρ' σ' x v S' H' h s dv => ?_, fun _ _ _ _ h => h.elim, fun _ _ _ _ h => h.elim, fun ρ' c x cls dx σ' S' H' h s e z => ?_⟩
  · exact kR _ .non S' H' h s.wd s.po .non
  · exact kR x v S' H' h s.wd s.po dv
  · exact kE c x cls dx S' H' h s.wd s.po e

/-! ### the draw: the well as a list of one's own -/
/-- what a draw asks and gives -/
def drawFn : Fn := fun xs R _ => ∃ many : Int, xs = [.wel, .d (.int many)] ∧ 0 < many ∧ many < 2 ^ 60 ∧ ∀ x : Int, 0 ≤ x → x < many → R (.d (.int x))
/-- the law of a draw's body: a b c the well, budget m + 1 -/
def DrawLaw (nl : Nat) (g : DS) : Prop := ∀ (m : Nat) (a b c many : Int), WOk (m + 1) a b c → 0 < many → many < 2 ^ 60 →
  g ⟨fun _ => False, fun ρ x => ∃ a' b' c' z : Int, ρ[0]? = some (.own [.int a', .int b', .int c']) ∧ WOk m a' b' c' ∧ x = .d (.int z) ∧ 0 ≤ z ∧ z < many, fun _ => False, fun _ => False, fun _ _ _ => False⟩
    ([.own [.int a, .int b, .int c], .v (.d (.int many))] ++ List.replicate nl .no)
theorem draw_of {P : Program} {w : World} {K : Frag} {mg : Str → Option Value} {base : Heap} {k nl : Nat} {f : Addr} {fd : FuncData} {x qual : Str} {st : Stmt} {N ps : List Str} {CT : Nat → Addr} {g : DS} (F : Fun K x qual st f fd) (S : FnScope N ps (defScope st)) (hmg : mg x = some (.ref f))
    (hb : Binds K fd ps []) (h2 : ps.length = 2) (hl : N.length = 2 + nl) (law : DrawLaw nl g)
    (body : ∀ (cdv : Value) (A : Around) (outer : List Env) (s : Shared) (H : Hp) (E : XK) (n : En), n.CT = CT → Bok (cxOf (L2.CX P w) P w K mg base N qual (defScope st) f cdv A outer s H E) n (WE E) k →
      JB (cxOf (L2.CX P w) P w K mg base N qual (defScope st) f cdv A outer s H E) n (WE E) 0 (defBody st) g) :
    DefG P w K mg base x ps (k + 1) f fd (spD K CT 1 drawFn) := by
  refine ⟨fnG_of F S (fun vs H Q E ⟨wl, m, S, xs, R, Er, w, d, ⟨many, h1, _⟩, _⟩ => by rw [d.len, h1, h2]; rfl) fun cdv A outer s H vs Q E hgd hr hsp => ?_, hmg, F.kp, hb⟩
  obtain ⟨wl, m, S0, xs, R, Er, wd, d, ⟨many, rfl, hm0, hm1, hR⟩, kR, kE⟩ := hsp
  cases d with
  | cons d1 d2 =>
  cases d2 with
  | cons d2 d3 =>
  cases d3
  obtain ⟨p, rfl, hwl⟩ := d1
  have hwl : wl = some p := hwl
  cases d2
  obtain ⟨sp, a, b, c, hp, hW⟩ := wd.we p hwl
  have nd := S.nd
  have tk := L2.takes_of (X := cxOf (L2.CX P w) P w K mg base N qual (defScope st) f cdv A outer s H E) (E := E) rfl rfl rfl rfl
  let n : En := ⟨CT, none, S0, fun b => if b = p then none else H b, fun a => a = p⟩
  have hn0 : n.H0 p = none := if_pos rfl
  have hne : ∀ b, b ≠ p → n.H0 b = H b := fun b hb => if_neg hb
  have st0 : StOk K n m S0 H (L2.start N [.ref p, .int many]) ([.own [.int a, .int b, .int c], .v (.d (.int many))] ++ List.replicate nl .no) := by
    refine ⟨⟨wd.sm, fun q z => nomatch z⟩, ⟨Same.refl S0, fun _ _ z => z, fun q o z _ => ?_, fun q z => ?_⟩, ?_, fun _ => p, fun i t e => ?_, fun i j ys zs e1 e2 _ => ?_⟩
    · by_cases hq : q = p
      · subst hq; rw [hn0] at z; cases z
      · rw [hne q hq] at z; exact z
    · by_cases hq : q = p
      · subst hq; exact absurd hn0 z
      · rw [hne q hq] at z; exact z
    · unfold L2.start
      rw [List.length_append, List.length_append, List.length_replicate, List.length_replicate, List.length_map, hl]
      simp
    · unfold L2.start
      match i, e with
      | 0, e =>
        cases e
        exact ⟨rfl, sp, ⟨hn0, rfl⟩, (fun z => nomatch z), _, hp, .cons (.int _) (.cons (.int _) (.cons (.int _) .nil))⟩
      | 1, e =>
        cases e
        exact ⟨_, rfl, .int _⟩
      | i + 2, e =>
        have e : (List.replicate nl Sl.no)[i]? = some t := e
        rw [List.getElem?_replicate] at e
        split at e
        · cases e; exact trivial
        · cases e
    · have no : ∀ {i : Nat} {ys}, ([Sl.own [.int a, .int b, .int c], .v (.d (.int many))] ++ List.replicate nl .no)[i]? = some (.own ys) → i = 0 := fun {i ys} e => by
        match i, e with
        | 0, _ => rfl
        | 1, e => cases e
        | i + 2, e =>
          have e : (List.replicate nl Sl.no)[i]? = some (.own ys) := e
          rw [List.getElem?_replicate] at e
          split at e <;> cases e
      rw [no e1, no e2]
  have lw := law m a b c many hW hm0 hm1
  refine ⟨_, body cdv A outer s H E n rfl ⟨⟨rfl, tk, hr, hgd, nd⟩, L2.passes_of rfl⟩, m, S0, _, _, st0, lw, fun _ _ _ _ h => h.elim, fun ρ' σ' x v S' H' h s' dv => ?_, fun _ _ _ _ h => h.elim, fun _ _ _ _ h => h.elim, fun _ _ _ _ _ _ _ _ h => h.elim⟩
  obtain ⟨a', b', c', z, h0, hW', rfl, hz0, hz1⟩ := h
  obtain ⟨A', q1, _⟩ := s'.sl
  obtain ⟨g1, g2, g3, g4, us, g5, g6⟩ := q1 0 _ h0
  have eA : A' 0 = p := g3.2
  rw [eA] at g2 g5
  cases dv
  cases g6 with
  | cons u1 g6 =>
  cases g6 with
  | cons u2 g6 =>
  cases g6 with
  | cons u3 g6 =>
  cases g6
  cases u1
  cases u2
  cases u3
  refine kR _ _ S' H' (hR z hz0 hz1) ⟨s'.wd.sm, fun q e => ?_⟩ ⟨s'.po.sS, fun q hq sq => ?_, fun q o e hq => ?_, fun q hq => ?_⟩ (.int z)
  · rw [hwl] at e
    cases e
    exact ⟨g2, a', b', c', g5, hW'⟩
  · by_cases e : q = p
    · rw [e]; exact g2
    · exact s'.po.fr q (by rw [hne q e]; exact hq) sq
  · have e2 : q ≠ p := fun z => hq (by rw [z]; exact hwl)
    exact s'.po.kp q o (by rw [hne q e2]; exact e) (fun z => nomatch z)
  · by_cases e : q = p
    · rw [e, g5]; exact Option.some_ne_none _
    · exact s'.po.al q (by rw [hne q e]; exact hq)
section
variable {X : Cx} {n : En} {W : WX} {κ κ' κ2 κi κt κe κf k k' : Nat} {e a b c elt tg iter : Expr} {es ifs : List Expr} {pos : Pos} {f h g : DE} {fa fk : DA} {t u : DT} {fi : DN}
theorem js_retN : JS X n W 0 (.Return none pos) (gRet (dC .none)) := PS.to ps_retN fun D σ H ⟨m, S, ρ, Dd, st, hg, ks⟩ => ks.rt ρ σ _ .non S H hg st .non

/-! ### short forms -/
theorem v (i : Nat) {x : Str} (hN : X.N[i]? = some x := by rfl) (hv : Vis X.env.scope x := by first | exact .inl rfl | exact .inr (.inl rfl) | exact .inr (.inr rfl)) (hd : (x == ("__debug__" : Str)) = false := by rfl) (hcd : (x == ("__classdict__" : Str)) = false := by rfl) :
    JE X n W 0 (.Name x pos) (dVar i) := je_var hN hv hd hcd
theorem o (i : Nat) {x : Str} (hN : X.N[i]? = some x := by rfl) (hv : Vis X.env.scope x := by first | exact .inl rfl | exact .inr (.inl rfl) | exact .inr (.inr rfl)) (hd : (x == ("__debug__" : Str)) = false := by rfl) (hcd : (x == ("__classdict__" : Str)) = false := by rfl) :
    JO X n W 0 (.Name x pos) (dOwn i) := jo_own hN hv hd hcd
theorem gn (C : Cok X n W k) (i : Nat) {x : Str} (hi : X.N[i]? = some x := by rfl) (hx : Loc X.env.scope x := by first | exact .inl rfl | exact .inr rfl) (hf : X.fn x = true ∨ X.env.scope.names.lookup x = some .local := by first | exact .inr rfl | exact .inl rfl) :
    JG X n [i] (.Name x pos) (gNm i) := jg_name C.nd hi hx hf
theorem ac {fr : DA} (ha : JE X n W κ e f) (hb : JA X n W κ' es fr) (hs : starEach (e :: es) X.env = (false, eval e X.env) :: starEach es X.env := by rfl) : JA X n W (κ + κ') (e :: es) (aCons f fr) := ja_cons ha hb hs
theorem oc {fr : DA} (ha : JO X n W κ e f) (hb : JAO X n W κ' es fr) (hs : starEach (e :: es) X.env = (false, eval e X.env) :: starEach es X.env := by rfl) : JAO X n W (κ + κ') (e :: es) (aCons f fr) := jo_cons ha hb hs
theorem cl {G : Fn} {x : Str} {ps : List Str} {ff : Addr} {fd : FuncData} {p : Pos} (F : DefG X.prog X.w X.K X.mg X.base x ps k ff fd (spD X.K n.CT κf G)) (C : Cok X n W k') (hk : k ≤ k') (ha : JA X n W κ (e :: es) fa) (hg : Gl X x := by rfl)
    (hdb : (x == ("__debug__" : Str)) = false := by rfl) (he : starEach (e :: es) X.env = (false, eval e X.env) :: starEach es X.env := by rfl) (hpl : (backTo pos (starEach es X.env)).any (·.1) = false := by rfl) : JE X n W (κ + κf) (.Call (.Name x p) (e :: es) [] pos) (dCall G fa) := je_call F C hk ha hg hdb he hpl
theorem bi {id : String} {x : Str} {p : Pos} {r : List V → Hp → VK → Prop} {gg : List DV → (DV → Prop) → Prop} (hc : CallR X (.builtin id) r) (hr : CaD X.K r gg) (hv : bootBuiltins x = some (.builtin id)) (hm : X.mg x = none) (ha : JAO X n W κ (e :: es) fa) (hg : Gl X x := by rfl)
    (hn : x ≠ "__name__" := by decide) (hdb : (x == ("__debug__" : Str)) = false := by rfl) (he : starEach (e :: es) X.env = (false, eval e X.env) :: starEach es X.env := by rfl) (hpl : (backTo pos (starEach es X.env)).any (·.1) = false := by rfl) :
    JE X n W κ (.Call (.Name x p) (e :: es) [] pos) (dBi gg fa) := je_bi hc hr hg hm hv ha hn hdb he hpl
theorem ty {T : String} {x : Str} {p : Pos} {r : List V → Hp → VK → Prop} {gg : List DV → (DV → Prop) → Prop} (hc : CallR X (.type T) r) (hr : CaD X.K r gg) (hv : bootBuiltins x = some (.type T)) (hm : X.mg x = none) (ha : JAO X n W κ (e :: es) fa) (hg : Gl X x := by rfl)
    (hn : x ≠ "__name__" := by decide) (hdb : (x == ("__debug__" : Str)) = false := by rfl) (he : starEach (e :: es) X.env = (false, eval e X.env) :: starEach es X.env := by rfl) (hpl : (backTo pos (starEach es X.env)).any (·.1) = false := by rfl) :
    JE X n W κ (.Call (.Name x p) (e :: es) [] pos) (dBi gg fa) := je_ty hc hr hg hm hv ha hn hdb he hpl

theorem b_abs : bootBuiltins "abs" = some (.builtin "abs") := by decide +kernel
theorem b_max : bootBuiltins "max" = some (.builtin "max") := by decide +kernel
theorem b_min : bootBuiltins "min" = some (.builtin "min") := by decide +kernel
theorem b_sum : bootBuiltins "sum" = some (.builtin "sum") := by decide +kernel
theorem b_all : bootBuiltins "all" = some (.builtin "all") := by decide +kernel
theorem b_any : bootBuiltins "any" = some (.builtin "any") := by decide +kernel
theorem b_repr : bootBuiltins "repr" = some (.builtin "repr") := by decide +kernel
theorem b_len : bootBuiltins "len" = some (.builtin "len") := by decide +kernel
theorem b_int : bootBuiltins "int" = some (.type "int") := by decide +kernel
theorem b_bool : bootBuiltins "bool" = some (.type "bool") := by decide +kernel
theorem b_tuple : bootBuiltins "tuple" = some (.type "tuple") := by decide +kernel
theorem b_list : bootBuiltins "list" = some (.type "list") := by decide +kernel
theorem b_str : bootBuiltins "str" = some (.type "str") := by decide +kernel
theorem c_len : CallR X (.builtin "len") (fun xs H Q => (∃ p ys, xs = [.ref p] ∧ (SqL X.K H p ys ∨ SqT X.K H p ys) ∧ Q (.int ys.length) H) ∨ ∃ z, xs = [.str z] ∧ z.length ≤ sizeLine ∧ Q (.int z.length) H) := call_len_seq.or call_len_str
theorem j_len {x : Str} {p : Pos} (hx : x = "len") (hm : X.mg "len" = none) (ha : JAO X n W κ (e :: es) fa) (hg : Gl X x := by rfl) (he : starEach (e :: es) X.env = (false, eval e X.env) :: starEach es X.env := by rfl) (hpl : (backTo pos (starEach es X.env)).any (·.1) = false := by rfl) :
    JE X n W κ (.Call (.Name x p) (e :: es) [] pos) (dBi bLen fa) := by subst hx; exact je_bi c_len caD_len hg hm b_len ha (by decide) (by decide) he hpl
theorem j_abs {x : Str} {p : Pos} (hx : x = "abs") (hm : X.mg "abs" = none) (ha : JAO X n W κ (e :: es) fa) (hg : Gl X x := by rfl) (he : starEach (e :: es) X.env = (false, eval e X.env) :: starEach es X.env := by rfl) (hpl : (backTo pos (starEach es X.env)).any (·.1) = false := by rfl) :
    JE X n W κ (.Call (.Name x p) (e :: es) [] pos) (dBi bAbs fa) := by subst hx; exact je_bi call_abs caD_abs hg hm b_abs ha (by decide) (by decide) he hpl
theorem j_max {x : Str} {p : Pos} (C : Cok X n W k) (hx : x = "max") (hm : X.mg "max" = none) (ha : JAO X n W κ (e :: es) fa) (hg : Gl X x := by rfl) (he : starEach (e :: es) X.env = (false, eval e X.env) :: starEach es X.env := by rfl) (hpl : (backTo pos (starEach es X.env)).any (·.1) = false := by rfl) :
    JE X n W κ (.Call (.Name x p) (e :: es) [] pos) (dBi bMax2 fa) := by subst hx; exact je_bi (call_max2 C.calm) caD_max2 hg hm b_max ha (by decide) (by decide) he hpl
theorem j_min {x : Str} {p : Pos} (C : Cok X n W k) (hx : x = "min") (hm : X.mg "min" = none) (ha : JAO X n W κ (e :: es) fa) (hg : Gl X x := by rfl) (he : starEach (e :: es) X.env = (false, eval e X.env) :: starEach es X.env := by rfl) (hpl : (backTo pos (starEach es X.env)).any (·.1) = false := by rfl) :
    JE X n W κ (.Call (.Name x p) (e :: es) [] pos) (dBi bMin2 fa) := by subst hx; exact je_bi (call_min2 C.calm) caD_min2 hg hm b_min ha (by decide) (by decide) he hpl
theorem j_sum {x : Str} {p : Pos} (C : Cok X n W k) (hx : x = "sum") (hm : X.mg "sum" = none) (ha : JAO X n W κ (e :: es) fa) (hg : Gl X x := by rfl) (he : starEach (e :: es) X.env = (false, eval e X.env) :: starEach es X.env := by rfl) (hpl : (backTo pos (starEach es X.env)).any (·.1) = false := by rfl) :
    JE X n W κ (.Call (.Name x p) (e :: es) [] pos) (dBi bSum fa) := by subst hx; exact je_bi (cr_sum C.calm) caD_sum hg hm b_sum ha (by decide) (by decide) he hpl
theorem j_all {x : Str} {p : Pos} (C : Cok X n W k) (hx : x = "all") (hm : X.mg "all" = none) (ha : JAO X n W κ (e :: es) fa) (hg : Gl X x := by rfl) (he : starEach (e :: es) X.env = (false, eval e X.env) :: starEach es X.env := by rfl) (hpl : (backTo pos (starEach es X.env)).any (·.1) = false := by rfl) :
    JE X n W κ (.Call (.Name x p) (e :: es) [] pos) (dBi bAll fa) := by subst hx; exact je_bi (cr_all C.calm) caD_all hg hm b_all ha (by decide) (by decide) he hpl
theorem j_any {x : Str} {p : Pos} (C : Cok X n W k) (hx : x = "any") (hm : X.mg "any" = none) (ha : JAO X n W κ (e :: es) fa) (hg : Gl X x := by rfl) (he : starEach (e :: es) X.env = (false, eval e X.env) :: starEach es X.env := by rfl) (hpl : (backTo pos (starEach es X.env)).any (·.1) = false := by rfl) :
    JE X n W κ (.Call (.Name x p) (e :: es) [] pos) (dBi bAny fa) := by subst hx; exact je_bi (cr_any C.calm) caD_any hg hm b_any ha (by decide) (by decide) he hpl
theorem j_repr {x : Str} {p : Pos} (C : Cok X n W k) (hx : x = "repr") (hm : X.mg "repr" = none) (ha : JAO X n W κ (e :: es) fa) (hg : Gl X x := by rfl) (he : starEach (e :: es) X.env = (false, eval e X.env) :: starEach es X.env := by rfl) (hpl : (backTo pos (starEach es X.env)).any (·.1) = false := by rfl) :
    JE X n W κ (.Call (.Name x p) (e :: es) [] pos) (dBi bRepr fa) := by
  subst hx
  exact je_bi (call_reprD C.hg (by have := C.hr.un; omega)) caD_repr hg hm b_repr ha (by decide) (by decide) he hpl
theorem j_int {x : Str} {p : Pos} (hx : x = "int") (hm : X.mg "int" = none) (ha : JAO X n W κ (e :: es) fa) (hg : Gl X x := by rfl) (he : starEach (e :: es) X.env = (false, eval e X.env) :: starEach es X.env := by rfl) (hpl : (backTo pos (starEach es X.env)).any (·.1) = false := by rfl) :
    JE X n W κ (.Call (.Name x p) (e :: es) [] pos) (dBi bInt fa) := by subst hx; exact je_ty call_int1 caD_int hg hm b_int ha (by decide) (by decide) he hpl
theorem j_tuple {x : Str} {p : Pos} (hx : x = "tuple") (hm : X.mg "tuple" = none) (ha : JAO X n W κ (e :: es) fa) (hg : Gl X x := by rfl) (he : starEach (e :: es) X.env = (false, eval e X.env) :: starEach es X.env := by rfl) (hpl : (backTo pos (starEach es X.env)).any (·.1) = false := by rfl) :
    JE X n W κ (.Call (.Name x p) (e :: es) [] pos) (dBi bTuple fa) := by subst hx; exact je_ty call_tuple_of caD_tuple hg hm b_tuple ha (by decide) (by decide) he hpl
theorem j_gcd {x : Str} {p : Pos} (hm : X.mg x = some (.builtin "math.gcd")) (ha : JAO X n W κ (e :: es) fa) (hg : Gl X x := by rfl) (hdb : (x == ("__debug__" : Str)) = false := by rfl) (he : starEach (e :: es) X.env = (false, eval e X.env) :: starEach es X.env := by rfl) (hpl : (backTo pos (starEach es X.env)).any (·.1) = false := by rfl) :
    JE X n W κ (.Call (.Name x p) (e :: es) [] pos) (dBi bGcd fa) := je_bif cr_gcd caD_gcd hg hm ha hdb he hpl
theorem hT_int : (kitTypes.all fun t => decide (kitB t "int" = some (subTy t "int"))) = true := by decide +kernel
theorem hT_bool : (kitTypes.all fun t => decide (kitB t "bool" = some (subTy t "bool"))) = true := by decide +kernel
theorem hT_tuple : (kitTypes.all fun t => decide (kitB t "tuple" = some (subTy t "tuple"))) = true := by decide +kernel
theorem hT_list : (kitTypes.all fun t => decide (kitB t "list" = some (subTy t "list"))) = true := by decide +kernel
theorem hT_str : (kitTypes.all fun t => decide (kitB t "str" = some (subTy t "str"))) = true := by decide +kernel
theorem j_isi {x : Str} {T : String} {p p2 : Pos} (hT : (kitTypes.all fun t => decide (kitB t T = some (subTy t T))) = true) (hv : bootBuiltins x = some (.type T)) (hmI : X.mg "isinstance" = none) (hm : X.mg x = none) (ha : JO X n W κ a f) (hgI : Gl X "isinstance" := by rfl) (hg : Gl X x := by rfl)
    (hn : x ≠ "__name__" := by decide) (hdb : (x == ("__debug__" : Str)) = false := by rfl) (he : starEach [a, .Name x p2] X.env = (false, eval a X.env) :: starEach [.Name x p2] X.env := by rfl) (he2 : starEach [.Name x p2] X.env = (false, eval (.Name x p2) X.env) :: starEach [] X.env := by rfl)
    (hpl : (backTo pos (starEach [.Name x p2] X.env)).any (·.1) = false := by rfl) : JE X n W κ (.Call (.Name "isinstance" p) [a, .Name x p2] [] pos) (d1 (gIsi T) f) := je_isi hT hgI hmI hg hm hv hn hdb ha he he2 hpl
theorem j_isE {x : Str} {C : Addr} {c' : Nat} {sub : Nat → Nat → Bool} {p p2 : Pos} (hmI : X.mg "isinstance" = none) (hm : X.mg x = some (.ref C)) (hN : PySem.W.kitOne X.K (.type "NoneType") (.ref C) = some false) (hI : ∀ c, IsC X.K (n.CT c)) (hL : ∀ c, PySem.W.kitOne X.K (.ref (n.CT c)) (.ref C) = some (sub c c'))
    (ha : JO X n W κ a f) (hgI : Gl X "isinstance" := by rfl) (hg : Gl X x := by rfl) (hdb : (x == ("__debug__" : Str)) = false := by rfl) (he : starEach [a, .Name x p2] X.env = (false, eval a X.env) :: starEach [.Name x p2] X.env := by rfl)
    (he2 : starEach [.Name x p2] X.env = (false, eval (.Name x p2) X.env) :: starEach [] X.env := by rfl) (hpl : (backTo pos (starEach [.Name x p2] X.env)).any (·.1) = false := by rfl) : JE X n W κ (.Call (.Name "isinstance" p) [a, .Name x p2] [] pos) (d1 (gIsE c' sub) f) := je_isE hgI hmI hg hm hdb hN hI hL ha he he2 hpl
theorem j_val {D fI : Addr} (hE : ∀ c, ErrCls X.K D fI (n.CT c)) (ha : JO X n W κ a f) (hb : attributeBase a "value" X.env (eval a X.env) = eval a X.env := by rfl) : JE X n W κ (.Attribute a "value" pos) (d1 gVal f) := je_value hE ha hb
theorem j_ix (ha : JO X n W κ a f) (hb : JO X n W κ' b h) (hs : PlainIx b := by exact fun _ _ => rfl) : JE X n W (κ + κ') (.Subscript a b pos) (d2 gIx f h) := je_sub_ix ha hb hs
theorem j_in (C : Cok X n W k) (ha : JO X n W κ a f) (hb : JO X n W κ' b h) (hm : behindInMarks .In b = false := by rfl) : JE X n W (κ + κ') (.Compare a [.In] [b] pos) (d2 gIn f h) := je_in C ha hb hm
theorem j_nin (C : Cok X n W k) (ha : JO X n W κ a f) (hb : JO X n W κ' b h) (hm : behindInMarks .NotIn b = false := by rfl) : JE X n W (κ + κ') (.Compare a [.NotIn] [b] pos) (d2 gNotIn f h) := je_notIn C ha hb hm
theorem t_lt (ha : JO X n W κ a f) (hb : JO X n W κ' b h) : JT X n W (κ + κ') (.Compare a [.Lt] [b] pos) (tVal (d2 gLt f h)) := jt_cmp op_lt (opD_I0 fun _ _ _ => .bl _) ha hb (nomark _)
theorem t_le (ha : JO X n W κ a f) (hb : JO X n W κ' b h) : JT X n W (κ + κ') (.Compare a [.LtE] [b] pos) (tVal (d2 gLe f h)) := jt_cmp op_le (opD_I0 fun _ _ _ => .bl _) ha hb (nomark _)
theorem t_gt (ha : JO X n W κ a f) (hb : JO X n W κ' b h) : JT X n W (κ + κ') (.Compare a [.Gt] [b] pos) (tVal (d2 gGt f h)) := jt_cmp op_gt (opD_I0 fun _ _ _ => .bl _) ha hb (nomark _)
theorem t_ge (ha : JO X n W κ a f) (hb : JO X n W κ' b h) : JT X n W (κ + κ') (.Compare a [.GtE] [b] pos) (tVal (d2 gGe f h)) := jt_cmp op_ge (opD_I0 fun _ _ _ => .bl _) ha hb (nomark _)
theorem t_eq (C : Cok X n W k) (ha : JO X n W κ a f) (hb : JO X n W κ' b h) : JT X n W (κ + κ') (.Compare a [.Eq] [b] pos) (tVal (d2 gEq f h)) := jt_cmp (op_eqA C.hr) opD_eq ha hb (nomark _)
theorem t_ne (C : Cok X n W k) (ha : JO X n W κ a f) (hb : JO X n W κ' b h) : JT X n W (κ + κ') (.Compare a [.NotEq] [b] pos) (tVal (d2 gNe f h)) := jt_cmp (op_neA C.hr) opD_ne ha hb (nomark _)
theorem t_in (C : Cok X n W k) (ha : JO X n W κ a f) (hb : JO X n W κ' b h) (hm : behindInMarks .In b = false := by rfl) : JT X n W (κ + κ') (.Compare a [.In] [b] pos) (tVal (d2 gIn f h)) := jt_cmp (op_inA C.hr) opD_in ha hb hm
theorem t_nin (C : Cok X n W k) (ha : JO X n W κ a f) (hb : JO X n W κ' b h) (hm : behindInMarks .NotIn b = false := by rfl) : JT X n W (κ + κ') (.Compare a [.NotIn] [b] pos) (tVal (d2 gNotIn f h)) := jt_cmp (op_notInA C.hr) opD_notIn ha hb hm
theorem t_v (he : JE X n W κ e f) (hw : ∀ whole, isTrue e X.env whole = (do let v ← whole; standAt e.pos; holding [v] (truthy v)) := by exact fun _ => rfl) : JT X n W κ e (tVal f) := jt_val he hw
/-- a chain of two comparisons of ints -/
theorem oI_lt : OpD X.K (rI0 fun i j => .bl (decide (i < j))) gLt := opD_I0 fun _ _ _ => .bl _
theorem oI_le : OpD X.K (rI0 fun i j => .bl (decide (i ≤ j))) gLe := opD_I0 fun _ _ _ => .bl _
theorem oI_gt : OpD X.K (rI0 fun i j => .bl (decide (j < i))) gGt := opD_I0 fun _ _ _ => .bl _
theorem oI_ge : OpD X.K (rI0 fun i j => .bl (decide (j ≤ i))) gGe := opD_I0 fun _ _ _ => .bl _
theorem se {f : DE} (he : JE X n W κ e f) (hs : swapsWith e none pos.line X.env = pure false := by rfl) : JS X n W κ (.Expr e pos) (gDrop f) := js_expr he hs
theorem ss (C : Cok X n W k) (i : Nat) {x : Str} {pos' : Pos} (he : JE X n W κ e f) (hi : X.N[i]? = some x := by rfl) (hx : Loc X.env.scope x := by first | exact .inl rfl | exact .inr rfl) (hs : swapsWith e (some (.Name x pos')) pos.line X.env = pure false := by rfl)
    (hf : X.fn x = true ∨ X.env.scope.names.lookup x = some .local := by first | exact .inr rfl | exact .inl rfl) : JS X n W κ (.Assign [.Name x pos'] e pos) (gSet i f) := js_set C.nd hi hx he hs hf
theorem sn (C : Cok X n W k) (i : Nat) {x : Str} {pos' : Pos} {fn : DN} (he : JN X n W κ e fn) (hi : X.N[i]? = some x := by rfl) (hx : Loc X.env.scope x := by first | exact .inl rfl | exact .inr rfl) (hs : swapsWith e (some (.Name x pos')) pos.line X.env = pure false := by rfl)
    (hf : X.fn x = true ∨ X.env.scope.names.lookup x = some .local := by first | exact .inr rfl | exact .inl rfl) (hpa : ∀ a, n.pa a := by exact fun _ => trivial) : JS X n W κ (.Assign [.Name x pos'] e pos) (gSetN i fn) := js_setN hpa C.nd hi hx he hs hf
theorem sa {wr : List Nat} {gd : DG} (he : JE X n W κ e f) (hg : JG X n wr tg gd) (hs : swapsWithSole [tg] e pos.line X.env = pure false := by rfl) (hw : swappedStores [tg] e X.env = pure none := by rfl) (h1 : (assignEach [tg] X.env).map (·.2) = [assign tg X.env] := by rfl) :
    JS X n W κ (.Assign [tg] e pos) (gAsg f gd) := js_asg he hg hs hw h1
theorem gt {es : List Expr} {kk : Nat} {wr : List Nat} {g : DGs} (C : Cok X n W k) (nn : Nat) (h : JGs X n wr es g) (hlen : ∀ xs ρ R, g xs ρ R → xs.length = nn) (hn : (assignEach es X.env).length = nn := by rfl) (hst : (assignEach es X.env).findIdx? (·.1) = none := by rfl) : JG X n wr (.Tuple es kk pos) (gTp g) := jg_tup C.calm h hn hst hlen
theorem gc {es : List Expr} {w1 w2 : List Nat} {g1 : DG} {g2 : DGs} (h1 : JG X n w1 e g1) (h2 : JGs X n w2 es g2) (hs : (assignEach (e :: es) X.env).map (·.2) = assign e X.env :: (assignEach es X.env).map (·.2) := by rfl) : JGs X n (w1 ++ w2) (e :: es) (gsCons g1 g2) := jgs_cons h1 h2 hs
theorem sp2 (C : Cok X n W k) (i j : Nat) {x y : Str} {px py pt : Pos} {kt k2 pt2} (ha : JA X n W κ [a, b] fa) (hi : X.N[i]? = some x := by rfl) (hj : X.N[j]? = some y := by rfl) (hij : i ≠ j := by decide) (hx : X.env.scope.names.lookup x = some .local := by rfl) (hy : X.env.scope.names.lookup y = some .local := by rfl)
    (hw : swappedStores [.Tuple [.Name x px, .Name y py] kt pt] (.Tuple [a, b] k2 pt2) X.env = pure (some [x, y]) := by rfl)
    (hs : swapsWithSole [.Tuple [.Name x px, .Name y py] kt pt] (.Tuple [a, b] k2 pt2) pos.line X.env = pure false := by rfl) : JS X n W κ (.Assign [.Tuple [.Name x px, .Name y py] kt pt] (.Tuple [a, b] k2 pt2) pos) (gPar i j fa) := js_par C.calm C.nd hi hj hij hx hy ha hw hs
theorem sp3 (C : Cok X n W k) (i j l : Nat) {x y z : Str} {px py pz pt : Pos} {kt k2 pt2} (ha : JA X n W κ [a, b, c] fa) (hi : X.N[i]? = some x := by rfl) (hj : X.N[j]? = some y := by rfl) (hl : X.N[l]? = some z := by rfl) (hij : i ≠ j := by decide) (hil : i ≠ l := by decide) (hjl : j ≠ l := by decide)
    (hx : X.env.scope.names.lookup x = some .local := by rfl) (hy : X.env.scope.names.lookup y = some .local := by rfl) (hz : X.env.scope.names.lookup z = some .local := by rfl) 
    (hw : swappedStores [.Tuple [.Name x px, .Name y py, .Name z pz] kt pt] (.Tuple [a, b, c] k2 pt2) X.env = pure (some [x, y, z]) := by rfl)
    (hs : swapsWithSole [.Tuple [.Name x px, .Name y py, .Name z pz] kt pt] (.Tuple [a, b, c] k2 pt2) pos.line X.env = pure false := by rfl) : JS X n W κ (.Assign [.Tuple [.Name x px, .Name y py, .Name z pz] kt pt] (.Tuple [a, b, c] k2 pt2) pos) (gPar3 i j l fa) := js_par3 C.calm C.nd hi hj hl hij hil hjl hx hy hz ha hw hs
theorem lc {scope : Scope} (own : List (Str × Nat)) {wr : List Nat} {gd : DG} (L : Nat) (C : Cok X n W k) (hi : JI X n W κi tg iter fi)
    (hg : ∀ (s : Shared) (H : Hp) (CC : Addr) (cl : List (Str × Addr)) (fp : List Addr), JG (X.blk s H scope (compEnvC scope cl CC X.env) fp) n wr tg gd)
    (ht : ∀ (s : Shared) (H : Hp) (CC : Addr) (cl : List (Str × Addr)) (fp : List Addr), JTs (X.blk s H scope (compEnvC scope cl CC X.env) fp) n WF κt ifs t)
    (he : ∀ (s : Shared) (H : Hp) (CC : Addr) (cl : List (Str × Addr)) (fp : List Addr), JE (X.blk s H scope (compEnvC scope cl CC X.env) fp) n WF κe elt f)
    (hL2 : L ≤ 100000 := by decide) (ok : blkC X.N X.env.scope scope own = true := by rfl) (hsub : ∀ j ∈ wr, j ∈ own.map (·.2) := by decide) (hs : ∀ x, foldedSetIterable iter X.env x = pure x := by exact fun _ => rfl) :
    JN X n W (κi + L * (κt + κe)) (.ListComp elt [⟨tg, iter, ifs, 0⟩] scope pos) (nLc L fi gd t f (own.map (·.2))) := jn_lc L hL2 C.calm C.nd hi (blkOk_by ok) hsub hg ht he hs
theorem slc (i : Nat) {y : Str} {py spos : Pos} {scope : Scope} (own : List (Str × Nat)) {wr : List Nat} {gd : DG} (L : Nat) (C : Cok X n W k) (hi : JI X n W κi tg iter fi)
    (hg : ∀ (s : Shared) (H : Hp) (CC : Addr) (cl : List (Str × Addr)) (fp : List Addr), JG (X.blk s H scope (compEnvC scope cl CC X.env) fp) n wr tg gd)
    (ht : ∀ (s : Shared) (H : Hp) (CC : Addr) (cl : List (Str × Addr)) (fp : List Addr), JTs (X.blk s H scope (compEnvC scope cl CC X.env) fp) n WF κt ifs t)
    (he : ∀ (s : Shared) (H : Hp) (CC : Addr) (cl : List (Str × Addr)) (fp : List Addr), JE (X.blk s H scope (compEnvC scope cl CC X.env) fp) n WF κe elt f)
    (hk : X.env.scope.kind = .function := by rfl) (hl : (py.line == pos.line) = true := by rfl) (hna : (scope.names.any fun (n, k) => n == y && (k == .local || k == .cell)) = false := by rfl)
    (hy : X.N[i]? = some y := by rfl) (hyl : X.env.scope.names.lookup y = some .local := by rfl)
    (hL2 : L ≤ 100000 := by decide) (ok : blkC X.N X.env.scope scope own = true := by rfl) (hsub : ∀ j ∈ wr, j ∈ own.map (·.2) := by decide) (hs : ∀ x, foldedSetIterable iter X.env x = pure x := by exact fun _ => rfl) (hpa : ∀ a, n.pa a := by exact fun _ => trivial) :
    JS X n W (κi + L * (κt + κe)) (.Assign [.Name y py] (.ListComp elt [⟨tg, iter, ifs, 0⟩] scope pos) spos) (gSetN i (nLc L fi gd t f (own.map (·.2)))) := js_setLc hpa L hL2 C.calm C.nd hy hyl (sw_true hk hyl hl hna) hi (blkOk_by ok) hsub hg ht he hs
theorem r1 {tg : Expr} {p : Pos} (hm : X.mg "range" = none) (ha : JAO X n W κ [a] fa) (hg : Gl X "range" := by rfl) (hs : starEach [a] X.env = [(false, eval a X.env)] := by rfl) : JI X n W κ tg (.Call (.Name "range" p) [a] [] pos) (iRg rg1 fa) := ji_range1 hg hm ha hs
theorem r2 {tg : Expr} {p : Pos} (hm : X.mg "range" = none) (ha : JAO X n W κ [a, b] fa) (hg : Gl X "range" := by rfl) (hs : starEach [a, b] X.env = [(false, eval a X.env), (false, eval b X.env)] := by rfl) (hs2 : starEach [b] X.env = [(false, eval b X.env)] := by rfl) : JI X n W κ tg (.Call (.Name "range" p) [a, b] [] pos) (iRg rg2 fa) := ji_range2 hg hm ha hs hs2
theorem sf {body : List Stmt} {gb : DS} {κb : Nat} {wr : List Nat} {gd : DG} (L : Nat) (B : Bok X n W k) (hi : JI X n W κi tg iter fi) (hg : JG X n wr tg gd) (hb : JB X n W κb body gb) (hs : ∀ x, foldedSetIterable iter X.env x = pure x := by exact fun _ => rfl) : JS X n W (κi + L * κb) (.For tg iter body [] pos) (gFor L fi gd gb) := js_for L B hi hg hb hs
theorem sr {x : Str} {p pos2 : Pos} {D fI : Addr} {CC : Addr} (cn : Nat) (C0 : Cok X n W k) (B : ErrBase X.prog X.K X.mg D fI) (hE : ∀ c, ErrCls X.K D fI (n.CT c)) (gC : X.mg x = some (.ref (n.CT cn))) (ha : JE X n W κ a f) (hg : Gl X x := by rfl)
    (hdb : (x == ("__debug__" : Str)) = false := by rfl) (he : starEach (a :: []) X.env = (false, eval a X.env) :: starEach [] X.env := by rfl) (hpl : (backTo pos (starEach [] X.env)).any (·.1) = false := by rfl) :
    JS X n W κ (.Raise (some (.Call (.Name x p) [a] [] pos)) none pos2) (gRaise cn f) := js_raise C0 B (hE cn) rfl gC ha hg hdb he hpl
theorem sap (i : Nat) {x : Str} {pos' p pa : Pos} (he : JE X n W κ e f) (hN : X.N[i]? = some x := by rfl) (hv : Vis X.env.scope x := by first | exact .inl rfl | exact .inr (.inl rfl) | exact .inr (.inr rfl)) (hd : (x == ("__debug__" : Str)) = false := by rfl) (hcd : (x == ("__classdict__" : Str)) = false := by rfl) 
    (hbase : attributeBase (.Name x p) "append" X.env (eval (.Name x p) X.env) = eval (.Name x p) X.env := by rfl)
    (hfew : ((backTo pos (starEach (e :: []) X.env)).all (fun x => !x.1) && (backToKw pos (keywordEach [] X.env)).all (fun x => x.1.isSome)
      && decide ((e :: ([] : List Expr)).length + ([] : List Keyword).length + (if ([] : List Keyword).isEmpty then 0 else 1) < 30)) = true := by rfl)
    (hline : (pa.endLine == pos.line) = true := by rfl) (hs : starEach (e :: []) X.env = (false, eval e X.env) :: starEach [] X.env := by rfl) (hplain : (backTo pos (starEach [] X.env)).any (·.1) = false := by rfl)
    (hsw : swapsWith (.Call (.Attribute (.Name x p) "append" pa) [e] [] pos) none pos'.line X.env = pure false := by rfl) :
    JS X n W κ (.Expr (.Call (.Attribute (.Name x p) "append" pa) [e] [] pos) pos') (gApp i f) := js_app hN hv hd hcd he hbase hfew hline hs hplain hsw
theorem st_ {body : List Stmt} {gb : DS} (i j : Nat) {x nm y : Str} {cv : Value} {np pos' p1 p2 p3 : Pos} (C : Cok X n W k) (hs : X.stack = X.env :: X.outer) (hf : X.env.frame = some X.env.locals) (hex : X.ex = []) (hm : X.mg x = some cv) (hX : ∀ c, PySem.W.exmOne X.K (.ref (n.CT c)) cv = some true)
    (hb : ∀ (W : WX) (pn : List (Addr × Obj)) (xe : Value → Shared → Prop), Cok (X.tr pn xe) n W k → Bok (X.tr pn xe) n W k → JB (X.tr pn xe) n W κ body gb) (hi : X.N[i]? = some nm := by rfl) (hln : X.env.kindOf nm = some .local := by rfl) (hj : X.N[j]? = some y := by rfl)
    (hly : X.env.kindOf y = some .local := by rfl) (hij : i ≠ j := by decide) (hnd : (nm == ("__debug__" : Str)) = false := by rfl) (hnc : (nm == ("__classdict__" : Str)) = false := by rfl) (hg : Gl X x := by rfl) (hdb : (x == ("__debug__" : Str)) = false := by rfl)
    (hsw : swapsWith (.Name nm p2) (some (.Name y p1)) p3.line X.env = pure false := by rfl) :
    JS X n W κ (.Try body [.ExceptHandler (some (.Name x np)) (some nm) [.Assign [.Name y p1] (.Name nm p2) p3] pos'] [] [] pos) (gTry i j gb) :=
  js_try hs hf hex C.nd hi hln hj hly hij hnd hnc ⟨hg, hdb, .inl hm⟩ C.tk hX (fun W pn xe tk po => hb W pn xe ⟨C.calm, tk, C.hr, C.hg, C.nd⟩ ⟨⟨C.calm, tk, C.hr, C.hg, C.nd⟩, po⟩) hsw

theorem six (i : Nat) {x : Str} {ei : Expr} {p ps : Pos} {fx : DE} (he : JE X n W κ e f) (hx : JE X n W κ' ei fx) (hN : X.N[i]? = some x := by rfl) (hv : Vis X.env.scope x := by first | exact .inl rfl | exact .inr (.inl rfl) | exact .inr (.inr rfl)) (hd : (x == ("__debug__" : Str)) = false := by rfl) (hcd : (x == ("__classdict__" : Str)) = false := by rfl)
    (hs : swapsWithSole [.Subscript (.Name x p) ei ps] e pos.line X.env = pure false := by rfl) (hw : swappedStores [.Subscript (.Name x p) ei ps] e X.env = pure none := by rfl) (h1 : (assignEach [.Subscript (.Name x p) ei ps] X.env).map (·.2) = [assign (.Subscript (.Name x p) ei ps) X.env] := by rfl)
    (ha : ∀ v, assign (.Subscript (.Name x p) ei ps) X.env v = (do
      let ov ← holding [v] (eval (.Name x p) X.env)
      let iv ← holding [v, ov] (eval ei X.env)
      standAt ps
      holding [v, ov, iv] (setItem ov iv v)
      release [v, ov, iv] []) := by exact fun _ => rfl) :
    JS X n W (κ + κ') (.Assign [.Subscript (.Name x p) ei ps] e pos) (gSetIx i fx f) := js_setIx (pos' := pos) hN hv hd hcd he hx hs hw h1 ha
theorem clk {G : Fn} {x : Str} {ps ks : List Str} {ff : Addr} {fd : FuncData} {p : Pos} {kws : List Keyword} {gg : List Value → List Value → List Value} {gV : List V → List V → List V} {gD : List DV → List DV → List DV}
    (F : DefG X.prog X.w X.K X.mg X.base x ps k ff fd (spD X.K n.CT κf G)) (C : Cok X n W k') (hk : k ≤ k') (hb : KBinds X.K fd ps ks gg gV) (hD : ∀ S vs xs zs ys, DvAll X.K n S vs xs → DvAll X.K n S zs ys → DvAll X.K n S (gV vs zs) (gD xs ys))
    (hkw : JK X n W κ' kws fk) (hg : Gl X x := by rfl) (hall : (backToKw pos (keywordEach kws X.env)).all (·.1.isSome) = true := by rfl)
    (hks : (backToKw pos (keywordEach kws X.env)).filterMap (·.1) = ks := by rfl) (hdb : (x == ("__debug__" : Str)) = false := by rfl) (hpl : (backToKw pos (keywordEach kws X.env)).any (·.1.isNone) = false := by rfl) :
    JE X n W (κ' + κf) (.Call (.Name x p) [] kws pos) (dCallK G gD aNil fk) := je_callK0 F C hk hb hD hkw hg hall hks hdb hpl
end
end Wb
/-! Wb9: the well made (a new list returned), the law's def, the law's end. -/
namespace Wb
open PySem PySem.Spec PyProof.Rows L2
/-- a body that returns a new list -/
def rdZ (K : Frag) (n : En) (κ : Nat) (g : List Sl → (List PD → Prop) → Prop) : TS := fun D σ H => ∃ m S ρ R, StOk K n (m + κ) S H σ ρ ∧ g ρ R ∧
  ∀ xs p vs S' H', R xs → Wd n.wl m S' H' → Post n.wl n.S0 n.H0 S' H' → n.H0 p = none → S' p = none → H' p = some (.lst vs) → DqAll K S' vs xs → D.rt (.ref p) H'
abbrev JZ (X : Cx) (n : En) (κ : Nat) (sts : List Stmt) (g : List Sl → (List PD → Prop) → Prop) : Prop := PSs X sts (rdZ X.K n κ g)
def zRet (fn : DN) : List Sl → (List PD → Prop) → Prop := fun ρ R => fn ρ R noE
def zSeq (a : DS) (b : List Sl → (List PD → Prop) → Prop) : List Sl → (List PD → Prop) → Prop := fun ρ R => a ⟨fun ρ' => b ρ' R, fun _ _ => False, fun _ => False, fun _ => False, fun _ _ _ => False⟩ ρ
section
variable {X : Cx} {n : En} {W : WX} {κ κ' k k' : Nat} {e : Expr} {es : List Expr} {pos : Pos} {st : Stmt} {sts : List Stmt} {fn : DN} {ga : DS} {gb : List Sl → (List PD → Prop) → Prop} {fa : DA}
theorem jz_ret (h : JN X n W κ e fn) : JZ X n κ [.Return (some e) pos] (zRet fn) := PSs.to (pss_one (ps_ret h)) fun D σ H ⟨m, S, ρ, R, st, hg, kR⟩ => by
  refine ⟨m, S, ρ, R, noE, st, hg, fun xs p vs S' H' hx st' po np sp hp d => kR xs p vs S' H' hx st'.wd st'.po ?_ sp hp d, fun c x cls dx S' H' z => z.elim⟩
  by_cases z : n.H0 p = none
  · exact z
  · exact absurd np (st.po.al p z)
theorem jz_cons (h1 : JS X n W κ st ga) (h2 : JZ X n κ' sts gb) : JZ X n (κ + κ') (st :: sts) (zSeq ga gb) := by
  refine PSs.to (pss_cons h1 h2) fun D σ H ⟨m, S, ρ, R, st, hg, kR⟩ => ?_
  exact ⟨m + κ', S, ρ, _, st_split st, hg, fun ρ1 σ1 S1 H1 h1 st1 s1 => ⟨m, S1, ρ1, R, st1, h1, kR⟩, fun _ _ _ _ _ _ z => z.elim, fun _ _ _ _ z => z.elim, fun _ _ _ _ z => z.elim, fun _ _ _ _ _ _ _ _ z => z.elim⟩
theorem jz_le {κa : Nat} (h : JZ X n κ sts gb) (hl : κ ≤ κa) : JZ X n κa sts gb := PSs.to h fun D σ H ⟨m, S, ρ, R, st, hg, k⟩ => ⟨m, S, ρ, R, st.le (by omega), hg, k⟩
end
/-- the promise of _law_well: of script and k a new list of three ints -/
def spW (K : Frag) (g : Nat → List Int → Int → Prop) : Sp := fun vs H Q _ => ∃ S p0 ns k, vs = [.ref p0, .int k] ∧ Same S H ∧ SqL K S p0 (ns.map V.int) ∧ g 0 ns k ∧
  ∀ p a b c S' H', Same S' H' → Post none S H S' H' → H p = none → S' p = none → H' p = some (.lst [.int a, .int b, .int c]) → WOk (2 ^ 60) a b c → Q (.ref p) H'
/-- what _law_well may be asked -/
def WellAsk : Nat → List Int → Int → Prop := fun _ ns k => 0 ≤ k ∧ k < 2 ^ 30 ∧ ns.length ≤ 100000 ∧ ∀ z ∈ ns, z.natAbs < 2 ^ 1100000
def WellLaw (nl : Nat) (g : List Sl → (List PD → Prop) → Prop) : Prop := ∀ (ns : List Int) (k : Int), WellAsk 0 ns k → g ([.v (.scr ns), .v (.d (.int k))] ++ List.replicate nl .no) fun xs => ∃ a b c : Int, xs = [.int a, .int b, .int c] ∧ WOk (2 ^ 60) a b c
structure DefW (P : Program) (w : World) (K : Frag) (mg : Str → Option Value) (base : Heap) (x : Str) (ps : List Str) (k : Nat) (f : Addr) (fd : FuncData) : Prop where
  fn : FnG P w K mg base k f fd ps (spW K WellAsk)
  mgx : mg x = some (.ref f)
  kp : PySem.W.keepIn K (.ref f) = true
  b : Binds K fd ps []
theorem defW_of {P : Program} {w : World} {K : Frag} {mg : Str → Option Value} {base : Heap} {k nl : Nat} {f : Addr} {fd : FuncData} {x qual : Str} {st : Stmt} {N ps : List Str} {CT : Nat → Addr} {g : List Sl → (List PD → Prop) → Prop} (F : Fun K x qual st f fd) (S : FnScope N ps (defScope st))
    (hmg : mg x = some (.ref f)) (hb : Binds K fd ps []) (h2 : ps.length = 2) (hl : N.length = 2 + nl) (law : WellLaw nl g)
    (body : ∀ (cdv : Value) (A : Around) (outer : List Env) (s : Shared) (H : Hp) (E : XK) (wl : Option Addr) (S0 : Hp), Bok (cxOf (L2.CX P w) P w K mg base N qual (defScope st) f cdv A outer s H E) (En.of CT wl S0 H) (WE E) k →
      JZ (cxOf (L2.CX P w) P w K mg base N qual (defScope st) f cdv A outer s H E) (En.of CT wl S0 H) 0 (defBody st) g) : DefW P w K mg base x ps (k + 1) f fd := by
  refine ⟨fnG_of F S (fun vs H Q E ⟨S, p0, ns, k, e, _⟩ => by rw [e, h2]; rfl) fun cdv A outer s H vs Q E hgd hr hsp => ?_, hmg, F.kp, hb⟩
  obtain ⟨S0, p0, ns, kk, rfl, sm, d1, hask, kR⟩ := hsp
  have nd := S.nd
  have wd : Wd none 0 S0 H := ⟨sm, fun q z => nomatch z⟩
  have da : DvAll K (En.of CT none S0 H) S0 [.ref p0, .int kk] [.scr ns, .d (.int kk)] := .cons ⟨p0, rfl, d1⟩ (.cons (.int kk) .nil)
  have tk := L2.takes_of (X := cxOf (L2.CX P w) P w K mg base N qual (defScope st) f cdv A outer s H E) (E := E) rfl rfl rfl rfl
  refine ⟨_, body cdv A outer s H E none S0 ⟨⟨rfl, tk, hr, hgd, nd⟩, L2.passes_of rfl⟩, 0, S0, _, _, start_st wd da (by rw [hl]; rfl), law ns kk hask, fun xs p vs S' H' hx w po h0 sp hp d => ?_⟩
  obtain ⟨a, b, c, rfl, hW⟩ := hx
  cases d with
  | cons u1 d =>
  cases d with
  | cons u2 d =>
  cases d with
  | cons u3 d =>
  cases d
  cases u1
  cases u2
  cases u3
  exact kR p a b c S' H' w.sm po h0 sp hp hW
section
variable {X : Cx} {n : En} {W : WX} {κ κ' k k' : Nat} {e : Expr} {es : List Expr} {pos : Pos} {st : Stmt} {sts : List Stmt} {fn : DN} {ga : DS} {fa : DA}
def nCallW (f : DA) : DN := fun ρ R E => f ρ (fun xs => ∃ ns k, xs = [.scr ns, .d (.int k)] ∧ WellAsk 0 ns k ∧ ∀ a b c, WOk (2 ^ 60) a b c → R [.int a, .int b, .int c]) E
theorem jn_callW {x : Str} {ps : List Str} {ff : Addr} {fd : FuncData} {p : Pos} (F : DefW X.prog X.w X.K X.mg X.base x ps k ff fd) (C : Cok X n W k') (hk : k ≤ k') (ha : JA X n W κ (e :: es) fa) (hg : Gl X x := by rfl)
    (hdb : (x == ("__debug__" : Str)) = false := by rfl) (he : starEach (e :: es) X.env = (false, eval e X.env) :: starEach es X.env := by rfl) (hpl : (backTo pos (starEach es X.env)).any (·.1) = false := by rfl) : JN X n W κ (.Call (.Name x p) (e :: es) [] pos) (nCallW fa) := by
  refine PE.to (pe_callG F.fn C.hg (C.hr.mono hk) C.tk hg F.mgx F.kp F.b ha hdb he hpl) fun σ H Q ⟨m, S, ρ, R, Er, st, hf, kR, kE⟩ => ⟨m, S, ρ, _, Er, st, hf, fun xs vs S1 H1 hx st1 p1 d1 => ?_, kE⟩
  obtain ⟨ns, kk, rfl, hask, hR⟩ := hx
  cases d1 with
  | cons u1 d1 =>
  cases d1 with
  | cons u2 d1 =>
  cases d1
  obtain ⟨p0, rfl, hq⟩ := u1
  cases u2
  refine ⟨S1, p0, ns, kk, rfl, st1.wd.sm, hq, hask, fun p a b c S' H' sm po hp sp hp' hW => ?_⟩
  have nH : H p = none := by
    cases q : H p with
    | none => rfl
    | some o => exact absurd hp (p1.al p (by rw [q]; exact Option.some_ne_none _))
  have wd' : Wd n.wl m S' H' := ⟨sm, fun q e => by
    obtain ⟨h1, a, b, c, h2, h3⟩ := st1.wd.we q e
    exact ⟨po.fr q (by rw [h2]; exact Option.some_ne_none _) h1, a, b, c, po.kp q _ h2 (fun z => nomatch z), h3⟩⟩
  exact kR _ p _ S' H' (hR a b c hW) (st1.step po.wk wd') (p1.trans po.wk) nH sp hp' (.cons (.int _) (.cons (.int _) (.cons (.int _) .nil)))
/-- if not f(well): return False, f always True -/
def gRight (κr i : Nat) : DS := fun D ρ => slOw ρ[i]? fun xs => ∃ a b c m, xs = [.int a, .int b, .int c] ∧ WOk (m + κr) a b c ∧ ∀ a b c, WOk m a b c → D.nx (ρ.set i (.own [.int a, .int b, .int c]))
/-- what f must be -/
def RightFn (G : Fn) : Prop := ∀ R : DV → Prop, R (.d (.bool true)) → G [.wel] R noE
theorem WOk.le {m m' : Nat} {a b c : Int} (h : WOk m a b c) (hl : m' ≤ m) : WOk m' a b c := by
  obtain ⟨h1, h2, h3, h4, h5, h6⟩ := h
  exact ⟨h1, h2, h3, h4, h5, by omega⟩
theorem StOk.callW {K : Frag} {m mm : Nat} {S H S' H' : Hp} {σ : L2.St} {ρ : List Sl} {i : Nat} {p : Addr} {xs : List PD} (s : StOk K n m S H σ ρ) (hi : ρ[i]? = some (.own xs)) (ep : σ[i]? = some (some (.ref p))) (po : Post (some p) S H S' H') (w : Wd (some p) mm S' H') :
    ∃ a b c, WOk mm a b c ∧ StOk K n m S' H' σ (ρ.set i (.own [.int a, .int b, .int c])) := by
  obtain ⟨A, h1, h2⟩ := s.sl
  obtain ⟨g1, g2, g3, g4, vs, g5, g6⟩ := h1 i _ hi
  rw [ep] at g1
  cases g1
  obtain ⟨sp, a, b, c, hp, hW⟩ := w.we _ rfl
  have hl : i < ρ.length := (List.getElem?_eq_some_iff.mp hi).1
  refine ⟨a, b, c, hW, ⟨w.sm, fun q e => ?_⟩, ⟨s.po.sS.trans po.sS, fun a ha sa => po.fr a (s.po.al a ha) (s.po.fr a ha sa), fun a o e wn => ?_, fun a ha => po.al a (s.po.al a ha)⟩, by rw [List.length_set]; exact s.len, A, fun j t e => ?_, fun j k ys' zs e1 e2 z => ?_⟩
  · obtain ⟨q1, a, b, c, q2, q3⟩ := s.wd.we q e
    have ne : q ≠ A i := fun z => g4 (by rw [← z]; exact e)
    exact ⟨po.fr q (by rw [q2]; exact Option.some_ne_none _) q1, a, b, c, po.kp q _ q2 (fun z => ne (Option.some.inj z).symm), q3⟩
  · have ne : a ≠ A i := fun z => by rw [z, g3.1] at e; cases e
    exact po.kp a o (s.po.kp a o e wn) (fun z => ne (Option.some.inj z).symm)
  · by_cases hj : i = j
    · subst hj
      rw [List.getElem?_set_self hl] at e
      cases e
      exact ⟨ep, sp, g3, g4, _, hp, .cons (.int _) (.cons (.int _) (.cons (.int _) .nil))⟩
    · rw [List.getElem?_set_ne hj] at e
      have q := h1 j t e
      cases t with
      | no => exact trivial
      | v x =>
        obtain ⟨v, q1, q2⟩ := q
        exact ⟨v, q1, dv_mono po.sS q2⟩
      | own zs =>
        obtain ⟨q1, q2, q3, q4, ws, q5, q6⟩ := q
        have ne : A j ≠ A i := fun z => hj (h2 j i zs xs e hi z).symm
        exact ⟨q1, po.fr (A j) (by rw [q5]; exact Option.some_ne_none _) q2, q3, q4, ws, po.kp (A j) _ q5 (fun z => ne (Option.some.inj z).symm), dqAll_mono po.sS q6⟩
  · have oo : ∀ k zs, (ρ.set i (Sl.own [.int a, .int b, .int c]))[k]? = some (Sl.own zs) → ∃ ws, ρ[k]? = some (Sl.own ws) := fun k zs e => by
      by_cases hk : i = k
      · subst hk; exact ⟨xs, hi⟩
      · rw [List.getElem?_set_ne hk] at e; exact ⟨zs, e⟩
    obtain ⟨_, f1⟩ := oo _ _ e1
    obtain ⟨_, f2⟩ := oo _ _ e2
    exact h2 j k _ _ f1 f2 z
/-- the well of slot i is lent to a call -/
theorem lend {G : Fn} {κr m i : Nat} {S H : Hp} {σ : L2.St} {ρ : List Sl} {D : Ends} {Dd : DEnds} (hG : RightFn G) (st : StOk X.K n m S H σ ρ) (hg : gRight κr i Dd ρ) (ks : KSt X.K n W m S D Dd) (E : XK) :
    ∃ p, σ[i]? = some (some (.ref p)) ∧ spD X.K n.CT κr G [.ref p] H (fun v H' => v = .bl true ∧ D.nx σ H') E := by
  obtain ⟨xs, hi, a, b, c, m2, rfl, hW, hR⟩ := slOw_of hg
  obtain ⟨A, h1, h2⟩ := st.sl
  obtain ⟨g1, g2, g3, g4, vs, g5, g6⟩ := h1 i _ hi
  cases g6 with
  | cons u1 g6 =>
  cases g6 with
  | cons u2 g6 =>
  cases g6 with
  | cons u3 g6 =>
  cases g6
  cases u1
  cases u2
  cases u3
  refine ⟨A i, g1, some (A i), m2, S, [.wel], fun x => x = .d (.bool true), noE, ⟨st.wd.sm, fun q e => ?_⟩, .cons ⟨A i, rfl, rfl⟩ .nil, hG _ rfl, fun x v S' H' hx w po dv => ?_, fun c x cls dx S' H' z => z.elim⟩
  · cases e
    exact ⟨g2, a, b, c, g5, hW⟩
  · subst hx
    cases dv
    obtain ⟨a', b', c', hW', st'⟩ := st.callW hi g1 po w
    exact ⟨rfl, ks.nx _ σ S' H' (hR a' b' c' hW') st' po.sS⟩
theorem js_right {G : Fn} {κr : Nat} (i : Nat) {x y : Str} {ps : List Str} {ff : Addr} {fd : FuncData} {p p2 p3 p4 p5 p6 : Pos} {j5 : Nat} (F : DefG X.prog X.w X.K X.mg X.base x ps k ff fd (spD X.K n.CT κr G)) (C : Cok X n W k') (hk : k ≤ k') (hG : RightFn G)
    (hg : Gl X x := by rfl) (hN : X.N[i]? = some y := by rfl) (hv : Vis X.env.scope y := by first | exact .inl rfl | exact .inr (.inl rfl) | exact .inr (.inr rfl)) (hd : (y == ("__debug__" : Str)) = false := by rfl) (hcd : (y == ("__classdict__" : Str)) = false := by rfl)
    (hdb : (x == ("__debug__" : Str)) = false := by rfl) (he : starEach (.Name y p2 :: []) X.env = (false, eval (.Name y p2) X.env) :: starEach [] X.env := by rfl) (hpl : (backTo p3 (starEach [] X.env)).any (·.1) = false := by rfl)
    (hw : ∀ whole, isTrue (.Call (.Name x p) [.Name y p2] [] p3) X.env whole = (do let v ← whole; standAt (Expr.Call (.Name x p) [.Name y p2] [] p3).pos; holding [v] (truthy v)) := by exact fun _ => rfl) :
    JS X n W 0 (.If (.UnaryOp .Not (.Call (.Name x p) [.Name y p2] [] p3) p4) [.Return (some (.Constant (.bool false) j5 p5)) p6] [] pos) (gRight κr i) := by
  refine PS.to (ps_if (pt_not (pt_val (pe_callG F.fn C.hg (C.hr.mono hk) C.tk hg F.mgx F.kp F.b (pa_cons (pe_var hN hv hd hcd) pa_nil he) hdb he hpl) hw)) (pss_one (ps_ret pe_bl)) pss_nil) fun D σ H ⟨m, S, ρ, Dd, st, hg, ks⟩ => ?_
  obtain ⟨q, e1, hs⟩ := lend hG st hg ks (fun cls d H' => W cls d σ H')
  refine ⟨_, e1, ?_⟩
  obtain ⟨wl, m, S, xs, R, Er, w, d, hg, kR, kE⟩ := hs
  exact ⟨wl, m, S, xs, R, Er, w, d, hg, fun x v S' H' hx w p dv => by
    obtain ⟨rfl, hnx⟩ := kR x v S' H' hx w p dv
    exact ⟨true, rfl, hnx⟩, kE⟩
end
/-! ### the law's end -/
/-- what law(script) must be -/
def LawFn (n : Nat) (G : Fn) : Prop := ∀ (ns : List Int) (R : DV → Prop), ns.length ≤ n → (∀ z ∈ ns, z.natAbs < 2 ^ 1100000) → R (.d (.bool true)) → G [.scr ns] R noE

/-- the one thing tracked at the law's entry: the script, unless it is the kit's own -/
def oneH (q : Addr) (u : HO) : Hp := fun b => if b = q then some u else none
def only1 (H : Hp) (q : Addr) (u : HO) : Prop := ∀ b v, H b = some v → b = q ∧ v = u
theorem oneH_only (q : Addr) (u : HO) : only1 (oneH q u) q u := fun b v e => by
  unfold oneH at e
  by_cases hb : b = q
  · rw [if_pos hb] at e; exact ⟨hb, (Option.some.inj e).symm⟩
  · rw [if_neg hb] at e; cases e
theorem law_end {P : Program} {w : World} {K : Frag} {mg mb : Str → Option Value} {k : Nat} {fa a : Addr} {fd : FuncData} {x : Str} {CT : Nat → Addr} {G : Fn} {t : Shared} {us : List Value} {ns : List Int} (kin : K.In t.heap) (gl : t.heap.Ns mainGlobals mg)
    (bl : t.heap.Ns builtinsNs mb) (bb : ∀ y : Str, y ≠ "__name__" → mb y = bootBuiltins y) (nl : t.heap.NoLimit) (gn : t.gens = #[]) (obj : t.heap.get? a = some { cls := .type "list", data := .seq us.toArray }) (ia : IntsAre us ns) (sz : ns.length ≤ sizeLine) (rm : Room k callerA)
    (F : ∀ base : Heap, K.In base → base.Ns mainGlobals mg → FnG P w K mg base k fa fd [x] (spD K CT 0 G)) (bind : ∀ (r : Shared) (u : Value), BindsTo r fd ⟨[u], []⟩ [(x, u)]) (hG : ∀ R : DV → Prop, R (.d (.bool true)) → G [.scr ns] R noE) :
    codeAny (model P w) callerA (.call (.ref fa) ⟨[.ref a], []⟩) (fun r t' => r = .ok (.ret (.bool true)) ∧ OldK t.heap t'.heap ∧ t'.os = t.os ∧ AllBare t'.gens) t := by
  have rel := vals_ints ia
  have go : ∀ (H : Hp) (u : HO), u = .frz { cls := .type "list", data := .seq us.toArray } (.lst (ns.map V.int)) → only1 H a u → (∀ v, H a = some v → K.lookup a = none) → SqL K H a (ns.map V.int) → HOk P w H t.heap →
      codeAny (model P w) callerA (.call (.ref fa) ⟨[.ref a], []⟩) (fun r t' => r = .ok (.ret (.bool true)) ∧ OldK t.heap t'.heap ∧ t'.os = t.os ∧ AllBare t'.gens) t := by
    intro H u hu on fr sq ok
    have away : ∀ {b : Addr} {ob : Obj}, t.heap.get? b = some ob → (∀ es ep, ob.data = .dict es ep → True) → (b = a → H a = none) → (hidT t.heap H).get? b = some ob := fun {b ob} e _ hb => hidT_get e (by
      cases q : H b with
      | none => rfl
      | some v =>
        obtain ⟨e1, _⟩ := on b v q
        rw [e1, hb e1] at q
        cases q)
    have names : ∀ {b : Addr} {m : Str → Option Value}, t.heap.Ns b m → (hidT t.heap H).Ns b m := fun {b m} z => by
      obtain ⟨ob, es, ep, e, dd, r⟩ := z
      refine ⟨ob, es, ep, away e (fun _ _ _ => trivial) (fun hb => ?_), dd, r⟩
      subst hb
      rw [obj] at e
      cases e
      have dd : Data.seq us.toArray _ = Data.dict es ep := dd
      cases dd
    have kin2 : K.In (hidT t.heap H) := fun b ob e => away (kin b ob e) (fun _ _ _ => trivial) fun hb => by
      cases q : H a with
      | none => rfl
      | some v =>
        subst hb
        rw [fr v q] at e
        cases e
    obtain ⟨mc, n1, n2⟩ := nl
    have en : Env0 P w K mg (hidT t.heap H) callerA [] t H := ⟨rfl, ⟨kin2, names gl, ⟨mb, names bl, bb⟩, mc, names n1, n2⟩, fun b ob e => of_hidT e, Nat.le_of_eq (hidT_size _ _), trivial, (fun b hb => nomatch (show b ∈ ([] : List Addr) from hb)), ok, .of_eq gn⟩
    have wd : Wd none 0 H H := ⟨Same.refl H, fun q e => nomatch e⟩
    refine codeAny_mono ((F _ kin2 (names gl)).run callerA [] t H ⟨[.ref a], []⟩ [.ref a] [.ref a] (fun v _ => v = .bl true) (fun _ _ _ => False) rfl rm en (bind t (.ref a)) (.cons rfl .nil)
      ⟨none, 0, H, [.scr ns], fun y => y = .d (.bool true), noE, wd, .cons ⟨a, rfl, sq⟩ .nil, hG _ rfl, fun y v S' H' hy _ _ dv => by subst hy; cases dv; rfl, fun _ _ _ _ _ _ z => z.elim⟩) fun r t' h => ?_
    match r, h with
    | .error e, h =>
      obtain ⟨_, _, _, _, _, _, _, _, _, _, _, _, z⟩ := h
      exact z.elim
    | .ok (.ret v), h =>
      obtain ⟨v', H', h1, h2, h3, h4, h5, h6⟩ := h
      have h6 : v' = .bl true := h6
      subst h6
      obtain rfl : v = Value.bool true := h5
      refine ⟨rfl, OldK.of_keep fun b ob e => ?_, h1, h2⟩
      cases q : H b with
      | none => exact h3.keep b ob e q (fun z => nomatch (show b ∈ ([] : List Addr) from z)) (fun z => nomatch z)
      | some v =>
        obtain ⟨rfl, rfl⟩ := on b v q
        subst hu
        rw [obj] at e
        cases e
        exact (h4 _ _ (h3.frzs _ _ _ q)).1
  cases inK : K.lookup a with
  | some ob =>
    have e := kin a ob inK
    rw [obj] at e
    cases e
    exact go (fun _ => none) _ rfl (fun b v z => nomatch z) (fun v z => nomatch z) (.inr ⟨_, us.toArray, _, inK, rfl, rfl, rfl, by rw [List.size_toArray, ia.length]; exact sz, by simpa using rel⟩) (fun b v z => nomatch z)
  | none =>
    refine go (oneH a _) _ rfl (oneH_only a _) (fun _ _ => inK) (.inl (.inr ⟨{ cls := .type "list", data := .seq us.toArray }, if_pos rfl⟩)) fun b v z => ?_
    obtain ⟨rfl, rfl⟩ := oneH_only a _ b v z
    exact ⟨obj, by rw [List.length_map]; exact sz, us, _, rel, obj⟩

theorem bits_lt {n : Int} (h : Builtin.Int.intBits n ≤ 1048576) : n.natAbs < 2 ^ 1100000 := by
  unfold Builtin.Int.intBits at h
  by_cases z : n = 0
  · subst z; exact Nat.pos_of_ne_zero (by simp)
  · have h0 : (n == 0) = false := by simpa using z
    rw [h0] at h
    have h : n.natAbs.log2 + 1 ≤ 1048576 := h
    have : n.natAbs < 2 ^ (n.natAbs.log2 + 1) := Nat.lt_log2_self
    exact Nat.lt_of_lt_of_le this (Nat.pow_le_pow_right (by decide) (by omega))
open PySem.W in
/-- the goal that the head leaves -/
theorem walk_end {l : OpenLaw} {n k : Nat} {q : Program} {loose : List Str} {XP : (Str → Option Value) → Heap → Prop} {YP : World → Heap → Prop} {d : DefRec} {K : Params → Frag} {x : Str} {G : Fn}
    (hn : l.most = some n) (hn2 : n ≤ 63) (hdf : d.params.defaults = []) (rm : Room k callerA) (hG : LawFn 63 G)
    (hY : ∀ (w : World) (h : Heap), YP w h → (K w.params).In h)
    (F : ∀ (w : World) (mg : Str → Option Value) (fa : Addr) (h : Heap), (K w.params).In h → h.Ns mainGlobals mg → mg d.name = some (.ref fa) →
      ∃ (fd : FuncData) (CT : Nat → Addr), (∀ (s : Shared) (u : Value), BindsTo s fd ⟨[u], []⟩ [(x, u)]) ∧ ∀ base : Heap, (K w.params).In base → base.Ns mainGlobals mg → FnG l.prog w (K w.params) mg base k fa fd [x] (spD (K w.params) CT 0 G)) :
    WalkO q loose XP YP l.row.toRowW d [] (fun f vs => PySem.call f vs) := by
  refine Att.attach_callB hn hdf fun w s₀ t mg mb fa o pm cd doc a us ns gr y ho hd hcd hmg hobj hints hlen hbits hg => ?_
  have kin := hY w _ y
  obtain ⟨fd, CT, bind, hF⟩ := F w mg fa _ kin gr.T.g hmg
  have h63 : (63 : Nat) ≤ sizeLine := by decide
  exact law_end kin gr.T.g gr.T.b gr.T.builtins gr.T.nolimit hg hobj hints (by omega) rm hF bind fun R hR => hG ns R (by omega) (fun z hz => bits_lt (hbits z hz)) hR
end Wb
/-! Wb10: plain lemmas about the words: comprehensions, loops; anew. -/
namespace Wb
open PySem PySem.Spec PyProof.Rows L2
/-- what anew does, to depth j -/
def okD : Nat → PD → Prop
  | 0, .list _ => False
  | 0, .tuple _ => False
  | j + 1, .list xs => xs.length ≤ 100000 ∧ ∀ y ∈ xs, okD j y
  | j + 1, .tuple xs => xs.length ≤ 100000 ∧ ∀ y ∈ xs, okD j y
  | _, _ => True
def anewFn (j : Nat) : Fn := fun xs R _ => ∃ x, xs = [.d x] ∧ okD j x ∧ R (.d x)
def anewG : Nat → Fn
  | 0 => fun _ _ _ => False
  | j + 1 => anewFn j
theorem lcD_of {gd : DG} {t : DT} {f : DE} {ρ : List Sl} {R : List PD → Prop} (h : PD → Option PD) : ∀ {xs : List PD}, (∀ x ∈ xs, ∀ P : Option PD → Prop, P (h x) → gd x ρ fun ρ1 => t ρ1 (fun b => if b = true then f ρ1 (fun y => onD y fun d => P (some d)) noE else P none) noE) → R (xs.filterMap h) → lcD gd t f ρ xs R
  | [], _, hR => hR
  | x :: xs, hb, hR => by
    unfold lcD
    have := hb x (by simp) (fun o => match o with
      | some d => lcD gd t f ρ xs fun ds => R (d :: ds)
      | none => lcD gd t f ρ xs R) (by
        cases q : h x with
        | none =>
          refine lcD_of h (fun y hy => hb y (by simp [hy])) ?_
          rw [List.filterMap_cons, q] at hR
          exact hR
        | some d =>
          refine lcD_of (R := fun ds => R (d :: ds)) h (fun y hy => hb y (by simp [hy])) ?_
          rw [List.filterMap_cons, q] at hR
          exact hR)
    exact this
/-- .. where the items are not told by a function -/
inductive Picks (r : PD → Option PD → Prop) : List PD → List PD → Prop
  | nil : Picks r [] []
  | skip {x : PD} {xs ys : List PD} : r x none → Picks r xs ys → Picks r (x :: xs) ys
  | take {x y : PD} {xs ys : List PD} : r x (some y) → Picks r xs ys → Picks r (x :: xs) (y :: ys)
theorem lcD_rel {gd : DG} {t : DT} {f : DE} {ρ : List Sl} (r : PD → Option PD → Prop) : ∀ {xs : List PD} {R : List PD → Prop}, (∀ x ∈ xs, ∀ P : Option PD → Prop, (∀ o, r x o → P o) → gd x ρ fun ρ1 => t ρ1 (fun b => if b = true then f ρ1 (fun y => onD y fun d => P (some d)) noE else P none) noE) →
    (∀ ys, Picks r xs ys → R ys) → lcD gd t f ρ xs R
  | [], _, _, hR => hR [] .nil
  | x :: xs, R, hb, hR => by
    unfold lcD
    exact hb x (by simp) (fun o => match o with
      | some d => lcD gd t f ρ xs fun ds => R (d :: ds)
      | none => lcD gd t f ρ xs R) fun o ho => by
        cases o with
        | none => exact lcD_rel r (fun y hy => hb y (by simp [hy])) fun ys hy => hR ys (.skip ho hy)
        | some d => exact lcD_rel r (fun y hy => hb y (by simp [hy])) fun ys hy => hR (d :: ys) (.take ho hy)
/-- a loop by an invariant -/
theorem loopD_inv {gd : DG} {b : DS} {D : DEnds} (I : List PD → List Sl → Prop) (hs : ∀ x xs ρ, I (x :: xs) ρ → gd x ρ fun ρ1 => b { D with nx := I xs, ct := I xs, bk := D.nx } ρ1) (he : ∀ ρ, I [] ρ → D.nx ρ)
    (mono : ∀ (P Q : List Sl → Prop) x ρ, (∀ ρ, P ρ → Q ρ) → (gd x ρ fun ρ1 => b { D with nx := P, ct := P, bk := D.nx } ρ1) → gd x ρ fun ρ1 => b { D with nx := Q, ct := Q, bk := D.nx } ρ1) : ∀ {xs : List PD} {ρ : List Sl}, I xs ρ → loopD gd b D xs ρ
  | [], ρ, h => he ρ h
  | x :: xs, ρ, h => mono _ _ x ρ (fun ρ h => loopD_inv I hs he mono h) (hs x xs ρ h)

section
variable {x y : PD} {xs ys : List PD} {i j : Int} {b c : Bool} {a a2 : Str} {R : DV → Prop} {P : PD → Prop} {Pb : Bool → Prop} {Pi : Int → Prop} {Pv : DV → Prop} {Pl : List PD → Prop} {C : Int → Int → Prop} {ff : Int → Int → PD} {v : DV} {vs : List DV} {T : String} {ns : List Int}
theorem e_onD : onD (.d x) P = P x := rfl
theorem e_onB : onB (.d (.bool b)) Pb = Pb b := rfl
theorem e_onI : onI' (.d (.int i)) Pi = Pi i := rfl
theorem e_slV : slV (some (.v v)) Pv = Pv v := rfl
theorem e_slO : slO (some (.v v)) Pv = Pv v := rfl
theorem e_slOo : slO (some (.own xs)) Pv = Pv (.d (.list xs)) := rfl
theorem e_slOw : slOw (some (.own xs)) Pl = Pl xs := rfl
theorem e_gI : gI C ff (.d (.int i)) (.d (.int j)) R = (C i j ∧ R (.d (ff i j))) := rfl
theorem e_gI0 : gI0 ff (.d (.int i)) (.d (.int j)) R = R (.d (ff i j)) := rfl
theorem e_add : gAdd (.d (.int i)) (.d (.int j)) R = R (.d (.int (i + j))) := rfl
theorem e_mul : gMul (.d (.int i)) (.d (.int j)) R = (MulOk i j ∧ R (.d (.int (i * j)))) := rfl
theorem e_mulL : gMul (.d (.list xs)) (.d (.int i)) R = ((0 ≤ i ∧ i ≤ 100000) ∧ xs.length * i.toNat ≤ 100000 ∧ R (.d (.list (List.replicate i.toNat xs).flatten))) := rfl
theorem e_neg : gNeg (.d (.int i)) R = R (.d (.int (-i))) := rfl
theorem e_ixL : gIx (.d (.list xs)) (.d (.int i)) R = ∃ y, atI xs i = some y ∧ R (.d y) := rfl
theorem e_ixT : gIx (.d (.tuple xs)) (.d (.int i)) R = ∃ y, atI xs i = some y ∧ R (.d y) := rfl
theorem e_ixS : gIx (.scr ns) (.d (.int i)) R = ∃ y, atI ns i = some y ∧ R (.d (.int y)) := rfl
theorem e_isi : gIsi T (.d x) R = R (.d (.bool (subTy (tyD x) T))) := rfl
theorem e_isN : gIsN (.d .none) R = R (.d (.bool true)) := rfl
theorem e_notN : gNotN (.d .none) R = R (.d (.bool false)) := rfl
theorem e_isNi : gIsN (.d (.int i)) R = R (.d (.bool false)) := rfl
theorem e_isNb : gIsN (.d (.bool b)) R = R (.d (.bool false)) := rfl
theorem e_isNl : gIsN (.d (.list xs)) R = R (.d (.bool false)) := rfl
theorem e_isNt : gIsN (.d (.tuple xs)) R = R (.d (.bool false)) := rfl
theorem e_isNs : gIsN (.d (.str a)) R = R (.d (.bool false)) := rfl
theorem e_isNe {k : Nat} : gIsN (.exc k x) R = R (.d (.bool false)) := rfl
theorem e_lenL : bLen [.d (.list xs)] R = R (.d (.int xs.length)) := rfl
theorem e_lenT : bLen [.d (.tuple xs)] R = R (.d (.int xs.length)) := rfl
theorem e_lenS : bLen [.scr ns] R = R (.d (.int ns.length)) := rfl
theorem e_abs : bAbs [.d (.int i)] R = R (.d (.int (i.natAbs : Nat))) := rfl
theorem e_int : bInt [.d (.int i)] R = R (.d (.int i)) := rfl
theorem e_intB : bInt [.d (.bool b)] R = R (.d (.int (if b then 1 else 0))) := rfl
theorem e_max : bMax2 [.d (.int i), .d (.int j)] R = R (.d (.int (if j > i then j else i))) := rfl
theorem e_min : bMin2 [.d (.int i), .d (.int j)] R = R (.d (.int (if j < i then j else i))) := rfl
theorem e_gcd : bGcd [.d (.int i), .d (.int j)] R = R (.d (.int ((Nat.gcd i.natAbs j.natAbs : Nat) : Int))) := rfl
theorem e_tupL : bTuple [.d (.list xs)] R = R (.d (.tuple xs)) := rfl
theorem e_tupT : bTuple [.d (.tuple xs)] R = R (.d (.tuple xs)) := rfl
theorem e_repr : bRepr [.d x] R = (ROk x ∧ R (.d (.str x.shown))) := rfl
theorem e_sum : bSum [.d (.list xs)] R = ∃ ns, asInts xs = some ns ∧ R (.d (.int ns.sum)) := rfl
theorem e_all : bAll [.d (.list xs)] R = ∃ bs, asBools xs = some bs ∧ R (.d (.bool (bs.all id))) := rfl
theorem e_any : bAny [.d (.list xs)] R = ∃ bs, asBools xs = some bs ∧ R (.d (.bool (bs.any id))) := rfl
theorem e_allN : allD [] Pl = Pl [] := rfl
theorem e_allC : allD (.d x :: vs) Pl = allD vs fun xs => Pl (x :: xs) := rfl
theorem e_seqL : seqD (.d (.list xs)) Pl = Pl xs := rfl
theorem e_seqT : seqD (.d (.tuple xs)) Pl = Pl xs := rfl
theorem e_seqS : seqD (.scr ns) Pl = Pl (ns.map .int) := rfl
theorem e_rg1 : rg1 [.d (.int j)] Pl = (RgB j ∧ Pl (rngD 0 j)) := rfl
theorem e_rg2 : rg2 [.d (.int i), .d (.int j)] Pl = ((RgB i ∧ RgB j) ∧ Pl (rngD i j)) := rfl
theorem e_excN {k : Nat} {sub : Nat → Nat → Bool} : gIsE k sub (.d .none) R = R (.d (.bool false)) := rfl
theorem e_excE {k m : Nat} {sub : Nat → Nat → Bool} : gIsE k sub (.exc m x) R = R (.d (.bool (sub m k))) := rfl
theorem e_val {k : Nat} : gVal (.exc k x) R = R (.d x) := rfl
theorem e_at0 {α : Type} {a : α} {l : List α} : atI (a :: l) 0 = some a := by
  unfold atI ixN; simp
theorem e_at1 {α : Type} {a b : α} {l : List α} : atI (a :: b :: l) 1 = some b := by
  unfold atI ixN; simp [show (1 : Int) < (l.length : Int) + 1 + 1 by omega]
theorem e_at2 {α : Type} {a b c : α} {l : List α} : atI (a :: b :: c :: l) 2 = some c := by
  unfold atI ixN; simp [show (2 : Int) < (l.length : Int) + 1 + 1 + 1 by omega]
theorem e_get0 {α : Type} {a : α} {l : List α} : (a :: l)[0]? = some a := rfl
theorem e_get1 {α : Type} {a b : α} {l : List α} : (a :: b :: l)[1]? = some b := rfl
theorem e_get2 {α : Type} {a b c : α} {l : List α} : (a :: b :: c :: l)[2]? = some c := rfl
theorem e_get3 {α : Type} {a b c d : α} {l : List α} : (a :: b :: c :: d :: l)[3]? = some d := rfl
theorem e_get4 {α : Type} {a b c d e : α} {l : List α} : (a :: b :: c :: d :: e :: l)[4]? = some e := rfl
theorem e_get5 {α : Type} {a b c d e f : α} {l : List α} : (a :: b :: c :: d :: e :: f :: l)[5]? = some f := rfl
theorem e_get6 {α : Type} {a b c d e f g : α} {l : List α} : (a :: b :: c :: d :: e :: f :: g :: l)[6]? = some g := rfl
theorem e_get7 {α : Type} {a b c d e f g h : α} {l : List α} : (a :: b :: c :: d :: e :: f :: g :: h :: l)[7]? = some h := rfl
theorem e_set0 {α : Type} {a z : α} {l : List α} : (a :: l).set 0 z = z :: l := rfl
theorem e_set1 {α : Type} {a b z : α} {l : List α} : (a :: b :: l).set 1 z = a :: z :: l := rfl
theorem e_set2 {α : Type} {a b c z : α} {l : List α} : (a :: b :: c :: l).set 2 z = a :: b :: z :: l := rfl
theorem e_set3 {α : Type} {a b c d z : α} {l : List α} : (a :: b :: c :: d :: l).set 3 z = a :: b :: c :: z :: l := rfl
theorem e_set4 {α : Type} {a b c d e z : α} {l : List α} : (a :: b :: c :: d :: e :: l).set 4 z = a :: b :: c :: d :: z :: l := rfl
theorem e_set5 {α : Type} {a b c d e f z : α} {l : List α} : (a :: b :: c :: d :: e :: f :: l).set 5 z = a :: b :: c :: d :: e :: z :: l := rfl
theorem e_set6 {α : Type} {a b c d e f g z : α} {l : List α} : (a :: b :: c :: d :: e :: f :: g :: l).set 6 z = a :: b :: c :: d :: e :: f :: z :: l := rfl
theorem e_set7 {α : Type} {a b c d e f g h z : α} {l : List α} : (a :: b :: c :: d :: e :: f :: g :: h :: l).set 7 z = a :: b :: c :: d :: e :: f :: g :: z :: l := rfl
theorem e_ex {α : Type} {a : α} {Q : α → Prop} : (∃ y, some a = some y ∧ Q y) = Q a := by
  apply propext
  exact ⟨fun ⟨y, e, q⟩ => by cases e; exact q, fun q => ⟨a, rfl, q⟩⟩
theorem e_ixn0 {α : Type} {a : α} {l : List α} : ixN (a :: l).length 0 = some 0 := by unfold ixN; simp
theorem e_ixn1 {α : Type} {a b : α} {l : List α} : ixN (a :: b :: l).length 1 = some 1 := by unfold ixN; simp [show (1 : Int) < (l.length : Int) + 1 + 1 by omega]
theorem e_ixn2 {α : Type} {a b c : α} {l : List α} : ixN (a :: b :: c :: l).length 2 = some 2 := by unfold ixN; simp [show (2 : Int) < (l.length : Int) + 1 + 1 + 1 by omega]
/-- i has at most a bits -/
def MB (a : Nat) (i : Int) : Prop := i.natAbs < 2 ^ a
theorem MB.le {a b : Nat} {i : Int} (h : MB a i) (l : a ≤ b) : MB b i := Nat.lt_of_lt_of_le h (Nat.pow_le_pow_right (by decide) l)
theorem MB.mul {a b : Nat} {i j : Int} (h : MB a i) (k : MB b j) : MB (a + b) (i * j) := by
  unfold MB at *
  rw [Int.natAbs_mul, Nat.pow_add]
  exact Nat.mul_lt_mul'' h k
theorem MB.add {a : Nat} {i j : Int} (h : MB a i) (k : MB a j) : MB (a + 1) (i + j) := by
  unfold MB at *
  have := Int.natAbs_add_le i j
  rw [Nat.pow_succ]
  omega
theorem MB.ok {a b : Nat} {i j : Int} (h : MB a i) (k : MB b j) (l : a + b ≤ 134217728) : MulOk i j := ⟨a, b, h, k, l⟩
theorem MB.of {a : Nat} {i : Int} (h0 : 0 ≤ i) (h : i < (2 : Int) ^ a) : MB a i := by
  unfold MB
  have e : ((2 ^ a : Nat) : Int) = (2 : Int) ^ a := by norm_cast
  omega
theorem fmod_nn {i j : Int} (h : 0 < j) : 0 ≤ i.fmod j := Int.fmod_nonneg_of_pos i h
theorem fmod_lt {i j : Int} (h : 0 < j) : i.fmod j < j := Int.fmod_lt_of_pos i h
theorem fdivOk {i j : Int} (h : 0 < j) (l : j < 2 ^ 60) : FdivOk i j := ⟨by omega, Nat.lt_of_lt_of_le (show j.natAbs < 2 ^ 60 by omega) (Nat.pow_le_pow_right (by decide) (by decide))⟩
theorem fdiv_nn {i j : Int} (h : 0 ≤ i) (k : 0 < j) : 0 ≤ i.fdiv j := Int.fdiv_nonneg h (by omega)
theorem fdiv_le {i j : Int} (h : 0 ≤ i) (k : 0 < j) : i.fdiv j ≤ i := by
  rw [Int.fdiv_eq_ediv_of_nonneg _ (by omega)]
  exact Int.ediv_le_self _ h
theorem ixN0 {n : Nat} (h : 0 < n) : ixN n 0 = some 0 := by unfold ixN; simp [h]
theorem mulOk {i j : Int} (a b : Nat) (h1 : i.natAbs < 2 ^ a) (h2 : j.natAbs < 2 ^ b) (h : a + b ≤ 134217728) : MulOk i j := ⟨a, b, h1, h2, h⟩
end
end Wb
/-! Wb11: walks over zip and enumerate of lists and tuples, mixed. -/
namespace Wb
open PySem PySem.Spec PyProof.Rows L2
/-- an iterator that gives out tuples, as a walk of ours -/
theorem turn_w {P : Program} {w : World} {K : Frag} {elts : List Expr} {kk : Nat} {tpos : Pos} {J : It} {fp : List Addr} {it : Addr} {tn : Nat → Heap → Prop} (mem : it ∈ fp)
    (obj : ∀ i h, tn i h → ∀ b ∈ fp, ∃ o, h.get? b = some o ∧ ∀ v, o.data ≠ .cell v)
    (keep : ∀ i h h', tn i h → (∀ b ∈ fp, ∀ o, h.get? b = some o → h'.get? b = some o) → tn i h')
    (step : ∀ (X : Cx), X.prog = P → X.w = w → X.K = K → X.calm = true → ∀ (i : Nat) (pins : List (Addr × Obj)) (s : Shared) (σ : L2.St) (H : Hp), Inv X pins σ H s → tn i s.heap → (J.go i H ∨ J.stop i H) →
      ∃ n fpW wr Pt St Mid, WalksT P w X.A it fpW wr n Pt St Mid ∧ (∀ b ∈ wr, b ∈ fp) ∧ St i s.heap ∧ (J.go i H → i < n) ∧ (J.stop i H → i = n) ∧ (∀ h', St (i + 1) h' → tn (i + 1) h') ∧
        (∀ vals, J.go i H → Pt i vals → ∃ xs, Vals xs vals.toList ∧ xs.length ≤ sizeLine ∧ ∀ T, H T = none → J.yld i H (.ref T) (upd H T (.tup xs))))
    (self : ∀ (A : Around) (i : Nat) (s : Shared) (Q : Value → Shared → Prop) (E : Value → Shared → Prop), tn i s.heap → Q (.ref it) s → wpAny (model P w) A (pyIter (.ref it)) Q E s) :
    Turn P w K (.Tuple elts kk tpos) J fp it tn where
  mem := mem
  obj := obj
  keep := keep
  item := by
    intro X hP hw hK hc i pins s σ H E I hf st hg
    obtain ⟨n, fpW, wr, Pt, St, Mid, W, hwr, hst, hgo, _, hback, hval⟩ := step X hP hw hK hc i pins s σ H I st (.inl hg)
    refine W.item i s _ _ (hgo hg) hst fun T vals h' tk hp hT hTup hMid hk => ⟨_, rfl, ?_⟩
    refine W.go elts kk tpos i T { s with heap := h', toks := tk } _ _ hMid fun h2 hst2 hk2 => ?_
    obtain ⟨xs, rv, hsz, hy⟩ := hval vals hg hp
    have Twr : T ∉ wr := W.apart _ _ _ hMid
    obtain ⟨o, ho, hcl, n', hd⟩ := hTup
    have hT2 : IsTup h2 T vals.toList.toArray := ⟨o, hk2 T o Twr ho, hcl, n', by rw [hd]⟩
    subst hP hw hK
    have hn : H T = none := I.hok.fresh hT
    have I1 : Inv X pins σ (upd H T (.tup xs)) { s with heap := h2, toks := tk } :=
      I.turnedNew (ch := wr) (fun b o hb e => hk2 b o hb (hk b o hb e)) (fun b hb => hf b (hwr b hb)) hT ⟨hsz, vals.toList, rv, hT2⟩
    refine ⟨.ref T, _, I1, rfl, hy T hn, hback h2 hst2, fun b hb => ?_⟩
    obtain ⟨ob, hob, _⟩ := obj i s.heap st b hb
    have hlt : b < s.heap.objs.size := Heap.lt_size hob
    have hle : s.heap.objs.size ≤ T := hT
    have : b ≠ T := fun z => by
      have z1 : b < b := Nat.lt_of_lt_of_le hlt (z ▸ hle)
      exact Nat.lt_irrefl _ z1
    rw [upd_ne this]
    exact (hf b hb).1
  done := by
    intro X hP hw hK hc i pins s σ H E I hf st hg
    obtain ⟨n, fpW, wr, Pt, St, Mid, W, hwr, hst, _, hend, _, _⟩ := step X hP hw hK hc i pins s σ H I st (.inr hg)
    have e := hend hg
    subst e
    exact W.done s _ _ hst fun h' tk hk => ⟨rfl, I.turnedL (ch := wr) hk fun b hb => hf b (hwr b hb)⟩
  self := self

/-! ### lists and tuples, told by a kind -/
def SqX : Bool → Frag → Hp → Addr → List V → Prop
  | true, K, H, a, xs => SqL K H a xs
  | false, K, H, a, xs => SqT K H a xs
def ItrX (h : Heap) : Bool → Addr → Addr → Nat → Prop
  | true, it, l, i => h.IsListIter it l i
  | false, it, l, i => h.IsTupleIter it l i
def SeqX (h : Heap) : Bool → Addr → Array Value → Prop
  | true, l, xs => h.IsList l xs
  | false, l, xs => h.IsTuple l xs
def itO : Bool → Addr → Obj
  | true, l => { cls := .type "list_iterator", data := .fields #[.ref l, .int 0 0] }
  | false, l => { cls := .type "tuple_iterator", data := .fields #[.ref l, .int 0 0] }
theorem drawsX {prog : Program} {w : World} {A : Around} (hh : A.handled = none) (k : Bool) (it l : Addr) (hne : l ≠ it) (items : Array Value) :
    Draws prog w A it [it, l] items.size (fun i v => items[i]? = some v) (fun i h => ItrX h k it l i ∧ SeqX h k l items) := by
  cases k with
  | true => exact Draws.list hh it l hne items
  | false => exact Draws.tuple hh it l hne items
theorem beginsX (k : Bool) (l : Addr) (items : Array Value) : Begins (.ref l) (itO k l) fun h => SeqX h k l items := by
  cases k with
  | true => exact begins_list l items
  | false => exact begins_tuple l items
theorem seqX_of {X : Cx} {pins : List (Addr × Obj)} {σ : L2.St} {H : Hp} {s : Shared} {k : Bool} {a : Addr} {xs : List V} (I : Inv X pins σ H s) (h : SqX k X.K H a xs) :
    ∃ its : List Value, Vals xs its ∧ SeqX s.heap k a its.toArray ∧ xs.length ≤ sizeLine ∧ a < s.heap.objs.size := by
  cases k with
  | true =>
    obtain ⟨its, rv, p, hz⟩ := I.list h
    exact ⟨its, rv, p.isList, hz, p.lt⟩
  | false =>
    obtain ⟨its, rv, p, hz⟩ := I.tuple h
    obtain ⟨o, ho, _⟩ := id p
    exact ⟨its, rv, p, hz, Heap.lt_size ho⟩
theorem sqX_inj {X : Cx} {pins : List (Addr × Obj)} {σ : L2.St} {H : Hp} {s : Shared} {k : Bool} {a : Addr} {xs ys : List V} (I : Inv X pins σ H s) (h : SqX k X.K H a xs) (h' : SqX k X.K H a ys) : xs = ys := by
  cases k with
  | true => exact I.list_inj h h'
  | false => exact I.tuple_inj h h'
theorem itrX_at {h h' : Heap} {k : Bool} {it l : Addr} {i : Nat} (x : ItrX h k it l i) (e : ∀ o, h.get? it = some o → h'.get? it = some o) : ItrX h' k it l i := by
  cases k with
  | true => exact Heap.IsListIter.at x e
  | false => exact Heap.IsTupleIter.at x e
theorem itrX_obj {h : Heap} {k : Bool} {it l : Addr} {i : Nat} (x : ItrX h k it l i) : ∃ o, h.get? it = some o ∧ ∀ v, o.data ≠ .cell v := by
  cases k with
  | true =>
    obtain ⟨o, e, _, d⟩ := x
    exact ⟨o, e, fun v q => by rw [d] at q; cases q⟩
  | false =>
    obtain ⟨o, e, _, d⟩ := x
    exact ⟨o, e, fun v q => by rw [d] at q; cases q⟩
theorem itrX_new {h : Heap} {k : Bool} {it l : Addr} (e : h.get? it = some (itO k l)) : ItrX h k it l 0 := by
  cases k with
  | true => exact ⟨_, e, rfl, rfl⟩
  | false => exact ⟨_, e, rfl, rfl⟩
theorem sqX_same {K : Frag} {H H' : Hp} {k : Bool} {a : Addr} {xs : List V} (sm : Same H H') (h : SqX k K H a xs) : SqX k K H' a xs := by
  cases k with
  | true => exact sm.seq h
  | false => exact sqT_mono sm h

/-! ### zip -/
def ItzX (k1 k2 : Bool) (K : Frag) (a b : Addr) : It :=
  ⟨fun i H => ∃ xs ys, SqX k1 K H a xs ∧ SqX k2 K H b ys ∧ i < xs.length ∧ i < ys.length,
    fun i H v H' => ∃ T x y, v = .ref T ∧ H T = none ∧ H' = upd H T (.tup [x, y]) ∧ (∀ xs, SqX k1 K H a xs → xs[i]? = some x) ∧ ∀ ys, SqX k2 K H b ys → ys[i]? = some y,
    fun i H => ∃ xs ys, SqX k1 K H a xs ∧ SqX k2 K H b ys ∧ i = min xs.length ys.length⟩
theorem vget {xs : List V} {its : List Value} (rv : Vals xs its) : ∀ {i : Nat} {u : Value}, its[i]? = some u → ∃ x, xs[i]? = some x ∧ RelV x u := by
  induction rv with
  | nil => intro i u e; simp at e
  | cons h t ih =>
    intro i u e
    cases i with
    | zero => simp at e; subst e; exact ⟨_, rfl, h⟩
    | succ i => simpa using ih (by simpa using e)
theorem turn_zipX {P : Program} {w : World} {K : Frag} {elts : List Expr} {kk : Nat} {tpos : Pos} {k1 k2 : Bool} {a b z TI TO i1 i2 : Addr} (hz1 : ZipSep2 z TI TO i1 i2 [i1, a] [i2, b]) (ha : a ≠ i1) (hb : b ≠ i2) :
    Turn P w K (.Tuple elts kk tpos) (ItzX k1 k2 K a b) [z, TI, TO, i1, i2] z (fun i h => IsZip h z TI TO .none ∧ IsTupOf2 h TI (.ref i1) (.ref i2) ∧ (∃ x y, IsTupOf2 h TO x y) ∧ ItrX h k1 i1 a i ∧ ItrX h k2 i2 b i) := by
  refine turn_w (by simp) (fun i h st c hc => ?_) (fun i h h' st kp => ?_) (fun X hP hw hK hc i pins s σ H I st hgs => ?_) (fun A i s Q E st h => wpAny_pyIter_zip st.1 h)
  · obtain ⟨hz, hTI, ⟨x, y, hTO⟩, q1, q2⟩ := st
    have e' : c = z ∨ c = TI ∨ c = TO ∨ c = i1 ∨ c = i2 := by simpa using hc
    rcases e' with rfl | rfl | rfl | rfl | rfl
    · exact ⟨_, hz, fun v q => nomatch q⟩
    · exact ⟨_, hTI, fun v q => nomatch q⟩
    · exact ⟨_, hTO, fun v q => nomatch q⟩
    · exact itrX_obj q1
    · exact itrX_obj q2
  · obtain ⟨hz, hTI, ⟨x, y, hTO⟩, q1, q2⟩ := st
    exact ⟨kp z (by simp) _ hz, kp TI (by simp) _ hTI, ⟨x, y, kp TO (by simp) _ hTO⟩, itrX_at q1 (kp i1 (by simp)), itrX_at q2 (kp i2 (by simp))⟩
  · subst hP hw hK
    obtain ⟨hz, hTI, ⟨x, y, hTO⟩, q1, q2⟩ := st
    have both : ∃ xs ys, SqX k1 X.K H a xs ∧ SqX k2 X.K H b ys := by
      rcases hgs with ⟨xs, ys, h1, h2, _⟩ | ⟨xs, ys, h1, h2, _⟩ <;> exact ⟨xs, ys, h1, h2⟩
    obtain ⟨xs, ys, hx, hy⟩ := both
    obtain ⟨its, rv, p1, l1, _⟩ := seqX_of I hx
    obtain ⟨its2, rv2, p2, l2, _⟩ := seqX_of I hy
    have e1 := rv.length
    have e2 := rv2.length
    have hh : X.A.in1.handled = none := I.ok.hd hc
    refine ⟨_, _, _, _, _, _, WalksT.zipD2 hz1 (drawsX (prog := X.prog) (w := X.w) (A := X.A.in1) hh k1 i1 a ha its.toArray) (drawsX (prog := X.prog) (w := X.w) (A := X.A.in1) hh k2 i2 b hb its2.toArray), fun c hc => ?_, ⟨hz, hTI, ⟨x, y, hTO⟩, ⟨q1, p1⟩, ⟨q2, p2⟩⟩, fun hg => ?_, fun hs => ?_, fun h' st' => ?_, fun vals hg hp => ?_⟩
    · simp at hc ⊢
      rcases hc with h | h | h | h <;> simp [h]
    · obtain ⟨xs', ys', g1, g2, g3, g4⟩ := hg
      have := sqX_inj I hx g1
      have := sqX_inj I hy g2
      subst xs' ys'
      simp only [List.size_toArray]
      omega
    · obtain ⟨xs', ys', g1, g2, g3⟩ := hs
      have := sqX_inj I hx g1
      have := sqX_inj I hy g2
      subst xs' ys'
      simp only [List.size_toArray]
      omega
    · obtain ⟨r1, r2, r3, ⟨r4, _⟩, ⟨r5, _⟩⟩ := st'
      exact ⟨r1, r2, r3, r4, r5⟩
    · obtain ⟨x1, x2, y1, y2, rfl⟩ := hp
      obtain ⟨v1, e3, r1⟩ := vget rv (by simpa using y1)
      obtain ⟨v2, e4, r2⟩ := vget rv2 (by simpa using y2)
      refine ⟨[v1, v2], .cons r1 (.cons r2 .nil), by show 2 ≤ sizeLine; decide, fun T hT => ⟨T, v1, v2, rfl, hT, rfl, fun l hl => ?_, fun l hl => ?_⟩⟩
      · rw [sqX_inj I hl hx]; exact e3
      · rw [sqX_inj I hl hy]; exact e4
def iZipX (K : Frag) (ta : TA) : TI := fun σ H R => ta σ H fun vs H1 => ∃ a b xs ys k1 k2, vs = [.ref a, .ref b] ∧ SqX k1 K H1 a xs ∧ SqX k2 K H1 b ys ∧ R (ItzX k1 k2 K a b) H1
theorem pi_zipX {X : Cx} {e e2 : Expr} {ta : TA} {p pos tpos : Pos} {elts : List Expr} {kk : Nat} (hg : Gl X "zip") (hm : X.mg "zip" = none) (ha : PA X [e, e2] ta)
    (hs : starEach [e, e2] X.env = (false, eval e X.env) :: starEach [e2] X.env := by rfl) (hpl : (backTo pos (starEach [e2] X.env)).any (·.1) = false := by rfl) :
    PI X (.Tuple elts kk tpos) (.Call (.Name "zip" p) [e, e2] [] pos) (iZipX X.K ta) := by
  refine ⟨fun pins s σ H R I h => ?_⟩
  refine Call_ (ld_blt I hg hm PyProof.Rows.boot_zip (PyProof.Rows.callWith_type1 (thn (ha.run pos pins s σ H _ I h) fun us s1 ⟨vs, H1, I1, r1, q1⟩ => ?_) hs hpl))
  obtain ⟨a, b, xs, ys, k1, k2, rfl, hqx, hqy, q⟩ := q1
  cases r1 with
  | cons r rr =>
  cases rr with
  | cons r' rr =>
  cases rr
  cases r
  cases r'
  obtain ⟨its, rv, p1, _, la⟩ := seqX_of I1 hqx
  obtain ⟨its2, rv2, p2, _, lb⟩ := seqX_of I1 hqy
  refine zip_begins2 (beginsX k1 a its.toArray) (beginsX k2 b its2.toArray) p1 p2 fun h' hz hTI hTO h1 h2 hsz hk => wpAny_pyIter_zip hz ?_
  have I2 : Inv X pins σ H1 { s1 with heap := h' } := I1.kept (t' := s1.toks) hk
  have na : a ≠ s1.heap.objs.size := Nat.ne_of_lt la
  have nb : b ≠ s1.heap.objs.size + 1 := Nat.ne_of_lt (Nat.lt_succ_of_lt lb)
  refine ⟨_, _, _, _, H1, rfl, I2, turn_zipX (k1 := k1) (k2 := k2) (a := a) (b := b) (zip_sep2 (N := s1.heap.objs.size) (fp1 := [a]) (fp2 := [b]) (by simpa using la) (by simpa using lb)) na nb, ⟨hz, hTI, ⟨_, _, hTO⟩, itrX_new h1, itrX_new h2⟩, fun c hcm => ?_, q⟩
  have hle : s1.heap.objs.size ≤ c := by
    simp only [List.mem_cons, List.not_mem_nil, or_false] at hcm
    rcases hcm with z | z | z | z | z
    · rw [z]; exact Nat.le_add_right _ _
    · rw [z]; exact Nat.le_add_right _ _
    · rw [z]; exact Nat.le_add_right _ _
    · rw [z]; exact Nat.le_refl _
    · rw [z]; exact Nat.le_add_right _ _
  exact I1.fpOk hle (I1.hok.fresh hle)
end Wb
/-! Wb12: more rules: zip, slices, list(..), min and max of one, pairs of new lists, pop. -/
namespace Wb
open PySem PySem.Spec PyProof.Rows L2
section
variable {X : Cx} {n : En} {W : WX} {κ κ' κ2 κi κt κe κf k k' : Nat} {e a b c elt tg iter : Expr} {es ifs : List Expr} {pos : Pos} {f h g : DE} {fa fk : DA} {t u : DT} {fi fn fm : DN}

/-! ### zip -/
def zpD : List DV → (List PD → Prop) → Prop
  | [.d x, .d y], R => seqD (.d x) fun xs => seqD (.d y) fun ys => R (List.zipWith (fun a b => .tuple [a, b]) xs ys)
  | _, _ => False
def iZp (f : DA) : DN := fun ρ R E => f ρ (fun xs => zpD xs R) E
theorem seq_of {K : Frag} {n : En} {S H : Hp} {v : V} {x : PD} {R : List PD → Prop} (sm : Same S H) (d : RdOk K n S H v (.d x)) (h : seqD (.d x) R) : ∃ k a vs xs, v = .ref a ∧ SqX k K H a vs ∧ DqAll K S vs xs ∧ R xs ∧ (DvOk K n S v (.d x) → SqX k K S a vs) := by
  cases x with
  | list xs =>
    rcases d with d | ⟨q, vs, ys, rfl, e, hw, hq, hd⟩
    · cases d with
      | lst h1 h2 => exact ⟨true, _, _, _, rfl, SqL.of (sm _ _ h1), h2, h, fun _ => SqL.of h1⟩
    · cases e
      refine ⟨true, _, _, _, rfl, SqL.of hq, hd, h, fun d => ?_⟩
      cases d with
      | lst h1 h2 =>
        have e := sm _ _ h1
        rw [hq] at e
        cases e
        exact SqL.of h1
  | tuple xs =>
    rcases d with d | ⟨q, vs, ys, rfl, e, hw, hq, hd⟩
    · cases d with
      | tup h1 h2 => exact ⟨false, _, _, _, rfl, sqT_mono sm h1, h2, h, fun _ => h1⟩
    · cases e
  | _ => exact h.elim
theorem itd_zip {K : Frag} {S : Hp} {k1 k2 : Bool} {a b : Addr} {vs us : List V} {xs ys : List PD} (h1 : SqX k1 K S a vs) (h2 : SqX k2 K S b us) (d1 : DqAll K S vs xs) (d2 : DqAll K S us ys) :
    ItD K (ItzX k1 k2 K a b) (List.zipWith (fun a b => .tuple [a, b]) xs ys) S := by
  intro S' H' e1 e2
  have q1 := sqX_same e2 (sqX_same e1 h1)
  have q2 := sqX_same e2 (sqX_same e1 h2)
  have l1 := d1.len
  have l2 := d2.len
  refine ⟨fun i hi => ?_, fun i hi => ?_, fun i x H'' hi y => ?_⟩
  · rw [List.length_zipWith] at hi
    exact ⟨vs, us, q1, q2, by omega, by omega⟩
  · rw [List.length_zipWith] at hi
    exact ⟨vs, us, q1, q2, by rw [l1, l2]; exact hi⟩
  · obtain ⟨T, x1, y1, rfl, hT, rfl, g1, g2⟩ := y
    obtain ⟨p, hp, dp⟩ := d1.atV (g1 vs q1)
    obtain ⟨q, hq, dq⟩ := d2.atV (g2 us q2)
    have g := Grow.new (o := .tup [x1, y1]) e2 hT
    refine ⟨_, .tuple [p, q], g, ?_, dq_tup upd_same (.cons (dq_mono (e1.trans g.po.sS) dp) (.cons (dq_mono (e1.trans g.po.sS) dq) .nil))⟩
    rw [List.getElem?_zipWith, hp, hq]
theorem ji_zip {p tpos : Pos} {elts : List Expr} {kk : Nat} (hg : Gl X "zip") (hm : X.mg "zip" = none) (ha : JA X n W κ [a, b] fa) (hs : starEach [a, b] X.env = (false, eval a X.env) :: starEach [b] X.env := by rfl) (hpl : (backTo pos (starEach [b] X.env)).any (·.1) = false := by rfl) :
    JI X n W κ (.Tuple elts kk tpos) (.Call (.Name "zip" p) [a, b] [] pos) (iZp fa) := by
  refine PI.to (pi_zipX hg hm ha hs hpl) fun σ H Rr ⟨m, S, ρ, R, Er, st, hf, kR, kE⟩ => ⟨m, S, ρ, _, Er, st, hf, fun xs vs S1 H1 hx st1 p1 d1 => ?_, kE⟩
  match xs, d1, hx with
  | [.d x, .d y], .cons h1 (.cons h2 .nil), hr =>
    obtain ⟨k1, a1, vs1, xs1, rfl, q1, r1, hr, z1⟩ := seq_of st1.wd.sm (.inl h1) hr
    obtain ⟨k2, a2, vs2, xs2, rfl, q2, r2, hr, z2⟩ := seq_of st1.wd.sm (.inl h2) hr
    exact ⟨a1, a2, vs1, vs2, k1, k2, rfl, q1, q2, kR _ _ S1 H1 hr st1 p1 (itd_zip (z1 h1) (z2 h2) r1 r2)⟩

/-! ### slices -/
abbrev DP := List Sl → (Option Int → Prop) → EK → Prop
def rdP (K : Frag) (n : En) (W : WX) (κ : Nat) (f : DP) : TO := fun σ H Q => ∃ m S ρ R Er, StOk K n (m + κ) S H σ ρ ∧ f ρ R Er ∧
  (∀ o S' H', R o → StOk K n m S' H' σ ρ → Post n.wl S H S' H' → Q o H') ∧
  KErr K n W m S σ ρ Er
theorem PO.to {o : Option Expr} {t t' : TO} (h : PO X o t) (i : ∀ σ H Q, t' σ H Q → t σ H Q) : PO X o t' := ⟨fun pins s σ H Q I q => h.run pins s σ H Q I (i σ H Q q)⟩
abbrev JP (X : Cx) (n : En) (W : WX) (κ : Nat) (o : Option Expr) (f : DP) : Prop := PO X o (rdP X.K n W κ f)
def pNo : DP := fun _ R _ => R none
def pAt (f : DE) : DP := fun ρ R E => f ρ (fun x => onI' x fun i => R (some i)) E
theorem jp_no : JP X n W 0 none pNo := PO.to po_none fun σ H Q ⟨m, S, ρ, R, Er, st, hf, kR, _⟩ => kR none S H hf st Post.refl
theorem jp_at (he : JE X n W κ e f) : JP X n W κ (some e) (pAt f) := by
  refine PO.to (po_some he) fun σ H Q ⟨m, S, ρ, R, Er, st, hf, kR, kE⟩ => ⟨m, S, ρ, _, Er, st, hf, fun x v S1 H1 hx st1 p1 d1 => ?_, kE⟩
  obtain ⟨i, rfl, hx⟩ := onI_of hx
  cases d1
  exact ⟨i, rfl, kR _ S1 H1 hx st1 p1⟩
/-- the items of xs[lo:hi] -/
def cutL {α : Type} (xs : List α) (lo hi : Option Int) : List α := (xs.drop (HT.sIx xs.length 0 lo)).take (HT.sIx xs.length xs.length hi - HT.sIx xs.length 0 lo)
def gSl : DV → Option Int → Option Int → (DV → Prop) → Prop
  | .d (.tuple xs), l, u, R => R (.d (.tuple (cutL xs l u)))
  | .d (.list xs), l, u, R => R (.d (.list (cutL xs l u)))
  | _, _, _, _ => False
def dSl (f : DE) (pl pu : DP) : DE := fun ρ R E => f ρ (fun x => pl ρ (fun l => pu ρ (fun u => gSl x l u R) E) E) E
theorem cut_dq {K : Frag} {S : Hp} {vs : List V} {xs : List PD} (d : DqAll K S vs xs) (l u : Option Int) : DqAll K S (cutV vs l u) (cutL xs l u) := by
  unfold cutV cutL
  rw [d.len]
  exact (d.drop _).take _
theorem je_slice {lo hi : Option Expr} {pl pu : DP} {p2 : Pos} (he : JO X n W κ e f) (hl : JP X n W κ' lo pl) (hu : JP X n W κ2 hi pu) : JE X n W (κ + (κ' + κ2)) (.Subscript e (.Slice lo hi none p2) pos) (dSl f pl pu) := by
  refine PE.to (pe_slice (sl_tupA.or sl_list) he hl hu) fun σ H Q ⟨m, S, ρ, R, Er, st, hf, kR, kE⟩ => ?_
  refine ⟨m + (κ' + κ2), S, ρ, _, Er, st_split st, hf, fun x v S1 H1 hx st1 p1 d1 => ?_, fun c x cls dx S' H' e s' er => kE c x cls dx S' H' e (st_down s') er⟩
  refine ⟨m + κ2, S1, ρ, _, Er, st_split st1, hx, fun l S2 H2 hy st2 p2 => ?_, fun c x cls dx S' H' e s' er q => kE c x cls dx S' H' e (st_down s') er (p1.sS.trans q)⟩
  refine ⟨m, S2, ρ, _, Er, st2, hy, fun u S3 H3 hz st3 p3 => ?_, fun c x cls dx S' H' e s' er q => kE c x cls dx S' H' e s' er ((p1.sS.trans p2.sS).trans q)⟩
  have d3 := (d1.post p2).post p3
  match x, hz with
  | .d (.tuple xs), hr =>
    obtain ⟨p, vs, rfl, hp, hd⟩ := d3.tup
    refine .inl ⟨p, vs, rfl, sqT_mono st3.wd.sm hp, fun hw => ?_, fun hw q hq => ?_⟩
    · have e : cutL xs l u = xs := by
        unfold cutL
        rw [hd.len] at hw
        rw [hw.1, hw.2]
        simp
      have hr : R (.d (.tuple (cutL xs l u))) := hr
      rw [e] at hr
      exact kR _ _ S3 H3 hr st3 ((p1.trans p2).trans p3) (.tup hp hd)
    · have g := Grow.new (o := .tup (cutV vs l u)) st3.wd.sm hq
      exact kR _ _ _ _ hr (st3.grow g) (((p1.trans p2).trans p3).trans g.po.wk) (dq_tup upd_same (dqAll_mono g.po.sS (cut_dq hd l u)))
  | .d (.list xs), hr =>
    obtain ⟨p, vs, rfl, hp, hd⟩ := d3.items st3.wd.sm
    refine .inr ⟨p, vs, rfl, SqL.of hp, fun q hq => ?_⟩
    have g := Grow.new (o := .lst (cutV vs l u)) st3.wd.sm hq
    exact kR _ _ _ _ hr (st3.grow g) (((p1.trans p2).trans p3).trans g.po.wk) (dq_lst upd_same (dqAll_mono g.po.sS (cut_dq hd l u)))

/-! ### list(..) -/
def nOf (f : DA) : DN := fun ρ R E => f ρ (fun xs => match xs with
  | [x] => seqD x R
  | _ => False) E
theorem jn_of {p : Pos} (hg : Gl X "list") (hm : X.mg "list" = none) (ha : JAO X n W κ [a] fa) (he : starEach [a] X.env = (false, eval a X.env) :: starEach [] X.env) (hpl : (backTo pos (starEach [] X.env)).any (·.1) = false) :
    JN X n W κ (.Call (.Name "list" p) [a] [] pos) (nOf fa) := by
  refine PE.to (pe_callTy call_list_of hg hm b_list ha (by decide) (by decide) he hpl) fun σ H Q ⟨m, S, ρ, R, Er, st, hf, kR, kE⟩ => ⟨m, S, ρ, _, Er, st, hf, fun xs vs S1 H1 hx st1 p1 d1 => ?_, kE⟩
  have fin : ∀ (q : Addr) (ys : List V) (ds : List PD), (SqL X.K H1 q ys ∨ SqT X.K H1 q ys) → DqAll X.K S1 ys ds → R ds → vs = [.ref q] →
      ∃ p ys, vs = [.ref p] ∧ (SqL X.K H1 p ys ∨ SqT X.K H1 p ys) ∧ ∀ l, H1 l = none → Q (.ref l) (upd H1 l (.lst ys)) := by
    rintro q ys ds hq hd hr rfl
    refine ⟨q, ys, rfl, hq, fun l hl => ?_⟩
    have g := Grow.beside (o := .lst ys) st1.wd.sm hl
    have hp0 : H l = none := by
      cases z : H l with
      | none => rfl
      | some o => exact absurd hl (p1.al l (by rw [z]; exact Option.some_ne_none _))
    exact kR ds l ys _ _ hr (st1.grow g) (p1.trans g.po.wk) hp0 (st1.wd.sm.free hl) upd_same hd
  cases d1 with
  | nil => exact hx.elim
  | cons d1 t =>
    cases t with
    | cons _ _ => exact hx.elim
    | nil =>
      rename_i v x
      cases x with
      | exc _ _ => exact hx.elim
      | well o =>
        cases o with
        | none => exact hx.elim
        | some ns =>
          obtain ⟨q, rfl, hq⟩ := d1.scr st1.wd.sm
          exact fin q _ _ (.inl hq) (DqAll.ints ns) hx rfl
      | d x =>
        obtain ⟨k, q, ys, ds, rfl, hq, hd, hr, _⟩ := seq_of st1.wd.sm d1 hx
        cases k with
        | true => exact fin q ys ds (.inl hq) hd hr rfl
        | false => exact fin q ys ds (.inr hq) hd hr rfl
def RgL (i j : Int) : Prop := RgOk i j
def nRg1 (f : DE) : DN := fun ρ R E => f ρ (fun x => onI' x fun j => RgL 0 j ∧ R (rngD 0 j)) E
theorem rg_dq {K : Frag} {S : Hp} (i j : Int) : DqAll K S (rgV i j) (rngD i j) := by
  unfold rgV rngD
  have : ∀ l : List Nat, DqAll K S (l.map fun i' => V.int (i + (i' : Nat))) (l.map fun i' : Nat => PyData.int (i + (i' : Int))) := fun l => by
    induction l with
    | nil => exact .nil
    | cons x r ih => exact .cons (.int _) ih
  exact this _
theorem jn_listRg {p q rpos : Pos} (C : X.calm = true) (hg : Gl X "list") (hm : X.mg "list" = none) (hgr : Gl X "range") (hmr : X.mg "range" = none) (ha : JO X n W κ a f)
    (na : starEach [a] X.env = (false, eval a X.env) :: starEach [] X.env) (na2 : starEach [Expr.Call (.Name "range" q) [a] [] rpos] X.env = (false, eval (Expr.Call (.Name "range" q) [a] [] rpos) X.env) :: starEach [] X.env) :
    JN X n W κ (.Call (.Name "list" p) [.Call (.Name "range" q) [a] [] rpos] [] pos) (nRg1 f) := by
  refine PE.to (pe_listRg C hg hm (prg_1 hgr hmr ha na) na2) fun σ H Q ⟨m, S, ρ, R, Er, st, hf, kR, kE⟩ => ⟨m, S, ρ, _, Er, st, hf, fun x v S1 H1 hx st1 p1 d1 => ?_, kE⟩
  obtain ⟨j, rfl, hk, hr⟩ := onI_of hx
  have e := d1.int
  subst e
  refine ⟨j, rfl, hk, fun l hl => ?_⟩
  have g := Grow.beside (o := .lst (rgV 0 j)) st1.wd.sm hl
  have hp0 : H l = none := by
    cases z : H l with
    | none => rfl
    | some o => exact absurd hl (p1.al l (by rw [z]; exact Option.some_ne_none _))
  exact kR _ l _ _ _ hr (st1.grow g) (p1.trans g.po.wk) hp0 (st1.wd.sm.free hl) upd_same (rg_dq 0 j)

/-! ### min(x), max(x) of one list or tuple of ints -/
def seqInts : PD → Option (List Int)
  | .list xs => asInts xs
  | .tuple xs => asInts xs
  | _ => none
def bMax1 : List DV → (DV → Prop) → Prop
  | [.d x], R => ∃ ns, seqInts x = some ns ∧ ns ≠ [] ∧ ∀ m ∈ ns, (∀ y ∈ ns, y ≤ m) → R (.d (.int m))
  | _, _ => False
def bMin1 : List DV → (DV → Prop) → Prop
  | [.d x], R => ∃ ns, seqInts x = some ns ∧ ns ≠ [] ∧ ∀ m ∈ ns, (∀ y ∈ ns, m ≤ y) → R (.d (.int m))
  | _, _ => False
end
end Wb
/-! Wb13: min and max of one, unpacking, reversed, pairs of new lists, pop. -/
namespace Wb
open PySem PySem.Spec PyProof.Rows L2
open PySem.W (max_list_datum max_tuple_datum min_list_datum min_tuple_datum maxOf minOf DatumOrd Datum Holds HoldAll)
open RT (pi_revA ItvT)
section
variable {X : Cx} {n : En} {W : WX} {κ κ' κ2 κi κt κe κf k k' : Nat} {e a b c elt tg iter : Expr} {es ifs : List Expr} {pos : Pos} {f h g : DE} {fa fk : DA} {t u : DT} {fi fn fm : DN}

theorem holds_int_inv {h : Heap} {v : Value} {m : Int} (H : Holds h v m) : ∃ t, v = .int m t := by
  obtain ⟨as, r⟩ := H
  have r : Reads h v (.int m) as := r
  cases r
  exact ⟨_, rfl⟩
theorem maxOf_mem : ∀ (ns : List Int) (n : Int), maxOf n ns ∈ n :: ns ∧ ∀ y ∈ n :: ns, y ≤ maxOf n ns
  | [], n => ⟨by simp [maxOf], fun y hy => by simp [maxOf] at hy ⊢; omega⟩
  | x :: r, n => by
    have e : maxOf n (x :: r) = maxOf (if n < x then x else n) r := by
      unfold maxOf
      rw [List.foldl_cons]
      have : (DatumOrd.lt n x = true) = (n < x) := by
        show (decide (n < x) = true) = _
        simp
      simp only [this]
    rw [e]
    obtain ⟨h1, h2⟩ := maxOf_mem r (if n < x then x else n)
    have h3 := h2 (if n < x then x else n) (by simp)
    refine ⟨?_, fun y hy => ?_⟩
    · rcases List.mem_cons.mp h1 with h | h
      · rw [h]; split <;> simp
      · simp [h]
    · rcases List.mem_cons.mp hy with rfl | hy
      · exact Int.le_trans (by split <;> omega) h3
      · rcases List.mem_cons.mp hy with rfl | hy
        · exact Int.le_trans (by split <;> omega) h3
        · exact h2 y (by simp [hy])
theorem minOf_mem : ∀ (ns : List Int) (n : Int), minOf n ns ∈ n :: ns ∧ ∀ y ∈ n :: ns, minOf n ns ≤ y
  | [], n => ⟨by simp [minOf], fun y hy => by simp [minOf] at hy ⊢; omega⟩
  | x :: r, n => by
    have e : minOf n (x :: r) = minOf (if x < n then x else n) r := by
      unfold minOf
      rw [List.foldl_cons]
      have : (DatumOrd.lt x n = true) = (x < n) := by
        show (decide (x < n) = true) = _
        simp
      simp only [this]
    rw [e]
    obtain ⟨h1, h2⟩ := minOf_mem r (if x < n then x else n)
    have h3 := h2 (if x < n then x else n) (by simp)
    refine ⟨?_, fun y hy => ?_⟩
    · rcases List.mem_cons.mp h1 with h | h
      · rw [h]; split <;> simp
      · simp [h]
    · rcases List.mem_cons.mp hy with rfl | hy
      · exact Int.le_trans h3 (by split <;> omega)
      · rcases List.mem_cons.mp hy with rfl | hy
        · exact Int.le_trans h3 (by split <;> omega)
        · exact h2 y (by simp [hy])
def rMaxX (K : Frag) : List V → Hp → VK → Prop := fun vs H Q => ∃ (k : Bool) (a : Addr) (ns : List Int), vs = [V.ref a] ∧ SqX k K H a (ns.map V.int) ∧ ns ≠ [] ∧ ∀ m, m ∈ ns → (∀ y, y ∈ ns → y ≤ m) → Q (.int m) H
def rMinX (K : Frag) : List V → Hp → VK → Prop := fun vs H Q => ∃ (k : Bool) (a : Addr) (ns : List Int), vs = [V.ref a] ∧ SqX k K H a (ns.map V.int) ∧ ns ≠ [] ∧ ∀ m, m ∈ ns → (∀ y, y ∈ ns → m ≤ y) → Q (.int m) H
theorem cr_maxX (C : Cok X n W k) : CallR X (.builtin "max") (rMaxX X.K) := by
  intro pins s σ H vs us Q I r h
  obtain ⟨kk, a, ns, rfl, hs, hne, q⟩ := h
  rw [Vals.ref1 r]
  cases ns with
  | nil => exact absurd rfl hne
  | cons x rs =>
    have hu := C.hr.units
    have hh : X.A.handled = none := I.ok.hd C.calm
    obtain ⟨m1, m2⟩ := maxOf_mem rs x
    cases kk with
    | true =>
      obtain ⟨its, rv, hl, _⟩ := I.list hs
      refine max_list_datum (α := Int) (x := x) (xs := rs) hh hl.isList (HoldAll.of_ints (by simpa using rv.ints)) (by show X.A.units + 1 + 0 < cLine; omega) fun i v h' tk _ H1 hk => ?_
      obtain ⟨t, rfl⟩ := holds_int_inv H1
      exact ⟨.int _, H, I.kept hk, ⟨_, rfl⟩, q _ m1 m2⟩
    | false =>
      obtain ⟨its, rv, hl, _⟩ := I.tuple hs
      refine max_tuple_datum (α := Int) (x := x) (xs := rs) hh (show s.heap.IsTuple a its.toArray from hl) (HoldAll.of_ints (by simpa using rv.ints)) (by show X.A.units + 1 + 0 < cLine; omega) fun i v h' tk _ H1 hk => ?_
      obtain ⟨t, rfl⟩ := holds_int_inv H1
      exact ⟨.int _, H, I.kept hk, ⟨_, rfl⟩, q _ m1 m2⟩
theorem cr_minX (C : Cok X n W k) : CallR X (.builtin "min") (rMinX X.K) := by
  intro pins s σ H vs us Q I r h
  obtain ⟨kk, a, ns, rfl, hs, hne, q⟩ := h
  rw [Vals.ref1 r]
  cases ns with
  | nil => exact absurd rfl hne
  | cons x rs =>
    have hu := C.hr.units
    have hh : X.A.handled = none := I.ok.hd C.calm
    obtain ⟨m1, m2⟩ := minOf_mem rs x
    cases kk with
    | true =>
      obtain ⟨its, rv, hl, _⟩ := I.list hs
      refine min_list_datum (α := Int) (x := x) (xs := rs) hh hl.isList (HoldAll.of_ints (by simpa using rv.ints)) (by show X.A.units + 1 + 0 < cLine; omega) fun i v h' tk _ H1 hk => ?_
      obtain ⟨t, rfl⟩ := holds_int_inv H1
      exact ⟨.int _, H, I.kept hk, ⟨_, rfl⟩, q _ m1 m2⟩
    | false =>
      obtain ⟨its, rv, hl, _⟩ := I.tuple hs
      refine min_tuple_datum (α := Int) (x := x) (xs := rs) hh (show s.heap.IsTuple a its.toArray from hl) (HoldAll.of_ints (by simpa using rv.ints)) (by show X.A.units + 1 + 0 < cLine; omega) fun i v h' tk _ H1 hk => ?_
      obtain ⟨t, rfl⟩ := holds_int_inv H1
      exact ⟨.int _, H, I.kept hk, ⟨_, rfl⟩, q _ m1 m2⟩
theorem seqInts_of {K : Frag} {n : En} {S H : Hp} {v : V} {x : PD} {ns : List Int} (sm : Same S H) (d : RdOk K n S H v (.d x)) (h : seqInts x = some ns) : ∃ k a, v = .ref a ∧ SqX k K H a (ns.map V.int) := by
  have hs : ∃ xs, asInts xs = some ns ∧ seqD (.d x) (fun ys => ys = xs) := by
    cases x <;> first | exact ⟨_, h, rfl⟩ | cases h
  obtain ⟨xs, h1, h2⟩ := hs
  obtain ⟨k, a, vs, ys, rfl, q, hd, rfl, _⟩ := seq_of sm d h2
  rw [ints_of hd h1] at q
  exact ⟨k, a, rfl, q⟩
theorem caD_max1 {K : Frag} : CaD K (rMaxX K) bMax1 := by
  intro n S H xs vs R Q sm hx hg q
  match xs, hx, hg with
  | [.d x], .cons h .nil, ⟨ns, e, hne, hr⟩ =>
    obtain ⟨k, a, rfl, z⟩ := seqInts_of sm h e
    exact ⟨k, a, ns, rfl, z, hne, fun m h1 h2 => q _ _ _ _ (hr m h1 h2) (Grow.refl sm) (.int _)⟩
theorem caD_min1 {K : Frag} : CaD K (rMinX K) bMin1 := by
  intro n S H xs vs R Q sm hx hg q
  match xs, hx, hg with
  | [.d x], .cons h .nil, ⟨ns, e, hne, hr⟩ =>
    obtain ⟨k, a, rfl, z⟩ := seqInts_of sm h e
    exact ⟨k, a, ns, rfl, z, hne, fun m h1 h2 => q _ _ _ _ (hr m h1 h2) (Grow.refl sm) (.int _)⟩
theorem j_max1 (C : Cok X n W k) {p : Pos} (hm : X.mg "max" = none) (ha : JAO X n W κ [a] fa) (hg : Gl X "max" := by rfl) (he : starEach [a] X.env = (false, eval a X.env) :: starEach [] X.env := by rfl) (hpl : (backTo pos (starEach [] X.env)).any (·.1) = false := by rfl) :
    JE X n W κ (.Call (.Name "max" p) [a] [] pos) (dBi bMax1 fa) := je_bi (cr_maxX C) caD_max1 hg hm b_max ha (by decide) (by decide) he hpl
theorem j_min1 (C : Cok X n W k) {p : Pos} (hm : X.mg "min" = none) (ha : JAO X n W κ [a] fa) (hg : Gl X "min" := by rfl) (he : starEach [a] X.env = (false, eval a X.env) :: starEach [] X.env := by rfl) (hpl : (backTo pos (starEach [] X.env)).any (·.1) = false := by rfl) :
    JE X n W κ (.Call (.Name "min" p) [a] [] pos) (dBi bMin1 fa) := je_bi (cr_minX C) caD_min1 hg hm b_min ha (by decide) (by decide) he hpl

/-! ### (a, b, ..) = a list -/
def gTpL (g : DGs) : DG := fun x ρ R => match x with
  | .list xs => g xs ρ R
  | _ => False
theorem jg_lst {es : List Expr} {kk nn : Nat} {wr : List Nat} {g : DGs} (hc : X.calm = true) (h : JGs X n wr es g) (hn : (assignEach es X.env).length = nn) (hst : (assignEach es X.env).findIdx? (·.1) = none) (hlen : ∀ xs ρ R, g xs ρ R → xs.length = nn) :
    JG X n wr (.Tuple es kk pos) (gTpL g) := by
  refine PG.to (pg_unl hc h hn hst) fun v σ H Q ⟨m, S, ρ, x, R, st, d, hr, k⟩ => ?_
  cases d with
  | lst h1 h2 => exact ⟨_, _, rfl, SqL.of (st.wd.sm _ _ h1), by rw [h2.len]; exact hlen _ _ _ hr, m, S, ρ, _, R, st, h2, hr, k⟩
  | _ => exact hr.elim
theorem gtl {es : List Expr} {kk : Nat} {wr : List Nat} {g : DGs} (C : Cok X n W k) (nn : Nat) (h : JGs X n wr es g) (hlen : ∀ xs ρ R, g xs ρ R → xs.length = nn) (hn : (assignEach es X.env).length = nn := by rfl) (hst : (assignEach es X.env).findIdx? (·.1) = none := by rfl) : JG X n wr (.Tuple es kk pos) (gTpL g) := jg_lst C.calm h hn hst hlen

/-! ### reversed -/
def iRv (f : DE) : DN := fun ρ R E => f ρ (fun x => seqD x fun xs => R xs.reverse) E
theorem itd_rev {K : Frag} {S : Hp} {a : Addr} {vs : List V} {xs : List PD} (h : SqL K S a vs) (d : DqAll K S vs xs) : ItD K (Itv K a vs.length) xs.reverse S := by
  intro S' H' e1 e2
  have q : SqL K H' a vs := e2.seq (e1.seq h)
  have dl := d.len
  refine ⟨fun i hi => ?_, fun i hi => by rw [List.length_reverse] at hi; show vs.length ≤ i; omega, fun i x H'' hi y => ?_⟩
  · rw [List.length_reverse] at hi
    exact ⟨by omega, vs, vs[vs.length - 1 - i]'(by omega), q, by simp [show vs.length - 1 - i < vs.length by omega]⟩
  · rw [List.length_reverse] at hi
    obtain ⟨rfl, y⟩ := y
    obtain ⟨dd, h1, h2⟩ := d.atV (y vs q)
    refine ⟨S', dd, Grow.refl e2, ?_, dq_mono e1 h2⟩
    rw [List.getElem?_reverse hi, ← h1, dl]
theorem itd_revT {K : Frag} {S : Hp} {a : Addr} {vs : List V} {xs : List PD} (h : SqT K S a vs) (d : DqAll K S vs xs) : ItD K (ItvT K a vs.length) xs.reverse S := by
  intro S' H' e1 e2
  have q : SqT K H' a vs := sqT_mono e2 (sqT_mono e1 h)
  have dl := d.len
  refine ⟨fun i hi => ?_, fun i hi => by rw [List.length_reverse] at hi; show vs.length ≤ i; omega, fun i x H'' hi y => ?_⟩
  · rw [List.length_reverse] at hi
    exact ⟨by omega, vs, vs[vs.length - 1 - i]'(by omega), q, by simp [show vs.length - 1 - i < vs.length by omega]⟩
  · rw [List.length_reverse] at hi
    obtain ⟨rfl, y⟩ := y
    obtain ⟨dd, h1, h2⟩ := d.atV (y vs q)
    refine ⟨S', dd, Grow.refl e2, ?_, dq_mono e1 h2⟩
    rw [List.getElem?_reverse hi, ← h1, dl]
theorem ji_rev {tg : Expr} {p : Pos} (hm : X.mg "reversed" = none) (he : JE X n W κ e f) (hg : Gl X "reversed" := by rfl) (hs : starEach [e] X.env = (false, eval e X.env) :: starEach [] X.env := by rfl) : JI X n W κ tg (.Call (.Name "reversed" p) [e] [] pos) (iRv f) := by
  refine PI.to (pi_revA hg hm he hs) fun σ H Rr ⟨m, S, ρ, R, Er, st, hf, kR, kE⟩ => ⟨m, S, ρ, _, Er, st, hf, fun x v S1 H1 hx st1 p1 d1 => ?_, kE⟩
  match x, hx with
  | .well (some ns), hx =>
    obtain ⟨p, rfl, hp⟩ := d1
    exact ⟨_, _, rfl, .inl ⟨st1.wd.sm.seq hp, kR _ _ S1 H1 hx st1 p1 (itd_rev hp (DqAll.ints ns))⟩⟩
  | .d x, hx =>
    obtain ⟨k, a, vs, xs, rfl, q, r, hr, z⟩ := seq_of st1.wd.sm (.inl d1) hx
    cases k with
    | true => exact ⟨a, vs, rfl, .inl ⟨q, kR _ _ S1 H1 hr st1 p1 (itd_rev (z d1) r)⟩⟩
    | false => exact ⟨a, vs, rfl, .inr ⟨q, kR _ _ S1 H1 hr st1 p1 (itd_revT (z d1) r)⟩⟩

/-! ### two names, new lists among what they get -/
def gParNN (i j : Nat) (fa fb : DN) : DS := fun D ρ => fa ρ (fun xs => fb ρ (fun ys => D.nx ((ρ.set i (.own xs)).set j (.own ys))) (D.ex ρ)) (D.ex ρ)
def gParDN (i j : Nat) (fa : DE) (fb : DN) : DS := fun D ρ => fa ρ (fun x => fb ρ (fun ys => D.nx ((ρ.set i (.v x)).set j (.own ys))) (D.ex ρ)) (D.ex ρ)
def gParND (i j : Nat) (fa : DN) (fb : DE) : DS := fun D ρ => fa ρ (fun xs => fb ρ (fun y => D.nx ((ρ.set i (.own xs)).set j (.v y))) (D.ex ρ)) (D.ex ρ)
theorem wl_ne {K : Frag} {m : Nat} {S H : Hp} {σ : L2.St} {ρ : List Sl} {p : Addr} (s : StOk K n m S H σ ρ) (np : H p = none) : n.wl ≠ some p := fun z => by
  obtain ⟨_, a, b, c, hw, _⟩ := s.wd.we p z
  rw [np] at hw
  cases hw
section
variable {i j : Nat} {x y : Str} {px py pt : Pos} {kt k2 pt2 : _}
theorem js_parNN {kt k2 : Nat} {pt2 : Pos} (hpa : ∀ a, n.pa a) (hc : X.calm = true) (hN : X.N.Nodup) (hi : X.N[i]? = some x) (hj : X.N[j]? = some y) (hij : i ≠ j) (hx : X.env.scope.names.lookup x = some .local) (hy : X.env.scope.names.lookup y = some .local)
    (ha : JN X n W κ a fn) (hb : JN X n W κ' b fm) (hs1 : starEach [a, b] X.env = (false, eval a X.env) :: starEach [b] X.env) (hs2 : starEach [b] X.env = (false, eval b X.env) :: starEach [] X.env) (hw : swappedStores [.Tuple [.Name x px, .Name y py] kt pt] (.Tuple [a, b] k2 pt2) X.env = pure (some [x, y]))
    (hs : swapsWithSole [.Tuple [.Name x px, .Name y py] kt pt] (.Tuple [a, b] k2 pt2) pos.line X.env = pure false) : JS X n W (κ + κ') (.Assign [.Tuple [.Name x px, .Name y py] kt pt] (.Tuple [a, b] k2 pt2) pos) (gParNN i j fn fm) := by
  refine PS.to (ps_par hc hN hi hj hij hx hy (pa_cons ha (pa_cons hb pa_nil hs2) hs1) hw hs) fun D σ H ⟨m, S, ρ, Dd, st, hg, ks⟩ => ?_
  refine ⟨m + κ', S, ρ, _, _, st_split st, hg, fun xs p vs S1 H1 hx st1 p1 np sp hp d1 => ?_, (ks.up (by omega)).ke⟩
  refine ⟨m, S1, ρ, _, _, st1, hx, fun ys q us S2 H2 hy st2 p2 nq sq hq d2 => ?_, (ks.af p1.sS).ke⟩
  have hp1 : H1 p ≠ none := by rw [hp]; exact Option.some_ne_none _
  have t1 := own_new (i := i) st st1 np sp hp d1 hpa
  have t2 := own_new (i := i) st st2 np (p2.fr p hp1 sp) (p2.kp p _ hp (wl_ne st np)) (dqAll_mono p2.sS d1) hpa
  exact ⟨_, _, rfl, ks.nx _ _ S2 H2 hy (own_new (i := j) t1 t2 nq sq hq d2 hpa) (p1.sS.trans p2.sS)⟩
theorem js_parDN {kt k2 : Nat} {pt2 : Pos} (hpa : ∀ a, n.pa a) (hc : X.calm = true) (hN : X.N.Nodup) (hi : X.N[i]? = some x) (hj : X.N[j]? = some y) (hij : i ≠ j) (hx : X.env.scope.names.lookup x = some .local) (hy : X.env.scope.names.lookup y = some .local)
    (ha : JE X n W κ a f) (hb : JN X n W κ' b fm) (hs1 : starEach [a, b] X.env = (false, eval a X.env) :: starEach [b] X.env) (hs2 : starEach [b] X.env = (false, eval b X.env) :: starEach [] X.env) (hw : swappedStores [.Tuple [.Name x px, .Name y py] kt pt] (.Tuple [a, b] k2 pt2) X.env = pure (some [x, y]))
    (hs : swapsWithSole [.Tuple [.Name x px, .Name y py] kt pt] (.Tuple [a, b] k2 pt2) pos.line X.env = pure false) : JS X n W (κ + κ') (.Assign [.Tuple [.Name x px, .Name y py] kt pt] (.Tuple [a, b] k2 pt2) pos) (gParDN i j f fm) := by
  refine PS.to (ps_par hc hN hi hj hij hx hy (pa_cons ha (pa_cons hb pa_nil hs2) hs1) hw hs) fun D σ H ⟨m, S, ρ, Dd, st, hg, ks⟩ => ?_
  refine ⟨m + κ', S, ρ, _, _, st_split st, hg, fun xv v S1 H1 hx st1 p1 d1 => ?_, (ks.up (by omega)).ke⟩
  refine ⟨m, S1, ρ, _, _, st1, hx, fun ys q us S2 H2 hy st2 p2 nq sq hq d2 => ?_, (ks.af p1.sS).ke⟩
  exact ⟨_, _, rfl, ks.nx _ _ S2 H2 hy (own_new (i := j) (st1.set d1) (st2.set (dv_mono p2.sS d1)) nq sq hq d2 hpa) (p1.sS.trans p2.sS)⟩
theorem js_parND {kt k2 : Nat} {pt2 : Pos} (hpa : ∀ a, n.pa a) (hc : X.calm = true) (hN : X.N.Nodup) (hi : X.N[i]? = some x) (hj : X.N[j]? = some y) (hij : i ≠ j) (hx : X.env.scope.names.lookup x = some .local) (hy : X.env.scope.names.lookup y = some .local)
    (ha : JN X n W κ a fn) (hb : JE X n W κ' b f) (hs1 : starEach [a, b] X.env = (false, eval a X.env) :: starEach [b] X.env) (hs2 : starEach [b] X.env = (false, eval b X.env) :: starEach [] X.env) (hw : swappedStores [.Tuple [.Name x px, .Name y py] kt pt] (.Tuple [a, b] k2 pt2) X.env = pure (some [x, y]))
    (hs : swapsWithSole [.Tuple [.Name x px, .Name y py] kt pt] (.Tuple [a, b] k2 pt2) pos.line X.env = pure false) : JS X n W (κ + κ') (.Assign [.Tuple [.Name x px, .Name y py] kt pt] (.Tuple [a, b] k2 pt2) pos) (gParND i j fn f) := by
  refine PS.to (ps_par hc hN hi hj hij hx hy (pa_cons ha (pa_cons hb pa_nil hs2) hs1) hw hs) fun D σ H ⟨m, S, ρ, Dd, st, hg, ks⟩ => ?_
  refine ⟨m + κ', S, ρ, _, _, st_split st, hg, fun xs p vs S1 H1 hx st1 p1 np sp hp d1 => ?_, (ks.up (by omega)).ke⟩
  refine ⟨m, S1, ρ, _, _, st1, hx, fun yv v S2 H2 hy st2 p2 d2 => ?_, (ks.af p1.sS).ke⟩
  have hp1 : H1 p ≠ none := by rw [hp]; exact Option.some_ne_none _
  have t2 := own_new (i := i) st st2 np (p2.fr p hp1 sp) (p2.kp p _ hp (wl_ne st np)) (dqAll_mono p2.sS d1) hpa
  exact ⟨_, _, rfl, ks.nx _ _ S2 H2 hy (t2.set d2) (p1.sS.trans p2.sS)⟩
end

/-! ### expressions that change a list of one's own: xs.pop(..) -/
abbrev DX := List Sl → (DV → List Sl → Prop) → EK → Prop
def rdX (K : Frag) (n : En) (W : WX) (κ : Nat) (f : DX) : TE := fun σ H Q => ∃ m S ρ R Er, StOk K n (m + κ) S H σ ρ ∧ f ρ R Er ∧
  (∀ x v ρ' S' H', R x ρ' → StOk K n m S' H' σ ρ' → Same S S' → DvOk K n S' v x → Q v H') ∧
  KErr K n W m S σ ρ Er
abbrev JX (X : Cx) (n : En) (W : WX) (κ : Nat) (e : Expr) (f : DX) : Prop := PE X e (rdX X.K n W κ f)
def xPopAt (j : Nat) (f : DE) : DX := fun ρ R E => slOw ρ[j]? fun _ => f ρ (fun x => onI' x fun t => slOw ρ[j]? fun ys => ∃ k y, ixN ys.length t = some k ∧ ys[k]? = some y ∧ ys.length ≤ 100000 ∧ R (.d y) (ρ.set j (.own (ys.eraseIdx k)))) E
def xPop (j : Nat) : DX := fun ρ R E => slOw ρ[j]? fun ys => ∃ y, ys[ys.length - 1]? = some y ∧ R (.d y) (ρ.set j (.own ys.dropLast))
theorem dqErase {K : Frag} {S : Hp} : ∀ {vs : List V} {xs : List PD} (k : Nat), DqAll K S vs xs → DqAll K S (vs.eraseIdx k) (xs.eraseIdx k)
  | _, _, _, .nil => .nil
  | _, _, 0, .cons _ t => t
  | _, _, k + 1, .cons h t => .cons h (dqErase k t)
theorem dqDropLast {K : Frag} {S : Hp} {vs : List V} {xs : List PD} (d : DqAll K S vs xs) : DqAll K S vs.dropLast xs.dropLast := by
  rw [List.dropLast_eq_take, List.dropLast_eq_take, d.len]
  exact d.take _
section
variable {j : Nat} {x : Str} {p pa : Pos}
theorem jx_popAt (hN : X.N[j]? = some x) (hv : Vis X.env.scope x) (hd : (x == ("__debug__" : Str)) = false) (hcd : (x == ("__classdict__" : Str)) = false) (he : JE X n W κ e f)
    (hbase : attributeBase (.Name x p) "pop" X.env (eval (.Name x p) X.env) = eval (.Name x p) X.env)
    (hfew : ((backTo pos (starEach (e :: []) X.env)).all (fun x => !x.1) && (backToKw pos (keywordEach [] X.env)).all (fun x => x.1.isSome)
      && decide ((e :: ([] : List Expr)).length + ([] : List Keyword).length + (if ([] : List Keyword).isEmpty then 0 else 1) < 30)) = true)
    (hline : (pa.endLine == pos.line) = true) (hs : starEach (e :: []) X.env = (false, eval e X.env) :: starEach [] X.env) (hplain : (backTo pos (starEach [] X.env)).any (·.1) = false) :
    JX X n W κ (.Call (.Attribute (.Name x p) "pop" pa) [e] [] pos) (xPopAt j f) := by
  refine PE.to (pe_bm PySem.F.plainAttrs_list PySem.F.slot_list_pop PySem.F.type_list_pop mt_popAt (pe_var hN hv hd hcd) (pa_cons he pa_nil hs) hbase hfew hline hs hplain) fun σ H Q ⟨m, S, ρ, R, Er, st, hg, kR, kE⟩ => ?_
  obtain ⟨xs, hi, hg⟩ := slOw_of hg
  obtain ⟨q, vs, e1, e2, e3, _⟩ := st.write (ys := []) hi
  refine ⟨_, e1, .inl ⟨rfl, vs, SqL.of e2⟩, m, S, ρ, _, _, st, hg, fun x v S' H' hx st' po d => ?_, kE⟩
  obtain ⟨t, rfl, hx⟩ := onI_of hx
  cases d
  obtain ⟨ys, hi', k, y, hk, hy, hl, hr⟩ := slOw_of hx
  rw [hi] at hi'
  cases hi'
  obtain ⟨q', us, f1, f2, f3, f4⟩ := st'.write (ys := xs.eraseIdx k) hi
  rw [e1] at f1
  cases f1
  obtain ⟨u, hu, du⟩ := f3.at hy
  rw [← f3.len] at hk
  obtain ⟨k1, k2, k3, k4⟩ := ixN_seq hk
  have hl2 : us.length ≤ 100000 := by rw [f3.len]; exact hl
  exact ⟨q, us, t, k, u, rfl, rfl, f2, by omega, by omega, k1, hu, kR _ _ _ _ _ hr (f4 _ (dqErase k f3)) po.sS du⟩
theorem jx_pop (hN : X.N[j]? = some x) (hv : Vis X.env.scope x) (hd : (x == ("__debug__" : Str)) = false) (hcd : (x == ("__classdict__" : Str)) = false)
    (hbase : attributeBase (.Name x p) "pop" X.env (eval (.Name x p) X.env) = eval (.Name x p) X.env) (hline : (pa.endLine == pos.line) = true) :
    JX X n W 0 (.Call (.Attribute (.Name x p) "pop" pa) [] [] pos) (xPop j) := by
  refine PE.to (pe_bm0 PySem.F.plainAttrs_list PySem.F.slot_list_pop PySem.F.type_list_pop mt_pop (pe_var hN hv hd hcd) hbase hline) fun σ H Q ⟨m, S, ρ, R, Er, st, hg, kR, kE⟩ => ?_
  obtain ⟨xs, hi, y, hy, hr⟩ := slOw_of hg
  obtain ⟨q, vs, e1, e2, e3, f4⟩ := st.write (ys := xs.dropLast) hi
  obtain ⟨u, hu, du⟩ := e3.at hy
  rw [← e3.len] at hu
  exact ⟨_, e1, .inl ⟨rfl, vs, SqL.of e2⟩, q, vs, u, rfl, rfl, e2, hu, kR _ _ _ _ _ hr (f4 _ (dqDropLast e3)) (Same.refl S) du⟩
/-- ys.append(e), e changes lists of one's own -/
def gAppX (i : Nat) (f : DX) : DS := fun D ρ => slOw ρ[i]? fun _ => f ρ (fun x ρ' => onD x fun d => slOw ρ'[i]? fun xs => xs.length ≤ 100000 ∧ D.nx (ρ'.set i (.own (xs ++ [d])))) (D.ex ρ)
theorem js_appX {i : Nat} {pos' : Pos} {fx : DX} (hN : X.N[i]? = some x) (hv : Vis X.env.scope x) (hd : (x == ("__debug__" : Str)) = false) (hcd : (x == ("__classdict__" : Str)) = false) (he : JX X n W κ e fx)
    (hbase : attributeBase (.Name x p) "append" X.env (eval (.Name x p) X.env) = eval (.Name x p) X.env)
    (hfew : ((backTo pos (starEach (e :: []) X.env)).all (fun x => !x.1) && (backToKw pos (keywordEach [] X.env)).all (fun x => x.1.isSome)
      && decide ((e :: ([] : List Expr)).length + ([] : List Keyword).length + (if ([] : List Keyword).isEmpty then 0 else 1) < 30)) = true)
    (hline : (pa.endLine == pos.line) = true) (hs : starEach (e :: []) X.env = (false, eval e X.env) :: starEach [] X.env) (hplain : (backTo pos (starEach [] X.env)).any (·.1) = false)
    (hsw : swapsWith (.Call (.Attribute (.Name x p) "append" pa) [e] [] pos) none pos'.line X.env = pure false) :
    JS X n W κ (.Expr (.Call (.Attribute (.Name x p) "append" pa) [e] [] pos) pos') (gAppX i fx) := by
  refine PS.to (ps_expr (pe_bm PySem.F.plainAttrs_list PySem.F.slot_list_append PySem.F.type_list_append mt_append (pe_var hN hv hd hcd) (pa_cons he pa_nil hs) hbase hfew hline hs hplain) hsw) fun D σ H ⟨m, S, ρ, Dd, st, hg, ks⟩ => ?_
  obtain ⟨xs, hi, hg⟩ := slOw_of hg
  obtain ⟨q, vs, e1, e2, e3, _⟩ := st.write (ys := []) hi
  refine ⟨_, e1, .inl ⟨rfl, vs, SqL.of e2⟩, m, S, ρ, _, _, st, hg, fun x v ρ' S' H' hx st' po d => ?_, ks.ke⟩
  obtain ⟨x, rfl, hx⟩ := onD_of hx
  obtain ⟨xs', hi', hl, hx⟩ := slOw_of hx
  obtain ⟨q', us, f1, f2, f3, f4⟩ := st'.write (ys := xs' ++ [x]) hi'
  rw [e1] at f1
  cases f1
  refine ⟨q, us, v, rfl, rfl, f2, ?_, ?_⟩
  · have := f3.len
    have : (100000 : Nat) < sizeLine := by decide
    omega
  · exact ks.nx _ _ S' _ hx (f4 _ (f3.app (.cons d .nil))) po
/-- a statement that is such an expression; its value to a name -/
def gDropX (f : DX) : DS := fun D ρ => f ρ (fun _ ρ' => D.nx ρ') (D.ex ρ)
theorem js_dropX {fx : DX} (he : JX X n W κ e fx) (hs : swapsWith e none pos.line X.env = pure false) : JS X n W κ (.Expr e pos) (gDropX fx) :=
  PS.to (ps_expr he hs) fun D σ H ⟨m, S, ρ, Dd, st, hg, ks⟩ => ⟨m, S, ρ, _, _, st, hg, fun x v ρ' S' H' hx st' p d => ks.nx _ σ S' H' hx st' p, ks.ke⟩
def gSetX (i : Nat) (f : DX) : DS := fun D ρ => f ρ (fun x ρ' => D.nx (ρ'.set i (.v x))) (D.ex ρ)
theorem js_setX {i : Nat} {pos' : Pos} {fx : DX} (hN : X.N.Nodup) (hi : X.N[i]? = some x) (hx : Loc X.env.scope x) (he : JX X n W κ e fx) (hs : swapsWith e (some (.Name x pos')) pos.line X.env = pure false) (hf : X.fn x = true ∨ X.env.scope.names.lookup x = some .local) :
    JS X n W κ (.Assign [.Name x pos'] e pos) (gSetX i fx) :=
  PS.to (ps_set hN hi hx he hs hf) fun D σ H ⟨m, S, ρ, Dd, st, hg, ks⟩ => ⟨m, S, ρ, _, _, st, hg, fun x v ρ' S' H' hx st' p d => ks.nx _ _ S' H' hx (st'.set d) p, ks.ke⟩
end
end
end Wb
/-! Wb14: short forms of the rules of Wb11 .. Wb13. -/
namespace Wb
open PySem PySem.Spec PyProof.Rows L2
section
variable {X : Cx} {n : En} {W : WX} {κ κ' κ2 κi κt κe κf k k' : Nat} {e a b c elt tg iter : Expr} {es ifs : List Expr} {pos : Pos} {f h g : DE} {fa fk : DA} {t u : DT} {fi fn fm : DN} {fx : DX}
theorem spNN (C : Cok X n W k) (i j : Nat) {x y : Str} {px py pt : Pos} {kt k2 : Nat} {pt2 : Pos} (ha : JN X n W κ a fn) (hb : JN X n W κ' b fm) (hi : X.N[i]? = some x := by rfl) (hj : X.N[j]? = some y := by rfl) (hij : i ≠ j := by decide) (hx : X.env.scope.names.lookup x = some .local := by rfl) (hy : X.env.scope.names.lookup y = some .local := by rfl)
    (hs1 : starEach [a, b] X.env = (false, eval a X.env) :: starEach [b] X.env := by rfl) (hs2 : starEach [b] X.env = (false, eval b X.env) :: starEach [] X.env := by rfl)
    (hw : swappedStores [.Tuple [.Name x px, .Name y py] kt pt] (.Tuple [a, b] k2 pt2) X.env = pure (some [x, y]) := by rfl)
    (hs : swapsWithSole [.Tuple [.Name x px, .Name y py] kt pt] (.Tuple [a, b] k2 pt2) pos.line X.env = pure false := by rfl) (hpa : ∀ a, n.pa a := by exact fun _ => trivial) : JS X n W (κ + κ') (.Assign [.Tuple [.Name x px, .Name y py] kt pt] (.Tuple [a, b] k2 pt2) pos) (gParNN i j fn fm) :=
  js_parNN hpa C.calm C.nd hi hj hij hx hy ha hb hs1 hs2 hw hs
theorem spDN (C : Cok X n W k) (i j : Nat) {x y : Str} {px py pt : Pos} {kt k2 : Nat} {pt2 : Pos} (ha : JE X n W κ a f) (hb : JN X n W κ' b fm) (hi : X.N[i]? = some x := by rfl) (hj : X.N[j]? = some y := by rfl) (hij : i ≠ j := by decide) (hx : X.env.scope.names.lookup x = some .local := by rfl) (hy : X.env.scope.names.lookup y = some .local := by rfl)
    (hs1 : starEach [a, b] X.env = (false, eval a X.env) :: starEach [b] X.env := by rfl) (hs2 : starEach [b] X.env = (false, eval b X.env) :: starEach [] X.env := by rfl)
    (hw : swappedStores [.Tuple [.Name x px, .Name y py] kt pt] (.Tuple [a, b] k2 pt2) X.env = pure (some [x, y]) := by rfl)
    (hs : swapsWithSole [.Tuple [.Name x px, .Name y py] kt pt] (.Tuple [a, b] k2 pt2) pos.line X.env = pure false := by rfl) (hpa : ∀ a, n.pa a := by exact fun _ => trivial) : JS X n W (κ + κ') (.Assign [.Tuple [.Name x px, .Name y py] kt pt] (.Tuple [a, b] k2 pt2) pos) (gParDN i j f fm) :=
  js_parDN hpa C.calm C.nd hi hj hij hx hy ha hb hs1 hs2 hw hs
theorem spND (C : Cok X n W k) (i j : Nat) {x y : Str} {px py pt : Pos} {kt k2 : Nat} {pt2 : Pos} (ha : JN X n W κ a fn) (hb : JE X n W κ' b f) (hi : X.N[i]? = some x := by rfl) (hj : X.N[j]? = some y := by rfl) (hij : i ≠ j := by decide) (hx : X.env.scope.names.lookup x = some .local := by rfl) (hy : X.env.scope.names.lookup y = some .local := by rfl)
    (hs1 : starEach [a, b] X.env = (false, eval a X.env) :: starEach [b] X.env := by rfl) (hs2 : starEach [b] X.env = (false, eval b X.env) :: starEach [] X.env := by rfl)
    (hw : swappedStores [.Tuple [.Name x px, .Name y py] kt pt] (.Tuple [a, b] k2 pt2) X.env = pure (some [x, y]) := by rfl)
    (hs : swapsWithSole [.Tuple [.Name x px, .Name y py] kt pt] (.Tuple [a, b] k2 pt2) pos.line X.env = pure false := by rfl) (hpa : ∀ a, n.pa a := by exact fun _ => trivial) : JS X n W (κ + κ') (.Assign [.Tuple [.Name x px, .Name y py] kt pt] (.Tuple [a, b] k2 pt2) pos) (gParND i j fn f) :=
  js_parND hpa C.calm C.nd hi hj hij hx hy ha hb hs1 hs2 hw hs
theorem xp (j : Nat) {x : Str} {p pa : Pos} (he : JE X n W κ e f) (hN : X.N[j]? = some x := by rfl) (hv : Vis X.env.scope x := by first | exact .inl rfl | exact .inr (.inl rfl) | exact .inr (.inr rfl)) (hd : (x == ("__debug__" : Str)) = false := by rfl) (hcd : (x == ("__classdict__" : Str)) = false := by rfl)
    (hbase : attributeBase (.Name x p) "pop" X.env (eval (.Name x p) X.env) = eval (.Name x p) X.env := by rfl)
    (hfew : ((backTo pos (starEach (e :: []) X.env)).all (fun x => !x.1) && (backToKw pos (keywordEach [] X.env)).all (fun x => x.1.isSome)
      && decide ((e :: ([] : List Expr)).length + ([] : List Keyword).length + (if ([] : List Keyword).isEmpty then 0 else 1) < 30)) = true := by rfl)
    (hline : (pa.endLine == pos.line) = true := by rfl) (hs : starEach (e :: []) X.env = (false, eval e X.env) :: starEach [] X.env := by rfl) (hplain : (backTo pos (starEach [] X.env)).any (·.1) = false := by rfl) :
    JX X n W κ (.Call (.Attribute (.Name x p) "pop" pa) [e] [] pos) (xPopAt j f) := jx_popAt hN hv hd hcd he hbase hfew hline hs hplain
theorem xp0 (j : Nat) {x : Str} {p pa : Pos} (hN : X.N[j]? = some x := by rfl) (hv : Vis X.env.scope x := by first | exact .inl rfl | exact .inr (.inl rfl) | exact .inr (.inr rfl)) (hd : (x == ("__debug__" : Str)) = false := by rfl) (hcd : (x == ("__classdict__" : Str)) = false := by rfl)
    (hbase : attributeBase (.Name x p) "pop" X.env (eval (.Name x p) X.env) = eval (.Name x p) X.env := by rfl) (hline : (pa.endLine == pos.line) = true := by rfl) :
    JX X n W 0 (.Call (.Attribute (.Name x p) "pop" pa) [] [] pos) (xPop j) := jx_pop hN hv hd hcd hbase hline
theorem sapX (i : Nat) {x : Str} {pos' p pa : Pos} (he : JX X n W κ e fx) (hN : X.N[i]? = some x := by rfl) (hv : Vis X.env.scope x := by first | exact .inl rfl | exact .inr (.inl rfl) | exact .inr (.inr rfl)) (hd : (x == ("__debug__" : Str)) = false := by rfl) (hcd : (x == ("__classdict__" : Str)) = false := by rfl)
    (hbase : attributeBase (.Name x p) "append" X.env (eval (.Name x p) X.env) = eval (.Name x p) X.env := by rfl)
    (hfew : ((backTo pos (starEach (e :: []) X.env)).all (fun x => !x.1) && (backToKw pos (keywordEach [] X.env)).all (fun x => x.1.isSome)
      && decide ((e :: ([] : List Expr)).length + ([] : List Keyword).length + (if ([] : List Keyword).isEmpty then 0 else 1) < 30)) = true := by rfl)
    (hline : (pa.endLine == pos.line) = true := by rfl) (hs : starEach (e :: []) X.env = (false, eval e X.env) :: starEach [] X.env := by rfl) (hplain : (backTo pos (starEach [] X.env)).any (·.1) = false := by rfl)
    (hsw : swapsWith (.Call (.Attribute (.Name x p) "append" pa) [e] [] pos) none pos'.line X.env = pure false := by rfl) :
    JS X n W κ (.Expr (.Call (.Attribute (.Name x p) "append" pa) [e] [] pos) pos') (gAppX i fx) := js_appX hN hv hd hcd he hbase hfew hline hs hplain hsw
theorem sdX (he : JX X n W κ e fx) (hs : swapsWith e none pos.line X.env = pure false := by rfl) : JS X n W κ (.Expr e pos) (gDropX fx) := js_dropX he hs
theorem ssX (C : Cok X n W k) (i : Nat) {x : Str} {pos' : Pos} (he : JX X n W κ e fx) (hi : X.N[i]? = some x := by rfl) (hx : Loc X.env.scope x := by first | exact .inl rfl | exact .inr rfl) (hs : swapsWith e (some (.Name x pos')) pos.line X.env = pure false := by rfl)
    (hf : X.fn x = true ∨ X.env.scope.names.lookup x = some .local := by first | exact .inr rfl | exact .inl rfl) : JS X n W κ (.Assign [.Name x pos'] e pos) (gSetX i fx) := js_setX C.nd hi hx he hs hf
end
end Wb
/-! Wb15: plain lemmas for the mathematics over mirrors: texts, equality, lists of ints, comprehensions over typed lists. -/
namespace Wb
open PySem PySem.Spec PyProof.Rows L2
theorem ite_t {b : Bool} {A B : Prop} (h : b = true) (q : A) : if b = true then A else B := by rw [if_pos h]; exact q
theorem ite_f {b : Bool} {A B : Prop} (h : b = false) (q : B) : if b = true then A else B := by rw [if_neg (by rw [h]; decide)]; exact q
theorem atI_mem {α : Type} {xs : List α} {k : Int} (h0 : 0 ≤ k) (h : k < (xs.length : Int)) : ∃ y, atI xs k = some y ∧ y ∈ xs := by
  have hk : k.toNat < xs.length := by omega
  refine ⟨xs[k.toNat], ?_, List.getElem_mem hk⟩
  unfold atI ixN
  rw [if_pos h0, if_pos h]
  exact List.getElem?_eq_getElem hk
theorem cpow10 {n : Int} (h0 : 0 ≤ n) (h : n ≤ 1000) : CPow 10 n := ⟨h0, by omega, by decide⟩
theorem rng_nonneg {j : Int} {x : PD} (h : x ∈ rngD 0 j) : ∃ k : Int, x = .int k ∧ 0 ≤ k ∧ k < j := by
  unfold rngD at h
  simp only [List.mem_map, List.mem_range] at h
  obtain ⟨i, hi, rfl⟩ := h
  exact ⟨0 + (i : Int), rfl, by omega, by omega⟩
/-! texts are of true code points -/
abbrev SOk (x : Str) : Prop := PyData.strOk x = true
theorem ok_app {a b : Str} (h : SOk a) (k : SOk b) : SOk (a ++ b) := by
  show ((a.cps ++ b.cps).all fun c => decide (c < 0x110000)) = true
  rw [Array.all_append]
  have h : (a.cps.all fun c => decide (c < 0x110000)) = true := h
  have k : (b.cps.all fun c => decide (c < 0x110000)) = true := k
  rw [h, k]
  rfl
theorem ok_of (s : String) : SOk (Str.ofString s) := by
  show ((Str.ofString s).cps.all fun c => decide (c < 0x110000)) = true
  rw [PySem.Str.ofString_eq_toList]
  rw [Array.all_eq_true_iff_forall_mem]
  intro c hc
  have hc : c ∈ (s.toList.map Char.toNat).toArray := hc
  rw [List.mem_toArray, List.mem_map] at hc
  obtain ⟨ch, _, rfl⟩ := hc
  have v := ch.valid
  rw [decide_eq_true_eq]
  rcases v with v | v
  · have v : ch.toNat < 0xd800 := v
    omega
  · exact v.2
theorem ok_textFrom : ∀ (ts : List Str) (k : Nat) (acc : Str), SOk acc → (∀ t ∈ ts, SOk t) → SOk (textFrom k acc ts)
  | [], _, _, h, _ => h
  | t :: ts, k, acc, h, ht => ok_textFrom ts (k + 1) _ (ok_app (ok_app h (ok_of _)) (ht t (by simp))) fun u hu => ht u (by simp [hu])
theorem ok_listText {ts : List Str} (h : ∀ t ∈ ts, SOk t) : SOk (listText ts) := ok_app (ok_textFrom ts 0 _ (ok_of _) h) (ok_of _)
theorem ok_join : ∀ {ts : List Str}, (∀ t ∈ ts, SOk t) → SOk (Str.join ", " ts)
  | [], _ => by decide +kernel
  | [t], h => h t (by simp)
  | t :: u :: r, h => ok_app (ok_app (h t (by simp)) (ok_of _)) (ok_join fun v hv => h v (by simp at hv ⊢; right; exact hv))
theorem ok_tupleText {ts : List Str} (h : ∀ t ∈ ts, SOk t) : SOk (tupleText ts) := ok_app (ok_app (ok_of _) (ok_join h)) (ok_of _)
/-! what repr and == take: depth at most e, weight at most n -/
structure Rp (e n : Nat) (d : PD) : Prop where
  sh : d.showable = true
  ls : d.leavesShort 600 = true
  cl : d.canLay0 = true
  dp : d.depth ≤ e
  wt : d.weight ≤ n
  st : SOk d.shown
structure RpA (e n : Nat) (xs : List PD) : Prop where
  sh : PyData.showableAll xs = true
  ls : PyData.leavesShortAll 600 xs = true
  cl : PyData.canLayAll0 xs = true
  dp : PyData.depthAll xs ≤ e
  wt : PyData.weightAll xs ≤ n
  st : ∀ t ∈ PyData.shownAll xs, SOk t
theorem Rp.le {e n e' n' : Nat} {d : PD} (h : Rp e n d) (h1 : e ≤ e') (h2 : n ≤ n') : Rp e' n' d := ⟨h.sh, h.ls, h.cl, Nat.le_trans h.dp h1, Nat.le_trans h.wt h2, h.st⟩
theorem Rp.none {e n : Nat} : Rp e n .none := ⟨rfl, rfl, by simp only [PyData.canLay0], Nat.zero_le _, Nat.zero_le _, ok_of _⟩
theorem Rp.bool {e n : Nat} {b : Bool} : Rp e n (.bool b) := ⟨rfl, rfl, by simp only [PyData.canLay0], Nat.zero_le _, Nat.zero_le _, by cases b <;> exact ok_of _⟩
theorem Rp.int {e a : Nat} {i : Int} (h : MB a i) (ha : a ≤ 1900) : Rp e a (.int i) := by
  have hl : i ≠ 0 → i.natAbs.log2 < a := fun z => (Nat.log2_lt (by omega)).mpr h
  refine ⟨?_, ?_, by simp only [PyData.canLay0], Nat.zero_le _, ?_, ok_of _⟩
  · simp only [PyData.showable, decide_eq_true_eq]
    by_cases z : i = 0
    · subst z; decide
    · have := hl z; omega
  · simp only [PyData.leavesShort, decide_eq_true_eq]
    show (Str.ofString (toString i)).length ≤ 600
    rw [PySem.ofString_length]
    have h2 : i.natAbs < 10 ^ 572 := Nat.lt_of_lt_of_le (MB.le h ha) (by decide +kernel)
    have := PySem.int_text_length_le10 (k := 572) (by decide) h2
    omega
  · simp only [PyData.weight]
    by_cases z : i = 0
    · subst z; simp
    · have := hl z
      have e : (i == 0) = false := by simpa using z
      rw [e]
      simp
      omega
theorem RpA.nil {e : Nat} : RpA e 0 [] := ⟨rfl, rfl, rfl, Nat.zero_le _, Nat.zero_le _, fun _ h => nomatch h⟩
theorem RpA.cons {e n m : Nat} {x : PD} {xs : List PD} (h : Rp e n x) (t : RpA e m xs) : RpA e (n + 1 + m) (x :: xs) := by
  refine ⟨?_, ?_, ?_, ?_, ?_, fun u hu => by
    rcases List.mem_cons.mp (show u ∈ x.shown :: PyData.shownAll xs from hu) with rfl | hu
    · exact h.st
    · exact t.st u hu⟩
  · simp only [PyData.showableAll, h.sh, t.sh, Bool.and_self]
  · simp only [PyData.leavesShortAll, h.ls, t.ls, Bool.and_self]
  · simp only [PyData.canLayAll0, h.cl, t.cl, Bool.and_self]
  · simp only [PyData.depthAll]
    have := h.dp; have := t.dp
    omega
  · simp only [PyData.weightAll]
    have := h.wt; have := t.wt
    omega
theorem Rp.list {e n : Nat} {xs : List PD} (h : RpA e n xs) : Rp (e + 1) n (.list xs) := by
  refine ⟨?_, ?_, ?_, ?_, ?_, ok_listText h.st⟩
  · simp only [PyData.showable, h.sh]
  · simp only [PyData.leavesShort, h.ls]
  · simp only [PyData.canLay0, h.cl]
  · simp only [PyData.depth]; have := h.dp; omega
  · simp only [PyData.weight]; exact h.wt
theorem Rp.tup {e n : Nat} {xs : List PD} (h : RpA e n xs) : Rp (e + 1) n (.tuple xs) := by
  refine ⟨?_, ?_, ?_, ?_, ?_, ok_tupleText h.st⟩
  · simp only [PyData.showable, h.sh]
  · simp only [PyData.leavesShort, h.ls]
  · simp only [PyData.canLay0, h.cl]
  · simp only [PyData.depth]; have := h.dp; omega
  · simp only [PyData.weight]; exact h.wt
theorem Rp.ok {e n : Nat} {d : PD} (h : Rp e n d) (he : e ≤ 60) (hn : n ≤ 20000) : ROk d := by
  refine ⟨h.sh, ?_, by have := h.dp; omega⟩
  have q := PyData.shown_le 600 (by decide) d h.ls
  have w := h.wt
  have s : (16777216 : Nat) ≤ sizeLine := by decide
  have : (600 + 2) * d.weight ≤ 602 * 20000 := Nat.mul_le_mul (Nat.le_refl _) (by omega)
  omega
theorem Rp.sh' {e n : Nat} {d : PD} (h : Rp e n d) (he : e ≤ 60) : Sh d := by
  show (d.canLay0 && decide (d.depth ≤ 64)) = true
  rw [h.cl, Bool.true_and, decide_eq_true_eq]
  have := h.dp
  omega
theorem Rp.str {e n : Nat} {x : Str} (h : (PyData.str x).leavesShort 600 = true) (h2 : (PyData.str x).canLay0 = true) (h3 : (PyData.str x).weight ≤ n) (h4 : SOk (PyData.str x).shown) : Rp e n (.str x) := ⟨rfl, h, h2, Nat.zero_le _, h3, h4⟩
/-- what == takes -/
structure Cp (e : Nat) (d : PD) : Prop where
  cl : d.canLay0 = true
  dp : d.depth ≤ e
structure CpA (e : Nat) (xs : List PD) : Prop where
  cl : PyData.canLayAll0 xs = true
  dp : PyData.depthAll xs ≤ e
theorem Rp.cp {e n : Nat} {d : PD} (h : Rp e n d) : Cp e d := ⟨h.cl, h.dp⟩
theorem Cp.le {e e' : Nat} {d : PD} (h : Cp e d) (l : e ≤ e') : Cp e' d := ⟨h.cl, Nat.le_trans h.dp l⟩
theorem Cp.int {e : Nat} {i : Int} : Cp e (.int i) := ⟨by simp only [PyData.canLay0], Nat.zero_le _⟩
theorem Cp.bool {e : Nat} {i : Bool} : Cp e (.bool i) := ⟨by simp only [PyData.canLay0], Nat.zero_le _⟩
theorem Cp.none {e : Nat} : Cp e .none := ⟨by simp only [PyData.canLay0], Nat.zero_le _⟩
theorem Cp.str {e : Nat} {x : Str} (h : SOk x) : Cp e (.str x) := ⟨by simpa only [PyData.canLay0] using h, Nat.zero_le _⟩
theorem CpA.nil {e : Nat} : CpA e [] := ⟨rfl, Nat.zero_le _⟩
theorem CpA.cons {e : Nat} {x : PD} {xs : List PD} (h : Cp e x) (t : CpA e xs) : CpA e (x :: xs) := by
  refine ⟨?_, ?_⟩
  · simp only [PyData.canLayAll0, h.cl, t.cl, Bool.and_self]
  · simp only [PyData.depthAll]; have := h.dp; have := t.dp; omega
theorem Cp.list {e : Nat} {xs : List PD} (h : CpA e xs) : Cp (e + 1) (.list xs) := by
  refine ⟨?_, ?_⟩
  · simp only [PyData.canLay0, h.cl]
  · simp only [PyData.depth]; have := h.dp; omega
theorem Cp.tup {e : Nat} {xs : List PD} (h : CpA e xs) : Cp (e + 1) (.tuple xs) := by
  refine ⟨?_, ?_⟩
  · simp only [PyData.canLay0, h.cl]
  · simp only [PyData.depth]; have := h.dp; omega
theorem Cp.sh' {e : Nat} {d : PD} (h : Cp e d) (he : e ≤ 60) : Sh d := by
  show (d.canLay0 && decide (d.depth ≤ 64)) = true
  rw [h.cl, Bool.true_and, decide_eq_true_eq]
  have := h.dp
  omega
/-- a == a -/
theorem e_eqR {e : Nat} {d : PD} {R : DV → Prop} (h : Cp e d) (he : e ≤ 60) (hR : R (.d (.bool true))) : gEq (.d d) (.d d) R := by
  have r := PySem.SeqAt.eqv_refl d h.cl
  cases d with
  | str x =>
    show R (.d (.bool (decide (x = x))))
    simpa using hR
  | _ => exact ⟨h.sh' he, h.sh' he, by rw [r]; exact hR⟩
theorem e_neR {e : Nat} {d : PD} {R : DV → Prop} (h : Cp e d) (he : e ≤ 60) (hR : R (.d (.bool false))) : gNe (.d d) (.d d) R := by
  have r := PySem.SeqAt.eqv_refl d h.cl
  cases d with
  | str x =>
    show R (.d (.bool (!decide (x = x))))
    simpa using hR
  | _ => exact ⟨h.sh' he, h.sh' he, by rw [r]; exact hR⟩
theorem e_neS {x y : Str} {R : DV → Prop} : gNe (.d (.str x)) (.d (.str y)) R = R (.d (.bool (!decide (x = y)))) := rfl
/-- repr of the same -/
theorem e_reprNe {d : PD} {R : DV → Prop} (hR : R (.d (.bool false))) : gNe (.d (.str d.shown)) (.d (.str d.shown)) R := by
  rw [e_neS]
  simpa using hR
theorem e_eqI {i j : Int} {R : DV → Prop} : gEq (.d (.int i)) (.d (.int j)) R = R (.d (.bool (decide (i = j)))) := by
  apply propext
  show (Sh (.int i) ∧ Sh (.int j) ∧ R (.d (.bool (PyData.eqv (.int i) (.int j))))) ↔ _
  have e : PyData.eqv (.int i) (.int j) = decide (i = j) := by rw [Bool.eq_iff_iff]; simp [PyData.eqv]
  rw [e]
  exact ⟨fun h => h.2.2, fun h => ⟨rfl, rfl, h⟩⟩
theorem e_neI {i j : Int} {R : DV → Prop} : gNe (.d (.int i)) (.d (.int j)) R = R (.d (.bool (!decide (i = j)))) := by
  apply propext
  show (Sh (.int i) ∧ Sh (.int j) ∧ R (.d (.bool (!PyData.eqv (.int i) (.int j))))) ↔ _
  have e : PyData.eqv (.int i) (.int j) = decide (i = j) := by rw [Bool.eq_iff_iff]; simp [PyData.eqv]
  rw [e]
  exact ⟨fun h => h.2.2, fun h => ⟨rfl, rfl, h⟩⟩
theorem len_weight : ∀ xs : List PD, xs.length ≤ PyData.weightAll xs
  | [] => Nat.le_refl _
  | x :: xs => by
    simp only [PyData.weightAll, List.length_cons]
    have := len_weight xs
    omega
theorem mem_weight : ∀ {xs : List PD} {y : PD}, y ∈ xs → y.weight ≤ PyData.weightAll xs ∧ y.depth ≤ PyData.depthAll xs
  | x :: xs, y, h => by
    simp only [PyData.weightAll, PyData.depthAll]
    rcases List.mem_cons.mp h with rfl | h
    · omega
    · have := mem_weight h
      omega
theorem okD_of : ∀ (j : Nat) (d : PD), d.depth ≤ j → d.weight ≤ 100000 → okD j d
  | j, .none, _, _ => by cases j <;> trivial
  | j, .bool _, _, _ => by cases j <;> trivial
  | j, .int _, _, _ => by cases j <;> trivial
  | j, .str _, _, _ => by cases j <;> trivial
  | j, .dict _, _, _ => by cases j <;> trivial
  | 0, .list xs, h, _ => by simp only [PyData.depth] at h; omega
  | 0, .tuple xs, h, _ => by simp only [PyData.depth] at h; omega
  | j + 1, .list xs, h, w => by
    simp only [PyData.depth] at h
    simp only [PyData.weight] at w
    have l := len_weight xs
    exact ⟨by omega, fun y hy => okD_of j y (by have := (mem_weight hy).2; omega) (by have := (mem_weight hy).1; omega)⟩
  | j + 1, .tuple xs, h, w => by
    simp only [PyData.depth] at h
    simp only [PyData.weight] at w
    have l := len_weight xs
    exact ⟨by omega, fun y hy => okD_of j y (by have := (mem_weight hy).2; omega) (by have := (mem_weight hy).1; omega)⟩
theorem Rp.ok9 {e n : Nat} {d : PD} (h : Rp e n d) (he : e ≤ 9) (hn : n ≤ 100000) : okD 9 d := okD_of 9 d (by have := h.dp; omega) (by have := h.wt; omega)
theorem mb_weight {i : Int} {n : Nat} (h : (PyData.int i).weight ≤ n) : MB n i := by
  unfold MB
  simp only [PyData.weight] at h
  by_cases z : i = 0
  · subst z; exact Nat.pos_of_ne_zero (by simp)
  · have e : (i == 0) = false := by simpa using z
    rw [e] at h
    have h : i.natAbs.log2 + 1 ≤ n := h
    exact Nat.lt_of_lt_of_le Nat.lt_log2_self (Nat.pow_le_pow_right (by decide) h)
theorem eqv_t2 (x y a b : Int) : PyData.eqv (.tuple [.int x, .int y]) (.tuple [.int a, .int b]) = (decide (x = a) && decide (y = b)) := by
  rw [Bool.eq_iff_iff]
  simp [PyData.eqv, PyData.eqvAll]

/-! lists of ints, ranges -/
def irg (lo hi : Int) : List Int := (List.range (hi - lo).toNat).map fun i : Nat => lo + (i : Int)
theorem rngD_irg (lo hi : Int) : rngD lo hi = (irg lo hi).map .int := by
  unfold rngD irg
  rw [List.map_map]
  rfl
theorem mem_irg {lo hi i : Int} : i ∈ irg lo hi ↔ lo ≤ i ∧ i < hi := by
  unfold irg
  simp only [List.mem_map, List.mem_range]
  constructor
  · rintro ⟨k, hk, rfl⟩
    omega
  · intro ⟨h1, h2⟩
    exact ⟨(i - lo).toNat, by omega, by omega⟩
theorem irg_len (lo hi : Int) : (irg lo hi).length = (hi - lo).toNat := by unfold irg; rw [List.length_map, List.length_range]
theorem nodup_map {α β : Type} {f : α → β} (hf : ∀ a b, f a = f b → a = b) : ∀ {l : List α}, l.Nodup → (l.map f).Nodup
  | [], _ => List.nodup_nil
  | a :: l, h => by
    rw [List.nodup_cons] at h
    rw [List.map_cons, List.nodup_cons]
    refine ⟨fun hm => ?_, nodup_map hf h.2⟩
    obtain ⟨b, hb, e⟩ := List.mem_map.mp hm
    rw [hf _ _ e] at hb
    exact h.1 hb
theorem irg_nodup (lo hi : Int) : (irg lo hi).Nodup := by
  unfold irg
  exact nodup_map (fun a b h => by omega) List.nodup_range
theorem asInts_map : ∀ l : List Int, asInts (l.map .int) = some l
  | [] => rfl
  | a :: l => by
    show (asInts (l.map .int)).map (a :: ·) = _
    rw [asInts_map l]
    rfl
theorem asBools_map : ∀ l : List Bool, asBools (l.map .bool) = some l
  | [] => rfl
  | a :: l => by
    show (asBools (l.map .bool)).map (a :: ·) = _
    rw [asBools_map l]
    rfl
theorem cpA_ints {e : Nat} : ∀ l : List Int, CpA e (l.map .int)
  | [] => CpA.nil
  | a :: l => CpA.cons Cp.int (cpA_ints l)
theorem sh_ints (l : List Int) : Sh (.list (l.map .int)) := (Cp.list (cpA_ints (e := 0) l)).sh' (by decide)
theorem sh_intsT (l : List Int) : Sh (.tuple (l.map .int)) := (Cp.tup (cpA_ints (e := 0) l)).sh' (by decide)
theorem eqv_int (a b : Int) : PyData.eqv (.int a) (.int b) = decide (a = b) := by
  rw [Bool.eq_iff_iff]
  simp [PyData.eqv]
theorem any_eqv (i : Int) : ∀ l : List Int, ((l.map PyData.int).any fun z => PyData.eqv z (.int i)) = decide (i ∈ l)
  | [] => rfl
  | a :: l => by
    rw [List.map_cons, List.any_cons, any_eqv i l, eqv_int, ← Bool.decide_or]
    exact decide_eq_decide.mpr (by rw [List.mem_cons, eq_comm])
theorem flat_ints : ∀ l : List Int, (l.map PyData.int).all flatD = true
  | [] => rfl
  | a :: l => by rw [List.map_cons, List.all_cons, flat_ints l]; rfl
theorem e_inL {i : Int} {l : List Int} {R : DV → Prop} : gIn (.d (.int i)) (.d (.list (l.map .int))) R = R (.d (.bool (decide (i ∈ l)))) := by
  apply propext
  show (Sh _ ∧ Sh _ ∧ R (.d (.bool ((l.map PyData.int).any fun z => PyData.eqv z (.int i))))) ↔ _
  rw [any_eqv]
  exact ⟨fun h => h.2.2, fun h => ⟨rfl, sh_ints l, h⟩⟩
theorem e_ninL {i : Int} {l : List Int} {R : DV → Prop} : gNotIn (.d (.int i)) (.d (.list (l.map .int))) R = R (.d (.bool (!decide (i ∈ l)))) := by
  apply propext
  show (Sh _ ∧ Sh _ ∧ R (.d (.bool (!(l.map PyData.int).any fun z => PyData.eqv z (.int i))))) ↔ _
  rw [any_eqv]
  exact ⟨fun h => h.2.2, fun h => ⟨rfl, sh_ints l, h⟩⟩
theorem e_inT {i : Int} {l : List Int} {R : DV → Prop} : gIn (.d (.int i)) (.d (.tuple (l.map .int))) R = R (.d (.bool (decide (i ∈ l)))) := by
  apply propext
  show (flatD (.int i) = true ∧ (l.map PyData.int).all flatD = true ∧ R (.d (.bool ((l.map PyData.int).any fun z => PyData.eqv z (.int i))))) ↔ _
  rw [any_eqv]
  exact ⟨fun h => h.2.2, fun h => ⟨rfl, flat_ints l, h⟩⟩
theorem e_ninT {i : Int} {l : List Int} {R : DV → Prop} : gNotIn (.d (.int i)) (.d (.tuple (l.map .int))) R = R (.d (.bool (!decide (i ∈ l)))) := by
  apply propext
  show (flatD (.int i) = true ∧ (l.map PyData.int).all flatD = true ∧ R (.d (.bool (!(l.map PyData.int).any fun z => PyData.eqv z (.int i))))) ↔ _
  rw [any_eqv]
  exact ⟨fun h => h.2.2, fun h => ⟨rfl, flat_ints l, h⟩⟩
/-- == of any two that may be compared -/
theorem e_eqG {x y : PD} {R : DV → Prop} (hx : Sh x) (hy : Sh y) (h : R (.d (.bool (PyData.eqv x y)))) : gEq (.d x) (.d y) R := by
  by_cases q : ∃ s t, x = .str s ∧ y = .str t
  · obtain ⟨s, t, rfl, rfl⟩ := q
    show R (.d (.bool (decide (s = t))))
    have e : PyData.eqv (.str s) (.str t) = decide (s = t) := by rw [Bool.eq_iff_iff]; simp [PyData.eqv]
    rw [← e]
    exact h
  · cases x <;> first | exact ⟨hx, hy, h⟩ | (cases y <;> first | exact ⟨hx, hy, h⟩ | exact absurd ⟨_, _, rfl, rfl⟩ q)
theorem e_neG {x y : PD} {R : DV → Prop} (hx : Sh x) (hy : Sh y) (h : R (.d (.bool (!PyData.eqv x y)))) : gNe (.d x) (.d y) R := by
  by_cases q : ∃ s t, x = .str s ∧ y = .str t
  · obtain ⟨s, t, rfl, rfl⟩ := q
    show R (.d (.bool (!decide (s = t))))
    have e : PyData.eqv (.str s) (.str t) = decide (s = t) := by rw [Bool.eq_iff_iff]; simp [PyData.eqv]
    rw [← e]
    exact h
  · cases x <;> first | exact ⟨hx, hy, h⟩ | (cases y <;> first | exact ⟨hx, hy, h⟩ | exact absurd ⟨_, _, rfl, rfl⟩ q)
theorem eqv_nil (xs : List PD) : PyData.eqv (.list xs) (.list []) = xs.isEmpty := by cases xs <;> simp [PyData.eqv, PyData.eqvAll]
theorem eqv_nilT (xs : List PD) : PyData.eqv (.tuple xs) (.tuple []) = xs.isEmpty := by cases xs <;> simp [PyData.eqv, PyData.eqvAll]
theorem eqvAll_c (x y : PD) (xs ys : List PD) : PyData.eqvAll (x :: xs) (y :: ys) = (PyData.eqv x y && PyData.eqvAll xs ys) := by
  conv => lhs; unfold PyData.eqvAll
theorem eqv_ints : ∀ l k : List Int, PyData.eqvAll (l.map .int) (k.map .int) = decide (l = k)
  | [], [] => by simp [PyData.eqvAll]
  | [], b :: k => by simp [PyData.eqvAll]
  | a :: l, [] => by simp [PyData.eqvAll]
  | a :: l, b :: k => by
    rw [List.map_cons, List.map_cons, eqvAll_c, eqv_ints l k, eqv_int, ← Bool.decide_and]
    exact decide_eq_decide.mpr (by rw [List.cons.injEq])
/-! comprehensions and loops over lists told by a map -/
theorem lcD_map {α : Type} {gd : DG} {t : DT} {f : DE} {ρ : List Sl} {R : List PD → Prop} (enc : α → PD) (h : α → Option PD) : ∀ {l : List α}, (∀ x ∈ l, ∀ P : Option PD → Prop, P (h x) → gd (enc x) ρ fun ρ1 => t ρ1 (fun b => if b = true then f ρ1 (fun y => onD y fun d => P (some d)) noE else P none) noE) →
    R (l.filterMap h) → lcD gd t f ρ (l.map enc) R
  | [], _, hR => hR
  | x :: l, hb, hR => by
    rw [List.map_cons]
    unfold lcD
    exact hb x (by simp) (fun o => match o with
      | some d => lcD gd t f ρ (l.map enc) fun ds => R (d :: ds)
      | none => lcD gd t f ρ (l.map enc) R) (by
        rw [List.filterMap_cons] at hR
        cases q : h x with
        | none =>
          rw [q] at hR
          exact lcD_map enc h (fun y hy => hb y (by simp [hy])) hR
        | some d =>
          rw [q] at hR
          exact lcD_map (R := fun ds => R (d :: ds)) enc h (fun y hy => hb y (by simp [hy])) hR)
/-- no test, each item told -/
theorem lcD_all {α : Type} {gd : DG} {f : DE} {ρ : List Sl} {R : List PD → Prop} (enc : α → PD) (h : α → PD) : ∀ {l : List α}, (∀ x ∈ l, ∀ P : PD → Prop, P (h x) → gd (enc x) ρ fun ρ1 => f ρ1 (fun y => onD y P) noE) →
    R (l.map h) → lcD gd tTrue f ρ (l.map enc) R
  | [], _, hR => hR
  | x :: l, hb, hR => by
    rw [List.map_cons]
    unfold lcD
    simp only [tTrue, if_true]
    exact hb x (by simp) (fun d => lcD gd tTrue f ρ (l.map enc) fun ds => R (d :: ds)) (lcD_all (R := fun ds => R (h x :: ds)) enc h (fun y hy => hb y (by simp [hy])) hR)
inductive All2 {α β : Type} (r : α → β → Prop) : List α → List β → Prop
  | nil : All2 r [] []
  | cons {a : α} {b : β} {l : List α} {k : List β} : r a b → All2 r l k → All2 r (a :: l) (b :: k)
/-- no test, drawn items -/
theorem lcD_any {α β : Type} {gd : DG} {f : DE} {ρ : List Sl} {R : List PD → Prop} (enc : α → PD) (dec : β → PD) (r : α → β → Prop) : ∀ {l : List α}, (∀ x ∈ l, ∀ P : PD → Prop, (∀ y, r x y → P (dec y)) → gd (enc x) ρ fun ρ1 => f ρ1 (fun y => onD y P) noE) →
    (∀ ys : List β, All2 r l ys → R (ys.map dec)) → lcD gd tTrue f ρ (l.map enc) R
  | [], _, hR => hR [] .nil
  | x :: l, hb, hR => by
    rw [List.map_cons]
    unfold lcD
    simp only [tTrue, if_true]
    exact hb x (by simp) (fun d => lcD gd tTrue f ρ (l.map enc) fun ds => R (d :: ds)) fun y hy => lcD_any (R := fun ds => R (dec y :: ds)) enc dec r (fun z hz => hb z (by simp [hz])) fun ys hys => hR (y :: ys) (.cons hy hys)
theorem lcD_test {α : Type} {gd : DG} {t : DT} {f : DE} {ρ : List Sl} {R : List PD → Prop} (enc : α → PD) (p : α → Bool) (h : α → PD) {l : List α} (hb : ∀ x ∈ l, ∀ P : Option PD → Prop, P (if p x = true then some (h x) else none) → gd (enc x) ρ fun ρ1 => t ρ1 (fun b => if b = true then f ρ1 (fun y => onD y fun d => P (some d)) noE else P none) noE)
    (hR : R ((l.filter p).map h)) : lcD gd t f ρ (l.map enc) R := by
  refine lcD_map enc (fun x => if p x = true then some (h x) else none) hb ?_
  have : l.filterMap (fun x => if p x = true then some (h x) else none) = (l.filter p).map h := by
    clear hb hR
    induction l with
    | nil => rfl
    | cons a l ih =>
      rw [List.filterMap_cons, List.filter_cons]
      split <;> simp_all
  rw [this]
  exact hR
theorem zip_map {α β : Type} (f : α → PD) (g : β → PD) (l : List α) (k : List β) : List.zipWith (fun a b => PyData.tuple [a, b]) (l.map f) (k.map g) = (l.zip k).map fun x => .tuple [f x.1, g x.2] := by
  induction l generalizing k with
  | nil => rfl
  | cons a l ih => cases k with
    | nil => rfl
    | cons b k => simp [ih]
theorem atI_map' {α : Type} (f : α → PD) {l : List α} {i : Int} {y : α} (h : atI l i = some y) : atI (l.map f) i = some (f y) := by
  unfold atI at h ⊢
  rw [List.length_map]
  cases q : ixN l.length i with
  | none => rw [q] at h; cases h
  | some j =>
    rw [q] at h
    show (l.map f)[j]? = _
    rw [List.getElem?_map, show l[j]? = some y from h]
    rfl
theorem atI_get0 {α : Type} {l : List α} {i : Int} (h0 : 0 ≤ i) (h1 : i < l.length) : atI l i = l[i.toNat]? := by
  unfold atI ixN
  rw [if_pos h0, if_pos h1]
  rfl
theorem e_get8 {α : Type} {a0 a1 a2 a3 a4 a5 a6 a7 a8 : α} {l : List α} : (a0 :: a1 :: a2 :: a3 :: a4 :: a5 :: a6 :: a7 :: a8 :: l)[8]? = some a8 := rfl
theorem e_set8 {α : Type} {a0 a1 a2 a3 a4 a5 a6 a7 a8 z : α} {l : List α} : (a0 :: a1 :: a2 :: a3 :: a4 :: a5 :: a6 :: a7 :: a8 :: l).set 8 z = a0 :: a1 :: a2 :: a3 :: a4 :: a5 :: a6 :: a7 :: z :: l := rfl
theorem e_get9 {α : Type} {a0 a1 a2 a3 a4 a5 a6 a7 a8 a9 : α} {l : List α} : (a0 :: a1 :: a2 :: a3 :: a4 :: a5 :: a6 :: a7 :: a8 :: a9 :: l)[9]? = some a9 := rfl
theorem e_set9 {α : Type} {a0 a1 a2 a3 a4 a5 a6 a7 a8 a9 z : α} {l : List α} : (a0 :: a1 :: a2 :: a3 :: a4 :: a5 :: a6 :: a7 :: a8 :: a9 :: l).set 9 z = a0 :: a1 :: a2 :: a3 :: a4 :: a5 :: a6 :: a7 :: a8 :: z :: l := rfl
theorem e_get10 {α : Type} {a0 a1 a2 a3 a4 a5 a6 a7 a8 a9 a10 : α} {l : List α} : (a0 :: a1 :: a2 :: a3 :: a4 :: a5 :: a6 :: a7 :: a8 :: a9 :: a10 :: l)[10]? = some a10 := rfl
theorem e_set10 {α : Type} {a0 a1 a2 a3 a4 a5 a6 a7 a8 a9 a10 z : α} {l : List α} : (a0 :: a1 :: a2 :: a3 :: a4 :: a5 :: a6 :: a7 :: a8 :: a9 :: a10 :: l).set 10 z = a0 :: a1 :: a2 :: a3 :: a4 :: a5 :: a6 :: a7 :: a8 :: a9 :: z :: l := rfl
theorem e_get11 {α : Type} {a0 a1 a2 a3 a4 a5 a6 a7 a8 a9 a10 a11 : α} {l : List α} : (a0 :: a1 :: a2 :: a3 :: a4 :: a5 :: a6 :: a7 :: a8 :: a9 :: a10 :: a11 :: l)[11]? = some a11 := rfl
theorem e_set11 {α : Type} {a0 a1 a2 a3 a4 a5 a6 a7 a8 a9 a10 a11 z : α} {l : List α} : (a0 :: a1 :: a2 :: a3 :: a4 :: a5 :: a6 :: a7 :: a8 :: a9 :: a10 :: a11 :: l).set 11 z = a0 :: a1 :: a2 :: a3 :: a4 :: a5 :: a6 :: a7 :: a8 :: a9 :: a10 :: z :: l := rfl
theorem e_get12 {α : Type} {a0 a1 a2 a3 a4 a5 a6 a7 a8 a9 a10 a11 a12 : α} {l : List α} : (a0 :: a1 :: a2 :: a3 :: a4 :: a5 :: a6 :: a7 :: a8 :: a9 :: a10 :: a11 :: a12 :: l)[12]? = some a12 := rfl
theorem e_set12 {α : Type} {a0 a1 a2 a3 a4 a5 a6 a7 a8 a9 a10 a11 a12 z : α} {l : List α} : (a0 :: a1 :: a2 :: a3 :: a4 :: a5 :: a6 :: a7 :: a8 :: a9 :: a10 :: a11 :: a12 :: l).set 12 z = a0 :: a1 :: a2 :: a3 :: a4 :: a5 :: a6 :: a7 :: a8 :: a9 :: a10 :: a11 :: z :: l := rfl
theorem e_get13 {α : Type} {a0 a1 a2 a3 a4 a5 a6 a7 a8 a9 a10 a11 a12 a13 : α} {l : List α} : (a0 :: a1 :: a2 :: a3 :: a4 :: a5 :: a6 :: a7 :: a8 :: a9 :: a10 :: a11 :: a12 :: a13 :: l)[13]? = some a13 := rfl
theorem e_set13 {α : Type} {a0 a1 a2 a3 a4 a5 a6 a7 a8 a9 a10 a11 a12 a13 z : α} {l : List α} : (a0 :: a1 :: a2 :: a3 :: a4 :: a5 :: a6 :: a7 :: a8 :: a9 :: a10 :: a11 :: a12 :: a13 :: l).set 13 z = a0 :: a1 :: a2 :: a3 :: a4 :: a5 :: a6 :: a7 :: a8 :: a9 :: a10 :: a11 :: a12 :: z :: l := rfl
theorem e_get14 {α : Type} {a0 a1 a2 a3 a4 a5 a6 a7 a8 a9 a10 a11 a12 a13 a14 : α} {l : List α} : (a0 :: a1 :: a2 :: a3 :: a4 :: a5 :: a6 :: a7 :: a8 :: a9 :: a10 :: a11 :: a12 :: a13 :: a14 :: l)[14]? = some a14 := rfl
theorem e_set14 {α : Type} {a0 a1 a2 a3 a4 a5 a6 a7 a8 a9 a10 a11 a12 a13 a14 z : α} {l : List α} : (a0 :: a1 :: a2 :: a3 :: a4 :: a5 :: a6 :: a7 :: a8 :: a9 :: a10 :: a11 :: a12 :: a13 :: a14 :: l).set 14 z = a0 :: a1 :: a2 :: a3 :: a4 :: a5 :: a6 :: a7 :: a8 :: a9 :: a10 :: a11 :: a12 :: a13 :: z :: l := rfl
theorem e_get15 {α : Type} {a0 a1 a2 a3 a4 a5 a6 a7 a8 a9 a10 a11 a12 a13 a14 a15 : α} {l : List α} : (a0 :: a1 :: a2 :: a3 :: a4 :: a5 :: a6 :: a7 :: a8 :: a9 :: a10 :: a11 :: a12 :: a13 :: a14 :: a15 :: l)[15]? = some a15 := rfl
theorem e_set15 {α : Type} {a0 a1 a2 a3 a4 a5 a6 a7 a8 a9 a10 a11 a12 a13 a14 a15 z : α} {l : List α} : (a0 :: a1 :: a2 :: a3 :: a4 :: a5 :: a6 :: a7 :: a8 :: a9 :: a10 :: a11 :: a12 :: a13 :: a14 :: a15 :: l).set 15 z = a0 :: a1 :: a2 :: a3 :: a4 :: a5 :: a6 :: a7 :: a8 :: a9 :: a10 :: a11 :: a12 :: a13 :: a14 :: z :: l := rfl
theorem e_get16 {α : Type} {a0 a1 a2 a3 a4 a5 a6 a7 a8 a9 a10 a11 a12 a13 a14 a15 a16 : α} {l : List α} : (a0 :: a1 :: a2 :: a3 :: a4 :: a5 :: a6 :: a7 :: a8 :: a9 :: a10 :: a11 :: a12 :: a13 :: a14 :: a15 :: a16 :: l)[16]? = some a16 := rfl
theorem e_set16 {α : Type} {a0 a1 a2 a3 a4 a5 a6 a7 a8 a9 a10 a11 a12 a13 a14 a15 a16 z : α} {l : List α} : (a0 :: a1 :: a2 :: a3 :: a4 :: a5 :: a6 :: a7 :: a8 :: a9 :: a10 :: a11 :: a12 :: a13 :: a14 :: a15 :: a16 :: l).set 16 z = a0 :: a1 :: a2 :: a3 :: a4 :: a5 :: a6 :: a7 :: a8 :: a9 :: a10 :: a11 :: a12 :: a13 :: a14 :: a15 :: z :: l := rfl
theorem e_get17 {α : Type} {a0 a1 a2 a3 a4 a5 a6 a7 a8 a9 a10 a11 a12 a13 a14 a15 a16 a17 : α} {l : List α} : (a0 :: a1 :: a2 :: a3 :: a4 :: a5 :: a6 :: a7 :: a8 :: a9 :: a10 :: a11 :: a12 :: a13 :: a14 :: a15 :: a16 :: a17 :: l)[17]? = some a17 := rfl
theorem e_set17 {α : Type} {a0 a1 a2 a3 a4 a5 a6 a7 a8 a9 a10 a11 a12 a13 a14 a15 a16 a17 z : α} {l : List α} : (a0 :: a1 :: a2 :: a3 :: a4 :: a5 :: a6 :: a7 :: a8 :: a9 :: a10 :: a11 :: a12 :: a13 :: a14 :: a15 :: a16 :: a17 :: l).set 17 z = a0 :: a1 :: a2 :: a3 :: a4 :: a5 :: a6 :: a7 :: a8 :: a9 :: a10 :: a11 :: a12 :: a13 :: a14 :: a15 :: a16 :: z :: l := rfl
theorem e_get18 {α : Type} {a0 a1 a2 a3 a4 a5 a6 a7 a8 a9 a10 a11 a12 a13 a14 a15 a16 a17 a18 : α} {l : List α} : (a0 :: a1 :: a2 :: a3 :: a4 :: a5 :: a6 :: a7 :: a8 :: a9 :: a10 :: a11 :: a12 :: a13 :: a14 :: a15 :: a16 :: a17 :: a18 :: l)[18]? = some a18 := rfl
theorem e_set18 {α : Type} {a0 a1 a2 a3 a4 a5 a6 a7 a8 a9 a10 a11 a12 a13 a14 a15 a16 a17 a18 z : α} {l : List α} : (a0 :: a1 :: a2 :: a3 :: a4 :: a5 :: a6 :: a7 :: a8 :: a9 :: a10 :: a11 :: a12 :: a13 :: a14 :: a15 :: a16 :: a17 :: a18 :: l).set 18 z = a0 :: a1 :: a2 :: a3 :: a4 :: a5 :: a6 :: a7 :: a8 :: a9 :: a10 :: a11 :: a12 :: a13 :: a14 :: a15 :: a16 :: a17 :: z :: l := rfl
theorem e_get19 {α : Type} {a0 a1 a2 a3 a4 a5 a6 a7 a8 a9 a10 a11 a12 a13 a14 a15 a16 a17 a18 a19 : α} {l : List α} : (a0 :: a1 :: a2 :: a3 :: a4 :: a5 :: a6 :: a7 :: a8 :: a9 :: a10 :: a11 :: a12 :: a13 :: a14 :: a15 :: a16 :: a17 :: a18 :: a19 :: l)[19]? = some a19 := rfl
theorem e_set19 {α : Type} {a0 a1 a2 a3 a4 a5 a6 a7 a8 a9 a10 a11 a12 a13 a14 a15 a16 a17 a18 a19 z : α} {l : List α} : (a0 :: a1 :: a2 :: a3 :: a4 :: a5 :: a6 :: a7 :: a8 :: a9 :: a10 :: a11 :: a12 :: a13 :: a14 :: a15 :: a16 :: a17 :: a18 :: a19 :: l).set 19 z = a0 :: a1 :: a2 :: a3 :: a4 :: a5 :: a6 :: a7 :: a8 :: a9 :: a10 :: a11 :: a12 :: a13 :: a14 :: a15 :: a16 :: a17 :: a18 :: z :: l := rfl
theorem e_get20 {α : Type} {a0 a1 a2 a3 a4 a5 a6 a7 a8 a9 a10 a11 a12 a13 a14 a15 a16 a17 a18 a19 a20 : α} {l : List α} : (a0 :: a1 :: a2 :: a3 :: a4 :: a5 :: a6 :: a7 :: a8 :: a9 :: a10 :: a11 :: a12 :: a13 :: a14 :: a15 :: a16 :: a17 :: a18 :: a19 :: a20 :: l)[20]? = some a20 := rfl
theorem e_set20 {α : Type} {a0 a1 a2 a3 a4 a5 a6 a7 a8 a9 a10 a11 a12 a13 a14 a15 a16 a17 a18 a19 a20 z : α} {l : List α} : (a0 :: a1 :: a2 :: a3 :: a4 :: a5 :: a6 :: a7 :: a8 :: a9 :: a10 :: a11 :: a12 :: a13 :: a14 :: a15 :: a16 :: a17 :: a18 :: a19 :: a20 :: l).set 20 z = a0 :: a1 :: a2 :: a3 :: a4 :: a5 :: a6 :: a7 :: a8 :: a9 :: a10 :: a11 :: a12 :: a13 :: a14 :: a15 :: a16 :: a17 :: a18 :: a19 :: z :: l := rfl
theorem e_get21 {α : Type} {a0 a1 a2 a3 a4 a5 a6 a7 a8 a9 a10 a11 a12 a13 a14 a15 a16 a17 a18 a19 a20 a21 : α} {l : List α} : (a0 :: a1 :: a2 :: a3 :: a4 :: a5 :: a6 :: a7 :: a8 :: a9 :: a10 :: a11 :: a12 :: a13 :: a14 :: a15 :: a16 :: a17 :: a18 :: a19 :: a20 :: a21 :: l)[21]? = some a21 := rfl
theorem e_set21 {α : Type} {a0 a1 a2 a3 a4 a5 a6 a7 a8 a9 a10 a11 a12 a13 a14 a15 a16 a17 a18 a19 a20 a21 z : α} {l : List α} : (a0 :: a1 :: a2 :: a3 :: a4 :: a5 :: a6 :: a7 :: a8 :: a9 :: a10 :: a11 :: a12 :: a13 :: a14 :: a15 :: a16 :: a17 :: a18 :: a19 :: a20 :: a21 :: l).set 21 z = a0 :: a1 :: a2 :: a3 :: a4 :: a5 :: a6 :: a7 :: a8 :: a9 :: a10 :: a11 :: a12 :: a13 :: a14 :: a15 :: a16 :: a17 :: a18 :: a19 :: a20 :: z :: l := rfl
theorem e_get22 {α : Type} {a0 a1 a2 a3 a4 a5 a6 a7 a8 a9 a10 a11 a12 a13 a14 a15 a16 a17 a18 a19 a20 a21 a22 : α} {l : List α} : (a0 :: a1 :: a2 :: a3 :: a4 :: a5 :: a6 :: a7 :: a8 :: a9 :: a10 :: a11 :: a12 :: a13 :: a14 :: a15 :: a16 :: a17 :: a18 :: a19 :: a20 :: a21 :: a22 :: l)[22]? = some a22 := rfl
theorem e_set22 {α : Type} {a0 a1 a2 a3 a4 a5 a6 a7 a8 a9 a10 a11 a12 a13 a14 a15 a16 a17 a18 a19 a20 a21 a22 z : α} {l : List α} : (a0 :: a1 :: a2 :: a3 :: a4 :: a5 :: a6 :: a7 :: a8 :: a9 :: a10 :: a11 :: a12 :: a13 :: a14 :: a15 :: a16 :: a17 :: a18 :: a19 :: a20 :: a21 :: a22 :: l).set 22 z = a0 :: a1 :: a2 :: a3 :: a4 :: a5 :: a6 :: a7 :: a8 :: a9 :: a10 :: a11 :: a12 :: a13 :: a14 :: a15 :: a16 :: a17 :: a18 :: a19 :: a20 :: a21 :: z :: l := rfl
theorem e_get23 {α : Type} {a0 a1 a2 a3 a4 a5 a6 a7 a8 a9 a10 a11 a12 a13 a14 a15 a16 a17 a18 a19 a20 a21 a22 a23 : α} {l : List α} : (a0 :: a1 :: a2 :: a3 :: a4 :: a5 :: a6 :: a7 :: a8 :: a9 :: a10 :: a11 :: a12 :: a13 :: a14 :: a15 :: a16 :: a17 :: a18 :: a19 :: a20 :: a21 :: a22 :: a23 :: l)[23]? = some a23 := rfl
theorem e_set23 {α : Type} {a0 a1 a2 a3 a4 a5 a6 a7 a8 a9 a10 a11 a12 a13 a14 a15 a16 a17 a18 a19 a20 a21 a22 a23 z : α} {l : List α} : (a0 :: a1 :: a2 :: a3 :: a4 :: a5 :: a6 :: a7 :: a8 :: a9 :: a10 :: a11 :: a12 :: a13 :: a14 :: a15 :: a16 :: a17 :: a18 :: a19 :: a20 :: a21 :: a22 :: a23 :: l).set 23 z = a0 :: a1 :: a2 :: a3 :: a4 :: a5 :: a6 :: a7 :: a8 :: a9 :: a10 :: a11 :: a12 :: a13 :: a14 :: a15 :: a16 :: a17 :: a18 :: a19 :: a20 :: a21 :: a22 :: z :: l := rfl
theorem e_get24 {α : Type} {a0 a1 a2 a3 a4 a5 a6 a7 a8 a9 a10 a11 a12 a13 a14 a15 a16 a17 a18 a19 a20 a21 a22 a23 a24 : α} {l : List α} : (a0 :: a1 :: a2 :: a3 :: a4 :: a5 :: a6 :: a7 :: a8 :: a9 :: a10 :: a11 :: a12 :: a13 :: a14 :: a15 :: a16 :: a17 :: a18 :: a19 :: a20 :: a21 :: a22 :: a23 :: a24 :: l)[24]? = some a24 := rfl
theorem e_set24 {α : Type} {a0 a1 a2 a3 a4 a5 a6 a7 a8 a9 a10 a11 a12 a13 a14 a15 a16 a17 a18 a19 a20 a21 a22 a23 a24 z : α} {l : List α} : (a0 :: a1 :: a2 :: a3 :: a4 :: a5 :: a6 :: a7 :: a8 :: a9 :: a10 :: a11 :: a12 :: a13 :: a14 :: a15 :: a16 :: a17 :: a18 :: a19 :: a20 :: a21 :: a22 :: a23 :: a24 :: l).set 24 z = a0 :: a1 :: a2 :: a3 :: a4 :: a5 :: a6 :: a7 :: a8 :: a9 :: a10 :: a11 :: a12 :: a13 :: a14 :: a15 :: a16 :: a17 :: a18 :: a19 :: a20 :: a21 :: a22 :: a23 :: z :: l := rfl
theorem e_get25 {α : Type} {a0 a1 a2 a3 a4 a5 a6 a7 a8 a9 a10 a11 a12 a13 a14 a15 a16 a17 a18 a19 a20 a21 a22 a23 a24 a25 : α} {l : List α} : (a0 :: a1 :: a2 :: a3 :: a4 :: a5 :: a6 :: a7 :: a8 :: a9 :: a10 :: a11 :: a12 :: a13 :: a14 :: a15 :: a16 :: a17 :: a18 :: a19 :: a20 :: a21 :: a22 :: a23 :: a24 :: a25 :: l)[25]? = some a25 := rfl
theorem e_set25 {α : Type} {a0 a1 a2 a3 a4 a5 a6 a7 a8 a9 a10 a11 a12 a13 a14 a15 a16 a17 a18 a19 a20 a21 a22 a23 a24 a25 z : α} {l : List α} : (a0 :: a1 :: a2 :: a3 :: a4 :: a5 :: a6 :: a7 :: a8 :: a9 :: a10 :: a11 :: a12 :: a13 :: a14 :: a15 :: a16 :: a17 :: a18 :: a19 :: a20 :: a21 :: a22 :: a23 :: a24 :: a25 :: l).set 25 z = a0 :: a1 :: a2 :: a3 :: a4 :: a5 :: a6 :: a7 :: a8 :: a9 :: a10 :: a11 :: a12 :: a13 :: a14 :: a15 :: a16 :: a17 :: a18 :: a19 :: a20 :: a21 :: a22 :: a23 :: a24 :: z :: l := rfl
section
variable {x y : PD} {xs ys : List PD} {i j : Int} {l u : Option Int} {R : DV → Prop} {Pl : List PD → Prop} {a b : Str}
theorem e_zp : zpD [.d x, .d y] Pl = seqD (.d x) fun xs => seqD (.d y) fun ys => Pl (List.zipWith (fun a b => .tuple [a, b]) xs ys) := rfl
theorem e_slT : gSl (.d (.tuple xs)) l u R = R (.d (.tuple (cutL xs l u))) := rfl
theorem e_slL : gSl (.d (.list xs)) l u R = R (.d (.list (cutL xs l u))) := rfl
theorem e_max1 : bMax1 [.d x] R = ∃ ns, seqInts x = some ns ∧ ns ≠ [] ∧ ∀ m ∈ ns, (∀ y ∈ ns, y ≤ m) → R (.d (.int m)) := rfl
theorem e_min1 : bMin1 [.d x] R = ∃ ns, seqInts x = some ns ∧ ns ≠ [] ∧ ∀ m ∈ ns, (∀ y ∈ ns, m ≤ y) → R (.d (.int m)) := rfl
theorem e_addT : gAdd (.d (.tuple xs)) (.d (.tuple ys)) R = (xs.length + ys.length ≤ 100000 ∧ R (.d (.tuple (xs ++ ys)))) := rfl
theorem e_addL : gAdd (.d (.list xs)) (.d (.list ys)) R = (xs.length + ys.length ≤ 100000 ∧ R (.d (.list (xs ++ ys)))) := rfl
theorem e_addS : gAdd (.d (.str a)) (.d (.str b)) R = (a.length + b.length ≤ 100000 ∧ R (.d (.str (a ++ b)))) := rfl
theorem e_mulT : gMul (.d (.tuple xs)) (.d (.int i)) R = ((-100000 ≤ i ∧ i ≤ 100000) ∧ xs.length * i.toNat ≤ 100000 ∧ R (.d (.tuple (List.replicate i.toNat xs).flatten))) := rfl
theorem e_onIs : onI' (.d (.int i)) (fun z => R (.d (.int z))) = R (.d (.int i)) := rfl
theorem e_eqN : gEq (.d (.list xs)) (.d (.list [])) R = (Sh (.list xs) ∧ R (.d (.bool xs.isEmpty))) := by
  apply propext
  show (Sh _ ∧ Sh _ ∧ R (.d (.bool (PyData.eqv (.list xs) (.list []))))) ↔ _
  rw [eqv_nil]
  exact ⟨fun h => ⟨h.1, h.2.2⟩, fun h => ⟨h.1, rfl, h.2⟩⟩
theorem e_neN : gNe (.d (.list xs)) (.d (.list [])) R = (Sh (.list xs) ∧ R (.d (.bool (!xs.isEmpty)))) := by
  apply propext
  show (Sh _ ∧ Sh _ ∧ R (.d (.bool (!PyData.eqv (.list xs) (.list []))))) ↔ _
  rw [eqv_nil]
  exact ⟨fun h => ⟨h.1, h.2.2⟩, fun h => ⟨h.1, rfl, h.2⟩⟩
theorem e_eqNT : gEq (.d (.tuple xs)) (.d (.tuple [])) R = (Sh (.tuple xs) ∧ R (.d (.bool xs.isEmpty))) := by
  apply propext
  show (Sh _ ∧ Sh _ ∧ R (.d (.bool (PyData.eqv (.tuple xs) (.tuple []))))) ↔ _
  rw [eqv_nilT]
  exact ⟨fun h => ⟨h.1, h.2.2⟩, fun h => ⟨h.1, rfl, h.2⟩⟩
theorem e_neNT : gNe (.d (.tuple xs)) (.d (.tuple [])) R = (Sh (.tuple xs) ∧ R (.d (.bool (!xs.isEmpty)))) := by
  apply propext
  show (Sh _ ∧ Sh _ ∧ R (.d (.bool (!PyData.eqv (.tuple xs) (.tuple []))))) ↔ _
  rw [eqv_nilT]
  exact ⟨fun h => ⟨h.1, h.2.2⟩, fun h => ⟨h.1, rfl, h.2⟩⟩
theorem e_siL : seqInts (.list xs) = asInts xs := rfl
theorem e_siT : seqInts (.tuple xs) = asInts xs := rfl
end
section
variable {F : Fn} {gD : List DV → List DV → List DV} {ρ : List Sl} {R : DV → Prop} {E : EK}
theorem e_call0 : dCall F aNil ρ R E = F [] R E := rfl
theorem e_call1 {f0 : DE} : dCall F (aCons f0 aNil) ρ R E = f0 ρ (fun a0 => F [a0] R E) E := rfl
theorem e_callk1 {f0 : DE} : dCallK F gD aNil (aCons f0 aNil) ρ R E = f0 ρ (fun a0 => F (gD [] [a0]) R E) E := rfl
theorem e_call2 {f0 f1 : DE} : dCall F (aCons f0 (aCons f1 aNil)) ρ R E = f0 ρ (fun a0 => f1 ρ (fun a1 => F [a0, a1] R E) E) E := rfl
theorem e_callk2 {f0 f1 : DE} : dCallK F gD aNil (aCons f0 (aCons f1 aNil)) ρ R E = f0 ρ (fun a0 => f1 ρ (fun a1 => F (gD [] [a0, a1]) R E) E) E := rfl
theorem e_call3 {f0 f1 f2 : DE} : dCall F (aCons f0 (aCons f1 (aCons f2 aNil))) ρ R E = f0 ρ (fun a0 => f1 ρ (fun a1 => f2 ρ (fun a2 => F [a0, a1, a2] R E) E) E) E := rfl
theorem e_callk3 {f0 f1 f2 : DE} : dCallK F gD aNil (aCons f0 (aCons f1 (aCons f2 aNil))) ρ R E = f0 ρ (fun a0 => f1 ρ (fun a1 => f2 ρ (fun a2 => F (gD [] [a0, a1, a2]) R E) E) E) E := rfl
theorem e_call4 {f0 f1 f2 f3 : DE} : dCall F (aCons f0 (aCons f1 (aCons f2 (aCons f3 aNil)))) ρ R E = f0 ρ (fun a0 => f1 ρ (fun a1 => f2 ρ (fun a2 => f3 ρ (fun a3 => F [a0, a1, a2, a3] R E) E) E) E) E := rfl
theorem e_callk4 {f0 f1 f2 f3 : DE} : dCallK F gD aNil (aCons f0 (aCons f1 (aCons f2 (aCons f3 aNil)))) ρ R E = f0 ρ (fun a0 => f1 ρ (fun a1 => f2 ρ (fun a2 => f3 ρ (fun a3 => F (gD [] [a0, a1, a2, a3]) R E) E) E) E) E := rfl
theorem e_call5 {f0 f1 f2 f3 f4 : DE} : dCall F (aCons f0 (aCons f1 (aCons f2 (aCons f3 (aCons f4 aNil))))) ρ R E = f0 ρ (fun a0 => f1 ρ (fun a1 => f2 ρ (fun a2 => f3 ρ (fun a3 => f4 ρ (fun a4 => F [a0, a1, a2, a3, a4] R E) E) E) E) E) E := rfl
theorem e_callk5 {f0 f1 f2 f3 f4 : DE} : dCallK F gD aNil (aCons f0 (aCons f1 (aCons f2 (aCons f3 (aCons f4 aNil))))) ρ R E = f0 ρ (fun a0 => f1 ρ (fun a1 => f2 ρ (fun a2 => f3 ρ (fun a3 => f4 ρ (fun a4 => F (gD [] [a0, a1, a2, a3, a4]) R E) E) E) E) E) E := rfl
theorem e_call6 {f0 f1 f2 f3 f4 f5 : DE} : dCall F (aCons f0 (aCons f1 (aCons f2 (aCons f3 (aCons f4 (aCons f5 aNil)))))) ρ R E = f0 ρ (fun a0 => f1 ρ (fun a1 => f2 ρ (fun a2 => f3 ρ (fun a3 => f4 ρ (fun a4 => f5 ρ (fun a5 => F [a0, a1, a2, a3, a4, a5] R E) E) E) E) E) E) E := rfl
theorem e_callk6 {f0 f1 f2 f3 f4 f5 : DE} : dCallK F gD aNil (aCons f0 (aCons f1 (aCons f2 (aCons f3 (aCons f4 (aCons f5 aNil)))))) ρ R E = f0 ρ (fun a0 => f1 ρ (fun a1 => f2 ρ (fun a2 => f3 ρ (fun a3 => f4 ρ (fun a4 => f5 ρ (fun a5 => F (gD [] [a0, a1, a2, a3, a4, a5]) R E) E) E) E) E) E) E := rfl
theorem e_call7 {f0 f1 f2 f3 f4 f5 f6 : DE} : dCall F (aCons f0 (aCons f1 (aCons f2 (aCons f3 (aCons f4 (aCons f5 (aCons f6 aNil))))))) ρ R E = f0 ρ (fun a0 => f1 ρ (fun a1 => f2 ρ (fun a2 => f3 ρ (fun a3 => f4 ρ (fun a4 => f5 ρ (fun a5 => f6 ρ (fun a6 => F [a0, a1, a2, a3, a4, a5, a6] R E) E) E) E) E) E) E) E := rfl
theorem e_callk7 {f0 f1 f2 f3 f4 f5 f6 : DE} : dCallK F gD aNil (aCons f0 (aCons f1 (aCons f2 (aCons f3 (aCons f4 (aCons f5 (aCons f6 aNil))))))) ρ R E = f0 ρ (fun a0 => f1 ρ (fun a1 => f2 ρ (fun a2 => f3 ρ (fun a3 => f4 ρ (fun a4 => f5 ρ (fun a5 => f6 ρ (fun a6 => F (gD [] [a0, a1, a2, a3, a4, a5, a6]) R E) E) E) E) E) E) E) E := rfl
theorem e_call8 {f0 f1 f2 f3 f4 f5 f6 f7 : DE} : dCall F (aCons f0 (aCons f1 (aCons f2 (aCons f3 (aCons f4 (aCons f5 (aCons f6 (aCons f7 aNil)))))))) ρ R E = f0 ρ (fun a0 => f1 ρ (fun a1 => f2 ρ (fun a2 => f3 ρ (fun a3 => f4 ρ (fun a4 => f5 ρ (fun a5 => f6 ρ (fun a6 => f7 ρ (fun a7 => F [a0, a1, a2, a3, a4, a5, a6, a7] R E) E) E) E) E) E) E) E) E := rfl
theorem e_callk8 {f0 f1 f2 f3 f4 f5 f6 f7 : DE} : dCallK F gD aNil (aCons f0 (aCons f1 (aCons f2 (aCons f3 (aCons f4 (aCons f5 (aCons f6 (aCons f7 aNil)))))))) ρ R E = f0 ρ (fun a0 => f1 ρ (fun a1 => f2 ρ (fun a2 => f3 ρ (fun a3 => f4 ρ (fun a4 => f5 ρ (fun a5 => f6 ρ (fun a6 => f7 ρ (fun a7 => F (gD [] [a0, a1, a2, a3, a4, a5, a6, a7]) R E) E) E) E) E) E) E) E) E := rfl
theorem e_call9 {f0 f1 f2 f3 f4 f5 f6 f7 f8 : DE} : dCall F (aCons f0 (aCons f1 (aCons f2 (aCons f3 (aCons f4 (aCons f5 (aCons f6 (aCons f7 (aCons f8 aNil))))))))) ρ R E = f0 ρ (fun a0 => f1 ρ (fun a1 => f2 ρ (fun a2 => f3 ρ (fun a3 => f4 ρ (fun a4 => f5 ρ (fun a5 => f6 ρ (fun a6 => f7 ρ (fun a7 => f8 ρ (fun a8 => F [a0, a1, a2, a3, a4, a5, a6, a7, a8] R E) E) E) E) E) E) E) E) E) E := rfl
theorem e_callk9 {f0 f1 f2 f3 f4 f5 f6 f7 f8 : DE} : dCallK F gD aNil (aCons f0 (aCons f1 (aCons f2 (aCons f3 (aCons f4 (aCons f5 (aCons f6 (aCons f7 (aCons f8 aNil))))))))) ρ R E = f0 ρ (fun a0 => f1 ρ (fun a1 => f2 ρ (fun a2 => f3 ρ (fun a3 => f4 ρ (fun a4 => f5 ρ (fun a5 => f6 ρ (fun a6 => f7 ρ (fun a7 => f8 ρ (fun a8 => F (gD [] [a0, a1, a2, a3, a4, a5, a6, a7, a8]) R E) E) E) E) E) E) E) E) E) E := rfl
end
section
variable {nx : List Sl → Prop} {rt : List Sl → DV → Prop} {bk ct : List Sl → Prop} {ex : List Sl → EK}
theorem e_nx : DEnds.nx ⟨nx, rt, bk, ct, ex⟩ = nx := rfl
theorem e_rt : DEnds.rt ⟨nx, rt, bk, ct, ex⟩ = rt := rfl
theorem e_bk : DEnds.bk ⟨nx, rt, bk, ct, ex⟩ = bk := rfl
theorem e_ct : DEnds.ct ⟨nx, rt, bk, ct, ex⟩ = ct := rfl
theorem e_exc : DEnds.ex ⟨nx, rt, bk, ct, ex⟩ = ex := rfl
end
end Wb
/-! WbS: set(xs) of a list of ints. -/
namespace Wb
open PySem PySem.Spec PyProof.Rows L2
section
variable {P : Program} {w : World} {A : Around} {E : Value → Shared → Prop} {s : Shared}
theorem call_set_listI {l : Addr} {items : Array Value} (ns : List Int) {Q : Value → Shared → Prop} (hh : A.handled = none) (hl : s.heap.IsList l items) (hit : IntsAre items.toList ns) (hb : ns.length + 1 < scanBound)
    (h : ∀ (h' : Heap) (tk c : Nat), SetR w h' s.heap.objs.size (fun j => decide (j ∈ ns)) c → c ≤ ns.length → (∀ b o, s.heap.get? b = some o → h'.get? b = some o) → Q (.ref s.heap.objs.size) { s with heap := h', toks := tk }) :
    wpAny (model P w) A (call (.type "set") [.ref l]) Q E s := by
  have hisz : items.size = ns.length := by
    have q := IntsAre.length hit
    rw [Array.length_toList] at q
    exact q
  obtain ⟨c, tl, hmro⟩ := F.called_set.mro
  have hmade := F.called_set.made
  have hsub := F.called_set.sub
  refine wpAny_call (codeAny_of_tree ?_)
  show wpAny _ _ (callAny (.type "set") _) _ _ _
  refine wpAny_pure ⟨Code.quiet_builtin _ (by decide +kernel), codeAny_builtin F.entry_type_call ?_⟩
  rw [Around.under_plain (weight_type_call_type "set" [.ref l] []) rfl]
  have h1 := F.called_set.notType
  have h2 := F.called_set.canCreate
  have hct := F.typeCall_set_1 (.ref l)
  repeat (any_goals (first | assumption | wp_step))
  refine codeAny_mono (code_set_led1 (.ref l) (E := E) (Q₁ := fun obj s₁ => obj = .ref s.heap.objs.size ∧ s₁ = { s with heap := s.heap.push { cls := .type "set", dict := none, data := .set #[] 0 (.fresh 0 0 (!w.params.followText "set-order")) } }) ⟨rfl, rfl⟩) fun r s₁ hr => ?_
  cases r with
  | error e => exact hr
  | ok fl =>
    cases fl with
    | ret obj =>
      obtain ⟨rfl, rfl⟩ := hr
      have hS : (s.heap.push { cls := .type "set", dict := none, data := .set #[] 0 (.fresh 0 0 (!w.params.followText "set-order")) }).get? s.heap.objs.size = some { cls := .type "set", dict := none, data := .set #[] 0 (.fresh 0 0 (!w.params.followText "set-order")) } := Heap.get?_push_size _ rfl
      have hT : Shared.TypeIs { s with heap := s.heap.push { cls := .type "set", dict := none, data := .set #[] 0 (.fresh 0 0 (!w.params.followText "set-order")) } } (.ref s.heap.objs.size) "set" := ⟨_, hS, rfl⟩
      have hli := F.called_set.init.lookup
      have hbi := F.called_set.init.bind (.ref s.heap.objs.size)
      repeat (any_goals (first | assumption | wp_step))
      refine codeAny_mono (codeAny_call_builtin (R := wants (fun r s₂ => r = .none ∧ ∃ h' tk c, s₂ = { s with heap := h', toks := tk } ∧ SetR w h' s.heap.objs.size (fun j => decide (j ∈ ns)) c ∧ c ≤ ns.length ∧
          (∀ b o, s.heap.get? b = some o → h'.get? b = some o)) E) F.called_set.init.plain F.entry_set_init (check_set_init_1 hT ?_)) fun r₂ s₂ hr₂ => ?_
      · obtain ⟨⟨ocls, odict, odata, oslots⟩, hol, hcl, nl, hdl⟩ := hl
        simp only at hcl hdl
        subst hcl hdl
        have hol' : (s.heap.push { cls := .type "set", dict := none, data := .set #[] 0 (.fresh 0 0 (!w.params.followText "set-order")) }).get? l = some { cls := .type "list", dict := odict, data := .seq items nl, slots := oslots } := Heap.get?_push_of_some _ hol
        have hsls := F.sub_list_set
        have hslf := F.sub_list_frozenset
        have hne : (Value.type "list" == Value.type "dict") = false := by decide
        have hl1 : (s.heap.push { cls := .type "set", dict := none, data := .set #[] 0 (.fresh 0 0 (!w.params.followText "set-order")) }).IsList l items := ⟨_, hol', rfl, nl, rfl⟩
        unfold Builtin.«set.__init__» noKeywords Builtin.Frozenset.updateFrom
        generalize hPI : pyIter = PI
        wp_walk
        subst hPI
        refine wpAny_pyIter_list hl1 ?_
        refine wpAny_bind (wpAny_runValue ?_)
        have hlS : l < s.heap.objs.size := Heap.lt_size hol
        have hh3 : A.in1.in1.in1.handled = none := by simp [hh]
        have hz : (s.heap.push { cls := .type "set", dict := none, data := .set #[] 0 (.fresh 0 0 (!w.params.followText "set-order")) }).objs.size = s.heap.objs.size + 1 := Heap.size_push ..
        have hneI : l ≠ (s.heap.push { cls := .type "set", dict := none, data := .set #[] 0 (.fresh 0 0 (!w.params.followText "set-order")) }).objs.size := by
          rw [Heap.size_push]; exact Nat.ne_of_lt (Nat.lt_succ_of_lt hlS)
        have hSf : s.heap.objs.size ∉ [(s.heap.push { cls := .type "set", dict := none, data := .set #[] 0 (.fresh 0 0 (!w.params.followText "set-order")) }).objs.size, l] := by
          rw [Heap.size_push]
          simp only [List.mem_cons, List.not_mem_nil, or_false, not_or]
          exact ⟨Nat.ne_of_lt (Nat.lt_succ_self _), Nat.ne_of_gt hlS⟩
        have hval : ∀ (i : Nat) (v : Value), items[i]? = some v → ∃ k t, ns[i]? = some k ∧ v = .int k t := fun i v hv => by
          have hi : i < ns.length := by rw [← hisz]; exact (Array.getElem?_eq_some_iff.mp hv).1
          obtain ⟨t, e⟩ := PyProof.Rows.IntsAre.int_at hit i v (by rw [Array.getElem?_toList]; exact hv)
          refine ⟨ns[i], t, List.getElem?_eq_getElem hi, ?_⟩
          rw [e, List.getD_eq_getElem?_getD, List.getElem?_eq_getElem hi] <;> rfl
        refine set_update_ints ((Walks.list hh3 _ l hneI items).toS) s.heap.objs.size hSf ns hisz hb hval (items.size - 0) 0 _ (by omega) (Nat.zero_le _) ⟨⟨_, Heap.get?_push_size _ rfl, rfl, rfl⟩, (hl1.push _)⟩ ⟨0, Nat.le_refl 0, ?_⟩ ?_
        · refine setR_new_at ?_
          exact Heap.get?_push_of_some _ hS
        · rintro ⟨h', g2, d', tk', os'⟩ c' hm hc' hS'
          have eg : g2 = s.gens := hm.gens
          have ed : d' = s.drawn := hm.drawn
          have eo : os' = s.os := hm.os
          subst eg ed eo
          show wpAny _ _ _ _ _ _
          refine wpAny_pure ?_
          show wpAny _ _ (ret Value.none) _ _ _
          rw [hisz] at hc'
          refine wpAny_pure ⟨rfl, h', tk', c', rfl, hS', hc', fun b o e => ?_⟩
          have hb0 : b < s.heap.objs.size := Heap.lt_size e
          have hb1 : b ≠ s.heap.objs.size := Nat.ne_of_lt hb0
          have hb2 : b ≠ (s.heap.push { cls := .type "set", dict := none, data := .set #[] 0 (.fresh 0 0 (!w.params.followText "set-order")) }).objs.size := by
            rw [Heap.size_push]; exact Nat.ne_of_lt (Nat.lt_succ_of_lt hb0)
          refine hm.heap b o ?_ (Heap.get?_push_of_some _ (Heap.get?_push_of_some _ e))
          simp only [List.mem_cons, List.not_mem_nil, or_false, not_or]
          exact ⟨hb1, hb2⟩
      · cases r₂ with
        | error e => exact hr₂
        | ok fl₂ =>
          cases fl₂ with
          | ret r =>
            obtain ⟨rfl, h', tk, c', rfl, hS', hc', hk'⟩ := hr₂
            repeat (any_goals (first | assumption | wp_step))
            exact h _ _ _ hS' hc' hk'
          | _ => exact hr₂.elim
    | _ => exact hr.elim
end
end Wb
/-! Wb16: sorted(set(..)), lists times a number as one's own, index. -/
namespace Wb
open PySem PySem.Spec PyProof.Rows L2
section
variable {X : Cx} {n : En} {W : WX} {κ κ' κ2 κi κt κe κf k k' : Nat} {e a b c elt tg iter : Expr} {es ifs : List Expr} {pos : Pos} {f h g : DE} {fa fk : DA} {t u : DT} {fi fn fm : DN}
def rSetL (K : Frag) (w : World) : List V → Hp → VK → Prop := fun vs H Q => ∃ (l : Addr) (ns : List Int), vs = [V.ref l] ∧ SqL K H l (ns.map V.int) ∧ ns.length < 64 ∧
  ∀ (p : Addr) (c : Nat), H p = none → c ≤ ns.length → Q (.ref p) (upd H p (SetO w p (fun j => decide (j ∈ ns)) c))
theorem cr_setL (hc : X.calm = true) : CallR X (.type "set") (rSetL X.K X.w) := by
  intro pins s σ H vs us Q I r h
  obtain ⟨l, ns, rfl, hq, hl, q⟩ := h
  rw [Vals.ref1 r]
  obtain ⟨its, rv, pl, hz⟩ := I.list hq
  refine call_set_listI ns (I.ok.hd hc) pl.isList (by simpa using rv.ints) (by unfold scanBound; omega) fun h' tk c hS hcl hk => ?_
  exact ⟨.ref _, upd H s.heap.objs.size (SetO X.w s.heap.objs.size (fun j => decide (j ∈ ns)) c), I.laid (t' := tk) (fun b o e => hk b o e) (Nat.le_refl _) (setO_new hS), rfl, q _ c (I.hok.fresh (Nat.le_refl _)) hcl⟩
theorem b_sorted : bootBuiltins "sorted" = some (.builtin "sorted") := by first | rfl | kernel_rfl
theorem b_set : bootBuiltins "set" = some (.type "set") := by first | rfl | kernel_rfl
def listInts : DV → Option (List Int)
  | .d (.list xs) => asInts xs
  | _ => none
/-- sorted(set(xs)) -/
def nSs (f : DE) : DN := fun ρ R E => f ρ (fun x => ∃ ns, listInts x = some ns ∧ ns.length < 64 ∧ ∀ ms : List Int, ms.Pairwise (· < ·) → (∀ k, k ∈ ms ↔ k ∈ ns) → R (ms.map .int)) E
/-- sorted(xs) -/
def nSd (f : DE) : DN := fun ρ R E => f ρ (fun x => ∃ ns, listInts x = some ns ∧ ns.length < 64 ∧ ∀ ms : List Int, ms.Perm ns → ms.Pairwise (· ≤ ·) → R (ms.map .int)) E
theorem listInts_of {K : Frag} {S H : Hp} {v : V} {x : DV} {ns : List Int} (sm : Same S H) (d : RdOk K n S H v x) (h : listInts x = some ns) : ∃ a, v = .ref a ∧ SqL K H a (ns.map V.int) := by
  match x, h with
  | .d (.list xs), h =>
    obtain ⟨p, vs, rfl, hp, hd⟩ := d.items sm
    rw [ints_of hd h] at hp
    exact ⟨p, rfl, SqL.of hp⟩
theorem jn_sortset {p p2 q : Pos} (C : Cok X n W k) (hm : X.mg "sorted" = none) (hm2 : X.mg "set" = none) (ha : JO X n W κ a f) (hg : Gl X "sorted" := by rfl) (hg2 : Gl X "set" := by rfl)
    (ha1 : starEach [a] X.env = (false, eval a X.env) :: starEach [] X.env := by rfl) (hp1 : (backTo q (starEach [] X.env)).any (·.1) = false := by rfl)
    (ha2 : starEach [Expr.Call (.Name "set" p2) [a] [] q] X.env = (false, eval (Expr.Call (.Name "set" p2) [a] [] q) X.env) :: starEach [] X.env := by rfl) (hp2 : (backTo pos (starEach [] X.env)).any (·.1) = false := by rfl) :
    JN X n W κ (.Call (.Name "sorted" p) [.Call (.Name "set" p2) [a] [] q] [] pos) (nSs f) := by
  refine PE.to (pe_callB (cr_sortedSet C.calm) hg hm b_sorted (pa_cons (pe_callTy (cr_setL C.calm) hg2 hm2 b_set (pa_cons ha pa_nil ha1) (by decide) (by decide) ha1 hp1) pa_nil ha2) (by decide) (by decide) ha2 hp2) fun σ H Q ⟨m, S, ρ, R, Er, st, hf, kR, kE⟩ => ⟨m, S, ρ, _, Er, st, hf, fun x v S1 H1 hx st1 p1 d1 => ?_, kE⟩
  obtain ⟨ns, e, hl, hr⟩ := hx
  obtain ⟨l, rfl, hs⟩ := listInts_of st1.wd.sm d1 e
  refine ⟨l, ns, rfl, hs, hl, fun p c hp hc => ?_⟩
  have g1 := Grow.beside (o := SetO X.w p (fun j => decide (j ∈ ns)) c) st1.wd.sm hp
  refine ⟨p, _, c, rfl, upd_same, by omega, fun ms q h1 h2 _ hq => ?_⟩
  have g2 := Grow.beside (o := .lst (ms.map V.int)) g1.sm hq
  have hq0 : H q = none := by
    cases z : H q with
    | none => rfl
    | some o => exact absurd hq (g1.po.al q (p1.al q (by rw [z]; exact Option.some_ne_none _)))
  exact kR _ q _ _ _ (hr ms h1 fun k => by rw [h2 k]; simp) ((st1.grow g1).grow g2) ((p1.trans g1.po.wk).trans g2.po.wk) hq0 (g1.sm.free hq) upd_same (DqAll.ints ms)
theorem jn_sorted {p : Pos} (C : Cok X n W k) (hm : X.mg "sorted" = none) (ha : JO X n W κ a f) (hg : Gl X "sorted" := by rfl)
    (ha1 : starEach [a] X.env = (false, eval a X.env) :: starEach [] X.env := by rfl) (hp1 : (backTo pos (starEach [] X.env)).any (·.1) = false := by rfl) :
    JN X n W κ (.Call (.Name "sorted" p) [a] [] pos) (nSd f) := by
  refine PE.to (pe_callB cr_sorted hg hm b_sorted (pa_cons ha pa_nil ha1) (by decide) (by decide) ha1 hp1) fun σ H Q ⟨m, S, ρ, R, Er, st, hf, kR, kE⟩ => ⟨m, S, ρ, _, Er, st, hf, fun x v S1 H1 hx st1 p1 d1 => ?_, kE⟩
  obtain ⟨ns, e, hl, hr⟩ := hx
  obtain ⟨l, rfl, hs⟩ := listInts_of st1.wd.sm d1 e
  refine ⟨l, ns, rfl, hs, hl, fun ms q h1 h2 hq => ?_⟩
  have g2 := Grow.beside (o := .lst (ms.map V.int)) st1.wd.sm hq
  have hq0 : H q = none := by
    cases z : H q with
    | none => rfl
    | some o => exact absurd hq (p1.al q (by rw [z]; exact Option.some_ne_none _))
  exact kR _ q _ _ _ (hr ms h1 h2) (st1.grow g2) (p1.trans g2.po.wk) hq0 (st1.wd.sm.free hq) upd_same (DqAll.ints ms)
/-- xs * k, as one's own -/
def nRep (f h : DE) : DN := fun ρ R E => f ρ (fun x => h ρ (fun y => match x, y with
  | .d (.list xs), .d (.int k) => k ≤ 100000 ∧ -100000 ≤ k ∧ xs.length * k.toNat ≤ 100000 ∧ R (List.replicate k.toNat xs).flatten
  | _, _ => False) E) E
theorem jn_rep (ha : JO X n W κ a f) (hb : JO X n W κ' b h) : JN X n W (κ + κ') (.BinOp a .Mult b pos) (nRep f h) := by
  refine PE.to (pe_op op_rep ha hb) fun σ H Q ⟨m, S, ρ, R, Er, st, hf, kR, kE⟩ => ⟨m + κ', S, ρ, _, Er, st_split st, hf, fun x v S1 H1 hx st1 p1 d1 => ?_, fun c x cls dx S' H' e s' er => kE c x cls dx S' H' e (st_down s') er⟩
  refine ⟨m, S1, ρ, _, Er, st1, hx, fun y u S2 H2 hy st2 p2 d2 => ?_, ke_af p1.sS kE⟩
  match x, y, hy with
  | .d (.list xs), .d (.int k), ⟨h1, h0, hl, hr⟩ =>
    obtain ⟨p, vs, rfl, hp, hd⟩ := (d1.post p2).items st2.wd.sm
    have e := d2.int
    subst e
    refine ⟨p, k, vs, rfl, rfl, hp, by omega, by omega, line5 (by rw [hd.len]; exact hl), fun q hq => ?_⟩
    have g := Grow.beside (o := .lst (List.replicate k.toNat vs).flatten) st2.wd.sm hq
    have po := p1.trans p2
    have hq0 : H q = none := by
      cases z : H q with
      | none => rfl
      | some o => exact absurd hq (po.al q (by rw [z]; exact Option.some_ne_none _))
    exact kR _ q _ _ _ hr (st2.grow g) (po.trans g.po.wk) hq0 (st2.wd.sm.free hq) upd_same (repl_dq hd _)
end
end Wb
/-! Wb17: lemmas for walking by rule. -/
namespace Wb
open PySem PySem.Spec PyProof.Rows L2
theorem e_mapA {α β : Type} {f : α → β} {a b : List α} : a.map f ++ b.map f = (a ++ b).map f := List.map_append.symm
theorem e_mapS {α β : Type} {f : α → β} {a : List α} {b : α} : a.map f ++ [f b] = (a ++ [b]).map f := by rw [List.map_append]; rfl
theorem e_liI {l : List Int} : listInts (.d (.list (l.map .int))) = some l := asInts_map l
theorem e_liN : listInts (.d (.list [])) = some [] := rfl
theorem a_push {b : Bool} {y : PD} {P : Option PD → Prop} (h : P (if b = true then some y else none)) : if b = true then P (some y) else P none := by
  cases b <;> exact h
theorem a_push' {b : Bool} {y : PD} {P : Option PD → Prop} (h : P (if (!b) = true then some y else none)) : if b = true then P none else P (some y) := by
  cases b <;> exact h
section
variable {α : Type} {gd : DG} {t : DT} {f : DE} {ρ : List Sl} {R : List PD → Prop}
theorem lcD_testI (enc : α → PD) (p : α → Bool) (h : α → Int) {l : List α} (hb : ∀ x ∈ l, ∀ P : Option PD → Prop, P (if p x = true then some (.int (h x)) else none) → gd (enc x) ρ fun ρ1 => t ρ1 (fun b => if b = true then f ρ1 (fun y => onD y fun d => P (some d)) noE else P none) noE)
    (hR : R (((l.filter p).map h).map .int)) : lcD gd t f ρ (l.map enc) R :=
  lcD_test enc p (fun x => .int (h x)) hb (by rw [List.map_map] at hR; exact hR)
theorem lcD_allI (enc : α → PD) (h : α → Int) {l : List α} (hb : ∀ x ∈ l, ∀ P : PD → Prop, P (.int (h x)) → gd (enc x) ρ fun ρ1 => f ρ1 (fun y => onD y P) noE)
    (hR : R ((l.map h).map .int)) : lcD gd tTrue f ρ (l.map enc) R :=
  lcD_all enc (fun x => .int (h x)) hb (by rw [List.map_map] at hR; exact hR)
theorem lcD_allB (enc : α → PD) (h : α → Bool) {l : List α} (hb : ∀ x ∈ l, ∀ P : PD → Prop, P (.bool (h x)) → gd (enc x) ρ fun ρ1 => f ρ1 (fun y => onD y P) noE)
    (hR : R ((l.map h).map .bool)) : lcD gd tTrue f ρ (l.map enc) R :=
  lcD_all enc (fun x => .bool (h x)) hb (by rw [List.map_map] at hR; exact hR)
end
/-- an entry of a list told by a map -/
theorem at_map {α : Type} [Inhabited α] {enc : α → PD} {l : List α} {i : Int} {R : PD → Prop} (h0 : 0 ≤ i) (h1 : i < l.length) (h : R (enc (l.getD i.toNat default))) : ∃ y, atI (l.map enc) i = some y ∧ R y := by
  refine ⟨_, atI_map' enc (by rw [atI_get0 h0 h1]; exact List.getElem?_eq_getElem (by omega)), ?_⟩
  have : l.getD i.toNat default = l[i.toNat]'(by omega) := by
    rw [List.getD_eq_getElem?_getD, List.getElem?_eq_getElem (by omega)]; rfl
  rw [this] at h
  exact h
/-- a loop that folds: mk lays a state and what stands in the slots of no account -/
theorem loopD_st {α σ J : Type} {gd : DG} {b : DS} {D : DEnds} (enc : α → PD) (mk : σ → J → List Sl) (f : σ → α → σ) (I : List α → σ → Prop)
    (hs : ∀ x l s j (P : List Sl → Prop), I (x :: l) s → (∀ j, P (mk (f s x) j)) → gd (enc x) (mk s j) fun ρ => b { D with nx := P, ct := P, bk := D.nx } ρ)
    (hi : ∀ x l s, I (x :: l) s → I l (f s x)) : ∀ (l : List α) (s : σ) (j : J), I l s → (I [] (l.foldl f s) → ∀ j, D.nx (mk (l.foldl f s) j)) → loopD gd b D (l.map enc) (mk s j)
  | [], s, j, hI, h => h hI j
  | x :: l, s, j, hI, h => by
    rw [List.map_cons]
    unfold loopD
    exact hs x l s j _ hI fun j => loopD_st enc mk f I hs hi l (f s x) j (hi x l s hI) h
/-- a loop over a list of no account -/
theorem loopD_n {σ J : Type} {gd : DG} {b : DS} {D : DEnds} (mk : σ → J → List Sl) (f : σ → σ) (I : Nat → σ → Prop)
    (hs : ∀ x k s j (P : List Sl → Prop), I (k + 1) s → (∀ j, P (mk (f s) j)) → gd x (mk s j) fun ρ => b { D with nx := P, ct := P, bk := D.nx } ρ)
    (hi : ∀ k s, I (k + 1) s → I k (f s)) : ∀ (l : List PD) (s : σ) (j : J), I l.length s → (I 0 (Nat.repeat f l.length s) → ∀ j, D.nx (mk (Nat.repeat f l.length s) j)) → loopD gd b D l (mk s j)
  | [], s, j, hI, h => h hI j
  | x :: l, s, j, hI, h => by
    unfold loopD
    have e : ∀ (n : Nat) (s : σ), Nat.repeat f (n + 1) s = Nat.repeat f n (f s) := fun n => by
      induction n with
      | zero => intro s; rfl
      | succ n ih => intro s; show f (Nat.repeat f (n + 1) s) = f (Nat.repeat f n (f s)); rw [ih]
    refine hs x l.length s j _ hI fun j => loopD_n mk f I hs hi l (f s) j (hi _ s hI) ?_
    rw [List.length_cons, e] at h
    exact h
theorem t_int_int (i : Int) : subTy (tyD (.int i)) "int" = true := by first | rfl | decide | (simp [subTy, tyD])
theorem t_int_bool (i : Int) : subTy (tyD (.int i)) "bool" = false := by first | rfl | decide | (simp [subTy, tyD])
theorem t_int_tuple (i : Int) : subTy (tyD (.int i)) "tuple" = false := by first | rfl | decide | (simp [subTy, tyD])
theorem t_int_list (i : Int) : subTy (tyD (.int i)) "list" = false := by first | rfl | decide | (simp [subTy, tyD])
theorem t_int_str (i : Int) : subTy (tyD (.int i)) "str" = false := by first | rfl | decide | (simp [subTy, tyD])
theorem t_bool_int (b : Bool) : subTy (tyD (.bool b)) "int" = true := by first | rfl | decide | (simp [subTy, tyD])
theorem t_bool_bool (b : Bool) : subTy (tyD (.bool b)) "bool" = true := by first | rfl | decide | (simp [subTy, tyD])
theorem t_bool_tuple (b : Bool) : subTy (tyD (.bool b)) "tuple" = false := by first | rfl | decide | (simp [subTy, tyD])
theorem t_bool_list (b : Bool) : subTy (tyD (.bool b)) "list" = false := by first | rfl | decide | (simp [subTy, tyD])
theorem t_bool_str (b : Bool) : subTy (tyD (.bool b)) "str" = false := by first | rfl | decide | (simp [subTy, tyD])
theorem t_none_int  : subTy (tyD (.none)) "int" = false := by first | rfl | decide | (simp [subTy, tyD])
theorem t_none_bool  : subTy (tyD (.none)) "bool" = false := by first | rfl | decide | (simp [subTy, tyD])
theorem t_none_tuple  : subTy (tyD (.none)) "tuple" = false := by first | rfl | decide | (simp [subTy, tyD])
theorem t_none_list  : subTy (tyD (.none)) "list" = false := by first | rfl | decide | (simp [subTy, tyD])
theorem t_none_str  : subTy (tyD (.none)) "str" = false := by first | rfl | decide | (simp [subTy, tyD])
theorem t_str_int (s : Str) : subTy (tyD (.str s)) "int" = false := by first | rfl | decide | (simp [subTy, tyD])
theorem t_str_bool (s : Str) : subTy (tyD (.str s)) "bool" = false := by first | rfl | decide | (simp [subTy, tyD])
theorem t_str_tuple (s : Str) : subTy (tyD (.str s)) "tuple" = false := by first | rfl | decide | (simp [subTy, tyD])
theorem t_str_list (s : Str) : subTy (tyD (.str s)) "list" = false := by first | rfl | decide | (simp [subTy, tyD])
theorem t_str_str (s : Str) : subTy (tyD (.str s)) "str" = true := by first | rfl | decide | (simp [subTy, tyD])
theorem t_list_int (l : List PD) : subTy (tyD (.list l)) "int" = false := by first | rfl | decide | (simp [subTy, tyD])
theorem t_list_bool (l : List PD) : subTy (tyD (.list l)) "bool" = false := by first | rfl | decide | (simp [subTy, tyD])
theorem t_list_tuple (l : List PD) : subTy (tyD (.list l)) "tuple" = false := by first | rfl | decide | (simp [subTy, tyD])
theorem t_list_list (l : List PD) : subTy (tyD (.list l)) "list" = true := by first | rfl | decide | (simp [subTy, tyD])
theorem t_list_str (l : List PD) : subTy (tyD (.list l)) "str" = false := by first | rfl | decide | (simp [subTy, tyD])
theorem t_tuple_int (l : List PD) : subTy (tyD (.tuple l)) "int" = false := by first | rfl | decide | (simp [subTy, tyD])
theorem t_tuple_bool (l : List PD) : subTy (tyD (.tuple l)) "bool" = false := by first | rfl | decide | (simp [subTy, tyD])
theorem t_tuple_tuple (l : List PD) : subTy (tyD (.tuple l)) "tuple" = true := by first | rfl | decide | (simp [subTy, tyD])
theorem t_tuple_list (l : List PD) : subTy (tyD (.tuple l)) "list" = false := by first | rfl | decide | (simp [subTy, tyD])
theorem t_tuple_str (l : List PD) : subTy (tyD (.tuple l)) "str" = false := by first | rfl | decide | (simp [subTy, tyD])
theorem e_ifN {b : Bool} {A B : Prop} : (if (!b) = true then A else B) = (if b = true then B else A) := by cases b <;> rfl
theorem e_ifA {b c : Bool} {R : DV → Prop} : (if b = true then R (.d (.bool c)) else R (.d (.bool false))) = R (.d (.bool (b && c))) := by cases b <;> rfl
theorem e_ifO {b c : Bool} {R : DV → Prop} : (if b = true then R (.d (.bool true)) else R (.d (.bool c))) = R (.d (.bool (b || c))) := by cases b <;> rfl
theorem e_lcNil {gd : DG} {t : DT} {f : DE} {ρ : List Sl} {R : List PD → Prop} : lcD gd t f ρ [] R = R [] := rfl
theorem e_lcC {gd : DG} {f : DE} {ρ : List Sl} {x : PD} {xs : List PD} {R : List PD → Prop} : lcD gd tTrue f ρ (x :: xs) R = gd x ρ fun ρ1 => f ρ1 (fun y => onD y fun d => lcD gd tTrue f ρ xs fun ds => R (d :: ds)) noE := by
  conv => lhs; unfold lcD
  simp only [tTrue, if_true]
theorem e_asB1 {a0 : Bool} : asBools [.bool a0] = some [a0] := rfl
theorem e_asI1 {a0 : Int} : asInts [.int a0] = some [a0] := rfl
theorem e_asB2 {a0 a1 : Bool} : asBools [.bool a0, .bool a1] = some [a0, a1] := rfl
theorem e_asI2 {a0 a1 : Int} : asInts [.int a0, .int a1] = some [a0, a1] := rfl
theorem e_asB3 {a0 a1 a2 : Bool} : asBools [.bool a0, .bool a1, .bool a2] = some [a0, a1, a2] := rfl
theorem e_asI3 {a0 a1 a2 : Int} : asInts [.int a0, .int a1, .int a2] = some [a0, a1, a2] := rfl
theorem e_asB4 {a0 a1 a2 a3 : Bool} : asBools [.bool a0, .bool a1, .bool a2, .bool a3] = some [a0, a1, a2, a3] := rfl
theorem e_asI4 {a0 a1 a2 a3 : Int} : asInts [.int a0, .int a1, .int a2, .int a3] = some [a0, a1, a2, a3] := rfl
theorem e_asB5 {a0 a1 a2 a3 a4 : Bool} : asBools [.bool a0, .bool a1, .bool a2, .bool a3, .bool a4] = some [a0, a1, a2, a3, a4] := rfl
theorem e_asI5 {a0 a1 a2 a3 a4 : Int} : asInts [.int a0, .int a1, .int a2, .int a3, .int a4] = some [a0, a1, a2, a3, a4] := rfl
theorem e_asB6 {a0 a1 a2 a3 a4 a5 : Bool} : asBools [.bool a0, .bool a1, .bool a2, .bool a3, .bool a4, .bool a5] = some [a0, a1, a2, a3, a4, a5] := rfl
theorem e_asI6 {a0 a1 a2 a3 a4 a5 : Int} : asInts [.int a0, .int a1, .int a2, .int a3, .int a4, .int a5] = some [a0, a1, a2, a3, a4, a5] := rfl
/-- a loop that looks at each item and answers False at the first one that fails -/
theorem loopD_chk {α J : Type} {gd : DG} {b : DS} {D : DEnds} (enc : α → PD) (mk : J → List Sl) (p : α → Bool) : ∀ {l : List α}, (∀ x ∈ l, ∀ j (P : List Sl → Prop), (p x = true → ∀ j, P (mk j)) → (p x = false → ∀ ρ, D.rt ρ (.d (.bool false))) → gd (enc x) (mk j) fun ρ => b { D with nx := P, ct := P, bk := D.nx } ρ) →
    ∀ (j : J), (l.all p = true → ∀ j, D.nx (mk j)) → (l.all p = false → ∀ ρ, D.rt ρ (.d (.bool false))) → loopD gd b D (l.map enc) (mk j)
  | [], _, j, h, _ => h rfl j
  | x :: l, hb, j, h, h2 => by
    rw [List.map_cons]
    unfold loopD
    exact hb x (by simp) j _ (fun q j => loopD_chk enc mk p (fun y hy => hb y (by simp [hy])) j (fun r => h (by rw [List.all_cons, q, r]; rfl)) fun r => h2 (by rw [List.all_cons, q, r]; rfl)) fun q => h2 (by rw [List.all_cons, q]; rfl)
theorem e_ifAP {b c : Bool} {P : PD → Prop} : (if b = true then P (.bool c) else P (.bool false)) = P (.bool (b && c)) := by cases b <;> rfl
theorem e_ifOP {b c : Bool} {P : PD → Prop} : (if b = true then P (.bool true) else P (.bool c)) = P (.bool (b || c)) := by cases b <;> rfl
/-- a loop that ends at the first item that has what is looked for -/
theorem loopD_find {α J : Type} {gd : DG} {b : DS} {D : DEnds} (enc : α → PD) (mk : J → List Sl) (p : α → Bool) (B : α → Prop) : ∀ {l : List α}, (∀ x ∈ l, ∀ j (P : List Sl → Prop), (p x = false → ∀ j, P (mk j)) → (p x = true → B x) → gd (enc x) (mk j) fun ρ => b { D with nx := P, ct := P, bk := D.nx } ρ) →
    ∀ (j : J), (l.find? p = none → ∀ j, D.nx (mk j)) → (∀ c, l.find? p = some c → B c) → loopD gd b D (l.map enc) (mk j)
  | [], _, j, h, _ => h rfl j
  | x :: l, hb, j, h, h2 => by
    rw [List.map_cons]
    unfold loopD
    exact hb x (by simp) j _ (fun q j => loopD_find enc mk p B (fun y hy => hb y (by simp [hy])) j (fun r => h (by rw [List.find?_cons, q]; exact r)) fun c r => h2 c (by rw [List.find?_cons, q]; exact r)) fun q => h2 x (by rw [List.find?_cons, q])
theorem e_anyM {α : Type} {p : α → Bool} {l : List α} : (l.map p).any id = l.any p := by rw [List.any_map]; rfl
theorem e_allM {α : Type} {p : α → Bool} {l : List α} : (l.map p).all id = l.all p := by rw [List.all_map]; rfl
theorem e_cutM {α β : Type} {f : α → β} {l : List α} {a b : Option Int} : cutL (l.map f) a b = (cutL l a b).map f := by
  unfold cutL
  rw [List.length_map, List.map_take, List.map_drop]
theorem e_flatM {α β : Type} {f : α → β} {l : List α} {k : Nat} : (List.replicate k (l.map f)).flatten = ((List.replicate k l).flatten).map f := by
  rw [List.map_flatten, List.map_replicate]
theorem cutL_len {α : Type} {l : List α} {a b : Option Int} : (cutL l a b).length ≤ l.length := by
  unfold cutL
  rw [List.length_take, List.length_drop]
  omega
theorem flat_len {α : Type} {l : List α} {k : Nat} : (List.replicate k l).flatten.length = k * l.length := by simp
end Wb
/-! Wb18: the words' readings, head first (printed by wip/mk18.py). -/
namespace Wb
open PySem PySem.Spec PyProof.Rows L2
def setS (i : Nat) (s : Sl) (ρ : List Sl) (k : List Sl → Prop) : Prop := k (ρ.set i s)
def rdV (i : Nat) (ρ : List Sl) (R : DV → Prop) : Prop := slV ρ[i]? R
def rdOw (i : Nat) (ρ : List Sl) (R : DV → Prop) : Prop := slO ρ[i]? R
def rdW (i : Nat) (ρ : List Sl) (R : List PD → Prop) : Prop := slOw ρ[i]? R
section
variable {a b : DS} {f g h kk : DE} {fa fk : DA} {fn fm : DN} {fx : DX} {t u : DT} {gd : DG} {gs : DGs} {pl pu : DP} {D : DEnds} {ρ : List Sl} {R : DV → Prop} {Rb : Bool → Prop} {Ra : List DV → Prop} {Rl : List PD → Prop} {Rs : List Sl → Prop} {Rp : Option Int → Prop} {E : EK} {i j l L c : Nat} {own : List Nat} {x : PD} {xs : List PD}
  {o1 : DV → (DV → Prop) → Prop} {o2 o3 : DV → DV → (DV → Prop) → Prop} {ob : List DV → (DV → Prop) → Prop} {og : List DV → (List PD → Prop) → Prop} {F : Fn} {gD : List DV → List DV → List DV} {nx : List Sl → Prop}
theorem p_gNext : (gNext D ρ) = (D.nx ρ) := rfl
theorem p_gBrk : (gBrk D ρ) = (D.bk ρ) := rfl
theorem p_gCnt : (gCnt D ρ) = (D.ct ρ) := rfl
theorem p_gSeq : (gSeq a b D ρ) = (a ⟨b D, D.rt, D.bk, D.ct, D.ex⟩ ρ) := rfl
theorem p_gSet : (gSet i f D ρ) = (f ρ (fun x => setS i (.v x) ρ D.nx) (D.ex ρ)) := rfl
theorem p_gSetN : (gSetN i fn D ρ) = (fn ρ (fun xs => setS i (.own xs) ρ D.nx) (D.ex ρ)) := rfl
theorem p_gDrop : (gDrop f D ρ) = (f ρ (fun _ => D.nx ρ) (D.ex ρ)) := rfl
theorem p_gRet : (gRet f D ρ) = (f ρ (D.rt ρ) (D.ex ρ)) := rfl
theorem p_gIfS : (gIfS t a b D ρ) = (t ρ (fun c => if c = true then a D ρ else b D ρ) (D.ex ρ)) := rfl
theorem p_gRaise : (gRaise c f D ρ) = (f ρ (fun x => onD x fun d => D.ex ρ c d) (D.ex ρ)) := rfl
theorem p_gAsg : (gAsg f gd D ρ) = (f ρ (fun x => onD x fun d => gd d ρ D.nx) (D.ex ρ)) := rfl
def parS (i j : Nat) (ρ : List Sl) (k : List Sl → Prop) : List DV → Prop
  | [x, y] => setS i (.v x) ρ fun ρ => setS j (.v y) ρ k
  | _ => False
def parS3 (i j l : Nat) (ρ : List Sl) (k : List Sl → Prop) : List DV → Prop
  | [x, y, z] => setS i (.v x) ρ fun ρ => setS j (.v y) ρ fun ρ => setS l (.v z) ρ k
  | _ => False
theorem p_parS {x y : DV} : parS i j ρ nx [x, y] = setS i (.v x) ρ fun ρ => setS j (.v y) ρ nx := rfl
theorem p_parS3 {x y z : DV} : parS3 i j l ρ nx [x, y, z] = setS i (.v x) ρ fun ρ => setS j (.v y) ρ fun ρ => setS l (.v z) ρ nx := rfl
theorem p_gPar : gPar i j fa D ρ = fa ρ (parS i j ρ D.nx) (D.ex ρ) := by
  unfold gPar
  congr 1
theorem p_gPar3 : gPar3 i j l fa D ρ = fa ρ (parS3 i j l ρ D.nx) (D.ex ρ) := by
  unfold gPar3
  congr 1
theorem p_gApp : (gApp i f D ρ) = (rdW i ρ fun xs => f ρ (fun x => onD x fun d => xs.length ≤ 100000 ∧ setS i (.own (xs ++ [d])) ρ D.nx) (D.ex ρ)) := rfl
theorem p_gSetIx : (gSetIx i f g D ρ) = (rdW i ρ fun xs => g ρ (fun x => onD x fun d => f ρ (fun ix => onI' ix fun k => ∃ j, ixN xs.length k = some j ∧ setS i (.own (xs.set j d)) ρ D.nx) (D.ex ρ)) (D.ex ρ)) := rfl
theorem p_gFor : (gFor L fn gd b D ρ) = (fn ρ (fun xs => xs.length ≤ L ∧ loopD gd b D xs ρ) (D.ex ρ)) := rfl
theorem p_gTry : (gTry i j b D ρ) = (b ⟨D.nx, D.rt, D.bk, D.ct, fun ρ' c x => setS i (.v (.exc c x)) ρ' fun ρ' => setS j (.v (.exc c x)) ρ' fun ρ' => setS i .no ρ' D.nx⟩ ρ) := rfl
theorem p_gFrz : (gFrz i b D ρ) = (rdW i ρ fun xs => setS i (.v (.d (.list xs))) ρ (b D)) := rfl
theorem p_gParNN : (gParNN i j fn fm D ρ) = (fn ρ (fun xs => fm ρ (fun ys => setS i (.own xs) ρ fun ρ => setS j (.own ys) ρ D.nx) (D.ex ρ)) (D.ex ρ)) := rfl
theorem p_gParDN : (gParDN i j f fm D ρ) = (f ρ (fun xs => fm ρ (fun ys => setS i (.v xs) ρ fun ρ => setS j (.own ys) ρ D.nx) (D.ex ρ)) (D.ex ρ)) := rfl
theorem p_gParND : (gParND i j fn f D ρ) = (fn ρ (fun xs => f ρ (fun ys => setS i (.own xs) ρ fun ρ => setS j (.v ys) ρ D.nx) (D.ex ρ)) (D.ex ρ)) := rfl
theorem p_gDropX : (gDropX fx D ρ) = (fx ρ (fun _ ρ' => D.nx ρ') (D.ex ρ)) := rfl
theorem p_gSetX : (gSetX i fx D ρ) = (fx ρ (fun x ρ' => setS i (.v x) ρ' D.nx) (D.ex ρ)) := rfl
theorem p_gAppX : (gAppX i fx D ρ) = (rdW i ρ fun _ => fx ρ (fun x ρ' => onD x fun d => rdW i ρ' fun xs => xs.length ≤ 100000 ∧ setS i (.own (xs ++ [d])) ρ' D.nx) (D.ex ρ)) := rfl
theorem p_dVar : (dVar i ρ R E) = (rdV i ρ R) := rfl
theorem p_dOwn : (dOwn i ρ R E) = (rdOw i ρ R) := rfl
theorem p_dC : (dC x ρ R E) = (R (.d x)) := rfl
theorem p_d2 : (d2 o2 f h ρ R E) = (f ρ (fun x => h ρ (fun y => o2 x y R) E) E) := rfl
theorem p_d1 : (d1 o1 f ρ R E) = (f ρ (fun x => o1 x R) E) := rfl
theorem p_dN2 : (dN2 fn ρ R E) = (fn ρ (fun xs => R (.d (.list xs))) E) := rfl
theorem p_aNil : (aNil ρ Ra E) = (Ra []) := rfl
theorem p_aCons : (aCons f fa ρ Ra E) = (f ρ (fun x => fa ρ (fun xs => Ra (x :: xs)) E) E) := rfl
theorem p_dTup : (dTup fa ρ R E) = (fa ρ (fun xs => allD xs fun ds => ds.length ≤ 100000 ∧ R (.d (.tuple ds))) E) := rfl
theorem p_nLst : (nLst fa ρ Rl E) = (fa ρ (fun xs => allD xs fun ds => ds.length ≤ 100000 ∧ Rl ds) E) := rfl
theorem p_dCall : (dCall F fa ρ R E) = (fa ρ (fun xs => F xs R E) E) := rfl
theorem p_dCallK : (dCallK F gD fa fk ρ R E) = (fa ρ (fun xs => fk ρ (fun ys => F (gD xs ys) R E) E) E) := rfl
theorem p_dBi : (dBi ob fa ρ R E) = (fa ρ (fun xs => ob xs R) E) := rfl
theorem p_tVal : (tVal f ρ Rb E) = (f ρ (fun x => onB x Rb) E) := rfl
theorem p_tNot : (tNot' t ρ Rb E) = (t ρ (fun b => Rb (!b)) E) := rfl
theorem p_tAnd : (tAnd' t u ρ Rb E) = (t ρ (fun b => if b = true then u ρ Rb E else Rb false) E) := rfl
theorem p_tOr : (tOr' t u ρ Rb E) = (t ρ (fun b => if b = true then Rb true else u ρ Rb E) E) := rfl
theorem p_dAnd : (dAnd f g ρ R E) = (f ρ (fun x => onB x fun b => if b = true then g ρ R E else R (.d (.bool false))) E) := rfl
theorem p_dOr : (dOr f g ρ R E) = (f ρ (fun x => onB x fun b => if b = true then R (.d (.bool true)) else g ρ R E) E) := rfl
theorem p_dNot : (dNot f ρ R E) = (f ρ (fun x => onB x fun b => R (.d (.bool (!b)))) E) := rfl
theorem p_dIf : (dIf t f g ρ R E) = (t ρ (fun b => if b = true then f ρ R E else g ρ R E) E) := rfl
theorem p_dChain : (dChain o2 o3 f h kk ρ R E) = (f ρ (fun x => h ρ (fun y => o2 x y fun z => onB z fun b => if b = true then kk ρ (fun w => o3 y w R) E else R (.d (.bool false))) E) E) := rfl
theorem p_dSl : (dSl f pl pu ρ R E) = (f ρ (fun x => pl ρ (fun l => pu ρ (fun u => gSl x l u R) E) E) E) := rfl
theorem p_pNo : (pNo ρ Rp E) = (Rp none) := rfl
theorem p_pAt : (pAt f ρ Rp E) = (f ρ (fun x => onI' x fun i => Rp (some i)) E) := rfl
def ofS (R : List PD → Prop) : List DV → Prop
  | [x] => seqD x R
  | _ => False
theorem p_ofS {x : DV} : ofS Rl [x] = seqD x Rl := rfl
theorem p_nOf : nOf fa ρ Rl E = fa ρ (ofS Rl) E := by
  unfold nOf
  congr 1
theorem p_nRg1 : (nRg1 f ρ Rl E) = (f ρ (fun x => onI' x fun j => RgL 0 j ∧ Rl (rngD 0 j)) E) := rfl
theorem p_iRg : (iRg og fa ρ Rl E) = (fa ρ (fun xs => og xs Rl) E) := rfl
theorem p_iSeq : (iSeq f ρ Rl E) = (f ρ (fun x => seqD x Rl) E) := rfl
theorem p_iZp : (iZp fa ρ Rl E) = (fa ρ (fun xs => zpD xs Rl) E) := rfl
theorem p_iRv : (iRv f ρ Rl E) = (f ρ (fun x => seqD x fun xs => Rl xs.reverse) E) := rfl
theorem p_nLc : (nLc L fn gd t f own ρ Rl E) = (fn ρ (fun xs => xs.length ≤ L ∧ lcD gd t f (wipeD ρ own) xs Rl) E) := rfl
theorem p_tTrue : (tTrue ρ Rb E) = (Rb true) := rfl
theorem p_gNm : (gNm i x ρ Rs) = (setS i (.v (.d x)) ρ Rs) := rfl
theorem p_gTp : (gTp gs (.tuple xs) ρ Rs) = (gs xs ρ Rs) := rfl
theorem p_gTpL : (gTpL gs (.list xs) ρ Rs) = (gs xs ρ Rs) := rfl
theorem p_gsCons : (gsCons gd gs (x :: xs) ρ Rs) = (gd x ρ fun ρ' => gs xs ρ' Rs) := rfl
theorem p_gsNil : (gsNil [] ρ Rs) = (Rs ρ) := by apply propext; exact ⟨fun h => h.2, fun h => ⟨rfl, h⟩⟩
theorem p_nSs : (nSs f ρ Rl E) = (f ρ (fun x => ∃ ns, listInts x = some ns ∧ ns.length < 64 ∧ ∀ ms : List Int, ms.Pairwise (· < ·) → (∀ k, k ∈ ms ↔ k ∈ ns) → Rl (ms.map .int)) E) := rfl
theorem p_nSd : (nSd f ρ Rl E) = (f ρ (fun x => ∃ ns, listInts x = some ns ∧ ns.length < 64 ∧ ∀ ms : List Int, ms.Perm ns → ms.Pairwise (· ≤ ·) → Rl (ms.map .int)) E) := rfl
end
section
variable {R : DV → Prop} {Rl : List PD → Prop} {k : List Sl → Prop} {s z a0 a1 a2 a3 a4 a5 a6 a7 a8 a9 a10 a11 a12 a13 a14 a15 a16 a17 a18 a19 a20 a21 a22 a23 a24 a25 : Sl} {l : List Sl} {x : DV} {xs : List PD}
theorem p_st0 : setS 0 s (z :: l) k = k (s :: l) := rfl
theorem p_rv0 : rdV 0 (.v x :: l) R = R x := rfl
theorem p_ro0 : rdOw 0 (.v x :: l) R = R x := rfl
theorem p_rp0 : rdOw 0 (.own xs :: l) R = R (.d (.list xs)) := rfl
theorem p_rw0 : rdW 0 (.own xs :: l) Rl = Rl xs := rfl
theorem p_st1 : setS 1 s (a0 :: z :: l) k = k (a0 :: s :: l) := rfl
theorem p_rv1 : rdV 1 (a0 :: .v x :: l) R = R x := rfl
theorem p_ro1 : rdOw 1 (a0 :: .v x :: l) R = R x := rfl
theorem p_rp1 : rdOw 1 (a0 :: .own xs :: l) R = R (.d (.list xs)) := rfl
theorem p_rw1 : rdW 1 (a0 :: .own xs :: l) Rl = Rl xs := rfl
theorem p_st2 : setS 2 s (a0 :: a1 :: z :: l) k = k (a0 :: a1 :: s :: l) := rfl
theorem p_rv2 : rdV 2 (a0 :: a1 :: .v x :: l) R = R x := rfl
theorem p_ro2 : rdOw 2 (a0 :: a1 :: .v x :: l) R = R x := rfl
theorem p_rp2 : rdOw 2 (a0 :: a1 :: .own xs :: l) R = R (.d (.list xs)) := rfl
theorem p_rw2 : rdW 2 (a0 :: a1 :: .own xs :: l) Rl = Rl xs := rfl
theorem p_st3 : setS 3 s (a0 :: a1 :: a2 :: z :: l) k = k (a0 :: a1 :: a2 :: s :: l) := rfl
theorem p_rv3 : rdV 3 (a0 :: a1 :: a2 :: .v x :: l) R = R x := rfl
theorem p_ro3 : rdOw 3 (a0 :: a1 :: a2 :: .v x :: l) R = R x := rfl
theorem p_rp3 : rdOw 3 (a0 :: a1 :: a2 :: .own xs :: l) R = R (.d (.list xs)) := rfl
theorem p_rw3 : rdW 3 (a0 :: a1 :: a2 :: .own xs :: l) Rl = Rl xs := rfl
theorem p_st4 : setS 4 s (a0 :: a1 :: a2 :: a3 :: z :: l) k = k (a0 :: a1 :: a2 :: a3 :: s :: l) := rfl
theorem p_rv4 : rdV 4 (a0 :: a1 :: a2 :: a3 :: .v x :: l) R = R x := rfl
theorem p_ro4 : rdOw 4 (a0 :: a1 :: a2 :: a3 :: .v x :: l) R = R x := rfl
theorem p_rp4 : rdOw 4 (a0 :: a1 :: a2 :: a3 :: .own xs :: l) R = R (.d (.list xs)) := rfl
theorem p_rw4 : rdW 4 (a0 :: a1 :: a2 :: a3 :: .own xs :: l) Rl = Rl xs := rfl
theorem p_st5 : setS 5 s (a0 :: a1 :: a2 :: a3 :: a4 :: z :: l) k = k (a0 :: a1 :: a2 :: a3 :: a4 :: s :: l) := rfl
theorem p_rv5 : rdV 5 (a0 :: a1 :: a2 :: a3 :: a4 :: .v x :: l) R = R x := rfl
theorem p_ro5 : rdOw 5 (a0 :: a1 :: a2 :: a3 :: a4 :: .v x :: l) R = R x := rfl
theorem p_rp5 : rdOw 5 (a0 :: a1 :: a2 :: a3 :: a4 :: .own xs :: l) R = R (.d (.list xs)) := rfl
theorem p_rw5 : rdW 5 (a0 :: a1 :: a2 :: a3 :: a4 :: .own xs :: l) Rl = Rl xs := rfl
theorem p_st6 : setS 6 s (a0 :: a1 :: a2 :: a3 :: a4 :: a5 :: z :: l) k = k (a0 :: a1 :: a2 :: a3 :: a4 :: a5 :: s :: l) := rfl
theorem p_rv6 : rdV 6 (a0 :: a1 :: a2 :: a3 :: a4 :: a5 :: .v x :: l) R = R x := rfl
theorem p_ro6 : rdOw 6 (a0 :: a1 :: a2 :: a3 :: a4 :: a5 :: .v x :: l) R = R x := rfl
theorem p_rp6 : rdOw 6 (a0 :: a1 :: a2 :: a3 :: a4 :: a5 :: .own xs :: l) R = R (.d (.list xs)) := rfl
theorem p_rw6 : rdW 6 (a0 :: a1 :: a2 :: a3 :: a4 :: a5 :: .own xs :: l) Rl = Rl xs := rfl
theorem p_st7 : setS 7 s (a0 :: a1 :: a2 :: a3 :: a4 :: a5 :: a6 :: z :: l) k = k (a0 :: a1 :: a2 :: a3 :: a4 :: a5 :: a6 :: s :: l) := rfl
theorem p_rv7 : rdV 7 (a0 :: a1 :: a2 :: a3 :: a4 :: a5 :: a6 :: .v x :: l) R = R x := rfl
theorem p_ro7 : rdOw 7 (a0 :: a1 :: a2 :: a3 :: a4 :: a5 :: a6 :: .v x :: l) R = R x := rfl
theorem p_rp7 : rdOw 7 (a0 :: a1 :: a2 :: a3 :: a4 :: a5 :: a6 :: .own xs :: l) R = R (.d (.list xs)) := rfl
theorem p_rw7 : rdW 7 (a0 :: a1 :: a2 :: a3 :: a4 :: a5 :: a6 :: .own xs :: l) Rl = Rl xs := rfl
theorem p_st8 : setS 8 s (a0 :: a1 :: a2 :: a3 :: a4 :: a5 :: a6 :: a7 :: z :: l) k = k (a0 :: a1 :: a2 :: a3 :: a4 :: a5 :: a6 :: a7 :: s :: l) := rfl
theorem p_rv8 : rdV 8 (a0 :: a1 :: a2 :: a3 :: a4 :: a5 :: a6 :: a7 :: .v x :: l) R = R x := rfl
theorem p_ro8 : rdOw 8 (a0 :: a1 :: a2 :: a3 :: a4 :: a5 :: a6 :: a7 :: .v x :: l) R = R x := rfl
theorem p_rp8 : rdOw 8 (a0 :: a1 :: a2 :: a3 :: a4 :: a5 :: a6 :: a7 :: .own xs :: l) R = R (.d (.list xs)) := rfl
theorem p_rw8 : rdW 8 (a0 :: a1 :: a2 :: a3 :: a4 :: a5 :: a6 :: a7 :: .own xs :: l) Rl = Rl xs := rfl
theorem p_st9 : setS 9 s (a0 :: a1 :: a2 :: a3 :: a4 :: a5 :: a6 :: a7 :: a8 :: z :: l) k = k (a0 :: a1 :: a2 :: a3 :: a4 :: a5 :: a6 :: a7 :: a8 :: s :: l) := rfl
theorem p_rv9 : rdV 9 (a0 :: a1 :: a2 :: a3 :: a4 :: a5 :: a6 :: a7 :: a8 :: .v x :: l) R = R x := rfl
theorem p_ro9 : rdOw 9 (a0 :: a1 :: a2 :: a3 :: a4 :: a5 :: a6 :: a7 :: a8 :: .v x :: l) R = R x := rfl
theorem p_rp9 : rdOw 9 (a0 :: a1 :: a2 :: a3 :: a4 :: a5 :: a6 :: a7 :: a8 :: .own xs :: l) R = R (.d (.list xs)) := rfl
theorem p_rw9 : rdW 9 (a0 :: a1 :: a2 :: a3 :: a4 :: a5 :: a6 :: a7 :: a8 :: .own xs :: l) Rl = Rl xs := rfl
theorem p_st10 : setS 10 s (a0 :: a1 :: a2 :: a3 :: a4 :: a5 :: a6 :: a7 :: a8 :: a9 :: z :: l) k = k (a0 :: a1 :: a2 :: a3 :: a4 :: a5 :: a6 :: a7 :: a8 :: a9 :: s :: l) := rfl
theorem p_rv10 : rdV 10 (a0 :: a1 :: a2 :: a3 :: a4 :: a5 :: a6 :: a7 :: a8 :: a9 :: .v x :: l) R = R x := rfl
theorem p_ro10 : rdOw 10 (a0 :: a1 :: a2 :: a3 :: a4 :: a5 :: a6 :: a7 :: a8 :: a9 :: .v x :: l) R = R x := rfl
theorem p_rp10 : rdOw 10 (a0 :: a1 :: a2 :: a3 :: a4 :: a5 :: a6 :: a7 :: a8 :: a9 :: .own xs :: l) R = R (.d (.list xs)) := rfl
theorem p_rw10 : rdW 10 (a0 :: a1 :: a2 :: a3 :: a4 :: a5 :: a6 :: a7 :: a8 :: a9 :: .own xs :: l) Rl = Rl xs := rfl
theorem p_st11 : setS 11 s (a0 :: a1 :: a2 :: a3 :: a4 :: a5 :: a6 :: a7 :: a8 :: a9 :: a10 :: z :: l) k = k (a0 :: a1 :: a2 :: a3 :: a4 :: a5 :: a6 :: a7 :: a8 :: a9 :: a10 :: s :: l) := rfl
theorem p_rv11 : rdV 11 (a0 :: a1 :: a2 :: a3 :: a4 :: a5 :: a6 :: a7 :: a8 :: a9 :: a10 :: .v x :: l) R = R x := rfl
theorem p_ro11 : rdOw 11 (a0 :: a1 :: a2 :: a3 :: a4 :: a5 :: a6 :: a7 :: a8 :: a9 :: a10 :: .v x :: l) R = R x := rfl
theorem p_rp11 : rdOw 11 (a0 :: a1 :: a2 :: a3 :: a4 :: a5 :: a6 :: a7 :: a8 :: a9 :: a10 :: .own xs :: l) R = R (.d (.list xs)) := rfl
theorem p_rw11 : rdW 11 (a0 :: a1 :: a2 :: a3 :: a4 :: a5 :: a6 :: a7 :: a8 :: a9 :: a10 :: .own xs :: l) Rl = Rl xs := rfl
theorem p_st12 : setS 12 s (a0 :: a1 :: a2 :: a3 :: a4 :: a5 :: a6 :: a7 :: a8 :: a9 :: a10 :: a11 :: z :: l) k = k (a0 :: a1 :: a2 :: a3 :: a4 :: a5 :: a6 :: a7 :: a8 :: a9 :: a10 :: a11 :: s :: l) := rfl
theorem p_rv12 : rdV 12 (a0 :: a1 :: a2 :: a3 :: a4 :: a5 :: a6 :: a7 :: a8 :: a9 :: a10 :: a11 :: .v x :: l) R = R x := rfl
theorem p_ro12 : rdOw 12 (a0 :: a1 :: a2 :: a3 :: a4 :: a5 :: a6 :: a7 :: a8 :: a9 :: a10 :: a11 :: .v x :: l) R = R x := rfl
theorem p_rp12 : rdOw 12 (a0 :: a1 :: a2 :: a3 :: a4 :: a5 :: a6 :: a7 :: a8 :: a9 :: a10 :: a11 :: .own xs :: l) R = R (.d (.list xs)) := rfl
theorem p_rw12 : rdW 12 (a0 :: a1 :: a2 :: a3 :: a4 :: a5 :: a6 :: a7 :: a8 :: a9 :: a10 :: a11 :: .own xs :: l) Rl = Rl xs := rfl
theorem p_st13 : setS 13 s (a0 :: a1 :: a2 :: a3 :: a4 :: a5 :: a6 :: a7 :: a8 :: a9 :: a10 :: a11 :: a12 :: z :: l) k = k (a0 :: a1 :: a2 :: a3 :: a4 :: a5 :: a6 :: a7 :: a8 :: a9 :: a10 :: a11 :: a12 :: s :: l) := rfl
theorem p_rv13 : rdV 13 (a0 :: a1 :: a2 :: a3 :: a4 :: a5 :: a6 :: a7 :: a8 :: a9 :: a10 :: a11 :: a12 :: .v x :: l) R = R x := rfl
theorem p_ro13 : rdOw 13 (a0 :: a1 :: a2 :: a3 :: a4 :: a5 :: a6 :: a7 :: a8 :: a9 :: a10 :: a11 :: a12 :: .v x :: l) R = R x := rfl
theorem p_rp13 : rdOw 13 (a0 :: a1 :: a2 :: a3 :: a4 :: a5 :: a6 :: a7 :: a8 :: a9 :: a10 :: a11 :: a12 :: .own xs :: l) R = R (.d (.list xs)) := rfl
theorem p_rw13 : rdW 13 (a0 :: a1 :: a2 :: a3 :: a4 :: a5 :: a6 :: a7 :: a8 :: a9 :: a10 :: a11 :: a12 :: .own xs :: l) Rl = Rl xs := rfl
theorem p_st14 : setS 14 s (a0 :: a1 :: a2 :: a3 :: a4 :: a5 :: a6 :: a7 :: a8 :: a9 :: a10 :: a11 :: a12 :: a13 :: z :: l) k = k (a0 :: a1 :: a2 :: a3 :: a4 :: a5 :: a6 :: a7 :: a8 :: a9 :: a10 :: a11 :: a12 :: a13 :: s :: l) := rfl
theorem p_rv14 : rdV 14 (a0 :: a1 :: a2 :: a3 :: a4 :: a5 :: a6 :: a7 :: a8 :: a9 :: a10 :: a11 :: a12 :: a13 :: .v x :: l) R = R x := rfl
theorem p_ro14 : rdOw 14 (a0 :: a1 :: a2 :: a3 :: a4 :: a5 :: a6 :: a7 :: a8 :: a9 :: a10 :: a11 :: a12 :: a13 :: .v x :: l) R = R x := rfl
theorem p_rp14 : rdOw 14 (a0 :: a1 :: a2 :: a3 :: a4 :: a5 :: a6 :: a7 :: a8 :: a9 :: a10 :: a11 :: a12 :: a13 :: .own xs :: l) R = R (.d (.list xs)) := rfl
theorem p_rw14 : rdW 14 (a0 :: a1 :: a2 :: a3 :: a4 :: a5 :: a6 :: a7 :: a8 :: a9 :: a10 :: a11 :: a12 :: a13 :: .own xs :: l) Rl = Rl xs := rfl
theorem p_st15 : setS 15 s (a0 :: a1 :: a2 :: a3 :: a4 :: a5 :: a6 :: a7 :: a8 :: a9 :: a10 :: a11 :: a12 :: a13 :: a14 :: z :: l) k = k (a0 :: a1 :: a2 :: a3 :: a4 :: a5 :: a6 :: a7 :: a8 :: a9 :: a10 :: a11 :: a12 :: a13 :: a14 :: s :: l) := rfl
theorem p_rv15 : rdV 15 (a0 :: a1 :: a2 :: a3 :: a4 :: a5 :: a6 :: a7 :: a8 :: a9 :: a10 :: a11 :: a12 :: a13 :: a14 :: .v x :: l) R = R x := rfl
theorem p_ro15 : rdOw 15 (a0 :: a1 :: a2 :: a3 :: a4 :: a5 :: a6 :: a7 :: a8 :: a9 :: a10 :: a11 :: a12 :: a13 :: a14 :: .v x :: l) R = R x := rfl
theorem p_rp15 : rdOw 15 (a0 :: a1 :: a2 :: a3 :: a4 :: a5 :: a6 :: a7 :: a8 :: a9 :: a10 :: a11 :: a12 :: a13 :: a14 :: .own xs :: l) R = R (.d (.list xs)) := rfl
theorem p_rw15 : rdW 15 (a0 :: a1 :: a2 :: a3 :: a4 :: a5 :: a6 :: a7 :: a8 :: a9 :: a10 :: a11 :: a12 :: a13 :: a14 :: .own xs :: l) Rl = Rl xs := rfl
theorem p_st16 : setS 16 s (a0 :: a1 :: a2 :: a3 :: a4 :: a5 :: a6 :: a7 :: a8 :: a9 :: a10 :: a11 :: a12 :: a13 :: a14 :: a15 :: z :: l) k = k (a0 :: a1 :: a2 :: a3 :: a4 :: a5 :: a6 :: a7 :: a8 :: a9 :: a10 :: a11 :: a12 :: a13 :: a14 :: a15 :: s :: l) := rfl
theorem p_rv16 : rdV 16 (a0 :: a1 :: a2 :: a3 :: a4 :: a5 :: a6 :: a7 :: a8 :: a9 :: a10 :: a11 :: a12 :: a13 :: a14 :: a15 :: .v x :: l) R = R x := rfl
theorem p_ro16 : rdOw 16 (a0 :: a1 :: a2 :: a3 :: a4 :: a5 :: a6 :: a7 :: a8 :: a9 :: a10 :: a11 :: a12 :: a13 :: a14 :: a15 :: .v x :: l) R = R x := rfl
theorem p_rp16 : rdOw 16 (a0 :: a1 :: a2 :: a3 :: a4 :: a5 :: a6 :: a7 :: a8 :: a9 :: a10 :: a11 :: a12 :: a13 :: a14 :: a15 :: .own xs :: l) R = R (.d (.list xs)) := rfl
theorem p_rw16 : rdW 16 (a0 :: a1 :: a2 :: a3 :: a4 :: a5 :: a6 :: a7 :: a8 :: a9 :: a10 :: a11 :: a12 :: a13 :: a14 :: a15 :: .own xs :: l) Rl = Rl xs := rfl
theorem p_st17 : setS 17 s (a0 :: a1 :: a2 :: a3 :: a4 :: a5 :: a6 :: a7 :: a8 :: a9 :: a10 :: a11 :: a12 :: a13 :: a14 :: a15 :: a16 :: z :: l) k = k (a0 :: a1 :: a2 :: a3 :: a4 :: a5 :: a6 :: a7 :: a8 :: a9 :: a10 :: a11 :: a12 :: a13 :: a14 :: a15 :: a16 :: s :: l) := rfl
theorem p_rv17 : rdV 17 (a0 :: a1 :: a2 :: a3 :: a4 :: a5 :: a6 :: a7 :: a8 :: a9 :: a10 :: a11 :: a12 :: a13 :: a14 :: a15 :: a16 :: .v x :: l) R = R x := rfl
theorem p_ro17 : rdOw 17 (a0 :: a1 :: a2 :: a3 :: a4 :: a5 :: a6 :: a7 :: a8 :: a9 :: a10 :: a11 :: a12 :: a13 :: a14 :: a15 :: a16 :: .v x :: l) R = R x := rfl
theorem p_rp17 : rdOw 17 (a0 :: a1 :: a2 :: a3 :: a4 :: a5 :: a6 :: a7 :: a8 :: a9 :: a10 :: a11 :: a12 :: a13 :: a14 :: a15 :: a16 :: .own xs :: l) R = R (.d (.list xs)) := rfl
theorem p_rw17 : rdW 17 (a0 :: a1 :: a2 :: a3 :: a4 :: a5 :: a6 :: a7 :: a8 :: a9 :: a10 :: a11 :: a12 :: a13 :: a14 :: a15 :: a16 :: .own xs :: l) Rl = Rl xs := rfl
theorem p_st18 : setS 18 s (a0 :: a1 :: a2 :: a3 :: a4 :: a5 :: a6 :: a7 :: a8 :: a9 :: a10 :: a11 :: a12 :: a13 :: a14 :: a15 :: a16 :: a17 :: z :: l) k = k (a0 :: a1 :: a2 :: a3 :: a4 :: a5 :: a6 :: a7 :: a8 :: a9 :: a10 :: a11 :: a12 :: a13 :: a14 :: a15 :: a16 :: a17 :: s :: l) := rfl
theorem p_rv18 : rdV 18 (a0 :: a1 :: a2 :: a3 :: a4 :: a5 :: a6 :: a7 :: a8 :: a9 :: a10 :: a11 :: a12 :: a13 :: a14 :: a15 :: a16 :: a17 :: .v x :: l) R = R x := rfl
theorem p_ro18 : rdOw 18 (a0 :: a1 :: a2 :: a3 :: a4 :: a5 :: a6 :: a7 :: a8 :: a9 :: a10 :: a11 :: a12 :: a13 :: a14 :: a15 :: a16 :: a17 :: .v x :: l) R = R x := rfl
theorem p_rp18 : rdOw 18 (a0 :: a1 :: a2 :: a3 :: a4 :: a5 :: a6 :: a7 :: a8 :: a9 :: a10 :: a11 :: a12 :: a13 :: a14 :: a15 :: a16 :: a17 :: .own xs :: l) R = R (.d (.list xs)) := rfl
theorem p_rw18 : rdW 18 (a0 :: a1 :: a2 :: a3 :: a4 :: a5 :: a6 :: a7 :: a8 :: a9 :: a10 :: a11 :: a12 :: a13 :: a14 :: a15 :: a16 :: a17 :: .own xs :: l) Rl = Rl xs := rfl
theorem p_st19 : setS 19 s (a0 :: a1 :: a2 :: a3 :: a4 :: a5 :: a6 :: a7 :: a8 :: a9 :: a10 :: a11 :: a12 :: a13 :: a14 :: a15 :: a16 :: a17 :: a18 :: z :: l) k = k (a0 :: a1 :: a2 :: a3 :: a4 :: a5 :: a6 :: a7 :: a8 :: a9 :: a10 :: a11 :: a12 :: a13 :: a14 :: a15 :: a16 :: a17 :: a18 :: s :: l) := rfl
theorem p_rv19 : rdV 19 (a0 :: a1 :: a2 :: a3 :: a4 :: a5 :: a6 :: a7 :: a8 :: a9 :: a10 :: a11 :: a12 :: a13 :: a14 :: a15 :: a16 :: a17 :: a18 :: .v x :: l) R = R x := rfl
theorem p_ro19 : rdOw 19 (a0 :: a1 :: a2 :: a3 :: a4 :: a5 :: a6 :: a7 :: a8 :: a9 :: a10 :: a11 :: a12 :: a13 :: a14 :: a15 :: a16 :: a17 :: a18 :: .v x :: l) R = R x := rfl
theorem p_rp19 : rdOw 19 (a0 :: a1 :: a2 :: a3 :: a4 :: a5 :: a6 :: a7 :: a8 :: a9 :: a10 :: a11 :: a12 :: a13 :: a14 :: a15 :: a16 :: a17 :: a18 :: .own xs :: l) R = R (.d (.list xs)) := rfl
theorem p_rw19 : rdW 19 (a0 :: a1 :: a2 :: a3 :: a4 :: a5 :: a6 :: a7 :: a8 :: a9 :: a10 :: a11 :: a12 :: a13 :: a14 :: a15 :: a16 :: a17 :: a18 :: .own xs :: l) Rl = Rl xs := rfl
theorem p_st20 : setS 20 s (a0 :: a1 :: a2 :: a3 :: a4 :: a5 :: a6 :: a7 :: a8 :: a9 :: a10 :: a11 :: a12 :: a13 :: a14 :: a15 :: a16 :: a17 :: a18 :: a19 :: z :: l) k = k (a0 :: a1 :: a2 :: a3 :: a4 :: a5 :: a6 :: a7 :: a8 :: a9 :: a10 :: a11 :: a12 :: a13 :: a14 :: a15 :: a16 :: a17 :: a18 :: a19 :: s :: l) := rfl
theorem p_rv20 : rdV 20 (a0 :: a1 :: a2 :: a3 :: a4 :: a5 :: a6 :: a7 :: a8 :: a9 :: a10 :: a11 :: a12 :: a13 :: a14 :: a15 :: a16 :: a17 :: a18 :: a19 :: .v x :: l) R = R x := rfl
theorem p_ro20 : rdOw 20 (a0 :: a1 :: a2 :: a3 :: a4 :: a5 :: a6 :: a7 :: a8 :: a9 :: a10 :: a11 :: a12 :: a13 :: a14 :: a15 :: a16 :: a17 :: a18 :: a19 :: .v x :: l) R = R x := rfl
theorem p_rp20 : rdOw 20 (a0 :: a1 :: a2 :: a3 :: a4 :: a5 :: a6 :: a7 :: a8 :: a9 :: a10 :: a11 :: a12 :: a13 :: a14 :: a15 :: a16 :: a17 :: a18 :: a19 :: .own xs :: l) R = R (.d (.list xs)) := rfl
theorem p_rw20 : rdW 20 (a0 :: a1 :: a2 :: a3 :: a4 :: a5 :: a6 :: a7 :: a8 :: a9 :: a10 :: a11 :: a12 :: a13 :: a14 :: a15 :: a16 :: a17 :: a18 :: a19 :: .own xs :: l) Rl = Rl xs := rfl
theorem p_st21 : setS 21 s (a0 :: a1 :: a2 :: a3 :: a4 :: a5 :: a6 :: a7 :: a8 :: a9 :: a10 :: a11 :: a12 :: a13 :: a14 :: a15 :: a16 :: a17 :: a18 :: a19 :: a20 :: z :: l) k = k (a0 :: a1 :: a2 :: a3 :: a4 :: a5 :: a6 :: a7 :: a8 :: a9 :: a10 :: a11 :: a12 :: a13 :: a14 :: a15 :: a16 :: a17 :: a18 :: a19 :: a20 :: s :: l) := rfl
theorem p_rv21 : rdV 21 (a0 :: a1 :: a2 :: a3 :: a4 :: a5 :: a6 :: a7 :: a8 :: a9 :: a10 :: a11 :: a12 :: a13 :: a14 :: a15 :: a16 :: a17 :: a18 :: a19 :: a20 :: .v x :: l) R = R x := rfl
theorem p_ro21 : rdOw 21 (a0 :: a1 :: a2 :: a3 :: a4 :: a5 :: a6 :: a7 :: a8 :: a9 :: a10 :: a11 :: a12 :: a13 :: a14 :: a15 :: a16 :: a17 :: a18 :: a19 :: a20 :: .v x :: l) R = R x := rfl
theorem p_rp21 : rdOw 21 (a0 :: a1 :: a2 :: a3 :: a4 :: a5 :: a6 :: a7 :: a8 :: a9 :: a10 :: a11 :: a12 :: a13 :: a14 :: a15 :: a16 :: a17 :: a18 :: a19 :: a20 :: .own xs :: l) R = R (.d (.list xs)) := rfl
theorem p_rw21 : rdW 21 (a0 :: a1 :: a2 :: a3 :: a4 :: a5 :: a6 :: a7 :: a8 :: a9 :: a10 :: a11 :: a12 :: a13 :: a14 :: a15 :: a16 :: a17 :: a18 :: a19 :: a20 :: .own xs :: l) Rl = Rl xs := rfl
theorem p_st22 : setS 22 s (a0 :: a1 :: a2 :: a3 :: a4 :: a5 :: a6 :: a7 :: a8 :: a9 :: a10 :: a11 :: a12 :: a13 :: a14 :: a15 :: a16 :: a17 :: a18 :: a19 :: a20 :: a21 :: z :: l) k = k (a0 :: a1 :: a2 :: a3 :: a4 :: a5 :: a6 :: a7 :: a8 :: a9 :: a10 :: a11 :: a12 :: a13 :: a14 :: a15 :: a16 :: a17 :: a18 :: a19 :: a20 :: a21 :: s :: l) := rfl
theorem p_rv22 : rdV 22 (a0 :: a1 :: a2 :: a3 :: a4 :: a5 :: a6 :: a7 :: a8 :: a9 :: a10 :: a11 :: a12 :: a13 :: a14 :: a15 :: a16 :: a17 :: a18 :: a19 :: a20 :: a21 :: .v x :: l) R = R x := rfl
theorem p_ro22 : rdOw 22 (a0 :: a1 :: a2 :: a3 :: a4 :: a5 :: a6 :: a7 :: a8 :: a9 :: a10 :: a11 :: a12 :: a13 :: a14 :: a15 :: a16 :: a17 :: a18 :: a19 :: a20 :: a21 :: .v x :: l) R = R x := rfl
theorem p_rp22 : rdOw 22 (a0 :: a1 :: a2 :: a3 :: a4 :: a5 :: a6 :: a7 :: a8 :: a9 :: a10 :: a11 :: a12 :: a13 :: a14 :: a15 :: a16 :: a17 :: a18 :: a19 :: a20 :: a21 :: .own xs :: l) R = R (.d (.list xs)) := rfl
theorem p_rw22 : rdW 22 (a0 :: a1 :: a2 :: a3 :: a4 :: a5 :: a6 :: a7 :: a8 :: a9 :: a10 :: a11 :: a12 :: a13 :: a14 :: a15 :: a16 :: a17 :: a18 :: a19 :: a20 :: a21 :: .own xs :: l) Rl = Rl xs := rfl
theorem p_st23 : setS 23 s (a0 :: a1 :: a2 :: a3 :: a4 :: a5 :: a6 :: a7 :: a8 :: a9 :: a10 :: a11 :: a12 :: a13 :: a14 :: a15 :: a16 :: a17 :: a18 :: a19 :: a20 :: a21 :: a22 :: z :: l) k = k (a0 :: a1 :: a2 :: a3 :: a4 :: a5 :: a6 :: a7 :: a8 :: a9 :: a10 :: a11 :: a12 :: a13 :: a14 :: a15 :: a16 :: a17 :: a18 :: a19 :: a20 :: a21 :: a22 :: s :: l) := rfl
theorem p_rv23 : rdV 23 (a0 :: a1 :: a2 :: a3 :: a4 :: a5 :: a6 :: a7 :: a8 :: a9 :: a10 :: a11 :: a12 :: a13 :: a14 :: a15 :: a16 :: a17 :: a18 :: a19 :: a20 :: a21 :: a22 :: .v x :: l) R = R x := rfl
theorem p_ro23 : rdOw 23 (a0 :: a1 :: a2 :: a3 :: a4 :: a5 :: a6 :: a7 :: a8 :: a9 :: a10 :: a11 :: a12 :: a13 :: a14 :: a15 :: a16 :: a17 :: a18 :: a19 :: a20 :: a21 :: a22 :: .v x :: l) R = R x := rfl
theorem p_rp23 : rdOw 23 (a0 :: a1 :: a2 :: a3 :: a4 :: a5 :: a6 :: a7 :: a8 :: a9 :: a10 :: a11 :: a12 :: a13 :: a14 :: a15 :: a16 :: a17 :: a18 :: a19 :: a20 :: a21 :: a22 :: .own xs :: l) R = R (.d (.list xs)) := rfl
theorem p_rw23 : rdW 23 (a0 :: a1 :: a2 :: a3 :: a4 :: a5 :: a6 :: a7 :: a8 :: a9 :: a10 :: a11 :: a12 :: a13 :: a14 :: a15 :: a16 :: a17 :: a18 :: a19 :: a20 :: a21 :: a22 :: .own xs :: l) Rl = Rl xs := rfl
theorem p_st24 : setS 24 s (a0 :: a1 :: a2 :: a3 :: a4 :: a5 :: a6 :: a7 :: a8 :: a9 :: a10 :: a11 :: a12 :: a13 :: a14 :: a15 :: a16 :: a17 :: a18 :: a19 :: a20 :: a21 :: a22 :: a23 :: z :: l) k = k (a0 :: a1 :: a2 :: a3 :: a4 :: a5 :: a6 :: a7 :: a8 :: a9 :: a10 :: a11 :: a12 :: a13 :: a14 :: a15 :: a16 :: a17 :: a18 :: a19 :: a20 :: a21 :: a22 :: a23 :: s :: l) := rfl
theorem p_rv24 : rdV 24 (a0 :: a1 :: a2 :: a3 :: a4 :: a5 :: a6 :: a7 :: a8 :: a9 :: a10 :: a11 :: a12 :: a13 :: a14 :: a15 :: a16 :: a17 :: a18 :: a19 :: a20 :: a21 :: a22 :: a23 :: .v x :: l) R = R x := rfl
theorem p_ro24 : rdOw 24 (a0 :: a1 :: a2 :: a3 :: a4 :: a5 :: a6 :: a7 :: a8 :: a9 :: a10 :: a11 :: a12 :: a13 :: a14 :: a15 :: a16 :: a17 :: a18 :: a19 :: a20 :: a21 :: a22 :: a23 :: .v x :: l) R = R x := rfl
theorem p_rp24 : rdOw 24 (a0 :: a1 :: a2 :: a3 :: a4 :: a5 :: a6 :: a7 :: a8 :: a9 :: a10 :: a11 :: a12 :: a13 :: a14 :: a15 :: a16 :: a17 :: a18 :: a19 :: a20 :: a21 :: a22 :: a23 :: .own xs :: l) R = R (.d (.list xs)) := rfl
theorem p_rw24 : rdW 24 (a0 :: a1 :: a2 :: a3 :: a4 :: a5 :: a6 :: a7 :: a8 :: a9 :: a10 :: a11 :: a12 :: a13 :: a14 :: a15 :: a16 :: a17 :: a18 :: a19 :: a20 :: a21 :: a22 :: a23 :: .own xs :: l) Rl = Rl xs := rfl
theorem p_st25 : setS 25 s (a0 :: a1 :: a2 :: a3 :: a4 :: a5 :: a6 :: a7 :: a8 :: a9 :: a10 :: a11 :: a12 :: a13 :: a14 :: a15 :: a16 :: a17 :: a18 :: a19 :: a20 :: a21 :: a22 :: a23 :: a24 :: z :: l) k = k (a0 :: a1 :: a2 :: a3 :: a4 :: a5 :: a6 :: a7 :: a8 :: a9 :: a10 :: a11 :: a12 :: a13 :: a14 :: a15 :: a16 :: a17 :: a18 :: a19 :: a20 :: a21 :: a22 :: a23 :: a24 :: s :: l) := rfl
theorem p_rv25 : rdV 25 (a0 :: a1 :: a2 :: a3 :: a4 :: a5 :: a6 :: a7 :: a8 :: a9 :: a10 :: a11 :: a12 :: a13 :: a14 :: a15 :: a16 :: a17 :: a18 :: a19 :: a20 :: a21 :: a22 :: a23 :: a24 :: .v x :: l) R = R x := rfl
theorem p_ro25 : rdOw 25 (a0 :: a1 :: a2 :: a3 :: a4 :: a5 :: a6 :: a7 :: a8 :: a9 :: a10 :: a11 :: a12 :: a13 :: a14 :: a15 :: a16 :: a17 :: a18 :: a19 :: a20 :: a21 :: a22 :: a23 :: a24 :: .v x :: l) R = R x := rfl
theorem p_rp25 : rdOw 25 (a0 :: a1 :: a2 :: a3 :: a4 :: a5 :: a6 :: a7 :: a8 :: a9 :: a10 :: a11 :: a12 :: a13 :: a14 :: a15 :: a16 :: a17 :: a18 :: a19 :: a20 :: a21 :: a22 :: a23 :: a24 :: .own xs :: l) R = R (.d (.list xs)) := rfl
theorem p_rw25 : rdW 25 (a0 :: a1 :: a2 :: a3 :: a4 :: a5 :: a6 :: a7 :: a8 :: a9 :: a10 :: a11 :: a12 :: a13 :: a14 :: a15 :: a16 :: a17 :: a18 :: a19 :: a20 :: a21 :: a22 :: a23 :: a24 :: .own xs :: l) Rl = Rl xs := rfl
end
end Wb
/-! Wb20: three names at once, new lists among what they get (printed by wip/mk20.py). -/
namespace Wb
open PySem PySem.Spec PyProof.Rows L2
def gParNND (i j l : Nat) (f1 : DN) (f2 : DN) (f3 : DE) : DS := fun D ρ => f1 ρ (fun a => f2 ρ (fun b => f3 ρ (fun c => D.nx (((ρ.set i (.own a)).set j (.own b)).set l (.v c))) (D.ex ρ)) (D.ex ρ)) (D.ex ρ)
theorem spNND {X : Cx} {n : En} {W : WX} {κ κ' κ2 k : Nat} {a b c : Expr} {pos : Pos} {f1 : DN} {f2 : DN} {f3 : DE} (C : Cok X n W k) (i j l : Nat) {x y z : Str} {px py pz pt : Pos} {kt k2 : Nat} {pt2 : Pos} (ha : JN X n W κ a f1) (hb : JN X n W κ' b f2) (hcc : JE X n W κ2 c f3)
    (hi : X.N[i]? = some x := by rfl) (hj : X.N[j]? = some y := by rfl) (hl : X.N[l]? = some z := by rfl) (hij : i ≠ j := by decide) (hil : i ≠ l := by decide) (hjl : j ≠ l := by decide) 
    (hxx : X.env.scope.names.lookup x = some .local := by rfl) (hxy : X.env.scope.names.lookup y = some .local := by rfl) (hxz : X.env.scope.names.lookup z = some .local := by rfl) 
    (hs1 : starEach [a, b, c] X.env = (false, eval a X.env) :: starEach [b, c] X.env := by rfl) (hs2 : starEach [b, c] X.env = (false, eval b X.env) :: starEach [c] X.env := by rfl) (hs3 : starEach [c] X.env = (false, eval c X.env) :: starEach [] X.env := by rfl) 
    (hw : swappedStores [.Tuple [.Name x px, .Name y py, .Name z pz] kt pt] (.Tuple [a, b, c] k2 pt2) X.env = pure (some [x, y, z]) := by rfl) (hs : swapsWithSole [.Tuple [.Name x px, .Name y py, .Name z pz] kt pt] (.Tuple [a, b, c] k2 pt2) pos.line X.env = pure false := by rfl) (hpa : ∀ a, n.pa a := by exact fun _ => trivial) :
    JS X n W (κ + (κ' + κ2)) (.Assign [.Tuple [.Name x px, .Name y py, .Name z pz] kt pt] (.Tuple [a, b, c] k2 pt2) pos) (gParNND i j l f1 f2 f3) := by
  refine PS.to (ps_par3 C.calm C.nd hi hj hl hij hil hjl hxx hxy hxz (pa_cons ha (pa_cons hb (pa_cons hcc pa_nil hs3) hs2) hs1) hw hs) fun D σ H ⟨m, S, ρ, Dd, st0, hg, ks⟩ => ?_
  refine ⟨m + (κ' + κ2), S, ρ, _, _, st_split st0, hg, fun v1 p1 w1 S1 H1 hq1 st1 po1 np1 sp1 hp1 d1 => ?_, (ks.up (by omega)).ke⟩
  refine ⟨m + κ2, S1, ρ, _, _, st_split st1, hq1, fun v2 p2 w2 S2 H2 hq2 st2 po2 np2 sp2 hp2 d2 => ?_, ((ks.up (by omega)).af po1.sS).ke⟩
  refine ⟨m, S2, ρ, _, _, st2, hq2, fun v3 w3 S3 H3 hq3 st3 po3 d3 => ?_, ((ks.af po1.sS).af po2.sS).ke⟩
  exact ⟨_, _, _, rfl, ks.nx _ _ S3 H3 hq3 ((own_new (i := j) (own_new (i := i) st0 st1 np1 sp1 hp1 d1 hpa) (own_new (i := i) st0 st3 np1 (po3.fr p1 (by rw [(po2.kp p1 _ hp1 (wl_ne st0 np1))]; exact Option.some_ne_none _) (po2.fr p1 (by rw [hp1]; exact Option.some_ne_none _) sp1)) (po3.kp p1 _ (po2.kp p1 _ hp1 (wl_ne st0 np1)) (wl_ne st0 np1)) (dqAll_mono po3.sS (dqAll_mono po2.sS d1)) hpa) np2 (po3.fr p2 (by rw [hp2]; exact Option.some_ne_none _) sp2) (po3.kp p2 _ hp2 (wl_ne st1 np2)) (dqAll_mono po3.sS d2) hpa).set (i := l) d3) ((po1.sS.trans po2.sS).trans po3.sS)⟩
def gParDND (i j l : Nat) (f1 : DE) (f2 : DN) (f3 : DE) : DS := fun D ρ => f1 ρ (fun a => f2 ρ (fun b => f3 ρ (fun c => D.nx (((ρ.set i (.v a)).set j (.own b)).set l (.v c))) (D.ex ρ)) (D.ex ρ)) (D.ex ρ)
theorem spDND {X : Cx} {n : En} {W : WX} {κ κ' κ2 k : Nat} {a b c : Expr} {pos : Pos} {f1 : DE} {f2 : DN} {f3 : DE} (C : Cok X n W k) (i j l : Nat) {x y z : Str} {px py pz pt : Pos} {kt k2 : Nat} {pt2 : Pos} (ha : JE X n W κ a f1) (hb : JN X n W κ' b f2) (hcc : JE X n W κ2 c f3)
    (hi : X.N[i]? = some x := by rfl) (hj : X.N[j]? = some y := by rfl) (hl : X.N[l]? = some z := by rfl) (hij : i ≠ j := by decide) (hil : i ≠ l := by decide) (hjl : j ≠ l := by decide) 
    (hxx : X.env.scope.names.lookup x = some .local := by rfl) (hxy : X.env.scope.names.lookup y = some .local := by rfl) (hxz : X.env.scope.names.lookup z = some .local := by rfl) 
    (hs1 : starEach [a, b, c] X.env = (false, eval a X.env) :: starEach [b, c] X.env := by rfl) (hs2 : starEach [b, c] X.env = (false, eval b X.env) :: starEach [c] X.env := by rfl) (hs3 : starEach [c] X.env = (false, eval c X.env) :: starEach [] X.env := by rfl) 
    (hw : swappedStores [.Tuple [.Name x px, .Name y py, .Name z pz] kt pt] (.Tuple [a, b, c] k2 pt2) X.env = pure (some [x, y, z]) := by rfl) (hs : swapsWithSole [.Tuple [.Name x px, .Name y py, .Name z pz] kt pt] (.Tuple [a, b, c] k2 pt2) pos.line X.env = pure false := by rfl) (hpa : ∀ a, n.pa a := by exact fun _ => trivial) :
    JS X n W (κ + (κ' + κ2)) (.Assign [.Tuple [.Name x px, .Name y py, .Name z pz] kt pt] (.Tuple [a, b, c] k2 pt2) pos) (gParDND i j l f1 f2 f3) := by
  refine PS.to (ps_par3 C.calm C.nd hi hj hl hij hil hjl hxx hxy hxz (pa_cons ha (pa_cons hb (pa_cons hcc pa_nil hs3) hs2) hs1) hw hs) fun D σ H ⟨m, S, ρ, Dd, st0, hg, ks⟩ => ?_
  refine ⟨m + (κ' + κ2), S, ρ, _, _, st_split st0, hg, fun v1 w1 S1 H1 hq1 st1 po1 d1 => ?_, (ks.up (by omega)).ke⟩
  refine ⟨m + κ2, S1, ρ, _, _, st_split st1, hq1, fun v2 p2 w2 S2 H2 hq2 st2 po2 np2 sp2 hp2 d2 => ?_, ((ks.up (by omega)).af po1.sS).ke⟩
  refine ⟨m, S2, ρ, _, _, st2, hq2, fun v3 w3 S3 H3 hq3 st3 po3 d3 => ?_, ((ks.af po1.sS).af po2.sS).ke⟩
  exact ⟨_, _, _, rfl, ks.nx _ _ S3 H3 hq3 ((own_new (i := j) (st1.set (i := i) d1) (st3.set (i := i) (dv_mono po3.sS (dv_mono po2.sS d1))) np2 (po3.fr p2 (by rw [hp2]; exact Option.some_ne_none _) sp2) (po3.kp p2 _ hp2 (wl_ne st1 np2)) (dqAll_mono po3.sS d2) hpa).set (i := l) d3) ((po1.sS.trans po2.sS).trans po3.sS)⟩
def gParNDD (i j l : Nat) (f1 : DN) (f2 : DE) (f3 : DE) : DS := fun D ρ => f1 ρ (fun a => f2 ρ (fun b => f3 ρ (fun c => D.nx (((ρ.set i (.own a)).set j (.v b)).set l (.v c))) (D.ex ρ)) (D.ex ρ)) (D.ex ρ)
theorem spNDD {X : Cx} {n : En} {W : WX} {κ κ' κ2 k : Nat} {a b c : Expr} {pos : Pos} {f1 : DN} {f2 : DE} {f3 : DE} (C : Cok X n W k) (i j l : Nat) {x y z : Str} {px py pz pt : Pos} {kt k2 : Nat} {pt2 : Pos} (ha : JN X n W κ a f1) (hb : JE X n W κ' b f2) (hcc : JE X n W κ2 c f3)
    (hi : X.N[i]? = some x := by rfl) (hj : X.N[j]? = some y := by rfl) (hl : X.N[l]? = some z := by rfl) (hij : i ≠ j := by decide) (hil : i ≠ l := by decide) (hjl : j ≠ l := by decide) 
    (hxx : X.env.scope.names.lookup x = some .local := by rfl) (hxy : X.env.scope.names.lookup y = some .local := by rfl) (hxz : X.env.scope.names.lookup z = some .local := by rfl) 
    (hs1 : starEach [a, b, c] X.env = (false, eval a X.env) :: starEach [b, c] X.env := by rfl) (hs2 : starEach [b, c] X.env = (false, eval b X.env) :: starEach [c] X.env := by rfl) (hs3 : starEach [c] X.env = (false, eval c X.env) :: starEach [] X.env := by rfl) 
    (hw : swappedStores [.Tuple [.Name x px, .Name y py, .Name z pz] kt pt] (.Tuple [a, b, c] k2 pt2) X.env = pure (some [x, y, z]) := by rfl) (hs : swapsWithSole [.Tuple [.Name x px, .Name y py, .Name z pz] kt pt] (.Tuple [a, b, c] k2 pt2) pos.line X.env = pure false := by rfl) (hpa : ∀ a, n.pa a := by exact fun _ => trivial) :
    JS X n W (κ + (κ' + κ2)) (.Assign [.Tuple [.Name x px, .Name y py, .Name z pz] kt pt] (.Tuple [a, b, c] k2 pt2) pos) (gParNDD i j l f1 f2 f3) := by
  refine PS.to (ps_par3 C.calm C.nd hi hj hl hij hil hjl hxx hxy hxz (pa_cons ha (pa_cons hb (pa_cons hcc pa_nil hs3) hs2) hs1) hw hs) fun D σ H ⟨m, S, ρ, Dd, st0, hg, ks⟩ => ?_
  refine ⟨m + (κ' + κ2), S, ρ, _, _, st_split st0, hg, fun v1 p1 w1 S1 H1 hq1 st1 po1 np1 sp1 hp1 d1 => ?_, (ks.up (by omega)).ke⟩
  refine ⟨m + κ2, S1, ρ, _, _, st_split st1, hq1, fun v2 w2 S2 H2 hq2 st2 po2 d2 => ?_, ((ks.up (by omega)).af po1.sS).ke⟩
  refine ⟨m, S2, ρ, _, _, st2, hq2, fun v3 w3 S3 H3 hq3 st3 po3 d3 => ?_, ((ks.af po1.sS).af po2.sS).ke⟩
  exact ⟨_, _, _, rfl, ks.nx _ _ S3 H3 hq3 (((own_new (i := i) st0 st3 np1 (po3.fr p1 (by rw [(po2.kp p1 _ hp1 (wl_ne st0 np1))]; exact Option.some_ne_none _) (po2.fr p1 (by rw [hp1]; exact Option.some_ne_none _) sp1)) (po3.kp p1 _ (po2.kp p1 _ hp1 (wl_ne st0 np1)) (wl_ne st0 np1)) (dqAll_mono po3.sS (dqAll_mono po2.sS d1)) hpa).set (i := j) (dv_mono po3.sS d2)).set (i := l) d3) ((po1.sS.trans po2.sS).trans po3.sS)⟩
def gParNNN (i j l : Nat) (f1 : DN) (f2 : DN) (f3 : DN) : DS := fun D ρ => f1 ρ (fun a => f2 ρ (fun b => f3 ρ (fun c => D.nx (((ρ.set i (.own a)).set j (.own b)).set l (.own c))) (D.ex ρ)) (D.ex ρ)) (D.ex ρ)
theorem spNNN {X : Cx} {n : En} {W : WX} {κ κ' κ2 k : Nat} {a b c : Expr} {pos : Pos} {f1 : DN} {f2 : DN} {f3 : DN} (C : Cok X n W k) (i j l : Nat) {x y z : Str} {px py pz pt : Pos} {kt k2 : Nat} {pt2 : Pos} (ha : JN X n W κ a f1) (hb : JN X n W κ' b f2) (hcc : JN X n W κ2 c f3)
    (hi : X.N[i]? = some x := by rfl) (hj : X.N[j]? = some y := by rfl) (hl : X.N[l]? = some z := by rfl) (hij : i ≠ j := by decide) (hil : i ≠ l := by decide) (hjl : j ≠ l := by decide) 
    (hxx : X.env.scope.names.lookup x = some .local := by rfl) (hxy : X.env.scope.names.lookup y = some .local := by rfl) (hxz : X.env.scope.names.lookup z = some .local := by rfl) 
    (hs1 : starEach [a, b, c] X.env = (false, eval a X.env) :: starEach [b, c] X.env := by rfl) (hs2 : starEach [b, c] X.env = (false, eval b X.env) :: starEach [c] X.env := by rfl) (hs3 : starEach [c] X.env = (false, eval c X.env) :: starEach [] X.env := by rfl) 
    (hw : swappedStores [.Tuple [.Name x px, .Name y py, .Name z pz] kt pt] (.Tuple [a, b, c] k2 pt2) X.env = pure (some [x, y, z]) := by rfl) (hs : swapsWithSole [.Tuple [.Name x px, .Name y py, .Name z pz] kt pt] (.Tuple [a, b, c] k2 pt2) pos.line X.env = pure false := by rfl) (hpa : ∀ a, n.pa a := by exact fun _ => trivial) :
    JS X n W (κ + (κ' + κ2)) (.Assign [.Tuple [.Name x px, .Name y py, .Name z pz] kt pt] (.Tuple [a, b, c] k2 pt2) pos) (gParNNN i j l f1 f2 f3) := by
  refine PS.to (ps_par3 C.calm C.nd hi hj hl hij hil hjl hxx hxy hxz (pa_cons ha (pa_cons hb (pa_cons hcc pa_nil hs3) hs2) hs1) hw hs) fun D σ H ⟨m, S, ρ, Dd, st0, hg, ks⟩ => ?_
  refine ⟨m + (κ' + κ2), S, ρ, _, _, st_split st0, hg, fun v1 p1 w1 S1 H1 hq1 st1 po1 np1 sp1 hp1 d1 => ?_, (ks.up (by omega)).ke⟩
  refine ⟨m + κ2, S1, ρ, _, _, st_split st1, hq1, fun v2 p2 w2 S2 H2 hq2 st2 po2 np2 sp2 hp2 d2 => ?_, ((ks.up (by omega)).af po1.sS).ke⟩
  refine ⟨m, S2, ρ, _, _, st2, hq2, fun v3 p3 w3 S3 H3 hq3 st3 po3 np3 sp3 hp3 d3 => ?_, ((ks.af po1.sS).af po2.sS).ke⟩
  exact ⟨_, _, _, rfl, ks.nx _ _ S3 H3 hq3 (own_new (i := l) (own_new (i := j) (own_new (i := i) st0 st1 np1 sp1 hp1 d1 hpa) (own_new (i := i) st0 st2 np1 (po2.fr p1 (by rw [hp1]; exact Option.some_ne_none _) sp1) (po2.kp p1 _ hp1 (wl_ne st0 np1)) (dqAll_mono po2.sS d1) hpa) np2 sp2 hp2 d2 hpa) (own_new (i := j) (own_new (i := i) st0 st1 np1 sp1 hp1 d1 hpa) (own_new (i := i) st0 st3 np1 (po3.fr p1 (by rw [(po2.kp p1 _ hp1 (wl_ne st0 np1))]; exact Option.some_ne_none _) (po2.fr p1 (by rw [hp1]; exact Option.some_ne_none _) sp1)) (po3.kp p1 _ (po2.kp p1 _ hp1 (wl_ne st0 np1)) (wl_ne st0 np1)) (dqAll_mono po3.sS (dqAll_mono po2.sS d1)) hpa) np2 (po3.fr p2 (by rw [hp2]; exact Option.some_ne_none _) sp2) (po3.kp p2 _ hp2 (wl_ne st1 np2)) (dqAll_mono po3.sS d2) hpa) np3 sp3 hp3 d3 hpa) ((po1.sS.trans po2.sS).trans po3.sS)⟩
def gParDDN (i j l : Nat) (f1 : DE) (f2 : DE) (f3 : DN) : DS := fun D ρ => f1 ρ (fun a => f2 ρ (fun b => f3 ρ (fun c => D.nx (((ρ.set i (.v a)).set j (.v b)).set l (.own c))) (D.ex ρ)) (D.ex ρ)) (D.ex ρ)
theorem spDDN {X : Cx} {n : En} {W : WX} {κ κ' κ2 k : Nat} {a b c : Expr} {pos : Pos} {f1 : DE} {f2 : DE} {f3 : DN} (C : Cok X n W k) (i j l : Nat) {x y z : Str} {px py pz pt : Pos} {kt k2 : Nat} {pt2 : Pos} (ha : JE X n W κ a f1) (hb : JE X n W κ' b f2) (hcc : JN X n W κ2 c f3)
    (hi : X.N[i]? = some x := by rfl) (hj : X.N[j]? = some y := by rfl) (hl : X.N[l]? = some z := by rfl) (hij : i ≠ j := by decide) (hil : i ≠ l := by decide) (hjl : j ≠ l := by decide) 
    (hxx : X.env.scope.names.lookup x = some .local := by rfl) (hxy : X.env.scope.names.lookup y = some .local := by rfl) (hxz : X.env.scope.names.lookup z = some .local := by rfl) 
    (hs1 : starEach [a, b, c] X.env = (false, eval a X.env) :: starEach [b, c] X.env := by rfl) (hs2 : starEach [b, c] X.env = (false, eval b X.env) :: starEach [c] X.env := by rfl) (hs3 : starEach [c] X.env = (false, eval c X.env) :: starEach [] X.env := by rfl) 
    (hw : swappedStores [.Tuple [.Name x px, .Name y py, .Name z pz] kt pt] (.Tuple [a, b, c] k2 pt2) X.env = pure (some [x, y, z]) := by rfl) (hs : swapsWithSole [.Tuple [.Name x px, .Name y py, .Name z pz] kt pt] (.Tuple [a, b, c] k2 pt2) pos.line X.env = pure false := by rfl) (hpa : ∀ a, n.pa a := by exact fun _ => trivial) :
    JS X n W (κ + (κ' + κ2)) (.Assign [.Tuple [.Name x px, .Name y py, .Name z pz] kt pt] (.Tuple [a, b, c] k2 pt2) pos) (gParDDN i j l f1 f2 f3) := by
  refine PS.to (ps_par3 C.calm C.nd hi hj hl hij hil hjl hxx hxy hxz (pa_cons ha (pa_cons hb (pa_cons hcc pa_nil hs3) hs2) hs1) hw hs) fun D σ H ⟨m, S, ρ, Dd, st0, hg, ks⟩ => ?_
  refine ⟨m + (κ' + κ2), S, ρ, _, _, st_split st0, hg, fun v1 w1 S1 H1 hq1 st1 po1 d1 => ?_, (ks.up (by omega)).ke⟩
  refine ⟨m + κ2, S1, ρ, _, _, st_split st1, hq1, fun v2 w2 S2 H2 hq2 st2 po2 d2 => ?_, ((ks.up (by omega)).af po1.sS).ke⟩
  refine ⟨m, S2, ρ, _, _, st2, hq2, fun v3 p3 w3 S3 H3 hq3 st3 po3 np3 sp3 hp3 d3 => ?_, ((ks.af po1.sS).af po2.sS).ke⟩
  exact ⟨_, _, _, rfl, ks.nx _ _ S3 H3 hq3 (own_new (i := l) ((st2.set (i := i) (dv_mono po2.sS d1)).set (i := j) d2) ((st3.set (i := i) (dv_mono po3.sS (dv_mono po2.sS d1))).set (i := j) (dv_mono po3.sS d2)) np3 sp3 hp3 d3 hpa) ((po1.sS.trans po2.sS).trans po3.sS)⟩
def gParNDN (i j l : Nat) (f1 : DN) (f2 : DE) (f3 : DN) : DS := fun D ρ => f1 ρ (fun a => f2 ρ (fun b => f3 ρ (fun c => D.nx (((ρ.set i (.own a)).set j (.v b)).set l (.own c))) (D.ex ρ)) (D.ex ρ)) (D.ex ρ)
theorem spNDN {X : Cx} {n : En} {W : WX} {κ κ' κ2 k : Nat} {a b c : Expr} {pos : Pos} {f1 : DN} {f2 : DE} {f3 : DN} (C : Cok X n W k) (i j l : Nat) {x y z : Str} {px py pz pt : Pos} {kt k2 : Nat} {pt2 : Pos} (ha : JN X n W κ a f1) (hb : JE X n W κ' b f2) (hcc : JN X n W κ2 c f3)
    (hi : X.N[i]? = some x := by rfl) (hj : X.N[j]? = some y := by rfl) (hl : X.N[l]? = some z := by rfl) (hij : i ≠ j := by decide) (hil : i ≠ l := by decide) (hjl : j ≠ l := by decide) 
    (hxx : X.env.scope.names.lookup x = some .local := by rfl) (hxy : X.env.scope.names.lookup y = some .local := by rfl) (hxz : X.env.scope.names.lookup z = some .local := by rfl) 
    (hs1 : starEach [a, b, c] X.env = (false, eval a X.env) :: starEach [b, c] X.env := by rfl) (hs2 : starEach [b, c] X.env = (false, eval b X.env) :: starEach [c] X.env := by rfl) (hs3 : starEach [c] X.env = (false, eval c X.env) :: starEach [] X.env := by rfl) 
    (hw : swappedStores [.Tuple [.Name x px, .Name y py, .Name z pz] kt pt] (.Tuple [a, b, c] k2 pt2) X.env = pure (some [x, y, z]) := by rfl) (hs : swapsWithSole [.Tuple [.Name x px, .Name y py, .Name z pz] kt pt] (.Tuple [a, b, c] k2 pt2) pos.line X.env = pure false := by rfl) (hpa : ∀ a, n.pa a := by exact fun _ => trivial) :
    JS X n W (κ + (κ' + κ2)) (.Assign [.Tuple [.Name x px, .Name y py, .Name z pz] kt pt] (.Tuple [a, b, c] k2 pt2) pos) (gParNDN i j l f1 f2 f3) := by
  refine PS.to (ps_par3 C.calm C.nd hi hj hl hij hil hjl hxx hxy hxz (pa_cons ha (pa_cons hb (pa_cons hcc pa_nil hs3) hs2) hs1) hw hs) fun D σ H ⟨m, S, ρ, Dd, st0, hg, ks⟩ => ?_
  refine ⟨m + (κ' + κ2), S, ρ, _, _, st_split st0, hg, fun v1 p1 w1 S1 H1 hq1 st1 po1 np1 sp1 hp1 d1 => ?_, (ks.up (by omega)).ke⟩
  refine ⟨m + κ2, S1, ρ, _, _, st_split st1, hq1, fun v2 w2 S2 H2 hq2 st2 po2 d2 => ?_, ((ks.up (by omega)).af po1.sS).ke⟩
  refine ⟨m, S2, ρ, _, _, st2, hq2, fun v3 p3 w3 S3 H3 hq3 st3 po3 np3 sp3 hp3 d3 => ?_, ((ks.af po1.sS).af po2.sS).ke⟩
  exact ⟨_, _, _, rfl, ks.nx _ _ S3 H3 hq3 (own_new (i := l) ((own_new (i := i) st0 st2 np1 (po2.fr p1 (by rw [hp1]; exact Option.some_ne_none _) sp1) (po2.kp p1 _ hp1 (wl_ne st0 np1)) (dqAll_mono po2.sS d1) hpa).set (i := j) d2) ((own_new (i := i) st0 st3 np1 (po3.fr p1 (by rw [(po2.kp p1 _ hp1 (wl_ne st0 np1))]; exact Option.some_ne_none _) (po2.fr p1 (by rw [hp1]; exact Option.some_ne_none _) sp1)) (po3.kp p1 _ (po2.kp p1 _ hp1 (wl_ne st0 np1)) (wl_ne st0 np1)) (dqAll_mono po3.sS (dqAll_mono po2.sS d1)) hpa).set (i := j) (dv_mono po3.sS d2)) np3 sp3 hp3 d3 hpa) ((po1.sS.trans po2.sS).trans po3.sS)⟩
end Wb
/-! Wb22: the same where names are cells: by a tuple and its unpacking (printed by wip/mk20.py). -/
namespace Wb
open PySem PySem.Spec PyProof.Rows L2
theorem cpNN {X : Cx} {n : En} {W : WX} {κ κ' k : Nat} {a b : Expr} {pos : Pos} {f1 : DN} {f2 : DN} (C : Cok X n W k) (i j : Nat) {x y : Str} {px py pt : Pos} {kt k2 : Nat} {pt2 : Pos} (ha : JN X n W κ a f1) (hb : JN X n W κ' b f2)
    (hi : X.N[i]? = some x := by rfl) (hj : X.N[j]? = some y := by rfl) (hij : i ≠ j := by decide) 
    (hxx : Loc X.env.scope x := by first | exact .inl rfl | exact .inr rfl) (hfx : X.fn x = true ∨ X.env.scope.names.lookup x = some .local := by first | exact .inr rfl | exact .inl rfl) (hxy : Loc X.env.scope y := by first | exact .inl rfl | exact .inr rfl) (hfy : X.fn y = true ∨ X.env.scope.names.lookup y = some .local := by first | exact .inr rfl | exact .inl rfl) 
    (hs1 : starEach [a, b] X.env = (false, eval a X.env) :: starEach [b] X.env := by rfl) (hs2 : starEach [b] X.env = (false, eval b X.env) :: starEach [] X.env := by rfl) 
    (hg1 : (assignEach [.Name x px, .Name y py] X.env).map (·.2) = assign (.Name x px) X.env :: (assignEach [.Name y py] X.env).map (·.2) := by rfl) (hg2 : (assignEach [.Name y py] X.env).map (·.2) = assign (.Name y py) X.env :: (assignEach [] X.env).map (·.2) := by rfl) (hgn : (assignEach [.Name x px, .Name y py] X.env).length = 2 := by rfl) (hst : (assignEach [.Name x px, .Name y py] X.env).findIdx? (·.1) = none := by rfl) (hw : swappedStores [.Tuple [.Name x px, .Name y py] kt pt] (.Tuple [a, b] k2 pt2) X.env = pure none := by rfl) (hs : swapsWithSole [.Tuple [.Name x px, .Name y py] kt pt] (.Tuple [a, b] k2 pt2) pos.line X.env = pure false := by rfl) (h1 : (assignEach [.Tuple [.Name x px, .Name y py] kt pt] X.env).map (·.2) = [assign (.Tuple [.Name x px, .Name y py] kt pt) X.env] := by rfl) (hpa : ∀ a, n.pa a := by exact fun _ => trivial) :
    JS X n W (κ + κ') (.Assign [.Tuple [.Name x px, .Name y py] kt pt] (.Tuple [a, b] k2 pt2) pos) (gParNN i j f1 f2) := by
  refine PS.to (ps_asg (pe_tup (pa_cons ha (pa_cons hb pa_nil hs2) hs1)) (pg_tup C.calm (pgs_cons (pg_name C.nd hi hxx hfx) (pgs_cons (pg_name C.nd hj hxy hfy) pgs_nil hg2) hg1) hgn hst) hs hw h1) fun D σ H ⟨m, S, ρ, Dd, st0, hg, ks⟩ => ?_
  refine ⟨m + κ', S, ρ, _, _, st_split st0, hg, fun v1 p1 w1 S1 H1 hq1 st1 po1 np1 sp1 hp1 d1 => ?_, (ks.up (by omega)).ke⟩
  refine ⟨m, S1, ρ, _, _, st1, hq1, fun v2 p2 w2 S2 H2 hq2 st2 po2 np2 sp2 hp2 d2 => ?_, (ks.af po1.sS).ke⟩
  refine ⟨by show 2 ≤ sizeLine; decide, fun T hT => ?_⟩
  have fin := (own_new (i := j) (own_new (i := i) st0 st1 np1 sp1 hp1 d1 hpa) (own_new (i := i) st0 st2 np1 (po2.fr p1 (by rw [hp1]; exact Option.some_ne_none _) sp1) (po2.kp p1 _ hp1 (wl_ne st0 np1)) (dqAll_mono po2.sS d1) hpa) np2 sp2 hp2 d2 hpa)
  exact ⟨_, _, rfl, SqT.of upd_same, rfl, ⟨_, _, rfl, ⟨_, _, rfl, ⟨rfl, ks.nx _ _ S2 _ hq2 (fin.grow (Grow.beside fin.wd.sm hT)) (po1.sS.trans po2.sS)⟩⟩⟩⟩
theorem cpDN {X : Cx} {n : En} {W : WX} {κ κ' k : Nat} {a b : Expr} {pos : Pos} {f1 : DE} {f2 : DN} (C : Cok X n W k) (i j : Nat) {x y : Str} {px py pt : Pos} {kt k2 : Nat} {pt2 : Pos} (ha : JE X n W κ a f1) (hb : JN X n W κ' b f2)
    (hi : X.N[i]? = some x := by rfl) (hj : X.N[j]? = some y := by rfl) (hij : i ≠ j := by decide) 
    (hxx : Loc X.env.scope x := by first | exact .inl rfl | exact .inr rfl) (hfx : X.fn x = true ∨ X.env.scope.names.lookup x = some .local := by first | exact .inr rfl | exact .inl rfl) (hxy : Loc X.env.scope y := by first | exact .inl rfl | exact .inr rfl) (hfy : X.fn y = true ∨ X.env.scope.names.lookup y = some .local := by first | exact .inr rfl | exact .inl rfl) 
    (hs1 : starEach [a, b] X.env = (false, eval a X.env) :: starEach [b] X.env := by rfl) (hs2 : starEach [b] X.env = (false, eval b X.env) :: starEach [] X.env := by rfl) 
    (hg1 : (assignEach [.Name x px, .Name y py] X.env).map (·.2) = assign (.Name x px) X.env :: (assignEach [.Name y py] X.env).map (·.2) := by rfl) (hg2 : (assignEach [.Name y py] X.env).map (·.2) = assign (.Name y py) X.env :: (assignEach [] X.env).map (·.2) := by rfl) (hgn : (assignEach [.Name x px, .Name y py] X.env).length = 2 := by rfl) (hst : (assignEach [.Name x px, .Name y py] X.env).findIdx? (·.1) = none := by rfl) (hw : swappedStores [.Tuple [.Name x px, .Name y py] kt pt] (.Tuple [a, b] k2 pt2) X.env = pure none := by rfl) (hs : swapsWithSole [.Tuple [.Name x px, .Name y py] kt pt] (.Tuple [a, b] k2 pt2) pos.line X.env = pure false := by rfl) (h1 : (assignEach [.Tuple [.Name x px, .Name y py] kt pt] X.env).map (·.2) = [assign (.Tuple [.Name x px, .Name y py] kt pt) X.env] := by rfl) (hpa : ∀ a, n.pa a := by exact fun _ => trivial) :
    JS X n W (κ + κ') (.Assign [.Tuple [.Name x px, .Name y py] kt pt] (.Tuple [a, b] k2 pt2) pos) (gParDN i j f1 f2) := by
  refine PS.to (ps_asg (pe_tup (pa_cons ha (pa_cons hb pa_nil hs2) hs1)) (pg_tup C.calm (pgs_cons (pg_name C.nd hi hxx hfx) (pgs_cons (pg_name C.nd hj hxy hfy) pgs_nil hg2) hg1) hgn hst) hs hw h1) fun D σ H ⟨m, S, ρ, Dd, st0, hg, ks⟩ => ?_
  refine ⟨m + κ', S, ρ, _, _, st_split st0, hg, fun v1 w1 S1 H1 hq1 st1 po1 d1 => ?_, (ks.up (by omega)).ke⟩
  refine ⟨m, S1, ρ, _, _, st1, hq1, fun v2 p2 w2 S2 H2 hq2 st2 po2 np2 sp2 hp2 d2 => ?_, (ks.af po1.sS).ke⟩
  refine ⟨by show 2 ≤ sizeLine; decide, fun T hT => ?_⟩
  have fin := (own_new (i := j) (st1.set (i := i) d1) (st2.set (i := i) (dv_mono po2.sS d1)) np2 sp2 hp2 d2 hpa)
  exact ⟨_, _, rfl, SqT.of upd_same, rfl, ⟨_, _, rfl, ⟨_, _, rfl, ⟨rfl, ks.nx _ _ S2 _ hq2 (fin.grow (Grow.beside fin.wd.sm hT)) (po1.sS.trans po2.sS)⟩⟩⟩⟩
theorem cpND {X : Cx} {n : En} {W : WX} {κ κ' k : Nat} {a b : Expr} {pos : Pos} {f1 : DN} {f2 : DE} (C : Cok X n W k) (i j : Nat) {x y : Str} {px py pt : Pos} {kt k2 : Nat} {pt2 : Pos} (ha : JN X n W κ a f1) (hb : JE X n W κ' b f2)
    (hi : X.N[i]? = some x := by rfl) (hj : X.N[j]? = some y := by rfl) (hij : i ≠ j := by decide) 
    (hxx : Loc X.env.scope x := by first | exact .inl rfl | exact .inr rfl) (hfx : X.fn x = true ∨ X.env.scope.names.lookup x = some .local := by first | exact .inr rfl | exact .inl rfl) (hxy : Loc X.env.scope y := by first | exact .inl rfl | exact .inr rfl) (hfy : X.fn y = true ∨ X.env.scope.names.lookup y = some .local := by first | exact .inr rfl | exact .inl rfl) 
    (hs1 : starEach [a, b] X.env = (false, eval a X.env) :: starEach [b] X.env := by rfl) (hs2 : starEach [b] X.env = (false, eval b X.env) :: starEach [] X.env := by rfl) 
    (hg1 : (assignEach [.Name x px, .Name y py] X.env).map (·.2) = assign (.Name x px) X.env :: (assignEach [.Name y py] X.env).map (·.2) := by rfl) (hg2 : (assignEach [.Name y py] X.env).map (·.2) = assign (.Name y py) X.env :: (assignEach [] X.env).map (·.2) := by rfl) (hgn : (assignEach [.Name x px, .Name y py] X.env).length = 2 := by rfl) (hst : (assignEach [.Name x px, .Name y py] X.env).findIdx? (·.1) = none := by rfl) (hw : swappedStores [.Tuple [.Name x px, .Name y py] kt pt] (.Tuple [a, b] k2 pt2) X.env = pure none := by rfl) (hs : swapsWithSole [.Tuple [.Name x px, .Name y py] kt pt] (.Tuple [a, b] k2 pt2) pos.line X.env = pure false := by rfl) (h1 : (assignEach [.Tuple [.Name x px, .Name y py] kt pt] X.env).map (·.2) = [assign (.Tuple [.Name x px, .Name y py] kt pt) X.env] := by rfl) (hpa : ∀ a, n.pa a := by exact fun _ => trivial) :
    JS X n W (κ + κ') (.Assign [.Tuple [.Name x px, .Name y py] kt pt] (.Tuple [a, b] k2 pt2) pos) (gParND i j f1 f2) := by
  refine PS.to (ps_asg (pe_tup (pa_cons ha (pa_cons hb pa_nil hs2) hs1)) (pg_tup C.calm (pgs_cons (pg_name C.nd hi hxx hfx) (pgs_cons (pg_name C.nd hj hxy hfy) pgs_nil hg2) hg1) hgn hst) hs hw h1) fun D σ H ⟨m, S, ρ, Dd, st0, hg, ks⟩ => ?_
  refine ⟨m + κ', S, ρ, _, _, st_split st0, hg, fun v1 p1 w1 S1 H1 hq1 st1 po1 np1 sp1 hp1 d1 => ?_, (ks.up (by omega)).ke⟩
  refine ⟨m, S1, ρ, _, _, st1, hq1, fun v2 w2 S2 H2 hq2 st2 po2 d2 => ?_, (ks.af po1.sS).ke⟩
  refine ⟨by show 2 ≤ sizeLine; decide, fun T hT => ?_⟩
  have fin := ((own_new (i := i) st0 st2 np1 (po2.fr p1 (by rw [hp1]; exact Option.some_ne_none _) sp1) (po2.kp p1 _ hp1 (wl_ne st0 np1)) (dqAll_mono po2.sS d1) hpa).set (i := j) d2)
  exact ⟨_, _, rfl, SqT.of upd_same, rfl, ⟨_, _, rfl, ⟨_, _, rfl, ⟨rfl, ks.nx _ _ S2 _ hq2 (fin.grow (Grow.beside fin.wd.sm hT)) (po1.sS.trans po2.sS)⟩⟩⟩⟩
theorem cpNND {X : Cx} {n : En} {W : WX} {κ κ' κ2 k : Nat} {a b c : Expr} {pos : Pos} {f1 : DN} {f2 : DN} {f3 : DE} (C : Cok X n W k) (i j l : Nat) {x y z : Str} {px py pz pt : Pos} {kt k2 : Nat} {pt2 : Pos} (ha : JN X n W κ a f1) (hb : JN X n W κ' b f2) (hcc : JE X n W κ2 c f3)
    (hi : X.N[i]? = some x := by rfl) (hj : X.N[j]? = some y := by rfl) (hl : X.N[l]? = some z := by rfl) (hij : i ≠ j := by decide) (hil : i ≠ l := by decide) (hjl : j ≠ l := by decide) 
    (hxx : Loc X.env.scope x := by first | exact .inl rfl | exact .inr rfl) (hfx : X.fn x = true ∨ X.env.scope.names.lookup x = some .local := by first | exact .inr rfl | exact .inl rfl) (hxy : Loc X.env.scope y := by first | exact .inl rfl | exact .inr rfl) (hfy : X.fn y = true ∨ X.env.scope.names.lookup y = some .local := by first | exact .inr rfl | exact .inl rfl) (hxz : Loc X.env.scope z := by first | exact .inl rfl | exact .inr rfl) (hfz : X.fn z = true ∨ X.env.scope.names.lookup z = some .local := by first | exact .inr rfl | exact .inl rfl) 
    (hs1 : starEach [a, b, c] X.env = (false, eval a X.env) :: starEach [b, c] X.env := by rfl) (hs2 : starEach [b, c] X.env = (false, eval b X.env) :: starEach [c] X.env := by rfl) (hs3 : starEach [c] X.env = (false, eval c X.env) :: starEach [] X.env := by rfl) 
    (hg1 : (assignEach [.Name x px, .Name y py, .Name z pz] X.env).map (·.2) = assign (.Name x px) X.env :: (assignEach [.Name y py, .Name z pz] X.env).map (·.2) := by rfl) (hg2 : (assignEach [.Name y py, .Name z pz] X.env).map (·.2) = assign (.Name y py) X.env :: (assignEach [.Name z pz] X.env).map (·.2) := by rfl) (hg3 : (assignEach [.Name z pz] X.env).map (·.2) = assign (.Name z pz) X.env :: (assignEach [] X.env).map (·.2) := by rfl) (hgn : (assignEach [.Name x px, .Name y py, .Name z pz] X.env).length = 3 := by rfl) (hst : (assignEach [.Name x px, .Name y py, .Name z pz] X.env).findIdx? (·.1) = none := by rfl) (hw : swappedStores [.Tuple [.Name x px, .Name y py, .Name z pz] kt pt] (.Tuple [a, b, c] k2 pt2) X.env = pure none := by rfl) (hs : swapsWithSole [.Tuple [.Name x px, .Name y py, .Name z pz] kt pt] (.Tuple [a, b, c] k2 pt2) pos.line X.env = pure false := by rfl) (h1 : (assignEach [.Tuple [.Name x px, .Name y py, .Name z pz] kt pt] X.env).map (·.2) = [assign (.Tuple [.Name x px, .Name y py, .Name z pz] kt pt) X.env] := by rfl) (hpa : ∀ a, n.pa a := by exact fun _ => trivial) :
    JS X n W (κ + (κ' + κ2)) (.Assign [.Tuple [.Name x px, .Name y py, .Name z pz] kt pt] (.Tuple [a, b, c] k2 pt2) pos) (gParNND i j l f1 f2 f3) := by
  refine PS.to (ps_asg (pe_tup (pa_cons ha (pa_cons hb (pa_cons hcc pa_nil hs3) hs2) hs1)) (pg_tup C.calm (pgs_cons (pg_name C.nd hi hxx hfx) (pgs_cons (pg_name C.nd hj hxy hfy) (pgs_cons (pg_name C.nd hl hxz hfz) pgs_nil hg3) hg2) hg1) hgn hst) hs hw h1) fun D σ H ⟨m, S, ρ, Dd, st0, hg, ks⟩ => ?_
  refine ⟨m + (κ' + κ2), S, ρ, _, _, st_split st0, hg, fun v1 p1 w1 S1 H1 hq1 st1 po1 np1 sp1 hp1 d1 => ?_, (ks.up (by omega)).ke⟩
  refine ⟨m + κ2, S1, ρ, _, _, st_split st1, hq1, fun v2 p2 w2 S2 H2 hq2 st2 po2 np2 sp2 hp2 d2 => ?_, ((ks.up (by omega)).af po1.sS).ke⟩
  refine ⟨m, S2, ρ, _, _, st2, hq2, fun v3 w3 S3 H3 hq3 st3 po3 d3 => ?_, ((ks.af po1.sS).af po2.sS).ke⟩
  refine ⟨by show 3 ≤ sizeLine; decide, fun T hT => ?_⟩
  have fin := ((own_new (i := j) (own_new (i := i) st0 st1 np1 sp1 hp1 d1 hpa) (own_new (i := i) st0 st3 np1 (po3.fr p1 (by rw [(po2.kp p1 _ hp1 (wl_ne st0 np1))]; exact Option.some_ne_none _) (po2.fr p1 (by rw [hp1]; exact Option.some_ne_none _) sp1)) (po3.kp p1 _ (po2.kp p1 _ hp1 (wl_ne st0 np1)) (wl_ne st0 np1)) (dqAll_mono po3.sS (dqAll_mono po2.sS d1)) hpa) np2 (po3.fr p2 (by rw [hp2]; exact Option.some_ne_none _) sp2) (po3.kp p2 _ hp2 (wl_ne st1 np2)) (dqAll_mono po3.sS d2) hpa).set (i := l) d3)
  exact ⟨_, _, rfl, SqT.of upd_same, rfl, ⟨_, _, rfl, ⟨_, _, rfl, ⟨_, _, rfl, ⟨rfl, ks.nx _ _ S3 _ hq3 (fin.grow (Grow.beside fin.wd.sm hT)) ((po1.sS.trans po2.sS).trans po3.sS)⟩⟩⟩⟩⟩
theorem cpDND {X : Cx} {n : En} {W : WX} {κ κ' κ2 k : Nat} {a b c : Expr} {pos : Pos} {f1 : DE} {f2 : DN} {f3 : DE} (C : Cok X n W k) (i j l : Nat) {x y z : Str} {px py pz pt : Pos} {kt k2 : Nat} {pt2 : Pos} (ha : JE X n W κ a f1) (hb : JN X n W κ' b f2) (hcc : JE X n W κ2 c f3)
    (hi : X.N[i]? = some x := by rfl) (hj : X.N[j]? = some y := by rfl) (hl : X.N[l]? = some z := by rfl) (hij : i ≠ j := by decide) (hil : i ≠ l := by decide) (hjl : j ≠ l := by decide) 
    (hxx : Loc X.env.scope x := by first | exact .inl rfl | exact .inr rfl) (hfx : X.fn x = true ∨ X.env.scope.names.lookup x = some .local := by first | exact .inr rfl | exact .inl rfl) (hxy : Loc X.env.scope y := by first | exact .inl rfl | exact .inr rfl) (hfy : X.fn y = true ∨ X.env.scope.names.lookup y = some .local := by first | exact .inr rfl | exact .inl rfl) (hxz : Loc X.env.scope z := by first | exact .inl rfl | exact .inr rfl) (hfz : X.fn z = true ∨ X.env.scope.names.lookup z = some .local := by first | exact .inr rfl | exact .inl rfl) 
    (hs1 : starEach [a, b, c] X.env = (false, eval a X.env) :: starEach [b, c] X.env := by rfl) (hs2 : starEach [b, c] X.env = (false, eval b X.env) :: starEach [c] X.env := by rfl) (hs3 : starEach [c] X.env = (false, eval c X.env) :: starEach [] X.env := by rfl) 
    (hg1 : (assignEach [.Name x px, .Name y py, .Name z pz] X.env).map (·.2) = assign (.Name x px) X.env :: (assignEach [.Name y py, .Name z pz] X.env).map (·.2) := by rfl) (hg2 : (assignEach [.Name y py, .Name z pz] X.env).map (·.2) = assign (.Name y py) X.env :: (assignEach [.Name z pz] X.env).map (·.2) := by rfl) (hg3 : (assignEach [.Name z pz] X.env).map (·.2) = assign (.Name z pz) X.env :: (assignEach [] X.env).map (·.2) := by rfl) (hgn : (assignEach [.Name x px, .Name y py, .Name z pz] X.env).length = 3 := by rfl) (hst : (assignEach [.Name x px, .Name y py, .Name z pz] X.env).findIdx? (·.1) = none := by rfl) (hw : swappedStores [.Tuple [.Name x px, .Name y py, .Name z pz] kt pt] (.Tuple [a, b, c] k2 pt2) X.env = pure none := by rfl) (hs : swapsWithSole [.Tuple [.Name x px, .Name y py, .Name z pz] kt pt] (.Tuple [a, b, c] k2 pt2) pos.line X.env = pure false := by rfl) (h1 : (assignEach [.Tuple [.Name x px, .Name y py, .Name z pz] kt pt] X.env).map (·.2) = [assign (.Tuple [.Name x px, .Name y py, .Name z pz] kt pt) X.env] := by rfl) (hpa : ∀ a, n.pa a := by exact fun _ => trivial) :
    JS X n W (κ + (κ' + κ2)) (.Assign [.Tuple [.Name x px, .Name y py, .Name z pz] kt pt] (.Tuple [a, b, c] k2 pt2) pos) (gParDND i j l f1 f2 f3) := by
  refine PS.to (ps_asg (pe_tup (pa_cons ha (pa_cons hb (pa_cons hcc pa_nil hs3) hs2) hs1)) (pg_tup C.calm (pgs_cons (pg_name C.nd hi hxx hfx) (pgs_cons (pg_name C.nd hj hxy hfy) (pgs_cons (pg_name C.nd hl hxz hfz) pgs_nil hg3) hg2) hg1) hgn hst) hs hw h1) fun D σ H ⟨m, S, ρ, Dd, st0, hg, ks⟩ => ?_
  refine ⟨m + (κ' + κ2), S, ρ, _, _, st_split st0, hg, fun v1 w1 S1 H1 hq1 st1 po1 d1 => ?_, (ks.up (by omega)).ke⟩
  refine ⟨m + κ2, S1, ρ, _, _, st_split st1, hq1, fun v2 p2 w2 S2 H2 hq2 st2 po2 np2 sp2 hp2 d2 => ?_, ((ks.up (by omega)).af po1.sS).ke⟩
  refine ⟨m, S2, ρ, _, _, st2, hq2, fun v3 w3 S3 H3 hq3 st3 po3 d3 => ?_, ((ks.af po1.sS).af po2.sS).ke⟩
  refine ⟨by show 3 ≤ sizeLine; decide, fun T hT => ?_⟩
  have fin := ((own_new (i := j) (st1.set (i := i) d1) (st3.set (i := i) (dv_mono po3.sS (dv_mono po2.sS d1))) np2 (po3.fr p2 (by rw [hp2]; exact Option.some_ne_none _) sp2) (po3.kp p2 _ hp2 (wl_ne st1 np2)) (dqAll_mono po3.sS d2) hpa).set (i := l) d3)
  exact ⟨_, _, rfl, SqT.of upd_same, rfl, ⟨_, _, rfl, ⟨_, _, rfl, ⟨_, _, rfl, ⟨rfl, ks.nx _ _ S3 _ hq3 (fin.grow (Grow.beside fin.wd.sm hT)) ((po1.sS.trans po2.sS).trans po3.sS)⟩⟩⟩⟩⟩
theorem cpNDD {X : Cx} {n : En} {W : WX} {κ κ' κ2 k : Nat} {a b c : Expr} {pos : Pos} {f1 : DN} {f2 : DE} {f3 : DE} (C : Cok X n W k) (i j l : Nat) {x y z : Str} {px py pz pt : Pos} {kt k2 : Nat} {pt2 : Pos} (ha : JN X n W κ a f1) (hb : JE X n W κ' b f2) (hcc : JE X n W κ2 c f3)
    (hi : X.N[i]? = some x := by rfl) (hj : X.N[j]? = some y := by rfl) (hl : X.N[l]? = some z := by rfl) (hij : i ≠ j := by decide) (hil : i ≠ l := by decide) (hjl : j ≠ l := by decide) 
    (hxx : Loc X.env.scope x := by first | exact .inl rfl | exact .inr rfl) (hfx : X.fn x = true ∨ X.env.scope.names.lookup x = some .local := by first | exact .inr rfl | exact .inl rfl) (hxy : Loc X.env.scope y := by first | exact .inl rfl | exact .inr rfl) (hfy : X.fn y = true ∨ X.env.scope.names.lookup y = some .local := by first | exact .inr rfl | exact .inl rfl) (hxz : Loc X.env.scope z := by first | exact .inl rfl | exact .inr rfl) (hfz : X.fn z = true ∨ X.env.scope.names.lookup z = some .local := by first | exact .inr rfl | exact .inl rfl) 
    (hs1 : starEach [a, b, c] X.env = (false, eval a X.env) :: starEach [b, c] X.env := by rfl) (hs2 : starEach [b, c] X.env = (false, eval b X.env) :: starEach [c] X.env := by rfl) (hs3 : starEach [c] X.env = (false, eval c X.env) :: starEach [] X.env := by rfl) 
    (hg1 : (assignEach [.Name x px, .Name y py, .Name z pz] X.env).map (·.2) = assign (.Name x px) X.env :: (assignEach [.Name y py, .Name z pz] X.env).map (·.2) := by rfl) (hg2 : (assignEach [.Name y py, .Name z pz] X.env).map (·.2) = assign (.Name y py) X.env :: (assignEach [.Name z pz] X.env).map (·.2) := by rfl) (hg3 : (assignEach [.Name z pz] X.env).map (·.2) = assign (.Name z pz) X.env :: (assignEach [] X.env).map (·.2) := by rfl) (hgn : (assignEach [.Name x px, .Name y py, .Name z pz] X.env).length = 3 := by rfl) (hst : (assignEach [.Name x px, .Name y py, .Name z pz] X.env).findIdx? (·.1) = none := by rfl) (hw : swappedStores [.Tuple [.Name x px, .Name y py, .Name z pz] kt pt] (.Tuple [a, b, c] k2 pt2) X.env = pure none := by rfl) (hs : swapsWithSole [.Tuple [.Name x px, .Name y py, .Name z pz] kt pt] (.Tuple [a, b, c] k2 pt2) pos.line X.env = pure false := by rfl) (h1 : (assignEach [.Tuple [.Name x px, .Name y py, .Name z pz] kt pt] X.env).map (·.2) = [assign (.Tuple [.Name x px, .Name y py, .Name z pz] kt pt) X.env] := by rfl) (hpa : ∀ a, n.pa a := by exact fun _ => trivial) :
    JS X n W (κ + (κ' + κ2)) (.Assign [.Tuple [.Name x px, .Name y py, .Name z pz] kt pt] (.Tuple [a, b, c] k2 pt2) pos) (gParNDD i j l f1 f2 f3) := by
  refine PS.to (ps_asg (pe_tup (pa_cons ha (pa_cons hb (pa_cons hcc pa_nil hs3) hs2) hs1)) (pg_tup C.calm (pgs_cons (pg_name C.nd hi hxx hfx) (pgs_cons (pg_name C.nd hj hxy hfy) (pgs_cons (pg_name C.nd hl hxz hfz) pgs_nil hg3) hg2) hg1) hgn hst) hs hw h1) fun D σ H ⟨m, S, ρ, Dd, st0, hg, ks⟩ => ?_
  refine ⟨m + (κ' + κ2), S, ρ, _, _, st_split st0, hg, fun v1 p1 w1 S1 H1 hq1 st1 po1 np1 sp1 hp1 d1 => ?_, (ks.up (by omega)).ke⟩
  refine ⟨m + κ2, S1, ρ, _, _, st_split st1, hq1, fun v2 w2 S2 H2 hq2 st2 po2 d2 => ?_, ((ks.up (by omega)).af po1.sS).ke⟩
  refine ⟨m, S2, ρ, _, _, st2, hq2, fun v3 w3 S3 H3 hq3 st3 po3 d3 => ?_, ((ks.af po1.sS).af po2.sS).ke⟩
  refine ⟨by show 3 ≤ sizeLine; decide, fun T hT => ?_⟩
  have fin := (((own_new (i := i) st0 st3 np1 (po3.fr p1 (by rw [(po2.kp p1 _ hp1 (wl_ne st0 np1))]; exact Option.some_ne_none _) (po2.fr p1 (by rw [hp1]; exact Option.some_ne_none _) sp1)) (po3.kp p1 _ (po2.kp p1 _ hp1 (wl_ne st0 np1)) (wl_ne st0 np1)) (dqAll_mono po3.sS (dqAll_mono po2.sS d1)) hpa).set (i := j) (dv_mono po3.sS d2)).set (i := l) d3)
  exact ⟨_, _, rfl, SqT.of upd_same, rfl, ⟨_, _, rfl, ⟨_, _, rfl, ⟨_, _, rfl, ⟨rfl, ks.nx _ _ S3 _ hq3 (fin.grow (Grow.beside fin.wd.sm hT)) ((po1.sS.trans po2.sS).trans po3.sS)⟩⟩⟩⟩⟩
theorem cpNNN {X : Cx} {n : En} {W : WX} {κ κ' κ2 k : Nat} {a b c : Expr} {pos : Pos} {f1 : DN} {f2 : DN} {f3 : DN} (C : Cok X n W k) (i j l : Nat) {x y z : Str} {px py pz pt : Pos} {kt k2 : Nat} {pt2 : Pos} (ha : JN X n W κ a f1) (hb : JN X n W κ' b f2) (hcc : JN X n W κ2 c f3)
    (hi : X.N[i]? = some x := by rfl) (hj : X.N[j]? = some y := by rfl) (hl : X.N[l]? = some z := by rfl) (hij : i ≠ j := by decide) (hil : i ≠ l := by decide) (hjl : j ≠ l := by decide) 
    (hxx : Loc X.env.scope x := by first | exact .inl rfl | exact .inr rfl) (hfx : X.fn x = true ∨ X.env.scope.names.lookup x = some .local := by first | exact .inr rfl | exact .inl rfl) (hxy : Loc X.env.scope y := by first | exact .inl rfl | exact .inr rfl) (hfy : X.fn y = true ∨ X.env.scope.names.lookup y = some .local := by first | exact .inr rfl | exact .inl rfl) (hxz : Loc X.env.scope z := by first | exact .inl rfl | exact .inr rfl) (hfz : X.fn z = true ∨ X.env.scope.names.lookup z = some .local := by first | exact .inr rfl | exact .inl rfl) 
    (hs1 : starEach [a, b, c] X.env = (false, eval a X.env) :: starEach [b, c] X.env := by rfl) (hs2 : starEach [b, c] X.env = (false, eval b X.env) :: starEach [c] X.env := by rfl) (hs3 : starEach [c] X.env = (false, eval c X.env) :: starEach [] X.env := by rfl) 
    (hg1 : (assignEach [.Name x px, .Name y py, .Name z pz] X.env).map (·.2) = assign (.Name x px) X.env :: (assignEach [.Name y py, .Name z pz] X.env).map (·.2) := by rfl) (hg2 : (assignEach [.Name y py, .Name z pz] X.env).map (·.2) = assign (.Name y py) X.env :: (assignEach [.Name z pz] X.env).map (·.2) := by rfl) (hg3 : (assignEach [.Name z pz] X.env).map (·.2) = assign (.Name z pz) X.env :: (assignEach [] X.env).map (·.2) := by rfl) (hgn : (assignEach [.Name x px, .Name y py, .Name z pz] X.env).length = 3 := by rfl) (hst : (assignEach [.Name x px, .Name y py, .Name z pz] X.env).findIdx? (·.1) = none := by rfl) (hw : swappedStores [.Tuple [.Name x px, .Name y py, .Name z pz] kt pt] (.Tuple [a, b, c] k2 pt2) X.env = pure none := by rfl) (hs : swapsWithSole [.Tuple [.Name x px, .Name y py, .Name z pz] kt pt] (.Tuple [a, b, c] k2 pt2) pos.line X.env = pure false := by rfl) (h1 : (assignEach [.Tuple [.Name x px, .Name y py, .Name z pz] kt pt] X.env).map (·.2) = [assign (.Tuple [.Name x px, .Name y py, .Name z pz] kt pt) X.env] := by rfl) (hpa : ∀ a, n.pa a := by exact fun _ => trivial) :
    JS X n W (κ + (κ' + κ2)) (.Assign [.Tuple [.Name x px, .Name y py, .Name z pz] kt pt] (.Tuple [a, b, c] k2 pt2) pos) (gParNNN i j l f1 f2 f3) := by
  refine PS.to (ps_asg (pe_tup (pa_cons ha (pa_cons hb (pa_cons hcc pa_nil hs3) hs2) hs1)) (pg_tup C.calm (pgs_cons (pg_name C.nd hi hxx hfx) (pgs_cons (pg_name C.nd hj hxy hfy) (pgs_cons (pg_name C.nd hl hxz hfz) pgs_nil hg3) hg2) hg1) hgn hst) hs hw h1) fun D σ H ⟨m, S, ρ, Dd, st0, hg, ks⟩ => ?_
  refine ⟨m + (κ' + κ2), S, ρ, _, _, st_split st0, hg, fun v1 p1 w1 S1 H1 hq1 st1 po1 np1 sp1 hp1 d1 => ?_, (ks.up (by omega)).ke⟩
  refine ⟨m + κ2, S1, ρ, _, _, st_split st1, hq1, fun v2 p2 w2 S2 H2 hq2 st2 po2 np2 sp2 hp2 d2 => ?_, ((ks.up (by omega)).af po1.sS).ke⟩
  refine ⟨m, S2, ρ, _, _, st2, hq2, fun v3 p3 w3 S3 H3 hq3 st3 po3 np3 sp3 hp3 d3 => ?_, ((ks.af po1.sS).af po2.sS).ke⟩
  refine ⟨by show 3 ≤ sizeLine; decide, fun T hT => ?_⟩
  have fin := (own_new (i := l) (own_new (i := j) (own_new (i := i) st0 st1 np1 sp1 hp1 d1 hpa) (own_new (i := i) st0 st2 np1 (po2.fr p1 (by rw [hp1]; exact Option.some_ne_none _) sp1) (po2.kp p1 _ hp1 (wl_ne st0 np1)) (dqAll_mono po2.sS d1) hpa) np2 sp2 hp2 d2 hpa) (own_new (i := j) (own_new (i := i) st0 st1 np1 sp1 hp1 d1 hpa) (own_new (i := i) st0 st3 np1 (po3.fr p1 (by rw [(po2.kp p1 _ hp1 (wl_ne st0 np1))]; exact Option.some_ne_none _) (po2.fr p1 (by rw [hp1]; exact Option.some_ne_none _) sp1)) (po3.kp p1 _ (po2.kp p1 _ hp1 (wl_ne st0 np1)) (wl_ne st0 np1)) (dqAll_mono po3.sS (dqAll_mono po2.sS d1)) hpa) np2 (po3.fr p2 (by rw [hp2]; exact Option.some_ne_none _) sp2) (po3.kp p2 _ hp2 (wl_ne st1 np2)) (dqAll_mono po3.sS d2) hpa) np3 sp3 hp3 d3 hpa)
  exact ⟨_, _, rfl, SqT.of upd_same, rfl, ⟨_, _, rfl, ⟨_, _, rfl, ⟨_, _, rfl, ⟨rfl, ks.nx _ _ S3 _ hq3 (fin.grow (Grow.beside fin.wd.sm hT)) ((po1.sS.trans po2.sS).trans po3.sS)⟩⟩⟩⟩⟩
theorem cpDDN {X : Cx} {n : En} {W : WX} {κ κ' κ2 k : Nat} {a b c : Expr} {pos : Pos} {f1 : DE} {f2 : DE} {f3 : DN} (C : Cok X n W k) (i j l : Nat) {x y z : Str} {px py pz pt : Pos} {kt k2 : Nat} {pt2 : Pos} (ha : JE X n W κ a f1) (hb : JE X n W κ' b f2) (hcc : JN X n W κ2 c f3)
    (hi : X.N[i]? = some x := by rfl) (hj : X.N[j]? = some y := by rfl) (hl : X.N[l]? = some z := by rfl) (hij : i ≠ j := by decide) (hil : i ≠ l := by decide) (hjl : j ≠ l := by decide) 
    (hxx : Loc X.env.scope x := by first | exact .inl rfl | exact .inr rfl) (hfx : X.fn x = true ∨ X.env.scope.names.lookup x = some .local := by first | exact .inr rfl | exact .inl rfl) (hxy : Loc X.env.scope y := by first | exact .inl rfl | exact .inr rfl) (hfy : X.fn y = true ∨ X.env.scope.names.lookup y = some .local := by first | exact .inr rfl | exact .inl rfl) (hxz : Loc X.env.scope z := by first | exact .inl rfl | exact .inr rfl) (hfz : X.fn z = true ∨ X.env.scope.names.lookup z = some .local := by first | exact .inr rfl | exact .inl rfl) 
    (hs1 : starEach [a, b, c] X.env = (false, eval a X.env) :: starEach [b, c] X.env := by rfl) (hs2 : starEach [b, c] X.env = (false, eval b X.env) :: starEach [c] X.env := by rfl) (hs3 : starEach [c] X.env = (false, eval c X.env) :: starEach [] X.env := by rfl) 
    (hg1 : (assignEach [.Name x px, .Name y py, .Name z pz] X.env).map (·.2) = assign (.Name x px) X.env :: (assignEach [.Name y py, .Name z pz] X.env).map (·.2) := by rfl) (hg2 : (assignEach [.Name y py, .Name z pz] X.env).map (·.2) = assign (.Name y py) X.env :: (assignEach [.Name z pz] X.env).map (·.2) := by rfl) (hg3 : (assignEach [.Name z pz] X.env).map (·.2) = assign (.Name z pz) X.env :: (assignEach [] X.env).map (·.2) := by rfl) (hgn : (assignEach [.Name x px, .Name y py, .Name z pz] X.env).length = 3 := by rfl) (hst : (assignEach [.Name x px, .Name y py, .Name z pz] X.env).findIdx? (·.1) = none := by rfl) (hw : swappedStores [.Tuple [.Name x px, .Name y py, .Name z pz] kt pt] (.Tuple [a, b, c] k2 pt2) X.env = pure none := by rfl) (hs : swapsWithSole [.Tuple [.Name x px, .Name y py, .Name z pz] kt pt] (.Tuple [a, b, c] k2 pt2) pos.line X.env = pure false := by rfl) (h1 : (assignEach [.Tuple [.Name x px, .Name y py, .Name z pz] kt pt] X.env).map (·.2) = [assign (.Tuple [.Name x px, .Name y py, .Name z pz] kt pt) X.env] := by rfl) (hpa : ∀ a, n.pa a := by exact fun _ => trivial) :
    JS X n W (κ + (κ' + κ2)) (.Assign [.Tuple [.Name x px, .Name y py, .Name z pz] kt pt] (.Tuple [a, b, c] k2 pt2) pos) (gParDDN i j l f1 f2 f3) := by
  refine PS.to (ps_asg (pe_tup (pa_cons ha (pa_cons hb (pa_cons hcc pa_nil hs3) hs2) hs1)) (pg_tup C.calm (pgs_cons (pg_name C.nd hi hxx hfx) (pgs_cons (pg_name C.nd hj hxy hfy) (pgs_cons (pg_name C.nd hl hxz hfz) pgs_nil hg3) hg2) hg1) hgn hst) hs hw h1) fun D σ H ⟨m, S, ρ, Dd, st0, hg, ks⟩ => ?_
  refine ⟨m + (κ' + κ2), S, ρ, _, _, st_split st0, hg, fun v1 w1 S1 H1 hq1 st1 po1 d1 => ?_, (ks.up (by omega)).ke⟩
  refine ⟨m + κ2, S1, ρ, _, _, st_split st1, hq1, fun v2 w2 S2 H2 hq2 st2 po2 d2 => ?_, ((ks.up (by omega)).af po1.sS).ke⟩
  refine ⟨m, S2, ρ, _, _, st2, hq2, fun v3 p3 w3 S3 H3 hq3 st3 po3 np3 sp3 hp3 d3 => ?_, ((ks.af po1.sS).af po2.sS).ke⟩
  refine ⟨by show 3 ≤ sizeLine; decide, fun T hT => ?_⟩
  have fin := (own_new (i := l) ((st2.set (i := i) (dv_mono po2.sS d1)).set (i := j) d2) ((st3.set (i := i) (dv_mono po3.sS (dv_mono po2.sS d1))).set (i := j) (dv_mono po3.sS d2)) np3 sp3 hp3 d3 hpa)
  exact ⟨_, _, rfl, SqT.of upd_same, rfl, ⟨_, _, rfl, ⟨_, _, rfl, ⟨_, _, rfl, ⟨rfl, ks.nx _ _ S3 _ hq3 (fin.grow (Grow.beside fin.wd.sm hT)) ((po1.sS.trans po2.sS).trans po3.sS)⟩⟩⟩⟩⟩
theorem cpNDN {X : Cx} {n : En} {W : WX} {κ κ' κ2 k : Nat} {a b c : Expr} {pos : Pos} {f1 : DN} {f2 : DE} {f3 : DN} (C : Cok X n W k) (i j l : Nat) {x y z : Str} {px py pz pt : Pos} {kt k2 : Nat} {pt2 : Pos} (ha : JN X n W κ a f1) (hb : JE X n W κ' b f2) (hcc : JN X n W κ2 c f3)
    (hi : X.N[i]? = some x := by rfl) (hj : X.N[j]? = some y := by rfl) (hl : X.N[l]? = some z := by rfl) (hij : i ≠ j := by decide) (hil : i ≠ l := by decide) (hjl : j ≠ l := by decide) 
    (hxx : Loc X.env.scope x := by first | exact .inl rfl | exact .inr rfl) (hfx : X.fn x = true ∨ X.env.scope.names.lookup x = some .local := by first | exact .inr rfl | exact .inl rfl) (hxy : Loc X.env.scope y := by first | exact .inl rfl | exact .inr rfl) (hfy : X.fn y = true ∨ X.env.scope.names.lookup y = some .local := by first | exact .inr rfl | exact .inl rfl) (hxz : Loc X.env.scope z := by first | exact .inl rfl | exact .inr rfl) (hfz : X.fn z = true ∨ X.env.scope.names.lookup z = some .local := by first | exact .inr rfl | exact .inl rfl) 
    (hs1 : starEach [a, b, c] X.env = (false, eval a X.env) :: starEach [b, c] X.env := by rfl) (hs2 : starEach [b, c] X.env = (false, eval b X.env) :: starEach [c] X.env := by rfl) (hs3 : starEach [c] X.env = (false, eval c X.env) :: starEach [] X.env := by rfl) 
    (hg1 : (assignEach [.Name x px, .Name y py, .Name z pz] X.env).map (·.2) = assign (.Name x px) X.env :: (assignEach [.Name y py, .Name z pz] X.env).map (·.2) := by rfl) (hg2 : (assignEach [.Name y py, .Name z pz] X.env).map (·.2) = assign (.Name y py) X.env :: (assignEach [.Name z pz] X.env).map (·.2) := by rfl) (hg3 : (assignEach [.Name z pz] X.env).map (·.2) = assign (.Name z pz) X.env :: (assignEach [] X.env).map (·.2) := by rfl) (hgn : (assignEach [.Name x px, .Name y py, .Name z pz] X.env).length = 3 := by rfl) (hst : (assignEach [.Name x px, .Name y py, .Name z pz] X.env).findIdx? (·.1) = none := by rfl) (hw : swappedStores [.Tuple [.Name x px, .Name y py, .Name z pz] kt pt] (.Tuple [a, b, c] k2 pt2) X.env = pure none := by rfl) (hs : swapsWithSole [.Tuple [.Name x px, .Name y py, .Name z pz] kt pt] (.Tuple [a, b, c] k2 pt2) pos.line X.env = pure false := by rfl) (h1 : (assignEach [.Tuple [.Name x px, .Name y py, .Name z pz] kt pt] X.env).map (·.2) = [assign (.Tuple [.Name x px, .Name y py, .Name z pz] kt pt) X.env] := by rfl) (hpa : ∀ a, n.pa a := by exact fun _ => trivial) :
    JS X n W (κ + (κ' + κ2)) (.Assign [.Tuple [.Name x px, .Name y py, .Name z pz] kt pt] (.Tuple [a, b, c] k2 pt2) pos) (gParNDN i j l f1 f2 f3) := by
  refine PS.to (ps_asg (pe_tup (pa_cons ha (pa_cons hb (pa_cons hcc pa_nil hs3) hs2) hs1)) (pg_tup C.calm (pgs_cons (pg_name C.nd hi hxx hfx) (pgs_cons (pg_name C.nd hj hxy hfy) (pgs_cons (pg_name C.nd hl hxz hfz) pgs_nil hg3) hg2) hg1) hgn hst) hs hw h1) fun D σ H ⟨m, S, ρ, Dd, st0, hg, ks⟩ => ?_
  refine ⟨m + (κ' + κ2), S, ρ, _, _, st_split st0, hg, fun v1 p1 w1 S1 H1 hq1 st1 po1 np1 sp1 hp1 d1 => ?_, (ks.up (by omega)).ke⟩
  refine ⟨m + κ2, S1, ρ, _, _, st_split st1, hq1, fun v2 w2 S2 H2 hq2 st2 po2 d2 => ?_, ((ks.up (by omega)).af po1.sS).ke⟩
  refine ⟨m, S2, ρ, _, _, st2, hq2, fun v3 p3 w3 S3 H3 hq3 st3 po3 np3 sp3 hp3 d3 => ?_, ((ks.af po1.sS).af po2.sS).ke⟩
  refine ⟨by show 3 ≤ sizeLine; decide, fun T hT => ?_⟩
  have fin := (own_new (i := l) ((own_new (i := i) st0 st2 np1 (po2.fr p1 (by rw [hp1]; exact Option.some_ne_none _) sp1) (po2.kp p1 _ hp1 (wl_ne st0 np1)) (dqAll_mono po2.sS d1) hpa).set (i := j) d2) ((own_new (i := i) st0 st3 np1 (po3.fr p1 (by rw [(po2.kp p1 _ hp1 (wl_ne st0 np1))]; exact Option.some_ne_none _) (po2.fr p1 (by rw [hp1]; exact Option.some_ne_none _) sp1)) (po3.kp p1 _ (po2.kp p1 _ hp1 (wl_ne st0 np1)) (wl_ne st0 np1)) (dqAll_mono po3.sS (dqAll_mono po2.sS d1)) hpa).set (i := j) (dv_mono po3.sS d2)) np3 sp3 hp3 d3 hpa)
  exact ⟨_, _, rfl, SqT.of upd_same, rfl, ⟨_, _, rfl, ⟨_, _, rfl, ⟨_, _, rfl, ⟨rfl, ks.nx _ _ S3 _ hq3 (fin.grow (Grow.beside fin.wd.sm hT)) ((po1.sS.trans po2.sS).trans po3.sS)⟩⟩⟩⟩⟩
end Wb
/-! Wb23: tuple(range(n)). -/
namespace Wb
open PySem PySem.Spec PyProof.Rows L2
def dTupRg (f : DE) : DE := fun ρ R E => f ρ (fun x => onI' x fun j => RgL 0 j ∧ R (.d (.tuple (rngD 0 j)))) E
section
variable {X : Cx} {n : En} {W : WX} {κ : Nat} {a : Expr} {pos : Pos} {f : DE}
theorem je_tupRg {p q rpos : Pos} (C : X.calm = true) (hg : Gl X "tuple") (hm : X.mg "tuple" = none) (hgr : Gl X "range") (hmr : X.mg "range" = none) (ha : JO X n W κ a f)
    (na : starEach [a] X.env = (false, eval a X.env) :: starEach [] X.env) (na2 : starEach [Expr.Call (.Name "range" q) [a] [] rpos] X.env = (false, eval (Expr.Call (.Name "range" q) [a] [] rpos) X.env) :: starEach [] X.env) :
    JE X n W κ (.Call (.Name "tuple" p) [.Call (.Name "range" q) [a] [] rpos] [] pos) (dTupRg f) := by
  refine PE.to (pe_tupRg C hg hm (prg_1 hgr hmr ha na) na2) fun σ H Q ⟨m, S, ρ, R, Er, st, hf, kR, kE⟩ => ⟨m, S, ρ, _, Er, st, hf, fun x v S1 H1 hx st1 p1 d1 => ?_, kE⟩
  obtain ⟨j, rfl, hk, hr⟩ := onI_of hx
  have e := d1.int
  subst e
  refine ⟨j, rfl, hk, fun l hl => ?_⟩
  have g := Grow.new (o := .tup (rgV 0 j)) st1.wd.sm hl
  exact kR _ _ _ _ hr (st1.grow g) (p1.trans g.po.wk) (dq_tup upd_same (rg_dq 0 j))
end
end Wb
namespace Law
open PySem PySem.Spec PyProof.Rows L2 Wb

abbrev subE : Nat → Nat → Bool := fun c d => decide ((if c < 3 then c else 0) = d)
def px_10 {α : Type} (us ws : List α) : List α := match us, ws with
  | [], [a, b] => [b, a]
  | _, _ => []
def g_is_integer : DS :=
  (gRet (dAnd (d1 (gIsi "int") (dOwn 0)) (dNot (d1 (gIsi "bool") (dOwn 0)))))
theorem x_is_integer : ∃ F : Fn, F = fnB 1 0 g_is_integer := ⟨_, rfl⟩
noncomputable def m_is_integer : Fn := Classical.choose x_is_integer
theorem q_is_integer : m_is_integer = fnB 1 0 g_is_integer := Classical.choose_spec x_is_integer
def g_is_tuple : DS :=
  (gRet (dAnd (d1 (gIsi "tuple") (dOwn 0)) (dAnd (d2 gGe (dBi bLen (aCons (dOwn 0) aNil)) (dOwn 1)) (dOr (d1 gIsN (dOwn 2)) (d2 gLe (dBi bLen (aCons (dOwn 0) aNil)) (dOwn 2))))))
theorem x_is_tuple : ∃ F : Fn, F = fnB 3 0 g_is_tuple := ⟨_, rfl⟩
noncomputable def m_is_tuple : Fn := Classical.choose x_is_tuple
theorem q_is_tuple : m_is_tuple = fnB 3 0 g_is_tuple := Classical.choose_spec x_is_tuple
def g_anew (G : Fn) : DS :=
  (gSeq (gIfS (tVal (d1 (gIsi "list") (dOwn 0))) (gRet (dN2 (nLc 100000 (iSeq (dVar 0)) (gNm 1) tTrue (dCall G (aCons (dVar 1) aNil)) [1]))) gNext)
  (gSeq (gIfS (tVal (d1 (gIsi "tuple") (dOwn 0))) (gRet (dBi bTuple (aCons (dN2 (nLc 100000 (iSeq (dVar 0)) (gNm 1) tTrue (dCall G (aCons (dVar 1) aNil)) [1])) aNil))) gNext)
  (gRet (dVar 0))))
def m_anew : Fn := anewFn 9
def g_is_prime_in : DS :=
  (gRet (dAnd (dCall m_is_integer (aCons (dVar 0) aNil)) (d2 gIn (dOwn 0) (dC (.tuple [(.int 0), (.int 2), (.int 3), (.int 5), (.int 7), (.int 11), (.int 13)])))))
theorem x_is_prime_in : ∃ F : Fn, F = fnB 1 0 g_is_prime_in := ⟨_, rfl⟩
noncomputable def m_is_prime_in : Fn := Classical.choose x_is_prime_in
theorem q_is_prime_in : m_is_prime_in = fnB 1 0 g_is_prime_in := Classical.choose_spec x_is_prime_in
def g_is_scalar_in : DS :=
  (gSeq (gIfS (tVal (d2 gGt (dOwn 0) (dC (.int 0)))) (gRet (dAnd (dCall m_is_integer (aCons (dVar 1) aNil)) (dChain gLe gLt (dC (.int 0)) (dOwn 1) (dOwn 0)))) gNext)
  (gSeq (gIfS (tOr' (tNot' (tVal (dCall m_is_tuple (aCons (dVar 1) (aCons (dC (.int 2)) (aCons (dC (.int 2)) aNil)))))) (tOr' (tNot' (tVal (dCall m_is_integer (aCons (d2 gIx (dOwn 1) (dC (.int 0))) aNil)))) (tNot' (tVal (dCall m_is_integer (aCons (d2 gIx (dOwn 1) (dC (.int 1))) aNil)))))) (gRet (dC (.bool false))) gNext)
  (gRet (dAnd (d2 gGe (d2 gIx (dOwn 1) (dC (.int 1))) (dC (.int 1))) (d2 gEq (dBi bGcd (aCons (d2 gIx (dOwn 1) (dC (.int 0))) (aCons (d2 gIx (dOwn 1) (dC (.int 1))) aNil))) (dC (.int 1)))))))
theorem x_is_scalar_in : ∃ F : Fn, F = fnB 2 0 g_is_scalar_in := ⟨_, rfl⟩
noncomputable def m_is_scalar_in : Fn := Classical.choose x_is_scalar_in
theorem q_is_scalar_in : m_is_scalar_in = fnB 2 0 g_is_scalar_in := Classical.choose_spec x_is_scalar_in
def g_fraction_in : DS :=
  (gSeq (gSet 2 (dBi bGcd (aCons (dOwn 0) (aCons (dOwn 1) aNil))))
  (gSeq (gIfS (tVal (d2 gLt (dOwn 1) (dC (.int 0)))) (gSet 2 (d1 gNeg (dOwn 2))) gNext)
  (gRet (dTup (aCons (d2 gFdiv (dOwn 0) (dOwn 2)) (aCons (d2 gFdiv (dOwn 1) (dOwn 2)) aNil))))))
theorem x_fraction_in : ∃ F : Fn, F = fnB 2 1 g_fraction_in := ⟨_, rfl⟩
noncomputable def m_fraction_in : Fn := Classical.choose x_fraction_in
theorem q_fraction_in : m_fraction_in = fnB 2 1 g_fraction_in := Classical.choose_spec x_fraction_in
def g_scalar_in : DS :=
  (gRet (dIf (tVal (d2 gEq (dOwn 0) (dC (.int 0)))) (dTup (aCons (dVar 1) (aCons (dC (.int 1)) aNil))) (d2 gMod (dOwn 1) (dOwn 0))))
theorem x_scalar_in : ∃ F : Fn, F = fnB 2 0 g_scalar_in := ⟨_, rfl⟩
noncomputable def m_scalar_in : Fn := Classical.choose x_scalar_in
theorem q_scalar_in : m_scalar_in = fnB 2 0 g_scalar_in := Classical.choose_spec x_scalar_in
def g_plus_in : DS :=
  (gSeq (gIfS (tVal (d2 gGt (dOwn 0) (dC (.int 0)))) (gRet (d2 gMod (d2 gAdd (dOwn 1) (dOwn 2)) (dOwn 0))) gNext)
  (gRet (dCall m_fraction_in (aCons (d2 gAdd (d2 gMul (d2 gIx (dOwn 1) (dC (.int 0))) (d2 gIx (dOwn 2) (dC (.int 1)))) (d2 gMul (d2 gIx (dOwn 2) (dC (.int 0))) (d2 gIx (dOwn 1) (dC (.int 1))))) (aCons (d2 gMul (d2 gIx (dOwn 1) (dC (.int 1))) (d2 gIx (dOwn 2) (dC (.int 1)))) aNil)))))
theorem x_plus_in : ∃ F : Fn, F = fnB 3 0 g_plus_in := ⟨_, rfl⟩
noncomputable def m_plus_in : Fn := Classical.choose x_plus_in
theorem q_plus_in : m_plus_in = fnB 3 0 g_plus_in := Classical.choose_spec x_plus_in
def g_times_in : DS :=
  (gSeq (gIfS (tVal (d2 gGt (dOwn 0) (dC (.int 0)))) (gRet (d2 gMod (d2 gMul (dOwn 1) (dOwn 2)) (dOwn 0))) gNext)
  (gRet (dCall m_fraction_in (aCons (d2 gMul (d2 gIx (dOwn 1) (dC (.int 0))) (d2 gIx (dOwn 2) (dC (.int 0)))) (aCons (d2 gMul (d2 gIx (dOwn 1) (dC (.int 1))) (d2 gIx (dOwn 2) (dC (.int 1)))) aNil)))))
theorem x_times_in : ∃ F : Fn, F = fnB 3 0 g_times_in := ⟨_, rfl⟩
noncomputable def m_times_in : Fn := Classical.choose x_times_in
theorem q_times_in : m_times_in = fnB 3 0 g_times_in := Classical.choose_spec x_times_in
def g_negative_in : DS :=
  (gRet (dIf (tVal (d2 gEq (dOwn 0) (dC (.int 0)))) (dTup (aCons (d1 gNeg (d2 gIx (dOwn 1) (dC (.int 0)))) (aCons (d2 gIx (dOwn 1) (dC (.int 1))) aNil))) (d2 gMod (d1 gNeg (dOwn 1)) (dOwn 0))))
theorem x_negative_in : ∃ F : Fn, F = fnB 2 0 g_negative_in := ⟨_, rfl⟩
noncomputable def m_negative_in : Fn := Classical.choose x_negative_in
theorem q_negative_in : m_negative_in = fnB 2 0 g_negative_in := Classical.choose_spec x_negative_in
def g_inverse_in : DS :=
  (gSeq (gIfS (tVal (d2 gEq (dOwn 0) (dC (.int 0)))) (gRet (dCall m_fraction_in (aCons (d2 gIx (dOwn 1) (dC (.int 1))) (aCons (d2 gIx (dOwn 1) (dC (.int 0))) aNil)))) gNext)
  (gRet (d2 gIx (dN2 (nLc 100000 (iRg rg2 (aCons (dC (.int 1)) (aCons (dOwn 0) aNil))) (gNm 2) (tVal (d2 gEq (d2 gMod (d2 gMul (dOwn 2) (dOwn 1)) (dOwn 0)) (dC (.int 1)))) (dVar 2) [2])) (dC (.int 0)))))
theorem x_inverse_in : ∃ F : Fn, F = fnB 2 1 g_inverse_in := ⟨_, rfl⟩
noncomputable def m_inverse_in : Fn := Classical.choose x_inverse_in
theorem q_inverse_in : m_inverse_in = fnB 2 1 g_inverse_in := Classical.choose_spec x_inverse_in
def g_multiple_in : DS :=
  (gRet (dN2 (nLc 100000 (iSeq (dVar 2)) (gNm 3) tTrue (dCall m_times_in (aCons (dVar 0) (aCons (dVar 1) (aCons (dVar 3) aNil)))) [3])))
theorem x_multiple_in : ∃ F : Fn, F = fnB 3 1 g_multiple_in := ⟨_, rfl⟩
noncomputable def m_multiple_in : Fn := Classical.choose x_multiple_in
theorem q_multiple_in : m_multiple_in = fnB 3 1 g_multiple_in := Classical.choose_spec x_multiple_in
def g_less_in : DS :=
  (gSeq (gIfS (tVal (d2 gGt (dOwn 0) (dC (.int 0)))) (gRet (dN2 (nLc 100000 (iZp (aCons (dVar 1) (aCons (dVar 3) aNil))) (gTp (gsCons (gNm 5) (gsCons (gNm 6) gsNil))) tTrue (d2 gMod (d2 gSub (dOwn 5) (d2 gMul (dOwn 2) (dOwn 6))) (dOwn 0)) [5, 6]))) gNext)
  (gSeq (gSet 4 (dCall m_negative_in (aCons (dVar 0) (aCons (dVar 2) aNil))))
  (gRet (dN2 (nLc 100000 (iZp (aCons (dVar 1) (aCons (dVar 3) aNil))) (gTp (gsCons (gNm 5) (gsCons (gNm 6) gsNil))) tTrue (dCall m_plus_in (aCons (dVar 0) (aCons (dVar 5) (aCons (dCall m_times_in (aCons (dVar 0) (aCons (dVar 4) (aCons (dVar 6) aNil)))) aNil)))) [5, 6])))))
theorem x_less_in : ∃ F : Fn, F = fnB 4 3 g_less_in := ⟨_, rfl⟩
noncomputable def m_less_in : Fn := Classical.choose x_less_in
theorem q_less_in : m_less_in = fnB 4 3 g_less_in := Classical.choose_spec x_less_in
def g_need_prime : DS :=
  (gIfS (tNot' (tVal (dCall m_is_prime_in (aCons (dVar 0) aNil)))) (gRaise 1 (dCall m_anew (aCons (dVar 0) aNil))) gNext)
theorem x_need_prime : ∃ F : Fn, F = fnB 1 0 g_need_prime := ⟨_, rfl⟩
noncomputable def m_need_prime : Fn := Classical.choose x_need_prime
theorem q_need_prime : m_need_prime = fnB 1 0 g_need_prime := Classical.choose_spec x_need_prime
def g_is_vector_in : DS :=
  (gRet (dAnd (dCall m_is_tuple (aCons (dVar 2) (aCons (dVar 1) (aCons (dVar 1) aNil)))) (dBi bAll (aCons (dN2 (nLc 100000 (iSeq (dVar 2)) (gNm 3) tTrue (dCall m_is_scalar_in (aCons (dVar 0) (aCons (dVar 3) aNil))) [3])) aNil))))
theorem x_is_vector_in : ∃ F : Fn, F = fnB 3 1 g_is_vector_in := ⟨_, rfl⟩
noncomputable def m_is_vector_in : Fn := Classical.choose x_is_vector_in
theorem q_is_vector_in : m_is_vector_in = fnB 3 1 g_is_vector_in := Classical.choose_spec x_is_vector_in
def g_is_table_in : DS :=
  (gRet (dAnd (dCall m_is_tuple (aCons (dVar 3) (aCons (dVar 1) (aCons (dVar 1) aNil)))) (dBi bAll (aCons (dN2 (nLc 100000 (iSeq (dVar 3)) (gNm 4) tTrue (dCall m_is_vector_in (aCons (dVar 0) (aCons (dVar 2) (aCons (dVar 4) aNil)))) [4])) aNil))))
theorem x_is_table_in : ∃ F : Fn, F = fnB 4 1 g_is_table_in := ⟨_, rfl⟩
noncomputable def m_is_table_in : Fn := Classical.choose x_is_table_in
theorem q_is_table_in : m_is_table_in = fnB 4 1 g_is_table_in := Classical.choose_spec x_is_table_in
def g_is_some_table : DS :=
  (gSeq (gIfS (tOr' (tNot' (tVal (dCall m_is_tuple (aCons (dVar 1) (aCons (dC (.int 0)) (aCons (dC .none) aNil)))))) (tNot' (tVal (dBi bAll (aCons (dN2 (nLc 100000 (iSeq (dVar 1)) (gNm 2) tTrue (dCall m_is_tuple (aCons (dVar 2) (aCons (dC (.int 0)) (aCons (dC .none) aNil)))) [2])) aNil))))) (gRet (dC (.bool false))) gNext)
  (gRet (dOr (d2 gEq (dOwn 1) (dTup aNil)) (dCall m_is_table_in (aCons (dVar 0) (aCons (dBi bLen (aCons (dOwn 1) aNil)) (aCons (dBi bLen (aCons (d2 gIx (dOwn 1) (dC (.int 0))) aNil)) (aCons (dVar 1) aNil))))))))
theorem x_is_some_table : ∃ F : Fn, F = fnB 2 1 g_is_some_table := ⟨_, rfl⟩
noncomputable def m_is_some_table : Fn := Classical.choose x_is_some_table
theorem q_is_some_table : m_is_some_table = fnB 2 1 g_is_some_table := Classical.choose_spec x_is_some_table
def g_units_in : DS :=
  (gRet (dBi bTuple (aCons (dN2 (nLc 100000 (iRg rg1 (aCons (dOwn 1) aNil)) (gNm 3) tTrue (dBi bTuple (aCons (dN2 (nLc 100000 (iRg rg1 (aCons (dOwn 1) aNil)) (gNm 2) tTrue (dCall m_scalar_in (aCons (dVar 0) (aCons (dBi bInt (aCons (d2 gEq (dOwn 3) (dOwn 2)) aNil)) aNil))) [2])) aNil)) [3])) aNil)))
theorem x_units_in : ∃ F : Fn, F = fnB 2 2 g_units_in := ⟨_, rfl⟩
noncomputable def m_units_in : Fn := Classical.choose x_units_in
theorem q_units_in : m_units_in = fnB 2 2 g_units_in := Classical.choose_spec x_units_in
def g_transposed_in : DS :=
  (gRet (dBi bTuple (aCons (dN2 (nLc 100000 (iRg rg1 (aCons (dOwn 1) aNil)) (gNm 3) tTrue (dBi bTuple (aCons (dN2 (nLc 100000 (iSeq (dVar 0)) (gNm 2) tTrue (d2 gIx (dOwn 2) (dOwn 3)) [2])) aNil)) [3])) aNil)))
theorem x_transposed_in : ∃ F : Fn, F = fnB 2 2 g_transposed_in := ⟨_, rfl⟩
noncomputable def m_transposed_in : Fn := Classical.choose x_transposed_in
theorem q_transposed_in : m_transposed_in = fnB 2 2 g_transposed_in := Classical.choose_spec x_transposed_in
def g_reduced_in_b0 : DS :=
  (gIfS (tAnd' (tVal (d2 gNe (dOwn 9) (dOwn 6))) (tVal (d2 gNe (d2 gIx (d2 gIx (dOwn 2) (dOwn 9)) (dOwn 5)) (dOwn 4)))) (gSetIx 2 (dVar 9) (dCall m_less_in (aCons (dVar 0) (aCons (d2 gIx (dOwn 2) (dOwn 9)) (aCons (d2 gIx (d2 gIx (dOwn 2) (dOwn 9)) (dOwn 5)) (aCons (dVar 8) aNil)))))) gNext)
def g_reduced_in_b1 : DS :=
  (gSeq (gSet 6 (dBi bLen (aCons (dOwn 3) aNil)))
  (gSeq (gSetN 7 (nLc 100000 (iRg rg2 (aCons (dOwn 6) (aCons (dBi bLen (aCons (dOwn 2) aNil)) aNil))) (gNm 9) (tVal (d2 gNe (d2 gIx (d2 gIx (dOwn 2) (dOwn 9)) (dOwn 5)) (dOwn 4))) (dVar 9) [9]))
  (gSeq (gIfS (tVal (d2 gEq (dOwn 7) (dN2 (nLst aNil)))) gCnt gNext)
  (gSeq (gSet 8 (d2 gIx (dOwn 2) (d2 gIx (dOwn 7) (dC (.int 0)))))
  (gSeq (gSetIx 2 (d2 gIx (dOwn 7) (dC (.int 0))) (d2 gIx (dOwn 2) (dOwn 6)))
  (gSeq (gSet 8 (dCall m_multiple_in (aCons (dVar 0) (aCons (dCall m_inverse_in (aCons (dVar 0) (aCons (d2 gIx (dOwn 8) (dOwn 5)) aNil))) (aCons (dVar 8) aNil)))))
  (gSeq (gSetIx 2 (dVar 6) (dVar 8))
  (gSeq (gFor 100000 (iRg rg1 (aCons (dBi bLen (aCons (dOwn 2) aNil)) aNil)) (gNm 9) g_reduced_in_b0)
  (gApp 3 (dVar 5))))))))))
def g_reduced_in : DS :=
  (gSeq (gParNND 2 3 4 (nLc 100000 (iSeq (dVar 1)) (gNm 10) tTrue (dN2 (nOf (aCons (dOwn 10) aNil))) [10]) (nLst aNil) (dCall m_scalar_in (aCons (dVar 0) (aCons (dC (.int 0)) aNil))))
  (gSeq (gFor 100000 (iRg rg1 (aCons (dIf (tVal (d2 gNe (dOwn 2) (dN2 (nLst aNil)))) (dBi bLen (aCons (d2 gIx (dOwn 2) (dC (.int 0))) aNil)) (dC (.int 0))) aNil)) (gNm 5) g_reduced_in_b1)
  (gFrz 2 (gRet (dTup (aCons (dBi bTuple (aCons (dN2 (nLc 100000 (iSeq (dVar 2)) (gNm 10) tTrue (dBi bTuple (aCons (dOwn 10) aNil)) [10])) aNil)) (aCons (dBi bTuple (aCons (dOwn 3) aNil)) aNil)))))))
theorem x_reduced_in : ∃ F : Fn, F = fnB 2 9 g_reduced_in := ⟨_, rfl⟩
noncomputable def m_reduced_in : Fn := Classical.choose x_reduced_in
theorem q_reduced_in : m_reduced_in = fnB 2 9 g_reduced_in := Classical.choose_spec x_reduced_in
def g_undone_in : DS :=
  (gSeq (gSet 2 (dBi bLen (aCons (dOwn 1) aNil)))
  (gSeq (gAsg (dCall m_reduced_in (aCons (dVar 0) (aCons (dBi bTuple (aCons (dN2 (nLc 100000 (iZp (aCons (dVar 1) (aCons (dCall m_units_in (aCons (dVar 0) (aCons (dVar 2) aNil))) aNil))) (gTp (gsCons (gNm 5) (gsCons (gNm 6) gsNil))) tTrue (d2 gAdd (dOwn 5) (dOwn 6)) [5, 6])) aNil)) aNil))) (gTp (gsCons (gNm 3) (gsCons (gNm 4) gsNil))))
  (gRet (dIf (tVal (d2 gEq (dOwn 4) (dTupRg (dOwn 2)))) (dBi bTuple (aCons (dN2 (nLc 100000 (iSeq (dVar 3)) (gNm 5) tTrue (dSl (dOwn 5) (pAt (dVar 2)) pNo) [5])) aNil)) (dC .none)))))
theorem x_undone_in : ∃ F : Fn, F = fnB 2 5 g_undone_in := ⟨_, rfl⟩
noncomputable def m_undone_in : Fn := Classical.choose x_undone_in
theorem q_undone_in : m_undone_in = fnB 2 5 g_undone_in := Classical.choose_spec x_undone_in
def g_determinant_in_b0 : DS :=
  (gSetIx 2 (dVar 9) (dCall m_less_in (aCons (dVar 0) (aCons (d2 gIx (dOwn 2) (dOwn 9)) (aCons (dCall m_times_in (aCons (dVar 0) (aCons (d2 gIx (d2 gIx (dOwn 2) (dOwn 9)) (dOwn 5)) (aCons (dVar 8) aNil)))) (aCons (dVar 7) aNil))))))
def g_determinant_in_b1 : DS :=
  (gSeq (gSetN 6 (nLc 100000 (iRg rg2 (aCons (dOwn 5) (aCons (dBi bLen (aCons (dOwn 2) aNil)) aNil))) (gNm 9) (tVal (d2 gNe (d2 gIx (d2 gIx (dOwn 2) (dOwn 9)) (dOwn 5)) (dOwn 3))) (dVar 9) [9]))
  (gSeq (gIfS (tVal (d2 gEq (dOwn 6) (dN2 (nLst aNil)))) (gRet (dVar 3)) gNext)
  (gSeq (gSet 7 (d2 gIx (dOwn 2) (d2 gIx (dOwn 6) (dC (.int 0)))))
  (gSeq (gSetIx 2 (d2 gIx (dOwn 6) (dC (.int 0))) (d2 gIx (dOwn 2) (dOwn 5)))
  (gSeq (gSetIx 2 (dVar 5) (dVar 7))
  (gSeq (gSet 4 (dCall m_times_in (aCons (dVar 0) (aCons (dVar 4) (aCons (dIf (tVal (d2 gEq (d2 gIx (dOwn 6) (dC (.int 0))) (dOwn 5))) (d2 gIx (dOwn 7) (dOwn 5)) (dCall m_negative_in (aCons (dVar 0) (aCons (d2 gIx (dOwn 7) (dOwn 5)) aNil)))) aNil)))))
  (gSeq (gSet 8 (dCall m_inverse_in (aCons (dVar 0) (aCons (d2 gIx (dOwn 7) (dOwn 5)) aNil))))
  (gFor 100000 (iRg rg2 (aCons (d2 gAdd (dOwn 5) (dC (.int 1))) (aCons (dBi bLen (aCons (dOwn 2) aNil)) aNil))) (gNm 9) g_determinant_in_b0))))))))
def g_determinant_in : DS :=
  (gSeq (gParNDD 2 3 4 (nLc 100000 (iSeq (dVar 1)) (gNm 10) tTrue (dN2 (nOf (aCons (dOwn 10) aNil))) [10]) (dCall m_scalar_in (aCons (dVar 0) (aCons (dC (.int 0)) aNil))) (dCall m_scalar_in (aCons (dVar 0) (aCons (dC (.int 1)) aNil))))
  (gSeq (gFor 100000 (iRg rg1 (aCons (dBi bLen (aCons (dOwn 2) aNil)) aNil)) (gNm 5) g_determinant_in_b1)
  (gRet (dVar 4))))
theorem x_determinant_in : ∃ F : Fn, F = fnB 2 9 g_determinant_in := ⟨_, rfl⟩
noncomputable def m_determinant_in : Fn := Classical.choose x_determinant_in
theorem q_determinant_in : m_determinant_in = fnB 2 9 g_determinant_in := Classical.choose_spec x_determinant_in
def g_need_table : DS :=
  (gSeq (gDrop (dCall m_need_prime (aCons (dVar 0) aNil)))
  (gIfS (tNot' (tVal (dCall m_is_some_table (aCons (dVar 0) (aCons (dVar 1) aNil))))) (gRaise 2 (dCall m_anew (aCons (dVar 1) aNil))) gNext))
theorem x_need_table : ∃ F : Fn, F = fnB 2 0 g_need_table := ⟨_, rfl⟩
noncomputable def m_need_table : Fn := Classical.choose x_need_table
theorem q_need_table : m_need_table = fnB 2 0 g_need_table := Classical.choose_spec x_need_table
def g_need_square : DS :=
  (gSeq (gDrop (dCall m_need_table (aCons (dVar 0) (aCons (dVar 1) aNil))))
  (gIfS (tAnd' (tVal (d2 gNe (dOwn 1) (dTup aNil))) (tVal (d2 gNe (dBi bLen (aCons (d2 gIx (dOwn 1) (dC (.int 0))) aNil)) (dBi bLen (aCons (dOwn 1) aNil))))) (gRaise 2 (dCall m_anew (aCons (dVar 1) aNil))) gNext))
theorem x_need_square : ∃ F : Fn, F = fnB 2 0 g_need_square := ⟨_, rfl⟩
noncomputable def m_need_square : Fn := Classical.choose x_need_square
theorem q_need_square : m_need_square = fnB 2 0 g_need_square := Classical.choose_spec x_need_square
def g_need_columns : DS :=
  (gSeq (gDrop (dCall m_need_table (aCons (dVar 0) (aCons (dVar 1) aNil))))
  (gIfS (tOr' (tVal (d2 gLt (dOwn 2) (dC (.int 0)))) (tAnd' (tVal (d2 gNe (dOwn 1) (dTup aNil))) (tVal (d2 gNe (dOwn 2) (dBi bLen (aCons (d2 gIx (dOwn 1) (dC (.int 0))) aNil)))))) (gRaise 0 (dVar 2)) gNext))
theorem x_need_columns : ∃ F : Fn, F = fnB 3 0 g_need_columns := ⟨_, rfl⟩
noncomputable def m_need_columns : Fn := Classical.choose x_need_columns
theorem q_need_columns : m_need_columns = fnB 3 0 g_need_columns := Classical.choose_spec x_need_columns
def g_transposed : DS :=
  (gSeq (gDrop (dCall m_need_columns (aCons (dVar 0) (aCons (dVar 1) (aCons (dVar 2) aNil)))))
  (gRet (dCall m_transposed_in (aCons (dVar 1) (aCons (dVar 2) aNil)))))
theorem x_transposed : ∃ F : Fn, F = fnB 3 0 g_transposed := ⟨_, rfl⟩
noncomputable def m_transposed : Fn := Classical.choose x_transposed
theorem q_transposed : m_transposed = fnB 3 0 g_transposed := Classical.choose_spec x_transposed
def g_determinant : DS :=
  (gSeq (gDrop (dCall m_need_square (aCons (dVar 0) (aCons (dVar 1) aNil))))
  (gRet (dCall m_determinant_in (aCons (dVar 0) (aCons (dVar 1) aNil)))))
theorem x_determinant : ∃ F : Fn, F = fnB 2 0 g_determinant := ⟨_, rfl⟩
noncomputable def m_determinant : Fn := Classical.choose x_determinant
theorem q_determinant : m_determinant = fnB 2 0 g_determinant := Classical.choose_spec x_determinant
def g_undone : DS :=
  (gSeq (gDrop (dCall m_need_square (aCons (dVar 0) (aCons (dVar 1) aNil))))
  (gRet (dCall m_undone_in (aCons (dVar 0) (aCons (dVar 1) aNil)))))
theorem x_undone : ∃ F : Fn, F = fnB 2 0 g_undone := ⟨_, rfl⟩
noncomputable def m_undone : Fn := Classical.choose x_undone
theorem q_undone : m_undone = fnB 2 0 g_undone := Classical.choose_spec x_undone
def g__law_well : List Sl → (List PD → Prop) → Prop :=
  (zSeq (gSet 2 (dIf (tVal (d2 gLt (dOwn 1) (dBi bLen (aCons (dOwn 0) aNil)))) (dBi bInt (aCons (d2 gIx (dOwn 0) (dOwn 1)) aNil)) (d2 gAdd (d2 gMul (dC (.int 89)) (dOwn 1)) (dC (.int 59)))))
  (zSeq (gSet 3 (d2 gAdd (dC (.int 71)) (dBi bLen (aCons (dOwn 0) aNil))))
  (zSeq (gFor 100000 (iSeq (dVar 0)) (gNm 4) (gSet 3 (d2 gMod (dBi bInt (aCons (d2 gAdd (d2 gMul (dOwn 3) (dC (.int 5323))) (d2 gMod (dBi bInt (aCons (dOwn 4) aNil)) (d2 gAdd (d2 gPow (dC (.int 10)) (dC (.int 19))) (dC (.int 51))))) aNil)) (d2 gAdd (d2 gPow (dC (.int 10)) (dC (.int 25))) (dC (.int 13))))))
  (zSeq (gSet 5 (d2 gMod (dBi bInt (aCons (d2 gAdd (d2 gAdd (d2 gAdd (d2 gMul (dBi bAbs (aCons (dOwn 2) aNil)) (dC (.int 19))) (d2 gMul (dOwn 3) (dC (.int 41)))) (d2 gMul (dC (.int 3)) (dBi bInt (aCons (d2 gLt (dOwn 2) (dC (.int 0))) aNil)))) (d2 gMul (dC (.int 61)) (dOwn 1))) aNil)) (d2 gAdd (d2 gPow (dC (.int 10)) (dC (.int 28))) (dC (.int 331)))))
  (zRet (nLst (aCons (dBi bMax2 (aCons (dC (.int 0)) (aCons (d2 gSub (dBi bAbs (aCons (dOwn 2) aNil)) (d2 gPow (dC (.int 10)) (dC (.int 18)))) aNil))) (aCons (dVar 5) (aCons (dC (.int 0)) aNil)))))))))
def g__law_draw : DS :=
  (gSeq (gIfS (tVal (d2 gGt (d2 gIx (dOwn 0) (dC (.int 0))) (dC (.int 0)))) (gSeq (gSet 2 (d2 gMod (dBi bInt (aCons (d2 gIx (dOwn 0) (dC (.int 0))) aNil)) (dOwn 1)))
  (gSeq (gSetIx 0 (dC (.int 0)) (d2 gFdiv (d2 gIx (dOwn 0) (dC (.int 0))) (dOwn 1)))
  (gRet (dVar 2)))) gNext)
  (gSeq (gSetIx 0 (dC (.int 2)) (d2 gAdd (d2 gIx (dOwn 0) (dC (.int 2))) (dC (.int 1))))
  (gSeq (gSet 3 (d2 gIx (dOwn 0) (dC (.int 2))))
  (gSeq (gSet 4 (d2 gMod (dBi bInt (aCons (d2 gAdd (d2 gAdd (d2 gMul (d2 gMul (d2 gAdd (d2 gIx (dOwn 0) (dC (.int 1))) (dC (.int 31))) (d2 gAdd (dOwn 3) (dC (.int 5)))) (dC (.int 998244353))) (d2 gMul (d2 gMul (d2 gMul (dOwn 3) (dOwn 3)) (dOwn 3)) (dC (.int 424242427)))) (dC (.int 77))) aNil)) (d2 gAdd (d2 gPow (dC (.int 10)) (dC (.int 29))) (dC (.int 319)))))
  (gSeq (gSet 4 (d2 gMod (dBi bInt (aCons (d2 gAdd (d2 gAdd (d2 gMul (dOwn 4) (dOwn 4)) (d2 gMul (d2 gIx (dOwn 0) (dC (.int 1))) (dC (.int 7)))) (dOwn 3)) aNil)) (d2 gAdd (d2 gPow (dC (.int 10)) (dC (.int 31))) (dC (.int 33)))))
  (gSeq (gSet 4 (d2 gMod (dBi bInt (aCons (d2 gAdd (d2 gMul (d2 gMul (dOwn 4) (dOwn 4)) (dC (.int 3))) (d2 gMul (dOwn 4) (dC (.int 11)))) aNil)) (d2 gAdd (d2 gPow (dC (.int 10)) (dC (.int 33))) (dC (.int 603)))))
  (gRet (d2 gMod (dBi bInt (aCons (d2 gFdiv (dOwn 4) (dC (.int 50021))) aNil)) (dOwn 1)))))))))
def m__law_draw : Fn := drawFn
def g__law_cut_b0 : DS :=
  (gPar 2 3 (aCons (dVar 3) (aCons (d2 gMod (dBi bInt (aCons (dOwn 2) aNil)) (dOwn 3)) aNil)))
def g__law_cut : DS :=
  (gSeq (gPar 2 3 (aCons (dBi bAbs (aCons (dOwn 0) aNil)) (aCons (dBi bAbs (aCons (dOwn 1) aNil)) aNil)))
  (gSeq (gWhile (tVal (d2 gGt (dOwn 3) (dC (.int 0)))) g__law_cut_b0)
  (gSeq (gSet 4 (dIf (tVal (d2 gLt (dOwn 1) (dC (.int 0)))) (d1 gNeg (dC (.int 1))) (dC (.int 1))))
  (gRet (dTup (aCons (d2 gFdiv (d2 gMul (dOwn 4) (dOwn 0)) (dOwn 2)) (aCons (d2 gFdiv (d2 gMul (dOwn 4) (dOwn 1)) (dOwn 2)) aNil)))))))
theorem x__law_cut : ∃ F : Fn, F = fnB 2 3 g__law_cut := ⟨_, rfl⟩
noncomputable def m__law_cut : Fn := Classical.choose x__law_cut
theorem q__law_cut : m__law_cut = fnB 2 3 g__law_cut := Classical.choose_spec x__law_cut
def g__law_num : DS :=
  (gRet (dIf (tVal (d2 gEq (dOwn 0) (dC (.int 0)))) (dTup (aCons (dVar 1) (aCons (dC (.int 1)) aNil))) (d2 gMod (dBi bInt (aCons (dOwn 1) aNil)) (dOwn 0))))
theorem x__law_num : ∃ F : Fn, F = fnB 2 0 g__law_num := ⟨_, rfl⟩
noncomputable def m__law_num : Fn := Classical.choose x__law_num
theorem q__law_num : m__law_num = fnB 2 0 g__law_num := Classical.choose_spec x__law_num
def g__law_plus : DS :=
  (gRet (dIf (tVal (d2 gGt (dOwn 0) (dC (.int 0)))) (d2 gMod (dBi bInt (aCons (d2 gAdd (dOwn 1) (dOwn 2)) aNil)) (dOwn 0)) (dCall m__law_cut (aCons (d2 gAdd (d2 gMul (d2 gIx (dOwn 1) (dC (.int 0))) (d2 gIx (dOwn 2) (dC (.int 1)))) (d2 gMul (d2 gIx (dOwn 2) (dC (.int 0))) (d2 gIx (dOwn 1) (dC (.int 1))))) (aCons (d2 gMul (d2 gIx (dOwn 1) (dC (.int 1))) (d2 gIx (dOwn 2) (dC (.int 1)))) aNil)))))
theorem x__law_plus : ∃ F : Fn, F = fnB 3 0 g__law_plus := ⟨_, rfl⟩
noncomputable def m__law_plus : Fn := Classical.choose x__law_plus
theorem q__law_plus : m__law_plus = fnB 3 0 g__law_plus := Classical.choose_spec x__law_plus
def g__law_times : DS :=
  (gRet (dIf (tVal (d2 gGt (dOwn 0) (dC (.int 0)))) (d2 gMod (dBi bInt (aCons (d2 gMul (dOwn 1) (dOwn 2)) aNil)) (dOwn 0)) (dCall m__law_cut (aCons (d2 gMul (d2 gIx (dOwn 1) (dC (.int 0))) (d2 gIx (dOwn 2) (dC (.int 0)))) (aCons (d2 gMul (d2 gIx (dOwn 1) (dC (.int 1))) (d2 gIx (dOwn 2) (dC (.int 1)))) aNil)))))
theorem x__law_times : ∃ F : Fn, F = fnB 3 0 g__law_times := ⟨_, rfl⟩
noncomputable def m__law_times : Fn := Classical.choose x__law_times
theorem q__law_times : m__law_times = fnB 3 0 g__law_times := Classical.choose_spec x__law_times
def g__law_drawn : DS :=
  (gRet (dIf (tVal (d2 gGt (dOwn 1) (dC (.int 0)))) (dCall m__law_draw (aCons (dVar 0) (aCons (dVar 1) aNil))) (dCall m__law_cut (aCons (d2 gSub (dCall m__law_draw (aCons (dVar 0) (aCons (dC (.int 7)) aNil))) (dC (.int 3))) (aCons (d2 gAdd (dC (.int 1)) (dCall m__law_draw (aCons (dVar 0) (aCons (dC (.int 3)) aNil)))) aNil)))))
theorem x__law_drawn : ∃ F : Fn, F = fnB 2 0 g__law_drawn := ⟨_, rfl⟩
noncomputable def m__law_drawn : Fn := Classical.choose x__law_drawn
theorem q__law_drawn : m__law_drawn = fnB 2 0 g__law_drawn := Classical.choose_spec x__law_drawn
def g__law_table : DS :=
  (gRet (dBi bTuple (aCons (dN2 (nLc 64 (iRg rg1 (aCons (dOwn 2) aNil)) (gNm 5) tTrue (dBi bTuple (aCons (dN2 (nLc 64 (iRg rg1 (aCons (dOwn 3) aNil)) (gNm 4) tTrue (dCall m__law_drawn (aCons (dVar 0) (aCons (dVar 1) aNil))) [4])) aNil)) [5])) aNil)))
theorem x__law_table : ∃ F : Fn, F = fnB 4 2 g__law_table := ⟨_, rfl⟩
noncomputable def m__law_table : Fn := Classical.choose x__law_table
theorem q__law_table : m__law_table = fnB 4 2 g__law_table := Classical.choose_spec x__law_table
def g__law_dot_b0 : DS :=
  (gSet 3 (dCall m__law_plus (aCons (dVar 0) (aCons (dVar 3) (aCons (dCall m__law_times (aCons (dVar 0) (aCons (dVar 4) (aCons (dVar 5) aNil)))) aNil)))))
def g__law_dot : DS :=
  (gSeq (gSet 3 (dCall m__law_num (aCons (dVar 0) (aCons (dC (.int 0)) aNil))))
  (gSeq (gFor 100000 (iZp (aCons (dVar 1) (aCons (dVar 2) aNil))) (gTp (gsCons (gNm 4) (gsCons (gNm 5) gsNil))) g__law_dot_b0)
  (gRet (dVar 3))))
theorem x__law_dot : ∃ F : Fn, F = fnB 3 3 g__law_dot := ⟨_, rfl⟩
noncomputable def m__law_dot : Fn := Classical.choose x__law_dot
theorem q__law_dot : m__law_dot = fnB 3 3 g__law_dot := Classical.choose_spec x__law_dot
def g__law_product : DS :=
  (gRet (dBi bTuple (aCons (dN2 (nLc 100000 (iSeq (dVar 1)) (gNm 6) tTrue (dBi bTuple (aCons (dN2 (nLc 100000 (iRg rg1 (aCons (dOwn 3) aNil)) (gNm 5) tTrue (dCall m__law_dot (aCons (dVar 0) (aCons (dVar 6) (aCons (dN2 (nLc 100000 (iSeq (dVar 2)) (gNm 4) tTrue (d2 gIx (dOwn 4) (dOwn 5)) [4])) aNil)))) [5])) aNil)) [6])) aNil)))
theorem x__law_product : ∃ F : Fn, F = fnB 4 3 g__law_product := ⟨_, rfl⟩
noncomputable def m__law_product : Fn := Classical.choose x__law_product
theorem q__law_product : m__law_product = fnB 4 3 g__law_product := Classical.choose_spec x__law_product
def g__law_units : DS :=
  (gRet (dBi bTuple (aCons (dN2 (nLc 100000 (iRg rg1 (aCons (dOwn 1) aNil)) (gNm 3) tTrue (dBi bTuple (aCons (dN2 (nLc 100000 (iRg rg1 (aCons (dOwn 1) aNil)) (gNm 2) tTrue (dCall m__law_num (aCons (dVar 0) (aCons (dBi bInt (aCons (d2 gEq (dOwn 3) (dOwn 2)) aNil)) aNil))) [2])) aNil)) [3])) aNil)))
theorem x__law_units : ∃ F : Fn, F = fnB 2 2 g__law_units := ⟨_, rfl⟩
noncomputable def m__law_units : Fn := Classical.choose x__law_units
theorem q__law_units : m__law_units = fnB 2 2 g__law_units := Classical.choose_spec x__law_units
def g__law_orders_b0 : DS :=
  (gApp 3 (dTup (aCons (d2 gAdd (d2 gAdd (dSl (dOwn 4) pNo (pAt (dVar 6))) (dTup (aCons (dVar 2) aNil))) (dSl (dOwn 4) (pAt (dVar 6)) pNo)) (aCons (dIf (tVal (d2 gEq (d2 gMod (dBi bInt (aCons (d2 gSub (dOwn 2) (dOwn 6)) aNil)) (dC (.int 2))) (dC (.int 0)))) (dVar 5) (d1 gNeg (dOwn 5))) aNil))))
def g__law_orders_b1 : DS :=
  (gFor 100000 (iRg rg1 (aCons (d2 gAdd (dOwn 2) (dC (.int 1))) aNil)) (gNm 6) g__law_orders_b0)
def g__law_orders_b2 : DS :=
  (gSeq (gSetN 3 (nLst aNil))
  (gSeq (gFor 100000 (iSeq (dVar 1)) (gTp (gsCons (gNm 4) (gsCons (gNm 5) gsNil))) g__law_orders_b1)
  (gFrz 3 (gSet 1 (dVar 3)))))
def g__law_orders : DS :=
  (gSeq (gSet 1 (dN2 (nLst (aCons (dTup (aCons (dTup aNil) (aCons (dC (.int 1)) aNil))) aNil))))
  (gSeq (gFor 100000 (iRg rg1 (aCons (dOwn 0) aNil)) (gNm 2) g__law_orders_b2)
  (gRet (dVar 1))))
theorem x__law_orders : ∃ F : Fn, F = fnB 1 6 g__law_orders := ⟨_, rfl⟩
noncomputable def m__law_orders : Fn := Classical.choose x__law_orders
theorem q__law_orders : m__law_orders = fnB 1 6 g__law_orders := Classical.choose_spec x__law_orders
def g__law_determinant_b0 : DS :=
  (gSet 5 (dCall m__law_times (aCons (dVar 0) (aCons (dVar 5) (aCons (d2 gIx (dOwn 6) (dOwn 7)) aNil)))))
def g__law_determinant_b1 : DS :=
  (gSeq (gSet 5 (dCall m__law_num (aCons (dVar 0) (aCons (dVar 4) aNil))))
  (gSeq (gFor 100000 (iZp (aCons (dVar 1) (aCons (dVar 3) aNil))) (gTp (gsCons (gNm 6) (gsCons (gNm 7) gsNil))) g__law_determinant_b0)
  (gSet 2 (dCall m__law_plus (aCons (dVar 0) (aCons (dVar 2) (aCons (dVar 5) aNil)))))))
def g__law_determinant : DS :=
  (gSeq (gSet 2 (dCall m__law_num (aCons (dVar 0) (aCons (dC (.int 0)) aNil))))
  (gSeq (gFor 100000 (iSeq (dCall m__law_orders (aCons (dBi bLen (aCons (dOwn 1) aNil)) aNil))) (gTp (gsCons (gNm 3) (gsCons (gNm 4) gsNil))) g__law_determinant_b1)
  (gRet (dVar 2))))
theorem x__law_determinant : ∃ F : Fn, F = fnB 2 6 g__law_determinant := ⟨_, rfl⟩
noncomputable def m__law_determinant : Fn := Classical.choose x__law_determinant
theorem q__law_determinant : m__law_determinant = fnB 2 6 g__law_determinant := Classical.choose_spec x__law_determinant
def g__law_square : DS :=
  (gSeq (gSet 2 (dCall m__law_draw (aCons (dVar 0) (aCons (dC (.int 5)) aNil))))
  (gSeq (gSetN 3 (nOf (aCons (dCall m__law_table (aCons (dVar 0) (aCons (dVar 1) (aCons (dVar 2) (aCons (dVar 2) aNil))))) aNil)))
  (gSeq (gIfS (tAnd' (tVal (d2 gGt (dOwn 2) (dC (.int 1)))) (tVal (d2 gEq (dCall m__law_draw (aCons (dVar 0) (aCons (dC (.int 3)) aNil))) (dC (.int 0))))) (gSeq (gAsg (dTup (aCons (dCall m__law_drawn (aCons (dVar 0) (aCons (dVar 1) aNil))) (aCons (dCall m__law_draw (aCons (dVar 0) (aCons (dVar 2) aNil))) (aCons (dCall m__law_draw (aCons (dVar 0) (aCons (dVar 2) aNil))) aNil)))) (gTp (gsCons (gNm 4) (gsCons (gNm 5) (gsCons (gNm 6) gsNil)))))
  (gIfS (tVal (d2 gNe (dOwn 5) (dOwn 6))) (gSetIx 3 (dVar 5) (dBi bTuple (aCons (dN2 (nLc 100000 (iSeq (d2 gIx (dOwn 3) (dOwn 6))) (gNm 7) tTrue (dCall m__law_times (aCons (dVar 1) (aCons (dVar 4) (aCons (dVar 7) aNil)))) [7])) aNil))) gNext)) gNext)
  (gRet (dBi bTuple (aCons (dOwn 3) aNil))))))
theorem x__law_square : ∃ F : Fn, F = fnB 2 6 g__law_square := ⟨_, rfl⟩
noncomputable def m__law_square : Fn := Classical.choose x__law_square
theorem q__law_square : m__law_square = fnB 2 6 g__law_square := Classical.choose_spec x__law_square
theorem v__law_told_2 : ∃ g : DS, g =
  (gRet (dIf (tVal (d1 gIsN (dOwn 3))) (dC .none) (dTup (aCons (d1 (gIsE 2 subE) (dOwn 3)) (aCons (d1 (gIsE 1 subE) (dOwn 3)) (aCons (dBi bRepr (aCons (d1 gVal (dOwn 3)) aNil)) aNil)))))) := ⟨_, rfl⟩
noncomputable def g__law_told_2 : DS := Classical.choose v__law_told_2
theorem u__law_told_2 : g__law_told_2 =
  (gRet (dIf (tVal (d1 gIsN (dOwn 3))) (dC .none) (dTup (aCons (d1 (gIsE 2 subE) (dOwn 3)) (aCons (d1 (gIsE 1 subE) (dOwn 3)) (aCons (dBi bRepr (aCons (d1 gVal (dOwn 3)) aNil)) aNil)))))) := Classical.choose_spec v__law_told_2
theorem v__law_told_1 : ∃ g : DS, g =
  gSeq (gTry 4 3 (gIfS (tVal (d2 gEq (dOwn 0) (dC (.int 0)))) (gDrop (dCall m_determinant (aCons (dVar 1) (aCons (dVar 2) aNil)))) (gDrop (dCallK m_undone px_10 aNil (aCons (dVar 2) (aCons (dVar 1) aNil)))))) g__law_told_2 := ⟨_, rfl⟩
noncomputable def g__law_told_1 : DS := Classical.choose v__law_told_1
theorem u__law_told_1 : g__law_told_1 =
  gSeq (gTry 4 3 (gIfS (tVal (d2 gEq (dOwn 0) (dC (.int 0)))) (gDrop (dCall m_determinant (aCons (dVar 1) (aCons (dVar 2) aNil)))) (gDrop (dCallK m_undone px_10 aNil (aCons (dVar 2) (aCons (dVar 1) aNil)))))) g__law_told_2 := Classical.choose_spec v__law_told_1
theorem v__law_told_0 : ∃ g : DS, g =
  gSeq (gSet 3 (dC .none)) g__law_told_1 := ⟨_, rfl⟩
noncomputable def g__law_told_0 : DS := Classical.choose v__law_told_0
theorem u__law_told_0 : g__law_told_0 =
  gSeq (gSet 3 (dC .none)) g__law_told_1 := Classical.choose_spec v__law_told_0
def g__law_told : DS := g__law_told_0
theorem x__law_told : ∃ F : Fn, F = fnB 3 2 g__law_told := ⟨_, rfl⟩
noncomputable def m__law_told : Fn := Classical.choose x__law_told
theorem q__law_told : m__law_told = fnB 3 2 g__law_told := Classical.choose_spec x__law_told
def g__law_right_b0 : DS :=
  (gIfS (tVal (d2 gNe (dN2 (nLc 100000 (iSeq (dTup (aCons (dC (.int 0)) (aCons (dC (.int 1)) aNil)))) (gNm 11) tTrue (dCall m__law_told (aCons (dVar 11) (aCons (dVar 1) (aCons (dVar 9) aNil)))) [11])) (d2 gMul (dN2 (nLst (aCons (dTup (aCons (dC (.bool true)) (aCons (dC (.bool false)) (aCons (dBi bRepr (aCons (dOwn 9) aNil)) aNil)))) aNil))) (dC (.int 2))))) (gRet (dC (.bool false))) gNext)
theorem v__law_right_11 : ∃ g : DS, g =
  (gRet (d2 gEq (dN2 (nLc 100000 (iSeq (dTup (aCons (dC (.int 0)) (aCons (dC (.int 1)) aNil)))) (gNm 11) tTrue (dCall m__law_told (aCons (dVar 11) (aCons (dC (.int 6)) (aCons (dC .none) aNil)))) [11])) (d2 gMul (dN2 (nLst (aCons (dTup (aCons (dC (.bool false)) (aCons (dC (.bool true)) (aCons (dC (.str "6")) aNil)))) aNil))) (dC (.int 2))))) := ⟨_, rfl⟩
noncomputable def g__law_right_11 : DS := Classical.choose v__law_right_11
theorem u__law_right_11 : g__law_right_11 =
  (gRet (d2 gEq (dN2 (nLc 100000 (iSeq (dTup (aCons (dC (.int 0)) (aCons (dC (.int 1)) aNil)))) (gNm 11) tTrue (dCall m__law_told (aCons (dVar 11) (aCons (dC (.int 6)) (aCons (dC .none) aNil)))) [11])) (d2 gMul (dN2 (nLst (aCons (dTup (aCons (dC (.bool false)) (aCons (dC (.bool true)) (aCons (dC (.str "6")) aNil)))) aNil))) (dC (.int 2))))) := Classical.choose_spec v__law_right_11
theorem v__law_right_10 : ∃ g : DS, g =
  gSeq (gFor 100000 (iSeq (dTup (aCons (dVar 8) (aCons (dC .none) (aCons (dN2 (nLst aNil)) (aCons (dTup (aCons (dTup aNil) aNil)) (aCons (dC (.str "ab")) (aCons (dTup (aCons (dTup (aCons (dTup aNil) (aCons (dTup aNil) aNil))) aNil)) aNil)))))))) (gNm 9) g__law_right_b0) g__law_right_11 := ⟨_, rfl⟩
noncomputable def g__law_right_10 : DS := Classical.choose v__law_right_10
theorem u__law_right_10 : g__law_right_10 =
  gSeq (gFor 100000 (iSeq (dTup (aCons (dVar 8) (aCons (dC .none) (aCons (dN2 (nLst aNil)) (aCons (dTup (aCons (dTup aNil) aNil)) (aCons (dC (.str "ab")) (aCons (dTup (aCons (dTup (aCons (dTup aNil) (aCons (dTup aNil) aNil))) aNil)) aNil)))))))) (gNm 9) g__law_right_b0) g__law_right_11 := Classical.choose_spec v__law_right_10
theorem v__law_right_9 : ∃ g : DS, g =
  gSeq (gSet 8 (d2 gAdd (dBi bTuple (aCons (dN2 (nLc 100000 (iSeq (dVar 2)) (gNm 10) tTrue (d2 gAdd (dOwn 10) (dTup (aCons (dCall m__law_num (aCons (dVar 1) (aCons (dC (.int 0)) aNil))) aNil))) [10])) aNil)) (dIf (tVal (d2 gEq (dOwn 3) (dC (.int 0)))) (dTup (aCons (d2 gMul (dTup (aCons (dCall m__law_num (aCons (dVar 1) (aCons (dC (.int 1)) aNil))) aNil)) (dC (.int 2))) aNil)) (dTup aNil)))) g__law_right_10 := ⟨_, rfl⟩
noncomputable def g__law_right_9 : DS := Classical.choose v__law_right_9
theorem u__law_right_9 : g__law_right_9 =
  gSeq (gSet 8 (d2 gAdd (dBi bTuple (aCons (dN2 (nLc 100000 (iSeq (dVar 2)) (gNm 10) tTrue (d2 gAdd (dOwn 10) (dTup (aCons (dCall m__law_num (aCons (dVar 1) (aCons (dC (.int 0)) aNil))) aNil))) [10])) aNil)) (dIf (tVal (d2 gEq (dOwn 3) (dC (.int 0)))) (dTup (aCons (d2 gMul (dTup (aCons (dCall m__law_num (aCons (dVar 1) (aCons (dC (.int 1)) aNil))) aNil)) (dC (.int 2))) aNil)) (dTup aNil)))) g__law_right_10 := Classical.choose_spec v__law_right_9
theorem v__law_right_8 : ∃ g : DS, g =
  gSeq (gIfS (tVal (d2 gNe (dCall m_determinant (aCons (dVar 1) (aCons (dCall m__law_product (aCons (dVar 1) (aCons (dVar 2) (aCons (dVar 7) (aCons (dVar 3) aNil))))) aNil))) (dCall m__law_times (aCons (dVar 1) (aCons (dVar 4) (aCons (dCall m__law_determinant (aCons (dVar 1) (aCons (dVar 7) aNil))) aNil)))))) (gRet (dC (.bool false))) gNext) g__law_right_9 := ⟨_, rfl⟩
noncomputable def g__law_right_8 : DS := Classical.choose v__law_right_8
theorem u__law_right_8 : g__law_right_8 =
  gSeq (gIfS (tVal (d2 gNe (dCall m_determinant (aCons (dVar 1) (aCons (dCall m__law_product (aCons (dVar 1) (aCons (dVar 2) (aCons (dVar 7) (aCons (dVar 3) aNil))))) aNil))) (dCall m__law_times (aCons (dVar 1) (aCons (dVar 4) (aCons (dCall m__law_determinant (aCons (dVar 1) (aCons (dVar 7) aNil))) aNil)))))) (gRet (dC (.bool false))) gNext) g__law_right_9 := Classical.choose_spec v__law_right_8
theorem v__law_right_7 : ∃ g : DS, g =
  gSeq (gSet 7 (dCall m__law_table (aCons (dVar 0) (aCons (dVar 1) (aCons (dVar 3) (aCons (dVar 3) aNil)))))) g__law_right_8 := ⟨_, rfl⟩
noncomputable def g__law_right_7 : DS := Classical.choose v__law_right_7
theorem u__law_right_7 : g__law_right_7 =
  gSeq (gSet 7 (dCall m__law_table (aCons (dVar 0) (aCons (dVar 1) (aCons (dVar 3) (aCons (dVar 3) aNil)))))) g__law_right_8 := Classical.choose_spec v__law_right_7
theorem v__law_right_6 : ∃ g : DS, g =
  gSeq (gIfS (tVal (d1 gNotN (dOwn 5))) (gSeq (gSet 6 (dCall m__law_units (aCons (dVar 1) (aCons (dVar 3) aNil))))
  (gIfS (tOr' (tVal (d2 gNe (dCall m__law_product (aCons (dVar 1) (aCons (dVar 2) (aCons (dVar 5) (aCons (dVar 3) aNil))))) (dOwn 6))) (tOr' (tVal (d2 gNe (dCall m__law_product (aCons (dVar 1) (aCons (dVar 5) (aCons (dVar 2) (aCons (dVar 3) aNil))))) (dOwn 6))) (tVal (d2 gNe (dCall m_undone (aCons (dVar 1) (aCons (dVar 5) aNil))) (dOwn 2))))) (gRet (dC (.bool false))) gNext)) gNext) g__law_right_7 := ⟨_, rfl⟩
noncomputable def g__law_right_6 : DS := Classical.choose v__law_right_6
theorem u__law_right_6 : g__law_right_6 =
  gSeq (gIfS (tVal (d1 gNotN (dOwn 5))) (gSeq (gSet 6 (dCall m__law_units (aCons (dVar 1) (aCons (dVar 3) aNil))))
  (gIfS (tOr' (tVal (d2 gNe (dCall m__law_product (aCons (dVar 1) (aCons (dVar 2) (aCons (dVar 5) (aCons (dVar 3) aNil))))) (dOwn 6))) (tOr' (tVal (d2 gNe (dCall m__law_product (aCons (dVar 1) (aCons (dVar 5) (aCons (dVar 2) (aCons (dVar 3) aNil))))) (dOwn 6))) (tVal (d2 gNe (dCall m_undone (aCons (dVar 1) (aCons (dVar 5) aNil))) (dOwn 2))))) (gRet (dC (.bool false))) gNext)) gNext) g__law_right_7 := Classical.choose_spec v__law_right_6
theorem v__law_right_5 : ∃ g : DS, g =
  gSeq (gIfS (tOr' (tVal (d2 gNe (d1 gIsN (dOwn 5)) (d2 gEq (dOwn 4) (dCall m__law_num (aCons (dVar 1) (aCons (dC (.int 0)) aNil)))))) (tVal (d2 gNe (dCallK m_undone px_10 aNil (aCons (dVar 2) (aCons (dVar 1) aNil))) (dOwn 5)))) (gRet (dC (.bool false))) gNext) g__law_right_6 := ⟨_, rfl⟩
noncomputable def g__law_right_5 : DS := Classical.choose v__law_right_5
theorem u__law_right_5 : g__law_right_5 =
  gSeq (gIfS (tOr' (tVal (d2 gNe (d1 gIsN (dOwn 5)) (d2 gEq (dOwn 4) (dCall m__law_num (aCons (dVar 1) (aCons (dC (.int 0)) aNil)))))) (tVal (d2 gNe (dCallK m_undone px_10 aNil (aCons (dVar 2) (aCons (dVar 1) aNil))) (dOwn 5)))) (gRet (dC (.bool false))) gNext) g__law_right_6 := Classical.choose_spec v__law_right_5
theorem v__law_right_4 : ∃ g : DS, g =
  gSeq (gSet 5 (dCall m_undone (aCons (dVar 1) (aCons (dVar 2) aNil)))) g__law_right_5 := ⟨_, rfl⟩
noncomputable def g__law_right_4 : DS := Classical.choose v__law_right_4
theorem u__law_right_4 : g__law_right_4 =
  gSeq (gSet 5 (dCall m_undone (aCons (dVar 1) (aCons (dVar 2) aNil)))) g__law_right_5 := Classical.choose_spec v__law_right_4
theorem v__law_right_3 : ∃ g : DS, g =
  gSeq (gIfS (tOr' (tVal (d2 gNe (dBi bRepr (aCons (dN2 (nLst (aCons (dCall m_determinant (aCons (dVar 1) (aCons (dVar 2) aNil))) (aCons (dCallK m_determinant px_10 aNil (aCons (dVar 2) (aCons (dVar 1) aNil))) aNil)))) aNil)) (dBi bRepr (aCons (dN2 (nLst (aCons (dVar 4) (aCons (dVar 4) aNil)))) aNil)))) (tVal (d2 gNe (dCall m_determinant (aCons (dVar 1) (aCons (dCall m_transposed (aCons (dVar 1) (aCons (dVar 2) (aCons (dVar 3) aNil)))) aNil))) (dOwn 4)))) (gRet (dC (.bool false))) gNext) g__law_right_4 := ⟨_, rfl⟩
noncomputable def g__law_right_3 : DS := Classical.choose v__law_right_3
theorem u__law_right_3 : g__law_right_3 =
  gSeq (gIfS (tOr' (tVal (d2 gNe (dBi bRepr (aCons (dN2 (nLst (aCons (dCall m_determinant (aCons (dVar 1) (aCons (dVar 2) aNil))) (aCons (dCallK m_determinant px_10 aNil (aCons (dVar 2) (aCons (dVar 1) aNil))) aNil)))) aNil)) (dBi bRepr (aCons (dN2 (nLst (aCons (dVar 4) (aCons (dVar 4) aNil)))) aNil)))) (tVal (d2 gNe (dCall m_determinant (aCons (dVar 1) (aCons (dCall m_transposed (aCons (dVar 1) (aCons (dVar 2) (aCons (dVar 3) aNil)))) aNil))) (dOwn 4)))) (gRet (dC (.bool false))) gNext) g__law_right_4 := Classical.choose_spec v__law_right_3
theorem v__law_right_2 : ∃ g : DS, g =
  gSeq (gPar 3 4 (aCons (dBi bLen (aCons (dOwn 2) aNil)) (aCons (dCall m__law_determinant (aCons (dVar 1) (aCons (dVar 2) aNil))) aNil))) g__law_right_3 := ⟨_, rfl⟩
noncomputable def g__law_right_2 : DS := Classical.choose v__law_right_2
theorem u__law_right_2 : g__law_right_2 =
  gSeq (gPar 3 4 (aCons (dBi bLen (aCons (dOwn 2) aNil)) (aCons (dCall m__law_determinant (aCons (dVar 1) (aCons (dVar 2) aNil))) aNil))) g__law_right_3 := Classical.choose_spec v__law_right_2
theorem v__law_right_1 : ∃ g : DS, g =
  gSeq (gSet 2 (dCall m__law_square (aCons (dVar 0) (aCons (dVar 1) aNil)))) g__law_right_2 := ⟨_, rfl⟩
noncomputable def g__law_right_1 : DS := Classical.choose v__law_right_1
theorem u__law_right_1 : g__law_right_1 =
  gSeq (gSet 2 (dCall m__law_square (aCons (dVar 0) (aCons (dVar 1) aNil)))) g__law_right_2 := Classical.choose_spec v__law_right_1
theorem v__law_right_0 : ∃ g : DS, g =
  gSeq (gSet 1 (d2 gIx (dN2 (nLst (aCons (dC (.int 0)) (aCons (dC (.int 2)) (aCons (dC (.int 3)) (aCons (dC (.int 5)) (aCons (dC (.int 11)) aNil))))))) (dCall m__law_draw (aCons (dVar 0) (aCons (dC (.int 5)) aNil))))) g__law_right_1 := ⟨_, rfl⟩
noncomputable def g__law_right_0 : DS := Classical.choose v__law_right_0
theorem u__law_right_0 : g__law_right_0 =
  gSeq (gSet 1 (d2 gIx (dN2 (nLst (aCons (dC (.int 0)) (aCons (dC (.int 2)) (aCons (dC (.int 3)) (aCons (dC (.int 5)) (aCons (dC (.int 11)) aNil))))))) (dCall m__law_draw (aCons (dVar 0) (aCons (dC (.int 5)) aNil))))) g__law_right_1 := Classical.choose_spec v__law_right_0
def g__law_right : DS := g__law_right_0
theorem x__law_right : ∃ F : Fn, F = fnB 1 11 g__law_right := ⟨_, rfl⟩
noncomputable def m__law_right : Fn := Classical.choose x__law_right
theorem q__law_right : m__law_right = fnB 1 11 g__law_right := Classical.choose_spec x__law_right
def g_law : DS :=
  (gSeq (gFor 100000 (iRg rg1 (aCons (dBi bMax2 (aCons (dC (.int 1)) (aCons (dBi bMin2 (aCons (dC (.int 3)) (aCons (dBi bLen (aCons (dOwn 0) aNil)) aNil))) aNil))) aNil)) (gNm 1) (gSeq (gSetN 2 (nCallW (aCons (dVar 0) (aCons (dVar 1) aNil))))
  (gFor 100000 (iRg rg1 (aCons (dC (.int 4)) aNil)) (gNm 3) (gRight 24584 2))))
  (gRet (dC (.bool true))))
theorem x_law : ∃ F : Fn, F = fnB 1 3 g_law := ⟨_, rfl⟩
noncomputable def m_law : Fn := Classical.choose x_law
theorem q_law : m_law = fnB 1 3 g_law := Classical.choose_spec x_law
end Law
namespace Law
open PySem PySem.Spec PyProof.Rows L2 Wb
local macro_rules | `(tactic| array_get_dec) => `(tactic| try simp -implicitDefEqProofs -proj only [gSeq, gIfS, gRet, gSet, gSetN, gSetIx, gDrop, gRaise, gNext, gBrk, gCnt, gApp, gFrz, gTry, gAsg, gFor, gPar, gPar3, gParNN, gParDN, gParND, gAppX, xPopAt, xPop, gDropX, gSetX, gAugI, dVar, dOwn, dC, d2, d1, dN2, aNil, aCons, dTup, nLst, dBi, tVal, tNot', tAnd', tOr', dAnd, dOr, dNot, dIf, dChain, dSl, pAt, pNo, nOf, nRg1, iRg, iSeq, iZp, iRv, nLc, tTrue, gNm, gTp, gTpL, gsCons, gsNil, wipeD, e_onD, e_onB, e_onI, e_slV, e_slO, e_slOo, e_slOw, e_gI, e_gI0, e_add, e_mul, e_mulL, e_neg, e_ixL, e_ixT, e_ixS, e_isi, e_isN, e_notN, e_isNe, e_isNi, e_isNb, e_isNl, e_isNt, e_isNs, e_lenL, e_lenT, e_lenS, e_abs, e_int, e_intB, e_max, e_min, e_gcd, e_tupL, e_tupT, e_repr, e_sum, e_all, e_any, e_allN, e_allC, e_seqL, e_seqT, e_seqS, e_rg1, e_rg2, e_excN, e_excE, e_val, e_at0, e_at1, e_at2, e_ixn0, e_ixn1, e_ixn2, e_ex, e_zp, e_slT, e_slL, e_max1, e_min1, e_addT, e_addL, e_addS, e_mulT, e_eqN, e_neN, e_eqNT, e_neNT, e_siL, e_siT, e_inL, e_ninL, e_inT, e_ninT, e_eqI, e_neI, e_neS, e_nx, e_rt, e_bk, e_ct, e_exc, e_call0, e_call1, e_call2, e_call3, e_call4, e_call5, e_call6, e_call7, e_call8, e_call9, e_callk1, e_callk2, e_callk3, e_callk4, e_callk5, e_callk6, e_callk7, e_callk8, e_callk9, e_get0, e_get1, e_get2, e_get3, e_get4, e_get5, e_get6, e_get7, e_get8, e_get9, e_get10, e_get11, e_get12, e_get13, e_get14, e_get15, e_get16, e_get17, e_get18, e_get19, e_get20, e_get21, e_get22, e_get23, e_get24, e_get25, e_set0, e_set1, e_set2, e_set3, e_set4, e_set5, e_set6, e_set7, e_set8, e_set9, e_set10, e_set11, e_set12, e_set13, e_set14, e_set15, e_set16, e_set17, e_set18, e_set19, e_set20, e_set21, e_set22, e_set23, e_set24, e_set25, List.replicate, List.cons_append, List.nil_append, List.map_cons, List.map_nil, fnB, ↓reduceIte, Bool.false_eq_true, Bool.not_true, Bool.not_false, List.length_cons, List.length_nil, Nat.zero_add, Nat.reduceAdd, Nat.reduceLeDiff, true_and, px_10, gParNND, gParDND, gParNDD, gParNNN, gParDDN, gParNDN, dTupRg])
local macro_rules | `(tactic| sizeOf_list_dec) => `(tactic| first | assumption | exact trivial | omega | (simp only [List.length_map, List.length_append, List.length_cons, List.length_nil, List.length_replicate, List.length_reverse, List.length_set, List.length_zip, List.length_zipWith, rngD_len, irg_len] at *; omega) | decide | grind [List.length_filter_le, cutL_len] | (refine ⟨by omega, by omega⟩) | rfl | (intro _ hq; first | exact hq | (simp only [mem_irg] at hq; omega)))
local macro_rules | `(tactic| ac_rfl) => `(tactic| first
  | array_mem_dec
  | ((with_reducible apply And.intro); focus sizeOf_list_dec)
  | refine ite_t (decide_eq_true (by sizeOf_list_dec)) ?_
  | refine ite_f (decide_eq_false (by sizeOf_list_dec)) ?_
  | refine ite_t rfl ?_
  | refine ite_f rfl ?_
  | refine at_map (by sizeOf_list_dec) (by sizeOf_list_dec) ?_
  | (apply lcD_testI; focus (intro x hx P hP; bv_omega; first | exact a_push hP | exact a_push' hP))
  | (apply lcD_test; focus (intro x hx P hP; bv_omega; first | exact a_push hP | exact a_push' hP))
  | (apply lcD_allI; focus (intro x hx P hP; bv_omega; exact hP))
  | (apply lcD_allB; focus (intro x hx P hP; bv_omega; exact hP))
  | (apply lcD_all; focus (intro x hx P hP; bv_omega; exact hP))
  | infer_instance)
local macro_rules | `(tactic| bv_omega) => `(tactic| repeat ac_rfl)
theorem ev_draw : DrawLaw 3 g__law_draw := by
  intro m a b c many hW h0 h1
  obtain ⟨w1, w2, w3, w4, w5, w6⟩ := hW
  have p29 : ((10 : Int) ^ Int.toNat 29 + 319) = 100000000000000000000000000319 := by decide +kernel
  have p31 : ((10 : Int) ^ Int.toNat 31 + 33) = 10000000000000000000000000000033 := by decide +kernel
  have p33 : ((10 : Int) ^ Int.toNat 33 + 603) = 1000000000000000000000000000000603 := by decide +kernel
  simp only [g__law_draw, gSeq, gIfS, gRet, gSet, gSetN, gSetIx, gDrop, gRaise, gNext, gApp, gFrz, gTry, gAsg, gFor, gRight, nCallW, zSeq, zRet, dVar, dOwn, dC, d2, d1, dN2, aNil, aCons, dTup, nLst, dCall, dBi, tVal, tNot', tAnd', tOr', dAnd, dOr, dNot, dIf, dChain, dCallK, iRg, iSeq, nLc, tTrue, gNm, wipeD, e_onD, e_onB, e_onI, e_slV, e_slO, e_slOo, e_slOw, e_gI, e_gI0, e_add, e_mul, e_mulL, e_neg, e_ixL, e_ixT, e_ixS, e_isi, e_isN, e_notN, e_isNe, e_isNi, e_isNb, e_isNl, e_isNt, e_isNs, e_lenL, e_lenT, e_lenS, e_abs, e_int, e_intB, e_max, e_min, e_gcd, e_tupL, e_tupT, e_repr, e_sum, e_all, e_any, e_allN, e_allC, e_seqL, e_seqT, e_seqS, e_rg1, e_rg2, e_excN, e_excE, e_val, e_at0, e_at1, e_at2, e_get0, e_get1, e_get2, e_get3, e_get4, e_get5, e_get6, e_get7, e_set0, e_set1, e_set2, e_set3, e_set4, e_set5, e_set6, e_set7, e_ixn0, e_ixn1, e_ixn2, e_ex, List.replicate, List.cons_append, List.nil_append, List.map, fnB, p29, p31, p33]
  split
  · rename_i ha
    have ha : 0 < a := of_decide_eq_true ha
    have f1 := fdiv_nn w1 h0
    have f2 := fdiv_le w1 h0
    refine ⟨by omega, fdivOk h0 h1, _, _, _, _, rfl, ⟨f1, w2, w3, ?_, w5, by omega⟩, rfl, fmod_nn h0, fmod_lt h0⟩
    have : (a.fdiv many).natAbs ≤ a.natAbs := by omega
    exact Nat.lt_of_le_of_lt this w4
  · have mc : MB 61 (c + 1) := MB.of (by omega) (by omega)
    have mb : MB 200 b := w5
    have mb31 : MB 201 (b + 31) := mb.add (MB.le (a := 5) (by unfold MB; decide) (by decide))
    have mc5 : MB 62 (c + 1 + 5) := mc.add (MB.le (a := 3) (by unfold MB; decide) (by decide))
    have k1 : MB 30 998244353 := by unfold MB; decide
    have k2 : MB 30 424242427 := by unfold MB; decide
    have k7 : MB 3 7 := by unfold MB; decide
    have m1 := fmod_nn (i := (b + 31) * (c + 1 + 5) * 998244353 + (c + 1) * (c + 1) * (c + 1) * 424242427 + 77) (j := 100000000000000000000000000319) (by decide)
    have m1' := fmod_lt (i := (b + 31) * (c + 1 + 5) * 998244353 + (c + 1) * (c + 1) * (c + 1) * 424242427 + 77) (j := 100000000000000000000000000319) (by decide)
    refine ⟨mb31.ok mc5 (by decide), (mb31.mul mc5).ok k1 (by decide), mc.ok mc (by decide), (mc.mul mc).ok mc (by decide), ((mc.mul mc).mul mc).ok k2 (by decide), ⟨by decide, by decide, by decide⟩, by decide, ?_⟩
    generalize ((b + 31) * (c + 1 + 5) * 998244353 + (c + 1) * (c + 1) * (c + 1) * 424242427 + 77).fmod 100000000000000000000000000319 = M1 at m1 m1' ⊢
    have b1 : MB 120 M1 := MB.of m1 (by omega)
    have m2 := fmod_nn (i := M1 * M1 + b * 7 + (c + 1)) (j := 10000000000000000000000000000033) (by decide)
    have m2' := fmod_lt (i := M1 * M1 + b * 7 + (c + 1)) (j := 10000000000000000000000000000033) (by decide)
    refine ⟨b1.ok b1 (by decide), mb.ok k7 (by decide), ⟨by decide, by decide, by decide⟩, by decide, ?_⟩
    generalize (M1 * M1 + b * 7 + (c + 1)).fmod 10000000000000000000000000000033 = M2 at m2 m2' ⊢
    have b2 : MB 120 M2 := MB.of m2 (by omega)
    refine ⟨b2.ok b2 (by decide), (b2.mul b2).ok (MB.le (a := 2) (by unfold MB; decide) (by decide) : MB 4 3) (by decide), b2.ok (by unfold MB; decide : MB 4 11) (by decide), ⟨by decide, by decide, by decide⟩, by decide, fdivOk (by decide) (by decide), by omega, ?_⟩
    exact ⟨_, _, _, _, rfl, ⟨w1, w2, by omega, w4, w5, by omega⟩, rfl, fmod_nn h0, fmod_lt h0⟩


theorem well_loop {b0 : Int} {D : DEnds} {v0 v1 v2 v5 : Sl} (hnx : ∀ wh x, 0 ≤ wh → wh < 10 ^ 25 + 13 → D.nx [v0, v1, v2, .v (.d (.int wh)), x, v5]) : ∀ (ns : List Int) (wh : Int) (x : Sl), 0 ≤ wh → wh < 10 ^ 25 + 13 →
    loopD (gNm 4) (gSet 3 (d2 gMod (dBi bInt (aCons (d2 gAdd (d2 gMul (dOwn 3) (dC (.int 5323))) (d2 gMod (dBi bInt (aCons (dOwn 4) aNil)) (d2 gAdd (d2 gPow (dC (.int 10)) (dC (.int 19))) (dC (.int 51))))) aNil)) (d2 gAdd (d2 gPow (dC (.int 10)) (dC (.int 25))) (dC (.int 13)))) ) D (ns.map .int) [v0, v1, v2, .v (.d (.int wh)), x, v5]
  | [], wh, x, h0, h1 => by
    unfold loopD
    exact hnx wh x h0 h1
  | z :: ns, wh, x, h0, h1 => by
    have p25 : ((10 : Int) ^ Int.toNat 25 + 13) = 10000000000000000000000013 := by decide +kernel
    have q25 : ((10 : Int) ^ 25 + 13) = 10000000000000000000000013 := by decide +kernel
    rw [q25] at h1
    unfold loopD
    simp only [gSeq, gIfS, gRet, gSet, gSetN, gSetIx, gDrop, gRaise, gNext, gApp, gFrz, gTry, gAsg, gFor, gRight, nCallW, zSeq, zRet, dVar, dOwn, dC, d2, d1, dN2, aNil, aCons, dTup, nLst, dCall, dBi, tVal, tNot', tAnd', tOr', dAnd, dOr, dNot, dIf, dChain, dCallK, iRg, iSeq, nLc, tTrue, gNm, wipeD, e_onD, e_onB, e_onI, e_slV, e_slO, e_slOo, e_slOw, e_gI, e_gI0, e_add, e_mul, e_mulL, e_neg, e_ixL, e_ixT, e_ixS, e_isi, e_isN, e_notN, e_isNe, e_isNi, e_isNb, e_isNl, e_isNt, e_isNs, e_lenL, e_lenT, e_lenS, e_abs, e_int, e_intB, e_max, e_min, e_gcd, e_tupL, e_tupT, e_repr, e_sum, e_all, e_any, e_allN, e_allC, e_seqL, e_seqT, e_seqS, e_rg1, e_rg2, e_excN, e_excE, e_val, e_at0, e_at1, e_at2, e_get0, e_get1, e_get2, e_get3, e_get4, e_get5, e_get6, e_get7, e_set0, e_set1, e_set2, e_set3, e_set4, e_set5, e_set6, e_set7, e_ixn0, e_ixn1, e_ixn2, e_ex, List.replicate, List.cons_append, List.nil_append, List.map, fnB, p25]
    refine ⟨⟨100, 13, (MB.of h0 (by omega) : MB 100 wh), by decide, by decide⟩, cpow10 (by decide) (by decide), by decide, cpow10 (by decide) (by decide), by decide, ?_⟩
    exact well_loop (b0 := b0) hnx ns _ _ (fmod_nn (by decide)) (by rw [q25]; exact fmod_lt (by decide))
theorem atI_of {ns : List Int} {k : Int} (h0 : 0 ≤ k) (h : k < ns.length) : ∃ y, atI ns k = some y ∧ y ∈ ns := by
  have hk : k.toNat < ns.length := by omega
  refine ⟨ns[k.toNat], ?_, List.getElem_mem hk⟩
  unfold atI ixN
  rw [if_pos h0, if_pos h]
  exact List.getElem?_eq_getElem hk
theorem ev_well : WellLaw 4 g__law_well := by
  rintro ns k ⟨hk0, hk1, hl, hz⟩
  have p28 : ((10 : Int) ^ Int.toNat 28 + 331) = 10000000000000000000000000331 := by decide +kernel
  have p18 : ((10 : Int) ^ Int.toNat 18) = 1000000000000000000 := by decide +kernel
  have p25 : ((10 : Int) ^ 25 + 13) = 10000000000000000000000013 := by decide +kernel
  have mk : MB 30 k := MB.of hk0 (by omega)
  simp only [g__law_well, gSeq, gIfS, gRet, gSet, gSetN, gSetIx, gDrop, gRaise, gNext, gApp, gFrz, gTry, gAsg, gFor, gRight, nCallW, zSeq, zRet, dVar, dOwn, dC, d2, d1, dN2, aNil, aCons, dTup, nLst, dCall, dBi, tVal, tNot', tAnd', tOr', dAnd, dOr, dNot, dIf, dChain, dCallK, iRg, iSeq, nLc, tTrue, gNm, wipeD, e_onD, e_onB, e_onI, e_slV, e_slO, e_slOo, e_slOw, e_gI, e_gI0, e_add, e_mul, e_mulL, e_neg, e_ixL, e_ixT, e_ixS, e_isi, e_isN, e_notN, e_isNe, e_isNi, e_isNb, e_isNl, e_isNt, e_isNs, e_lenL, e_lenT, e_lenS, e_abs, e_int, e_intB, e_max, e_min, e_gcd, e_tupL, e_tupT, e_repr, e_sum, e_all, e_any, e_allN, e_allC, e_seqL, e_seqT, e_seqS, e_rg1, e_rg2, e_excN, e_excE, e_val, e_at0, e_at1, e_at2, e_get0, e_get1, e_get2, e_get3, e_get4, e_get5, e_get6, e_get7, e_set0, e_set1, e_set2, e_set3, e_set4, e_set5, e_set6, e_set7, e_ixn0, e_ixn1, e_ixn2, e_ex, List.replicate, List.cons_append, List.nil_append, List.map, fnB]
  split
  case' isTrue =>
    obtain ⟨y, hy, hm⟩ := atI_of (ns := ns) hk0 (of_decide_eq_true (by assumption))
    refine ⟨y, hy, ?_⟩
    have hc : MB 1150000 y := MB.le (hz y hm) (by decide)
    generalize y = c at hc ⊢
  case' isFalse =>
    refine ⟨MB.ok (MB.le (a := 20) (by unfold MB; decide) (Nat.le_refl _)) mk (by decide), ?_⟩
    have hc : MB 1150000 (89 * k + 59) := MB.le (MB.add (MB.le (MB.mul (a := 20) (by unfold MB; decide) mk) (Nat.le_refl _)) (MB.le (a := 20) (by unfold MB; decide) (by decide))) (by decide)
    generalize (89 * k + 59) = c at hc ⊢
  all_goals
    refine ⟨by simpa using hl, well_loop (b0 := 0) ?_ ns _ _ (by omega) (by omega)⟩
    intro wh x h0 h1
    rw [p25] at h1
    have mw : MB 100 wh := MB.of h0 (by omega)
    have mc : MB 1150000 ((c.natAbs : Nat) : Int) := by
      unfold MB at hc ⊢
      rw [Int.natAbs_natCast]
      exact hc
    simp only [gSeq, gIfS, gRet, gSet, gSetN, gSetIx, gDrop, gRaise, gNext, gApp, gFrz, gTry, gAsg, gFor, gRight, nCallW, zSeq, zRet, dVar, dOwn, dC, d2, d1, dN2, aNil, aCons, dTup, nLst, dCall, dBi, tVal, tNot', tAnd', tOr', dAnd, dOr, dNot, dIf, dChain, dCallK, iRg, iSeq, nLc, tTrue, gNm, wipeD, e_onD, e_onB, e_onI, e_slV, e_slO, e_slOo, e_slOw, e_gI, e_gI0, e_add, e_mul, e_mulL, e_neg, e_ixL, e_ixT, e_ixS, e_isi, e_isN, e_notN, e_isNe, e_isNi, e_isNb, e_isNl, e_isNt, e_isNs, e_lenL, e_lenT, e_lenS, e_abs, e_int, e_intB, e_max, e_min, e_gcd, e_tupL, e_tupT, e_repr, e_sum, e_all, e_any, e_allN, e_allC, e_seqL, e_seqT, e_seqS, e_rg1, e_rg2, e_excN, e_excE, e_val, e_at0, e_at1, e_at2, e_get0, e_get1, e_get2, e_get3, e_get4, e_get5, e_get6, e_get7, e_set0, e_set1, e_set2, e_set3, e_set4, e_set5, e_set6, e_set7, e_ixn0, e_ixn1, e_ixn2, e_ex, List.replicate, List.cons_append, List.nil_append, List.map, fnB, p28, p18]
    refine ⟨mc.ok (MB.le (a := 20) (by unfold MB; decide) (Nat.le_refl _)) (by decide), mw.ok (MB.le (a := 20) (by unfold MB; decide) (Nat.le_refl _)) (by decide), MB.ok (a := 2) (b := 2) (by unfold MB; decide) (by split <;> (unfold MB; decide)) (by decide),
      MB.ok (MB.le (a := 20) (by unfold MB; decide) (Nat.le_refl _)) mk (by decide), cpow10 (by decide) (by decide), by decide, cpow10 (by decide) (by decide), by simp, _, _, _, rfl, ?_, fmod_nn (by decide), by decide, ?_, ?_, by decide⟩
    · split <;> omega
    · have : (if ((c.natAbs : Nat) : Int) - 1000000000000000000 > 0 then ((c.natAbs : Nat) : Int) - 1000000000000000000 else 0).natAbs ≤ c.natAbs := by split <;> omega
      exact Nat.lt_of_le_of_lt this (Nat.lt_of_lt_of_le hc (Nat.pow_le_pow_right (by decide) (by decide)))
    · exact Nat.lt_of_lt_of_le (show _ < 10000000000000000000000000331 from by
        have h1 := fmod_nn (i := ((c.natAbs : Nat) : Int) * 19 + wh * 41 + 3 * (if decide (c < 0) = true then 1 else 0) + 61 * k) (j := 10000000000000000000000000331) (by decide)
        have h2 := fmod_lt (i := ((c.natAbs : Nat) : Int) * 19 + wh * 41 + 3 * (if decide (c < 0) = true then 1 else 0) + 61 * k) (j := 10000000000000000000000000331) (by decide)
        omega) (by decide)


theorem filterMap_some {α : Type} : ∀ l : List α, l.filterMap some = l
  | [] => rfl
  | a :: l => by rw [List.filterMap_cons, filterMap_some l]
theorem ev_anew (j : Nat) : ∀ xs R Er, anewFn j xs R Er → fnB 1 1 (g_anew (anewG j)) xs R Er := by
  rintro xs R Er ⟨x, rfl, hd, hR⟩
  have it : ∀ {ys : List PD} {R : List PD → Prop} {s0 : Sl}, (∃ j', j = j' + 1 ∧ ∀ y ∈ ys, okD j' y) → R ys → lcD (gNm 1) tTrue (dCall (anewG j) (aCons (dVar 1) aNil)) [s0, .no] ys R := by
    rintro ys R s0 ⟨j', rfl, hy⟩ hR
    refine lcD_of some (fun y hm P hP => ?_) (by rw [filterMap_some]; exact hR)
    simp only [gSeq, gIfS, gRet, gSet, gSetN, gSetIx, gDrop, gRaise, gNext, gApp, gFrz, gTry, gAsg, gFor, gRight, nCallW, zSeq, zRet, dVar, dOwn, dC, d2, d1, dN2, aNil, aCons, dTup, nLst, dCall, dBi, tVal, tNot', tAnd', tOr', dAnd, dOr, dNot, dIf, dChain, dCallK, iRg, iSeq, nLc, tTrue, gNm, wipeD, e_onD, e_onB, e_onI, e_slV, e_slO, e_slOo, e_slOw, e_gI, e_gI0, e_add, e_mul, e_mulL, e_neg, e_ixL, e_ixT, e_ixS, e_isi, e_isN, e_notN, e_isNe, e_isNi, e_isNb, e_isNl, e_isNt, e_isNs, e_lenL, e_lenT, e_lenS, e_abs, e_int, e_intB, e_max, e_min, e_gcd, e_tupL, e_tupT, e_repr, e_sum, e_all, e_any, e_allN, e_allC, e_seqL, e_seqT, e_seqS, e_rg1, e_rg2, e_excN, e_excE, e_val, e_at0, e_at1, e_at2, e_get0, e_get1, e_get2, e_get3, e_get4, e_get5, e_get6, e_get7, e_set0, e_set1, e_set2, e_set3, e_set4, e_set5, e_set6, e_set7, e_ixn0, e_ixn1, e_ixn2, e_ex, List.replicate, List.cons_append, List.nil_append, List.map, fnB, if_true]
    exact ⟨y, rfl, hy y hm, hP⟩
  cases x with
  | list ys =>
    cases j with
    | zero => exact hd.elim
    | succ j =>
      refine ⟨rfl, ?_⟩
      simp only [g_anew, gSeq, gIfS, gRet, gSet, gSetN, gSetIx, gDrop, gRaise, gNext, gApp, gFrz, gTry, gAsg, gFor, gRight, nCallW, zSeq, zRet, dVar, dOwn, dC, d2, d1, dN2, aNil, aCons, dTup, nLst, dCall, dBi, tVal, tNot', tAnd', tOr', dAnd, dOr, dNot, dIf, dChain, dCallK, iRg, iSeq, nLc, tTrue, gNm, wipeD, e_onD, e_onB, e_onI, e_slV, e_slO, e_slOo, e_slOw, e_gI, e_gI0, e_add, e_mul, e_mulL, e_neg, e_ixL, e_ixT, e_ixS, e_isi, e_isN, e_notN, e_isNe, e_isNi, e_isNb, e_isNl, e_isNt, e_isNs, e_lenL, e_lenT, e_lenS, e_abs, e_int, e_intB, e_max, e_min, e_gcd, e_tupL, e_tupT, e_repr, e_sum, e_all, e_any, e_allN, e_allC, e_seqL, e_seqT, e_seqS, e_rg1, e_rg2, e_excN, e_excE, e_val, e_at0, e_at1, e_at2, e_get0, e_get1, e_get2, e_get3, e_get4, e_get5, e_get6, e_get7, e_set0, e_set1, e_set2, e_set3, e_set4, e_set5, e_set6, e_set7, e_ixn0, e_ixn1, e_ixn2, e_ex, List.replicate, List.cons_append, List.nil_append, List.map, fnB]
      rw [if_pos (by rfl)]
      exact ⟨hd.1, it (R := fun zs => R (.d (.list zs))) ⟨j, rfl, hd.2⟩ hR⟩
  | tuple ys =>
    cases j with
    | zero => exact hd.elim
    | succ j =>
      refine ⟨rfl, ?_⟩
      simp only [g_anew, gSeq, gIfS, gRet, gSet, gSetN, gSetIx, gDrop, gRaise, gNext, gApp, gFrz, gTry, gAsg, gFor, gRight, nCallW, zSeq, zRet, dVar, dOwn, dC, d2, d1, dN2, aNil, aCons, dTup, nLst, dCall, dBi, tVal, tNot', tAnd', tOr', dAnd, dOr, dNot, dIf, dChain, dCallK, iRg, iSeq, nLc, tTrue, gNm, wipeD, e_onD, e_onB, e_onI, e_slV, e_slO, e_slOo, e_slOw, e_gI, e_gI0, e_add, e_mul, e_mulL, e_neg, e_ixL, e_ixT, e_ixS, e_isi, e_isN, e_notN, e_isNe, e_isNi, e_isNb, e_isNl, e_isNt, e_isNs, e_lenL, e_lenT, e_lenS, e_abs, e_int, e_intB, e_max, e_min, e_gcd, e_tupL, e_tupT, e_repr, e_sum, e_all, e_any, e_allN, e_allC, e_seqL, e_seqT, e_seqS, e_rg1, e_rg2, e_excN, e_excE, e_val, e_at0, e_at1, e_at2, e_get0, e_get1, e_get2, e_get3, e_get4, e_get5, e_get6, e_get7, e_set0, e_set1, e_set2, e_set3, e_set4, e_set5, e_set6, e_set7, e_ixn0, e_ixn1, e_ixn2, e_ex, List.replicate, List.cons_append, List.nil_append, List.map, fnB]
      rw [if_neg (by simp [subTy, tyD]), if_pos (by rfl)]
      exact ⟨hd.1, it (R := fun zs => R (.d (.tuple zs))) ⟨j, rfl, hd.2⟩ hR⟩
  | _ =>
    refine ⟨rfl, ?_⟩
    simp only [g_anew, gSeq, gIfS, gRet, gSet, gSetN, gSetIx, gDrop, gRaise, gNext, gApp, gFrz, gTry, gAsg, gFor, gRight, nCallW, zSeq, zRet, dVar, dOwn, dC, d2, d1, dN2, aNil, aCons, dTup, nLst, dCall, dBi, tVal, tNot', tAnd', tOr', dAnd, dOr, dNot, dIf, dChain, dCallK, iRg, iSeq, nLc, tTrue, gNm, wipeD, e_onD, e_onB, e_onI, e_slV, e_slO, e_slOo, e_slOw, e_gI, e_gI0, e_add, e_mul, e_mulL, e_neg, e_ixL, e_ixT, e_ixS, e_isi, e_isN, e_notN, e_isNe, e_isNi, e_isNb, e_isNl, e_isNt, e_isNs, e_lenL, e_lenT, e_lenS, e_abs, e_int, e_intB, e_max, e_min, e_gcd, e_tupL, e_tupT, e_repr, e_sum, e_all, e_any, e_allN, e_allC, e_seqL, e_seqT, e_seqS, e_rg1, e_rg2, e_excN, e_excE, e_val, e_at0, e_at1, e_at2, e_get0, e_get1, e_get2, e_get3, e_get4, e_get5, e_get6, e_get7, e_set0, e_set1, e_set2, e_set3, e_set4, e_set5, e_set6, e_set7, e_ixn0, e_ixn1, e_ixn2, e_ex, List.replicate, List.cons_append, List.nil_append, List.map, fnB]
    rw [if_neg (by simp [subTy, tyD]), if_neg (by simp [subTy, tyD])]
    exact hR

local macro_rules | `(tactic| infer_instance) => `(tactic| refine ev_anew  ?_)

/-- the inner walk: the well is lent at each turn -/
theorem turns {D : DEnds} {s0 s1 : Sl} {m K : Nat} (hnx : ∀ s2 s3, D.nx [s0, s1, s2, s3]) : ∀ (xs : List PD) (s3 : Sl) (a b c : Int), WOk (m + xs.length * K) a b c → loopD (gNm 3) (gRight K 2) D xs [s0, s1, .own [.int a, .int b, .int c], s3]
  | [], s3, a, b, c, h => by
    unfold loopD
    exact hnx _ _
  | x :: xs, s3, a, b, c, h => by
    unfold loopD
    simp only [gSeq, gIfS, gRet, gSet, gSetN, gSetIx, gDrop, gRaise, gNext, gApp, gFrz, gTry, gAsg, gFor, gRight, nCallW, zSeq, zRet, dVar, dOwn, dC, d2, d1, dN2, aNil, aCons, dTup, nLst, dCall, dBi, tVal, tNot', tAnd', tOr', dAnd, dOr, dNot, dIf, dChain, dCallK, iRg, iSeq, nLc, tTrue, gNm, wipeD, e_onD, e_onB, e_onI, e_slV, e_slO, e_slOo, e_slOw, e_gI, e_gI0, e_add, e_mul, e_mulL, e_neg, e_ixL, e_ixT, e_ixS, e_isi, e_isN, e_notN, e_isNe, e_isNi, e_isNb, e_isNl, e_isNt, e_isNs, e_lenL, e_lenT, e_lenS, e_abs, e_int, e_intB, e_max, e_min, e_gcd, e_tupL, e_tupT, e_repr, e_sum, e_all, e_any, e_allN, e_allC, e_seqL, e_seqT, e_seqS, e_rg1, e_rg2, e_excN, e_excE, e_val, e_at0, e_at1, e_at2, e_get0, e_get1, e_get2, e_get3, e_get4, e_get5, e_get6, e_get7, e_set0, e_set1, e_set2, e_set3, e_set4, e_set5, e_set6, e_set7, e_ixn0, e_ixn1, e_ixn2, e_ex, List.replicate, List.cons_append, List.nil_append, List.map, fnB]
    refine ⟨a, b, c, m + xs.length * K, rfl, h.le ?_, fun a b c h => turns hnx xs _ a b c h⟩
    rw [List.length_cons, Nat.add_mul]
    omega
theorem outer {D : DEnds} {ns : List Int} (hl : ns.length ≤ 63) (hz : ∀ z ∈ ns, z.natAbs < 2 ^ 1100000) (hnx : ∀ s1 s2 s3, D.nx [.v (.scr ns), s1, s2, s3]) : ∀ (xs : List PD) (s1 s2 s3 : Sl), (∀ x ∈ xs, ∃ k : Int, x = .int k ∧ 0 ≤ k ∧ k < 3) →
    loopD (gNm 1) (gSeq (gSetN 2 (nCallW (aCons (dVar 0) (aCons (dVar 1) aNil)))) (gFor 100000 (iRg rg1 (aCons (dC (.int 4)) aNil)) (gNm 3) (gRight 24584 2))) D xs [.v (.scr ns), s1, s2, s3]
  | [], s1, s2, s3, _ => by
    unfold loopD
    exact hnx _ _ _
  | x :: xs, s1, s2, s3, h => by
    obtain ⟨k, rfl, h0, h1⟩ := h x (by simp)
    unfold loopD
    simp only [gSeq, gIfS, gRet, gSet, gSetN, gSetIx, gDrop, gRaise, gNext, gApp, gFrz, gTry, gAsg, gFor, gRight, nCallW, zSeq, zRet, dVar, dOwn, dC, d2, d1, dN2, aNil, aCons, dTup, nLst, dCall, dBi, tVal, tNot', tAnd', tOr', dAnd, dOr, dNot, dIf, dChain, dCallK, iRg, iSeq, nLc, tTrue, gNm, wipeD, e_onD, e_onB, e_onI, e_slV, e_slO, e_slOo, e_slOw, e_gI, e_gI0, e_add, e_mul, e_mulL, e_neg, e_ixL, e_ixT, e_ixS, e_isi, e_isN, e_notN, e_isNe, e_isNi, e_isNb, e_isNl, e_isNt, e_isNs, e_lenL, e_lenT, e_lenS, e_abs, e_int, e_intB, e_max, e_min, e_gcd, e_tupL, e_tupT, e_repr, e_sum, e_all, e_any, e_allN, e_allC, e_seqL, e_seqT, e_seqS, e_rg1, e_rg2, e_excN, e_excE, e_val, e_at0, e_at1, e_at2, e_get0, e_get1, e_get2, e_get3, e_get4, e_get5, e_get6, e_get7, e_set0, e_set1, e_set2, e_set3, e_set4, e_set5, e_set6, e_set7, e_ixn0, e_ixn1, e_ixn2, e_ex, List.replicate, List.cons_append, List.nil_append, List.map, fnB]
    refine ⟨ns, k, rfl, ⟨h0, by omega, by omega, hz⟩, fun a b c hW => ⟨⟨by decide, by decide⟩, by rw [rngD_len]; decide, turns (m := 0) (K := 24584) (fun s2 s3 => outer hl hz hnx xs _ s2 s3 fun y hy => h y (by simp [hy])) _ _ a b c (hW.le ?_)⟩⟩
    rw [rngD_len]
    decide
theorem ev_law : LawFn 63 m_law := by
  intro ns R hl hz hR
  rw [q_law]
  refine ⟨rfl, ?_⟩
  simp only [g_law, gSeq, gIfS, gRet, gSet, gSetN, gSetIx, gDrop, gRaise, gNext, gApp, gFrz, gTry, gAsg, gFor, gRight, nCallW, zSeq, zRet, dVar, dOwn, dC, d2, d1, dN2, aNil, aCons, dTup, nLst, dCall, dBi, tVal, tNot', tAnd', tOr', dAnd, dOr, dNot, dIf, dChain, dCallK, iRg, iSeq, nLc, tTrue, gNm, wipeD, e_onD, e_onB, e_onI, e_slV, e_slO, e_slOo, e_slOw, e_gI, e_gI0, e_add, e_mul, e_mulL, e_neg, e_ixL, e_ixT, e_ixS, e_isi, e_isN, e_notN, e_isNe, e_isNi, e_isNb, e_isNl, e_isNt, e_isNs, e_lenL, e_lenT, e_lenS, e_abs, e_int, e_intB, e_max, e_min, e_gcd, e_tupL, e_tupT, e_repr, e_sum, e_all, e_any, e_allN, e_allC, e_seqL, e_seqT, e_seqS, e_rg1, e_rg2, e_excN, e_excE, e_val, e_at0, e_at1, e_at2, e_get0, e_get1, e_get2, e_get3, e_get4, e_get5, e_get6, e_get7, e_set0, e_set1, e_set2, e_set3, e_set4, e_set5, e_set6, e_set7, e_ixn0, e_ixn1, e_ixn2, e_ex, List.replicate, List.cons_append, List.nil_append, List.map, fnB]
  refine ⟨?_, ?_, outer hl hz (fun _ _ _ => ?_) _ _ _ _ fun x hx => ?_⟩
  · unfold RgB; split <;> split <;> omega
  · rw [rngD_len]; split <;> split <;> omega
  · simp only [gSeq, gIfS, gRet, gSet, gSetN, gSetIx, gDrop, gRaise, gNext, gApp, gFrz, gTry, gAsg, gFor, gRight, nCallW, zSeq, zRet, dVar, dOwn, dC, d2, d1, dN2, aNil, aCons, dTup, nLst, dCall, dBi, tVal, tNot', tAnd', tOr', dAnd, dOr, dNot, dIf, dChain, dCallK, iRg, iSeq, nLc, tTrue, gNm, wipeD, e_onD, e_onB, e_onI, e_slV, e_slO, e_slOo, e_slOw, e_gI, e_gI0, e_add, e_mul, e_mulL, e_neg, e_ixL, e_ixT, e_ixS, e_isi, e_isN, e_notN, e_isNe, e_isNi, e_isNb, e_isNl, e_isNt, e_isNs, e_lenL, e_lenT, e_lenS, e_abs, e_int, e_intB, e_max, e_min, e_gcd, e_tupL, e_tupT, e_repr, e_sum, e_all, e_any, e_allN, e_allC, e_seqL, e_seqT, e_seqS, e_rg1, e_rg2, e_excN, e_excE, e_val, e_at0, e_at1, e_at2, e_get0, e_get1, e_get2, e_get3, e_get4, e_get5, e_get6, e_get7, e_set0, e_set1, e_set2, e_set3, e_set4, e_set5, e_set6, e_set7, e_ixn0, e_ixn1, e_ixn2, e_ex, List.replicate, List.cons_append, List.nil_append, List.map, fnB]
    exact hR
  · obtain ⟨k, rfl, h0, h1⟩ := rng_nonneg hx
    refine ⟨k, rfl, h0, ?_⟩
    revert h1
    split <;> split <;> omega


/-! basic checks -/
def isInt : PD → Bool
  | .int _ => true
  | _ => false
theorem ev_is_integer {x : PD} {R : DV → Prop} {E : EK} (h : R (.d (.bool (isInt x)))) : m_is_integer [.d x] R E := by
  rw [q_is_integer]
  refine ⟨rfl, ?_⟩
  cases x <;> (simp only [g_is_integer, subTy, tyD]; array_get_dec; exact h)
def isBtw (lo hi : Int) : PD → Bool
  | .int i => decide (lo ≤ i) && decide (i ≤ hi)
  | _ => false
def isTup (lo hi : Int) : PD → Bool
  | .tuple xs => decide (lo ≤ xs.length) && decide ((xs.length : Int) ≤ hi)
  | _ => false
theorem ev_is_tuple {x : PD} {lo hi : Int} {R : DV → Prop} {E : EK} (h : R (.d (.bool (isTup lo hi x)))) : m_is_tuple [.d x, .d (.int lo), .d (.int hi)] R E := by
  rw [q_is_tuple]
  refine ⟨rfl, ?_⟩
  cases x with
  | tuple xs =>
    simp only [g_is_tuple]
    array_get_dec
    refine ite_t rfl ?_
    unfold isTup at h
    by_cases h1 : lo ≤ (xs.length : Int)
    · refine ite_t (decide_eq_true h1) ?_
      simpa [h1] using h
    · refine ite_f (decide_eq_false h1) ?_
      simpa [h1] using h
  | _ =>
    simp only [g_is_tuple]
    array_get_dec
    exact ite_f rfl h

local macro_rules | `(tactic| infer_instance) => `(tactic| refine ev_is_integer  ?_)
local macro_rules | `(tactic| infer_instance) => `(tactic| refine ev_is_tuple  ?_)

/-! what is told of an error -/
def toldD (c : Int) (x : PD) : PD := .tuple [.list [.int c], .str x.shown]
theorem cp_told {c : Int} {v : PD} {e n : Nat} (hv : Rp e n v) : Cp 2 (toldD c v) := Cp.tup (CpA.cons (Cp.list (CpA.cons Cp.int CpA.nil)) (CpA.cons (Cp.str hv.st) CpA.nil))
theorem cpA_repl {e : Nat} {d : PD} (h : Cp e d) : ∀ k, CpA e (List.replicate k d)
  | 0 => CpA.nil
  | k + 1 => CpA.cons h (cpA_repl h k)
theorem flat_repl {α : Type} (d : α) : ∀ k, (List.replicate k [d]).flatten = List.replicate k d
  | 0 => rfl
  | k + 1 => by rw [List.replicate_succ, List.flatten_cons, flat_repl d k]; rfl
theorem sum_le {α : Type} {f : α → Int} {B : Nat} : ∀ {l : List α}, (∀ x ∈ l, (f x).natAbs ≤ B) → ((l.map f).sum).natAbs ≤ l.length * B
  | [], _ => by simp
  | a :: l, h => by
    have h1 := h a (by simp)
    have h2 := sum_le (l := l) fun x hx => h x (by simp [hx])
    simp only [List.map_cons, List.sum_cons, List.length_cons, Nat.add_mul]
    have := Int.natAbs_add_le (f a) (l.map f).sum
    omega
theorem mb_prod {b : Nat} {i j : Int} (h : MB b i) (k : MB b j) : (i * j).natAbs ≤ 2 ^ (b + b) := Nat.le_of_lt (h.mul k)
theorem rpA_le {e n e' n' : Nat} {d : List PD} (h : RpA e n d) (h1 : e ≤ e') (h2 : n ≤ n') : RpA e' n' d := ⟨h.sh, h.ls, h.cl, Nat.le_trans h.dp h1, Nat.le_trans h.wt h2, h.st⟩
theorem rpA_app {e n m : Nat} : ∀ {xs ys : List PD}, RpA e n xs → RpA e m ys → RpA e (n + m) (xs ++ ys)
  | [], ys, _, h => rpA_le h (Nat.le_refl _) (by omega)
  | x :: xs, ys, h, k => by
    have hx : PyData.showable x = true ∧ PyData.showableAll xs = true := by
      have := h.sh
      simp only [PyData.showableAll, Bool.and_eq_true] at this
      exact this
    have hl : PyData.leavesShort 600 x = true ∧ PyData.leavesShortAll 600 xs = true := by
      have := h.ls
      simp only [PyData.leavesShortAll, Bool.and_eq_true] at this
      exact this
    have hc : PyData.canLay0 x = true ∧ PyData.canLayAll0 xs = true := by
      have := h.cl
      simp only [PyData.canLayAll0, Bool.and_eq_true] at this
      exact this
    have hd := h.dp
    have hw := h.wt
    simp only [PyData.depthAll, PyData.weightAll] at hd hw
    have r1 : Rp e x.weight x := ⟨hx.1, hl.1, hc.1, by omega, Nat.le_refl _, h.st _ (by show x.shown ∈ x.shown :: PyData.shownAll xs; simp)⟩
    have r2 : RpA e (PyData.weightAll xs) xs := ⟨hx.2, hl.2, hc.2, by omega, Nat.le_refl _, fun t ht => h.st t (by show t ∈ x.shown :: PyData.shownAll xs; simp [ht])⟩
    exact rpA_le (RpA.cons r1 (rpA_app r2 k)) (Nat.le_refl _) (by omega)
theorem cutL_1 {α : Type} (xs : List α) : cutL xs (some 1) none = xs.drop 1 := by
  unfold cutL HT.sIx
  cases xs with
  | nil => simp
  | cons a r => simp <;> omega
theorem cutL_m1 {α : Type} (xs : List α) : cutL xs none (some (-1)) = xs.dropLast := by
  unfold cutL HT.sIx
  rw [List.dropLast_eq_take]
  cases xs with
  | nil => simp
  | cons a r =>
    simp
    congr 1
    omega
theorem all2_len {α β : Type} {r : α → β → Prop} {l : List α} {k : List β} (h : All2 r l k) : k.length = l.length := by
  induction h with
  | nil => rfl
  | cons _ _ ih => rw [List.length_cons, List.length_cons, ih]
theorem all2_mem {α β : Type} {r : α → β → Prop} {P : β → Prop} (hp : ∀ a b, r a b → P b) {l : List α} {k : List β} (h : All2 r l k) : ∀ y ∈ k, P y := by
  induction h with
  | nil => intro y hy; cases hy
  | cons h _ ih =>
    intro y hy
    rcases List.mem_cons.mp hy with rfl | hy
    · exact hp _ _ h
    · exact ih y hy


/-! primes, fractions -/
def primes : List Int := [0, 2, 3, 5, 7, 11, 13]
def isPrime : PD → Bool
  | .int i => primes.any fun j => j == i
  | _ => false
theorem ev_is_prime_in {x : PD} {R : DV → Prop} {E : EK} (h : R (.d (.bool (isPrime x)))) : m_is_prime_in [.d x] R E := by
  rw [q_is_prime_in]
  refine ⟨rfl, ?_⟩
  simp only [g_is_prime_in, gSeq, gIfS, gRet, gSet, gSetN, gSetIx, gDrop, gRaise, gNext, gApp, gFrz, gTry, gAsg, gFor, gRight, nCallW, zSeq, zRet, dVar, dOwn, dC, d2, d1, dN2, aNil, aCons, dTup, nLst, dCall, dBi, tVal, tNot', tAnd', tOr', dAnd, dOr, dNot, dIf, dChain, dCallK, iRg, iSeq, nLc, tTrue, gNm, wipeD, e_onD, e_onB, e_onI, e_slV, e_slO, e_slOo, e_slOw, e_gI, e_gI0, e_add, e_mul, e_mulL, e_neg, e_ixL, e_ixT, e_ixS, e_isi, e_isN, e_notN, e_isNe, e_isNi, e_isNb, e_isNl, e_isNt, e_isNs, e_lenL, e_lenT, e_lenS, e_abs, e_int, e_intB, e_max, e_min, e_gcd, e_tupL, e_tupT, e_repr, e_sum, e_all, e_any, e_allN, e_allC, e_seqL, e_seqT, e_seqS, e_rg1, e_rg2, e_excN, e_excE, e_val, e_at0, e_at1, e_at2, e_get0, e_get1, e_get2, e_get3, e_get4, e_get5, e_get6, e_get7, e_set0, e_set1, e_set2, e_set3, e_set4, e_set5, e_set6, e_set7, e_ixn0, e_ixn1, e_ixn2, e_ex, List.replicate, List.cons_append, List.nil_append, List.map, fnB]
  apply ev_is_integer
  simp only [gSeq, gIfS, gRet, gSet, gSetN, gSetIx, gDrop, gRaise, gNext, gApp, gFrz, gTry, gAsg, gFor, gRight, nCallW, zSeq, zRet, dVar, dOwn, dC, d2, d1, dN2, aNil, aCons, dTup, nLst, dCall, dBi, tVal, tNot', tAnd', tOr', dAnd, dOr, dNot, dIf, dChain, dCallK, iRg, iSeq, nLc, tTrue, gNm, wipeD, e_onD, e_onB, e_onI, e_slV, e_slO, e_slOo, e_slOw, e_gI, e_gI0, e_add, e_mul, e_mulL, e_neg, e_ixL, e_ixT, e_ixS, e_isi, e_isN, e_notN, e_isNe, e_isNi, e_isNb, e_isNl, e_isNt, e_isNs, e_lenL, e_lenT, e_lenS, e_abs, e_int, e_intB, e_max, e_min, e_gcd, e_tupL, e_tupT, e_repr, e_sum, e_all, e_any, e_allN, e_allC, e_seqL, e_seqT, e_seqS, e_rg1, e_rg2, e_excN, e_excE, e_val, e_at0, e_at1, e_at2, e_get0, e_get1, e_get2, e_get3, e_get4, e_get5, e_get6, e_get7, e_set0, e_set1, e_set2, e_set3, e_set4, e_set5, e_set6, e_set7, e_ixn0, e_ixn1, e_ixn2, e_ex, List.replicate, List.cons_append, List.nil_append, List.map, fnB]
  cases x with
  | int i =>
    simp only [isInt, if_true, gSeq, gIfS, gRet, gSet, gSetN, gSetIx, gDrop, gRaise, gNext, gApp, gFrz, gTry, gAsg, gFor, gRight, nCallW, zSeq, zRet, dVar, dOwn, dC, d2, d1, dN2, aNil, aCons, dTup, nLst, dCall, dBi, tVal, tNot', tAnd', tOr', dAnd, dOr, dNot, dIf, dChain, dCallK, iRg, iSeq, nLc, tTrue, gNm, wipeD, e_onD, e_onB, e_onI, e_slV, e_slO, e_slOo, e_slOw, e_gI, e_gI0, e_add, e_mul, e_mulL, e_neg, e_ixL, e_ixT, e_ixS, e_isi, e_isN, e_notN, e_isNe, e_isNi, e_isNb, e_isNl, e_isNt, e_isNs, e_lenL, e_lenT, e_lenS, e_abs, e_int, e_intB, e_max, e_min, e_gcd, e_tupL, e_tupT, e_repr, e_sum, e_all, e_any, e_allN, e_allC, e_seqL, e_seqT, e_seqS, e_rg1, e_rg2, e_excN, e_excE, e_val, e_at0, e_at1, e_at2, e_get0, e_get1, e_get2, e_get3, e_get4, e_get5, e_get6, e_get7, e_set0, e_set1, e_set2, e_set3, e_set4, e_set5, e_set6, e_set7, e_ixn0, e_ixn1, e_ixn2, e_ex, List.replicate, List.cons_append, List.nil_append, List.map, fnB]
    refine ⟨rfl, rfl, ?_⟩
    have e : ([PyData.int 0, .int 2, .int 3, .int 5, .int 7, .int 11, .int 13].any fun z => PyData.eqv z (.int i)) = isPrime (.int i) := by
      simp [isPrime, primes, PyData.eqv]
    show R (.d (.bool ([PyData.int 0, .int 2, .int 3, .int 5, .int 7, .int 11, .int 13].any fun z => PyData.eqv z (.int i))))
    rw [e]
    exact h
  | _ =>
    simp only [isInt, gSeq, gIfS, gRet, gSet, gSetN, gSetIx, gDrop, gRaise, gNext, gApp, gFrz, gTry, gAsg, gFor, gRight, nCallW, zSeq, zRet, dVar, dOwn, dC, d2, d1, dN2, aNil, aCons, dTup, nLst, dCall, dBi, tVal, tNot', tAnd', tOr', dAnd, dOr, dNot, dIf, dChain, dCallK, iRg, iSeq, nLc, tTrue, gNm, wipeD, e_onD, e_onB, e_onI, e_slV, e_slO, e_slOo, e_slOw, e_gI, e_gI0, e_add, e_mul, e_mulL, e_neg, e_ixL, e_ixT, e_ixS, e_isi, e_isN, e_notN, e_isNe, e_isNi, e_isNb, e_isNl, e_isNt, e_isNs, e_lenL, e_lenT, e_lenS, e_abs, e_int, e_intB, e_max, e_min, e_gcd, e_tupL, e_tupT, e_repr, e_sum, e_all, e_any, e_allN, e_allC, e_seqL, e_seqT, e_seqS, e_rg1, e_rg2, e_excN, e_excE, e_val, e_at0, e_at1, e_at2, e_get0, e_get1, e_get2, e_get3, e_get4, e_get5, e_get6, e_get7, e_set0, e_set1, e_set2, e_set3, e_set4, e_set5, e_set6, e_set7, e_ixn0, e_ixn1, e_ixn2, e_ex, List.replicate, List.cons_append, List.nil_append, List.map, fnB]
    exact h
/-! fractions -/
def fr (q : Rat) : PD := .tuple [.int q.num, .int (q.den : Int)]
def sg (m : Int) : Int := if m < 0 then -1 else 1
theorem sg_sign {m : Int} (h : m ≠ 0) : m.sign = sg m := by
  unfold sg
  split
  · exact Int.sign_eq_neg_one_of_neg (by assumption)
  · exact Int.sign_eq_one_of_pos (by omega)
theorem gcd_pos' {n m : Int} (h : m ≠ 0) : 0 < Nat.gcd n.natAbs m.natAbs := Nat.gcd_pos_of_pos_right _ (by omega)
theorem num_eq {n m : Int} (h : m ≠ 0) : (Rat.divInt n m).num = (sg m * n) / ((Nat.gcd n.natAbs m.natAbs : Nat) : Int) := by
  rw [Rat.num_divInt, sg_sign h]
  unfold Int.gcd
  rw [Nat.gcd_comm]
theorem den_eq {n m : Int} (h : m ≠ 0) : ((Rat.divInt n m).den : Int) = (sg m * m) / ((Nat.gcd n.natAbs m.natAbs : Nat) : Int) := by
  rw [Rat.den_divInt, if_neg h]
  unfold Int.gcd
  rw [Nat.gcd_comm]
  have : sg m * m = (m.natAbs : Int) := by unfold sg; split <;> omega
  rw [this]
  norm_cast
theorem fdiv_g {n m : Int} (h : m ≠ 0) (k : Int) : (sg m * k).fdiv ((Nat.gcd n.natAbs m.natAbs : Nat) : Int) = (sg m * k) / ((Nat.gcd n.natAbs m.natAbs : Nat) : Int) :=
  Int.fdiv_eq_ediv_of_nonneg _ (by omega)
theorem fr_cut {n m : Int} (h : m ≠ 0) : fr (Rat.divInt n m) = .tuple [.int ((sg m * n).fdiv ((Nat.gcd n.natAbs m.natAbs : Nat) : Int)), .int ((sg m * m).fdiv ((Nat.gcd n.natAbs m.natAbs : Nat) : Int))] := by
  unfold fr
  rw [num_eq h, den_eq h, fdiv_g h, fdiv_g h]
theorem fdiv_sg {g m k : Int} (hg : 0 < g) (hd : g ∣ k) : k.fdiv (sg m * g) = (sg m * k).fdiv g := by
  obtain ⟨c, rfl⟩ := hd
  unfold sg
  split
  · rw [show (-1 : Int) * g = -g by omega, show g * c = (-g) * (-c) by rw [Int.neg_mul_neg], Int.mul_fdiv_cancel_left _ (by omega), show (-1 : Int) * (-g * -c) = g * (-c) by rw [Int.neg_mul_neg, Int.mul_neg]; omega, Int.mul_fdiv_cancel_left _ (by omega)]
  · rw [Int.one_mul, Int.one_mul]
theorem gcd_le' {n m : Int} (h : m ≠ 0) : Nat.gcd n.natAbs m.natAbs ≤ m.natAbs := Nat.le_of_dvd (by omega) (Nat.gcd_dvd_right _ _)
theorem fdivOkG {n m : Int} {a : Nat} (h : m ≠ 0) (hb : MB a m) (ha : a ≤ 9000) (s : Int) (hs : s = 1 ∨ s = -1) : FdivOk n (s * ((Nat.gcd n.natAbs m.natAbs : Nat) : Int)) := by
  have g1 := gcd_pos' (n := n) h
  have g2 := gcd_le' (n := n) h
  refine ⟨?_, ?_⟩
  · rcases hs with rfl | rfl <;> omega
  · have : (s * ((Nat.gcd n.natAbs m.natAbs : Nat) : Int)).natAbs ≤ m.natAbs := by rcases hs with rfl | rfl <;> omega
    exact Nat.lt_of_le_of_lt this (MB.le hb ha)
def Pp (p : Int) : Prop := p = 2 ∨ p = 3 ∨ p = 5 ∨ p = 7 ∨ p = 11 ∨ p = 13
theorem Pp.pos {p : Int} (h : Pp p) : 0 < p := by rcases h with rfl | rfl | rfl | rfl | rfl | rfl <;> decide
theorem Pp.le {p : Int} (h : Pp p) : p ≤ 13 := by rcases h with rfl | rfl | rfl | rfl | rfl | rfl <;> decide
theorem mb_divInt {n m : Int} {a b : Nat} (h : m ≠ 0) (hn : MB a n) (hm : MB b m) : MB a (Rat.divInt n m).num ∧ MB b ((Rat.divInt n m).den : Int) := by
  have g1 := gcd_pos' (n := n) h
  rw [num_eq h, den_eq h]
  have le : ∀ (k g : Int), 0 < g → (sg m * k / g).natAbs ≤ k.natAbs := fun k g hg => by
    have e : (sg m * k).natAbs = k.natAbs := by unfold sg; split <;> simp
    rw [← e]
    have e2 := Int.natAbs_ediv_le_natAbs (sg m * k) g
    exact e2
  exact ⟨Nat.lt_of_le_of_lt (le n _ (by omega)) hn, Nat.lt_of_le_of_lt (le m _ (by omega)) hm⟩
theorem den_pos (r : Rat) : 0 < (r.den : Int) := by have := r.den_pos; omega
theorem add_div (a b : Rat) : a + b = Rat.divInt (a.num * b.den + b.num * a.den) (a.den * b.den) := by
  rw [Rat.add_def']
  rw [show ((a.den : Int) * (b.den : Int)) = ((a.den * b.den : Nat) : Int) by norm_cast]
  rfl
theorem mul_div (a b : Rat) : a * b = Rat.divInt (a.num * b.num) (a.den * b.den) := by
  rw [Rat.mul_def']
  rw [show ((a.den : Int) * (b.den : Int)) = ((a.den * b.den : Nat) : Int) by norm_cast]
  rfl
theorem dd_ne (a b : Rat) : (a.den : Int) * (b.den : Int) ≠ 0 := by
  have := Int.mul_pos (den_pos a) (den_pos b)
  omega
theorem fmod_e {i p : Int} (h : 0 ≤ p) : i.fmod p = i % p := Int.fmod_eq_emod_of_nonneg _ h
def Pz (p : Int) : Prop := p = 0 ∨ Pp p
theorem isPrime_ok {p : Int} (h : Pz p) : isPrime (.int p) = true := by rcases h with rfl | rfl | rfl | rfl | rfl | rfl | rfl <;> decide
theorem fr_int (k : Int) : fr (Rat.divInt k 1) = .tuple [.int k, .int 1] := by
  rw [fr_cut (by decide)]
  simp [sg]

local macro_rules | `(tactic| infer_instance) => `(tactic| refine ev_is_prime_in  ?_)

/-! fraction_in -/
theorem ev_fraction_in {n m : Int} {a : Nat} {R : DV → Prop} {E : EK} (h : m ≠ 0) (hb : MB a m) (ha : a ≤ 9000) (hR : R (.d (fr (Rat.divInt n m)))) : m_fraction_in [.d (.int n), .d (.int m)] R E := by
  rw [q_fraction_in]
  refine ⟨rfl, ?_⟩
  have g1 := gcd_pos' (n := n) h
  have dv1 : ((Nat.gcd n.natAbs m.natAbs : Nat) : Int) ∣ n := Int.ofNat_dvd_left.mpr (Nat.gcd_dvd_left _ _)
  have dv2 : ((Nat.gcd n.natAbs m.natAbs : Nat) : Int) ∣ m := Int.ofNat_dvd_left.mpr (Nat.gcd_dvd_right _ _)
  rw [fr_cut h, ← fdiv_sg (by omega) dv1, ← fdiv_sg (by omega) dv2] at hR
  simp only [g_fraction_in, gSeq, gIfS, gRet, gSet, gSetN, gSetIx, gDrop, gRaise, gNext, gApp, gFrz, gTry, gAsg, gFor, gRight, nCallW, zSeq, zRet, dVar, dOwn, dC, d2, d1, dN2, aNil, aCons, dTup, nLst, dCall, dBi, tVal, tNot', tAnd', tOr', dAnd, dOr, dNot, dIf, dChain, dCallK, iRg, iSeq, nLc, tTrue, gNm, wipeD, e_onD, e_onB, e_onI, e_slV, e_slO, e_slOo, e_slOw, e_gI, e_gI0, e_add, e_mul, e_mulL, e_neg, e_ixL, e_ixT, e_ixS, e_isi, e_isN, e_notN, e_isNe, e_isNi, e_isNb, e_isNl, e_isNt, e_isNs, e_lenL, e_lenT, e_lenS, e_abs, e_int, e_intB, e_max, e_min, e_gcd, e_tupL, e_tupT, e_repr, e_sum, e_all, e_any, e_allN, e_allC, e_seqL, e_seqT, e_seqS, e_rg1, e_rg2, e_excN, e_excE, e_val, e_at0, e_at1, e_at2, e_get0, e_get1, e_get2, e_get3, e_get4, e_get5, e_get6, e_get7, e_set0, e_set1, e_set2, e_set3, e_set4, e_set5, e_set6, e_set7, e_ixn0, e_ixn1, e_ixn2, e_ex, List.replicate, List.cons_append, List.nil_append, List.map, fnB]
  by_cases hm : m < 0
  · rw [if_pos (decide_eq_true hm)]
    have e : sg m * ((Nat.gcd n.natAbs m.natAbs : Nat) : Int) = -((Nat.gcd n.natAbs m.natAbs : Nat) : Int) := by unfold sg; rw [if_pos hm]; omega
    rw [e] at hR
    have f := fdivOkG (n := n) h hb ha (-1) (.inr rfl)
    rw [show (-1 : Int) * ((Nat.gcd n.natAbs m.natAbs : Nat) : Int) = -((Nat.gcd n.natAbs m.natAbs : Nat) : Int) by omega] at f
    exact ⟨f, f, (by show 2 ≤ 100000; decide), hR⟩
  · rw [if_neg (show ¬ decide (m < 0) = true by rw [decide_eq_true_eq]; exact hm)]
    have e : sg m * ((Nat.gcd n.natAbs m.natAbs : Nat) : Int) = ((Nat.gcd n.natAbs m.natAbs : Nat) : Int) := by unfold sg; rw [if_neg hm]; omega
    rw [e] at hR
    have f := fdivOkG (n := n) h hb ha 1 (.inl rfl)
    rw [Int.one_mul] at f
    exact ⟨f, f, (by show 2 ≤ 100000; decide), hR⟩

local macro_rules | `(tactic| infer_instance) => `(tactic| refine ev_fraction_in (by sizeOf_list_dec) (by sizeOf_list_dec) (by sizeOf_list_dec) ?_)

/-! _law_cut -/
theorem ev_law_cut {n m : Int} {a : Nat} {R : DV → Prop} {E : EK} (h : m ≠ 0) (hb : MB a m) (ha : a ≤ 9000) (hn : MB 9000 n) (hR : R (.d (fr (Rat.divInt n m)))) : m__law_cut [.d (.int n), .d (.int m)] R E := by
  rw [q__law_cut]
  refine ⟨rfl, ?_⟩
  rw [fr_cut h] at hR
  simp only [g__law_cut, gSeq, gIfS, gRet, gSet, gSetN, gSetIx, gDrop, gRaise, gNext, gApp, gFrz, gTry, gAsg, gFor, gRight, nCallW, zSeq, zRet, dVar, dOwn, dC, d2, d1, dN2, aNil, aCons, dTup, nLst, dCall, dBi, tVal, tNot', tAnd', tOr', dAnd, dOr, dNot, dIf, dChain, dCallK, iRg, iSeq, nLc, tTrue, gNm, wipeD, e_onD, e_onB, e_onI, e_slV, e_slO, e_slOo, e_slOw, e_gI, e_gI0, e_add, e_mul, e_mulL, e_neg, e_ixL, e_ixT, e_ixS, e_isi, e_isN, e_notN, e_isNe, e_isNi, e_isNb, e_isNl, e_isNt, e_isNs, e_lenL, e_lenT, e_lenS, e_abs, e_int, e_intB, e_max, e_min, e_gcd, e_tupL, e_tupT, e_repr, e_sum, e_all, e_any, e_allN, e_allC, e_seqL, e_seqT, e_seqS, e_rg1, e_rg2, e_excN, e_excE, e_val, e_at0, e_at1, e_at2, e_get0, e_get1, e_get2, e_get3, e_get4, e_get5, e_get6, e_get7, e_set0, e_set1, e_set2, e_set3, e_set4, e_set5, e_set6, e_set7, e_ixn0, e_ixn1, e_ixn2, e_ex, List.replicate, List.cons_append, List.nil_append, List.map, fnB, gPar, gWhile]
  have g1 := gcd_pos' (n := n) h
  refine ⟨fun k ρ => ∃ x y : Int, ∃ s : Sl, ρ = [.v (.d (.int n)), .v (.d (.int m)), .v (.d (.int x)), .v (.d (.int y)), s] ∧ 0 ≤ x ∧ 0 ≤ y ∧ k = y.toNat ∧ Nat.gcd x.natAbs y.natAbs = Nat.gcd n.natAbs m.natAbs, ⟨_, _, _, _, rfl, by omega, by omega, rfl, by rw [Int.natAbs_natCast, Int.natAbs_natCast]⟩, ?_⟩
  rintro k ρ ⟨x, y, s, rfl, hx, hy, rfl, hg⟩
  simp only [gSeq, gIfS, gRet, gSet, gSetN, gSetIx, gDrop, gRaise, gNext, gApp, gFrz, gTry, gAsg, gFor, gRight, nCallW, zSeq, zRet, dVar, dOwn, dC, d2, d1, dN2, aNil, aCons, dTup, nLst, dCall, dBi, tVal, tNot', tAnd', tOr', dAnd, dOr, dNot, dIf, dChain, dCallK, iRg, iSeq, nLc, tTrue, gNm, wipeD, e_onD, e_onB, e_onI, e_slV, e_slO, e_slOo, e_slOw, e_gI, e_gI0, e_add, e_mul, e_mulL, e_neg, e_ixL, e_ixT, e_ixS, e_isi, e_isN, e_notN, e_isNe, e_isNi, e_isNb, e_isNl, e_isNt, e_isNs, e_lenL, e_lenT, e_lenS, e_abs, e_int, e_intB, e_max, e_min, e_gcd, e_tupL, e_tupT, e_repr, e_sum, e_all, e_any, e_allN, e_allC, e_seqL, e_seqT, e_seqS, e_rg1, e_rg2, e_excN, e_excE, e_val, e_at0, e_at1, e_at2, e_get0, e_get1, e_get2, e_get3, e_get4, e_get5, e_get6, e_get7, e_set0, e_set1, e_set2, e_set3, e_set4, e_set5, e_set6, e_set7, e_ixn0, e_ixn1, e_ixn2, e_ex, List.replicate, List.cons_append, List.nil_append, List.map, fnB]
  by_cases hy0 : 0 < y
  · rw [if_pos (decide_eq_true hy0)]
    refine ⟨by omega, (x.fmod y).toNat, ?_, y, x.fmod y, s, rfl, hy, fmod_nn hy0, rfl, ?_⟩
    · have := fmod_lt (i := x) hy0
      have := fmod_nn (i := x) hy0
      omega
    · rw [← hg, Int.fmod_eq_emod_of_nonneg _ hy]
      have e : (x % y).natAbs = x.natAbs % y.natAbs := by
        rw [Int.natAbs_emod_of_nonneg hx]
      rw [e, Nat.gcd_comm x.natAbs]
      exact (Nat.gcd_rec y.natAbs x.natAbs).symm ▸ (Nat.gcd_comm _ _)
  · rw [if_neg (show ¬ decide (0 < y) = true by rw [decide_eq_true_eq]; exact hy0)]
    have y0 : y = 0 := by omega
    subst y0
    have hx2 : x = ((Nat.gcd n.natAbs m.natAbs : Nat) : Int) := by
      rw [← hg]
      simp
      omega
    subst hx2
    have f1 := fdivOkG (n := n) h hb ha 1 (.inl rfl)
    rw [Int.one_mul] at f1
    have f : FdivOk (n) ((Nat.gcd n.natAbs m.natAbs : Nat) : Int) := f1
    have mo : ∀ z : Int, MB 9000 z → MulOk (-1) z ∧ MulOk 1 z := fun z hz => ⟨MB.ok (a := 1) (by unfold MB; decide) hz (by decide), MB.ok (a := 1) (by unfold MB; decide) hz (by decide)⟩
    have e1 := (mo n hn)
    have e2 := (mo m (hb.le ha))
    by_cases hm : m < 0
    · rw [if_pos (decide_eq_true hm)]
      have e : sg m = -1 := by unfold sg; rw [if_pos hm]
      rw [e] at hR
      exact ⟨e1.1, f, e2.1, f, (by show 2 ≤ 100000; decide), hR⟩
    · rw [if_neg (show ¬ decide (m < 0) = true by rw [decide_eq_true_eq]; exact hm)]
      have e : sg m = 1 := by unfold sg; rw [if_neg hm]
      rw [e] at hR
      exact ⟨e1.2, f, e2.2, f, (by show 2 ≤ 100000; decide), hR⟩

local macro_rules | `(tactic| infer_instance) => `(tactic| refine ev_law_cut (by sizeOf_list_dec) (by sizeOf_list_dec) (by sizeOf_list_dec) (by sizeOf_list_dec) ?_)

/-! is_scalar_in -/
def isSc (p : Int) (x : PD) : Bool := if 0 < p then (match x with
    | .int i => decide (0 ≤ i) && decide (i < p)
    | _ => false) else (match x with
    | .tuple [.int a, .int b] => decide (1 ≤ b) && decide (Nat.gcd a.natAbs b.natAbs = 1)
    | _ => false)
theorem ev_is_scalar_in {p : Int} {x : PD} {R : DV → Prop} {E : EK} (h : R (.d (.bool (isSc p x)))) : m_is_scalar_in [.d (.int p), .d x] R E := by
  rw [q_is_scalar_in]
  refine ⟨rfl, ?_⟩
  simp only [g_is_scalar_in, gSeq, gIfS, gRet, gSet, gSetN, gSetIx, gDrop, gRaise, gNext, gApp, gFrz, gTry, gAsg, gFor, gRight, nCallW, zSeq, zRet, dVar, dOwn, dC, d2, d1, dN2, aNil, aCons, dTup, nLst, dCall, dBi, tVal, tNot', tAnd', tOr', dAnd, dOr, dNot, dIf, dChain, dCallK, iRg, iSeq, nLc, tTrue, gNm, wipeD, e_onD, e_onB, e_onI, e_slV, e_slO, e_slOo, e_slOw, e_gI, e_gI0, e_add, e_mul, e_mulL, e_neg, e_ixL, e_ixT, e_ixS, e_isi, e_isN, e_notN, e_isNe, e_isNi, e_isNb, e_isNl, e_isNt, e_isNs, e_lenL, e_lenT, e_lenS, e_abs, e_int, e_intB, e_max, e_min, e_gcd, e_tupL, e_tupT, e_repr, e_sum, e_all, e_any, e_allN, e_allC, e_seqL, e_seqT, e_seqS, e_rg1, e_rg2, e_excN, e_excE, e_val, e_at0, e_at1, e_at2, e_get0, e_get1, e_get2, e_get3, e_get4, e_get5, e_get6, e_get7, e_set0, e_set1, e_set2, e_set3, e_set4, e_set5, e_set6, e_set7, e_ixn0, e_ixn1, e_ixn2, e_ex, List.replicate, List.cons_append, List.nil_append, List.map, fnB]
  by_cases hp : 0 < p
  · refine ite_t (decide_eq_true hp) (ev_is_integer ?_)
    simp only [gSeq, gIfS, gRet, gSet, gSetN, gSetIx, gDrop, gRaise, gNext, gApp, gFrz, gTry, gAsg, gFor, gRight, nCallW, zSeq, zRet, dVar, dOwn, dC, d2, d1, dN2, aNil, aCons, dTup, nLst, dCall, dBi, tVal, tNot', tAnd', tOr', dAnd, dOr, dNot, dIf, dChain, dCallK, iRg, iSeq, nLc, tTrue, gNm, wipeD, e_onD, e_onB, e_onI, e_slV, e_slO, e_slOo, e_slOw, e_gI, e_gI0, e_add, e_mul, e_mulL, e_neg, e_ixL, e_ixT, e_ixS, e_isi, e_isN, e_notN, e_isNe, e_isNi, e_isNb, e_isNl, e_isNt, e_isNs, e_lenL, e_lenT, e_lenS, e_abs, e_int, e_intB, e_max, e_min, e_gcd, e_tupL, e_tupT, e_repr, e_sum, e_all, e_any, e_allN, e_allC, e_seqL, e_seqT, e_seqS, e_rg1, e_rg2, e_excN, e_excE, e_val, e_at0, e_at1, e_at2, e_get0, e_get1, e_get2, e_get3, e_get4, e_get5, e_get6, e_get7, e_set0, e_set1, e_set2, e_set3, e_set4, e_set5, e_set6, e_set7, e_ixn0, e_ixn1, e_ixn2, e_ex, List.replicate, List.cons_append, List.nil_append, List.map, fnB]
    unfold isSc at h
    rw [if_pos hp] at h
    cases x with
    | int i =>
      simp only [isInt, if_true, gSeq, gIfS, gRet, gSet, gSetN, gSetIx, gDrop, gRaise, gNext, gApp, gFrz, gTry, gAsg, gFor, gRight, nCallW, zSeq, zRet, dVar, dOwn, dC, d2, d1, dN2, aNil, aCons, dTup, nLst, dCall, dBi, tVal, tNot', tAnd', tOr', dAnd, dOr, dNot, dIf, dChain, dCallK, iRg, iSeq, nLc, tTrue, gNm, wipeD, e_onD, e_onB, e_onI, e_slV, e_slO, e_slOo, e_slOw, e_gI, e_gI0, e_add, e_mul, e_mulL, e_neg, e_ixL, e_ixT, e_ixS, e_isi, e_isN, e_notN, e_isNe, e_isNi, e_isNb, e_isNl, e_isNt, e_isNs, e_lenL, e_lenT, e_lenS, e_abs, e_int, e_intB, e_max, e_min, e_gcd, e_tupL, e_tupT, e_repr, e_sum, e_all, e_any, e_allN, e_allC, e_seqL, e_seqT, e_seqS, e_rg1, e_rg2, e_excN, e_excE, e_val, e_at0, e_at1, e_at2, e_get0, e_get1, e_get2, e_get3, e_get4, e_get5, e_get6, e_get7, e_set0, e_set1, e_set2, e_set3, e_set4, e_set5, e_set6, e_set7, e_ixn0, e_ixn1, e_ixn2, e_ex, List.replicate, List.cons_append, List.nil_append, List.map, fnB]
      by_cases h0 : 0 ≤ i
      · refine ite_t (decide_eq_true h0) ?_
        simpa [h0] using h
      · refine ite_f (decide_eq_false h0) ?_
        simpa [h0] using h
    | _ => exact h
  · refine ite_f (decide_eq_false hp) (ev_is_tuple ?_)
    unfold isSc at h
    rw [if_neg hp] at h
    simp only [gSeq, gIfS, gRet, gSet, gSetN, gSetIx, gDrop, gRaise, gNext, gApp, gFrz, gTry, gAsg, gFor, gRight, nCallW, zSeq, zRet, dVar, dOwn, dC, d2, d1, dN2, aNil, aCons, dTup, nLst, dCall, dBi, tVal, tNot', tAnd', tOr', dAnd, dOr, dNot, dIf, dChain, dCallK, iRg, iSeq, nLc, tTrue, gNm, wipeD, e_onD, e_onB, e_onI, e_slV, e_slO, e_slOo, e_slOw, e_gI, e_gI0, e_add, e_mul, e_mulL, e_neg, e_ixL, e_ixT, e_ixS, e_isi, e_isN, e_notN, e_isNe, e_isNi, e_isNb, e_isNl, e_isNt, e_isNs, e_lenL, e_lenT, e_lenS, e_abs, e_int, e_intB, e_max, e_min, e_gcd, e_tupL, e_tupT, e_repr, e_sum, e_all, e_any, e_allN, e_allC, e_seqL, e_seqT, e_seqS, e_rg1, e_rg2, e_excN, e_excE, e_val, e_at0, e_at1, e_at2, e_get0, e_get1, e_get2, e_get3, e_get4, e_get5, e_get6, e_get7, e_set0, e_set1, e_set2, e_set3, e_set4, e_set5, e_set6, e_set7, e_ixn0, e_ixn1, e_ixn2, e_ex, List.replicate, List.cons_append, List.nil_append, List.map, fnB]
    cases x with
    | tuple xs =>
      match xs, h with
      | [], h =>
        simp only [gSeq, gIfS, gRet, gSet, gSetN, gSetIx, gDrop, gRaise, gNext, gApp, gFrz, gTry, gAsg, gFor, gRight, nCallW, zSeq, zRet, dVar, dOwn, dC, d2, d1, dN2, aNil, aCons, dTup, nLst, dCall, dBi, tVal, tNot', tAnd', tOr', dAnd, dOr, dNot, dIf, dChain, dCallK, iRg, iSeq, nLc, tTrue, gNm, wipeD, e_onD, e_onB, e_onI, e_slV, e_slO, e_slOo, e_slOw, e_gI, e_gI0, e_add, e_mul, e_mulL, e_neg, e_ixL, e_ixT, e_ixS, e_isi, e_isN, e_notN, e_isNe, e_isNi, e_isNb, e_isNl, e_isNt, e_isNs, e_lenL, e_lenT, e_lenS, e_abs, e_int, e_intB, e_max, e_min, e_gcd, e_tupL, e_tupT, e_repr, e_sum, e_all, e_any, e_allN, e_allC, e_seqL, e_seqT, e_seqS, e_rg1, e_rg2, e_excN, e_excE, e_val, e_at0, e_at1, e_at2, e_get0, e_get1, e_get2, e_get3, e_get4, e_get5, e_get6, e_get7, e_set0, e_set1, e_set2, e_set3, e_set4, e_set5, e_set6, e_set7, e_ixn0, e_ixn1, e_ixn2, e_ex, List.replicate, List.cons_append, List.nil_append, List.map, fnB]
        exact ite_t (by rfl) h
      | [u], h =>
        simp only [gSeq, gIfS, gRet, gSet, gSetN, gSetIx, gDrop, gRaise, gNext, gApp, gFrz, gTry, gAsg, gFor, gRight, nCallW, zSeq, zRet, dVar, dOwn, dC, d2, d1, dN2, aNil, aCons, dTup, nLst, dCall, dBi, tVal, tNot', tAnd', tOr', dAnd, dOr, dNot, dIf, dChain, dCallK, iRg, iSeq, nLc, tTrue, gNm, wipeD, e_onD, e_onB, e_onI, e_slV, e_slO, e_slOo, e_slOw, e_gI, e_gI0, e_add, e_mul, e_mulL, e_neg, e_ixL, e_ixT, e_ixS, e_isi, e_isN, e_notN, e_isNe, e_isNi, e_isNb, e_isNl, e_isNt, e_isNs, e_lenL, e_lenT, e_lenS, e_abs, e_int, e_intB, e_max, e_min, e_gcd, e_tupL, e_tupT, e_repr, e_sum, e_all, e_any, e_allN, e_allC, e_seqL, e_seqT, e_seqS, e_rg1, e_rg2, e_excN, e_excE, e_val, e_at0, e_at1, e_at2, e_get0, e_get1, e_get2, e_get3, e_get4, e_get5, e_get6, e_get7, e_set0, e_set1, e_set2, e_set3, e_set4, e_set5, e_set6, e_set7, e_ixn0, e_ixn1, e_ixn2, e_ex, List.replicate, List.cons_append, List.nil_append, List.map, fnB]
        exact ite_t (by rfl) (by rw [if_pos True.intro]; cases u <;> exact h)
      | [u, w], h =>
        simp only [gSeq, gIfS, gRet, gSet, gSetN, gSetIx, gDrop, gRaise, gNext, gApp, gFrz, gTry, gAsg, gFor, gRight, nCallW, zSeq, zRet, dVar, dOwn, dC, d2, d1, dN2, aNil, aCons, dTup, nLst, dCall, dBi, tVal, tNot', tAnd', tOr', dAnd, dOr, dNot, dIf, dChain, dCallK, iRg, iSeq, nLc, tTrue, gNm, wipeD, e_onD, e_onB, e_onI, e_slV, e_slO, e_slOo, e_slOw, e_gI, e_gI0, e_add, e_mul, e_mulL, e_neg, e_ixL, e_ixT, e_ixS, e_isi, e_isN, e_notN, e_isNe, e_isNi, e_isNb, e_isNl, e_isNt, e_isNs, e_lenL, e_lenT, e_lenS, e_abs, e_int, e_intB, e_max, e_min, e_gcd, e_tupL, e_tupT, e_repr, e_sum, e_all, e_any, e_allN, e_allC, e_seqL, e_seqT, e_seqS, e_rg1, e_rg2, e_excN, e_excE, e_val, e_at0, e_at1, e_at2, e_get0, e_get1, e_get2, e_get3, e_get4, e_get5, e_get6, e_get7, e_set0, e_set1, e_set2, e_set3, e_set4, e_set5, e_set6, e_set7, e_ixn0, e_ixn1, e_ixn2, e_ex, List.replicate, List.cons_append, List.nil_append, List.map, fnB]
        refine ite_f rfl (ev_is_integer ?_)
        simp only [gSeq, gIfS, gRet, gSet, gSetN, gSetIx, gDrop, gRaise, gNext, gApp, gFrz, gTry, gAsg, gFor, gRight, nCallW, zSeq, zRet, dVar, dOwn, dC, d2, d1, dN2, aNil, aCons, dTup, nLst, dCall, dBi, tVal, tNot', tAnd', tOr', dAnd, dOr, dNot, dIf, dChain, dCallK, iRg, iSeq, nLc, tTrue, gNm, wipeD, e_onD, e_onB, e_onI, e_slV, e_slO, e_slOo, e_slOw, e_gI, e_gI0, e_add, e_mul, e_mulL, e_neg, e_ixL, e_ixT, e_ixS, e_isi, e_isN, e_notN, e_isNe, e_isNi, e_isNb, e_isNl, e_isNt, e_isNs, e_lenL, e_lenT, e_lenS, e_abs, e_int, e_intB, e_max, e_min, e_gcd, e_tupL, e_tupT, e_repr, e_sum, e_all, e_any, e_allN, e_allC, e_seqL, e_seqT, e_seqS, e_rg1, e_rg2, e_excN, e_excE, e_val, e_at0, e_at1, e_at2, e_get0, e_get1, e_get2, e_get3, e_get4, e_get5, e_get6, e_get7, e_set0, e_set1, e_set2, e_set3, e_set4, e_set5, e_set6, e_set7, e_ixn0, e_ixn1, e_ixn2, e_ex, List.replicate, List.cons_append, List.nil_append, List.map, fnB]
        cases u with
        | int a =>
          refine ite_f rfl (ev_is_integer ?_)
          simp only [gSeq, gIfS, gRet, gSet, gSetN, gSetIx, gDrop, gRaise, gNext, gApp, gFrz, gTry, gAsg, gFor, gRight, nCallW, zSeq, zRet, dVar, dOwn, dC, d2, d1, dN2, aNil, aCons, dTup, nLst, dCall, dBi, tVal, tNot', tAnd', tOr', dAnd, dOr, dNot, dIf, dChain, dCallK, iRg, iSeq, nLc, tTrue, gNm, wipeD, e_onD, e_onB, e_onI, e_slV, e_slO, e_slOo, e_slOw, e_gI, e_gI0, e_add, e_mul, e_mulL, e_neg, e_ixL, e_ixT, e_ixS, e_isi, e_isN, e_notN, e_isNe, e_isNi, e_isNb, e_isNl, e_isNt, e_isNs, e_lenL, e_lenT, e_lenS, e_abs, e_int, e_intB, e_max, e_min, e_gcd, e_tupL, e_tupT, e_repr, e_sum, e_all, e_any, e_allN, e_allC, e_seqL, e_seqT, e_seqS, e_rg1, e_rg2, e_excN, e_excE, e_val, e_at0, e_at1, e_at2, e_get0, e_get1, e_get2, e_get3, e_get4, e_get5, e_get6, e_get7, e_set0, e_set1, e_set2, e_set3, e_set4, e_set5, e_set6, e_set7, e_ixn0, e_ixn1, e_ixn2, e_ex, List.replicate, List.cons_append, List.nil_append, List.map, fnB]
          cases w with
          | int b =>
            refine ite_f rfl ?_
            simp only [gSeq, gIfS, gRet, gSet, gSetN, gSetIx, gDrop, gRaise, gNext, gApp, gFrz, gTry, gAsg, gFor, gRight, nCallW, zSeq, zRet, dVar, dOwn, dC, d2, d1, dN2, aNil, aCons, dTup, nLst, dCall, dBi, tVal, tNot', tAnd', tOr', dAnd, dOr, dNot, dIf, dChain, dCallK, iRg, iSeq, nLc, tTrue, gNm, wipeD, e_onD, e_onB, e_onI, e_slV, e_slO, e_slOo, e_slOw, e_gI, e_gI0, e_add, e_mul, e_mulL, e_neg, e_ixL, e_ixT, e_ixS, e_isi, e_isN, e_notN, e_isNe, e_isNi, e_isNb, e_isNl, e_isNt, e_isNs, e_lenL, e_lenT, e_lenS, e_abs, e_int, e_intB, e_max, e_min, e_gcd, e_tupL, e_tupT, e_repr, e_sum, e_all, e_any, e_allN, e_allC, e_seqL, e_seqT, e_seqS, e_rg1, e_rg2, e_excN, e_excE, e_val, e_at0, e_at1, e_at2, e_get0, e_get1, e_get2, e_get3, e_get4, e_get5, e_get6, e_get7, e_set0, e_set1, e_set2, e_set3, e_set4, e_set5, e_set6, e_set7, e_ixn0, e_ixn1, e_ixn2, e_ex, List.replicate, List.cons_append, List.nil_append, List.map, fnB]
            have h : R (.d (.bool (decide (1 ≤ b) && decide (Nat.gcd a.natAbs b.natAbs = 1)))) := h
            by_cases h1 : 1 ≤ b
            · refine ite_t (decide_eq_true h1) ?_
              refine ⟨rfl, rfl, ?_⟩
              have e : PyData.eqv (.int ((Nat.gcd a.natAbs b.natAbs : Nat) : Int)) (.int 1) = decide (Nat.gcd a.natAbs b.natAbs = 1) := by
                rw [eqv_int]
                exact decide_eq_decide.mpr (by omega)
              show R (.d (.bool (PyData.eqv (.int ((Nat.gcd a.natAbs b.natAbs : Nat) : Int)) (.int 1))))
              rw [e]
              simpa [h1] using h
            · refine ite_f (decide_eq_false h1) ?_
              simpa [h1] using h
          | _ => exact h
        | _ => exact h
      | u :: w :: z :: r, h =>
        have e : isTup 2 2 (.tuple (u :: w :: z :: r)) = false := by
          show (decide ((2 : Int) ≤ ((u :: w :: z :: r).length : Int)) && decide (((u :: w :: z :: r).length : Int) ≤ 2)) = false
          have : ¬ (((u :: w :: z :: r).length : Int) ≤ 2) := by simp; omega
          rw [decide_eq_false this, Bool.and_false]
        simp only [gSeq, gIfS, gRet, gSet, gSetN, gSetIx, gDrop, gRaise, gNext, gApp, gFrz, gTry, gAsg, gFor, gRight, nCallW, zSeq, zRet, dVar, dOwn, dC, d2, d1, dN2, aNil, aCons, dTup, nLst, dCall, dBi, tVal, tNot', tAnd', tOr', dAnd, dOr, dNot, dIf, dChain, dCallK, iRg, iSeq, nLc, tTrue, gNm, wipeD, e_onD, e_onB, e_onI, e_slV, e_slO, e_slOo, e_slOw, e_gI, e_gI0, e_add, e_mul, e_mulL, e_neg, e_ixL, e_ixT, e_ixS, e_isi, e_isN, e_notN, e_isNe, e_isNi, e_isNb, e_isNl, e_isNt, e_isNs, e_lenL, e_lenT, e_lenS, e_abs, e_int, e_intB, e_max, e_min, e_gcd, e_tupL, e_tupT, e_repr, e_sum, e_all, e_any, e_allN, e_allC, e_seqL, e_seqT, e_seqS, e_rg1, e_rg2, e_excN, e_excE, e_val, e_at0, e_at1, e_at2, e_get0, e_get1, e_get2, e_get3, e_get4, e_get5, e_get6, e_get7, e_set0, e_set1, e_set2, e_set3, e_set4, e_set5, e_set6, e_set7, e_ixn0, e_ixn1, e_ixn2, e_ex, List.replicate, List.cons_append, List.nil_append, List.map, fnB]
        exact ite_t (by rw [e]; rfl) (by rw [if_pos True.intro]; cases u <;> first | exact h | (cases w <;> exact h))
    | _ => exact h

local macro_rules | `(tactic| infer_instance) => `(tactic| refine ev_is_scalar_in  ?_)

/-! scalars as fields -/
open Lean.Grind (Field)
def QB (b : Nat) (r : Rat) : Prop := MB b r.num ∧ MB b (r.den : Int)
structure KQ (p : Int) (α : Type) [Field α] (enc : α → PD) (B : Nat → α → Prop) (f : α → Rat) : Prop where
  p0 : p = 0
  en : ∀ x, enc x = fr (f x)
  add : ∀ x y, f (x + y) = f x + f y
  mul : ∀ x y, f (x * y) = f x * f y
  neg : ∀ x, f (-x) = -f x
  inv : ∀ x, f (x⁻¹) = (f x)⁻¹
  zero : f 0 = 0
  one : f 1 = 1
  inj : ∀ x y, f x = f y → x = y
  sur : ∀ q, ∃ x, f x = q
  bd : ∀ b x, B b x ↔ QB b (f x)
structure KZ (p : Int) (α : Type) [Field α] (enc : α → PD) (B : Nat → α → Prop) (f : α → Int) : Prop where
  pp : Pp p
  en : ∀ x, enc x = .int (f x)
  rng : ∀ x, 0 ≤ f x ∧ f x < p
  add : ∀ x y, f (x + y) = (f x + f y) % p
  mul : ∀ x y, f (x * y) = (f x * f y) % p
  neg : ∀ x, f (-x) = (-f x) % p
  zero : f 0 = 0
  one : f 1 = 1
  inj : ∀ x y, f x = f y → x = y
  sur : ∀ i, 0 ≤ i → i < p → ∃ x, f x = i
  bd : ∀ b x, B b x
class SF (p : outParam Int) (α : Type) [Field α] where
  enc : α → PD
  B : Nat → α → Prop
  kd : (∃ f, KQ p α enc B f) ∨ ∃ f, KZ p α enc B f
section
variable {p : Int} {α : Type} [Field α] [S : SF p α]
theorem sf_pz (p : Int) (α : Type) [Field α] [S : SF p α] : Pz p := by
  rcases S.kd with ⟨f, k⟩ | ⟨f, k⟩
  · exact .inl k.p0
  · exact .inr k.pp
theorem QB.add {b c : Nat} {x y : Rat} (hx : QB b x) (hy : QB c y) : QB (b + c + 1) (x + y) := by
  unfold QB
  rw [add_div]
  exact mb_divInt (dd_ne x y) (MB.add (hx.1.mul hy.2) ((hy.1.mul hx.2).le (by omega))) ((hx.2.mul hy.2).le (by omega))
theorem QB.mul {b c : Nat} {x y : Rat} (hx : QB b x) (hy : QB c y) : QB (b + c) (x * y) := by
  unfold QB
  rw [mul_div]
  exact mb_divInt (dd_ne x y) (hx.1.mul hy.1) (hx.2.mul hy.2)
theorem B_le {b c : Nat} {x : α} (h : S.B b x) (l : b ≤ c) : S.B c x := by
  rcases S.kd with ⟨f, k⟩ | ⟨f, k⟩
  · have := (k.bd b x).mp h
    exact (k.bd c x).mpr ⟨this.1.le l, this.2.le l⟩
  · exact k.bd _ _
theorem B_add {b c : Nat} {x y : α} (h : S.B b x) (h2 : S.B c y) : S.B (b + c + 1) (x + y) := by
  rcases S.kd with ⟨f, k⟩ | ⟨f, k⟩
  · rw [k.bd] at h h2 ⊢
    rw [k.add]
    exact h.add h2
  · exact k.bd _ _
theorem B_mul {b c : Nat} {x y : α} (h : S.B b x) (h2 : S.B c y) : S.B (b + c) (x * y) := by
  rcases S.kd with ⟨f, k⟩ | ⟨f, k⟩
  · rw [k.bd] at h h2 ⊢
    rw [k.mul]
    exact h.mul h2
  · exact k.bd _ _
theorem B_zero : S.B 1 (0 : α) := by
  rcases S.kd with ⟨f, k⟩ | ⟨f, k⟩
  · rw [k.bd, k.zero]
    exact ⟨by unfold MB; decide, by unfold MB; decide⟩
  · exact k.bd _ _
theorem B_one : S.B 1 (1 : α) := by
  rcases S.kd with ⟨f, k⟩ | ⟨f, k⟩
  · rw [k.bd, k.one]
    exact ⟨by unfold MB; decide, by unfold MB; decide⟩
  · exact k.bd _ _
theorem enc_inj {x y : α} (h : S.enc x = S.enc y) : x = y := by
  rcases S.kd with ⟨f, k⟩ | ⟨f, k⟩
  · rw [k.en, k.en] at h
    unfold fr at h
    simp only [PyData.tuple.injEq, List.cons.injEq, PyData.int.injEq, and_true] at h
    exact k.inj _ _ (Rat.ext h.1 (by omega))
  · rw [k.en, k.en] at h
    exact k.inj _ _ (by injection h)
theorem eqv_fr (q r : Rat) : PyData.eqv (fr q) (fr r) = decide (q = r) := by
  unfold fr
  rw [eqv_t2, ← Bool.decide_and]
  exact decide_eq_decide.mpr ⟨fun h => Rat.ext h.1 (by omega), fun h => by rw [h]; exact ⟨rfl, rfl⟩⟩
theorem eqv_enc [DecidableEq α] (x y : α) : PyData.eqv (S.enc x) (S.enc y) = decide (x = y) := by
  rcases S.kd with ⟨f, k⟩ | ⟨f, k⟩
  · rw [k.en, k.en, eqv_fr]
    exact decide_eq_decide.mpr ⟨k.inj x y, fun h => by rw [h]⟩
  · rw [k.en, k.en, eqv_int]
    exact decide_eq_decide.mpr ⟨k.inj x y, fun h => by rw [h]⟩
theorem cp_enc (x : α) : Cp 1 (S.enc x) := by
  rcases S.kd with ⟨f, k⟩ | ⟨f, k⟩
  · rw [k.en]
    exact Cp.tup (CpA.cons Cp.int (CpA.cons Cp.int CpA.nil))
  · rw [k.en]
    exact Cp.int.le (Nat.zero_le _)
theorem rp_enc {b : Nat} {x : α} (h : S.B b x) (hb : b ≤ 1800) : Rp 1 (2 * b + 12) (S.enc x) := by
  rcases S.kd with ⟨f, k⟩ | ⟨f, k⟩
  · rw [k.en]
    have h := (k.bd b x).mp h
    exact (Rp.tup (RpA.cons (Rp.int h.1 (by omega)) (RpA.cons (Rp.int h.2 (by omega)) RpA.nil))).le (Nat.le_refl _) (by omega)
  · rw [k.en]
    have := k.pp.le
    have r := k.rng x
    exact (Rp.int (MB.of r.1 (by omega) : MB 4 (f x)) (by decide)).le (Nat.le_refl _) (by omega)
theorem isSc_enc (x : α) : isSc p (S.enc x) = true := by
  rcases S.kd with ⟨f, k⟩ | ⟨f, k⟩
  · rw [k.en, k.p0]
    have := den_pos (f x)
    have rd := (f x).reduced
    unfold Nat.Coprime at rd
    simp [isSc, fr, rd]
    omega
  · rw [k.en]
    have hp := k.pp.pos
    have := k.rng x
    simp [isSc, hp, this.1, this.2]
theorem okD_enc (j : Nat) (x : α) : okD (j + 1) (S.enc x) := by
  rcases S.kd with ⟨f, k⟩ | ⟨f, k⟩
  · rw [k.en]
    exact ⟨by show 2 ≤ 100000; decide, by intro y hy; simp at hy; rcases hy with rfl | rfl <;> cases j <;> trivial⟩
  · rw [k.en]; trivial
end
/-! they are there -/
@[reducible] def mkF (n : Nat) [NeZero n] (inv : Fin n → Fin n) (h0 : inv 0 = 0) (h1 : (0 : Fin n) ≠ 1) (hm : ∀ a : Fin n, a ≠ 0 → a * inv a = 1) (hi : ∀ a, inv (inv a) = a) : Field (Fin n) :=
  { (inferInstance : Lean.Grind.CommRing (Fin n)) with
    inv := inv
    div := fun a b => a * inv b
    div_eq_mul_inv := fun _ _ => rfl
    zero_ne_one := h1
    inv_zero := h0
    mul_inv_cancel := fun {a} h => hm a h
    zpow := ⟨fun a i => match i with
      | .ofNat k => a ^ k
      | .negSucc k => inv (a ^ (k + 1))⟩
    zpow_zero := fun a => Lean.Grind.Semiring.pow_zero a
    zpow_succ := fun a k => Lean.Grind.Semiring.pow_succ a k
    zpow_neg := fun a i => by
      have p0 : inv 1 = 1 := by
        have := hm 1 (fun e => h1 e.symm)
        rwa [Lean.Grind.Semiring.one_mul] at this
      cases i with
      | ofNat k =>
        cases k with
        | zero =>
          show a ^ (0 : Nat) = inv (a ^ (0 : Nat))
          rw [Lean.Grind.Semiring.pow_zero a, p0]
        | succ k => rfl
      | negSucc k => exact (hi (a ^ (k + 1))).symm }
def invF (n : Nat) [NeZero n] (a : Fin n) : Fin n := ((List.finRange n).filter fun b => decide (a * b = 1)).headD 0
instance : Field (Fin 2) := mkF 2 (invF 2) (by decide) (by decide) (by decide) (by decide)
instance : Field (Fin 3) := mkF 3 (invF 3) (by decide) (by decide) (by decide) (by decide)
instance : Field (Fin 5) := mkF 5 (invF 5) (by decide) (by decide) (by decide) (by decide)
instance : Field (Fin 7) := mkF 7 (invF 7) (by decide) (by decide) (by decide) (by decide)
instance : Field (Fin 11) := mkF 11 (invF 11) (by decide) (by decide) (by decide) (by decide)
instance : Field (Fin 13) := mkF 13 (invF 13) (by decide) (by decide) (by decide) (by decide)
theorem kz_fin {n : Nat} [NeZero n] [F : Field (Fin n)] (hp : Pp (n : Int)) (ha : ∀ a b : Fin n, ((F.toCommRing.toRing.toSemiring.toAdd.add a b).val : Int) = ((a.val : Int) + b.val) % n) (hm : ∀ a b : Fin n, ((F.toCommRing.toRing.toSemiring.toMul.mul a b).val : Int) = ((a.val : Int) * b.val) % n)
    (hn : ∀ a : Fin n, ((F.toCommRing.toRing.toNeg.neg a).val : Int) = (-(a.val : Int)) % n) (h0 : ((F.toCommRing.toRing.toSemiring.ofNat 0).ofNat : Fin n).val = 0) (h1 : ((F.toCommRing.toRing.toSemiring.ofNat 1).ofNat : Fin n).val = 1) : KZ (n : Int) (Fin n) (fun a => .int (a.val : Int)) (fun _ _ => True) (fun a => (a.val : Int)) :=
  ⟨hp, fun _ => rfl, fun x => ⟨by omega, by have := x.isLt; omega⟩, ha, hm, hn, by show ((_ : Nat) : Int) = 0; rw [h0]; rfl, by show ((_ : Nat) : Int) = 1; rw [h1]; rfl, fun x y h => Fin.ext (by omega), fun i h2 h3 => ⟨⟨i.toNat, by omega⟩, by show ((i.toNat : Nat) : Int) = i; omega⟩, fun _ _ => trivial⟩
instance : SF 0 Rat := ⟨fr, QB, .inl ⟨id, rfl, fun _ => rfl, fun _ _ => rfl, fun _ _ => rfl, fun _ => rfl, fun _ => rfl, rfl, rfl, fun _ _ h => h, fun q => ⟨q, rfl⟩, fun _ _ => Iff.rfl⟩⟩
instance : SF 2 (Fin 2) := ⟨fun a => .int (a.val : Int), fun _ _ => True, .inr ⟨_, kz_fin (n := 2) (.inl rfl) (by decide) (by decide) (by decide) (by decide) (by decide)⟩⟩
instance : SF 3 (Fin 3) := ⟨fun a => .int (a.val : Int), fun _ _ => True, .inr ⟨_, kz_fin (n := 3) (.inr (.inl rfl)) (by decide) (by decide) (by decide) (by decide) (by decide)⟩⟩
instance : SF 5 (Fin 5) := ⟨fun a => .int (a.val : Int), fun _ _ => True, .inr ⟨_, kz_fin (n := 5) (.inr (.inr (.inl rfl))) (by decide) (by decide) (by decide) (by decide) (by decide)⟩⟩
instance : SF 7 (Fin 7) := ⟨fun a => .int (a.val : Int), fun _ _ => True, .inr ⟨_, kz_fin (n := 7) (.inr (.inr (.inr (.inl rfl)))) (by decide) (by decide) (by decide) (by decide) (by decide)⟩⟩
instance : SF 11 (Fin 11) := ⟨fun a => .int (a.val : Int), fun _ _ => True, .inr ⟨_, kz_fin (n := 11) (.inr (.inr (.inr (.inr (.inl rfl))))) (by decide) (by decide) (by decide) (by decide) (by decide)⟩⟩
instance : SF 13 (Fin 13) := ⟨fun a => .int (a.val : Int), fun _ _ => True, .inr ⟨_, kz_fin (n := 13) (.inr (.inr (.inr (.inr (.inr rfl))))) (by decide) (by decide) (by decide) (by decide) (by decide)⟩⟩
/-- for each prime there is its field -/
theorem sf_all {P : Prop} {p : Int} (hp : Pz p) (h : ∀ (α : Type) (_ : Field α) (_ : DecidableEq α) (_ : SF p α), P) : P := by
  rcases hp with rfl | rfl | rfl | rfl | rfl | rfl | rfl
  · exact h Rat inferInstance inferInstance inferInstance
  · exact h (Fin 2) inferInstance inferInstance inferInstance
  · exact h (Fin 3) inferInstance inferInstance inferInstance
  · exact h (Fin 5) inferInstance inferInstance inferInstance
  · exact h (Fin 7) inferInstance inferInstance inferInstance
  · exact h (Fin 11) inferInstance inferInstance inferInstance
  · exact h (Fin 13) inferInstance inferInstance inferInstance


/-! sums of products -/
section
variable {p : Int} {α : Type} [Lean.Grind.Field α]
def dot : List α → List α → α
  | a :: r, b :: q => a * b + dot r q
  | _, _ => 0
def dotA (acc : α) : List (α × α) → α
  | [] => acc
  | x :: l => dotA (acc + x.1 * x.2) l
theorem dotA_add : ∀ (l : List (α × α)) (acc : α), dotA acc l = acc + dotA 0 l
  | [], acc => by simp only [dotA]; grind
  | x :: l, acc => by
    simp only [dotA]
    rw [dotA_add l (acc + x.1 * x.2), dotA_add l (0 + x.1 * x.2)]
    grind
theorem dotA_dot : ∀ r q : List α, dotA 0 (r.zip q) = dot r q
  | [], _ => rfl
  | _ :: _, [] => rfl
  | a :: r, b :: q => by
    show dotA (0 + a * b) (r.zip q) = a * b + dot r q
    rw [dotA_add, dotA_dot r q]
    grind
variable [S : SF p α]
def VB (b : Nat) (r : List α) : Prop := ∀ x ∈ r, S.B b x
theorem VB.le {b c : Nat} {r : List α} (h : VB (S := S) b r) (l : b ≤ c) : VB (S := S) c r := fun x hx => B_le (h x hx) l
theorem dotA_B {b : Nat} : ∀ (l : List (α × α)) (acc : α) (c : Nat), (∀ x ∈ l, S.B b x.1 ∧ S.B b x.2) → S.B c acc → S.B (c + l.length * (2 * b + 1)) (dotA acc l)
  | [], acc, c, _, h => by simpa [dotA] using h
  | x :: l, acc, c, hx, h => by
    have h1 := hx x (by simp)
    have h2 := B_add h (B_mul h1.1 h1.2)
    have := dotA_B l (acc + x.1 * x.2) (c + (b + b) + 1) (fun y hy => hx y (by simp [hy])) h2
    simp only [dotA, List.length_cons, Nat.add_mul]
    exact B_le this (by omega)
theorem zipB {b : Nat} {r q : List α} (hr : VB (S := S) b r) (hq : VB (S := S) b q) : ∀ x ∈ r.zip q, S.B b x.1 ∧ S.B b x.2 := fun x hx => ⟨hr _ (List.of_mem_zip (a := x.1) (b := x.2) hx).1, hq _ (List.of_mem_zip (a := x.1) (b := x.2) hx).2⟩
theorem dot_B {b : Nat} {r q : List α} (hr : VB (S := S) b r) (hq : VB (S := S) b q) : S.B (1 + r.length * (2 * b + 1)) (dot r q) := by
  rw [← dotA_dot]
  refine B_le (dotA_B _ 0 1 (zipB hr hq) B_zero) ?_
  have : (r.zip q).length ≤ r.length := by rw [List.length_zip]; omega
  have := Nat.mul_le_mul_right (2 * b + 1) this
  omega
def rowD (r : List α) : PD := .tuple (r.map S.enc)
def pairD (x : α × α) : PD := .tuple [S.enc x.1, S.enc x.2]
theorem zip_enc (r q : List α) : List.zipWith (fun a b => PyData.tuple [a, b]) (r.map S.enc) (q.map S.enc) = (r.zip q).map (pairD (S := S)) := zip_map S.enc S.enc r q
end


/-! tables -/
section
variable {p : Int} {α : Type} [Lean.Grind.Field α]
abbrev Tab (α : Type) := List (List α)
structure Shp (m k : Nat) (t : Tab α) : Prop where
  rows : t.length = m
  cols : ∀ r ∈ t, r.length = k
def trn (k : Nat) (t : Tab α) : Tab α := (List.range k).map fun j => t.map fun r => r.getD j 0
def mulT (k : Nat) (s t : Tab α) : Tab α := s.map fun r => (trn k t).map (dot r)
def addR (r q : List α) : List α := List.zipWith (· + ·) r q
def addT (s t : Tab α) : Tab α := List.zipWith addR s t
def sclT (c : α) (t : Tab α) : Tab α := t.map fun r => r.map (c * ·)
def zerT (m k : Nat) : Tab α := List.replicate m (List.replicate k 0)
def uniT (n : Nat) : Tab α := (List.range n).map fun i => (List.range n).map fun j => if i = j then 1 else 0
theorem Shp.trn {m k : Nat} {t : Tab α} (h : Shp m k t) : Shp k m (Law.trn k t) := by
  refine ⟨by unfold Law.trn; rw [List.length_map, List.length_range], fun r hr => ?_⟩
  obtain ⟨j, _, rfl⟩ := List.mem_map.mp hr
  rw [List.length_map]
  exact h.rows
theorem Shp.mul {m k n : Nat} {s t : Tab α} (h : Shp m k s) (g : Shp k n t) : Shp m n (mulT n s t) := by
  refine ⟨by unfold mulT; rw [List.length_map]; exact h.rows, fun r hr => ?_⟩
  obtain ⟨j, _, rfl⟩ := List.mem_map.mp hr
  rw [List.length_map]
  exact g.trn.rows
theorem Shp.scl {m k : Nat} {c : α} {t : Tab α} (h : Shp m k t) : Shp m k (sclT c t) := by
  refine ⟨by unfold sclT; rw [List.length_map]; exact h.rows, fun r hr => ?_⟩
  obtain ⟨q, hq, rfl⟩ := List.mem_map.mp hr
  rw [List.length_map]
  exact h.cols q hq
theorem Shp.uni (n : Nat) : Shp n n (uniT n : Tab α) := by
  refine ⟨by unfold uniT; rw [List.length_map, List.length_range], fun r hr => ?_⟩
  obtain ⟨j, _, rfl⟩ := List.mem_map.mp hr
  rw [List.length_map, List.length_range]
theorem Shp.zer (m k : Nat) : Shp m k (zerT m k : Tab α) := by
  refine ⟨by unfold zerT; rw [List.length_replicate], fun r hr => ?_⟩
  rw [(List.mem_replicate.mp hr).2, List.length_replicate]
variable [S : SF p α]
def tD (t : Tab α) : PD := .tuple (t.map rowD)
def TB (b : Nat) (t : Tab α) : Prop := ∀ r ∈ t, VB b r
theorem TB.le {b c : Nat} {t : Tab α} (h : TB b t) (l : b ≤ c) : TB c t := fun r hr => (h r hr).le l
theorem TB.trn {b k : Nat} {t : Tab α} (h : TB b t) (hb : 1 ≤ b) : TB b (trn k t) := by
  intro r hr
  obtain ⟨j, _, rfl⟩ := List.mem_map.mp hr
  intro x hx
  obtain ⟨q, hq, rfl⟩ := List.mem_map.mp hx
  rw [List.getD_eq_getElem?_getD]
  cases e : q[j]? with
  | none => exact B_le B_zero hb
  | some y => exact h q hq y (List.mem_of_getElem? e)
theorem TB.mul {b m k n : Nat} {s t : Tab α} (hs : Shp m k s) (h : TB b s) (g : TB b t) (hb : 1 ≤ b) : TB (1 + k * (2 * b + 1)) (mulT n s t) := by
  intro r hr
  obtain ⟨q, hq, rfl⟩ := List.mem_map.mp hr
  intro x hx
  obtain ⟨c, hc, rfl⟩ := List.mem_map.mp hx
  have := dot_B (h q hq) (g.trn (k := n) hb c hc)
  rw [hs.cols q hq] at this
  exact this
theorem rng_nat (k : Nat) : rngD 0 (k : Int) = (List.range k).map fun i : Nat => PyData.int (i : Int) := by
  unfold rngD
  have e : ((k : Int) - 0).toNat = k := by omega
  rw [e]
  exact List.map_congr_left fun i _ => by rw [Int.zero_add]
theorem rng_natL (k : Nat) : (rngD 0 (k : Int)).length = k := by rw [rng_nat, List.length_map, List.length_range]
theorem row_at {r : List α} {j : Nat} (h : j < r.length) : atI (r.map S.enc) (j : Int) = some (S.enc (r.getD j 0)) := by
  refine atI_map' S.enc ?_
  rw [atI_get0 (by omega) (by omega), Int.toNat_natCast, List.getD_eq_getElem?_getD, List.getElem?_eq_getElem h]
  rfl
theorem ev_transposed_in {m k : Nat} {t : Tab α} {R : DV → Prop} {E : EK} (h : Shp m k t) (hm : m ≤ 1000) (hk : k ≤ 1000) (hR : R (.d (tD (trn k t)))) : m_transposed_in [.d (tD t), .d (.int k)] R E := by
  have hr := h.rows
  rw [q_transposed_in]
  refine ⟨rfl, ?_⟩
  simp only [g_transposed_in, tD]
  array_get_dec
  refine ⟨⟨by omega, by omega⟩, by rw [rng_natL]; omega, ?_⟩
  rw [rng_nat]
  refine lcD_all _ (fun j : Nat => .tuple (t.map fun r => S.enc (r.getD j 0))) (fun j hj P hP => ?_) ?_
  · array_get_dec
    refine ⟨by rw [List.length_map]; omega, lcD_all rowD (fun r => S.enc (r.getD j 0)) (fun r hr P hP => ?_) ?_⟩
    · simp only [rowD]
      array_get_dec
      exact ⟨_, row_at (by rw [h.cols r hr]; exact List.mem_range.mp hj), hP⟩
    · array_get_dec
      exact hP
  array_get_dec
  have e : (List.range k).map (fun j => PyData.tuple (t.map fun r => S.enc (r.getD j 0))) = (trn k t).map rowD := by
    unfold trn
    rw [List.map_map]
    refine List.map_congr_left fun j _ => ?_
    show _ = PyData.tuple ((t.map fun r => r.getD j 0).map S.enc)
    rw [List.map_map]
    rfl
  rw [e]
  exact hR
end

local macro_rules | `(tactic| infer_instance) => `(tactic| refine ev_transposed_in (by sizeOf_list_dec) (by sizeOf_list_dec) (by sizeOf_list_dec) ?_)

/-! tables by their entries -/
section
variable {α : Type} [Lean.Grind.Field α]
def fsum (n : Nat) (f : Nat → α) : α := match n with
  | 0 => 0
  | n + 1 => fsum n f + f n
theorem fsum_congr {f g : Nat → α} : ∀ {n : Nat}, (∀ i, i < n → f i = g i) → fsum n f = fsum n g
  | 0, _ => rfl
  | n + 1, h => by
    show fsum n f + f n = fsum n g + g n
    rw [fsum_congr fun i hi => h i (by omega), h n (by omega)]
theorem fsum_add (f g : Nat → α) : ∀ n, fsum n (fun i => f i + g i) = fsum n f + fsum n g
  | 0 => by simp only [fsum]; grind
  | n + 1 => by simp only [fsum, fsum_add f g n]; grind
theorem fsum_mul (c : α) (f : Nat → α) : ∀ n, fsum n (fun i => c * f i) = c * fsum n f
  | 0 => by simp only [fsum]; grind
  | n + 1 => by simp only [fsum, fsum_mul c f n]; grind
theorem fsum_mulR (c : α) (f : Nat → α) : ∀ n, fsum n (fun i => f i * c) = fsum n f * c
  | 0 => by simp only [fsum]; grind
  | n + 1 => by simp only [fsum, fsum_mulR c f n]; grind
theorem fsum_zero : ∀ n, fsum n (fun _ => (0 : α)) = 0
  | 0 => rfl
  | n + 1 => by simp only [fsum, fsum_zero n]; grind
theorem fsum_comm (f : Nat → Nat → α) (m : Nat) : ∀ n, fsum n (fun i => fsum m (f i)) = fsum m fun j => fsum n fun i => f i j
  | 0 => by simp only [fsum]; rw [fsum_zero]
  | n + 1 => by simp only [fsum]; rw [fsum_comm f m n, ← fsum_add]
theorem fsum_shift (f : Nat → α) : ∀ n, fsum (n + 1) f = f 0 + fsum n fun i => f (i + 1)
  | 0 => by simp only [fsum]; grind
  | n + 1 => by
    show fsum (n + 1) f + f (n + 1) = f 0 + (fsum n (fun i => f (i + 1)) + f (n + 1))
    rw [fsum_shift f n]
    grind
theorem fsum_one {k : Nat} (f : Nat → α) : ∀ {n : Nat}, k < n → fsum n (fun i => if i = k then f i else 0) = f k
  | n + 1, h => by
    simp only [fsum]
    by_cases e : n = k
    · subst e
      rw [if_pos rfl, fsum_congr (g := fun _ => 0) fun i hi => by rw [if_neg (by omega)], fsum_zero]
      grind
    · rw [if_neg e, fsum_one f (by omega)]
      grind
theorem dot_fsum : ∀ (r q : List α) (k : Nat), r.length = k → q.length = k → dot r q = fsum k fun i => r.getD i 0 * q.getD i 0
  | [], [], k, h, _ => by
    subst h
    rfl
  | a :: r, b :: q, k, h, g => by
    cases k with
    | zero => simp at h
    | succ k =>
      rw [fsum_shift]
      show a * b + dot r q = _
      rw [dot_fsum r q k (by simpa using h) (by simpa using g)]
      rfl
def ent (t : Tab α) (i j : Nat) : α := (t.getD i []).getD j 0
theorem getD_map {β γ : Type} (f : β → γ) (l : List β) (i : Nat) (d : β) (e : γ) (h : i < l.length) : (l.map f).getD i e = f (l.getD i d) := by
  rw [List.getD_eq_getElem?_getD, List.getD_eq_getElem?_getD, List.getElem?_map, List.getElem?_eq_getElem h]
  rfl
theorem getD_range {n i : Nat} (h : i < n) : (List.range n).getD i 0 = i := by
  rw [List.getD_eq_getElem?_getD, List.getElem?_range h]
  rfl
theorem getD_mem' {β : Type} {l : List β} {i : Nat} {d : β} (h : i < l.length) : l.getD i d ∈ l := by
  rw [List.getD_eq_getElem?_getD, List.getElem?_eq_getElem h]
  exact List.getElem_mem h
theorem row_ext {r q : List α} {k : Nat} (hr : r.length = k) (hq : q.length = k) (h : ∀ j, j < k → r.getD j 0 = q.getD j 0) : r = q := by
  apply List.ext_getElem (by omega)
  intro i h1 h2
  have := h i (by omega)
  rw [List.getD_eq_getElem?_getD, List.getD_eq_getElem?_getD, List.getElem?_eq_getElem h1, List.getElem?_eq_getElem h2] at this
  exact this
theorem tab_ext {m k : Nat} {s t : Tab α} (hs : Shp m k s) (ht : Shp m k t) (h : ∀ i j, i < m → j < k → ent s i j = ent t i j) : s = t := by
  have r1 := hs.rows
  have r2 := ht.rows
  apply List.ext_getElem (by omega)
  intro i h1 h2
  refine row_ext (hs.cols _ (List.getElem_mem h1)) (ht.cols _ (List.getElem_mem h2)) fun j hj => ?_
  have := h i j (by omega) hj
  unfold ent at this
  rw [List.getD_eq_getElem?_getD (l := s), List.getD_eq_getElem?_getD (l := t), List.getElem?_eq_getElem h1, List.getElem?_eq_getElem h2] at this
  exact this
theorem ent_trn {m k i j : Nat} {t : Tab α} (h : Shp m k t) (hi : i < m) (hj : j < k) : ent (trn k t) j i = ent t i j := by
  unfold ent trn
  rw [getD_map _ _ _ 0 _ (by rw [List.length_range]; exact hj), getD_range hj, getD_map _ _ _ [] _ (by rw [h.rows]; exact hi)]
theorem row_of {m k i : Nat} {t : Tab α} (h : Shp m k t) (hi : i < m) : (t.getD i []).length = k := h.cols _ (getD_mem' (by rw [h.rows]; exact hi))
theorem ent_mul {m k n i j : Nat} {s t : Tab α} (hs : Shp m k s) (ht : Shp k n t) (hi : i < m) (hj : j < n) : ent (mulT n s t) i j = fsum k fun l => ent s i l * ent t l j := by
  have hc : ((trn n t).getD j []).length = k := row_of ht.trn hj
  have e : ent (mulT n s t) i j = dot (s.getD i []) ((trn n t).getD j []) := by
    unfold ent mulT
    rw [getD_map _ _ _ [] _ (by rw [hs.rows]; exact hi), getD_map _ _ _ [] _ (by rw [ht.trn.rows]; exact hj)]
  rw [e, dot_fsum _ _ k (row_of hs hi) hc]
  refine fsum_congr fun l hl => ?_
  have : ((trn n t).getD j []).getD l 0 = ent t l j := ent_trn ht hl hj
  rw [this]
  rfl
theorem ent_uni {n i j : Nat} (hi : i < n) (hj : j < n) : ent (uniT n : Tab α) i j = if i = j then 1 else 0 := by
  unfold ent uniT
  rw [getD_map _ _ _ 0 _ (by rw [List.length_range]; exact hi), getD_range hi, getD_map _ _ _ 0 _ (by rw [List.length_range]; exact hj), getD_range hj]
theorem mul_assocT {m k n r : Nat} {s t u : Tab α} (hs : Shp m k s) (ht : Shp k n t) (hu : Shp n r u) : mulT r (mulT n s t) u = mulT r s (mulT r t u) := by
  refine tab_ext ((hs.mul ht).mul hu) (hs.mul (ht.mul hu)) fun i j hi hj => ?_
  rw [ent_mul (hs.mul ht) hu hi hj, ent_mul hs (ht.mul hu) hi hj]
  rw [fsum_congr (g := fun l => fsum k fun q => ent s i q * (ent t q l * ent u l j)) fun l hl => by
    rw [ent_mul hs ht hi hl, ← fsum_mulR]
    exact fsum_congr fun q _ => by grind]
  rw [fsum_comm]
  refine fsum_congr fun q hq => ?_
  rw [fsum_mul, ent_mul ht hu hq hj]
theorem mul_trnT {m k n : Nat} {s t : Tab α} (hs : Shp m k s) (ht : Shp k n t) : mulT m (trn n t) (trn k s) = trn n (mulT n s t) := by
  refine tab_ext (ht.trn.mul hs.trn) (hs.mul ht).trn fun i j hi hj => ?_
  rw [ent_mul ht.trn hs.trn hi hj, ent_trn (hs.mul ht) hj hi, ent_mul hs ht hj hi]
  refine fsum_congr fun l hl => ?_
  rw [ent_trn ht hl hi, ent_trn hs hj hl]
  grind
theorem mul_uniT {m k : Nat} {s : Tab α} (hs : Shp m k s) : mulT k s (uniT k) = s := by
  refine tab_ext (hs.mul (Shp.uni k)) hs fun i j hi hj => ?_
  rw [ent_mul hs (Shp.uni k) hi hj]
  rw [fsum_congr (g := fun l => if l = j then ent s i l else 0) fun l hl => by
    rw [ent_uni hl hj]
    by_cases e : l = j
    · rw [if_pos e, if_pos e]; grind
    · rw [if_neg e, if_neg e]; grind]
  exact fsum_one (fun l => ent s i l) hj
theorem uni_mulT {m k : Nat} {s : Tab α} (hs : Shp m k s) : mulT k (uniT m) s = s := by
  refine tab_ext ((Shp.uni m).mul hs) hs fun i j hi hj => ?_
  rw [ent_mul (Shp.uni m) hs hi hj]
  rw [fsum_congr (g := fun l => if l = i then ent s l j else 0) fun l hl => by
    rw [ent_uni hi hl]
    by_cases e : l = i
    · rw [if_pos e, if_pos e.symm]; grind
    · rw [if_neg e, if_neg (fun z => e z.symm)]; grind]
  exact fsum_one (fun l => ent s l j) hi
end


/-! rows exchanged, scaled, added -/
section
variable {α : Type} [Lean.Grind.Field α]
theorem fsum_less (c : α) (f g : Nat → α) : ∀ n, fsum n (fun i => f i - c * g i) = fsum n f - c * fsum n g
  | 0 => by simp only [fsum]; grind
  | n + 1 => by simp only [fsum, fsum_less c f g n]; grind
def lessR (r : List α) (c : α) (q : List α) : List α := List.zipWith (fun x y => x - c * y) r q
inductive ROp (α : Type) where
  | sw (i j : Nat)
  | sc (i : Nat) (c : α)
  | ad (i j : Nat) (c : α)
def ROp.app : ROp α → Tab α → Tab α
  | .sw i j, t => (t.set i (t.getD j [])).set j (t.getD i [])
  | .sc i c, t => t.set i ((t.getD i []).map (c * ·))
  | .ad i j c, t => t.set i (lessR (t.getD i []) c (t.getD j []))
def ROp.ok (m : Nat) : ROp α → Prop
  | .sw i j => i < m ∧ j < m ∧ i ≠ j
  | .sc i c => i < m ∧ c ≠ 0
  | .ad i j _ => i < m ∧ j < m ∧ i ≠ j
def ROp.fac : ROp α → α
  | .sw _ _ => -1
  | .sc _ c => c
  | .ad _ _ _ => 1
def appL : List (ROp α) → Tab α → Tab α
  | [], t => t
  | o :: os, t => appL os (o.app t)
def facL : List (ROp α) → α
  | [] => 1
  | o :: os => o.fac * facL os
def okL (m : Nat) (os : List (ROp α)) : Prop := ∀ o ∈ os, o.ok m
theorem getD_set {β : Type} {l : List β} {i a : Nat} {r d : β} (h : i < l.length) : (l.set i r).getD a d = if a = i then r else l.getD a d := by
  rw [List.getD_eq_getElem?_getD, List.getD_eq_getElem?_getD]
  by_cases e : a = i
  · subst e
    rw [if_pos rfl, List.getElem?_set_self h]
    rfl
  · rw [if_neg e, List.getElem?_set_ne (by omega)]
theorem set_shp {m k i : Nat} {t : Tab α} {r : List α} (h : Shp m k t) (hr : r.length = k) : Shp m k (t.set i r) := by
  refine ⟨by rw [List.length_set]; exact h.rows, fun q hq => ?_⟩
  rcases List.mem_or_eq_of_mem_set hq with hq | rfl
  · exact h.cols q hq
  · exact hr
theorem less_len {k : Nat} {r q : List α} {c : α} (h1 : r.length = k) (h2 : q.length = k) : (lessR r c q).length = k := by
  unfold lessR
  rw [List.length_zipWith]
  omega
theorem less_at {k b : Nat} {r q : List α} {c : α} (h1 : r.length = k) (h2 : q.length = k) (hb : b < k) : (lessR r c q).getD b 0 = r.getD b 0 - c * q.getD b 0 := by
  unfold lessR
  rw [List.getD_eq_getElem?_getD, List.getD_eq_getElem?_getD, List.getD_eq_getElem?_getD, List.getElem?_zipWith, List.getElem?_eq_getElem (by omega), List.getElem?_eq_getElem (by omega)]
  rfl
theorem map_at {k b : Nat} {r : List α} {c : α} (h1 : r.length = k) (hb : b < k) : (r.map (c * ·)).getD b 0 = c * r.getD b 0 := by
  rw [getD_map _ _ _ 0 _ (by omega)]
theorem app_shp {m k : Nat} {t : Tab α} {o : ROp α} (h : Shp m k t) (ho : o.ok m) : Shp m k (o.app t) := by
  cases o with
  | sw i j => exact set_shp (set_shp h (row_of h ho.2.1)) (row_of h ho.1)
  | sc i c => exact set_shp h (by rw [List.length_map]; exact row_of h ho.1)
  | ad i j c => exact set_shp h (less_len (row_of h ho.1) (row_of h ho.2.1))
theorem ent_sw {m k i j a b : Nat} {t : Tab α} (h : Shp m k t) (hi : i < m) (hj : j < m) : ent ((ROp.sw i j : ROp α).app t) a b = ent t (if a = j then i else if a = i then j else a) b := by
  have r := h.rows
  unfold ent ROp.app
  rw [getD_set (by rw [List.length_set]; omega), getD_set (by omega)]
  by_cases e : a = j
  · rw [if_pos e, if_pos e]
  · rw [if_neg e, if_neg e]
    by_cases f : a = i
    · rw [if_pos f, if_pos f]
    · rw [if_neg f, if_neg f]
theorem ent_sc {m k i a b : Nat} {c : α} {t : Tab α} (h : Shp m k t) (hi : i < m) (hb : b < k) : ent ((ROp.sc i c).app t) a b = if a = i then c * ent t i b else ent t a b := by
  have r := h.rows
  unfold ent ROp.app
  rw [getD_set (by omega)]
  by_cases e : a = i
  · rw [if_pos e, if_pos e, map_at (row_of h hi) hb]
  · rw [if_neg e, if_neg e]
theorem ent_ad {m k i j a b : Nat} {c : α} {t : Tab α} (h : Shp m k t) (hi : i < m) (hj : j < m) (hb : b < k) : ent ((ROp.ad i j c).app t) a b = if a = i then ent t i b - c * ent t j b else ent t a b := by
  have r := h.rows
  unfold ent ROp.app
  rw [getD_set (by omega)]
  by_cases e : a = i
  · rw [if_pos e, if_pos e, less_at (row_of h hi) (row_of h hj) hb]
  · rw [if_neg e, if_neg e]
theorem app_mul {m k n : Nat} {s t : Tab α} {o : ROp α} (hs : Shp m k s) (ht : Shp k n t) (ho : o.ok m) : o.app (mulT n s t) = mulT n (o.app s) t := by
  refine tab_ext (app_shp (hs.mul ht) ho) ((app_shp hs ho).mul ht) fun a b ha hb => ?_
  rw [ent_mul (app_shp hs ho) ht ha hb]
  cases o with
  | sw i j =>
    rw [ent_sw (hs.mul ht) ho.1 ho.2.1]
    have hc : (if a = j then i else if a = i then j else a) < m := by split <;> first | exact ho.1 | (split <;> first | exact ho.2.1 | exact ha)
    rw [ent_mul hs ht hc hb]
    exact fsum_congr fun l _ => by rw [ent_sw hs ho.1 ho.2.1]
  | sc i c =>
    rw [ent_sc (hs.mul ht) ho.1 hb]
    by_cases e : a = i
    · rw [if_pos e, ent_mul hs ht ho.1 hb, ← fsum_mul]
      exact fsum_congr fun l hl => by rw [ent_sc hs ho.1 hl, if_pos e]; grind
    · rw [if_neg e, ent_mul hs ht ha hb]
      exact fsum_congr fun l hl => by rw [ent_sc hs ho.1 hl, if_neg e]
  | ad i j c =>
    rw [ent_ad (hs.mul ht) ho.1 ho.2.1 hb]
    by_cases e : a = i
    · rw [if_pos e, ent_mul hs ht ho.1 hb, ent_mul hs ht ho.2.1 hb, ← fsum_less]
      exact fsum_congr fun l hl => by rw [ent_ad hs ho.1 ho.2.1 hl, if_pos e]; grind
    · rw [if_neg e, ent_mul hs ht ha hb]
      exact fsum_congr fun l hl => by rw [ent_ad hs ho.1 ho.2.1 hl, if_neg e]
theorem appL_shp {m k : Nat} : ∀ {os : List (ROp α)} {t : Tab α}, Shp m k t → okL m os → Shp m k (appL os t)
  | [], _, h, _ => h
  | o :: os, t, h, ho => by
    show Shp m k (appL os (o.app t))
    exact appL_shp (app_shp h (ho o (by simp))) fun x hx => ho x (by simp [hx])
theorem appL_mul {m k n : Nat} : ∀ {os : List (ROp α)} {s t : Tab α}, Shp m k s → Shp k n t → okL m os → appL os (mulT n s t) = mulT n (appL os s) t
  | [], _, _, _, _, _ => rfl
  | o :: os, s, t, hs, ht, ho => by
    show appL os (o.app _) = mulT n (appL os (o.app s)) t
    rw [app_mul hs ht (ho o (by simp)), appL_mul (app_shp hs (ho o (by simp))) ht fun x hx => ho x (by simp [hx])]
theorem appL_app : ∀ {os ps : List (ROp α)} {t : Tab α}, appL (os ++ ps) t = appL ps (appL os t)
  | [], _, _ => rfl
  | o :: os, ps, t => appL_app (os := os) (ps := ps) (t := o.app t)
theorem okL_app {m : Nat} {os ps : List (ROp α)} (h : okL m os) (g : okL m ps) : okL m (os ++ ps) := fun o ho => by
  rcases List.mem_append.mp ho with z | z
  · exact h o z
  · exact g o z
theorem facL_app : ∀ {os ps : List (ROp α)}, facL (os ++ ps) = facL os * facL ps
  | [], ps => by show facL ps = 1 * facL ps; grind
  | o :: os, ps => by
    show o.fac * facL (os ++ ps) = o.fac * facL os * facL ps
    rw [facL_app]
    grind
theorem facL_ne {m : Nat} : ∀ {os : List (ROp α)}, okL m os → facL os ≠ 0
  | [], _ => by show (1 : α) ≠ 0; grind
  | o :: os, h => by
    have h1 := facL_ne (os := os) fun x hx => h x (by simp [hx])
    have h2 := h o (by simp)
    show o.fac * facL os ≠ 0
    have h3 : o.fac ≠ 0 := by
      cases o with
      | sw i j => show (-1 : α) ≠ 0; grind
      | sc i c => exact h2.2
      | ad i j c => show (1 : α) ≠ 0; grind
    grind
/-- what undoes it -/
def ROp.inv : ROp α → ROp α
  | .sw i j => .sw i j
  | .sc i c => .sc i c⁻¹
  | .ad i j c => .ad i j (-c)
theorem inv_ok {m : Nat} {o : ROp α} (h : o.ok m) : o.inv.ok m := by
  cases o with
  | sw i j => exact h
  | sc i c => exact ⟨h.1, by have := h.2; show c⁻¹ ≠ 0; grind⟩
  | ad i j c => exact h
theorem inv_app {m k : Nat} {t : Tab α} {o : ROp α} (h : Shp m k t) (ho : o.ok m) : o.inv.app (o.app t) = t := by
  have h1 := app_shp h ho
  refine tab_ext (app_shp h1 (inv_ok ho)) h fun a b ha hb => ?_
  cases o with
  | sw i j =>
    show ent ((ROp.sw i j : ROp α).app _) a b = _
    rw [ent_sw h1 ho.1 ho.2.1, ent_sw h ho.1 ho.2.1]
    have := ho.2.2
    congr 1
    split <;> split <;> (try split) <;> omega
  | sc i c =>
    show ent ((ROp.sc i c⁻¹).app _) a b = _
    rw [ent_sc h1 ho.1 hb, ent_sc h ho.1 hb, ent_sc h ho.1 hb]
    have := ho.2
    by_cases e : a = i
    · rw [if_pos e, if_pos rfl, e]; grind
    · rw [if_neg e, if_neg e]
  | ad i j c =>
    show ent ((ROp.ad i j (-c)).app _) a b = _
    rw [ent_ad h1 ho.1 ho.2.1 hb, ent_ad h ho.1 ho.2.1 hb, ent_ad h ho.1 ho.2.1 hb, ent_ad h ho.1 ho.2.1 hb]
    have := ho.2.2
    by_cases e : a = i
    · rw [if_pos e, if_pos rfl, if_neg (fun z => this z.symm), e]; grind
    · rw [if_neg e, if_neg e]
def invL : List (ROp α) → List (ROp α)
  | [] => []
  | o :: os => invL os ++ [o.inv]
theorem invL_ok {m : Nat} : ∀ {os : List (ROp α)}, okL m os → okL m (invL os)
  | [], _ => fun o h => by cases h
  | o :: os, h => okL_app (invL_ok fun x hx => h x (by simp [hx])) fun x hx => by
      rw [List.mem_singleton.mp hx]
      exact inv_ok (h o (by simp))
theorem invL_app {m k : Nat} : ∀ {os : List (ROp α)} {t : Tab α}, Shp m k t → okL m os → appL (invL os) (appL os t) = t
  | [], _, _, _ => rfl
  | o :: os, t, h, ho => by
    show appL (invL os ++ [o.inv]) (appL os (o.app t)) = t
    rw [appL_app, invL_app (app_shp h (ho o (by simp))) fun x hx => ho x (by simp [hx])]
    exact inv_app h (ho o (by simp))
/-- by a table that can be undone -/
theorem appL_P {m k : Nat} {os : List (ROp α)} {t : Tab α} (h : Shp m k t) (ho : okL m os) : appL os t = mulT k (appL os (uniT m)) t := by
  rw [← appL_mul (Shp.uni m) h ho, uni_mulT h]
theorem appL_PQ {m : Nat} {os : List (ROp α)} (ho : okL m os) : mulT m (appL (invL os) (uniT m)) (appL os (uniT m)) = uniT m := by
  have h : Shp m m (uniT m : Tab α) := Shp.uni m
  rw [← appL_P (appL_shp h ho) (invL_ok ho), invL_app h ho]
end


/-! the reduced form, step by step -/
section
variable {α : Type} [Lean.Grind.Field α]
theorem okL_nil {m : Nat} : okL m ([] : List (ROp α)) := fun o ho => by cases ho
structure RInv (m k c : Nat) (rows : Tab α) (piv : List Nat) : Prop where
  shp : Shp m k rows
  srt : piv.Pairwise (· < ·)
  lt : ∀ x ∈ piv, x < c
  le : piv.length ≤ m
  one : ∀ i, i < piv.length → ent rows i (piv.getD i 0) = 1
  zer : ∀ i, i < piv.length → ∀ a, a < m → a ≠ i → ent rows a (piv.getD i 0) = 0
  left : ∀ i, i < piv.length → ∀ b, b < piv.getD i 0 → ent rows i b = 0
  rest : ∀ a, piv.length ≤ a → a < m → ∀ b, b < c → ent rows a b = 0
theorem RInv.start {m k : Nat} {t : Tab α} (h : Shp m k t) : RInv m k 0 t [] :=
  ⟨h, List.Pairwise.nil, by simp, Nat.zero_le _, fun i hi => by simp at hi, fun i hi => by simp at hi, fun i hi => by simp at hi, fun a _ _ b hb => by omega⟩
theorem RInv.skip {m k c : Nat} {rows : Tab α} {piv : List Nat} (h : RInv m k c rows piv) (hz : ∀ a, piv.length ≤ a → a < m → ent rows a c = 0) : RInv m k (c + 1) rows piv :=
  ⟨h.shp, h.srt, fun x hx => by have := h.lt x hx; omega, h.le, h.one, h.zer, h.left, fun a h1 h2 b hb => by
    by_cases e : b = c
    · rw [e]; exact hz a h1 h2
    · exact h.rest a h1 h2 b (by omega)⟩
/-- one more pivot: what the rows become -/
structure Stp (m k c at_ k0 : Nat) (rows rows2 : Tab α) : Prop where
  shp : Shp m k rows2
  top : ∀ b, b < k → ent rows2 at_ b = (ent rows k0 c)⁻¹ * ent rows k0 b
  oth : ∀ a, a < m → a ≠ at_ → ∀ b, b < k → ent rows2 a b = ent rows (if a = k0 then at_ else a) b - ent rows (if a = k0 then at_ else a) c * ((ent rows k0 c)⁻¹ * ent rows k0 b)
theorem getD_app {β : Type} {l : List β} {x d : β} {i : Nat} : (l ++ [x]).getD i d = if i < l.length then l.getD i d else if i = l.length then x else d := by
  rw [List.getD_eq_getElem?_getD, List.getD_eq_getElem?_getD]
  by_cases h : i < l.length
  · rw [if_pos h, List.getElem?_append_left h]
  · rw [if_neg h, List.getElem?_append_right (by omega)]
    by_cases e : i = l.length
    · rw [if_pos e, e, Nat.sub_self]; rfl
    · rw [if_neg e, List.getElem?_eq_none (by simp; omega)]; rfl
theorem RInv.step {m k c k0 : Nat} {rows rows2 : Tab α} {piv : List Nat} (h : RInv m k c rows piv) (hc : c < k) (hk0 : piv.length ≤ k0) (hk1 : k0 < m) (hn : ent rows k0 c ≠ 0) (st : Stp m k c piv.length k0 rows rows2) : RInv m k (c + 1) rows2 (piv ++ [c]) := by
  have pl : ∀ i, i < piv.length → piv.getD i 0 < c := fun i hi => h.lt _ (getD_mem' hi)
  have z0 : ∀ a, piv.length ≤ a → a < m → ∀ b, b < c → ent rows a b = 0 := h.rest
  have inv1 : (ent rows k0 c)⁻¹ * ent rows k0 c = 1 := by grind
  refine ⟨st.shp, ?_, fun x hx => ?_, by rw [List.length_append]; simp; omega, fun i hi => ?_, fun i hi a ha hne => ?_, fun i hi b hb => ?_, fun a h1 h2 b hb => ?_⟩
  · rw [List.pairwise_append]
    exact ⟨h.srt, List.pairwise_singleton _ _, fun a ha b hb => by rw [List.mem_singleton.mp hb]; exact h.lt a ha⟩
  · rcases List.mem_append.mp hx with hx | hx
    · have := h.lt x hx; omega
    · rw [List.mem_singleton.mp hx]; omega
  · rw [List.length_append, List.length_singleton] at hi
    rw [getD_app]
    by_cases e : i < piv.length
    · rw [if_pos e]
      have p := pl i e
      rw [st.oth i (by omega) (by omega) _ (by omega), if_neg (by omega : i ≠ k0), h.one i e, z0 k0 hk0 hk1 _ p]
      grind
    · have e2 : i = piv.length := by omega
      rw [if_neg e, if_pos e2, e2, st.top c hc]
      exact inv1
  · rw [List.length_append, List.length_singleton] at hi
    rw [getD_app]
    by_cases e : i < piv.length
    · rw [if_pos e]
      have p := pl i e
      by_cases ea : a = piv.length
      · rw [ea, st.top _ (by omega), z0 k0 hk0 hk1 _ p]
        grind
      · rw [st.oth a ha ea _ (by omega), z0 k0 hk0 hk1 _ p]
        have : ent rows (if a = k0 then piv.length else a) (piv.getD i 0) = 0 := by
          by_cases q : a = k0
          · rw [if_pos q]; exact z0 _ (Nat.le_refl _) (by omega) _ p
          · rw [if_neg q]; exact h.zer i e a ha hne
        rw [this]
        grind
    · have e2 : i = piv.length := by omega
      rw [if_neg e, if_pos e2]
      rw [st.oth a ha (by omega) _ hc, inv1]
      grind
  · rw [List.length_append, List.length_singleton] at hi
    rw [getD_app] at hb
    by_cases e : i < piv.length
    · rw [if_pos e] at hb
      have p := pl i e
      rw [st.oth i (by have := h.le; omega) (by omega) _ (by omega), if_neg (by omega : i ≠ k0), h.left i e b hb, z0 k0 hk0 hk1 b (by omega)]
      grind
    · have e2 : i = piv.length := by omega
      rw [if_neg e, if_pos e2] at hb
      rw [e2, st.top _ (by omega), z0 k0 hk0 hk1 b hb]
      grind
  · rw [List.length_append, List.length_singleton] at h1
    rw [st.oth a h2 (by omega) _ (by omega)]
    by_cases e : b = c
    · rw [e, inv1]
      grind
    · rw [z0 k0 hk0 hk1 b (by omega)]
      have : ent rows (if a = k0 then piv.length else a) b = 0 := by
        by_cases q : a = k0
        · rw [if_pos q]; exact z0 _ (Nat.le_refl _) (by omega) _ (by omega)
        · rw [if_neg q]; exact z0 a (by omega) h2 _ (by omega)
      rw [this]
      grind
/-! the program's way -/
variable [DecidableEq α]
def fnd (rows : Tab α) (c at_ : Nat) : List Nat := ((List.range rows.length).filter fun k => decide (at_ ≤ k)).filter fun k => !decide (ent rows k c = 0)
def wip (at_ c : Nat) (top : List α) (rows : Tab α) (k : Nat) : Tab α := if k ≠ at_ ∧ ent rows k c ≠ 0 then rows.set k (lessR (rows.getD k []) (ent rows k c) top) else rows
def swp (rows : Tab α) (c at_ k0 : Nat) : Tab α := (rows.set k0 (rows.getD at_ [])).set at_ ((rows.getD k0 []).map ((ent rows k0 c)⁻¹ * ·))
def rst (st : Tab α × List Nat) (c : Nat) : Tab α × List Nat := match fnd st.1 c st.2.length with
  | [] => st
  | k0 :: _ => ((List.range st.1.length).foldl (wip st.2.length c ((swp st.1 c st.2.length k0).getD st.2.length [])) (swp st.1 c st.2.length k0), st.2 ++ [c])
def redn (k : Nat) (t : Tab α) : Tab α × List Nat := (List.range k).foldl rst (t, [])
theorem mem_fnd {rows : Tab α} {c at_ k : Nat} : k ∈ fnd rows c at_ ↔ (k < rows.length ∧ at_ ≤ k) ∧ ent rows k c ≠ 0 := by
  unfold fnd
  simp only [List.mem_filter, List.mem_range, decide_eq_true_eq, Bool.not_eq_true', decide_eq_false_iff_not]
/-- the swap and the scaling, by operations -/
theorem swp_ops {m k c at_ k0 : Nat} {rows : Tab α} (h : Shp m k rows) (h1 : at_ < m) (h2 : k0 < m) (hn : ent rows k0 c ≠ 0) : ∃ os : List (ROp α), okL m os ∧ swp rows c at_ k0 = appL os rows := by
  have r := h.rows
  have hi : (ent rows k0 c)⁻¹ ≠ 0 := by grind
  have sh : Shp m k (swp rows c at_ k0) := set_shp (set_shp h (row_of h h1)) (by rw [List.length_map]; exact row_of h h2)
  have es : ∀ a b, b < k → ent (swp rows c at_ k0) a b = if a = at_ then (ent rows k0 c)⁻¹ * ent rows k0 b else if a = k0 then ent rows at_ b else ent rows a b := fun a b hb => by
    unfold swp ent
    rw [getD_set (by rw [List.length_set]; omega)]
    by_cases e : a = at_
    · rw [if_pos e, if_pos e, map_at (row_of h h2) hb]
    · rw [if_neg e, if_neg e, getD_set (by omega)]
      by_cases f : a = k0
      · rw [if_pos f, if_pos f]
      · rw [if_neg f, if_neg f]
  by_cases e : at_ = k0
  · subst e
    have ok : okL m [ROp.sc at_ (ent rows at_ c)⁻¹] := fun o ho => by rw [List.mem_singleton.mp ho]; exact ⟨h1, hi⟩
    refine ⟨_, ok, tab_ext sh (appL_shp h ok) fun a b ha hb => ?_⟩
    show _ = ent ((ROp.sc at_ _).app rows) a b
    rw [es a b hb, ent_sc h h1 hb]
    by_cases f : a = at_
    · rw [if_pos f, if_pos f]
    · rw [if_neg f, if_neg f, if_neg f]
  · have ok : okL m [ROp.sw at_ k0, ROp.sc at_ (ent rows k0 c)⁻¹] := fun o ho => by
      rcases List.mem_cons.mp ho with rfl | ho
      · exact ⟨h1, h2, e⟩
      · rw [List.mem_singleton.mp ho]; exact ⟨h1, hi⟩
    refine ⟨_, ok, tab_ext sh (appL_shp h ok) fun a b ha hb => ?_⟩
    show _ = ent ((ROp.sc at_ _).app ((ROp.sw at_ k0 : ROp α).app rows)) a b
    have h3 : Shp m k ((ROp.sw at_ k0 : ROp α).app rows) := app_shp h ⟨h1, h2, e⟩
    rw [es a b hb, ent_sc h3 h1 hb, ent_sw h h1 h2, ent_sw h h1 h2]
    by_cases f : a = at_
    · rw [if_pos f, if_pos f, if_neg e, if_pos rfl]
    · rw [if_neg f, if_neg f]
      by_cases g : a = k0
      · rw [if_pos g, if_pos g]
      · rw [if_neg g, if_neg g, if_neg f]
theorem swp_ent {m k c at_ k0 : Nat} {rows : Tab α} (h : Shp m k rows) (h1 : at_ < m) (h2 : k0 < m) : Shp m k (swp rows c at_ k0) ∧ ∀ a b, b < k → ent (swp rows c at_ k0) a b = if a = at_ then (ent rows k0 c)⁻¹ * ent rows k0 b else if a = k0 then ent rows at_ b else ent rows a b := by
  have r := h.rows
  refine ⟨set_shp (set_shp h (row_of h h1)) (by rw [List.length_map]; exact row_of h h2), fun a b hb => ?_⟩
  unfold swp ent
  rw [getD_set (by rw [List.length_set]; omega)]
  by_cases e : a = at_
  · rw [if_pos e, if_pos e, map_at (row_of h h2) hb]
  · rw [if_neg e, if_neg e, getD_set (by omega)]
    by_cases f : a = k0
    · rw [if_pos f, if_pos f]
    · rw [if_neg f, if_neg f]
/-- the wiping, row by row -/
theorem wip_fold {m k c at_ : Nat} {top : List α} (ht : top.length = k) (hc : c < k) (ha : at_ < m) : ∀ (l : List Nat) (rows : Tab α), Shp m k rows → (∀ x ∈ l, x < m) → l.Nodup → rows.getD at_ [] = top →
    ∃ os : List (ROp α), okL m os ∧ l.foldl (wip at_ c top) rows = appL os rows ∧ Shp m k (l.foldl (wip at_ c top) rows) ∧
      ∀ a b, b < k → ent (l.foldl (wip at_ c top) rows) a b = if a ∈ l ∧ a ≠ at_ then ent rows a b - ent rows a c * top.getD b 0 else ent rows a b
  | [], rows, h, _, _, _ => ⟨[], okL_nil, rfl, h, fun a b _ => by rw [if_neg (by simp)]; rfl⟩
  | x :: l, rows, h, hl, hd, htop => by
    obtain ⟨hd1, hd2⟩ := List.nodup_cons.mp hd
    have hx := hl x (by simp)
    have r := h.rows
    rw [List.foldl_cons]
    by_cases z : x ≠ at_ ∧ ent rows x c ≠ 0
    · have e : wip at_ c top rows x = (ROp.ad x at_ (ent rows x c)).app rows := by
        unfold wip
        rw [if_pos z]
        show rows.set x (lessR (rows.getD x []) (ent rows x c) top) = rows.set x (lessR (rows.getD x []) (ent rows x c) (rows.getD at_ []))
        rw [htop]
      have ok1 : (ROp.ad x at_ (ent rows x c)).ok m := ⟨hx, ha, z.1⟩
      have h1 := app_shp h ok1
      have t1 : ((ROp.ad x at_ (ent rows x c)).app rows).getD at_ [] = top := by
        show (rows.set x _).getD at_ [] = top
        rw [getD_set (by omega), if_neg (fun q => z.1 q.symm)]
        exact htop
      obtain ⟨os, o1, o2, o3, o4⟩ := wip_fold (c := c) ht hc ha l _ h1 (fun y hy => hl y (by simp [hy])) hd2 t1
      rw [e]
      refine ⟨ROp.ad x at_ (ent rows x c) :: os, fun o ho => ?_, o2, o3, fun a b hb => ?_⟩
      · rcases List.mem_cons.mp ho with rfl | ho
        · exact ok1
        · exact o1 o ho
      · rw [o4 a b hb, ent_ad h hx ha hb, ent_ad h hx ha hc]
        have tb : ent rows at_ b = top.getD b 0 := by unfold ent; rw [htop]
        by_cases q : a = x
        · subst q
          rw [if_neg (by simp [hd1]), if_pos rfl, if_pos (by simp [z.1]), tb]
        · rw [if_neg q, if_neg q]
          by_cases w : a ∈ l ∧ a ≠ at_
          · rw [if_pos w, if_pos ⟨by simp [w.1], w.2⟩]
          · rw [if_neg w, if_neg (by simp [q]; simpa using w)]
    · have e : wip at_ c top rows x = rows := by unfold wip; rw [if_neg z]
      rw [e]
      obtain ⟨os, o1, o2, o3, o4⟩ := wip_fold (c := c) ht hc ha l rows h (fun y hy => hl y (by simp [hy])) hd2 htop
      refine ⟨os, o1, o2, o3, fun a b hb => ?_⟩
      rw [o4 a b hb]
      by_cases q : a = x
      · subst q
        rw [if_neg (by simp [hd1])]
        by_cases w : a = at_
        · rw [if_neg (by simp [w])]
        · have : ent rows a c = 0 := Classical.byContradiction fun v => z ⟨w, v⟩
          rw [if_pos ⟨by simp, w⟩, this]
          grind
      · by_cases w : a ∈ l ∧ a ≠ at_
        · rw [if_pos w, if_pos ⟨by simp [w.1], w.2⟩]
        · rw [if_neg w, if_neg (by simp [q]; simpa using w)]
/-- a step keeps what holds -/
theorem rst_ok {m k c : Nat} {rows : Tab α} {piv : List Nat} (h : RInv m k c rows piv) (hc : c < k) : RInv m k (c + 1) (rst (rows, piv) c).1 (rst (rows, piv) c).2 ∧ ∃ os : List (ROp α), okL m os ∧ (rst (rows, piv) c).1 = appL os rows := by
  have r := h.shp.rows
  unfold rst
  cases q : fnd rows c piv.length with
  | nil =>
    simp only [q]
    refine ⟨h.skip fun a h1 h2 => Classical.byContradiction fun z => ?_, [], okL_nil, rfl⟩
    have : a ∈ fnd rows c piv.length := mem_fnd.mpr ⟨⟨by omega, h1⟩, z⟩
    rw [q] at this
    cases this
  | cons k0 l =>
    simp only [q]
    obtain ⟨⟨m1, m2⟩, m3⟩ := mem_fnd.mp (show k0 ∈ fnd rows c piv.length by rw [q]; simp)
    have hat : piv.length < m := by omega
    obtain ⟨s1, s2⟩ := swp_ent (c := c) h.shp hat (by omega : k0 < m)
    obtain ⟨os1, p1, p2⟩ := swp_ops h.shp hat (by omega : k0 < m) m3
    obtain ⟨os2, o1, o2, o3, o4⟩ := wip_fold (c := c) (top := (swp rows c piv.length k0).getD piv.length []) (row_of s1 hat) hc hat (List.range rows.length) _ s1 (fun x hx => by have := List.mem_range.mp hx; omega) List.nodup_range rfl
    refine ⟨h.step hc m2 (by omega) m3 ⟨o3, fun b hb => ?_, fun a ha hne b hb => ?_⟩, os1 ++ os2, okL_app p1 o1, by rw [appL_app, ← p2]; exact o2⟩
    · rw [o4 _ b hb, if_neg (by simp), s2 _ b hb, if_pos rfl]
    · have tb : ((swp rows c piv.length k0).getD piv.length []).getD b 0 = (ent rows k0 c)⁻¹ * ent rows k0 b := by
        have := s2 piv.length b hb
        rw [if_pos rfl] at this
        exact this
      rw [o4 a b hb, if_pos ⟨List.mem_range.mpr (by omega), hne⟩, tb, s2 a b hb, s2 a c hc, if_neg hne, if_neg hne]
      by_cases e : a = k0
      · rw [if_pos e, if_pos e, if_pos e]
      · rw [if_neg e, if_neg e, if_neg e]
theorem redn_ok {m k : Nat} {t : Tab α} (h : Shp m k t) : RInv m k k (redn k t).1 (redn k t).2 ∧ ∃ os : List (ROp α), okL m os ∧ (redn k t).1 = appL os t := by
  have key : ∀ c, c ≤ k → RInv m k c (redn c t).1 (redn c t).2 ∧ ∃ os : List (ROp α), okL m os ∧ (redn c t).1 = appL os t := fun c => by
    induction c with
    | zero => intro _; exact ⟨RInv.start h, [], okL_nil, rfl⟩
    | succ c ih =>
      intro hc
      obtain ⟨h1, os, o1, o2⟩ := ih (by omega)
      have e : redn (c + 1) t = rst (redn c t) c := by unfold redn; rw [List.range_succ, List.foldl_append]; rfl
      obtain ⟨g1, ps, p1, p2⟩ := rst_ok h1 (by omega : c < k)
      rw [e]
      exact ⟨g1, os ++ ps, okL_app o1 p1, by rw [appL_app, ← o2]; exact p2⟩
  exact key k (Nat.le_refl _)
end


/-! determinants of up to four rows: the sum over all sequences of columns -/
def ordS (turn : Nat) (found : List (List Nat × Int)) : List (List Nat × Int) := found.flatMap fun x => (List.range (turn + 1)).map fun at_ => (x.1.take at_ ++ [turn] ++ x.1.drop at_, if (turn - at_) % 2 = 0 then x.2 else -x.2)
def ords : Nat → List (List Nat × Int)
  | 0 => [([], 1)]
  | n + 1 => ordS n (ords n)
section
variable {α : Type} [Lean.Grind.Field α]
def prodO (f : Nat → Nat → α) : List Nat → Nat → α → α
  | [], _, acc => acc
  | c :: o, i, acc => prodO f o (i + 1) (acc * f i c)
def sgA (s : Int) : α := if s = 1 then 1 else -1
def detF (n : Nat) (f : Nat → Nat → α) : α := (ords n).foldl (fun acc x => acc + prodO f x.1 0 (sgA x.2)) 0
theorem ords_ok : ∀ n, n ≤ 4 → ∀ x ∈ ords n, (x.1.length = n ∧ ∀ c ∈ x.1, c < n) ∧ (x.2 = 1 ∨ x.2 = -1) := by
  intro n hn
  have : n = 0 ∨ n = 1 ∨ n = 2 ∨ n = 3 ∨ n = 4 := by omega
  rcases this with rfl | rfl | rfl | rfl | rfl <;> decide
theorem prodO_congr {f g : Nat → Nat → α} {n : Nat} (h : ∀ a b, a < n → b < n → f a b = g a b) : ∀ (o : List Nat) (i : Nat) (acc : α), i + o.length ≤ n → (∀ c ∈ o, c < n) → prodO f o i acc = prodO g o i acc
  | [], _, _, _, _ => rfl
  | c :: o, i, acc, hi, hc => by
    simp only [List.length_cons] at hi
    show prodO f o (i + 1) (acc * f i c) = prodO g o (i + 1) (acc * g i c)
    rw [h i c (by omega) (hc c (by simp)), prodO_congr h o (i + 1) _ (by omega) fun x hx => hc x (by simp [hx])]
theorem detF_congr {f g : Nat → Nat → α} {n : Nat} (hn : n ≤ 4) (h : ∀ a b, a < n → b < n → f a b = g a b) : detF n f = detF n g := by
  unfold detF
  have key : ∀ (l : List (List Nat × Int)) (acc : α), (∀ x ∈ l, x.1.length = n ∧ ∀ c ∈ x.1, c < n) → l.foldl (fun acc x => acc + prodO f x.1 0 (sgA x.2)) acc = l.foldl (fun acc x => acc + prodO g x.1 0 (sgA x.2)) acc := fun l => by
    induction l with
    | nil => intro acc _; rfl
    | cons x l ih =>
      intro acc hx
      rw [List.foldl_cons, List.foldl_cons, ih _ fun y hy => hx y (by simp [hy])]
      have := hx x (by simp)
      rw [prodO_congr h x.1 0 _ (by omega) this.2]
  exact key _ _ fun x hx => (ords_ok n hn x hx).1
theorem sgA_1 : sgA 1 = (1 : α) := rfl
theorem sgA_m : sgA (-1) = (-1 : α) := rfl
theorem det_0 (f : Nat → Nat → α) : detF 0 f = 0 + 1 := by
  show List.foldl _ 0 [([], 1)] = _
  simp only [List.foldl_cons, List.foldl_nil, prodO, sgA_1, sgA_m]
theorem det_1 (f : Nat → Nat → α) : detF 1 f = 0 + 1 * f 0 0 := by
  show List.foldl _ 0 [([0], 1)] = _
  simp only [List.foldl_cons, List.foldl_nil, prodO, sgA_1, sgA_m]
theorem det_2 (f : Nat → Nat → α) : detF 2 f = 0 + -1 * f 0 1 * f 1 0 + 1 * f 0 0 * f 1 1 := by
  show List.foldl _ 0 [([1, 0], -1), ([0, 1], 1)] = _
  simp only [List.foldl_cons, List.foldl_nil, prodO, sgA_1, sgA_m]
theorem det_3 (f : Nat → Nat → α) : detF 3 f = 0 + -1 * f 0 2 * f 1 1 * f 2 0 + 1 * f 0 1 * f 1 2 * f 2 0 + -1 * f 0 1 * f 1 0 * f 2 2 + 1 * f 0 2 * f 1 0 * f 2 1 + -1 * f 0 0 * f 1 2 * f 2 1 + 1 * f 0 0 * f 1 1 * f 2 2 := by
  show List.foldl _ 0 [([2, 1, 0], -1), ([1, 2, 0], 1), ([1, 0, 2], -1), ([2, 0, 1], 1), ([0, 2, 1], -1), ([0, 1, 2], 1)] = _
  simp only [List.foldl_cons, List.foldl_nil, prodO, sgA_1, sgA_m]
theorem det_4 (f : Nat → Nat → α) : detF 4 f = 0 + 1 * f 0 3 * f 1 2 * f 2 1 * f 3 0 + -1 * f 0 2 * f 1 3 * f 2 1 * f 3 0 + 1 * f 0 2 * f 1 1 * f 2 3 * f 3 0 + -1 * f 0 2 * f 1 1 * f 2 0 * f 3 3 + -1 * f 0 3 * f 1 1 * f 2 2 * f 3 0 + 1 * f 0 1 * f 1 3 * f 2 2 * f 3 0 + -1 * f 0 1 * f 1 2 * f 2 3 * f 3 0 + 1 * f 0 1 * f 1 2 * f 2 0 * f 3 3 + 1 * f 0 3 * f 1 1 * f 2 0 * f 3 2 + -1 * f 0 1 * f 1 3 * f 2 0 * f 3 2 + 1 * f 0 1 * f 1 0 * f 2 3 * f 3 2 + -1 * f 0 1 * f 1 0 * f 2 2 * f 3 3 + -1 * f 0 3 * f 1 2 * f 2 0 * f 3 1 + 1 * f 0 2 * f 1 3 * f 2 0 * f 3 1 + -1 * f 0 2 * f 1 0 * f 2 3 * f 3 1 + 1 * f 0 2 * f 1 0 * f 2 1 * f 3 3 + 1 * f 0 3 * f 1 0 * f 2 2 * f 3 1 + -1 * f 0 0 * f 1 3 * f 2 2 * f 3 1 + 1 * f 0 0 * f 1 2 * f 2 3 * f 3 1 + -1 * f 0 0 * f 1 2 * f 2 1 * f 3 3 + -1 * f 0 3 * f 1 0 * f 2 1 * f 3 2 + 1 * f 0 0 * f 1 3 * f 2 1 * f 3 2 + -1 * f 0 0 * f 1 1 * f 2 3 * f 3 2 + 1 * f 0 0 * f 1 1 * f 2 2 * f 3 3 := by
  show List.foldl _ 0 [([3, 2, 1, 0], 1), ([2, 3, 1, 0], -1), ([2, 1, 3, 0], 1), ([2, 1, 0, 3], -1), ([3, 1, 2, 0], -1), ([1, 3, 2, 0], 1), ([1, 2, 3, 0], -1), ([1, 2, 0, 3], 1), ([3, 1, 0, 2], 1), ([1, 3, 0, 2], -1), ([1, 0, 3, 2], 1), ([1, 0, 2, 3], -1), ([3, 2, 0, 1], -1), ([2, 3, 0, 1], 1), ([2, 0, 3, 1], -1), ([2, 0, 1, 3], 1), ([3, 0, 2, 1], 1), ([0, 3, 2, 1], -1), ([0, 2, 3, 1], 1), ([0, 2, 1, 3], -1), ([3, 0, 1, 2], -1), ([0, 3, 1, 2], 1), ([0, 1, 3, 2], -1), ([0, 1, 2, 3], 1)] = _
  simp only [List.foldl_cons, List.foldl_nil, prodO, sgA_1, sgA_m]
theorem upto4 {n : Nat} (h : n ≤ 4) : n = 0 ∨ n = 1 ∨ n = 2 ∨ n = 3 ∨ n = 4 := by omega
theorem detF_uni {n : Nat} (hn : n ≤ 4) : detF n (fun a b => if a = b then (1 : α) else 0) = 1 := by
  rcases upto4 hn with rfl | rfl | rfl | rfl | rfl
  · rw [det_0]; grind
  · rw [det_1]; simp; grind
  · rw [det_2]; simp; grind
  · rw [det_3]; simp; grind
  · rw [det_4]; simp; grind
theorem detF_trn {n : Nat} (hn : n ≤ 4) (f : Nat → Nat → α) : detF n (fun a b => f b a) = detF n f := by
  rcases upto4 hn with rfl | rfl | rfl | rfl | rfl
  · rw [det_0, det_0]
  · rw [det_1, det_1]
  · rw [det_2, det_2]; grind
  · rw [det_3, det_3]; grind
  · rw [det_4, det_4]; grind
theorem detF_zrow {n : Nat} (hn : n ≤ 4) (h0 : 0 < n) (f : Nat → Nat → α) (h : ∀ b, b < n → f (n - 1) b = 0) : detF n f = 0 := by
  rcases upto4 hn with rfl | rfl | rfl | rfl | rfl
  · omega
  · rw [det_1, h 0 (by decide)]; grind
  · rw [det_2]; have a := h 0 (by decide); have b := h 1 (by decide); grind
  · rw [det_3]; have a := h 0 (by decide); have b := h 1 (by decide); have c := h 2 (by decide); grind
  · rw [det_4]; have a := h 0 (by decide); have b := h 1 (by decide); have c := h 2 (by decide); have d := h 3 (by decide); grind
theorem detF_sw {n i j : Nat} (hn : n ≤ 4) (hi : i < n) (hj : j < n) (hij : i ≠ j) (c : α) (f : Nat → Nat → α) : detF n (fun a b => f (if a = j then i else if a = i then j else a) b) = -1 * detF n f := by
  rcases upto4 hn with rfl | rfl | rfl | rfl | rfl
  · omega
  · have ci : i = 0 := by omega
    have cj : j = 0 := by omega
    rw [det_1, det_1]
    rcases ci with rfl <;> rcases cj with rfl <;> first | (exfalso; omega) | (simp; grind) | (simp; grind)
  · have ci : i = 0 ∨ i = 1 := by omega
    have cj : j = 0 ∨ j = 1 := by omega
    rw [det_2, det_2]
    rcases ci with rfl | rfl <;> rcases cj with rfl | rfl <;> first | (exfalso; omega) | (simp; grind) | (simp; grind)
  · have ci : i = 0 ∨ i = 1 ∨ i = 2 := by omega
    have cj : j = 0 ∨ j = 1 ∨ j = 2 := by omega
    rw [det_3, det_3]
    rcases ci with rfl | rfl | rfl <;> rcases cj with rfl | rfl | rfl <;> first | (exfalso; omega) | (simp; grind) | (simp; grind)
  · have ci : i = 0 ∨ i = 1 ∨ i = 2 ∨ i = 3 := by omega
    have cj : j = 0 ∨ j = 1 ∨ j = 2 ∨ j = 3 := by omega
    rw [det_4, det_4]
    rcases ci with rfl | rfl | rfl | rfl <;> rcases cj with rfl | rfl | rfl | rfl <;> first | (exfalso; omega) | (simp; grind) | (simp; grind)
theorem detF_sc {n i j : Nat} (hn : n ≤ 4) (hi : i < n) (c : α) (f : Nat → Nat → α) : detF n (fun a b => if a = i then c * f i b else f a b) = c * detF n f := by
  rcases upto4 hn with rfl | rfl | rfl | rfl | rfl
  · omega
  · have ci : i = 0 := by omega
    rw [det_1, det_1]
    rcases ci with rfl <;> (simp; grind)
  · have ci : i = 0 ∨ i = 1 := by omega
    rw [det_2, det_2]
    rcases ci with rfl | rfl <;> (simp; grind)
  · have ci : i = 0 ∨ i = 1 ∨ i = 2 := by omega
    rw [det_3, det_3]
    rcases ci with rfl | rfl | rfl <;> (simp; grind)
  · have ci : i = 0 ∨ i = 1 ∨ i = 2 ∨ i = 3 := by omega
    rw [det_4, det_4]
    rcases ci with rfl | rfl | rfl | rfl <;> (simp; grind)
theorem detF_ad {n i j : Nat} (hn : n ≤ 4) (hi : i < n) (hj : j < n) (hij : i ≠ j) (c : α) (f : Nat → Nat → α) : detF n (fun a b => if a = i then f i b - c * f j b else f a b) = detF n f := by
  rcases upto4 hn with rfl | rfl | rfl | rfl | rfl
  · omega
  · have ci : i = 0 := by omega
    have cj : j = 0 := by omega
    rw [det_1, det_1]
    rcases ci with rfl <;> rcases cj with rfl <;> first | (exfalso; omega) | (simp; grind) | (simp; grind)
  · have ci : i = 0 ∨ i = 1 := by omega
    have cj : j = 0 ∨ j = 1 := by omega
    rw [det_2, det_2]
    rcases ci with rfl | rfl <;> rcases cj with rfl | rfl <;> first | (exfalso; omega) | (simp; grind) | (simp; grind)
  · have ci : i = 0 ∨ i = 1 ∨ i = 2 := by omega
    have cj : j = 0 ∨ j = 1 ∨ j = 2 := by omega
    rw [det_3, det_3]
    rcases ci with rfl | rfl | rfl <;> rcases cj with rfl | rfl | rfl <;> first | (exfalso; omega) | (simp; grind) | (simp; grind)
  · have ci : i = 0 ∨ i = 1 ∨ i = 2 ∨ i = 3 := by omega
    have cj : j = 0 ∨ j = 1 ∨ j = 2 ∨ j = 3 := by omega
    rw [det_4, det_4]
    rcases ci with rfl | rfl | rfl | rfl <;> rcases cj with rfl | rfl | rfl | rfl <;> first | (exfalso; omega) | (simp; grind) | (simp; grind)
end


/-! determinants under row operations; tables undone -/
section
variable {α : Type} [Lean.Grind.Field α]
theorem det_app {n : Nat} (hn : n ≤ 4) {t : Tab α} {o : ROp α} (h : Shp n n t) (ho : o.ok n) : detF n (ent (o.app t)) = o.fac * detF n (ent t) := by
  cases o with
  | sw i j =>
    rw [show (ROp.sw i j : ROp α).fac = -1 from rfl, ← detF_sw hn ho.1 ho.2.1 ho.2.2 1 (ent t)]
    exact detF_congr hn fun a b _ _ => ent_sw h ho.1 ho.2.1
  | sc i c =>
    rw [show (ROp.sc i c).fac = c from rfl, ← detF_sc (j := 0) hn ho.1 c (ent t)]
    exact detF_congr hn fun a b _ hb => ent_sc h ho.1 hb
  | ad i j c =>
    rw [show (ROp.ad i j c).fac = 1 from rfl]
    have := detF_ad hn ho.1 ho.2.1 ho.2.2 c (ent t)
    rw [detF_congr hn (g := fun a b => if a = i then ent t i b - c * ent t j b else ent t a b) fun a b _ hb => ent_ad h ho.1 ho.2.1 hb, this]
    grind
theorem det_appL {n : Nat} (hn : n ≤ 4) : ∀ {os : List (ROp α)} {t : Tab α}, Shp n n t → okL n os → detF n (ent (appL os t)) = facL os * detF n (ent t)
  | [], t, _, _ => by show detF n (ent t) = 1 * detF n (ent t); grind
  | o :: os, t, h, ho => by
    show detF n (ent (appL os (o.app t))) = o.fac * facL os * detF n (ent t)
    rw [det_appL hn (app_shp h (ho o (by simp))) fun x hx => ho x (by simp [hx]), det_app hn h (ho o (by simp))]
    grind
theorem piv_gap {l : List Nat} (h : l.Pairwise (· < ·)) : ∀ (d i : Nat), i + d < l.length → l.getD i 0 + d ≤ l.getD (i + d) 0
  | 0, i, _ => by simp
  | d + 1, i, hi => by
    have h1 := piv_gap h d i (by omega)
    have h2 : l.getD (i + d) 0 < l.getD (i + (d + 1)) 0 := by
      rw [List.getD_eq_getElem?_getD, List.getD_eq_getElem?_getD, List.getElem?_eq_getElem (by omega : i + d < l.length), List.getElem?_eq_getElem (by omega : i + (d + 1) < l.length)]
      exact List.pairwise_iff_getElem.mp h _ _ (by omega) (by omega) (by omega)
    omega
/-- either each of the first n columns has a pivot, or the last row is zero there -/
theorem rref_last {n k : Nat} {rows : Tab α} {piv : List Nat} (h : RInv n k k rows piv) (hk : n ≤ k) : piv = List.range n ∨ (0 < n ∧ ∀ b, b < n → ent rows (n - 1) b = 0) := by
  by_cases h0 : n = 0
  · left
    have := h.le
    rw [h0, List.length_eq_zero_iff.mp (by omega : piv.length = 0)]
    rfl
  by_cases hl : n - 1 < piv.length
  · have len : piv.length = n := by have := h.le; omega
    by_cases hp : piv.getD (n - 1) 0 < n
    · left
      refine List.ext_getElem (by rw [List.length_range, len]) fun i h1 h2 => ?_
      have a := piv_gap h.srt (n - 1 - i) i (by omega)
      have b := piv_gap h.srt i 0 (by omega)
      rw [show i + (n - 1 - i) = n - 1 by omega] at a
      rw [Nat.zero_add] at b
      have e : piv.getD i 0 = piv[i] := by rw [List.getD_eq_getElem?_getD, List.getElem?_eq_getElem h1]; rfl
      rw [List.getElem_range]
      omega
    · right
      exact ⟨by omega, fun b hb => h.left (n - 1) hl b (by omega)⟩
  · right
    exact ⟨by omega, fun b hb => h.rest (n - 1) (by omega) (by omega) b (by omega)⟩
theorem range_getD {n i : Nat} (h : i < n) : (List.range n).getD i 0 = i := getD_range h
theorem rref_unit {n k : Nat} {rows : Tab α} (h : RInv n k k rows (List.range n)) : ∀ a b, a < n → b < n → ent rows a b = if a = b then 1 else 0 := fun a b ha hb => by
  have hl : (List.range n).length = n := List.length_range
  by_cases e : a = b
  · rw [if_pos e, e]
    have := h.one b (by omega)
    rw [range_getD hb] at this
    exact this
  · rw [if_neg e]
    have := h.zer b (by omega) a ha e
    rw [range_getD hb] at this
    exact this
variable [DecidableEq α]
theorem det_mul {n : Nat} (hn : n ≤ 4) {s t : Tab α} (hs : Shp n n s) (ht : Shp n n t) : detF n (ent (mulT n s t)) = detF n (ent s) * detF n (ent t) := by
  obtain ⟨R, os, o1, o2⟩ := redn_ok hs
  have f1 := det_appL hn hs o1
  have f2 := det_appL hn (hs.mul ht) o1
  rw [appL_mul hs ht o1, ← o2] at f2
  rw [← o2] at f1
  have fn := facL_ne o1
  rcases rref_last R (Nat.le_refl _) with e | ⟨h0, hz⟩
  · rw [e] at R
    have u := rref_unit R
    have e1 : (redn n s).1 = uniT n := tab_ext R.shp (Shp.uni n) fun a b ha hb => by rw [u a b ha hb, ent_uni ha hb]
    rw [e1, uni_mulT ht] at f2
    rw [e1, detF_congr hn (g := fun a b => if a = b then 1 else 0) fun a b ha hb => ent_uni ha hb, detF_uni hn] at f1
    grind
  · rw [detF_zrow hn h0 _ hz] at f1
    rw [detF_zrow hn h0 _ fun b hb => by
      rw [ent_mul R.shp ht (by omega) hb, fsum_congr (g := fun _ => 0) fun l hl => by rw [hz l hl]; grind, fsum_zero]] at f2
    grind
/-- table and units side by side -/
def wideT (n : Nat) (t : Tab α) : Tab α := List.zipWith (· ++ ·) t (uniT n)
theorem wide_shp {n : Nat} {t : Tab α} (h : Shp n n t) : Shp n (2 * n) (wideT n t) ∧ ∀ a b, a < n → b < 2 * n → ent (wideT n t) a b = if b < n then ent t a b else if a = b - n then 1 else 0 := by
  have r := h.rows
  have u := (Shp.uni n : Shp n n (uniT n : Tab α))
  have ur := u.rows
  have row : ∀ a, a < n → (wideT n t).getD a [] = t.getD a [] ++ (uniT n).getD a [] := fun a ha => by
    unfold wideT
    rw [List.getD_eq_getElem?_getD, List.getD_eq_getElem?_getD, List.getD_eq_getElem?_getD, List.getElem?_zipWith, List.getElem?_eq_getElem (by omega), List.getElem?_eq_getElem (by omega)]
    rfl
  refine ⟨⟨by unfold wideT; rw [List.length_zipWith]; omega, fun q hq => ?_⟩, fun a b ha hb => ?_⟩
  · obtain ⟨a, ha, e⟩ := List.getElem_of_mem hq
    have la : a < n := by unfold wideT at ha; rw [List.length_zipWith] at ha; omega
    have := row a la
    rw [List.getD_eq_getElem?_getD, List.getElem?_eq_getElem ha] at this
    have this : (wideT n t)[a] = _ := this
    rw [← e, this, List.length_append, row_of h la, row_of u la]
    omega
  · unfold ent
    rw [row a ha, List.getD_eq_getElem?_getD]
    by_cases e : b < n
    · rw [if_pos e, List.getElem?_append_left (by rw [row_of h ha]; exact e), ← List.getD_eq_getElem?_getD]
    · rw [if_neg e, List.getElem?_append_right (by rw [row_of h ha]; omega), row_of h ha, ← List.getD_eq_getElem?_getD]
      exact ent_uni ha (by omega)
def undT (n : Nat) (t : Tab α) : Option (Tab α) := if (redn (2 * n) (wideT n t)).2 = List.range n then some ((redn (2 * n) (wideT n t)).1.map (·.drop n)) else none
theorem drop_shp {n : Nat} {t : Tab α} (h : Shp n (2 * n) t) : Shp n n (t.map (·.drop n)) ∧ ∀ a b, a < n → b < n → ent (t.map (·.drop n)) a b = ent t a (n + b) := by
  refine ⟨⟨by rw [List.length_map]; exact h.rows, fun q hq => ?_⟩, fun a b ha hb => ?_⟩
  · obtain ⟨r, hr, rfl⟩ := List.mem_map.mp hq
    rw [List.length_drop, h.cols r hr]
    omega
  · unfold ent
    rw [getD_map _ _ _ [] _ (by rw [h.rows]; exact ha), List.getD_eq_getElem?_getD, List.getElem?_drop, ← List.getD_eq_getElem?_getD]
theorem und_ok {n : Nat} (hn : n ≤ 4) {t : Tab α} (h : Shp n n t) : match undT n t with
    | some u => Shp n n u ∧ mulT n t u = uniT n ∧ mulT n u t = uniT n ∧ detF n (ent t) ≠ 0
    | none => detF n (ent t) = 0 := by
  obtain ⟨w1, w2⟩ := wide_shp h
  obtain ⟨R, os, o1, o2⟩ := redn_ok w1
  have un := (Shp.uni n : Shp n n (uniT n : Tab α))
  have sP : Shp n n (appL os (uniT n : Tab α)) := appL_shp un o1
  have e2 : (redn (2 * n) (wideT n t)).1 = mulT (2 * n) (appL os (uniT n)) (wideT n t) := by rw [o2]; exact appL_P w1 o1
  have lft : ∀ a b, a < n → b < n → ent (redn (2 * n) (wideT n t)).1 a b = ent (mulT n (appL os (uniT n)) t) a b := fun a b ha hb => by
    rw [e2, ent_mul sP w1 ha (by omega), ent_mul sP h ha hb]
    exact fsum_congr fun l hl => by rw [w2 l b hl (by omega), if_pos hb]
  have rgt : ∀ a b, a < n → b < n → ent (redn (2 * n) (wideT n t)).1 a (n + b) = ent (appL os (uniT n : Tab α)) a b := fun a b ha hb => by
    have m1 := mul_uniT sP
    rw [e2, ent_mul sP w1 ha (by omega)]
    conv => rhs; rw [← m1, ent_mul sP un ha hb]
    exact fsum_congr fun l hl => by rw [w2 l (n + b) hl (by omega), if_neg (by omega), ent_uni hl hb, show n + b - n = b by omega]
  have eA : appL os t = mulT n (appL os (uniT n)) t := appL_P h o1
  have fd := det_appL hn h o1
  have fn := facL_ne o1
  unfold undT
  rcases rref_last R (by omega) with e | ⟨h0, hz⟩
  · rw [if_pos e]
    rw [e] at R
    have u := rref_unit R
    obtain ⟨d1, d2⟩ := drop_shp R.shp
    have eP : (redn (2 * n) (wideT n t)).1.map (·.drop n) = appL os (uniT n) := tab_ext d1 sP fun a b ha hb => by rw [d2 a b ha hb, rgt a b ha hb]
    have PA : mulT n (appL os (uniT n)) t = uniT n := tab_ext (sP.mul h) un fun a b ha hb => by rw [← lft a b ha hb, u a b ha hb, ent_uni ha hb]
    have sQ : Shp n n (appL (invL os) (uniT n : Tab α)) := appL_shp un (invL_ok o1)
    have QP := appL_PQ (α := α) o1
    have AQ : t = appL (invL os) (uniT n) := by
      have := mul_assocT sQ sP h
      rw [QP, PA, uni_mulT h, mul_uniT sQ] at this
      exact this
    show Shp n n ((redn (2 * n) (wideT n t)).1.map (·.drop n)) ∧ _
    rw [eP]
    refine ⟨sP, by rw [AQ]; exact QP, PA, fun z => ?_⟩
    rw [z, eA, PA, detF_congr hn (g := fun a b => if a = b then 1 else 0) fun a b ha hb => ent_uni ha hb, detF_uni hn] at fd
    grind
  · have hne : (redn (2 * n) (wideT n t)).2 ≠ List.range n := fun e => by
      rw [e] at R
      have := rref_unit R (n - 1) (n - 1) (by omega) (by omega)
      rw [hz (n - 1) (by omega), if_pos rfl] at this
      grind
    rw [if_neg hne]
    show detF n (ent t) = 0
    rw [eA, detF_congr hn (g := ent (redn (2 * n) (wideT n t)).1) fun a b ha hb => (lft a b ha hb).symm, detF_zrow hn h0 _ hz] at fd
    grind
end


/-! the determinant, the program's way -/
section
variable {α : Type} [Lean.Grind.Field α]
def diagP : Nat → (Nat → Nat → α) → α
  | 0, _ => 1
  | c + 1, f => diagP c f * f c c
theorem diagP_congr {f g : Nat → Nat → α} : ∀ {c : Nat}, (∀ i, i < c → f i i = g i i) → diagP c f = diagP c g
  | 0, _ => rfl
  | c + 1, h => by
    show diagP c f * f c c = diagP c g * g c c
    rw [diagP_congr fun i hi => h i (by omega), h c (by omega)]
theorem detF_tri {n : Nat} (hn : n ≤ 4) {f : Nat → Nat → α} (h : ∀ a b, b < a → a < n → f a b = 0) : detF n f = diagP n f := by
  rcases upto4 hn with rfl | rfl | rfl | rfl | rfl
  · rw [det_0]; simp only [diagP]; grind
  · rw [det_1]; simp only [diagP]; grind
  · rw [det_2]; simp only [diagP]; have := h 1 0 (by omega) (by omega); grind
  · rw [det_3]; simp only [diagP]; rw [h 1 0 (by omega) (by omega), h 2 0 (by omega) (by omega), h 2 1 (by omega) (by omega)]; grind
  · rw [det_4]; simp only [diagP]; rw [h 1 0 (by omega) (by omega), h 2 0 (by omega) (by omega), h 2 1 (by omega) (by omega), h 3 0 (by omega) (by omega), h 3 1 (by omega) (by omega), h 3 2 (by omega) (by omega)]; grind
theorem detF_sing {n c : Nat} (hn : n ≤ 4) (hc : c < n) {f : Nat → Nat → α} (h : ∀ a b, b < c → b < a → a < n → f a b = 0) (hz : ∀ a, c ≤ a → a < n → f a c = 0) : detF n f = 0 := by
  rcases upto4 hn with rfl | rfl | rfl | rfl | rfl
  · omega
  · have c0 : c = 0 := by omega
    subst c0
    rw [det_1, hz 0 (by omega) (by omega)]; grind
  · have cc : c = 0 ∨ c = 1 := by omega
    rw [det_2]
    rcases cc with rfl | rfl
    · rw [hz 0 (by omega) (by omega), hz 1 (by omega) (by omega)]; grind
    · rw [hz 1 (by omega) (by omega), h 1 0 (by omega) (by omega) (by omega)]; grind
  · have cc : c = 0 ∨ c = 1 ∨ c = 2 := by omega
    rw [det_3]
    rcases cc with rfl | rfl | rfl
    · rw [hz 0 (by omega) (by omega), hz 1 (by omega) (by omega), hz 2 (by omega) (by omega)]; grind
    · rw [hz 1 (by omega) (by omega), hz 2 (by omega) (by omega), h 1 0 (by omega) (by omega) (by omega), h 2 0 (by omega) (by omega) (by omega)]; grind
    · rw [hz 2 (by omega) (by omega), h 1 0 (by omega) (by omega) (by omega), h 2 0 (by omega) (by omega) (by omega), h 2 1 (by omega) (by omega) (by omega)]; grind
  · have cc : c = 0 ∨ c = 1 ∨ c = 2 ∨ c = 3 := by omega
    rw [det_4]
    rcases cc with rfl | rfl | rfl | rfl
    · rw [hz 0 (by omega) (by omega), hz 1 (by omega) (by omega), hz 2 (by omega) (by omega), hz 3 (by omega) (by omega)]; grind
    · rw [hz 1 (by omega) (by omega), hz 2 (by omega) (by omega), hz 3 (by omega) (by omega), h 1 0 (by omega) (by omega) (by omega), h 2 0 (by omega) (by omega) (by omega), h 3 0 (by omega) (by omega) (by omega)]; grind
    · rw [hz 2 (by omega) (by omega), hz 3 (by omega) (by omega), h 1 0 (by omega) (by omega) (by omega), h 2 0 (by omega) (by omega) (by omega), h 3 0 (by omega) (by omega) (by omega), h 2 1 (by omega) (by omega) (by omega), h 3 1 (by omega) (by omega) (by omega)]; grind
    · rw [hz 3 (by omega) (by omega), h 1 0 (by omega) (by omega) (by omega), h 2 0 (by omega) (by omega) (by omega), h 3 0 (by omega) (by omega) (by omega), h 2 1 (by omega) (by omega) (by omega), h 3 1 (by omega) (by omega) (by omega), h 3 2 (by omega) (by omega) (by omega)]; grind
def dwp (c : Nat) (top : List α) (inv : α) (rows : Tab α) (k : Nat) : Tab α := rows.set k (lessR (rows.getD k []) (ent rows k c * inv) top)
def dsw (rows : Tab α) (c k0 : Nat) : Tab α := (rows.set k0 (rows.getD c [])).set c (rows.getD k0 [])
def dst (rows : Tab α) (c k0 : Nat) : Tab α := ((List.range rows.length).filter fun k => decide (c + 1 ≤ k)).foldl (dwp c (rows.getD k0 []) (ent rows k0 c)⁻¹) (dsw rows c k0)
theorem dwp_fold {n k c : Nat} {top : List α} {inv : α} (hn : n ≤ 4) (hk : k = n) (ht : top.length = k) (hc : c < n) : ∀ (l : List Nat) (rows : Tab α), Shp n k rows → (∀ x ∈ l, x < n ∧ c < x) → l.Nodup → rows.getD c [] = top →
    Shp n k (l.foldl (dwp c top inv) rows) ∧ detF n (ent (l.foldl (dwp c top inv) rows)) = detF n (ent rows) ∧
      ∀ a b, b < k → ent (l.foldl (dwp c top inv) rows) a b = if a ∈ l then ent rows a b - ent rows a c * inv * top.getD b 0 else ent rows a b
  | [], rows, h, _, _, _ => ⟨h, rfl, fun a b _ => by rw [if_neg (by simp)]; rfl⟩
  | x :: l, rows, h, hl, hd, htop => by
    obtain ⟨hd1, hd2⟩ := List.nodup_cons.mp hd
    obtain ⟨hx, hcx⟩ := hl x (by simp)
    have r := h.rows
    rw [List.foldl_cons]
    have e : dwp c top inv rows x = (ROp.ad x c (ent rows x c * inv)).app rows := by
      show rows.set x (lessR (rows.getD x []) (ent rows x c * inv) top) = rows.set x (lessR (rows.getD x []) (ent rows x c * inv) (rows.getD c []))
      rw [htop]
    have ok1 : (ROp.ad x c (ent rows x c * inv)).ok n := ⟨hx, hc, by omega⟩
    have h1 := app_shp h ok1
    have t1 : ((ROp.ad x c (ent rows x c * inv)).app rows).getD c [] = top := by
      show (rows.set x _).getD c [] = top
      rw [getD_set (by omega), if_neg (by omega)]
      exact htop
    have d1 : detF n (ent ((ROp.ad x c (ent rows x c * inv)).app rows)) = detF n (ent rows) := by
      rw [det_app hn (by rw [← hk]; rw [hk]; rw [hk] at h; exact h) ok1]
      show 1 * _ = _
      grind
    obtain ⟨o2, o3, o4⟩ := dwp_fold (inv := inv) hn hk ht hc l _ h1 (fun y hy => hl y (by simp [hy])) hd2 t1
    rw [e]
    refine ⟨o2, by rw [o3, d1], fun a b hb => ?_⟩
    rw [o4 a b hb, ent_ad h hx hc hb, ent_ad h hx hc (by omega : c < k)]
    have tb : ent rows c b = top.getD b 0 := by unfold ent; rw [htop]
    by_cases q : a = x
    · subst q
      rw [if_neg hd1, if_pos rfl, if_pos (by simp), tb]
    · rw [if_neg q, if_neg q]
      by_cases w : a ∈ l
      · rw [if_pos w, if_pos (by simp [w])]
      · rw [if_neg w, if_neg (by simp [q, w])]
theorem less_inv {x y : α} (h : y ≠ 0) : x - x * y⁻¹ * y = 0 := by grind
theorem less_zero {x y : α} : 0 - x * y * 0 = 0 := by grind
structure Low (n c : Nat) (rows : Tab α) : Prop where
  shp : Shp n n rows
  low : ∀ a b, b < c → b < a → a < n → ent rows a b = 0
theorem dsw_ok {n c k0 : Nat} {rows : Tab α} (hn : n ≤ 4) (h : Shp n n rows) (hc : c < n) (hk : k0 < n) : Shp n n (dsw rows c k0) ∧ (∀ a b, ent (dsw rows c k0) a b = if a = c then ent rows k0 b else if a = k0 then ent rows c b else ent rows a b) ∧ detF n (ent (dsw rows c k0)) = if k0 = c then detF n (ent rows) else -detF n (ent rows) := by
  have r := h.rows
  have es : ∀ a b, ent (dsw rows c k0) a b = if a = c then ent rows k0 b else if a = k0 then ent rows c b else ent rows a b := fun a b => by
    unfold dsw ent
    rw [getD_set (by rw [List.length_set]; omega)]
    by_cases e : a = c
    · rw [if_pos e, if_pos e]
    · rw [if_neg e, if_neg e, getD_set (by omega)]
      by_cases f : a = k0
      · rw [if_pos f, if_pos f]
      · rw [if_neg f, if_neg f]
  refine ⟨set_shp (set_shp h (row_of h hc)) (row_of h hk), es, ?_⟩
  by_cases e : k0 = c
  · rw [if_pos e]
    refine detF_congr hn fun a b _ _ => ?_
    rw [es]
    split
    · rename_i q; rw [q, e]
    · split
      · rename_i q; rw [q, e]
      · rfl
  · rw [if_neg e, detF_congr hn (g := fun a b => ent rows (if a = k0 then c else if a = c then k0 else a) b) fun a b _ _ => ?_, detF_sw hn hc hk (fun q => e q.symm) 1]
    · grind
    · rw [es]
      by_cases f : a = c
      · rw [if_pos f, if_neg (by omega), if_pos f]
      · rw [if_neg f]
        by_cases g : a = k0
        · rw [if_pos g, if_pos g]
        · rw [if_neg g, if_neg g, if_neg f]
theorem dst_ok {n c k0 : Nat} {rows : Tab α} (hn : n ≤ 4) (h : Low n c rows) (hc : c < n) (hk : k0 < n) (hck : c ≤ k0) (hne : ent rows k0 c ≠ 0) :
    Low n (c + 1) (dst rows c k0) ∧ detF n (ent (dst rows c k0)) = (if k0 = c then detF n (ent rows) else -detF n (ent rows)) ∧ diagP (c + 1) (ent (dst rows c k0)) = diagP c (ent rows) * ent rows k0 c := by
  have r := h.shp.rows
  obtain ⟨s1, s2, s3⟩ := dsw_ok hn h.shp hc hk
  have top : (dsw rows c k0).getD c [] = rows.getD k0 [] := by unfold dsw; rw [getD_set (by rw [List.length_set]; omega), if_pos rfl]
  have ml : ∀ x, x ∈ ((List.range rows.length).filter fun k => decide (c + 1 ≤ k)) ↔ x < n ∧ c < x := fun x => by
    rw [List.mem_filter, List.mem_range, decide_eq_true_eq]; omega
  obtain ⟨o2, o3, o4⟩ := dwp_fold (inv := (ent rows k0 c)⁻¹) hn rfl (row_of h.shp hk) hc _ _ s1 (fun x hx => (ml x).mp hx) (List.nodup_range.filter _) top
  have tb : ∀ b, (rows.getD k0 []).getD b 0 = ent rows k0 b := fun b => rfl
  refine ⟨⟨o2, fun a b hb ha han => ?_⟩, by unfold dst; rw [o3, s3], ?_⟩
  · unfold dst
    rw [o4 a b (by omega), tb]
    by_cases q : c < a
    · have sa : ∀ b, ent (dsw rows c k0) a b = if a = k0 then ent rows c b else ent rows a b := fun b => by rw [s2, if_neg (by omega)]
      rw [if_pos ((ml a).mpr ⟨han, q⟩)]
      by_cases z : b = c
      · subst z
        exact less_inv hne
      · rw [sa b, h.low k0 b (by omega) (by omega) hk]
        have : (if a = k0 then ent rows c b else ent rows a b) = 0 := by
          by_cases y : a = k0
          · rw [if_pos y, h.low c b (by omega) (by omega) hc]
          · rw [if_neg y, h.low a b (by omega) ha han]
        rw [this]
        exact less_zero
    · rw [if_neg (fun w => q ((ml a).mp w).2), s2]
      by_cases y : a = c
      · rw [if_pos y]
        exact h.low k0 b (by omega) (by omega) hk
      · rw [if_neg y, if_neg (by omega)]
        exact h.low a b (by omega) ha han
  · unfold dst
    show diagP c _ * _ = _
    rw [o4 c c hc, if_neg (fun w => by have := ((ml c).mp w).2; omega), s2, if_pos rfl]
    rw [diagP_congr (g := ent rows) fun i hi => ?_]
    rw [o4 i i (by omega), if_neg (fun w => by have := ((ml i).mp w).2; omega), s2, if_neg (by omega), if_neg (by omega)]
variable [DecidableEq α]
def detL : Nat → Nat → Tab α → α → α
  | 0, _, _, f => f
  | n + 1, c, rows, f => match fnd rows c c with
    | [] => 0
    | k0 :: _ => detL n (c + 1) (dst rows c k0) (f * if k0 = c then ent rows k0 c else -ent rows k0 c)
theorem detL_ok {n : Nat} (hn : n ≤ 4) {x : α} : ∀ (m c : Nat) (rows : Tab α) (f : α), c + m = n → Low n c rows → diagP c (ent rows) ≠ 0 → x * diagP c (ent rows) = f * detF n (ent rows) → detL m c rows f = x
  | 0, c, rows, f, e, h, hp, hx => by
    have e : c = n := by omega
    subst e
    rw [detF_tri hn fun a b hb ha => h.low a b (by omega) hb ha] at hx
    show f = x
    grind
  | m + 1, c, rows, f, e, h, hp, hx => by
    have r := h.shp.rows
    unfold detL
    cases q : fnd rows c c with
    | nil =>
      simp only [q]
      rw [detF_sing hn (by omega) h.low fun a h1 h2 => Classical.byContradiction fun z => ?_] at hx
      · grind
      · have : a ∈ fnd rows c c := mem_fnd.mpr ⟨⟨by omega, h1⟩, z⟩
        rw [q] at this
        cases this
    | cons k0 l =>
      simp only [q]
      obtain ⟨⟨m1, m2⟩, m3⟩ := mem_fnd.mp (show k0 ∈ fnd rows c c by rw [q]; simp)
      obtain ⟨g1, g2, g3⟩ := dst_ok hn h (by omega) (by omega) m2 m3
      refine detL_ok hn m (c + 1) _ _ (by omega) g1 ?_ ?_
      · rw [g3]
        grind
      · rw [g3, g2]
        by_cases w : k0 = c
        · rw [if_pos w, if_pos w]; grind
        · rw [if_neg w, if_neg w]; grind
theorem detL_top {n : Nat} (hn : n ≤ 4) {t : Tab α} (h : Shp n n t) : detL n 0 t 1 = detF n (ent t) :=
  detL_ok hn n 0 t 1 (by omega) ⟨h, fun a b hb => by omega⟩ (by show (1 : α) ≠ 0; exact fun z => Lean.Grind.Field.zero_ne_one (α := α) z.symm) (by show _ * 1 = 1 * _; grind)
end


/-! scalar_in of 0 and 1 -/
section
variable {p : Int} {α : Type} [Lean.Grind.Field α] [S : SF p α]
theorem enc01 : (p = 0 ∧ S.enc 0 = .tuple [.int 0, .int 1] ∧ S.enc 1 = .tuple [.int 1, .int 1]) ∨ (Pp p ∧ S.enc 0 = .int 0 ∧ S.enc 1 = .int 1) := by
  rcases S.kd with ⟨f, k⟩ | ⟨f, k⟩
  · exact .inl ⟨k.p0, by rw [k.en, k.zero]; rfl, by rw [k.en, k.one]; rfl⟩
  · exact .inr ⟨k.pp, by rw [k.en, k.zero], by rw [k.en, k.one]⟩
theorem one_mod {p : Int} (h : Pp p) : (1 : Int).fmod p = 1 := by rcases h with rfl | rfl | rfl | rfl | rfl | rfl <;> decide
theorem zero_mod {p : Int} (h : Pp p) : (0 : Int).fmod p = 0 := by rcases h with rfl | rfl | rfl | rfl | rfl | rfl <;> decide
theorem ev_scalar_in {k : Bool} {R : DV → Prop} {E : EK} (h : R (.d (S.enc (if k = true then 1 else 0)))) : m_scalar_in [.d (.int p), .d (.int (if k = true then 1 else 0))] R E := by
  rw [q_scalar_in]
  refine ⟨rfl, ?_⟩
  simp only [g_scalar_in]
  array_get_dec
  rcases enc01 (S := S) with ⟨rfl, e0, e1⟩ | ⟨pp, e0, e1⟩
  · refine ite_t rfl ?_
    cases k with
    | true => simp only [if_true] at h ⊢; rw [e1] at h; exact h
    | false => simp only [Bool.false_eq_true, if_false] at h ⊢; rw [e0] at h; exact h
  · have := pp.pos
    refine ite_f (decide_eq_false (by omega)) ⟨by omega, ?_⟩
    cases k with
    | true => simp only [if_true] at h ⊢; rw [e1] at h; rw [one_mod pp]; exact h
    | false => simp only [Bool.false_eq_true, if_false] at h ⊢; rw [e0] at h; rw [zero_mod pp]; exact h
theorem ev_scalar_in0 {R : DV → Prop} {E : EK} (h : R (.d (S.enc 0))) : m_scalar_in [.d (.int p), .d (.int 0)] R E := ev_scalar_in (S := S) (k := false) h
theorem ev_scalar_in1 {R : DV → Prop} {E : EK} (h : R (.d (S.enc 1))) : m_scalar_in [.d (.int p), .d (.int 1)] R E := ev_scalar_in (S := S) (k := true) h
end

local macro_rules | `(tactic| infer_instance) => `(tactic| refine ev_scalar_in  ?_)
local macro_rules | `(tactic| infer_instance) => `(tactic| refine ev_scalar_in0  ?_)
local macro_rules | `(tactic| infer_instance) => `(tactic| refine ev_scalar_in1  ?_)

/-! plus_in -/
theorem ev_plus_in {p : Int} {α : Type} [Lean.Grind.Field α] [S : SF p α] {b c : Nat} {x y : α} {R : DV → Prop} {E : EK} (hx : S.B b x) (hy : S.B c y) (hb : b ≤ 4000) (hc : c ≤ 4000) (h : R (.d (S.enc (x + y)))) : m_plus_in [.d (.int p), .d (S.enc x), .d (S.enc y)] R E := by
  rw [q_plus_in]
  refine ⟨rfl, ?_⟩
  rcases S.kd with ⟨f, k⟩ | ⟨f, k⟩
  · have p0 := k.p0
    subst p0
    obtain ⟨hn, hd⟩ := (k.bd b x).mp hx
    obtain ⟨hn2, hd2⟩ := (k.bd c y).mp hy
    rw [k.en, k.add] at h
    simp only [g_plus_in]
    rw [k.en, k.en]
    unfold fr
    array_get_dec
    refine ite_f (by decide) ?_
    refine ⟨hn.ok hd2 (by omega), hn2.ok hd (by omega), hd.ok hd2 (by omega), ev_fraction_in (dd_ne (f x) (f y)) (hd.mul hd2) (by omega) ?_⟩
    rw [← add_div]
    exact h
  · have hp := k.pp.pos
    rw [k.en, k.add] at h
    simp only [g_plus_in]
    rw [k.en, k.en]
    array_get_dec
    refine ite_t (decide_eq_true hp) ⟨by omega, ?_⟩
    rw [fmod_e (by omega)]
    exact h

local macro_rules | `(tactic| infer_instance) => `(tactic| refine ev_plus_in (by sizeOf_list_dec) (by sizeOf_list_dec) (by sizeOf_list_dec) (by sizeOf_list_dec) ?_)

/-! times_in -/
theorem ev_times_in {p : Int} {α : Type} [Lean.Grind.Field α] [S : SF p α] {b c : Nat} {x y : α} {R : DV → Prop} {E : EK} (hx : S.B b x) (hy : S.B c y) (hb : b ≤ 4000) (hc : c ≤ 4000) (h : R (.d (S.enc (x * y)))) : m_times_in [.d (.int p), .d (S.enc x), .d (S.enc y)] R E := by
  rw [q_times_in]
  refine ⟨rfl, ?_⟩
  rcases S.kd with ⟨f, k⟩ | ⟨f, k⟩
  · have p0 := k.p0
    subst p0
    obtain ⟨hn, hd⟩ := (k.bd b x).mp hx
    obtain ⟨hn2, hd2⟩ := (k.bd c y).mp hy
    rw [k.en, k.mul] at h
    simp only [g_times_in]
    rw [k.en, k.en]
    unfold fr
    array_get_dec
    refine ite_f (by decide) ?_
    refine ⟨hn.ok hn2 (by omega), hd.ok hd2 (by omega), ev_fraction_in (dd_ne (f x) (f y)) (hd.mul hd2) (by omega) ?_⟩
    rw [← mul_div]
    exact h
  · have hp := k.pp.pos
    have l13 := k.pp.le
    have r1 := k.rng x
    have r2 := k.rng y
    rw [k.en, k.mul] at h
    simp only [g_times_in]
    rw [k.en, k.en]
    array_get_dec
    refine ite_t (decide_eq_true hp) ⟨MB.ok (a := 4) (b := 4) (MB.of r1.1 (by omega)) (MB.of r2.1 (by omega)) (by decide), by omega, ?_⟩
    rw [fmod_e (by omega)]
    exact h

local macro_rules | `(tactic| infer_instance) => `(tactic| refine ev_times_in (by sizeOf_list_dec) (by sizeOf_list_dec) (by sizeOf_list_dec) (by sizeOf_list_dec) ?_)

/-! multiple_in -/
section
variable {p : Int} {α : Type} [Lean.Grind.Field α] [S : SF p α]
theorem ev_multiple_in {b c : Nat} {x : α} {r : List α} {v : PD} {R : DV → Prop} {E : EK} (hv : v = .tuple (r.map S.enc) ∨ v = .list (r.map S.enc)) (hx : S.B b x) (hr : VB c r) (hb : b ≤ 4000) (hc : c ≤ 4000) (hl : r.length ≤ 1000) (h : R (.d (.list ((r.map (x * ·)).map S.enc)))) :
    m_multiple_in [.d (.int p), .d (S.enc x), .d v] R E := by
  rw [q_multiple_in]
  refine ⟨rfl, ?_⟩
  simp only [g_multiple_in]
  have e : r.map (fun y => S.enc (x * y)) = (r.map (x * ·)).map S.enc := by rw [List.map_map]; rfl
  rcases hv with rfl | rfl
  all_goals
    array_get_dec
    refine ⟨by rw [List.length_map]; omega, lcD_all S.enc (fun y => S.enc (x * y)) (fun y hy P hP => ?_) ?_⟩
    · array_get_dec
      exact ev_times_in hx (hr y hy) hb hc hP
    · array_get_dec
      rw [e]
      exact h
end

local macro_rules | `(tactic| infer_instance) => `(tactic| refine ev_multiple_in (by sizeOf_list_dec) (by sizeOf_list_dec) (by sizeOf_list_dec) (by sizeOf_list_dec) (by sizeOf_list_dec) (by sizeOf_list_dec) ?_)

/-! units_in -/
section
variable {p : Int} {α : Type} [Lean.Grind.Field α] [S : SF p α]
theorem zipW_map {β γ δ : Type} (f : β → γ → δ) : ∀ (l : List β) (k : List γ), List.zipWith f l k = (l.zip k).map fun x => f x.1 x.2
  | [], _ => rfl
  | _ :: _, [] => rfl
  | a :: l, b :: k => by rw [List.zipWith_cons_cons, List.zip_cons_cons, List.map_cons, zipW_map f l k]
theorem ev_units_in {n : Nat} {R : DV → Prop} {E : EK} (hn : n ≤ 1000) (h : R (.d (tD (uniT n : Tab α)))) : m_units_in [.d (.int p), .d (.int n)] R E := by
  rw [q_units_in]
  refine ⟨rfl, ?_⟩
  simp only [g_units_in]
  array_get_dec
  refine ⟨⟨by omega, by omega⟩, by rw [rng_natL]; omega, ?_⟩
  rw [rng_nat]
  refine lcD_all _ (fun i : Nat => rowD ((List.range n).map fun j => if i = j then (1 : α) else 0)) (fun i hi P hP => ?_) ?_
  · array_get_dec
    refine ⟨⟨by omega, by omega⟩, by rw [rng_natL]; omega, ?_⟩
    rw [rng_nat]
    refine lcD_all _ (fun j : Nat => S.enc (if i = j then (1 : α) else 0)) (fun j hj P hP => ?_) ?_
    · array_get_dec
      refine ev_scalar_in (S := S) (k := decide ((i : Int) = (j : Int))) ?_
      have e : (if decide ((i : Int) = (j : Int)) = true then (1 : α) else 0) = if i = j then 1 else 0 := by
        by_cases z : i = j
        · rw [if_pos z, if_pos (decide_eq_true (by omega))]
        · rw [if_neg z, if_neg (by rw [decide_eq_true_eq]; omega)]
      rw [e]
      exact hP
    · array_get_dec
      have e : (List.range n).map (fun j => S.enc (if i = j then (1 : α) else 0)) = ((List.range n).map fun j => if i = j then (1 : α) else 0).map S.enc := by rw [List.map_map]; rfl
      rw [e]
      exact hP
  · array_get_dec
    have e : (List.range n).map (fun i => rowD ((List.range n).map fun j => if i = j then (1 : α) else 0)) = (uniT n : Tab α).map rowD := by unfold uniT; rw [List.map_map]; rfl
    rw [e]
    exact h
end

local macro_rules | `(tactic| infer_instance) => `(tactic| refine ev_units_in (by sizeOf_list_dec) ?_)

local macro_rules | `(tactic| array_mem_dec) => `(tactic| simp -implicitDefEqProofs -proj only [↓p_gNext, ↓p_gBrk, ↓p_gCnt, ↓p_gSeq, ↓p_gSet, ↓p_gSetN, ↓p_gDrop, ↓p_gRet, ↓p_gIfS, ↓p_gRaise, ↓p_gAsg, ↓p_parS, ↓p_parS3, ↓p_gPar, ↓p_gPar3, ↓p_gApp, ↓p_gSetIx, ↓p_gFor, ↓p_gTry, ↓p_gFrz, ↓p_gParNN, ↓p_gParDN, ↓p_gParND, ↓p_gDropX, ↓p_gSetX, ↓p_gAppX, ↓p_dVar, ↓p_dOwn, ↓p_dC, ↓p_d2, ↓p_d1, ↓p_dN2, ↓p_aNil, ↓p_aCons, ↓p_dTup, ↓p_nLst, ↓p_dCall, ↓p_dCallK, ↓p_dBi, ↓p_tVal, ↓p_tNot, ↓p_tAnd, ↓p_tOr, ↓p_dAnd, ↓p_dOr, ↓p_dNot, ↓p_dIf, ↓p_dChain, ↓p_dSl, ↓p_pNo, ↓p_pAt, ↓p_ofS, ↓p_nOf, ↓p_nRg1, ↓p_iRg, ↓p_iSeq, ↓p_iZp, ↓p_iRv, ↓p_nLc, ↓p_tTrue, ↓p_gNm, ↓p_gTp, ↓p_gTpL, ↓p_gsCons, ↓p_gsNil, ↓p_nSs, ↓p_nSd, ↓p_st0, ↓p_rv0, ↓p_ro0, ↓p_rp0, ↓p_rw0, ↓p_st1, ↓p_rv1, ↓p_ro1, ↓p_rp1, ↓p_rw1, ↓p_st2, ↓p_rv2, ↓p_ro2, ↓p_rp2, ↓p_rw2, ↓p_st3, ↓p_rv3, ↓p_ro3, ↓p_rp3, ↓p_rw3, ↓p_st4, ↓p_rv4, ↓p_ro4, ↓p_rp4, ↓p_rw4, ↓p_st5, ↓p_rv5, ↓p_ro5, ↓p_rp5, ↓p_rw5, ↓p_st6, ↓p_rv6, ↓p_ro6, ↓p_rp6, ↓p_rw6, ↓p_st7, ↓p_rv7, ↓p_ro7, ↓p_rp7, ↓p_rw7, ↓p_st8, ↓p_rv8, ↓p_ro8, ↓p_rp8, ↓p_rw8, ↓p_st9, ↓p_rv9, ↓p_ro9, ↓p_rp9, ↓p_rw9, ↓p_st10, ↓p_rv10, ↓p_ro10, ↓p_rp10, ↓p_rw10, ↓p_st11, ↓p_rv11, ↓p_ro11, ↓p_rp11, ↓p_rw11, ↓p_st12, ↓p_rv12, ↓p_ro12, ↓p_rp12, ↓p_rw12, ↓p_st13, ↓p_rv13, ↓p_ro13, ↓p_rp13, ↓p_rw13, ↓p_st14, ↓p_rv14, ↓p_ro14, ↓p_rp14, ↓p_rw14, ↓p_st15, ↓p_rv15, ↓p_ro15, ↓p_rp15, ↓p_rw15, ↓p_st16, ↓p_rv16, ↓p_ro16, ↓p_rp16, ↓p_rw16, ↓p_st17, ↓p_rv17, ↓p_ro17, ↓p_rp17, ↓p_rw17, ↓p_st18, ↓p_rv18, ↓p_ro18, ↓p_rp18, ↓p_rw18, ↓p_st19, ↓p_rv19, ↓p_ro19, ↓p_rp19, ↓p_rw19, ↓p_st20, ↓p_rv20, ↓p_ro20, ↓p_rp20, ↓p_rw20, ↓p_st21, ↓p_rv21, ↓p_ro21, ↓p_rp21, ↓p_rw21, ↓p_st22, ↓p_rv22, ↓p_ro22, ↓p_rp22, ↓p_rw22, ↓p_st23, ↓p_rv23, ↓p_ro23, ↓p_rp23, ↓p_rw23, ↓p_st24, ↓p_rv24, ↓p_ro24, ↓p_rp24, ↓p_rw24, ↓p_st25, ↓p_rv25, ↓p_ro25, ↓p_rp25, ↓p_rw25, ↓e_onD, ↓e_onB, ↓e_onI, ↓e_slV, ↓e_slO, ↓e_slOo, ↓e_slOw, ↓e_gI, ↓e_gI0, ↓e_add, ↓e_mul, ↓e_mulL, ↓e_neg, ↓e_ixL, ↓e_ixT, ↓e_ixS, ↓e_isi, ↓e_isN, ↓e_notN, ↓e_isNe, ↓e_isNi, ↓e_isNb, ↓e_isNl, ↓e_isNt, ↓e_isNs, ↓e_lenL, ↓e_lenT, ↓e_lenS, ↓e_abs, ↓e_int, ↓e_intB, ↓e_max, ↓e_min, ↓e_gcd, ↓e_tupL, ↓e_tupT, ↓e_repr, ↓e_sum, ↓e_all, ↓e_any, ↓e_allN, ↓e_allC, ↓e_seqL, ↓e_seqT, ↓e_seqS, ↓e_rg1, ↓e_rg2, ↓e_excN, ↓e_excE, ↓e_val, ↓e_at0, ↓e_at1, ↓e_at2, ↓e_ixn0, ↓e_ixn1, ↓e_ixn2, ↓e_ex, ↓e_zp, ↓e_slT, ↓e_slL, ↓e_max1, ↓e_min1, ↓e_addT, ↓e_addL, ↓e_addS, ↓e_mulT, ↓e_eqN, ↓e_neN, ↓e_eqNT, ↓e_neNT, ↓e_siL, ↓e_siT, ↓e_inL, ↓e_ninL, ↓e_inT, ↓e_ninT, ↓e_eqI, ↓e_neI, ↓e_neS, ↓e_nx, ↓e_rt, ↓e_bk, ↓e_ct, ↓e_exc, e_onD, e_onB, e_onI, e_slV, e_slO, e_slOo, e_slOw, e_gI, e_gI0, e_add, e_mul, e_mulL, e_neg, e_ixL, e_ixT, e_ixS, e_isi, e_isN, e_notN, e_isNe, e_isNi, e_isNb, e_isNl, e_isNt, e_isNs, e_lenL, e_lenT, e_lenS, e_abs, e_int, e_intB, e_max, e_min, e_gcd, e_tupL, e_tupT, e_repr, e_sum, e_all, e_any, e_allN, e_allC, e_seqL, e_seqT, e_seqS, e_rg1, e_rg2, e_excN, e_excE, e_val, e_at0, e_at1, e_at2, e_ixn0, e_ixn1, e_ixn2, e_ex, e_zp, e_slT, e_slL, e_max1, e_min1, e_addT, e_addL, e_addS, e_mulT, e_eqN, e_neN, e_eqNT, e_neNT, e_siL, e_siT, e_inL, e_ninL, e_inT, e_ninT, e_eqI, e_neI, e_neS, e_nx, e_rt, e_bk, e_ct, e_exc, e_set0, e_set1, e_set2, e_set3, e_set4, e_set5, e_set6, e_set7, e_set8, e_set9, e_set10, e_set11, e_set12, e_set13, e_set14, e_set15, e_set16, e_set17, e_set18, e_set19, e_set20, e_set21, e_set22, e_set23, e_set24, e_set25, wipeD, List.replicate, List.cons_append, List.nil_append, List.map_cons, List.map_nil, fnB, ↓reduceIte, Bool.false_eq_true, Bool.not_true, Bool.not_false, List.length_cons, List.length_nil, Nat.zero_add, Nat.reduceAdd, Nat.reduceLeDiff, true_and, ↓px_10, ↓gParNND, ↓gParDND, ↓gParNDD, ↓gParNNN, ↓gParDDN, ↓gParNDN, ↓dTupRg, e_mapA, e_mapS, e_ifN, e_ifA, e_ifO, e_cutM, e_flatM, e_anyM, e_allM, e_ifAP, e_ifOP, e_lcNil, e_lcC, e_asB1, e_asB2, e_asB3, e_asB4, e_asB5, e_asB6, e_asI1, e_asI2, e_asI3, e_asI4, e_asI5, e_asI6, List.all_cons, List.all_nil, List.any_cons, List.any_nil, Bool.and_true, Bool.or_false, List.sum_cons, List.sum_nil, t_int_int, t_int_bool, t_int_tuple, t_int_list, t_int_str, t_bool_int, t_bool_bool, t_bool_tuple, t_bool_list, t_bool_str, t_none_int, t_none_bool, t_none_tuple, t_none_list, t_none_str, t_str_int, t_str_bool, t_str_tuple, t_str_list, t_str_str, t_list_int, t_list_bool, t_list_tuple, t_list_list, t_list_str, t_tuple_int, t_tuple_bool, t_tuple_tuple, t_tuple_list, t_tuple_str, e_liI, e_liN, asInts_map, asBools_map, rngD_irg, List.map_id', List.map_id_fun', id_eq, Int.sub_zero, Bool.not_not])
/-! negative_in, inverse_in, less_in -/
section
variable {p : Int} {α : Type} [Lean.Grind.Field α] [S : SF p α]
theorem ev_negative_in {x : α} {R : DV → Prop} {E : EK} (h : R (.d (S.enc (-x)))) : m_negative_in [.d (.int p), .d (S.enc x)] R E := by
  rw [q_negative_in]
  refine ⟨rfl, ?_⟩
  simp only [g_negative_in]
  rcases S.kd with ⟨f, k⟩ | ⟨f, k⟩
  · have p0 := k.p0
    subst p0
    rw [k.en, k.neg] at h
    rw [k.en]
    unfold fr at h ⊢
    rw [Rat.neg_num, Rat.neg_den] at h
    bv_omega
    exact h
  · have hp := k.pp.pos
    rw [k.en, k.neg] at h
    rw [k.en]
    ac_rfl
    refine ite_f (decide_eq_false (by omega)) ⟨by omega, ?_⟩
    rw [fmod_e (by omega)]
    exact h
local macro_rules | `(tactic| infer_instance) => `(tactic| refine ev_negative_in  ?_)
theorem at_one {l : List Int} {v : Int} {R : DV → Prop} (hne : v ∈ l) (h : ∀ x ∈ l, x = v) (hR : R (.d (.int v))) : ∃ y, atI (l.map .int) 0 = some y ∧ R (.d y) := by
  cases l with
  | nil => cases hne
  | cons a l =>
    refine ⟨.int a, by rw [List.map_cons]; exact e_at0, ?_⟩
    rw [h a (by simp)]
    exact hR
theorem ev_inverse_in {b : Nat} {x : α} {R : DV → Prop} {E : EK} (hx : S.B b x) (hb : b ≤ 4000) (hne : x ≠ 0) (h : R (.d (S.enc x⁻¹))) : m_inverse_in [.d (.int p), .d (S.enc x)] R E := by
  rw [q_inverse_in]
  refine ⟨rfl, ?_⟩
  simp only [g_inverse_in]
  rcases S.kd with ⟨f, k⟩ | ⟨f, k⟩
  · have p0 := k.p0
    subst p0
    obtain ⟨hn, hd⟩ := (k.bd b x).mp hx
    have nz : (f x).num ≠ 0 := fun z => hne (k.inj _ _ (by rw [k.zero]; exact Rat.num_eq_zero.mp z))
    rw [k.en, k.inv, Rat.inv_def] at h
    rw [k.en]
    unfold fr
    ac_rfl
    ac_rfl
    exact ev_fraction_in nz hn (by omega) h
  · have hp := k.pp.pos
    have l13 := k.pp.le
    have r1 := k.rng x
    have r2 := k.rng x⁻¹
    have xx : x⁻¹ * x = 1 := by grind
    have one : (f x⁻¹ * f x) % p = 1 := by rw [← k.mul, xx, k.one]
    rw [k.en] at h
    rw [k.en]
    ac_rfl
    refine ite_f (decide_eq_false (by omega)) ?_
    refine ⟨⟨⟨by decide, by decide⟩, by omega, by omega⟩, by rw [List.length_map, irg_len]; omega, ?_⟩
    refine lcD_testI .int (fun i => decide ((i * f x) % p = 1)) (fun i => i) (fun i hi P hP => ?_) ?_
    · have hi := mem_irg.mp hi
      ac_rfl
      refine ⟨MB.ok (a := 4) (b := 4) (MB.of (by omega) (by omega)) (MB.of r1.1 (by omega)) (by decide), by omega, ?_⟩
      rw [fmod_e (by omega)]
      exact a_push hP
    rw [List.map_id']
    refine at_one (v := f x⁻¹) ?_ (fun i hi => ?_) h
    · refine List.mem_filter.mpr ⟨mem_irg.mpr ⟨?_, r2.2⟩, decide_eq_true one⟩
      have : f x⁻¹ ≠ 0 := fun z => by rw [z, Int.zero_mul] at one; simp at one
      omega
    · obtain ⟨h1, h2⟩ := List.mem_filter.mp hi
      obtain ⟨i0, i1⟩ := mem_irg.mp h1
      obtain ⟨y, hy⟩ := k.sur i (by omega) i1
      have e : f (y * x) = f 1 := by rw [k.mul, hy, k.one]; exact of_decide_eq_true h2
      have e2 := k.inj _ _ e
      have : y = x⁻¹ := by grind
      rw [← hy, this]
local macro_rules | `(tactic| infer_instance) => `(tactic| refine ev_inverse_in (by sizeOf_list_dec) (by sizeOf_list_dec) (by sizeOf_list_dec) ?_)
theorem less_mod {p a b c : Int} (h : Pp p) : (a + (-((b * c) % p)) % p) % p = (a - b * c) % p := by
  generalize b * c = d
  rcases h with rfl | rfl | rfl | rfl | rfl | rfl <;> omega
theorem ev_less_in {b : Nat} {r q : List α} {c : α} {R : DV → Prop} {E : EK} (hr : VB b r) (hq : VB b q) (hc : S.B b c) (hb : b ≤ 1900) (hl : r.length ≤ 1000) (h : R (.d (.list ((lessR r c q).map S.enc)))) :
    m_less_in [.d (.int p), .d (.list (r.map S.enc)), .d (S.enc c), .d (.list (q.map S.enc))] R E := by
  rw [q_less_in]
  refine ⟨rfl, ?_⟩
  have hz : (r.zip q).length ≤ r.length := by rw [List.length_zip]; omega
  have e : (r.zip q).map (fun x => S.enc (x.1 - c * x.2)) = (lessR r c q).map S.enc := by
    unfold lessR
    rw [zipW_map, List.map_map]
    rfl
  rw [← e] at h
  simp only [g_less_in]
  rcases S.kd with ⟨f, k⟩ | ⟨f, k⟩
  · have p0 := k.p0
    subst p0
    ac_rfl
    refine ev_negative_in (S := S) ?_
    ac_rfl
    rw [zip_enc]
    refine lcD_all pairD (fun x => S.enc (x.1 - c * x.2)) (fun x hx P hP => ?_) h
    have m1 := (List.of_mem_zip (a := x.1) (b := x.2) hx).1
    have m2 := (List.of_mem_zip (a := x.1) (b := x.2) hx).2
    have hn : S.B b (-c) := by
      have := (k.bd b c).mp hc
      refine (k.bd b _).mpr ?_
      rw [k.neg]
      unfold QB
      rw [Rat.neg_num, Rat.neg_den]
      refine ⟨?_, this.2⟩
      have := this.1
      unfold MB at this ⊢
      rw [Int.natAbs_neg]
      exact this
    simp only [pairD]
    ac_rfl
    refine ev_times_in hn (hq _ m2) (by omega) (by omega) ?_
    refine ev_plus_in (hr _ m1) (B_mul hn (hq _ m2)) (by omega) (by omega) ?_
    have e3 : x.1 + -c * x.2 = x.1 - c * x.2 := by grind
    rw [e3]
    exact hP
  · have hp := k.pp.pos
    have l13 := k.pp.le
    ac_rfl
    refine ite_t (decide_eq_true hp) ?_
    rw [zip_enc]
    refine ⟨by rw [List.length_map]; omega, lcD_all pairD (fun x => S.enc (x.1 - c * x.2)) (fun x hx P hP => ?_) h⟩
    have e1 : x.1 - c * x.2 = x.1 + -(c * x.2) := by grind
    have r1 := k.rng c
    have r2 := k.rng x.2
    rw [k.en, e1, k.add, k.neg, k.mul, less_mod k.pp] at hP
    simp only [pairD]
    rw [k.en, k.en, k.en]
    ac_rfl
    refine ⟨MB.ok (a := 4) (b := 4) (MB.of r1.1 (by omega)) (MB.of r2.1 (by omega)) (by decide), by omega, ?_⟩
    rw [fmod_e (by omega)]
    exact hP
local macro_rules | `(tactic| infer_instance) => `(tactic| refine ev_less_in (by sizeOf_list_dec) (by sizeOf_list_dec) (by sizeOf_list_dec) (by sizeOf_list_dec) (by sizeOf_list_dec) ?_)
end

/-! rows with one number below: bits -/
section
variable {p : Int} {α : Type} [Lean.Grind.Field α] [S : SF p α]
def CB (a d : Nat) (r : List α) : Prop := ∀ f, KQ p α S.enc S.B f → ∃ D : Int, D ≠ 0 ∧ MB d D ∧ ∀ x ∈ r, ∃ n : Int, MB a n ∧ f x = Rat.divInt n D
def TC (a d : Nat) (t : Tab α) : Prop := ∀ r ∈ t, CB (S := S) a d r
theorem CB.le {a d a' d' : Nat} {r : List α} (h : CB (S := S) a d r) (h1 : a ≤ a') (h2 : d ≤ d') : CB (S := S) a' d' r := fun f k => by
  obtain ⟨D, h3, h4, h5⟩ := h f k
  exact ⟨D, h3, h4.le h2, fun x hx => by
    obtain ⟨n, g1, g2⟩ := h5 x hx
    exact ⟨n, g1.le h1, g2⟩⟩
theorem TC.le {a d a' d' : Nat} {t : Tab α} (h : TC (S := S) a d t) (h1 : a ≤ a') (h2 : d ≤ d') : TC (S := S) a' d' t := fun r hr => (h r hr).le h1 h2
theorem CB.vb {a d b : Nat} {r : List α} (h : CB (S := S) a d r) (h1 : a ≤ b) (h2 : d ≤ b) : VB (S := S) b r := fun x hx => by
  rcases S.kd with ⟨f, k⟩ | ⟨f, k⟩
  · obtain ⟨D, g1, g2, g3⟩ := h f k
    obtain ⟨n, q1, q2⟩ := g3 x hx
    refine (k.bd b x).mpr ?_
    rw [q2]
    have := mb_divInt g1 q1 g2
    exact ⟨this.1.le h1, this.2.le h2⟩
  · exact k.bd _ _
theorem TC.tb {a d b : Nat} {t : Tab α} (h : TC (S := S) a d t) (h1 : a ≤ b) (h2 : d ≤ b) : TB (S := S) b t := fun r hr => (h r hr).vb h1 h2
theorem ratinv {n m D : Int} (hD : D ≠ 0) (hm : m ≠ 0) : (Rat.divInt m D)⁻¹ * Rat.divInt n D = Rat.divInt n m := by
  rw [Rat.inv_divInt, Rat.divInt_mul_divInt]
  rw [Int.mul_comm D n]
  exact Rat.divInt_mul_right hD
theorem ratless {n m c D T : Int} (hD : D ≠ 0) (hT : T ≠ 0) : Rat.divInt n D - Rat.divInt c D * Rat.divInt m T = Rat.divInt (n * T - c * m) (D * T) := by
  rw [Rat.divInt_mul_divInt, ← Rat.divInt_mul_right hT (n := n) (d := D), Rat.sub_eq_add_neg, Rat.neg_divInt, Rat.divInt_add_divInt _ _ (Int.mul_ne_zero hD hT) (Int.mul_ne_zero hD hT)]
  rw [← Int.add_mul, Rat.divInt_mul_right (Int.mul_ne_zero hD hT), ← Int.sub_eq_add_neg]
theorem CB.scale {a d : Nat} {r : List α} {t : α} (h : CB (S := S) a d r) (ht : t ∈ r) (hn : t ≠ 0) : CB (S := S) a a (r.map (t⁻¹ * ·)) := fun f k => by
  obtain ⟨D, g1, g2, g3⟩ := h f k
  obtain ⟨m, m1, m2⟩ := g3 t ht
  have mz : m ≠ 0 := fun z => hn (k.inj _ _ (by rw [m2, z, k.zero]; exact Rat.zero_divInt _))
  refine ⟨m, mz, m1, fun x hx => ?_⟩
  obtain ⟨y, hy, rfl⟩ := List.mem_map.mp hx
  obtain ⟨n, n1, n2⟩ := g3 y hy
  refine ⟨n, n1, ?_⟩
  show f (t⁻¹ * y) = _
  rw [k.mul, k.inv, m2, n2]
  exact ratinv g1 mz
theorem MB.sub' {a : Nat} {i j : Int} (h : MB a i) (k : MB a j) : MB (a + 1) (i - j) := by
  unfold MB at *
  rw [Nat.pow_succ]
  omega
theorem CB.less {a d a2 d2 : Nat} {r q : List α} {c : α} (h : CB (S := S) a d r) (hc : c ∈ r) (g : CB (S := S) a2 d2 q) (ha : a2 ≤ a) (hd : d2 ≤ a) : CB (S := S) (2 * a + 1) (d + a) (lessR r c q) := fun f k => by
  obtain ⟨D, g1, g2, g3⟩ := h f k
  obtain ⟨T, t1, t2, t3⟩ := g f k
  obtain ⟨m, m1, m2⟩ := g3 c hc
  refine ⟨D * T, Int.mul_ne_zero g1 t1, (g2.mul t2).le (by omega), fun x hx => ?_⟩
  unfold lessR at hx
  rw [zipW_map] at hx
  obtain ⟨y, hy, rfl⟩ := List.mem_map.mp hx
  obtain ⟨n, n1, n2⟩ := g3 y.1 (List.of_mem_zip (a := y.1) (b := y.2) hy).1
  obtain ⟨u, u1, u2⟩ := t3 y.2 (List.of_mem_zip (a := y.1) (b := y.2) hy).2
  refine ⟨n * T - m * u, (MB.sub' ((n1.mul t2).le (by omega : a + d2 ≤ 2 * a)) ((m1.mul u1).le (by omega))), ?_⟩
  have e : y.1 - c * y.2 = y.1 + -(c * y.2) := by grind
  rw [e, k.add, k.neg, k.mul, n2, m2, u2, ← ratless g1 t1, Rat.sub_eq_add_neg]
/-- how bits grow -/
def gA : Nat → Nat → Nat
  | 0, a => a
  | s + 1, a => 2 * gA s a + 1
def gD : Nat → Nat → Nat → Nat
  | 0, _, d => d
  | s + 1, a, d => gD s a d + gA s a
theorem gA_le (a : Nat) : ∀ s, gA s a ≤ gA (s + 1) a := fun s => by show gA s a ≤ 2 * gA s a + 1; omega
theorem gA_mono (a : Nat) {s t : Nat} (h : s ≤ t) : gA s a ≤ gA t a := by
  induction h with
  | refl => exact Nat.le_refl _
  | step _ ih => exact Nat.le_trans ih (gA_le a _)
theorem gD_mono (a d : Nat) {s t : Nat} (h : s ≤ t) : gD s a d ≤ gD t a d := by
  induction h with
  | refl => exact Nat.le_refl _
  | @step n _ ih => exact Nat.le_trans ih (by show gD n a d ≤ gD n a d + gA n a; omega)
variable [DecidableEq α]
theorem mem_set' {β : Type} {P : β → Prop} {l : List β} {i : Nat} {r : β} (h : ∀ x ∈ l, P x) (hr : P r) : ∀ x ∈ l.set i r, P x := fun x hx => by
  rcases List.mem_or_eq_of_mem_set hx with hx | rfl
  · exact h x hx
  · exact hr
theorem wip_TC {m k c at_ a d : Nat} {top : List α} (hc : c < k) (htop : CB (S := S) a a top) (hl : top.length = k) : ∀ (l : List Nat) (rows : Tab α), Shp m k rows → (∀ x ∈ l, x < m) → l.Nodup → (∀ x ∈ l, x ≠ at_ → CB (S := S) a d (rows.getD x [])) → TC (S := S) (2 * a + 1) (d + a) rows →
    TC (S := S) (2 * a + 1) (d + a) (l.foldl (wip at_ c top) rows)
  | [], _, _, _, _, _, h => h
  | x :: l, rows, hs, hm, hd, hx, h => by
    rw [List.foldl_cons]
    obtain ⟨hd1, hd2⟩ := List.nodup_cons.mp hd
    have hxm := hm x (by simp)
    have r := hs.rows
    by_cases z : x ≠ at_ ∧ ent rows x c ≠ 0
    · have e : wip at_ c top rows x = rows.set x (lessR (rows.getD x []) (ent rows x c) top) := by unfold wip; rw [if_pos z]
      have cx := hx x (by simp) z.1
      rw [e]
      refine wip_TC hc htop hl l _ (set_shp hs (less_len (row_of hs hxm) hl)) (fun y hy => hm y (by simp [hy])) hd2 (fun y hy hne => ?_) (mem_set' h ?_)
      · rw [getD_set (by omega), if_neg (fun q : y = x => hd1 (by rw [← q]; exact hy))]
        exact hx y (by simp [hy]) hne
      · exact CB.less cx (getD_mem' (by rw [row_of hs hxm]; exact hc)) htop (Nat.le_refl _) (Nat.le_refl _)
    · have e : wip at_ c top rows x = rows := by unfold wip; rw [if_neg z]
      rw [e]
      exact wip_TC hc htop hl l rows hs (fun y hy => hm y (by simp [hy])) hd2 (fun y hy hne => hx y (by simp [hy]) hne) h
theorem rst_TC {m k c a d : Nat} {rows : Tab α} {piv : List Nat} (h : RInv m k c rows piv) (hc : c < k) (hb : TC (S := S) a d rows) : TC (S := S) a d (rst (rows, piv) c).1 ∧ (rst (rows, piv) c).2 = piv ∨ TC (S := S) (2 * a + 1) (d + a) (rst (rows, piv) c).1 ∧ (rst (rows, piv) c).2.length = piv.length + 1 := by
  have r := h.shp.rows
  unfold rst
  cases q : fnd rows c piv.length with
  | nil => simp only [q]; exact .inl ⟨hb, trivial⟩
  | cons k0 l =>
    simp only [q]
    obtain ⟨⟨m1, m2⟩, m3⟩ := mem_fnd.mp (show k0 ∈ fnd rows c piv.length by rw [q]; simp)
    have hat : piv.length < m := by omega
    have hk0 : k0 < m := by omega
    obtain ⟨s1, s2⟩ := swp_ent (c := c) h.shp hat hk0
    have ck0 : CB (S := S) a d (rows.getD k0 []) := hb _ (getD_mem' (by omega))
    have ctop : CB (S := S) a a ((rows.getD k0 []).map ((ent rows k0 c)⁻¹ * ·)) := CB.scale ck0 (getD_mem' (by rw [row_of h.shp hk0]; exact hc)) m3
    have et : (swp rows c piv.length k0).getD piv.length [] = (rows.getD k0 []).map ((ent rows k0 c)⁻¹ * ·) := by
      unfold swp
      rw [getD_set (by rw [List.length_set]; omega), if_pos rfl]
    right
    refine ⟨?_, by rw [List.length_append]; rfl⟩
    rw [et]
    refine wip_TC (m := m) hc ctop (by rw [List.length_map]; exact row_of h.shp hk0) _ _ s1 (fun x hx => by have := List.mem_range.mp hx; omega) List.nodup_range (fun x hx hne => ?_) ?_
    · have hx := List.mem_range.mp hx
      unfold swp
      rw [getD_set (by rw [List.length_set]; omega), if_neg hne, getD_set (by omega)]
      split
      · exact hb _ (getD_mem' (by omega))
      · exact hb _ (getD_mem' (by omega))
    · unfold swp
      refine mem_set' (mem_set' (hb.le (by omega) (by omega)) ?_) (ctop.le (by omega) (by omega))
      exact (hb _ (getD_mem' (by omega))).le (by omega) (by omega)
theorem redn_TC {m k a d : Nat} {t : Tab α} (h : Shp m k t) (hb : TC (S := S) a d t) : ∀ c, c ≤ k → TC (S := S) (gA (redn c t).2.length a) (gD (redn c t).2.length a d) (redn c t).1 ∧ RInv m k c (redn c t).1 (redn c t).2 := fun c => by
  induction c with
  | zero => intro _; exact ⟨hb, RInv.start h⟩
  | succ c ih =>
    intro hc
    obtain ⟨h1, h2⟩ := ih (by omega)
    have e : redn (c + 1) t = rst (redn c t) c := by unfold redn; rw [List.range_succ, List.foldl_append]; rfl
    rw [e]
    refine ⟨?_, (rst_ok h2 (by omega)).1⟩
    rcases rst_TC h2 (by omega) h1 with ⟨g1, g2⟩ | ⟨g1, g2⟩
    · have g2 : (rst (redn c t) c).2 = (redn c t).2 := g2
      rw [g2]
      exact g1
    · have g2 : (rst (redn c t) c).2.length = (redn c t).2.length + 1 := g2
      rw [g2]
      exact g1
end


/-! a list's entry -/
def rg (r : List Int) (i : Int) : Int := (r[i.toNat]?).getD 0
theorem rg_at {r : List Int} {i : Int} (h0 : 0 ≤ i) (h1 : i < r.length) : atI (r.map PyData.int) i = some (.int (rg r i)) := by
  refine atI_map' .int ?_
  rw [atI_get0 h0 h1]
  unfold rg
  have : i.toNat < r.length := by omega
  rw [List.getElem?_eq_getElem this]
  rfl
theorem rg_mem {r : List Int} {i : Int} (h0 : 0 ≤ i) (h1 : i < r.length) : rg r i ∈ r := by
  unfold rg
  have : i.toNat < r.length := by omega
  rw [List.getElem?_eq_getElem this]
  exact List.getElem_mem this


/-! sets of places that grow -/
theorem srt_ext : ∀ {l k : List Int}, l.Pairwise (· < ·) → k.Pairwise (· < ·) → (∀ x, x ∈ l ↔ x ∈ k) → l = k
  | [], [], _, _, _ => rfl
  | [], b :: k, _, _, h => absurd ((h b).mpr (by simp)) (by simp)
  | a :: l, [], _, _, h => absurd ((h a).mp (by simp)) (by simp)
  | a :: l, b :: k, h1, h2, h => by
    obtain ⟨a1, a2⟩ := List.pairwise_cons.mp h1
    obtain ⟨b1, b2⟩ := List.pairwise_cons.mp h2
    have e : a = b := by
      rcases List.mem_cons.mp ((h a).mp (by simp)) with e | e
      · exact e
      · rcases List.mem_cons.mp ((h b).mpr (by simp)) with e2 | e2
        · exact e2.symm
        · have := a1 b e2
          have := b1 a e
          omega
    subst e
    rw [srt_ext a2 b2 fun x => ⟨fun hx => ?_, fun hx => ?_⟩]
    · rcases List.mem_cons.mp ((h x).mp (by simp [hx])) with e | e
      · have := a1 x hx; omega
      · exact e
    · rcases List.mem_cons.mp ((h x).mpr (by simp [hx])) with e | e
      · have := b1 x hx; omega
      · exact e
theorem irg_srt (lo hi : Int) : (irg lo hi).Pairwise (· < ·) := by
  unfold irg
  rw [List.pairwise_map]
  exact List.pairwise_lt_range.imp fun h => by omega
theorem srt_filter {l : List Int} (h : l.Pairwise (· < ·)) (p : Int → Bool) : (l.filter p).Pairwise (· < ·) := h.filter p
theorem srt_nodup {l : List Int} (h : l.Pairwise (· < ·)) : l.Nodup := h.imp fun h => by omega
/-- a strictly rising list within 0 .. n-1 is not longer than n -/
theorem srt_len {n : Int} {l : List Int} (h : l.Pairwise (· < ·)) (hb : ∀ x ∈ l, 0 ≤ x ∧ x < n) : l.length ≤ n.toNat := by
  have := List.Nodup.length_le_of_subset (srt_nodup h) (fun x hx => mem_irg.mpr (hb x hx) : l ⊆ irg 0 n)
  rw [irg_len] at this
  omega
theorem sub_lt {l k : List Int} (hl : l.Nodup) (h : ∀ x ∈ l, x ∈ k) {y : Int} (hy : y ∈ k) (hn : y ∉ l) : l.length < k.length := by
  have : (y :: l).length ≤ k.length := List.Nodup.length_le_of_subset (List.nodup_cons.mpr ⟨hn, hl⟩) fun x hx => by
    rcases List.mem_cons.mp hx with rfl | hx
    · exact hy
    · exact h x hx
  rw [List.length_cons] at this
  omega
/-- sets that grow till they are closed are closed after n steps -/
theorem grow_closed {n : Nat} {F : Nat → List Int} {C : List Int → Prop} (hb : ∀ k, (F k).length ≤ n) (h0 : C (F 0) ∨ 1 ≤ (F 0).length) (hs : ∀ k, C (F k) → C (F (k + 1))) (hg : ∀ k, C (F k) ∨ (F k).length < (F (k + 1)).length) : C (F n) := by
  have key : ∀ k, C (F k) ∨ k + 1 ≤ (F k).length := fun k => by
    induction k with
    | zero => exact h0
    | succ k ih =>
      rcases ih with ih | ih
      · exact .inl (hs k ih)
      · rcases hg k with hg | hg
        · exact .inl (hs k hg)
        · exact .inr (by omega)
  rcases key n with h | h
  · exact h
  · have := hb n
    omega


/-! reduced_in -/
section
variable {p : Int} {α : Type} [Lean.Grind.Field α] [S : SF p α] [DecidableEq α]
def lrD (r : List α) : PD := .list (r.map S.enc)
def natD (n : Nat) : PD := .int (n : Int)
theorem row_i {t : Tab α} {i : Nat} {R : PD → Prop} (h : i < t.length) (hR : R (lrD (t.getD i []))) : ∃ y, atI (t.map lrD) (i : Int) = some y ∧ R y := by
  refine ⟨_, atI_map' lrD (by rw [atI_get0 (by omega) (by omega), Int.toNat_natCast]; exact List.getElem?_eq_getElem h), ?_⟩
  have : t[i] = t.getD i [] := by rw [List.getD_eq_getElem?_getD, List.getElem?_eq_getElem h]; rfl
  rw [this]
  exact hR
theorem ent_i {r : List α} {j : Nat} {R : PD → Prop} (h : j < r.length) (hR : R (S.enc (r.getD j 0))) : ∃ y, atI (r.map S.enc) (j : Int) = some y ∧ R y := ⟨_, row_at h, hR⟩
theorem ixn_n {m i : Nat} (h : i < m) : ixN m (i : Int) = some i := by
  unfold ixN
  rw [if_pos (by omega), if_pos (by omega), Int.toNat_natCast]
theorem enc_zero_iff (x : α) : PyData.eqv (S.enc x) (S.enc 0) = decide (x = 0) := eqv_enc x 0
theorem sh_enc (x : α) : Sh (S.enc x) := (cp_enc x).sh' (by decide)
theorem rng2_nat (a b : Nat) : rngD (a : Int) (b : Int) = ((List.range b).filter fun k => decide (a ≤ k)).map natD := by
  rw [rngD_irg]
  have : (irg (a : Int) (b : Int)) = ((List.range b).filter fun k => decide (a ≤ k)).map (fun n : Nat => (n : Int)) := by
    refine srt_ext (irg_srt _ _) ?_ fun x => ?_
    · rw [List.pairwise_map]
      exact (List.pairwise_lt_range.filter _).imp fun h => by omega
    · rw [mem_irg, List.mem_map]
      constructor
      · rintro ⟨h1, h2⟩
        exact ⟨x.toNat, List.mem_filter.mpr ⟨List.mem_range.mpr (by omega), decide_eq_true (by omega)⟩, by omega⟩
      · rintro ⟨n, hn, rfl⟩
        obtain ⟨h1, h2⟩ := List.mem_filter.mp hn
        have h1 := List.mem_range.mp h1
        have h2 := of_decide_eq_true h2
        omega
  rw [this, List.map_map]
  rfl
theorem rng1_nat (b : Nat) : rngD 0 (b : Int) = (List.range b).map natD := rng_nat b
theorem wipe_loop {D : DEnds} {m k c at_ a : Nat} {top : List α} {s1 s3 s7 : Sl} (hm : m ≤ 1000) (hk : k ≤ 1000) (hc : c < k) (ha : a ≤ 1900) (ht : top.length = k) (bt : VB a top) (hat : at_ < m) :
    ∀ (l : List Nat) (rows : Tab α) (s9 : Sl), Shp m k rows → (∀ x ∈ l, x < m) → l.Nodup → (∀ x ∈ l, VB a (rows.getD x [])) →
    (∀ s9, D.nx [.v (.d (.int p)), s1, .own ((l.foldl (wip at_ c top) rows).map lrD), s3, .v (.d (S.enc 0)), .v (.d (.int c)), .v (.d (.int at_)), s7, .v (.d (lrD top)), s9, .no]) →
    loopD (gNm 9) g_reduced_in_b0 D (l.map natD) [.v (.d (.int p)), s1, .own (rows.map lrD), s3, .v (.d (S.enc 0)), .v (.d (.int c)), .v (.d (.int at_)), s7, .v (.d (lrD top)), s9, .no]
  | [], rows, s9, _, _, _, _, h => h _
  | x :: l, rows, s9, hs, hl, hd, hb, h => by
    have r := hs.rows
    have hx := hl x (by simp)
    have rl := row_of hs hx
    obtain ⟨hd1, hd2⟩ := List.nodup_cons.mp hd
    rw [List.map_cons]
    unfold loopD
    ac_rfl
    generalize hn : loopD (gNm 9) g_reduced_in_b0 D (l.map natD) = next
    simp only [g_reduced_in_b0, natD]
    ac_rfl
    have skip : wip at_ c top rows x = rows → next [.v (.d (.int p)), s1, .own (rows.map lrD), s3, .v (.d (S.enc 0)), .v (.d (.int c)), .v (.d (.int at_)), s7, .v (.d (lrD top)), .v (.d (.int x)), .no] := fun e => by
      rw [← hn]
      rw [List.foldl_cons, e] at h
      exact wipe_loop hm hk hc ha ht bt hat l rows _ hs (fun y hy => hl y (by simp [hy])) hd2 (fun y hy => hb y (by simp [hy])) h
    by_cases z : (x : Int) = (at_ : Int)
    · refine ite_t (decide_eq_true z) (skip ?_)
      unfold wip
      rw [if_neg (by omega)]
    · refine ite_f (decide_eq_false z) (row_i (by omega) ?_)
      simp only [lrD]
      ac_rfl
      refine ent_i (by omega) (e_neG (sh_enc _) (sh_enc _) ?_)
      rw [enc_zero_iff]
      ac_rfl
      by_cases q : ent rows x c = 0
      · refine ite_t (decide_eq_true q) (skip ?_)
        unfold wip
        rw [if_neg (by simp [q])]
      · refine ite_f (decide_eq_false q) (row_i (by omega) ?_)
        refine row_i (by omega) ?_
        simp only [lrD]
        array_mem_dec
        have bx := hb x (by simp)
        refine ent_i (r := rows.getD x []) (j := c) (by omega) ?_
        refine ev_less_in bx bt (bx _ (getD_mem' (by omega))) ha (by omega) ?_
        ac_rfl
        refine ⟨x, ixn_n (by rw [List.length_map]; omega), ?_⟩
        have e : wip at_ c top rows x = rows.set x (lessR (rows.getD x []) (ent rows x c) top) := by unfold wip; rw [if_pos ⟨by omega, q⟩]
        rw [show (PyData.list (List.map SF.enc (lessR (rows.getD x []) ((rows.getD x []).getD c 0) top))) = lrD (lessR (rows.getD x []) (ent rows x c) top) from rfl]
        rw [← List.map_set, ← e, ← hn]
        rw [List.foldl_cons] at h
        refine wipe_loop hm hk hc ha ht bt hat l _ _ (by rw [e]; exact set_shp hs (less_len rl ht)) (fun y hy => hl y (by simp [hy])) hd2 (fun y hy => ?_) h
        rw [e, getD_set (by omega), if_neg (fun q : y = x => hd1 (by rw [← q]; exact hy))]
        exact hb y (by simp [hy])
theorem sh_nats (l : List Nat) : Sh (.list (l.map natD)) := by
  have := sh_ints (l.map fun n : Nat => (n : Int))
  rw [List.map_map] at this
  exact this
theorem B_inv {b : Nat} {x : α} (h : S.B b x) (hn : x ≠ 0) : S.B b x⁻¹ := by
  rcases S.kd with ⟨f, k⟩ | ⟨f, k⟩
  · have ⟨h1, h2⟩ := (k.bd b x).mp h
    have nz : (f x).num ≠ 0 := fun z => hn (k.inj _ _ (by rw [k.zero]; exact Rat.num_eq_zero.mp z))
    refine (k.bd b _).mpr ?_
    rw [k.inv, Rat.inv_def]
    exact mb_divInt nz h2 h1
  · exact k.bd _ _
theorem redn_nil : redn (α := α) 0 [] = ([], []) := rfl
theorem filter_nat {k : Nat} (p q : Nat → Bool) : ((List.range k).filter p).filter q = (List.range k).filter fun x => p x && q x := by
  rw [List.filter_filter]
  exact List.filter_congr fun x _ => by rw [Bool.and_comm]
theorem eq_nilN (l : List Nat) : PyData.eqv (.list (l.map natD)) (.list []) = decide (l = []) := by
  cases l with
  | nil => rfl
  | cons a l => rfl
theorem red_loop {D : DEnds} {m k a d : Nat} {s1 : Sl} {t : Tab α} (hm : m ≤ 1000) (hk : k ≤ 1000) (hA : gA m a ≤ 1900) (hD : gD m a d ≤ 1900) (ht : Shp m k t) (hb : TC (S := S) a d t)
    (h : ∀ s5 s6 s7 s8 s9, D.nx [.v (.d (.int p)), s1, .own ((redn k t).1.map lrD), .own ((redn k t).2.map natD), .v (.d (S.enc 0)), s5, s6, s7, s8, s9, .no]) :
    ∀ (n c : Nat) (s5 s6 s7 s8 s9 : Sl), c + n = k →
    loopD (gNm 5) g_reduced_in_b1 D ((List.range' c n).map natD) [.v (.d (.int p)), s1, .own ((redn c t).1.map lrD), .own ((redn c t).2.map natD), .v (.d (S.enc 0)), s5, s6, s7, s8, s9, .no]
  | 0, c, s5, s6, s7, s8, s9, e => by
    have e : c = k := by omega
    subst e
    exact h _ _ _ _ _
  | n + 1, c, s5, s6, s7, s8, s9, e => by
    have ih := red_loop (D := D) (s1 := s1) hm hk hA hD ht hb h n (c + 1)
    have hc : c < k := by omega
    obtain ⟨tc, inv⟩ := redn_TC ht hb c (by omega)
    have es : redn (c + 1) t = rst (redn c t) c := by unfold redn; rw [List.range_succ, List.foldl_append]; rfl
    rw [es] at ih
    generalize redn c t = st at tc inv ih
    obtain ⟨rows, piv⟩ := st
    have hs := inv.shp
    have r := hs.rows
    have pl := inv.le
    dsimp only at tc inv hs r pl
    have ga := Nat.le_trans (gA_mono a pl) hA
    have gd := Nat.le_trans (gD_mono a d pl) hD
    have tb : TB (S := S) 1900 rows := tc.tb ga gd
    rw [List.range'_succ, List.map_cons]
    unfold loopD
    ac_rfl
    generalize hn : loopD (gNm 5) g_reduced_in_b1 D ((List.range' (c + 1) n).map natD) = next
    rw [hn] at ih
    simp only [g_reduced_in_b1]
    array_mem_dec
    have ei : (irg (piv.length : Int) (rows.length : Int)).map PyData.int = ((List.range rows.length).filter fun k => decide (piv.length ≤ k)).map natD := by rw [← rngD_irg]; exact rng2_nat _ _
    have el : (((List.range rows.length).filter fun k => decide (piv.length ≤ k)).map natD).length ≤ 100000 := by
      rw [List.length_map]
      exact Nat.le_trans (List.length_filter_le _ _) (by rw [List.length_range]; omega)
    simp only [List.length_map (as := piv), List.length_map (as := rows)]
    rw [ei]
    refine ⟨⟨⟨by omega, by omega⟩, by omega, by omega⟩, el, lcD_test natD (fun x => !decide (ent rows x c = 0)) natD (fun x hx P hP => ?_) ?_⟩
    · have hx := List.mem_range.mp (List.mem_filter.mp hx).1
      have rx := row_of hs (by omega : x < m)
      simp only [natD]
      array_mem_dec
      refine row_i hx ?_
      simp only [lrD]
      array_mem_dec
      refine ent_i (by omega) (e_neG (sh_enc _) (sh_enc _) ?_)
      rw [enc_zero_iff]
      cases hq : decide ((rows.getD x []).getD c 0 = 0) with
      | false => rw [show decide (ent rows x c = 0) = false from hq] at hP; exact hP
      | true => rw [show decide (ent rows x c = 0) = true from hq] at hP; exact hP
    rw [show (List.filter (fun x => !decide (ent rows x c = 0)) (List.filter (fun k => decide (piv.length ≤ k)) (List.range rows.length))) = fnd rows c piv.length from rfl]
    cases q : fnd rows c piv.length with
    | nil =>
      have er : rst (rows, piv) c = (rows, piv) := by unfold rst; simp only [q]
      rw [er] at ih
      refine ⟨sh_nats _, ite_t rfl (ih _ _ _ _ _ (by omega))⟩
    | cons k0 l =>
      refine ⟨sh_nats _, ite_f (by simp) ⟨natD k0, e_at0, ?_⟩⟩
      obtain ⟨⟨m1, m2⟩, m3⟩ := mem_fnd.mp (show k0 ∈ fnd rows c piv.length by rw [q]; simp)
      have hat : piv.length < m := by omega
      have hk0 : k0 < m := by omega
      have lk0 := row_of hs hk0
      have vk0 : VB (S := S) 1900 (rows.getD k0 []) := tb _ (getD_mem' (by omega))
      have ck0 : CB (S := S) (gA piv.length a) (gD piv.length a d) (rows.getD k0 []) := tc _ (getD_mem' (by omega))
      have mk0 : (rows.getD k0 []).getD c 0 ∈ rows.getD k0 [] := getD_mem' (by omega)
      have ctop : VB (S := S) 1900 ((rows.getD k0 []).map ((ent rows k0 c)⁻¹ * ·)) := (CB.scale ck0 mk0 m3).vb ga ga
      have binv : S.B 1900 (ent rows k0 c)⁻¹ := B_inv (vk0 _ mk0) m3
      obtain ⟨w1, w2⟩ := swp_ent (c := c) hs hat hk0
      have er : rst (rows, piv) c = ((List.range rows.length).foldl (wip piv.length c ((swp rows c piv.length k0).getD piv.length [])) (swp rows c piv.length k0), piv ++ [c]) := by unfold rst; simp only [q]
      rw [er] at ih
      simp only [natD]
      array_mem_dec
      refine row_i (by omega) (row_i (by omega) ?_)
      refine ⟨k0, ixn_n (by omega), ?_⟩
      simp only [lrD]
      array_mem_dec
      refine ent_i (by omega) ?_
      refine ev_inverse_in (vk0 _ mk0) (by omega) m3 (ev_multiple_in (.inr rfl) binv vk0 (by omega) (by omega) (by omega) ?_)
      array_mem_dec
      refine ⟨piv.length, ixn_n (by rw [List.length_set, List.length_map]; omega), ?_⟩
      have e1 : List.set (List.set (rows.map lrD) k0 (PyData.list ((rows.getD piv.length []).map S.enc))) piv.length (PyData.list (((rows.getD k0 []).map fun x => ((rows.getD k0 []).getD c 0)⁻¹ * x).map S.enc)) = (swp rows c piv.length k0).map lrD := by
        unfold swp
        rw [List.map_set, List.map_set]
        rfl
      rw [e1]
      have et : (swp rows c piv.length k0).getD piv.length [] = (rows.getD k0 []).map ((ent rows k0 c)⁻¹ * ·) := by
        unfold swp
        rw [getD_set (by rw [List.length_set]; omega), if_pos rfl]
      rw [et] at ih
      have wr := w1.rows
      have e2 : (irg 0 (((swp rows c piv.length k0).map lrD).length : Int)).map PyData.int = (List.range rows.length).map natD := by
        rw [List.length_map, wr, r, ← rngD_irg]
        exact rng1_nat _
      rw [e2]
      refine ⟨by rw [List.length_map, wr]; exact ⟨by omega, by omega⟩, by rw [List.length_map, List.length_range]; omega, ?_⟩
      refine wipe_loop hm hk hc (Nat.le_refl 1900) (by rw [List.length_map]; exact lk0) ctop hat _ _ _ w1 (fun x hx => by have := List.mem_range.mp hx; omega) List.nodup_range (fun x hx => ?_) (fun s9 => ?_)
      · have hx := List.mem_range.mp hx
        unfold swp
        rw [getD_set (by rw [List.length_set]; omega)]
        by_cases h1 : x = piv.length
        · rw [if_pos h1]; exact ctop
        · rw [if_neg h1, getD_set (by omega)]
          by_cases h2 : x = k0
          · rw [if_pos h2]; exact tb _ (getD_mem' (by omega))
          · rw [if_neg h2]; exact tb _ (getD_mem' (by omega))
      · array_mem_dec
        have := ih (.v (.d (natD c))) (.v (.d (natD piv.length))) (.own ((k0 :: l).map natD)) (.v (.d (lrD ((rows.getD k0 []).map ((ent rows k0 c)⁻¹ * ·))))) s9 (by omega)
        dsimp only at this
        rw [List.map_append] at this
        exact ⟨by rw [List.length_map]; omega, this⟩
theorem cpA_encs : ∀ l : List α, CpA 1 (l.map S.enc)
  | [] => CpA.nil
  | a :: l => CpA.cons (cp_enc a) (cpA_encs l)
theorem cpA_lrs : ∀ t : Tab α, CpA 2 (t.map lrD)
  | [] => CpA.nil
  | r :: t => CpA.cons (Cp.list (cpA_encs r)) (cpA_lrs t)
theorem cp_tabL (t : Tab α) : Cp 3 (.list (t.map lrD)) := Cp.list (cpA_lrs t)
def natT (l : List Nat) : PD := .tuple (l.map natD)
theorem ev_reduced_in {m k a d : Nat} {t : Tab α} {R : DV → Prop} {E : EK} (hm : m ≤ 1000) (hm0 : 0 < m) (hk : k ≤ 1000) (hA : gA m a ≤ 1900) (hD : gD m a d ≤ 1900) (ht : Shp m k t) (hb : TC (S := S) a d t) (h : R (.d (.tuple [tD (redn k t).1, natT (redn k t).2]))) :
    m_reduced_in [.d (.int p), .d (tD t)] R E := by
  rw [q_reduced_in]
  refine ⟨rfl, ?_⟩
  simp only [g_reduced_in]
  have r := ht.rows
  have e0 : (tD t : PD) = .tuple (t.map fun r => .tuple (r.map S.enc)) := rfl
  rw [e0]
  array_mem_dec
  refine ⟨by rw [List.length_map]; omega, lcD_all (fun r : List α => PyData.tuple (r.map S.enc)) lrD (fun r hr P hP => ?_) ?_⟩
  · array_mem_dec
    exact hP
  refine ev_scalar_in0 (S := S) ?_
  refine ⟨(cp_tabL t).sh' (by decide), ite_f (by cases t with | nil => (simp at r; omega) | cons _ _ => simp) (row_i (i := 0) (by omega) ?_)⟩
  simp only [lrD]
  array_mem_dec
  have l0 := row_of ht hm0
  have e2 : (irg 0 (((t.getD 0 []).map S.enc).length : Int)).map PyData.int = (List.range' 0 k).map natD := by
    rw [List.length_map, l0, ← rngD_irg, ← List.range_eq_range']
    exact rng1_nat _
  rw [e2]
  refine ⟨by rw [List.length_map, l0]; exact ⟨by omega, by omega⟩, by rw [List.length_map, List.length_range']; omega, ?_⟩
  refine red_loop hm hk hA hD ht hb (fun s5 s6 s7 s8 s9 => ?_) k 0 _ _ _ _ _ (by omega)
  array_mem_dec
  have rr := (redn_TC ht hb k (Nat.le_refl _)).2.shp.rows
  refine ⟨by rw [List.length_map]; omega, lcD_all (fun r : List α => PyData.list (r.map S.enc)) rowD (fun r hr P hP => ?_) h⟩
  array_mem_dec
  exact hP
local macro_rules | `(tactic| infer_instance) => `(tactic| refine ev_reduced_in (by sizeOf_list_dec) (by sizeOf_list_dec) (by sizeOf_list_dec) (by sizeOf_list_dec) (by sizeOf_list_dec) (by sizeOf_list_dec) (by sizeOf_list_dec) ?_)
theorem ev_reduced_nil {p : Int} {α : Type} [Lean.Grind.Field α] (S : SF p α) {R : DV → Prop} {E : EK} (h : R (.d (.tuple [.tuple [], .tuple []]))) : m_reduced_in [.d (.int p), .d (.tuple [])] R E := by
  rw [q_reduced_in]
  refine ⟨rfl, ?_⟩
  simp only [g_reduced_in]
  array_mem_dec
  refine ev_scalar_in0 (S := S) ?_
  refine ⟨rfl, ite_t rfl ⟨⟨by omega, by omega⟩, by decide, ?_⟩⟩
  rw [show (irg 0 0).map PyData.int = [] from rfl]
  unfold loopD
  array_mem_dec
  exact h
local macro_rules | `(tactic| infer_instance) => `(tactic| refine ev_reduced_nil _ ?_)
end

/-! undone_in -/
section
variable {p : Int} {α : Type} [Lean.Grind.Field α] [S : SF p α] [DecidableEq α]
theorem nats_inj : ∀ {l k : List Nat}, l.map natD = k.map natD → l = k
  | [], [], _ => rfl
  | [], _ :: _, h => by cases h
  | _ :: _, [], h => by cases h
  | a :: l, b :: k, h => by
    obtain ⟨h1, h2⟩ := List.cons.inj h
    have : (a : Int) = b := PyData.int.inj h1
    rw [nats_inj h2, show a = b by omega]
theorem eqv_nats : ∀ l k : List Nat, PyData.eqvAll (l.map natD) (k.map natD) = decide (l = k)
  | [], [] => rfl
  | [], _ :: _ => rfl
  | _ :: _, [] => rfl
  | a :: l, b :: k => by
    show (PyData.eqv (natD a) (natD b) && PyData.eqvAll (l.map natD) (k.map natD)) = _
    rw [eqv_nats l k, show PyData.eqv (natD a) (natD b) = decide ((a : Int) = b) from rfl]
    by_cases h : a = b
    · subst h
      by_cases g : l = k
      · rw [decide_eq_true rfl, decide_eq_true g, decide_eq_true (by rw [g])]; rfl
      · rw [decide_eq_true rfl, decide_eq_false g, decide_eq_false (fun z => g (List.cons.inj z).2)]; rfl
    · rw [decide_eq_false (by omega : ¬(a : Int) = b), decide_eq_false (fun z => h (List.cons.inj z).1)]; rfl
theorem sh_natsT (l : List Nat) : Sh (.tuple (l.map natD)) := by
  have := sh_intsT (l.map fun n : Nat => (n : Int))
  rw [List.map_map] at this
  exact this
theorem cutL_n {β : Type} (xs : List β) {n : Nat} (h : n ≤ xs.length) : cutL xs (some (n : Int)) none = xs.drop n := by
  unfold cutL
  have e : HT.sIx xs.length 0 (some (n : Int)) = n := by
    unfold HT.sIx
    simp only []
    split
    · omega
    · omega
  rw [e, show HT.sIx xs.length xs.length none = xs.length from rfl, List.take_of_length_le (by rw [List.length_drop]; omega)]
theorem ev_undone_in {n a d : Nat} {t : Tab α} {R : DV → Prop} {E : EK} (hn : n ≤ 4) (hA : gA n a ≤ 1900) (hD : gD n a d ≤ 1900) (ht : Shp n n t) (hb : TC (S := S) a d (wideT n t)) (h : R (.d (match undT n t with | some u => tD u | none => .none))) :
    m_undone_in [.d (.int p), .d (tD t)] R E := by
  rw [q_undone_in]
  refine ⟨rfl, ?_⟩
  simp only [g_undone_in]
  have r := ht.rows
  have e0 : (tD t : PD) = .tuple (t.map rowD) := rfl
  have ll : (t.map rowD).length = n := by rw [List.length_map]; exact r
  obtain ⟨w1, w2⟩ := wide_shp ht
  rw [e0]
  array_mem_dec
  rw [ll]
  refine ev_units_in (S := S) (by omega) ?_
  rw [show (tD (uniT n : Tab α) : PD) = .tuple ((uniT n).map rowD) from rfl]
  array_mem_dec
  rw [zip_map]
  have key : ∀ {R : DV → Prop} {E : EK}, R (.d (.tuple [tD (redn (2 * n) (wideT n t)).1, natT (redn (2 * n) (wideT n t)).2])) → m_reduced_in [.d (.int p), .d (tD (wideT n t))] R E := fun {R E} h => by
    by_cases z : n = 0
    · subst z
      have : t = [] := List.eq_nil_of_length_eq_zero r
      subst this
      exact ev_reduced_nil S h
    · exact ev_reduced_in (by omega) (by omega) (by omega) hA hD w1 hb h
  refine ⟨by rw [List.length_map, List.length_zip]; omega, lcD_all _ (fun x : List α × List α => rowD (x.1 ++ x.2)) (fun x hx P hP => ?_) ?_⟩
  · simp only [rowD]
    array_mem_dec
    have h1 := List.of_mem_zip (a := x.1) (b := x.2) hx
    have l1 := ht.cols _ h1.1
    have l2 := (Shp.uni n : Shp n n (uniT n : Tab α)).cols _ h1.2
    exact ⟨by rw [List.length_map, List.length_map]; omega, hP⟩
  rw [show (t.zip (uniT n)).map (fun x : List α × List α => (rowD (x.1 ++ x.2) : PD)) = (wideT n t).map rowD by unfold wideT; rw [zipW_map, List.map_map]; rfl]
  refine key ?_
  simp only [natT]
  array_mem_dec
  rw [show (irg 0 (n : Int)).map PyData.int = (List.range n).map natD by rw [← rngD_irg]; exact rng1_nat n]
  refine ⟨⟨by omega, by omega⟩, e_eqG (sh_natsT _) (sh_natsT _) ?_⟩
  rw [show ∀ a b, PyData.eqv (.tuple a) (.tuple b) = PyData.eqvAll a b from fun _ _ => rfl, eqv_nats]
  array_mem_dec
  unfold undT at h
  by_cases q : (redn (2 * n) (wideT n t)).2 = List.range n
  · refine ite_t (decide_eq_true q) ?_
    rw [if_pos q] at h
    have ri := (redn_TC w1 hb (2 * n) (Nat.le_refl _)).2.shp
    rw [show (tD (redn (2 * n) (wideT n t)).1 : PD) = .tuple ((redn (2 * n) (wideT n t)).1.map rowD) from rfl]
    array_mem_dec
    refine ⟨by rw [List.length_map, ri.rows]; omega, lcD_all _ (fun r : List α => rowD (r.drop n)) (fun r hr P hP => ?_) ?_⟩
    · have l1 := ri.cols r hr
      simp only [rowD]
      array_mem_dec
      rw [cutL_n r (by omega)]
      exact hP
    · rw [show (redn (2 * n) (wideT n t)).1.map (fun r => (rowD (r.drop n) : PD)) = ((redn (2 * n) (wideT n t)).1.map (·.drop n)).map rowD by rw [List.map_map]; rfl]
      exact h
  · refine ite_f (decide_eq_false q) ?_
    rw [if_neg q] at h
    exact h
local macro_rules | `(tactic| infer_instance) => `(tactic| refine ev_undone_in (by sizeOf_list_dec) (by sizeOf_list_dec) (by sizeOf_list_dec) (by sizeOf_list_dec) (by sizeOf_list_dec) ?_)
end

/-! determinant_in -/
section
variable {p : Int} {α : Type} [Lean.Grind.Field α] [S : SF p α] [DecidableEq α]
omit [DecidableEq α] in
theorem less_mul {e i : α} : ∀ (r q : List α), lessR r (e * i) q = lessR r e (q.map (i * ·))
  | [], _ => rfl
  | _ :: _, [] => rfl
  | x :: r, y :: q => by
    have ih := less_mul (e := e) (i := i) r q
    unfold lessR at ih ⊢
    rw [List.zipWith_cons_cons, List.map_cons, List.zipWith_cons_cons, ih]
    congr 1
    grind
theorem dwp_TC {n k c a d : Nat} {top : List α} {inv : α} (hc : c < k) (htop : CB (S := S) a a (top.map (inv * ·))) (hl : top.length = k) : ∀ (l : List Nat) (rows : Tab α), Shp n k rows → (∀ x ∈ l, x < n) → l.Nodup → (∀ x ∈ l, CB (S := S) a d (rows.getD x [])) → TC (S := S) (2 * a + 1) (d + a) rows →
    TC (S := S) (2 * a + 1) (d + a) (l.foldl (dwp c top inv) rows)
  | [], _, _, _, _, _, h => h
  | x :: l, rows, hs, hm, hd, hx, h => by
    rw [List.foldl_cons]
    obtain ⟨hd1, hd2⟩ := List.nodup_cons.mp hd
    have hxm := hm x (by simp)
    have r := hs.rows
    have cx := hx x (by simp)
    refine dwp_TC hc htop hl l _ (set_shp hs (less_len (row_of hs hxm) hl)) (fun y hy => hm y (by simp [hy])) hd2 (fun y hy => ?_) (mem_set' h ?_)
    · unfold dwp
      rw [getD_set (by omega), if_neg (fun q : y = x => hd1 (by rw [← q]; exact hy))]
      exact hx y (by simp [hy])
    · rw [less_mul]
      exact CB.less cx (getD_mem' (by rw [row_of hs hxm]; exact hc)) htop (Nat.le_refl _) (Nat.le_refl _)
theorem dst_TC {n c k0 a d : Nat} {rows : Tab α} (h : Shp n n rows) (hc : c < n) (hk : k0 < n) (hne : ent rows k0 c ≠ 0) (hb : TC (S := S) a d rows) : TC (S := S) (2 * a + 1) (d + a) (dst rows c k0) := by
  have r := h.rows
  have ck0 : CB (S := S) a d (rows.getD k0 []) := hb _ (getD_mem' (by omega))
  have ctop : CB (S := S) a a ((rows.getD k0 []).map ((ent rows k0 c)⁻¹ * ·)) := CB.scale ck0 (getD_mem' (by rw [row_of h hk]; exact hc)) hne
  have s1 : Shp n n (dsw rows c k0) := set_shp (set_shp h (row_of h hc)) (row_of h hk)
  unfold dst
  refine dwp_TC (n := n) hc ctop (row_of h hk) _ _ s1 (fun x hx => by have := List.mem_range.mp (List.mem_filter.mp hx).1; omega) (List.nodup_range.filter _) (fun x hx => ?_) ?_
  · have hx := List.mem_range.mp (List.mem_filter.mp hx).1
    unfold dsw
    rw [getD_set (by rw [List.length_set]; omega)]
    split
    · exact ck0
    · rw [getD_set (by omega)]
      split
      · exact hb _ (getD_mem' (by omega))
      · exact hb _ (getD_mem' (by omega))
  · unfold dsw
    refine mem_set' (mem_set' (hb.le (by omega) (by omega)) ?_) (ck0.le (by omega) (by omega))
    exact (hb _ (getD_mem' (by omega))).le (by omega) (by omega)
theorem down_loop {D : DEnds} {m k c a : Nat} {top : List α} {inv : α} {s1 s3 s4 s6 : Sl} (hm : m ≤ 1000) (hk : k ≤ 1000) (hc : c < k) (ha : 2 * a ≤ 1900) (ht : top.length = k) (bt : VB a top) (bi : S.B a inv) :
    ∀ (l : List Nat) (rows : Tab α) (s9 : Sl), Shp m k rows → (∀ x ∈ l, x < m) → l.Nodup → (∀ x ∈ l, VB a (rows.getD x [])) →
    (∀ s9, D.nx [.v (.d (.int p)), s1, .own ((l.foldl (dwp c top inv) rows).map lrD), s3, s4, .v (.d (.int c)), s6, .v (.d (lrD top)), .v (.d (S.enc inv)), s9, .no]) →
    loopD (gNm 9) g_determinant_in_b0 D (l.map natD) [.v (.d (.int p)), s1, .own (rows.map lrD), s3, s4, .v (.d (.int c)), s6, .v (.d (lrD top)), .v (.d (S.enc inv)), s9, .no]
  | [], rows, s9, _, _, _, _, h => h _
  | x :: l, rows, s9, hs, hl, hd, hb, h => by
    have r := hs.rows
    have hx := hl x (by simp)
    have rl := row_of hs hx
    obtain ⟨hd1, hd2⟩ := List.nodup_cons.mp hd
    rw [List.map_cons]
    unfold loopD
    ac_rfl
    generalize hn : loopD (gNm 9) g_determinant_in_b0 D (l.map natD) = next
    simp only [g_determinant_in_b0, natD]
    array_mem_dec
    refine row_i (by omega) (row_i (by omega) ?_)
    simp only [lrD]
    array_mem_dec
    have bx := hb x (by simp)
    have be : S.B a ((rows.getD x []).getD c 0) := bx _ (getD_mem' (by omega))
    refine ent_i (r := rows.getD x []) (j := c) (by omega) ?_
    refine ev_times_in be bi (by omega) (by omega) ?_
    refine ev_less_in (b := 2 * a) (fun y hy => B_le (bx y hy) (by omega)) (fun y hy => B_le (bt y hy) (by omega)) (B_le (B_mul be bi) (by omega)) (by omega) (by omega) ?_
    ac_rfl
    refine ⟨x, ixn_n (by rw [List.length_map]; omega), ?_⟩
    have e : dwp c top inv rows x = rows.set x (lessR (rows.getD x []) (ent rows x c * inv) top) := rfl
    rw [show (PyData.list (List.map SF.enc (lessR (rows.getD x []) ((rows.getD x []).getD c 0 * inv) top))) = lrD (lessR (rows.getD x []) (ent rows x c * inv) top) from rfl]
    rw [← List.map_set, ← e, ← hn]
    rw [List.foldl_cons] at h
    refine down_loop hm hk hc ha ht bt bi l _ _ (by rw [e]; exact set_shp hs (less_len rl ht)) (fun y hy => hl y (by simp [hy])) hd2 (fun y hy => ?_) h
    rw [e, getD_set (by omega), if_neg (fun q : y = x => hd1 (by rw [← q]; exact hy))]
    exact hb y (by simp [hy])
theorem B_neg {b : Nat} {x : α} (h : S.B b x) : S.B b (-x) := by
  rcases S.kd with ⟨f, k⟩ | ⟨f, k⟩
  · have := (k.bd b x).mp h
    refine (k.bd b _).mpr ?_
    rw [k.neg]
    unfold QB
    rw [Rat.neg_num, Rat.neg_den]
    refine ⟨?_, this.2⟩
    have := this.1
    unfold MB at this ⊢
    rw [Int.natAbs_neg]
    exact this
  · exact k.bd _ _
theorem dst_shp {n c k0 : Nat} {rows : Tab α} (h : Shp n n rows) (hc : c < n) (hk : k0 < n) : Shp n n (dst rows c k0) := by
  have r := h.rows
  have top : (dsw rows c k0).getD c [] = rows.getD k0 [] := by unfold dsw; rw [getD_set (by rw [List.length_set]; omega), if_pos rfl]
  have s1 : Shp n n (dsw rows c k0) := set_shp (set_shp h (row_of h hc)) (row_of h hk)
  have key : ∀ (l : List Nat) (t : Tab α), Shp n n t → (∀ x ∈ l, x < n) → Shp n n (l.foldl (dwp c (rows.getD k0 []) (ent rows k0 c)⁻¹) t) := fun l => by
    induction l with
    | nil => intro t ht _; exact ht
    | cons x l ih => intro t ht hl; exact ih _ (set_shp ht (less_len (row_of ht (hl x (by simp))) (row_of h hk))) fun y hy => hl y (by simp [hy])
  exact key _ _ s1 fun x hx => by have := List.mem_range.mp (List.mem_filter.mp hx).1; omega
theorem detL_B {m a d : Nat} (hA : gA m a ≤ 440) (hD : gD m a d ≤ 440) : ∀ (n c : Nat) (rows : Tab α) (f : α), c + n = m → Shp m m rows → TC (S := S) (gA c a) (gD c a d) rows → S.B (c * 440 + 1) f → S.B (m * 440 + 1) (detL n c rows f)
  | 0, c, rows, f, e, hs, tc, bf => B_le bf (by have e : c = m := by omega
                                                rw [e]; exact Nat.le_refl _)
  | n + 1, c, rows, f, e, hs, tc, bf => by
    have r := hs.rows
    unfold detL
    cases q : fnd rows c c with
    | nil => simp only [q]; exact B_le B_zero (by omega)
    | cons k0 l =>
      simp only [q]
      obtain ⟨⟨m1, m2⟩, m3⟩ := mem_fnd.mp (show k0 ∈ fnd rows c c by rw [q]; simp)
      have ga := Nat.le_trans (gA_mono a (by omega : c ≤ m)) hA
      have gd := Nat.le_trans (gD_mono a d (by omega : c ≤ m)) hD
      have bp : S.B 440 (ent rows k0 c) := (tc.tb ga gd) _ (getD_mem' (by omega)) _ (getD_mem' (by rw [row_of hs (by omega)]; omega))
      refine detL_B hA hD n (c + 1) _ _ (by omega) (dst_shp hs (by omega) (by omega)) (dst_TC hs (by omega) (by omega) m3 tc) ?_
      split
      · exact B_le (B_mul bf bp) (by omega)
      · exact B_le (B_mul bf (B_neg bp)) (by omega)
theorem det_loop {D : DEnds} {m a d : Nat} {s1 : Sl} {v : α} (hm : m ≤ 4) (hA : gA m a ≤ 440) (hD : gD m a d ≤ 440) (hr : v = 0 → ∀ ρ, D.rt ρ (.d (S.enc v)))
    (h : ∀ rows s5 s6 s7 s8 s9, D.nx [.v (.d (.int p)), s1, .own rows, .v (.d (S.enc 0)), .v (.d (S.enc v)), s5, s6, s7, s8, s9, .no]) :
    ∀ (n c : Nat) (rows : Tab α) (f : α) (s5 s6 s7 s8 s9 : Sl), c + n = m → Shp m m rows → TC (S := S) (gA c a) (gD c a d) rows → S.B (c * 440 + 1) f → detL n c rows f = v →
    loopD (gNm 5) g_determinant_in_b1 D ((List.range' c n).map natD) [.v (.d (.int p)), s1, .own (rows.map lrD), .v (.d (S.enc 0)), .v (.d (S.enc f)), s5, s6, s7, s8, s9, .no]
  | 0, c, rows, f, s5, s6, s7, s8, s9, e, hs, tc, bf, hv => by
    have hv : f = v := hv
    rw [hv]
    exact h _ _ _ _ _ _
  | n + 1, c, rows, f, s5, s6, s7, s8, s9, e, hs, tc, bf, hv => by
    have ih := det_loop (D := D) (s1 := s1) hm hA hD hr h n (c + 1)
    have hc : c < m := by omega
    have r := hs.rows
    have ga := Nat.le_trans (gA_mono a (by omega : c ≤ m)) hA
    have gd := Nat.le_trans (gD_mono a d (by omega : c ≤ m)) hD
    have tb : TB (S := S) 440 rows := tc.tb ga gd
    rw [List.range'_succ, List.map_cons]
    unfold loopD
    ac_rfl
    generalize hn : loopD (gNm 5) g_determinant_in_b1 D ((List.range' (c + 1) n).map natD) = next
    rw [hn] at ih
    simp only [g_determinant_in_b1, natD]
    array_mem_dec
    have ei : (irg (c : Int) (rows.length : Int)).map PyData.int = ((List.range rows.length).filter fun k => decide (c ≤ k)).map natD := by rw [← rngD_irg]; exact rng2_nat _ _
    have el : (((List.range rows.length).filter fun k => decide (c ≤ k)).map natD).length ≤ 100000 := by
      rw [List.length_map]
      exact Nat.le_trans (List.length_filter_le _ _) (by rw [List.length_range]; omega)
    simp only [List.length_map (as := rows)]
    rw [ei]
    refine ⟨⟨⟨by omega, by omega⟩, by omega, by omega⟩, el, lcD_test natD (fun x => !decide (ent rows x c = 0)) natD (fun x hx P hP => ?_) ?_⟩
    · have hx := List.mem_range.mp (List.mem_filter.mp hx).1
      have rx := row_of hs (by omega : x < m)
      simp only [natD]
      array_mem_dec
      refine row_i hx ?_
      simp only [lrD]
      array_mem_dec
      refine ent_i (by omega) (e_neG (sh_enc _) (sh_enc _) ?_)
      rw [enc_zero_iff]
      cases hq : decide ((rows.getD x []).getD c 0 = 0) with
      | false => rw [show decide (ent rows x c = 0) = false from hq] at hP; exact hP
      | true => rw [show decide (ent rows x c = 0) = true from hq] at hP; exact hP
    rw [show (List.filter (fun x => !decide (ent rows x c = 0)) (List.filter (fun k => decide (c ≤ k)) (List.range rows.length))) = fnd rows c c from rfl]
    cases q : fnd rows c c with
    | nil =>
      have hv2 : 0 = v := by rw [← hv]; unfold detL; simp only [q]
      refine ⟨sh_nats _, ite_t rfl ?_⟩
      rw [show (S.enc 0) = S.enc v by rw [hv2]]
      exact hr hv2.symm _
    | cons k0 l =>
      obtain ⟨⟨m1, m2⟩, m3⟩ := mem_fnd.mp (show k0 ∈ fnd rows c c by rw [q]; simp)
      have hk0 : k0 < m := by omega
      have lk0 := row_of hs hk0
      have vk0 : VB (S := S) 440 (rows.getD k0 []) := tb _ (getD_mem' (by omega))
      have mk0 : (rows.getD k0 []).getD c 0 ∈ rows.getD k0 [] := getD_mem' (by omega)
      have binv : S.B 440 (ent rows k0 c)⁻¹ := B_inv (vk0 _ mk0) m3
      have hv2 : detL n (c + 1) (dst rows c k0) (f * if k0 = c then ent rows k0 c else -ent rows k0 c) = v := by rw [← hv]; unfold detL; simp only [q]; cases n <;> rfl
      have w1 : Shp m m (dsw rows c k0) := set_shp (set_shp hs (row_of hs hc)) lk0
      have w2 : TC (S := S) (gA (c + 1) a) (gD (c + 1) a d) (dst rows c k0) := dst_TC hs hc hk0 m3 tc
      have e1 : List.set (List.set (rows.map lrD) k0 (PyData.list ((rows.getD c []).map S.enc))) c (PyData.list ((rows.getD k0 []).map S.enc)) = (dsw rows c k0).map lrD := by
        unfold dsw
        rw [List.map_set, List.map_set]
        rfl
      refine ⟨sh_nats _, ite_f (by simp) ⟨natD k0, e_at0, ?_⟩⟩
      simp only [natD]
      array_mem_dec
      refine row_i (by omega) (row_i (by omega) ?_)
      simp only [natD, lrD]
      array_mem_dec
      refine ⟨k0, ixn_n (by omega), ?_⟩
      refine ⟨c, ixn_n (by rw [List.length_set, List.length_map]; omega), ?_⟩
      rw [e1]
      have wr := w1.rows
      have e2 : (irg ((c : Int) + 1) (((dsw rows c k0).map lrD).length : Int)).map PyData.int = ((List.range rows.length).filter fun k => decide (c + 1 ≤ k)).map natD := by
        rw [List.length_map, wr, r, ← rngD_irg]
        exact rng2_nat (c + 1) _
      have tail : ∀ (g : α) (s6 : Sl), S.B ((c + 1) * 440 + 1) g → detL n (c + 1) (dst rows c k0) g = v →
          (RgB ((c : Int) + 1) ∧ RgB (((dsw rows c k0).map lrD).length : Int)) ∧ ((irg ((c : Int) + 1) (((dsw rows c k0).map lrD).length : Int)).map PyData.int).length ≤ 100000 ∧
          loopD (gNm 9) g_determinant_in_b0 { nx := next, rt := D.rt, bk := D.nx, ct := next, ex := D.ex } ((irg ((c : Int) + 1) (((dsw rows c k0).map lrD).length : Int)).map PyData.int)
            [.v (.d (.int p)), s1, .own ((dsw rows c k0).map lrD), .v (.d (S.enc 0)), .v (.d (S.enc g)), .v (.d (.int c)), s6, .v (.d (.list ((rows.getD k0 []).map S.enc))), .v (.d (S.enc (ent rows k0 c)⁻¹)), s9, .no] := fun g s6 bg hg => by
        rw [e2]
        refine ⟨⟨⟨by omega, by omega⟩, by rw [List.length_map, wr]; exact ⟨by omega, by omega⟩⟩, ?_, ?_⟩
        · rw [List.length_map]
          exact Nat.le_trans (List.length_filter_le _ _) (by rw [List.length_range]; omega)
        refine down_loop (a := 440) (by omega) (by omega) hc (by omega) lk0 vk0 binv _ _ _ w1 (fun x hx => by have := List.mem_range.mp (List.mem_filter.mp hx).1; omega) (List.nodup_range.filter _) (fun x hx => ?_) (fun s9 => ?_)
        · have hx := List.mem_range.mp (List.mem_filter.mp hx).1
          unfold dsw
          rw [getD_set (by rw [List.length_set]; omega)]
          split
          · exact vk0
          · rw [getD_set (by omega)]
            split
            · exact tb _ (getD_mem' (by omega))
            · exact tb _ (getD_mem' (by omega))
        · exact ih _ g _ _ _ _ _ (by omega) (dst_shp hs hc hk0) w2 bg hg
      by_cases z : k0 = c
      · refine ite_t (decide_eq_true (by omega)) (ent_i (by omega) (ev_times_in bf (vk0 _ mk0) (by omega) (by omega) (ent_i (by omega) (ev_inverse_in (vk0 _ mk0) (by omega) m3 ?_))))
        rw [if_pos z] at hv2
        exact tail _ _ (B_le (B_mul bf (vk0 _ mk0)) (by omega)) hv2
      · refine ite_f (decide_eq_false (by omega)) (ent_i (by omega) (ev_negative_in (S := S) ?_))
        have bn : S.B 440 (-(rows.getD k0 []).getD c 0) := B_neg (vk0 _ mk0)
        refine ev_times_in bf bn (by omega) (by omega) (ent_i (by omega) (ev_inverse_in (vk0 _ mk0) (by omega) m3 ?_))
        rw [if_neg z] at hv2
        exact tail _ _ (B_le (B_mul bf bn) (by omega)) hv2
theorem det_B {n a d : Nat} {t : Tab α} (hn : n ≤ 4) (hA : gA n a ≤ 440) (hD : gD n a d ≤ 440) (ht : Shp n n t) (hb : TC (S := S) a d t) : S.B (n * 440 + 1) (detF n (ent t)) := by
  rw [← detL_top hn ht]
  exact detL_B hA hD n 0 t 1 (by omega) ht hb (B_le B_one (by omega))
theorem ev_determinant_in {n a d : Nat} {t : Tab α} {R : DV → Prop} {E : EK} (hn : n ≤ 4) (hA : gA n a ≤ 440) (hD : gD n a d ≤ 440) (ht : Shp n n t) (hb : TC (S := S) a d t) (h : R (.d (S.enc (detF n (ent t))))) :
    m_determinant_in [.d (.int p), .d (tD t)] R E := by
  rw [q_determinant_in]
  refine ⟨rfl, ?_⟩
  simp only [g_determinant_in]
  have r := ht.rows
  have e0 : (tD t : PD) = .tuple (t.map fun r => .tuple (r.map S.enc)) := rfl
  rw [e0]
  array_mem_dec
  refine ⟨by rw [List.length_map]; omega, lcD_all (fun r : List α => PyData.tuple (r.map S.enc)) lrD (fun r hr P hP => ?_) ?_⟩
  · array_mem_dec
    exact hP
  refine ev_scalar_in0 (S := S) (ev_scalar_in1 (S := S) ?_)
  have e2 : (irg 0 ((t.map lrD).length : Int)).map PyData.int = (List.range' 0 n).map natD := by
    rw [List.length_map, r, ← rngD_irg, ← List.range_eq_range']
    exact rng1_nat _
  rw [e2]
  refine ⟨by rw [List.length_map, r]; exact ⟨by omega, by omega⟩, by rw [List.length_map, List.length_range']; omega, ?_⟩
  refine det_loop (v := detF n (ent t)) hn hA hD (fun z ρ => h) (fun rows s5 s6 s7 s8 s9 => ?_) n 0 t 1 _ _ _ _ _ (by omega) ht hb (B_le B_one (by omega)) (detL_top hn ht)
  array_mem_dec
  exact h
local macro_rules | `(tactic| infer_instance) => `(tactic| refine ev_determinant_in (by sizeOf_list_dec) (by sizeOf_list_dec) (by sizeOf_list_dec) (by sizeOf_list_dec) (by sizeOf_list_dec) ?_)
end

/-! need_prime, need_scalar -/
theorem ev_need_prime {p : Int} {R : DV → Prop} {E : EK} (hp : Pz p) (h : R (.d .none)) : m_need_prime [.d (.int p)] R E := by
  rw [q_need_prime]
  refine ⟨rfl, ?_⟩
  simp only [g_need_prime]
  array_get_dec
  refine ev_is_prime_in ?_
  array_get_dec
  rw [isPrime_ok hp]
  exact ite_f rfl h

local macro_rules | `(tactic| infer_instance) => `(tactic| refine ev_need_prime (by sizeOf_list_dec) ?_)

/-! is_vector_in, is_table_in, is_some_table of any object -/
def isVec (p k : Int) : PD → Bool
  | .tuple xs => decide ((xs.length : Int) = k) && xs.all (isSc p)
  | _ => false
def isTab (p m k : Int) : PD → Bool
  | .tuple xs => decide ((xs.length : Int) = m) && xs.all (isVec p k)
  | _ => false
def isT : PD → Bool
  | .tuple _ => true
  | _ => false
def lenT : PD → Int
  | .tuple xs => xs.length
  | _ => 0
def hdOk (p : Int) : List PD → Bool
  | [] => true
  | r :: rs => isTab p ((r :: rs).length : Int) (lenT r) (.tuple (r :: rs))
def isSome (p : Int) : PD → Bool
  | .tuple xs => xs.all isT && hdOk p xs
  | _ => false
theorem isTup_eq {n : Int} (xs : List PD) : isTup n n (.tuple xs) = decide ((xs.length : Int) = n) := by
  show (decide (n ≤ (xs.length : Int)) && decide ((xs.length : Int) ≤ n)) = _
  rw [← Bool.decide_and]
  exact decide_eq_decide.mpr (by omega)
theorem ev_is_vector_in {p k : Int} {x : PD} {R : DV → Prop} {E : EK} (hk : k ≤ 100000) (h : R (.d (.bool (isVec p k x)))) : m_is_vector_in [.d (.int p), .d (.int k), .d x] R E := by
  rw [q_is_vector_in]
  refine ⟨rfl, ?_⟩
  simp only [g_is_vector_in]
  array_get_dec
  refine ev_is_tuple ?_
  array_get_dec
  cases x with
  | tuple xs =>
    rw [isTup_eq]
    unfold isVec at h
    by_cases q : (xs.length : Int) = k
    · refine ite_t (decide_eq_true q) ?_
      array_get_dec
      refine ⟨by omega, ?_⟩
      rw [show xs = xs.map id by simp]
      refine lcD_all id (fun x => .bool (isSc p x)) (fun x _ P hP => ?_) ?_
      · array_get_dec
        exact ev_is_scalar_in hP
      have em : xs.map (fun x => PyData.bool (isSc p x)) = (xs.map (isSc p)).map .bool := by rw [List.map_map]; rfl
      rw [em]
      refine ⟨_, asBools_map _, ?_⟩
      rw [List.all_map]
      simpa [q] using h
    · refine ite_f (decide_eq_false q) ?_
      simpa [q] using h
  | _ => exact ite_f rfl h
theorem ev_is_table_in {p m k : Int} {x : PD} {R : DV → Prop} {E : EK} (hm : m ≤ 100000) (hk : k ≤ 100000) (h : R (.d (.bool (isTab p m k x)))) : m_is_table_in [.d (.int p), .d (.int m), .d (.int k), .d x] R E := by
  rw [q_is_table_in]
  refine ⟨rfl, ?_⟩
  simp only [g_is_table_in]
  array_get_dec
  refine ev_is_tuple ?_
  array_get_dec
  cases x with
  | tuple xs =>
    rw [isTup_eq]
    unfold isTab at h
    by_cases q : (xs.length : Int) = m
    · refine ite_t (decide_eq_true q) ?_
      array_get_dec
      refine ⟨by omega, ?_⟩
      rw [show xs = xs.map id by simp]
      refine lcD_all id (fun x => .bool (isVec p k x)) (fun x _ P hP => ?_) ?_
      · array_get_dec
        exact ev_is_vector_in hk hP
      have em : xs.map (fun x => PyData.bool (isVec p k x)) = (xs.map (isVec p k)).map .bool := by rw [List.map_map]; rfl
      rw [em]
      refine ⟨_, asBools_map _, ?_⟩
      rw [List.all_map]
      simpa [q] using h
    · refine ite_f (decide_eq_false q) ?_
      simpa [q] using h
  | _ => exact ite_f rfl h
/-- is_tuple(x, 0, None) -/
theorem ev_is_tuple0 {x : PD} {R : DV → Prop} {E : EK} (h : R (.d (.bool (isT x)))) : m_is_tuple [.d x, .d (.int 0), .d .none] R E := by
  rw [q_is_tuple]
  refine ⟨rfl, ?_⟩
  cases x with
  | tuple xs =>
    simp only [g_is_tuple]
    array_get_dec
    refine ite_t rfl (ite_t (decide_eq_true (by omega)) ?_)
    exact h
  | _ =>
    simp only [g_is_tuple]
    array_get_dec
    exact ite_f rfl h
theorem ev_is_some_table {p : Int} {x : PD} {R : DV → Prop} {E : EK} (hs : Sh x) (hl : ∀ xs, x = .tuple xs → xs.length ≤ 100000 ∧ ∀ r ∈ xs, lenT r ≤ 100000) (h : R (.d (.bool (isSome p x)))) : m_is_some_table [.d (.int p), .d x] R E := by
  rw [q_is_some_table]
  refine ⟨rfl, ?_⟩
  simp only [g_is_some_table]
  array_get_dec
  refine ev_is_tuple0 ?_
  array_get_dec
  cases x with
  | tuple xs =>
    obtain ⟨l1, l2⟩ := hl xs rfl
    rw [show isT (.tuple xs) = true from rfl]
    refine ite_f rfl ?_
    array_get_dec
    refine ⟨l1, ?_⟩
    rw [show lcD (gNm 2) tTrue _ _ xs = lcD (gNm 2) tTrue _ _ (xs.map id) by rw [List.map_id]]
    refine lcD_all id (fun x => .bool (isT x)) (fun x _ P hP => ?_) ?_
    · array_get_dec
      exact ev_is_tuple0 hP
    have em : xs.map (fun x => PyData.bool (isT x)) = (xs.map isT).map .bool := by rw [List.map_map]; rfl
    rw [em]
    refine ⟨_, asBools_map _, ?_⟩
    rw [List.all_map, show (id ∘ isT) = isT from rfl]
    have h : R (.d (.bool (xs.all isT && hdOk p xs))) := h
    cases q : xs.all isT with
    | false =>
      rw [q] at h
      exact ite_t rfl h
    | true =>
      rw [q] at h
      refine ite_f rfl ⟨hs, ?_⟩
      cases xs with
      | nil => exact ite_t rfl h
      | cons r rs =>
        refine ite_f rfl ?_
        rw [List.all_cons, Bool.and_eq_true] at q
        cases r with
        | tuple ys =>
          have l3 := l2 (.tuple ys) (by simp)
          array_get_dec
          refine ev_is_table_in (by rw [← List.length_cons (a := PyData.tuple ys)]; omega) l3 ?_
          exact h
        | _ => cases q.1
  | _ => exact ite_t rfl h
section
variable {p : Int} {α : Type} [Lean.Grind.Field α] [S : SF p α]
theorem isVec_row {k : Nat} {r : List α} (h : r.length = k) : isVec p k (rowD r) = true := by
  unfold rowD isVec
  simp only [List.length_map, h, decide_true, Bool.true_and, List.all_map, List.all_eq_true]
  intro x _
  exact isSc_enc x
theorem isTab_tD {m k : Nat} {t : Tab α} (h : Shp m k t) : isTab p m k (tD t) = true := by
  unfold tD isTab
  simp only [List.length_map, h.rows, decide_true, Bool.true_and, List.all_map, List.all_eq_true]
  intro r hr
  exact isVec_row (h.cols r hr)
theorem isSome_tD {m k : Nat} {t : Tab α} (h : Shp m k t) : isSome p (tD t) = true := by
  cases t with
  | nil => rfl
  | cons r rs =>
    have hr := h.cols r (by simp)
    have ht := isTab_tD (p := p) h
    have hm := h.rows
    unfold tD at ht ⊢
    simp only [isSome, hdOk, List.map_cons, Bool.and_eq_true]
    refine ⟨?_, ?_⟩
    · simp only [List.all_cons, List.all_map, Bool.and_eq_true, List.all_eq_true]
      exact ⟨rfl, fun x _ => rfl⟩
    · have e1 : lenT (rowD r) = (k : Int) := by
        show (((r.map S.enc).length : Nat) : Int) = k
        rw [List.length_map, hr]
      have e2 : (((rowD r :: rs.map rowD).length : Nat) : Int) = (m : Int) := by
        rw [List.length_cons, List.length_map, ← hm, List.length_cons]
      rw [e1, e2]
      exact ht
theorem cp_row {r : List α} : Cp 2 (rowD r) := by
  have : ∀ l : List α, CpA 1 (l.map S.enc) := fun l => by
    induction l with
    | nil => exact CpA.nil
    | cons a l ih => exact CpA.cons (cp_enc a) ih
  exact Cp.tup (this r)
theorem cpA_rows : ∀ t : Tab α, CpA 2 (t.map rowD)
  | [] => CpA.nil
  | r :: t => CpA.cons cp_row (cpA_rows t)
theorem cp_tab (t : Tab α) : Cp 3 (tD t) := Cp.tup (cpA_rows t)
theorem sh_tab (t : Tab α) : Sh (tD t) := (cp_tab t).sh' (by decide)
theorem rp_row {b : Nat} (hb : b ≤ 1800) : ∀ {r : List α}, VB b r → RpA 1 ((2 * b + 13) * r.length) (r.map S.enc)
  | [], _ => RpA.nil
  | a :: r, h => by
    have := RpA.cons (rp_enc (h a (by simp)) hb) (rp_row hb (r := r) fun i hi => h i (by simp [hi]))
    simp only [List.length_cons, List.map_cons, Nat.mul_add, Nat.mul_one]
    exact rpA_le this (Nat.le_refl _) (by omega)
theorem rp_rows {b m k : Nat} (hb : b ≤ 1800) : ∀ {t : Tab α}, TB b t → (∀ r ∈ t, r.length = k) → RpA 2 (((2 * b + 13) * k + 1) * t.length) (t.map rowD)
  | [], _, _ => RpA.nil
  | r :: t, h, hk => by
    have h1 := rp_row hb (h r (by simp))
    rw [hk r (by simp)] at h1
    have := RpA.cons (Rp.tup h1) (rp_rows (m := m) hb (t := t) (fun i hi => h i (by simp [hi])) fun i hi => hk i (by simp [hi]))
    simp only [List.length_cons, List.map_cons]
    rw [Nat.mul_add, Nat.mul_one, Nat.add_comm]
    exact this
theorem rp_tab {b m k : Nat} {t : Tab α} (hb : b ≤ 1800) (h : TB b t) (hs : Shp m k t) : Rp 3 (((2 * b + 13) * k + 1) * m) (tD t) := by
  have := Rp.tup (rp_rows (m := m) hb h hs.cols)
  rw [hs.rows] at this
  exact this
theorem okD_tab (t : Tab α) (hl : t.length ≤ 100000) (hr : ∀ r ∈ t, r.length ≤ 100000) : okD 9 (tD t) := by
  refine ⟨by rw [List.length_map]; exact hl, fun y hy => ?_⟩
  obtain ⟨r, hr', rfl⟩ := List.mem_map.mp hy
  refine ⟨by rw [List.length_map]; exact hr r hr', fun z hz => ?_⟩
  obtain ⟨x, _, rfl⟩ := List.mem_map.mp hz
  exact okD_enc 6 x
theorem some_tab {m k : Nat} {t : Tab α} {R : DV → Prop} {E : EK} (h : Shp m k t) (hm : m ≤ 1000) (hk : k ≤ 1000) (hR : R (.d (.bool true))) : m_is_some_table [.d (.int p), .d (tD t)] R E := by
  refine ev_is_some_table (sh_tab t) (fun xs e => ?_) (by rw [isSome_tD h]; exact hR)
  unfold tD at e
  cases e
  have := h.rows
  refine ⟨by rw [List.length_map]; omega, fun r hr => ?_⟩
  obtain ⟨q, hq, rfl⟩ := List.mem_map.mp hr
  show (((q.map S.enc).length : Nat) : Int) ≤ 100000
  rw [List.length_map, h.cols q hq]
  omega
end

local macro_rules | `(tactic| infer_instance) => `(tactic| refine ev_is_vector_in (by sizeOf_list_dec) ?_)
local macro_rules | `(tactic| infer_instance) => `(tactic| refine ev_is_table_in (by sizeOf_list_dec) (by sizeOf_list_dec) ?_)
local macro_rules | `(tactic| infer_instance) => `(tactic| refine ev_is_tuple0  ?_)
local macro_rules | `(tactic| infer_instance) => `(tactic| refine ev_is_some_table (by sizeOf_list_dec) (by sizeOf_list_dec) ?_)

/-! need_table, need_columns, need_number -/
structure BadT (p : Int) (v : PD) : Prop where
  no : ∀ (R : DV → Prop) (E : EK), R (.d (.bool false)) → m_is_some_table [.d (.int p), .d v] R E
  rp : Rp 4 3000 v
theorem bad_need_table {p : Int} {v : PD} {R : DV → Prop} {E : EK} (hp : Pz p) (hv : BadT p v) (h : E 2 v) : m_need_table [.d (.int p), .d v] R E := by
  rw [q_need_table]
  refine ⟨rfl, ?_⟩
  simp only [g_need_table]
  array_get_dec
  refine ev_need_prime hp ?_
  refine hv.no _ _ ?_
  array_get_dec
  exact ⟨v, rfl, hv.rp.ok9 (by decide) (by decide), h⟩
theorem badT {p : Int} {v : PD} (hr : Rp 4 3000 v) (hl : ∀ xs, v = .tuple xs → xs.length ≤ 100000 ∧ ∀ r ∈ xs, lenT r ≤ 100000) (h : isSome p v = false) : BadT p v :=
  ⟨fun R E hR => ev_is_some_table (hr.sh' (by decide)) hl (by rw [h]; exact hR), hr⟩
section
variable {p : Int} {α : Type} [Lean.Grind.Field α] [S : SF p α]
theorem ev_need_table {m k : Nat} {t : Tab α} {R : DV → Prop} {E : EK} (h : Shp m k t) (hm : m ≤ 1000) (hk : k ≤ 1000) (hR : R (.d .none)) : m_need_table [.d (.int p), .d (tD t)] R E := by
  rw [q_need_table]
  refine ⟨rfl, ?_⟩
  simp only [g_need_table]
  array_get_dec
  refine ev_need_prime (sf_pz p α) (some_tab h hm hk ?_)
  array_get_dec
  exact hR
theorem tab_at0 {r : List α} {t : Tab α} : atI (List.map rowD (r :: t)) 0 = some (rowD r) := e_at0
end

local macro_rules | `(tactic| infer_instance) => `(tactic| refine ev_need_table (by sizeOf_list_dec) (by sizeOf_list_dec) (by sizeOf_list_dec) ?_)

section
variable {p : Int} {α : Type} [Lean.Grind.Field α] [S : SF p α]
theorem ev_need_columns {m k : Nat} {t : Tab α} {R : DV → Prop} {E : EK} (h : Shp m k t) (hm : m ≤ 1000) (hk : k ≤ 1000) (hR : R (.d .none)) : m_need_columns [.d (.int p), .d (tD t), .d (.int k)] R E := by
  rw [q_need_columns]
  refine ⟨rfl, ?_⟩
  simp only [g_need_columns]
  array_get_dec
  refine ev_need_table h hm hk ?_
  refine ite_f (decide_eq_false (by omega)) ?_
  have hs := sh_tab (S := S) t
  cases t with
  | nil =>
    unfold tD at hs ⊢
    array_get_dec
    exact ⟨hs, ite_f rfl hR⟩
  | cons r t =>
    have hc := h.cols r (by simp)
    unfold tD at hs ⊢
    simp only [List.map_cons] at hs ⊢
    array_get_dec
    refine ⟨hs, ite_t rfl ?_⟩
    unfold rowD
    array_get_dec
    rw [List.length_map, hc, decide_eq_true rfl]
    exact ite_f rfl hR
theorem bad_need_columns {m k : Nat} {j : Int} {t : Tab α} {R : DV → Prop} {E : EK} (h : Shp m k t) (hm : m ≤ 1000) (hk : k ≤ 1000) (hj : j < 0 ∨ (0 < m ∧ j ≠ k)) (hR : E 0 (.int j)) : m_need_columns [.d (.int p), .d (tD t), .d (.int j)] R E := by
  rw [q_need_columns]
  refine ⟨rfl, ?_⟩
  simp only [g_need_columns]
  array_get_dec
  refine ev_need_table h hm hk ?_
  by_cases q : j < 0
  · exact ite_t (decide_eq_true q) hR
  refine ite_f (decide_eq_false q) ?_
  have hs := sh_tab (S := S) t
  cases t with
  | nil =>
    have := h.rows
    simp at this
    omega
  | cons r t =>
    have hc := h.cols r (by simp)
    unfold tD at hs ⊢
    simp only [List.map_cons] at hs ⊢
    array_get_dec
    refine ⟨hs, ite_t rfl ?_⟩
    unfold rowD
    array_get_dec
    rw [List.length_map, hc, decide_eq_false (by omega)]
    exact ite_t rfl hR
end

local macro_rules | `(tactic| infer_instance) => `(tactic| refine ev_need_columns (by sizeOf_list_dec) (by sizeOf_list_dec) (by sizeOf_list_dec) ?_)

/-! _law_num of 0 and 1 -/
section
variable {p : Int} {α : Type} [Lean.Grind.Field α] [S : SF p α]
theorem ev_law_num {k : Bool} {R : DV → Prop} {E : EK} (h : R (.d (S.enc (if k = true then 1 else 0)))) : m__law_num [.d (.int p), .d (.int (if k = true then 1 else 0))] R E := by
  rw [q__law_num]
  refine ⟨rfl, ?_⟩
  simp only [g__law_num]
  array_get_dec
  rcases enc01 (S := S) with ⟨rfl, e0, e1⟩ | ⟨pp, e0, e1⟩
  · refine ite_t rfl ?_
    cases k with
    | true => simp only [if_true] at h ⊢; rw [e1] at h; exact h
    | false => simp only [Bool.false_eq_true, if_false] at h ⊢; rw [e0] at h; exact h
  · have := pp.pos
    refine ite_f (decide_eq_false (by omega)) ⟨by omega, ?_⟩
    cases k with
    | true => simp only [if_true] at h ⊢; rw [e1] at h; rw [one_mod pp]; exact h
    | false => simp only [Bool.false_eq_true, if_false] at h ⊢; rw [e0] at h; rw [zero_mod pp]; exact h
theorem ev_law_num0 {R : DV → Prop} {E : EK} (h : R (.d (S.enc 0))) : m__law_num [.d (.int p), .d (.int 0)] R E := ev_law_num (S := S) (k := false) h
theorem ev_law_num1 {R : DV → Prop} {E : EK} (h : R (.d (S.enc 1))) : m__law_num [.d (.int p), .d (.int 1)] R E := ev_law_num (S := S) (k := true) h
end

local macro_rules | `(tactic| infer_instance) => `(tactic| refine ev_law_num  ?_)
local macro_rules | `(tactic| infer_instance) => `(tactic| refine ev_law_num0  ?_)
local macro_rules | `(tactic| infer_instance) => `(tactic| refine ev_law_num1  ?_)

/-! _law_plus -/
theorem ev_law_plus {p : Int} {α : Type} [Lean.Grind.Field α] [S : SF p α] {b c : Nat} {x y : α} {R : DV → Prop} {E : EK} (hx : S.B b x) (hy : S.B c y) (hb : b ≤ 4000) (hc : c ≤ 4000) (h : R (.d (S.enc (x + y)))) : m__law_plus [.d (.int p), .d (S.enc x), .d (S.enc y)] R E := by
  rw [q__law_plus]
  refine ⟨rfl, ?_⟩
  rcases S.kd with ⟨f, k⟩ | ⟨f, k⟩
  · have p0 := k.p0
    subst p0
    obtain ⟨hn, hd⟩ := (k.bd b x).mp hx
    obtain ⟨hn2, hd2⟩ := (k.bd c y).mp hy
    rw [k.en, k.add] at h
    simp only [g__law_plus]
    rw [k.en, k.en]
    unfold fr
    array_get_dec
    refine ite_f (by decide) ?_
    refine ⟨hn.ok hd2 (by omega), hn2.ok hd (by omega), hd.ok hd2 (by omega), ev_law_cut (dd_ne (f x) (f y)) (hd.mul hd2) (by omega) ((MB.add (MB.le (hn.mul hd2) (Nat.le_refl _)) ((hn2.mul hd).le (by omega))).le (by omega)) ?_⟩
    rw [← add_div]
    exact h
  · have hp := k.pp.pos
    rw [k.en, k.add] at h
    simp only [g__law_plus]
    rw [k.en, k.en]
    array_get_dec
    refine ite_t (decide_eq_true hp) ⟨by omega, ?_⟩
    rw [fmod_e (by omega)]
    exact h

local macro_rules | `(tactic| infer_instance) => `(tactic| refine ev_law_plus (by sizeOf_list_dec) (by sizeOf_list_dec) (by sizeOf_list_dec) (by sizeOf_list_dec) ?_)

/-! _law_times -/
theorem ev_law_times {p : Int} {α : Type} [Lean.Grind.Field α] [S : SF p α] {b c : Nat} {x y : α} {R : DV → Prop} {E : EK} (hx : S.B b x) (hy : S.B c y) (hb : b ≤ 4000) (hc : c ≤ 4000) (h : R (.d (S.enc (x * y)))) : m__law_times [.d (.int p), .d (S.enc x), .d (S.enc y)] R E := by
  rw [q__law_times]
  refine ⟨rfl, ?_⟩
  rcases S.kd with ⟨f, k⟩ | ⟨f, k⟩
  · have p0 := k.p0
    subst p0
    obtain ⟨hn, hd⟩ := (k.bd b x).mp hx
    obtain ⟨hn2, hd2⟩ := (k.bd c y).mp hy
    rw [k.en, k.mul] at h
    simp only [g__law_times]
    rw [k.en, k.en]
    unfold fr
    array_get_dec
    refine ite_f (by decide) ?_
    refine ⟨hn.ok hn2 (by omega), hd.ok hd2 (by omega), ev_law_cut (dd_ne (f x) (f y)) (hd.mul hd2) (by omega) ((hn.mul hn2).le (by omega)) ?_⟩
    rw [← mul_div]
    exact h
  · have hp := k.pp.pos
    have l13 := k.pp.le
    have r1 := k.rng x
    have r2 := k.rng y
    rw [k.en, k.mul] at h
    simp only [g__law_times]
    rw [k.en, k.en]
    array_get_dec
    refine ite_t (decide_eq_true hp) ⟨MB.ok (a := 4) (b := 4) (MB.of r1.1 (by omega)) (MB.of r2.1 (by omega)) (by decide), by omega, ?_⟩
    rw [fmod_e (by omega)]
    exact h

local macro_rules | `(tactic| infer_instance) => `(tactic| refine ev_law_times (by sizeOf_list_dec) (by sizeOf_list_dec) (by sizeOf_list_dec) (by sizeOf_list_dec) ?_)

/-! drawn scalars -/
theorem ev_draw_of {p : Int} {R : DV → Prop} {E : EK} (h0 : 0 < p) (h1 : p < 2 ^ 60) (h : ∀ a : Int, 0 ≤ a → a < p → R (.d (.int a))) : m__law_draw [.wel, .d (.int p)] R E := ⟨p, rfl, h0, h1, h⟩
theorem ev_law_drawn {p : Int} {α : Type} [Lean.Grind.Field α] [S : SF p α] {R : DV → Prop} {E : EK} (h : ∀ x : α, S.B 8 x → R (.d (S.enc x))) : m__law_drawn [.wel, .d (.int p)] R E := by
  rw [q__law_drawn]
  refine ⟨rfl, ?_⟩
  simp only [g__law_drawn]
  array_get_dec
  rcases S.kd with ⟨f, k⟩ | ⟨f, k⟩
  · have p0 := k.p0
    subst p0
    refine ite_f (by decide) (ev_draw_of (by decide) (by decide) fun a a0 a1 => ?_)
    array_get_dec
    refine ev_draw_of (by decide) (by decide) fun b b0 b1 => ?_
    array_get_dec
    have ma : MB 8 (a - 3) := by unfold MB; omega
    have mb : MB 8 (1 + b) := by unfold MB; omega
    refine ev_law_cut (by omega) mb (by decide) (ma.le (by decide)) ?_
    obtain ⟨x, hx⟩ := k.sur (Rat.divInt (a - 3) (1 + b))
    have q := mb_divInt (n := a - 3) (m := 1 + b) (by omega) ma mb
    have h := h x ((k.bd 8 x).mpr (by rw [hx]; exact q))
    rw [k.en, hx] at h
    exact h
  · have hp := k.pp.pos
    have := k.pp.le
    refine ite_t (decide_eq_true hp) (ev_draw_of hp (by omega) fun a a0 a1 => ?_)
    obtain ⟨x, hx⟩ := k.sur a a0 a1
    have h := h x (k.bd _ _)
    rw [k.en, hx] at h
    exact h

local macro_rules | `(tactic| infer_instance) => `(tactic| refine ev_draw_of (by sizeOf_list_dec) (by sizeOf_list_dec) ?_)
local macro_rules | `(tactic| infer_instance) => `(tactic| refine ev_law_drawn  ?_)

/-! _law_dot -/
section
variable {p : Int} {α : Type} [Lean.Grind.Field α] [S : SF p α]
theorem law_dot_loop {D : DEnds} {b : Nat} {s1 s2 : Sl} (hb : b ≤ 1000) : ∀ (l : List (α × α)) (acc : α) (c : Nat) (s4 s5 : Sl), (∀ x ∈ l, S.B b x.1 ∧ S.B b x.2) → S.B c acc → c + l.length * (2 * b + 1) ≤ 4000 →
    (∀ s4 s5, D.nx [.v (.d (.int p)), s1, s2, .v (.d (S.enc (dotA acc l))), s4, s5]) →
    loopD (gTp (gsCons (gNm 4) (gsCons (gNm 5) gsNil))) g__law_dot_b0 D (l.map (pairD (S := S))) [.v (.d (.int p)), s1, s2, .v (.d (S.enc acc)), s4, s5]
  | [], acc, c, s4, s5, _, _, _, h => h s4 s5
  | x :: l, acc, c, s4, s5, hx, hc, hl, h => by
    rw [List.map_cons]
    unfold loopD
    simp only [g__law_dot_b0, pairD]
    array_get_dec
    have h1 := hx x (by simp)
    simp only [List.length_cons, Nat.add_mul] at hl
    refine ev_law_times (S := S) h1.1 h1.2 (by omega) (by omega) ?_
    array_get_dec
    refine ev_law_plus (S := S) hc (B_mul h1.1 h1.2) (by omega) (by omega) ?_
    array_get_dec
    exact law_dot_loop hb l (acc + x.1 * x.2) (c + (b + b) + 1) _ _ (fun y hy => hx y (by simp [hy])) (B_add hc (B_mul h1.1 h1.2)) (by omega) h
theorem ev_law_dot {b : Nat} {r q : List α} {x y : PD} {R : DV → Prop} {E : EK} (hx : x = .tuple (r.map S.enc) ∨ x = .list (r.map S.enc)) (hy : y = .tuple (q.map S.enc) ∨ y = .list (q.map S.enc)) (hr : VB (S := S) b r) (hq : VB (S := S) b q) (hb : b ≤ 1000) (hl : 1 + r.length * (2 * b + 1) ≤ 4000) (h : R (.d (S.enc (dot r q)))) :
    m__law_dot [.d (.int p), .d x, .d y] R E := by
  rw [q__law_dot]
  refine ⟨rfl, ?_⟩
  have hz : (r.zip q).length ≤ r.length := by rw [List.length_zip]; omega
  have hm := Nat.mul_le_mul_right (2 * b + 1) hz
  have hrl : r.length ≤ 100000 := by
    have : r.length * 1 ≤ r.length * (2 * b + 1) := Nat.mul_le_mul_left _ (by omega)
    omega
  have key : ∀ D : DEnds, (∀ s4 s5, D.nx [.v (.d (.int p)), .v (.d x), .v (.d y), .v (.d (S.enc (dot r q))), s4, s5]) → ∀ s4 s5, loopD (gTp (gsCons (gNm 4) (gsCons (gNm 5) gsNil))) g__law_dot_b0 D ((r.zip q).map (pairD (S := S))) [.v (.d (.int p)), .v (.d x), .v (.d y), .v (.d (S.enc 0)), s4, s5] := fun D hD s4 s5 =>
    law_dot_loop (b := b) hb (r.zip q) 0 1 s4 s5 (zipB hr hq) B_zero (by omega) (by rw [dotA_dot]; exact hD)
  simp only [g__law_dot]
  array_get_dec
  refine ev_law_num0 (S := S) ?_
  rcases hx with rfl | rfl <;> rcases hy with rfl | rfl
  all_goals
    array_get_dec
    rw [zip_enc]
    refine ⟨by rw [List.length_map]; omega, key _ (fun s4 s5 => ?_) _ _⟩
    array_get_dec
    exact h
end

local macro_rules | `(tactic| infer_instance) => `(tactic| refine ev_law_dot (by sizeOf_list_dec) (by sizeOf_list_dec) (by sizeOf_list_dec) (by sizeOf_list_dec) (by sizeOf_list_dec) (by sizeOf_list_dec) ?_)

/-! the law's tables -/
section
variable {p : Int} {α : Type} [Lean.Grind.Field α] [S : SF p α]
theorem ev_law_table {m k : Nat} {R : DV → Prop} {E : EK} (hm : m ≤ 60) (hk : k ≤ 60) (h : ∀ t : Tab α, Shp m k t → TB 8 t → R (.d (tD t))) : m__law_table [.wel, .d (.int p), .d (.int m), .d (.int k)] R E := by
  rw [q__law_table]
  refine ⟨rfl, ?_⟩
  simp only [g__law_table]
  array_get_dec
  refine ⟨⟨by omega, by omega⟩, by rw [rng_natL]; omega, ?_⟩
  rw [rng_nat]
  refine lcD_any _ rowD (fun _ (r : List α) => r.length = k ∧ VB 8 r) (fun i _ P hP => ?_) fun t ht => ?_
  · array_get_dec
    refine ⟨⟨by omega, by omega⟩, by rw [rng_natL]; omega, ?_⟩
    rw [rng_nat]
    refine lcD_any _ S.enc (fun _ (x : α) => S.B 8 x) (fun j _ P hP => ?_) fun r hr => ?_
    · array_get_dec
      exact ev_law_drawn fun x hx => hP x hx
    · array_get_dec
      refine hP r ⟨?_, all2_mem (P := fun y => S.B 8 y) (fun _ _ h => h) hr⟩
      rw [all2_len hr, List.length_range]
  · array_get_dec
    have hall := all2_mem (P := fun r : List α => r.length = k ∧ VB 8 r) (fun _ _ h => h) ht
    refine h t ⟨?_, fun r hr => (hall r hr).1⟩ fun r hr => (hall r hr).2
    rw [all2_len ht, List.length_range]
theorem ev_law_product {m k n b : Nat} {s t : Tab α} {R : DV → Prop} {E : EK} (hs : Shp m k s) (ht : Shp k n t) (bs : TB b s) (bt : TB b t) (b1 : 1 ≤ b) (hb : b ≤ 1000) (hl : 1 + k * (2 * b + 1) ≤ 4000) (hm : m ≤ 1000) (hk : k ≤ 1000) (hn : n ≤ 1000) (hR : R (.d (tD (mulT n s t)))) :
    m__law_product [.d (.int p), .d (tD s), .d (tD t), .d (.int n)] R E := by
  have hr := hs.rows
  have htr := ht.rows
  rw [q__law_product]
  refine ⟨rfl, ?_⟩
  simp only [g__law_product]
  rw [show tD s = .tuple (s.map rowD) from rfl, show tD t = .tuple (t.map rowD) from rfl]
  array_get_dec
  refine ⟨by rw [List.length_map]; omega, lcD_all rowD (fun r => rowD ((trn n t).map (dot r))) (fun r hr P hP => ?_) ?_⟩
  · array_get_dec
    refine ⟨⟨by omega, by omega⟩, by rw [rng_natL]; omega, ?_⟩
    rw [rng_nat]
    refine lcD_all _ (fun j : Nat => S.enc (dot r (t.map fun q => q.getD j 0))) (fun j hj P hP => ?_) ?_
    · array_get_dec
      have hj : j < n := List.mem_range.mp hj
      refine ⟨by rw [List.length_map]; omega, lcD_all rowD (fun q => S.enc (q.getD j 0)) (fun q hq P hP => ?_) ?_⟩
      · simp only [rowD]
        array_get_dec
        exact ⟨_, row_at (by rw [ht.cols q hq]; exact hj), hP⟩
      · array_get_dec
        have e : t.map (fun q => S.enc (q.getD j 0)) = (t.map fun q => q.getD j 0).map S.enc := by rw [List.map_map]; rfl
        rw [e]
        refine ev_law_dot (.inl rfl) (.inr rfl) (bs r hr) (bt.trn (k := n) b1 _ (List.mem_map.mpr ⟨j, List.mem_range.mpr hj, rfl⟩)) hb (by rw [hs.cols r hr]; exact hl) hP
    · array_get_dec
      have e : (List.range n).map (fun j => S.enc (dot r (t.map fun q => q.getD j 0))) = ((trn n t).map (dot r)).map S.enc := by unfold trn; rw [List.map_map, List.map_map]; rfl
      rw [e]
      exact hP
  array_get_dec
  have e : s.map (fun r => rowD ((trn n t).map (dot r))) = (mulT n s t).map rowD := by unfold mulT; rw [List.map_map]; rfl
  rw [e]
  exact hR
theorem ev_law_units {n : Nat} {R : DV → Prop} {E : EK} (hn : n ≤ 1000) (h : R (.d (tD (uniT n : Tab α)))) : m__law_units [.d (.int p), .d (.int n)] R E := by
  rw [q__law_units]
  refine ⟨rfl, ?_⟩
  simp only [g__law_units]
  array_get_dec
  refine ⟨⟨by omega, by omega⟩, by rw [rng_natL]; omega, ?_⟩
  rw [rng_nat]
  refine lcD_all _ (fun i : Nat => rowD ((List.range n).map fun j => if i = j then (1 : α) else 0)) (fun i hi P hP => ?_) ?_
  · array_get_dec
    refine ⟨⟨by omega, by omega⟩, by rw [rng_natL]; omega, ?_⟩
    rw [rng_nat]
    refine lcD_all _ (fun j : Nat => S.enc (if i = j then (1 : α) else 0)) (fun j hj P hP => ?_) ?_
    · array_get_dec
      refine ev_law_num (S := S) (k := decide ((i : Int) = (j : Int))) ?_
      have e : (if decide ((i : Int) = (j : Int)) = true then (1 : α) else 0) = if i = j then 1 else 0 := by
        by_cases z : i = j
        · rw [if_pos z, if_pos (decide_eq_true (by omega))]
        · rw [if_neg z, if_neg (by rw [decide_eq_true_eq]; omega)]
      rw [e]
      exact hP
    · array_get_dec
      have e : (List.range n).map (fun j => S.enc (if i = j then (1 : α) else 0)) = ((List.range n).map fun j => if i = j then (1 : α) else 0).map S.enc := by rw [List.map_map]; rfl
      rw [e]
      exact hP
  · array_get_dec
    have e : (List.range n).map (fun i => rowD ((List.range n).map fun j => if i = j then (1 : α) else 0)) = (uniT n : Tab α).map rowD := by unfold uniT; rw [List.map_map]; rfl
    rw [e]
    exact h
end

local macro_rules | `(tactic| infer_instance) => `(tactic| refine ev_law_table (by sizeOf_list_dec) (by sizeOf_list_dec) ?_)
local macro_rules | `(tactic| infer_instance) => `(tactic| refine ev_law_units (by sizeOf_list_dec) ?_)

section
variable {p : Int} {α : Type} [Lean.Grind.Field α] [S : SF p α]
theorem TB.uni (n : Nat) : TB 1 (uniT n : Tab α) := by
  intro r hr
  obtain ⟨i, _, rfl⟩ := List.mem_map.mp hr
  intro x hx
  obtain ⟨j, _, rfl⟩ := List.mem_map.mp hx
  split
  · exact B_one
  · exact B_zero
theorem TB.zer (m k : Nat) : TB 1 (zerT m k : Tab α) := by
  intro r hr
  have := List.eq_of_mem_replicate hr
  subst this
  intro x hx
  have := List.eq_of_mem_replicate hx
  subst this
  exact B_zero
theorem TB.scl {b c : Nat} {x : α} {t : Tab α} (hx : S.B b x) (h : TB c t) : TB (b + c) (sclT x t) := by
  intro r hr
  obtain ⟨q, hq, rfl⟩ := List.mem_map.mp hr
  intro y hy
  obtain ⟨z, hz, rfl⟩ := List.mem_map.mp hy
  exact B_mul hx (h q hq z hz)
theorem Shp.add {m k : Nat} {s t : Tab α} (hs : Shp m k s) (ht : Shp m k t) : Shp m k (addT s t) := by
  have r1 := hs.rows
  have r2 := ht.rows
  refine ⟨by unfold addT; rw [List.length_zipWith]; omega, fun r hr => ?_⟩
  unfold addT at hr
  rw [zipW_map] at hr
  obtain ⟨x, hx, rfl⟩ := List.mem_map.mp hr
  have c1 := hs.cols _ (List.of_mem_zip (a := x.1) (b := x.2) hx).1
  have c2 := ht.cols _ (List.of_mem_zip (a := x.1) (b := x.2) hx).2
  unfold addR
  rw [List.length_zipWith]
  omega
theorem TB.add {b c : Nat} {s t : Tab α} (hs : TB b s) (ht : TB c t) : TB (b + c + 1) (addT s t) := by
  intro r hr
  unfold addT at hr
  rw [zipW_map] at hr
  obtain ⟨x, hx, rfl⟩ := List.mem_map.mp hr
  intro y hy
  unfold addR at hy
  rw [zipW_map] at hy
  obtain ⟨z, hz, rfl⟩ := List.mem_map.mp hy
  exact B_add (hs _ (List.of_mem_zip (a := x.1) (b := x.2) hx).1 _ (List.of_mem_zip (a := z.1) (b := z.2) hz).1) (ht _ (List.of_mem_zip (a := x.1) (b := x.2) hx).2 _ (List.of_mem_zip (a := z.1) (b := z.2) hz).2)
end


/-! tables of few numbers: one number below all -/
section
variable {p : Int} {α : Type} [Lean.Grind.Field α] [S : SF p α]
def Dn (x : α) : Prop := ∀ f, KQ p α S.enc S.B f → ∃ n d : Int, (1 ≤ d ∧ d ≤ 3) ∧ (-3 ≤ n ∧ n ≤ 3) ∧ f x = Rat.divInt n d
def TD (a d : Nat) (t : Tab α) : Prop := ∀ f, KQ p α S.enc S.B f → ∃ D : Int, D ≠ 0 ∧ MB d D ∧ ∀ r ∈ t, ∀ x ∈ r, ∃ n : Int, MB a n ∧ f x = Rat.divInt n D
theorem TD.tc {a d : Nat} {t : Tab α} (h : TD (S := S) a d t) : TC (S := S) a d t := fun r hr f k => by
  obtain ⟨D, h1, h2, h3⟩ := h f k
  exact ⟨D, h1, h2, fun x hx => h3 r hr x hx⟩
theorem TD.le {a d a' d' : Nat} {t : Tab α} (h : TD (S := S) a d t) (h1 : a ≤ a') (h2 : d ≤ d') : TD (S := S) a' d' t := fun f k => by
  obtain ⟨D, h3, h4, h5⟩ := h f k
  exact ⟨D, h3, h4.le h2, fun r hr x hx => by
    obtain ⟨n, g1, g2⟩ := h5 r hr x hx
    exact ⟨n, g1.le h1, g2⟩⟩
theorem to6 {n d : Int} (h : 1 ≤ d ∧ d ≤ 3) (hn : -3 ≤ n ∧ n ≤ 3) (s : Int) (hs : s ≠ 0) : ∃ m : Int, (-18 ≤ m ∧ m ≤ 18) ∧ Rat.divInt n d = Rat.divInt (m * s) (6 * s) := by
  have : d = 1 ∨ d = 2 ∨ d = 3 := by omega
  have key : ∀ c : Int, c ≠ 0 → d * c = 6 → Rat.divInt n d = Rat.divInt (n * c * s) (6 * s) := fun c hc e => by
    rw [Rat.divInt_mul_right hs, ← e, Rat.divInt_mul_right hc]
  rcases this with rfl | rfl | rfl
  · exact ⟨n * 6, by omega, key 6 (by decide) rfl⟩
  · exact ⟨n * 3, by omega, key 3 (by decide) rfl⟩
  · exact ⟨n * 2, by omega, key 2 (by decide) rfl⟩
theorem TD.of {t : Tab α} (h : ∀ r ∈ t, ∀ x ∈ r, Dn (S := S) x) : TD (S := S) 5 3 t := fun f k => by
  refine ⟨6, by decide, by unfold MB; decide, fun r hr x hx => ?_⟩
  obtain ⟨n, d, h1, h2, h3⟩ := h r hr x hx f k
  obtain ⟨m, m1, m2⟩ := to6 h1 h2 1 (by decide)
  refine ⟨m, ?_, by rw [h3, m2]; simp⟩
  unfold MB
  omega
/-- a row exchanged for a multiple of another -/
theorem TD.mulrow {t : Tab α} {s : α} {r : List α} {i : Nat} (h : ∀ r ∈ t, ∀ x ∈ r, Dn (S := S) x) (hs : Dn (S := S) s) (hr : ∀ x ∈ r, Dn (S := S) x) : TD (S := S) 6 5 (t.set i (r.map (s * ·))) := fun f k => by
  obtain ⟨a, c, c1, a1, s1⟩ := hs f k
  have cz : c ≠ 0 := by omega
  refine ⟨6 * c, by omega, by unfold MB; omega, mem_set' (P := fun r => ∀ x ∈ r, ∃ n : Int, MB 6 n ∧ f x = Rat.divInt n (6 * c)) (fun q hq x hx => ?_) fun x hx => ?_⟩
  · obtain ⟨n, d, h1, h2, h3⟩ := h q hq x hx f k
    obtain ⟨m, m1, m2⟩ := to6 h1 h2 c cz
    refine ⟨m * c, ?_, by rw [h3, m2]⟩
    have : c = 1 ∨ c = 2 ∨ c = 3 := by omega
    unfold MB
    rcases this with rfl | rfl | rfl <;> omega
  · obtain ⟨y, hy, rfl⟩ := List.mem_map.mp hx
    obtain ⟨n, d, h1, h2, h3⟩ := hr y hy f k
    obtain ⟨m, m1, m2⟩ := to6 h1 h2 1 (by decide)
    refine ⟨m * a, ?_, ?_⟩
    · have : a = -3 ∨ a = -2 ∨ a = -1 ∨ a = 0 ∨ a = 1 ∨ a = 2 ∨ a = 3 := by omega
      unfold MB
      rcases this with rfl | rfl | rfl | rfl | rfl | rfl | rfl <;> omega
    · show f (s * y) = _
      rw [k.mul, s1, h3, m2, Rat.divInt_mul_divInt, Int.mul_one, Int.mul_one, Int.mul_comm a m, Int.mul_comm c 6]
theorem fr_inj {a b : Rat} (h : fr a = fr b) : a = b := by
  unfold fr at h
  have h := PyData.tuple.inj h
  obtain ⟨h1, h2⟩ := List.cons.inj h
  obtain ⟨h2, _⟩ := List.cons.inj h2
  have h1 := PyData.int.inj h1
  have h2 := PyData.int.inj h2
  exact Rat.ext h1 (by omega)
theorem ev_law_drawn6 {R : DV → Prop} {E : EK} (h : ∀ x : α, S.B 8 x → Dn (S := S) x → R (.d (S.enc x))) : m__law_drawn [.wel, .d (.int p)] R E := by
  rw [q__law_drawn]
  refine ⟨rfl, ?_⟩
  simp only [g__law_drawn]
  array_get_dec
  rcases S.kd with ⟨f, k⟩ | ⟨f, k⟩
  · have p0 := k.p0
    subst p0
    refine ite_f (by decide) (ev_draw_of (by decide) (by decide) fun a a0 a1 => ?_)
    array_get_dec
    refine ev_draw_of (by decide) (by decide) fun b b0 b1 => ?_
    array_get_dec
    have ma : MB 8 (a - 3) := by unfold MB; omega
    have mb : MB 8 (1 + b) := by unfold MB; omega
    refine ev_law_cut (by omega) mb (by decide) (ma.le (by decide)) ?_
    obtain ⟨x, hx⟩ := k.sur (Rat.divInt (a - 3) (1 + b))
    have q := mb_divInt (n := a - 3) (m := 1 + b) (by omega) ma mb
    have h := h x ((k.bd 8 x).mpr (by rw [hx]; exact q)) fun g kg => ⟨a - 3, 1 + b, by omega, by omega, by
      have e : fr (g x) = fr (f x) := by rw [← kg.en, ← k.en]
      rw [← hx]
      exact fr_inj e⟩
    rw [k.en, hx] at h
    exact h
  · have hp := k.pp.pos
    have := k.pp.le
    refine ite_t (decide_eq_true hp) (ev_draw_of hp (by omega) fun a a0 a1 => ?_)
    obtain ⟨x, hx⟩ := k.sur a a0 a1
    have h := h x (k.bd _ _) fun g kg => by have := kg.p0; omega
    rw [k.en, hx] at h
    exact h
theorem ev_law_table6 {m k : Nat} {R : DV → Prop} {E : EK} (hm : m ≤ 60) (hk : k ≤ 60) (h : ∀ t : Tab α, Shp m k t → TB 8 t → (∀ r ∈ t, ∀ x ∈ r, Dn (S := S) x) → R (.d (tD t))) : m__law_table [.wel, .d (.int p), .d (.int m), .d (.int k)] R E := by
  rw [q__law_table]
  refine ⟨rfl, ?_⟩
  simp only [g__law_table]
  array_get_dec
  refine ⟨⟨by omega, by omega⟩, by rw [rng_natL]; omega, ?_⟩
  rw [rng_nat]
  refine lcD_any _ rowD (fun _ (r : List α) => r.length = k ∧ ∀ x ∈ r, S.B 8 x ∧ Dn (S := S) x) (fun i _ P hP => ?_) fun t ht => ?_
  · array_get_dec
    refine ⟨⟨by omega, by omega⟩, by rw [rng_natL]; omega, ?_⟩
    rw [rng_nat]
    refine lcD_any _ S.enc (fun _ (x : α) => S.B 8 x ∧ Dn (S := S) x) (fun j _ P hP => ?_) fun r hr => ?_
    · array_get_dec
      exact ev_law_drawn6 fun x hx hd => hP x ⟨hx, hd⟩
    · array_get_dec
      refine hP r ⟨?_, all2_mem (P := fun y => S.B 8 y ∧ Dn (S := S) y) (fun _ _ h => h) hr⟩
      rw [all2_len hr, List.length_range]
  · array_get_dec
    have hall := all2_mem (P := fun r : List α => r.length = k ∧ ∀ x ∈ r, S.B 8 x ∧ Dn (S := S) x) (fun _ _ h => h) ht
    refine h t ⟨?_, fun r hr => (hall r hr).1⟩ (fun r hr x hx => ((hall r hr).2 x hx).1) fun r hr x hx => ((hall r hr).2 x hx).2
    rw [all2_len ht, List.length_range]
end

local macro_rules | `(tactic| infer_instance) => `(tactic| refine ev_law_drawn6  ?_)
local macro_rules | `(tactic| infer_instance) => `(tactic| refine ev_law_table6 (by sizeOf_list_dec) (by sizeOf_list_dec) ?_)

/-! bits of products; the law's square table -/
section
variable {p : Int} {α : Type} [Lean.Grind.Field α] [S : SF p α]
theorem mb_0 {a : Nat} : MB a 0 := by unfold MB; exact Nat.pow_pos (by decide)
theorem TD.trn {a d k : Nat} {t : Tab α} (h : TD (S := S) a d t) : TD (S := S) a d (trn k t) := fun f q => by
  obtain ⟨D, h3, h4, h5⟩ := h f q
  refine ⟨D, h3, h4, fun r hr x hx => ?_⟩
  obtain ⟨j, hj, rfl⟩ := List.mem_map.mp hr
  obtain ⟨w, hw, rfl⟩ := List.mem_map.mp hx
  by_cases z : j < w.length
  · exact h5 w hw _ (getD_mem' z)
  · refine ⟨0, mb_0, ?_⟩
    rw [List.getD_eq_getElem?_getD, List.getElem?_eq_none (by omega)]
    show f 0 = _
    rw [q.zero, Rat.zero_divInt]
theorem dot_td {f : α → Rat} (k : KQ p α S.enc S.B f) {a b : Nat} {D T : Int} (hD : D ≠ 0) (hT : T ≠ 0) : ∀ (r q : List α), (∀ x ∈ r, ∃ n : Int, MB a n ∧ f x = Rat.divInt n D) → (∀ x ∈ q, ∃ n : Int, MB b n ∧ f x = Rat.divInt n T) →
    ∃ N : Int, N.natAbs ≤ r.length * 2 ^ (a + b) ∧ f (dot r q) = Rat.divInt N (D * T)
  | [], _, _, _ => ⟨0, by simp, by rw [show dot ([] : List α) _ = 0 by unfold dot; rfl, k.zero, Rat.zero_divInt]⟩
  | x :: r, [], _, _ => ⟨0, by simp, by rw [show dot (x :: r) [] = 0 from rfl, k.zero, Rat.zero_divInt]⟩
  | x :: r, y :: q, h1, h2 => by
    obtain ⟨N, i1, i2⟩ := dot_td k hD hT r q (fun z hz => h1 z (by simp [hz])) fun z hz => h2 z (by simp [hz])
    obtain ⟨n, n1, n2⟩ := h1 x (by simp)
    obtain ⟨m, m1, m2⟩ := h2 y (by simp)
    refine ⟨n * m + N, ?_, ?_⟩
    · have := MB.mul n1 m1
      unfold MB at this
      rw [List.length_cons, Nat.add_mul, Nat.one_mul]
      omega
    · show f (x * y + dot r q) = _
      have nz := Int.mul_ne_zero hD hT
      rw [k.add, k.mul, n2, m2, i2, Rat.divInt_mul_divInt, Rat.divInt_add_divInt _ _ nz nz, ← Int.add_mul, Rat.divInt_mul_right nz]
theorem TD.mul {m k n a b c d : Nat} {s t : Tab α} (hs : Shp m k s) (hk : k ≤ 4) (h : TD (S := S) a c s) (g : TD (S := S) b d t) : TD (S := S) (a + b + 3) (c + d) (mulT n s t) := fun f q => by
  obtain ⟨D, h1, h2, h3⟩ := h f q
  obtain ⟨T, g1, g2, g3⟩ := (g.trn (k := n)) f q
  refine ⟨D * T, Int.mul_ne_zero h1 g1, (h2.mul g2), fun r hr x hx => ?_⟩
  obtain ⟨w, hw, rfl⟩ := List.mem_map.mp hr
  obtain ⟨v, hv, rfl⟩ := List.mem_map.mp hx
  obtain ⟨N, n1, n2⟩ := dot_td q h1 g1 w v (h3 w hw) (g3 v hv)
  refine ⟨N, ?_, n2⟩
  have := hs.cols w hw
  unfold MB
  have p1 : 2 ^ (a + b + 3) = 8 * 2 ^ (a + b) := by rw [Nat.pow_add]; omega
  have p2 : 0 < 2 ^ (a + b) := Nat.pow_pos (by decide)
  have : w.length * 2 ^ (a + b) ≤ 4 * 2 ^ (a + b) := Nat.mul_le_mul_right _ (by omega)
  omega
theorem TC.wide {n a d : Nat} {t : Tab α} (h : TC (S := S) a d t) (hd : d ≤ a) : TC (S := S) a d (wideT n t) := fun r hr f q => by
  unfold wideT at hr
  rw [zipW_map] at hr
  obtain ⟨x, hx, rfl⟩ := List.mem_map.mp hr
  obtain ⟨x1, x2⟩ := List.of_mem_zip (a := x.1) (b := x.2) hx
  obtain ⟨D, h1, h2, h3⟩ := h x.1 x1 f q
  refine ⟨D, h1, h2, fun y hy => ?_⟩
  rcases List.mem_append.mp hy with hy | hy
  · exact h3 y hy
  · obtain ⟨i, _, e⟩ := List.mem_map.mp x2
    rw [← e] at hy
    obtain ⟨j, _, rfl⟩ := List.mem_map.mp hy
    by_cases z : i = j
    · rw [if_pos z]
      exact ⟨D, h2.le hd, by rw [q.one, Rat.divInt_self' h1]⟩
    · rw [if_neg z]
      exact ⟨0, mb_0, by rw [q.zero, Rat.zero_divInt]⟩
variable [DecidableEq α]
theorem und_TC {n a d : Nat} {t u : Tab α} (h : Shp n n t) (hb : TC (S := S) a d t) (hd : d ≤ a) (hu : undT n t = some u) : TC (S := S) (gA n a) (gD n a d) u := by
  obtain ⟨w1, w2⟩ := wide_shp h
  have g := (redn_TC w1 (hb.wide (n := n) hd) (2 * n) (Nat.le_refl _)).1
  unfold undT at hu
  by_cases q : (redn (2 * n) (wideT n t)).2 = List.range n
  · rw [if_pos q] at hu
    rw [q, List.length_range] at g
    cases hu
    intro r hr f k
    obtain ⟨v, hv, rfl⟩ := List.mem_map.mp hr
    obtain ⟨D, h1, h2, h3⟩ := g v hv f k
    exact ⟨D, h1, h2, fun x hx => h3 x (List.mem_of_mem_drop hx)⟩
  · rw [if_neg q] at hu
    cases hu
theorem ev_law_square {R : DV → Prop} {E : EK} (h : ∀ (n : Nat) (t : Tab α), n ≤ 4 → Shp n n t → TB 16 t → TD (S := S) 6 5 t → R (.d (tD t))) : m__law_square [.wel, .d (.int p)] R E := by
  rw [q__law_square]
  refine ⟨rfl, ?_⟩
  simp only [g__law_square]
  array_mem_dec
  refine ev_draw_of (by decide) (by decide) fun i i0 i1 => ?_
  obtain ⟨n, rfl⟩ : ∃ n : Nat, i = n := ⟨i.toNat, by omega⟩
  array_mem_dec
  refine ev_law_table6 (S := S) (m := n) (k := n) (by omega) (by omega) fun t ht bt dt => ?_
  rw [show (tD t : PD) = .tuple (t.map rowD) from rfl]
  have fin : R (.d (.tuple (t.map rowD))) := h n t (by omega) ht (bt.le (by decide)) ((TD.of dt).le (by decide) (by decide))
  have r := ht.rows
  array_mem_dec
  by_cases z : (1 : Int) < n
  · refine ite_t (decide_eq_true z) (ev_draw_of (by decide) (by decide) fun a a0 a1 => ?_)
    array_mem_dec
    by_cases q : a = 0
    · refine ite_t (decide_eq_true q) (ev_law_drawn6 (S := S) fun s bs ds => ev_draw_of (by omega) (by omega) fun i i0 i1 => ev_draw_of (by omega) (by omega) fun j j0 j1 => ?_)
      obtain ⟨i, rfl⟩ : ∃ k : Nat, i = k := ⟨i.toNat, by omega⟩
      obtain ⟨j, rfl⟩ : ∃ k : Nat, j = k := ⟨j.toNat, by omega⟩
      array_mem_dec
      by_cases w : i = j
      · exact ite_t (decide_eq_true (by omega)) fin
      refine ite_f (decide_eq_false (by omega)) ?_
      have lj := row_of ht (by omega : j < n)
      have mj : t.getD j [] ∈ t := getD_mem' (by omega)
      refine ⟨rowD (t.getD j []), atI_map' rowD (by rw [atI_get0 (by omega) (by omega), Int.toNat_natCast]; rw [List.getElem?_eq_getElem (by omega), List.getD_eq_getElem?_getD, List.getElem?_eq_getElem (by omega)]; rfl), ?_⟩
      simp only [rowD]
      array_mem_dec
      refine ⟨by rw [List.length_map]; omega, lcD_all S.enc (fun y => S.enc (s * y)) (fun y hy P hP => ?_) ?_⟩
      · array_mem_dec
        exact ev_law_times bs (bt _ mj y hy) (by decide) (by decide) hP
      refine ⟨i, ixn_n (by rw [List.length_map]; omega), ?_⟩
      have e : (t.map rowD).set i (.tuple ((t.getD j []).map fun y => S.enc (s * y))) = (t.set i ((t.getD j []).map (s * ·))).map rowD := by
        rw [List.map_set]
        show _ = List.set (t.map rowD) i (.tuple (((t.getD j []).map (s * ·)).map S.enc))
        rw [List.map_map]
        rfl
      rw [e]
      refine h n _ (by omega) (set_shp ht (by rw [List.length_map]; exact lj)) (mem_set' (fun r hr => (bt r hr).le (by decide)) fun x hx => ?_) (TD.mulrow dt ds (dt _ mj))
      obtain ⟨y, hy, rfl⟩ := List.mem_map.mp hx
      exact B_mul bs (bt _ mj y hy)
    · exact ite_f (decide_eq_false q) fin
  · exact ite_f (decide_eq_false z) fin
local macro_rules | `(tactic| infer_instance) => `(tactic| refine ev_law_square  ?_)
end

/-! the law's orders -/
def ordD (x : List Nat × Int) : PD := .tuple [.tuple (x.1.map natD), .int x.2]
def ordAt (turn : Nat) (x : List Nat × Int) (at_ : Nat) : List Nat × Int := (x.1.take at_ ++ [turn] ++ x.1.drop at_, if (turn - at_) % 2 = 0 then x.2 else -x.2)
theorem cutL_t {β : Type} (xs : List β) {n : Nat} (h : n ≤ xs.length) : cutL xs none (some (n : Int)) = xs.take n := by
  unfold cutL
  have e : HT.sIx xs.length xs.length (some (n : Int)) = n := by
    unfold HT.sIx
    simp only []
    split
    · omega
    · omega
  rw [e, show HT.sIx xs.length 0 none = 0 from rfl, Nat.sub_zero]
  rfl
theorem ord_loop0 {D : DEnds} {turn : Nat} {x : List Nat × Int} {s0 s1 : Sl} (ht : turn ≤ 10) (hx : x.1.length = turn) (hs : x.2 = 1 ∨ x.2 = -1) : ∀ (l : List Nat) (acc : List (List Nat × Int)) (s6 : Sl), (∀ a ∈ l, a ≤ turn) → acc.length + l.length ≤ 1000 →
    (∀ s6, D.nx [s0, s1, .v (.d (.int turn)), .own ((acc ++ l.map (ordAt turn x)).map ordD), .v (.d (.tuple (x.1.map natD))), .v (.d (.int x.2)), s6]) →
    loopD (gNm 6) g__law_orders_b0 D (l.map natD) [s0, s1, .v (.d (.int turn)), .own (acc.map ordD), .v (.d (.tuple (x.1.map natD))), .v (.d (.int x.2)), s6]
  | [], acc, s6, _, _, h => by
    rw [List.map_nil, List.append_nil] at h
    exact h _
  | a :: l, acc, s6, ha, hl, h => by
    have ih := ord_loop0 (D := D) (s0 := s0) (s1 := s1) ht hx hs l (acc ++ [ordAt turn x a])
    have ha0 := ha a (by simp)
    rw [List.length_cons] at hl
    rw [List.map_cons]
    unfold loopD
    ac_rfl
    generalize hn : loopD (gNm 6) g__law_orders_b0 D (l.map natD) = next
    rw [hn] at ih
    simp only [g__law_orders_b0, natD]
    array_mem_dec
    rw [cutL_t _ (by omega), cutL_n _ (by omega)]
    have e1 : (x.1.take a).map natD ++ [PyData.int (turn : Int)] ++ (x.1.drop a).map natD = (x.1.take a ++ [turn] ++ x.1.drop a).map natD := by
      rw [List.map_append, List.map_append]
      rfl
    rw [e1]
    refine ⟨?_, ?_, by decide, ?_⟩
    · rw [List.length_map, List.length_take]; omega
    · rw [List.length_append, List.length_map, List.length_map, List.length_take, List.length_drop]; simp only [List.length_singleton]; omega
    have key : next [s0, s1, .v (.d (.int turn)), .own (acc.map ordD ++ [ordD (ordAt turn x a)]), .v (.d (.tuple (x.1.map natD))), .v (.d (.int x.2)), .v (.d (.int a))] := by
      have := ih (.v (.d (.int a))) (fun b hb => ha b (by simp [hb])) (by rw [List.length_append, List.length_singleton]; omega) (fun s6 => by
        have := h s6
        rw [List.map_cons] at this
        rw [List.append_assoc]
        exact this)
      rw [List.map_append] at this
      exact this
    have al : (acc.map ordD).length ≤ 100000 := by rw [List.length_map]; omega
    by_cases q : (turn - a) % 2 = 0
    · refine ite_t (decide_eq_true (by rw [fmod_e (by decide)]; omega)) ⟨al, ?_⟩
      unfold ordAt ordD at key
      rw [if_pos q] at key
      exact key
    · refine ite_f (decide_eq_false (by rw [fmod_e (by decide)]; omega)) ⟨al, ?_⟩
      unfold ordAt ordD at key
      rw [if_neg q] at key
      exact key
theorem ord_loop1 {D : DEnds} {turn : Nat} {s0 s1 : Sl} (ht : turn ≤ 10) : ∀ (fs : List (List Nat × Int)) (acc : List (List Nat × Int)) (s4 s5 s6 : Sl), (∀ x ∈ fs, x.1.length = turn ∧ (x.2 = 1 ∨ x.2 = -1)) → acc.length + fs.length * (turn + 1) ≤ 900 →
    (∀ s4 s5 s6, D.nx [s0, s1, .v (.d (.int turn)), .own ((acc ++ ordS turn fs).map ordD), s4, s5, s6]) →
    loopD (gTp (gsCons (gNm 4) (gsCons (gNm 5) gsNil))) g__law_orders_b1 D (fs.map ordD) [s0, s1, .v (.d (.int turn)), .own (acc.map ordD), s4, s5, s6]
  | [], acc, s4, s5, s6, _, _, h => by
    have h := h s4 s5 s6
    rw [show ordS turn [] = [] from rfl, List.append_nil] at h
    exact h
  | x :: fs, acc, s4, s5, s6, hf, hl, h => by
    have ih := ord_loop1 (D := D) (s0 := s0) (s1 := s1) ht fs (acc ++ (List.range (turn + 1)).map (ordAt turn x))
    obtain ⟨hx1, hx2⟩ := hf x (by simp)
    rw [List.length_cons, Nat.add_mul] at hl
    rw [List.map_cons]
    unfold loopD
    simp only [ordD]
    array_mem_dec
    generalize hn : loopD (gTp (gsCons (gNm 4) (gsCons (gNm 5) gsNil))) g__law_orders_b1 D (fs.map ordD) = next
    rw [hn] at ih
    simp only [g__law_orders_b1]
    array_mem_dec
    have e2 : (irg 0 ((turn : Int) + 1)).map PyData.int = (List.range (turn + 1)).map natD := by
      rw [← rngD_irg]
      exact rng1_nat _
    rw [e2]
    refine ⟨⟨by omega, by omega⟩, by rw [List.length_map, List.length_range]; omega, ?_⟩
    have h0 : (turn + 1) ≤ 900 := by omega
    refine ord_loop0 ht hx1 hx2 _ _ _ (fun a ha => by have := List.mem_range.mp ha; omega) (by rw [List.length_range]; omega) (fun s6 => ?_)
    refine ih _ _ _ (fun y hy => hf y (by simp [hy])) (by rw [List.length_append, List.length_map, List.length_range]; omega) (fun s4 s5 s6 => ?_)
    have := h s4 s5 s6
    rw [show ordS turn (x :: fs) = (List.range (turn + 1)).map (ordAt turn x) ++ ordS turn fs from rfl, ← List.append_assoc] at this
    exact this
theorem ords_len : ∀ n, n ≤ 4 → (ords n).length ≤ 24 := by
  intro n hn
  have : n = 0 ∨ n = 1 ∨ n = 2 ∨ n = 3 ∨ n = 4 := by omega
  rcases this with rfl | rfl | rfl | rfl | rfl <;> decide
theorem ord_loop2 {D : DEnds} {m : Nat} {s0 : Sl} (hm : m ≤ 4) (h : ∀ s2 s3 s4 s5 s6, D.nx [s0, .v (.d (.list ((ords m).map ordD))), s2, s3, s4, s5, s6]) : ∀ (n c : Nat) (s2 s3 s4 s5 s6 : Sl), c + n = m →
    loopD (gNm 2) g__law_orders_b2 D ((List.range' c n).map natD) [s0, .v (.d (.list ((ords c).map ordD))), s2, s3, s4, s5, s6]
  | 0, c, s2, s3, s4, s5, s6, e => by
    have e : c = m := by omega
    subst e
    exact h _ _ _ _ _
  | n + 1, c, s2, s3, s4, s5, s6, e => by
    have ih := ord_loop2 (D := D) (s0 := s0) hm h n (c + 1)
    rw [List.range'_succ, List.map_cons]
    unfold loopD
    ac_rfl
    generalize hn : loopD (gNm 2) g__law_orders_b2 D ((List.range' (c + 1) n).map natD) = next
    rw [hn] at ih
    simp only [g__law_orders_b2, natD]
    array_mem_dec
    have l0 := ords_len c (by omega)
    have l1 := ords_len (c + 1) (by omega)
    refine ⟨by rw [List.length_map]; omega, ?_⟩
    refine ord_loop1 (by omega) (ords c) [] _ _ _ (fun x hx => ⟨(ords_ok c (by omega) x hx).1.1, (ords_ok c (by omega) x hx).2⟩) ?_ (fun s4 s5 s6 => ?_)
    · have : (ords c).length * (c + 1) ≤ 24 * 5 := Nat.mul_le_mul l0 (by omega)
      simp only [List.length_nil]
      omega
    · array_mem_dec
      exact ih _ _ _ _ _ (by omega)
theorem ev_law_orders {n : Nat} {R : DV → Prop} {E : EK} (hn : n ≤ 4) (h : R (.d (.list ((ords n).map ordD)))) : m__law_orders [.d (.int n)] R E := by
  rw [q__law_orders]
  refine ⟨rfl, ?_⟩
  simp only [g__law_orders]
  array_mem_dec
  have e2 : (irg 0 (n : Int)).map PyData.int = (List.range' 0 n).map natD := by
    rw [← rngD_irg, ← List.range_eq_range']
    exact rng1_nat _
  rw [e2]
  refine ⟨⟨by omega, by omega⟩, by rw [List.length_map, List.length_range']; omega, ?_⟩
  refine ord_loop2 (m := n) hn (fun s2 s3 s4 s5 s6 => ?_) n 0 _ _ _ _ _ (by omega)
  array_mem_dec
  exact h
local macro_rules | `(tactic| infer_instance) => `(tactic| refine ev_law_orders (by sizeOf_list_dec) ?_)

/-! the law's determinant -/
section
variable {p : Int} {α : Type} [Lean.Grind.Field α] [S : SF p α] [DecidableEq α]
theorem ev_law_numS {s : Int} {R : DV → Prop} {E : EK} (hs : s = 1 ∨ s = -1) (h : R (.d (S.enc (sgA s)))) : m__law_num [.d (.int p), .d (.int s)] R E := by
  rcases hs with rfl | rfl
  · rw [sgA_1] at h
    exact ev_law_num1 (S := S) h
  · rw [sgA_m] at h
    rw [q__law_num]
    refine ⟨rfl, ?_⟩
    simp only [g__law_num]
    rcases S.kd with ⟨f, k⟩ | ⟨f, k⟩
    · have p0 := k.p0
      subst p0
      array_mem_dec
      refine ite_t rfl ?_
      rw [k.en, k.neg, k.one] at h
      exact h
    · have hp := k.pp.pos
      array_mem_dec
      refine ite_f (decide_eq_false (by omega)) ⟨by omega, ?_⟩
      rw [k.en, k.neg, k.one] at h
      rw [fmod_e (by omega)]
      exact h
local macro_rules | `(tactic| infer_instance) => `(tactic| refine ev_law_numS (by sizeOf_list_dec) ?_)
def zipD (x : List α × Nat) : PD := .tuple [rowD x.1, natD x.2]
def prodZ (acc : α) : List (List α × Nat) → α
  | [] => acc
  | x :: l => prodZ (acc * x.1.getD x.2 0) l
theorem ldet_loop0 {D : DEnds} {s1 s2 s3 s4 : Sl} : ∀ (l : List (List α × Nat)) (acc : α) (b : Nat) (s6 s7 : Sl), (∀ x ∈ l, x.2 < x.1.length ∧ x.1.length ≤ 1000 ∧ VB (S := S) 16 x.1) → S.B b acc → b + l.length * 16 ≤ 3000 →
    (∀ s6 s7, D.nx [.v (.d (.int p)), s1, s2, s3, s4, .v (.d (S.enc (prodZ acc l))), s6, s7]) →
    loopD (gTp (gsCons (gNm 6) (gsCons (gNm 7) gsNil))) g__law_determinant_b0 D (l.map zipD) [.v (.d (.int p)), s1, s2, s3, s4, .v (.d (S.enc acc)), s6, s7]
  | [], acc, b, s6, s7, _, _, _, h => h _ _
  | x :: l, acc, b, s6, s7, hl, hb, hle, h => by
    have ih := ldet_loop0 (D := D) (s1 := s1) (s2 := s2) (s3 := s3) (s4 := s4) l (acc * x.1.getD x.2 0) (b + 16)
    obtain ⟨x1, x2, x3⟩ := hl x (by simp)
    rw [List.length_cons] at hle
    have bx : S.B 16 (x.1.getD x.2 0) := x3 _ (getD_mem' x1)
    rw [List.map_cons]
    unfold loopD
    simp only [zipD, rowD, natD]
    array_mem_dec
    generalize hn : loopD (gTp (gsCons (gNm 6) (gsCons (gNm 7) gsNil))) g__law_determinant_b0 D (l.map zipD) = next
    rw [hn] at ih
    simp only [g__law_determinant_b0]
    array_mem_dec
    refine ent_i x1 (ev_law_times hb bx (by omega) (by decide) ?_)
    exact ih _ _ (fun y hy => hl y (by simp [hy])) (B_mul hb bx) (by omega) h
theorem prodZ_B : ∀ (l : List (List α × Nat)) (acc : α) (b : Nat), (∀ x ∈ l, x.2 < x.1.length ∧ VB (S := S) 16 x.1) → S.B b acc → S.B (b + l.length * 16) (prodZ acc l)
  | [], acc, b, _, h => B_le h (by omega)
  | x :: l, acc, b, hl, h => by
    obtain ⟨x1, x3⟩ := hl x (by simp)
    have bx : S.B 16 (x.1.getD x.2 0) := x3 _ (getD_mem' x1)
    rw [List.length_cons]
    exact B_le (prodZ_B l _ (b + 16) (fun y hy => hl y (by simp [hy])) (B_mul h bx)) (by omega)
theorem prodZ_O {t : Tab α} : ∀ (o : List Nat) (i : Nat) (acc : α), i + o.length = t.length → prodZ acc ((t.drop i).zip o) = prodO (ent t) o i acc
  | [], i, acc, _ => by rw [List.zip_nil_right]; rfl
  | c :: o, i, acc, h => by
    rw [List.length_cons] at h
    have e : t.drop i = t.getD i [] :: t.drop (i + 1) := by
      rw [List.drop_eq_getElem_cons (by omega), List.getD_eq_getElem?_getD, List.getElem?_eq_getElem (by omega)]
      rfl
    rw [e, List.zip_cons_cons]
    show prodZ (acc * (t.getD i []).getD c 0) _ = prodO (ent t) o (i + 1) (acc * ent t i c)
    rw [prodZ_O o (i + 1) _ (by omega)]
    rfl
def detZ (f : Nat → Nat → α) (acc : α) : List (List Nat × Int) → α
  | [] => acc
  | x :: l => detZ f (acc + prodO f x.1 0 (sgA x.2)) l
omit S [DecidableEq α] in
theorem detZ_F (f : Nat → Nat → α) : ∀ (l : List (List Nat × Int)) (acc : α), l.foldl (fun acc x => acc + prodO f x.1 0 (sgA x.2)) acc = detZ f acc l
  | [], _ => rfl
  | x :: l, acc => detZ_F f l _
theorem ldet_loop1 {D : DEnds} {n : Nat} {t : Tab α} (hn : n ≤ 4) (ht : Shp n n t) (bt : TB (S := S) 16 t) : ∀ (l : List (List Nat × Int)) (acc : α) (b : Nat) (s3 s4 s5 s6 s7 : Sl), (∀ x ∈ l, (x.1.length = n ∧ ∀ c ∈ x.1, c < n) ∧ (x.2 = 1 ∨ x.2 = -1)) → S.B b acc → b + l.length * 66 ≤ 3000 →
    (∀ s3 s4 s5 s6 s7, D.nx [.v (.d (.int p)), .v (.d (tD t)), .v (.d (S.enc (detZ (ent t) acc l))), s3, s4, s5, s6, s7]) →
    loopD (gTp (gsCons (gNm 3) (gsCons (gNm 4) gsNil))) g__law_determinant_b1 D (l.map ordD) [.v (.d (.int p)), .v (.d (tD t)), .v (.d (S.enc acc)), s3, s4, s5, s6, s7]
  | [], acc, b, s3, s4, s5, s6, s7, _, _, _, h => h _ _ _ _ _
  | x :: l, acc, b, s3, s4, s5, s6, s7, hl, hb, hle, h => by
    have ih := ldet_loop1 (D := D) hn ht bt l (acc + prodO (ent t) x.1 0 (sgA x.2)) (b + 66)
    obtain ⟨⟨x1, x2⟩, x3⟩ := hl x (by simp)
    rw [List.length_cons] at hle
    have r := ht.rows
    rw [List.map_cons]
    unfold loopD
    simp only [ordD]
    array_mem_dec
    generalize hn : loopD (gTp (gsCons (gNm 3) (gsCons (gNm 4) gsNil))) g__law_determinant_b1 D (l.map ordD) = next
    rw [hn] at ih
    simp only [g__law_determinant_b1]
    array_mem_dec
    refine ev_law_numS (S := S) x3 ?_
    rw [show (tD t : PD) = .tuple (t.map rowD) from rfl]
    array_mem_dec
    have ez : List.zipWith (fun a b => PyData.tuple [a, b]) (t.map (rowD : List α → PD)) (x.1.map natD) = (t.zip x.1).map zipD := zip_map rowD natD t x.1
    rw [ez]
    have lz : (t.zip x.1).length ≤ 4 := by rw [List.length_zip]; omega
    have hz : ∀ y ∈ t.zip x.1, y.2 < y.1.length ∧ VB (S := S) 16 y.1 := fun y hy => by
      obtain ⟨y1, y2⟩ := List.of_mem_zip (a := y.1) (b := y.2) hy
      exact ⟨by rw [ht.cols _ y1]; exact x2 _ y2, bt _ y1⟩
    have b1 : S.B 1 (sgA x.2 : α) := by
      rcases x3 with e | e
      · rw [e]; exact B_one
      · rw [e]; exact B_neg B_one
    have ep : prodZ (sgA x.2) (t.zip x.1) = prodO (ent t) x.1 0 (sgA x.2) := prodZ_O (t := t) x.1 0 (sgA x.2) (by omega)
    have bp : S.B 65 (prodO (ent t) x.1 0 (sgA x.2)) := by
      rw [← ep]
      exact B_le (prodZ_B _ _ 1 hz b1) (by omega)
    refine ⟨by rw [List.length_map]; omega, ?_⟩
    refine ldet_loop0 (t.zip x.1) (sgA x.2) 1 _ _ (fun y hy => ⟨(hz y hy).1, by rw [ht.cols _ (List.of_mem_zip (a := y.1) (b := y.2) hy).1]; omega, (hz y hy).2⟩) b1 (by omega) (fun s6 s7 => ?_)
    rw [ep]
    array_mem_dec
    refine ev_law_plus hb bp (by omega) (by decide) ?_
    exact ih _ _ _ _ _ (fun y hy => hl y (by simp [hy])) (B_le (B_add hb bp) (by omega)) (by omega) h
theorem ev_law_determinant {n : Nat} {t : Tab α} {R : DV → Prop} {E : EK} (hn : n ≤ 4) (ht : Shp n n t) (bt : TB (S := S) 16 t) (h : R (.d (S.enc (detF n (ent t))))) : m__law_determinant [.d (.int p), .d (tD t)] R E := by
  have r := ht.rows
  have e : detF n (ent t) = detZ (ent t) 0 (ords n) := detZ_F _ _ _
  rw [e] at h
  rw [q__law_determinant]
  refine ⟨rfl, ?_⟩
  simp only [g__law_determinant]
  array_mem_dec
  refine ev_law_num0 (S := S) ?_
  have l0 := ords_len n hn
  rw [show (tD t : PD) = .tuple (t.map rowD) from rfl]
  array_mem_dec
  rw [List.length_map, r]
  refine ev_law_orders hn ?_
  array_mem_dec
  refine ⟨by rw [List.length_map]; omega, ?_⟩
  refine ldet_loop1 hn ht bt (ords n) 0 1 _ _ _ _ _ (ords_ok n hn) B_zero (by omega) (fun s3 s4 s5 s6 s7 => ?_)
  array_mem_dec
  exact h
local macro_rules | `(tactic| infer_instance) => `(tactic| refine ev_law_determinant (by sizeOf_list_dec) (by sizeOf_list_dec) _ ?_)
end

/-! k04: the square's errors -/
structure NS (p : Int) (v : PD) : Prop where
  no : ∀ (R : DV → Prop) (E : EK), E 2 v → m_need_square [.d (.int p), .d v] R E
  rp : Rp 4 3000 v
theorem ns_bad {p : Int} {v : PD} (hp : Pz p) (hv : BadT p v) : NS p v := ⟨fun R E h => by
  rw [q_need_square]
  refine ⟨rfl, ?_⟩
  simp only [g_need_square]
  array_mem_dec
  exact bad_need_table hp hv h, hv.rp⟩
section
variable {p : Int} {α : Type} [Lean.Grind.Field α] [S : SF p α]
theorem ns_wide {m k : Nat} {t : Tab α} (ht : Shp m k t) (hm : m ≤ 5) (hk : k ≤ 5) (m0 : 0 < m) (hne : k ≠ m) (bt : TB (S := S) 16 t) : NS p (tD t) := by
  have rp : Rp 4 3000 (tD t) := (rp_tab (b := 16) (by decide) bt ht).le (by decide) (Nat.le_trans (Nat.mul_le_mul (Nat.add_le_add_right (Nat.mul_le_mul_left _ hk) 1) hm) (by decide))
  refine ⟨fun R E h => ?_, rp⟩
  rw [q_need_square]
  refine ⟨rfl, ?_⟩
  simp only [g_need_square]
  array_mem_dec
  refine ev_need_table ht (by omega) (by omega) ?_
  have hs := sh_tab (S := S) t
  cases t with
  | nil =>
    have := ht.rows
    simp at this
    omega
  | cons r t =>
    have hc := ht.cols r (by simp)
    have hr := ht.rows
    unfold tD at hs h rp ⊢
    simp only [List.map_cons] at hs h rp ⊢
    array_mem_dec
    refine ⟨hs, ite_f rfl ?_⟩
    rw [show (rowD r : PD) = .tuple (r.map S.enc) from rfl]
    array_mem_dec
    simp only [List.length_map, hc]
    rw [List.length_cons] at hr
    refine ite_f (decide_eq_false (by omega)) ⟨_, rfl, ?_, h⟩
    exact rp.ok9 (by decide) (by decide)
theorem ev_need_square {n : Nat} {t : Tab α} {R : DV → Prop} {E : EK} (ht : Shp n n t) (hn : n ≤ 1000) (h : R (.d .none)) : m_need_square [.d (.int p), .d (tD t)] R E := by
  rw [q_need_square]
  refine ⟨rfl, ?_⟩
  simp only [g_need_square]
  array_mem_dec
  refine ev_need_table ht (by omega) (by omega) ?_
  have hs := sh_tab (S := S) t
  cases t with
  | nil =>
    unfold tD at hs ⊢
    array_mem_dec
    exact ⟨hs, ite_t rfl h⟩
  | cons r t =>
    have hc := ht.cols r (by simp)
    have hr := ht.rows
    unfold tD at hs ⊢
    simp only [List.map_cons] at hs ⊢
    array_mem_dec
    refine ⟨hs, ite_f rfl ?_⟩
    rw [show (rowD r : PD) = .tuple (r.map S.enc) from rfl]
    array_mem_dec
    simp only [List.length_map, hc]
    rw [List.length_cons] at hr
    exact ite_t (decide_eq_true (by omega)) h
variable [DecidableEq α]
local macro_rules | `(tactic| infer_instance) => `(tactic| refine ev_need_square (by sizeOf_list_dec) (by sizeOf_list_dec) ?_)
theorem ev_determinant {n a d : Nat} {t : Tab α} {R : DV → Prop} {E : EK} (hn : n ≤ 4) (hA : gA n a ≤ 440) (hD : gD n a d ≤ 440) (ht : Shp n n t) (hb : TC (S := S) a d t) (h : R (.d (S.enc (detF n (ent t))))) :
    m_determinant [.d (.int p), .d (tD t)] R E := by
  rw [q_determinant]
  refine ⟨rfl, ?_⟩
  simp only [g_determinant]
  array_mem_dec
  exact ev_need_square ht (by omega) (ev_determinant_in hn hA hD ht hb h)
local macro_rules | `(tactic| infer_instance) => `(tactic| refine ev_determinant (by sizeOf_list_dec) (by sizeOf_list_dec) (by sizeOf_list_dec) (by sizeOf_list_dec) (by sizeOf_list_dec) ?_)
theorem ev_undone {n a d : Nat} {t : Tab α} {R : DV → Prop} {E : EK} (hn : n ≤ 4) (hA : gA n a ≤ 1900) (hD : gD n a d ≤ 1900) (ht : Shp n n t) (hb : TC (S := S) a d t) (hd : d ≤ a) (h : R (.d (match undT n t with | some u => tD u | none => .none))) :
    m_undone [.d (.int p), .d (tD t)] R E := by
  rw [q_undone]
  refine ⟨rfl, ?_⟩
  simp only [g_undone]
  array_mem_dec
  exact ev_need_square ht (by omega) (ev_undone_in hn hA hD ht (hb.wide hd) h)
omit [DecidableEq α] in
local macro_rules | `(tactic| infer_instance) => `(tactic| refine ev_undone (by sizeOf_list_dec) (by sizeOf_list_dec) (by sizeOf_list_dec) (by sizeOf_list_dec) (by sizeOf_list_dec) (by sizeOf_list_dec) ?_)
theorem ev_transposed {m k : Nat} {t : Tab α} {R : DV → Prop} {E : EK} (h : Shp m k t) (hm : m ≤ 1000) (hk : k ≤ 1000) (hR : R (.d (tD (trn k t)))) : m_transposed [.d (.int p), .d (tD t), .d (.int k)] R E := by
  rw [q_transposed]
  refine ⟨rfl, ?_⟩
  simp only [g_transposed]
  array_mem_dec
  exact ev_need_columns h hm hk (ev_transposed_in h hm hk hR)
local macro_rules | `(tactic| infer_instance) => `(tactic| refine ev_transposed (by sizeOf_list_dec) (by sizeOf_list_dec) (by sizeOf_list_dec) ?_)
end
def told4 (v : PD) : PD := .tuple [.bool true, .bool false, .str (PyData.shown v)]
theorem tell_t {c : Nat} {v : PD} {D : DEnds} {s0 s1 s2 s4 : Sl} (hc : c = 2) (hr : ROk v) (h : ∀ ρ, D.rt ρ (.d (told4 v))) : g__law_told_2 D [s0, s1, s2, .v (.exc c v), s4] := by
  subst hc
  simp only [u__law_told_2, subE]
  array_mem_dec
  exact ⟨hr, h _⟩
theorem tell_p {c : Nat} {v : PD} {D : DEnds} {s0 s1 s2 s4 : Sl} (hc : c = 1) (hr : ROk v) (h : ∀ ρ, D.rt ρ (.d (.tuple [.bool false, .bool true, .str (PyData.shown v)]))) : g__law_told_2 D [s0, s1, s2, .v (.exc c v), s4] := by
  subst hc
  simp only [u__law_told_2, subE]
  array_mem_dec
  exact ⟨hr, h _⟩
theorem told_ns {p way : Int} {v : PD} {R : DV → Prop} {E : EK} (hv : NS p v) (hw : way = 0 ∨ way = 1) (h : R (.d (told4 v))) : m__law_told [.d (.int way), .d (.int p), .d v] R E := by
  have ro := hv.rp.ok (by decide) (by decide)
  rw [q__law_told]
  refine ⟨rfl, ?_⟩
  simp only [g__law_told, u__law_told_0, u__law_told_1]
  array_mem_dec
  rcases hw with rfl | rfl
  · refine ite_t rfl ?_
    rw [q_determinant]
    refine ⟨rfl, ?_⟩
    simp only [g_determinant]
    array_mem_dec
    exact hv.no _ _ (tell_t rfl ro fun _ => h)
  · refine ite_f rfl ?_
    rw [q_undone]
    refine ⟨rfl, ?_⟩
    simp only [g_undone]
    array_mem_dec
    exact hv.no _ _ (tell_t rfl ro fun _ => h)
theorem bad_six {R : DV → Prop} {E : EK} {v : PD} (h : E 1 (.int 6)) : m_need_square [.d (.int 6), .d v] R E := by
  rw [q_need_square]
  refine ⟨rfl, ?_⟩
  simp only [g_need_square]
  array_mem_dec
  rw [q_need_table]
  refine ⟨rfl, ?_⟩
  simp only [g_need_table]
  array_mem_dec
  rw [q_need_prime]
  refine ⟨rfl, ?_⟩
  simp only [g_need_prime]
  array_mem_dec
  refine ev_is_prime_in ?_
  rw [show isPrime (.int 6) = false from rfl]
  show m_anew [.d (.int 6)] (fun x => onD x fun d => E 1 d) E
  exact ⟨_, rfl, (Rp.int (a := 10) (e := 0) (show (6 : Int).natAbs < 2 ^ 10 by decide) (by decide)).ok9 (by decide) (by decide), h⟩
theorem told_six {way : Int} {R : DV → Prop} {E : EK} (hw : way = 0 ∨ way = 1) (h : R (.d (.tuple [.bool false, .bool true, .str (PyData.shown (.int 6))]))) : m__law_told [.d (.int way), .d (.int 6), .d .none] R E := by
  have ro : ROk (.int 6) := (Rp.int (a := 10) (e := 0) (show (6 : Int).natAbs < 2 ^ 10 by decide) (by decide)).ok (by decide) (by decide)
  rw [q__law_told]
  refine ⟨rfl, ?_⟩
  simp only [g__law_told, u__law_told_0, u__law_told_1]
  array_mem_dec
  rcases hw with rfl | rfl
  · refine ite_t rfl ?_
    rw [q_determinant]
    refine ⟨rfl, ?_⟩
    simp only [g_determinant]
    array_mem_dec
    exact bad_six (tell_p rfl ro fun _ => h)
  · refine ite_f rfl ?_
    rw [q_undone]
    refine ⟨rfl, ?_⟩
    simp only [g_undone]
    array_mem_dec
    exact bad_six (tell_p rfl ro fun _ => h)

/-! k04: the six bad ones -/
theorem bads_ok {p : Int} (hp : Pz p) : ∀ v ∈ [PyData.none, .list [], .str "ab", .tuple [.tuple [.tuple [], .tuple []]]], BadT p v := by
  intro v hv
  simp only [List.mem_cons, List.not_mem_nil, or_false] at hv
  rcases hv with rfl | rfl | rfl | rfl
  · exact badT Rp.none (fun xs e => nomatch e) rfl
  · exact badT ((Rp.list (RpA.nil (e := 0))).le (by decide) (by decide)) (fun xs e => nomatch e) rfl
  · exact badT (Rp.str rfl (by decide +kernel) (by decide) (by decide +kernel)) (fun xs e => nomatch e) rfl
  · refine badT ((Rp.tup (RpA.cons (Rp.tup (RpA.cons (Rp.tup (RpA.nil (e := 0))) (RpA.cons (Rp.tup (RpA.nil (e := 0))) RpA.nil))) RpA.nil)).le (by decide) (by decide)) (fun xs e => ?_) ?_
    · injection e with e
      subst e
      refine ⟨by decide, fun r hr => ?_⟩
      simp only [List.mem_cons, List.not_mem_nil, or_false] at hr
      rcases hr with rfl
      decide
    · rcases hp with rfl | h
      · simp [isSome, hdOk, isTab, isVec, isT, lenT, isSc]
      · have := h.pos
        simp [isSome, hdOk, isTab, isVec, isT, lenT, isSc]
section
variable {p : Int} {α : Type} [Lean.Grind.Field α] [S : SF p α] [DecidableEq α]
def widZ : Tab α → Tab α
  | [] => [List.replicate 2 1]
  | r :: t => (r :: t).map (· ++ [0])
theorem wid_ns {n : Nat} {t : Tab α} (hn : n ≤ 4) (ht : Shp n n t) (bt : TB (S := S) 16 t) : NS p (tD (widZ t)) := by
  have r1 := ht.rows
  cases t with
  | nil =>
    refine ns_wide (m := 1) (k := 2) ⟨rfl, fun r hr => ?_⟩ (by decide) (by decide) (by decide) (by decide) fun r hr x hx => ?_
    · have : r = List.replicate 2 1 := by simpa [widZ] using hr
      rw [this, List.length_replicate]
    · have : r = List.replicate 2 1 := by simpa [widZ] using hr
      subst this
      rw [List.eq_of_mem_replicate hx]
      exact B_le B_one (by decide)
  | cons r t =>
    rw [List.length_cons] at r1
    refine ns_wide (m := n) (k := n + 1) ⟨by unfold widZ; rw [List.length_map, List.length_cons]; omega, fun q hq => ?_⟩ (by omega) (by omega) (by omega) (by omega) fun q hq x hx => ?_
    · obtain ⟨y, hy, rfl⟩ := List.mem_map.mp hq
      rw [List.length_append, ht.cols y hy]
      rfl
    · obtain ⟨y, hy, rfl⟩ := List.mem_map.mp hq
      rcases List.mem_append.mp hx with hx | hx
      · exact bt y hy x hx
      · rw [List.mem_singleton.mp hx]
        exact B_le B_zero (by decide)
theorem row0_ns : NS p (tD ([[]] : Tab α)) := ns_wide (m := 1) (k := 0) ⟨rfl, fun r hr => by rw [List.mem_singleton.mp hr]; rfl⟩ (by decide) (by decide) (by decide) (by decide) fun r hr x hx => by
  rw [List.mem_singleton.mp hr] at hx
  cases hx
end
theorem cp_told4 {p : Int} {v : PD} (h : NS p v) : Cp 1 (told4 v) := by
  exact Cp.tup (CpA.cons Cp.bool (CpA.cons Cp.bool (CpA.cons (Cp.str h.rp.st) CpA.nil)))
theorem bad_loop {p : Int} {D : DEnds} {s0 s2 s3 s4 s5 s6 s7 s8 : Sl} : ∀ (l : List PD) (s9 s10 s11 : Sl), (∀ v ∈ l, NS p v) →
    (∀ s9 s10 s11, D.nx [s0, .v (.d (.int p)), s2, s3, s4, s5, s6, s7, s8, s9, s10, s11]) →
    loopD (gNm 9) g__law_right_b0 D l [s0, .v (.d (.int p)), s2, s3, s4, s5, s6, s7, s8, s9, s10, s11]
  | [], s9, s10, s11, _, h => h _ _ _
  | v :: l, s9, s10, s11, hl, h => by
    have ih := bad_loop (p := p) (D := D) (s0 := s0) (s2 := s2) (s3 := s3) (s4 := s4) (s5 := s5) (s6 := s6) (s7 := s7) (s8 := s8) l
    have hv := hl v (by simp)
    have ro := hv.rp.ok (by decide) (by decide)
    unfold loopD
    array_mem_dec
    generalize hn : loopD (gNm 9) g__law_right_b0 D l = next
    rw [hn] at ih
    simp only [g__law_right_b0]
    array_mem_dec
    refine told_ns hv (.inl rfl) ?_
    array_mem_dec
    refine told_ns hv (.inr rfl) ?_
    array_mem_dec
    refine ⟨ro, ⟨by decide, by decide⟩, by decide, ?_⟩
    rw [flat_repl]
    have c1 := cp_told4 hv
    refine e_neR (e := 2) (d := .list [told4 v, told4 v]) (Cp.list (CpA.cons c1 (CpA.cons c1 CpA.nil))) (by decide) ?_
    exact ih _ _ _ (fun y hy => hl y (by simp [hy])) h

/-! k04: right, from the end -/
abbrev RT (D : DEnds) : Prop := ∀ ρ, D.rt ρ (.d (.bool true))
theorem z11 {D : DEnds} {s0 s1 s2 s3 s4 s5 s6 s7 s8 s9 s10 s11 : Sl} (hD : RT D) : g__law_right_11 D [s0, s1, s2, s3, s4, s5, s6, s7, s8, s9, s10, s11] := by
  simp only [u__law_right_11]
  array_mem_dec
  refine told_six (.inl rfl) ?_
  array_mem_dec
  refine told_six (.inr rfl) ?_
  array_mem_dec
  rw [flat_repl, show PyData.shown (.int 6) = Str.ofString "6" from rfl]
  refine ⟨⟨by decide, by decide⟩, by decide, e_eqR (e := 9) ?_ (by decide) (hD _)⟩
  have c : Cp 1 (.tuple [.bool false, .bool true, .str (Str.ofString "6")]) := Cp.tup (CpA.cons Cp.bool (CpA.cons Cp.bool (CpA.cons (Cp.str (by decide +kernel)) CpA.nil)))
  exact (Cp.list (CpA.cons c (CpA.cons c CpA.nil))).le (by decide)
section
variable {p : Int} {α : Type} [Lean.Grind.Field α] [S : SF p α] [DecidableEq α]
structure Sq (p : Int) {α : Type} [Lean.Grind.Field α] [S : SF p α] (n : Nat) (t : Tab α) : Prop where
  hn : n ≤ 4
  shp : Shp n n t
  tb : TB (S := S) 16 t
  td : TD (S := S) 6 5 t
theorem z10 {D : DEnds} {n : Nat} {t : Tab α} {s0 s2 s3 s4 s5 s6 s7 s9 s10 s11 : Sl} (hD : RT D) (w : Sq p n t) : g__law_right_10 D [s0, .v (.d (.int p)), s2, s3, s4, s5, s6, s7, .v (.d (tD (widZ t))), s9, s10, s11] := by
  simp only [u__law_right_10]
  array_mem_dec
  refine bad_loop _ _ _ _ (fun v hv => ?_) fun s9 s10 s11 => z11 hD
  have hp := sf_pz p α
  rcases List.mem_cons.mp hv with rfl | hv
  · exact wid_ns w.hn w.shp w.tb
  rcases List.mem_cons.mp hv with rfl | hv
  · exact ns_bad hp (bads_ok hp _ (by simp))
  rcases List.mem_cons.mp hv with rfl | hv
  · exact ns_bad hp (bads_ok hp _ (by simp))
  rcases List.mem_cons.mp hv with rfl | hv
  · exact row0_ns (α := α)
  rcases List.mem_cons.mp hv with rfl | hv
  · exact ns_bad hp (bads_ok hp _ (by simp [Str.ofString]))
  · rw [List.mem_singleton.mp hv]
    exact ns_bad hp (bads_ok hp _ (by simp))
theorem z9 {D : DEnds} {n : Nat} {t : Tab α} {s0 s4 s5 s6 s7 s8 s9 s10 s11 : Sl} (hD : RT D) (w : Sq p n t) : g__law_right_9 D [s0, .v (.d (.int p)), .v (.d (tD t)), .v (.d (.int n)), s4, s5, s6, s7, s8, s9, s10, s11] := by
  have r1 := w.shp.rows
  have hn := w.hn
  simp only [u__law_right_9]
  rw [show (tD t : PD) = .tuple (t.map rowD) from rfl]
  array_mem_dec
  refine ⟨by rw [List.length_map]; omega, lcD_all rowD (fun r => rowD (r ++ [0])) (fun r hr P hP => ?_) ?_⟩
  · have := w.shp.cols r hr
    unfold rowD at hP ⊢
    array_mem_dec
    refine ev_law_num0 (S := S) ?_
    array_mem_dec
    exact ⟨by rw [List.length_map]; omega, hP⟩
  cases t with
  | nil =>
    have m0 : n = 0 := by simpa using r1.symm
    subst m0
    refine ite_t rfl (ev_law_num1 (S := S) ?_)
    array_mem_dec
    rw [flat_repl]
    exact ⟨⟨by decide, by decide⟩, by decide, z10 hD w⟩
  | cons r t =>
    rw [List.length_cons] at r1
    refine ite_f (decide_eq_false (by omega)) ⟨by rw [List.length_map, List.length_cons]; omega, ?_⟩
    have := z10 (D := D) (s0 := s0) (s2 := .v (.d (tD (r :: t)))) (s3 := .v (.d (.int n))) (s4 := s4) (s5 := s5) (s6 := s6) (s7 := s7) (s9 := s9) (s10 := s10) (s11 := s11) hD w
    unfold widZ tD at this
    rw [List.map_map] at this
    rw [List.append_nil]
    exact this
theorem z8 {D : DEnds} {n : Nat} {t m : Tab α} {s0 s5 s6 s8 s9 s10 s11 : Sl} (hD : RT D) (w : Sq p n t) (hm : Shp n n m) (bm : TB (S := S) 8 m) (dm : TD (S := S) 5 3 m) : g__law_right_8 D [s0, .v (.d (.int p)), .v (.d (tD t)), .v (.d (.int n)), .v (.d (S.enc (detF n (ent t)))), s5, s6, .v (.d (tD m)), s8, s9, s10, s11] := by
  have r1 := w.shp.rows
  have hn := w.hn
  simp only [u__law_right_8]
  array_mem_dec
  have g4 : gA n 6 ≤ 440 ∧ gD n 6 5 ≤ 440 := ⟨Nat.le_trans (gA_mono 6 hn) (by decide), Nat.le_trans (gD_mono 6 5 hn) (by decide)⟩
  have g5 : gA n 5 ≤ 440 ∧ gD n 5 3 ≤ 440 := ⟨Nat.le_trans (gA_mono 5 hn) (by decide), Nat.le_trans (gD_mono 5 3 hn) (by decide)⟩
  have gm : gA n 14 ≤ 440 ∧ gD n 14 8 ≤ 440 := ⟨Nat.le_trans (gA_mono 14 hn) (by decide), Nat.le_trans (gD_mono 14 8 hn) (by decide)⟩
  have b1 := det_B hn g4.1 g4.2 w.shp w.td.tc
  have b2 := det_B hn g5.1 g5.2 hm dm.tc
  refine ev_law_product (b := 16) w.shp hm w.tb (fun r hr => (bm r hr).le (by decide)) (by decide) (by decide) (by omega) (by omega) (by omega) (by omega) ?_
  refine ev_determinant hn gm.1 gm.2 (w.shp.mul hm) ((TD.mul w.shp hn w.td dm).tc) ?_
  refine ev_law_determinant hn hm (fun r hr => (bm r hr).le (by decide)) ?_
  refine ev_law_times b1 b2 (by omega) (by omega) ?_
  rw [det_mul hn w.shp hm]
  refine e_neR (cp_enc _) (by decide) ?_
  exact z9 hD w
end

/-! k04: right, the rest -/
section
variable {p : Int} {α : Type} [Lean.Grind.Field α] [S : SF p α] [DecidableEq α]
theorem z7 {D : DEnds} {n : Nat} {t : Tab α} {s5 s6 s7 s8 s9 s10 s11 : Sl} (hD : RT D) (w : Sq p n t) : g__law_right_7 D [.v .wel, .v (.d (.int p)), .v (.d (tD t)), .v (.d (.int n)), .v (.d (S.enc (detF n (ent t)))), s5, s6, s7, s8, s9, s10, s11] := by
  have hn := w.hn
  simp only [u__law_right_7]
  array_mem_dec
  refine ev_law_table6 (S := S) (by omega) (by omega) fun m hm bm dm => ?_
  exact z8 hD w hm bm (TD.of dm)
def undD (n : Nat) (t : Tab α) : PD := match undT n t with | some u => tD u | none => .none
theorem z6 {D : DEnds} {n : Nat} {t : Tab α} {s6 s7 s8 s9 s10 s11 : Sl} (hD : RT D) (w : Sq p n t) : g__law_right_6 D [.v .wel, .v (.d (.int p)), .v (.d (tD t)), .v (.d (.int n)), .v (.d (S.enc (detF n (ent t)))), .v (.d (undD n t)), s6, s7, s8, s9, s10, s11] := by
  have hn := w.hn
  have uo := und_ok hn w.shp
  have ub := fun u => und_TC (u := u) w.shp w.td.tc (by decide)
  simp only [u__law_right_6]
  unfold undD
  generalize undT n t = o at uo ub
  cases o with
  | none =>
    array_mem_dec
    exact z7 hD w
  | some u =>
    obtain ⟨u1, u2, u3, u4⟩ := uo
    have tu := ub u rfl
    dsimp only
    array_mem_dec
    have nn : ∀ R : DV → Prop, R (.d (.bool true)) → gNotN (.d (tD u)) R := fun R h => h
    refine nn _ ?_
    array_mem_dec
    have gg : gD n 6 5 ≤ gA n 6 ∧ gA n (gA n 6) ≤ 1900 ∧ gD n (gA n 6) (gD n 6 5) ≤ 1900 := by
      rcases upto4 hn with rfl | rfl | rfl | rfl | rfl <;> decide
    have g4 : gA n 6 ≤ 111 ∧ gD n 6 5 ≤ 111 := ⟨Nat.le_trans (gA_mono 6 hn) (by decide), Nat.le_trans (gD_mono 6 5 hn) (by decide)⟩
    have bu : TB (S := S) 111 u := tu.tb g4.1 g4.2
    have bt : TB (S := S) 111 t := fun r hr => (w.tb r hr).le (by decide)
    have back : (undT n u) = some t := by
      have uo := und_ok hn u1
      cases q : undT n u with
      | none =>
        rw [q] at uo
        have e := det_mul hn w.shp u1
        rw [u2, detF_congr hn (g := fun a b => if a = b then (1 : α) else 0) fun a b ha hb => ent_uni ha hb, detF_uni hn] at e
        have uo : detF n (ent u) = 0 := uo
        rw [uo] at e
        exact absurd e (by grind)
      | some v =>
        rw [q] at uo
        obtain ⟨v1, v2, v3, v4⟩ := uo
        have e := mul_assocT w.shp u1 v1
        rw [u2, v2, mul_uniT w.shp, uni_mulT v1] at e
        rw [e]
    refine ev_law_units (α := α) (by omega) ?_
    refine ev_law_product (b := 111) w.shp u1 bt bu (by decide) (by decide) (by omega) (by omega) (by omega) (by omega) ?_
    rw [u2]
    refine e_neR (cp_tab _) (by decide) ?_
    refine ev_law_product (b := 111) u1 w.shp bu bt (by decide) (by decide) (by omega) (by omega) (by omega) (by omega) ?_
    rw [u3]
    refine e_neR (cp_tab _) (by decide) ?_
    refine ev_undone hn gg.2.1 gg.2.2 u1 tu gg.1 ?_
    rw [back]
    refine e_neR (cp_tab _) (by decide) ?_
    exact z7 hD w
theorem z5 {D : DEnds} {n : Nat} {t : Tab α} {s6 s7 s8 s9 s10 s11 : Sl} (hD : RT D) (w : Sq p n t) : g__law_right_5 D [.v .wel, .v (.d (.int p)), .v (.d (tD t)), .v (.d (.int n)), .v (.d (S.enc (detF n (ent t)))), .v (.d (undD n t)), s6, s7, s8, s9, s10, s11] := by
  have hn := w.hn
  have uo := und_ok hn w.shp
  have g4 : gA n 6 ≤ 1900 ∧ gD n 6 5 ≤ 1900 := ⟨Nat.le_trans (gA_mono 6 hn) (by decide), Nat.le_trans (gD_mono 6 5 hn) (by decide)⟩
  simp only [u__law_right_5]
  array_mem_dec
  have e1 : ∀ R : DV → Prop, R (.d (.bool (decide (detF n (ent t) = 0)))) → gIsN (.d (undD n t)) R := fun R h => by
    unfold undD
    cases q : undT n t with
    | none =>
      rw [q] at uo
      rw [decide_eq_true uo] at h
      exact h
    | some u =>
      rw [q] at uo
      rw [decide_eq_false uo.2.2.2] at h
      exact h
  refine e1 _ ?_
  refine ev_law_num0 (S := S) (e_eqG (sh_enc _) (sh_enc _) ?_)
  rw [enc_zero_iff]
  refine e_neR (e := 0) (d := .bool (decide (detF n (ent t) = 0))) Cp.bool (by decide) ?_
  refine ev_undone hn g4.1 g4.2 w.shp w.td.tc (by decide) ?_
  have cu : Cp 3 (undD n t) := by
    unfold undD
    cases undT n t with
    | none => exact Cp.none
    | some u => exact cp_tab u
  refine e_neR cu (by decide) ?_
  exact z6 hD w
theorem z4 {D : DEnds} {n : Nat} {t : Tab α} {s5 s6 s7 s8 s9 s10 s11 : Sl} (hD : RT D) (w : Sq p n t) : g__law_right_4 D [.v .wel, .v (.d (.int p)), .v (.d (tD t)), .v (.d (.int n)), .v (.d (S.enc (detF n (ent t)))), s5, s6, s7, s8, s9, s10, s11] := by
  have hn := w.hn
  have g4 : gA n 6 ≤ 1900 ∧ gD n 6 5 ≤ 1900 := ⟨Nat.le_trans (gA_mono 6 hn) (by decide), Nat.le_trans (gD_mono 6 5 hn) (by decide)⟩
  simp only [u__law_right_4]
  array_mem_dec
  refine ev_undone hn g4.1 g4.2 w.shp w.td.tc (by decide) ?_
  exact z5 hD w
theorem z3 {D : DEnds} {n : Nat} {t : Tab α} {s5 s6 s7 s8 s9 s10 s11 : Sl} (hD : RT D) (w : Sq p n t) : g__law_right_3 D [.v .wel, .v (.d (.int p)), .v (.d (tD t)), .v (.d (.int n)), .v (.d (S.enc (detF n (ent t)))), s5, s6, s7, s8, s9, s10, s11] := by
  have hn := w.hn
  have g4 : gA n 6 ≤ 440 ∧ gD n 6 5 ≤ 440 := ⟨Nat.le_trans (gA_mono 6 hn) (by decide), Nat.le_trans (gD_mono 6 5 hn) (by decide)⟩
  have b1 := det_B hn g4.1 g4.2 w.shp w.td.tc
  simp only [u__law_right_3]
  array_mem_dec
  refine ev_determinant hn g4.1 g4.2 w.shp w.td.tc (ev_determinant hn g4.1 g4.2 w.shp w.td.tc ?_)
  have rx := rp_enc (S := S) b1 (by omega)
  have ro : ROk (.list [S.enc (detF n (ent t)), S.enc (detF n (ent t))]) := (Rp.list (RpA.cons rx (RpA.cons rx RpA.nil))).ok (by decide) (by omega)
  array_mem_dec
  refine ⟨ro, ro, ite_t (by simp) ?_⟩
  refine ev_transposed w.shp (by omega) (by omega) ?_
  refine ev_determinant hn g4.1 g4.2 w.shp.trn w.td.trn.tc ?_
  have e : detF n (ent (trn n t)) = detF n (ent t) := by
    rw [← detF_trn hn (ent t)]
    exact detF_congr hn fun a b ha hb => ent_trn w.shp hb ha
  rw [e]
  refine e_neR (cp_enc _) (by decide) ?_
  exact z4 hD w
end
theorem pz_mem {x : PD} (h : x ∈ [PyData.int 0, .int 2, .int 3, .int 5, .int 11]) : ∃ p, x = .int p ∧ Pz p := by
  simp only [List.mem_cons, List.not_mem_nil, or_false] at h
  rcases h with rfl | rfl | rfl | rfl | rfl
  · exact ⟨_, rfl, .inl rfl⟩
  · exact ⟨_, rfl, .inr (.inl rfl)⟩
  · exact ⟨_, rfl, .inr (.inr (.inl rfl))⟩
  · exact ⟨_, rfl, .inr (.inr (.inr (.inl rfl)))⟩
  · exact ⟨_, rfl, .inr (.inr (.inr (.inr (.inr (.inl rfl)))))⟩
theorem ev_right : RightFn m__law_right := by
  intro R hR
  rw [q__law_right]
  refine ⟨rfl, ?_⟩
  simp only [g__law_right, u__law_right_0]
  array_mem_dec
  refine ev_draw_of (by decide) (by decide) fun i i0 i1 => ?_
  array_mem_dec
  obtain ⟨v, hv0, hv⟩ := atI_mem (xs := [PyData.int 0, .int 2, .int 3, .int 5, .int 11]) i0 i1
  refine ⟨v, hv0, ?_⟩
  obtain ⟨p, rfl, hp⟩ := pz_mem hv
  refine sf_all hp fun α _ _ _ => ?_
  simp only [u__law_right_1]
  array_mem_dec
  refine ev_law_square (α := α) fun n t hn ht bt dt => ?_
  have w : Sq p n t := ⟨hn, ht, bt, dt⟩
  have r := ht.rows
  simp only [u__law_right_2]
  rw [show (tD t : PD) = .tuple (t.map rowD) from rfl]
  array_mem_dec
  refine ev_law_determinant hn ht bt ?_
  rw [List.length_map, r]
  exact z3 (fun ρ => hR) w

end Law
namespace Law
open PySem PySem.Spec PyProof.Rows L2 Wb
theorem pl_10 {α : Type} : ∀ us ws : List α, (px_10 us ws).length = 2 → us = [] ∧ ∃ a b, ws = [a, b] := by
  intro us ws h
  unfold px_10 at h
  split at h
  · exact ⟨rfl, _, _, rfl⟩
  · simp at h
theorem pv_10 {vs zs : List V} {us ws : List Value} (r : Vals vs us) (z0 : Vals zs ws) : Vals (px_10 vs zs) (px_10 us ws) := by
  cases r with
  | cons _ _ => exact .nil
  | nil =>
    cases z0 with
    | nil => exact .nil
    | cons ha z1 =>
      cases z1 with
      | nil => exact .nil
      | cons hb z2 =>
        cases z2 with
        | nil => exact (.cons hb (.cons ha .nil))
        | cons _ _ => exact .nil

theorem pd_10 {K : Frag} {n : En} (S : Hp) (vs : List V) (xs : List DV) (zs : List V) (ys : List DV) (r : DvAll K n S vs xs) (z0 : DvAll K n S zs ys) : DvAll K n S (px_10 vs zs) (px_10 xs ys) := by
  cases r with
  | cons _ _ => exact .nil
  | nil =>
    cases z0 with
    | nil => exact .nil
    | cons ha z1 =>
      cases z1 with
      | nil => exact .nil
      | cons hb z2 =>
        cases z2 with
        | nil => exact (.cons hb (.cons ha .nil))
        | cons _ _ => exact .nil

def top (i : Nat) : Stmt := PySem.Challenge.pw_spacewebs_k04_determinants_and_tables_un.main.body.getD i (.Pass ⟨0, 0, 0, 0⟩)
abbrev s_is_integer : Stmt := top 7
theorem sc_is_integer : FnScope ["value"] ["value"] (defScope s_is_integer) := ⟨rfl, rfl, rfl, by decide +kernel, rfl, by decide +kernel, by decide +kernel⟩
abbrev s_is_tuple : Stmt := top 8
theorem sc_is_tuple : FnScope ["value", "low", "high"] ["value", "low", "high"] (defScope s_is_tuple) := ⟨rfl, rfl, rfl, by decide +kernel, rfl, by decide +kernel, by decide +kernel⟩
abbrev s_anew : Stmt := top 9
theorem sc_anew : FnScope ["value", "part"] ["value"] (defScope s_anew) := ⟨rfl, rfl, rfl, by decide +kernel, rfl, by decide +kernel, by decide +kernel⟩
abbrev s_is_prime_in : Stmt := top 12
theorem sc_is_prime_in : FnScope ["value"] ["value"] (defScope s_is_prime_in) := ⟨rfl, rfl, rfl, by decide +kernel, rfl, by decide +kernel, by decide +kernel⟩
abbrev s_is_scalar_in : Stmt := top 13
theorem sc_is_scalar_in : FnScope ["prime", "value"] ["prime", "value"] (defScope s_is_scalar_in) := ⟨rfl, rfl, rfl, by decide +kernel, rfl, by decide +kernel, by decide +kernel⟩
abbrev s_fraction_in : Stmt := top 14
theorem sc_fraction_in : FnScope ["above", "below", "shared"] ["above", "below"] (defScope s_fraction_in) := ⟨rfl, rfl, rfl, by decide +kernel, rfl, by decide +kernel, by decide +kernel⟩
abbrev s_scalar_in : Stmt := top 15
theorem sc_scalar_in : FnScope ["prime", "k"] ["prime", "k"] (defScope s_scalar_in) := ⟨rfl, rfl, rfl, by decide +kernel, rfl, by decide +kernel, by decide +kernel⟩
abbrev s_plus_in : Stmt := top 16
theorem sc_plus_in : FnScope ["prime", "one", "other"] ["prime", "one", "other"] (defScope s_plus_in) := ⟨rfl, rfl, rfl, by decide +kernel, rfl, by decide +kernel, by decide +kernel⟩
abbrev s_times_in : Stmt := top 17
theorem sc_times_in : FnScope ["prime", "one", "other"] ["prime", "one", "other"] (defScope s_times_in) := ⟨rfl, rfl, rfl, by decide +kernel, rfl, by decide +kernel, by decide +kernel⟩
abbrev s_negative_in : Stmt := top 18
theorem sc_negative_in : FnScope ["prime", "scalar"] ["prime", "scalar"] (defScope s_negative_in) := ⟨rfl, rfl, rfl, by decide +kernel, rfl, by decide +kernel, by decide +kernel⟩
abbrev s_inverse_in : Stmt := top 19
theorem sc_inverse_in : FnScope ["prime", "scalar", "k"] ["prime", "scalar"] (defScope s_inverse_in) := ⟨rfl, rfl, rfl, by decide +kernel, rfl, by decide +kernel, by decide +kernel⟩
abbrev s_multiple_in : Stmt := top 20
theorem sc_multiple_in : FnScope ["prime", "scalar", "row", "own"] ["prime", "scalar", "row"] (defScope s_multiple_in) := ⟨rfl, rfl, rfl, by decide +kernel, rfl, by decide +kernel, by decide +kernel⟩
abbrev s_less_in : Stmt := top 21
theorem sc_less_in : FnScope ["prime", "row", "scalar", "other", "down", "own", "more"] ["prime", "row", "scalar", "other"] (defScope s_less_in) := ⟨rfl, rfl, rfl, by decide +kernel, rfl, by decide +kernel, by decide +kernel⟩
abbrev s_need_prime : Stmt := top 23
theorem sc_need_prime : FnScope ["prime"] ["prime"] (defScope s_need_prime) := ⟨rfl, rfl, rfl, by decide +kernel, rfl, by decide +kernel, by decide +kernel⟩
abbrev s_is_vector_in : Stmt := top 25
theorem sc_is_vector_in : FnScope ["prime", "size", "value", "own"] ["prime", "size", "value"] (defScope s_is_vector_in) := ⟨rfl, rfl, rfl, by decide +kernel, rfl, by decide +kernel, by decide +kernel⟩
abbrev s_is_table_in : Stmt := top 26
theorem sc_is_table_in : FnScope ["prime", "rows", "columns", "value", "row"] ["prime", "rows", "columns", "value"] (defScope s_is_table_in) := ⟨rfl, rfl, rfl, by decide +kernel, rfl, by decide +kernel, by decide +kernel⟩
abbrev s_is_some_table : Stmt := top 27
theorem sc_is_some_table : FnScope ["prime", "value", "row"] ["prime", "value"] (defScope s_is_some_table) := ⟨rfl, rfl, rfl, by decide +kernel, rfl, by decide +kernel, by decide +kernel⟩
abbrev s_units_in : Stmt := top 28
theorem sc_units_in : FnScope ["prime", "size", "column", "row"] ["prime", "size"] (defScope s_units_in) := ⟨rfl, rfl, rfl, by decide +kernel, rfl, by decide +kernel, by decide +kernel⟩
abbrev s_transposed_in : Stmt := top 29
theorem sc_transposed_in : FnScope ["table", "columns", "row", "column"] ["table", "columns"] (defScope s_transposed_in) := ⟨rfl, rfl, rfl, by decide +kernel, rfl, by decide +kernel, by decide +kernel⟩
abbrev s_reduced_in : Stmt := top 30
theorem sc_reduced_in : FnScope ["prime", "table", "rows", "pivots", "zero", "column", "at", "found", "top", "k", "row"] ["prime", "table"] (defScope s_reduced_in) := ⟨rfl, rfl, rfl, by decide +kernel, rfl, by decide +kernel, by decide +kernel⟩
abbrev s_undone_in : Stmt := top 31
theorem sc_undone_in : FnScope ["prime", "table", "size", "rows", "pivots", "row", "unit"] ["prime", "table"] (defScope s_undone_in) := ⟨rfl, rfl, rfl, by decide +kernel, rfl, by decide +kernel, by decide +kernel⟩
abbrev s_determinant_in : Stmt := top 32
theorem sc_determinant_in : FnScope ["prime", "table", "rows", "zero", "found", "column", "some", "top", "down", "k", "row"] ["prime", "table"] (defScope s_determinant_in) := ⟨rfl, rfl, rfl, by decide +kernel, rfl, by decide +kernel, by decide +kernel⟩
abbrev s_need_table : Stmt := top 34
theorem sc_need_table : FnScope ["prime", "table"] ["prime", "table"] (defScope s_need_table) := ⟨rfl, rfl, rfl, by decide +kernel, rfl, by decide +kernel, by decide +kernel⟩
abbrev s_need_square : Stmt := top 35
theorem sc_need_square : FnScope ["prime", "table"] ["prime", "table"] (defScope s_need_square) := ⟨rfl, rfl, rfl, by decide +kernel, rfl, by decide +kernel, by decide +kernel⟩
abbrev s_need_columns : Stmt := top 36
theorem sc_need_columns : FnScope ["prime", "table", "columns"] ["prime", "table", "columns"] (defScope s_need_columns) := ⟨rfl, rfl, rfl, by decide +kernel, rfl, by decide +kernel, by decide +kernel⟩
abbrev s_transposed : Stmt := top 37
theorem sc_transposed : FnScope ["prime", "table", "columns"] ["prime", "table", "columns"] (defScope s_transposed) := ⟨rfl, rfl, rfl, by decide +kernel, rfl, by decide +kernel, by decide +kernel⟩
abbrev s_determinant : Stmt := top 38
theorem sc_determinant : FnScope ["prime", "table"] ["prime", "table"] (defScope s_determinant) := ⟨rfl, rfl, rfl, by decide +kernel, rfl, by decide +kernel, by decide +kernel⟩
abbrev s_undone : Stmt := top 39
theorem sc_undone : FnScope ["prime", "table"] ["prime", "table"] (defScope s_undone) := ⟨rfl, rfl, rfl, by decide +kernel, rfl, by decide +kernel, by decide +kernel⟩
abbrev s__law_well : Stmt := top 41
theorem sc__law_well : FnScope ["script", "k", "cell", "whole", "part", "mixed"] ["script", "k"] (defScope s__law_well) := ⟨rfl, rfl, rfl, by decide +kernel, rfl, by decide +kernel, by decide +kernel⟩
abbrev s__law_draw : Stmt := top 42
theorem sc__law_draw : FnScope ["well", "many", "found", "step", "mixed"] ["well", "many"] (defScope s__law_draw) := ⟨rfl, rfl, rfl, by decide +kernel, rfl, by decide +kernel, by decide +kernel⟩
abbrev s__law_cut : Stmt := top 43
theorem sc__law_cut : FnScope ["above", "below", "one", "other", "sign"] ["above", "below"] (defScope s__law_cut) := ⟨rfl, rfl, rfl, by decide +kernel, rfl, by decide +kernel, by decide +kernel⟩
abbrev s__law_num : Stmt := top 44
theorem sc__law_num : FnScope ["p", "k"] ["p", "k"] (defScope s__law_num) := ⟨rfl, rfl, rfl, by decide +kernel, rfl, by decide +kernel, by decide +kernel⟩
abbrev s__law_plus : Stmt := top 45
theorem sc__law_plus : FnScope ["p", "one", "other"] ["p", "one", "other"] (defScope s__law_plus) := ⟨rfl, rfl, rfl, by decide +kernel, rfl, by decide +kernel, by decide +kernel⟩
abbrev s__law_times : Stmt := top 46
theorem sc__law_times : FnScope ["p", "one", "other"] ["p", "one", "other"] (defScope s__law_times) := ⟨rfl, rfl, rfl, by decide +kernel, rfl, by decide +kernel, by decide +kernel⟩
abbrev s__law_drawn : Stmt := top 48
theorem sc__law_drawn : FnScope ["well", "p"] ["well", "p"] (defScope s__law_drawn) := ⟨rfl, rfl, rfl, by decide +kernel, rfl, by decide +kernel, by decide +kernel⟩
abbrev s__law_table : Stmt := top 49
theorem sc__law_table : FnScope ["well", "p", "rows", "columns", "column", "row"] ["well", "p", "rows", "columns"] (defScope s__law_table) := ⟨rfl, rfl, rfl, by decide +kernel, rfl, by decide +kernel, by decide +kernel⟩
abbrev s__law_dot : Stmt := top 50
theorem sc__law_dot : FnScope ["p", "one", "other", "found", "mine", "yours"] ["p", "one", "other"] (defScope s__law_dot) := ⟨rfl, rfl, rfl, by decide +kernel, rfl, by decide +kernel, by decide +kernel⟩
abbrev s__law_product : Stmt := top 51
theorem sc__law_product : FnScope ["p", "one", "other", "columns", "own", "at", "row"] ["p", "one", "other", "columns"] (defScope s__law_product) := ⟨rfl, rfl, rfl, by decide +kernel, rfl, by decide +kernel, by decide +kernel⟩
abbrev s__law_units : Stmt := top 52
theorem sc__law_units : FnScope ["p", "size", "column", "row"] ["p", "size"] (defScope s__law_units) := ⟨rfl, rfl, rfl, by decide +kernel, rfl, by decide +kernel, by decide +kernel⟩
abbrev s__law_orders : Stmt := top 53
theorem sc__law_orders : FnScope ["many", "found", "turn", "more", "order", "sign", "at"] ["many"] (defScope s__law_orders) := ⟨rfl, rfl, rfl, by decide +kernel, rfl, by decide +kernel, by decide +kernel⟩
abbrev s__law_determinant : Stmt := top 54
theorem sc__law_determinant : FnScope ["p", "table", "found", "order", "sign", "own", "row", "column"] ["p", "table"] (defScope s__law_determinant) := ⟨rfl, rfl, rfl, by decide +kernel, rfl, by decide +kernel, by decide +kernel⟩
abbrev s__law_square : Stmt := top 55
theorem sc__law_square : FnScope ["well", "p", "many", "table", "scalar", "one", "other", "item"] ["well", "p"] (defScope s__law_square) := ⟨rfl, rfl, rfl, by decide +kernel, rfl, by decide +kernel, by decide +kernel⟩
abbrev s__law_told : Stmt := top 56
theorem sc__law_told : FnScope ["way", "p", "table", "caught", "e"] ["way", "p", "table"] (defScope s__law_told) := ⟨rfl, rfl, rfl, by decide +kernel, rfl, by decide +kernel, by decide +kernel⟩
abbrev s__law_right : Stmt := top 57
theorem sc__law_right : FnScope ["well", "p", "table", "many", "due", "other", "units", "more", "wide", "bad", "row", "way"] ["well"] (defScope s__law_right) := ⟨rfl, rfl, rfl, by decide +kernel, rfl, by decide +kernel, by decide +kernel⟩
abbrev s_law : Stmt := top 58
theorem sc_law : FnScope ["script", "k", "well", "turn"] ["script"] (defScope s_law) := ⟨rfl, rfl, rfl, by decide +kernel, rfl, by decide +kernel, by decide +kernel⟩
structure Fx (P : Program) (K : Frag) (mg : Str → Option Value) where
  a_is_integer : Addr
  fd_is_integer : FuncData
  F_is_integer : Fun K "is_integer" "is_integer" s_is_integer a_is_integer fd_is_integer
  M_is_integer : mg "is_integer" = some (.ref a_is_integer)
  B_is_integer : Binds K fd_is_integer ["value"] []
  a_is_tuple : Addr
  fd_is_tuple : FuncData
  F_is_tuple : Fun K "is_tuple" "is_tuple" s_is_tuple a_is_tuple fd_is_tuple
  M_is_tuple : mg "is_tuple" = some (.ref a_is_tuple)
  B_is_tuple : Binds K fd_is_tuple ["value", "low", "high"] []
  a_anew : Addr
  fd_anew : FuncData
  F_anew : Fun K "anew" "anew" s_anew a_anew fd_anew
  M_anew : mg "anew" = some (.ref a_anew)
  B_anew : Binds K fd_anew ["value"] []
  a_is_prime_in : Addr
  fd_is_prime_in : FuncData
  F_is_prime_in : Fun K "is_prime_in" "is_prime_in" s_is_prime_in a_is_prime_in fd_is_prime_in
  M_is_prime_in : mg "is_prime_in" = some (.ref a_is_prime_in)
  B_is_prime_in : Binds K fd_is_prime_in ["value"] []
  a_is_scalar_in : Addr
  fd_is_scalar_in : FuncData
  F_is_scalar_in : Fun K "is_scalar_in" "is_scalar_in" s_is_scalar_in a_is_scalar_in fd_is_scalar_in
  M_is_scalar_in : mg "is_scalar_in" = some (.ref a_is_scalar_in)
  B_is_scalar_in : Binds K fd_is_scalar_in ["prime", "value"] []
  a_fraction_in : Addr
  fd_fraction_in : FuncData
  F_fraction_in : Fun K "fraction_in" "fraction_in" s_fraction_in a_fraction_in fd_fraction_in
  M_fraction_in : mg "fraction_in" = some (.ref a_fraction_in)
  B_fraction_in : Binds K fd_fraction_in ["above", "below"] []
  a_scalar_in : Addr
  fd_scalar_in : FuncData
  F_scalar_in : Fun K "scalar_in" "scalar_in" s_scalar_in a_scalar_in fd_scalar_in
  M_scalar_in : mg "scalar_in" = some (.ref a_scalar_in)
  B_scalar_in : Binds K fd_scalar_in ["prime", "k"] []
  a_plus_in : Addr
  fd_plus_in : FuncData
  F_plus_in : Fun K "plus_in" "plus_in" s_plus_in a_plus_in fd_plus_in
  M_plus_in : mg "plus_in" = some (.ref a_plus_in)
  B_plus_in : Binds K fd_plus_in ["prime", "one", "other"] []
  a_times_in : Addr
  fd_times_in : FuncData
  F_times_in : Fun K "times_in" "times_in" s_times_in a_times_in fd_times_in
  M_times_in : mg "times_in" = some (.ref a_times_in)
  B_times_in : Binds K fd_times_in ["prime", "one", "other"] []
  a_negative_in : Addr
  fd_negative_in : FuncData
  F_negative_in : Fun K "negative_in" "negative_in" s_negative_in a_negative_in fd_negative_in
  M_negative_in : mg "negative_in" = some (.ref a_negative_in)
  B_negative_in : Binds K fd_negative_in ["prime", "scalar"] []
  a_inverse_in : Addr
  fd_inverse_in : FuncData
  F_inverse_in : Fun K "inverse_in" "inverse_in" s_inverse_in a_inverse_in fd_inverse_in
  M_inverse_in : mg "inverse_in" = some (.ref a_inverse_in)
  B_inverse_in : Binds K fd_inverse_in ["prime", "scalar"] []
  a_multiple_in : Addr
  fd_multiple_in : FuncData
  F_multiple_in : Fun K "multiple_in" "multiple_in" s_multiple_in a_multiple_in fd_multiple_in
  M_multiple_in : mg "multiple_in" = some (.ref a_multiple_in)
  B_multiple_in : Binds K fd_multiple_in ["prime", "scalar", "row"] []
  a_less_in : Addr
  fd_less_in : FuncData
  F_less_in : Fun K "less_in" "less_in" s_less_in a_less_in fd_less_in
  M_less_in : mg "less_in" = some (.ref a_less_in)
  B_less_in : Binds K fd_less_in ["prime", "row", "scalar", "other"] []
  a_need_prime : Addr
  fd_need_prime : FuncData
  F_need_prime : Fun K "need_prime" "need_prime" s_need_prime a_need_prime fd_need_prime
  M_need_prime : mg "need_prime" = some (.ref a_need_prime)
  B_need_prime : Binds K fd_need_prime ["prime"] []
  a_is_vector_in : Addr
  fd_is_vector_in : FuncData
  F_is_vector_in : Fun K "is_vector_in" "is_vector_in" s_is_vector_in a_is_vector_in fd_is_vector_in
  M_is_vector_in : mg "is_vector_in" = some (.ref a_is_vector_in)
  B_is_vector_in : Binds K fd_is_vector_in ["prime", "size", "value"] []
  a_is_table_in : Addr
  fd_is_table_in : FuncData
  F_is_table_in : Fun K "is_table_in" "is_table_in" s_is_table_in a_is_table_in fd_is_table_in
  M_is_table_in : mg "is_table_in" = some (.ref a_is_table_in)
  B_is_table_in : Binds K fd_is_table_in ["prime", "rows", "columns", "value"] []
  a_is_some_table : Addr
  fd_is_some_table : FuncData
  F_is_some_table : Fun K "is_some_table" "is_some_table" s_is_some_table a_is_some_table fd_is_some_table
  M_is_some_table : mg "is_some_table" = some (.ref a_is_some_table)
  B_is_some_table : Binds K fd_is_some_table ["prime", "value"] []
  a_units_in : Addr
  fd_units_in : FuncData
  F_units_in : Fun K "units_in" "units_in" s_units_in a_units_in fd_units_in
  M_units_in : mg "units_in" = some (.ref a_units_in)
  B_units_in : Binds K fd_units_in ["prime", "size"] []
  a_transposed_in : Addr
  fd_transposed_in : FuncData
  F_transposed_in : Fun K "transposed_in" "transposed_in" s_transposed_in a_transposed_in fd_transposed_in
  M_transposed_in : mg "transposed_in" = some (.ref a_transposed_in)
  B_transposed_in : Binds K fd_transposed_in ["table", "columns"] []
  a_reduced_in : Addr
  fd_reduced_in : FuncData
  F_reduced_in : Fun K "reduced_in" "reduced_in" s_reduced_in a_reduced_in fd_reduced_in
  M_reduced_in : mg "reduced_in" = some (.ref a_reduced_in)
  B_reduced_in : Binds K fd_reduced_in ["prime", "table"] []
  a_undone_in : Addr
  fd_undone_in : FuncData
  F_undone_in : Fun K "undone_in" "undone_in" s_undone_in a_undone_in fd_undone_in
  M_undone_in : mg "undone_in" = some (.ref a_undone_in)
  B_undone_in : Binds K fd_undone_in ["prime", "table"] []
  a_determinant_in : Addr
  fd_determinant_in : FuncData
  F_determinant_in : Fun K "determinant_in" "determinant_in" s_determinant_in a_determinant_in fd_determinant_in
  M_determinant_in : mg "determinant_in" = some (.ref a_determinant_in)
  B_determinant_in : Binds K fd_determinant_in ["prime", "table"] []
  a_need_table : Addr
  fd_need_table : FuncData
  F_need_table : Fun K "need_table" "need_table" s_need_table a_need_table fd_need_table
  M_need_table : mg "need_table" = some (.ref a_need_table)
  B_need_table : Binds K fd_need_table ["prime", "table"] []
  a_need_square : Addr
  fd_need_square : FuncData
  F_need_square : Fun K "need_square" "need_square" s_need_square a_need_square fd_need_square
  M_need_square : mg "need_square" = some (.ref a_need_square)
  B_need_square : Binds K fd_need_square ["prime", "table"] []
  a_need_columns : Addr
  fd_need_columns : FuncData
  F_need_columns : Fun K "need_columns" "need_columns" s_need_columns a_need_columns fd_need_columns
  M_need_columns : mg "need_columns" = some (.ref a_need_columns)
  B_need_columns : Binds K fd_need_columns ["prime", "table", "columns"] []
  a_transposed : Addr
  fd_transposed : FuncData
  F_transposed : Fun K "transposed" "transposed" s_transposed a_transposed fd_transposed
  M_transposed : mg "transposed" = some (.ref a_transposed)
  B_transposed : Binds K fd_transposed ["prime", "table", "columns"] []
  a_determinant : Addr
  fd_determinant : FuncData
  F_determinant : Fun K "determinant" "determinant" s_determinant a_determinant fd_determinant
  M_determinant : mg "determinant" = some (.ref a_determinant)
  B_determinant : Binds K fd_determinant ["prime", "table"] []
  a_undone : Addr
  fd_undone : FuncData
  F_undone : Fun K "undone" "undone" s_undone a_undone fd_undone
  M_undone : mg "undone" = some (.ref a_undone)
  B_undone : Binds K fd_undone ["prime", "table"] []
  a__law_well : Addr
  fd__law_well : FuncData
  F__law_well : Fun K "_law_well" "_law_well" s__law_well a__law_well fd__law_well
  M__law_well : mg "_law_well" = some (.ref a__law_well)
  B__law_well : Binds K fd__law_well ["script", "k"] []
  a__law_draw : Addr
  fd__law_draw : FuncData
  F__law_draw : Fun K "_law_draw" "_law_draw" s__law_draw a__law_draw fd__law_draw
  M__law_draw : mg "_law_draw" = some (.ref a__law_draw)
  B__law_draw : Binds K fd__law_draw ["well", "many"] []
  a__law_cut : Addr
  fd__law_cut : FuncData
  F__law_cut : Fun K "_law_cut" "_law_cut" s__law_cut a__law_cut fd__law_cut
  M__law_cut : mg "_law_cut" = some (.ref a__law_cut)
  B__law_cut : Binds K fd__law_cut ["above", "below"] []
  a__law_num : Addr
  fd__law_num : FuncData
  F__law_num : Fun K "_law_num" "_law_num" s__law_num a__law_num fd__law_num
  M__law_num : mg "_law_num" = some (.ref a__law_num)
  B__law_num : Binds K fd__law_num ["p", "k"] []
  a__law_plus : Addr
  fd__law_plus : FuncData
  F__law_plus : Fun K "_law_plus" "_law_plus" s__law_plus a__law_plus fd__law_plus
  M__law_plus : mg "_law_plus" = some (.ref a__law_plus)
  B__law_plus : Binds K fd__law_plus ["p", "one", "other"] []
  a__law_times : Addr
  fd__law_times : FuncData
  F__law_times : Fun K "_law_times" "_law_times" s__law_times a__law_times fd__law_times
  M__law_times : mg "_law_times" = some (.ref a__law_times)
  B__law_times : Binds K fd__law_times ["p", "one", "other"] []
  a__law_drawn : Addr
  fd__law_drawn : FuncData
  F__law_drawn : Fun K "_law_drawn" "_law_drawn" s__law_drawn a__law_drawn fd__law_drawn
  M__law_drawn : mg "_law_drawn" = some (.ref a__law_drawn)
  B__law_drawn : Binds K fd__law_drawn ["well", "p"] []
  a__law_table : Addr
  fd__law_table : FuncData
  F__law_table : Fun K "_law_table" "_law_table" s__law_table a__law_table fd__law_table
  M__law_table : mg "_law_table" = some (.ref a__law_table)
  B__law_table : Binds K fd__law_table ["well", "p", "rows", "columns"] []
  a__law_dot : Addr
  fd__law_dot : FuncData
  F__law_dot : Fun K "_law_dot" "_law_dot" s__law_dot a__law_dot fd__law_dot
  M__law_dot : mg "_law_dot" = some (.ref a__law_dot)
  B__law_dot : Binds K fd__law_dot ["p", "one", "other"] []
  a__law_product : Addr
  fd__law_product : FuncData
  F__law_product : Fun K "_law_product" "_law_product" s__law_product a__law_product fd__law_product
  M__law_product : mg "_law_product" = some (.ref a__law_product)
  B__law_product : Binds K fd__law_product ["p", "one", "other", "columns"] []
  a__law_units : Addr
  fd__law_units : FuncData
  F__law_units : Fun K "_law_units" "_law_units" s__law_units a__law_units fd__law_units
  M__law_units : mg "_law_units" = some (.ref a__law_units)
  B__law_units : Binds K fd__law_units ["p", "size"] []
  a__law_orders : Addr
  fd__law_orders : FuncData
  F__law_orders : Fun K "_law_orders" "_law_orders" s__law_orders a__law_orders fd__law_orders
  M__law_orders : mg "_law_orders" = some (.ref a__law_orders)
  B__law_orders : Binds K fd__law_orders ["many"] []
  a__law_determinant : Addr
  fd__law_determinant : FuncData
  F__law_determinant : Fun K "_law_determinant" "_law_determinant" s__law_determinant a__law_determinant fd__law_determinant
  M__law_determinant : mg "_law_determinant" = some (.ref a__law_determinant)
  B__law_determinant : Binds K fd__law_determinant ["p", "table"] []
  a__law_square : Addr
  fd__law_square : FuncData
  F__law_square : Fun K "_law_square" "_law_square" s__law_square a__law_square fd__law_square
  M__law_square : mg "_law_square" = some (.ref a__law_square)
  B__law_square : Binds K fd__law_square ["well", "p"] []
  a__law_told : Addr
  fd__law_told : FuncData
  F__law_told : Fun K "_law_told" "_law_told" s__law_told a__law_told fd__law_told
  M__law_told : mg "_law_told" = some (.ref a__law_told)
  B__law_told : Binds K fd__law_told ["way", "p", "table"] []
  a__law_right : Addr
  fd__law_right : FuncData
  F__law_right : Fun K "_law_right" "_law_right" s__law_right a__law_right fd__law_right
  M__law_right : mg "_law_right" = some (.ref a__law_right)
  B__law_right : Binds K fd__law_right ["well"] []
  a_law : Addr
  fd_law : FuncData
  F_law : Fun K "law" "law" s_law a_law fd_law
  M_law : mg "law" = some (.ref a_law)
  B_law : Binds K fd_law ["script"] []
  K_undone_10 : KBinds K fd_undone ["prime", "table"] ["table", "prime"] px_10 px_10
  K_determinant_10 : KBinds K fd_determinant ["prime", "table"] ["table", "prime"] px_10 px_10
  m_abs : mg "abs" = none
  m_all : mg "all" = none
  m_bool : mg "bool" = none
  m_gcd : mg "gcd" = some (.builtin "math.gcd")
  m_int : mg "int" = none
  m_isinstance : mg "isinstance" = none
  m_len : mg "len" = none
  m_list : mg "list" = none
  m_max : mg "max" = none
  m_min : mg "min" = none
  m_range : mg "range" = none
  m_repr : mg "repr" = none
  m_tuple : mg "tuple" = none
  m_zip : mg "zip" = none
  a_PRIMES : Addr
  u_PRIMES : Value
  M_PRIMES : mg "PRIMES" = some u_PRIMES
  R_PRIMES : RelV (V.ref a_PRIMES) u_PRIMES
  Q_PRIMES : ∀ S, Dq K S (V.ref a_PRIMES) (.tuple [(.int 0), (.int 2), (.int 3), (.int 5), (.int 7), (.int 11), (.int 13)])
  aD : Addr
  fI : Addr
  EB : ErrBase P K mg aD fI
  CT : Nat → Addr
  EC : ∀ c, ErrCls K aD fI (CT c)
  IC : ∀ c, IsC K (CT c)
  M_WebsError : mg "WebsError" = some (.ref aD)
  XM : ∀ c, PySem.W.exmOne K (.ref (CT c)) (.ref aD) = some true
  ME_InvalidNumber : mg "InvalidNumber" = some (.ref (CT 0))
  KN_InvalidNumber : PySem.W.kitOne K (.type "NoneType") (.ref (CT 0)) = some false
  KL_InvalidNumber : ∀ c, PySem.W.kitOne K (.ref (CT c)) (.ref (CT 0)) = some (subE c 0)
  ME_InvalidPrime : mg "InvalidPrime" = some (.ref (CT 1))
  KN_InvalidPrime : PySem.W.kitOne K (.type "NoneType") (.ref (CT 1)) = some false
  KL_InvalidPrime : ∀ c, PySem.W.kitOne K (.ref (CT c)) (.ref (CT 1)) = some (subE c 1)
  ME_InvalidTable : mg "InvalidTable" = some (.ref (CT 2))
  KN_InvalidTable : PySem.W.kitOne K (.type "NoneType") (.ref (CT 2)) = some false
  KL_InvalidTable : ∀ c, PySem.W.kitOne K (.ref (CT c)) (.ref (CT 2)) = some (subE c 2)
section
variable {P : Program} {w : World} {K : Frag} {mg : Str → Option Value} {base : Heap} (X : Fx P K mg)
theorem d_is_integer :
    DefG P w K mg base "is_integer" ["value"] 1 X.a_is_integer X.fd_is_integer (spD K X.CT 0 m_is_integer) := by
  rw [q_is_integer]
  exact defG_of (CT := X.CT) (g := g_is_integer) (nl := 0) (κ := 0) X.F_is_integer sc_is_integer X.M_is_integer X.B_is_integer rfl fun cdv A outer s H E wl S0 B => jb_le
    (jb_one (js_ret (je_and (j_isi hT_int b_int X.m_isinstance X.m_int (o 0)) (je_one (je_not (j_isi hT_bool b_bool X.m_isinstance X.m_bool (o 0))))))) (by decide)
theorem d_is_tuple :
    DefG P w K mg base "is_tuple" ["value", "low", "high"] 1 X.a_is_tuple X.fd_is_tuple (spD K X.CT 0 m_is_tuple) := by
  rw [q_is_tuple]
  exact defG_of (CT := X.CT) (g := g_is_tuple) (nl := 0) (κ := 0) X.F_is_tuple sc_is_tuple X.M_is_tuple X.B_is_tuple rfl fun cdv A outer s H E wl S0 B => jb_le
    (jb_one (js_ret (je_and (j_isi hT_tuple b_tuple X.m_isinstance X.m_tuple (o 0)) (je_and (je_ge (je_o (j_len rfl X.m_len (oc (o 0) jo_nil))) (o 1)) (je_one (je_or (je_isN (o 2)) (je_one (je_le (je_o (j_len rfl X.m_len (oc (o 0) jo_nil))) (o 2))))))))) (by decide)
theorem st_anew {k : Nat} {G : Fn} (D_anew : DefG P w K mg base "anew" ["value"] k X.a_anew X.fd_anew (spD K X.CT 0 G)) : DefG P w K mg base "anew" ["value"] (k + 1) X.a_anew X.fd_anew (spD K X.CT 0 (fnB 1 1 (g_anew G))) :=
  defG_of (CT := X.CT) (g := g_anew G) (nl := 1) (κ := 0) X.F_anew sc_anew X.M_anew X.B_anew rfl fun cdv A outer s H E wl S0 B => jb_le
    (jb_cons (js_if (t_v (j_isi hT_list b_list X.m_isinstance X.m_list (o 0))) (jb_one (js_ret (jn_e (lc [("part", 1)] 100000 B.c (ji_seq (v 0)) (fun s1 H1 q1 l1 p1 => (gn (Cok.blk B.c s1 H1 q1 l1 p1) 1)) (fun s1 H1 q1 l1 p1 => jts_nil) (fun s1 H1 q1 l1 p1 => (cl D_anew (Cok.blk B.c s1 H1 q1 l1 p1) (Nat.le_refl _) (ac (v 1) ja_nil))))))) jb_nil)
    (jb_cons (js_if (t_v (j_isi hT_tuple b_tuple X.m_isinstance X.m_tuple (o 0))) (jb_one (js_ret (j_tuple rfl X.m_tuple (oc (je_o (jn_e (lc [("part", 1)] 100000 B.c (ji_seq (v 0)) (fun s1 H1 q1 l1 p1 => (gn (Cok.blk B.c s1 H1 q1 l1 p1) 1)) (fun s1 H1 q1 l1 p1 => jts_nil) (fun s1 H1 q1 l1 p1 => (cl D_anew (Cok.blk B.c s1 H1 q1 l1 p1) (Nat.le_refl _) (ac (v 1) ja_nil)))))) jo_nil)))) jb_nil)
    (jb_one (js_ret (v 0))))) (by decide)
theorem d_is_prime_in
    (D_is_integer : DefG P w K mg base "is_integer" ["value"] 1 X.a_is_integer X.fd_is_integer (spD K X.CT 0 m_is_integer)) :
    DefG P w K mg base "is_prime_in" ["value"] 2 X.a_is_prime_in X.fd_is_prime_in (spD K X.CT 0 m_is_prime_in) := by
  rw [q_is_prime_in]
  exact defG_of (CT := X.CT) (g := g_is_prime_in) (nl := 0) (κ := 0) X.F_is_prime_in sc_is_prime_in X.M_is_prime_in X.B_is_prime_in rfl fun cdv A outer s H E wl S0 B => jb_le
    (jb_one (js_ret (je_and (cl D_is_integer B.c (by decide) (ac (v 0) ja_nil)) (je_one (j_in B.c (o 0) (je_o (je_glob (by rfl) X.M_PRIMES X.R_PRIMES X.Q_PRIMES (by rfl)))))))) (by decide)
theorem d_is_scalar_in
    (D_is_integer : DefG P w K mg base "is_integer" ["value"] 1 X.a_is_integer X.fd_is_integer (spD K X.CT 0 m_is_integer))
    (D_is_tuple : DefG P w K mg base "is_tuple" ["value", "low", "high"] 1 X.a_is_tuple X.fd_is_tuple (spD K X.CT 0 m_is_tuple)) :
    DefG P w K mg base "is_scalar_in" ["prime", "value"] 2 X.a_is_scalar_in X.fd_is_scalar_in (spD K X.CT 0 m_is_scalar_in) := by
  rw [q_is_scalar_in]
  exact defG_of (CT := X.CT) (g := g_is_scalar_in) (nl := 0) (κ := 0) X.F_is_scalar_in sc_is_scalar_in X.M_is_scalar_in X.B_is_scalar_in rfl fun cdv A outer s H E wl S0 B => jb_le
    (jb_cons (js_if (t_gt (o 0) (je_o je_int)) (jb_one (js_ret (je_and (cl D_is_integer B.c (by decide) (ac (v 1) ja_nil)) (je_one (je_chain op_le oI_le op_lt oI_lt (je_o je_int) (o 1) (o 0) (by rfl)))))) jb_nil)
    (jb_cons (js_if (jw_pt (jw_or (jt_not (t_v (cl D_is_tuple B.c (by decide) (ac (v 1) (ac je_int (ac je_int ja_nil)))))) (jw_or (jt_not (t_v (cl D_is_integer B.c (by decide) (ac (j_ix (o 1) (je_o je_int)) ja_nil)))) (jw_or1 (jt_not (t_v (cl D_is_integer B.c (by decide) (ac (j_ix (o 1) (je_o je_int)) ja_nil)))))))) (jb_one (js_ret je_bl)) jb_nil)
    (jb_one (js_ret (je_and (je_ge (je_o (j_ix (o 1) (je_o je_int))) (je_o je_int)) (je_one (je_eq B.c (je_o (j_gcd X.m_gcd (oc (je_o (j_ix (o 1) (je_o je_int))) (oc (je_o (j_ix (o 1) (je_o je_int))) jo_nil)))) (je_o je_int)))))))) (by decide)
theorem d_fraction_in :
    DefG P w K mg base "fraction_in" ["above", "below"] 1 X.a_fraction_in X.fd_fraction_in (spD K X.CT 0 m_fraction_in) := by
  rw [q_fraction_in]
  exact defG_of (CT := X.CT) (g := g_fraction_in) (nl := 1) (κ := 0) X.F_fraction_in sc_fraction_in X.M_fraction_in X.B_fraction_in rfl fun cdv A outer s H E wl S0 B => jb_le
    (jb_cons (ss B.c 2 (j_gcd X.m_gcd (oc (o 0) (oc (o 1) jo_nil))))
    (jb_cons (js_if (t_lt (o 1) (je_o je_int)) (jb_one (ss B.c 2 (je_neg (o 2)))) jb_nil)
    (jb_one (js_ret (je_tup (ac (je_fdiv (o 0) (o 2)) (ac (je_fdiv (o 1) (o 2)) ja_nil))))))) (by decide)
theorem d_scalar_in :
    DefG P w K mg base "scalar_in" ["prime", "k"] 1 X.a_scalar_in X.fd_scalar_in (spD K X.CT 0 m_scalar_in) := by
  rw [q_scalar_in]
  exact defG_of (CT := X.CT) (g := g_scalar_in) (nl := 0) (κ := 0) X.F_scalar_in sc_scalar_in X.M_scalar_in X.B_scalar_in rfl fun cdv A outer s H E wl S0 B => jb_le
    (jb_one (js_ret (je_if (t_eq B.c (o 0) (je_o je_int)) (je_tup (ac (v 1) (ac je_int ja_nil))) (je_mod (o 1) (o 0))))) (by decide)
theorem d_plus_in
    (D_fraction_in : DefG P w K mg base "fraction_in" ["above", "below"] 1 X.a_fraction_in X.fd_fraction_in (spD K X.CT 0 m_fraction_in)) :
    DefG P w K mg base "plus_in" ["prime", "one", "other"] 2 X.a_plus_in X.fd_plus_in (spD K X.CT 0 m_plus_in) := by
  rw [q_plus_in]
  exact defG_of (CT := X.CT) (g := g_plus_in) (nl := 0) (κ := 0) X.F_plus_in sc_plus_in X.M_plus_in X.B_plus_in rfl fun cdv A outer s H E wl S0 B => jb_le
    (jb_cons (js_if (t_gt (o 0) (je_o je_int)) (jb_one (js_ret (je_mod (je_o (je_add (o 1) (o 2))) (o 0)))) jb_nil)
    (jb_one (js_ret (cl D_fraction_in B.c (by decide) (ac (je_add (je_o (je_mul (je_o (j_ix (o 1) (je_o je_int))) (je_o (j_ix (o 2) (je_o je_int))))) (je_o (je_mul (je_o (j_ix (o 2) (je_o je_int))) (je_o (j_ix (o 1) (je_o je_int)))))) (ac (je_mul (je_o (j_ix (o 1) (je_o je_int))) (je_o (j_ix (o 2) (je_o je_int)))) ja_nil)))))) (by decide)
theorem d_times_in
    (D_fraction_in : DefG P w K mg base "fraction_in" ["above", "below"] 1 X.a_fraction_in X.fd_fraction_in (spD K X.CT 0 m_fraction_in)) :
    DefG P w K mg base "times_in" ["prime", "one", "other"] 2 X.a_times_in X.fd_times_in (spD K X.CT 0 m_times_in) := by
  rw [q_times_in]
  exact defG_of (CT := X.CT) (g := g_times_in) (nl := 0) (κ := 0) X.F_times_in sc_times_in X.M_times_in X.B_times_in rfl fun cdv A outer s H E wl S0 B => jb_le
    (jb_cons (js_if (t_gt (o 0) (je_o je_int)) (jb_one (js_ret (je_mod (je_o (je_mul (o 1) (o 2))) (o 0)))) jb_nil)
    (jb_one (js_ret (cl D_fraction_in B.c (by decide) (ac (je_mul (je_o (j_ix (o 1) (je_o je_int))) (je_o (j_ix (o 2) (je_o je_int)))) (ac (je_mul (je_o (j_ix (o 1) (je_o je_int))) (je_o (j_ix (o 2) (je_o je_int)))) ja_nil)))))) (by decide)
theorem d_negative_in :
    DefG P w K mg base "negative_in" ["prime", "scalar"] 1 X.a_negative_in X.fd_negative_in (spD K X.CT 0 m_negative_in) := by
  rw [q_negative_in]
  exact defG_of (CT := X.CT) (g := g_negative_in) (nl := 0) (κ := 0) X.F_negative_in sc_negative_in X.M_negative_in X.B_negative_in rfl fun cdv A outer s H E wl S0 B => jb_le
    (jb_one (js_ret (je_if (t_eq B.c (o 0) (je_o je_int)) (je_tup (ac (je_neg (je_o (j_ix (o 1) (je_o je_int)))) (ac (j_ix (o 1) (je_o je_int)) ja_nil))) (je_mod (je_o (je_neg (o 1))) (o 0))))) (by decide)
theorem d_inverse_in
    (D_fraction_in : DefG P w K mg base "fraction_in" ["above", "below"] 1 X.a_fraction_in X.fd_fraction_in (spD K X.CT 0 m_fraction_in)) :
    DefG P w K mg base "inverse_in" ["prime", "scalar"] 2 X.a_inverse_in X.fd_inverse_in (spD K X.CT 0 m_inverse_in) := by
  rw [q_inverse_in]
  exact defG_of (CT := X.CT) (g := g_inverse_in) (nl := 1) (κ := 0) X.F_inverse_in sc_inverse_in X.M_inverse_in X.B_inverse_in rfl fun cdv A outer s H E wl S0 B => jb_le
    (jb_cons (js_if (t_eq B.c (o 0) (je_o je_int)) (jb_one (js_ret (cl D_fraction_in B.c (by decide) (ac (j_ix (o 1) (je_o je_int)) (ac (j_ix (o 1) (je_o je_int)) ja_nil))))) jb_nil)
    (jb_one (js_ret (j_ix (je_o (jn_e (lc [("k", 2)] 100000 B.c (r2 X.m_range (oc (je_o je_int) (oc (o 0) jo_nil))) (fun s1 H1 q1 l1 p1 => (gn (Cok.blk B.c s1 H1 q1 l1 p1) 2)) (fun s1 H1 q1 l1 p1 => (jts_one (t_eq (Cok.blk B.c s1 H1 q1 l1 p1) (je_o (je_mod (je_o (je_mul (o 2) (o 1))) (o 0))) (je_o je_int)))) (fun s1 H1 q1 l1 p1 => (v 2))))) (je_o je_int))))) (by decide)
theorem d_multiple_in
    (D_times_in : DefG P w K mg base "times_in" ["prime", "one", "other"] 2 X.a_times_in X.fd_times_in (spD K X.CT 0 m_times_in)) :
    DefG P w K mg base "multiple_in" ["prime", "scalar", "row"] 3 X.a_multiple_in X.fd_multiple_in (spD K X.CT 0 m_multiple_in) := by
  rw [q_multiple_in]
  exact defG_of (CT := X.CT) (g := g_multiple_in) (nl := 1) (κ := 0) X.F_multiple_in sc_multiple_in X.M_multiple_in X.B_multiple_in rfl fun cdv A outer s H E wl S0 B => jb_le
    (jb_one (js_ret (jn_e (lc [("own", 3)] 100000 B.c (ji_seq (v 2)) (fun s1 H1 q1 l1 p1 => (gn (Cok.blk B.c s1 H1 q1 l1 p1) 3)) (fun s1 H1 q1 l1 p1 => jts_nil) (fun s1 H1 q1 l1 p1 => (cl D_times_in (Cok.blk B.c s1 H1 q1 l1 p1) (by decide) (ac (v 0) (ac (v 1) (ac (v 3) ja_nil))))))))) (by decide)
theorem d_less_in
    (D_negative_in : DefG P w K mg base "negative_in" ["prime", "scalar"] 1 X.a_negative_in X.fd_negative_in (spD K X.CT 0 m_negative_in))
    (D_plus_in : DefG P w K mg base "plus_in" ["prime", "one", "other"] 2 X.a_plus_in X.fd_plus_in (spD K X.CT 0 m_plus_in))
    (D_times_in : DefG P w K mg base "times_in" ["prime", "one", "other"] 2 X.a_times_in X.fd_times_in (spD K X.CT 0 m_times_in)) :
    DefG P w K mg base "less_in" ["prime", "row", "scalar", "other"] 3 X.a_less_in X.fd_less_in (spD K X.CT 0 m_less_in) := by
  rw [q_less_in]
  exact defG_of (CT := X.CT) (g := g_less_in) (nl := 3) (κ := 0) X.F_less_in sc_less_in X.M_less_in X.B_less_in rfl fun cdv A outer s H E wl S0 B => jb_le
    (jb_cons (js_if (t_gt (o 0) (je_o je_int)) (jb_one (js_ret (jn_e (lc [("own", 5), ("more", 6)] 100000 B.c (ji_zip (by rfl) X.m_zip (ac (v 1) (ac (v 3) ja_nil))) (fun s1 H1 q1 l1 p1 => (gt (Cok.blk B.c s1 H1 q1 l1 p1) 2 (gc (gn (Cok.blk B.c s1 H1 q1 l1 p1) 5) (gc (gn (Cok.blk B.c s1 H1 q1 l1 p1) 6) jgs_nil)) (gs_len1 gm_name (gs_len1 gm_name gs_len0)))) (fun s1 H1 q1 l1 p1 => jts_nil) (fun s1 H1 q1 l1 p1 => (je_mod (je_o (je_sub (o 5) (je_o (je_mul (o 2) (o 6))))) (o 0))))))) jb_nil)
    (jb_cons (ss B.c 4 (cl D_negative_in B.c (by decide) (ac (v 0) (ac (v 2) ja_nil))))
    (jb_one (js_ret (jn_e (lc [("own", 5), ("more", 6)] 100000 B.c (ji_zip (by rfl) X.m_zip (ac (v 1) (ac (v 3) ja_nil))) (fun s1 H1 q1 l1 p1 => (gt (Cok.blk B.c s1 H1 q1 l1 p1) 2 (gc (gn (Cok.blk B.c s1 H1 q1 l1 p1) 5) (gc (gn (Cok.blk B.c s1 H1 q1 l1 p1) 6) jgs_nil)) (gs_len1 gm_name (gs_len1 gm_name gs_len0)))) (fun s1 H1 q1 l1 p1 => jts_nil) (fun s1 H1 q1 l1 p1 => (cl D_plus_in (Cok.blk B.c s1 H1 q1 l1 p1) (by decide) (ac (v 0) (ac (v 5) (ac (cl D_times_in (Cok.blk B.c s1 H1 q1 l1 p1) (by decide) (ac (v 0) (ac (v 4) (ac (v 6) ja_nil)))) ja_nil))))))))))) (by decide)
theorem d_need_prime
    (D_is_prime_in : DefG P w K mg base "is_prime_in" ["value"] 2 X.a_is_prime_in X.fd_is_prime_in (spD K X.CT 0 m_is_prime_in))
    (D_anew : DefG P w K mg base "anew" ["value"] 10 X.a_anew X.fd_anew (spD K X.CT 0 m_anew)) :
    DefG P w K mg base "need_prime" ["prime"] 11 X.a_need_prime X.fd_need_prime (spD K X.CT 0 m_need_prime) := by
  rw [q_need_prime]
  exact defG_of (CT := X.CT) (g := g_need_prime) (nl := 0) (κ := 0) X.F_need_prime sc_need_prime X.M_need_prime X.B_need_prime rfl fun cdv A outer s H E wl S0 B => jb_le
    (jb_one (js_if (jt_not (t_v (cl D_is_prime_in B.c (by decide) (ac (v 0) ja_nil)))) (jb_one (sr (CC := X.CT 1) 1 B.c X.EB X.EC X.ME_InvalidPrime (cl D_anew B.c (by decide) (ac (v 0) ja_nil)))) jb_nil)) (by decide)
theorem d_is_vector_in
    (D_is_tuple : DefG P w K mg base "is_tuple" ["value", "low", "high"] 1 X.a_is_tuple X.fd_is_tuple (spD K X.CT 0 m_is_tuple))
    (D_is_scalar_in : DefG P w K mg base "is_scalar_in" ["prime", "value"] 2 X.a_is_scalar_in X.fd_is_scalar_in (spD K X.CT 0 m_is_scalar_in)) :
    DefG P w K mg base "is_vector_in" ["prime", "size", "value"] 3 X.a_is_vector_in X.fd_is_vector_in (spD K X.CT 0 m_is_vector_in) := by
  rw [q_is_vector_in]
  exact defG_of (CT := X.CT) (g := g_is_vector_in) (nl := 1) (κ := 0) X.F_is_vector_in sc_is_vector_in X.M_is_vector_in X.B_is_vector_in rfl fun cdv A outer s H E wl S0 B => jb_le
    (jb_one (js_ret (je_and (cl D_is_tuple B.c (by decide) (ac (v 2) (ac (v 1) (ac (v 1) ja_nil)))) (je_one (j_all B.c rfl X.m_all (oc (je_o (jn_e (lc [("own", 3)] 100000 B.c (ji_seq (v 2)) (fun s1 H1 q1 l1 p1 => (gn (Cok.blk B.c s1 H1 q1 l1 p1) 3)) (fun s1 H1 q1 l1 p1 => jts_nil) (fun s1 H1 q1 l1 p1 => (cl D_is_scalar_in (Cok.blk B.c s1 H1 q1 l1 p1) (by decide) (ac (v 0) (ac (v 3) ja_nil))))))) jo_nil)))))) (by decide)
theorem d_is_table_in
    (D_is_tuple : DefG P w K mg base "is_tuple" ["value", "low", "high"] 1 X.a_is_tuple X.fd_is_tuple (spD K X.CT 0 m_is_tuple))
    (D_is_vector_in : DefG P w K mg base "is_vector_in" ["prime", "size", "value"] 3 X.a_is_vector_in X.fd_is_vector_in (spD K X.CT 0 m_is_vector_in)) :
    DefG P w K mg base "is_table_in" ["prime", "rows", "columns", "value"] 4 X.a_is_table_in X.fd_is_table_in (spD K X.CT 0 m_is_table_in) := by
  rw [q_is_table_in]
  exact defG_of (CT := X.CT) (g := g_is_table_in) (nl := 1) (κ := 0) X.F_is_table_in sc_is_table_in X.M_is_table_in X.B_is_table_in rfl fun cdv A outer s H E wl S0 B => jb_le
    (jb_one (js_ret (je_and (cl D_is_tuple B.c (by decide) (ac (v 3) (ac (v 1) (ac (v 1) ja_nil)))) (je_one (j_all B.c rfl X.m_all (oc (je_o (jn_e (lc [("row", 4)] 100000 B.c (ji_seq (v 3)) (fun s1 H1 q1 l1 p1 => (gn (Cok.blk B.c s1 H1 q1 l1 p1) 4)) (fun s1 H1 q1 l1 p1 => jts_nil) (fun s1 H1 q1 l1 p1 => (cl D_is_vector_in (Cok.blk B.c s1 H1 q1 l1 p1) (by decide) (ac (v 0) (ac (v 2) (ac (v 4) ja_nil)))))))) jo_nil)))))) (by decide)
theorem d_is_some_table
    (D_is_table_in : DefG P w K mg base "is_table_in" ["prime", "rows", "columns", "value"] 4 X.a_is_table_in X.fd_is_table_in (spD K X.CT 0 m_is_table_in))
    (D_is_tuple : DefG P w K mg base "is_tuple" ["value", "low", "high"] 1 X.a_is_tuple X.fd_is_tuple (spD K X.CT 0 m_is_tuple)) :
    DefG P w K mg base "is_some_table" ["prime", "value"] 5 X.a_is_some_table X.fd_is_some_table (spD K X.CT 0 m_is_some_table) := by
  rw [q_is_some_table]
  exact defG_of (CT := X.CT) (g := g_is_some_table) (nl := 1) (κ := 0) X.F_is_some_table sc_is_some_table X.M_is_some_table X.B_is_some_table rfl fun cdv A outer s H E wl S0 B => jb_le
    (jb_cons (js_if (jw_pt (jw_or (jt_not (t_v (cl D_is_tuple B.c (by decide) (ac (v 1) (ac je_int (ac je_non ja_nil)))))) (jw_or1 (jt_not (t_v (j_all B.c rfl X.m_all (oc (je_o (jn_e (lc [("row", 2)] 100000 B.c (ji_seq (v 1)) (fun s1 H1 q1 l1 p1 => (gn (Cok.blk B.c s1 H1 q1 l1 p1) 2)) (fun s1 H1 q1 l1 p1 => jts_nil) (fun s1 H1 q1 l1 p1 => (cl D_is_tuple (Cok.blk B.c s1 H1 q1 l1 p1) (by decide) (ac (v 2) (ac je_int (ac je_non ja_nil)))))))) jo_nil))))))) (jb_one (js_ret je_bl)) jb_nil)
    (jb_one (js_ret (je_or (je_eq B.c (o 1) (je_o (je_tup ja_nil))) (je_one (cl D_is_table_in B.c (by decide) (ac (v 0) (ac (j_len rfl X.m_len (oc (o 1) jo_nil)) (ac (j_len rfl X.m_len (oc (je_o (j_ix (o 1) (je_o je_int))) jo_nil)) (ac (v 1) ja_nil)))))))))) (by decide)
theorem d_units_in
    (D_scalar_in : DefG P w K mg base "scalar_in" ["prime", "k"] 1 X.a_scalar_in X.fd_scalar_in (spD K X.CT 0 m_scalar_in)) :
    DefG P w K mg base "units_in" ["prime", "size"] 2 X.a_units_in X.fd_units_in (spD K X.CT 0 m_units_in) := by
  rw [q_units_in]
  exact defG_of (CT := X.CT) (g := g_units_in) (nl := 2) (κ := 0) X.F_units_in sc_units_in X.M_units_in X.B_units_in rfl fun cdv A outer s H E wl S0 B => jb_le
    (jb_one (js_ret (j_tuple rfl X.m_tuple (oc (je_o (jn_e (lc [("row", 3)] 100000 B.c (r1 X.m_range (oc (o 1) jo_nil)) (fun s1 H1 q1 l1 p1 => (gn (Cok.blk B.c s1 H1 q1 l1 p1) 3)) (fun s1 H1 q1 l1 p1 => jts_nil) (fun s1 H1 q1 l1 p1 => (j_tuple rfl X.m_tuple (oc (je_o (jn_e (lc [("column", 2)] 100000 (Cok.blk B.c s1 H1 q1 l1 p1) (r1 X.m_range (oc (o 1) jo_nil)) (fun s2 H2 q2 l2 p2 => (gn (Cok.blk (Cok.blk B.c s1 H1 q1 l1 p1) s2 H2 q2 l2 p2) 2)) (fun s2 H2 q2 l2 p2 => jts_nil) (fun s2 H2 q2 l2 p2 => (cl D_scalar_in (Cok.blk (Cok.blk B.c s1 H1 q1 l1 p1) s2 H2 q2 l2 p2) (by decide) (ac (v 0) (ac (j_int rfl X.m_int (oc (je_o (je_eq (Cok.blk (Cok.blk B.c s1 H1 q1 l1 p1) s2 H2 q2 l2 p2) (o 3) (o 2))) jo_nil)) ja_nil))))))) jo_nil)))))) jo_nil)))) (by decide)
theorem d_transposed_in :
    DefG P w K mg base "transposed_in" ["table", "columns"] 1 X.a_transposed_in X.fd_transposed_in (spD K X.CT 0 m_transposed_in) := by
  rw [q_transposed_in]
  exact defG_of (CT := X.CT) (g := g_transposed_in) (nl := 2) (κ := 0) X.F_transposed_in sc_transposed_in X.M_transposed_in X.B_transposed_in rfl fun cdv A outer s H E wl S0 B => jb_le
    (jb_one (js_ret (j_tuple rfl X.m_tuple (oc (je_o (jn_e (lc [("column", 3)] 100000 B.c (r1 X.m_range (oc (o 1) jo_nil)) (fun s1 H1 q1 l1 p1 => (gn (Cok.blk B.c s1 H1 q1 l1 p1) 3)) (fun s1 H1 q1 l1 p1 => jts_nil) (fun s1 H1 q1 l1 p1 => (j_tuple rfl X.m_tuple (oc (je_o (jn_e (lc [("row", 2)] 100000 (Cok.blk B.c s1 H1 q1 l1 p1) (ji_seq (v 0)) (fun s2 H2 q2 l2 p2 => (gn (Cok.blk (Cok.blk B.c s1 H1 q1 l1 p1) s2 H2 q2 l2 p2) 2)) (fun s2 H2 q2 l2 p2 => jts_nil) (fun s2 H2 q2 l2 p2 => (j_ix (o 2) (o 3)))))) jo_nil)))))) jo_nil)))) (by decide)
theorem d_reduced_in
    (D_scalar_in : DefG P w K mg base "scalar_in" ["prime", "k"] 1 X.a_scalar_in X.fd_scalar_in (spD K X.CT 0 m_scalar_in))
    (D_multiple_in : DefG P w K mg base "multiple_in" ["prime", "scalar", "row"] 3 X.a_multiple_in X.fd_multiple_in (spD K X.CT 0 m_multiple_in))
    (D_inverse_in : DefG P w K mg base "inverse_in" ["prime", "scalar"] 2 X.a_inverse_in X.fd_inverse_in (spD K X.CT 0 m_inverse_in))
    (D_less_in : DefG P w K mg base "less_in" ["prime", "row", "scalar", "other"] 3 X.a_less_in X.fd_less_in (spD K X.CT 0 m_less_in)) :
    DefG P w K mg base "reduced_in" ["prime", "table"] 4 X.a_reduced_in X.fd_reduced_in (spD K X.CT 0 m_reduced_in) := by
  rw [q_reduced_in]
  exact defG_of (CT := X.CT) (g := g_reduced_in) (nl := 9) (κ := 0) X.F_reduced_in sc_reduced_in X.M_reduced_in X.B_reduced_in rfl fun cdv A outer s H E wl S0 B => jb_le
    (jb_cons (cpNND B.c 2 3 4 (lc [("row", 10)] 100000 B.c (ji_seq (v 1)) (fun s1 H1 q1 l1 p1 => (gn (Cok.blk B.c s1 H1 q1 l1 p1) 10)) (fun s1 H1 q1 l1 p1 => jts_nil) (fun s1 H1 q1 l1 p1 => (jn_e (jn_of (by rfl) X.m_list (oc (o 10) jo_nil) (by rfl) (by rfl))))) (jn_lst ja_nil) (cl D_scalar_in B.c (by decide) (ac (v 0) (ac je_int ja_nil))))
    (jb_cons (sf 100000 B (r1 X.m_range (oc (je_o (je_if (t_ne B.c (o 2) (je_o (jn_e (jn_lst ja_nil)))) (j_len rfl X.m_len (oc (je_o (j_ix (o 2) (je_o je_int))) jo_nil)) je_int)) jo_nil)) (gn B.c 5) (jb_cons (ss B.c 6 (j_len rfl X.m_len (oc (o 3) jo_nil)))
    (jb_cons (slc 7 [("k", 9)] 100000 B.c (r2 X.m_range (oc (o 6) (oc (je_o (j_len rfl X.m_len (oc (o 2) jo_nil))) jo_nil))) (fun s1 H1 q1 l1 p1 => (gn (Cok.blk B.c s1 H1 q1 l1 p1) 9)) (fun s1 H1 q1 l1 p1 => (jts_one (t_ne (Cok.blk B.c s1 H1 q1 l1 p1) (je_o (j_ix (je_o (j_ix (o 2) (o 9))) (o 5))) (o 4)))) (fun s1 H1 q1 l1 p1 => (v 9)))
    (jb_cons (js_if (t_eq B.c (o 7) (je_o (jn_e (jn_lst ja_nil)))) (jb_one js_continue) jb_nil)
    (jb_cons (ss B.c 8 (j_ix (o 2) (je_o (j_ix (o 7) (je_o je_int)))))
    (jb_cons (six 2 (j_ix (o 2) (o 6)) (j_ix (o 7) (je_o je_int)))
    (jb_cons (ss B.c 8 (cl D_multiple_in B.c (by decide) (ac (v 0) (ac (cl D_inverse_in B.c (by decide) (ac (v 0) (ac (j_ix (o 8) (o 5)) ja_nil))) (ac (v 8) ja_nil)))))
    (jb_cons (six 2 (v 8) (v 6))
    (jb_cons (sf 100000 B (r1 X.m_range (oc (je_o (j_len rfl X.m_len (oc (o 2) jo_nil))) jo_nil)) (gn B.c 9) (jb_one (js_if (jw_pt (jw_and (t_ne B.c (o 9) (o 6)) (jw_and1 (t_ne B.c (je_o (j_ix (je_o (j_ix (o 2) (o 9))) (o 5))) (o 4))))) (jb_one (six 2 (cl D_less_in B.c (by decide) (ac (v 0) (ac (j_ix (o 2) (o 9)) (ac (j_ix (je_o (j_ix (o 2) (o 9))) (o 5)) (ac (v 8) ja_nil))))) (v 9))) jb_nil)))
    (jb_one (sap 3 (v 5))))))))))))
    (jb_one (js_frz (i := 2) (js_ret (je_tup (ac (j_tuple rfl X.m_tuple (oc (je_o (jn_e (lc [("row", 10)] 100000 B.c (ji_seq (v 2)) (fun s1 H1 q1 l1 p1 => (gn (Cok.blk B.c s1 H1 q1 l1 p1) 10)) (fun s1 H1 q1 l1 p1 => jts_nil) (fun s1 H1 q1 l1 p1 => (j_tuple rfl X.m_tuple (oc (o 10) jo_nil)))))) jo_nil)) (ac (j_tuple rfl X.m_tuple (oc (o 3) jo_nil)) ja_nil)))))))) (by decide)
theorem d_undone_in
    (D_reduced_in : DefG P w K mg base "reduced_in" ["prime", "table"] 4 X.a_reduced_in X.fd_reduced_in (spD K X.CT 0 m_reduced_in))
    (D_units_in : DefG P w K mg base "units_in" ["prime", "size"] 2 X.a_units_in X.fd_units_in (spD K X.CT 0 m_units_in)) :
    DefG P w K mg base "undone_in" ["prime", "table"] 5 X.a_undone_in X.fd_undone_in (spD K X.CT 0 m_undone_in) := by
  rw [q_undone_in]
  exact defG_of (CT := X.CT) (g := g_undone_in) (nl := 5) (κ := 0) X.F_undone_in sc_undone_in X.M_undone_in X.B_undone_in rfl fun cdv A outer s H E wl S0 B => jb_le
    (jb_cons (ss B.c 2 (j_len rfl X.m_len (oc (o 1) jo_nil)))
    (jb_cons (sa (cl D_reduced_in B.c (by decide) (ac (v 0) (ac (j_tuple rfl X.m_tuple (oc (je_o (jn_e (lc [("row", 5), ("unit", 6)] 100000 B.c (ji_zip (by rfl) X.m_zip (ac (v 1) (ac (cl D_units_in B.c (by decide) (ac (v 0) (ac (v 2) ja_nil))) ja_nil))) (fun s1 H1 q1 l1 p1 => (gt (Cok.blk B.c s1 H1 q1 l1 p1) 2 (gc (gn (Cok.blk B.c s1 H1 q1 l1 p1) 5) (gc (gn (Cok.blk B.c s1 H1 q1 l1 p1) 6) jgs_nil)) (gs_len1 gm_name (gs_len1 gm_name gs_len0)))) (fun s1 H1 q1 l1 p1 => jts_nil) (fun s1 H1 q1 l1 p1 => (je_add (o 5) (o 6)))))) jo_nil)) ja_nil))) (gt B.c 2 (gc (gn B.c 3) (gc (gn B.c 4) jgs_nil)) (gs_len1 gm_name (gs_len1 gm_name gs_len0))))
    (jb_one (js_ret (je_if (t_eq B.c (o 4) (je_o (je_tupRg (Cok.calm B.c) (by rfl) X.m_tuple (by rfl) X.m_range (o 2) (by rfl) (by rfl)))) (j_tuple rfl X.m_tuple (oc (je_o (jn_e (lc [("row", 5)] 100000 B.c (ji_seq (v 3)) (fun s1 H1 q1 l1 p1 => (gn (Cok.blk B.c s1 H1 q1 l1 p1) 5)) (fun s1 H1 q1 l1 p1 => jts_nil) (fun s1 H1 q1 l1 p1 => (je_slice (o 5) (jp_at (v 2)) jp_no))))) jo_nil)) je_non))))) (by decide)
theorem d_determinant_in
    (D_scalar_in : DefG P w K mg base "scalar_in" ["prime", "k"] 1 X.a_scalar_in X.fd_scalar_in (spD K X.CT 0 m_scalar_in))
    (D_times_in : DefG P w K mg base "times_in" ["prime", "one", "other"] 2 X.a_times_in X.fd_times_in (spD K X.CT 0 m_times_in))
    (D_inverse_in : DefG P w K mg base "inverse_in" ["prime", "scalar"] 2 X.a_inverse_in X.fd_inverse_in (spD K X.CT 0 m_inverse_in))
    (D_less_in : DefG P w K mg base "less_in" ["prime", "row", "scalar", "other"] 3 X.a_less_in X.fd_less_in (spD K X.CT 0 m_less_in))
    (D_negative_in : DefG P w K mg base "negative_in" ["prime", "scalar"] 1 X.a_negative_in X.fd_negative_in (spD K X.CT 0 m_negative_in)) :
    DefG P w K mg base "determinant_in" ["prime", "table"] 4 X.a_determinant_in X.fd_determinant_in (spD K X.CT 0 m_determinant_in) := by
  rw [q_determinant_in]
  exact defG_of (CT := X.CT) (g := g_determinant_in) (nl := 9) (κ := 0) X.F_determinant_in sc_determinant_in X.M_determinant_in X.B_determinant_in rfl fun cdv A outer s H E wl S0 B => jb_le
    (jb_cons (cpNDD B.c 2 3 4 (lc [("row", 10)] 100000 B.c (ji_seq (v 1)) (fun s1 H1 q1 l1 p1 => (gn (Cok.blk B.c s1 H1 q1 l1 p1) 10)) (fun s1 H1 q1 l1 p1 => jts_nil) (fun s1 H1 q1 l1 p1 => (jn_e (jn_of (by rfl) X.m_list (oc (o 10) jo_nil) (by rfl) (by rfl))))) (cl D_scalar_in B.c (by decide) (ac (v 0) (ac je_int ja_nil))) (cl D_scalar_in B.c (by decide) (ac (v 0) (ac je_int ja_nil))))
    (jb_cons (sf 100000 B (r1 X.m_range (oc (je_o (j_len rfl X.m_len (oc (o 2) jo_nil))) jo_nil)) (gn B.c 5) (jb_cons (slc 6 [("k", 9)] 100000 B.c (r2 X.m_range (oc (o 5) (oc (je_o (j_len rfl X.m_len (oc (o 2) jo_nil))) jo_nil))) (fun s1 H1 q1 l1 p1 => (gn (Cok.blk B.c s1 H1 q1 l1 p1) 9)) (fun s1 H1 q1 l1 p1 => (jts_one (t_ne (Cok.blk B.c s1 H1 q1 l1 p1) (je_o (j_ix (je_o (j_ix (o 2) (o 9))) (o 5))) (o 3)))) (fun s1 H1 q1 l1 p1 => (v 9)))
    (jb_cons (js_if (t_eq B.c (o 6) (je_o (jn_e (jn_lst ja_nil)))) (jb_one (js_ret (v 3))) jb_nil)
    (jb_cons (ss B.c 7 (j_ix (o 2) (je_o (j_ix (o 6) (je_o je_int)))))
    (jb_cons (six 2 (j_ix (o 2) (o 5)) (j_ix (o 6) (je_o je_int)))
    (jb_cons (six 2 (v 7) (v 5))
    (jb_cons (ss B.c 4 (cl D_times_in B.c (by decide) (ac (v 0) (ac (v 4) (ac (je_if (t_eq B.c (je_o (j_ix (o 6) (je_o je_int))) (o 5)) (j_ix (o 7) (o 5)) (cl D_negative_in B.c (by decide) (ac (v 0) (ac (j_ix (o 7) (o 5)) ja_nil)))) ja_nil)))))
    (jb_cons (ss B.c 8 (cl D_inverse_in B.c (by decide) (ac (v 0) (ac (j_ix (o 7) (o 5)) ja_nil))))
    (jb_one (sf 100000 B (r2 X.m_range (oc (je_o (je_add (o 5) (je_o je_int))) (oc (je_o (j_len rfl X.m_len (oc (o 2) jo_nil))) jo_nil))) (gn B.c 9) (jb_one (six 2 (cl D_less_in B.c (by decide) (ac (v 0) (ac (j_ix (o 2) (o 9)) (ac (cl D_times_in B.c (by decide) (ac (v 0) (ac (j_ix (je_o (j_ix (o 2) (o 9))) (o 5)) (ac (v 8) ja_nil)))) (ac (v 7) ja_nil))))) (v 9)))))))))))))
    (jb_one (js_ret (v 4))))) (by decide)
theorem d_need_table
    (D_need_prime : DefG P w K mg base "need_prime" ["prime"] 11 X.a_need_prime X.fd_need_prime (spD K X.CT 0 m_need_prime))
    (D_is_some_table : DefG P w K mg base "is_some_table" ["prime", "value"] 5 X.a_is_some_table X.fd_is_some_table (spD K X.CT 0 m_is_some_table))
    (D_anew : DefG P w K mg base "anew" ["value"] 10 X.a_anew X.fd_anew (spD K X.CT 0 m_anew)) :
    DefG P w K mg base "need_table" ["prime", "table"] 12 X.a_need_table X.fd_need_table (spD K X.CT 0 m_need_table) := by
  rw [q_need_table]
  exact defG_of (CT := X.CT) (g := g_need_table) (nl := 0) (κ := 0) X.F_need_table sc_need_table X.M_need_table X.B_need_table rfl fun cdv A outer s H E wl S0 B => jb_le
    (jb_cons (se (cl D_need_prime B.c (by decide) (ac (v 0) ja_nil)))
    (jb_one (js_if (jt_not (t_v (cl D_is_some_table B.c (by decide) (ac (v 0) (ac (v 1) ja_nil))))) (jb_one (sr (CC := X.CT 2) 2 B.c X.EB X.EC X.ME_InvalidTable (cl D_anew B.c (by decide) (ac (v 1) ja_nil)))) jb_nil))) (by decide)
theorem d_need_square
    (D_need_table : DefG P w K mg base "need_table" ["prime", "table"] 12 X.a_need_table X.fd_need_table (spD K X.CT 0 m_need_table))
    (D_anew : DefG P w K mg base "anew" ["value"] 10 X.a_anew X.fd_anew (spD K X.CT 0 m_anew)) :
    DefG P w K mg base "need_square" ["prime", "table"] 13 X.a_need_square X.fd_need_square (spD K X.CT 0 m_need_square) := by
  rw [q_need_square]
  exact defG_of (CT := X.CT) (g := g_need_square) (nl := 0) (κ := 0) X.F_need_square sc_need_square X.M_need_square X.B_need_square rfl fun cdv A outer s H E wl S0 B => jb_le
    (jb_cons (se (cl D_need_table B.c (by decide) (ac (v 0) (ac (v 1) ja_nil))))
    (jb_one (js_if (jw_pt (jw_and (t_ne B.c (o 1) (je_o (je_tup ja_nil))) (jw_and1 (t_ne B.c (je_o (j_len rfl X.m_len (oc (je_o (j_ix (o 1) (je_o je_int))) jo_nil))) (je_o (j_len rfl X.m_len (oc (o 1) jo_nil))))))) (jb_one (sr (CC := X.CT 2) 2 B.c X.EB X.EC X.ME_InvalidTable (cl D_anew B.c (by decide) (ac (v 1) ja_nil)))) jb_nil))) (by decide)
theorem d_need_columns
    (D_need_table : DefG P w K mg base "need_table" ["prime", "table"] 12 X.a_need_table X.fd_need_table (spD K X.CT 0 m_need_table)) :
    DefG P w K mg base "need_columns" ["prime", "table", "columns"] 13 X.a_need_columns X.fd_need_columns (spD K X.CT 0 m_need_columns) := by
  rw [q_need_columns]
  exact defG_of (CT := X.CT) (g := g_need_columns) (nl := 0) (κ := 0) X.F_need_columns sc_need_columns X.M_need_columns X.B_need_columns rfl fun cdv A outer s H E wl S0 B => jb_le
    (jb_cons (se (cl D_need_table B.c (by decide) (ac (v 0) (ac (v 1) ja_nil))))
    (jb_one (js_if (jw_pt (jw_or (t_lt (o 2) (je_o je_int)) (jw_or1 (jw_pt (jw_and (t_ne B.c (o 1) (je_o (je_tup ja_nil))) (jw_and1 (t_ne B.c (o 2) (je_o (j_len rfl X.m_len (oc (je_o (j_ix (o 1) (je_o je_int))) jo_nil)))))))))) (jb_one (sr (CC := X.CT 0) 0 B.c X.EB X.EC X.ME_InvalidNumber (v 2))) jb_nil))) (by decide)
theorem d_transposed
    (D_need_columns : DefG P w K mg base "need_columns" ["prime", "table", "columns"] 13 X.a_need_columns X.fd_need_columns (spD K X.CT 0 m_need_columns))
    (D_transposed_in : DefG P w K mg base "transposed_in" ["table", "columns"] 1 X.a_transposed_in X.fd_transposed_in (spD K X.CT 0 m_transposed_in)) :
    DefG P w K mg base "transposed" ["prime", "table", "columns"] 14 X.a_transposed X.fd_transposed (spD K X.CT 0 m_transposed) := by
  rw [q_transposed]
  exact defG_of (CT := X.CT) (g := g_transposed) (nl := 0) (κ := 0) X.F_transposed sc_transposed X.M_transposed X.B_transposed rfl fun cdv A outer s H E wl S0 B => jb_le
    (jb_cons (se (cl D_need_columns B.c (by decide) (ac (v 0) (ac (v 1) (ac (v 2) ja_nil)))))
    (jb_one (js_ret (cl D_transposed_in B.c (by decide) (ac (v 1) (ac (v 2) ja_nil)))))) (by decide)
theorem d_determinant
    (D_need_square : DefG P w K mg base "need_square" ["prime", "table"] 13 X.a_need_square X.fd_need_square (spD K X.CT 0 m_need_square))
    (D_determinant_in : DefG P w K mg base "determinant_in" ["prime", "table"] 4 X.a_determinant_in X.fd_determinant_in (spD K X.CT 0 m_determinant_in)) :
    DefG P w K mg base "determinant" ["prime", "table"] 14 X.a_determinant X.fd_determinant (spD K X.CT 0 m_determinant) := by
  rw [q_determinant]
  exact defG_of (CT := X.CT) (g := g_determinant) (nl := 0) (κ := 0) X.F_determinant sc_determinant X.M_determinant X.B_determinant rfl fun cdv A outer s H E wl S0 B => jb_le
    (jb_cons (se (cl D_need_square B.c (by decide) (ac (v 0) (ac (v 1) ja_nil))))
    (jb_one (js_ret (cl D_determinant_in B.c (by decide) (ac (v 0) (ac (v 1) ja_nil)))))) (by decide)
theorem d_undone
    (D_need_square : DefG P w K mg base "need_square" ["prime", "table"] 13 X.a_need_square X.fd_need_square (spD K X.CT 0 m_need_square))
    (D_undone_in : DefG P w K mg base "undone_in" ["prime", "table"] 5 X.a_undone_in X.fd_undone_in (spD K X.CT 0 m_undone_in)) :
    DefG P w K mg base "undone" ["prime", "table"] 14 X.a_undone X.fd_undone (spD K X.CT 0 m_undone) := by
  rw [q_undone]
  exact defG_of (CT := X.CT) (g := g_undone) (nl := 0) (κ := 0) X.F_undone sc_undone X.M_undone X.B_undone rfl fun cdv A outer s H E wl S0 B => jb_le
    (jb_cons (se (cl D_need_square B.c (by decide) (ac (v 0) (ac (v 1) ja_nil))))
    (jb_one (js_ret (cl D_undone_in B.c (by decide) (ac (v 0) (ac (v 1) ja_nil)))))) (by decide)
theorem d__law_well (hL : WellLaw 4 g__law_well) : DefW P w K mg base "_law_well" ["script", "k"] 1 X.a__law_well X.fd__law_well :=
  defW_of (CT := X.CT) (g := g__law_well) (nl := 4) X.F__law_well sc__law_well X.M__law_well X.B__law_well rfl rfl hL fun cdv A outer s H E wl S0 B => jz_le
    (jz_cons (ss B.c 2 (je_if (t_lt (o 1) (je_o (j_len rfl X.m_len (oc (o 0) jo_nil)))) (j_int rfl X.m_int (oc (je_o (j_ix (o 0) (o 1))) jo_nil)) (je_add (je_o (je_mul (je_o je_int) (o 1))) (je_o je_int))))
    (jz_cons (ss B.c 3 (je_add (je_o je_int) (je_o (j_len rfl X.m_len (oc (o 0) jo_nil)))))
    (jz_cons (sf 100000 B (ji_seq (v 0)) (gn B.c 4) (jb_one (ss B.c 3 (je_mod (je_o (j_int rfl X.m_int (oc (je_o (je_add (je_o (je_mul (o 3) (je_o je_int))) (je_o (je_mod (je_o (j_int rfl X.m_int (oc (o 4) jo_nil))) (je_o (je_add (je_o (je_pow (je_o je_int) (je_o je_int))) (je_o je_int))))))) jo_nil))) (je_o (je_add (je_o (je_pow (je_o je_int) (je_o je_int))) (je_o je_int)))))))
    (jz_cons (ss B.c 5 (je_mod (je_o (j_int rfl X.m_int (oc (je_o (je_add (je_o (je_add (je_o (je_add (je_o (je_mul (je_o (j_abs rfl X.m_abs (oc (o 2) jo_nil))) (je_o je_int))) (je_o (je_mul (o 3) (je_o je_int))))) (je_o (je_mul (je_o je_int) (je_o (j_int rfl X.m_int (oc (je_o (je_lt (o 2) (je_o je_int))) jo_nil))))))) (je_o (je_mul (je_o je_int) (o 1))))) jo_nil))) (je_o (je_add (je_o (je_pow (je_o je_int) (je_o je_int))) (je_o je_int)))))
    (jz_ret (jn_lst (ac (j_max B.c rfl X.m_max (oc (je_o je_int) (oc (je_o (je_sub (je_o (j_abs rfl X.m_abs (oc (o 2) jo_nil))) (je_o (je_pow (je_o je_int) (je_o je_int))))) jo_nil))) (ac (v 5) (ac je_int ja_nil))))))))) (by decide)
theorem d__law_draw (hL : DrawLaw 3 g__law_draw) : DefG P w K mg base "_law_draw" ["well", "many"] 1 X.a__law_draw X.fd__law_draw (spD K X.CT 1 m__law_draw) :=
  draw_of (CT := X.CT) (g := g__law_draw) (nl := 3) X.F__law_draw sc__law_draw X.M__law_draw X.B__law_draw rfl rfl hL fun cdv A outer s H E n hn B => jb_le
    (jb_cons (js_if (t_gt (je_o (j_ix (o 0) (je_o je_int))) (je_o je_int)) (jb_cons (ss B.c 2 (je_mod (je_o (j_int rfl X.m_int (oc (je_o (j_ix (o 0) (je_o je_int))) jo_nil))) (o 1)))
    (jb_cons (six 0 (je_fdiv (je_o (j_ix (o 0) (je_o je_int))) (o 1)) je_int)
    (jb_one (js_ret (v 2))))) jb_nil)
    (jb_cons (six 0 (je_add (je_o (j_ix (o 0) (je_o je_int))) (je_o je_int)) je_int)
    (jb_cons (ss B.c 3 (j_ix (o 0) (je_o je_int)))
    (jb_cons (ss B.c 4 (je_mod (je_o (j_int rfl X.m_int (oc (je_o (je_add (je_o (je_add (je_o (je_mul (je_o (je_mul (je_o (je_add (je_o (j_ix (o 0) (je_o je_int))) (je_o je_int))) (je_o (je_add (o 3) (je_o je_int))))) (je_o je_int))) (je_o (je_mul (je_o (je_mul (je_o (je_mul (o 3) (o 3))) (o 3))) (je_o je_int))))) (je_o je_int))) jo_nil))) (je_o (je_add (je_o (je_pow (je_o je_int) (je_o je_int))) (je_o je_int)))))
    (jb_cons (ss B.c 4 (je_mod (je_o (j_int rfl X.m_int (oc (je_o (je_add (je_o (je_add (je_o (je_mul (o 4) (o 4))) (je_o (je_mul (je_o (j_ix (o 0) (je_o je_int))) (je_o je_int))))) (o 3))) jo_nil))) (je_o (je_add (je_o (je_pow (je_o je_int) (je_o je_int))) (je_o je_int)))))
    (jb_cons (ss B.c 4 (je_mod (je_o (j_int rfl X.m_int (oc (je_o (je_add (je_o (je_mul (je_o (je_mul (o 4) (o 4))) (je_o je_int))) (je_o (je_mul (o 4) (je_o je_int))))) jo_nil))) (je_o (je_add (je_o (je_pow (je_o je_int) (je_o je_int))) (je_o je_int)))))
    (jb_one (js_ret (je_mod (je_o (j_int rfl X.m_int (oc (je_o (je_fdiv (o 4) (je_o je_int))) jo_nil))) (o 1)))))))))) (by decide)
theorem d__law_cut :
    DefG P w K mg base "_law_cut" ["above", "below"] 1 X.a__law_cut X.fd__law_cut (spD K X.CT 0 m__law_cut) := by
  rw [q__law_cut]
  exact defG_of (CT := X.CT) (g := g__law_cut) (nl := 3) (κ := 0) X.F__law_cut sc__law_cut X.M__law_cut X.B__law_cut rfl fun cdv A outer s H E wl S0 B => jb_le
    (jb_cons (sp2 B.c 2 3 (ac (j_abs rfl X.m_abs (oc (o 0) jo_nil)) (ac (j_abs rfl X.m_abs (oc (o 1) jo_nil)) ja_nil)))
    (jb_cons (js_while B (t_gt (o 3) (je_o je_int)) (jb_one (sp2 B.c 2 3 (ac (v 3) (ac (je_mod (je_o (j_int rfl X.m_int (oc (o 2) jo_nil))) (o 3)) ja_nil)))))
    (jb_cons (ss B.c 4 (je_if (t_lt (o 1) (je_o je_int)) (je_neg (je_o je_int)) je_int))
    (jb_one (js_ret (je_tup (ac (je_fdiv (je_o (je_mul (o 4) (o 0))) (o 2)) (ac (je_fdiv (je_o (je_mul (o 4) (o 1))) (o 2)) ja_nil)))))))) (by decide)
theorem d__law_num :
    DefG P w K mg base "_law_num" ["p", "k"] 1 X.a__law_num X.fd__law_num (spD K X.CT 0 m__law_num) := by
  rw [q__law_num]
  exact defG_of (CT := X.CT) (g := g__law_num) (nl := 0) (κ := 0) X.F__law_num sc__law_num X.M__law_num X.B__law_num rfl fun cdv A outer s H E wl S0 B => jb_le
    (jb_one (js_ret (je_if (t_eq B.c (o 0) (je_o je_int)) (je_tup (ac (v 1) (ac je_int ja_nil))) (je_mod (je_o (j_int rfl X.m_int (oc (o 1) jo_nil))) (o 0))))) (by decide)
theorem d__law_plus
    (D__law_cut : DefG P w K mg base "_law_cut" ["above", "below"] 1 X.a__law_cut X.fd__law_cut (spD K X.CT 0 m__law_cut)) :
    DefG P w K mg base "_law_plus" ["p", "one", "other"] 2 X.a__law_plus X.fd__law_plus (spD K X.CT 0 m__law_plus) := by
  rw [q__law_plus]
  exact defG_of (CT := X.CT) (g := g__law_plus) (nl := 0) (κ := 0) X.F__law_plus sc__law_plus X.M__law_plus X.B__law_plus rfl fun cdv A outer s H E wl S0 B => jb_le
    (jb_one (js_ret (je_if (t_gt (o 0) (je_o je_int)) (je_mod (je_o (j_int rfl X.m_int (oc (je_o (je_add (o 1) (o 2))) jo_nil))) (o 0)) (cl D__law_cut B.c (by decide) (ac (je_add (je_o (je_mul (je_o (j_ix (o 1) (je_o je_int))) (je_o (j_ix (o 2) (je_o je_int))))) (je_o (je_mul (je_o (j_ix (o 2) (je_o je_int))) (je_o (j_ix (o 1) (je_o je_int)))))) (ac (je_mul (je_o (j_ix (o 1) (je_o je_int))) (je_o (j_ix (o 2) (je_o je_int)))) ja_nil)))))) (by decide)
theorem d__law_times
    (D__law_cut : DefG P w K mg base "_law_cut" ["above", "below"] 1 X.a__law_cut X.fd__law_cut (spD K X.CT 0 m__law_cut)) :
    DefG P w K mg base "_law_times" ["p", "one", "other"] 2 X.a__law_times X.fd__law_times (spD K X.CT 0 m__law_times) := by
  rw [q__law_times]
  exact defG_of (CT := X.CT) (g := g__law_times) (nl := 0) (κ := 0) X.F__law_times sc__law_times X.M__law_times X.B__law_times rfl fun cdv A outer s H E wl S0 B => jb_le
    (jb_one (js_ret (je_if (t_gt (o 0) (je_o je_int)) (je_mod (je_o (j_int rfl X.m_int (oc (je_o (je_mul (o 1) (o 2))) jo_nil))) (o 0)) (cl D__law_cut B.c (by decide) (ac (je_mul (je_o (j_ix (o 1) (je_o je_int))) (je_o (j_ix (o 2) (je_o je_int)))) (ac (je_mul (je_o (j_ix (o 1) (je_o je_int))) (je_o (j_ix (o 2) (je_o je_int)))) ja_nil)))))) (by decide)
theorem d__law_drawn
    (D__law_draw : DefG P w K mg base "_law_draw" ["well", "many"] 1 X.a__law_draw X.fd__law_draw (spD K X.CT 1 m__law_draw))
    (D__law_cut : DefG P w K mg base "_law_cut" ["above", "below"] 1 X.a__law_cut X.fd__law_cut (spD K X.CT 0 m__law_cut)) :
    DefG P w K mg base "_law_drawn" ["well", "p"] 2 X.a__law_drawn X.fd__law_drawn (spD K X.CT 3 m__law_drawn) := by
  rw [q__law_drawn]
  exact defG_of (CT := X.CT) (g := g__law_drawn) (nl := 0) (κ := 3) X.F__law_drawn sc__law_drawn X.M__law_drawn X.B__law_drawn rfl fun cdv A outer s H E wl S0 B => jb_le
    (jb_one (js_ret (je_if (t_gt (o 1) (je_o je_int)) (cl D__law_draw B.c (by decide) (ac (v 0) (ac (v 1) ja_nil))) (cl D__law_cut B.c (by decide) (ac (je_sub (je_o (cl D__law_draw B.c (by decide) (ac (v 0) (ac je_int ja_nil)))) (je_o je_int)) (ac (je_add (je_o je_int) (je_o (cl D__law_draw B.c (by decide) (ac (v 0) (ac je_int ja_nil))))) ja_nil)))))) (by decide)
theorem d__law_table
    (D__law_drawn : DefG P w K mg base "_law_drawn" ["well", "p"] 2 X.a__law_drawn X.fd__law_drawn (spD K X.CT 3 m__law_drawn)) :
    DefG P w K mg base "_law_table" ["well", "p", "rows", "columns"] 3 X.a__law_table X.fd__law_table (spD K X.CT 12288 m__law_table) := by
  rw [q__law_table]
  exact defG_of (CT := X.CT) (g := g__law_table) (nl := 2) (κ := 12288) X.F__law_table sc__law_table X.M__law_table X.B__law_table rfl fun cdv A outer s H E wl S0 B => jb_le
    (jb_one (js_ret (j_tuple rfl X.m_tuple (oc (je_o (jn_e (lc [("row", 5)] 64 B.c (r1 X.m_range (oc (o 2) jo_nil)) (fun s1 H1 q1 l1 p1 => (gn (Cok.blk B.c s1 H1 q1 l1 p1) 5)) (fun s1 H1 q1 l1 p1 => jts_nil) (fun s1 H1 q1 l1 p1 => (j_tuple rfl X.m_tuple (oc (je_o (jn_e (lc [("column", 4)] 64 (Cok.blk B.c s1 H1 q1 l1 p1) (r1 X.m_range (oc (o 3) jo_nil)) (fun s2 H2 q2 l2 p2 => (gn (Cok.blk (Cok.blk B.c s1 H1 q1 l1 p1) s2 H2 q2 l2 p2) 4)) (fun s2 H2 q2 l2 p2 => jts_nil) (fun s2 H2 q2 l2 p2 => (cl D__law_drawn (Cok.blk (Cok.blk B.c s1 H1 q1 l1 p1) s2 H2 q2 l2 p2) (by decide) (ac (v 0) (ac (v 1) ja_nil))))))) jo_nil)))))) jo_nil)))) (by decide)
theorem d__law_dot
    (D__law_num : DefG P w K mg base "_law_num" ["p", "k"] 1 X.a__law_num X.fd__law_num (spD K X.CT 0 m__law_num))
    (D__law_plus : DefG P w K mg base "_law_plus" ["p", "one", "other"] 2 X.a__law_plus X.fd__law_plus (spD K X.CT 0 m__law_plus))
    (D__law_times : DefG P w K mg base "_law_times" ["p", "one", "other"] 2 X.a__law_times X.fd__law_times (spD K X.CT 0 m__law_times)) :
    DefG P w K mg base "_law_dot" ["p", "one", "other"] 3 X.a__law_dot X.fd__law_dot (spD K X.CT 0 m__law_dot) := by
  rw [q__law_dot]
  exact defG_of (CT := X.CT) (g := g__law_dot) (nl := 3) (κ := 0) X.F__law_dot sc__law_dot X.M__law_dot X.B__law_dot rfl fun cdv A outer s H E wl S0 B => jb_le
    (jb_cons (ss B.c 3 (cl D__law_num B.c (by decide) (ac (v 0) (ac je_int ja_nil))))
    (jb_cons (sf 100000 B (ji_zip (by rfl) X.m_zip (ac (v 1) (ac (v 2) ja_nil))) (gt B.c 2 (gc (gn B.c 4) (gc (gn B.c 5) jgs_nil)) (gs_len1 gm_name (gs_len1 gm_name gs_len0))) (jb_one (ss B.c 3 (cl D__law_plus B.c (by decide) (ac (v 0) (ac (v 3) (ac (cl D__law_times B.c (by decide) (ac (v 0) (ac (v 4) (ac (v 5) ja_nil)))) ja_nil)))))))
    (jb_one (js_ret (v 3))))) (by decide)
theorem d__law_product
    (D__law_dot : DefG P w K mg base "_law_dot" ["p", "one", "other"] 3 X.a__law_dot X.fd__law_dot (spD K X.CT 0 m__law_dot)) :
    DefG P w K mg base "_law_product" ["p", "one", "other", "columns"] 4 X.a__law_product X.fd__law_product (spD K X.CT 0 m__law_product) := by
  rw [q__law_product]
  exact defG_of (CT := X.CT) (g := g__law_product) (nl := 3) (κ := 0) X.F__law_product sc__law_product X.M__law_product X.B__law_product rfl fun cdv A outer s H E wl S0 B => jb_le
    (jb_one (js_ret (j_tuple rfl X.m_tuple (oc (je_o (jn_e (lc [("row", 6)] 100000 B.c (ji_seq (v 1)) (fun s1 H1 q1 l1 p1 => (gn (Cok.blk B.c s1 H1 q1 l1 p1) 6)) (fun s1 H1 q1 l1 p1 => jts_nil) (fun s1 H1 q1 l1 p1 => (j_tuple rfl X.m_tuple (oc (je_o (jn_e (lc [("at", 5)] 100000 (Cok.blk B.c s1 H1 q1 l1 p1) (r1 X.m_range (oc (o 3) jo_nil)) (fun s2 H2 q2 l2 p2 => (gn (Cok.blk (Cok.blk B.c s1 H1 q1 l1 p1) s2 H2 q2 l2 p2) 5)) (fun s2 H2 q2 l2 p2 => jts_nil) (fun s2 H2 q2 l2 p2 => (cl D__law_dot (Cok.blk (Cok.blk B.c s1 H1 q1 l1 p1) s2 H2 q2 l2 p2) (by decide) (ac (v 0) (ac (v 6) (ac (jn_e (lc [("own", 4)] 100000 (Cok.blk (Cok.blk B.c s1 H1 q1 l1 p1) s2 H2 q2 l2 p2) (ji_seq (v 2)) (fun s3 H3 q3 l3 p3 => (gn (Cok.blk (Cok.blk (Cok.blk B.c s1 H1 q1 l1 p1) s2 H2 q2 l2 p2) s3 H3 q3 l3 p3) 4)) (fun s3 H3 q3 l3 p3 => jts_nil) (fun s3 H3 q3 l3 p3 => (j_ix (o 4) (o 5))))) ja_nil)))))))) jo_nil)))))) jo_nil)))) (by decide)
theorem d__law_units
    (D__law_num : DefG P w K mg base "_law_num" ["p", "k"] 1 X.a__law_num X.fd__law_num (spD K X.CT 0 m__law_num)) :
    DefG P w K mg base "_law_units" ["p", "size"] 2 X.a__law_units X.fd__law_units (spD K X.CT 0 m__law_units) := by
  rw [q__law_units]
  exact defG_of (CT := X.CT) (g := g__law_units) (nl := 2) (κ := 0) X.F__law_units sc__law_units X.M__law_units X.B__law_units rfl fun cdv A outer s H E wl S0 B => jb_le
    (jb_one (js_ret (j_tuple rfl X.m_tuple (oc (je_o (jn_e (lc [("row", 3)] 100000 B.c (r1 X.m_range (oc (o 1) jo_nil)) (fun s1 H1 q1 l1 p1 => (gn (Cok.blk B.c s1 H1 q1 l1 p1) 3)) (fun s1 H1 q1 l1 p1 => jts_nil) (fun s1 H1 q1 l1 p1 => (j_tuple rfl X.m_tuple (oc (je_o (jn_e (lc [("column", 2)] 100000 (Cok.blk B.c s1 H1 q1 l1 p1) (r1 X.m_range (oc (o 1) jo_nil)) (fun s2 H2 q2 l2 p2 => (gn (Cok.blk (Cok.blk B.c s1 H1 q1 l1 p1) s2 H2 q2 l2 p2) 2)) (fun s2 H2 q2 l2 p2 => jts_nil) (fun s2 H2 q2 l2 p2 => (cl D__law_num (Cok.blk (Cok.blk B.c s1 H1 q1 l1 p1) s2 H2 q2 l2 p2) (by decide) (ac (v 0) (ac (j_int rfl X.m_int (oc (je_o (je_eq (Cok.blk (Cok.blk B.c s1 H1 q1 l1 p1) s2 H2 q2 l2 p2) (o 3) (o 2))) jo_nil)) ja_nil))))))) jo_nil)))))) jo_nil)))) (by decide)
theorem d__law_orders :
    DefG P w K mg base "_law_orders" ["many"] 1 X.a__law_orders X.fd__law_orders (spD K X.CT 0 m__law_orders) := by
  rw [q__law_orders]
  exact defG_of (CT := X.CT) (g := g__law_orders) (nl := 6) (κ := 0) X.F__law_orders sc__law_orders X.M__law_orders X.B__law_orders rfl fun cdv A outer s H E wl S0 B => jb_le
    (jb_cons (ss B.c 1 (jn_e (jn_lst (ac (je_tup (ac (je_tup ja_nil) (ac je_int ja_nil))) ja_nil))))
    (jb_cons (sf 100000 B (r1 X.m_range (oc (o 0) jo_nil)) (gn B.c 2) (jb_cons (sn B.c 3 (jn_lst ja_nil))
    (jb_cons (sf 100000 B (ji_seq (v 1)) (gt B.c 2 (gc (gn B.c 4) (gc (gn B.c 5) jgs_nil)) (gs_len1 gm_name (gs_len1 gm_name gs_len0))) (jb_one (sf 100000 B (r1 X.m_range (oc (je_o (je_add (o 2) (je_o je_int))) jo_nil)) (gn B.c 6) (jb_one (sap 3 (je_tup (ac (je_add (je_o (je_add (je_o (je_slice (o 4) jp_no (jp_at (v 6)))) (je_o (je_tup (ac (v 2) ja_nil))))) (je_o (je_slice (o 4) (jp_at (v 6)) jp_no))) (ac (je_if (t_eq B.c (je_o (je_mod (je_o (j_int rfl X.m_int (oc (je_o (je_sub (o 2) (o 6))) jo_nil))) (je_o je_int))) (je_o je_int)) (v 5) (je_neg (o 5))) ja_nil))))))))
    (jb_one (js_frz (i := 3) (ss B.c 1 (v 3)))))))
    (jb_one (js_ret (v 1))))) (by decide)
theorem d__law_determinant
    (D__law_num : DefG P w K mg base "_law_num" ["p", "k"] 1 X.a__law_num X.fd__law_num (spD K X.CT 0 m__law_num))
    (D__law_orders : DefG P w K mg base "_law_orders" ["many"] 1 X.a__law_orders X.fd__law_orders (spD K X.CT 0 m__law_orders))
    (D__law_plus : DefG P w K mg base "_law_plus" ["p", "one", "other"] 2 X.a__law_plus X.fd__law_plus (spD K X.CT 0 m__law_plus))
    (D__law_times : DefG P w K mg base "_law_times" ["p", "one", "other"] 2 X.a__law_times X.fd__law_times (spD K X.CT 0 m__law_times)) :
    DefG P w K mg base "_law_determinant" ["p", "table"] 3 X.a__law_determinant X.fd__law_determinant (spD K X.CT 0 m__law_determinant) := by
  rw [q__law_determinant]
  exact defG_of (CT := X.CT) (g := g__law_determinant) (nl := 6) (κ := 0) X.F__law_determinant sc__law_determinant X.M__law_determinant X.B__law_determinant rfl fun cdv A outer s H E wl S0 B => jb_le
    (jb_cons (ss B.c 2 (cl D__law_num B.c (by decide) (ac (v 0) (ac je_int ja_nil))))
    (jb_cons (sf 100000 B (ji_seq (cl D__law_orders B.c (by decide) (ac (j_len rfl X.m_len (oc (o 1) jo_nil)) ja_nil))) (gt B.c 2 (gc (gn B.c 3) (gc (gn B.c 4) jgs_nil)) (gs_len1 gm_name (gs_len1 gm_name gs_len0))) (jb_cons (ss B.c 5 (cl D__law_num B.c (by decide) (ac (v 0) (ac (v 4) ja_nil))))
    (jb_cons (sf 100000 B (ji_zip (by rfl) X.m_zip (ac (v 1) (ac (v 3) ja_nil))) (gt B.c 2 (gc (gn B.c 6) (gc (gn B.c 7) jgs_nil)) (gs_len1 gm_name (gs_len1 gm_name gs_len0))) (jb_one (ss B.c 5 (cl D__law_times B.c (by decide) (ac (v 0) (ac (v 5) (ac (j_ix (o 6) (o 7)) ja_nil)))))))
    (jb_one (ss B.c 2 (cl D__law_plus B.c (by decide) (ac (v 0) (ac (v 2) (ac (v 5) ja_nil)))))))))
    (jb_one (js_ret (v 2))))) (by decide)
theorem d__law_square
    (D__law_draw : DefG P w K mg base "_law_draw" ["well", "many"] 1 X.a__law_draw X.fd__law_draw (spD K X.CT 1 m__law_draw))
    (D__law_table : DefG P w K mg base "_law_table" ["well", "p", "rows", "columns"] 3 X.a__law_table X.fd__law_table (spD K X.CT 12288 m__law_table))
    (D__law_drawn : DefG P w K mg base "_law_drawn" ["well", "p"] 2 X.a__law_drawn X.fd__law_drawn (spD K X.CT 3 m__law_drawn))
    (D__law_times : DefG P w K mg base "_law_times" ["p", "one", "other"] 2 X.a__law_times X.fd__law_times (spD K X.CT 0 m__law_times)) :
    DefG P w K mg base "_law_square" ["well", "p"] 4 X.a__law_square X.fd__law_square (spD K X.CT 12295 m__law_square) := by
  rw [q__law_square]
  exact defG_of (CT := X.CT) (g := g__law_square) (nl := 6) (κ := 12295) X.F__law_square sc__law_square X.M__law_square X.B__law_square rfl fun cdv A outer s H E wl S0 B => jb_le
    (jb_cons (ss B.c 2 (cl D__law_draw B.c (by decide) (ac (v 0) (ac je_int ja_nil))))
    (jb_cons (sn B.c 3 (jn_of (by rfl) X.m_list (oc (je_o (cl D__law_table B.c (by decide) (ac (v 0) (ac (v 1) (ac (v 2) (ac (v 2) ja_nil)))))) jo_nil) (by rfl) (by rfl)))
    (jb_cons (js_if (jw_pt (jw_and (t_gt (o 2) (je_o je_int)) (jw_and1 (t_eq B.c (je_o (cl D__law_draw B.c (by decide) (ac (v 0) (ac je_int ja_nil)))) (je_o je_int))))) (jb_cons (sa (je_tup (ac (cl D__law_drawn B.c (by decide) (ac (v 0) (ac (v 1) ja_nil))) (ac (cl D__law_draw B.c (by decide) (ac (v 0) (ac (v 2) ja_nil))) (ac (cl D__law_draw B.c (by decide) (ac (v 0) (ac (v 2) ja_nil))) ja_nil)))) (gt B.c 3 (gc (gn B.c 4) (gc (gn B.c 5) (gc (gn B.c 6) jgs_nil))) (gs_len1 gm_name (gs_len1 gm_name (gs_len1 gm_name gs_len0)))))
    (jb_one (js_if (t_ne B.c (o 5) (o 6)) (jb_one (six 3 (j_tuple rfl X.m_tuple (oc (je_o (jn_e (lc [("item", 7)] 100000 B.c (ji_seq (j_ix (o 3) (o 6))) (fun s1 H1 q1 l1 p1 => (gn (Cok.blk B.c s1 H1 q1 l1 p1) 7)) (fun s1 H1 q1 l1 p1 => jts_nil) (fun s1 H1 q1 l1 p1 => (cl D__law_times (Cok.blk B.c s1 H1 q1 l1 p1) (by decide) (ac (v 1) (ac (v 4) (ac (v 7) ja_nil)))))))) jo_nil)) (v 5))) jb_nil))) jb_nil)
    (jb_one (js_ret (j_tuple rfl X.m_tuple (oc (o 3) jo_nil))))))) (by decide)
theorem d__law_told
    (D_determinant : DefG P w K mg base "determinant" ["prime", "table"] 14 X.a_determinant X.fd_determinant (spD K X.CT 0 m_determinant))
    (D_undone : DefG P w K mg base "undone" ["prime", "table"] 14 X.a_undone X.fd_undone (spD K X.CT 0 m_undone)) :
    DefG P w K mg base "_law_told" ["way", "p", "table"] 15 X.a__law_told X.fd__law_told (spD K X.CT 0 m__law_told) := by
  rw [q__law_told]
  unfold g__law_told
  rw [u__law_told_0, u__law_told_1, u__law_told_2]
  exact defG_of (CT := X.CT) (g := ((gSeq (gSet 3 (dC .none))
  (gSeq (gTry 4 3 (gIfS (tVal (d2 gEq (dOwn 0) (dC (.int 0)))) (gDrop (dCall m_determinant (aCons (dVar 1) (aCons (dVar 2) aNil)))) (gDrop (dCallK m_undone px_10 aNil (aCons (dVar 2) (aCons (dVar 1) aNil))))))
  (gRet (dIf (tVal (d1 gIsN (dOwn 3))) (dC .none) (dTup (aCons (d1 (gIsE 2 subE) (dOwn 3)) (aCons (d1 (gIsE 1 subE) (dOwn 3)) (aCons (dBi bRepr (aCons (d1 gVal (dOwn 3)) aNil)) aNil)))))))))) (nl := 2) (κ := 0) X.F__law_told sc__law_told X.M__law_told X.B__law_told rfl fun cdv A outer s H E wl S0 B => jb_le
    (jb_cons (ss B.c 3 je_non)
    (jb_cons (st_ 4 3 B.c rfl rfl rfl X.M_WebsError X.XM (fun W' pn' xe' C' B' => (jb_one (js_if (t_eq C' (o 0) (je_o je_int)) (jb_one (se (cl D_determinant C' (by decide) (ac (v 1) (ac (v 2) ja_nil))))) (jb_one (se (clk D_undone C' (by decide) X.K_undone_10 (pd_10) (jk_cons (v 2) (jk_cons (v 1) jk_nil)))))))))
    (jb_one (js_ret (je_if (jt_isN (o 3)) je_non (je_tup (ac (j_isE X.m_isinstance X.ME_InvalidTable X.KN_InvalidTable X.IC X.KL_InvalidTable (o 3)) (ac (j_isE X.m_isinstance X.ME_InvalidPrime X.KN_InvalidPrime X.IC X.KL_InvalidPrime (o 3)) (ac (j_repr B.c rfl X.m_repr (oc (je_o (j_val X.EC (o 3))) jo_nil)) ja_nil))))))))) (by decide)
theorem d__law_right
    (D__law_square : DefG P w K mg base "_law_square" ["well", "p"] 4 X.a__law_square X.fd__law_square (spD K X.CT 12295 m__law_square))
    (D_undone : DefG P w K mg base "undone" ["prime", "table"] 14 X.a_undone X.fd_undone (spD K X.CT 0 m_undone))
    (D__law_table : DefG P w K mg base "_law_table" ["well", "p", "rows", "columns"] 3 X.a__law_table X.fd__law_table (spD K X.CT 12288 m__law_table))
    (D__law_draw : DefG P w K mg base "_law_draw" ["well", "many"] 1 X.a__law_draw X.fd__law_draw (spD K X.CT 1 m__law_draw))
    (D__law_determinant : DefG P w K mg base "_law_determinant" ["p", "table"] 3 X.a__law_determinant X.fd__law_determinant (spD K X.CT 0 m__law_determinant))
    (D__law_units : DefG P w K mg base "_law_units" ["p", "size"] 2 X.a__law_units X.fd__law_units (spD K X.CT 0 m__law_units))
    (D_determinant : DefG P w K mg base "determinant" ["prime", "table"] 14 X.a_determinant X.fd_determinant (spD K X.CT 0 m_determinant))
    (D__law_times : DefG P w K mg base "_law_times" ["p", "one", "other"] 2 X.a__law_times X.fd__law_times (spD K X.CT 0 m__law_times))
    (D__law_product : DefG P w K mg base "_law_product" ["p", "one", "other", "columns"] 4 X.a__law_product X.fd__law_product (spD K X.CT 0 m__law_product))
    (D__law_told : DefG P w K mg base "_law_told" ["way", "p", "table"] 15 X.a__law_told X.fd__law_told (spD K X.CT 0 m__law_told))
    (D_transposed : DefG P w K mg base "transposed" ["prime", "table", "columns"] 14 X.a_transposed X.fd_transposed (spD K X.CT 0 m_transposed))
    (D__law_num : DefG P w K mg base "_law_num" ["p", "k"] 1 X.a__law_num X.fd__law_num (spD K X.CT 0 m__law_num)) :
    DefG P w K mg base "_law_right" ["well"] 16 X.a__law_right X.fd__law_right (spD K X.CT 24584 m__law_right) := by
  rw [q__law_right]
  unfold g__law_right
  rw [u__law_right_0, u__law_right_1, u__law_right_2, u__law_right_3, u__law_right_4, u__law_right_5, u__law_right_6, u__law_right_7, u__law_right_8, u__law_right_9, u__law_right_10, u__law_right_11]
  exact defG_of (CT := X.CT) (g := ((gSeq (gSet 1 (d2 gIx (dN2 (nLst (aCons (dC (.int 0)) (aCons (dC (.int 2)) (aCons (dC (.int 3)) (aCons (dC (.int 5)) (aCons (dC (.int 11)) aNil))))))) (dCall m__law_draw (aCons (dVar 0) (aCons (dC (.int 5)) aNil)))))
  (gSeq (gSet 2 (dCall m__law_square (aCons (dVar 0) (aCons (dVar 1) aNil))))
  (gSeq (gPar 3 4 (aCons (dBi bLen (aCons (dOwn 2) aNil)) (aCons (dCall m__law_determinant (aCons (dVar 1) (aCons (dVar 2) aNil))) aNil)))
  (gSeq (gIfS (tOr' (tVal (d2 gNe (dBi bRepr (aCons (dN2 (nLst (aCons (dCall m_determinant (aCons (dVar 1) (aCons (dVar 2) aNil))) (aCons (dCallK m_determinant px_10 aNil (aCons (dVar 2) (aCons (dVar 1) aNil))) aNil)))) aNil)) (dBi bRepr (aCons (dN2 (nLst (aCons (dVar 4) (aCons (dVar 4) aNil)))) aNil)))) (tVal (d2 gNe (dCall m_determinant (aCons (dVar 1) (aCons (dCall m_transposed (aCons (dVar 1) (aCons (dVar 2) (aCons (dVar 3) aNil)))) aNil))) (dOwn 4)))) (gRet (dC (.bool false))) gNext)
  (gSeq (gSet 5 (dCall m_undone (aCons (dVar 1) (aCons (dVar 2) aNil))))
  (gSeq (gIfS (tOr' (tVal (d2 gNe (d1 gIsN (dOwn 5)) (d2 gEq (dOwn 4) (dCall m__law_num (aCons (dVar 1) (aCons (dC (.int 0)) aNil)))))) (tVal (d2 gNe (dCallK m_undone px_10 aNil (aCons (dVar 2) (aCons (dVar 1) aNil))) (dOwn 5)))) (gRet (dC (.bool false))) gNext)
  (gSeq (gIfS (tVal (d1 gNotN (dOwn 5))) (gSeq (gSet 6 (dCall m__law_units (aCons (dVar 1) (aCons (dVar 3) aNil))))
  (gIfS (tOr' (tVal (d2 gNe (dCall m__law_product (aCons (dVar 1) (aCons (dVar 2) (aCons (dVar 5) (aCons (dVar 3) aNil))))) (dOwn 6))) (tOr' (tVal (d2 gNe (dCall m__law_product (aCons (dVar 1) (aCons (dVar 5) (aCons (dVar 2) (aCons (dVar 3) aNil))))) (dOwn 6))) (tVal (d2 gNe (dCall m_undone (aCons (dVar 1) (aCons (dVar 5) aNil))) (dOwn 2))))) (gRet (dC (.bool false))) gNext)) gNext)
  (gSeq (gSet 7 (dCall m__law_table (aCons (dVar 0) (aCons (dVar 1) (aCons (dVar 3) (aCons (dVar 3) aNil))))))
  (gSeq (gIfS (tVal (d2 gNe (dCall m_determinant (aCons (dVar 1) (aCons (dCall m__law_product (aCons (dVar 1) (aCons (dVar 2) (aCons (dVar 7) (aCons (dVar 3) aNil))))) aNil))) (dCall m__law_times (aCons (dVar 1) (aCons (dVar 4) (aCons (dCall m__law_determinant (aCons (dVar 1) (aCons (dVar 7) aNil))) aNil)))))) (gRet (dC (.bool false))) gNext)
  (gSeq (gSet 8 (d2 gAdd (dBi bTuple (aCons (dN2 (nLc 100000 (iSeq (dVar 2)) (gNm 10) tTrue (d2 gAdd (dOwn 10) (dTup (aCons (dCall m__law_num (aCons (dVar 1) (aCons (dC (.int 0)) aNil))) aNil))) [10])) aNil)) (dIf (tVal (d2 gEq (dOwn 3) (dC (.int 0)))) (dTup (aCons (d2 gMul (dTup (aCons (dCall m__law_num (aCons (dVar 1) (aCons (dC (.int 1)) aNil))) aNil)) (dC (.int 2))) aNil)) (dTup aNil))))
  (gSeq (gFor 100000 (iSeq (dTup (aCons (dVar 8) (aCons (dC .none) (aCons (dN2 (nLst aNil)) (aCons (dTup (aCons (dTup aNil) aNil)) (aCons (dC (.str "ab")) (aCons (dTup (aCons (dTup (aCons (dTup aNil) (aCons (dTup aNil) aNil))) aNil)) aNil)))))))) (gNm 9) g__law_right_b0)
  (gRet (d2 gEq (dN2 (nLc 100000 (iSeq (dTup (aCons (dC (.int 0)) (aCons (dC (.int 1)) aNil)))) (gNm 11) tTrue (dCall m__law_told (aCons (dVar 11) (aCons (dC (.int 6)) (aCons (dC .none) aNil)))) [11])) (d2 gMul (dN2 (nLst (aCons (dTup (aCons (dC (.bool false)) (aCons (dC (.bool true)) (aCons (dC (.str "6")) aNil)))) aNil))) (dC (.int 2)))))))))))))))))) (nl := 11) (κ := 24584) X.F__law_right sc__law_right X.M__law_right X.B__law_right rfl fun cdv A outer s H E wl S0 B => jb_le
    (jb_cons (ss B.c 1 (j_ix (je_o (jn_e (jn_lst (ac je_int (ac je_int (ac je_int (ac je_int (ac je_int ja_nil)))))))) (je_o (cl D__law_draw B.c (by decide) (ac (v 0) (ac je_int ja_nil))))))
    (jb_cons (ss B.c 2 (cl D__law_square B.c (by decide) (ac (v 0) (ac (v 1) ja_nil))))
    (jb_cons (sp2 B.c 3 4 (ac (j_len rfl X.m_len (oc (o 2) jo_nil)) (ac (cl D__law_determinant B.c (by decide) (ac (v 1) (ac (v 2) ja_nil))) ja_nil)))
    (jb_cons (js_if (jw_pt (jw_or (t_ne B.c (je_o (j_repr B.c rfl X.m_repr (oc (je_o (jn_e (jn_lst (ac (cl D_determinant B.c (by decide) (ac (v 1) (ac (v 2) ja_nil))) (ac (clk D_determinant B.c (by decide) X.K_determinant_10 (pd_10) (jk_cons (v 2) (jk_cons (v 1) jk_nil))) ja_nil))))) jo_nil))) (je_o (j_repr B.c rfl X.m_repr (oc (je_o (jn_e (jn_lst (ac (v 4) (ac (v 4) ja_nil))))) jo_nil)))) (jw_or1 (t_ne B.c (je_o (cl D_determinant B.c (by decide) (ac (v 1) (ac (cl D_transposed B.c (by decide) (ac (v 1) (ac (v 2) (ac (v 3) ja_nil)))) ja_nil)))) (o 4))))) (jb_one (js_ret je_bl)) jb_nil)
    (jb_cons (ss B.c 5 (cl D_undone B.c (by decide) (ac (v 1) (ac (v 2) ja_nil))))
    (jb_cons (js_if (jw_pt (jw_or (t_ne B.c (je_o (je_isN (o 5))) (je_o (je_eq B.c (o 4) (je_o (cl D__law_num B.c (by decide) (ac (v 1) (ac je_int ja_nil))))))) (jw_or1 (t_ne B.c (je_o (clk D_undone B.c (by decide) X.K_undone_10 (pd_10) (jk_cons (v 2) (jk_cons (v 1) jk_nil)))) (o 5))))) (jb_one (js_ret je_bl)) jb_nil)
    (jb_cons (js_if (jt_notN (o 5)) (jb_cons (ss B.c 6 (cl D__law_units B.c (by decide) (ac (v 1) (ac (v 3) ja_nil))))
    (jb_one (js_if (jw_pt (jw_or (t_ne B.c (je_o (cl D__law_product B.c (by decide) (ac (v 1) (ac (v 2) (ac (v 5) (ac (v 3) ja_nil)))))) (o 6)) (jw_or (t_ne B.c (je_o (cl D__law_product B.c (by decide) (ac (v 1) (ac (v 5) (ac (v 2) (ac (v 3) ja_nil)))))) (o 6)) (jw_or1 (t_ne B.c (je_o (cl D_undone B.c (by decide) (ac (v 1) (ac (v 5) ja_nil)))) (o 2)))))) (jb_one (js_ret je_bl)) jb_nil))) jb_nil)
    (jb_cons (ss B.c 7 (cl D__law_table B.c (by decide) (ac (v 0) (ac (v 1) (ac (v 3) (ac (v 3) ja_nil))))))
    (jb_cons (js_if (t_ne B.c (je_o (cl D_determinant B.c (by decide) (ac (v 1) (ac (cl D__law_product B.c (by decide) (ac (v 1) (ac (v 2) (ac (v 7) (ac (v 3) ja_nil))))) ja_nil)))) (je_o (cl D__law_times B.c (by decide) (ac (v 1) (ac (v 4) (ac (cl D__law_determinant B.c (by decide) (ac (v 1) (ac (v 7) ja_nil))) ja_nil)))))) (jb_one (js_ret je_bl)) jb_nil)
    (jb_cons (ss B.c 8 (je_add (je_o (j_tuple rfl X.m_tuple (oc (je_o (jn_e (lc [("row", 10)] 100000 B.c (ji_seq (v 2)) (fun s1 H1 q1 l1 p1 => (gn (Cok.blk B.c s1 H1 q1 l1 p1) 10)) (fun s1 H1 q1 l1 p1 => jts_nil) (fun s1 H1 q1 l1 p1 => (je_add (o 10) (je_o (je_tup (ac (cl D__law_num (Cok.blk B.c s1 H1 q1 l1 p1) (by decide) (ac (v 1) (ac je_int ja_nil))) ja_nil)))))))) jo_nil))) (je_o (je_if (t_eq B.c (o 3) (je_o je_int)) (je_tup (ac (je_mul (je_o (je_tup (ac (cl D__law_num B.c (by decide) (ac (v 1) (ac je_int ja_nil))) ja_nil))) (je_o je_int)) ja_nil)) (je_tup ja_nil)))))
    (jb_cons (sf 100000 B (ji_seq (je_tup (ac (v 8) (ac je_non (ac (jn_e (jn_lst ja_nil)) (ac (je_tup (ac (je_tup ja_nil) ja_nil)) (ac je_str (ac (je_tup (ac (je_tup (ac (je_tup ja_nil) (ac (je_tup ja_nil) ja_nil))) ja_nil)) ja_nil)))))))) (gn B.c 9) (jb_one (js_if (t_ne B.c (je_o (jn_e (lc [("way", 11)] 100000 B.c (ji_seq (je_tup (ac je_int (ac je_int ja_nil)))) (fun s1 H1 q1 l1 p1 => (gn (Cok.blk B.c s1 H1 q1 l1 p1) 11)) (fun s1 H1 q1 l1 p1 => jts_nil) (fun s1 H1 q1 l1 p1 => (cl D__law_told (Cok.blk B.c s1 H1 q1 l1 p1) (by decide) (ac (v 11) (ac (v 1) (ac (v 9) ja_nil)))))))) (je_o (je_mul (je_o (jn_e (jn_lst (ac (je_tup (ac je_bl (ac je_bl (ac (j_repr B.c rfl X.m_repr (oc (o 9) jo_nil)) ja_nil)))) ja_nil)))) (je_o je_int)))) (jb_one (js_ret je_bl)) jb_nil)))
    (jb_one (js_ret (je_eq B.c (je_o (jn_e (lc [("way", 11)] 100000 B.c (ji_seq (je_tup (ac je_int (ac je_int ja_nil)))) (fun s1 H1 q1 l1 p1 => (gn (Cok.blk B.c s1 H1 q1 l1 p1) 11)) (fun s1 H1 q1 l1 p1 => jts_nil) (fun s1 H1 q1 l1 p1 => (cl D__law_told (Cok.blk B.c s1 H1 q1 l1 p1) (by decide) (ac (v 11) (ac je_int (ac je_non ja_nil)))))))) (je_o (je_mul (je_o (jn_e (jn_lst (ac (je_tup (ac je_bl (ac je_bl (ac je_str ja_nil)))) ja_nil)))) (je_o je_int))))))))))))))))) (by decide)
theorem d_law
    (D__law_well : DefW P w K mg base "_law_well" ["script", "k"] 1 X.a__law_well X.fd__law_well)
    (D__law_right : DefG P w K mg base "_law_right" ["well"] 16 X.a__law_right X.fd__law_right (spD K X.CT 24584 m__law_right))
    (HR : RightFn m__law_right) :
    DefG P w K mg base "law" ["script"] 17 X.a_law X.fd_law (spD K X.CT 0 m_law) := by
  rw [q_law]
  exact defG_of (CT := X.CT) (g := g_law) (nl := 3) (κ := 0) X.F_law sc_law X.M_law X.B_law rfl fun cdv A outer s H E wl S0 B => jb_le
    (jb_cons (sf 100000 B (r1 X.m_range (oc (je_o (j_max B.c rfl X.m_max (oc (je_o je_int) (oc (je_o (j_min B.c rfl X.m_min (oc (je_o je_int) (oc (je_o (j_len rfl X.m_len (oc (o 0) jo_nil))) jo_nil)))) jo_nil)))) jo_nil)) (gn B.c 1) (jb_cons (sn B.c 2 (jn_callW D__law_well B.c (by decide) (ac (v 0) (ac (v 1) ja_nil))))
    (jb_one (sf 100000 B (r1 X.m_range (oc (je_o je_int) jo_nil)) (gn B.c 3) (jb_one (js_right 2 D__law_right B.c (by decide) HR))))))
    (jb_one (js_ret je_bl))) (by decide)
end
end Law
namespace Law
open PySem PySem.Spec PyProof.Rows L2 Wb

theorem all_anew {P : Program} {w : World} {K : Frag} {mg : Str → Option Value} {base : Heap} (X : Fx P K mg) : ∀ j, DefG P w K mg base "anew" ["value"] j X.a_anew X.fd_anew (spD K X.CT 0 (anewG j))
  | 0 => ⟨⟨fun vs H Q E ⟨_, _, _, _, _, _, _, _, h, _⟩ => h.elim, fun A outer s H args us vs Q E _ _ _ _ _ ⟨_, _, _, _, _, _, _, _, h, _⟩ => h.elim⟩, X.M_anew, X.F_anew.kp, X.B_anew⟩
  | j + 1 => (st_anew X (all_anew X j)).imp (spD_imp (ev_anew j))
theorem all_mk {P : Program} {w : World} {K : Frag} {h : Heap} {mg : Str → Option Value} (kin : K.In h) (G : h.Ns mainGlobals mg) {fa : Addr} (hfa : mg "law" = some (.ref fa))
    {f7 : Addr} {oc7 kV7 dc7 pm7 cd7 ct7 : Value} {od7 an7 : Option Addr} {sl7 : Array (Option Value)}
    {f8 : Addr} {oc8 kV8 dc8 pm8 cd8 ct8 : Value} {od8 an8 : Option Addr} {sl8 : Array (Option Value)}
    {f9 : Addr} {oc9 kV9 dc9 pm9 cd9 ct9 : Value} {od9 an9 : Option Addr} {sl9 : Array (Option Value)}
    {f12 : Addr} {oc12 kV12 dc12 pm12 cd12 ct12 : Value} {od12 an12 : Option Addr} {sl12 : Array (Option Value)}
    {f13 : Addr} {oc13 kV13 dc13 pm13 cd13 ct13 : Value} {od13 an13 : Option Addr} {sl13 : Array (Option Value)}
    {f14 : Addr} {oc14 kV14 dc14 pm14 cd14 ct14 : Value} {od14 an14 : Option Addr} {sl14 : Array (Option Value)}
    {f15 : Addr} {oc15 kV15 dc15 pm15 cd15 ct15 : Value} {od15 an15 : Option Addr} {sl15 : Array (Option Value)}
    {f16 : Addr} {oc16 kV16 dc16 pm16 cd16 ct16 : Value} {od16 an16 : Option Addr} {sl16 : Array (Option Value)}
    {f17 : Addr} {oc17 kV17 dc17 pm17 cd17 ct17 : Value} {od17 an17 : Option Addr} {sl17 : Array (Option Value)}
    {f18 : Addr} {oc18 kV18 dc18 pm18 cd18 ct18 : Value} {od18 an18 : Option Addr} {sl18 : Array (Option Value)}
    {f19 : Addr} {oc19 kV19 dc19 pm19 cd19 ct19 : Value} {od19 an19 : Option Addr} {sl19 : Array (Option Value)}
    {f20 : Addr} {oc20 kV20 dc20 pm20 cd20 ct20 : Value} {od20 an20 : Option Addr} {sl20 : Array (Option Value)}
    {f21 : Addr} {oc21 kV21 dc21 pm21 cd21 ct21 : Value} {od21 an21 : Option Addr} {sl21 : Array (Option Value)}
    {f23 : Addr} {oc23 kV23 dc23 pm23 cd23 ct23 : Value} {od23 an23 : Option Addr} {sl23 : Array (Option Value)}
    {f25 : Addr} {oc25 kV25 dc25 pm25 cd25 ct25 : Value} {od25 an25 : Option Addr} {sl25 : Array (Option Value)}
    {f26 : Addr} {oc26 kV26 dc26 pm26 cd26 ct26 : Value} {od26 an26 : Option Addr} {sl26 : Array (Option Value)}
    {f27 : Addr} {oc27 kV27 dc27 pm27 cd27 ct27 : Value} {od27 an27 : Option Addr} {sl27 : Array (Option Value)}
    {f28 : Addr} {oc28 kV28 dc28 pm28 cd28 ct28 : Value} {od28 an28 : Option Addr} {sl28 : Array (Option Value)}
    {f29 : Addr} {oc29 kV29 dc29 pm29 cd29 ct29 : Value} {od29 an29 : Option Addr} {sl29 : Array (Option Value)}
    {f30 : Addr} {oc30 kV30 dc30 pm30 cd30 ct30 : Value} {od30 an30 : Option Addr} {sl30 : Array (Option Value)}
    {f31 : Addr} {oc31 kV31 dc31 pm31 cd31 ct31 : Value} {od31 an31 : Option Addr} {sl31 : Array (Option Value)}
    {f32 : Addr} {oc32 kV32 dc32 pm32 cd32 ct32 : Value} {od32 an32 : Option Addr} {sl32 : Array (Option Value)}
    {f34 : Addr} {oc34 kV34 dc34 pm34 cd34 ct34 : Value} {od34 an34 : Option Addr} {sl34 : Array (Option Value)}
    {f35 : Addr} {oc35 kV35 dc35 pm35 cd35 ct35 : Value} {od35 an35 : Option Addr} {sl35 : Array (Option Value)}
    {f36 : Addr} {oc36 kV36 dc36 pm36 cd36 ct36 : Value} {od36 an36 : Option Addr} {sl36 : Array (Option Value)}
    {f37 : Addr} {oc37 kV37 dc37 pm37 cd37 ct37 : Value} {od37 an37 : Option Addr} {sl37 : Array (Option Value)}
    {f38 : Addr} {oc38 kV38 dc38 pm38 cd38 ct38 : Value} {od38 an38 : Option Addr} {sl38 : Array (Option Value)}
    {f39 : Addr} {oc39 kV39 dc39 pm39 cd39 ct39 : Value} {od39 an39 : Option Addr} {sl39 : Array (Option Value)}
    {f41 : Addr} {oc41 kV41 dc41 pm41 cd41 ct41 : Value} {od41 an41 : Option Addr} {sl41 : Array (Option Value)}
    {f42 : Addr} {oc42 kV42 dc42 pm42 cd42 ct42 : Value} {od42 an42 : Option Addr} {sl42 : Array (Option Value)}
    {f43 : Addr} {oc43 kV43 dc43 pm43 cd43 ct43 : Value} {od43 an43 : Option Addr} {sl43 : Array (Option Value)}
    {f44 : Addr} {oc44 kV44 dc44 pm44 cd44 ct44 : Value} {od44 an44 : Option Addr} {sl44 : Array (Option Value)}
    {f45 : Addr} {oc45 kV45 dc45 pm45 cd45 ct45 : Value} {od45 an45 : Option Addr} {sl45 : Array (Option Value)}
    {f46 : Addr} {oc46 kV46 dc46 pm46 cd46 ct46 : Value} {od46 an46 : Option Addr} {sl46 : Array (Option Value)}
    {f48 : Addr} {oc48 kV48 dc48 pm48 cd48 ct48 : Value} {od48 an48 : Option Addr} {sl48 : Array (Option Value)}
    {f49 : Addr} {oc49 kV49 dc49 pm49 cd49 ct49 : Value} {od49 an49 : Option Addr} {sl49 : Array (Option Value)}
    {f50 : Addr} {oc50 kV50 dc50 pm50 cd50 ct50 : Value} {od50 an50 : Option Addr} {sl50 : Array (Option Value)}
    {f51 : Addr} {oc51 kV51 dc51 pm51 cd51 ct51 : Value} {od51 an51 : Option Addr} {sl51 : Array (Option Value)}
    {f52 : Addr} {oc52 kV52 dc52 pm52 cd52 ct52 : Value} {od52 an52 : Option Addr} {sl52 : Array (Option Value)}
    {f53 : Addr} {oc53 kV53 dc53 pm53 cd53 ct53 : Value} {od53 an53 : Option Addr} {sl53 : Array (Option Value)}
    {f54 : Addr} {oc54 kV54 dc54 pm54 cd54 ct54 : Value} {od54 an54 : Option Addr} {sl54 : Array (Option Value)}
    {f55 : Addr} {oc55 kV55 dc55 pm55 cd55 ct55 : Value} {od55 an55 : Option Addr} {sl55 : Array (Option Value)}
    {f56 : Addr} {oc56 kV56 dc56 pm56 cd56 ct56 : Value} {od56 an56 : Option Addr} {sl56 : Array (Option Value)}
    {f57 : Addr} {oc57 kV57 dc57 pm57 cd57 ct57 : Value} {od57 an57 : Option Addr} {sl57 : Array (Option Value)}
    {f58 : Addr} {oc58 kV58 dc58 pm58 cd58 ct58 : Value} {od58 an58 : Option Addr} {sl58 : Array (Option Value)}
    {gPRIMES : Addr} {dd_PRIMES : Option Addr} {its_PRIMES : Array Value} {nn_PRIMES : Nat} {sl_PRIMES : Array (Option Value)}
    {eD eI : Addr} {oce : Value} {ode : Option Addr} {doce pme : Value} {ane : Option Addr} {cte kVe : Value} {osle : Array (Option Value)} {cda cc : Addr} {ccl : Value} {cdd : Option Addr} {vse : Array Value} {ccs : Array (Option Value)} {file : Str} {tf : Tok} {cle : Value} {cld : Option Addr} {csl : Array (Option Value)}
    {C0 : Addr} {nm0 q0 : Str} {N0 : Addr} {bs0 : List Value} {sn0 : List Str} {sub0 : List Value} {ab0 : Bool} {col0 : Option Bool} {dd0 : Option Addr} {u00 u10 u20 u30 u50 : Option Value}
    {C1 : Addr} {nm1 q1 : Str} {N1 : Addr} {bs1 : List Value} {sn1 : List Str} {sub1 : List Value} {ab1 : Bool} {col1 : Option Bool} {dd1 : Option Addr} {u01 u11 u21 u31 u51 : Option Value}
    {C2 : Addr} {nm2 q2 : Str} {N2 : Addr} {bs2 : List Value} {sn2 : List Str} {sub2 : List Value} {ab2 : Bool} {col2 : Option Bool} {dd2 : Option Addr} {u02 u12 u22 u32 u52 : Option Value}
    (n7 : PySem.W.nsIn K mainGlobals "is_integer" = some (some (.ref f7)))
    (l7 : K.lookup f7 = some ⟨oc7, od7, .func (PySem.W.fnOf "is_integer" "is_integer" (defArgs s_is_integer) (defBody s_is_integer) (defScope s_is_integer) .none kV7 dc7 pm7 an7 cd7 ct7), sl7⟩)
    (c7 : PySem.W.codeIn K cd7 "is_integer" = true)
    (k7 : PySem.W.keepIn K (.ref f7) = true)
    (n8 : PySem.W.nsIn K mainGlobals "is_tuple" = some (some (.ref f8)))
    (l8 : K.lookup f8 = some ⟨oc8, od8, .func (PySem.W.fnOf "is_tuple" "is_tuple" (defArgs s_is_tuple) (defBody s_is_tuple) (defScope s_is_tuple) .none kV8 dc8 pm8 an8 cd8 ct8), sl8⟩)
    (c8 : PySem.W.codeIn K cd8 "is_tuple" = true)
    (k8 : PySem.W.keepIn K (.ref f8) = true)
    (n9 : PySem.W.nsIn K mainGlobals "anew" = some (some (.ref f9)))
    (l9 : K.lookup f9 = some ⟨oc9, od9, .func (PySem.W.fnOf "anew" "anew" (defArgs s_anew) (defBody s_anew) (defScope s_anew) .none kV9 dc9 pm9 an9 cd9 ct9), sl9⟩)
    (c9 : PySem.W.codeIn K cd9 "anew" = true)
    (k9 : PySem.W.keepIn K (.ref f9) = true)
    (n12 : PySem.W.nsIn K mainGlobals "is_prime_in" = some (some (.ref f12)))
    (l12 : K.lookup f12 = some ⟨oc12, od12, .func (PySem.W.fnOf "is_prime_in" "is_prime_in" (defArgs s_is_prime_in) (defBody s_is_prime_in) (defScope s_is_prime_in) .none kV12 dc12 pm12 an12 cd12 ct12), sl12⟩)
    (c12 : PySem.W.codeIn K cd12 "is_prime_in" = true)
    (k12 : PySem.W.keepIn K (.ref f12) = true)
    (n13 : PySem.W.nsIn K mainGlobals "is_scalar_in" = some (some (.ref f13)))
    (l13 : K.lookup f13 = some ⟨oc13, od13, .func (PySem.W.fnOf "is_scalar_in" "is_scalar_in" (defArgs s_is_scalar_in) (defBody s_is_scalar_in) (defScope s_is_scalar_in) .none kV13 dc13 pm13 an13 cd13 ct13), sl13⟩)
    (c13 : PySem.W.codeIn K cd13 "is_scalar_in" = true)
    (k13 : PySem.W.keepIn K (.ref f13) = true)
    (n14 : PySem.W.nsIn K mainGlobals "fraction_in" = some (some (.ref f14)))
    (l14 : K.lookup f14 = some ⟨oc14, od14, .func (PySem.W.fnOf "fraction_in" "fraction_in" (defArgs s_fraction_in) (defBody s_fraction_in) (defScope s_fraction_in) .none kV14 dc14 pm14 an14 cd14 ct14), sl14⟩)
    (c14 : PySem.W.codeIn K cd14 "fraction_in" = true)
    (k14 : PySem.W.keepIn K (.ref f14) = true)
    (n15 : PySem.W.nsIn K mainGlobals "scalar_in" = some (some (.ref f15)))
    (l15 : K.lookup f15 = some ⟨oc15, od15, .func (PySem.W.fnOf "scalar_in" "scalar_in" (defArgs s_scalar_in) (defBody s_scalar_in) (defScope s_scalar_in) .none kV15 dc15 pm15 an15 cd15 ct15), sl15⟩)
    (c15 : PySem.W.codeIn K cd15 "scalar_in" = true)
    (k15 : PySem.W.keepIn K (.ref f15) = true)
    (n16 : PySem.W.nsIn K mainGlobals "plus_in" = some (some (.ref f16)))
    (l16 : K.lookup f16 = some ⟨oc16, od16, .func (PySem.W.fnOf "plus_in" "plus_in" (defArgs s_plus_in) (defBody s_plus_in) (defScope s_plus_in) .none kV16 dc16 pm16 an16 cd16 ct16), sl16⟩)
    (c16 : PySem.W.codeIn K cd16 "plus_in" = true)
    (k16 : PySem.W.keepIn K (.ref f16) = true)
    (n17 : PySem.W.nsIn K mainGlobals "times_in" = some (some (.ref f17)))
    (l17 : K.lookup f17 = some ⟨oc17, od17, .func (PySem.W.fnOf "times_in" "times_in" (defArgs s_times_in) (defBody s_times_in) (defScope s_times_in) .none kV17 dc17 pm17 an17 cd17 ct17), sl17⟩)
    (c17 : PySem.W.codeIn K cd17 "times_in" = true)
    (k17 : PySem.W.keepIn K (.ref f17) = true)
    (n18 : PySem.W.nsIn K mainGlobals "negative_in" = some (some (.ref f18)))
    (l18 : K.lookup f18 = some ⟨oc18, od18, .func (PySem.W.fnOf "negative_in" "negative_in" (defArgs s_negative_in) (defBody s_negative_in) (defScope s_negative_in) .none kV18 dc18 pm18 an18 cd18 ct18), sl18⟩)
    (c18 : PySem.W.codeIn K cd18 "negative_in" = true)
    (k18 : PySem.W.keepIn K (.ref f18) = true)
    (n19 : PySem.W.nsIn K mainGlobals "inverse_in" = some (some (.ref f19)))
    (l19 : K.lookup f19 = some ⟨oc19, od19, .func (PySem.W.fnOf "inverse_in" "inverse_in" (defArgs s_inverse_in) (defBody s_inverse_in) (defScope s_inverse_in) .none kV19 dc19 pm19 an19 cd19 ct19), sl19⟩)
    (c19 : PySem.W.codeIn K cd19 "inverse_in" = true)
    (k19 : PySem.W.keepIn K (.ref f19) = true)
    (n20 : PySem.W.nsIn K mainGlobals "multiple_in" = some (some (.ref f20)))
    (l20 : K.lookup f20 = some ⟨oc20, od20, .func (PySem.W.fnOf "multiple_in" "multiple_in" (defArgs s_multiple_in) (defBody s_multiple_in) (defScope s_multiple_in) .none kV20 dc20 pm20 an20 cd20 ct20), sl20⟩)
    (c20 : PySem.W.codeIn K cd20 "multiple_in" = true)
    (k20 : PySem.W.keepIn K (.ref f20) = true)
    (n21 : PySem.W.nsIn K mainGlobals "less_in" = some (some (.ref f21)))
    (l21 : K.lookup f21 = some ⟨oc21, od21, .func (PySem.W.fnOf "less_in" "less_in" (defArgs s_less_in) (defBody s_less_in) (defScope s_less_in) .none kV21 dc21 pm21 an21 cd21 ct21), sl21⟩)
    (c21 : PySem.W.codeIn K cd21 "less_in" = true)
    (k21 : PySem.W.keepIn K (.ref f21) = true)
    (n23 : PySem.W.nsIn K mainGlobals "need_prime" = some (some (.ref f23)))
    (l23 : K.lookup f23 = some ⟨oc23, od23, .func (PySem.W.fnOf "need_prime" "need_prime" (defArgs s_need_prime) (defBody s_need_prime) (defScope s_need_prime) .none kV23 dc23 pm23 an23 cd23 ct23), sl23⟩)
    (c23 : PySem.W.codeIn K cd23 "need_prime" = true)
    (k23 : PySem.W.keepIn K (.ref f23) = true)
    (n25 : PySem.W.nsIn K mainGlobals "is_vector_in" = some (some (.ref f25)))
    (l25 : K.lookup f25 = some ⟨oc25, od25, .func (PySem.W.fnOf "is_vector_in" "is_vector_in" (defArgs s_is_vector_in) (defBody s_is_vector_in) (defScope s_is_vector_in) .none kV25 dc25 pm25 an25 cd25 ct25), sl25⟩)
    (c25 : PySem.W.codeIn K cd25 "is_vector_in" = true)
    (k25 : PySem.W.keepIn K (.ref f25) = true)
    (n26 : PySem.W.nsIn K mainGlobals "is_table_in" = some (some (.ref f26)))
    (l26 : K.lookup f26 = some ⟨oc26, od26, .func (PySem.W.fnOf "is_table_in" "is_table_in" (defArgs s_is_table_in) (defBody s_is_table_in) (defScope s_is_table_in) .none kV26 dc26 pm26 an26 cd26 ct26), sl26⟩)
    (c26 : PySem.W.codeIn K cd26 "is_table_in" = true)
    (k26 : PySem.W.keepIn K (.ref f26) = true)
    (n27 : PySem.W.nsIn K mainGlobals "is_some_table" = some (some (.ref f27)))
    (l27 : K.lookup f27 = some ⟨oc27, od27, .func (PySem.W.fnOf "is_some_table" "is_some_table" (defArgs s_is_some_table) (defBody s_is_some_table) (defScope s_is_some_table) .none kV27 dc27 pm27 an27 cd27 ct27), sl27⟩)
    (c27 : PySem.W.codeIn K cd27 "is_some_table" = true)
    (k27 : PySem.W.keepIn K (.ref f27) = true)
    (n28 : PySem.W.nsIn K mainGlobals "units_in" = some (some (.ref f28)))
    (l28 : K.lookup f28 = some ⟨oc28, od28, .func (PySem.W.fnOf "units_in" "units_in" (defArgs s_units_in) (defBody s_units_in) (defScope s_units_in) .none kV28 dc28 pm28 an28 cd28 ct28), sl28⟩)
    (c28 : PySem.W.codeIn K cd28 "units_in" = true)
    (k28 : PySem.W.keepIn K (.ref f28) = true)
    (n29 : PySem.W.nsIn K mainGlobals "transposed_in" = some (some (.ref f29)))
    (l29 : K.lookup f29 = some ⟨oc29, od29, .func (PySem.W.fnOf "transposed_in" "transposed_in" (defArgs s_transposed_in) (defBody s_transposed_in) (defScope s_transposed_in) .none kV29 dc29 pm29 an29 cd29 ct29), sl29⟩)
    (c29 : PySem.W.codeIn K cd29 "transposed_in" = true)
    (k29 : PySem.W.keepIn K (.ref f29) = true)
    (n30 : PySem.W.nsIn K mainGlobals "reduced_in" = some (some (.ref f30)))
    (l30 : K.lookup f30 = some ⟨oc30, od30, .func (PySem.W.fnOf "reduced_in" "reduced_in" (defArgs s_reduced_in) (defBody s_reduced_in) (defScope s_reduced_in) .none kV30 dc30 pm30 an30 cd30 ct30), sl30⟩)
    (c30 : PySem.W.codeIn K cd30 "reduced_in" = true)
    (k30 : PySem.W.keepIn K (.ref f30) = true)
    (n31 : PySem.W.nsIn K mainGlobals "undone_in" = some (some (.ref f31)))
    (l31 : K.lookup f31 = some ⟨oc31, od31, .func (PySem.W.fnOf "undone_in" "undone_in" (defArgs s_undone_in) (defBody s_undone_in) (defScope s_undone_in) .none kV31 dc31 pm31 an31 cd31 ct31), sl31⟩)
    (c31 : PySem.W.codeIn K cd31 "undone_in" = true)
    (k31 : PySem.W.keepIn K (.ref f31) = true)
    (n32 : PySem.W.nsIn K mainGlobals "determinant_in" = some (some (.ref f32)))
    (l32 : K.lookup f32 = some ⟨oc32, od32, .func (PySem.W.fnOf "determinant_in" "determinant_in" (defArgs s_determinant_in) (defBody s_determinant_in) (defScope s_determinant_in) .none kV32 dc32 pm32 an32 cd32 ct32), sl32⟩)
    (c32 : PySem.W.codeIn K cd32 "determinant_in" = true)
    (k32 : PySem.W.keepIn K (.ref f32) = true)
    (n34 : PySem.W.nsIn K mainGlobals "need_table" = some (some (.ref f34)))
    (l34 : K.lookup f34 = some ⟨oc34, od34, .func (PySem.W.fnOf "need_table" "need_table" (defArgs s_need_table) (defBody s_need_table) (defScope s_need_table) .none kV34 dc34 pm34 an34 cd34 ct34), sl34⟩)
    (c34 : PySem.W.codeIn K cd34 "need_table" = true)
    (k34 : PySem.W.keepIn K (.ref f34) = true)
    (n35 : PySem.W.nsIn K mainGlobals "need_square" = some (some (.ref f35)))
    (l35 : K.lookup f35 = some ⟨oc35, od35, .func (PySem.W.fnOf "need_square" "need_square" (defArgs s_need_square) (defBody s_need_square) (defScope s_need_square) .none kV35 dc35 pm35 an35 cd35 ct35), sl35⟩)
    (c35 : PySem.W.codeIn K cd35 "need_square" = true)
    (k35 : PySem.W.keepIn K (.ref f35) = true)
    (n36 : PySem.W.nsIn K mainGlobals "need_columns" = some (some (.ref f36)))
    (l36 : K.lookup f36 = some ⟨oc36, od36, .func (PySem.W.fnOf "need_columns" "need_columns" (defArgs s_need_columns) (defBody s_need_columns) (defScope s_need_columns) .none kV36 dc36 pm36 an36 cd36 ct36), sl36⟩)
    (c36 : PySem.W.codeIn K cd36 "need_columns" = true)
    (k36 : PySem.W.keepIn K (.ref f36) = true)
    (n37 : PySem.W.nsIn K mainGlobals "transposed" = some (some (.ref f37)))
    (l37 : K.lookup f37 = some ⟨oc37, od37, .func (PySem.W.fnOf "transposed" "transposed" (defArgs s_transposed) (defBody s_transposed) (defScope s_transposed) .none kV37 dc37 pm37 an37 cd37 ct37), sl37⟩)
    (c37 : PySem.W.codeIn K cd37 "transposed" = true)
    (k37 : PySem.W.keepIn K (.ref f37) = true)
    (n38 : PySem.W.nsIn K mainGlobals "determinant" = some (some (.ref f38)))
    (l38 : K.lookup f38 = some ⟨oc38, od38, .func (PySem.W.fnOf "determinant" "determinant" (defArgs s_determinant) (defBody s_determinant) (defScope s_determinant) .none kV38 dc38 pm38 an38 cd38 ct38), sl38⟩)
    (c38 : PySem.W.codeIn K cd38 "determinant" = true)
    (k38 : PySem.W.keepIn K (.ref f38) = true)
    (n39 : PySem.W.nsIn K mainGlobals "undone" = some (some (.ref f39)))
    (l39 : K.lookup f39 = some ⟨oc39, od39, .func (PySem.W.fnOf "undone" "undone" (defArgs s_undone) (defBody s_undone) (defScope s_undone) .none kV39 dc39 pm39 an39 cd39 ct39), sl39⟩)
    (c39 : PySem.W.codeIn K cd39 "undone" = true)
    (k39 : PySem.W.keepIn K (.ref f39) = true)
    (n41 : PySem.W.nsIn K mainGlobals "_law_well" = some (some (.ref f41)))
    (l41 : K.lookup f41 = some ⟨oc41, od41, .func (PySem.W.fnOf "_law_well" "_law_well" (defArgs s__law_well) (defBody s__law_well) (defScope s__law_well) .none kV41 dc41 pm41 an41 cd41 ct41), sl41⟩)
    (c41 : PySem.W.codeIn K cd41 "_law_well" = true)
    (k41 : PySem.W.keepIn K (.ref f41) = true)
    (n42 : PySem.W.nsIn K mainGlobals "_law_draw" = some (some (.ref f42)))
    (l42 : K.lookup f42 = some ⟨oc42, od42, .func (PySem.W.fnOf "_law_draw" "_law_draw" (defArgs s__law_draw) (defBody s__law_draw) (defScope s__law_draw) .none kV42 dc42 pm42 an42 cd42 ct42), sl42⟩)
    (c42 : PySem.W.codeIn K cd42 "_law_draw" = true)
    (k42 : PySem.W.keepIn K (.ref f42) = true)
    (n43 : PySem.W.nsIn K mainGlobals "_law_cut" = some (some (.ref f43)))
    (l43 : K.lookup f43 = some ⟨oc43, od43, .func (PySem.W.fnOf "_law_cut" "_law_cut" (defArgs s__law_cut) (defBody s__law_cut) (defScope s__law_cut) .none kV43 dc43 pm43 an43 cd43 ct43), sl43⟩)
    (c43 : PySem.W.codeIn K cd43 "_law_cut" = true)
    (k43 : PySem.W.keepIn K (.ref f43) = true)
    (n44 : PySem.W.nsIn K mainGlobals "_law_num" = some (some (.ref f44)))
    (l44 : K.lookup f44 = some ⟨oc44, od44, .func (PySem.W.fnOf "_law_num" "_law_num" (defArgs s__law_num) (defBody s__law_num) (defScope s__law_num) .none kV44 dc44 pm44 an44 cd44 ct44), sl44⟩)
    (c44 : PySem.W.codeIn K cd44 "_law_num" = true)
    (k44 : PySem.W.keepIn K (.ref f44) = true)
    (n45 : PySem.W.nsIn K mainGlobals "_law_plus" = some (some (.ref f45)))
    (l45 : K.lookup f45 = some ⟨oc45, od45, .func (PySem.W.fnOf "_law_plus" "_law_plus" (defArgs s__law_plus) (defBody s__law_plus) (defScope s__law_plus) .none kV45 dc45 pm45 an45 cd45 ct45), sl45⟩)
    (c45 : PySem.W.codeIn K cd45 "_law_plus" = true)
    (k45 : PySem.W.keepIn K (.ref f45) = true)
    (n46 : PySem.W.nsIn K mainGlobals "_law_times" = some (some (.ref f46)))
    (l46 : K.lookup f46 = some ⟨oc46, od46, .func (PySem.W.fnOf "_law_times" "_law_times" (defArgs s__law_times) (defBody s__law_times) (defScope s__law_times) .none kV46 dc46 pm46 an46 cd46 ct46), sl46⟩)
    (c46 : PySem.W.codeIn K cd46 "_law_times" = true)
    (k46 : PySem.W.keepIn K (.ref f46) = true)
    (n48 : PySem.W.nsIn K mainGlobals "_law_drawn" = some (some (.ref f48)))
    (l48 : K.lookup f48 = some ⟨oc48, od48, .func (PySem.W.fnOf "_law_drawn" "_law_drawn" (defArgs s__law_drawn) (defBody s__law_drawn) (defScope s__law_drawn) .none kV48 dc48 pm48 an48 cd48 ct48), sl48⟩)
    (c48 : PySem.W.codeIn K cd48 "_law_drawn" = true)
    (k48 : PySem.W.keepIn K (.ref f48) = true)
    (n49 : PySem.W.nsIn K mainGlobals "_law_table" = some (some (.ref f49)))
    (l49 : K.lookup f49 = some ⟨oc49, od49, .func (PySem.W.fnOf "_law_table" "_law_table" (defArgs s__law_table) (defBody s__law_table) (defScope s__law_table) .none kV49 dc49 pm49 an49 cd49 ct49), sl49⟩)
    (c49 : PySem.W.codeIn K cd49 "_law_table" = true)
    (k49 : PySem.W.keepIn K (.ref f49) = true)
    (n50 : PySem.W.nsIn K mainGlobals "_law_dot" = some (some (.ref f50)))
    (l50 : K.lookup f50 = some ⟨oc50, od50, .func (PySem.W.fnOf "_law_dot" "_law_dot" (defArgs s__law_dot) (defBody s__law_dot) (defScope s__law_dot) .none kV50 dc50 pm50 an50 cd50 ct50), sl50⟩)
    (c50 : PySem.W.codeIn K cd50 "_law_dot" = true)
    (k50 : PySem.W.keepIn K (.ref f50) = true)
    (n51 : PySem.W.nsIn K mainGlobals "_law_product" = some (some (.ref f51)))
    (l51 : K.lookup f51 = some ⟨oc51, od51, .func (PySem.W.fnOf "_law_product" "_law_product" (defArgs s__law_product) (defBody s__law_product) (defScope s__law_product) .none kV51 dc51 pm51 an51 cd51 ct51), sl51⟩)
    (c51 : PySem.W.codeIn K cd51 "_law_product" = true)
    (k51 : PySem.W.keepIn K (.ref f51) = true)
    (n52 : PySem.W.nsIn K mainGlobals "_law_units" = some (some (.ref f52)))
    (l52 : K.lookup f52 = some ⟨oc52, od52, .func (PySem.W.fnOf "_law_units" "_law_units" (defArgs s__law_units) (defBody s__law_units) (defScope s__law_units) .none kV52 dc52 pm52 an52 cd52 ct52), sl52⟩)
    (c52 : PySem.W.codeIn K cd52 "_law_units" = true)
    (k52 : PySem.W.keepIn K (.ref f52) = true)
    (n53 : PySem.W.nsIn K mainGlobals "_law_orders" = some (some (.ref f53)))
    (l53 : K.lookup f53 = some ⟨oc53, od53, .func (PySem.W.fnOf "_law_orders" "_law_orders" (defArgs s__law_orders) (defBody s__law_orders) (defScope s__law_orders) .none kV53 dc53 pm53 an53 cd53 ct53), sl53⟩)
    (c53 : PySem.W.codeIn K cd53 "_law_orders" = true)
    (k53 : PySem.W.keepIn K (.ref f53) = true)
    (n54 : PySem.W.nsIn K mainGlobals "_law_determinant" = some (some (.ref f54)))
    (l54 : K.lookup f54 = some ⟨oc54, od54, .func (PySem.W.fnOf "_law_determinant" "_law_determinant" (defArgs s__law_determinant) (defBody s__law_determinant) (defScope s__law_determinant) .none kV54 dc54 pm54 an54 cd54 ct54), sl54⟩)
    (c54 : PySem.W.codeIn K cd54 "_law_determinant" = true)
    (k54 : PySem.W.keepIn K (.ref f54) = true)
    (n55 : PySem.W.nsIn K mainGlobals "_law_square" = some (some (.ref f55)))
    (l55 : K.lookup f55 = some ⟨oc55, od55, .func (PySem.W.fnOf "_law_square" "_law_square" (defArgs s__law_square) (defBody s__law_square) (defScope s__law_square) .none kV55 dc55 pm55 an55 cd55 ct55), sl55⟩)
    (c55 : PySem.W.codeIn K cd55 "_law_square" = true)
    (k55 : PySem.W.keepIn K (.ref f55) = true)
    (n56 : PySem.W.nsIn K mainGlobals "_law_told" = some (some (.ref f56)))
    (l56 : K.lookup f56 = some ⟨oc56, od56, .func (PySem.W.fnOf "_law_told" "_law_told" (defArgs s__law_told) (defBody s__law_told) (defScope s__law_told) .none kV56 dc56 pm56 an56 cd56 ct56), sl56⟩)
    (c56 : PySem.W.codeIn K cd56 "_law_told" = true)
    (k56 : PySem.W.keepIn K (.ref f56) = true)
    (n57 : PySem.W.nsIn K mainGlobals "_law_right" = some (some (.ref f57)))
    (l57 : K.lookup f57 = some ⟨oc57, od57, .func (PySem.W.fnOf "_law_right" "_law_right" (defArgs s__law_right) (defBody s__law_right) (defScope s__law_right) .none kV57 dc57 pm57 an57 cd57 ct57), sl57⟩)
    (c57 : PySem.W.codeIn K cd57 "_law_right" = true)
    (k57 : PySem.W.keepIn K (.ref f57) = true)
    (n58 : PySem.W.nsIn K mainGlobals "law" = some (some (.ref f58)))
    (l58 : K.lookup f58 = some ⟨oc58, od58, .func (PySem.W.fnOf "law" "law" (defArgs s_law) (defBody s_law) (defScope s_law) .none kV58 dc58 pm58 an58 cd58 ct58), sl58⟩)
    (c58 : PySem.W.codeIn K cd58 "law" = true)
    (k58 : PySem.W.keepIn K (.ref f58) = true)
    (z_abs : PySem.W.nsIn K mainGlobals "abs" = some none)
    (z_all : PySem.W.nsIn K mainGlobals "all" = some none)
    (z_bool : PySem.W.nsIn K mainGlobals "bool" = some none)
    (z_gcd : PySem.W.nsIn K mainGlobals "gcd" = some (some (.builtin "math.gcd")))
    (z_int : PySem.W.nsIn K mainGlobals "int" = some none)
    (z_isinstance : PySem.W.nsIn K mainGlobals "isinstance" = some none)
    (z_len : PySem.W.nsIn K mainGlobals "len" = some none)
    (z_list : PySem.W.nsIn K mainGlobals "list" = some none)
    (z_max : PySem.W.nsIn K mainGlobals "max" = some none)
    (z_min : PySem.W.nsIn K mainGlobals "min" = some none)
    (z_range : PySem.W.nsIn K mainGlobals "range" = some none)
    (z_repr : PySem.W.nsIn K mainGlobals "repr" = some none)
    (z_tuple : PySem.W.nsIn K mainGlobals "tuple" = some none)
    (z_zip : PySem.W.nsIn K mainGlobals "zip" = some none)
    (g_PRIMES : PySem.W.nsIn K mainGlobals "PRIMES" = some (some (.ref gPRIMES)))
    (gl_PRIMES : K.lookup gPRIMES = some ⟨.type "tuple", dd_PRIMES, .seq its_PRIMES nn_PRIMES, sl_PRIMES⟩)
    (gv_PRIMES : Vals [V.int 0, V.int 2, V.int 3, V.int 5, V.int 7, V.int 11, V.int 13] its_PRIMES.toList)
    (gs_PRIMES : its_PRIMES.size ≤ sizeLine)
    (nD : PySem.W.nsIn K mainGlobals "WebsError" = some (some (.ref eD)))
    (eN0 : PySem.W.nsIn K mainGlobals "InvalidNumber" = some (some (.ref C0)))
    (eN1 : PySem.W.nsIn K mainGlobals "InvalidPrime" = some (some (.ref C1)))
    (eN2 : PySem.W.nsIn K mainGlobals "InvalidTable" = some (some (.ref C2)))
    (iC0 : PySem.W.findIn K (.ref C0) "__init__" = some (some (.ref eI)))
    (eFn : K.lookup eI = some ⟨oce, ode, .func (PySem.W.ksFn "__init__" "WebsError.__init__" (iA ⟨5, 17, 5, 21⟩ ⟨5, 23, 5, 28⟩) (iB ⟨6, 8, 6, 13⟩ ⟨6, 8, 6, 15⟩ ⟨6, 8, 6, 24⟩ ⟨6, 25, 6, 36⟩ ⟨6, 8, 6, 37⟩ ⟨6, 8, 6, 37⟩ ⟨7, 8, 7, 12⟩ ⟨7, 8, 7, 18⟩ ⟨7, 21, 7, 26⟩ ⟨7, 8, 7, 26⟩) iS .none kVe doce pme ane (.ref cda) cte cc), osle⟩)
    (eCd : PySem.W.codeIn K (.ref cda) "WebsError.__init__" = true)
    (eCl : K.lookup cda = some ⟨ccl, cdd, .fields vse, ccs⟩)
    (eFi : vse[2]? = some (.str file tf))
    (eFf : ((P.main.file : Str) == file) = true)
    (eCc : K.lookup cc = some ⟨cle, cld, .cell (some (.ref eD)), csl⟩)
    (eClD : (PySem.W.clsIn K eD).isSome = true)
    (eSup : PySem.W.nsIn K mainGlobals "super" = some none)
    (eTop : (P.main.scope.names.lookup ("super" : Str)).isSome = false)
    (eAny : PySem.W.nsIn K PySem.cStatics "thirdparty.any" = some none)
    (eTI : PySem.W.typeIn K (.ref eI) = some (.type "function"))
    (hn : PySem.W.specialIn K (.builtin "object.__class__") "__get__" = some (some (.builtin "getset_descriptor.__get__")))
    (ht : PySem.W.takesIn K (.builtin "object.__class__") = some true)
    (xL0 : K.lookup C0 = some (excClassObj nm0 q0 C0 N0 bs0 [.ref eD, .type "ValueError", .type "Exception", .type "BaseException", .type "object"] true sn0 sub0 ab0 col0 dd0 u00 u10 u20 u30 u50 "ValueError.__new__"))
    (sa0 : PySem.W.findIn K (.ref C0) "__setattr__" = some (some (.builtin "object.__setattr__")))
    (ga0 : PySem.W.findIn K (.ref C0) "__getattribute__" = some (some (.builtin "BaseException.__getattribute__")))
    (gg0 : PySem.W.findIn K (.ref C0) "__getattr__" = some none)
    (nv0 : PySem.W.findIn K (.ref C0) "value" = some none)
    (kC0 : PySem.W.keepIn K (.ref C0) = true)
    (eX0 : PySem.W.subIn K (.ref C0) (.type "BaseException") = some true)
    (eV0 : PySem.W.subIn K (.ref C0) (.type "ValueError") = some true)
    (tC0 : PySem.W.typeIn K (.ref C0) = some (.type "type"))
    (hD0 : PySem.W.hasDictIn K C0 = true)
    (mD0 : PySem.W.mroIn K C0 (.ref eD) = some true)
    (sp0 : PySem.W.ks_superIn K C0 eD "__init__" = some (some (.builtin "ValueError.__init__")))
    (hc0 : (PySem.W.clsIn K C0).isSome = true)
    (ha0 : PySem.W.findIn K (.ref C0) "__class__" = some (some (.builtin "object.__class__")))
    (hm0 : PySem.W.mroIn K C0 (.type "object") = some true)
    (xm0 : PySem.W.exmOne K (.ref C0) (.ref eD) = some true)
    (kn0 : PySem.W.kitOne K (.type "NoneType") (.ref C0) = some false)
    (kl0x0 : PySem.W.kitOne K (.ref C0) (.ref C0) = some true)
    (kl1x0 : PySem.W.kitOne K (.ref C1) (.ref C0) = some false)
    (kl2x0 : PySem.W.kitOne K (.ref C2) (.ref C0) = some false)
    (iC1 : PySem.W.findIn K (.ref C1) "__init__" = some (some (.ref eI)))
    (xL1 : K.lookup C1 = some (excClassObj nm1 q1 C1 N1 bs1 [.ref eD, .type "ValueError", .type "Exception", .type "BaseException", .type "object"] true sn1 sub1 ab1 col1 dd1 u01 u11 u21 u31 u51 "ValueError.__new__"))
    (sa1 : PySem.W.findIn K (.ref C1) "__setattr__" = some (some (.builtin "object.__setattr__")))
    (ga1 : PySem.W.findIn K (.ref C1) "__getattribute__" = some (some (.builtin "BaseException.__getattribute__")))
    (gg1 : PySem.W.findIn K (.ref C1) "__getattr__" = some none)
    (nv1 : PySem.W.findIn K (.ref C1) "value" = some none)
    (kC1 : PySem.W.keepIn K (.ref C1) = true)
    (eX1 : PySem.W.subIn K (.ref C1) (.type "BaseException") = some true)
    (eV1 : PySem.W.subIn K (.ref C1) (.type "ValueError") = some true)
    (tC1 : PySem.W.typeIn K (.ref C1) = some (.type "type"))
    (hD1 : PySem.W.hasDictIn K C1 = true)
    (mD1 : PySem.W.mroIn K C1 (.ref eD) = some true)
    (sp1 : PySem.W.ks_superIn K C1 eD "__init__" = some (some (.builtin "ValueError.__init__")))
    (hc1 : (PySem.W.clsIn K C1).isSome = true)
    (ha1 : PySem.W.findIn K (.ref C1) "__class__" = some (some (.builtin "object.__class__")))
    (hm1 : PySem.W.mroIn K C1 (.type "object") = some true)
    (xm1 : PySem.W.exmOne K (.ref C1) (.ref eD) = some true)
    (kn1 : PySem.W.kitOne K (.type "NoneType") (.ref C1) = some false)
    (kl0x1 : PySem.W.kitOne K (.ref C0) (.ref C1) = some false)
    (kl1x1 : PySem.W.kitOne K (.ref C1) (.ref C1) = some true)
    (kl2x1 : PySem.W.kitOne K (.ref C2) (.ref C1) = some false)
    (iC2 : PySem.W.findIn K (.ref C2) "__init__" = some (some (.ref eI)))
    (xL2 : K.lookup C2 = some (excClassObj nm2 q2 C2 N2 bs2 [.ref eD, .type "ValueError", .type "Exception", .type "BaseException", .type "object"] true sn2 sub2 ab2 col2 dd2 u02 u12 u22 u32 u52 "ValueError.__new__"))
    (sa2 : PySem.W.findIn K (.ref C2) "__setattr__" = some (some (.builtin "object.__setattr__")))
    (ga2 : PySem.W.findIn K (.ref C2) "__getattribute__" = some (some (.builtin "BaseException.__getattribute__")))
    (gg2 : PySem.W.findIn K (.ref C2) "__getattr__" = some none)
    (nv2 : PySem.W.findIn K (.ref C2) "value" = some none)
    (kC2 : PySem.W.keepIn K (.ref C2) = true)
    (eX2 : PySem.W.subIn K (.ref C2) (.type "BaseException") = some true)
    (eV2 : PySem.W.subIn K (.ref C2) (.type "ValueError") = some true)
    (tC2 : PySem.W.typeIn K (.ref C2) = some (.type "type"))
    (hD2 : PySem.W.hasDictIn K C2 = true)
    (mD2 : PySem.W.mroIn K C2 (.ref eD) = some true)
    (sp2 : PySem.W.ks_superIn K C2 eD "__init__" = some (some (.builtin "ValueError.__init__")))
    (hc2 : (PySem.W.clsIn K C2).isSome = true)
    (ha2 : PySem.W.findIn K (.ref C2) "__class__" = some (some (.builtin "object.__class__")))
    (hm2 : PySem.W.mroIn K C2 (.type "object") = some true)
    (xm2 : PySem.W.exmOne K (.ref C2) (.ref eD) = some true)
    (kn2 : PySem.W.kitOne K (.type "NoneType") (.ref C2) = some false)
    (kl0x2 : PySem.W.kitOne K (.ref C0) (.ref C2) = some false)
    (kl1x2 : PySem.W.kitOne K (.ref C1) (.ref C2) = some false)
    (kl2x2 : PySem.W.kitOne K (.ref C2) (.ref C2) = some true) :
    ∃ (fd : FuncData) (CT : Nat → Addr), (∀ (s : Shared) (u : Value), BindsTo s fd ⟨[u], []⟩ [("script", u)]) ∧ ∀ base : Heap, K.In base → base.Ns mainGlobals mg → FnG P w K mg base 17 fa fd ["script"] (spD K CT 0 m_law) := by
  have e := hfa.symm.trans (PySem.W.mg_of kin G n58)
  cases e
  let CT : Nat → Addr := fun c => match c with | 0 => C0 | 1 => C1 | 2 => C2 | _ + 3 => C0
  have ec0 : ErrCls K eD eI C0 := ⟨⟨nm0, q0, N0, bs0, _, sn0, sub0, ab0, col0, dd0, u00, u10, u20, u30, u50, xL0, by rfl⟩, sa0, ga0, gg0, nv0, iC0, kC0, eX0, eV0, tC0, hD0, mD0, sp0⟩
  have ic0 : IsC K C0 := ⟨hc0, ga0, gg0, eX0, ha0, hn, ht, hm0⟩
  have ec1 : ErrCls K eD eI C1 := ⟨⟨nm1, q1, N1, bs1, _, sn1, sub1, ab1, col1, dd1, u01, u11, u21, u31, u51, xL1, by rfl⟩, sa1, ga1, gg1, nv1, iC1, kC1, eX1, eV1, tC1, hD1, mD1, sp1⟩
  have ic1 : IsC K C1 := ⟨hc1, ga1, gg1, eX1, ha1, hn, ht, hm1⟩
  have ec2 : ErrCls K eD eI C2 := ⟨⟨nm2, q2, N2, bs2, _, sn2, sub2, ab2, col2, dd2, u02, u12, u22, u32, u52, xL2, by rfl⟩, sa2, ga2, gg2, nv2, iC2, kC2, eX2, eV2, tC2, hD2, mD2, sp2⟩
  have ic2 : IsC K C2 := ⟨hc2, ga2, gg2, eX2, ha2, hn, ht, hm2⟩
  have EB : ErrBase P K mg eD eI := ⟨⟨oce, ode, doce, pme, ane, cte, kVe, osle, ⟨5, 17, 5, 21⟩, ⟨5, 23, 5, 28⟩, ⟨6, 8, 6, 13⟩, ⟨6, 8, 6, 15⟩, ⟨6, 8, 6, 24⟩, ⟨6, 25, 6, 36⟩, ⟨6, 8, 6, 37⟩, ⟨6, 8, 6, 37⟩, ⟨7, 8, 7, 12⟩, ⟨7, 8, 7, 18⟩, ⟨7, 21, 7, 26⟩, ⟨7, 8, 7, 26⟩, cda, cc, ccl, cdd, vse, ccs, file, tf, cle, cld, csl, eFn, eCd, eCl, eFi, eFf, eCc, by rfl⟩, eClD, eSup, PySem.W.mg_none_of kin G eSup, eTop, eAny, eTI⟩
  have F7 := fun_mk (st := s_is_integer) l7 c7 k7
  have b7 := F7.binds (ps := ["value"]) fun _ _ _ _ _ _ us hl => match us, hl with | [_], _ => rfl
  have F8 := fun_mk (st := s_is_tuple) l8 c8 k8
  have b8 := F8.binds (ps := ["value", "low", "high"]) fun _ _ _ _ _ _ us hl => match us, hl with | [_, _, _], _ => rfl
  have F9 := fun_mk (st := s_anew) l9 c9 k9
  have b9 := F9.binds (ps := ["value"]) fun _ _ _ _ _ _ us hl => match us, hl with | [_], _ => rfl
  have F12 := fun_mk (st := s_is_prime_in) l12 c12 k12
  have b12 := F12.binds (ps := ["value"]) fun _ _ _ _ _ _ us hl => match us, hl with | [_], _ => rfl
  have F13 := fun_mk (st := s_is_scalar_in) l13 c13 k13
  have b13 := F13.binds (ps := ["prime", "value"]) fun _ _ _ _ _ _ us hl => match us, hl with | [_, _], _ => rfl
  have F14 := fun_mk (st := s_fraction_in) l14 c14 k14
  have b14 := F14.binds (ps := ["above", "below"]) fun _ _ _ _ _ _ us hl => match us, hl with | [_, _], _ => rfl
  have F15 := fun_mk (st := s_scalar_in) l15 c15 k15
  have b15 := F15.binds (ps := ["prime", "k"]) fun _ _ _ _ _ _ us hl => match us, hl with | [_, _], _ => rfl
  have F16 := fun_mk (st := s_plus_in) l16 c16 k16
  have b16 := F16.binds (ps := ["prime", "one", "other"]) fun _ _ _ _ _ _ us hl => match us, hl with | [_, _, _], _ => rfl
  have F17 := fun_mk (st := s_times_in) l17 c17 k17
  have b17 := F17.binds (ps := ["prime", "one", "other"]) fun _ _ _ _ _ _ us hl => match us, hl with | [_, _, _], _ => rfl
  have F18 := fun_mk (st := s_negative_in) l18 c18 k18
  have b18 := F18.binds (ps := ["prime", "scalar"]) fun _ _ _ _ _ _ us hl => match us, hl with | [_, _], _ => rfl
  have F19 := fun_mk (st := s_inverse_in) l19 c19 k19
  have b19 := F19.binds (ps := ["prime", "scalar"]) fun _ _ _ _ _ _ us hl => match us, hl with | [_, _], _ => rfl
  have F20 := fun_mk (st := s_multiple_in) l20 c20 k20
  have b20 := F20.binds (ps := ["prime", "scalar", "row"]) fun _ _ _ _ _ _ us hl => match us, hl with | [_, _, _], _ => rfl
  have F21 := fun_mk (st := s_less_in) l21 c21 k21
  have b21 := F21.binds (ps := ["prime", "row", "scalar", "other"]) fun _ _ _ _ _ _ us hl => match us, hl with | [_, _, _, _], _ => rfl
  have F23 := fun_mk (st := s_need_prime) l23 c23 k23
  have b23 := F23.binds (ps := ["prime"]) fun _ _ _ _ _ _ us hl => match us, hl with | [_], _ => rfl
  have F25 := fun_mk (st := s_is_vector_in) l25 c25 k25
  have b25 := F25.binds (ps := ["prime", "size", "value"]) fun _ _ _ _ _ _ us hl => match us, hl with | [_, _, _], _ => rfl
  have F26 := fun_mk (st := s_is_table_in) l26 c26 k26
  have b26 := F26.binds (ps := ["prime", "rows", "columns", "value"]) fun _ _ _ _ _ _ us hl => match us, hl with | [_, _, _, _], _ => rfl
  have F27 := fun_mk (st := s_is_some_table) l27 c27 k27
  have b27 := F27.binds (ps := ["prime", "value"]) fun _ _ _ _ _ _ us hl => match us, hl with | [_, _], _ => rfl
  have F28 := fun_mk (st := s_units_in) l28 c28 k28
  have b28 := F28.binds (ps := ["prime", "size"]) fun _ _ _ _ _ _ us hl => match us, hl with | [_, _], _ => rfl
  have F29 := fun_mk (st := s_transposed_in) l29 c29 k29
  have b29 := F29.binds (ps := ["table", "columns"]) fun _ _ _ _ _ _ us hl => match us, hl with | [_, _], _ => rfl
  have F30 := fun_mk (st := s_reduced_in) l30 c30 k30
  have b30 := F30.binds (ps := ["prime", "table"]) fun _ _ _ _ _ _ us hl => match us, hl with | [_, _], _ => rfl
  have F31 := fun_mk (st := s_undone_in) l31 c31 k31
  have b31 := F31.binds (ps := ["prime", "table"]) fun _ _ _ _ _ _ us hl => match us, hl with | [_, _], _ => rfl
  have F32 := fun_mk (st := s_determinant_in) l32 c32 k32
  have b32 := F32.binds (ps := ["prime", "table"]) fun _ _ _ _ _ _ us hl => match us, hl with | [_, _], _ => rfl
  have F34 := fun_mk (st := s_need_table) l34 c34 k34
  have b34 := F34.binds (ps := ["prime", "table"]) fun _ _ _ _ _ _ us hl => match us, hl with | [_, _], _ => rfl
  have F35 := fun_mk (st := s_need_square) l35 c35 k35
  have b35 := F35.binds (ps := ["prime", "table"]) fun _ _ _ _ _ _ us hl => match us, hl with | [_, _], _ => rfl
  have F36 := fun_mk (st := s_need_columns) l36 c36 k36
  have b36 := F36.binds (ps := ["prime", "table", "columns"]) fun _ _ _ _ _ _ us hl => match us, hl with | [_, _, _], _ => rfl
  have F37 := fun_mk (st := s_transposed) l37 c37 k37
  have b37 := F37.binds (ps := ["prime", "table", "columns"]) fun _ _ _ _ _ _ us hl => match us, hl with | [_, _, _], _ => rfl
  have F38 := fun_mk (st := s_determinant) l38 c38 k38
  have b38 := F38.binds (ps := ["prime", "table"]) fun _ _ _ _ _ _ us hl => match us, hl with | [_, _], _ => rfl
  have F39 := fun_mk (st := s_undone) l39 c39 k39
  have b39 := F39.binds (ps := ["prime", "table"]) fun _ _ _ _ _ _ us hl => match us, hl with | [_, _], _ => rfl
  have F41 := fun_mk (st := s__law_well) l41 c41 k41
  have b41 := F41.binds (ps := ["script", "k"]) fun _ _ _ _ _ _ us hl => match us, hl with | [_, _], _ => rfl
  have F42 := fun_mk (st := s__law_draw) l42 c42 k42
  have b42 := F42.binds (ps := ["well", "many"]) fun _ _ _ _ _ _ us hl => match us, hl with | [_, _], _ => rfl
  have F43 := fun_mk (st := s__law_cut) l43 c43 k43
  have b43 := F43.binds (ps := ["above", "below"]) fun _ _ _ _ _ _ us hl => match us, hl with | [_, _], _ => rfl
  have F44 := fun_mk (st := s__law_num) l44 c44 k44
  have b44 := F44.binds (ps := ["p", "k"]) fun _ _ _ _ _ _ us hl => match us, hl with | [_, _], _ => rfl
  have F45 := fun_mk (st := s__law_plus) l45 c45 k45
  have b45 := F45.binds (ps := ["p", "one", "other"]) fun _ _ _ _ _ _ us hl => match us, hl with | [_, _, _], _ => rfl
  have F46 := fun_mk (st := s__law_times) l46 c46 k46
  have b46 := F46.binds (ps := ["p", "one", "other"]) fun _ _ _ _ _ _ us hl => match us, hl with | [_, _, _], _ => rfl
  have F48 := fun_mk (st := s__law_drawn) l48 c48 k48
  have b48 := F48.binds (ps := ["well", "p"]) fun _ _ _ _ _ _ us hl => match us, hl with | [_, _], _ => rfl
  have F49 := fun_mk (st := s__law_table) l49 c49 k49
  have b49 := F49.binds (ps := ["well", "p", "rows", "columns"]) fun _ _ _ _ _ _ us hl => match us, hl with | [_, _, _, _], _ => rfl
  have F50 := fun_mk (st := s__law_dot) l50 c50 k50
  have b50 := F50.binds (ps := ["p", "one", "other"]) fun _ _ _ _ _ _ us hl => match us, hl with | [_, _, _], _ => rfl
  have F51 := fun_mk (st := s__law_product) l51 c51 k51
  have b51 := F51.binds (ps := ["p", "one", "other", "columns"]) fun _ _ _ _ _ _ us hl => match us, hl with | [_, _, _, _], _ => rfl
  have F52 := fun_mk (st := s__law_units) l52 c52 k52
  have b52 := F52.binds (ps := ["p", "size"]) fun _ _ _ _ _ _ us hl => match us, hl with | [_, _], _ => rfl
  have F53 := fun_mk (st := s__law_orders) l53 c53 k53
  have b53 := F53.binds (ps := ["many"]) fun _ _ _ _ _ _ us hl => match us, hl with | [_], _ => rfl
  have F54 := fun_mk (st := s__law_determinant) l54 c54 k54
  have b54 := F54.binds (ps := ["p", "table"]) fun _ _ _ _ _ _ us hl => match us, hl with | [_, _], _ => rfl
  have F55 := fun_mk (st := s__law_square) l55 c55 k55
  have b55 := F55.binds (ps := ["well", "p"]) fun _ _ _ _ _ _ us hl => match us, hl with | [_, _], _ => rfl
  have F56 := fun_mk (st := s__law_told) l56 c56 k56
  have b56 := F56.binds (ps := ["way", "p", "table"]) fun _ _ _ _ _ _ us hl => match us, hl with | [_, _, _], _ => rfl
  have F57 := fun_mk (st := s__law_right) l57 c57 k57
  have b57 := F57.binds (ps := ["well"]) fun _ _ _ _ _ _ us hl => match us, hl with | [_], _ => rfl
  have F58 := fun_mk (st := s_law) l58 c58 k58
  have b58 := F58.binds (ps := ["script"]) fun _ _ _ _ _ _ us hl => match us, hl with | [_], _ => rfl
  let X : Fx P K mg :=
    { a_is_integer := _, fd_is_integer := _, F_is_integer := F7, M_is_integer := PySem.W.mg_of kin G n7, B_is_integer := b7,
      a_is_tuple := _, fd_is_tuple := _, F_is_tuple := F8, M_is_tuple := PySem.W.mg_of kin G n8, B_is_tuple := b8,
      a_anew := _, fd_anew := _, F_anew := F9, M_anew := PySem.W.mg_of kin G n9, B_anew := b9,
      a_is_prime_in := _, fd_is_prime_in := _, F_is_prime_in := F12, M_is_prime_in := PySem.W.mg_of kin G n12, B_is_prime_in := b12,
      a_is_scalar_in := _, fd_is_scalar_in := _, F_is_scalar_in := F13, M_is_scalar_in := PySem.W.mg_of kin G n13, B_is_scalar_in := b13,
      a_fraction_in := _, fd_fraction_in := _, F_fraction_in := F14, M_fraction_in := PySem.W.mg_of kin G n14, B_fraction_in := b14,
      a_scalar_in := _, fd_scalar_in := _, F_scalar_in := F15, M_scalar_in := PySem.W.mg_of kin G n15, B_scalar_in := b15,
      a_plus_in := _, fd_plus_in := _, F_plus_in := F16, M_plus_in := PySem.W.mg_of kin G n16, B_plus_in := b16,
      a_times_in := _, fd_times_in := _, F_times_in := F17, M_times_in := PySem.W.mg_of kin G n17, B_times_in := b17,
      a_negative_in := _, fd_negative_in := _, F_negative_in := F18, M_negative_in := PySem.W.mg_of kin G n18, B_negative_in := b18,
      a_inverse_in := _, fd_inverse_in := _, F_inverse_in := F19, M_inverse_in := PySem.W.mg_of kin G n19, B_inverse_in := b19,
      a_multiple_in := _, fd_multiple_in := _, F_multiple_in := F20, M_multiple_in := PySem.W.mg_of kin G n20, B_multiple_in := b20,
      a_less_in := _, fd_less_in := _, F_less_in := F21, M_less_in := PySem.W.mg_of kin G n21, B_less_in := b21,
      a_need_prime := _, fd_need_prime := _, F_need_prime := F23, M_need_prime := PySem.W.mg_of kin G n23, B_need_prime := b23,
      a_is_vector_in := _, fd_is_vector_in := _, F_is_vector_in := F25, M_is_vector_in := PySem.W.mg_of kin G n25, B_is_vector_in := b25,
      a_is_table_in := _, fd_is_table_in := _, F_is_table_in := F26, M_is_table_in := PySem.W.mg_of kin G n26, B_is_table_in := b26,
      a_is_some_table := _, fd_is_some_table := _, F_is_some_table := F27, M_is_some_table := PySem.W.mg_of kin G n27, B_is_some_table := b27,
      a_units_in := _, fd_units_in := _, F_units_in := F28, M_units_in := PySem.W.mg_of kin G n28, B_units_in := b28,
      a_transposed_in := _, fd_transposed_in := _, F_transposed_in := F29, M_transposed_in := PySem.W.mg_of kin G n29, B_transposed_in := b29,
      a_reduced_in := _, fd_reduced_in := _, F_reduced_in := F30, M_reduced_in := PySem.W.mg_of kin G n30, B_reduced_in := b30,
      a_undone_in := _, fd_undone_in := _, F_undone_in := F31, M_undone_in := PySem.W.mg_of kin G n31, B_undone_in := b31,
      a_determinant_in := _, fd_determinant_in := _, F_determinant_in := F32, M_determinant_in := PySem.W.mg_of kin G n32, B_determinant_in := b32,
      a_need_table := _, fd_need_table := _, F_need_table := F34, M_need_table := PySem.W.mg_of kin G n34, B_need_table := b34,
      a_need_square := _, fd_need_square := _, F_need_square := F35, M_need_square := PySem.W.mg_of kin G n35, B_need_square := b35,
      a_need_columns := _, fd_need_columns := _, F_need_columns := F36, M_need_columns := PySem.W.mg_of kin G n36, B_need_columns := b36,
      a_transposed := _, fd_transposed := _, F_transposed := F37, M_transposed := PySem.W.mg_of kin G n37, B_transposed := b37,
      a_determinant := _, fd_determinant := _, F_determinant := F38, M_determinant := PySem.W.mg_of kin G n38, B_determinant := b38,
      a_undone := _, fd_undone := _, F_undone := F39, M_undone := PySem.W.mg_of kin G n39, B_undone := b39,
      a__law_well := _, fd__law_well := _, F__law_well := F41, M__law_well := PySem.W.mg_of kin G n41, B__law_well := b41,
      a__law_draw := _, fd__law_draw := _, F__law_draw := F42, M__law_draw := PySem.W.mg_of kin G n42, B__law_draw := b42,
      a__law_cut := _, fd__law_cut := _, F__law_cut := F43, M__law_cut := PySem.W.mg_of kin G n43, B__law_cut := b43,
      a__law_num := _, fd__law_num := _, F__law_num := F44, M__law_num := PySem.W.mg_of kin G n44, B__law_num := b44,
      a__law_plus := _, fd__law_plus := _, F__law_plus := F45, M__law_plus := PySem.W.mg_of kin G n45, B__law_plus := b45,
      a__law_times := _, fd__law_times := _, F__law_times := F46, M__law_times := PySem.W.mg_of kin G n46, B__law_times := b46,
      a__law_drawn := _, fd__law_drawn := _, F__law_drawn := F48, M__law_drawn := PySem.W.mg_of kin G n48, B__law_drawn := b48,
      a__law_table := _, fd__law_table := _, F__law_table := F49, M__law_table := PySem.W.mg_of kin G n49, B__law_table := b49,
      a__law_dot := _, fd__law_dot := _, F__law_dot := F50, M__law_dot := PySem.W.mg_of kin G n50, B__law_dot := b50,
      a__law_product := _, fd__law_product := _, F__law_product := F51, M__law_product := PySem.W.mg_of kin G n51, B__law_product := b51,
      a__law_units := _, fd__law_units := _, F__law_units := F52, M__law_units := PySem.W.mg_of kin G n52, B__law_units := b52,
      a__law_orders := _, fd__law_orders := _, F__law_orders := F53, M__law_orders := PySem.W.mg_of kin G n53, B__law_orders := b53,
      a__law_determinant := _, fd__law_determinant := _, F__law_determinant := F54, M__law_determinant := PySem.W.mg_of kin G n54, B__law_determinant := b54,
      a__law_square := _, fd__law_square := _, F__law_square := F55, M__law_square := PySem.W.mg_of kin G n55, B__law_square := b55,
      a__law_told := _, fd__law_told := _, F__law_told := F56, M__law_told := PySem.W.mg_of kin G n56, B__law_told := b56,
      a__law_right := _, fd__law_right := _, F__law_right := F57, M__law_right := PySem.W.mg_of kin G n57, B__law_right := b57,
      a_law := _, fd_law := _, F_law := F58, M_law := PySem.W.mg_of kin G n58, B_law := b58,
      K_undone_10 := ⟨fun s us ws _ hl => by
        obtain ⟨rfl, a, b, rfl⟩ := pl_10 us ws hl
        exact .of_eq rfl, fun r z => pv_10 r z⟩,
      K_determinant_10 := ⟨fun s us ws _ hl => by
        obtain ⟨rfl, a, b, rfl⟩ := pl_10 us ws hl
        exact .of_eq rfl, fun r z => pv_10 r z⟩,
      m_abs := PySem.W.mg_none_of kin G z_abs,
      m_all := PySem.W.mg_none_of kin G z_all,
      m_bool := PySem.W.mg_none_of kin G z_bool,
      m_gcd := PySem.W.mg_of kin G z_gcd,
      m_int := PySem.W.mg_none_of kin G z_int,
      m_isinstance := PySem.W.mg_none_of kin G z_isinstance,
      m_len := PySem.W.mg_none_of kin G z_len,
      m_list := PySem.W.mg_none_of kin G z_list,
      m_max := PySem.W.mg_none_of kin G z_max,
      m_min := PySem.W.mg_none_of kin G z_min,
      m_range := PySem.W.mg_none_of kin G z_range,
      m_repr := PySem.W.mg_none_of kin G z_repr,
      m_tuple := PySem.W.mg_none_of kin G z_tuple,
      m_zip := PySem.W.mg_none_of kin G z_zip,
      a_PRIMES := gPRIMES, u_PRIMES := _, M_PRIMES := PySem.W.mg_of kin G g_PRIMES, R_PRIMES := rfl, Q_PRIMES := fun S => .tup (.inr ⟨_, _, _, gl_PRIMES, rfl, rfl, gs_PRIMES, gv_PRIMES⟩) (.cons (.int _) (.cons (.int _) (.cons (.int _) (.cons (.int _) (.cons (.int _) (.cons (.int _) (.cons (.int _) .nil))))))),
      aD := eD, fI := eI, EB := EB, CT := CT, EC := (fun c => match c with | 0 => ec0 | 1 => ec1 | 2 => ec2 | _ + 3 => ec0), IC := (fun c => match c with | 0 => ic0 | 1 => ic1 | 2 => ic2 | _ + 3 => ic0), M_WebsError := PySem.W.mg_of kin G nD, XM := (fun c => match c with | 0 => xm0 | 1 => xm1 | 2 => xm2 | _ + 3 => xm0),
      ME_InvalidNumber := PySem.W.mg_of kin G eN0, KN_InvalidNumber := kn0, KL_InvalidNumber := (fun c => match c with | 0 => kl0x0 | 1 => kl1x0 | 2 => kl2x0 | _ + 3 => kl0x0),
      ME_InvalidPrime := PySem.W.mg_of kin G eN1, KN_InvalidPrime := kn1, KL_InvalidPrime := (fun c => match c with | 0 => kl0x1 | 1 => kl1x1 | 2 => kl2x1 | _ + 3 => kl0x1),
      ME_InvalidTable := PySem.W.mg_of kin G eN2, KN_InvalidTable := kn2, KL_InvalidTable := (fun c => match c with | 0 => kl0x2 | 1 => kl1x2 | 2 => kl2x2 | _ + 3 => kl0x2) }
  refine ⟨PySem.W.fnOf "law" "law" (defArgs s_law) (defBody s_law) (defScope s_law) .none kV58 dc58 pm58 an58 cd58 ct58, CT, fun s u => .of_eq rfl, fun base _ _ => ?_⟩
  have D_is_integer := d_is_integer (w := w) (base := base) X 
  have D_is_tuple := d_is_tuple (w := w) (base := base) X 
  have D_anew := all_anew (w := w) (base := base) X 10
  have D_is_prime_in := d_is_prime_in (w := w) (base := base) X D_is_integer
  have D_is_scalar_in := d_is_scalar_in (w := w) (base := base) X D_is_integer D_is_tuple
  have D_fraction_in := d_fraction_in (w := w) (base := base) X 
  have D_scalar_in := d_scalar_in (w := w) (base := base) X 
  have D_plus_in := d_plus_in (w := w) (base := base) X D_fraction_in
  have D_times_in := d_times_in (w := w) (base := base) X D_fraction_in
  have D_negative_in := d_negative_in (w := w) (base := base) X 
  have D_inverse_in := d_inverse_in (w := w) (base := base) X D_fraction_in
  have D_multiple_in := d_multiple_in (w := w) (base := base) X D_times_in
  have D_less_in := d_less_in (w := w) (base := base) X D_negative_in D_plus_in D_times_in
  have D_need_prime := d_need_prime (w := w) (base := base) X D_is_prime_in D_anew
  have D_is_vector_in := d_is_vector_in (w := w) (base := base) X D_is_tuple D_is_scalar_in
  have D_is_table_in := d_is_table_in (w := w) (base := base) X D_is_tuple D_is_vector_in
  have D_is_some_table := d_is_some_table (w := w) (base := base) X D_is_table_in D_is_tuple
  have D_units_in := d_units_in (w := w) (base := base) X D_scalar_in
  have D_transposed_in := d_transposed_in (w := w) (base := base) X 
  have D_reduced_in := d_reduced_in (w := w) (base := base) X D_scalar_in D_multiple_in D_inverse_in D_less_in
  have D_undone_in := d_undone_in (w := w) (base := base) X D_reduced_in D_units_in
  have D_determinant_in := d_determinant_in (w := w) (base := base) X D_scalar_in D_times_in D_inverse_in D_less_in D_negative_in
  have D_need_table := d_need_table (w := w) (base := base) X D_need_prime D_is_some_table D_anew
  have D_need_square := d_need_square (w := w) (base := base) X D_need_table D_anew
  have D_need_columns := d_need_columns (w := w) (base := base) X D_need_table
  have D_transposed := d_transposed (w := w) (base := base) X D_need_columns D_transposed_in
  have D_determinant := d_determinant (w := w) (base := base) X D_need_square D_determinant_in
  have D_undone := d_undone (w := w) (base := base) X D_need_square D_undone_in
  have D__law_well := d__law_well (w := w) (base := base) X ev_well
  have D__law_draw := d__law_draw (w := w) (base := base) X ev_draw
  have D__law_cut := d__law_cut (w := w) (base := base) X 
  have D__law_num := d__law_num (w := w) (base := base) X 
  have D__law_plus := d__law_plus (w := w) (base := base) X D__law_cut
  have D__law_times := d__law_times (w := w) (base := base) X D__law_cut
  have D__law_drawn := d__law_drawn (w := w) (base := base) X D__law_draw D__law_cut
  have D__law_table := d__law_table (w := w) (base := base) X D__law_drawn
  have D__law_dot := d__law_dot (w := w) (base := base) X D__law_num D__law_plus D__law_times
  have D__law_product := d__law_product (w := w) (base := base) X D__law_dot
  have D__law_units := d__law_units (w := w) (base := base) X D__law_num
  have D__law_orders := d__law_orders (w := w) (base := base) X 
  have D__law_determinant := d__law_determinant (w := w) (base := base) X D__law_num D__law_orders D__law_plus D__law_times
  have D__law_square := d__law_square (w := w) (base := base) X D__law_draw D__law_table D__law_drawn D__law_times
  have D__law_told := d__law_told (w := w) (base := base) X D_determinant D_undone
  have D__law_right := d__law_right (w := w) (base := base) X D__law_square D_undone D__law_table D__law_draw D__law_determinant D__law_units D_determinant D__law_times D__law_product D__law_told D_transposed D__law_num
  have D_law := d_law (w := w) (base := base) X D__law_well D__law_right ev_right
  exact D_law.fn

end Law
open PySem PySem.W PyProof.Rows in
set_option maxRecDepth 100000 in
set_option maxHeartbeats 0 in
theorem PySem.Challenge.cw_spacewebs_k04_determinants_and_tables_un_holds : PySem.Challenge.rw_spacewebs_k04_determinants_and_tables_un.Holds := by
  w_on; o_law; k_head; (case hw => w_witness2)
  k_fill
  refine Wb.walk_end (l := PySem.Challenge.rw_spacewebs_k04_determinants_and_tables_un) (n := 63) (k := 17) (x := "script") (G := Law.m_law) rfl (by decide) rfl ⟨rfl, by decide, by decide⟩ Law.ev_law (fun w h Y => PySem.W.kIn_of Y) ?F
  case F =>
    intro w mg fa h KX G hmg
    refine' Law.all_mk KX G hmg ?n7 ?l7 ?c7 ?k7 ?n8 ?l8 ?c8 ?k8 ?n9 ?l9 ?c9 ?k9 ?n12 ?l12 ?c12 ?k12 ?n13 ?l13 ?c13 ?k13 ?n14 ?l14 ?c14 ?k14 ?n15 ?l15 ?c15 ?k15 ?n16 ?l16 ?c16 ?k16 ?n17 ?l17 ?c17 ?k17 ?n18 ?l18 ?c18 ?k18 ?n19 ?l19 ?c19 ?k19 ?n20 ?l20 ?c20 ?k20 ?n21 ?l21 ?c21 ?k21 ?n23 ?l23 ?c23 ?k23 ?n25 ?l25 ?c25 ?k25 ?n26 ?l26 ?c26 ?k26 ?n27 ?l27 ?c27 ?k27 ?n28 ?l28 ?c28 ?k28 ?n29 ?l29 ?c29 ?k29 ?n30 ?l30 ?c30 ?k30 ?n31 ?l31 ?c31 ?k31 ?n32 ?l32 ?c32 ?k32 ?n34 ?l34 ?c34 ?k34 ?n35 ?l35 ?c35 ?k35 ?n36 ?l36 ?c36 ?k36 ?n37 ?l37 ?c37 ?k37 ?n38 ?l38 ?c38 ?k38 ?n39 ?l39 ?c39 ?k39 ?n41 ?l41 ?c41 ?k41 ?n42 ?l42 ?c42 ?k42 ?n43 ?l43 ?c43 ?k43 ?n44 ?l44 ?c44 ?k44 ?n45 ?l45 ?c45 ?k45 ?n46 ?l46 ?c46 ?k46 ?n48 ?l48 ?c48 ?k48 ?n49 ?l49 ?c49 ?k49 ?n50 ?l50 ?c50 ?k50 ?n51 ?l51 ?c51 ?k51 ?n52 ?l52 ?c52 ?k52 ?n53 ?l53 ?c53 ?k53 ?n54 ?l54 ?c54 ?k54 ?n55 ?l55 ?c55 ?k55 ?n56 ?l56 ?c56 ?k56 ?n57 ?l57 ?c57 ?k57 ?n58 ?l58 ?c58 ?k58 ?z_abs ?z_all ?z_bool ?z_gcd ?z_int ?z_isinstance ?z_len ?z_list ?z_max ?z_min ?z_range ?z_repr ?z_tuple ?z_zip ?g_PRIMES ?gl_PRIMES ?gv_PRIMES ?gs_PRIMES ?nD ?eN0 ?eN1 ?eN2 ?iC0 ?eFn ?eCd ?eCl ?eFi ?eFf ?eCc ?eClD ?eSup ?eTop ?eAny ?eTI ?hn ?ht ?xL0 ?sa0 ?ga0 ?gg0 ?nv0 ?kC0 ?eX0 ?eV0 ?tC0 ?hD0 ?mD0 ?sp0 ?hc0 ?ha0 ?hm0 ?xm0 ?kn0 ?kl0x0 ?kl1x0 ?kl2x0 ?iC1 ?xL1 ?sa1 ?ga1 ?gg1 ?nv1 ?kC1 ?eX1 ?eV1 ?tC1 ?hD1 ?mD1 ?sp1 ?hc1 ?ha1 ?hm1 ?xm1 ?kn1 ?kl0x1 ?kl1x1 ?kl2x1 ?iC2 ?xL2 ?sa2 ?ga2 ?gg2 ?nv2 ?kC2 ?eX2 ?eV2 ?tC2 ?hD2 ?mD2 ?sp2 ?hc2 ?ha2 ?hm2 ?xm2 ?kn2 ?kl0x2 ?kl1x2 ?kl2x2
    (case n7 => first | k_is | rfl)
    (case l7 => first | k_is | rfl)
    (case c7 => first | k_is | rfl)
    (case k7 => first | k_is | rfl)
    (case n8 => first | k_is | rfl)
    (case l8 => first | k_is | rfl)
    (case c8 => first | k_is | rfl)
    (case k8 => first | k_is | rfl)
    (case n9 => first | k_is | rfl)
    (case l9 => first | k_is | rfl)
    (case c9 => first | k_is | rfl)
    (case k9 => first | k_is | rfl)
    (case n12 => first | k_is | rfl)
    (case l12 => first | k_is | rfl)
    (case c12 => first | k_is | rfl)
    (case k12 => first | k_is | rfl)
    (case n13 => first | k_is | rfl)
    (case l13 => first | k_is | rfl)
    (case c13 => first | k_is | rfl)
    (case k13 => first | k_is | rfl)
    (case n14 => first | k_is | rfl)
    (case l14 => first | k_is | rfl)
    (case c14 => first | k_is | rfl)
    (case k14 => first | k_is | rfl)
    (case n15 => first | k_is | rfl)
    (case l15 => first | k_is | rfl)
    (case c15 => first | k_is | rfl)
    (case k15 => first | k_is | rfl)
    (case n16 => first | k_is | rfl)
    (case l16 => first | k_is | rfl)
    (case c16 => first | k_is | rfl)
    (case k16 => first | k_is | rfl)
    (case n17 => first | k_is | rfl)
    (case l17 => first | k_is | rfl)
    (case c17 => first | k_is | rfl)
    (case k17 => first | k_is | rfl)
    (case n18 => first | k_is | rfl)
    (case l18 => first | k_is | rfl)
    (case c18 => first | k_is | rfl)
    (case k18 => first | k_is | rfl)
    (case n19 => first | k_is | rfl)
    (case l19 => first | k_is | rfl)
    (case c19 => first | k_is | rfl)
    (case k19 => first | k_is | rfl)
    (case n20 => first | k_is | rfl)
    (case l20 => first | k_is | rfl)
    (case c20 => first | k_is | rfl)
    (case k20 => first | k_is | rfl)
    (case n21 => first | k_is | rfl)
    (case l21 => first | k_is | rfl)
    (case c21 => first | k_is | rfl)
    (case k21 => first | k_is | rfl)
    (case n23 => first | k_is | rfl)
    (case l23 => first | k_is | rfl)
    (case c23 => first | k_is | rfl)
    (case k23 => first | k_is | rfl)
    (case n25 => first | k_is | rfl)
    (case l25 => first | k_is | rfl)
    (case c25 => first | k_is | rfl)
    (case k25 => first | k_is | rfl)
    (case n26 => first | k_is | rfl)
    (case l26 => first | k_is | rfl)
    (case c26 => first | k_is | rfl)
    (case k26 => first | k_is | rfl)
    (case n27 => first | k_is | rfl)
    (case l27 => first | k_is | rfl)
    (case c27 => first | k_is | rfl)
    (case k27 => first | k_is | rfl)
    (case n28 => first | k_is | rfl)
    (case l28 => first | k_is | rfl)
    (case c28 => first | k_is | rfl)
    (case k28 => first | k_is | rfl)
    (case n29 => first | k_is | rfl)
    (case l29 => first | k_is | rfl)
    (case c29 => first | k_is | rfl)
    (case k29 => first | k_is | rfl)
    (case n30 => first | k_is | rfl)
    (case l30 => first | k_is | rfl)
    (case c30 => first | k_is | rfl)
    (case k30 => first | k_is | rfl)
    (case n31 => first | k_is | rfl)
    (case l31 => first | k_is | rfl)
    (case c31 => first | k_is | rfl)
    (case k31 => first | k_is | rfl)
    (case n32 => first | k_is | rfl)
    (case l32 => first | k_is | rfl)
    (case c32 => first | k_is | rfl)
    (case k32 => first | k_is | rfl)
    (case n34 => first | k_is | rfl)
    (case l34 => first | k_is | rfl)
    (case c34 => first | k_is | rfl)
    (case k34 => first | k_is | rfl)
    (case n35 => first | k_is | rfl)
    (case l35 => first | k_is | rfl)
    (case c35 => first | k_is | rfl)
    (case k35 => first | k_is | rfl)
    (case n36 => first | k_is | rfl)
    (case l36 => first | k_is | rfl)
    (case c36 => first | k_is | rfl)
    (case k36 => first | k_is | rfl)
    (case n37 => first | k_is | rfl)
    (case l37 => first | k_is | rfl)
    (case c37 => first | k_is | rfl)
    (case k37 => first | k_is | rfl)
    (case n38 => first | k_is | rfl)
    (case l38 => first | k_is | rfl)
    (case c38 => first | k_is | rfl)
    (case k38 => first | k_is | rfl)
    (case n39 => first | k_is | rfl)
    (case l39 => first | k_is | rfl)
    (case c39 => first | k_is | rfl)
    (case k39 => first | k_is | rfl)
    (case n41 => first | k_is | rfl)
    (case l41 => first | k_is | rfl)
    (case c41 => first | k_is | rfl)
    (case k41 => first | k_is | rfl)
    (case n42 => first | k_is | rfl)
    (case l42 => first | k_is | rfl)
    (case c42 => first | k_is | rfl)
    (case k42 => first | k_is | rfl)
    (case n43 => first | k_is | rfl)
    (case l43 => first | k_is | rfl)
    (case c43 => first | k_is | rfl)
    (case k43 => first | k_is | rfl)
    (case n44 => first | k_is | rfl)
    (case l44 => first | k_is | rfl)
    (case c44 => first | k_is | rfl)
    (case k44 => first | k_is | rfl)
    (case n45 => first | k_is | rfl)
    (case l45 => first | k_is | rfl)
    (case c45 => first | k_is | rfl)
    (case k45 => first | k_is | rfl)
    (case n46 => first | k_is | rfl)
    (case l46 => first | k_is | rfl)
    (case c46 => first | k_is | rfl)
    (case k46 => first | k_is | rfl)
    (case n48 => first | k_is | rfl)
    (case l48 => first | k_is | rfl)
    (case c48 => first | k_is | rfl)
    (case k48 => first | k_is | rfl)
    (case n49 => first | k_is | rfl)
    (case l49 => first | k_is | rfl)
    (case c49 => first | k_is | rfl)
    (case k49 => first | k_is | rfl)
    (case n50 => first | k_is | rfl)
    (case l50 => first | k_is | rfl)
    (case c50 => first | k_is | rfl)
    (case k50 => first | k_is | rfl)
    (case n51 => first | k_is | rfl)
    (case l51 => first | k_is | rfl)
    (case c51 => first | k_is | rfl)
    (case k51 => first | k_is | rfl)
    (case n52 => first | k_is | rfl)
    (case l52 => first | k_is | rfl)
    (case c52 => first | k_is | rfl)
    (case k52 => first | k_is | rfl)
    (case n53 => first | k_is | rfl)
    (case l53 => first | k_is | rfl)
    (case c53 => first | k_is | rfl)
    (case k53 => first | k_is | rfl)
    (case n54 => first | k_is | rfl)
    (case l54 => first | k_is | rfl)
    (case c54 => first | k_is | rfl)
    (case k54 => first | k_is | rfl)
    (case n55 => first | k_is | rfl)
    (case l55 => first | k_is | rfl)
    (case c55 => first | k_is | rfl)
    (case k55 => first | k_is | rfl)
    (case n56 => first | k_is | rfl)
    (case l56 => first | k_is | rfl)
    (case c56 => first | k_is | rfl)
    (case k56 => first | k_is | rfl)
    (case n57 => first | k_is | rfl)
    (case l57 => first | k_is | rfl)
    (case c57 => first | k_is | rfl)
    (case k57 => first | k_is | rfl)
    (case n58 => first | k_is | rfl)
    (case l58 => first | k_is | rfl)
    (case c58 => first | k_is | rfl)
    (case k58 => first | k_is | rfl)
    (case z_abs => first | k_is | rfl)
    (case z_all => first | k_is | rfl)
    (case z_bool => first | k_is | rfl)
    (case z_gcd => first | k_is | rfl)
    (case z_int => first | k_is | rfl)
    (case z_isinstance => first | k_is | rfl)
    (case z_len => first | k_is | rfl)
    (case z_list => first | k_is | rfl)
    (case z_max => first | k_is | rfl)
    (case z_min => first | k_is | rfl)
    (case z_range => first | k_is | rfl)
    (case z_repr => first | k_is | rfl)
    (case z_tuple => first | k_is | rfl)
    (case z_zip => first | k_is | rfl)
    (case g_PRIMES => first | k_is | rfl)
    (case gl_PRIMES => first | k_is | rfl)
    (case gv_PRIMES => exact (.cons ⟨_, rfl⟩ (.cons ⟨_, rfl⟩ (.cons ⟨_, rfl⟩ (.cons ⟨_, rfl⟩ (.cons ⟨_, rfl⟩ (.cons ⟨_, rfl⟩ (.cons ⟨_, rfl⟩ .nil))))))))
    (case gs_PRIMES => first | decide | decide +kernel)
    (case nD => first | k_is | rfl)
    (case eN0 => first | k_is | rfl)
    (case eN1 => first | k_is | rfl)
    (case eN2 => first | k_is | rfl)
    (case iC0 => first | k_is | rfl)
    (case eFn => first | k_is | rfl)
    (case eCd => first | k_is | rfl)
    (case eCl => first | k_is | rfl)
    (case eFi => first | rfl | decide +kernel)
    (case eFf => first | rfl | decide +kernel)
    (case eCc => first | k_is | rfl)
    (case eClD => first | k_is | rfl)
    (case eSup => first | k_is | rfl)
    (case eTop => first | rfl | decide +kernel)
    (case eAny => first | k_is | rfl)
    (case eTI => first | k_is | rfl)
    (case hn => first | k_is | rfl)
    (case ht => first | k_is | rfl)
    (case xL0 => first | k_is | rfl)
    (case sa0 => first | k_is | rfl)
    (case ga0 => first | k_is | rfl)
    (case gg0 => first | k_is | rfl)
    (case nv0 => first | k_is | rfl)
    (case kC0 => first | k_is | rfl)
    (case eX0 => first | k_is | rfl)
    (case eV0 => first | k_is | rfl)
    (case tC0 => first | k_is | rfl)
    (case hD0 => first | k_is | rfl)
    (case mD0 => first | k_is | rfl)
    (case sp0 => first | k_is | rfl)
    (case hc0 => first | k_is | rfl)
    (case ha0 => first | k_is | rfl)
    (case hm0 => first | k_is | rfl)
    (case xm0 => first | k_is | rfl)
    (case kn0 => first | k_is | rfl)
    (case kl0x0 => first | k_is | rfl)
    (case kl1x0 => first | k_is | rfl)
    (case kl2x0 => first | k_is | rfl)
    (case iC1 => first | k_is | rfl)
    (case xL1 => first | k_is | rfl)
    (case sa1 => first | k_is | rfl)
    (case ga1 => first | k_is | rfl)
    (case gg1 => first | k_is | rfl)
    (case nv1 => first | k_is | rfl)
    (case kC1 => first | k_is | rfl)
    (case eX1 => first | k_is | rfl)
    (case eV1 => first | k_is | rfl)
    (case tC1 => first | k_is | rfl)
    (case hD1 => first | k_is | rfl)
    (case mD1 => first | k_is | rfl)
    (case sp1 => first | k_is | rfl)
    (case hc1 => first | k_is | rfl)
    (case ha1 => first | k_is | rfl)
    (case hm1 => first | k_is | rfl)
    (case xm1 => first | k_is | rfl)
    (case kn1 => first | k_is | rfl)
    (case kl0x1 => first | k_is | rfl)
    (case kl1x1 => first | k_is | rfl)
    (case kl2x1 => first | k_is | rfl)
    (case iC2 => first | k_is | rfl)
    (case xL2 => first | k_is | rfl)
    (case sa2 => first | k_is | rfl)
    (case ga2 => first | k_is | rfl)
    (case gg2 => first | k_is | rfl)
    (case nv2 => first | k_is | rfl)
    (case kC2 => first | k_is | rfl)
    (case eX2 => first | k_is | rfl)
    (case eV2 => first | k_is | rfl)
    (case tC2 => first | k_is | rfl)
    (case hD2 => first | k_is | rfl)
    (case mD2 => first | k_is | rfl)
    (case sp2 => first | k_is | rfl)
    (case hc2 => first | k_is | rfl)
    (case ha2 => first | k_is | rfl)
    (case hm2 => first | k_is | rfl)
    (case xm2 => first | k_is | rfl)
    (case kn2 => first | k_is | rfl)
    (case kl0x2 => first | k_is | rfl)
    (case kl1x2 => first | k_is | rfl)
    (case kl2x2 => first | k_is | rfl)

