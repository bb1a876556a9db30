import PyProof.Rows.All
import Wide.All
import OpenK.AllK
import Wide.FinOn
import KE.KStateDown
import HandS.Base
import HandS.Call
import HandS.Ends
import HandS.More
import HandS.Words
import HandS.WordsExc
import HandS.Defaults
import HandS.Head0
import HandS.Head1
import HandS.Head2
import HandS.HeadEnd
import HandS.HeadHook1
import HandS.HeadHook2
import HandS.HeadHook3
import HandS.HeadHook4
import HandS.HeadWalk
import HandS.ForMost
import PySem.Challenge.RW_leastjoined_k38_whole_lists_of_codes
import KE.KExcSuper
import KE.KSuper
import KE.KSuperObj
import HandS.Exc
import HandS.ExcInit
import HandS.ExcSuper
import HandS.ExcOwn
import HandS.TryMany
import HandS.ExcField
import HandS.IsInst
import HandS.Wide
import HandS.Iter
import HandS.Comp
import HandS.DictComp
import HandS.Conv
import HandS.Evl
import KE.GoesEnum
import KE.GoesMore
import KE.GoesZip
import HandS.Walk
import HandS.SortRule
import HandS.OwnEq
import KE.DatumOrd
import HandS.CallRecv
import HandS.Dict
import HandS.TupAny
import PyProof.DictUpdate
import KE.SortData
import KE.KDictSum
import KE.KDictDisplayH
import PyProof.DictTable
import HandS.ForDict
import HandS.Lambda
import HandS.RaiseMore
import PyProof.ReprRoads
import HandS.AnyAll
import KE.DataEq
import HandS.EndTab
set_option Elab.async false
set_option linter.all false
set_option maxRecDepth 100000
set_option maxHeartbeats 0
section
/-! ## K38Base -/
namespace K38
open PySem PySem.Spec PyProof.Rows L2
/-- the i-th statement of the top -/
def top (i : Nat) : Stmt := PySem.Challenge.pw_leastjoined_k38_whole_lists_of_codes.main.body.getD i (.Pass ⟨0, 0, 0, 0⟩)
/-- a def of the top, a method of a class of the top -/
def dGlo (x : Str) (st : Stmt) : He.DefD := ⟨(x, none), x, x, defArgs st, defBody st, defScope st, [], []⟩
def dMet (C m q : Str) (st : Stmt) (dfl : List He.Dv) : He.DefD := ⟨(C, some m), m, q, defArgs st, defBody st, defScope st, dfl, []⟩
abbrev sIsWhole : Stmt := top 14
abbrev sTwoTo : Stmt := top 15
abbrev sChoose : Stmt := top 16
abbrev sCheckSigns : Stmt := top 17
abbrev sCheckCounts : Stmt := top 18
abbrev sBitsOf : Stmt := top 19
abbrev sCanonical : Stmt := top 20
abbrev sCheckPair : Stmt := top 24
abbrev sCost : Stmt := top 25
abbrev sCheckMany : Stmt := top 26
abbrev sNumberOf : Stmt := top 28
abbrev sSubsets : Stmt := top 29
abbrev sBelow : Stmt := top 30
abbrev sAllCodes : Stmt := top 31
abbrev sPenOf : Stmt := top 33
abbrev sDraw : Stmt := top 34
abbrev sPick : Stmt := top 35
abbrev sCountsOf : Stmt := top 36
abbrev sLawCost : Stmt := top 37
abbrev sLawAll : Stmt := top 38
abbrev sLawWays : Stmt := top 39
abbrev sLawNumber : Stmt := top 40
abbrev sRefused : Stmt := top 41
abbrev sLaw : Stmt := top 42
abbrev sCodeInit : Stmt := inClass (top 23) 0
abbrev sCodeEq : Stmt := inClass (top 23) 1
abbrev sFilInit : Stmt := inClass (top 27) 0
abbrev sWays : Stmt := inClass (top 27) 1
def fn : List He.DefD := [dGlo "is_whole" sIsWhole, dGlo "two_to" sTwoTo, dGlo "choose" sChoose, dGlo "check_signs" sCheckSigns, dGlo "check_counts" sCheckCounts,
  dGlo "bits_of" sBitsOf, dGlo "canonical" sCanonical, dGlo "check_pair" sCheckPair, dGlo "cost" sCost, dGlo "check_many" sCheckMany, dGlo "number_of_codes" sNumberOf,
  dGlo "subsets" sSubsets, dGlo "lists_below" sBelow, dGlo "all_codes" sAllCodes, dGlo "_law_pen_of" sPenOf, dGlo "_law_draw" sDraw, dGlo "_law_pick" sPick,
  dGlo "_law_counts_of" sCountsOf, dGlo "_law_cost" sLawCost, dGlo "_law_all" sLawAll, dGlo "_law_ways" sLawWays, dGlo "_law_number" sLawNumber, dGlo "_law_refused" sRefused, dGlo "law" sLaw,
  dMet "Code" "__init__" "Code.__init__" sCodeInit [.non], dMet "Code" "__eq__" "Code.__eq__" sCodeEq [],
  dMet "Fillings" "__init__" "Fillings.__init__" sFilInit [], dMet "Fillings" "ways" "Fillings.ways" sWays []]
end K38
end
section
/-! ## K38Exc -/
/-! An own exception whose __init__ says super().__init__('..') and stores its parameters: made, raised. -/
namespace K38
open PySem PySem.W PySem.Calls PyProof.Rows PySem.HandSPX
/-- a store self.f = f -/
structure Fld where
  nm : Str
  p1 : Pos
  p2 : Pos
  p3 : Pos
  p4 : Pos
def Fld.st (f : Fld) : Stmt := .Assign [.Attribute (.Name "self" f.p1) f.nm f.p2] (.Name f.nm f.p3) f.p4
/-- super().__init__('..') -/
structure SupP where
  msg : Str
  j : Nat
  p0 : Pos
  p1 : Pos
  p2 : Pos
  p3 : Pos
  p4 : Pos
  p5 : Pos
def SupP.st (q : SupP) : Stmt := .Expr (.Call (.Attribute (.Call (.Name "super" q.p0) [] [] q.p1) "__init__" q.p2) [.Constant (.str q.msg) q.j q.p3] [] q.p4) q.p5
/-- the fields of a made exception, the last stored first -/
def fldsV : List Str → List L2.V → List (Str × L2.V) → List (Str × L2.V)
  | n :: ns, v :: vs, acc => fldsV ns vs ((n, v) :: acc)
  | _, _, acc => acc
/-- what the written part says of the class at C (its __init__ at fI, its cell at cc, its code object at ca) -/
structure ExT (prog : Program) (K : Frag) (mg : Str → Option Value) (x : Str) (C fI cc ca : Addr) (qual : Str) (params : Arguments) (scope : Scope) (sp : SupP) (fs : List Fld) : Prop where
  gC : mg x = some (.ref C)
  cls : ∃ nm q N bs bm sn sub ab col dd k0 k1 k2 k3 k5, K.lookup C = some (excClassObj nm q C N bs bm true sn sub ab col dd k0 k1 k2 k3 k5 "ValueError.__new__") ∧ refsVE bm = true
  sa : findIn K (.ref C) "__setattr__" = some (some (.builtin "object.__setattr__"))
  noN : ∀ f ∈ fs, findIn K (.ref C) f.nm = some none
  iC : findIn K (.ref C) "__init__" = some (some (.ref fI))
  tC : typeIn K (.ref fI) = some (.type "function")
  kC : keepIn K (.ref C) = true
  exC : subIn K (.ref C) (.type "BaseException") = some true
  veC : subIn K (.ref C) (.type "ValueError") = some true
  tyC : typeIn K (.ref C) = some (.type "type")
  slf : mroIn K C (.ref C) = some true
  ini : ks_superIn K C C "__init__" = some (some (.builtin "ValueError.__init__"))
  sup : nsIn K mainGlobals "super" = some none
  opq : nsIn K cStatics "thirdparty.any" = some none
  fn : ∃ (oc : Value) (od : Option Addr) (kV doc pm : Value) (an : Option Addr) (ct : Value) (osl : Array (Option Value)),
    K.lookup fI = some ⟨oc, od, .func (ksFn "__init__" qual params (sp.st :: fs.map Fld.st) scope .none kV doc pm an (.ref ca) ct cc), osl⟩ ∧ codeIn K (.ref ca) qual = true
  code : ∃ (ccl : Value) (cdd : Option Addr) (vs : Array Value) (ccs : Array (Option Value)) (tf : Tok), K.lookup ca = some ⟨ccl, cdd, .fields vs, ccs⟩ ∧ vs[2]? = some (.str prog.main.file tf)
  cell : ∃ (cl : Value) (cld : Option Addr) (csl : Array (Option Value)), K.lookup cc = some ⟨cl, cld, .cell (some (.ref C)), csl⟩
/-- what the text says -/
structure ExS (prog : Program) (params : Arguments) (scope : Scope) (q : SupP) (fs : List Fld) : Prop where
  kind : scope.kind = .function
  co : scope.isCoroutine = false
  gen : scope.isGenerator = false
  cells : ∀ y ∈ scope.names, y.2 ≠ .cell
  loc : ∀ f ∈ (("self" : Str) :: fs.map Fld.nm), scope.names.lookup f = some .local
  nod : (("self" : Str) :: fs.map Fld.nm).Nodup
  dbg : ∀ f ∈ (("self" : Str) :: fs.map Fld.nm), (f == ("__debug__" : Str)) = false
  sup : scope.names.lookup ("super" : Str) = some .globalImplicit
  cls : scope.names.lookup ("__class__" : Str) = some .free
  head : ∃ ar : Arg, (params.posonlyargs ++ params.args).head? = some ar ∧ ar.arg = "self"
  top : (prog.main.scope.names.lookup ("super" : Str)).isSome = false
  bind : ∀ (qual : Str) (body : List Stmt) (kV doc pm cd ct : Value) (an : Option Addr) (cc : Addr) (us : List Value), us.length = fs.length + 1 →
    bindArgs (ksFn "__init__" qual params body scope .none kV doc pm an cd ct cc) ⟨us, []⟩ = pure ((("self" : Str) :: fs.map Fld.nm).zip us)
  meth : ∀ (qual : Str) (L fI ca cc : Addr), ∃ pl : Sem Bool, eval (.Call (.Attribute (.Call (.Name "super" q.p0) [] [] q.p1) "__init__" q.p2) [.Constant (.str q.msg) q.j q.p3] [] q.p4) (ksEnv qual scope L fI (.ref ca) cc) = (do
      let ov ← attributeBase (.Call (.Name "super" q.p0) [] [] q.p1) "__init__" (ksEnv qual scope L fI (.ref ca) cc) (eval (.Call (.Name "super" q.p0) [] [] q.p1) (ksEnv qual scope L fI (.ref ca) cc))
      standAt q.p2.atName
      let (f, first) ← holding [ov] (getMethod ov "__init__" pl)
      callWith q.p4 f first (backTo q.p4 (starEach [.Constant (.str q.msg) q.j q.p3] (ksEnv qual scope L fI (.ref ca) cc))) [])
  swap : ∀ (f : Fld), f ∈ fs → ∀ env : Env, env.scope = scope → swapsWith (.Name f.nm f.p3) (some (.Attribute (.Name "self" f.p1) f.nm f.p2)) f.p4.line env = pure false

section
variable {prog : Program} {w : World} {A : Around} {E : Value → Shared → Prop} {R : Result → Shared → Prop} {s : Shared} {K : Frag} {mg : Str → Option Value} {C fI cc ca : Addr} {x qual : Str} {params : Arguments} {scope : Scope} {sp : SupP} {fs : List Fld} {base : Heap}

theorem clsIn_of (T : ExT prog K mg x C fI cc ca qual params scope sp fs) : ∃ cd : ClassData, clsIn K C = some cd ∧ refsVE cd.mro = true ∧ cd.hasDict = true := by
  obtain ⟨nm, q, N, bs, bm, sn, sub, ab, col, dd, k0, k1, k2, k3, k5, hC, hbm⟩ := T.cls
  refine ⟨{ name := nm, bases := bs, mro := .ref C :: bm, ns := N, qualname := q, hasDict := true, slotNames := sn, subclasses := sub, abstract := ab, collection := col, hasDel := false }, ?_, hbm, rfl⟩
  unfold clsIn
  rw [hC] <;> rfl

/-- super().__init__('..') -/
theorem sup_ok (T : ExT prog K mg x C fI cc ca qual params scope sp fs) (S : ExS prog params scope sp fs) (M : L2.Mod K mg base) {L e t0 : Addr} {m : Str → Option Value} {body : List Stmt} {Q : Flow → Shared → Prop}
    (bk : ∀ b o, base.get? b = some o → s.heap.get? b = some o) (hn : s.heap.Ns L m) (hv : m "self" = some (.ref e)) (hx : s.heap.get? e = some (excO C t0))
    (h : ∀ s' t1, s'.gens = s.gens → s'.os = s.os → (∀ b o, b ≠ e → s.heap.get? b = some o → s'.heap.get? b = some o) → s'.heap.get? e = some (excO C t1) → Q .next s') :
    _root_.PySem.wpAt (model prog w) A (.func body (ksEnv qual scope L fI (.ref ca) cc)) (exec sp.st (ksEnv qual scope L fI (.ref ca) cc)) Q E s := by
  obtain ⟨cd, hcl, hm, hh⟩ := clsIn_of T
  obtain ⟨oc, od, kV, doc, pm, an, ct, osl, hf, hcd⟩ := T.fn
  obtain ⟨ccl, cdd, vs, ccs, tf, hca, hvs⟩ := T.code
  obtain ⟨cl, cld, csl, hce⟩ := T.cell
  obtain ⟨ar, hp, har⟩ := S.head
  obtain ⟨mb, hb1, hb2⟩ := M.blt
  have X : K.In s.heap := M.kin.keeps bk
  obtain ⟨nm, q, N, bs, bm, sn, sub, ab, col, dd, k0, k1, k2, k3, k5, hC, hbm⟩ := T.cls
  have I : InstAt s.heap e (excO C t0) C none := ⟨hx, rfl, rfl, trivial⟩
  have hxC : e ≠ C := ks_ne X I hcl
  obtain ⟨oD, hD1, hD2⟩ : ∃ oD, s.heap.get? C = some oD ∧ oD.data = .cls cd := by
    have hcl' := hcl
    unfold clsIn at hcl'
    split at hcl'
    · rename_i c d cd' sl ho
      cases hcl'
      exact ⟨_, X _ _ ho, rfl⟩
    · cases hcl'
  have hI : Looks (model prog w) s.heap (isInstance (.ref e) (.type "ValueError")) true := I.type.andThen (looks_subIn X T.veC)
  have hni : ∀ c, (excO C t0).data ≠ .cls c := fun c z => by cases z
  obtain ⟨hh0, g, d, t, os⟩ := s
  obtain ⟨pl, he⟩ := S.meth qual L fI ca cc
  refine ks_wpAt_Expr_any (ks_wpAt_MethodCall (pl := pl) ?_ he) (by simp [interactive, S.kind])
  refine ks_wpAt_super_base (env := ksEnv qual scope L fI (.ref ca) cc) S.sup S.cls (by decide) rfl (X _ _ hf) rfl hp rfl (X _ _ hca) rfl hvs (by simp) S.top ?_
  refine ks_loadName_global S.kind S.sup (loadGlobal_builtin (env := ksEnv qual scope L fI (.ref ca) cc) (M.glob.keeps bk) (mg_none_of M.kin M.glob T.sup) (hb1.keeps bk) ((hb2 _ (by decide)).trans (by decide +kernel : bootBuiltins "super" = some (.type "super"))) ⟨rfl, ?_⟩)
  refine wpAny_loadName_free S.kind S.cls rfl ⟨_, X _ _ hce, rfl⟩ ?_
  rw [har]
  refine wpAny_loadName_local S.kind (S.loc _ List.mem_cons_self) hn hv ?_
  refine ks_wpAny_isType_cls hD1 hD2 ⟨rfl, ?_⟩
  refine ks_wpAny_call_super hD1 hD2 hx rfl hni (looks_mroIn X T.slf) (fun h1 e1 k1' => ?_)
  have X1 : K.In h1 := X.keeps k1'
  have hx1 : h1.get? e = some (excO C t0) := k1' _ _ hx
  have hlt0 : ∀ {b : Addr} {o : Obj}, hh0.get? b = some o → b < hh0.objs.size := fun q => Heap.lt_size q
  have hsup := T.ini
  unfold ks_superIn at hsup
  rw [hcl] at hsup
  refine kxs_getMethod kxs_ValueError e1 (looks_opaque X1 T.opq) (l₀ := cd.mro) (fun A Q E s k q => wpAny_bind ((looks_clsIn X1 hcl) A _ E s k (wpAny_pure q))) rfl X1 hsup (hI.keeps k1') hxC (by decide) ?_
  have hu : (h1.push (kxs_mw "ValueError.__init__" e)).get? h1.objs.size = some (kxs_mw "ValueError.__init__" e) := Heap.get?_push_size _ rfl
  refine kxs_callWith (i := "ValueError.__init__") (x := e) rfl (evalArgs_plain (Calls.spliced_cons (Calls.Constant_str (k := sp.j) (pos := sp.p3) (Calls.spliced_nil ⟨hu, ?_⟩))))
  have k2' : ∀ b o, hh0.get? b = some o → (h1.push (kxs_mw "ValueError.__init__" e)).get? b = some o := fun b o q => Heap.get?_push_of_some _ (k1' b o q)
  refine wpAny_call (codeAny_of_tree ?_)
  show wpAny _ A.in1 (callAny (.ref h1.objs.size) _) _ _ _
  simp only [callAny]
  refine wpAny_bind (wpAny_load hu ?_)
  simp only [kxs_mw, show (Value.type "method-wrapper" == Value.type "method" || Value.type "method-wrapper" == Value.type "builtin_function_or_method" || Value.type "method-wrapper" == Value.type "method-wrapper") = true by decide, if_true]
  refine KFB.if_so (by decide) ?_
  refine wpAny_bind (check_bound_init F.excBase_ValueError.toExcCallFacts (k2' _ _ (X _ _ hC)) (k2' _ _ hx) rfl ?_)
  refine wpAny_bind (wpAny_pure (wpAny_pure ?_))
  refine ⟨Code.quiet_builtin _ (by decide +kernel), codeAny_builtin F.excBase_ValueError.initEntry ?_⟩
  rw [Around.under_plainId F.excBase_ValueError.init.plain _]
  have hx2 := k2' _ _ hx
  wp_walk
  refine h _ (h1.push (kxs_mw "ValueError.__init__" e)).objs.size rfl rfl (fun b o hb ho => ?_) ?_
  · rw [Heap.get?_update_other _ _ (Ne.symm hb)]
    exact Heap.get?_push_of_some _ (k2' _ _ ho)
  · rw [Heap.get?_update_self _ (Heap.get?_push_of_some _ hx2) rfl]
    rfl

/-- further stores -/
theorem stores_ok (T : ExT prog K mg x C fI cc ca qual params scope sp fs) (S : ExS prog params scope sp fs) (M : L2.Mod K mg base) {L e dx : Addr} {m : Str → Option Value} {fv : Array Value} {Q : Flow → Shared → Prop}
    (hs : m "self" = some (.ref e)) (hde : dx ≠ e) (hdL : dx ≠ L) (hdb : ∀ o, base.get? dx ≠ some o) : ∀ (gs : List Fld) (us : List Value) (zs : List L2.V) (acc : List (Str × L2.V)) (mA : Str → Option Value) (s : Shared), (∀ g ∈ gs, g ∈ fs) →
      L2.Vals zs us → us.length = gs.length → (∀ (i : Nat) g u, gs[i]? = some g → us[i]? = some u → m g.nm = some u) → (∀ b o, base.get? b = some o → s.heap.get? b = some o) → s.heap.Ns L m →
      s.heap.get? e = some { cls := .ref C, dict := some dx, data := .fields fv } → s.heap.Ns1 dx mA → (∀ f, L2.RelO (acc.lookup f) (mA f)) → acc.length + gs.length ≤ 900 →
      (∀ s' mA', s'.gens = s.gens → s'.os = s.os → (∀ b o, b ≠ dx → s.heap.get? b = some o → s'.heap.get? b = some o) → s'.heap.Ns1 dx mA' → (∀ f, L2.RelO ((fldsV (gs.map Fld.nm) zs acc).lookup f) (mA' f)) → Q .next s') →
      wpAny (model prog w) A (execs (gs.map Fld.st) (ksEnv qual scope L fI (.ref ca) cc)) Q E s
  | [], us, zs, acc, mA, s, _, _, _, _, _, _, _, h1, h2, _, hq => by
    refine wpAny_execs_nil (hq s mA rfl rfl (fun _ _ _ q => q) h1 ?_)
    simpa [fldsV] using h2
  | g :: gs, [], zs, acc, mA, s, _, _, hl, _, _, _, _, _, _, _, _ => by simp at hl
  | g :: gs, u :: us, [], acc, mA, s, _, hz, _, _, _, _, _, _, _, _, _ => by cases hz
  | g :: gs, u :: us, z :: zs, acc, mA, s, hg, hz, hl, hm, bk, hn, hx, h1, h2, hc, hq => by
    obtain ⟨cd, hcl, hmr, hh⟩ := clsIn_of T
    have X : K.In s.heap := M.kin.keeps bk
    have hgf := hg g List.mem_cons_self
    obtain ⟨rz, rzs⟩ : L2.RelV z u ∧ L2.Vals zs us := by
      cases hz with
      | cons a b => exact ⟨a, b⟩
    have hw := L2.within_of h2
    obtain ⟨oD, _, _, hoD, _, _⟩ := h1.count hw
    have hgm : g.nm ∈ (("self" : Str) :: fs.map Fld.nm) := List.mem_cons_of_mem _ (List.mem_map_of_mem hgf)
    refine wpAny_execs_cons (plainObj_wpAny_Assign_Attribute ?_ (S.swap g hgf _ rfl))
    refine ESX.ldL (v := u) hn (hm 0 g u rfl rfl) ?_ S.kind (S.loc _ hgm) (S.dbg _ hgm)
    refine ESX.ldL (v := .ref e) hn hs ?_ S.kind (S.loc _ List.mem_cons_self) (by decide)
    obtain ⟨hp, gg, d, t, os⟩ := s
    refine set_plain X (ox := { cls := .ref C, dict := some dx, data := .fields fv }) (od := some oD) ⟨hx, rfl, rfl, hoD⟩ T.sa ?_
    refine OEX.osa_old X hx h1 hw (by rw [List.length_map]; simp at hc; omega) hcl hmr hh (T.noN g hgf) (fun h' tk' k hn' => ?_)
    have kL : h'.Ns L m := by
      obtain ⟨o, es, ep, ho, r⟩ := hn
      exact ⟨o, es, ep, k _ _ hdL.symm ho, r⟩
    have r2 : ∀ f, L2.RelO (((g.nm, z) :: acc).lookup f) ((fun y => if y = g.nm then some u else mA y) f) := fun f => L2.relO_put rz h2 f
    show wpAny _ _ (execs (gs.map Fld.st) _) _ _ _
    refine stores_ok T S M hs hde hdL hdb gs us zs ((g.nm, z) :: acc) _ ⟨h', gg, d, tk', os⟩ (fun y hy => hg y (List.mem_cons_of_mem _ hy)) rzs (by simpa using hl) (fun i y v e1 e2 => hm (i + 1) y v (by simpa using e1) (by simpa using e2))
      (fun b o q => k b o (fun z => hdb o (z ▸ q)) (bk b o q)) kL (k _ _ hde.symm hx) hn' r2 (by simp at hc ⊢; omega) (fun s' mA' a1 a2 a3 a4 a5 => hq s' mA' a1 a2 (fun b o hb q => a3 b o hb (k b o hb q)) a4 ?_)
    simpa [fldsV] using a5
theorem lookup_of_mem {l : List (Str × Value)} {k : Str} {u : Value} (h : (k, u) ∈ l) (hu : ∀ v, (k, v) ∈ l → v = u) : l.lookup k = some u := by
  induction l with
  | nil => cases h
  | cons p l ih =>
    obtain ⟨a, b⟩ := p
    rw [List.lookup_cons]
    cases e : k == a with
    | true =>
      have : k = a := by simpa using e
      subst this
      rw [hu b List.mem_cons_self]
    | false =>
      rcases List.mem_cons.mp h with z | z
      · cases z
        simp at e
      · exact ih z fun v hv => hu v (List.mem_cons_of_mem _ hv)
theorem zip_uniq {k : Str} {u v : Value} : ∀ {ks : List Str} {us : List Value}, ks.Nodup → (k, u) ∈ ks.zip us → (k, v) ∈ ks.zip us → v = u
  | [], _, _, h, _ => by cases h
  | _ :: _, [], _, h, _ => by cases h
  | a :: ks, b :: us, hn, h1, h2 => by
    rw [List.nodup_cons] at hn
    rw [List.zip_cons_cons] at h1 h2
    rcases List.mem_cons.mp h1 with z1 | z1
    · rcases List.mem_cons.mp h2 with z2 | z2
      · cases z1; cases z2; rfl
      · cases z1
        exact absurd (List.of_mem_zip z2).1 hn.1
    · rcases List.mem_cons.mp h2 with z2 | z2
      · cases z2
        exact absurd (List.of_mem_zip z1).1 hn.1
      · exact zip_uniq hn.2 z1 z2
theorem zip_mem {k : Str} {u : Value} : ∀ {ks : List Str} {us : List Value} {i : Nat}, ks[i]? = some k → us[i]? = some u → (k, u) ∈ ks.zip us
  | [], _, _, h, _ => by simp at h
  | _ :: _, [], _, _, h => by simp at h
  | a :: ks, b :: us, 0, h1, h2 => by
    simp at h1 h2
    subst h1 h2
    exact List.mem_cons_self
  | a :: ks, b :: us, i + 1, h1, h2 => List.mem_cons_of_mem _ (zip_mem (i := i) (by simpa using h1) (by simpa using h2))
theorem zip_look {k : Str} {u : Value} {ks : List Str} {us : List Value} {i : Nat} (hn : ks.Nodup) (h1 : ks[i]? = some k) (h2 : us[i]? = some u) : (ks.zip us).reverse.lookup k = some u :=
  lookup_of_mem (List.mem_reverse.mpr (zip_mem h1 h2)) fun v hv => zip_uniq hn (zip_mem h1 h2) (List.mem_reverse.mp hv)
/-- what __init__ leaves of a fresh exception at e -/
structure InitEnd (s s' : Shared) (e C dx t1 : Addr) (vs : List (Str × L2.V)) : Prop where
  gens : s'.gens = s.gens
  os : s'.os = s.os
  keep : ∀ b o, b ≠ e → s.heap.get? b = some o → s'.heap.get? b = some o
  obj : s'.heap.get? e = some { cls := .ref C, dict := some dx, data := .fields #[.ref t1, .none, .none, .none, .bool false, .none] }
  dbig : s.heap.objs.size ≤ dx
  dne : dx ≠ e
  ns : ∃ mA, s'.heap.Ns1 dx mA ∧ ∀ f, L2.RelO (vs.lookup f) (mA f)
theorem ex_init (T : ExT prog K mg x C fI cc ca qual params scope sp fs) (S : ExS prog params scope sp fs) (M : L2.Mod K mg base) {e t0 : Addr} {us : List Value} {zs : List L2.V}
    (bk : ∀ b o, base.get? b = some o → s.heap.get? b = some o) (hx : s.heap.get? e = some (excO C t0)) (hroom : A.depth < recursionLimit) (hz : L2.Vals zs us) (hl : us.length = fs.length) (hf0 : fs ≠ []) (hf1 : fs.length ≤ 100)
    (hbe : base.get? e = none)
    (hq : ∀ s' dx t1, InitEnd s s' e C dx t1 (fldsV (fs.map Fld.nm) zs []) → R (.ok (.ret .none)) s') : codeAny (model prog w) A (.call (.ref fI) ⟨.ref e :: us, []⟩) R s := by
  obtain ⟨oc, od, kV, doc, pm, an, ct, osl, hf, hcd⟩ := T.fn
  obtain ⟨cd, hcl, hmr, hh⟩ := clsIn_of T
  have X : K.In s.heap := M.kin.keeps bk
  have hlim : s.heap.NoLimit := M.nolimit.keeps bk
  have hnames : ((("self" : Str) :: fs.map Fld.nm).zip (.ref e :: us)).length ≤ 1000 := by
    rw [List.length_zip]
    simp
    omega
  refine ks_codeAny_call_defAt (fd := ksFn "__init__" qual params (sp.st :: fs.map Fld.st) scope .none kV doc pm an (.ref ca) ct cc) (body := sp.st :: fs.map Fld.st) (binds := (("self" : Str) :: fs.map Fld.nm).zip (.ref e :: us)) hroom (X _ _ hf) rfl hlim (codeRec_of X hcd) rfl
    (BindsTo.of_eq (S.bind _ _ _ _ _ _ _ _ _ _ (by simp [hl]))) S.cells (fun y hy => S.loc _ (List.of_mem_zip hy).1) (fun h0 hns hk => ?_) S.co S.gen S.kind
  show _root_.PySem.wpAt (model prog w) (A.deeper (ksEnv qual scope s.heap.objs.size fI (.ref ca) cc)) (.func (sp.st :: fs.map Fld.st) (ksEnv qual scope s.heap.objs.size fI (.ref ca) cc)) (execs (sp.st :: fs.map Fld.st) (ksEnv qual scope s.heap.objs.size fI (.ref ca) cc)) _ _ _
  have hself : (fun y => ((("self" : Str) :: fs.map Fld.nm).zip (.ref e :: us)).reverse.lookup y) "self" = some (.ref e) := zip_look (i := 0) S.nod rfl rfl
  have heL : e ≠ s.heap.objs.size := Nat.ne_of_lt (Heap.lt_size hx)
  have hLh : s.heap.objs.size < h0.objs.size := by
    obtain ⟨o, es, ep, ho, r⟩ := hns
    exact Heap.lt_size ho
  refine ks_wpAt_execs_cons (sup_ok (s := { s with heap := h0, toks := _ }) T S M (fun b o q => hk b o (bk b o q)) hns hself (hk _ _ hx) (fun s1 t1 g1 o1 k1 x1 => ?_))
  refine wpAt_of_wpAny ?_
  -- the first store
  cases hfs : fs with
  | nil => exact absurd hfs hf0
  | cons g gs =>
    cases hus : us with
    | nil =>
      rw [hus, hfs] at hl
      simp at hl
    | cons u us' =>
      cases hzs : zs with
      | nil =>
        rw [hus, hzs] at hz
        cases hz
      | cons z zs' =>
        obtain ⟨rz, rzs⟩ : L2.RelV z u ∧ L2.Vals zs' us' := by
          rw [hus, hzs] at hz
          cases hz with
          | cons a b => exact ⟨a, b⟩
        have hgf : g ∈ fs := by
          rw [hfs]
          exact List.mem_cons_self
        have hgm : g.nm ∈ (("self" : Str) :: fs.map Fld.nm) := List.mem_cons_of_mem _ (List.mem_map_of_mem hgf)
        have hns1 : s1.heap.Ns s.heap.objs.size (fun y => ((("self" : Str) :: fs.map Fld.nm).zip (.ref e :: us)).reverse.lookup y) := by
          obtain ⟨o, es, ep, ho, r⟩ := hns
          exact ⟨o, es, ep, k1 _ _ heL.symm ho, r⟩
        have X1 : K.In s1.heap := fun b o q => k1 b o (fun zz => by
          have hb := M.kin b _ q
          rw [zz, hbe] at hb
          cases hb) (hk b o (X b o q))
        have bk1 : ∀ b o, base.get? b = some o → s1.heap.get? b = some o := fun b o q => k1 b o (fun zz => by
          rw [zz, hbe] at q
          cases q) (hk b o (bk b o q))
        have hmap : ∀ (i : Nat) y v, (g :: gs)[i]? = some y → (u :: us')[i]? = some v → (fun y => ((("self" : Str) :: fs.map Fld.nm).zip (.ref e :: us)).reverse.lookup y) y.nm = some v := fun i y v e1 e2 =>
          zip_look (i := i + 1) S.nod (by
            rw [hfs, List.getElem?_cons_succ, List.getElem?_map, e1]
            rfl) (by
            rw [hus, List.getElem?_cons_succ]
            exact e2)
        rw [show ((g :: gs).map Fld.st) = g.st :: gs.map Fld.st from rfl]
        refine wpAny_execs_cons (plainObj_wpAny_Assign_Attribute ?_ (S.swap g hgf _ rfl))
        refine ESX.ldL (v := u) hns1 (hmap 0 g u rfl rfl) ?_ S.kind (S.loc _ hgm) (S.dbg _ hgm)
        refine ESX.ldL (v := .ref e) hns1 hself ?_ S.kind (S.loc _ List.mem_cons_self) (by decide)
        obtain ⟨hp, gg, d, t, os⟩ := s1
        refine set_plain X1 (ox := excO C t1) (od := none) ⟨x1, rfl, rfl, trivial⟩ T.sa ?_
        refine exc_osa X1 x1 hcl hmr hh (T.noN g hgf) (fun h' tk' dx k2 dn dne hx2 hn2 => ?_)
        have hs1 : s.heap.objs.size < hp.objs.size := by
          obtain ⟨o, es, ep, ho, r⟩ := hns1
          exact Heap.lt_size ho
        have hdb : ∀ o, base.get? dx ≠ some o := fun o q => by
          have := Heap.lt_size (bk1 dx o q)
          exact absurd (Nat.lt_of_lt_of_le this dn) (Nat.lt_irrefl _)
        have hdL : dx ≠ s.heap.objs.size := fun zz => by
          rw [zz] at dn
          exact absurd (Nat.lt_of_lt_of_le hs1 dn) (Nat.lt_irrefl _)
        have kL : h'.Ns s.heap.objs.size (fun y => ((("self" : Str) :: fs.map Fld.nm).zip (.ref e :: us)).reverse.lookup y) := by
          obtain ⟨o, es, ep, ho, r⟩ := hns1
          exact ⟨o, es, ep, k2 _ _ heL.symm ho, r⟩
        have r2 : ∀ f, L2.RelO (([(g.nm, z)] : List (Str × L2.V)).lookup f) ((fun y => if y = g.nm then some u else none) f) := fun f => L2.relO_put (fs := []) (mA := fun _ => none) rz (fun _ => True.intro) f
        refine stores_ok T S M (L := s.heap.objs.size) hself dne hdL hdb gs us' zs' [(g.nm, z)] _ ⟨h', gg, d, tk', os⟩ (fun y hy => by rw [hfs]; exact List.mem_cons_of_mem _ hy) rzs (by rw [hus, hfs] at hl; simpa using hl)
          (fun i y v e1 e2 => hmap (i + 1) y v (by simpa using e1) (by simpa using e2)) (fun b o q => k2 b o (fun zz => by rw [zz, hbe] at q; cases q) (bk1 b o q)) kL hx2 hn2 r2 (by
            rw [hfs] at hf1
            simp at hf1 ⊢
            omega) (fun s' mA' a1 a2 a3 a4 a5 => ?_)
        refine hq s' dx t1 ⟨a1.trans g1, a2.trans o1, fun b o hb q => ?_, a3 _ _ dne.symm hx2, Nat.le_trans (Nat.le_of_lt hs1) dn, dne, mA', a4, ?_⟩
        · have hbd : b ≠ dx := fun zz => by
            have := Heap.lt_size q
            rw [zz] at this
            exact absurd (Nat.lt_of_lt_of_le (Nat.lt_trans this hs1) dn) (Nat.lt_irrefl _)
          exact a3 b o hbd (k2 b o hb (k1 b o hb (hk b o q)))
        · rw [hfs, hzs]
          simpa [fldsV] using a5
/-- C(..), all that stood kept -/
theorem ex_made (T : ExT prog K mg x C fI cc ca qual params scope sp fs) (S : ExS prog params scope sp fs) (M : L2.Mod K mg base) {us : List Value} {zs : List L2.V}
    (bk : ∀ b o, base.get? b = some o → s.heap.get? b = some o) (bsz : base.objs.size ≤ s.heap.objs.size) (hroom : A.depth + 1 < recursionLimit) (hz : L2.Vals zs us) (hl : us.length = fs.length) (hf0 : fs ≠ []) (hf1 : fs.length ≤ 100)
    (hq : ∀ s' e dx t1, s'.gens = s.gens → s'.os = s.os → (∀ b o, s.heap.get? b = some o → s'.heap.get? b = some o) → s.heap.objs.size ≤ e → s'.heap.get? e = some { cls := .ref C, dict := some dx, data := .fields #[.ref t1, .none, .none, .none, .bool false, .none] } →
      s.heap.objs.size ≤ dx → dx ≠ e → (∃ mA, s'.heap.Ns1 dx mA ∧ ∀ f, L2.RelO ((fldsV (fs.map Fld.nm) zs []).lookup f) (mA f)) → R (.ok (.ret (.ref e))) s') : codeAny (model prog w) A (.call (.ref C) ⟨us, []⟩) R s := by
  obtain ⟨nm, q, N, bs, bm, sn, sub, ab, col, dd, k0, k1, k2, k3, k5, hC, hbm⟩ := T.cls
  have X : K.In s.heap := M.kin.keeps bk
  obtain ⟨hp, g, d, t, os⟩ := s
  have k : ∀ b o, hp.get? b = some o → ((hp.push (kdv_tup us)).push (excO C hp.objs.size)).get? b = some o := fun b o e => Heap.get?_push_of_some _ (Heap.get?_push_of_some _ e)
  have hget : ((hp.push (kdv_tup us)).push (excO C hp.objs.size)).get? (hp.objs.size + 1) = some (excO C hp.objs.size) := by heap_get
  refine call_own F.excBase_ValueError (fun X => refsVE_contains X bm hbm) (X _ _ hC) (looks_findIn X T.iC) (fun self => bind_fn X self T.tC) (by rw [hl, sizeLine_eq]; omega) ?_
  refine ex_init (s := ⟨(hp.push (kdv_tup us)).push (excO C hp.objs.size), g, d, t, os⟩) T S M (fun b o e => k b o (bk b o e)) hget ?_ hz hl hf0 hf1 ?_ fun s' dx t1 I => ?_
  · show A.depth + 1 < recursionLimit
    exact hroom
  · cases e : base.get? (hp.objs.size + 1) with
    | none => rfl
    | some o =>
      have := Heap.lt_size (bk _ _ e)
      exact absurd (Nat.lt_of_succ_lt this) (Nat.lt_irrefl _)
  · have hsz : ((hp.push (kdv_tup us)).push (excO C hp.objs.size)).objs.size = hp.objs.size + 1 + 1 := by rw [Heap.size_push, Heap.size_push]
    have hd := I.dbig
    refine ⟨rfl, hq s' (hp.objs.size + 1) dx t1 I.gens I.os (fun b o e => I.keep b o (Nat.ne_of_lt (Nat.lt_succ_of_lt (Heap.lt_size e))) (k b o e)) (Nat.le_succ _) I.obj ?_ I.dne I.ns⟩
    have hd' : hp.objs.size + 1 + 1 ≤ dx := by
      rw [← hsz]
      exact hd
    exact Nat.le_trans (Nat.le_trans (Nat.le_succ _) (Nat.le_succ _)) hd'
end
end K38
namespace K38
open PySem PySem.Spec PyProof.Rows L2
/-- the reading of C(e, ..) -/
def tMkX (C : Addr) (names : List Str) (ta : TA) : L2.St → Hp → XK → Prop := fun σ H Q => ta σ H fun vs H1 => vs.length = names.length ∧ ∀ d, H1 d = none → Q (.ref C) (some d) (upd H1 d (.xd (fldsV names vs [])))
section
variable {X : Cx} {C fI cc ca : Addr} {x qual : Str} {params : Arguments} {scope : Scope} {sp : SupP} {fs : List Fld}
theorem pmk_x {a : Expr} {es : List Expr} {ta : TA} {p pos : Pos} {k : Nat} (T : ExT X.prog X.K X.mg x C fI cc ca qual params scope sp fs) (S : ExS X.prog params scope sp fs) (hf0 : fs ≠ []) (hf1 : fs.length ≤ 100) (hr : Room k X.A) (ha : PA X (a :: es) ta) (hg : Gl X x := by rfl)
    (hdb : (x == ("__debug__" : Str)) = false := by decide)
    (he : starEach (a :: es) X.env = (false, eval a X.env) :: starEach es X.env := by rfl) (hpl : (backTo pos (starEach es X.env)).any (·.1) = false := by rfl) :
    PMk X (.Call (.Name x p) (a :: es) [] pos) (tMkX C (fs.map Fld.nm) ta) := by
  intro pins s σ H Q I h
  refine wpAny_Call_Name_kw (ld_glob I hg T.gC ?_ hdb)
  refine PySem.W.callWith_K (h₀ := X.base) I.ok.mod.kin T.kC (thn (ha.run pos pins s σ H _ I h) fun us s1 hh => ?_) he hpl
  obtain ⟨vs, H1, I1, r1, hl, q1⟩ := hh
  refine ⟨I1.kIn, ?_⟩
  show wpAny _ _ (call (.ref C) us) _ _ _
  have hl2 : us.length = fs.length := by
    rw [← r1.length, hl, List.length_map]
  refine wpAny_call (ex_made T S I1.ok.mod I1.bk (Nat.le_trans I1.ok.bsz I1.sz) (by have := hr.dp; omega) r1 hl2 hf0 hf1 fun s' e d t1 hg' ho' hk hne hoe hnd hde hns => ?_)
  show MkP X pins σ Q (.ref e) s'
  obtain ⟨mA, hns, hrel⟩ := hns
  obtain ⟨G', g1, g2⟩ := restrict s'.heap fun b => decide (b ≠ e)
  have gk : ∀ b, b ≠ e → G'.get? b = s'.heap.get? b := fun b hb => g1 b (decide_eq_true hb)
  have ge : G'.get? e = none := g2 e (by simp)
  have old : ∀ b o, s1.heap.get? b = some o → G'.get? b = some o := fun b o q => (gk b (Nat.ne_of_lt (Nat.lt_of_lt_of_le (Heap.lt_size q) hne))).trans (hk b o q)
  have ob : ObjOk X.prog X.w (upd H1 d (.xd (fldsV (fs.map Fld.nm) vs []))) G' d (.xd (fldsV (fs.map Fld.nm) vs [])) :=
    ⟨mA, hns.at (fun o q => (gk d hde).trans q), hrel⟩
  have J0 : Inv X pins σ (upd H1 d (.xd (fldsV (fs.map Fld.nm) vs []))) ⟨G', s1.gens, s1.drawn, s'.toks, s1.os⟩ := I1.laid (t' := s'.toks) old hnd ob
  obtain ⟨h2, gn2, dr2, tk2, os2⟩ := s'
  obtain rfl : gn2 = s1.gens := hg'
  obtain rfl : os2 = s1.os := ho'
  refine ⟨e, _, _, ⟨G', s1.gens, s1.drawn, tk2, s1.os⟩, _, .ref C, some d, rfl, J0, fun b o q => ?_, ge, hoe, ⟨rfl, rfl⟩, rfl, rfl, ?_, rfl, I1.bare, raises_own T.exC T.tyC, q1 d (I1.hok.fresh hnd)⟩
  · by_cases hb : b = e
    · have q' : G'.get? b = some o := q
      rw [hb, ge] at q'
      cases q'
    · exact (gk b hb).symm.trans q
  · rw [upd_ne (Ne.symm hde)]
    exact I1.hok.fresh hne
/-- raise C(e, ..) -/
theorem ps_raiseX {a : Expr} {es : List Expr} {ta : TA} {W : WX} {p pos pos2 : Pos} {k : Nat} (hc : X.calm = true) (T : ExT X.prog X.K X.mg x C fI cc ca qual params scope sp fs) (S : ExS X.prog params scope sp fs) (hf0 : fs ≠ []) (hf1 : fs.length ≤ 100) (hr : Room k X.A) (tk : Takes X W) (ha : PA X (a :: es) ta)
    (hg : Gl X x := by rfl) (hdb : (x == ("__debug__" : Str)) = false := by decide)
    (he : starEach (a :: es) X.env = (false, eval a X.env) :: starEach es X.env := by rfl) (hpl : (backTo pos (starEach es X.env)).any (·.1) = false := by rfl) :
    PS X (.Raise (some (.Call (.Name x p) (a :: es) [] pos)) none pos2) (fun _ σ H => tMkX C (fs.map Fld.nm) ta σ H fun cls d H' => W cls d σ H') := ps_raise hc tk (pmk_x T S hf0 hf1 hr ha hg hdb he hpl)
end
end K38
end
section
/-! ## K38Txt -/
/-! What the written part says of the program's text; a def with its promise (Cal), its call. -/
namespace K38
open PySem PySem.Spec PyProof.Rows L2
/-- built-in names that the module does not bind -/
def frees : List Str := (["isinstance", "int", "bool", "range", "len", "enumerate", "str", "sorted", "tuple"] : List Str) ++ (["sum", "max", "zip", "list", "abs", "min", "all", "repr"] : List Str)
/-- the module's own names -/
def globs : List Str := (["is_whole", "two_to", "choose", "check_signs", "check_counts", "bits_of", "canonical", "check_pair", "cost", "check_many", "number_of_codes"] : List Str) ++
  ((["subsets", "lists_below", "all_codes", "_law_pen_of", "_law_draw", "_law_pick", "_law_counts_of", "_law_cost", "_law_all", "_law_ways", "_law_number", "_law_refused", "law"] : List Str) ++ (["Code", "Fillings"] : List Str))
abbrev PR : Program := PySem.Challenge.pw_leastjoined_k38_whole_lists_of_codes
/-! ### the error classes, out of the text -/
def supOf : Stmt → SupP
  | .Expr (.Call (.Attribute (.Call (.Name _ p0) [] [] p1) _ p2) [.Constant (.str m) j p3] [] p4) p5 => ⟨m, j, p0, p1, p2, p3, p4, p5⟩
  | _ => ⟨"", 0, default, default, default, default, default, default⟩
def fldOf : Stmt → Fld
  | .Assign [.Attribute (.Name _ p1) f p2] (.Name _ p3) p4 => ⟨f, p1, p2, p3, p4⟩
  | _ => ⟨"", default, default, default, default⟩
def spOf (st : Stmt) : SupP := supOf ((defBody st).getD 0 (.Pass default))
def fsOf (st : Stmt) : List Fld := ((defBody st).drop 1).map fldOf
abbrev sTooMany : Stmt := inClass (top 2) 0
abbrev sBadCount : Stmt := inClass (top 3) 0
abbrev sOtherSize : Stmt := inClass (top 8) 0
abbrev sBadSize : Stmt := inClass (top 9) 0
/-- the class x of the module is an error as its __init__ st says -/
def ExcAt (K : PySem.W.Frag) (mg : Str → Option Value) (x q : Str) (st : Stmt) : Prop :=
  ∃ fI cc ca, ExT PR K mg x (He.ga K x) fI cc ca q (defArgs st) (defScope st) (spOf st) (fsOf st)
theorem nm_TooMany : (fsOf sTooMany).map Fld.nm = (["what", "many", "most"] : List Str) := rfl
theorem nm_BadCount : (fsOf sBadCount).map Fld.nm = (["index"] : List Str) := rfl
theorem nm_OtherSize : (fsOf sOtherSize).map Fld.nm = (["many", "wanted"] : List Str) := rfl
theorem nm_BadSize : (fsOf sBadSize).map Fld.nm = (["size"] : List Str) := rfl
theorem exs_TooMany : ExS PR (defArgs sTooMany) (defScope sTooMany) (spOf sTooMany) (fsOf sTooMany) :=
  ⟨rfl, rfl, rfl, by decide +kernel, by decide +kernel, by decide +kernel, by decide +kernel, rfl, rfl, ⟨_, rfl, rfl⟩, by rfl, fun _ _ _ _ _ _ _ _ _ us hl => match us, hl with | [_, _, _, _], _ => rfl, fun _ _ _ _ _ => ⟨_, rfl⟩, fun f hf env he => by
    have h : f ∈ [fldOf ((defBody sTooMany).getD 1 (.Pass default)), fldOf ((defBody sTooMany).getD 2 (.Pass default)), fldOf ((defBody sTooMany).getD 3 (.Pass default))] := hf
    simp only [List.mem_cons, List.not_mem_nil, or_false] at h
    rcases h with rfl | rfl | rfl <;> rfl⟩
theorem exs_BadCount : ExS PR (defArgs sBadCount) (defScope sBadCount) (spOf sBadCount) (fsOf sBadCount) :=
  ⟨rfl, rfl, rfl, by decide +kernel, by decide +kernel, by decide +kernel, by decide +kernel, rfl, rfl, ⟨_, rfl, rfl⟩, by rfl, fun _ _ _ _ _ _ _ _ _ us hl => match us, hl with | [_, _], _ => rfl, fun _ _ _ _ _ => ⟨_, rfl⟩, fun f hf env he => by
    have h : f ∈ [fldOf ((defBody sBadCount).getD 1 (.Pass default))] := hf
    simp only [List.mem_cons, List.not_mem_nil, or_false] at h
    rcases h with rfl <;> rfl⟩
theorem exs_OtherSize : ExS PR (defArgs sOtherSize) (defScope sOtherSize) (spOf sOtherSize) (fsOf sOtherSize) :=
  ⟨rfl, rfl, rfl, by decide +kernel, by decide +kernel, by decide +kernel, by decide +kernel, rfl, rfl, ⟨_, rfl, rfl⟩, by rfl, fun _ _ _ _ _ _ _ _ _ us hl => match us, hl with | [_, _, _], _ => rfl, fun _ _ _ _ _ => ⟨_, rfl⟩, fun f hf env he => by
    have h : f ∈ [fldOf ((defBody sOtherSize).getD 1 (.Pass default)), fldOf ((defBody sOtherSize).getD 2 (.Pass default))] := hf
    simp only [List.mem_cons, List.not_mem_nil, or_false] at h
    rcases h with rfl | rfl <;> rfl⟩
theorem exs_BadSize : ExS PR (defArgs sBadSize) (defScope sBadSize) (spOf sBadSize) (fsOf sBadSize) :=
  ⟨rfl, rfl, rfl, by decide +kernel, by decide +kernel, by decide +kernel, by decide +kernel, rfl, rfl, ⟨_, rfl, rfl⟩, by rfl, fun _ _ _ _ _ _ _ _ _ us hl => match us, hl with | [_, _], _ => rfl, fun _ _ _ _ _ => ⟨_, rfl⟩, fun f hf env he => by
    have h : f ∈ [fldOf ((defBody sBadSize).getD 1 (.Pass default))] := hf
    simp only [List.mem_cons, List.not_mem_nil, or_false] at h
    rcases h with rfl <;> rfl⟩
/-- the facts -/
structure Txt (K : PySem.W.Frag) (mg : Str → Option Value) : Prop where
  fr : ∀ x ∈ frees, mg x = none
  gl : ∀ x ∈ globs, mg x = some (.ref (He.ga K x))
  fd : ∀ d ∈ fn, ∃ fd, FunD K d.name d.qual d.params d.body d.scope (d.dvs K) (d.kws K) (He.fAd K d.at_) fd
  mSigns : ∃ t, mg "MOST_SIGNS" = some (.int 26 t)
  mLength : ∃ t, mg "MOST_LENGTH" = some (.int 25 t)
  mListed : ∃ t, mg "MOST_LISTED" = some (.int 7 t)
  xTooMany : ExcAt K mg "TooMany" "TooMany.__init__" sTooMany
  xBadCount : ExcAt K mg "BadCount" "BadCount.__init__" sBadCount
  xOtherSize : ExcAt K mg "OtherSize" "OtherSize.__init__" sOtherSize
  xBadSize : ExcAt K mg "BadSize" "BadSize.__init__" sBadSize
/-- a def of the module: where it stands, its promise -/
structure Cal (P : Program) (w : World) (K : PySem.W.Frag) (mg : Str → Option Value) (base : Heap) (k : Nat) (x : Str) (sp : Sp) : Prop where
  ex : ∃ (f : Addr) (fd : FuncData) (ps : List Str), mg x = some (.ref f) ∧ PySem.W.keepIn K (.ref f) = true ∧ Binds K fd ps [] ∧ FnOk P w K mg base (L2.CX P w) k f fd ps sp
theorem Cal.mono {P : Program} {w : World} {K : PySem.W.Frag} {mg : Str → Option Value} {base : Heap} {j k : Nat} {x : Str} {sp : Sp} (c : Cal P w K mg base j x sp) (h : j ≤ k) : Cal P w K mg base k x sp := by
  obtain ⟨f, fd, ps, h1, h2, h3, h4⟩ := c.ex
  exact ⟨f, fd, ps, h1, h2, h3, h4.mono h⟩
theorem Cal.imp {P : Program} {w : World} {K : PySem.W.Frag} {mg : Str → Option Value} {base : Heap} {k : Nat} {x : Str} {sp sp' : Sp} (c : Cal P w K mg base k x sp) (h : ∀ vs H Q E, sp' vs H Q E → sp vs H Q E) : Cal P w K mg base k x sp' := by
  obtain ⟨f, fd, ps, h1, h2, h3, h4⟩ := c.ex
  exact ⟨f, fd, ps, h1, h2, h3, h4.imp h⟩
section
variable {P : Program} {w : World} {K : PySem.W.Frag} {mg : Str → Option Value} {base : Heap}
/-- a def of the module keeps its promise -/
theorem cal_of (T : Txt K mg) {x : Str} {st : Stmt} {N ps : List Str} {k : Nat} {sp : Sp} (hd : dGlo x st ∈ fn) (hx : x ∈ globs) (S : FnScope N ps (defScope st))
    (hb : ∀ (kV doc pm : Value) (an : Option Addr) (cdv ct : Value) (us : List Value), us.length = ps.length → bindArgs (PySem.W.fnOf x x (defArgs st) (defBody st) (defScope st) .none kV doc pm an cdv ct) ⟨us, []⟩ = pure (ps.zip us))
    (len : ∀ vs H Q E, sp vs H Q E → vs.length = ps.length)
    (hbody : ∀ (cdv : Value) (A : Around) (outer : List Env) (s : Shared) (H : Hp) (vs : List V) (Q : VK) (E : XK), Room k (A.deeper (envOfC x (defScope st) s.heap.objs.size (He.ga K x) cdv)) → sp vs H Q E →
      ∃ t, PSs (cxOf (L2.CX P w) P w K mg base N x (defScope st) (He.ga K x) cdv A outer s H E) (defBody st) t ∧ t { nx := fun _ H' => Q .non H', rt := Q } (start N vs) H) : Cal P w K mg base (k + 1) x sp := by
  obtain ⟨fd, F⟩ := T.fd _ hd
  exact ⟨_, fd, ps, T.gl x hx, F.kp, F.bindsN hb, F.ok S len hbody⟩
end
section
variable {X : Cx} {j k : Nat} {x : Str} {sp : Sp} {E : XK} {p pos : Pos} {e : Expr} {es : List Expr} {t : TA}
/-- the call of such a def -/
theorem pe_x (c : Cal X.prog X.w X.K X.mg X.base k x sp) (hr : Room j X.A) (hk : k ≤ j) (hx : Passes (L2.CX X.prog X.w) X E) (ha : PA X (e :: es) t) (hg : Gl X x := by rfl)
    (hdb : (x == ("__debug__" : Str)) = false := by decide) (he : starEach (e :: es) X.env = (false, eval e X.env) :: starEach es X.env := by rfl) (hpl : (backTo pos (starEach es X.env)).any (·.1) = false := by rfl) :
    PE X (.Call (.Name x p) (e :: es) [] pos) (tCall sp [] E t) := by
  obtain ⟨f, fd, ps, h1, h2, h3, h4⟩ := c.ex
  exact pe_call h4 (hr.mono hk) hg h1 h2 h3 .nil hx ha hdb he hpl
/-- an int of the module -/
theorem pe_ci {i : Int} (hg : Gl X x) (h : ∃ t, X.mg x = some (.int i t)) (hd : (x == ("__debug__" : Str)) = false := by decide) : PE X (.Name x pos) (tC (.int i)) := by
  obtain ⟨t, e⟩ := h
  exact pe_glob hg e ⟨t, rfl⟩ hd
end
/-- what is raised in a def of ours leaves it -/
theorem tkX {P : Program} {w : World} {K : PySem.W.Frag} {mg : Str → Option Value} {base : Heap} {N : List Str} {q : Str} {sc : Scope} {f : Addr} {cd : Value} {A : Around} {outer : List Env} {s : Shared} {H : Hp} {E : XK} :
    Takes (cxOf (L2.CX P w) P w K mg base N q sc f cd A outer s H E) (fun cls d _ H => E cls d H) := takes_of rfl rfl rfl rfl
theorem psX {P : Program} {w : World} {K : PySem.W.Frag} {mg : Str → Option Value} {base : Heap} {N : List Str} {q : Str} {sc : Scope} {f : Addr} {cd : Value} {A : Around} {outer : List Env} {s : Shared} {H : Hp} {E : XK} :
    Passes (L2.CX P w) (cxOf (L2.CX P w) P w K mg base N q sc f cd A outer s H E) E := passes_call tkX fun _ _ _ _ h => h
end K38
end
section
/-! ## K38A -/
/-! The small defs. -/
namespace K38
open PySem PySem.Spec PyProof.Rows L2
theorem ifF {c : Bool} {A B : Prop} (h : c = false) (b : B) : if c = true then A else B := by
  subst h
  exact iteF b
theorem ifT {c : Bool} {A B : Prop} (h : c = true) (a : A) : if c = true then A else B := by
  subst h
  exact iteT a
section
variable {w : World} {K : PySem.W.Frag} {mg : Str → Option Value} {base : Heap}
theorem po_cx {P : Program} {N : List Str} {q : Str} {sc : Scope} {f : Addr} {cd : Value} {A : Around} {outer : List Env} {s : Shared} {H : Hp} {E : XK} :
    PassesOwn (model P w) (cxOf (L2.CX P w) P w K mg base N q sc f cd A outer s H E).A (cxOf (L2.CX P w) P w K mg base N q sc f cd A outer s H E).env (cxOf (L2.CX P w) P w K mg base N q sc f cd A outer s H E).xe := passes_of rfl
/-! ### two_to -/
theorem scTwoTo : FnScope ["many", "found", "turn"] ["many"] (defScope sTwoTo) := ⟨rfl, rfl, rfl, by decide +kernel, rfl, by decide +kernel, by decide +kernel⟩
def spTwoTo : Sp := fun vs H Q _ => ∃ i : Int, vs = [.int i] ∧ -1000 ≤ i ∧ i ≤ 1000 ∧ Q (.int ((2 ^ i.toNat : Nat) : Int)) H
theorem ok_two_to (T : Txt K mg) : Cal PR w K mg base 1 "two_to" spTwoTo := by
  refine cal_of T (st := sTwoTo) (N := ["many", "found", "turn"]) (ps := ["many"]) (List.mem_of_getElem? (i := 1) rfl) (by decide) scTwoTo (fun _ _ _ _ _ _ us hl => match us, hl with | [_], _ => rfl) (fun vs H Q E h => by
    obtain ⟨i, rfl, _⟩ := h
    rfl) (fun cdv A outer s H vs Q E hr h => ?_)
  obtain ⟨i, rfl, lo, hi, q⟩ := h
  refine ⟨_, PSs.nox (pss_cons (ps_set (i := 1) scTwoTo.nd rfl (Or.inl rfl) pe_int) (pss_cons (ps_for PassesOwn.never rfl (pi_range1 (by rfl) (T.fr _ (by decide)) (pa_cons (pv 0) pa_nil)) (pg_name (i := 2) scTwoTo.nd rfl (Or.inl rfl))
    (pss_one (ps_aug (i := 1) scTwoTo.nd rfl (Or.inl rfl) pe_int iop_mul))) (pss_one (ps_ret (pv 1))))), ?_⟩
  refine ⟨_, rfl, i, rfl, by omega, by omega, for_range (lo := 0) (n := i.toNat) (fun k σ H2 => ∃ v : Option V, σ = [some (.int i), some (.int ((2 ^ k : Nat) : Int)), v] ∧ H2 = H) ⟨none, rfl, rfl⟩ ?_ ?_⟩
  · rintro k σ H2 hk ⟨v, rfl, rfl⟩
    refine ⟨_, rfl, _, _, rfl, rfl, .inr ⟨by decide, by decide⟩, some (V.int (0 + (k : Int))), ?_, rfl⟩
    show [some (V.int i), some (V.int (((2 ^ k : Nat) : Int) * 2)), some (V.int (0 + (k : Int)))] = _
    rw [show (((2 ^ k : Nat) : Int) * 2) = ((2 ^ (k + 1) : Nat) : Int) by rw [Nat.pow_succ, Int.natCast_mul]; rfl]
  · rintro σ H2 ⟨v, rfl, rfl⟩
    exact ⟨_, rfl, q⟩
/-! ### choose, _law_ways -/
def chN (m f : Nat) : Nat := (List.range f).foldl (fun acc k => acc * (m - k) / (k + 1)) 1
theorem chN_zero (m : Nat) : chN m 0 = 1 := rfl
theorem chN_succ (m f : Nat) : chN m (f + 1) = chN m f * (m - f) / (f + 1) := by
  unfold chN
  rw [List.range_succ, List.foldl_append]
  rfl
theorem ch_step {m f : Nat} (h : f ≤ m) : (chN m f : Int) * ((m : Int) - (0 + (f : Int))) / ((0 + (f : Int)) + 1) = (chN m (f + 1) : Int) := by
  rw [chN_succ]
  have e1 : (m : Int) - (0 + (f : Int)) = ((m - f : Nat) : Int) := by omega
  have e2 : (0 + (f : Int)) + 1 = ((f + 1 : Nat) : Int) := by omega
  rw [e1, e2, ← Int.natCast_mul, ← Int.natCast_ediv]
theorem scChoose : FnScope ["many", "few", "found", "at"] ["many", "few"] (defScope sChoose) := ⟨rfl, rfl, rfl, by decide +kernel, rfl, by decide +kernel, by decide +kernel⟩
def spChoose : Sp := fun vs H Q _ => ∃ m f : Nat, vs = [.int m, .int f] ∧ f ≤ m ∧ m ≤ 1000 ∧ Q (.int (chN m f : Nat)) H
theorem ok_choose (T : Txt K mg) : Cal PR w K mg base 1 "choose" spChoose := by
  refine cal_of T (st := sChoose) (N := ["many", "few", "found", "at"]) (ps := ["many", "few"]) (List.mem_of_getElem? (i := 2) rfl) (by decide) scChoose (fun _ _ _ _ _ _ us hl => match us, hl with | [_, _], _ => rfl) (fun vs H Q E h => by
    obtain ⟨m, f, rfl, _⟩ := h
    rfl) (fun cdv A outer s H vs Q E hr h => ?_)
  obtain ⟨m, f, rfl, hf, hm, q⟩ := h
  refine ⟨_, PSs.nox (pss_cons (ps_if (pt_cmpR op_gt (pv 1) (pv 0) (nomark _)) (pss_one (ps_ret pe_int)) pss_nil)
    (pss_cons (ps_set (i := 2) scChoose.nd rfl (Or.inl rfl) pe_int) (pss_cons (ps_for PassesOwn.never rfl (pi_range1 (by rfl) (T.fr _ (by decide)) (pa_cons (pv 1) pa_nil)) (pg_name (i := 3) scChoose.nd rfl (Or.inl rfl))
    (pss_one (ps_set (i := 2) scChoose.nd rfl (Or.inl rfl) (pe_op op_fdiv (pe_op op_mul (pv 2) (pe_op op_sub (pv 0) (pv 3))) (pe_op op_add (pv 3) pe_int))))) (pss_one (ps_ret (pv 2)))))), ?_⟩
  refine ⟨_, rfl, _, rfl, _, _, rfl, rfl, _, rfl, ?_⟩
  refine ifF (decide_eq_false (by omega)) ?_
  refine ⟨_, rfl, f, rfl, by omega, by omega, for_range (lo := 0) (n := f) (fun k σ H2 => ∃ v : Option V, σ = [some (.int m), some (.int f), some (.int (chN m k : Nat)), v] ∧ H2 = H) ⟨none, rfl, rfl⟩ ?_ ?_⟩
  · rintro k σ H2 hk ⟨v, rfl, rfl⟩
    refine ⟨_, rfl, _, rfl, _, rfl, _, _, rfl, rfl, _, _, rfl, rfl, .inr ⟨by omega, by omega⟩, _, rfl, _, _, rfl, rfl, _, _, rfl, rfl, ⟨by omega, by omega⟩, some (V.int (0 + (k : Int))), ?_, rfl⟩
    show [some (V.int m), some (V.int f), some (V.int ((chN m k : Int) * ((m : Int) - (0 + (k : Int))) / ((0 + (k : Int)) + 1))), some (V.int (0 + (k : Int)))] = _
    rw [ch_step (by omega)]
  · rintro σ H2 ⟨v, rfl, rfl⟩
    exact ⟨_, rfl, q⟩
theorem scLawWays : FnScope ["_law_many", "_law_few", "_law_found", "_law_at"] ["_law_many", "_law_few"] (defScope sLawWays) := ⟨rfl, rfl, rfl, by decide +kernel, rfl, by decide +kernel, by decide +kernel⟩
theorem ok_law_ways (T : Txt K mg) : Cal PR w K mg base 1 "_law_ways" spChoose := by
  refine cal_of T (st := sLawWays) (N := ["_law_many", "_law_few", "_law_found", "_law_at"]) (ps := ["_law_many", "_law_few"]) (List.mem_of_getElem? (i := 20) rfl) (by decide) scLawWays (fun _ _ _ _ _ _ us hl => match us, hl with | [_, _], _ => rfl) (fun vs H Q E h => by
    obtain ⟨m, f, rfl, _⟩ := h
    rfl) (fun cdv A outer s H vs Q E hr h => ?_)
  obtain ⟨m, f, rfl, hf, hm, q⟩ := h
  refine ⟨_, PSs.nox (pss_cons (ps_set (i := 2) scLawWays.nd rfl (Or.inl rfl) pe_int) (pss_cons (ps_for PassesOwn.never rfl (pi_range1 (by rfl) (T.fr _ (by decide)) (pa_cons (pv 1) pa_nil)) (pg_name (i := 3) scLawWays.nd rfl (Or.inl rfl))
    (pss_one (ps_set (i := 2) scLawWays.nd rfl (Or.inl rfl) (pe_op op_fdiv (pe_op op_mul (pv 2) (pe_op op_sub (pv 0) (pv 3))) (pe_op op_add (pv 3) pe_int))))) (pss_one (ps_ret (pv 2))))), ?_⟩
  refine ⟨_, rfl, f, rfl, by omega, by omega, for_range (lo := 0) (n := f) (fun k σ H2 => ∃ v : Option V, σ = [some (.int m), some (.int f), some (.int (chN m k : Nat)), v] ∧ H2 = H) ⟨none, rfl, rfl⟩ ?_ ?_⟩
  · rintro k σ H2 hk ⟨v, rfl, rfl⟩
    refine ⟨_, rfl, _, rfl, _, rfl, _, _, rfl, rfl, _, _, rfl, rfl, .inr ⟨by omega, by omega⟩, _, rfl, _, _, rfl, rfl, _, _, rfl, rfl, ⟨by omega, by omega⟩, some (V.int (0 + (k : Int))), ?_, rfl⟩
    show [some (V.int m), some (V.int f), some (V.int ((chN m k : Int) * ((m : Int) - (0 + (k : Int))) / ((0 + (k : Int)) + 1))), some (V.int (0 + (k : Int)))] = _
    rw [ch_step (by omega)]
  · rintro σ H2 ⟨v, rfl, rfl⟩
    exact ⟨_, rfl, q⟩
/-! ### is_whole -/
/-- a value that is no int: None, a bool, a text, a list -/
def OddV (H : Hp) (v : V) : Prop := v = .non ∨ (∃ b, v = .bl b) ∨ (∃ z, v = .str z) ∨ ∃ a xs, v = .ref a ∧ H a = some (.lst xs)
theorem scWhole : FnScope ["value", "least"] ["value", "least"] (defScope sIsWhole) := ⟨rfl, rfl, rfl, by decide +kernel, rfl, by decide +kernel, by decide +kernel⟩
def spWhole : Sp := fun vs H Q _ => ∃ (v : V) (l : Int), vs = [v, .int l] ∧ ((∃ i, v = .int i ∧ Q (.bl (decide (l ≤ i))) H) ∨ (OddV H v ∧ Q (.bl false) H))
theorem ok_is_whole (T : Txt K mg) : Cal PR w K mg base 1 "is_whole" spWhole := by
  refine cal_of T (st := sIsWhole) (N := ["value", "least"]) (ps := ["value", "least"]) (List.mem_of_getElem? (i := 0) rfl) (by decide) scWhole (fun _ _ _ _ _ _ us hl => match us, hl with | [_, _], _ => rfl) (fun vs H Q E h => by
    obtain ⟨v, l, rfl, _⟩ := h
    rfl) (fun cdv A outer s H vs Q E hr h => ?_)
  obtain ⟨v, l, rfl, h⟩ := h
  have bInt : bootBuiltins "int" = some (.type "int") := by decide +kernel
  have bBool : bootBuiltins "bool" = some (.type "bool") := by decide +kernel
  refine ⟨_, PSs.nox (pss_one (ps_ret (pe_and (pe_callB call_isi (by rfl) (T.fr _ (by decide)) (by decide +kernel) (pa_cons (pv 0) (pa_cons (pe_bltn (v := .ty "int") (by rfl) (T.fr _ (by decide)) bInt rfl) pa_nil)))
    (pe_and (pe_not (pe_callB call_isi (by rfl) (T.fr _ (by decide)) (by decide +kernel) (pa_cons (pv 0) (pa_cons (pe_bltn (v := .ty "bool") (by rfl) (T.fr _ (by decide)) bBool rfl) pa_nil))))
    (pe_one (pe_cmpR op_ge (pv 0) (pv 1) (nomark _))))))), ?_⟩
  rcases h with ⟨i, rfl, q⟩ | ⟨o, q⟩
  · refine ⟨_, rfl, _, _, _, _, true, rfl, .ty "int", .base (.int i), kit_ty (by decide +kernel), _, rfl, iteT ?_⟩
    refine ⟨_, rfl, _, _, _, _, false, rfl, .ty "bool", .base (.int i), kit_ty (by decide +kernel), _, rfl, _, rfl, iteT ?_⟩
    exact ⟨_, rfl, _, rfl, _, _, rfl, rfl, q⟩
  · rcases o with rfl | ⟨b, rfl⟩ | ⟨z, rfl⟩ | ⟨a, xs, rfl, ha⟩
    · exact ⟨_, rfl, _, _, _, _, false, rfl, .ty "int", .base .non, kit_ty (by decide +kernel), _, rfl, iteF q⟩
    · refine ⟨_, rfl, _, _, _, _, true, rfl, .ty "int", .base (.bl b), kit_ty (by decide +kernel), _, rfl, iteT ?_⟩
      exact ⟨_, rfl, _, _, _, _, true, rfl, .ty "bool", .base (.bl b), kit_ty (by decide +kernel), _, rfl, _, rfl, iteF q⟩
    · exact ⟨_, rfl, _, _, _, _, false, rfl, .ty "int", .base (.str z), kit_ty (by decide +kernel), _, rfl, iteF q⟩
    · exact ⟨_, rfl, _, _, _, _, false, rfl, .ty "int", .base (.lst ha), kit_ty (by decide +kernel), _, rfl, iteF q⟩
end
end K38
end
section
/-! ## K38Walk -/
/-! enumerate and zip over lists and tuples in any mix. -/
namespace K38
open PySem PySem.Spec PyProof.Rows L2
/-- a list (true) or a tuple (false) of xs stands at a -/
def SqA (b : Bool) (K : PySem.W.Frag) (H : Hp) (a : Addr) (xs : List V) : Prop := if b = true then SqL K H a xs else SqT K H a xs
theorem SqA.l {K : PySem.W.Frag} {H : Hp} {a : Addr} {xs : List V} (h : SqL K H a xs) : SqA true K H a xs := h
theorem SqA.t {K : PySem.W.Frag} {H : Hp} {a : Addr} {xs : List V} (h : SqT K H a xs) : SqA false K H a xs := h
/-- in the heap -/
def RawA (b : Bool) (h : Heap) (a : Addr) (items : Array Value) : Prop := if b = true then h.IsList a items else h.IsTuple a items
/-- its iterator -/
def ItrA (b : Bool) (h : Heap) (it a : Addr) (i : Nat) : Prop := if b = true then h.IsListIter it a i else h.IsTupleIter it a i
def itrO (b : Bool) (a : Addr) : Obj := if b = true then { cls := .type "list_iterator", data := .fields #[.ref a, .int 0 0] } else { cls := .type "tuple_iterator", data := .fields #[.ref a, .int 0 0] }
theorem begins_A (b : Bool) (a : Addr) (items : Array Value) : Begins (.ref a) (itrO b a) fun h => RawA b h a items := by
  cases b
  · exact begins_tuple a items
  · exact begins_list a items
theorem ItrA.of {b : Bool} {h : Heap} {it a : Addr} (e : h.get? it = some (itrO b a)) : ItrA b h it a 0 := by
  cases b
  · exact ⟨_, e, rfl, rfl⟩
  · exact ⟨_, e, rfl, rfl⟩
theorem ItrA.obj {b : Bool} {h : Heap} {it a : Addr} {i : Nat} (x : ItrA b h it a i) : ∃ o, h.get? it = some o ∧ ∀ v, o.data ≠ .cell v := by
  cases b
  · obtain ⟨o, e, c, d⟩ := x
    exact ⟨o, e, fun v z => by rw [d] at z; cases z⟩
  · obtain ⟨o, e, c, d⟩ := x
    exact ⟨o, e, fun v z => by rw [d] at z; cases z⟩
theorem ItrA.at {b : Bool} {h h' : Heap} {it a : Addr} {i : Nat} (x : ItrA b h it a i) (k : ∀ o, h.get? it = some o → h'.get? it = some o) : ItrA b h' it a i := by
  cases b
  · obtain ⟨o, e, r⟩ := x
    exact ⟨o, k o e, r⟩
  · obtain ⟨o, e, r⟩ := x
    exact ⟨o, k o e, r⟩
theorem ItrA.ne {b : Bool} {h : Heap} {it a : Addr} {i : Nat} {items : Array Value} (x : ItrA b h it a i) (y : RawA b h a items) : a ≠ it := by
  cases b
  · obtain ⟨o, e, c, d⟩ := x
    obtain ⟨o2, e2, c2, _⟩ := y
    intro z
    rw [z, e] at e2
    cases e2
    rw [c] at c2
    simp at c2
  · obtain ⟨o, e, c, d⟩ := x
    obtain ⟨o2, e2, c2, _⟩ := y
    intro z
    rw [z, e] at e2
    cases e2
    rw [c] at c2
    simp at c2
theorem draws_A {prog : Program} {w : World} {A : Around} (hh : A.handled = none) (b : Bool) (it a : Addr) (hne : a ≠ it) (items : Array Value) :
    Draws prog w A it [it, a] items.size (fun i v => items[i]? = some v) (fun i h => ItrA b h it a i ∧ RawA b h a items) := by
  cases b
  · exact Draws.tuple hh it a hne items
  · exact Draws.list hh it a hne items
section
variable {X : Cx} {pins : List (Addr × Obj)} {σ : L2.St} {H : Hp} {s : Shared} {a : Addr} {b : Bool} {xs ys : List V}
theorem inv_A (I : Inv X pins σ H s) (h : SqA b X.K H a xs) : ∃ its : List Value, Vals xs its ∧ RawA b s.heap a its.toArray ∧ xs.length ≤ sizeLine := by
  cases b
  · obtain ⟨its, rv, p, z⟩ := I.tuple h
    exact ⟨its, rv, p, z⟩
  · obtain ⟨its, rv, p, z⟩ := I.list h
    exact ⟨its, rv, p.isList, z⟩
theorem inj_A (I : Inv X pins σ H s) (h : SqA b X.K H a xs) (h' : SqA b X.K H a ys) : xs = ys := by
  cases b
  · exact I.tuple_inj h h'
  · exact I.list_inj h h'
end
/-! ### enumerate -/
def IteA (b : Bool) (K : PySem.W.Frag) (a : Addr) : It :=
  ⟨fun i H => ∃ (xs : List V) (x : V), SqA b K H a xs ∧ xs[i]? = some x, fun i H v H' => ∃ T x, v = .ref T ∧ H T = none ∧ H' = upd H T (.tup [.int (i : Nat), x]) ∧ ∀ xs, SqA b K H a xs → xs[i]? = some x, fun i H => ∃ xs : List V, SqA b K H a xs ∧ xs.length = i⟩
theorem turn_enumA {P : Program} {w : World} {K : PySem.W.Frag} {elts : List Expr} {kk : Nat} {tpos : Pos} (b : Bool) (a e it : Addr) :
    Turn P w K (.Tuple elts kk tpos) (IteA b K a) [e, it] e (fun i h => (∃ old, IsEnum h e it ((i : Nat) : Int) old) ∧ ItrA b h it a i ∧ e ≠ it) where
  mem := by simp
  obj := fun i h st c hc => by
    obtain ⟨⟨old, he⟩, hi, _⟩ := st
    have e' : c = e ∨ c = it := by simpa using hc
    rcases e' with z | z
    · rw [z]; exact ⟨_, he, fun v q => nomatch q⟩
    · rw [z]; exact hi.obj
  keep := fun i h h' st k => let ⟨⟨old, he⟩, hi, hne⟩ := st; ⟨⟨old, k e (by simp) _ he⟩, hi.at fun o q => k it (by simp) o q, hne⟩
  item := by
    intro X hP hw hK hc i pins s σ H E I hf st hg
    subst hP hw hK
    obtain ⟨⟨old, he⟩, hit, hne⟩ := st
    obtain ⟨xs, x, hq, hx⟩ := hg
    obtain ⟨its, rv, p, hz⟩ := inv_A I hq
    obtain ⟨u, hu, ru⟩ := rv.get hx
    have hel : e < s.heap.objs.size := Heap.lt_size he
    have hil : it < s.heap.objs.size := by obtain ⟨_, q, _⟩ := hit.obj; exact Heap.lt_size q
    have hea : e ≠ a := by
      intro z
      cases b
      · obtain ⟨o2, e2, c2, _⟩ := p
        rw [← z, he] at e2
        cases e2
        simp at c2
      · obtain ⟨o2, e2, c2, _⟩ := p
        rw [← z, he] at e2
        cases e2
        simp at c2
    have D := draws_A (prog := X.prog) (w := X.w) (A := X.A.in1) (I.ok.hd hc) b it a (hit.ne p) its.toArray
    have hlt : i < its.toArray.size := by
      have h1 := (List.getElem?_eq_some_iff.mp hu).1
      simpa using h1
    refine wpAny_pyNext_enum_itemC D he ⟨hit, p⟩ hlt hne (by simp [hne, hea]) fun x' h' tk hx' ho hst' hT hsz hk => ?_
    have exu : x' = u := by
      have h1 : its[i]? = some x' := by simpa using hx'
      rw [hu] at h1
      exact (Option.some.inj h1).symm
    subst exu
    obtain ⟨hit', _⟩ := hst'
    refine ⟨_, rfl, wpAny_letOwnedTupleGo_enum (s := { s with heap := h', toks := tk + 1 }) ho fun h'' he' sb => ?_⟩
    have hT2 : h''.get? s.heap.objs.size = some { cls := .type "tuple", data := .seq #[.int i tk, x'] } := (sb.2 _ (Nat.ne_of_gt hel)).trans hT
    have new : ObjOk X.prog X.w (upd H s.heap.objs.size (.tup [.int (i : Nat), x])) h'' s.heap.objs.size (.tup [.int (i : Nat), x]) :=
      ⟨by show 2 ≤ sizeLine; decide, [.int i tk, x'], .cons ⟨_, rfl⟩ (.cons ru .nil), ⟨_, hT2, rfl, _, rfl⟩⟩
    have I1 : Inv X pins σ (upd H s.heap.objs.size (.tup [.int (i : Nat), x])) { s with heap := h'', toks := tk + 1 } :=
      I.turnedNew (ch := [e, it]) (fun c ob hb q => (sb.2 c (fun z => hb (by simp [z]))).trans (hk c ob (fun z => hb (by simp [z])) (fun z => hb (by simp [z])) q)) hf (Nat.le_refl _) new
    refine ⟨.ref s.heap.objs.size, _, I1, rfl, ⟨_, x, rfl, I.hok.fresh (Nat.le_refl _), rfl, fun ys hy => by rw [inj_A I hy hq]; exact hx⟩, ⟨⟨x', ?_⟩, hit'.at fun o q => (sb.2 it (Ne.symm hne)).trans q, hne⟩, fun c hb => ?_⟩
    · have e1 : ((i + 1 : Nat) : Int) = (i : Int) + 1 := by omega
      rw [e1]; exact he'
    · have hb' : c < s.heap.objs.size := by
        have e' : c = e ∨ c = it := by simpa using hb
        rcases e' with z | z
        · rw [z]; exact hel
        · rw [z]; exact hil
      rw [upd_ne (Nat.ne_of_lt hb')]
      exact (hf c hb).1
  done := by
    intro X hP hw hK hc i pins s σ H E I hf st hg
    subst hP hw hK
    obtain ⟨⟨old, he⟩, hit, hne⟩ := st
    obtain ⟨xs, hq, hx⟩ := hg
    obtain ⟨its, rv, p, hz⟩ := inv_A I hq
    obtain ⟨f0, f1, f2, f3, f4, f5⟩ := hf it (by simp)
    have hl := rv.length
    have D := draws_A (prog := X.prog) (w := X.w) (A := X.A.in1) (I.ok.hd hc) b it a (hit.ne p) its.toArray
    have en : its.toArray.size = i := by simp; omega
    exact wpAny_pyNext_enum_endD D he ⟨by rw [en]; exact hit, p⟩ fun h' eb => ⟨rfl, I.turned (t' := s.toks) (fun c o hb q => eb c o hb q) f0 f1 f3 f4 f5⟩
  self := fun A i s Q E st h => let ⟨⟨_, he⟩, _⟩ := st; wpAny_pyIter_enum he h
theorem meets_enumerate_newB1 {v : Value} {o : Obj} {H : Heap → Prop} (B : Begins v o H) :
    Meets (Builtin.«enumerate.__new__» ⟨[.type "enumerate", v], []⟩) (fun _ R s => H s.heap ∧
      R (.ok (.ret (.ref (s.heap.push o).objs.size))) { s with heap := (s.heap.push o).push { cls := .type "enumerate", data := .fields #[.none, .bool false, .ref s.heap.objs.size, rawInt 0, .none, .none] } }) :=
  .of_wp fun prog w A R s h => by
    obtain ⟨hp, g, d, tk, os⟩ := s; obtain ⟨h1, h⟩ := h
    have hsub := sub_enumerate
    have q1 : ∀ {A' : Around} {E : Value → Shared → Prop} {Q : Value → Shared → Prop}, Q (.ref hp.objs.size) ⟨hp.push o, g, d, tk, os⟩ → wpAny (model prog w) A' (pyIter v) Q E ⟨hp, g, d, tk, os⟩ :=
      fun q => B.iter prog w _ _ ⟨hp, g, d, tk, os⟩ _ h1 q
    wp_walk using q1
    refine wpAny_stack_any fun st => wpAny_pure ?_
    split
    · rename_i c _ _ _ _ _
      cases (c == Value.type "enumerate")
      · wp_walk using q1
        exact ⟨_, rfl, h⟩
      · wp_walk using q1
        exact ⟨_, rfl, h⟩
    · wp_walk using q1
      exact ⟨_, rfl, h⟩
section
variable {prog : Program} {w : World} {A : Around} {E : Value → Shared → Prop} {s : Shared}
/-- enumerate(v): its two new cells -/
theorem enum_begins1 {v : Value} {o : Obj} {H : Heap → Prop} {Q : Value → Shared → Prop} (B : Begins v o H) (h1 : H s.heap)
    (h : ∀ h', IsEnum h' (s.heap.objs.size + 1) s.heap.objs.size 0 .none → h'.get? s.heap.objs.size = some o → h'.objs.size = s.heap.objs.size + 2 →
      (∀ b o, s.heap.get? b = some o → h'.get? b = some o) → Q (.ref (s.heap.objs.size + 1)) { s with heap := h' }) :
    wpAny (model prog w) A (call (.type "enumerate") [v]) Q E s := by
  refine callType_new F.called_enumerate (by decide) (F.typeCall_enumerate_1 _) (F.newCall_enumerate_1 _) (fun obj => F.args_object_init_2 obj _) F.entry_enumerate_new
    (meets_enumerate_newB1 B) ⟨h1, ?_⟩
  have hz : (s.heap.push o).objs.size = s.heap.objs.size + 1 := Heap.size_push ..
  show _ ∧ _
  rw [hz]
  have he : IsEnum ((s.heap.push o).push { cls := .type "enumerate", data := .fields #[.none, .bool false, .ref s.heap.objs.size, rawInt 0, .none, .none] }) (s.heap.objs.size + 1) s.heap.objs.size 0 .none := by
    have := Heap.get?_push_size (s.heap.push o) (o := { cls := .type "enumerate", data := .fields #[.none, .bool false, .ref s.heap.objs.size, rawInt 0, .none, .none] }) rfl
    rw [hz] at this; exact this
  refine ⟨⟨_, he, rfl⟩, h _ he (Heap.get?_push_of_some _ (Heap.get?_push_size _ B.free)) (by rw [Heap.size_push, hz]) fun b o x => Heap.get?_push_of_some _ (Heap.get?_push_of_some _ x)⟩
end
def iEnumA (K : PySem.W.Frag) (ta : TA) : TI := fun σ H R => ta σ H fun vs H1 => ∃ b a xs, vs = [.ref a] ∧ SqA b K H1 a xs ∧ R (IteA b K a) H1
theorem pi_enumA {X : Cx} {e : Expr} {ta : TA} {p pos tpos : Pos} {elts : List Expr} {kk : Nat} (hg : Gl X "enumerate") (hm : X.mg "enumerate" = none) (ha : PA X [e] ta) (hs : starEach [e] X.env = [(false, eval e X.env)] := by rfl) :
    PI X (.Tuple elts kk tpos) (.Call (.Name "enumerate" p) [e] [] pos) (iEnumA X.K ta) := by
  refine ⟨fun pins s σ H R I h => ?_⟩
  refine Call_ (ld_blt I hg hm boot_enumerate (PyProof.Rows.callWith_type1 (thn (ha.run pos pins s σ H _ I h) fun us s1 ⟨vs, H1, I1, r1, q1⟩ => ?_) hs rfl))
  obtain ⟨b, a, xs, ex, hq, q⟩ := q1
  subst ex
  cases r1 with
  | cons r rr =>
    cases rr
    cases r
    obtain ⟨its, rv, p', hz⟩ := inv_A I1 hq
    refine enum_begins1 (begins_A b a its.toArray) p' fun h' he hit hsz hk => wpAny_pyIter_enum he ?_
    have I2 : Inv X pins σ H1 { s1 with heap := h' } := I1.kept (t' := s1.toks) hk
    refine ⟨s1.heap.objs.size + 1, [s1.heap.objs.size + 1, s1.heap.objs.size], _, _, H1, rfl, I2, turn_enumA b a (s1.heap.objs.size + 1) s1.heap.objs.size, ⟨⟨.none, he⟩, ItrA.of hit, Nat.succ_ne_self _⟩, fun c hb => ?_, q⟩
    have e' : c = s1.heap.objs.size + 1 ∨ c = s1.heap.objs.size := by simpa using hb
    have hle : s1.heap.objs.size ≤ c := by
      rcases e' with z | z
      · rw [z]; exact Nat.le_add_right _ _
      · rw [z]; exact Nat.le_refl _
    exact I1.fpOk hle (I1.hok.fresh hle)
theorem walk_enumA {b : Bool} {K : PySem.W.Frag} {a : Addr} {xs : List V} : Walk (IteA b K a) xs.length (fun H => SqA b K H a xs) (YPair (fun i => some (.int (i : Nat))) (fun i => xs[i]?)) := by
  refine ⟨fun i _ hi q => ⟨xs, xs[i], q, by simp [hi]⟩, fun _ q => ⟨xs, q, rfl⟩, fun i H v H' _ q y => ?_⟩
  obtain ⟨T, x, h1, h2, h3, h4⟩ := y
  exact ⟨T, .int (i : Nat), x, h1, h2, h3, rfl, h4 xs q⟩
/-! ### zip -/
def ItzA (b c : Bool) (K : PySem.W.Frag) (a d : Addr) : It :=
  ⟨fun i H => ∃ (xs ys : List V) (x y : V), SqA b K H a xs ∧ SqA c K H d ys ∧ xs[i]? = some x ∧ ys[i]? = some y,
    fun i H v H' => ∃ T x y, v = .ref T ∧ H T = none ∧ H' = upd H T (.tup [x, y]) ∧ (∀ xs, SqA b K H a xs → xs[i]? = some x) ∧ ∀ ys, SqA c K H d ys → ys[i]? = some y,
    fun i H => ∃ xs ys : List V, SqA b K H a xs ∧ SqA c K H d ys ∧ i ≤ xs.length ∧ i ≤ ys.length ∧ (i = xs.length ∨ i = ys.length)⟩
theorem RawA.cls {b : Bool} {h : Heap} {a : Addr} {items : Array Value} (p : RawA b h a items) : ∃ o, h.get? a = some o ∧ (o.cls = .type "list" ∨ o.cls = .type "tuple") ∧ ∃ n, o.data = .seq items n := by
  cases b
  · obtain ⟨o, e, c, n, d⟩ := p
    exact ⟨o, e, .inr c, n, d⟩
  · obtain ⟨o, e, c, n, d⟩ := p
    exact ⟨o, e, .inl c, n, d⟩
theorem ItrA.cls {b : Bool} {h : Heap} {it a : Addr} {i : Nat} (x : ItrA b h it a i) : ∃ o, h.get? it = some o ∧ ∃ vs, o.data = .fields vs := by
  cases b
  · obtain ⟨o, e, c, d⟩ := x
    exact ⟨o, e, _, d⟩
  · obtain ⟨o, e, c, d⟩ := x
    exact ⟨o, e, _, d⟩
/-- the iterators' own cells lie apart, and apart from what they walk -/
structure Sep (z TI TO i1 i2 a d : Addr) : Prop where
  TIz : TI ≠ z
  TOz : TO ≠ z
  TITO : TI ≠ TO
  TIi1 : TI ≠ i1
  TIi2 : TI ≠ i2
  zi1 : z ≠ i1
  zi2 : z ≠ i2
  TOi1 : TO ≠ i1
  TOi2 : TO ≠ i2
  i12 : i1 ≠ i2
  za : z ≠ a
  zd : z ≠ d
  Ta : TO ≠ a
  Td : TO ≠ d
  i1d : i1 ≠ d
  i2a : i2 ≠ a
theorem sep_new {n a d : Nat} (h1 : a < n) (h2 : d < n) : Sep (n + 4) (n + 2) (n + 3) n (n + 1) a d := by
  refine ⟨?_, ?_, ?_, ?_, ?_, ?_, ?_, ?_, ?_, ?_, ?_, ?_, ?_, ?_, ?_, ?_⟩ <;> (intro (e : (_ : Nat) = (_ : Nat)); omega)
theorem Sep.to {z TI TO i1 i2 a d : Addr} (D : Sep z TI TO i1 i2 a d) : ZipSep2 z TI TO i1 i2 [i1, a] [i2, d] where
  TIz := D.TIz
  TOz := D.TOz
  TITO := D.TITO
  TIi1 := D.TIi1
  mem1 := by simp
  zf1 := by simp [D.zi1, D.za]
  Tf1 := by simp [D.TOi1, D.Ta]
  TIi2 := D.TIi2
  mem2 := by simp
  zf2 := by simp [D.zi2, D.zd]
  Tf2 := by simp [D.TOi2, D.Td]
  sep1_2 := by simp [D.i12, D.i1d]
  sep2_1 := by simp [D.i12.symm, D.i2a]
theorem turn_zipA {P : Program} {w : World} {K : PySem.W.Frag} {elts : List Expr} {kk : Nat} {tpos : Pos} {b c : Bool} {a d z TI TO i1 i2 : Addr} (D : Sep z TI TO i1 i2 a d) :
    Turn P w K (.Tuple elts kk tpos) (ItzA b c K a d) [z, TI, TO, i1, i2] z (fun i h => IsZip h z TI TO .none ∧ IsTupOf2 h TI (.ref i1) (.ref i2) ∧ (∃ x y, IsTupOf2 h TO x y) ∧ ItrA b h i1 a i ∧ ItrA c h i2 d i) where
  mem := by simp
  obj := fun i h st q hq => by
    obtain ⟨hz, hTI, ⟨x, y, hTO⟩, h1, h2⟩ := st
    have e' : q = z ∨ q = TI ∨ q = TO ∨ q = i1 ∨ q = i2 := by simpa using hq
    rcases e' with q | q | q | q | q
    · rw [q]; exact ⟨_, hz, fun v q => nomatch q⟩
    · rw [q]; exact ⟨_, hTI, fun v q => nomatch q⟩
    · rw [q]; exact ⟨_, hTO, fun v q => nomatch q⟩
    · rw [q]; exact h1.obj
    · rw [q]; exact h2.obj
  keep := fun i h h' st k => by
    obtain ⟨hz, hTI, ⟨x, y, hTO⟩, h1, h2⟩ := st
    exact ⟨k z (by simp) _ hz, k TI (by simp) _ hTI, ⟨x, y, k TO (by simp) _ hTO⟩, h1.at fun o q => k i1 (by simp) o q, h2.at fun o q => k i2 (by simp) o q⟩
  item := by
    intro X hP hw hK hc i pins s σ H E I hf st hg
    subst hP hw hK
    obtain ⟨hz, hTI, ⟨x0, y0, hTO⟩, h1, h2⟩ := st
    obtain ⟨xs, ys, x, y, hqx, hqy, hx, hy⟩ := hg
    obtain ⟨its, rv, p, _⟩ := inv_A I hqx
    obtain ⟨its2, rv2, p2, _⟩ := inv_A I hqy
    obtain ⟨u, hu, ru⟩ := rv.get hx
    obtain ⟨u2, hu2, ru2⟩ := rv2.get hy
    have hzl : z < s.heap.objs.size := Heap.lt_size hz
    have D1 := draws_A (prog := X.prog) (w := X.w) (A := X.A.in1) (I.ok.hd hc) b i1 a (h1.ne p) its.toArray
    have D2 := draws_A (prog := X.prog) (w := X.w) (A := X.A.in1) (I.ok.hd hc) c i2 d (h2.ne p2) its2.toArray
    have hlt1 : i < its.toArray.size := by
      have q := (List.getElem?_eq_some_iff.mp hu).1
      simpa using q
    have hlt2 : i < its2.toArray.size := by
      have q := (List.getElem?_eq_some_iff.mp hu2).1
      simpa using q
    refine wpAny_pyNext_zipD2_item D.to D1 D2 hz hTI hTO ⟨h1, p⟩ ⟨h2, p2⟩ hlt1 hlt2 fun x1 x2 h' tk e1 e2 z' TO' h1' h2' hT hsz hk => ?_
    have ex1 : x1 = u := by
      have q : its[i]? = some x1 := by simpa using e1
      rw [hu] at q
      exact (Option.some.inj q).symm
    have ex2 : x2 = u2 := by
      have q : its2[i]? = some x2 := by simpa using e2
      rw [hu2] at q
      exact (Option.some.inj q).symm
    subst ex1 ex2
    refine ⟨_, rfl, wpAny_letOwnedTupleGo_zip (s := { s with heap := h', toks := tk }) z' fun h'' z'' sb => ?_⟩
    have hT2 : h''.get? s.heap.objs.size = some { cls := .type "tuple", data := .seq #[x1, x2] } := (sb.2 _ (Nat.ne_of_gt hzl)).trans hT
    have new : ObjOk X.prog X.w (upd H s.heap.objs.size (.tup [x, y])) h'' s.heap.objs.size (.tup [x, y]) :=
      ⟨by show 2 ≤ sizeLine; decide, [x1, x2], .cons ru (.cons ru2 .nil), ⟨_, hT2, rfl, _, rfl⟩⟩
    have I1 : Inv X pins σ (upd H s.heap.objs.size (.tup [x, y])) { s with heap := h'', toks := tk } :=
      I.turnedNew (t' := tk) (ch := [z, TI, TO, i1, i2]) (fun q o hb r => (sb.2 q (fun q' => hb (by simp [q']))).trans (hk q o (fun q' => hb (by simp [q'])) (fun q' => hb (by simp [q'])) (fun q' => hb (by simp [q'])) (fun q' => hb (by simp [q'])) r)) hf (Nat.le_refl _) new
    refine ⟨.ref s.heap.objs.size, _, I1, rfl, ⟨_, x, y, rfl, I.hok.fresh (Nat.le_refl _), rfl, fun l hl => by rw [inj_A I hl hqx]; exact hx, fun l hl => by rw [inj_A I hl hqy]; exact hy⟩, ⟨z'', ?_, ⟨x1, x2, ?_⟩, ?_, ?_⟩, fun q hcm => ?_⟩
    · exact (sb.2 _ D.TIz).trans (hk _ _ D.TIz D.TITO D.TIi1 D.TIi2 hTI)
    · exact (sb.2 _ D.TOz).trans TO'
    · exact h1'.1.at fun o q => (sb.2 _ D.zi1.symm).trans q
    · exact h2'.1.at fun o q => (sb.2 _ D.zi2.symm).trans q
    · have hlt : q < s.heap.objs.size := by
        have e' : q = z ∨ q = TI ∨ q = TO ∨ q = i1 ∨ q = i2 := by simpa using hcm
        rcases e' with q | q | q | q | q
        · rw [q]; exact hzl
        · rw [q]; exact Heap.lt_size hTI
        · rw [q]; exact Heap.lt_size hTO
        · rw [q]; obtain ⟨_, e1, _⟩ := h1.obj; exact Heap.lt_size e1
        · rw [q]; obtain ⟨_, e2, _⟩ := h2.obj; exact Heap.lt_size e2
      rw [upd_ne (Nat.ne_of_lt hlt)]
      exact (hf q hcm).1
  done := by
    intro X hP hw hK hc i pins s σ H E I hf st hg
    subst hP hw hK
    obtain ⟨hz, hTI, ⟨x0, y0, hTO⟩, h1, h2⟩ := st
    obtain ⟨xs, ys, hqx, hqy, hl1, hl2, hend⟩ := hg
    obtain ⟨its, rv, p, _⟩ := inv_A I hqx
    obtain ⟨its2, rv2, p2, _⟩ := inv_A I hqy
    have l1 := rv.length
    have l2 := rv2.length
    have D1 := draws_A (prog := X.prog) (w := X.w) (A := X.A.in1) (I.ok.hd hc) b i1 a (h1.ne p) its.toArray
    have D2 := draws_A (prog := X.prog) (w := X.w) (A := X.A.in1) (I.ok.hd hc) c i2 d (h2.ne p2) its2.toArray
    exact wpAny_pyNext_zipD2_end D.to D1 D2 hz hTI hTO ⟨h1, p⟩ ⟨h2, p2⟩ (by simp; omega) (by simp; omega) (by simp; omega) fun h' tk hk => ⟨rfl, I.turnedL (t' := tk) (ch := [z, TI, TO, i1, i2]) (fun q o hb r =>
      hk q o (fun q' => hb (by simp [q'])) (fun q' => hb (by simp [q'])) (fun q' => hb (by simp [q'])) (fun q' => hb (by simp [q'])) r) hf⟩
  self := fun A i s Q E st h => wpAny_pyIter_zip st.1 h
def iZipB (K : PySem.W.Frag) (ta : TA) : TI := fun σ H R => ta σ H fun vs H1 => ∃ b c a d xs ys, vs = [.ref a, .ref d] ∧ SqA b K H1 a xs ∧ SqA c K H1 d ys ∧ R (ItzA b c K a d) H1
theorem pi_zipB {X : Cx} {e e2 : Expr} {ta : TA} {p pos tpos : Pos} {elts : List Expr} {kk : Nat} (hg : Gl X "zip") (hm : X.mg "zip" = none) (ha : PA X [e, e2] ta)
    (hs : starEach [e, e2] X.env = (false, eval e X.env) :: starEach [e2] X.env := by rfl) (hpl : (backTo pos (starEach [e2] X.env)).any (·.1) = false := by rfl) :
    PI X (.Tuple elts kk tpos) (.Call (.Name "zip" p) [e, e2] [] pos) (iZipB X.K ta) := by
  refine ⟨fun pins s σ H R I h => ?_⟩
  refine Call_ (ld_blt I hg hm PyProof.Rows.boot_zip (PyProof.Rows.callWith_type1 (thn (ha.run pos pins s σ H _ I h) fun us s1 ⟨vs, H1, I1, r1, q1⟩ => ?_) hs hpl))
  obtain ⟨b, c, a, d, xs, ys, ex, hqx, hqy, q⟩ := q1
  subst ex
  cases r1 with
  | cons r rr =>
    cases rr with
    | cons r' rr =>
      cases rr
      cases r
      cases r'
      obtain ⟨its, rv, p1, _⟩ := inv_A I1 hqx
      obtain ⟨its2, rv2, p2, _⟩ := inv_A I1 hqy
      have la : a < s1.heap.objs.size := by
        obtain ⟨_, e, _⟩ := p1.cls
        exact Heap.lt_size e
      have ld : d < s1.heap.objs.size := by
        obtain ⟨_, e, _⟩ := p2.cls
        exact Heap.lt_size e
      refine zip_begins2 (begins_A b a its.toArray) (begins_A c d its2.toArray) p1 p2 fun h' hz hTI hTO h1 h2 hsz hk => wpAny_pyIter_zip hz ?_
      have I2 : Inv X pins σ H1 { s1 with heap := h' } := I1.kept (t' := s1.toks) hk
      have sep : ∀ n : Nat, a < n → d < n → Sep (n + 4) (n + 2) (n + 3) n (n + 1) a d := fun n h1 h2 => sep_new h1 h2
      refine ⟨s1.heap.objs.size + 4, [s1.heap.objs.size + 4, s1.heap.objs.size + 2, s1.heap.objs.size + 3, s1.heap.objs.size, s1.heap.objs.size + 1], _, _, H1, rfl, I2, turn_zipA (b := b) (c := c) (sep s1.heap.objs.size la ld), ⟨hz, hTI, ⟨_, _, hTO⟩, ItrA.of h1, ItrA.of h2⟩, fun q hcm => ?_, q⟩
      have e' : q = s1.heap.objs.size + 4 ∨ q = s1.heap.objs.size + 2 ∨ q = s1.heap.objs.size + 3 ∨ q = s1.heap.objs.size ∨ q = s1.heap.objs.size + 1 := by simpa using hcm
      have hle : s1.heap.objs.size ≤ q := by
        rcases e' with z | z | z | z | z
        · rw [z]; exact Nat.le_add_right _ _
        · rw [z]; exact Nat.le_add_right _ _
        · rw [z]; exact Nat.le_add_right _ _
        · rw [z]; exact Nat.le_refl _
        · rw [z]; exact Nat.le_add_right _ _
      exact I1.fpOk hle (I1.hok.fresh hle)
theorem walk_zipA {b c : Bool} {K : PySem.W.Frag} {a d : Addr} {xs ys : List V} (hl : xs.length = ys.length) : Walk (ItzA b c K a d) xs.length (fun H => SqA b K H a xs ∧ SqA c K H d ys) (YPair (fun i => xs[i]?) (fun i => ys[i]?)) := by
  refine ⟨fun i _ hi q => ?_, fun _ q => ⟨xs, ys, q.1, q.2, Nat.le_refl _, by omega, .inl rfl⟩, fun i H v H' _ q y => ?_⟩
  · have h2 : i < ys.length := by omega
    exact ⟨xs, ys, xs[i], ys[i], q.1, q.2, by simp [hi], by simp [h2]⟩
  · obtain ⟨T, x, z, h1, h2, h3, h4, h5⟩ := y
    exact ⟨T, x, z, h1, h2, h3, h4 xs q.1, h5 ys q.2⟩
end K38
end
section
/-! ## K38B -/
/-! The checks; the bits. -/
namespace K38
open PySem PySem.Spec PyProof.Rows L2
/-- an error of the class x with these fields leaves at H -/
def Rz (K : PySem.W.Frag) (x : Str) (fs : List (Str × V)) (H : Hp) (E : XK) : Prop := ∀ d, H d = none → E (.ref (He.ga K x)) (some d) (upd H d (.xd fs))
section
variable {w : World} {K : PySem.W.Frag} {mg : Str → Option Value} {base : Heap}
/-! ### check_signs -/
theorem scSigns : FnScope ["many"] ["many"] (defScope sCheckSigns) := ⟨rfl, rfl, rfl, by decide +kernel, rfl, by decide +kernel, by decide +kernel⟩
def spSigns (K : PySem.W.Frag) : Sp := fun vs H Q E => ∃ i : Int, vs = [.int i] ∧ (2 ≤ i → i ≤ 26 → Q .non H) ∧ (¬ (2 ≤ i ∧ i ≤ 26) → Rz K "TooMany" [("most", .int 26), ("many", .int i), ("what", .str "signs")] H E)
theorem ok_check_signs (T : Txt K mg) : Cal PR w K mg base 1 "check_signs" (spSigns K) := by
  obtain ⟨fI, cc, ca, X⟩ := T.xTooMany
  refine cal_of T (st := sCheckSigns) (N := ["many"]) (ps := ["many"]) (List.mem_of_getElem? (i := 3) rfl) (by decide) scSigns (fun _ _ _ _ _ _ us hl => match us, hl with | [_], _ => rfl) (fun vs H Q E h => by
    obtain ⟨i, rfl, _⟩ := h
    rfl) (fun cdv A outer s H vs Q E hr h => ?_)
  obtain ⟨i, rfl, q1, q2⟩ := h
  refine ⟨_, pss_one (ps_if (pt_not (pt_chain op_le op_le pe_int (pv 0) (pe_ci rfl T.mSigns)))
    (pss_one (ps_raiseX rfl X exs_TooMany (by decide) (by decide) hr tkX (pa_cons pe_str (pa_cons (pv 0) (pa_cons (pe_ci rfl T.mSigns) pa_nil))))) pss_nil), ?_⟩
  refine ⟨_, rfl, _, _, rfl, rfl, _, rfl, ?_⟩
  by_cases h2 : (2 : Int) ≤ i
  · refine ifT (decide_eq_true h2) ?_
    by_cases h3 : i ≤ 26
    · exact ⟨_, _, rfl, rfl, _, rfl, ifF (by simp [h3]) (q1 h2 h3)⟩
    · exact ⟨_, _, rfl, rfl, _, rfl, ifT (by simp [h3]) ⟨_, rfl, rfl, fun d hd => q2 (fun z => h3 z.2) d hd⟩⟩
  · refine ifF (decide_eq_false h2) ?_
    exact ⟨_, rfl, ifT rfl ⟨_, rfl, rfl, fun d hd => q2 (fun z => h2 z.1) d hd⟩⟩
/-! ### check_many -/
theorem scMany : FnScope ["many", "most"] ["many", "most"] (defScope sCheckMany) := ⟨rfl, rfl, rfl, by decide +kernel, rfl, by decide +kernel, by decide +kernel⟩
def spMany (K : PySem.W.Frag) : Sp := fun vs H Q E => ∃ (v : V) (m : Int), vs = [v, .int m] ∧ ((∃ i, v = .int i ∧ 2 ≤ i ∧ i ≤ m ∧ Q .non H) ∨ (((∃ i, v = .int i ∧ ¬ (2 ≤ i ∧ i ≤ m)) ∨ OddV H v) ∧ Rz K "BadSize" [("size", v)] H E))
theorem ok_check_many (T : Txt K mg) : Cal PR w K mg base 2 "check_many" (spMany K) := by
  obtain ⟨fI, cc, ca, X⟩ := T.xBadSize
  refine cal_of T (st := sCheckMany) (N := ["many", "most"]) (ps := ["many", "most"]) (List.mem_of_getElem? (i := 9) rfl) (by decide) scMany (fun _ _ _ _ _ _ us hl => match us, hl with | [_, _], _ => rfl) (fun vs H Q E h => by
    obtain ⟨v, m, rfl, _⟩ := h
    rfl) (fun cdv A outer s H vs Q E hr h => ?_)
  obtain ⟨v, m, rfl, q⟩ := h
  refine ⟨_, pss_one (ps_if (PW.pt (pw_or (pt_not (pt_val (pe_x (ok_is_whole T) hr (Nat.le_refl _) passL (pa_cons (pv 0) (pa_cons pe_int pa_nil))))) (pw_or1 (pt_cmpR op_gt (pv 0) (pv 1) (nomark _)))))
    (pss_one (ps_raiseX rfl X exs_BadSize (by decide) (by decide) hr tkX (pa_cons (pv 0) pa_nil))) pss_nil), ?_⟩
  rcases q with ⟨i, rfl, h2, hm, q⟩ | ⟨⟨i, rfl, hi⟩ | o, q⟩
  · refine ⟨_, rfl, _, 2, rfl, .inl ⟨i, rfl, _, rfl, ?_⟩⟩
    refine ifF (by simp [h2]) ?_
    exact ⟨_, rfl, _, rfl, _, _, rfl, rfl, _, rfl, ifF (decide_eq_false (by omega)) q⟩
  · refine ⟨_, rfl, _, 2, rfl, .inl ⟨i, rfl, _, rfl, ?_⟩⟩
    by_cases h2 : 2 ≤ i
    · refine ifF (by simp [h2]) ?_
      exact ⟨_, rfl, _, rfl, _, _, rfl, rfl, _, rfl, ifT (decide_eq_true (by omega)) ⟨_, rfl, rfl, fun d hd => q d hd⟩⟩
    · refine ifT (by simp [h2]) ?_
      exact ifT rfl ⟨_, rfl, rfl, fun d hd => q d hd⟩
  · refine ⟨_, rfl, _, 2, rfl, .inr ⟨o, _, rfl, ifT rfl (ifT rfl ⟨_, rfl, rfl, fun d hd => q d hd⟩)⟩⟩
/-! ### check_counts -/
theorem scCounts : FnScope ["counts", "index", "count"] ["counts"] (defScope sCheckCounts) := ⟨rfl, rfl, rfl, by decide +kernel, rfl, by decide +kernel, by decide +kernel⟩
def spCounts (K : PySem.W.Frag) : Sp := fun vs H Q E => ∃ (b : Bool) (a : Addr) (ns : List Int), vs = [.ref a] ∧ SqA b K H a (ns.map V.int) ∧
  (¬ (2 ≤ ns.length ∧ ns.length ≤ 26) → Rz K "TooMany" [("most", .int 26), ("many", .int (ns.length : Nat)), ("what", .str "signs")] H E) ∧
  (2 ≤ ns.length → ns.length ≤ 26 → (∀ n ∈ ns, 0 ≤ n) → ∀ H', Same H H' → Q .non H') ∧
  (2 ≤ ns.length → ns.length ≤ 26 → ∀ (j : Nat) (n : Int), ns[j]? = some n → n < 0 → (∀ (k : Nat) (m : Int), k < j → ns[k]? = some m → 0 ≤ m) → ∀ H', Same H H' → Rz K "BadCount" [("index", .int (j : Nat))] H' E)
theorem SqA.same {b : Bool} {K : PySem.W.Frag} {H H' : Hp} {a : Addr} {xs : List V} (e : Same H H') (h : SqA b K H a xs) : SqA b K H' a xs := by
  cases b
  · rcases h with (h | ⟨o, h⟩) | h
    · exact .inl (.inl (e _ _ h))
    · exact .inl (.inr ⟨o, e _ _ h⟩)
    · exact .inr h
  · exact Same.seq e h
theorem same_new {H H' : Hp} {p : Addr} {o : HO} (s : Same H H') (h : H' p = none) : Same H (upd H' p o) := fun b u e => by
  rw [upd_ne (ne_of_none (s b u e) h)]
  exact s b u e
theorem len_A {X : Cx} {b : Bool} {H : Hp} {a : Addr} {xs : List V} (h : SqA b X.K H a xs) : (∃ ys, SqL X.K H a ys ∧ ys.length = xs.length) ∨ ∃ ys, SqT X.K H a ys ∧ ys.length = xs.length := by
  cases b
  · exact .inr ⟨xs, h, rfl⟩
  · exact .inl ⟨xs, h, rfl⟩
theorem ok_check_counts (T : Txt K mg) : Cal PR w K mg base 2 "check_counts" (spCounts K) := by
  obtain ⟨fI, cc, ca, X⟩ := T.xBadCount
  refine cal_of T (st := sCheckCounts) (N := ["counts", "index", "count"]) (ps := ["counts"]) (List.mem_of_getElem? (i := 4) rfl) (by decide) scCounts (fun _ _ _ _ _ _ us hl => match us, hl with | [_], _ => rfl) (fun vs H Q E h => by
    obtain ⟨b, a, ns, rfl, _⟩ := h
    rfl) (fun cdv A outer s H vs Q E hr h => ?_)
  obtain ⟨b, a, ns, rfl, hS, q1, q2, q3⟩ := h
  refine ⟨_, pss_cons (ps_expr (pe_x (ok_check_signs T) hr (Nat.le_refl _) psX (pa_cons (pe_callB call_len (by rfl) (T.fr _ (by decide)) boot_len (pa_cons (pv 0) pa_nil)) pa_nil)))
    (pss_one (ps_for po_cx rfl (pi_enumA (by rfl) (T.fr _ (by decide)) (pa_cons (pv 0) pa_nil)) (pg_tup rfl (pgs_cons (pg_name (i := 1) scCounts.nd rfl (Or.inl rfl)) (pgs_cons (pg_name (i := 2) scCounts.nd rfl (Or.inl rfl)) pgs_nil)))
      (pss_one (ps_if (pt_not (pt_val (pe_x (ok_is_whole T) hr (Nat.le_refl _) passL (pa_cons (pv 2) (pa_cons pe_int pa_nil))))) (pss_one (ps_raiseX rfl X exs_BadCount (by decide) (by decide) hr tkX (pa_cons (pv 1) pa_nil))) pss_nil)))), ?_⟩
  have hlen : (ns.map V.int).length = ns.length := List.length_map ..
  refine ⟨_, rfl, _, ns.length, rfl, ?_, (ns.length : Int), rfl, ?_, ?_⟩
  · rcases len_A (X := cxOf (L2.CX PR w) PR w K mg base ["counts", "index", "count"] "check_counts" (defScope sCheckCounts) (He.ga K "check_counts") cdv A outer s H E) hS with ⟨ys, h1, h2⟩ | ⟨ys, h1, h2⟩
    · exact .inl ⟨ys, h1, by rw [h2, hlen]⟩
    · exact .inr ⟨ys, h1, by rw [h2, hlen]⟩
  · intro h2 h26
    refine ⟨_, rfl, b, a, _, rfl, hS, for_it (walk_enumA (b := b) (K := K) (a := a) (xs := ns.map V.int)) (fun i σ H2 => ∃ v1 v2 : Option V, σ = [some (.ref a), v1, v2] ∧ Same H H2 ∧ ∀ (k : Nat) (m : Int), k < i → ns[k]? = some m → 0 ≤ m)
      ⟨none, none, rfl, Same.refl _, fun k m hk => absurd hk (Nat.not_lt_zero _)⟩ (fun i σ H2 _ ⟨_, _, _, s2, _⟩ => SqA.same s2 hS) ?_ ?_⟩
    · rintro i x σ H2 H3 hi ⟨v1, v2, rfl, s2, hp⟩ ⟨t, x1, y1, rfl, ht, rfl, e1, e2⟩
      cases e1
      obtain ⟨n, hn, rfl⟩ : ∃ n, ns[i]? = some n ∧ y1 = V.int n := by
        have e3 : (ns.map V.int)[i]? = some y1 := e2
        rw [List.getElem?_map] at e3
        cases e : ns[i]? with
        | none => rw [e] at e3; cases e3
        | some n => rw [e] at e3; exact ⟨n, rfl, (Option.some.inj e3).symm⟩
      have s3 : Same H (upd H2 t (.tup [.int (i : Nat), .int n])) := same_new s2 ht
      refine ⟨t, _, rfl, .of upd_same, rfl, _, _, rfl, _, _, rfl, rfl, ?_⟩
      refine ⟨_, rfl, _, 0, rfl, .inl ⟨n, rfl, _, rfl, ?_⟩⟩
      by_cases h0 : 0 ≤ n
      · refine ifF (by simp [h0]) ?_
        refine ⟨_, _, rfl, s3, fun k m hk hm => ?_⟩
        by_cases hki : k = i
        · subst hki
          rw [hn] at hm
          cases hm
          exact h0
        · exact hp k m (by omega) hm
      · refine ifT (by simp [h0]) ⟨_, rfl, rfl, fun d hd => ?_⟩
        exact q3 (by omega) (by omega) i n hn (by omega) hp _ s3 d hd
    · rintro σ H2 ⟨v1, v2, rfl, s2, hp⟩
      refine q2 (by omega) (by omega) (fun n hn => ?_) H2 s2
      obtain ⟨k, hk, e⟩ := List.mem_iff_getElem.mp hn
      exact hp k n (by rw [hlen]; exact hk) (by rw [List.getElem?_eq_getElem hk, e])
  · intro hno
    exact q1 (by omega)
/-! ### bits_of -/
/-- k bits of n ahead of acc -/
def bitsOf : Nat → Nat → Str → Str
  | _, 0, acc => acc
  | n, k + 1, acc => bitsOf (n / 2) k (((toString ((n % 2 : Nat) : Int) : String) : Str) ++ acc)
theorem bit_len (n : Nat) : ((toString ((n % 2 : Nat) : Int) : String) : Str).length = 1 := by
  have h : n % 2 = 0 ∨ n % 2 = 1 := by omega
  rcases h with h | h <;> rw [h] <;> decide +kernel
theorem scBits : FnScope ["number", "size", "found", "turn"] ["number", "size"] (defScope sBitsOf) := ⟨rfl, rfl, rfl, by decide +kernel, rfl, by decide +kernel, by decide +kernel⟩
def spBits : Sp := fun vs H Q _ => ∃ n k : Nat, vs = [.int n, .int k] ∧ k ≤ 1000 ∧ Q (.str (bitsOf n k ("" : Str))) H
theorem str_app_len (a b : Str) : (a ++ b).length = a.length + b.length := by
  have h := TL.tl_append a b
  have h2 := congrArg List.length h
  simpa [TL.tl, Str.length] using h2
theorem ok_bits_of (T : Txt K mg) : Cal PR w K mg base 1 "bits_of" spBits := by
  refine cal_of T (st := sBitsOf) (N := ["number", "size", "found", "turn"]) (ps := ["number", "size"]) (List.mem_of_getElem? (i := 5) rfl) (by decide) scBits (fun _ _ _ _ _ _ us hl => match us, hl with | [_, _], _ => rfl) (fun vs H Q E h => by
    obtain ⟨n, k, rfl, _⟩ := h
    rfl) (fun cdv A outer s H vs Q E hr h => ?_)
  obtain ⟨n, k, rfl, hk, q⟩ := h
  refine ⟨_, PSs.nox (pss_cons (ps_set (i := 2) scBits.nd rfl (Or.inl rfl) pe_str) (pss_cons (ps_for PassesOwn.never rfl (pi_range1 (by rfl) (T.fr _ (by decide)) (pa_cons (pv 1) pa_nil)) (pg_name (i := 3) scBits.nd rfl (Or.inl rfl))
    (pss_cons (ps_set (i := 2) scBits.nd rfl (Or.inl rfl) (pe_op op_add_str (pe_callTy call_str_int (by rfl) (T.fr _ (by decide)) (by decide +kernel) (pa_cons (pe_op op_mod (pv 0) pe_int) pa_nil)) (pv 2)))
    (pss_one (ps_set (i := 0) scBits.nd rfl (Or.inl rfl) (pe_op op_fdiv (pv 0) pe_int))))) (pss_one (ps_ret (pv 2))))), ?_⟩
  refine ⟨_, rfl, k, rfl, by omega, by omega, for_range (lo := 0) (n := k) (fun i σ H2 => ∃ (m : Nat) (acc : Str) (v : Option V), σ = [some (.int m), some (.int k), some (.str acc), v] ∧ H2 = H ∧ bitsOf m (k - i) acc = bitsOf n k ("" : Str) ∧ acc.length ≤ i)
    ⟨n, ("" : Str), none, rfl, rfl, rfl, by decide +kernel⟩ ?_ ?_⟩
  · rintro i σ H2 hi ⟨m, acc, v, rfl, rfl, he, hl⟩
    have e2 : (m : Int) % 2 = ((m % 2 : Nat) : Int) := by omega
    have hb := bit_len m
    refine ⟨_, rfl, _, _, rfl, rfl, (by show (0 : Int) < 2; decide), _, rfl, ?_, _, rfl, _, _, rfl, rfl, ?_, _, rfl, _, _, rfl, rfl, ⟨by decide, by decide⟩, m / 2, ((toString ((m % 2 : Nat) : Int) : String) : Str) ++ acc, some (V.int (0 + (i : Int))), ?_, rfl, ?_, ?_⟩
    · have h : m % 2 = 0 ∨ m % 2 = 1 := by omega
      rw [e2]
      rcases h with h | h <;> rw [h] <;> decide +kernel
    · rw [e2, hb]
      exact Nat.le_trans (show 1 + acc.length ≤ 1001 by omega) (by decide)
    · show [some (V.int ((m : Int) / 2)), some (V.int k), some (V.str (((toString ((m : Int) % 2) : String) : Str) ++ acc)), some (V.int (0 + (i : Int)))] = _
      rw [e2, show (m : Int) / 2 = ((m / 2 : Nat) : Int) by omega]
    · rw [← he, show k - i = (k - (i + 1)) + 1 by omega]
      rfl
    · rw [str_app_len, hb]
      omega
  · rintro σ H2 ⟨m, acc, v, rfl, rfl, he, hl⟩
    rw [Nat.sub_self] at he
    have he2 : acc = bitsOf n k ("" : Str) := he
    refine ⟨_, rfl, ?_⟩
    rw [he2]
    exact q
end
end K38
end
section
/-! ## K38C -/
/-! canonical: the words of lengths. -/
namespace K38
open PySem PySem.Spec PyProof.Rows L2
/-! ### mirror -/
/-- pairs by the first, then the second -/
def leN (a b : Nat × Nat) : Bool := decide (a.1 < b.1 ∨ (a.1 = b.1 ∧ a.2 ≤ b.2))
/-- the pairs (length, sign), in order -/
def prs (ls : List Nat) : List (Nat × Nat) := (ls.zipIdx).mergeSort leN
/-- one sign: (number, size, words so far) -/
def cStep (z : Nat × Nat × List (Key × V)) (p : Nat × Nat) : Nat × Nat × List (Key × V) :=
  (z.1 * 2 ^ (p.1 - z.2.1) + 1, p.1, putK z.2.2 (Sum.inl (p.2 : Int)) (.str (bitsOf (z.1 * 2 ^ (p.1 - z.2.1)) p.1 ("" : Str))))
def cRun (L : List (Nat × Nat)) : Nat × Nat × List (Key × V) := L.foldl cStep (0, 0, [])
def wordOf (kvs : List (Key × V)) (s : Nat) : Str := match valV kvs (Sum.inl (s : Int) : Key) with
  | some (.str z) => z
  | _ => ""
/-- the canonical words -/
def canonW (ls : List Nat) : List Str := (List.range ls.length).map (wordOf (cRun (prs ls)).2.2)
theorem cRun_snoc (L : List (Nat × Nat)) (p : Nat × Nat) : cRun (L ++ [p]) = cStep (cRun L) p := by
  unfold cRun
  rw [List.foldl_append]
  rfl
theorem cRun_has (s : Nat) : ∀ (L : List (Nat × Nat)) (z : Nat × Nat × List (Key × V)), (s ∈ L.map Prod.snd ∨ ∃ x, valV z.2.2 (Sum.inl (s : Int) : Key) = some (.str x)) → ∃ x, valV (L.foldl cStep z).2.2 (Sum.inl (s : Int) : Key) = some (.str x)
  | [], z, h => by
    rcases h with h | h
    · simp at h
    · exact h
  | p :: L, z, h => by
    refine cRun_has s L (cStep z p) ?_
    by_cases e : s = p.2
    · refine .inr ⟨bitsOf (z.1 * 2 ^ (p.1 - z.2.1)) p.1 ("" : Str), ?_⟩
      show valV (putK z.2.2 (Sum.inl (p.2 : Int)) _) (Sum.inl (s : Int) : Key) = _
      rw [valV_put, if_pos (by rw [e])]
    · rcases h with h | ⟨x, h⟩
      · rw [List.map_cons] at h
        rcases List.mem_cons.mp h with q | q
        · exact absurd q e
        · exact .inl q
      · refine .inr ⟨x, ?_⟩
        show valV (putK z.2.2 (Sum.inl (p.2 : Int)) _) (Sum.inl (s : Int) : Key) = _
        rw [valV_put, if_neg (fun q => e (by have := Sum.inl.inj q; omega))]
        exact h
theorem prs_perm (ls : List Nat) : (prs ls).Perm ls.zipIdx := List.mergeSort_perm _ _
theorem leN_total (a b : Nat × Nat) : (leN a b || leN b a) = true := by
  unfold leN
  rw [Bool.or_eq_true, decide_eq_true_eq, decide_eq_true_eq]
  omega
theorem leN_trans (a b c : Nat × Nat) (h1 : leN a b = true) (h2 : leN b c = true) : leN a c = true := by
  unfold leN at *
  rw [decide_eq_true_eq] at *
  omega
theorem leN_anti {a b : Nat × Nat} (h1 : leN a b = true) (h2 : leN b a = true) : a = b := by
  unfold leN at *
  rw [decide_eq_true_eq] at *
  obtain ⟨a1, a2⟩ := a
  obtain ⟨b1, b2⟩ := b
  simp only at h1 h2
  have e1 : a1 = b1 := by omega
  have e2 : a2 = b2 := by omega
  rw [e1, e2]
theorem prs_sorted (ls : List Nat) : (prs ls).Pairwise fun a b => leN a b = true := List.pairwise_mergeSort leN_trans leN_total _
theorem prs_len (ls : List Nat) : (prs ls).length = ls.length := by
  rw [(prs_perm ls).length_eq, List.length_zipIdx]
theorem prs_mem {ls : List Nat} {p : Nat × Nat} (h : p ∈ prs ls) : p.2 < ls.length ∧ ls[p.2]? = some p.1 := by
  have h1 := (prs_perm ls).mem_iff.mp h
  have h2 := List.mem_zipIdx_iff_getElem?.mp h1
  exact ⟨(List.getElem?_eq_some_iff.mp h2).1, h2⟩
theorem prs_has (ls : List Nat) (s : Nat) (h : s < ls.length) : s ∈ (prs ls).map Prod.snd := by
  have h1 : (ls[s], s) ∈ ls.zipIdx := List.mem_zipIdx_iff_getElem?.mpr (by rw [List.getElem?_eq_getElem h])
  exact List.mem_map.mpr ⟨_, (prs_perm ls).mem_iff.mpr h1, rfl⟩
theorem canon_has (ls : List Nat) (s : Nat) (h : s < ls.length) : valV (cRun (prs ls)).2.2 (Sum.inl (s : Int) : Key) = some (.str (wordOf (cRun (prs ls)).2.2 s)) := by
  obtain ⟨x, e⟩ := cRun_has s (prs ls) (0, 0, []) (.inl (prs_has ls s h))
  have e2 : valV (cRun (prs ls)).2.2 (Sum.inl (s : Int) : Key) = some (.str x) := e
  unfold wordOf
  rw [e2]
theorem cRun_len (L : List (Nat × Nat)) : (cRun L).2.2.length ≤ L.length := by
  have key : ∀ (L : List (Nat × Nat)) (z : Nat × Nat × List (Key × V)), (L.foldl cStep z).2.2.length ≤ z.2.2.length + L.length := by
    intro L
    induction L with
    | nil => intro z; exact Nat.le_refl _
    | cons p L ih =>
      intro z
      have h := ih (cStep z p)
      have h2 : (cStep z p).2.2.length ≤ z.2.2.length + 1 := length_putK _ _ _
      rw [List.foldl_cons, List.length_cons]
      omega
  have h := key L (0, 0, [])
  simpa [cRun] using h
/-! ### tuples at addresses -/
structure Tups (H : Hp) (ts : List Addr) (cs : List (List V)) : Prop where
  len : ts.length = cs.length
  at_ : ∀ (i : Nat) (t : Addr) (c : List V), ts[i]? = some t → cs[i]? = some c → H t = some (.tup c)
theorem Tups.nil (H : Hp) : Tups H [] [] := ⟨rfl, fun i t c h _ => by simp at h⟩
theorem Tups.mono {H H' : Hp} {ts : List Addr} {cs : List (List V)} (x : Tups H ts cs) (k : ∀ t c, H t = some (.tup c) → H' t = some (.tup c)) : Tups H' ts cs := ⟨x.len, fun i t c h1 h2 => k t c (x.at_ i t c h1 h2)⟩
theorem Tups.snoc {H : Hp} {ts : List Addr} {cs : List (List V)} {t : Addr} {c : List V} (x : Tups H ts cs) (h : H t = some (.tup c)) : Tups H (ts ++ [t]) (cs ++ [c]) := by
  refine ⟨by rw [List.length_append, List.length_append, x.len]; rfl, fun i t' c' h1 h2 => ?_⟩
  by_cases hi : i < ts.length
  · rw [List.getElem?_append_left hi] at h1
    rw [List.getElem?_append_left (by rw [← x.len]; exact hi)] at h2
    exact x.at_ i t' c' h1 h2
  · rw [List.getElem?_append_right (by omega)] at h1
    rw [List.getElem?_append_right (by have := x.len; omega), ← x.len] at h2
    by_cases h0 : i - ts.length = 0
    · rw [h0] at h1 h2
      simp at h1 h2
      rw [← h1, ← h2]
      exact h
    · rw [List.getElem?_eq_none (by simp; omega)] at h1
      cases h1
theorem map_get {α β : Type} {f : α → β} {l : List α} {i : Nat} {y : β} (h : (l.map f)[i]? = some y) : ∃ x, l[i]? = some x ∧ y = f x := by
  rw [List.getElem?_map] at h
  cases e : l[i]? with
  | none => rw [e] at h; cases h
  | some x => rw [e] at h; exact ⟨x, rfl, (Option.some.inj h).symm⟩
/-- the two ints of the tuple that a value names -/
def kOf (H : Hp) (v : V) : Int × Int := match v with
  | .ref t => (match H t with
    | some (.tup [.int a, .int b]) => (a, b)
    | _ => (0, 0))
  | _ => (0, 0)
theorem kOf_eq {H : Hp} {t : Addr} {a b : Int} (h : H t = some (.tup [.int a, .int b])) : kOf H (.ref t) = (a, b) := by
  simp [kOf, h]
def pI (p : Nat × Nat) : Int × Int := ((p.1 : Int), (p.2 : Int))
theorem pI_inj {p q : Nat × Nat} (h : pI p = pI q) : p = q := by
  obtain ⟨a, b⟩ := p
  obtain ⟨c, d⟩ := q
  unfold pI at h
  simp only [Prod.mk.injEq] at h ⊢
  omega
/-- what sorted gives -/
theorem sorted_prs {k : V → Int × Int} {xs ys : List V} {ls : List Nat} (h0 : xs.map k = (ls.zipIdx).map pI) (h1 : SrtO.Srtd (ltP k) ys) (h2 : SrtO.Stb (ltP k) ys xs) : ys.map k = (prs ls).map pI := by
  have hp : (ys.map k).Perm ((prs ls).map pI) := (h2.perm.map k).trans (by rw [h0]; exact ((prs_perm ls).map pI).symm)
  refine List.Perm.eq_of_pairwise (le := fun a b => SrtO.lexB b a = false) (fun a b _ _ q1 q2 => ?_) ?_ ?_ hp
  · have x1 := SrtO.lexB_no.mp q1
    have x2 := SrtO.lexB_no.mp q2
    obtain ⟨a1, a2⟩ := a
    obtain ⟨b1, b2⟩ := b
    simp only at x1 x2
    have e1 : a1 = b1 := by omega
    have e2 : a2 = b2 := by omega
    rw [e1, e2]
  · exact List.pairwise_map.mpr h1
  · refine List.pairwise_map.mpr ((prs_sorted ls).imp fun {a b} q => ?_)
    unfold leN at q
    rw [decide_eq_true_eq] at q
    refine SrtO.lexB_no.mpr ?_
    show _
    simp only [pI]
    omega
end K38
end
section
/-! ## K38D -/
/-! canonical: the walk. -/
namespace K38
open PySem PySem.Spec PyProof.Rows L2
theorem boot_sorted' : bootBuiltins "sorted" = some (.builtin "sorted") := by decide +kernel
theorem same_mut {H0 H : Hp} {F : Addr} {o : HO} (s : Same H0 H) (h : H0 F = none) : Same H0 (upd H F o) := fun b u e => by
  rw [upd_ne (ne_of_none e h)]
  exact s b u e
theorem small_lt {n : Nat} (h : n ≤ 1000000) : n < sizeLine := Nat.lt_of_le_of_lt h (by decide)
theorem small_le {n : Nat} (h : n ≤ 1000000) : n ≤ sizeLine := Nat.le_of_lt (small_lt h)
theorem yes_ {σ : L2.St} {H : Hp} {A B : Hp → Prop} (h : A H) : tYes σ H (fun b H3 => if b = true then A H3 else B H3) := by
  show (if true = true then A H else B H)
  exact h
/-- x, y as a target, both names -/
theorem pg_two {X : Cx} {K : PySem.W.Frag} {x y : Str} {p1 p2 pos : Pos} {kk i j : Nat} (hc : X.calm = true) (hK : X.K = K) (hN : X.N.Nodup) (hi : X.N[i]? = some x) (hj : X.N[j]? = some y) (hx : Loc X.env.scope x) (hy : Loc X.env.scope y)
    (fx : X.fn x = true ∨ X.env.scope.names.lookup x = some .local) (fy : X.fn y = true ∨ X.env.scope.names.lookup y = some .local) :
    PG X (.Tuple [.Name x p1, .Name y p2] kk pos) (gTup K 2 (gCons (gName i) (gCons (gName j) gNil))) := by
  subst hK
  exact pg_tup hc (pgs_cons (pg_name hN hi hx fx) (pgs_cons (pg_name hN hj hy fy) pgs_nil))
section
variable {w : World} {K : PySem.W.Frag} {mg : Str → Option Value} {base : Heap}
theorem scCanonical : FnScope ["lengths", "found", "number", "size", "sign", "length"] ["lengths"] (defScope sCanonical) := ⟨rfl, rfl, rfl, by decide +kernel, rfl, by decide +kernel, by decide +kernel⟩
theorem un1 {k : Nat} {A : Around} (r : Room k A) : A.units + 1 < cLine := by have := r.un; omega
def nI (n : Nat) : V := .int (n : Int)
def tI (p : Nat × Nat) : List V := [.int (p.1 : Nat), .int (p.2 : Nat)]
def spCanon (K : PySem.W.Frag) : Sp := fun vs H Q _ => ∃ (a : Addr) (ls : List Nat), vs = [.ref a] ∧ SqT K H a (ls.map nI) ∧ ls.length ≤ 1000 ∧ (∀ l ∈ ls, l ≤ 60) ∧
  ∀ H' p, Same H H' → H' p = some (.tup ((canonW ls).map V.str)) → Q (.ref p) H'
theorem sqT_same {K : PySem.W.Frag} {H H' : Hp} {a : Addr} {xs : List V} (s : Same H H') (h : SqT K H a xs) : SqT K H' a xs := SqA.same (b := false) s h
theorem ok_canonical (T : Txt K mg) : Cal PR w K mg base 2 "canonical" (spCanon K) := by
  refine cal_of T (st := sCanonical) (N := ["lengths", "found", "number", "size", "sign", "length"]) (ps := ["lengths"]) (List.mem_of_getElem? (i := 6) rfl) (by decide) scCanonical (fun _ _ _ _ _ _ us hl => match us, hl with | [_], _ => rfl) (fun vs H Q E h => by
    obtain ⟨a, ls, rfl, _⟩ := h
    rfl) (fun cdv A outer s H vs Q E hr h => ?_)
  obtain ⟨a, ls, rfl, hS, hn, hle, q⟩ := h
  refine ⟨_, PSs.nox (pss_cons (ps_set (i := 1) scCanonical.nd rfl (Or.inr rfl) pe_dnewK)
    (pss_cons (ps_asg (pe_tup (pa_cons pe_int (pa_cons pe_int pa_nil))) (pg_tup rfl (pgs_cons (pg_name (i := 2) scCanonical.nd rfl (Or.inl rfl)) (pgs_cons (pg_name (i := 3) scCanonical.nd rfl (Or.inl rfl)) pgs_nil))))
    (pss_cons (ps_for PassesOwn.never rfl (pi_list (pe_callB cr_sortedPO (by rfl) (T.fr _ (by decide)) boot_sorted'
        (pa_cons (pe_lc rfl scCanonical.nd (pi_enumA (by rfl) (T.fr _ (by decide)) (pa_cons (pv 0) pa_nil)) (own := [("sign", 4), ("length", 5)]) (blkOk_by (by rfl))
          (fun _ _ _ _ _ => pg_two (i := 4) (j := 5) (K := K) rfl rfl scCanonical.nd rfl rfl (Or.inl rfl) (Or.inl rfl) (Or.inr rfl) (Or.inr rfl))
          (fun _ _ _ _ _ => pts_nil) (fun _ _ _ _ _ => pe_tup (pa_cons (pv 5) (pa_cons (pv 4) pa_nil)))) pa_nil)))
        (pg_tup rfl (pgs_cons (pg_name (i := 5) scCanonical.nd rfl (Or.inl rfl)) (pgs_cons (pg_name (i := 4) scCanonical.nd rfl (Or.inl rfl)) pgs_nil)))
      (pss_cons (ps_set (i := 2) scCanonical.nd rfl (Or.inl rfl) (pe_op op_mul (pv 2) (pe_x (ok_two_to T) hr (Nat.le_refl _) passL (pa_cons (pe_op op_sub (pv 5) (pv 3)) pa_nil))))
      (pss_cons (ps_set (i := 3) scCanonical.nd rfl (Or.inl rfl) (pv 5))
      (pss_cons (ps_dput (un1 hr) (pv 1) (pv 4) (pe_x (ok_bits_of T) hr (Nat.le_refl _) passL (pa_cons (pv 2) (pa_cons (pv 3) pa_nil))) (by rfl))
      (pss_one (ps_aug (i := 2) scCanonical.nd rfl (Or.inl rfl) pe_int ip_add))))))
    (pss_one (ps_ret (pe_callTy call_tuple_of (by rfl) (T.fr _ (by decide)) (by decide +kernel)
      (pa_cons (pe_lc rfl scCanonical.nd (pi_range1 (by rfl) (T.fr _ (by decide)) (pa_cons (pe_callB call_len (by rfl) (T.fr _ (by decide)) boot_len (pa_cons (pv 0) pa_nil)) pa_nil)) (own := [("sign", 4)]) (blkOk_by (by rfl))
          (fun _ _ _ _ _ => pg_name (i := 4) scCanonical.nd rfl (Or.inl rfl) (Or.inr rfl))
          (fun _ _ _ _ _ => pts_nil) (fun _ _ _ _ _ => pe_dget (un1 hr) (pv 1) (pv 4) (fun _ _ => rfl))) pa_nil))))))), ?_⟩
  intro F hF
  refine ⟨by decide, fun P0 hP0 => ⟨_, _, rfl, .of upd_same, rfl, _, _, rfl, _, _, rfl, rfl, ?_⟩⟩
  have sH1 : Same H (upd (upd H F (.dK [])) P0 (.tup [.int 0, .int 0])) := same_new (same_new (Same.refl _) hF) hP0
  have hF0 := hF
  generalize hH1 : upd (upd H F (.dK [])) P0 (.tup [.int 0, .int 0]) = H1 at sH1
  have hF1 : H1 F = some (.dK []) := by
    rw [← hH1, upd_ne (ne_of_none upd_same hP0)]
    exact upd_same
  clear hH1 hP0
  have hS1 := sqT_same sH1 hS
  refine ⟨_, rfl, false, a, _, rfl, hS1, fun D hD => lc_it (walk_enumA (b := false) (K := K) (a := a) (xs := ls.map nI)) (fun i H2 => ∃ ts : List Addr, H2 D = some (.lst (ts.map V.ref)) ∧ ts.length = i ∧ Tups H2 ts ((ls.zipIdx.take i).map tI) ∧ Same H1 H2)
    ⟨[], upd_same, rfl, Tups.nil _, same_new (Same.refl _) hD⟩ (fun i H2 _ ⟨_, _, _, _, s2⟩ => SqA.same (b := false) s2 hS1) ?_ ?_⟩
  · rintro i x H2 H3 hi ⟨ts, hD2, hl, hT, s2⟩ ⟨t, x1, y1, rfl, ht, rfl, e1, e2⟩
    cases e1
    obtain ⟨l, hll, rfl⟩ := map_get e2
    refine ⟨t, _, rfl, .of upd_same, rfl, _, _, rfl, _, _, rfl, rfl, rfl, yes_ ⟨_, rfl, _, rfl, (by show 2 ≤ sizeLine; decide), fun p hp => ⟨ts.map V.ref, ?_, ?_, ts ++ [p], ?_, ?_, ?_, ?_⟩⟩⟩
    · rw [upd_ne (fun e => by rw [← e, upd_ne (ne_of_none hD2 ht), hD2] at hp; cases hp), upd_ne (ne_of_none hD2 ht), hD2]
    · rw [List.length_map, hl]
      exact small_lt (by rw [List.length_map] at hi; omega)
    · rw [upd_same, List.map_append]
      rfl
    · rw [List.length_append, hl]
      rfl
    · rw [List.length_map] at hi
      have et : (ls.zipIdx.take (i + 1)).map tI = (ls.zipIdx.take i).map tI ++ [tI (l, i)] := by
        have h5 : ls.zipIdx[i]? = some (l, i) := by
          rw [List.getElem?_zipIdx, hll]
          simp
        rw [List.take_succ, h5, List.map_append]
        rfl
      rw [et]
      have hD3 : ∀ b c, (upd H2 t (.tup [V.int (i : Nat), nI l])) b = some (.tup c) → D ≠ b := fun b c e e2 => by
        subst e2
        rw [upd_ne (ne_of_none hD2 ht), hD2] at e
        cases e
      have hpD : D ≠ p := fun e => by
        subst e
        rw [upd_ne (ne_of_none hD2 ht), hD2] at hp
        cases hp
      refine Tups.snoc (hT.mono fun b c e => ?_) ?_
      · have h6 : b ≠ D := fun e2 => by rw [e2, hD2] at e; cases e
        have h7 : b ≠ t := ne_of_none e ht
        have h8 : (upd H2 t (.tup [V.int (i : Nat), nI l])) b = some (.tup c) := by rw [upd_ne h7, e]
        rw [upd_ne h6, upd_ne (ne_of_none h8 hp), h8]
      · rw [upd_ne (Ne.symm hpD), upd_same]
        rfl
    · exact same_mut (same_new (same_new s2 ht) hp) hD
  · rintro H2 ⟨ts, hD2, hl, hT, s2⟩
    rw [List.length_map] at hl hT
    have hz : ls.zipIdx.take ls.length = ls.zipIdx := List.take_of_length_le (by rw [List.length_zipIdx]; exact Nat.le_refl _)
    rw [hz] at hT
    have hk : ∀ (i : Nat) (t : Addr), ts[i]? = some t → ∃ p, ls.zipIdx[i]? = some p ∧ H2 t = some (.tup (tI p)) := fun i t hi => by
      have h1 : i < (ls.zipIdx.map tI).length := by
        rw [← hT.len]
        exact (List.getElem?_eq_some_iff.mp hi).1
      have h2 : (ls.zipIdx.map tI)[i]? = some ((ls.zipIdx.map tI)[i]) := List.getElem?_eq_getElem h1
      obtain ⟨p, hp, e⟩ := map_get h2
      refine ⟨p, hp, ?_⟩
      rw [← e]
      exact hT.at_ i t _ hi h2
    have hkm : (ts.map V.ref).map (kOf H2) = ls.zipIdx.map pI := by
      rw [List.map_map]
      refine List.ext_getElem? fun i => ?_
      rw [List.getElem?_map, List.getElem?_map]
      cases hi : ts[i]? with
      | none =>
        rw [List.getElem?_eq_none_iff] at hi
        rw [List.getElem?_eq_none (by rw [List.length_zipIdx]; omega)]
        rfl
      | some t =>
        obtain ⟨p, hp, e⟩ := hk i t hi
        rw [hp]
        exact congrArg some (kOf_eq e)
    refine ⟨D, ts.map V.ref, kOf H2, rfl, .of hD2, fun x hx => ?_, fun ys d hs1 hs2 hd => ?_⟩
    · obtain ⟨t, ht, rfl⟩ := List.mem_map.mp hx
      obtain ⟨i, hi⟩ := List.mem_iff_getElem?.mp ht
      obtain ⟨p, hp, e⟩ := hk i t hi
      refine ⟨t, rfl, ?_⟩
      rw [kOf_eq e]
      exact e
    · have hkm2 : ys.map (kOf H2) = (prs ls).map pI := sorted_prs hkm hs1 hs2
      have hyl : ys.length = ls.length := by
        have := congrArg List.length hkm2
        rwa [List.length_map, List.length_map, prs_len] at this
      have hyk : ∀ (i : Nat) (y : V), ys[i]? = some y → ∃ t p, y = .ref t ∧ (prs ls)[i]? = some p ∧ H2 t = some (.tup (tI p)) := fun i y hi => by
        have h1 : y ∈ ts.map V.ref := hs2.perm.mem_iff.mp (List.mem_of_getElem? hi)
        obtain ⟨t, ht, rfl⟩ := List.mem_map.mp h1
        obtain ⟨j, hj⟩ := List.mem_iff_getElem?.mp ht
        obtain ⟨p, hp, e⟩ := hk j t hj
        have h2 : (ys.map (kOf H2))[i]? = some (kOf H2 (.ref t)) := by rw [List.getElem?_map, hi]; rfl
        rw [hkm2] at h2
        obtain ⟨p', hp', e'⟩ := map_get h2
        rw [kOf_eq e] at e'
        have e3 : p = p' := pI_inj e'
        subst e3
        exact ⟨t, p, rfl, hp', e⟩
      have s3 : Same H2 (upd H2 d (.lst ys)) := same_new (Same.refl _) hd
      have hdF : F ≠ d := ne_of_none (s2 _ _ hF1) hd
      refine ⟨d, rfl, ⟨ys, .of upd_same⟩, for_it (walk_list (K := K) (a := d) (xs := ys)) (fun i σ H3 => ∃ v4 v5 : Option V, σ = [some (.ref a), some (.ref F), some (nI (cRun ((prs ls).take i)).1), some (nI (cRun ((prs ls).take i)).2.1), v4, v5] ∧
          H3 F = some (.dK (cRun ((prs ls).take i)).2.2) ∧ H3 d = some (.lst ys) ∧ (∀ b c, H2 b = some (.tup c) → H3 b = some (.tup c)) ∧ Same H H3)
        ⟨none, none, rfl, s3 _ _ (s2 _ _ hF1), upd_same, fun b c e => s3 _ _ e, fun b u e => s3 _ _ (s2 _ _ (sH1 _ _ e))⟩ (fun i σ H3 _ ⟨_, _, _, _, e, _⟩ => .of e) ?_ ?_⟩
      · rintro i y σ H3 H4 hi ⟨v4, v5, rfl, hF3, hd3, ht3, s4⟩ ⟨rfl, hy⟩
        obtain ⟨t, p, rfl, hp, e⟩ := hyk i y hy
        have hpm := prs_mem (List.mem_of_getElem? hp)
        have hple : p.1 ≤ 60 := hle _ (List.mem_of_getElem? hpm.2)
        have er : cRun ((prs ls).take (i + 1)) = cStep (cRun ((prs ls).take i)) p := by
          rw [List.take_succ, hp]
          exact cRun_snoc _ _
        have hsz : (cRun ((prs ls).take i)).2.1 ≤ 60 := by
          cases i with
          | zero => exact Nat.zero_le _
          | succ j =>
            have hj : j < (prs ls).length := by rw [prs_len, ← hyl]; omega
            have hj2 : (prs ls)[j]? = some (prs ls)[j] := List.getElem?_eq_getElem hj
            rw [List.take_succ, hj2]
            show (cRun (_ ++ [(prs ls)[j]])).2.1 ≤ 60
            rw [cRun_snoc]
            exact hle _ (List.mem_of_getElem? (prs_mem (List.mem_of_getElem? hj2)).2)
        have hlen : (cRun ((prs ls).take i)).2.2.length < sizeLine := by
          refine small_lt (Nat.le_trans (cRun_len _) ?_)
          rw [List.length_take, prs_len]
          omega
        have e4 : ((p.1 : Int) - ((cRun ((prs ls).take i)).2.1 : Nat)).toNat = p.1 - (cRun ((prs ls).take i)).2.1 := by omega
        have er1 : (cRun ((prs ls).take (i + 1))).1 = (cRun ((prs ls).take i)).1 * 2 ^ (p.1 - (cRun ((prs ls).take i)).2.1) + 1 := by rw [er]; rfl
        have er2 : (cRun ((prs ls).take (i + 1))).2.1 = p.1 := by rw [er]; rfl
        have er3 : (cRun ((prs ls).take (i + 1))).2.2 = putK (cRun ((prs ls).take i)).2.2 (Sum.inl (p.2 : Int)) (.str (bitsOf ((cRun ((prs ls).take i)).1 * 2 ^ (p.1 - (cRun ((prs ls).take i)).2.1)) p.1 ("" : Str))) := by rw [er]; rfl
        rw [er1, er2, er3]
        clear er er1 er2 er3
        generalize (cRun ((prs ls).take i)).1 = num at *
        generalize (cRun ((prs ls).take i)).2.1 = size at *
        generalize (cRun ((prs ls).take i)).2.2 = kvs at *
        have hpow : (2 : Nat) ^ (p.1 - size) ≤ 2 ^ 60 := Nat.pow_le_pow_right (by decide) (by omega)
        refine ⟨t, _, rfl, .of (ht3 _ _ e), rfl, _, _, rfl, _, _, rfl, rfl, ?_⟩
        refine ⟨_, rfl, _, rfl, _, rfl, _, _, rfl, rfl, _, rfl, by omega, by omega, _, _, rfl, rfl, .inr ⟨?_, ?_⟩, ?_⟩
        · rw [e4]
          exact Int.lt_of_lt_of_le (by decide) (Int.natCast_nonneg _)
        · rw [e4]
          exact Int.lt_of_le_of_lt (Int.ofNat_le.mpr hpow) (by decide)
        rw [e4]
        refine ⟨_, rfl, _, rfl, _, rfl, num * 2 ^ (p.1 - size), p.1, ?_, by omega, ?_⟩
        · show [V.int ((num : Int) * ((2 ^ (p.1 - size) : Nat) : Int)), V.int (p.1 : Nat)] = _
          rw [Int.natCast_mul]
        refine ⟨_, rfl, _, rfl, F, _, rfl, DPut.k (k := Sum.inl (p.2 : Int)) hF3 hlen, _, rfl, _, _, rfl, rfl, ?_⟩
        have hFH : H F = none := hF0
        refine ⟨some (V.int (p.2 : Nat)), some (V.int (p.1 : Nat)), ?_, upd_same, ?_, fun b c e => ?_, same_mut s4 hFH⟩
        · show [some (V.ref a), some (V.ref F), some (V.int ((num : Int) * ((2 ^ (p.1 - size) : Nat) : Int) + 1)), some (V.int (p.1 : Nat)), some (V.int (p.2 : Nat)), some (V.int (p.1 : Nat))] = _
          unfold nI
          rw [Int.natCast_add, Int.natCast_mul]
          rfl
        · rw [upd_ne (Ne.symm hdF)]
          exact hd3
        · have e5 := ht3 b c e
          rw [upd_ne (fun e6 => by rw [e6, hF3] at e5; cases e5)]
          exact e5
      · rintro σ H3 ⟨v4, v5, rfl, hF3, hd3, ht3, s4⟩
        have hz2 : (prs ls).take ys.length = prs ls := List.take_of_length_le (by rw [prs_len]; omega)
        rw [hz2] at hF3
        have hS4 := sqT_same s4 hS
        refine ⟨_, rfl, _, ls.length, rfl, .inr ⟨_, hS4, (List.length_map nI).symm⟩, (ls.length : Int), rfl, by omega, by omega, fun D2 hD2 => lc_range (lo := 0) (n := ls.length) (fun i H4 => ∃ (ws : List V), H4 D2 = some (.lst ws) ∧ ws = (((List.range i).map (wordOf (cRun (prs ls)).2.2)).map V.str) ∧ H4 F = some (.dK (cRun (prs ls)).2.2) ∧ Same H3 H4)
          ⟨[], upd_same, rfl, same_new (Same.refl _) hD2 _ _ hF3, same_new (Same.refl _) hD2⟩ ?_ ?_⟩
        · rintro i H4 hi ⟨ws, hD4, hws, hF4, s5⟩
          refine ⟨rfl, yes_ ⟨_, rfl, _, rfl, F, .str (wordOf (cRun (prs ls)).2.2 i), rfl, ?_, ws, hD4, ?_, _, upd_same, ?_, ?_, same_mut s5 hD2⟩⟩
          · have h7 := DGet.k (H := H4) (a := F) (k := Sum.inl (i : Int)) hF4
            rw [canon_has ls i (by omega)] at h7
            show DGet H4 F (V.int (0 + (i : Int))) _
            rw [Int.zero_add]
            exact h7
          · rw [hws, List.length_map, List.length_map, List.length_range]
            exact small_lt (by omega)
          · rw [List.range_succ, List.map_append, List.map_append, hws]
            rfl
          · rw [upd_ne (fun e => by rw [e, hD4] at hF4; cases hF4)]
            exact hF4
        · rintro H4 ⟨ws, hD4, hws, hF4, s5⟩
          refine ⟨D2, ws, rfl, .inl ⟨.of hD4, fun p hp => q _ _ (same_new (fun b u e => s5 _ _ (s4 _ _ e)) hp) ?_⟩⟩
          rw [upd_same, hws]
          rfl
end
end K38
end
section
/-! ## K38E -/
/-! More facts; the class Code. -/
namespace K38
open PySem PySem.Spec PyProof.Rows L2
def faX : List He.Fa := [.cls "Code", .mkr "Code", .noat "Code" "lengths", .noat "Code" "words", .noat "Code" "size", .noat "Code" "longest", .meth "Code" "__eq__",
  .cls "Fillings", .mkr "Fillings", .noat "Fillings" "known", .meth "Fillings" "ways"]
/-- facts on the two classes -/
structure Tx (K : PySem.W.Frag) (mg : Str → Option Value) : Prop extends Txt K mg where
  fa : ∀ f ∈ faX, f.ok K = true
  kcl : PySem.W.findIn K (.ref (He.ga K "Code")) "__class__" = some (some (.builtin "object.__class__"))
  ksp : PySem.W.specialIn K (.builtin "object.__class__") "__get__" = some (some (.builtin "getset_descriptor.__get__"))
  ktk : PySem.W.takesIn K (.builtin "object.__class__") = some true
  kmr : PySem.W.mroIn K (He.ga K "Code") (.type "object") = some true
/-- a method of a class of the module -/
structure Mal (P : Program) (w : World) (K : PySem.W.Frag) (mg : Str → Option Value) (base : Heap) (k : Nat) (C m : Str) (sp : Sp) (dvs : List V) : Prop where
  ex : ∃ (fd : FuncData) (ps : List Str) (ds : List Value), FnOk P w K mg base (L2.CX P w) k (He.ma K (He.ga K C) m) fd ps sp ∧ Binds K fd ps ds ∧ Vals dvs ds
theorem Mal.mono {P : Program} {w : World} {K : PySem.W.Frag} {mg : Str → Option Value} {base : Heap} {j k : Nat} {C m : Str} {sp : Sp} {dvs : List V} (c : Mal P w K mg base j C m sp dvs) (h : j ≤ k) : Mal P w K mg base k C m sp dvs := by
  obtain ⟨fd, ps, ds, h1, h2, h3⟩ := c.ex
  exact ⟨fd, ps, ds, h1.mono h, h2, h3⟩
section
variable {P : Program} {w : World} {K : PySem.W.Frag} {mg : Str → Option Value} {base : Heap}
theorem mal_of (T : Txt K mg) {C m q : Str} {st : Stmt} {dfl : List He.Dv} {N ps : List Str} {k : Nat} {sp : Sp} {dvs : List V} (hd : dMet C m q st dfl ∈ fn) (S : FnScope N ps (defScope st))
    (hb : ∀ fd, FunD K m q (defArgs st) (defBody st) (defScope st) (dfl.map (He.Dv.v K)) [] (He.fAd K (C, some m)) fd → ∃ ds, Vals dvs ds ∧ Binds K fd ps ds)
    (len : ∀ vs H Q E, sp vs H Q E → vs.length = ps.length)
    (hbody : ∀ (cdv : Value) (A : Around) (outer : List Env) (s : Shared) (H : Hp) (vs : List V) (Q : VK) (E : XK), Room k (A.deeper (envOfC q (defScope st) s.heap.objs.size (He.fAd K (C, some m)) cdv)) → sp vs H Q E →
      ∃ t, PSs (cxOf (L2.CX P w) P w K mg base N q (defScope st) (He.fAd K (C, some m)) cdv A outer s H E) (defBody st) t ∧ t { nx := fun _ H' => Q .non H', rt := Q } (start N vs) H) : Mal P w K mg base (k + 1) C m sp dvs := by
  obtain ⟨fd, F⟩ := T.fd _ hd
  have F2 : FunD K m q (defArgs st) (defBody st) (defScope st) (dfl.map (He.Dv.v K)) [] (He.fAd K (C, some m)) fd := F
  obtain ⟨ds, h1, h2⟩ := hb fd F2
  exact ⟨fd, ps, ds, F2.ok S len hbody, h2, h1⟩
end
/-! ### small rules -/
section
variable {X : Cx}
theorem pe_no {e : Expr} : PE X e (fun _ _ _ => False) := ⟨fun _ _ _ _ _ _ h => h.elim⟩
theorem ps_no {st : Stmt} : PS X st (fun _ _ _ => False) := ⟨fun _ _ _ _ _ _ h => h.elim⟩
theorem pi_or {tg e : Expr} {a b : TI} (ha : PI X tg e a) (hb : PI X tg e b) : PI X tg e (fun σ H R => a σ H R ∨ b σ H R) := ⟨fun pins s σ H R I h => h.elim (ha.run pins s σ H R I) (hb.run pins s σ H R I)⟩
theorem pe_or2 {e : Expr} {a b : TE} (ha : PE X e a) (hb : PE X e b) : PE X e (fun σ H Q => a σ H Q ∨ b σ H Q) := ⟨fun pins s σ H Q I h => h.elim (ha.run pins s σ H Q I) (hb.run pins s σ H Q I)⟩
theorem holdAll_ints {h : Heap} : ∀ {ns : List Int} {its : List Value}, Vals (ns.map V.int) its → PySem.W.HoldAll h its ns
  | [], its, r => by
    cases r
    exact PySem.W.HoldAll.nil
  | n :: ns, its, r => by
    cases r with
    | cons p q =>
      obtain ⟨t, rfl⟩ := p
      exact PySem.W.HoldAll.cons (PySem.W.holds_int n t) (holdAll_ints q)
/-- max(t) of a tuple of ints: an int -/
def rMaxT (K : PySem.W.Frag) : List V → Hp → VK → Prop := fun vs H Q => ∃ (a : Addr) (n : Int) (ns : List Int), vs = [V.ref a] ∧ SqT K H a ((n :: ns).map V.int) ∧ ∀ m : Int, Q (.int m) H
theorem cr_maxT (hc : X.calm = true) (hu : X.A.units + 2 < cLine) : CallR X (.builtin "max") (rMaxT X.K) := by
  intro pins s σ H vs us Q I r h
  obtain ⟨a, n, ns, rfl, hs, q⟩ := h
  obtain ⟨its, rv, hl, _⟩ := inv_A (b := false) I hs
  rw [Vals.ref1 r]
  refine PySem.W.max_tuple_datum (x := n) (xs := ns) (I.ok.hd hc) hl (by rw [List.toList_toArray]; exact holdAll_ints rv) (by show X.A.units + 1 + 0 < cLine; omega) fun i v h' tk _ hv hk => ?_
  obtain ⟨t, rfl⟩ := PySem.W.int_of_holds hv
  exact ⟨.int _, H, I.kept hk, ⟨t, rfl⟩, q _⟩
end
theorem or_seq {b : Bool} {K : PySem.W.Frag} {H : Hp} {a : Addr} {xs : List V} {te : TE} {σ : L2.St} (h : SqA b K H a xs) (ht : ∀ Q : VK, Q (.ref a) H → te σ H Q) :
    ∃ J : It, Walk J xs.length (fun H => SqA b K H a xs) (YAt xs) ∧ ∀ R : It → Hp → Prop, R J H → (iList K te σ H R ∨ iTup K te σ H R) := by
  cases b
  · exact ⟨_, walk_tup (K := K) (a := a), fun R r => .inr (ht _ ⟨a, rfl, ⟨xs, h⟩, r⟩)⟩
  · exact ⟨_, walk_list (K := K) (a := a), fun R r => .inl (ht _ ⟨a, rfl, ⟨xs, h⟩, r⟩)⟩
theorem sum_cast {α : Type} (f : α → Nat) : ∀ ls : List α, (ls.map fun l => ((f l : Nat) : Int)).sum = (((ls.map f).sum : Nat) : Int)
  | [] => rfl
  | l :: ls => by rw [List.map_cons, List.sum_cons, List.map_cons, List.sum_cons, Int.natCast_add, ← sum_cast f ls]
theorem tuple_use {b : Bool} {K : PySem.W.Frag} {H : Hp} {a : Addr} {xs : List V} {Q : VK} (h : SqA b K H a xs) (q : ∀ t H4, Same H H4 → SqT K H4 t xs → Q (.ref t) H4) :
    ∃ p ys, [V.ref a] = [V.ref p] ∧ ((SqL K H p ys ∧ ∀ l, H l = none → Q (.ref l) (upd H l (.tup ys))) ∨ (SqT K H p ys ∧ Q (.ref p) H)) := by
  cases b
  · exact ⟨a, xs, rfl, .inr ⟨h, q a H (Same.refl _) h⟩⟩
  · exact ⟨a, xs, rfl, .inl ⟨h, fun l hl => q l _ (same_new (Same.refl _) hl) (.inl (.inl upd_same))⟩⟩
theorem put_le {f : Str} {v : V} {fs : List (Str × V)} {n : Nat} (h : fs.length ≤ n) : (putF f v fs).length ≤ n + 1 := Nat.le_trans (length_putF f v fs) (Nat.succ_le_succ h)
theorem put_lt {fs : List (Str × V)} (n : Nat) (h : fs.length ≤ n) (hn : n < 1000) : fs.length < 1000 := Nat.lt_of_le_of_lt h hn
def rTupOf (K : PySem.W.Frag) : List V → Hp → VK → Prop := fun xs H Q => ∃ p ys, xs = [.ref p] ∧ ((SqL K H p ys ∧ ∀ l, H l = none → Q (.ref l) (upd H l (.tup ys))) ∨ (SqT K H p ys ∧ Q (.ref p) H))
theorem tuple_cb {b : Bool} {K : PySem.W.Frag} {H : Hp} {a : Addr} {xs : List V} {Q : VK} {σ : L2.St} {te : TE} (h : SqA b K H a xs) (hv : ∀ Q : VK, Q (.ref a) H → te σ H Q) (q : ∀ t H4, Same H H4 → SqT K H4 t xs → Q (.ref t) H4) :
    tCB (rTupOf K) (tCons te tNil) σ H Q := hv _ (tuple_use h q)
theorem sqT_upd {K : PySem.W.Frag} {H : Hp} {t y C dx : Addr} {fs : List (Str × V)} {xs : List V} {o : HO} (h : SqT K H t xs) (hy : H y = some (.ins C dx fs)) : SqT K (upd H y o) t xs := by
  rcases h with (h | ⟨u, h⟩) | h
  · exact .inl (.inl (by rw [upd_ne (fun e => by rw [e, hy] at h; cases h)]; exact h))
  · exact .inl (.inr ⟨u, by rw [upd_ne (fun e => by rw [e, hy] at h; cases h)]; exact h⟩)
  · exact .inr h
/-! ### Code -/
def Full (ls : List Nat) : Prop := 2 ≤ ls.length ∧ ls.length ≤ 26 ∧ (∀ l ∈ ls, 1 ≤ l ∧ l ≤ 25) ∧ (ls.map fun l => 2 ^ (25 - l)).sum = 2 ^ 25
/-- a Code of these lengths -/
def CodeAt (K : PySem.W.Frag) (H : Hp) (y : Addr) (ls : List Nat) : Prop := ∃ (dx : Addr) (fs : List (Str × V)) (t p : Addr), H y = some (.ins (He.ga K "Code") dx fs) ∧ fs.lookup ("lengths" : Str) = some (.ref t) ∧ fs.lookup ("words" : Str) = some (.ref p) ∧
  fs.lookup ("size" : Str) = some (nI ls.length) ∧ SqT K H t (ls.map nI) ∧ H p = some (.tup ((canonW ls).map V.str))
theorem CodeAt.same {K : PySem.W.Frag} {H H' : Hp} {y : Addr} {ls : List Nat} (c : CodeAt K H y ls) (s : Same H H') : CodeAt K H' y ls := by
  obtain ⟨dx, fs, t, p, h1, h2, h3, h4, h5, h6⟩ := c
  exact ⟨dx, fs, t, p, s _ _ h1, h2, h3, h4, sqT_same s h5, s _ _ h6⟩
def spCodeInit (K : PySem.W.Frag) : Sp := fun vs H Q _ => ∃ (y a dx : Addr) (b : Bool) (ls : List Nat), vs = [.ref y, .ref a, .non] ∧ H y = some (.ins (He.ga K "Code") dx []) ∧ SqA b K H a (ls.map nI) ∧ Full ls ∧
  ∀ H', (∀ c u, H c = some u → c ≠ y → H' c = some u) → CodeAt K H' y ls → Q .non H'
theorem scCodeInit : FnScope ["self", "lengths", "words", "index", "length"] ["self", "lengths", "words"] (defScope sCodeInit) := ⟨rfl, rfl, rfl, by decide +kernel, rfl, by decide +kernel, by decide +kernel⟩
section
variable {w : World} {K : PySem.W.Frag} {mg : Str → Option Value} {base : Heap}
theorem tkCls (T : Tx K mg) : Cls K (He.ga K "Code") := He.cls_ok (T.fa (.cls "Code") (List.mem_of_getElem? (i := 0) rfl))
theorem ok_code_init (T : Tx K mg) : Mal PR w K mg base 3 "Code" "__init__" (spCodeInit K) [.non] := by
  have C := tkCls T
  have nL : NoAttr K (He.ga K "Code") "lengths" := He.noat_ok (T.fa (.noat "Code" "lengths") (List.mem_of_getElem? (i := 2) rfl))
  have nW : NoAttr K (He.ga K "Code") "words" := He.noat_ok (T.fa (.noat "Code" "words") (List.mem_of_getElem? (i := 3) rfl))
  have nS : NoAttr K (He.ga K "Code") "size" := He.noat_ok (T.fa (.noat "Code" "size") (List.mem_of_getElem? (i := 4) rfl))
  have nX : NoAttr K (He.ga K "Code") "longest" := He.noat_ok (T.fa (.noat "Code" "longest") (List.mem_of_getElem? (i := 5) rfl))
  refine mal_of T.toTxt (C := "Code") (m := "__init__") (q := "Code.__init__") (st := sCodeInit) (dfl := [.non]) (N := ["self", "lengths", "words", "index", "length"]) (ps := ["self", "lengths", "words"]) (List.mem_of_getElem? (i := 24) rfl) scCodeInit
    (fun fd F => F.binds1 2 0 (by exact fun h => nomatch h) rfl fun _ _ _ _ _ _ _ us its hu hi => match us, its, hu, hi with | [_, _], [_], _, _ => ⟨_, rfl, rfl⟩) (fun vs H Q E h => by
    obtain ⟨y, a, dx, b, ls, rfl, _⟩ := h
    rfl) (fun cdv A outer s H vs Q E hr h => ?_)
  obtain ⟨y, a, dx, b, ls, rfl, hy, hS, ⟨f2, f26, f25, fsum⟩, q⟩ := h
  refine ⟨_, pss_cons (ps_expr (pe_x (ok_check_signs T.toTxt) hr (by decide) psX (pa_cons (pe_callB call_len (by rfl) (T.fr _ (by decide)) boot_len (pa_cons (pv 1) pa_nil)) pa_nil)))
    (pss_cons (ps_for po_cx rfl (pi_enumA (by rfl) (T.fr _ (by decide)) (pa_cons (pv 1) pa_nil)) (pg_two (i := 3) (j := 4) (K := K) rfl rfl scCodeInit.nd rfl rfl (Or.inl rfl) (Or.inl rfl) (Or.inr rfl) (Or.inr rfl))
      (pss_one (ps_if (PW.pt (pw_or (pt_not (pt_val (pe_x (ok_is_whole T.toTxt) hr (by decide) passL (pa_cons (pv 4) (pa_cons pe_int pa_nil))))) (pw_or1 (pt_cmpR op_gt (pv 4) (pe_ci rfl T.mLength) (nomark _))))) (pss_one ps_no) pss_nil)))
    (pss_cons (ps_if (pt_cmpR op_ne (pe_callB (cr_sum rfl) (by rfl) (T.fr _ (by decide)) (by decide +kernel) (pa_cons (pe_lc rfl scCodeInit.nd (pi_or (pi_list (pv 1)) (pi_tup (pv 1))) (own := [("length", 4)]) (blkOk_by (by rfl))
          (fun _ _ _ _ _ => pg_name (i := 4) scCodeInit.nd rfl (Or.inl rfl) (Or.inr rfl))
          (fun _ _ _ _ _ => pts_nil) (fun _ _ _ _ _ => pe_x (ok_two_to T.toTxt) hr (by decide) passL (pa_cons (pe_op op_sub (pe_ci rfl T.mLength) (pv 4)) pa_nil))) pa_nil))
        (pe_x (ok_two_to T.toTxt) hr (by decide) passL (pa_cons (pe_ci rfl T.mLength) pa_nil)) (nomark _)) (pss_one ps_no) pss_nil)
    (pss_cons (ps_fld (pv 0) (pe_callTy (r := rTupOf K) call_tuple_of (by rfl) (T.fr _ (by decide)) (by decide +kernel) (pa_cons (pv 1) pa_nil)) (by rfl))
    (pss_cons (ps_fld (pv 0) (pe_ifExp (pt_cmp (pc_isN (pv 2))) (pe_x (ok_canonical T.toTxt) hr (by decide) passL (pa_cons (pe_fld (pv 0) (by rfl)) pa_nil)) pe_no) (by rfl))
    (pss_cons (ps_fld (pv 0) (pe_callB call_len (by rfl) (T.fr _ (by decide)) boot_len (pa_cons (pe_fld (pv 0) (by rfl)) pa_nil)) (by rfl))
    (pss_one (ps_fld (pv 0) (pe_callB (cr_maxT rfl (by have := hr.un; show A.units + 3 + 2 < cLine; have : A.units + 3 + 16 * 2 + 200 < cLine := this; omega)) (by rfl) (T.fr _ (by decide)) (by decide +kernel) (pa_cons (pe_fld (pv 0) (by rfl)) pa_nil)) (by rfl)))))))), ?_⟩
  have hlen : (ls.map nI).length = ls.length := List.length_map _
  refine ⟨_, rfl, _, ls.length, rfl, ?_, (ls.length : Int), rfl, fun _ _ => ?_, fun hno => absurd ⟨by omega, by omega⟩ hno⟩
  · rcases len_A (X := cxOf (L2.CX PR w) PR w K mg base ["self", "lengths", "words", "index", "length"] "Code.__init__" (defScope sCodeInit) (He.fAd K ("Code", some "__init__")) cdv A outer s H E) hS with ⟨ys, h1, h2⟩ | ⟨ys, h1, h2⟩
    · exact .inl ⟨ys, h1, by rw [h2, hlen]⟩
    · exact .inr ⟨ys, h1, by rw [h2, hlen]⟩
  refine ⟨_, rfl, b, a, _, rfl, hS, for_it (walk_enumA (b := b) (K := K) (a := a) (xs := ls.map nI)) (fun i σ H2 => ∃ v1 v2 : Option V, σ = [some (.ref y), some (.ref a), some .non, v1, v2] ∧ Same H H2)
    ⟨none, none, rfl, Same.refl _⟩ (fun i σ H2 _ ⟨_, _, _, s2⟩ => SqA.same s2 hS) ?_ ?_⟩
  · rintro i x σ H2 H3 hi ⟨v1, v2, rfl, s2⟩ ⟨t, x1, y1, rfl, ht, rfl, e1, e2⟩
    cases e1
    obtain ⟨l, hll, rfl⟩ := map_get e2
    have hl := f25 l (List.mem_of_getElem? hll)
    refine ⟨t, _, rfl, .of upd_same, rfl, _, _, rfl, _, _, rfl, rfl, ?_⟩
    refine ⟨_, rfl, _, 1, rfl, .inl ⟨_, rfl, _, rfl, ?_⟩⟩
    refine ifF (by have : (1 : Int) ≤ (l : Int) := by omega
                   simp [this]) ?_
    refine ⟨_, rfl, _, _, rfl, rfl, _, rfl, ifF (decide_eq_false (by omega)) ⟨_, _, rfl, same_new s2 ht⟩⟩
  rintro σ H2 ⟨v1, v2, rfl, s2⟩
  have hS2 := SqA.same s2 hS
  obtain ⟨J, hJ, hin⟩ := or_seq (te := tVar 1) (σ := [some (.ref y), some (.ref a), some .non, v1, v2]) hS2 (fun Q q => ⟨_, rfl, q⟩)
  refine hin _ fun D hD => lc_it hJ (fun i H3 => H3 D = some (.lst (((ls.take i).map fun l => ((2 ^ (25 - l) : Nat) : Int)).map V.int)) ∧ Same H2 H3)
    ⟨upd_same, same_new (Same.refl _) hD⟩ (fun i H3 _ ⟨_, s3⟩ => SqA.same s3 hS2) ?_ ?_
  · rintro i x H3 H4 hi ⟨hD3, s3⟩ ⟨rfl, hx⟩
    obtain ⟨l, hll, rfl⟩ := map_get hx
    have hl := f25 l (List.mem_of_getElem? hll)
    have e0 : ((25 : Int) - (l : Int)).toNat = 25 - l := by omega
    refine ⟨rfl, yes_ ⟨_, rfl, _, _, rfl, rfl, _, rfl, by omega, by omega, _, hD3, ?_, ?_, same_mut s3 hD⟩⟩
    · rw [List.length_map, List.length_map, List.length_take]
      exact small_lt (by omega)
    · rw [upd_same, List.take_succ, hll, e0]
      simp
  rintro H3 ⟨hD3, s3⟩
  rw [hlen, List.take_length] at hD3
  refine ⟨D, _, rfl, .of hD3, ?_⟩
  have hsum : (ls.map fun l => ((2 ^ (25 - l) : Nat) : Int)).sum = ((2 ^ 25 : Nat) : Int) := by
    rw [← fsum]
    exact sum_cast _ ls
  rw [hsum]
  refine ⟨25, rfl, by decide, by decide, rfl, _, rfl, ifF (by decide) ?_⟩
  have s4 : Same H H3 := fun c u e => s3 _ _ (s2 _ _ e)
  have hS3 := SqA.same s4 hS
  have hy3 := s4 _ _ hy
  refine tuple_cb (te := tVar 1) hS3 (fun Q q => ⟨_, rfl, q⟩) fun t H4 s5 hT => ?_
  have hy4 := s5 _ _ hy3
  refine ⟨_, rfl, y, _, dx, [], rfl, hy4, C, nL, by decide, ?_⟩
  have hT5 := sqT_upd (o := .ins (He.ga K "Code") dx (putF "lengths" (.ref t) [])) hT hy4
  refine ⟨_, rfl, _, rfl, ifT (by decide) ?_⟩
  refine ⟨_, rfl, y, _, dx, _, .ref t, rfl, upd_same, C, nL, rfl, t, ls, rfl, hT5, by omega, fun l hl => by have := f25 l hl; omega, fun H6 p s7 hp => ?_⟩
  have hy6 := s7 _ _ (upd_same (H := H4) (a := y) (o := .ins (He.ga K "Code") dx (putF "lengths" (.ref t) [])))
  have hpy : p ≠ y := fun e => by rw [e, hy6] at hp; cases hp
  refine ⟨_, rfl, y, _, dx, _, rfl, hy6, C, nW, put_lt 1 (put_le (Nat.le_refl 0)) (by decide), ?_⟩
  have hT6 := sqT_upd (o := .ins (He.ga K "Code") dx (putF "words" (.ref p) (putF "lengths" (.ref t) []))) (sqT_same s7 hT5) hy6
  refine ⟨_, rfl, y, _, dx, _, .ref t, rfl, upd_same, C, nL, rfl, _, ls.length, rfl, .inr ⟨_, hT6, hlen.symm⟩, ?_⟩
  refine ⟨_, rfl, y, _, dx, _, rfl, upd_same, C, nS, put_lt 2 (put_le (put_le (Nat.le_refl 0))) (by decide), ?_⟩
  have hT7 := sqT_upd (o := .ins (He.ga K "Code") dx (putF "size" (nI ls.length) (putF "words" (.ref p) (putF "lengths" (.ref t) [])))) hT6 upd_same
  obtain ⟨l0, lr, rfl⟩ : ∃ l0 lr, ls = l0 :: lr := by
    cases ls with
    | nil => exact absurd f2 (by decide)
    | cons l0 lr => exact ⟨l0, lr, rfl⟩
  refine ⟨_, rfl, y, _, dx, _, .ref t, rfl, upd_same, C, nL, rfl, t, (l0 : Int), lr.map (fun l : Nat => (l : Int)), rfl, ?_, fun m => ?_⟩
  · rw [List.map_cons, List.map_map]
    exact hT7
  refine ⟨_, rfl, y, _, dx, _, rfl, upd_same, C, nX, put_lt 3 (put_le (put_le (put_le (Nat.le_refl 0)))) (by decide), ?_⟩
  have hT8 := sqT_upd (o := .ins (He.ga K "Code") dx (putF "longest" (.int m) (putF "size" (nI (l0 :: lr).length) (putF "words" (.ref p) (putF "lengths" (.ref t) []))))) hT7 upd_same
  refine q _ (fun c u e ne => ?_) ⟨dx, _, t, p, upd_same, rfl, rfl, rfl, hT8, ?_⟩
  · rw [upd_ne ne, upd_ne ne, upd_ne ne]
    refine s7 _ _ ?_
    rw [upd_ne ne]
    exact s5 _ _ (s4 _ _ e)
  · rw [upd_ne hpy, upd_ne hpy, upd_ne hpy]
    exact hp
end
end K38
end
section
/-! ## K38F -/
/-! Code.__eq__, check_pair, cost. -/
namespace K38
open PySem PySem.Spec PyProof.Rows L2
/-! ### == of Codes -/
def EqR (K : PySem.W.Frag) (a b : Addr) (H : Hp) : Prop := ∃ ls, CodeAt K H a ls ∧ CodeAt K H b ls
theorem dp_strs {K : PySem.W.Frag} {H : Hp} : ∀ ws : List Str, DpAll K H (ws.map V.str) (ws.map PyData.str)
  | [] => .nil
  | w :: ws => .cons (.str w) (dp_strs ws)
/-- == and != of plain data -/
def rEqP (K : PySem.W.Frag) : R2 := fun x y H Q => ∃ d e, Dp K H x d ∧ Dp K H y e ∧ d.plain = true ∧ e.plain = true ∧ d.depth ≤ 8 ∧ Q (.bl (PyData.eqv d e)) H
def rNeP (K : PySem.W.Frag) : R2 := fun x y H Q => ∃ d e, Dp K H x d ∧ Dp K H y e ∧ d.plain = true ∧ e.plain = true ∧ d.depth ≤ 8 ∧ Q (.bl (!PyData.eqv d e)) H
section
variable {X : Cx}
theorem op_eqP (hu : X.A.units + 8 < cLine) : OpR X (compareOp .Eq) (rEqP X.K) := by
  intro pins s σ H x y v u Q I rx ry h
  obtain ⟨d, e, hd, he, sd, se, hdep, q⟩ := h
  obtain ⟨as, r1⟩ := Dp.reads I d x v hd rx
  obtain ⟨bs, r2⟩ := Dp.reads I e y u he ry
  exact SeqAt.eq_plain r1 r2 sd se (by have := Nat.min_le_left d.depth e.depth; omega) ⟨.bl _, H, I, rfl, q⟩
theorem op_neP (hu : X.A.units + 8 < cLine) : OpR X (compareOp .NotEq) (rNeP X.K) := by
  intro pins s σ H x y v u Q I rx ry h
  obtain ⟨d, e, hd, he, sd, se, hdep, q⟩ := h
  obtain ⟨as, r1⟩ := Dp.reads I d x v hd rx
  obtain ⟨bs, r2⟩ := Dp.reads I e y u he ry
  exact SeqAt.ne_plain r1 r2 sd se (by have := Nat.min_le_left d.depth e.depth; omega) ⟨.bl _, H, I, rfl, q⟩
end
def tupS (ws : List Str) : PyData := PySem.W.Datum.toD (PySem.W.Tup.mk ws)
theorem tupS_plain (ws : List Str) : (tupS ws).plain = true := PySem.W.Datum.plain _
theorem tupS_dep (ws : List Str) : (tupS ws).depth ≤ 8 := Nat.le_trans (PySem.W.Datum.depth_le _) (by decide)
theorem tupS_refl (ws : List Str) : PyData.eqv (tupS ws) (tupS ws) = true := by
  unfold tupS
  rw [PySem.W.Datum.eqv]
  exact decide_eq_true rfl
theorem un8 {k : Nat} {A : Around} (r : Room k A) : A.units + 8 < cLine := by have := r.un; omega
theorem un100 {k : Nat} {A : Around} (r : Room k A) : A.units + 100 < cLine := by have := r.un; omega
section
variable {w : World} {K : PySem.W.Frag} {mg : Str → Option Value} {base : Heap}
theorem scCodeEq : FnScope ["self", "other"] ["self", "other"] (defScope sCodeEq) := ⟨rfl, rfl, rfl, by decide +kernel, rfl, by decide +kernel, by decide +kernel⟩
theorem ok_code_eq (T : Tx K mg) : Mal PR w K mg base 1 "Code" "__eq__" (spEq (EqR K)) [] := by
  have C := tkCls T
  have nW : NoAttr K (He.ga K "Code") "words" := He.noat_ok (T.fa (.noat "Code" "words") (List.mem_of_getElem? (i := 3) rfl))
  refine mal_of T.toTxt (C := "Code") (m := "__eq__") (q := "Code.__eq__") (st := sCodeEq) (dfl := []) (N := ["self", "other"]) (ps := ["self", "other"]) (List.mem_of_getElem? (i := 25) rfl) scCodeEq
    (fun fd F => ⟨[], .nil, FunD.bindsN (ps := ["self", "other"]) F fun _ _ _ _ _ _ us hl => match us, hl with | [_, _], _ => rfl⟩) (fun vs H Q E h => by
    obtain ⟨a, b, rfl, _⟩ := h
    rfl) (fun cdv A outer s H vs Q E hr h => ?_)
  obtain ⟨a, b, rfl, ⟨ls, ⟨dx, fs, t, p, h1, h2, h3, h4, h5, h6⟩, ⟨dx2, fs2, t2, p2, g1, g2, g3, g4, g5, g6⟩⟩, q⟩ := h
  refine ⟨_, PSs.nox (pss_one (ps_ret (pe_and (pe_callB call_isi (by rfl) (T.fr _ (by decide)) (by decide +kernel) (pa_cons (pv 1) (pa_cons (pe_glob (v := .ref (He.ga K "Code")) (by rfl) (T.gl "Code" (by decide)) rfl (by decide)) pa_nil)))
    (pe_one (pe_cmpR (op_eqP (un8 hr)) (pe_fld (pv 0) (by rfl)) (pe_fld (pv 1) (by rfl)) (nomark _)))))), ?_⟩
  refine ⟨_, rfl, _, _, _, _, true, rfl, .own _, .base (.ins g1 C T.kcl T.ksp T.ktk T.kmr), ?_, _, rfl, iteT ?_⟩
  · unfold PySem.W.kitOne
    rw [if_pos (beq_self_eq_true _)]
  refine ⟨_, rfl, a, _, dx, fs, _, rfl, h1, C, nW, h3, _, rfl, b, _, dx2, fs2, _, rfl, g1, C, nW, g3, ?_⟩
  refine ⟨tupS _, tupS _, .tup (.inl (.inl h6)) (dp_strs _), .tup (.inl (.inl g6)) (dp_strs _), tupS_plain _, tupS_plain _, tupS_dep _, ?_⟩
  rw [tupS_refl]
  exact q H Ext.rfl'
/-! ### check_pair, cost -/
def spPair (K : PySem.W.Frag) : Sp := fun vs H Q E => ∃ (y a : Addr) (ls : List Nat) (b : Bool) (ns : List Int), vs = [.ref y, .ref a] ∧ CodeAt K H y ls ∧ SqA b K H a (ns.map V.int) ∧
  (¬ (2 ≤ ns.length ∧ ns.length ≤ 26) → Rz K "TooMany" [("most", .int 26), ("many", .int (ns.length : Nat)), ("what", .str "signs")] H E) ∧
  (2 ≤ ns.length → ns.length ≤ 26 → (∀ n ∈ ns, 0 ≤ n) → ∀ H', Same H H' → (ns.length = ls.length → Q .non H') ∧ (ns.length ≠ ls.length → Rz K "OtherSize" [("wanted", .int (ls.length : Nat)), ("many", .int (ns.length : Nat))] H' E)) ∧
  (2 ≤ ns.length → ns.length ≤ 26 → ∀ (j : Nat) (n : Int), ns[j]? = some n → n < 0 → (∀ (k : Nat) (m : Int), k < j → ns[k]? = some m → 0 ≤ m) → ∀ H', Same H H' → Rz K "BadCount" [("index", .int (j : Nat))] H' E)
theorem scPair : FnScope ["code", "counts"] ["code", "counts"] (defScope sCheckPair) := ⟨rfl, rfl, rfl, by decide +kernel, rfl, by decide +kernel, by decide +kernel⟩
theorem ok_check_pair (T : Tx K mg) : Cal PR w K mg base 3 "check_pair" (spPair K) := by
  have C := tkCls T
  have nS : NoAttr K (He.ga K "Code") "size" := He.noat_ok (T.fa (.noat "Code" "size") (List.mem_of_getElem? (i := 4) rfl))
  obtain ⟨fI, cc, ca, X⟩ := T.xOtherSize
  refine cal_of T.toTxt (st := sCheckPair) (N := ["code", "counts"]) (ps := ["code", "counts"]) (List.mem_of_getElem? (i := 7) rfl) (by decide) scPair (fun _ _ _ _ _ _ us hl => match us, hl with | [_, _], _ => rfl) (fun vs H Q E h => by
    obtain ⟨y, a, ls, b, ns, rfl, _⟩ := h
    rfl) (fun cdv A outer s H vs Q E hr h => ?_)
  obtain ⟨y, a, ls, b, ns, rfl, hc, hS, q1, q2, q3⟩ := h
  refine ⟨_, pss_cons (ps_expr (pe_x (ok_check_counts T.toTxt) hr (by decide) psX (pa_cons (pv 1) pa_nil)))
    (pss_one (ps_if (pt_cmpR op_ne (pe_callB call_len (by rfl) (T.fr _ (by decide)) boot_len (pa_cons (pv 1) pa_nil)) (pe_fld (pv 0) (by rfl)) (nomark _))
      (pss_one (ps_raiseX rfl X exs_OtherSize (by decide) (by decide) hr tkX (pa_cons (pe_callB call_len (by rfl) (T.fr _ (by decide)) boot_len (pa_cons (pv 1) pa_nil)) (pa_cons (pe_fld (pv 0) (by rfl)) pa_nil)))) pss_nil)), ?_⟩
  have hlen : (ns.map V.int).length = ns.length := List.length_map _
  refine ⟨_, rfl, b, a, ns, rfl, hS, q1, fun h2 h26 hp H' s' => ?_, fun h2 h26 j n hn hneg hk H' s' => q3 h2 h26 j n hn hneg hk H' s'⟩
  have hl : (∃ ys, SqL K H' a ys ∧ ys.length = ns.length) ∨ ∃ ys, SqT K H' a ys ∧ ys.length = ns.length := by
    have hS2 := SqA.same s' hS
    cases b
    · exact .inr ⟨_, hS2, hlen⟩
    · exact .inl ⟨_, hS2, hlen⟩
  have hl2 : (∃ ys, SqL K H' a ys ∧ ns.length = ys.length) ∨ ∃ ys, SqT K H' a ys ∧ ns.length = ys.length := by
    rcases hl with ⟨ys, e1, e2⟩ | ⟨ys, e1, e2⟩
    · exact .inl ⟨ys, e1, e2.symm⟩
    · exact .inr ⟨ys, e1, e2.symm⟩
  obtain ⟨dx, fs, t, p, h1, h3, h4, h5, h6, h7⟩ := hc.same s'
  refine ⟨_, rfl, _, ns.length, rfl, ?_, _, rfl, y, _, dx, fs, _, rfl, h1, C, nS, h5, rfl, _, rfl, ?_⟩
  · rcases hl with ⟨ys, e1, e2⟩ | ⟨ys, e1, e2⟩
    · exact .inl ⟨ys, e1, by rw [e2]⟩
    · exact .inr ⟨ys, e1, by rw [e2]⟩
  by_cases he : ns.length = ls.length
  · refine ifF ?_ ((q2 h2 h26 hp H' s').1 he)
    rw [he]
    show (!decide (V.int (ls.length : Nat) = V.int (ls.length : Nat))) = false
    rw [decide_eq_true rfl]
    rfl
  · refine ifT ?_ ?_
    · rw [decide_eq_false (fun e => he (by have := V.int.inj e; omega))]
      rfl
    · refine ⟨_, rfl, _, ns.length, rfl, ?_, _, rfl, y, _, dx, fs, _, rfl, h1, C, nS, h5, rfl, fun d hd => (q2 h2 h26 hp H' s').2 he d hd⟩
      rcases hl with ⟨ys, e1, e2⟩ | ⟨ys, e1, e2⟩
      · exact .inl ⟨ys, e1, by rw [e2]⟩
      · exact .inr ⟨ys, e1, by rw [e2]⟩
def costI (ns : List Int) (ls : List Nat) : Int := ((ns.zip ls).map fun p => p.1 * (p.2 : Int)).sum
def spCost (K : PySem.W.Frag) : Sp := fun vs H Q E => ∃ (y a : Addr) (ls : List Nat) (b : Bool) (ns : List Int), vs = [.ref y, .ref a] ∧ CodeAt K H y ls ∧ SqA b K H a (ns.map V.int) ∧ (∀ l ∈ ls, l ≤ 60) ∧
  (¬ (2 ≤ ns.length ∧ ns.length ≤ 26) → Rz K "TooMany" [("most", .int 26), ("many", .int (ns.length : Nat)), ("what", .str "signs")] H E) ∧
  (2 ≤ ns.length → ns.length ≤ 26 → (∀ n ∈ ns, 0 ≤ n) → ∀ H', Same H H' → (ns.length = ls.length → Q (.int (costI ns ls)) H') ∧ (ns.length ≠ ls.length → Rz K "OtherSize" [("wanted", .int (ls.length : Nat)), ("many", .int (ns.length : Nat))] H' E)) ∧
  (2 ≤ ns.length → ns.length ≤ 26 → ∀ (j : Nat) (n : Int), ns[j]? = some n → n < 0 → (∀ (k : Nat) (m : Int), k < j → ns[k]? = some m → 0 ≤ m) → ∀ H', Same H H' → Rz K "BadCount" [("index", .int (j : Nat))] H' E)
theorem scCost : FnScope ["code", "counts", "count", "length"] ["code", "counts"] (defScope sCost) := ⟨rfl, rfl, rfl, by decide +kernel, rfl, by decide +kernel, by decide +kernel⟩
theorem ok_cost (T : Tx K mg) : Cal PR w K mg base 4 "cost" (spCost K) := by
  have C := tkCls T
  have nL : NoAttr K (He.ga K "Code") "lengths" := He.noat_ok (T.fa (.noat "Code" "lengths") (List.mem_of_getElem? (i := 2) rfl))
  refine cal_of T.toTxt (st := sCost) (N := ["code", "counts", "count", "length"]) (ps := ["code", "counts"]) (List.mem_of_getElem? (i := 8) rfl) (by decide) scCost (fun _ _ _ _ _ _ us hl => match us, hl with | [_, _], _ => rfl) (fun vs H Q E h => by
    obtain ⟨y, a, ls, b, ns, rfl, _⟩ := h
    rfl) (fun cdv A outer s H vs Q E hr h => ?_)
  obtain ⟨y, a, ls, b, ns, rfl, hc, hS, hle, q1, q2, q3⟩ := h
  refine ⟨_, pss_cons (ps_expr (pe_x (ok_check_pair T) hr (by decide) psX (pa_cons (pv 0) (pa_cons (pv 1) pa_nil))))
    (pss_one (ps_ret (pe_callB (cr_sum rfl) (by rfl) (T.fr _ (by decide)) (by decide +kernel) (pa_cons (pe_lc rfl scCost.nd (pi_zipB (by rfl) (T.fr _ (by decide)) (pa_cons (pv 1) (pa_cons (pe_fld (pv 0) (by rfl)) pa_nil))) (own := [("count", 2), ("length", 3)]) (blkOk_by (by rfl))
          (fun _ _ _ _ _ => pg_two (i := 2) (j := 3) (K := K) rfl rfl scCost.nd rfl rfl (Or.inl rfl) (Or.inl rfl) (Or.inr rfl) (Or.inr rfl))
          (fun _ _ _ _ _ => pts_nil) (fun _ _ _ _ _ => pe_op op_mul (pv 2) (pv 3))) pa_nil)))), ?_⟩
  have hlen : (ns.map V.int).length = ns.length := List.length_map _
  refine ⟨_, rfl, _, rfl, y, a, ls, b, ns, rfl, hc, hS, q1, fun h2 h26 hp H' s' => ⟨fun he => ?_, fun he => (q2 h2 h26 hp H' s').2 he⟩, q3⟩
  have hS2 := SqA.same s' hS
  obtain ⟨dx, fs, t, p, h1, h3, h4, h5, h6, h7⟩ := hc.same s'
  refine ⟨_, rfl, _, rfl, y, _, dx, fs, _, rfl, h1, C, nL, h3, b, false, a, t, _, _, rfl, hS2, h6, fun D hD => lc_it (walk_zipA (b := b) (c := false) (K := K) (a := a) (d := t) (xs := ns.map V.int) (ys := ls.map nI) (by rw [hlen, List.length_map, he])) (fun i H3 => H3 D = some (.lst ((((ns.zip ls).take i).map fun p => p.1 * (p.2 : Int)).map V.int)) ∧ Same H' H3)
    ⟨upd_same, same_new (Same.refl _) hD⟩ (fun i H3 _ ⟨_, s3⟩ => ⟨SqA.same s3 hS2, sqT_same s3 h6⟩) ?_ ?_⟩
  · rintro i x H3 H4 hi ⟨hD3, s3⟩ ⟨t2, x1, y1, rfl, ht2, rfl, e1, e2⟩
    obtain ⟨n, hn, rfl⟩ := map_get e1
    obtain ⟨l, hl, rfl⟩ := map_get e2
    have hl60 := hle l (List.mem_of_getElem? hl)
    rw [hlen] at hi
    have hD4 : (upd H3 t2 (.tup [V.int n, nI l])) D = some (.lst ((((ns.zip ls).take i).map fun p => p.1 * (p.2 : Int)).map V.int)) := by rw [upd_ne (ne_of_none hD3 ht2)]; exact hD3
    refine ⟨t2, _, rfl, .of upd_same, rfl, _, _, rfl, _, _, rfl, rfl, rfl, yes_ ⟨_, rfl, _, rfl, _, _, rfl, rfl, .inr ⟨by omega, by omega⟩, _, hD4, ?_, ?_, same_mut (same_new s3 ht2) hD⟩⟩
    · rw [List.length_map, List.length_map, List.length_take]
      exact small_lt (by omega)
    · have hz : (ns.zip ls)[i]? = some (n, l) := by
        rw [List.getElem?_zip_eq_some]
        exact ⟨hn, hl⟩
      rw [upd_same, List.take_succ, hz]
      simp
  · rintro H3 ⟨hD3, s3⟩
    have hz : (ns.zip ls).take (ns.map V.int).length = ns.zip ls := List.take_of_length_le (by rw [List.length_zip, hlen]; omega)
    rw [hz] at hD3
    exact ⟨D, _, rfl, .of hD3, (q2 h2 h26 hp H3 (fun c u e => s3 _ _ (s' _ _ e))).1 he⟩
end
end K38
end
section
/-! ## K38G -/
/-! Fillings, number_of_codes. -/
namespace K38
open PySem PySem.Spec PyProof.Rows L2
/-- the number of ways: m signs left, n nodes; by fuel -/
def wy : Nat → Nat → Nat → Nat
  | 0, _, _ => 0
  | f + 1, m, n => if m = 0 ∨ n = 0 ∨ m < n then (if m = 0 ∧ n = 0 then 1 else 0) else ((List.range (n + 1)).map fun few => chN m few * wy f (m - few) (2 * (n - few))).sum
theorem wy_more : ∀ (f g m n : Nat), 2 * m < f + n → 2 * m < g + n → wy f m n = wy g m n
  | 0, 0, m, n, _, _ => rfl
  | 0, g + 1, m, n, h, _ => by
    have : m = 0 ∨ n = 0 ∨ m < n := by omega
    unfold wy
    rw [if_pos this, if_neg (by omega)]
  | f + 1, 0, m, n, _, h => by
    have : m = 0 ∨ n = 0 ∨ m < n := by omega
    unfold wy
    rw [if_pos this, if_neg (by omega)]
  | f + 1, g + 1, m, n, h1, h2 => by
    unfold wy
    by_cases h : m = 0 ∨ n = 0 ∨ m < n
    · rw [if_pos h, if_pos h]
    · rw [if_neg h, if_neg h]
      congr 1
      refine List.map_congr_left fun few hf => ?_
      rw [List.mem_range] at hf
      rw [wy_more f g (m - few) (2 * (n - few)) (by omega) (by omega)]
def W (m n : Nat) : Nat := wy (2 * m + 1) m n
theorem W_base {m n : Nat} (h : m = 0 ∨ n = 0 ∨ m < n) : W m n = if m = 0 ∧ n = 0 then 1 else 0 := by
  show wy (2 * m + 1) m n = _
  unfold wy
  rw [if_pos h]
theorem W_step {m n : Nat} (h : ¬ (m = 0 ∨ n = 0 ∨ m < n)) : W m n = ((List.range (n + 1)).map fun few => chN m few * W (m - few) (2 * (n - few))).sum := by
  show wy (2 * m + 1) m n = _
  unfold wy
  rw [if_neg h]
  congr 1
  refine List.map_congr_left fun few hf => ?_
  rw [List.mem_range] at hf
  show chN m few * wy (2 * m) (m - few) (2 * (n - few)) = chN m few * wy (2 * (m - few) + 1) (m - few) (2 * (n - few))
  rw [wy_more (2 * m) (2 * (m - few) + 1) (m - few) (2 * (n - few)) (by omega) (by omega)]
theorem ch_small : ∀ m < 27, ∀ f < 27, chN m f < 2 ^ 64 := by decide +kernel
/-- a key of the table -/
def kMN (m n : Nat) : List Key := [Sum.inl (m : Int), Sum.inl (n : Int)]
def allK : List (List Key) := (List.range 27).flatMap fun m => (List.range 27).map fun n => kMN m n
/-- the table tells ways -/
structure Good (kvs : List (List Key × V)) : Prop where
  nd : (kvs.map Prod.fst).Nodup
  at_ : ∀ k v, (k, v) ∈ kvs → ∃ m n, m ≤ 26 ∧ n ≤ 26 ∧ k = kMN m n ∧ v = nI (W m n)
theorem Good.nil : Good [] := ⟨List.nodup_nil, fun k v h => by cases h⟩
theorem kMN_inj {m n m' n' : Nat} (h : kMN m n = kMN m' n') : m = m' ∧ n = n' := by
  unfold kMN at h
  have h1 := (List.cons.inj h).1
  have h2 := (List.cons.inj (List.cons.inj h).2).1
  have e1 := Sum.inl.inj h1
  have e2 := Sum.inl.inj h2
  omega
theorem Good.len {kvs : List (List Key × V)} (g : Good kvs) : kvs.length ≤ 729 := by
  have h : kvs.map Prod.fst ⊆ allK := fun k hk => by
    obtain ⟨⟨k', v⟩, hm, rfl⟩ := List.mem_map.mp hk
    obtain ⟨m, n, h1, h2, e, _⟩ := g.at_ _ _ hm
    unfold allK
    rw [List.mem_flatMap]
    refine ⟨m, List.mem_range.mpr (by omega), List.mem_map.mpr ⟨n, List.mem_range.mpr (by omega), e.symm⟩⟩
  have h2 := List.Nodup.length_le_of_subset g.nd h
  rw [List.length_map] at h2
  exact Nat.le_trans h2 (by decide +kernel)
theorem valV_mem {κ : Type} [DecidableEq κ] {kvs : List (κ × V)} {k : κ} {v : V} (h : valV kvs k = some v) : (k, v) ∈ kvs := by
  unfold valV at h
  cases e : kvs.find? fun kv => decide (kv.1 = k) with
  | none => rw [e] at h; cases h
  | some p =>
    rw [e] at h
    have h1 := List.find?_some e
    have h2 := List.mem_of_find?_eq_some e
    obtain ⟨a, b⟩ := p
    cases of_decide_eq_true h1
    cases h
    exact h2
theorem valV_none {κ : Type} [DecidableEq κ] {kvs : List (κ × V)} {k : κ} (h : valV kvs k = none) : k ∉ kvs.map Prod.fst := fun hm => by
  have h1 := valV_any k kvs
  rw [h] at h1
  obtain ⟨⟨a, b⟩, hm2, rfl⟩ := List.mem_map.mp hm
  have h2 : (kvs.any fun kv => decide (kv.1 = a)) = true := List.any_eq_true.mpr ⟨(a, b), by assumption, decide_eq_true rfl⟩
  rw [h2] at h1
  cases h1
theorem putK_keys {κ : Type} [DecidableEq κ] (kvs : List (κ × V)) (k : κ) (v : V) : (putK kvs k v).map Prod.fst = if k ∈ kvs.map Prod.fst then kvs.map Prod.fst else kvs.map Prod.fst ++ [k] := by
  cases e : valV kvs k with
  | none =>
    rw [if_neg (valV_none e), putK_new v e, List.map_append]
    rfl
  | some u =>
    have hm : k ∈ kvs.map Prod.fst := List.mem_map.mpr ⟨_, valV_mem e, rfl⟩
    rw [if_pos hm]
    unfold putK
    have h1 := valV_any k kvs
    rw [e] at h1
    have h3 : (kvs.any fun kv => decide (kv.1 = k)) = true := h1
    rw [if_pos h3, List.map_map]
    refine List.map_congr_left fun p hp => ?_
    show (if p.1 = k then (p.1, v) else p).1 = p.1
    split <;> rfl
theorem putK_mem {κ : Type} [DecidableEq κ] {kvs : List (κ × V)} {k j : κ} {v u : V} (h : (j, u) ∈ putK kvs k v) : (j, u) ∈ kvs ∨ (j = k ∧ u = v) := by
  unfold putK at h
  split at h
  · obtain ⟨p, hp, e⟩ := List.mem_map.mp h
    by_cases hk : p.1 = k
    · rw [if_pos hk] at e
      cases e
      exact .inr ⟨hk, rfl⟩
    · rw [if_neg hk] at e
      rw [← e]
      exact .inl hp
  · rcases List.mem_append.mp h with h | h
    · exact .inl h
    · have e := List.mem_singleton.mp h
      cases e
      exact .inr ⟨rfl, rfl⟩
theorem nodup_put {κ : Type} [DecidableEq κ] {kvs : List (κ × V)} (k : κ) (v : V) (h : (kvs.map Prod.fst).Nodup) : ((putK kvs k v).map Prod.fst).Nodup := by
  rw [putK_keys]
  by_cases hm : k ∈ kvs.map Prod.fst
  · rw [if_pos hm]
    exact h
  · rw [if_neg hm]
    exact List.nodup_append.mpr ⟨h, by simp, fun a ha b hb => by
      rw [List.mem_singleton] at hb
      rw [hb]
      exact fun e => hm (e ▸ ha)⟩
theorem Good.put {kvs : List (List Key × V)} (g : Good kvs) {m n : Nat} (hm : m ≤ 26) (hn : n ≤ 26) : Good (putK kvs (kMN m n) (nI (W m n))) := by
  refine ⟨nodup_put _ _ g.nd, fun k v h => ?_⟩
  rcases putK_mem h with h | ⟨rfl, rfl⟩
  · exact g.at_ _ _ h
  · exact ⟨m, n, hm, hn, rfl, rfl⟩
theorem Good.val {kvs : List (List Key × V)} (g : Good kvs) {m n : Nat} {v : V} (h : valV kvs (kMN m n) = some v) : v = nI (W m n) := by
  obtain ⟨m', n', _, _, e, ev⟩ := g.at_ _ _ (valV_mem h)
  obtain ⟨rfl, rfl⟩ := kMN_inj e
  exact ev
/-- a Fillings at y, its table at d -/
def FilAt (K : PySem.W.Frag) (H : Hp) (y d : Addr) (kvs : List (List Key × V)) : Prop := ∃ (dx : Addr) (fs : List (Str × V)), H y = some (.ins (He.ga K "Fillings") dx fs) ∧ fs.lookup ("known" : Str) = some (.ref d) ∧ fs.lookup ("ways" : Str) = none ∧ H d = some (.dT kvs) ∧ Good kvs
def spWays (K : PySem.W.Frag) (j : Nat) : Sp := fun vs H Q _ => ∃ (y d : Addr) (m n : Nat) (kvs : List (List Key × V)), vs = [.ref y, .int m, .int n] ∧ m ≤ 26 ∧ 2 * m < j + n ∧ 0 < j ∧ FilAt K H y d kvs ∧
  ∀ H' kvs', (∀ c u, H c = some u → c ≠ d → H' c = some u) → H' d = some (.dT kvs') → Good kvs' → Q (nI (W m n)) H'
section
variable {w : World} {K : PySem.W.Frag} {mg : Str → Option Value} {base : Heap}
theorem tkFil (T : Tx K mg) : Cls K (He.ga K "Fillings") := He.cls_ok (T.fa (.cls "Fillings") (List.mem_of_getElem? (i := 7) rfl))
theorem nkFil (T : Tx K mg) : NoAttr K (He.ga K "Fillings") "known" := He.noat_ok (T.fa (.noat "Fillings" "known") (List.mem_of_getElem? (i := 9) rfl))
theorem mtFil (T : Tx K mg) : Meth K (He.ga K "Fillings") "ways" (He.ma K (He.ga K "Fillings") "ways") := He.meth_ok (T.fa (.meth "Fillings" "ways") (List.mem_of_getElem? (i := 10) rfl))
theorem scWays : FnScope ["self", "many", "nodes", "found", "few"] ["self", "many", "nodes"] (defScope sWays) := ⟨rfl, rfl, rfl, by decide +kernel, rfl, by decide +kernel, by decide +kernel⟩
theorem ways_mal (T : Tx K mg) {k : Nat} {sp : Sp} (len : ∀ vs H Q E, sp vs H Q E → vs.length = 3)
    (hbody : ∀ (cdv : Value) (A : Around) (outer : List Env) (s : Shared) (H : Hp) (vs : List V) (Q : VK) (E : XK), Room k (A.deeper (envOfC "Fillings.ways" (defScope sWays) s.heap.objs.size (He.fAd K ("Fillings", some "ways")) cdv)) → sp vs H Q E →
      ∃ t, PSs (cxOf (L2.CX PR w) PR w K mg base ["self", "many", "nodes", "found", "few"] "Fillings.ways" (defScope sWays) (He.fAd K ("Fillings", some "ways")) cdv A outer s H E) (defBody sWays) t ∧ t { nx := fun _ H' => Q .non H', rt := Q } (start ["self", "many", "nodes", "found", "few"] vs) H) :
    Mal PR w K mg base (k + 1) "Fillings" "ways" sp [] :=
  mal_of T.toTxt (C := "Fillings") (m := "ways") (q := "Fillings.ways") (st := sWays) (dfl := []) (N := ["self", "many", "nodes", "found", "few"]) (ps := ["self", "many", "nodes"]) (List.mem_of_getElem? (i := 27) rfl) scWays
    (fun fd F => ⟨[], .nil, FunD.bindsN (ps := ["self", "many", "nodes"]) F fun _ _ _ _ _ _ us hl => match us, hl with | [_, _, _], _ => rfl⟩) len hbody
theorem fil_fr {H H' : Hp} {y d : Addr} {kvs kvs' : List (List Key × V)} (F : FilAt K H y d kvs) (fr : ∀ c u, H c = some u → c ≠ d → H' c = some u) (hd : H' d = some (.dT kvs')) (g : Good kvs') : FilAt K H' y d kvs' := by
  obtain ⟨dx, fs, hy, hf, hw, h2, _⟩ := F
  exact ⟨dx, fs, fr _ _ hy (fun e => by rw [e, h2] at hy; cases hy), hf, hw, hd, g⟩
theorem fr_new {H H' : Hp} {d p : Addr} {o : HO} (fr : ∀ c u, H c = some u → c ≠ d → H' c = some u) (hp : H' p = none) : ∀ c u, H c = some u → c ≠ d → (upd H' p o) c = some u := fun c u e ne => by
  have h := fr c u e ne
  rw [upd_ne (ne_of_none h hp)]
  exact h
theorem fr_d {H H' : Hp} {d : Addr} {o : HO} (fr : ∀ c u, H c = some u → c ≠ d → H' c = some u) : ∀ c u, H c = some u → c ≠ d → (upd H' d o) c = some u := fun c u e ne => by
  rw [upd_ne ne]
  exact fr c u e ne
theorem ways_ret (T : Tx K mg) {D : Ends} {y d : Addr} {m n : Nat} {kvs : List (List Key × V)} {H : Hp} {v3 v4 : Option V} (F : FilAt K H y d kvs) (hv : valV kvs (kMN m n) = some (nI (W m n)))
    (q : ∀ p, H p = none → D.rt (nI (W m n)) (upd H p (.tup [.int m, .int n]))) :
    tRet (tDGet (tFld K (tVar 0) "known") (tTup (tCons (tVar 1) (tCons (tVar 2) tNil)))) D [some (.ref y), some (.int m), some (.int n), v3, v4] H := by
  obtain ⟨dx, fs, hy, hf, hw, hd, g⟩ := F
  refine ⟨_, rfl, y, _, dx, fs, _, rfl, hy, tkFil T, nkFil T, hf, _, rfl, _, rfl, (by show 2 ≤ sizeLine; decide), fun p hp => ⟨d, _, rfl, ?_, q p hp⟩⟩
  rw [← hv]
  exact DGet.t (k := kMN m n) (by rw [upd_ne (ne_of_none hd hp)]; exact hd) upd_same
theorem ok_ways (T : Tx K mg) : ∀ j : Nat, Mal PR w K mg base (j + 2) "Fillings" "ways" (spWays K j) []
  | 0 => ways_mal T (k := 1) (fun vs H Q E h => by
      obtain ⟨_, _, _, _, _, rfl, _⟩ := h
      rfl) (fun _ _ _ _ _ _ _ _ _ h => by
      obtain ⟨_, _, _, _, _, _, _, _, h, _⟩ := h
      exact absurd h (Nat.lt_irrefl 0))
  | j + 1 => by
    have IH := ok_ways T j
    obtain ⟨fd, ps, ds, F, B, V0⟩ := IH.ex
    have C := tkFil T
    have nK := nkFil T
    refine ways_mal T (k := j + 2) (fun vs H Q E h => by
      obtain ⟨_, _, _, _, _, rfl, _⟩ := h
      rfl) (fun cdv A outer s H vs Q E hr h => ?_)
    obtain ⟨y, d, m, n, kvs, rfl, hm, hj, _, ⟨dx, fs, hy, hf, hw, hd, g⟩, q⟩ := h
    refine ⟨_, PSs.nox (pss_cons (ps_if (PW.pt (pw_or (pt_cmpR op_eq (pv 1) pe_int (nomark _)) (pw_or (pt_cmpR op_eq (pv 2) pe_int (nomark _)) (pw_or1 (pt_cmpR op_gt (pv 2) (pv 1) (nomark _))))))
        (pss_one (ps_ret (pe_callTy call_int1 (by rfl) (T.fr _ (by decide)) (by decide +kernel) (pa_cons (pe_and (pe_cmpR op_eq (pv 1) pe_int (nomark _)) (pe_one (pe_cmpR op_eq (pv 2) pe_int (nomark _)))) pa_nil)))) pss_nil)
      (pss_cons (ps_if (pt_cmp (pc_dnotin (un1 hr) (pe_tup (pa_cons (pv 1) (pa_cons (pv 2) pa_nil))) (pe_fld (pv 0) (by rfl))))
        (pss_cons (ps_set (i := 3) scWays.nd rfl (Or.inl rfl) pe_int)
        (pss_cons (ps_for PassesOwn.never rfl (pi_range1 (by rfl) (T.fr _ (by decide)) (pa_cons (pe_op op_add (pv 2) pe_int) pa_nil)) (pg_name (i := 4) scWays.nd rfl (Or.inl rfl))
          (pss_one (ps_aug (i := 3) scWays.nd rfl (Or.inl rfl) (pe_op op_mul (pe_x (ok_choose T.toTxt) hr (by omega) passL (pa_cons (pv 1) (pa_cons (pv 4) pa_nil)))
            (pe_meth (pv 0) C (mtFil T) F hr B V0 passL (pa_cons (pe_op op_sub (pv 1) (pv 4)) (pa_cons (pe_op op_mul pe_int (pe_op op_sub (pv 2) (pv 4))) pa_nil)))) ip_add)))
        (pss_one (ps_dput (un1 hr) (pe_fld (pv 0) (by rfl)) (pe_tup (pa_cons (pv 1) (pa_cons (pv 2) pa_nil))) (pv 3) (by rfl))))) pss_nil)
      (pss_one (ps_ret (pe_dget (un1 hr) (pe_fld (pv 0) (by rfl)) (pe_tup (pa_cons (pv 1) (pa_cons (pv 2) pa_nil))) (fun _ _ => rfl)))))), ?_⟩
    have F0 : FilAt K H y d kvs := ⟨dx, fs, hy, hf, hw, hd, g⟩
    have hW := W_base (m := m) (n := n)
    have e1 : m = 0 → n = 0 → nI (W m n) = V.int 1 := fun a b => by
      rw [hW (.inl a), if_pos ⟨a, b⟩]
      rfl
    have e0 : (m = 0 ∨ n = 0 ∨ m < n) → ¬ (m = 0 ∧ n = 0) → nI (W m n) = V.int 0 := fun a b => by
      rw [hW a, if_neg b]
      rfl
    refine ⟨_, rfl, rfl, _, rfl, ?_⟩
    by_cases h1 : m = 0
    · refine ifT (by subst h1; decide) (ifT rfl ⟨_, rfl, rfl, _, rfl, ifT (by subst h1; decide) ⟨_, rfl, rfl, .inr ⟨_, rfl, ?_⟩⟩⟩)
      have e : (V.int (if decide (V.int (n : Int) = V.int 0) = true then 1 else 0)) = nI (W m n) := by
        by_cases h2 : n = 0
        · rw [e1 h1 h2, decide_eq_true (by subst h2; rfl)]
          rfl
        · rw [e0 (.inl h1) (fun z => h2 z.2), decide_eq_false (fun z => h2 (by have := V.int.inj z; omega))]
          rfl
      rw [e]
      exact q H kvs (fun _ _ e _ => e) hd g
    refine ifF (decide_eq_false (fun z => h1 (by have := V.int.inj z; omega))) ⟨_, rfl, rfl, _, rfl, ?_⟩
    by_cases h2 : n = 0
    · refine ifT (by subst h2; decide) (ifT rfl ⟨_, rfl, rfl, _, rfl, ifF (decide_eq_false (fun z => h1 (by have := V.int.inj z; omega))) (.inr ⟨_, rfl, ?_⟩)⟩)
      have e : (V.int (if false = true then 1 else 0)) = nI (W m n) := by
        rw [e0 (.inr (.inl h2)) (fun z => h1 z.1)]
        rfl
      rw [e]
      exact q H kvs (fun _ _ e _ => e) hd g
    refine ifF (decide_eq_false (fun z => h2 (by have := V.int.inj z; omega))) ⟨_, rfl, _, rfl, _, _, rfl, rfl, _, rfl, ?_⟩
    by_cases h3 : m < n
    · refine ifT (decide_eq_true (by omega)) ⟨_, rfl, rfl, _, rfl, ifF (decide_eq_false (fun z => h1 (by have := V.int.inj z; omega))) (.inr ⟨_, rfl, ?_⟩)⟩
      have e : (V.int (if false = true then 1 else 0)) = nI (W m n) := by
        rw [e0 (.inr (.inr h3)) (fun z => h1 z.1)]
        rfl
      rw [e]
      exact q H kvs (fun _ _ e _ => e) hd g
    refine ifF (decide_eq_false (by omega)) ?_
    have hstep := W_step (m := m) (n := n) (by omega)
    refine ⟨_, rfl, _, rfl, (by show 2 ≤ sizeLine; decide), fun p hp => ?_⟩
    have fr1 : ∀ c u, H c = some u → c ≠ d → (upd H p (.tup [.int m, .int n])) c = some u := fr_new (fun _ _ e _ => e) hp
    have hd1 : (upd H p (.tup [.int m, .int n])) d = some (.dT kvs) := by rw [upd_ne (ne_of_none hd hp)]; exact hd
    have F1 := fil_fr F0 fr1 hd1 g
    have hp1 : (upd H p (.tup [V.int m, V.int n])) p = some (.tup ((kMN m n).map kV)) := upd_same
    generalize upd H p (.tup [V.int m, V.int n]) = H1 at *
    have hy1 := fr1 _ _ hy (fun e => by rw [e, hd] at hy; cases hy)
    refine ⟨_, rfl, y, _, dx, fs, _, rfl, hy1, C, nK, hf, d, valV kvs (kMN m n), rfl, DGet.t (k := kMN m n) hd1 hp1, _, rfl, ?_⟩
    cases hv : valV kvs (kMN m n) with
    | some v =>
      have ev := g.val hv
      subst ev
      exact ifF rfl (ways_ret T F1 hv fun p2 hp2 => q _ kvs (fr_new fr1 hp2) (by rw [upd_ne (ne_of_none hd1 hp2)]; exact hd1) g)
    | none =>
      refine ifT rfl ?_
      refine ⟨_, rfl, _, _, rfl, rfl, _, rfl, by omega, by omega, for_range (lo := 0) (n := n + 1) (fun i σ H2 => ∃ (v4 : Option V) (kvs2 : List (List Key × V)), σ = [some (.ref y), some (.int m), some (.int n), some (nI (((List.range i).map fun few => chN m few * W (m - few) (2 * (n - few))).sum)), v4] ∧
          (∀ c u, H c = some u → c ≠ d → H2 c = some u) ∧ H2 d = some (.dT kvs2) ∧ Good kvs2)
        ⟨none, kvs, rfl, fr1, hd1, g⟩ ?_ ?_⟩
      · rintro i σ H2 hi ⟨v4, kvs2, rfl, fr2, hd2, g2⟩
        have F2 := fil_fr F0 fr2 hd2 g2
        obtain ⟨dx2, fs2, hy2, hf2, hw2, _, _⟩ := F2
        refine ⟨_, rfl, _, rfl, _, rfl, m, i, by show [V.int (m : Int), V.int (0 + (i : Int))] = _; rw [Int.zero_add], by omega, by omega, ?_⟩
        refine ⟨_, rfl, y, dx2, fs2, rfl, hy2, hw2, _, rfl, _, rfl, _, _, rfl, rfl, _, rfl, _, rfl, _, _, rfl, rfl, _, _, rfl, rfl, .inl ⟨by decide, by decide⟩, ?_⟩
        refine ⟨y, d, m - i, 2 * (n - i), kvs2, ?_, by omega, by omega, by omega, ⟨dx2, fs2, hy2, hf2, hw2, hd2, g2⟩, fun H3 kvs3 fr3 hd3 g3 => ?_⟩
        · show [V.ref y, V.int ((m : Int) - (0 + (i : Int))), V.int (2 * ((n : Int) - (0 + (i : Int))))] = _
          rw [show (m : Int) - (0 + (i : Int)) = ((m - i : Nat) : Int) by omega, show 2 * ((n : Int) - (0 + (i : Int))) = ((2 * (n - i) : Nat) : Int) by omega]
        · have hc := ch_small m (by omega) i (by omega)
          refine ⟨_, _, rfl, rfl, .inl ⟨by omega, by omega⟩, _, _, rfl, rfl, some (V.int (0 + (i : Int))), kvs3, ?_, fun c u e ne => fr3 _ _ (fr2 _ _ e ne) ne, hd3, g3⟩
          rw [List.range_succ, List.map_append, List.sum_append]
          show [some (V.ref y), some (V.int m), some (V.int n), some (V.int ((((List.range i).map fun few => chN m few * W (m - few) (2 * (n - few))).sum : Nat) + ((chN m i : Nat) : Int) * ((W (m - i) (2 * (n - i)) : Nat) : Int))), some (V.int (0 + (i : Int)))] = _
          rw [← Int.natCast_mul, ← Int.natCast_add]
          simp [nI]
      · rintro σ H2 ⟨v4, kvs2, rfl, fr2, hd2, g2⟩
        have F2 := fil_fr F0 fr2 hd2 g2
        obtain ⟨dx2, fs2, hy2, hf2, hw2, _, _⟩ := F2
        rw [← hstep]
        refine ⟨_, rfl, _, rfl, y, _, dx2, fs2, _, rfl, hy2, C, nK, hf2, _, rfl, _, rfl, (by show 2 ≤ sizeLine; decide), fun p2 hp2 => ?_⟩
        have hd3 : (upd H2 p2 (.tup [V.int m, V.int n])) d = some (.dT kvs2) := by rw [upd_ne (ne_of_none hd2 hp2)]; exact hd2
        refine ⟨d, _, rfl, DPut.t (k := kMN m n) hd3 upd_same (small_lt (by have := g2.len; omega)), ?_⟩
        have g4 := g2.put (m := m) (n := n) hm (by omega)
        have fr4 : ∀ c u, H c = some u → c ≠ d → (upd (upd H2 p2 (.tup [V.int m, V.int n])) d (.dT (putK kvs2 (kMN m n) (nI (W m n))))) c = some u := fr_d (fr_new fr2 hp2)
        have F4 := fil_fr F0 fr4 upd_same g4
        exact ways_ret T F4 (by rw [valV_put, if_pos rfl]) fun p3 hp3 => q _ _ (fr_new fr4 hp3) (by rw [upd_ne (ne_of_none (upd_same (H := upd H2 p2 (.tup [V.int m, V.int n])) (a := d)) hp3)]; exact upd_same) g4
end
end K38
end
section
/-! ## K38I -/
/-! Fillings.__init__, number_of_codes. -/
namespace K38
open PySem PySem.Spec PyProof.Rows L2
section
variable {w : World} {K : PySem.W.Frag} {mg : Str → Option Value} {base : Heap}
def spFilInit (K : PySem.W.Frag) : Sp := fun vs H Q _ => ∃ (y dx : Addr), vs = [.ref y] ∧ H y = some (.ins (He.ga K "Fillings") dx []) ∧ ∀ d, H d = none → Q .non (upd (upd H d (.dT [])) y (.ins (He.ga K "Fillings") dx [(("known" : Str), .ref d)]))
theorem scFilInit : FnScope ["self"] ["self"] (defScope sFilInit) := ⟨rfl, rfl, rfl, by decide +kernel, rfl, by decide +kernel, by decide +kernel⟩
theorem ok_fil_init (T : Tx K mg) : Mal PR w K mg base 1 "Fillings" "__init__" (spFilInit K) [] := by
  refine mal_of T.toTxt (C := "Fillings") (m := "__init__") (q := "Fillings.__init__") (st := sFilInit) (dfl := []) (N := ["self"]) (ps := ["self"]) (List.mem_of_getElem? (i := 26) rfl) scFilInit
    (fun fd F => ⟨[], .nil, FunD.bindsN (ps := ["self"]) F fun _ _ _ _ _ _ us hl => match us, hl with | [_], _ => rfl⟩) (fun vs H Q E h => by
    obtain ⟨a, b, rfl, _⟩ := h
    rfl) (fun cdv A outer s H vs Q E hr h => ?_)
  obtain ⟨y, dx, rfl, hy, q⟩ := h
  refine ⟨_, PSs.nox (pss_one (ps_fld (pv 0) pe_dnewT (by rfl))), ?_⟩
  intro d hd
  exact ⟨_, rfl, y, _, dx, [], rfl, by rw [upd_ne (ne_of_none hy hd)]; exact hy, tkFil T, nkFil T, by decide, q d hd⟩
theorem mkFil (T : Tx K mg) : Mk K (He.ga K "Fillings") (He.ma K (He.ga K "Fillings") "__init__") := He.mkr_ok (T.fa (.mkr "Fillings") (List.mem_of_getElem? (i := 8) rfl))
theorem mkCode (T : Tx K mg) : Mk K (He.ga K "Code") (He.ma K (He.ga K "Code") "__init__") := He.mkr_ok (T.fa (.mkr "Code") (List.mem_of_getElem? (i := 1) rfl))
def spNumber (K : PySem.W.Frag) : Sp := fun vs H Q E => ∃ v : V, vs = [v] ∧ ((∃ n : Nat, v = nI n ∧ 2 ≤ n ∧ n ≤ 26 ∧ ∀ H', Same H H' → Q (nI (W n 2)) H') ∨ (((∃ i, v = .int i ∧ ¬ (2 ≤ i ∧ i ≤ 26)) ∨ OddV H v) ∧ Rz K "BadSize" [("size", v)] H E))
theorem scNumber : FnScope ["many"] ["many"] (defScope sNumberOf) := ⟨rfl, rfl, rfl, by decide +kernel, rfl, by decide +kernel, by decide +kernel⟩
theorem ok_number (T : Tx K mg) : Cal PR w K mg base 56 "number_of_codes" (spNumber K) := by
  obtain ⟨fd, ps, ds, F, B, V0⟩ := (ok_ways (w := w) (base := base) T 53).ex
  obtain ⟨fd2, ps2, ds2, F2, B2, V2⟩ := (ok_fil_init (w := w) (base := base) T).ex
  refine cal_of T.toTxt (st := sNumberOf) (N := ["many"]) (ps := ["many"]) (List.mem_of_getElem? (i := 10) rfl) (by decide) scNumber (fun _ _ _ _ _ _ us hl => match us, hl with | [_], _ => rfl) (fun vs H Q E h => by
    obtain ⟨v, rfl, _⟩ := h
    rfl) (fun cdv A outer s H vs Q E hr h => ?_)
  obtain ⟨v, rfl, h⟩ := h
  refine ⟨_, pss_cons (ps_expr (pe_x (ok_check_many T.toTxt) hr (by decide) psX (pa_cons (pv 0) (pa_cons (pe_ci rfl T.mSigns) pa_nil))))
    (pss_one (ps_ret (pe_meth (pe_make0 (mkFil T) F2 (hr.mono (by decide)) (by rfl) (T.gl "Fillings" (by decide)) B2 V2 passL) (tkFil T) (mtFil T) F hr B V0 passL (pa_cons (pv 0) (pa_cons pe_int pa_nil)) (ht := mcall_of (abase_call (by decide)) (fun _ => rfl))))), ?_⟩
  refine ⟨_, rfl, v, 26, rfl, ?_⟩
  rcases h with ⟨n, rfl, h2, h26, q⟩ | ⟨h, q⟩
  · refine .inl ⟨n, rfl, by omega, by omega, ?_⟩
    intro y dx hy hdx ne
    refine ⟨y, dx, rfl, upd_same, fun d hd => ⟨rfl, y, dx, _, rfl, upd_same, rfl, _, rfl, ?_⟩⟩
    have hdy : d ≠ y := fun e => by rw [e, upd_same] at hd; cases hd
    have hddx : d ≠ dx := fun e => by
      rw [upd_ne hdy, e, upd_same] at hd
      cases hd
    have hdH : H d = none := by
      rw [upd_ne hdy, upd_ne hddx] at hd
      exact hd
    refine ⟨y, d, n, 2, [], rfl, h26, by omega, by decide, ⟨dx, _, upd_same, rfl, rfl, ?_, Good.nil⟩, fun H' kvs' fr _ _ => q H' fun c u e => ?_⟩
    · rw [upd_ne hdy, upd_same]
    · refine fr c u ?_ (ne_of_none e hdH)
      rw [upd_ne (ne_of_none e hy), upd_ne (ne_of_none e hdH), upd_ne (ne_of_none e hy), upd_ne (ne_of_none e hdx)]
      exact e
  · refine .inr ⟨?_, q⟩
    exact h
end
end K38
end
section
/-! ## K38J -/
/-! subsets. -/
namespace K38
open PySem PySem.Spec PyProof.Rows L2
/-- the ways to choose f of ss, in their order -/
def subs : Nat → List Nat → List (List Nat)
  | 0, _ => [[]]
  | f + 1, ss => (List.range (ss.length - f)).flatMap fun i => (subs f (ss.drop (i + 1))).map (ss.getD i 0 :: ·)
theorem flat_le {α : Type} (g : Nat → List α) (B : Nat) (h : ∀ i, (g i).length ≤ B) : ∀ n, ((List.range n).flatMap g).length ≤ n * B
  | 0 => by simp
  | n + 1 => by
    rw [List.range_succ, List.flatMap_append, List.length_append, Nat.succ_mul]
    have h1 := flat_le g B h n
    have h2 : ([n].flatMap g).length ≤ B := by simpa using h n
    omega
theorem subs_len : ∀ (f : Nat) (ss : List Nat), ss.length ≤ 7 → (subs f ss).length ≤ 7 ^ f
  | 0, ss, _ => by simp [subs]
  | f + 1, ss, h => by
    unfold subs
    have h1 := flat_le (fun i => (subs f (ss.drop (i + 1))).map (ss.getD i 0 :: ·)) (7 ^ f) (fun i => by
      rw [List.length_map]
      exact subs_len f _ (by rw [List.length_drop]; omega)) (ss.length - f)
    refine Nat.le_trans h1 ?_
    rw [Nat.pow_succ, Nat.mul_comm]
    exact Nat.mul_le_mul_left _ (by omega)
theorem subs_mem : ∀ (f : Nat) (ss r : List Nat), r ∈ subs f ss → r.length = f
  | 0, ss, r, h => by
    have := List.mem_singleton.mp (show r ∈ [[]] from h)
    rw [this]
    rfl
  | f + 1, ss, r, h => by
    unfold subs at h
    obtain ⟨i, _, h2⟩ := List.mem_flatMap.mp h
    obtain ⟨r', h3, rfl⟩ := List.mem_map.mp h2
    rw [List.length_cons, subs_mem f _ r' h3]
theorem SqL.of_same {K : PySem.W.Frag} {H H' : Hp} {a : Addr} {xs : List V} (s : Same H H') (h : SqL K H a xs) : SqL K H' a xs := SqA.same (b := true) s h
def enc (l : List Nat) : List V := l.map nI
theorem Tups.same {H H' : Hp} {ts : List Addr} {cs : List (List V)} (x : Tups H ts cs) (s : Same H H') : Tups H' ts cs := x.mono fun t c e => s _ _ e
theorem Tups.append {H : Hp} {ts ts' : List Addr} {cs cs' : List (List V)} (x : Tups H ts cs) (y : Tups H ts' cs') : Tups H (ts ++ ts') (cs ++ cs') := by
  refine ⟨by rw [List.length_append, List.length_append, x.len, y.len], fun i t c h1 h2 => ?_⟩
  by_cases hi : i < ts.length
  · rw [List.getElem?_append_left hi] at h1
    rw [List.getElem?_append_left (by rw [← x.len]; exact hi)] at h2
    exact x.at_ i t c h1 h2
  · rw [List.getElem?_append_right (by omega)] at h1
    rw [List.getElem?_append_right (by have := x.len; omega), ← x.len] at h2
    exact y.at_ _ t c h1 h2
theorem Tups.get {H : Hp} {ts : List Addr} {cs : List (List V)} (x : Tups H ts cs) {i : Nat} {v : V} (h : (ts.map V.ref)[i]? = some v) : ∃ t c, v = .ref t ∧ ts[i]? = some t ∧ cs[i]? = some c ∧ H t = some (.tup c) := by
  obtain ⟨t, ht, rfl⟩ := map_get h
  have h1 : i < cs.length := by
    rw [← x.len]
    exact (List.getElem?_eq_some_iff.mp ht).1
  exact ⟨t, _, rfl, ht, List.getElem?_eq_getElem h1, x.at_ i t _ ht (List.getElem?_eq_getElem h1)⟩
theorem Tups.upd {H : Hp} {ts : List Addr} {cs : List (List V)} {p : Addr} {o : HO} (x : Tups H ts cs) (h : ∀ c, H p ≠ some (.tup c)) : Tups (L2.upd H p o) ts cs := x.mono fun t c e => by
  rw [upd_ne (fun e2 => h c (by rw [← e2]; exact e))]
  exact e
/-- a list at D that collects tuples -/
def Coll (H0 : Hp) (D : Addr) (cs : List (List V)) (k : Nat) (H : Hp) : Prop := ∃ accs : List Addr, H D = some (.lst (accs.map V.ref)) ∧ Tups H accs (cs.take k) ∧ Same H0 H
theorem Coll.start {H0 : Hp} {D : Addr} (cs : List (List V)) (h : H0 D = none) : Coll H0 D cs 0 (upd H0 D (.lst [])) := ⟨[], upd_same, Tups.nil _, same_new (Same.refl _) h⟩
theorem Coll.step {H0 H H3 : Hp} {D u : Addr} {cs : List (List V)} {k : Nat} {c : List V} (x : Coll H0 D cs k H) (h0 : H0 D = none) (s : Same H H3) (hu : H3 u = some (.tup c)) (hc : cs[k]? = some c) (hl : cs.length ≤ 1000000) :
    ∃ acc, H3 D = some (.lst acc) ∧ acc.length < sizeLine ∧ Coll H0 D cs (k + 1) (upd H3 D (.lst (acc ++ [.ref u]))) := by
  obtain ⟨accs, h1, h2, h3⟩ := x
  have hk := (List.getElem?_eq_some_iff.mp hc).1
  have hD := s _ _ h1
  refine ⟨_, hD, ?_, accs ++ [u], ?_, ?_, same_mut (fun b o e => s _ _ (h3 _ _ e)) h0⟩
  · rw [List.length_map, h2.len, List.length_take]
    exact small_lt (by omega)
  · rw [upd_same, List.map_append]
    rfl
  · rw [List.take_succ, hc]
    exact Tups.snoc ((h2.same s).upd fun c e => by rw [hD] at e; cases e) (by rw [upd_ne (fun e => by rw [e, hD] at hu; cases hu)]; exact hu)
theorem cut_from (xs : List V) (k : Nat) : cutV xs (some (k : Int)) none = xs.drop k := by
  unfold cutV
  rw [HT.sIx_nat, HT.sIx_none]
  by_cases h : k ≤ xs.length
  · rw [Nat.min_eq_left h, List.take_of_length_le (by rw [List.length_drop]; omega)]
  · rw [Nat.min_eq_right (by omega), List.drop_of_length_le (Nat.le_refl _), List.drop_of_length_le (by omega), List.take_nil]
theorem atI_nat {xs : List V} {i : Nat} {v : V} (h : xs[i]? = some v) : atI xs (0 + (i : Int)) = some v := by
  have hi := (List.getElem?_eq_some_iff.mp h).1
  unfold atI ixN
  rw [Int.zero_add, if_pos (by omega), if_pos (by omega)]
  exact h
def spSubs (K : PySem.W.Frag) (j : Nat) : Sp := fun vs H Q _ => ∃ (a : Addr) (ss : List Nat) (f : Nat), vs = [.ref a, .int f] ∧ SqL K H a (enc ss) ∧ ss.length ≤ 7 ∧ f ≤ 7 ∧ f < j ∧
  ∀ H' p ts, Same H H' → H p = none → H' p = some (.lst (ts.map V.ref)) → Tups H' ts ((subs f ss).map enc) → Q (.ref p) H'
theorem scSubs : FnScope ["signs", "few", "found", "at", "rest"] ["signs", "few"] (defScope sSubsets) := ⟨rfl, rfl, rfl, by decide +kernel, rfl, by decide +kernel, by decide +kernel⟩
section
variable {w : World} {K : PySem.W.Frag} {mg : Str → Option Value} {base : Heap}
theorem subs_cal (T : Tx K mg) {k : Nat} {sp : Sp} (len : ∀ vs H Q E, sp vs H Q E → vs.length = 2)
    (hbody : ∀ (cdv : Value) (A : Around) (outer : List Env) (s : Shared) (H : Hp) (vs : List V) (Q : VK) (E : XK), Room k (A.deeper (envOfC "subsets" (defScope sSubsets) s.heap.objs.size (He.ga K "subsets") cdv)) → sp vs H Q E →
      ∃ t, PSs (cxOf (L2.CX PR w) PR w K mg base ["signs", "few", "found", "at", "rest"] "subsets" (defScope sSubsets) (He.ga K "subsets") cdv A outer s H E) (defBody sSubsets) t ∧ t { nx := fun _ H' => Q .non H', rt := Q } (start ["signs", "few", "found", "at", "rest"] vs) H) :
    Cal PR w K mg base (k + 1) "subsets" sp :=
  cal_of T.toTxt (st := sSubsets) (N := ["signs", "few", "found", "at", "rest"]) (ps := ["signs", "few"]) (List.mem_of_getElem? (i := 11) rfl) (by decide) scSubs (fun _ _ _ _ _ _ us hl => match us, hl with | [_, _], _ => rfl) len hbody
theorem ok_subs (T : Tx K mg) : ∀ j : Nat, Cal PR w K mg base (j + 1) "subsets" (spSubs K j)
  | 0 => subs_cal T (k := 0) (fun vs H Q E h => by
      obtain ⟨_, _, _, rfl, _⟩ := h
      rfl) (fun _ _ _ _ _ _ _ _ _ h => by
      obtain ⟨_, _, _, _, _, _, _, h, _⟩ := h
      exact absurd h (Nat.not_lt_zero _))
  | j + 1 => by
    have IH := ok_subs T j
    refine subs_cal T (k := j + 1) (fun vs H Q E h => by
      obtain ⟨_, _, _, rfl, _⟩ := h
      rfl) (fun cdv A outer s H vs Q E hr h => ?_)
    obtain ⟨a, ss, f, rfl, hS, hl7, hf7, hj, q⟩ := h
    refine ⟨_, PSs.nox (pss_cons (ps_if (pt_cmpR op_eq (pv 1) pe_int (nomark _)) (pss_one (ps_ret (pe_lst (pa_cons (pe_tup pa_nil) pa_nil)))) pss_nil)
      (pss_cons (ps_set (i := 2) scSubs.nd rfl (Or.inl rfl) (pe_lst pa_nil))
      (pss_cons (ps_for PassesOwn.never rfl (pi_range1 (by rfl) (T.fr _ (by decide)) (pa_cons (pe_op op_add (pe_op op_sub (pe_callB call_len (by rfl) (T.fr _ (by decide)) boot_len (pa_cons (pv 0) pa_nil)) (pv 1)) pe_int) pa_nil)) (pg_name (i := 3) scSubs.nd rfl (Or.inr rfl))
        (pss_one (ps_expr (pe_bm PySem.F.plainAttrs_list PySem.F.slot_list_extend PySem.F.type_list_extend mt_extend (pv 2)
          (pa_cons (pe_lc rfl scSubs.nd (pi_list (pe_x IH hr (Nat.le_refl _) passL (pa_cons (pe_slice sl_list (pv 0) (po_some (pe_op op_add (pv 3) pe_int)) po_none) (pa_cons (pe_op op_sub (pv 1) pe_int) pa_nil)))) (own := [("rest", 4)]) (blkOk_by (by rfl))
            (fun _ _ _ _ _ => pg_name (i := 4) scSubs.nd rfl (Or.inl rfl) (Or.inr rfl))
            (fun _ _ _ _ _ => pts_nil) (fun _ _ _ _ _ => pe_op (r := rCatA K) op_catA (pe_tup (pa_cons (pe_ix (r := rIxL K) ix_list (pv 0) (pv 3) (fun _ _ => rfl)) pa_nil)) (pv 4))) pa_nil)))))
      (pss_one (ps_ret (pv 2)))))), ?_⟩
    have hlen : (enc ss).length = ss.length := List.length_map _
    refine ⟨_, rfl, rfl, _, rfl, ?_⟩
    cases f with
    | zero =>
      refine ifT (by decide) ⟨by decide, fun t ht => ⟨(by show 1 ≤ sizeLine; decide), fun p hp => ?_⟩⟩
      have s1 : Same H (upd H t (.tup [])) := same_new (Same.refl _) ht
      have htp : t ≠ p := ne_of_none upd_same hp
      refine q _ p [t] (same_new s1 hp) ?_ upd_same (Tups.snoc (ts := []) (cs := []) (Tups.nil _) ?_)
      · rw [upd_ne (Ne.symm htp)] at hp
        exact hp
      · rw [upd_ne htp]
        exact upd_same
    | succ g =>
      refine ifF (decide_eq_false (fun z => by have := V.int.inj z; omega)) ?_
      refine ⟨by decide, fun F hF => ?_⟩
      have sF : Same H (upd H F (.lst [])) := same_new (Same.refl _) hF
      have e : ((ss.length : Int) - ((g + 1 : Nat) : Int) + 1).toNat = ss.length - g := by omega
      refine ⟨_, rfl, _, ss.length, rfl, .inl ⟨_, SqL.of_same sF hS, hlen.symm⟩, _, rfl, _, _, rfl, rfl, _, _, rfl, rfl, _, rfl, by omega, by omega, ?_⟩
      rw [e]
      refine for_range (lo := 0) (n := ss.length - g) (fun i σ H2 => ∃ (v3 v4 : Option V) (ts : List Addr), σ = [some (.ref a), some (.int ((g + 1 : Nat) : Int)), some (.ref F), v3, v4] ∧
          H2 F = some (.lst (ts.map V.ref)) ∧ Tups H2 ts (((List.range i).flatMap fun i => (subs g (ss.drop (i + 1))).map (ss.getD i 0 :: ·)).map enc) ∧ Same H H2)
        ⟨none, none, [], rfl, upd_same, Tups.nil _, sF⟩ ?_ ?_
      · rintro i σ H2 hi ⟨v3, v4, ts, rfl, hF2, hT2, s2⟩
        have hS2 := SqL.of_same s2 hS
        have hi2 : i < ss.length := by omega
        refine ⟨_, rfl, .inl ⟨rfl, _, .of hF2⟩, ?_⟩
        refine ⟨_, rfl, _, rfl, _, _, rfl, rfl, _, rfl, a, _, rfl, hS2, fun p hp => ⟨_, rfl, _, _, rfl, rfl, p, ss.drop (i + 1), g, ?_, ?_, by rw [List.length_drop]; omega, by omega, by omega, fun H3 p2 ts2 s3 hp2 hl2 hT3 => ?_⟩⟩
        · show [V.ref p, V.int (((g + 1 : Nat) : Int) - 1)] = _
          rw [show ((g + 1 : Nat) : Int) - 1 = (g : Int) by omega]
        · refine .inl (.inl ?_)
          rw [upd_same, show (0 + (i : Int) + 1) = ((i + 1 : Nat) : Int) by omega, cut_from]
          unfold enc
          rw [List.map_drop]
        have s23 : Same H2 H3 := fun c u e => s3 _ _ (by rw [upd_ne (ne_of_none e hp)]; exact e)
        have hlen2 : ((subs g (ss.drop (i + 1))).map enc).length ≤ 7 ^ g := by
          rw [List.length_map]
          exact subs_len g _ (by rw [List.length_drop]; omega)
        have hp7 : 7 ^ g ≤ 7 ^ 6 := Nat.pow_le_pow_right (by decide) (by omega)
        have hcs : (((subs g (ss.drop (i + 1))).map (ss.getD i 0 :: ·)).map enc).length = ((subs g (ss.drop (i + 1))).map enc).length := by rw [List.length_map, List.length_map, List.length_map]
        refine ⟨p2, rfl, ⟨_, .of hl2⟩, fun D hD => lc_it (walk_list (K := K) (a := p2) (xs := ts2.map V.ref)) (Coll H3 D (((subs g (ss.drop (i + 1))).map (ss.getD i 0 :: ·)).map enc)) (Coll.start _ hD) (fun k H4 _ ⟨_, _, _, s4⟩ => .of (s4 _ _ hl2)) ?_ ?_⟩
        · rintro k x H4 H5 hk c4 ⟨rfl, hx⟩
          have c5 := c4
          obtain ⟨_, _, _, s4⟩ := c5
          obtain ⟨t, c, rfl, ht, hc, hct⟩ := hT3.get hx
          obtain ⟨r, hr2, rfl⟩ := map_get hc
          have hS4 := SqL.of_same (fun c u e => s4 _ _ (s23 _ _ e)) hS2
          have hck : (((subs g (ss.drop (i + 1))).map (ss.getD i 0 :: ·)).map enc)[k]? = some (enc (ss.getD i 0 :: r)) := by
            rw [List.getElem?_map, List.getElem?_map, hr2]
            rfl
          have hat : atI (enc ss) (0 + (i : Int)) = some (nI (ss.getD i 0)) := atI_nat (by
            unfold enc
            rw [List.getElem?_map, List.getD_eq_getElem?_getD, List.getElem?_eq_getElem hi2]
            rfl)
          refine ⟨rfl, yes_ ⟨_, rfl, _, rfl, a, _, _, _, rfl, rfl, hS4, hat, (by show 1 ≤ sizeLine; decide), fun u hu => ⟨_, rfl, u, t, _, _, rfl, rfl, .inl (.inl upd_same), sqT_same (same_new (Same.refl _) hu) (.inl (.inl (s4 _ _ hct))), ?_, fun z => (List.cons_ne_nil _ _ z).elim, fun _ e2 => ?_, fun _ _ u2 hu2 => ?_⟩⟩⟩
          · have h9 := subs_mem g _ r (List.mem_of_getElem? hr2)
            unfold enc
            rw [List.length_map, h9]
            exact small_le (by show 1 + g ≤ _; omega)
          · have e3 : r = [] := List.map_eq_nil_iff.mp e2
            subst e3
            exact Coll.step c4 hD (same_new (Same.refl _) hu) upd_same hck (by omega)
          · exact Coll.step c4 hD (same_new (same_new (Same.refl _) hu) hu2) upd_same hck (by omega)
        · rintro H4 ⟨accs, hD4, hT4, s4⟩
          have hn : (ts2.map V.ref).length = (((subs g (ss.drop (i + 1))).map (ss.getD i 0 :: ·)).map enc).length := by rw [hcs, List.length_map, hT3.len]
          rw [hn, List.take_length] at hT4
          have hF4 := s4 _ _ (s23 _ _ hF2)
          have hDF : D ≠ F := fun e => by rw [e, s23 _ _ hF2] at hD; cases hD
          refine ⟨F, D, _, _, rfl, rfl, hF4, hD4, ?_, _, _, ts ++ accs, rfl, ?_, ?_, same_mut (fun c u e => s4 _ _ (s23 _ _ (s2 _ _ e))) hF⟩
          · have h8 := flat_le (fun i => (subs g (ss.drop (i + 1))).map (ss.getD i 0 :: ·)) (7 ^ g) (fun i => by
              rw [List.length_map]
              exact subs_len g _ (by rw [List.length_drop]; omega)) i
            have h9 := hT2.len
            rw [List.length_map] at h9
            have h10 := hT4.len
            rw [hcs] at h10
            rw [List.length_map, List.length_map, h9, h10]
            have h11 : i * 7 ^ g ≤ 6 * 7 ^ 6 := Nat.mul_le_mul (by omega) hp7
            exact small_le (by omega)
          · rw [upd_same, List.map_append]
          · rw [List.range_succ, List.flatMap_append, List.map_append]
            refine ((hT2.same (fun c u e => s4 _ _ (s23 _ _ e))).append ?_).upd fun c e => by rw [hF4] at e; cases e
            simpa using hT4
      · rintro σ H2 ⟨v3, v4, ts, rfl, hF2, hT2, s2⟩
        exact ⟨_, rfl, q H2 F ts s2 hF hF2 hT2⟩
end
end K38
end
section
/-! ## K38K -/
/-! {**a, **b}: the display of two dicts. -/
namespace K38
open PySem PySem.Spec PyProof.Rows L2
section
variable {prog : Program} {w : World} {A : Around} {E : Value → Shared → Prop} {s : Shared}
/-- an entry is put, its hash known (as PyProof/DictUpdate.lean's rule for a near kin of it) -/
theorem dd_put {d : Addr} {kvs : List (Key × Value)} {k : Key} {key v : Value} {Q : Unit → Shared → Prop} (hkey : (mixKind prog w).is k key = true) (hm : s.heap.DictOf (mixKind prog w) d kvs)
    (hQ : ∀ h', h'.DictOf (mixKind prog w) d (stored kvs k v) → Heap.SameBut d s.heap h' → Q () { s with heap := h' }) (hsz : kvs.length ≤ sizeLine) :
    wpAny (model prog w) A (dictPut d ((mixKind prog w).hash k) key v) Q E s := by
  obtain ⟨o, es, ep, ho, hc, hd, hk, hp, hn⟩ := hm
  have hes : es.size ≤ sizeLine := by
    have e1 := hp.length
    have e2 : es.toList.length = es.size := by simp
    omega
  unfold dictPut
  refine wpAny_bind (wpAny_dictFind_of hkey ho hd hk ?_)
  have hidx : (es.findIdx? fun e => (mixKind prog w).is k e.key) = kvs.findIdx? fun kv => decide (kv.1 = k) := by
    rw [← hp.findIdx k]; obtain ⟨l⟩ := es; simp
  cases hi : es.findIdx? fun e => (mixKind prog w).is k e.key with
  | some i =>
    refine wpAny_updateDict ho hd (hQ _ ⟨_, _, ep, Heap.get?_update_self _ ho (Obj.isFreed_of_dict (Obj.data_mapDict hd _)),
      hc.mapDict _, Obj.data_mapDict hd _, hk.modify _ _, ?_, ?_⟩ (Heap.SameBut.update ..)) (by dict_keeps)
    · rw [stored, if_pos (any_of_findIdx_some (hidx ▸ hi))]
      have hl : (es.toList.findIdx? fun e => (mixKind prog w).is k e.key) = some i := by rw [← hi]; obtain ⟨l⟩ := es; simp
      have := hp.modify hn hl v
      obtain ⟨l⟩ := es
      simpa using this
    · rw [stored, if_pos (any_of_findIdx_some (hidx ▸ hi)), keys_map_store]; exact hn
  | none =>
    have hnot : k ∉ kvs.map (·.1) := not_mem_of_findIdx_none (hidx ▸ hi)
    have hany : ¬ (kvs.any fun kv => decide (kv.1 = k)) = true := by
      rw [List.any_eq_true]; rintro ⟨kv, hkv, he⟩
      exact hnot (List.mem_map.mpr ⟨kv, hkv, of_decide_eq_true he⟩)
    refine wpAny_updateDictKeys (hz := hes) ho hd (hQ _ ⟨_, _, ep + 1, Heap.get?_update_self _ ho (Obj.isFreed_of_dict (Obj.data_mapDictKeys hd _)),
      hc.mapDictKeys _, Obj.data_mapDictKeys hd _, hk.push hkey _, ?_, ?_⟩ (Heap.SameBut.update ..))
    · rw [stored, if_neg hany]
      have := hp.append hkey ((mixKind prog w).hash k) v
      obtain ⟨l⟩ := es
      simpa using this
    · rw [stored, if_neg hany, List.map_append, List.nodup_append]
      refine ⟨hn, by simp, ?_⟩
      intro a ha b hb
      simp only [List.map_cons, List.map_nil, List.mem_singleton] at hb
      subst hb
      exact fun e => hnot (e ▸ ha)
theorem key_noref {k : Key} {v : Value} (h : (mixKind prog w).is k v = true) : ∀ a, v ≠ .ref a := fun a e => by
  rcases keyIs_shape h with ⟨i, t, _, e2⟩ | ⟨x, t, _, e2⟩ <;> rw [e2] at e <;> cases e
theorem dd_merge {d o : Addr} {kvs more : List (Key × Value)} {Q : Unit → Shared → Prop} (hdo : d ≠ o) (hoS : (o == sysModules) = false)
    (hd : s.heap.DictOf (mixKind prog w) d kvs) (ho : s.heap.DictOf (mixKind prog w) o more)
    (hQ : ∀ h', h'.DictOf (mixKind prog w) d (merged kvs more) → h'.DictOf (mixKind prog w) o more → Heap.SameBut d s.heap h' → Q () { s with heap := h' })
    (hsz : kvs.length + more.length ≤ sizeLine) :
    wpAny (model prog w) A (mergeMapping d (.ref o) false) Q E s := by
  obtain ⟨od, esd, epd, hod, hcd, hdd, hkd, hpd, hnd⟩ := id hd
  obtain ⟨oo, eso, epo, hoo, hco, hdo', hko, hpo, hno⟩ := id ho
  unfold mergeMapping
  refine wpAny_bind (wpAny_isInstance ho.typeIs isSubtype_dict_dict ?_)
  rw [if_pos rfl]
  refine wpAny_bind (wpAny_specialOf ho.typeIs PySem.F.slot_dict_iter.lookup (wpAny_bind (wpAny_pure ?_)))
  have e1 : ((some (Value.builtin "dict.__iter__")) == some (Value.builtin "dict.__iter__")) = true := by simp
  rw [e1]
  dsimp only
  rw [if_neg (by rw [hoS]; exact Bool.false_ne_true)]
  have hlen : more.length = eso.size := by rw [← hpo.length]; simp
  have loop : wpAny (model prog w) A (do
      let l ← dictEntries o
      let epoch ← dictEpoch o
      forIn (List.range l.size) PUnit.unit fun i (_ : PUnit) => (do
          let l' ← dictEntries o
          match l'[i]? with
            | some e => do
              holding [e.key, e.val] (if false = true then (do
                let f ← dictFind d e.key e.hash
                if f.isSome = true then do
                    rule "dict.merge.duplicate-key"
                    let x ← newExc (Value.type "KeyError") [e.key]
                    raiseNew x
                    dictPut d e.hash e.key e.val
                  else dictPut d e.hash e.key e.val) else dictPut d e.hash e.key e.val)
              let ep' ← dictEpoch o
              if (ep' != epoch) = true then do
                  (unsupported "dict.changed-during-merge" : Sem PUnit)
                  pure (ForInStep.yield PUnit.unit)
                else pure (ForInStep.yield PUnit.unit)
            | _ => do
              (unsupported "dict.changed-during-merge" : Sem PUnit)
              pure (ForInStep.yield PUnit.unit) : Sem (ForInStep PUnit))
      pure ()) Q E s := by
    refine wpAny_bind (wpAny_dictEntries hoo hdo' ?_)
    refine wpAny_bind (wpAny_dictEpoch hoo hdo' ?_)
    refine wpAny_bind ?_
    rw [List.range_eq_range']
    refine wpAny_forIn_list _
      (fun rest _ s' => ∃ h' i, s' = { s with heap := h' } ∧ rest = List.range' i (eso.size - i) ∧ i ≤ eso.size ∧ h'.DictOf (mixKind prog w) d (merged kvs (more.take i)) ∧ h'.get? o = some oo ∧ Heap.SameBut d s.heap h')
      _ ?_ ?_ _ _ ⟨s.heap, 0, rfl, by simp, Nat.zero_le _, by simpa [merged] using hd, hoo, Heap.SameBut.refl _ _⟩
    · rintro x rest b s' ⟨h', i, rfl, hr, hi, hd', hoo', hs'⟩
      have hlt : i < eso.size := by
        rcases Nat.lt_or_ge i eso.size with h | h
        · exact h
        · rw [Nat.sub_eq_zero_of_le h] at hr; simp at hr
      obtain ⟨rfl, hrest⟩ : x = i ∧ rest = List.range' (i + 1) (eso.size - (i + 1)) := by
        have e : eso.size - i = (eso.size - (i + 1)) + 1 := by omega
        rw [e, List.range'_succ] at hr
        injection hr with h1 h2
        exact ⟨h1, h2⟩
      refine wpAny_bind (wpAny_dictEntries hoo' hdo' ?_)
      rw [Array.getElem?_eq_getElem hlt]
      obtain ⟨kv, hkv⟩ : ∃ kv, more[x]? = some kv := ⟨more[x]'(by rw [hlen]; exact hlt), List.getElem?_eq_getElem _⟩
      obtain ⟨k, v⟩ := kv
      obtain ⟨hkey, hval⟩ := hpo.get? (e := eso[x]) (by simp [hlt]) hkv
      obtain ⟨k', hkey', hhash⟩ := hko eso[x] (Array.getElem_mem hlt)
      obtain rfl : k' = k := (mixKind prog w).inj _ _ _ hkey' hkey
      show wpAny _ _ (holding [eso[x].key, eso[x].val] (dictPut d eso[x].hash eso[x].key eso[x].val) >>= _) _ _ _
      rw [hhash, hval]
      have hmx : (merged kvs (more.take x)).length ≤ sizeLine := by
        have e1 := merged_length_le kvs (more.take x)
        have e2 : (more.take x).length ≤ more.length := by rw [List.length_take]; omega
        omega
      refine wpAny_bind (wpAny_holding (dd_put hkey hd' (fun h'' hd'' hs'' => ?_) hmx))
      have hoo'' : h''.get? o = some oo := (hs''.2 o (Ne.symm hdo)).trans hoo'
      refine wpAny_bind (wpAny_dictEpoch hoo'' hdo' ?_)
      rw [if_neg (by simp)]
      exact wpAny_pure ⟨h'', x + 1, rfl, hrest, hlt, by rw [merged_take_succ kvs more x (k', v) hkv]; exact hd'', hoo'', hs'.trans hs''⟩
    · rintro b s' ⟨h', i, rfl, hr, hi, hd', hoo', hs'⟩
      have hin : i = eso.size := by
        rcases Nat.lt_or_ge i eso.size with h | h
        · have e : eso.size - i = (eso.size - (i + 1)) + 1 := by omega
          rw [e, List.range'_succ] at hr; exact nomatch hr
        · exact Nat.le_antisymm hi h
      refine wpAny_pure (hQ h' ?_ ⟨oo, eso, epo, hoo', hco, hdo', hko, hpo, hno⟩ hs')
      rw [hin, ← hlen, List.take_length] at hd'; exact hd'
  refine wpAny_bind (wpAny_dictEntries hod hdd ?_)
  split
  · refine wpAny_bind (wpAny_dictEntries hoo hdo' ?_)
    refine wpAny_bind ?_
    rw [← Array.forIn_toList]
    refine wpAny_forIn_list _ (fun rest _ s' => s' = s ∧ ∀ e ∈ rest, ∃ k, (mixKind prog w).is k e.key = true) _ ?_ ?_ _ _ ⟨rfl, fun e he => ?_⟩
    · rintro x rest b s' ⟨rfl, hk⟩
      obtain ⟨k, hk1⟩ := hk x (List.mem_cons_self ..)
      have hnr := key_noref hk1
      cases hx : x.key with
      | ref a => exact absurd hx (hnr a)
      | _ => exact wpAny_pure ⟨rfl, fun e he => hk e (List.mem_cons_of_mem _ he)⟩
    · rintro b s' ⟨rfl, _⟩
      exact loop
    · obtain ⟨k, h1, _⟩ := hko e (by simpa using he)
      exact ⟨k, h1⟩
  · exact loop
end
/-! ### as a rule -/
def tDD (t1 t2 : TE) : TE := fun σ H Q => ∀ D, H D = none → t1 σ (upd H D (.dK [])) fun x H1 => ∃ a kvs, x = .ref a ∧ H1 D = some (.dK []) ∧ H1 a = some (.dK kvs) ∧ a ≠ D ∧ kvs.length ≤ 1000 ∧
  t2 σ (upd H1 D (.dK (mergeK [] kvs))) fun y H2 => ∃ b more, y = .ref b ∧ H2 D = some (.dK (mergeK [] kvs)) ∧ H2 b = some (.dK more) ∧ b ≠ D ∧ more.length ≤ 1000 ∧ Q (.ref D) (upd H2 D (.dK (mergeK (mergeK [] kvs) more)))
section
variable {X : Cx}
theorem dd_step {pins : List (Addr × Obj)} {σ : L2.St} {H : Hp} {s : Shared} {D a : Addr} {kvs more : List (Key × V)} {Q : Unit → Shared → Prop} {E : Value → Shared → Prop} (I : Inv X pins σ H s) (hD : H D = some (.dK kvs)) (ha : H a = some (.dK more)) (hne : a ≠ D)
    (hl : kvs.length + more.length ≤ sizeLine) (h : ∀ s', Inv X pins σ (upd H D (.dK (mergeK kvs more))) s' → Q () s') : wpAny (model X.prog X.w) X.A (mergeMapping D (.ref a) false) Q E s := by
  obtain ⟨z, hd, vs0, r0, dd⟩ := dk_of I.hok hD
  obtain ⟨z1, hd1, vs1, r1, dd1⟩ := dk_of I.hok ha
  refine dd_merge (Ne.symm hne) hd1 dd dd1 (fun h' dd' _ hs => h _ ?_) (by rw [← r0.length, ← r1.length]; exact hl)
  have hz : (mergeK kvs more).length ≤ sizeLine := Nat.le_trans (length_mergeK more kvs) hl
  have he : ∃ q, h'.get? D = some q := let ⟨q, _, _, hq, _⟩ := dd'; ⟨q, hq⟩
  exact d_write I (by rw [hD]; exact True.intro) hs he (dk_new hz hd (r1.merge r0) dd')
theorem pe_dd {e1 e2 : Expr} {pos : Pos} {t1 t2 : TE} (h1 : PE X e1 t1) (h2 : PE X e2 t2) : PE X (.Dict [none, none] [e1, e2] pos) (tDD t1 t2) := by
  refine ⟨fun pins s σ H Q I q => ?_⟩
  have hn := I.hok.fresh (Nat.le_refl s.heap.objs.size)
  have I1 := I.laid (a := s.heap.objs.size) (o := .dK []) (h' := s.heap.push { cls := .type "dict", data := .dict #[] }) (t' := s.toks) (fun _ _ q => Heap.get?_push_of_some _ q) (Nat.le_refl _) (dk_empty s.heap I.big)
  rw [arm_eval_Dict]
  refine wpAny_bind (wpAny_standAt ?_)
  show wpAny _ _ (dictDisplay [(none, do let x ← eval e1 X.env; standAt pos; pure x), (none, do let x ← eval e2 X.env; standAt pos; pure x)]) _ _ _
  unfold dictDisplay
  dsimp only
  refine wpAny_bind ?_
  rw [List.forIn_cons]
  refine wpAny_bind ?_
  dsimp only
  rw [if_pos (by rfl)]
  refine wpAny_bind (wpAny_pure ?_)
  dsimp only
  refine wpAny_bind (wpAny_alloc ?_)
  refine wpAny_bind (wpAny_holding ?_)
  refine wpAny_bind ?_
  refine thn (h1.run pins _ σ _ _ I1 (q _ hn)) fun v s1 ⟨x, H1, I1', rx, a, kvs, ex, hD1, ha1, hne, hl1, q1⟩ => ?_
  subst ex
  cases rx
  refine wpAny_bind (wpAny_standAt (wpAny_pure ?_))
  refine wpAny_bind (wpAny_onRaise (wpAny_tryCatch (wpAny_onRaise (wpAny_holding (dd_step I1' hD1 ha1 hne (by rw [List.length_nil]; exact small_le (by omega)) fun s2 I2 => ?_)))))
  refine wpAny_pure ?_
  dsimp only
  rw [List.forIn_cons]
  refine wpAny_bind ?_
  dsimp only
  rw [if_pos (by rfl)]
  refine wpAny_bind (wpAny_pure ?_)
  dsimp only
  refine wpAny_bind (wpAny_pure ?_)
  refine wpAny_bind (wpAny_holding ?_)
  refine wpAny_bind ?_
  refine thn (h2.run pins _ σ _ _ I2 q1) fun v s3 ⟨y, H2, I3, ry, b, more, ey, hD2, hb2, hne2, hl2, q2⟩ => ?_
  subst ey
  cases ry
  refine wpAny_bind (wpAny_standAt (wpAny_pure ?_))
  have hml := length_mergeK kvs []
  rw [List.length_nil] at hml
  refine wpAny_bind (wpAny_onRaise (wpAny_tryCatch (wpAny_onRaise (wpAny_holding (dd_step I3 hD2 hb2 hne2 (small_le (by omega)) fun s4 I4 => ?_)))))
  refine wpAny_pure ?_
  dsimp only
  rw [List.forIn_nil]
  refine wpAny_pure ?_
  dsimp only
  rw [if_pos (by rfl)]
  refine wpAny_bind (wpAny_pure ?_)
  dsimp only
  exact wpAny_pure ⟨.ref s.heap.objs.size, _, I4, rfl, q2⟩
end
end K38
end
section
/-! ## K38L -/
/-! lists_below: mirror. -/
namespace K38
open PySem PySem.Spec PyProof.Rows L2
/-- the lists: pairs (sign, level), by fuel -/
def below : Nat → List Nat → Nat → Nat → List (List (Nat × Nat))
  | 0, _, _, _ => []
  | f + 1, ss, n, lv => if ss.length = 0 ∨ n = 0 ∨ ss.length < n then (if ss.length = 0 ∧ n = 0 then [[]] else [])
    else (List.range (n + 1)).flatMap fun few => (subs few ss).flatMap fun ch => (below f (ss.filter fun s => !ch.contains s) (2 * (n - few)) (lv + 1)).map fun D => D ++ ch.map fun s => (s, lv)
theorem subs_sub : ∀ (f : Nat) (ss r : List Nat), r ∈ subs f ss → r.Sublist ss
  | 0, ss, r, h => by
    have := List.mem_singleton.mp (show r ∈ [[]] from h)
    rw [this]
    exact List.nil_sublist _
  | f + 1, ss, r, h => by
    unfold subs at h
    obtain ⟨i, hi, h2⟩ := List.mem_flatMap.mp h
    obtain ⟨r', h3, rfl⟩ := List.mem_map.mp h2
    rw [List.mem_range] at hi
    have hlt : i < ss.length := by omega
    have h4 := subs_sub f _ r' h3
    have e : ss.getD i 0 = ss[i] := by rw [List.getD_eq_getElem?_getD, List.getElem?_eq_getElem hlt]; rfl
    rw [e]
    have h5 : (ss[i] :: r').Sublist (ss[i] :: ss.drop (i + 1)) := h4.cons₂ _
    rw [← List.drop_eq_getElem_cons hlt] at h5
    exact h5.trans (List.drop_sublist _ _)
theorem left_perm : ∀ {ch ss : List Nat}, ch.Sublist ss → ss.Nodup → ((ss.filter fun s => !ch.contains s) ++ ch).Perm ss
  | _, _, .slnil, _ => .nil
  | ch, a :: l, .cons _ h, hn => by
    rw [List.nodup_cons] at hn
    have ha : a ∉ ch := fun z => hn.1 (h.subset z)
    rw [List.filter_cons_of_pos (by simpa using ha)]
    exact (left_perm h hn.2).cons a
  | a :: ch, _ :: l, .cons₂ _ h, hn => by
    rw [List.nodup_cons] at hn
    rw [List.filter_cons_of_neg (by simp)]
    have e : (l.filter fun s => !(a :: ch).contains s) = l.filter fun s => !ch.contains s := by
      refine List.filter_congr fun x hx => ?_
      have : x ≠ a := fun e => hn.1 (e ▸ hx)
      simp [this]
    rw [e]
    exact (List.perm_middle).trans ((left_perm h hn.2).cons a)
theorem below_perm : ∀ (f : Nat) (ss : List Nat) (n lv : Nat), ss.Nodup → ∀ D ∈ below f ss n lv, (D.map Prod.fst).Perm ss
  | 0, _, _, _, _, D, h => by cases h
  | f + 1, ss, n, lv, hn, D, h => by
    unfold below at h
    split at h
    · split at h
      · next h2 =>
        have := List.mem_singleton.mp h
        subst this
        have e : ss = [] := List.length_eq_zero_iff.mp h2.1
        rw [e]
        exact .nil
      · cases h
    · obtain ⟨few, _, h1⟩ := List.mem_flatMap.mp h
      obtain ⟨ch, h2, h3⟩ := List.mem_flatMap.mp h1
      obtain ⟨D', h4, rfl⟩ := List.mem_map.mp h3
      have h5 := subs_sub few ss ch h2
      have h6 := below_perm f _ _ _ (hn.sublist List.filter_sublist) D' h4
      rw [List.map_append, List.map_map]
      have e : ch.map (Prod.fst ∘ fun s => (s, lv)) = ch := by
        conv => rhs; rw [← List.map_id ch]
        rfl
      rw [e]
      exact (h6.append_right ch).trans (left_perm h5 hn)
/-- how many -/
def sl : Nat → Nat → Nat
  | 0, _ => 1
  | f + 1, m => ((List.range (m - f)).map fun i => sl f (m - (i + 1))).sum
theorem subs_sl : ∀ (f : Nat) (ss : List Nat), (subs f ss).length = sl f ss.length
  | 0, _ => rfl
  | f + 1, ss => by
    unfold subs sl
    rw [List.length_flatMap]
    congr 1
    refine List.map_congr_left fun i _ => ?_
    rw [List.length_map, subs_sl f, List.length_drop]
theorem sl_ch : ∀ m < 8, ∀ f < 8, f ≤ m → sl f m = chN m f := by decide +kernel
theorem sum_same {α : Type} (c : Nat) : ∀ (l : List α) (g : α → Nat), (∀ x ∈ l, g x = c) → (l.map g).sum = l.length * c
  | [], _, _ => by simp
  | x :: l, g, h => by
    rw [List.map_cons, List.sum_cons, h x (List.mem_cons_self ..), sum_same c l g fun y hy => h y (List.mem_cons_of_mem _ hy), List.length_cons, Nat.succ_mul, Nat.add_comm]
theorem below_len : ∀ (f : Nat) (ss : List Nat) (n lv : Nat), ss.Nodup → ss.length ≤ 7 → (below f ss n lv).length = wy f ss.length n
  | 0, _, _, _, _, _ => rfl
  | f + 1, ss, n, lv, hn, h7 => by
    unfold below wy
    by_cases h : ss.length = 0 ∨ n = 0 ∨ ss.length < n
    · rw [if_pos h, if_pos h]
      split <;> rfl
    · rw [if_neg h, if_neg h, List.length_flatMap]
      congr 1
      refine List.map_congr_left fun few hf => ?_
      rw [List.mem_range] at hf
      rw [List.length_flatMap, sum_same (wy f (ss.length - few) (2 * (n - few)))]
      · rw [subs_sl, sl_ch _ (by omega) _ (by omega) (by omega)]
      · intro ch hc
        have hs := subs_sub few ss ch hc
        have hp := (left_perm hs hn).length_eq
        rw [List.length_append, subs_mem few ss ch hc] at hp
        rw [List.length_map, below_len f _ _ _ (hn.sublist List.filter_sublist) (Nat.le_trans (List.length_filter_le _ _) h7)]
        congr 1
        omega
theorem wy_small : ∀ f < 15, ∀ m < 8, ∀ n < 15, wy f m n ≤ 1000000 := by decide +kernel
theorem flat_at {α β : Type} {g : α → List β} : ∀ {L : List α} {i : Nat} {a : α} {x : Nat}, L[i]? = some a → x < (g a).length → (L.flatMap g)[((L.take i).flatMap g).length + x]? = (g a)[x]?
  | [], _, _, _, h, _ => by simp at h
  | b :: L, 0, a, x, h, hx => by
    have e : b = a := by simpa using h
    subst e
    rw [List.take_zero, List.flatMap_nil, List.length_nil, Nat.zero_add, List.flatMap_cons, List.getElem?_append_left hx]
  | b :: L, i + 1, a, x, h, hx => by
    rw [List.take_succ_cons, List.flatMap_cons, List.flatMap_cons, List.length_append, Nat.add_assoc, List.getElem?_append_right (Nat.le_add_right _ _), Nat.add_sub_cancel_left]
    exact flat_at (by simpa using h) hx
theorem flat_succ {α β : Type} {g : α → List β} {L : List α} {i : Nat} {a : α} (h : L[i]? = some a) : ((L.take (i + 1)).flatMap g).length = ((L.take i).flatMap g).length + (g a).length := by
  rw [List.take_succ, h, List.flatMap_append, List.length_append]
  simp
/-! ### objects at addresses -/
structure Objs (H : Hp) (ts : List Addr) (os : List HO) : Prop where
  len : ts.length = os.length
  at_ : ∀ (i : Nat) (t : Addr) (o : HO), ts[i]? = some t → os[i]? = some o → H t = some o
theorem Objs.nil (H : Hp) : Objs H [] [] := ⟨rfl, fun i t c h _ => by simp at h⟩
theorem Objs.mono {H H' : Hp} {ts : List Addr} {os : List HO} (x : Objs H ts os) (k : ∀ t o, o ∈ os → H t = some o → H' t = some o) : Objs H' ts os := ⟨x.len, fun i t c h1 h2 => k t c (List.mem_of_getElem? h2) (x.at_ i t c h1 h2)⟩
theorem Objs.same {H H' : Hp} {ts : List Addr} {os : List HO} (x : Objs H ts os) (s : Same H H') : Objs H' ts os := x.mono fun t o _ e => s _ _ e
theorem Objs.snoc {H : Hp} {ts : List Addr} {os : List HO} {t : Addr} {c : HO} (x : Objs H ts os) (h : H t = some c) : Objs H (ts ++ [t]) (os ++ [c]) := by
  refine ⟨by rw [List.length_append, List.length_append, x.len]; rfl, fun i t' c' h1 h2 => ?_⟩
  by_cases hi : i < ts.length
  · rw [List.getElem?_append_left hi] at h1
    rw [List.getElem?_append_left (by rw [← x.len]; exact hi)] at h2
    exact x.at_ i t' c' h1 h2
  · rw [List.getElem?_append_right (by omega)] at h1
    rw [List.getElem?_append_right (by have := x.len; omega), ← x.len] at h2
    by_cases h0 : i - ts.length = 0
    · rw [h0] at h1 h2
      simp at h1 h2
      rw [← h1, ← h2]
      exact h
    · rw [List.getElem?_eq_none (by simp; omega)] at h1
      cases h1
theorem Objs.get {H : Hp} {ts : List Addr} {os : List HO} (x : Objs H ts os) {i : Nat} {v : V} (h : (ts.map V.ref)[i]? = some v) : ∃ t o, v = .ref t ∧ ts[i]? = some t ∧ os[i]? = some o ∧ H t = some o := by
  obtain ⟨t, ht, rfl⟩ := map_get h
  have h1 : i < os.length := by
    rw [← x.len]
    exact (List.getElem?_eq_some_iff.mp ht).1
  exact ⟨t, _, rfl, ht, List.getElem?_eq_getElem h1, x.at_ i t _ ht (List.getElem?_eq_getElem h1)⟩
/-- a list at D that collects objects (none a list) -/
def CollO (H0 : Hp) (D : Addr) (cs : List HO) (k : Nat) (H : Hp) : Prop := ∃ accs : List Addr, H D = some (.lst (accs.map V.ref)) ∧ Objs H accs (cs.take k) ∧ Same H0 H
theorem CollO.start {H0 : Hp} {D : Addr} (cs : List HO) (h : H0 D = none) : CollO H0 D cs 0 (upd H0 D (.lst [])) := ⟨[], upd_same, Objs.nil _, same_new (Same.refl _) h⟩
theorem CollO.same {H0 H H3 : Hp} {D : Addr} {cs : List HO} {k : Nat} (x : CollO H0 D cs k H) (s : Same H H3) : CollO H0 D cs k H3 := by
  obtain ⟨accs, h1, h2, h3⟩ := x
  exact ⟨accs, s _ _ h1, h2.same s, fun b o e => s _ _ (h3 _ _ e)⟩
theorem CollO.step {H0 H : Hp} {D u : Addr} {cs : List HO} {k : Nat} {c : HO} (x : CollO H0 D cs k H) (h0 : H0 D = none) (hu : H u = some c) (hc : cs[k]? = some c) (hl : cs.length ≤ 1000000) (hno : ∀ o ∈ cs, ∀ zs, o ≠ .lst zs) :
    ∃ acc, H D = some (.lst acc) ∧ acc.length < sizeLine ∧ CollO H0 D cs (k + 1) (upd H D (.lst (acc ++ [.ref u]))) := by
  obtain ⟨accs, h1, h2, h3⟩ := x
  have hk := (List.getElem?_eq_some_iff.mp hc).1
  refine ⟨_, h1, ?_, accs ++ [u], ?_, ?_, same_mut h3 h0⟩
  · rw [List.length_map, h2.len, List.length_take]
    exact small_lt (by omega)
  · rw [upd_same, List.map_append]
    rfl
  · rw [List.take_succ, hc]
    refine Objs.snoc (h2.mono fun t o ho e => ?_) ?_
    · rw [upd_ne (fun e2 => hno o (List.mem_of_mem_take ho) _ (by rw [e2, h1] at e; exact (Option.some.inj e).symm))]
      exact e
    · rw [upd_ne (fun e2 => hno c (List.mem_of_getElem? hc) _ (by rw [e2, h1] at hu; exact (Option.some.inj hu).symm))]
      exact hu
/-- the dict of such pairs -/
def dkv (D : List (Nat × Nat)) : List (Key × V) := D.map fun p => ((Sum.inl (p.1 : Int) : Key), nI p.2)
def oD (D : List (Nat × Nat)) : HO := .dK (dkv D)
theorem valV_app {κ : Type} [DecidableEq κ] (a b : List (κ × V)) (k : κ) (h : k ∉ a.map Prod.fst) : valV (a ++ b) k = valV b k := by
  unfold valV
  rw [List.find?_append]
  have e : (a.find? fun kv => decide (kv.1 = k)) = none := by
    rw [List.find?_eq_none]
    intro x hx e
    exact h (List.mem_map.mpr ⟨x, hx, of_decide_eq_true e⟩)
  rw [e]
  rfl
theorem valV_out {κ : Type} [DecidableEq κ] (a : List (κ × V)) (k : κ) (h : k ∉ a.map Prod.fst) : valV a k = none := by
  have := valV_app a [] k h
  rw [List.append_nil] at this
  rw [this]
  rfl
theorem merge_app : ∀ (b a : List (Key × V)), ((a ++ b).map Prod.fst).Nodup → mergeK a b = a ++ b
  | [], a, _ => by simp [mergeK]
  | kv :: b, a, h => by
    have h1 : kv.1 ∉ a.map Prod.fst := fun z => by
      rw [List.map_append, List.nodup_append] at h
      exact h.2.2 kv.1 z kv.1 (by simp) rfl
    have e : mergeK a (kv :: b) = mergeK (putK a kv.1 kv.2) b := rfl
    rw [e, putK_new _ (valV_out a kv.1 h1), merge_app b _ (by simpa using h)]
    simp
theorem dkv_keys (D : List (Nat × Nat)) : (dkv D).map Prod.fst = D.map fun p => (Sum.inl (p.1 : Int) : Key) := by
  unfold dkv
  rw [List.map_map]
  rfl
theorem keys_nd {l : List Nat} (h : l.Nodup) : (l.map fun s : Nat => (Sum.inl (s : Int) : Key)).Nodup := by
  refine List.Pairwise.map _ (fun a b hab e => hab ?_) h
  have := Sum.inl.inj e
  omega
theorem dkv_nd {D : List (Nat × Nat)} (h : (D.map Prod.fst).Nodup) : ((dkv D).map Prod.fst).Nodup := by
  rw [dkv_keys, show (D.map fun p => (Sum.inl (p.1 : Int) : Key)) = (D.map Prod.fst).map fun s : Nat => (Sum.inl (s : Int) : Key) by rw [List.map_map]; rfl]
  exact keys_nd h
theorem dkv_app (a b : List (Nat × Nat)) : dkv (a ++ b) = dkv a ++ dkv b := by
  unfold dkv
  rw [List.map_append]
end K38
end
section
/-! ## K38M -/
/-! lists_below: the walk. -/
namespace K38
open PySem PySem.Spec PyProof.Rows L2
def spBelow (K : PySem.W.Frag) (j : Nat) : Sp := fun vs H Q _ => ∃ (a : Addr) (ss : List Nat) (n lv : Nat), vs = [.ref a, .int n, .int lv] ∧ SqL K H a (enc ss) ∧ ss.Nodup ∧ ss.length ≤ 7 ∧ n < 15 ∧ j < 15 ∧ 0 < j ∧ 2 * ss.length < j + n ∧
  ∀ H' p ts, Same H H' → H p = none → H' p = some (.lst (ts.map V.ref)) → Objs H' ts ((below j ss n lv).map oD) → Q (.ref p) H'
/-- all of before stays but what is at F -/
def SameB (F : Addr) (H H' : Hp) : Prop := ∀ b u, H b = some u → b ≠ F → H' b = some u
theorem SameB.refl (F : Addr) (H : Hp) : SameB F H H := fun _ _ e _ => e
theorem SameB.of {F : Addr} {H H' : Hp} (s : Same H H') : SameB F H H' := fun b u e _ => s b u e
theorem SameB.trans {F : Addr} {H H1 H2 : Hp} (a : SameB F H H1) (b : SameB F H1 H2) : SameB F H H2 := fun c u e ne => b c u (a c u e ne) ne
theorem SameB.put {F : Addr} {H H1 : Hp} {o : HO} (a : SameB F H H1) : SameB F H (upd H1 F o) := fun c u e ne => by
  rw [upd_ne ne]
  exact a c u e ne
theorem scBelow : FnScope ["signs", "nodes", "level", "found", "few", "chosen", "left", "told", "sign"] ["signs", "nodes", "level"] (defScope sBelow) := ⟨rfl, rfl, rfl, by decide +kernel, rfl, by decide +kernel, by decide +kernel⟩
theorem flat_all {xs : List Nat} : (enc xs).all flatV = true := by
  unfold enc
  rw [List.all_map]
  exact List.all_eq_true.mpr fun x _ => rfl
theorem inV_enc (x : Nat) (xs : List Nat) : inV (nI x) (enc xs) = xs.contains x := by
  unfold inV enc
  rw [List.any_map, List.contains_eq_any_beq]
  congr 1
  funext y
  show eqV (.int (y : Int)) (.int (x : Int)) = (x == y)
  rw [show eqV (.int (y : Int)) (.int (x : Int)) = ((y : Int) == (x : Int)) from rfl, Bool.eq_iff_iff, beq_iff_eq, beq_iff_eq]
  omega
theorem pair_fst (ch : List Nat) (lv : Nat) : (ch.map fun s => (s, lv)).map Prod.fst = ch := by
  rw [List.map_map]
  conv => rhs; rw [← List.map_id ch]
  rfl
section
variable {w : World} {K : PySem.W.Frag} {mg : Str → Option Value} {base : Heap}
theorem below_cal (T : Tx K mg) {k : Nat} {sp : Sp} (len : ∀ vs H Q E, sp vs H Q E → vs.length = 3)
    (hbody : ∀ (cdv : Value) (A : Around) (outer : List Env) (s : Shared) (H : Hp) (vs : List V) (Q : VK) (E : XK), Room k (A.deeper (envOfC "lists_below" (defScope sBelow) s.heap.objs.size (He.ga K "lists_below") cdv)) → sp vs H Q E →
      ∃ t, PSs (cxOf (L2.CX PR w) PR w K mg base ["signs", "nodes", "level", "found", "few", "chosen", "left", "told", "sign"] "lists_below" (defScope sBelow) (He.ga K "lists_below") cdv A outer s H E) (defBody sBelow) t ∧ t { nx := fun _ H' => Q .non H', rt := Q } (start ["signs", "nodes", "level", "found", "few", "chosen", "left", "told", "sign"] vs) H) :
    Cal PR w K mg base (k + 1) "lists_below" sp :=
  cal_of T.toTxt (st := sBelow) (N := ["signs", "nodes", "level", "found", "few", "chosen", "left", "told", "sign"]) (ps := ["signs", "nodes", "level"]) (List.mem_of_getElem? (i := 12) rfl) (by decide) scBelow (fun _ _ _ _ _ _ us hl => match us, hl with | [_, _, _], _ => rfl) len hbody
theorem ok_below (T : Tx K mg) : ∀ j : Nat, Cal PR w K mg base (j + 10) "lists_below" (spBelow K j)
  | 0 => below_cal T (k := 9) (fun vs H Q E h => by
      obtain ⟨_, _, _, _, rfl, _⟩ := h
      rfl) (fun _ _ _ _ _ _ _ _ _ h => by
      obtain ⟨_, _, _, _, _, _, _, _, _, _, h, _⟩ := h
      exact absurd h (Nat.lt_irrefl 0))
  | j + 1 => by
    have IH := ok_below T j
    refine below_cal T (k := j + 10) (fun vs H Q E h => by
      obtain ⟨_, _, _, _, rfl, _⟩ := h
      rfl) (fun cdv A outer s H vs Q E hr h => ?_)
    obtain ⟨a, ss, n, lv, rfl, hS, hnd, h7, hn15, hj15, _, hm, q⟩ := h
    refine ⟨_, PSs.nox (pss_cons (ps_if (PW.pt (pw_or (pt_cmpR op_eq (pe_callB call_len (by rfl) (T.fr _ (by decide)) boot_len (pa_cons (pv 0) pa_nil)) pe_int (nomark _)) (pw_or (pt_cmpR op_eq (pv 1) pe_int (nomark _))
          (pw_or1 (pt_cmpR op_gt (pv 1) (pe_callB call_len (by rfl) (T.fr _ (by decide)) boot_len (pa_cons (pv 0) pa_nil)) (nomark _))))))
        (pss_one (ps_ret (pe_ifExp (PW.pt (pw_and (pt_cmpR op_eq (pe_callB call_len (by rfl) (T.fr _ (by decide)) boot_len (pa_cons (pv 0) pa_nil)) pe_int (nomark _)) (pw_and1 (pt_cmpR op_eq (pv 1) pe_int (nomark _)))))
          (pe_lst (pa_cons pe_dnewK pa_nil)) (pe_lst pa_nil)))) pss_nil)
      (pss_cons (ps_set (i := 3) scBelow.nd rfl (Or.inl rfl) (pe_lst pa_nil))
      (pss_cons (ps_for PassesOwn.never rfl (pi_range1 (by rfl) (T.fr _ (by decide)) (pa_cons (pe_op op_add (pv 1) pe_int) pa_nil)) (pg_name (i := 4) scBelow.nd rfl (Or.inl rfl))
        (pss_one (ps_for PassesOwn.never rfl (pi_list (pe_x (ok_subs T 8) hr (by omega) passL (pa_cons (pv 0) (pa_cons (pv 4) pa_nil)))) (pg_name (i := 5) scBelow.nd rfl (Or.inr rfl))
          (pss_cons (ps_setLc (i := 6) rfl scBelow.nd rfl rfl (by rfl) (pi_list (pv 0)) (own := [("sign", 8)]) (blkOk_by (by rfl))
            (fun _ _ _ _ _ => pg_name (i := 8) scBelow.nd rfl (Or.inl rfl) (Or.inr rfl))
            (fun _ _ _ _ _ => pts_one (pt_cmpR (r := rIn K true) op_notIn_seq (pv 8) (pv 5) (by rfl))) (fun _ _ _ _ _ => pv 8))
          (pss_one (ps_for PassesOwn.never rfl (pi_list (pe_x IH hr (Nat.le_refl _) passL (pa_cons (pv 6) (pa_cons (pe_op op_mul pe_int (pe_op op_sub (pv 1) (pv 4))) (pa_cons (pe_op op_add (pv 2) pe_int) pa_nil))))) (pg_name (i := 7) scBelow.nd rfl (Or.inl rfl))
            (pss_one (ps_expr (pe_bm PySem.F.plainAttrs_list PySem.F.slot_list_append PySem.F.type_list_append mt_append (pv 3) (pa_cons (pe_dd (pv 7)
              (pe_dc rfl scBelow.nd (pi_tup (pv 5)) (own := [("sign", 8)]) (blkOk_by (by rfl))
                (fun _ _ _ _ _ => pg_name (i := 8) scBelow.nd rfl (Or.inl rfl) (Or.inr rfl))
                (fun _ _ _ _ _ => pts_nil) (fun _ _ _ _ _ => pv 8) (fun _ _ _ _ _ => pv 2))) pa_nil))))))))))
      (pss_one (ps_ret (pv 3)))))), ?_⟩
    have hlen : (enc ss).length = ss.length := List.length_map _
    have hW : below (j + 1) ss n lv = if ss.length = 0 ∨ n = 0 ∨ ss.length < n then (if ss.length = 0 ∧ n = 0 then [[]] else [])
      else (List.range (n + 1)).flatMap fun few => (subs few ss).flatMap fun ch => (below j (ss.filter fun s => !ch.contains s) (2 * (n - few)) (lv + 1)).map fun D => D ++ ch.map fun s => (s, lv) := by rw [below]
    have hfin : (below (j + 1) ss n lv).length ≤ 1000000 := by
      rw [below_len _ _ _ _ hnd h7]
      exact wy_small _ hj15 _ (by omega) _ hn15
    have r1 : (ss.length = 0 ∨ n = 0 ∨ ss.length < n) → ss.length = 0 ∧ n = 0 → ∀ p1, H p1 = none → ∀ p2, (upd H p1 (.dK [])) p2 = none → Q (.ref p2) (upd (upd H p1 (.dK [])) p2 (.lst [.ref p1])) := fun c0 c1 p1 hp1 p2 hp2 => by
      rw [if_pos c0, if_pos c1] at hW
      have hne : p1 ≠ p2 := ne_of_none upd_same hp2
      refine q _ p2 [p1] (same_new (same_new (Same.refl _) hp1) hp2) ?_ upd_same ?_
      · rw [upd_ne (Ne.symm hne)] at hp2
        exact hp2
      · rw [hW]
        refine Objs.snoc (ts := []) (os := []) (Objs.nil _) ?_
        rw [upd_ne hne]
        exact upd_same
    have r0 : (ss.length = 0 ∨ n = 0 ∨ ss.length < n) → ¬ (ss.length = 0 ∧ n = 0) → ∀ p2, H p2 = none → Q (.ref p2) (upd H p2 (.lst [])) := fun c0 c1 p2 hp2 => by
      rw [if_pos c0, if_neg c1] at hW
      refine q _ p2 [] (same_new (Same.refl _) hp2) hp2 upd_same ?_
      rw [hW]
      exact Objs.nil _
    refine ⟨_, rfl, _, ss.length, rfl, .inl ⟨_, hS, hlen.symm⟩, rfl, _, rfl, ?_⟩
    by_cases h1 : ss.length = 0
    · refine ifT (by rw [h1]; decide) (ifT rfl ⟨_, rfl, _, ss.length, rfl, .inl ⟨_, hS, hlen.symm⟩, rfl, _, rfl, ifT (by rw [h1]; decide) ⟨_, rfl, rfl, _, rfl, ?_⟩⟩)
      by_cases h2 : n = 0
      · exact ifT (by subst h2; decide) fun p1 hp1 => ⟨(by show 1 ≤ sizeLine; decide), fun p2 hp2 => r1 (.inl h1) ⟨h1, h2⟩ p1 hp1 p2 hp2⟩
      · exact ifF (decide_eq_false (fun z => h2 (by have := V.int.inj z; omega))) ⟨Nat.zero_le _, fun p2 hp2 => r0 (.inl h1) (fun z => h2 z.2) p2 hp2⟩
    have d1 : decide (V.int (ss.length : Nat) = V.int 0) = false := decide_eq_false (fun z => h1 (by have := V.int.inj z; omega))
    refine ifF d1 ⟨_, rfl, rfl, _, rfl, ?_⟩
    by_cases h2 : n = 0
    · exact ifT (by subst h2; decide) (ifT rfl ⟨_, rfl, _, ss.length, rfl, .inl ⟨_, hS, hlen.symm⟩, rfl, _, rfl, ifF d1 (ifF rfl ⟨Nat.zero_le _, fun p2 hp2 => r0 (.inr (.inl h2)) (fun z => h1 z.1) p2 hp2⟩)⟩)
    refine ifF (decide_eq_false (fun z => h2 (by have := V.int.inj z; omega))) ⟨_, rfl, _, rfl, _, ss.length, rfl, .inl ⟨_, hS, hlen.symm⟩, _, _, rfl, rfl, _, rfl, ?_⟩
    by_cases h3 : ss.length < n
    · exact ifT (decide_eq_true (by omega)) ⟨_, rfl, _, ss.length, rfl, .inl ⟨_, hS, hlen.symm⟩, rfl, _, rfl, ifF d1 (ifF rfl ⟨Nat.zero_le _, fun p2 hp2 => r0 (.inr (.inr h3)) (fun z => h1 z.1) p2 hp2⟩)⟩
    refine ifF (decide_eq_false (by omega)) ?_
    rw [if_neg (by omega)] at hW
    refine ⟨Nat.zero_le _, fun F hF => ?_⟩
    generalize hcs : (below (j + 1) ss n lv).map oD = cs at *
    have hcl : cs.length ≤ 1000000 := by rw [← hcs, List.length_map]; exact hfin
    have hno : ∀ o ∈ cs, ∀ zs, o ≠ .lst zs := fun o ho zs e => by
      rw [← hcs] at ho
      obtain ⟨D, _, rfl⟩ := List.mem_map.mp ho
      cases e
    have hcs2 : cs = (List.range (n + 1)).flatMap fun few => (subs few ss).flatMap fun ch => ((below j (ss.filter fun s => !ch.contains s) (2 * (n - few)) (lv + 1)).map fun D => D ++ ch.map fun s => (s, lv)).map oD := by
      rw [← hcs, hW, List.map_flatMap]
      congr 1
      funext few
      rw [List.map_flatMap]
    clear hcs hW
    have hS1 : Same H (upd H F (.lst [])) := same_new (Same.refl _) hF
    refine ⟨_, rfl, _, _, rfl, rfl, _, rfl, by omega, by omega, for_range (lo := 0) (n := n + 1) (fun i σ H2 => ∃ v4 v5 v6 v7 v8 : Option V, σ = [some (.ref a), some (.int n), some (.int lv), some (.ref F), v4, v5, v6, v7, v8] ∧
        CollO H F cs (((List.range (n + 1)).take i).flatMap fun few => (subs few ss).flatMap fun ch => ((below j (ss.filter fun s => !ch.contains s) (2 * (n - few)) (lv + 1)).map fun D => D ++ ch.map fun s => (s, lv)).map oD).length H2)
      ⟨none, none, none, none, none, rfl, CollO.start _ hF⟩ ?_ ?_⟩
    · rintro i σ H2 hi ⟨v4, v5, v6, v7, v8, rfl, c2⟩
      have s2 : Same H H2 := by obtain ⟨_, _, _, s⟩ := c2; exact s
      have hS2 := SqL.of_same s2 hS
      have hri : (List.range (n + 1))[i]? = some i := by rw [List.getElem?_range hi]
      refine ⟨_, rfl, _, rfl, a, ss, i, ?_, hS2, h7, by omega, by omega, fun H3 p3 ts3 s3 hp3 hl3 hT3 => ?_⟩
      · show [V.ref a, V.int (0 + (i : Int))] = _
        rw [Int.zero_add]
      rw [flat_succ hri]
      generalize hq1 : (((List.range (n + 1)).take i).flatMap fun few => (subs few ss).flatMap fun ch => ((below j (ss.filter fun s => !ch.contains s) (2 * (n - few)) (lv + 1)).map fun D => D ++ ch.map fun s => (s, lv)).map oD).length = q1 at *
      have hts : (ts3.map V.ref).length = (subs i ss).length := by rw [List.length_map, hT3.len, List.length_map]
      have hF2 : ∃ u, H2 F = some u := by obtain ⟨accs, e, _⟩ := c2; exact ⟨_, e⟩
      have hp3F : p3 ≠ F := fun e => by
        obtain ⟨u, hu⟩ := hF2
        rw [e, hu] at hp3
        cases hp3
      have htF : ∀ t c, H3 t = some (.tup c) → t ≠ F := fun t c e e2 => by
        obtain ⟨accs, e3, _⟩ := c2
        rw [e2, s3 _ _ e3] at e
        cases e
      refine ⟨p3, rfl, ⟨_, .of hl3⟩, for_it (walk_list (K := K) (a := p3) (xs := ts3.map V.ref)) (fun k σ H4 => ∃ v5 v6 v7 v8 : Option V, σ = [some (.ref a), some (.int n), some (.int lv), some (.ref F), some (.int (i : Nat)), v5, v6, v7, v8] ∧
          CollO H F cs (q1 + (((subs i ss).take k).flatMap fun ch => ((below j (ss.filter fun s => !ch.contains s) (2 * (n - i)) (lv + 1)).map fun D => D ++ ch.map fun s => (s, lv)).map oD).length) H4 ∧ SameB F H3 H4)
        ⟨v5, v6, v7, v8, by show _ = _; simp, c2.same s3, SameB.refl _ _⟩ (fun k σ H4 _ ⟨_, _, _, _, _, _, b4⟩ => .of (b4 _ _ hl3 hp3F)) ?_ ?_⟩
      · rintro k x σ H4 H5 hk ⟨v5, v6, v7, v8, rfl, c4, b4⟩ ⟨rfl, hx⟩
        obtain ⟨t, c, rfl, ht, hc, hct⟩ := hT3.get hx
        obtain ⟨ch, hch, rfl⟩ := map_get hc
        have hct4 := b4 _ _ hct (htF _ _ hct)
        have s4 : Same H H5 := by obtain ⟨_, _, _, s⟩ := c4; exact s
        have hS4 := SqL.of_same s4 hS
        have hsub := subs_sub i ss ch (List.mem_of_getElem? hch)
        have hchl := subs_mem i ss ch (List.mem_of_getElem? hch)
        have hchn : ch.Nodup := hnd.sublist hsub
        have hperm := left_perm hsub hnd
        have hleft := hperm.length_eq
        rw [List.length_append, hchl] at hleft
        have hF5 : ∃ accs : List V, H5 F = some (.lst accs) := by obtain ⟨accs, e, _⟩ := c4; exact ⟨_, e⟩
        refine ⟨_, rfl, a, rfl, ⟨_, hS4⟩, fun L hL => lc_it (walk_list (K := K) (a := a) (xs := enc ss)) (fun m H6 => H6 L = some (.lst (enc ((ss.take m).filter fun s => !ch.contains s))) ∧ Same H5 H6)
          ⟨upd_same, same_new (Same.refl _) hL⟩ (fun m H6 _ ⟨_, s6⟩ => SqL.of_same s6 hS4) ?_ ?_⟩
        · rintro m y H6 H7 hm2 ⟨hL6, s6⟩ ⟨rfl, hy⟩
          obtain ⟨z, hz, rfl⟩ := map_get hy
          refine ⟨rfl, _, rfl, _, rfl, t, enc ch, rfl, .inr (.inl (.inl (s6 _ _ hct4))), rfl, flat_all, _, rfl, ?_⟩
          rw [if_pos rfl, inV_enc]
          by_cases hz2 : ch.contains z = true
          · refine ifF (by rw [hz2]; rfl) ⟨?_, s6⟩
            rw [List.take_succ, hz, List.filter_append, Option.toList, List.filter_cons_of_neg (by simpa using hz2), List.filter_nil, List.append_nil]
            exact hL6
          · have hz3 : ch.contains z = false := by simpa using hz2
            refine ifT (by rw [hz3]; rfl) ⟨_, rfl, _, hL6, ?_, ?_, same_mut s6 hL⟩
            · unfold enc
              rw [List.length_map]
              have h1 := List.length_filter_le (fun s => !ch.contains s) (ss.take m)
              rw [List.length_take] at h1
              exact small_lt (by omega)
            · rw [upd_same, List.take_succ, hz, List.filter_append, Option.toList, List.filter_cons_of_pos (by rw [hz3]; rfl), List.filter_nil]
              unfold enc
              rw [List.map_append]
              rfl
        · rintro H6 ⟨hL6, s6⟩
          rw [hlen, List.take_length] at hL6
          have hll : (ss.filter fun s => !ch.contains s).length = ss.length - i := by omega
          have hnl : (ss.filter fun s => !ch.contains s).Nodup := hnd.sublist List.filter_sublist
          refine ⟨_, rfl, _, rfl, _, rfl, _, _, rfl, rfl, _, _, rfl, rfl, .inl ⟨by decide, by decide⟩, _, rfl, _, _, rfl, rfl, L, _, 2 * (n - i), lv + 1, ?_, .of hL6, hnl, by omega, by omega, by omega, by omega, by omega, fun H7 p7 ts7 s7 hp7 hl7 hO7 => ?_⟩
          · show [V.ref L, V.int (2 * ((n : Int) - (i : Int))), V.int ((lv : Int) + 1)] = _
            rw [show 2 * ((n : Int) - (i : Int)) = ((2 * (n - i) : Nat) : Int) by omega, show (lv : Int) + 1 = ((lv + 1 : Nat) : Int) by omega]
          have s57 : Same H5 H7 := fun b u e => s7 _ _ (s6 _ _ e)
          have hts7 : (ts7.map V.ref).length = (below j (ss.filter fun s => !ch.contains s) (2 * (n - i)) (lv + 1)).length := by rw [List.length_map, hO7.len, List.length_map]
          obtain ⟨accs5, hF5e⟩ := hF5
          have hp7F : p7 ≠ F := fun e => by rw [e, s6 _ _ hF5e] at hp7; cases hp7
          have hdF : ∀ t kvs, H7 t = some (.dK kvs) → t ≠ F := fun t kvs e e2 => by rw [e2, s57 _ _ hF5e] at e; cases e
          rw [flat_succ hch]
          generalize hq2 : (((subs i ss).take k).flatMap fun ch => ((below j (ss.filter fun s => !ch.contains s) (2 * (n - i)) (lv + 1)).map fun D => D ++ ch.map fun s => (s, lv)).map oD).length = q2 at *
          refine ⟨p7, rfl, ⟨_, .of hl7⟩, for_it (walk_list (K := K) (a := p7) (xs := ts7.map V.ref)) (fun l σ H8 => ∃ v7 v8 : Option V, σ = [some (.ref a), some (.int n), some (.int lv), some (.ref F), some (.int (i : Nat)), some (.ref t), some (.ref L), v7, v8] ∧
              CollO H F cs (q1 + q2 + l) H8 ∧ SameB F H7 H8)
            ⟨v7, v8, rfl, c4.same s57, SameB.refl _ _⟩ (fun l σ H8 _ ⟨_, _, _, _, b8⟩ => .of (b8 _ _ hl7 hp7F)) ?_ ?_⟩
          · rintro l x σ H8 H9 hl ⟨v7, v8, rfl, c8, b8⟩ ⟨rfl, hx⟩
            obtain ⟨td, od, rfl, htd, hod, hdt⟩ := hO7.get hx
            obtain ⟨D', hD', rfl⟩ := map_get hod
            have hdt8 := b8 _ _ hdt (hdF _ _ hdt)
            have hct8 := b8 _ _ (s57 _ _ hct4) (fun e => htF _ _ hct e)
            have hpD := below_perm j _ _ _ hnl D' (List.mem_of_getElem? hD')
            have hkD : (D'.map Prod.fst).Nodup := hpD.nodup_iff.mpr hnl
            have hpAll : ((D' ++ ch.map fun s => (s, lv)).map Prod.fst).Perm ss := by
              rw [List.map_append, pair_fst]
              exact (hpD.append_right ch).trans hperm
            have hkA : ((D' ++ ch.map fun s => (s, lv)).map Prod.fst).Nodup := hpAll.nodup_iff.mpr hnd
            have hDl : D'.length ≤ 7 := by
              have h1 := hpD.length_eq
              rw [List.length_map] at h1
              omega
            have m1 : mergeK [] (dkv D') = dkv D' := by
              have := merge_app (dkv D') [] (by rw [List.nil_append]; exact dkv_nd hkD)
              rw [List.nil_append] at this
              exact this
            have hpos : cs[q1 + q2 + l]? = some (oD (D' ++ ch.map fun s => (s, lv))) := by
              have g2 : (((below j (ss.filter fun s => !ch.contains s) (2 * (n - i)) (lv + 1)).map fun D => D ++ ch.map fun s => (s, lv)).map oD)[l]? = some (oD (D' ++ ch.map fun s => (s, lv))) := by
                rw [List.getElem?_map, List.getElem?_map, hD']
                rfl
              have f2 := flat_at (g := fun ch => ((below j (ss.filter fun s => !ch.contains s) (2 * (n - i)) (lv + 1)).map fun D => D ++ ch.map fun s => (s, lv)).map oD) hch (x := l) (List.getElem?_eq_some_iff.mp g2).1
              rw [hq2] at f2
              have f3 := f2.trans g2
              have f1 := flat_at (g := fun few => (subs few ss).flatMap fun ch => ((below j (ss.filter fun s => !ch.contains s) (2 * (n - few)) (lv + 1)).map fun D => D ++ ch.map fun s => (s, lv)).map oD) hri (x := q2 + l) (List.getElem?_eq_some_iff.mp f3).1
              rw [hq1, ← hcs2] at f1
              rw [Nat.add_assoc]
              exact f1.trans f3
            have c8F : ∃ accs : List V, H9 F = some (.lst accs) := by obtain ⟨accs, e, _⟩ := c8; exact ⟨_, e⟩
            obtain ⟨accs8, hF8⟩ := c8F
            refine ⟨_, rfl, .inl ⟨rfl, _, .of hF8⟩, fun Dn hDn => ⟨_, rfl, td, dkv D', rfl, upd_same, by rw [upd_ne (ne_of_none hdt8 hDn)]; exact hdt8, ne_of_none hdt8 hDn, by unfold dkv; rw [List.length_map]; omega, ?_⟩⟩
            rw [m1]
            have sm : Same H9 (upd (upd H9 Dn (.dK [])) Dn (.dK (dkv D'))) := same_mut (same_new (Same.refl _) hDn) hDn
            have hDm : (upd (upd H9 Dn (.dK [])) Dn (.dK (dkv D'))) Dn = some (.dK (dkv D')) := upd_same
            generalize upd (upd H9 Dn (.dK [])) Dn (.dK (dkv D')) = Hm at *
            have hctm := sm _ _ hct8
            refine ⟨_, rfl, t, rfl, ⟨_, .inl (.inl hctm)⟩, fun D2 hD2 => dc_tup (K := K) (a := t) (xs := enc ch) (fun m H10 => H10 D2 = some (.dK (dkv ((ch.take m).map fun s => (s, lv)))) ∧ Same Hm H10)
              ⟨upd_same, same_new (Same.refl _) hD2⟩ (fun m H10 _ ⟨_, s10⟩ => .inl (.inl (s10 _ _ hctm))) ?_ ?_⟩
            · rintro m y H10 hy ⟨hD10, s10⟩
              obtain ⟨z, hz, rfl⟩ := map_get hy
              have hzm : z ∉ ch.take m := fun hmem => by
                have h1 : (ch.take (m + 1)).Nodup := hchn.sublist (List.take_sublist _ _)
                rw [List.take_succ, hz, List.nodup_append] at h1
                exact h1.2.2 z hmem z (by simp) rfl
              refine ⟨rfl, yes_ ⟨_, rfl, _, rfl, _, Sum.inl (z : Int), rfl, hD10, ?_, ?_, same_mut s10 hD2⟩⟩
              · unfold dkv
                rw [List.length_map, List.length_map, List.length_take]
                exact small_lt (by omega)
              · rw [upd_same, putK_new]
                · rw [List.take_succ, hz, List.map_append, dkv_app]
                  rfl
                · refine valV_out _ _ fun hk => hzm ?_
                  rw [dkv_keys] at hk
                  obtain ⟨p, hp, e⟩ := List.mem_map.mp hk
                  obtain ⟨s', hs', rfl⟩ := List.mem_map.mp hp
                  have e2 := Sum.inl.inj e
                  have e3 : s' = z := by
                    have : ((s', lv) : Nat × Nat).1 = s' := rfl
                    omega
                  rw [← e3]
                  exact hs'
            · rintro H10 ⟨hD10, s10⟩
              rw [show (enc ch).length = ch.length from List.length_map _, List.take_length] at hD10
              have hDn10 := s10 _ _ hDm
              have hne : D2 ≠ Dn := fun e => by rw [e, hDm] at hD2; cases hD2
              have m2 : mergeK (dkv D') (dkv (ch.map fun s => (s, lv))) = dkv (D' ++ ch.map fun s => (s, lv)) := by
                rw [dkv_app]
                exact merge_app _ _ (by rw [← dkv_app]; exact dkv_nd hkA)
              refine ⟨D2, _, rfl, hDn10, hD10, hne, by unfold dkv; rw [List.length_map, List.length_map]; omega, ?_⟩
              rw [m2]
              have s910 : Same H9 (upd H10 Dn (.dK (dkv (D' ++ ch.map fun s => (s, lv))))) := same_mut (fun b u e => s10 _ _ (sm _ _ e)) hDn
              obtain ⟨acc, e1, e2, c11⟩ := (c8.same s910).step hF (u := Dn) (c := oD (D' ++ ch.map fun s => (s, lv))) upd_same hpos hcl hno
              exact ⟨F, acc, _, rfl, rfl, e1, e2, _, _, rfl, c11, (b8.trans (SameB.of s910)).put⟩
          · rintro σ H8 ⟨v7, v8, rfl, c8, b8⟩
            rw [hts7] at c8
            refine ⟨_, _, _, _, rfl, ?_, (SameB.trans b4 (SameB.of s57)).trans b8⟩
            rw [List.length_map, List.length_map, ← Nat.add_assoc]
            exact c8
      · rintro σ H4 ⟨v5, v6, v7, v8, rfl, c4, b4⟩
        rw [hts, List.take_length] at c4
        exact ⟨_, _, _, _, _, rfl, c4⟩
    · rintro σ H2 ⟨v4, v5, v6, v7, v8, rfl, c2⟩
      have e : (List.range (n + 1)).take (n + 1) = List.range (n + 1) := List.take_of_length_le (by rw [List.length_range]; exact Nat.le_refl _)
      rw [e, ← hcs2] at c2
      obtain ⟨accs, e1, e2, e3⟩ := c2
      rw [List.take_length] at e2
      exact ⟨_, rfl, q H2 F accs e3 hF e1 e2⟩
end
end K38
end
section
/-! ## K38N -/
/-! sorted of a list of lists; sorted of a dict whose keys are tuples. -/
namespace K38
open PySem PySem.Spec PyProof.Rows L2
abbrev Bx := Addr × List Int
def leB (p q : Bx) : Bool := decide (p.2 ≤ q.2)
def encL (b : Bx) : PyData := .list (b.2.map PyData.int)
theorem dp_ints {K : PySem.W.Frag} {H : Hp} : ∀ ns : List Int, DpAll K H (ns.map V.int) (ns.map PyData.int)
  | [] => .nil
  | n :: ns => .cons (.int n) (dp_ints ns)
theorem each_refs {h : Heap} {enc : Bx → PyData} : ∀ {bs : List Bx}, (∀ b ∈ bs, ∃ as, Reads h (.ref b.1) (enc b) as) →
    PySem.W.EachIs (fun v b => ∃ as, Reads h v (enc b) as) (bs.map fun b => Value.ref b.1) bs ∧ PySem.W.EachIs (fun (v : Value) (b : Bx) => v = .ref b.1) (bs.map fun b => Value.ref b.1) bs
  | [], _ => ⟨.nil, .nil⟩
  | b :: bs, h => by
    obtain ⟨h1, h2⟩ := each_refs (bs := bs) fun c hc => h c (List.mem_cons_of_mem _ hc)
    exact ⟨.cons (h b (List.mem_cons_self ..)) h1, .cons rfl h2⟩
theorem each_out : ∀ {out : List Value} {bs : List Bx}, PySem.W.EachIs (fun (v : Value) (b : Bx) => v = .ref b.1) out bs → out = bs.map fun b => Value.ref b.1
  | _, _, .nil => rfl
  | _, _, .cons h t => by rw [h, each_out t]; rfl
theorem vals_refs : ∀ bs : List Bx, Vals (bs.map fun b => V.ref b.1) (bs.map fun b => Value.ref b.1)
  | [] => .nil
  | b :: bs => .cons rfl (vals_refs bs)
theorem vals_refs_eq : ∀ {bs : List Bx} {its : List Value}, Vals (bs.map fun b => V.ref b.1) its → its = bs.map fun b => Value.ref b.1
  | [], _, .nil => rfl
  | b :: bs, _, .cons r t => by
    cases r
    rw [vals_refs_eq t]
    rfl
def rSortLL (K : PySem.W.Frag) : List V → Hp → VK → Prop := fun vs H Q => ∃ (a : Addr) (bs : List Bx), vs = [V.ref a] ∧ SqL K H a (bs.map fun b => V.ref b.1) ∧ (∀ b ∈ bs, SqL K H b.1 (b.2.map V.int)) ∧
  ∀ p, H p = none → Q (.ref p) (upd H p (.lst ((bs.mergeSort leB).map fun b => V.ref b.1)))
section
variable {X : Cx}
theorem cr_sortLL (hu : X.A.units + 8 < cLine) : CallR X (.builtin "sorted") (rSortLL X.K) := by
  intro pins s σ H vs us Q I r h
  obtain ⟨a, bs, rfl, hs, hx, q⟩ := h
  obtain ⟨its, rv, hl, hz⟩ := I.list hs
  rw [Vals.ref1 r]
  have eits := vals_refs_eq rv
  subst eits
  have hz2 : bs.length ≤ sizeLine := by rwa [List.length_map] at hz
  obtain ⟨e1, e2⟩ := each_refs (h := s.heap) (enc := encL) (bs := bs) fun b hb => Dp.reads I _ (V.ref b.1) _ (.lst (hx b hb) (dp_ints b.2)) rfl
  have hle : (PySem.W.dataLe false encL) = leB := PySem.W.dataLe_rows (fun b : Bx => b.2)
  refine PySem.W.sorted_data (bs := bs) (enc := encL) hl.isList e2 e1 (PySem.W.AllAlike.of fun b b' => ?_) (PySem.W.Sortable.others fun b => ⟨fun e => (nomatch e), fun xs e => (nomatch e)⟩) hz2 (fun b _ => ?_) fun out ho eo => ?_
  · show PySem.W.alike (.list _) (.list _) = true
    simp only [PySem.W.alike]
    exact PySem.W.alike_ints _ _
  · have : (encL b).depth = 1 := by
      show (PyData.list (b.2.map PyData.int)).depth = 1
      simp only [PyData.depth, PySem.W.depth_ints]
    rw [this]
    omega
  · rw [hle] at eo
    have eo2 := each_out eo
    subst eo2
    obtain ⟨c, hc⟩ := PyProof.Rows.sortedAll_at s.heap (bs.map fun b => Value.ref b.1) (((bs.mergeSort leB).map fun b => Value.ref b.1).toArray)
    refine ⟨.ref (s.heap.objs.size + 1), _, I.laid (t' := s.toks) (o := .lst ((bs.mergeSort leB).map fun b => V.ref b.1)) (fun _ _ => PyProof.Rows.sortedAll_old) (Nat.le_succ _) ?_, rfl, q _ (I.hok.fresh (Nat.le_succ _))⟩
    refine ⟨?_, _, c, vals_refs _, hc⟩
    rw [List.length_map, List.length_mergeSort]
    exact hz2
end
/-! ### a dict with tuple keys -/
abbrev Bt := Addr × Int × List Int
def keyB (b : Bt) : List Int := b.2.1 :: b.2.2
def leT (p q : Bt) : Bool := decide (keyB p ≤ keyB q)
def encT (b : Bt) : PyData := .tuple ((keyB b).map PyData.int)
theorem dataLe_tups : PySem.W.dataLe false encT = leT := by
  funext p q
  show (!PySem.W.dataLt (.tuple ((keyB q).map .int)) (.tuple ((keyB p).map .int))) = _
  rw [PySem.W.dataLt_tuple]
  show (!PySem.W.rowLt ((keyB q).map .int) ((keyB p).map .int)) = _
  rw [PySem.W.dataLt_ints]
  unfold leT
  by_cases h : keyB q < keyB p
  · have h' : ¬ keyB p ≤ keyB q := fun r => List.not_lt.mpr r h
    simp [h, h']
  · have h' : keyB p ≤ keyB q := List.not_lt.mp h
    simp [h, h']
theorem eachT_refs {h : Heap} {l : Addr} : ∀ {bs : List Bt}, (∀ b ∈ bs, ∃ as, Reads h (.ref b.1) (encT b) as ∧ l ∉ as) →
    PySem.W.EachIs (fun v b => ∃ as, Reads h v (encT b) as ∧ l ∉ as) (bs.map fun b => Value.ref b.1) bs ∧ PySem.W.EachIs (fun (v : Value) (b : Bt) => v = .ref b.1) (bs.map fun b => Value.ref b.1) bs
  | [], _ => ⟨.nil, .nil⟩
  | b :: bs, h => by
    obtain ⟨h1, h2⟩ := eachT_refs (bs := bs) fun c hc => h c (List.mem_cons_of_mem _ hc)
    exact ⟨.cons (h b (List.mem_cons_self ..)) h1, .cons rfl h2⟩
theorem eachT_out : ∀ {out : List Value} {bs : List Bt}, PySem.W.EachIs (fun (v : Value) (b : Bt) => v = .ref b.1) out bs → out = bs.map fun b => Value.ref b.1
  | _, _, .nil => rfl
  | _, _, .cons h t => by rw [h, eachT_out t]; rfl
theorem valsT_refs : ∀ bs : List Bt, Vals (bs.map fun b => V.ref b.1) (bs.map fun b => Value.ref b.1)
  | [] => .nil
  | b :: bs => .cons rfl (valsT_refs bs)
section
variable {prog : Program} {w : World}
theorem kdl_raw {d : Addr} {o : Obj} {es : Array DictEntry} {ep : Nat} (lo : (d == sysModules) = false) (hc : o.ExactDict) (hd : o.data = .dict es ep) :
    PySem.W.KdlSrc prog w "dict" d d es.size (fun i v => ∃ e, es[i]? = some e ∧ v = e.key) (fun h => h.get? d = some o) where
  type := fun s hm => ⟨o, hm, hc.1⟩
  there := fun h hm => ⟨Heap.lt_size hm, Heap.lt_size hm⟩
  keep := fun h h' hm hk => hk d (.inl rfl) o hm
  notList := by decide
  notTuple := by decide
  hint := fun A E s Q hm hq => PySem.W.kdl_hint_dict (r := d) ⟨o, hm, hc.1⟩ hq
  iter := fun A s hh hm => ⟨_, fun i h => h.IsKeyIter s.heap.objs.size d i es.size ep ∧ h.get? d = some o, (fun E Q hq => iter_keys lo hm hc hd hq), {
    sub := fun b hb => by simp at hb; simp [hb]
    frame := fun i h h' st hk => ⟨st.1.at fun o e => hk s.heap.objs.size (by simp) o e, hk d (by simp) o st.2⟩
    item := fun i s1 Q E hi st hQ => by
      refine next_key_item st.1 st.2 hd rfl (Array.getElem?_eq_getElem hi) fun h' hit' hs' => ?_
      exact hQ _ h' s1.toks ⟨_, Array.getElem?_eq_getElem hi, rfl⟩ ⟨hit', (hs'.2 d (Nat.ne_of_lt (Heap.lt_size hm))).trans st.2⟩ fun b o hb e => (hs'.2 b (fun h => hb (by simp [h]))).trans e
    done := fun s1 Q E st hQ => next_key_end hh st.1 st.2 hd rfl (Nat.le_refl _) fun h' he' => hQ h' s1.toks fun b o hb e => he' b o (fun h => hb (by simp [h])) e
    self := fun i s1 Q E st hQ => wpAny_pyIter_keyiter st.1 hQ }, ⟨⟨_, Heap.get?_push_size _ rfl, rfl, rfl⟩, Heap.get?_push_of_some _ hm⟩⟩
end
theorem reads_ints {h : Heap} : ∀ {ns : List Int} {its : List Value}, Vals (ns.map V.int) its → ReadsAll h its (ns.map PyData.int) []
  | [], _, .nil => .nil
  | n :: ns, _, .cons r t => by
    obtain ⟨tk, rfl⟩ := r
    exact ReadsAll.cons (as := []) (bs := []) (.int n tk) (reads_ints t)
def rSortDT : List V → Hp → VK → Prop := fun vs H Q => ∃ (a : Addr) (kvs : List (List Key × V)) (ks : List (Int × List Int)), vs = [V.ref a] ∧ H a = some (.dT kvs) ∧ kvs.map Prod.fst = ks.map (fun k => (k.1 :: k.2).map Sum.inl) ∧
  ∀ (bs : List Bt) p, bs.map Prod.snd = ks → (∀ b ∈ bs, H b.1 = some (.tup ((keyB b).map V.int))) → H p = none → Q (.ref p) (upd H p (.lst ((bs.mergeSort leT).map fun b => V.ref b.1)))
theorem kt_keys {H : Hp} : ∀ {kvs : List (List Key × V)} {xs : List (List Key × Addr × Value)} {ks : List (Int × List Int)}, KT H kvs xs → kvs.map Prod.fst = ks.map (fun k => (k.1 :: k.2).map Sum.inl) →
    ∃ bs : List Bt, bs.map Prod.snd = ks ∧ (∀ b ∈ bs, H b.1 = some (.tup ((keyB b).map V.int))) ∧ xs.map (fun x => Value.ref x.2.1) = bs.map fun b => Value.ref b.1
  | _, _, [], .nil, _ => ⟨[], rfl, fun _ h => (by cases h), rfl⟩
  | _, _, k :: ks, .nil, h => by simp at h
  | _, _, [], .cons _ _, h => by simp at h
  | p :: kvs, x :: xs, k :: ks, .cons h1 t, h => by
    rw [List.map_cons, List.map_cons] at h
    obtain ⟨bs, e1, e2, e3⟩ := kt_keys t (List.cons.inj h).2
    have ek := (List.cons.inj h).1
    refine ⟨(x.2.1, k) :: bs, by rw [List.map_cons, e1], fun b hb => ?_, by rw [List.map_cons, List.map_cons, e3]⟩
    rcases List.mem_cons.mp hb with rfl | hb
    · have := h1.2.1
      rw [ek] at this
      rw [show (keyB (x.2.1, k)).map V.int = ((k.1 :: k.2).map (Sum.inl : Int → Key)).map kV by rw [List.map_map]; rfl]
      exact this
    · exact e2 b hb
section
variable {X : Cx}
theorem cr_sortDT (hcalm : X.calm = true) (hu : X.A.units + 8 < cLine) : CallR X (.builtin "sorted") rSortDT := by
  intro pins s σ H vs us Q I r h
  obtain ⟨a, kvs, ks, rfl, ha, hks, q⟩ := h
  rw [Vals.ref1 r]
  obtain ⟨z, lo, xs, rel, o, es, ep, ho, hx, hdat, hes, his, hn⟩ := dt_of I.hok ha
  obtain ⟨bs, eb1, eb2, eb3⟩ := kt_keys rel hks
  have hbl : bs.length = es.size := by
    have e1 := congrArg List.length eb3
    rw [List.length_map, List.length_map] at e1
    rw [size_of_entries hes, e1]
  have hz : es.size ≤ sizeLine := by
    rw [size_of_entries hes, ← Paired.length rel]
    exact z
  refine Calls.call_function_entry PyProof.Rows.kind_sorted PyProof.Rows.plain_sorted PyProof.Rows.entry_sorted (PyProof.Rows.args_sorted1 _) ?_
  unfold Builtin.«sorted»
  refine wpAny_bind (m := checkCount "sorted" 1 1 _) (wpAny_pure ?_)
  refine wpAny_bind (PySem.W.kdu_collect (A := X.A.in1) (kdl_raw (prog := X.prog) (w := X.w) lo hx hdat) (I.ok.hd hcalm) ho hz fun h' tk acc hk hacc => ?_)
  have eacc : acc.toList = bs.map fun b => Value.ref b.1 := by
    refine List.ext_getElem? fun i => ?_
    by_cases hi : i < es.size
    · have h1 : i < acc.size := by rw [hacc.1]; exact hi
      obtain ⟨e, he, hv⟩ := hacc.2 i acc[i] (Array.getElem?_eq_getElem h1)
      rw [Array.getElem?_toList, Array.getElem?_eq_getElem h1, hv, ← eb3]
      have h2 : es.toList[i]? = some e := by rw [Array.getElem?_toList]; exact he
      rw [hes] at h2
      obtain ⟨x, hx2, rfl⟩ := map_get h2
      rw [List.getElem?_map, hx2]
      rfl
    · rw [List.getElem?_eq_none (by rw [Array.length_toList, hacc.1]; omega), List.getElem?_eq_none (by rw [List.length_map]; omega)]
  have I1 : Inv X pins σ H { s with heap := h', toks := tk } := I.kept hk
  have hal : acc.toList.length ≤ sizeLine := by rw [Array.length_toList, hacc.1]; exact hz
  refine wpAny_bind (wpAny_newList ?_ hal)
  have hoL : (h'.push (seqObj "list" acc.toList.toArray 0)).get? h'.objs.size = some (seqObj "list" acc.toList.toArray 0) := Heap.get?_push_size _ rfl
  show wpAny _ _ _ _ _ { s with heap := h'.push (seqObj "list" acc.toList.toArray 0), toks := tk }
  rw [eacc] at hoL ⊢
  have hrd : ∀ b ∈ bs, ∃ as, Reads (h'.push (seqObj "list" (bs.map fun b => Value.ref b.1).toArray 0)) (.ref b.1) (encT b) as ∧ h'.objs.size ∉ as := fun b hb => by
    obtain ⟨its, rv, ⟨ob, g1, g2, n, g3⟩, _⟩ := I1.tuple (.inl (.inl (eb2 b hb)))
    exact ⟨[], .tuple (Heap.get?_push_of_some _ g1) g2 g3 (by rw [List.toList_toArray]; exact reads_ints rv), by simp⟩
  obtain ⟨r1, r2⟩ := eachT_refs hrd
  refine wpAny_bind (wpAny_holding (PySem.W.list_sort_data (A := X.A.in1) (s := { s with heap := h'.push (seqObj "list" (bs.map fun b => Value.ref b.1).toArray 0), toks := tk }) (bs := bs) (enc := encT) hoL r2 r1 (PySem.W.AllAlike.of fun b b' => ?_) (PySem.W.Sortable.tuples fun b => ⟨_, _, rfl⟩) (by rw [hbl]; exact hz) (fun b _ => ?_) fun out hout eo => ?_))
  · show PySem.W.alike (.tuple _) (.tuple _) = true
    simp only [PySem.W.alike]
    exact PySem.W.alike_ints _ _
  · have : (encT b).depth = 1 := by
      show (PyData.tuple ((keyB b).map PyData.int)).depth = 1
      simp only [PyData.depth, PySem.W.depth_ints]
    rw [this]
    show X.A.units + 1 + 1 + 1 < cLine
    omega
  · rw [dataLe_tups] at eo
    have eo2 := eachT_out eo
    subst eo2
    obtain ⟨e', he'⟩ := PyProof.Rows.sortedHeap_at (vs := bs.map fun b => Value.ref b.1) (out := ((bs.mergeSort leT).map fun b => Value.ref b.1).toArray) hoL
    refine wpAny_pure ⟨_, rfl, .ref h'.objs.size, upd H h'.objs.size (.lst ((bs.mergeSort leT).map fun b => V.ref b.1)), I1.laid (t' := tk) (fun b u e => ?_) (Nat.le_refl _)
      (show ObjOk X.prog X.w _ _ _ (.lst ((bs.mergeSort leT).map fun b => V.ref b.1)) from ⟨?_, _, e', valsT_refs _, he'⟩), rfl, q bs _ eb1 eb2 (I1.hok.fresh (Nat.le_refl _))⟩
    · have hb : b < h'.objs.size := Heap.lt_size e
      rw [PyProof.Rows.sortedHeap_old (Nat.ne_of_lt hb) (by rw [size_push']; exact Nat.lt_succ_of_lt hb)]
      exact Heap.get?_push_of_some _ e
    · rw [List.length_map, List.length_mergeSort, hbl]
      exact hz
end
end K38
end
section
/-! ## K38O -/
/-! all_codes: mirror, and what it lists. -/
namespace K38
open PySem PySem.Spec PyProof.Rows L2
def lk (D : List (Nat × Nat)) (s : Nat) : Nat := match D.find? fun p => p.1 == s with
  | some p => p.2
  | none => 0
def rowOf (n : Nat) (D : List (Nat × Nat)) : List Nat := (List.range n).map (lk D)
def rows (n : Nat) : List (List Nat) := (below 13 (List.range n) 2 1).map (rowOf n)
/-- a list of lengths that fills -/
def CC (m : Nat) (r : List Nat) : Prop := r.length = m ∧ (∀ l ∈ r, 1 ≤ l ∧ l ≤ 25) ∧ (r.map fun l => 2 ^ (25 - l)).sum = 2 ^ 25
theorem lk_mem : ∀ {D : List (Nat × Nat)} {p : Nat × Nat}, (D.map Prod.fst).Nodup → p ∈ D → lk D p.1 = p.2
  | q :: D, p, h, hp => by
    rw [List.map_cons, List.nodup_cons] at h
    unfold lk
    rw [List.find?_cons]
    rcases List.mem_cons.mp hp with e | hp
    · rw [e, show (q.1 == q.1) = true by simp]
    · have hne : (q.1 == p.1) = false := by
        rw [beq_eq_false_iff_ne]
        exact fun e => h.1 (e ▸ List.mem_map.mpr ⟨p, hp, rfl⟩)
      rw [hne]
      exact lk_mem h.2 hp
theorem lk_app_l {D C : List (Nat × Nat)} {s : Nat} (h : s ∈ D.map Prod.fst) : lk (D ++ C) s = lk D s := by
  unfold lk
  rw [List.find?_append]
  cases e : D.find? fun p => p.1 == s with
  | some p => rfl
  | none =>
    obtain ⟨p, hp, rfl⟩ := List.mem_map.mp h
    have := List.find?_eq_none.mp e p hp
    simp at this
theorem lk_app_r {D C : List (Nat × Nat)} {s : Nat} (h : s ∉ D.map Prod.fst) : lk (D ++ C) s = lk C s := by
  unfold lk
  rw [List.find?_append]
  have e : (D.find? fun p => p.1 == s) = none := List.find?_eq_none.mpr fun p hp e => h (List.mem_map.mpr ⟨p, hp, by simpa using e⟩)
  rw [e]
  rfl
theorem lk_const {ch : List Nat} {lv s : Nat} (h : s ∈ ch) : lk (ch.map fun s => (s, lv)) s = lv := by
  unfold lk
  cases e : (ch.map fun s => (s, lv)).find? fun p => p.1 == s with
  | some p =>
    obtain ⟨s', _, rfl⟩ := List.mem_map.mp (List.mem_of_find?_eq_some e)
    rfl
  | none =>
    have := List.find?_eq_none.mp e (s, lv) (List.mem_map.mpr ⟨s, h, rfl⟩)
    simp at this
theorem sum_const (c : Nat) : ∀ l : List Nat, (l.map fun _ => c).sum = l.length * c
  | [] => by simp
  | x :: l => by rw [List.map_cons, List.sum_cons, sum_const c l, List.length_cons, Nat.succ_mul, Nat.add_comm]
theorem pow_up {lv : Nat} (h : lv + 1 ≤ 25) : 2 ^ (25 - lv) = 2 * 2 ^ (25 - (lv + 1)) := by
  rw [show 25 - lv = (25 - (lv + 1)) + 1 by omega, Nat.pow_succ, Nat.mul_comm]
theorem below_w : ∀ (f : Nat) (ss : List Nat) (n lv : Nat), lv + f ≤ 26 → ∀ D ∈ below f ss n lv, (∀ p ∈ D, lv ≤ p.2 ∧ p.2 ≤ 25) ∧ (D.map fun p => 2 ^ (25 - p.2)).sum = n * 2 ^ (25 - lv)
  | 0, _, _, _, _, D, h => by cases h
  | f + 1, ss, n, lv, hf, D, h => by
    unfold below at h
    split at h
    · split at h
      · next h2 =>
        have := List.mem_singleton.mp h
        subst this
        rw [h2.2]
        exact ⟨fun p hp => (by cases hp), by simp⟩
      · cases h
    · obtain ⟨few, h0, h1⟩ := List.mem_flatMap.mp h
      obtain ⟨ch, h2, h3⟩ := List.mem_flatMap.mp h1
      obtain ⟨D', h4, rfl⟩ := List.mem_map.mp h3
      rw [List.mem_range] at h0
      have hl := subs_mem few ss ch h2
      have hf0 : f ≠ 0 := fun e => by
        subst e
        cases h4
      obtain ⟨g1, g2⟩ := below_w f _ _ (lv + 1) (by omega) D' h4
      refine ⟨fun p hp => ?_, ?_⟩
      · rcases List.mem_append.mp hp with hp | hp
        · have := g1 p hp
          omega
        · obtain ⟨s, _, rfl⟩ := List.mem_map.mp hp
          exact ⟨Nat.le_refl _, by show lv ≤ 25; omega⟩
      · rw [List.map_append, List.sum_append, g2, List.map_map]
        have e : (ch.map ((fun p : Nat × Nat => 2 ^ (25 - p.2)) ∘ fun s => (s, lv))).sum = ch.length * 2 ^ (25 - lv) := sum_const (2 ^ (25 - lv)) ch
        rw [e, hl, pow_up (lv := lv) (by omega), show 2 * (n - few) * 2 ^ (25 - (lv + 1)) = (n - few) * (2 * 2 ^ (25 - (lv + 1))) by rw [Nat.mul_comm 2 (n - few), Nat.mul_assoc], ← Nat.add_mul]
        congr 1
        omega
theorem rows_CC {n : Nat} {r : List Nat} (h : r ∈ rows n) : CC n r := by
  obtain ⟨D, hD, rfl⟩ := List.mem_map.mp h
  obtain ⟨g1, g2⟩ := below_w 13 _ _ 1 (by decide) D hD
  have hp := below_perm 13 _ _ _ List.nodup_range D hD
  have hk : (D.map Prod.fst).Nodup := hp.nodup_iff.mpr List.nodup_range
  unfold rowOf
  have hmem : ∀ s ∈ List.range n, ∃ p ∈ D, p.1 = s := fun s hs => List.mem_map.mp (hp.mem_iff.mpr hs)
  refine ⟨by rw [List.length_map, List.length_range], fun l hl => ?_, ?_⟩
  · obtain ⟨s, hs, rfl⟩ := List.mem_map.mp hl
    obtain ⟨p, hpD, rfl⟩ := hmem s hs
    rw [lk_mem hk hpD]
    exact g1 p hpD
  · rw [List.map_map]
    have h2 := (hp.map ((fun l => 2 ^ (25 - l)) ∘ lk D)).sum_nat
    rw [← h2, List.map_map]
    have e : D.map (((fun l => 2 ^ (25 - l)) ∘ lk D) ∘ Prod.fst) = D.map fun p => 2 ^ (25 - p.2) := List.map_congr_left fun p hpD => by
      show 2 ^ (25 - lk D p.1) = _
      rw [lk_mem hk hpD]
    rw [e, g2]
theorem CC_full {n : Nat} {r : List Nat} (h : CC n r) (h2 : 2 ≤ n) (h7 : n ≤ 26) : Full r := ⟨by rw [h.1]; exact h2, by rw [h.1]; exact h7, h.2.1, h.2.2⟩
/-! ### all of them -/
theorem subs_all : ∀ {ch ss : List Nat}, ch.Sublist ss → ch ∈ subs ch.length ss := by
  intro ch
  induction ch with
  | nil => intro ss _; exact List.mem_singleton.mpr rfl
  | cons a ch ih =>
    intro ss h
    obtain ⟨i, hi, e, h2⟩ : ∃ i, ∃ hi : i < ss.length, ss[i] = a ∧ ch.Sublist (ss.drop (i + 1)) := by
      clear ih
      induction ss with
      | nil => cases h
      | cons b ss ih2 =>
        cases h with
        | cons _ h =>
          obtain ⟨i, hi, e, h2⟩ := ih2 h
          exact ⟨i + 1, by simpa using hi, by simpa using e, by simpa using h2⟩
        | cons_cons _ h => exact ⟨0, by simp, rfl, by simpa using h⟩
    show a :: ch ∈ subs (ch.length + 1) ss
    unfold subs
    have hl := h2.length_le
    rw [List.length_drop] at hl
    refine List.mem_flatMap.mpr ⟨i, List.mem_range.mpr (by omega), List.mem_map.mpr ⟨ch, ih h2, ?_⟩⟩
    rw [List.getD_eq_getElem?_getD, List.getElem?_eq_getElem hi, e]
    rfl
theorem sum_le_len (c : Nat) : ∀ (l : List Nat) (h : Nat → Nat), (∀ x ∈ l, h x ≤ c) → (l.map h).sum ≤ l.length * c
  | [], _, _ => by simp
  | x :: l, h, hh => by
    rw [List.map_cons, List.sum_cons, List.length_cons, Nat.succ_mul]
    have h1 := hh x (List.mem_cons_self ..)
    have h2 := sum_le_len c l h fun y hy => hh y (List.mem_cons_of_mem _ hy)
    omega
theorem sum_split (p : Nat → Bool) (h : Nat → Nat) : ∀ l : List Nat, (l.map h).sum = ((l.filter p).map h).sum + ((l.filter fun x => !p x).map h).sum
  | [] => rfl
  | x :: l => by
    rw [List.map_cons, List.sum_cons, sum_split p h l]
    cases e : p x with
    | true =>
      rw [List.filter_cons_of_pos e, List.filter_cons_of_neg (by simp [e]), List.map_cons, List.sum_cons]
      omega
    | false =>
      rw [List.filter_cons_of_neg (by simp [e]), List.filter_cons_of_pos (by simp [e]), List.map_cons, List.sum_cons]
      omega
theorem below_all (g : Nat → Nat) : ∀ (f : Nat) (ss : List Nat) (n lv : Nat), ss.Nodup → lv ≤ 25 ∨ ss = [] → (∀ s ∈ ss, lv ≤ g s ∧ g s ≤ 25) → (ss.map fun s => 2 ^ (25 - g s)).sum = n * 2 ^ (25 - lv) → 2 * ss.length < f + n → 0 < f →
    ∃ D ∈ below f ss n lv, ∀ s ∈ ss, lk D s = g s
  | 0, _, _, _, _, _, _, _, _, h => absurd h (Nat.lt_irrefl 0)
  | f + 1, ss, n, lv, hn, hlv, hg, hs, hm, _ => by
    have hpos : 0 < 2 ^ (25 - lv) := Nat.two_pow_pos _
    by_cases h0 : ss = []
    · subst h0
      have hs0 : n * 2 ^ (25 - lv) = 0 := hs.symm
      have hn0 : n = 0 := by
        rcases Nat.mul_eq_zero.mp hs0 with h | h
        · exact h
        · omega
      subst hn0
      refine ⟨[], ?_, fun s hs => by cases hs⟩
      unfold below
      simp
    have hlv2 : lv ≤ 25 := hlv.resolve_right h0
    have hlen : 0 < ss.length := List.length_pos_iff.mpr h0
    have hle : n ≤ ss.length := by
      have h1 := sum_le_len (2 ^ (25 - lv)) ss (fun s => 2 ^ (25 - g s)) fun s hs => Nat.pow_le_pow_right (by decide) (by have := hg s hs; omega)
      rw [hs] at h1
      exact Nat.le_of_mul_le_mul_right h1 hpos
    have hsp := sum_split (fun s => g s == lv) (fun s => 2 ^ (25 - g s)) ss
    have hch : ((ss.filter fun s => g s == lv).map fun s => 2 ^ (25 - g s)).sum = (ss.filter fun s => g s == lv).length * 2 ^ (25 - lv) := by
      rw [← sum_const]
      congr 1
      refine List.map_congr_left fun s hs => ?_
      have := (List.mem_filter.mp hs).2
      rw [beq_iff_eq.mp this]
    rw [hs, hch] at hsp
    have hsub : (ss.filter fun s => g s == lv).Sublist ss := List.filter_sublist
    have hfew : (ss.filter fun s => g s == lv).length ≤ n := by
      have : (ss.filter fun s => g s == lv).length * 2 ^ (25 - lv) ≤ n * 2 ^ (25 - lv) := by omega
      exact Nat.le_of_mul_le_mul_right this hpos
    have hleft : (ss.filter fun s => !(ss.filter fun s => g s == lv).contains s) = ss.filter fun s => !(g s == lv) := by
      refine List.filter_congr fun s hs => ?_
      congr 1
      rw [Bool.eq_iff_iff, List.contains_iff_mem, List.mem_filter]
      exact ⟨fun h => h.2, fun h => ⟨hs, h⟩⟩
    have hn1 : 0 < n := by
      rcases Nat.eq_zero_or_pos n with h | h
      · exfalso
        subst h
        rw [Nat.zero_mul] at hs
        obtain ⟨s, hs2⟩ := List.exists_mem_of_ne_nil _ h0
        have h1 : 2 ^ (25 - g s) ∈ ss.map fun s => 2 ^ (25 - g s) := List.mem_map.mpr ⟨s, hs2, rfl⟩
        have h2 := List.sum_eq_zero_iff_forall_eq_nat.mp hs _ h1
        have := Nat.two_pow_pos (25 - g s)
        omega
      · exact h
    have hpl := (left_perm hsub hn).length_eq
    rw [List.length_append, hleft] at hpl
    have hmemL : ∀ s ∈ ss.filter fun s => !(g s == lv), lv + 1 ≤ g s ∧ g s ≤ 25 := fun s hs2 => by
      obtain ⟨h1, h2⟩ := List.mem_filter.mp hs2
      have h3 := hg s h1
      have h4 : g s ≠ lv := by simpa using h2
      omega
    generalize hk : (ss.filter fun s => g s == lv).length = few at *
    have hsumL : ((ss.filter fun s => !(g s == lv)).map fun s => 2 ^ (25 - g s)).sum = 2 * (n - few) * 2 ^ (25 - (lv + 1)) := by
      have h5 : ((ss.filter fun s => !(g s == lv)).map fun s => 2 ^ (25 - g s)).sum = (n - few) * 2 ^ (25 - lv) := by
        rw [Nat.sub_mul]
        omega
      by_cases h6 : lv + 1 ≤ 25
      · rw [h5, pow_up h6, Nat.mul_comm 2 (n - few), Nat.mul_assoc]
      · have h7 : (ss.filter fun s => !(g s == lv)) = [] := by
          cases e : ss.filter fun s => !(g s == lv) with
          | nil => rfl
          | cons x l =>
            have := hmemL x (by rw [e]; exact List.mem_cons_self ..)
            omega
        rw [h7] at h5 ⊢
        have h8 : n - few = 0 := by
          rcases Nat.mul_eq_zero.mp h5.symm with h | h
          · exact h
          · omega
        rw [h8]
        simp
    obtain ⟨D', hD', hl'⟩ := below_all g f (ss.filter fun s => !(g s == lv)) (2 * (n - few)) (lv + 1) (hn.sublist List.filter_sublist) (by
      by_cases h6 : lv + 1 ≤ 25
      · exact .inl h6
      · right
        cases e : ss.filter fun s => !(g s == lv) with
        | nil => rfl
        | cons x l =>
          have := hmemL x (by rw [e]; exact List.mem_cons_self ..)
          omega) hmemL hsumL (by omega) (by omega)
    have hpD := below_perm f _ _ _ (hn.sublist List.filter_sublist) D' hD'
    refine ⟨D' ++ (ss.filter fun s => g s == lv).map fun s => (s, lv), ?_, fun s hs2 => ?_⟩
    · unfold below
      rw [if_neg (by omega)]
      refine List.mem_flatMap.mpr ⟨few, List.mem_range.mpr (by omega), List.mem_flatMap.mpr ⟨ss.filter fun s => g s == lv, by rw [← hk]; exact subs_all hsub, List.mem_map.mpr ⟨D', ?_, rfl⟩⟩⟩
      rw [hleft]
      exact hD'
    · by_cases h9 : g s = lv
      · rw [lk_app_r, lk_const (List.mem_filter.mpr ⟨hs2, by simpa using h9⟩), h9]
        intro hmem
        have := (List.mem_filter.mp (hpD.mem_iff.mp hmem)).2
        simp [h9] at this
      · have hm2 : s ∈ ss.filter fun s => !(g s == lv) := List.mem_filter.mpr ⟨hs2, by simpa using h9⟩
        rw [lk_app_l (hpD.mem_iff.mpr hm2)]
        exact hl' s hm2
theorem CC_rows {n : Nat} {r : List Nat} (h : CC n r) (h2 : 2 ≤ n) (h7 : n ≤ 7) : r ∈ rows n := by
  have hs : ((List.range n).map fun s => 2 ^ (25 - r.getD s 0)).sum = 2 * 2 ^ (25 - 1) := by
    have e : (List.range n).map (fun s => 2 ^ (25 - r.getD s 0)) = r.map fun l => 2 ^ (25 - l) := by
      refine List.ext_getElem? fun i => ?_
      rw [List.getElem?_map, List.getElem?_map]
      by_cases hi : i < n
      · rw [List.getElem?_range hi, List.getElem?_eq_getElem (show i < r.length by rw [h.1]; exact hi), Option.map_some, Option.map_some, List.getD_eq_getElem?_getD, List.getElem?_eq_getElem (show i < r.length by rw [h.1]; exact hi)]
        rfl
      · rw [List.getElem?_eq_none (by rw [List.length_range]; omega), List.getElem?_eq_none (by rw [h.1]; omega)]
        rfl
    rw [e, h.2.2]
  obtain ⟨D, hD, hl⟩ := below_all (fun s => r.getD s 0) 13 (List.range n) 2 1 List.nodup_range (.inl (by decide)) (fun s hs => by
    rw [List.mem_range] at hs
    rw [List.getD_eq_getElem?_getD, List.getElem?_eq_getElem (show s < r.length by rw [h.1]; exact hs)]
    exact h.2.1 _ (List.getElem_mem _)) hs (by rw [List.length_range]; omega) (by decide)
  refine List.mem_map.mpr ⟨D, hD, ?_⟩
  unfold rowOf
  refine List.ext_getElem? fun i => ?_
  rw [List.getElem?_map]
  by_cases hi : i < n
  · rw [List.getElem?_range hi, Option.map_some, hl i (List.mem_range.mpr hi), List.getD_eq_getElem?_getD, List.getElem?_eq_getElem (show i < r.length by rw [h.1]; exact hi)]
    rfl
  · rw [List.getElem?_eq_none (by rw [List.length_range]; omega), List.getElem?_eq_none (by rw [h.1]; omega)]
    rfl
end K38
end
section
/-! ## K38P -/
/-! rows: none twice; the law's levels. -/
namespace K38
open PySem PySem.Spec PyProof.Rows L2
theorem subs_nodup : ∀ (f : Nat) (ss : List Nat), ss.Nodup → (subs f ss).Nodup
  | 0, _, _ => by simp [subs]
  | f + 1, ss, hn => by
    unfold subs
    refine List.pairwise_flatMap.mpr ⟨fun i _ => ?_, ?_⟩
    · refine List.pairwise_map.mpr ((subs_nodup f _ (hn.sublist (List.drop_sublist _ _))).imp fun {a b} h e => h (List.cons.inj e).2)
    · refine List.pairwise_lt_range.imp_of_mem fun {i j} hi hj hij x hx y hy e => ?_
      obtain ⟨x', _, rfl⟩ := List.mem_map.mp hx
      obtain ⟨y', _, rfl⟩ := List.mem_map.mp hy
      have e1 := (List.cons.inj e).1
      rw [List.mem_range] at hi hj
      have h1 : i < ss.length := by omega
      have h2 : j < ss.length := by omega
      rw [List.getD_eq_getElem?_getD, List.getD_eq_getElem?_getD, List.getElem?_eq_getElem h1, List.getElem?_eq_getElem h2] at e1
      exact (List.pairwise_iff_getElem.mp hn) i j h1 h2 hij e1
def Df (ss : List Nat) (D1 D2 : List (Nat × Nat)) : Prop := ∃ s ∈ ss, lk D1 s ≠ lk D2 s
theorem sub_filter : ∀ {ch ss : List Nat}, ch.Sublist ss → ss.Nodup → (ss.filter fun s => ch.contains s) = ch
  | _, _, .slnil, _ => rfl
  | ch, a :: l, .cons _ h, hn => by
    rw [List.nodup_cons] at hn
    have ha : a ∉ ch := fun z => hn.1 (h.subset z)
    rw [List.filter_cons_of_neg (by simpa using ha)]
    exact sub_filter h hn.2
  | a :: ch, _ :: l, .cons_cons _ h, hn => by
    rw [List.nodup_cons] at hn
    rw [List.filter_cons_of_pos (by simp)]
    have e : (l.filter fun s => (a :: ch).contains s) = l.filter fun s => ch.contains s := by
      refine List.filter_congr fun x hx => ?_
      have : x ≠ a := fun e => hn.1 (e ▸ hx)
      simp [this]
    rw [e, sub_filter h hn.2]
theorem piece {f lv few m : Nat} {ss ch : List Nat} {D' : List (Nat × Nat)} (hf : lv + 1 + f ≤ 26) (hn : ss.Nodup) (hch : ch ∈ subs few ss) (hD : D' ∈ below f (ss.filter fun s => !ch.contains s) m (lv + 1)) {s : Nat} (hs : s ∈ ss) :
    (s ∈ ch → lk (D' ++ ch.map fun s => (s, lv)) s = lv) ∧ (s ∉ ch → lk (D' ++ ch.map fun s => (s, lv)) s = lk D' s ∧ lv + 1 ≤ lk D' s) := by
  have hp := below_perm f _ _ _ (hn.sublist List.filter_sublist) D' hD
  have hk : (D'.map Prod.fst).Nodup := hp.nodup_iff.mpr (hn.sublist List.filter_sublist)
  refine ⟨fun h => ?_, fun h => ?_⟩
  · rw [lk_app_r, lk_const h]
    intro hm
    have := (List.mem_filter.mp (hp.mem_iff.mp hm)).2
    simp [h] at this
  · have hm : s ∈ D'.map Prod.fst := hp.mem_iff.mpr (List.mem_filter.mpr ⟨hs, by simpa using h⟩)
    refine ⟨lk_app_l hm, ?_⟩
    obtain ⟨p, hp2, rfl⟩ := List.mem_map.mp hm
    rw [lk_mem hk hp2]
    exact ((below_w f _ _ (lv + 1) hf D' hD).1 p hp2).1
theorem below_pw : ∀ (f : Nat) (ss : List Nat) (n lv : Nat), ss.Nodup → lv + f ≤ 26 → (below f ss n lv).Pairwise (Df ss)
  | 0, _, _, _, _, _ => List.Pairwise.nil
  | f + 1, ss, n, lv, hn, hf => by
    unfold below
    split
    · split
      · exact List.pairwise_singleton _ _
      · exact List.Pairwise.nil
    · have diff : ∀ {few1 few2 m1 m2 : Nat} {ch1 ch2 : List Nat} {x y : List (Nat × Nat)}, ch1 ∈ subs few1 ss → ch2 ∈ subs few2 ss → ch1 ≠ ch2 →
          x ∈ ((below f (ss.filter fun s => !ch1.contains s) m1 (lv + 1)).map fun D => D ++ ch1.map fun s => (s, lv)) →
          y ∈ ((below f (ss.filter fun s => !ch2.contains s) m2 (lv + 1)).map fun D => D ++ ch2.map fun s => (s, lv)) → Df ss x y := fun {few1 few2 m1 m2 ch1 ch2 x y} h1 h2 hne hx hy => by
        obtain ⟨D1, hD1, rfl⟩ := List.mem_map.mp hx
        obtain ⟨D2, hD2, rfl⟩ := List.mem_map.mp hy
        have hs1 := subs_sub few1 ss ch1 h1
        have hs2 := subs_sub few2 ss ch2 h2
        by_cases hall : ∀ s ∈ ss, (s ∈ ch1 ↔ s ∈ ch2)
        · exfalso
          refine hne ?_
          rw [← sub_filter hs1 hn, ← sub_filter hs2 hn]
          refine List.filter_congr fun s hs => ?_
          rw [Bool.eq_iff_iff, List.contains_iff_mem, List.contains_iff_mem]
          exact hall s hs
        · obtain ⟨s, hs⟩ := Classical.not_forall.mp hall
          obtain ⟨hs, hx⟩ := Classical.not_imp.mp hs
          refine ⟨s, hs, ?_⟩
          have p1 := piece (lv := lv) (by omega) hn h1 hD1 hs
          have p2 := piece (lv := lv) (by omega) hn h2 hD2 hs
          by_cases c1 : s ∈ ch1
          · have c2 : s ∉ ch2 := fun c2 => hx ⟨fun _ => c2, fun _ => c1⟩
            rw [p1.1 c1, (p2.2 c2).1]
            have := (p2.2 c2).2
            omega
          · have c2 : s ∈ ch2 := Classical.byContradiction fun c2 => hx ⟨fun h => absurd h c1, fun h => absurd h c2⟩
            rw [p2.1 c2, (p1.2 c1).1]
            have := (p1.2 c1).2
            omega
      refine List.pairwise_flatMap.mpr ⟨fun few _ => List.pairwise_flatMap.mpr ⟨fun ch hch => ?_, ?_⟩, ?_⟩
      · refine List.pairwise_map.mpr ((below_pw f _ _ (lv + 1) (hn.sublist List.filter_sublist) (by omega)).imp_of_mem fun {D1 D2} h1 h2 hd => ?_)
        obtain ⟨s, hs, hne⟩ := hd
        obtain ⟨hs1, hs2⟩ := List.mem_filter.mp hs
        have hs3 : s ∉ ch := by simpa using hs2
        refine ⟨s, hs1, ?_⟩
        rw [((piece (lv := lv) (by omega) hn hch h1 hs1).2 hs3).1, ((piece (lv := lv) (by omega) hn hch h2 hs1).2 hs3).1]
        exact hne
      · exact (subs_nodup few ss hn).imp_of_mem fun {ch1 ch2} h1 h2 hne x hx y hy => diff h1 h2 hne hx hy
      · refine List.pairwise_lt_range.imp_of_mem fun {i j} hi hj hij x hx y hy => ?_
        obtain ⟨ch1, h1, hx⟩ := List.mem_flatMap.mp hx
        obtain ⟨ch2, h2, hy⟩ := List.mem_flatMap.mp hy
        refine diff h1 h2 (fun e => ?_) hx hy
        have l1 := subs_mem i ss ch1 h1
        have l2 := subs_mem j ss ch2 h2
        rw [e] at l1
        omega
theorem rows_nodup (n : Nat) : (rows n).Nodup := by
  unfold rows
  refine List.pairwise_map.mpr ((below_pw 13 _ 2 1 List.nodup_range (by decide)).imp fun {D1 D2} h e => ?_)
  obtain ⟨s, hs, hne⟩ := h
  unfold rowOf at e
  exact hne (List.map_inj_left.mp e s hs)
theorem rows_len {n : Nat} (h2 : 2 ≤ n) (h7 : n ≤ 7) : (rows n).length = W n 2 := by
  unfold rows W
  rw [List.length_map, below_len _ _ _ _ List.nodup_range (by rw [List.length_range]; exact h7), List.length_range]
  exact wy_more _ _ _ _ (by omega) (by omega)
/-! ### the law's levels -/
def moreOf (row : List Nat) (i : Nat) : List Nat := row.take i ++ ((row.getD i 0 + 1) :: row.drop (i + 1))
def kid (row : List Nat) (i pl : Nat) : List Nat := (moreOf row i).take pl ++ ((row.getD i 0 + 1) :: (moreOf row i).drop pl)
def kids (size : Nat) (row : List Nat) : List (List Nat) := (List.range size).flatMap fun i => (List.range (size + 1)).map (kid row i)
def gen (size : Nat) (L : List (List Nat)) : List (List Nat) := L.flatMap (kids size)
def w25 (l : List Nat) : Nat := (l.map fun l => 2 ^ (25 - l)).sum
theorem w25_app (a b : List Nat) : w25 (a ++ b) = w25 a + w25 b := by
  unfold w25
  rw [List.map_append, List.sum_append]
theorem w25_cons (x : Nat) (a : List Nat) : w25 (x :: a) = 2 ^ (25 - x) + w25 a := rfl
theorem kid_of {row : List Nat} {i : Nat} (hi : i < row.length) : row = row.take i ++ row.getD i 0 :: row.drop (i + 1) := by
  rw [List.getD_eq_getElem?_getD, List.getElem?_eq_getElem hi]
  show row = row.take i ++ row[i] :: row.drop (i + 1)
  rw [← List.drop_eq_getElem_cons hi, List.take_append_drop]
theorem kid_CC {s : Nat} {row r : List Nat} (h : CC s row) (hb : ∀ l ∈ row, l + 1 ≤ s) (hs : s ≤ 25) (hr : r ∈ kids s row) : CC (s + 1) r ∧ ∀ l ∈ r, l + 1 ≤ s + 1 := by
  obtain ⟨i, hi, h1⟩ := List.mem_flatMap.mp hr
  obtain ⟨pl, hp, rfl⟩ := List.mem_map.mp h1
  rw [List.mem_range] at hi hp
  have hi2 : i < row.length := by rw [h.1]; exact hi
  have e := kid_of hi2
  have hmem : row.getD i 0 ∈ row := by
    rw [List.getD_eq_getElem?_getD, List.getElem?_eq_getElem hi2]
    exact List.getElem_mem _
  generalize hv : row.getD i 0 = v at *
  have hv1 := hb v hmem
  have hv2 := h.2.1 v hmem
  have hm : ∀ l ∈ moreOf row i, l = v + 1 ∨ l ∈ row := fun l hl => by
    unfold moreOf at hl
    rw [hv] at hl
    rcases List.mem_append.mp hl with hl | hl
    · exact .inr (List.mem_of_mem_take hl)
    · rcases List.mem_cons.mp hl with hl | hl
      · exact .inl hl
      · exact .inr (List.mem_of_mem_drop hl)
  have hk : ∀ l ∈ kid row i pl, l = v + 1 ∨ l ∈ row := fun l hl => by
    unfold kid at hl
    rw [hv] at hl
    rcases List.mem_append.mp hl with hl | hl
    · exact hm l (List.mem_of_mem_take hl)
    · rcases List.mem_cons.mp hl with hl | hl
      · exact .inl hl
      · exact hm l (List.mem_of_mem_drop hl)
  have hml : (moreOf row i).length = row.length := by
    unfold moreOf
    rw [List.length_append, List.length_cons, List.length_take, List.length_drop]
    omega
  refine ⟨⟨?_, fun l hl => ?_, ?_⟩, fun l hl => ?_⟩
  · unfold kid
    rw [List.length_append, List.length_cons, List.length_take, List.length_drop, hml, h.1]
    omega
  · rcases hk l hl with rfl | hl
    · omega
    · exact h.2.1 l hl
  · have h1 : w25 row = 2 ^ 25 := h.2.2
    show w25 (kid row i pl) = 2 ^ 25
    unfold kid
    rw [w25_app, w25_cons, hv]
    have h3 : w25 ((moreOf row i).take pl) + w25 ((moreOf row i).drop pl) = w25 (moreOf row i) := by rw [← w25_app, List.take_append_drop]
    have h4 : w25 (moreOf row i) = w25 (row.take i) + (2 ^ (25 - (v + 1)) + w25 (row.drop (i + 1))) := by
      unfold moreOf
      rw [w25_app, w25_cons, hv]
    rw [e, w25_app, w25_cons, pow_up (lv := v) (by omega)] at h1
    omega
  · rcases hk l hl with rfl | hl
    · omega
    · have := hb l hl
      omega
theorem max_of : ∀ {r : List Nat}, r ≠ [] → ∃ M ∈ r, ∀ l ∈ r, l ≤ M
  | [], h => absurd rfl h
  | [x], _ => ⟨x, by simp, fun l hl => by simp at hl; omega⟩
  | x :: y :: r, _ => by
    obtain ⟨M, h1, h2⟩ := max_of (r := y :: r) (by simp)
    by_cases h : x ≤ M
    · exact ⟨M, List.mem_cons_of_mem _ h1, fun l hl => by
        rcases List.mem_cons.mp hl with rfl | hl
        · exact h
        · exact h2 l hl⟩
    · exact ⟨x, List.mem_cons_self .., fun l hl => by
        rcases List.mem_cons.mp hl with rfl | hl
        · exact Nat.le_refl _
        · have := h2 l hl
          omega⟩
theorem dvd_sum (d : Nat) : ∀ l : List Nat, (∀ x ∈ l, d ∣ x) → d ∣ l.sum
  | [], _ => Nat.dvd_zero d
  | x :: l, h => by
    rw [List.sum_cons]
    exact Nat.dvd_add (h x (List.mem_cons_self ..)) (dvd_sum d l fun y hy => h y (List.mem_cons_of_mem _ hy))
theorem CC_kid {s : Nat} {r : List Nat} (h : CC (s + 1) r) (hs : 2 ≤ s) : ∃ row, CC s row ∧ r ∈ kids s row := by
  have hne : r ≠ [] := fun e => by
    have := h.1
    rw [e] at this
    cases this
  obtain ⟨M, hM, hmax⟩ := max_of hne
  have hM2 := h.2.1 M hM
  have hsum : w25 r = 2 ^ 25 := h.2.2
  have hM3 : 2 ≤ M := by
    by_cases hc : M = 1
    · exfalso
      have e : r.map (fun l => 2 ^ (25 - l)) = r.map fun _ => 2 ^ 24 := List.map_congr_left fun l hl => by
        have h1 := hmax l hl
        have h2 := h.2.1 l hl
        rw [show l = 1 by omega]
      unfold w25 at hsum
      rw [e, sum_const, h.1] at hsum
      omega
    · omega
  have hsp := sum_split (fun l => l == M) (fun l => 2 ^ (25 - l)) r
  have hu : ((r.filter fun l => l == M).map fun l => 2 ^ (25 - l)).sum = (r.filter fun l => l == M).length * 2 ^ (25 - M) := by
    rw [← sum_const]
    congr 1
    refine List.map_congr_left fun l hl => ?_
    rw [beq_iff_eq.mp (List.mem_filter.mp hl).2]
  have hd : 2 * 2 ^ (25 - M) ∣ ((r.filter fun l => !(l == M)).map fun l => 2 ^ (25 - l)).sum := dvd_sum _ _ fun x hx => by
    obtain ⟨l, hl, rfl⟩ := List.mem_map.mp hx
    obtain ⟨hl1, hl2⟩ := List.mem_filter.mp hl
    have h3 : l ≠ M := by simpa using hl2
    have h4 := hmax l hl1
    rw [show 2 * 2 ^ (25 - M) = 2 ^ (25 - M + 1) by rw [Nat.pow_succ, Nat.mul_comm]]
    exact Nat.pow_dvd_pow 2 (by omega)
  have h25 : 2 * 2 ^ (25 - M) ∣ 2 ^ 25 := by
    rw [show 2 * 2 ^ (25 - M) = 2 ^ (25 - M + 1) by rw [Nat.pow_succ, Nat.mul_comm]]
    exact Nat.pow_dvd_pow 2 (by omega)
  have hall : (r.map fun l => 2 ^ (25 - l)).sum = 2 ^ 25 := hsum
  rw [hall, hu] at hsp
  have hc : 2 * 2 ^ (25 - M) ∣ (r.filter fun l => l == M).length * 2 ^ (25 - M) := by
    have := (Nat.dvd_add_iff_left hd).mpr (hsp ▸ h25)
    exact this
  have hc2 : 2 ∣ (r.filter fun l => l == M).length := Nat.dvd_of_mul_dvd_mul_right (Nat.two_pow_pos _) hc
  have hpos : 0 < (r.filter fun l => l == M).length := List.length_pos_iff.mpr fun e => by
    have : M ∈ r.filter fun l => l == M := List.mem_filter.mpr ⟨hM, by simp⟩
    rw [e] at this
    cases this
  have hc3 : 2 ≤ (r.filter fun l => l == M).length := Nat.le_of_dvd hpos hc2
  obtain ⟨a, b, rfl⟩ := List.append_of_mem hM
  have hab : M ∈ a ++ b := by
    rw [List.filter_append, List.filter_cons_of_pos (by simp), List.length_append, List.length_cons] at hc3
    have h5 : 0 < ((a ++ b).filter fun l => l == M).length := by
      rw [List.filter_append, List.length_append]
      omega
    obtain ⟨x, hx⟩ := List.exists_mem_of_ne_nil _ (List.length_pos_iff.mp h5)
    obtain ⟨h6, h7⟩ := List.mem_filter.mp hx
    rw [← beq_iff_eq.mp h7]
    exact h6
  obtain ⟨a', b', e⟩ := List.append_of_mem hab
  have hlen := h.1
  rw [List.length_append, List.length_cons] at hlen
  have hlen2 := congrArg List.length e
  rw [List.length_append, List.length_append, List.length_cons] at hlen2
  refine ⟨a' ++ (M - 1) :: b', ⟨?_, fun l hl => ?_, ?_⟩, ?_⟩
  · rw [List.length_append, List.length_cons]
    omega
  · rcases List.mem_append.mp hl with hl | hl
    · have : l ∈ a ++ b := by rw [e]; exact List.mem_append_left _ hl
      rcases List.mem_append.mp this with h8 | h8
      · exact h.2.1 l (List.mem_append_left _ h8)
      · exact h.2.1 l (List.mem_append_right _ (List.mem_cons_of_mem _ h8))
    · rcases List.mem_cons.mp hl with rfl | hl
      · omega
      · have : l ∈ a ++ b := by rw [e]; exact List.mem_append_right _ (List.mem_cons_of_mem _ hl)
        rcases List.mem_append.mp this with h8 | h8
        · exact h.2.1 l (List.mem_append_left _ h8)
        · exact h.2.1 l (List.mem_append_right _ (List.mem_cons_of_mem _ h8))
  · show w25 (a' ++ (M - 1) :: b') = 2 ^ 25
    have e2 := congrArg w25 e
    rw [w25_app, w25_app, w25_cons] at e2
    rw [w25_app, w25_cons] at hsum
    have e3 := pow_up (lv := M - 1) (by omega)
    rw [show M - 1 + 1 = M by omega] at e3
    rw [w25_app, w25_cons, e3]
    omega
  · refine List.mem_flatMap.mpr ⟨a'.length, List.mem_range.mpr (by omega), List.mem_map.mpr ⟨a.length, List.mem_range.mpr (by omega), ?_⟩⟩
    have g1 : (a' ++ (M - 1) :: b').getD a'.length 0 = M - 1 := by
      rw [List.getD_eq_getElem?_getD, List.getElem?_append_right (Nat.le_refl _), Nat.sub_self]
      rfl
    have g2 : moreOf (a' ++ (M - 1) :: b') a'.length = a ++ b := by
      unfold moreOf
      rw [g1, List.take_left, show M - 1 + 1 = M by omega, e]
      congr 2
      rw [show a'.length + 1 = (a' ++ [M - 1]).length by simp, show a' ++ (M - 1) :: b' = (a' ++ [M - 1]) ++ b' by simp, List.drop_left]
    unfold kid
    rw [g1, g2, List.take_left, List.drop_left, show M - 1 + 1 = M by omega]
end K38
end
section
/-! ## K38Q -/
/-! all_codes: the walk. -/
namespace K38
open PySem PySem.Spec PyProof.Rows L2
def leNn (p q : List Nat) : Bool := decide (p ≤ q)
def srows (n : Nat) : List (List Nat) := (rows n).mergeSort leNn
def cI (l : List Nat) : List Int := l.map fun x : Nat => (x : Int)
theorem cI_V (l : List Nat) : (cI l).map V.int = enc l := by
  unfold cI enc
  rw [List.map_map]
  rfl
theorem cI_lt : ∀ a b : List Nat, cI a < cI b ↔ a < b
  | [], [] => by simp [cI]
  | [], y :: b => by simp [cI]
  | x :: a, [] => by simp [cI]
  | x :: a, y :: b => by
    have ih := cI_lt a b
    unfold cI at ih ⊢
    rw [List.map_cons, List.map_cons, List.cons_lt_cons_iff, List.cons_lt_cons_iff, ih]
    constructor
    · rintro (h | ⟨h, h2⟩)
      · exact .inl (by omega)
      · exact .inr ⟨by omega, h2⟩
    · rintro (h | ⟨h, h2⟩)
      · exact .inl (by omega)
      · exact .inr ⟨by omega, h2⟩
theorem cI_le (a b : List Nat) : decide (cI a ≤ cI b) = decide (a ≤ b) := by
  rw [decide_eq_decide, ← List.not_lt, ← List.not_lt, cI_lt]
/-- the sort of the addresses, by their rows -/
theorem sort_rows {bs : List Bx} {L : List (List Nat)} (h : bs.map Prod.snd = L.map cI) : (bs.mergeSort leB).map Prod.snd = (L.mergeSort leNn).map cI := by
  rw [List.map_mergeSort (r := leB) (f := Prod.snd) (s := fun p q : List Int => decide (p ≤ q)) (fun a _ b _ => rfl), h, List.map_mergeSort (r := leNn) (f := cI) (s := fun p q : List Int => decide (p ≤ q)) (fun a _ b _ => (cI_le a b).symm)]
/-- Codes at addresses -/
def CodesAt (K : PySem.W.Frag) (H : Hp) (ys : List Addr) (L : List (List Nat)) : Prop := ys.length = L.length ∧ ∀ (i : Nat) (y : Addr) (r : List Nat), ys[i]? = some y → L[i]? = some r → CodeAt K H y r
theorem CodesAt.same {K : PySem.W.Frag} {H H' : Hp} {ys : List Addr} {L : List (List Nat)} (c : CodesAt K H ys L) (s : Same H H') : CodesAt K H' ys L := ⟨c.1, fun i y r h1 h2 => (c.2 i y r h1 h2).same s⟩
/-- a list at D that collects lists -/
def CollL (H0 : Hp) (D : Addr) (cs : List (List V)) (k : Nat) (H : Hp) : Prop := ∃ accs : List Addr, H D = some (.lst (accs.map V.ref)) ∧ Objs H accs ((cs.take k).map HO.lst) ∧ (∀ t ∈ accs, t ≠ D) ∧ Same H0 H
theorem CollL.start {H0 : Hp} {D : Addr} (cs : List (List V)) (h : H0 D = none) : CollL H0 D cs 0 (upd H0 D (.lst [])) := ⟨[], upd_same, Objs.nil _, fun t h => (by cases h), same_new (Same.refl _) h⟩
theorem CollL.same {H0 H H3 : Hp} {D : Addr} {cs : List (List V)} {k : Nat} (x : CollL H0 D cs k H) (s : Same H H3) : CollL H0 D cs k H3 := by
  obtain ⟨accs, h1, h2, h3, h4⟩ := x
  exact ⟨accs, s _ _ h1, h2.same s, h3, fun b o e => s _ _ (h4 _ _ e)⟩
theorem CollL.step {H0 H : Hp} {D u : Addr} {cs : List (List V)} {k : Nat} {c : List V} (x : CollL H0 D cs k H) (h0 : H0 D = none) (hu : H u = some (.lst c)) (hne : u ≠ D) (hc : cs[k]? = some c) (hl : cs.length ≤ 1000000) :
    ∃ acc, H D = some (.lst acc) ∧ acc.length < sizeLine ∧ CollL H0 D cs (k + 1) (upd H D (.lst (acc ++ [.ref u]))) := by
  obtain ⟨accs, h1, h2, h3, h4⟩ := x
  have hk := (List.getElem?_eq_some_iff.mp hc).1
  refine ⟨_, h1, ?_, accs ++ [u], ?_, ?_, ?_, same_mut h4 h0⟩
  · rw [List.length_map, h2.len, List.length_map, List.length_take]
    exact small_lt (by omega)
  · rw [upd_same, List.map_append]
    rfl
  · rw [List.take_succ, hc, List.map_append]
    refine Objs.snoc ⟨h2.len, fun i t o e1 e2 => ?_⟩ ?_
    · rw [upd_ne (h3 t (List.mem_of_getElem? e1))]
      exact h2.at_ i t o e1 e2
    · rw [upd_ne hne]
      exact hu
  · intro t ht
    rcases List.mem_append.mp ht with ht | ht
    · exact h3 t ht
    · rw [List.mem_singleton.mp ht]
      exact hne
theorem lk_val {D : List (Nat × Nat)} {s : Nat} (h : s ∈ D.map Prod.fst) : valV (dkv D) (Sum.inl (s : Int) : Key) = some (nI (lk D s)) := by
  induction D with
  | nil => cases h
  | cons p D ih =>
    by_cases e : p.1 = s
    · have e1 : lk (p :: D) s = p.2 := by
        unfold lk
        rw [List.find?_cons, show (p.1 == s) = true by simpa using e]
      rw [e1]
      exact valV_pos (p := ((Sum.inl (p.1 : Int) : Key), nI p.2)) (by rw [e])
    · have e1 : lk (p :: D) s = lk D s := by
        unfold lk
        rw [List.find?_cons, show (p.1 == s) = false by simpa using e]
      rw [e1, ← ih (by
        rw [List.map_cons] at h
        rcases List.mem_cons.mp h with h | h
        · exact absurd h.symm e
        · exact h)]
      exact valV_neg (p := ((Sum.inl (p.1 : Int) : Key), nI p.2)) (fun z => e (by have := Sum.inl.inj z; omega))
theorem codeAt_updL {K : PySem.W.Frag} {H : Hp} {y D : Addr} {r : List Nat} {zs : List V} {o : HO} (c : CodeAt K H y r) (h : H D = some (.lst zs)) : CodeAt K (upd H D o) y r := by
  obtain ⟨dx, fs, t, p, h1, h2, h3, h4, h5, h6⟩ := c
  refine ⟨dx, fs, t, p, by rw [upd_ne (fun e => by rw [e, h] at h1; cases h1)]; exact h1, h2, h3, h4, ?_, by rw [upd_ne (fun e => by rw [e, h] at h6; cases h6)]; exact h6⟩
  rcases h5 with (h5 | ⟨u, h5⟩) | h5
  · exact .inl (.inl (by rw [upd_ne (fun e => by rw [e, h] at h5; cases h5)]; exact h5))
  · exact .inl (.inr ⟨u, by rw [upd_ne (fun e => by rw [e, h] at h5; cases h5)]; exact h5⟩)
  · exact .inr h5
theorem rgV_range (n : Nat) : rgV 0 (n : Int) = enc (List.range n) := by
  unfold rgV enc nI
  rw [show ((n : Int) - 0).toNat = n by omega]
  refine List.map_congr_left fun i _ => ?_
  rw [Int.zero_add]
def spAll (K : PySem.W.Frag) : Sp := fun vs H Q E => ∃ v : V, vs = [v] ∧ ((∃ n : Nat, v = nI n ∧ 2 ≤ n ∧ n ≤ 7 ∧ ∀ H' p ys, Same H H' → H' p = some (.tup (ys.map V.ref)) → CodesAt K H' ys (srows n) → Q (.ref p) H') ∨
  (((∃ i, v = .int i ∧ ¬ (2 ≤ i ∧ i ≤ 7)) ∨ OddV H v) ∧ Rz K "BadSize" [("size", v)] H E))
theorem scAll : FnScope ["many", "signs", "rows", "told", "sign", "row"] ["many"] (defScope sAllCodes) := ⟨rfl, rfl, rfl, by decide +kernel, rfl, by decide +kernel, by decide +kernel⟩
section
variable {w : World} {K : PySem.W.Frag} {mg : Str → Option Value} {base : Heap}
theorem ok_all (T : Tx K mg) : Cal PR w K mg base 24 "all_codes" (spAll K) := by
  obtain ⟨fd, ps, ds, F, B, V0⟩ := (ok_code_init (w := w) (base := base) T).ex
  refine cal_of T.toTxt (st := sAllCodes) (N := ["many", "signs", "rows", "told", "sign", "row"]) (ps := ["many"]) (List.mem_of_getElem? (i := 13) rfl) (by decide) scAll (fun _ _ _ _ _ _ us hl => match us, hl with | [_], _ => rfl) (fun vs H Q E h => by
    obtain ⟨v, rfl, _⟩ := h
    rfl) (fun cdv A outer s H vs Q E hr h => ?_)
  obtain ⟨v, rfl, h⟩ := h
  refine ⟨_, pss_cons (ps_expr (pe_x (ok_check_many T.toTxt) hr (by decide) psX (pa_cons (pv 0) (pa_cons (pe_ci rfl T.mListed) pa_nil))))
    (pss_cons (ps_set (i := 1) scAll.nd rfl (Or.inr rfl) (pe_listRg rfl (by rfl) (T.fr _ (by decide)) (prg_1 (by rfl) (T.fr _ (by decide)) (pv 0))))
    (pss_cons (ps_setLc (i := 2) rfl scAll.nd rfl rfl (by rfl) (pi_list (pe_x (ok_below T 13) hr (by decide) passL (pa_cons (pv 1) (pa_cons pe_int (pa_cons pe_int pa_nil))))) (own := [("told", 3)]) (blkOk_by (by rfl))
        (fun _ _ _ _ _ => pg_name (i := 3) scAll.nd rfl (Or.inr rfl) (Or.inl rfl)) (fun _ _ _ _ _ => pts_nil)
        (fun _ _ _ _ _ => pe_lc (wi := iList K (tVar 1)) (g := gName 4) (tt := tYes) (te := tDGet (tVar 3) (tVar 4)) rfl scAll.nd (pi_list (pv 1)) (own := [("sign", 4)]) (blkOk_by (by rfl))
          (fun _ _ _ _ _ => pg_name (i := 4) scAll.nd rfl (Or.inl rfl) (Or.inr rfl)) (fun _ _ _ _ _ => pts_nil) (fun _ _ _ _ _ => pe_dget (un1 hr) (pv 3) (pv 4) (fun _ _ => rfl))))
    (pss_one (ps_ret (pe_callTy (r := rTupOf K) call_tuple_of (by rfl) (T.fr _ (by decide)) (by decide +kernel)
      (pa_cons (pe_lc rfl scAll.nd (pi_list (pe_callB (cr_sortLL (un8 hr)) (by rfl) (T.fr _ (by decide)) boot_sorted' (pa_cons (pv 2) pa_nil))) (own := [("row", 5)]) (blkOk_by (by rfl))
        (fun _ _ _ _ _ => pg_name (i := 5) scAll.nd rfl (Or.inl rfl) (Or.inr rfl)) (fun _ _ _ _ _ => pts_nil)
        (fun _ _ _ _ _ => pe_make (mkCode T) F (hr.mono (by decide)) (by rfl) (T.gl "Code" (by decide)) B V0 passL (pa_cons (pv 5) pa_nil))) pa_nil)))))), ?_⟩
  refine ⟨_, rfl, v, 7, rfl, ?_⟩
  rcases h with ⟨n, rfl, h2, h7, q⟩ | ⟨h, q⟩
  · refine .inl ⟨n, rfl, by omega, by omega, ?_⟩
    refine ⟨_, rfl, n, rfl, RgOk.of_le (a := 0) (b := (n : Int)) (by omega) (by omega) (by omega) (by omega), fun S hS => ?_⟩
    have s0 : Same H (upd H S (.lst (rgV 0 (n : Int)))) := same_new (Same.refl _) hS
    have hS0 : (upd H S (.lst (rgV 0 (n : Int)))) S = some (.lst (enc (List.range n))) := by rw [upd_same, rgV_range]
    generalize upd H S (.lst (rgV 0 (n : Int))) = H0 at *
    refine ⟨_, rfl, S, List.range n, 2, 1, rfl, .of hS0, List.nodup_range, by rw [List.length_range]; exact h7, by decide, by decide, by decide, by rw [List.length_range]; omega, fun H1 p1 ts1 s1 hp1 hl1 hO1 => ?_⟩
    have hrl : (rows n).length ≤ 1000000 := by
      rw [rows_len h2 h7, show W n 2 = wy 14 n 2 from wy_more _ _ _ _ (by omega) (by omega)]
      exact wy_small 14 (by decide) n (by omega) 2 (by decide)
    have hcl : ((rows n).map enc).length ≤ 1000000 := by rw [List.length_map]; exact hrl
    have hS1 := s1 _ _ hS0
    have htl : (ts1.map V.ref).length = ((rows n).map enc).length := by
      rw [List.length_map, hO1.len, List.length_map, List.length_map]
      unfold rows
      rw [List.length_map]
    refine ⟨p1, rfl, ⟨_, .of hl1⟩, fun R hR => lc_it (walk_list (K := K) (a := p1) (xs := ts1.map V.ref)) (CollL H1 R ((rows n).map enc)) (CollL.start _ hR) (fun k H2 _ ⟨_, _, _, _, s2⟩ => .of (s2 _ _ hl1)) ?_ ?_⟩
    · rintro k x H2 H2' hk c2 ⟨rfl, hx⟩
      have c2' := c2
      obtain ⟨accs, hR2, _, _, s2⟩ := c2'
      obtain ⟨td, od, rfl, htd, hod, hdt⟩ := hO1.get hx
      obtain ⟨D, hD, rfl⟩ := map_get hod
      have hpD := below_perm 13 _ _ _ List.nodup_range D (List.mem_of_getElem? hD)
      have hdt2 := s2 _ _ hdt
      have hS2 := s2 _ _ hS1
      have hrk : ((rows n).map enc)[k]? = some (enc (rowOf n D)) := by
        unfold rows
        rw [List.getElem?_map, List.getElem?_map, hD]
        rfl
      refine ⟨rfl, yes_ ⟨_, rfl, S, rfl, ⟨_, .of hS2⟩, fun D2 hD2 => lc_it (walk_list (K := K) (a := S) (xs := enc (List.range n))) (fun m H3 => H3 D2 = some (.lst (enc ((rowOf n D).take m))) ∧ Same H2' H3)
        ⟨upd_same, same_new (Same.refl _) hD2⟩ (fun m H3 _ ⟨_, s3⟩ => .of (s3 _ _ hS2)) ?_ ?_⟩⟩
      · rintro m y H3 H4 hm ⟨hD3, s3⟩ ⟨rfl, hy⟩
        have hm2 : m < n := by
          have h9 : (enc (List.range n)).length = n := by unfold enc; rw [List.length_map, List.length_range]
          rw [h9] at hm
          exact hm
        have ey : y = nI m := by
          unfold enc at hy
          rw [List.getElem?_map, List.getElem?_range hm2] at hy
          exact (Option.some.inj hy).symm
        subst ey
        have hmem : m ∈ D.map Prod.fst := hpD.mem_iff.mpr (List.mem_range.mpr hm2)
        refine ⟨rfl, yes_ ⟨_, rfl, _, rfl, td, nI (lk D m), rfl, ?_, _, hD3, ?_, ?_, same_mut s3 hD2⟩⟩
        · have h9 := DGet.k (k := Sum.inl (m : Int)) (s3 _ _ hdt2)
          rw [lk_val hmem] at h9
          exact h9
        · unfold enc
          rw [List.length_map, List.length_take]
          exact small_lt (by omega)
        · have h9 : (rowOf n D)[m]? = some (lk D m) := by
            unfold rowOf
            rw [List.getElem?_map, List.getElem?_range hm2]
            rfl
          rw [upd_same, List.take_succ, h9]
          unfold enc
          rw [List.map_append]
          rfl
      · rintro H3 ⟨hD3, s3⟩
        have h9 : (enc (List.range n)).length = (rowOf n D).length := by unfold enc rowOf; rw [List.length_map, List.length_map]
        rw [h9, List.take_length] at hD3
        have hne : D2 ≠ R := fun e => by rw [e, hR2] at hD2; cases hD2
        exact (c2.same s3).step hR hD3 hne hrk hcl
    · rintro H2 ⟨accs, hR2, hO2, _, s2⟩
      rw [htl, List.take_length] at hO2
      have hal : accs.length = (rows n).length := by rw [hO2.len, List.length_map, List.length_map]
      have hb1 : (accs.zip ((rows n).map cI)).map Prod.fst = accs := List.map_fst_zip (by rw [List.length_map, hal]; exact Nat.le_refl _)
      have hb2 : (accs.zip ((rows n).map cI)).map Prod.snd = (rows n).map cI := List.map_snd_zip (by rw [List.length_map, hal]; exact Nat.le_refl _)
      have hb3 : ∀ b ∈ accs.zip ((rows n).map cI), H2 b.1 = some (.lst (b.2.map V.int)) := fun b hb => by
        obtain ⟨i, hi⟩ := List.mem_iff_getElem?.mp hb
        obtain ⟨e1, e2⟩ := List.getElem?_zip_eq_some.mp hi
        obtain ⟨r, hr2, e3⟩ := map_get e2
        have e4 : (((rows n).map enc).map HO.lst)[i]? = some (.lst (enc r)) := by
          rw [List.getElem?_map, List.getElem?_map, hr2]
          rfl
        rw [e3, cI_V]
        exact hO2.at_ i b.1 _ e1 e4
      generalize accs.zip ((rows n).map cI) = bs at *
      have hsr := sort_rows hb2
      have hsl : (bs.mergeSort leB).length = (srows n).length := by
        have := congrArg List.length hsr
        rw [List.length_map, List.length_map] at this
        exact this
      have hsn : (srows n).length ≤ 1000000 := by
        unfold srows
        rw [List.length_mergeSort]
        exact hrl
      refine ⟨_, rfl, R, bs, rfl, .of (by rw [hR2, ← hb1, List.map_map]; rfl), fun b hb => .of (hb3 b hb), fun p2 hp2 => ?_⟩
      have s3 : Same H2 (upd H2 p2 (.lst ((bs.mergeSort leB).map fun b => V.ref b.1))) := same_new (Same.refl _) hp2
      have hp3 : (upd H2 p2 (.lst ((bs.mergeSort leB).map fun b => V.ref b.1))) p2 = some (.lst ((bs.mergeSort leB).map fun b => V.ref b.1)) := upd_same
      generalize upd H2 p2 (.lst ((bs.mergeSort leB).map fun b => V.ref b.1)) = H3 at *
      refine ⟨p2, rfl, ⟨_, .of hp3⟩, fun D hD => lc_it (walk_list (K := K) (a := p2) (xs := (bs.mergeSort leB).map fun b => V.ref b.1)) (fun i H4 => ∃ ys : List Addr, H4 D = some (.lst (ys.map V.ref)) ∧ CodesAt K H4 ys ((srows n).take i) ∧ Same H3 H4)
        ⟨[], upd_same, ⟨rfl, fun i y r h _ => by simp at h⟩, same_new (Same.refl _) hD⟩ (fun i H4 _ ⟨_, _, _, s4⟩ => .of (s4 _ _ hp3)) ?_ ?_⟩
      · rintro i x H4 H4' hi ⟨ys, hD4, hC4, s4⟩ ⟨rfl, hx⟩
        obtain ⟨b, hbi, rfl⟩ := map_get hx
        have hbm : b ∈ bs := List.mem_mergeSort.mp (List.mem_of_getElem? hbi)
        have hsi : ((bs.mergeSort leB).map Prod.snd)[i]? = some b.2 := by rw [List.getElem?_map, hbi]; rfl
        rw [hsr] at hsi
        obtain ⟨r, hri, e2⟩ := map_get hsi
        have hrm : r ∈ rows n := List.mem_mergeSort.mp (List.mem_of_getElem? hri)
        have hfull := CC_full (rows_CC hrm) h2 (by omega)
        have hb4 := s4 _ _ (s3 _ _ (hb3 b hbm))
        rw [e2, cI_V] at hb4
        refine ⟨rfl, yes_ ⟨_, rfl, fun y dx hy hdx ne => ⟨y, b.1, dx, true, r, rfl, upd_same, .inl (.inl ?_), hfull, fun H5 fr hc => ⟨rfl, ?_⟩⟩⟩⟩
        · rw [upd_ne (ne_of_none hb4 hy), upd_ne (ne_of_none hb4 hdx)]
          exact hb4
        · have s5 : Same H4' H5 := fun c u e => fr c u (by rw [upd_ne (ne_of_none e hy), upd_ne (ne_of_none e hdx)]; exact e) (ne_of_none e hy)
          have hD5 := s5 _ _ hD4
          have hi2 : i < (srows n).length := (List.getElem?_eq_some_iff.mp hri).1
          refine ⟨_, hD5, ?_, ys ++ [y], ?_, ⟨?_, fun j z r' e1 e3 => ?_⟩, same_mut (fun c u e => s5 _ _ (s4 _ _ e)) hD⟩
          · rw [List.length_map, hC4.1, List.length_take]
            exact small_lt (by omega)
          · rw [upd_same, List.map_append]
            rfl
          · rw [List.length_append, hC4.1, List.length_take, List.length_take, List.length_singleton]
            omega
          · have hri2 : (srows n)[i]? = some r := hri
            rw [List.take_succ, hri2] at e3
            have hyl : ys.length = ((srows n).take i).length := hC4.1
            by_cases hj : j < ys.length
            · rw [List.getElem?_append_left hj] at e1
              rw [List.getElem?_append_left (by rw [← hyl]; exact hj)] at e3
              exact codeAt_updL ((hC4.2 j z r' e1 e3).same s5) hD5
            · rw [List.getElem?_append_right (by omega)] at e1
              rw [List.getElem?_append_right (by omega), ← hyl] at e3
              by_cases h0 : j - ys.length = 0
              · rw [h0] at e1 e3
                simp at e1 e3
                rw [← e1, ← e3]
                exact codeAt_updL hc hD5
              · rw [List.getElem?_eq_none (by simp; omega)] at e1
                cases e1
      · rintro H4 ⟨ys, hD4, hC4, s4⟩
        rw [List.length_map, hsl, List.take_length] at hC4
        refine ⟨D, _, rfl, .inl ⟨.of hD4, fun l hl => q _ l ys ?_ upd_same (hC4.same (same_new (Same.refl _) hl))⟩⟩
        exact same_new (fun c u e => s4 _ _ (s3 _ _ (s2 _ _ (s1 _ _ (s0 _ _ e))))) hl
  · exact .inr ⟨h, q⟩
end
end K38
end
section
/-! ## K38R -/
/-! The law's pen. -/
namespace K38
open PySem PySem.Spec PyProof.Rows L2
def kC : Key := Sum.inr "cells"
def kN : Key := Sum.inr "next"
def kL : Key := Sum.inr "left"
def penK (c : Addr) (nx lf : Int) : List (Key × V) := [(kC, .ref c), (kN, .int nx), (kL, .int lf)]
/-- the pen at P: its cells at c; at most n cells read -/
def PenAt (K : PySem.W.Frag) (H : Hp) (P c : Addr) (cs : List Int) (n : Nat) : Prop := ∃ nx lf : Int, H P = some (.dK (penK c nx lf)) ∧ 0 ≤ nx ∧ nx ≤ n ∧ SqL K H c (cs.map V.int)
theorem pen_c (c : Addr) (nx lf : Int) : valV (penK c nx lf) kC = some (.ref c) := by simp [valV, penK, kC]
theorem pen_n (c : Addr) (nx lf : Int) : valV (penK c nx lf) kN = some (.int nx) := by
  rw [penK, valV_neg (by show ¬ (kC = kN); decide +kernel)]
  simp [valV, kN]
theorem pen_l (c : Addr) (nx lf : Int) : valV (penK c nx lf) kL = some (.int lf) := by
  rw [penK, valV_neg (by show ¬ (kC = kL); decide +kernel), valV_neg (by show ¬ (kN = kL); decide +kernel)]
  simp [valV, kL]
theorem pen_pn (c : Addr) (nx lf y : Int) : putK (penK c nx lf) kN (.int y) = penK c y lf := by
  have h1 : ¬ (kC = kN) := by decide +kernel
  have h2 : ¬ (kL = kN) := by decide +kernel
  unfold putK penK
  simp [h1, h2]
theorem pen_pl (c : Addr) (nx lf y : Int) : putK (penK c nx lf) kL (.int y) = penK c nx y := by
  have h1 : ¬ (kC = kL) := by decide +kernel
  have h2 : ¬ (kN = kL) := by decide +kernel
  unfold putK penK
  simp [h1, h2]
theorem dg_c {H : Hp} {P c : Addr} {nx lf : Int} (h : H P = some (.dK (penK c nx lf))) : DGet H P (.str "cells") (some (.ref c)) := by
  have := DGet.k (k := kC) h
  rwa [pen_c] at this
theorem dg_n {H : Hp} {P c : Addr} {nx lf : Int} (h : H P = some (.dK (penK c nx lf))) : DGet H P (.str "next") (some (.int nx)) := by
  have := DGet.k (k := kN) h
  rwa [pen_n] at this
theorem dg_l {H : Hp} {P c : Addr} {nx lf : Int} (h : H P = some (.dK (penK c nx lf))) : DGet H P (.str "left") (some (.int lf)) := by
  have := DGet.k (k := kL) h
  rwa [pen_l] at this
theorem dp_n {H : Hp} {P c : Addr} {nx lf y : Int} (h : H P = some (.dK (penK c nx lf))) : DPut H P (.str "next") (.int y) (upd H P (.dK (penK c y lf))) := by
  have := DPut.k (k := kN) (v := .int y) h (show 3 < sizeLine by decide)
  rwa [pen_pn] at this
theorem dp_l {H : Hp} {P c : Addr} {nx lf y : Int} (h : H P = some (.dK (penK c nx lf))) : DPut H P (.str "left") (.int y) (upd H P (.dK (penK c nx y))) := by
  have := DPut.k (k := kL) (v := .int y) h (show 3 < sizeLine by decide)
  rwa [pen_pl] at this
theorem sqL_dK {K : PySem.W.Frag} {H : Hp} {c P : Addr} {xs : List V} {kvs : List (Key × V)} {o : HO} (h : SqL K H c xs) (hP : H P = some (.dK kvs)) : SqL K (upd H P o) c xs := by
  rcases h with (h | ⟨u, h⟩) | h
  · exact .inl (.inl (by rw [upd_ne (fun e => by rw [e, hP] at h; cases h)]; exact h))
  · exact .inl (.inr ⟨u, by rw [upd_ne (fun e => by rw [e, hP] at h; cases h)]; exact h⟩)
  · exact .inr h
theorem tAnd_of {tA tB : TT} {σ : L2.St} {H : Hp} {Kn : Bool → Hp → Prop} {b1 b2 : Bool} (ha : ∀ Kn : Bool → Hp → Prop, Kn b1 H → tA σ H Kn) (hb : ∀ Kn : Bool → Hp → Prop, Kn b2 H → tB σ H Kn) (k : Kn (b1 && b2) H) : tAnd tA tB σ H Kn := ha _ (by
  cases b1
  · exact k
  · exact hb _ k)
section
variable {w : World} {K : PySem.W.Frag} {mg : Str → Option Value} {base : Heap}
def spDraw (K : PySem.W.Frag) : Sp := fun vs H Q _ => ∃ (P c m n : Nat) (cs : List Int), vs = [.ref P, .int m] ∧ 0 < m ∧ m ≤ 1000000 ∧ n ≤ 1000 ∧ PenAt K H P c cs n ∧
  ∀ (H' : Hp) (d : Nat), d < m → SameB P H H' → PenAt K H' P c cs (n + 1) → Q (nI d) H'
theorem scDraw : FnScope ["_law_pen", "_law_many", "_law_digit", "_law_index", "_law_size", "_law_cell", "_law_mixed"] ["_law_pen", "_law_many"] (defScope sDraw) := ⟨rfl, rfl, rfl, by decide +kernel, rfl, by decide +kernel, by decide +kernel⟩
theorem ok_draw (T : Tx K mg) : Cal PR w K mg base 1 "_law_draw" (spDraw K) := by
  have bInt : bootBuiltins "int" = some (.type "int") := by decide +kernel
  have bAbs : bootBuiltins "abs" = some (.builtin "abs") := by decide +kernel
  refine cal_of T.toTxt (st := sDraw) (N := ["_law_pen", "_law_many", "_law_digit", "_law_index", "_law_size", "_law_cell", "_law_mixed"]) (ps := ["_law_pen", "_law_many"]) (List.mem_of_getElem? (i := 15) rfl) (by decide) scDraw (fun _ _ _ _ _ _ us hl => match us, hl with | [_, _], _ => rfl) (fun vs H Q E h => by
    obtain ⟨P, c, m, n, cs, rfl, _⟩ := h
    rfl) (fun cdv A outer s H vs Q E hr h => ?_)
  obtain ⟨P, c, m, n, cs, rfl, hm0, hm, hn, ⟨nx, lf, hP, hx0, hxn, hS⟩, q⟩ := h
  refine ⟨_, PSs.nox (pss_cons (ps_if (pt_cmpR op_gt (pe_dget (un1 hr) (pv 0) pe_str (fun _ _ => rfl)) pe_int (nomark _))
      (pss_cons (ps_set (i := 2) scDraw.nd rfl (Or.inl rfl) (pe_op op_mod (pe_callTy call_int1 (by rfl) (T.fr _ (by decide)) bInt (pa_cons (pe_dget (un1 hr) (pv 0) pe_str (fun _ _ => rfl)) pa_nil)) (pv 1)))
      (pss_cons (ps_dput (un1 hr) (pv 0) pe_str (pe_op op_fdiv (pe_dget (un1 hr) (pv 0) pe_str (fun _ _ => rfl)) (pv 1)) (by rfl))
      (pss_one (ps_ret (pv 2))))) pss_nil)
    (pss_cons (ps_par (i := 3) (j := 4) rfl scDraw.nd rfl rfl (by decide) rfl rfl (pa_cons (pe_dget (un1 hr) (pv 0) pe_str (fun _ _ => rfl)) (pa_cons (pe_callB call_len (by rfl) (T.fr _ (by decide)) boot_len (pa_cons (pe_dget (un1 hr) (pv 0) pe_str (fun _ _ => rfl)) pa_nil)) pa_nil)) (by rfl))
    (pss_cons (ps_dput (un1 hr) (pv 0) pe_str (pe_op op_add (pv 3) pe_int) (by rfl))
    (pss_cons (ps_if (pt_cmpR op_eq (pv 4) pe_int (nomark _)) (pss_one (ps_ret (pe_op op_mod (pe_callTy call_int1 (by rfl) (T.fr _ (by decide)) bInt (pa_cons (pe_op op_add (pe_op op_mul pe_int (pv 3)) pe_int) pa_nil)) (pv 1)))) pss_nil)
    (pss_cons (ps_set (i := 5) scDraw.nd rfl (Or.inl rfl) (pe_ix ix_list (pe_dget (un1 hr) (pv 0) pe_str (fun _ _ => rfl)) (pe_op op_mod (pe_callTy call_int1 (by rfl) (T.fr _ (by decide)) bInt (pa_cons (pv 3) pa_nil)) (pv 4)) (fun _ _ => rfl)))
    (pss_cons (ps_if (PW.pt (pw_and (pt_cmpR op_lt (pv 3) (pv 4) (nomark _)) (pw_and1 (pt_cmpR op_ge (pe_callB call_abs (by rfl) (T.fr _ (by decide)) bAbs (pa_cons (pv 5) pa_nil)) (pe_op op_pow pe_int pe_int) (nomark _)))))
      (pss_cons (ps_dput (un1 hr) (pv 0) pe_str (pe_op op_fdiv (pe_op op_sub (pe_callB call_abs (by rfl) (T.fr _ (by decide)) bAbs (pa_cons (pv 5) pa_nil)) (pe_op op_pow pe_int pe_int)) (pv 1)) (by rfl))
      (pss_one (ps_ret (pe_op op_mod (pe_callTy call_int1 (by rfl) (T.fr _ (by decide)) bInt (pa_cons (pe_op op_sub (pe_callB call_abs (by rfl) (T.fr _ (by decide)) bAbs (pa_cons (pv 5) pa_nil)) (pe_op op_pow pe_int pe_int)) pa_nil)) (pv 1))))) pss_nil)
    (pss_cons (ps_set (i := 6) scDraw.nd rfl (Or.inl rfl) (pe_op op_add (pe_op op_mul (pe_op op_mod (pe_callTy call_int1 (by rfl) (T.fr _ (by decide)) bInt (pa_cons (pv 5) pa_nil)) pe_int) pe_int) (pe_op op_mul (pe_op op_mul pe_int (pv 3)) (pv 3))))
    (pss_cons (ps_set (i := 6) scDraw.nd rfl (Or.inl rfl) (pe_op op_mod (pe_callTy call_int1 (by rfl) (T.fr _ (by decide)) bInt (pa_cons (pe_op op_add (pe_op op_add (pv 6) (pe_op op_mul pe_int (pv 3))) pe_int) pa_nil)) pe_int))
    (pss_cons (ps_set (i := 6) scDraw.nd rfl (Or.inl rfl) (pe_op op_mod (pe_callTy call_int1 (by rfl) (T.fr _ (by decide)) bInt (pa_cons (pe_op op_add (pe_op op_add (pe_op op_add (pe_op op_mul (pv 6) (pv 6)) (pe_op op_mul pe_int (pv 6))) (pe_op op_mul pe_int (pv 3))) pe_int) pa_nil)) pe_int))
    (pss_one (ps_ret (pe_op op_mod (pe_callTy call_int1 (by rfl) (T.fr _ (by decide)) bInt (pa_cons (pe_op op_fdiv (pe_op op_mod (pe_callTy call_int1 (by rfl) (T.fr _ (by decide)) bInt (pa_cons (pe_op op_mul (pv 6) (pe_op op_add (pv 6) pe_int)) pa_nil)) pe_int) pe_int) pa_nil)) (pv 1))))))))))))), ?_⟩
  have qd : ∀ (x : Int) (H' : Hp), SameB P H H' → PenAt K H' P c cs (n + 1) → Q (.int (x % (m : Int))) H' := fun x H' h1 h2 => by
    have h3 : 0 ≤ x % (m : Int) := Int.emod_nonneg _ (by omega)
    have h4 : x % (m : Int) < m := Int.emod_lt_of_pos _ (by omega)
    have h5 := q H' (x % (m : Int)).toNat (by omega) h1 h2
    unfold nI at h5
    rw [Int.toNat_of_nonneg h3] at h5
    exact h5
  have hmp : (0 : Int) < (m : Int) := by omega
  refine ⟨_, rfl, P, _, rfl, dg_l hP, _, _, rfl, rfl, _, rfl, ?_⟩
  by_cases hl : 0 < lf
  · refine ifT (decide_eq_true hl) ?_
    refine ⟨_, rfl, P, _, rfl, dg_l hP, .inl ⟨lf, rfl, _, rfl, _, _, rfl, rfl, hmp, ?_⟩⟩
    refine ⟨_, rfl, P, _, rfl, dg_l hP, _, rfl, _, _, rfl, rfl, ⟨hmp, by omega⟩, _, rfl, P, _, rfl, dp_l hP, _, rfl, qd lf _ (SameB.refl P H).put ⟨nx, _, upd_same, hx0, by omega, sqL_dK hS hP⟩⟩
  refine ifF (decide_eq_false hl) ?_
  have hcl : (cs.map V.int).length = cs.length := List.length_map _
  refine ⟨_, rfl, P, _, rfl, dg_n hP, _, rfl, P, _, rfl, dg_c hP, _, cs.length, rfl, .inl ⟨_, hS, hcl.symm⟩, _, _, rfl, ?_⟩
  have hP2 : (upd H P (.dK (penK c (nx + 1) lf))) P = some (.dK (penK c (nx + 1) lf)) := upd_same
  have hS2 : SqL K (upd H P (.dK (penK c (nx + 1) lf))) c (cs.map V.int) := sqL_dK hS hP
  have sb2 : SameB P H (upd H P (.dK (penK c (nx + 1) lf))) := (SameB.refl P H).put
  refine ⟨_, rfl, _, _, rfl, rfl, _, rfl, P, _, rfl, dp_n hP, ?_⟩
  generalize upd H P (.dK (penK c (nx + 1) lf)) = H2 at *
  have pen2 : PenAt K H2 P c cs (n + 1) := ⟨nx + 1, lf, hP2, by omega, by omega, hS2⟩
  refine ⟨_, rfl, rfl, _, rfl, ?_⟩
  by_cases h0 : cs.length = 0
  · refine ifT (by rw [h0]; decide) ?_
    exact ⟨_, rfl, _, _, rfl, rfl, .inl ⟨by decide, by decide⟩, _, _, rfl, rfl, .inl ⟨_, rfl, _, rfl, _, _, rfl, rfl, hmp, qd _ _ sb2 pen2⟩⟩
  refine ifF (decide_eq_false (fun z => h0 (by have := V.int.inj z; omega))) ?_
  have hsp : (0 : Int) < (cs.length : Int) := by omega
  have hi0 : 0 ≤ nx % (cs.length : Int) := Int.emod_nonneg _ (by omega)
  have hi1 : nx % (cs.length : Int) < cs.length := Int.emod_lt_of_pos _ hsp
  obtain ⟨cell, hcell⟩ : ∃ cell, cs[(nx % (cs.length : Int)).toNat]? = some cell := ⟨_, List.getElem?_eq_getElem (by omega)⟩
  have hat : atI (cs.map V.int) (nx % (cs.length : Int)) = some (.int cell) := by
    have := atI_nat (xs := cs.map V.int) (i := (nx % (cs.length : Int)).toNat) (v := .int cell) (by rw [List.getElem?_map, hcell]; rfl)
    rwa [Int.zero_add, Int.toNat_of_nonneg hi0] at this
  refine ⟨_, rfl, P, _, rfl, dg_c hP2, _, rfl, .inl ⟨nx, rfl, _, rfl, _, _, rfl, rfl, hsp, c, _, _, _, rfl, rfl, hS2, hat, ?_⟩⟩
  dsimp only [gName, tSeq, tIfS]
  refine tAnd_of (b1 := decide (nx < (cs.length : Int))) (b2 := decide ((10 : Int) ^ (18 : Int).toNat ≤ (if cell < 0 then -cell else cell))) ?_ ?_ ?_
  · exact fun Kn k => ⟨_, rfl, _, rfl, _, _, rfl, rfl, _, rfl, k⟩
  · exact fun Kn k => ⟨_, rfl, cell, rfl, _, _, rfl, rfl, ⟨by decide, by decide, by decide⟩, _, _, rfl, rfl, _, rfl, k⟩
  cases hb : (decide (nx < (cs.length : Int)) && decide ((10 : Int) ^ (18 : Int).toNat ≤ (if cell < 0 then -cell else cell))) with
  | true =>
    refine ifT rfl ?_
    refine ⟨_, rfl, cell, rfl, _, _, rfl, rfl, ⟨by decide, by decide, by decide⟩, _, _, rfl, rfl, _, rfl, _, _, rfl, rfl, ⟨hmp, by omega⟩, _, rfl, P, _, rfl, dp_l hP2, ?_⟩
    exact ⟨_, rfl, cell, rfl, _, _, rfl, rfl, ⟨by decide, by decide, by decide⟩, _, _, rfl, rfl, .inl ⟨_, rfl, _, rfl, _, _, rfl, rfl, hmp, qd _ _ sb2.put ⟨nx + 1, _, upd_same, by omega, by omega, sqL_dK hS2 hP2⟩⟩⟩
  | false =>
    refine ifF rfl ?_
    have bd : ∀ (x M : Int), 0 < M → M ≤ 4294967296 → 0 ≤ x % M ∧ x % M < 4294967296 := fun x M h1 h2 => ⟨Int.emod_nonneg _ (by omega), by have := Int.emod_lt_of_pos x h1; omega⟩
    refine ⟨_, rfl, .inl ⟨cell, rfl, _, _, rfl, rfl, (by show (0 : Int) < 4294967197; decide), _, _, rfl, rfl, .inr ⟨by decide, by decide⟩, _, rfl, _, _, rfl, rfl, .inl ⟨by decide, by decide⟩, _, rfl, _, _, rfl, rfl, .inr ⟨by omega, by omega⟩, _, _, rfl, rfl, ?_⟩⟩
    refine ⟨_, rfl, _, rfl, _, _, rfl, rfl, .inl ⟨by decide, by decide⟩, _, _, rfl, rfl, _, _, rfl, rfl, .inl ⟨_, rfl, _, _, rfl, rfl, (by show (0 : Int) < 4294967189; decide), ?_⟩⟩
    generalize hx1 : (cell % 4294967197 * 52711 + 20353 * nx * nx + 1531 * nx + 11) % 4294967189 = x1
    have b1 := bd (cell % 4294967197 * 52711 + 20353 * nx * nx + 1531 * nx + 11) 4294967189 (by decide) (by decide)
    rw [hx1] at b1
    refine ⟨_, rfl, _, rfl, _, _, rfl, rfl, .inl ⟨by omega, by omega⟩, _, rfl, _, _, rfl, rfl, .inl ⟨by decide, by decide⟩, _, _, rfl, rfl, _, rfl, _, _, rfl, rfl, .inl ⟨by decide, by decide⟩, _, _, rfl, rfl, _, _, rfl, rfl, .inl ⟨_, rfl, _, _, rfl, rfl, (by show (0 : Int) < 4294967161; decide), ?_⟩⟩
    generalize hx2 : (x1 * x1 + 68903 * x1 + 23 * nx + 7) % 4294967161 = x2
    have b2 := bd (x1 * x1 + 68903 * x1 + 23 * nx + 7) 4294967161 (by decide) (by decide)
    rw [hx2] at b2
    exact ⟨_, rfl, _, rfl, _, _, rfl, rfl, _, _, rfl, rfl, .inl ⟨by omega, by omega⟩, .inl ⟨_, rfl, _, _, rfl, rfl, (by show (0 : Int) < 4294967143; decide), _, _, rfl, rfl, ⟨by decide, by decide⟩, .inl ⟨_, rfl, _, rfl, _, _, rfl, rfl, hmp, qd _ _ sb2 pen2⟩⟩⟩
end
end K38
end
section
/-! ## K38S -/
/-! pen_of, pick, counts_of, law_cost. -/
namespace K38
open PySem PySem.Spec PyProof.Rows L2
theorem sqA_sameB {b : Bool} {K : PySem.W.Frag} {H H' : Hp} {a P : Addr} {xs : List V} {kvs : List (Key × V)} (h : SqA b K H a xs) (hP : H P = some (.dK kvs)) (s : SameB P H H') : SqA b K H' a xs := by
  cases b
  · rcases h with (h | ⟨u, h⟩) | h
    · exact .inl (.inl (s _ _ h (fun e => by rw [e, hP] at h; cases h)))
    · exact .inl (.inr ⟨u, s _ _ h (fun e => by rw [e, hP] at h; cases h)⟩)
    · exact .inr h
  · rcases h with (h | ⟨u, h⟩) | h
    · exact .inl (.inl (s _ _ h (fun e => by rw [e, hP] at h; cases h)))
    · exact .inl (.inr ⟨u, s _ _ h (fun e => by rw [e, hP] at h; cases h)⟩)
    · exact .inr h
theorem PenAt.at_ {K : PySem.W.Frag} {H : Hp} {P c : Addr} {cs : List Int} {n : Nat} (p : PenAt K H P c cs n) : ∃ kvs, H P = some (.dK kvs) := by
  obtain ⟨nx, lf, h, _⟩ := p
  exact ⟨_, h⟩
theorem PenAt.same {K : PySem.W.Frag} {H H' : Hp} {P c : Addr} {cs : List Int} {n : Nat} (p : PenAt K H P c cs n) (s : Same H H') : PenAt K H' P c cs n := by
  obtain ⟨nx, lf, h, h0, h1, h2⟩ := p
  exact ⟨nx, lf, s _ _ h, h0, h1, SqL.of_same s h2⟩
theorem PenAt.le {K : PySem.W.Frag} {H : Hp} {P c : Addr} {cs : List Int} {n m : Nat} (p : PenAt K H P c cs n) (h : n ≤ m) : PenAt K H P c cs m := by
  obtain ⟨nx, lf, h1, h2, h3, h4⟩ := p
  exact ⟨nx, lf, h1, h2, by omega, h4⟩
section
variable {w : World} {K : PySem.W.Frag} {mg : Str → Option Value} {base : Heap}
def spPenOf (K : PySem.W.Frag) : Sp := fun vs H Q _ => ∃ (a : Addr) (ns : List Int), vs = [.ref a] ∧ SqL K H a (ns.map V.int) ∧ ∀ (H' : Hp) (P c : Addr) (cs : List Int), Same H H' → PenAt K H' P c cs 0 → Q (.ref P) H'
theorem scPenOf : FnScope ["_law_script"] ["_law_script"] (defScope sPenOf) := ⟨rfl, rfl, rfl, by decide +kernel, rfl, by decide +kernel, by decide +kernel⟩
theorem ok_pen_of (T : Tx K mg) : Cal PR w K mg base 1 "_law_pen_of" (spPenOf K) := by
  refine cal_of T.toTxt (st := sPenOf) (N := ["_law_script"]) (ps := ["_law_script"]) (List.mem_of_getElem? (i := 14) rfl) (by decide) scPenOf (fun _ _ _ _ _ _ us hl => match us, hl with | [_], _ => rfl) (fun vs H Q E h => by
    obtain ⟨a, ns, rfl, _⟩ := h
    rfl) (fun cdv A outer s H vs Q E hr h => ?_)
  obtain ⟨a, ns, rfl, hS, q⟩ := h
  refine ⟨_, PSs.nox (pss_one (ps_ret (pe_disp (pps_cons pe_str (pe_callTy call_list_of (by rfl) (T.fr _ (by decide)) (by decide +kernel) (pa_cons (pe_slice sl_list (pv 0) po_none (po_some pe_int)) pa_nil))
    (pps_cons pe_str pe_int (pps_cons pe_str pe_int pps_nil))) rfl rfl (by decide) (by decide)))), ?_⟩
  intro P hP
  refine ⟨_, rfl, _, rfl, a, ns.map V.int, rfl, SqL.of_same (same_new (Same.refl _) hP) hS, fun p hp => ⟨p, _, rfl, .inl (.of upd_same), fun c hc => ?_⟩⟩
  have s1 : Same H (upd H P (.dK [])) := same_new (Same.refl _) hP
  have hpP : P ≠ p := ne_of_none upd_same hp
  have hP2 : (upd (upd (upd H P (.dK [])) p (.lst (cutV (ns.map V.int) none (some 63)))) c (.lst (cutV (ns.map V.int) none (some 63)))) P = some (.dK []) := by
    have h1 : (upd (upd H P (.dK [])) p (.lst (cutV (ns.map V.int) none (some 63)))) P = some (.dK []) := by
      rw [upd_ne hpP]
      exact upd_same
    rw [upd_ne (ne_of_none h1 hc)]
    exact h1
  refine ⟨hP2, penK c 0 0, rfl, by show 3 ≤ 15; decide, ?_⟩
  have e1 : mergeK [] (penK c 0 0) = penK c 0 0 := by
    have := merge_app (penK c 0 0) [] (by
      show ([kC, kN, kL] : List Key).Nodup
      decide +kernel)
    exact this
  rw [e1]
  have s2 : Same H (upd (upd (upd H P (.dK [])) p (.lst (cutV (ns.map V.int) none (some 63)))) c (.lst (cutV (ns.map V.int) none (some 63)))) := same_new (same_new s1 hp) hc
  have ecut : ∃ cs : List Int, cutV (ns.map V.int) none (some 63) = cs.map V.int := by
    unfold cutV
    refine ⟨(ns.drop (HT.sIx (ns.map V.int).length 0 none)).take (HT.sIx (ns.map V.int).length (ns.map V.int).length (some 63) - HT.sIx (ns.map V.int).length 0 none), ?_⟩
    rw [List.map_take, List.map_drop]
  obtain ⟨cs, ecs⟩ := ecut
  rw [ecs] at hP2 s2 ⊢
  have hcP : c ≠ P := fun e => by rw [e, upd_ne hpP, upd_same] at hc; cases hc
  exact q _ P c cs (same_mut s2 hP) ⟨0, 0, upd_same, Int.le_refl 0, Int.le_refl 0, .inl (.inl (by rw [upd_ne hcP]; exact upd_same))⟩
def spPick (K : PySem.W.Frag) : Sp := fun vs H Q _ => ∃ (P c a n : Nat) (cs : List Int) (b : Bool) (xs : List V), vs = [.ref P, .ref a] ∧ SqA b K H a xs ∧ 0 < xs.length ∧ xs.length ≤ 1000000 ∧ n ≤ 1000 ∧ PenAt K H P c cs n ∧
  ∀ (H' : Hp) (i : Nat) (x : V), xs[i]? = some x → SameB P H H' → PenAt K H' P c cs (n + 1) → Q x H'
theorem scPick : FnScope ["_law_pen", "_law_items"] ["_law_pen", "_law_items"] (defScope sPick) := ⟨rfl, rfl, rfl, by decide +kernel, rfl, by decide +kernel, by decide +kernel⟩
theorem ok_pick (T : Tx K mg) : Cal PR w K mg base 2 "_law_pick" (spPick K) := by
  refine cal_of T.toTxt (st := sPick) (N := ["_law_pen", "_law_items"]) (ps := ["_law_pen", "_law_items"]) (List.mem_of_getElem? (i := 16) rfl) (by decide) scPick (fun _ _ _ _ _ _ us hl => match us, hl with | [_, _], _ => rfl) (fun vs H Q E h => by
    obtain ⟨P, c, a, n, cs, b, xs, rfl, _⟩ := h
    rfl) (fun cdv A outer s H vs Q E hr h => ?_)
  obtain ⟨P, c, a, n, cs, b, xs, rfl, hS, hx0, hx1, hn, hp, q⟩ := h
  refine ⟨_, PSs.nox (pss_one (ps_ret (pe_ix (IxR.or ix_list ix_tup) (pv 1) (pe_x (ok_draw T) hr (Nat.le_refl _) passL (pa_cons (pv 0) (pa_cons (pe_callB call_len (by rfl) (T.fr _ (by decide)) boot_len (pa_cons (pv 1) pa_nil)) pa_nil))) (fun _ _ => rfl)))), ?_⟩
  obtain ⟨kvs, hP⟩ := hp.at_
  refine ⟨_, rfl, _, rfl, _, rfl, _, xs.length, rfl, ?_, P, c, xs.length, n, cs, rfl, hx0, hx1, hn, hp, fun H' d hd sb hp2 => ?_⟩
  · cases b
    · exact .inr ⟨xs, hS, rfl⟩
    · exact .inl ⟨xs, hS, rfl⟩
  · have hS2 := sqA_sameB hS hP sb
    have hxd : xs[d]? = some xs[d] := List.getElem?_eq_getElem hd
    have hat : atI xs (d : Int) = some xs[d] := by
      have := atI_nat hxd
      rwa [Int.zero_add] at this
    cases b
    · exact .inr ⟨a, xs, (d : Int), _, rfl, rfl, hS2, hat, q H' d _ hxd sb hp2⟩
    · exact .inl ⟨a, xs, (d : Int), _, rfl, rfl, hS2, hat, q H' d _ hxd sb hp2⟩
def spCountsOf (K : PySem.W.Frag) : Sp := fun vs H Q _ => ∃ (P c m n : Nat) (cs : List Int), vs = [.ref P, .int m] ∧ m ≤ 20 ∧ n ≤ 900 ∧ PenAt K H P c cs n ∧
  ∀ (H' : Hp) (p : Addr) (ns : List Int), ns.length = m → (∀ x ∈ ns, 0 ≤ x) → SameB P H H' → H p = none → H' p = some (.lst (ns.map V.int)) → PenAt K H' P c cs (n + 1 + m) → Q (.ref p) H'
theorem scCountsOf : FnScope ["_law_pen", "_law_many", "_law_way", "_law_found", "_law_k", "_law_small", "_law_power"] ["_law_pen", "_law_many"] (defScope sCountsOf) := ⟨rfl, rfl, rfl, by decide +kernel, rfl, by decide +kernel, by decide +kernel⟩
theorem ok_counts_of (T : Tx K mg) : Cal PR w K mg base 2 "_law_counts_of" (spCountsOf K) := by
  refine cal_of T.toTxt (st := sCountsOf) (N := ["_law_pen", "_law_many", "_law_way", "_law_found", "_law_k", "_law_small", "_law_power"]) (ps := ["_law_pen", "_law_many"]) (List.mem_of_getElem? (i := 17) rfl) (by decide) scCountsOf (fun _ _ _ _ _ _ us hl => match us, hl with | [_, _], _ => rfl) (fun vs H Q E h => by
    obtain ⟨P, c, m, n, cs, rfl, _⟩ := h
    rfl) (fun cdv A outer s H vs Q E hr h => ?_)
  obtain ⟨P, c, m, n, cs, rfl, hm, hn, hp, q⟩ := h
  refine ⟨_, PSs.nox (pss_cons (ps_par (i := 2) (j := 3) rfl scCountsOf.nd rfl rfl (by decide) rfl rfl (pa_cons (pe_x (ok_draw T) hr (Nat.le_refl _) passL (pa_cons (pv 0) (pa_cons pe_int pa_nil))) (pa_cons (pe_lst pa_nil) pa_nil)) (by rfl))
    (pss_cons (ps_for PassesOwn.never rfl (pi_range1 (by rfl) (T.fr _ (by decide)) (pa_cons (pv 1) pa_nil)) (pg_name (i := 4) scCountsOf.nd rfl (Or.inl rfl))
      (pss_cons (ps_set (i := 5) scCountsOf.nd rfl (Or.inl rfl) (pe_x (ok_draw T) hr (Nat.le_refl _) passL (pa_cons (pv 0) (pa_cons pe_int pa_nil))))
      (pss_cons (ps_set (i := 6) scCountsOf.nd rfl (Or.inl rfl) (pe_ix ix_list (pe_lst (pa_cons pe_int (pa_cons pe_int (pa_cons pe_int (pa_cons pe_int (pa_cons pe_int (pa_cons pe_int (pa_cons pe_int (pa_cons pe_int (pa_cons pe_int (pa_cons pe_int pa_nil))))))))))) (pv 5) (fun _ _ => rfl)))
      (pss_one (ps_expr (pe_bm PySem.F.plainAttrs_list PySem.F.slot_list_append PySem.F.type_list_append mt_append (pv 3) (pa_cons (pe_ix ix_list (pe_lst (pa_cons (pv 5) (pa_cons (pe_op op_add pe_int (pe_op op_mod (pv 5) pe_int)) (pa_cons (pv 6)
        (pa_cons (pe_op op_add (pe_op op_mul (pv 5) (pe_op op_pow pe_int pe_int)) pe_int) (pa_cons (pe_op op_mul (pv 5) (pv 5)) pa_nil)))))) (pv 2) (fun _ _ => rfl)) pa_nil)))))))
    (pss_one (ps_ret (pv 3))))), ?_⟩
  obtain ⟨kvs, hP⟩ := hp.at_
  refine ⟨_, rfl, P, c, 5, n, cs, rfl, by decide, by decide, by omega, hp, fun H1 wd hwd sb1 hp1 => ⟨Nat.zero_le _, fun F hF => ⟨_, _, rfl, ?_⟩⟩⟩
  have hFP : F ≠ P := fun e => by
    obtain ⟨k1, e1⟩ := hp1.at_
    rw [e, e1] at hF
    cases hF
  have hFH : H F = none := by
    cases e : H F with
    | none => rfl
    | some u => rw [sb1 _ _ e hFP] at hF; cases hF
  refine ⟨_, rfl, (m : Int), rfl, by omega, by omega, for_range (lo := 0) (n := m) (fun i σ H2 => ∃ (v4 v5 v6 : Option V) (ns : List Int), σ = [some (.ref P), some (.int m), some (nI wd), some (.ref F), v4, v5, v6] ∧ H2 F = some (.lst (ns.map V.int)) ∧ ns.length = i ∧ (∀ x ∈ ns, 0 ≤ x) ∧ SameB P H H2 ∧ PenAt K H2 P c cs (n + 1 + i))
    ⟨none, none, none, [], rfl, upd_same, rfl, fun x h => (by cases h), SameB.trans sb1 (SameB.of (same_new (Same.refl _) hF)), hp1.same (same_new (Same.refl _) hF)⟩ ?_ ?_⟩
  · rintro i σ H2 hi ⟨v4, v5, v6, ns, rfl, hF2, hln, hns, sb2, hp2⟩
    refine ⟨_, rfl, P, c, 10, n + 1 + i, cs, rfl, by decide, by decide, by omega, hp2, fun H3 d hd sb3 hp3 => ?_⟩
    have hF3 := sb3 _ _ hF2 hFP
    obtain ⟨x, hx, hx0⟩ : ∃ x : Int, atI [V.int 1, V.int 1, V.int 2, V.int 4, V.int 8, V.int 16, V.int 32, V.int 64, V.int 128, V.int 256] (d : Int) = some (.int x) ∧ 0 ≤ x := by
      have : d = 0 ∨ d = 1 ∨ d = 2 ∨ d = 3 ∨ d = 4 ∨ d = 5 ∨ d = 6 ∨ d = 7 ∨ d = 8 ∨ d = 9 := by omega
      rcases this with rfl | rfl | rfl | rfl | rfl | rfl | rfl | rfl | rfl | rfl <;> exact ⟨_, rfl, by decide⟩
    refine ⟨(by show 10 ≤ sizeLine; decide), fun l hl => ⟨_, rfl, l, _, (d : Int), .int x, rfl, rfl, .of upd_same, hx, ?_⟩⟩
    have s4 : Same H3 (upd H3 l (.lst [V.int 1, V.int 1, V.int 2, V.int 4, V.int 8, V.int 16, V.int 32, V.int 64, V.int 128, V.int 256])) := same_new (Same.refl _) hl
    have hF4 := s4 _ _ hF3
    have hp4 := hp3.same s4
    have sb4 : SameB P H (upd H3 l (.lst [V.int 1, V.int 1, V.int 2, V.int 4, V.int 8, V.int 16, V.int 32, V.int 64, V.int 128, V.int 256])) := SameB.trans (SameB.trans sb2 sb3) (SameB.of s4)
    refine ⟨_, rfl, .inl ⟨rfl, _, .of hF4⟩, ?_⟩
    refine ⟨_, rfl, _, rfl, _, _, rfl, rfl, (by show (0 : Int) < 2; decide), _, _, rfl, rfl, _, rfl, _, rfl, _, _, rfl, rfl, ⟨by decide, by decide, by decide⟩, _, _, rfl, rfl, .inl ⟨by omega, by omega⟩, _, _, rfl, rfl, _, rfl, _, rfl, _, _, rfl, rfl, .inl ⟨by omega, by omega⟩, (by show 5 ≤ sizeLine; decide), fun l2 hl2 => ?_⟩
    generalize upd H3 l (.lst [V.int 1, V.int 1, V.int 2, V.int 4, V.int 8, V.int 16, V.int 32, V.int 64, V.int 128, V.int 256]) = H4 at *
    have hd0 : 0 ≤ (d : Int) * 10 ^ (28 : Int).toNat := Int.mul_nonneg (by omega) (by decide)
    have hd1 : 0 ≤ (d : Int) * (d : Int) := Int.mul_nonneg (by omega) (by omega)
    obtain ⟨z, hz, hz0⟩ : ∃ z : Int, atI [V.int (d : Int), V.int (1 + (d : Int) % 2), V.int x, V.int ((d : Int) * 10 ^ (28 : Int).toNat + 5), V.int ((d : Int) * (d : Int))] (wd : Int) = some (.int z) ∧ 0 ≤ z := by
      have : wd = 0 ∨ wd = 1 ∨ wd = 2 ∨ wd = 3 ∨ wd = 4 := by omega
      rcases this with rfl | rfl | rfl | rfl | rfl
      · exact ⟨_, rfl, by omega⟩
      · exact ⟨_, rfl, by omega⟩
      · exact ⟨_, rfl, hx0⟩
      · exact ⟨_, rfl, by omega⟩
      · exact ⟨_, rfl, hd1⟩
    have s5 := same_new (o := .lst [V.int (d : Int), V.int (1 + (d : Int) % 2), V.int x, V.int ((d : Int) * 10 ^ (28 : Int).toNat + 5), V.int ((d : Int) * (d : Int))]) (Same.refl H4) hl2
    refine ⟨_, rfl, l2, _, (wd : Int), .int z, rfl, rfl, .of upd_same, hz, F, _, _, rfl, rfl, s5 _ _ hF4, ?_, _, _, _, ns ++ [z], rfl, ?_, ?_, fun y hy => ?_, ?_, ?_⟩
    · rw [List.length_map, hln]
      exact small_lt (by omega)
    · rw [upd_same, List.map_append]
      rfl
    · rw [List.length_append, hln]
      rfl
    · rcases List.mem_append.mp hy with hy | hy
      · exact hns y hy
      · rw [List.mem_singleton.mp hy]
        exact hz0
    · exact fun b u e ne => by
        rw [upd_ne (ne_of_none e hFH)]
        exact s5 _ _ (sb4 b u e ne)
    · obtain ⟨nx, lf, g1, g2, g3, g4⟩ := hp4.same s5
      refine ⟨nx, lf, by rw [upd_ne (Ne.symm hFP)]; exact g1, g2, by omega, ?_⟩
      obtain ⟨_, _, _, _, _, h9⟩ := hp
      exact sqA_sameB (b := true) h9 hP (fun b u e ne => by
        rw [upd_ne (ne_of_none e hFH)]
        exact s5 _ _ (sb4 b u e ne))
  · rintro σ H2 ⟨v4, v5, v6, ns, rfl, hF2, hl2, hns, sb2, hp2⟩
    exact ⟨_, rfl, q H2 F ns hl2 hns sb2 hFH hF2 hp2⟩
def spLawCost (K : PySem.W.Frag) : Sp := fun vs H Q _ => ∃ (t a : Addr) (ls : List Nat) (ns : List Int), vs = [.ref t, .ref a] ∧ SqT K H t (ls.map nI) ∧ SqL K H a (ns.map V.int) ∧ ns.length = ls.length ∧ ls.length ≤ 1000 ∧ (∀ l ∈ ls, l ≤ 60) ∧ ∀ H', Same H H' → Q (.int (costI ns ls)) H'
theorem scLawCost : FnScope ["_law_lengths", "_law_counts", "_law_count", "_law_length"] ["_law_lengths", "_law_counts"] (defScope sLawCost) := ⟨rfl, rfl, rfl, by decide +kernel, rfl, by decide +kernel, by decide +kernel⟩
theorem ok_law_cost (T : Tx K mg) : Cal PR w K mg base 1 "_law_cost" (spLawCost K) := by
  refine cal_of T.toTxt (st := sLawCost) (N := ["_law_lengths", "_law_counts", "_law_count", "_law_length"]) (ps := ["_law_lengths", "_law_counts"]) (List.mem_of_getElem? (i := 18) rfl) (by decide) scLawCost (fun _ _ _ _ _ _ us hl => match us, hl with | [_, _], _ => rfl) (fun vs H Q E h => by
    obtain ⟨y, a, ls, ns, rfl, _⟩ := h
    rfl) (fun cdv A outer s H vs Q E hr h => ?_)
  obtain ⟨t, a, ls, ns, rfl, hT, hS, he, h1000, hle, q⟩ := h
  refine ⟨_, PSs.nox (pss_one (ps_ret (pe_callB (cr_sum rfl) (by rfl) (T.fr _ (by decide)) (by decide +kernel) (pa_cons (pe_lc rfl scLawCost.nd (pi_zipB (by rfl) (T.fr _ (by decide)) (pa_cons (pv 1) (pa_cons (pv 0) pa_nil))) (own := [("_law_count", 2), ("_law_length", 3)]) (blkOk_by (by rfl))
          (fun _ _ _ _ _ => pg_two (i := 2) (j := 3) (K := K) rfl rfl scLawCost.nd rfl rfl (Or.inl rfl) (Or.inl rfl) (Or.inr rfl) (Or.inr rfl))
          (fun _ _ _ _ _ => pts_nil) (fun _ _ _ _ _ => pe_op op_mul (pv 2) (pv 3))) pa_nil)))), ?_⟩
  have hlen : (ns.map V.int).length = ns.length := List.length_map _
  refine ⟨_, rfl, _, rfl, true, false, a, t, _, _, rfl, hS, hT, fun D hD => lc_it (walk_zipA (b := true) (c := false) (K := K) (a := a) (d := t) (xs := ns.map V.int) (ys := ls.map nI) (by rw [hlen, List.length_map, he])) (fun i H3 => H3 D = some (.lst ((((ns.zip ls).take i).map fun p => p.1 * (p.2 : Int)).map V.int)) ∧ Same H H3)
    ⟨upd_same, same_new (Same.refl _) hD⟩ (fun i H3 _ ⟨_, s3⟩ => ⟨SqL.of_same s3 hS, sqT_same s3 hT⟩) ?_ ?_⟩
  · rintro i x H3 H4 hi ⟨hD3, s3⟩ ⟨t2, x1, y1, rfl, ht2, rfl, e1, e2⟩
    obtain ⟨n, hn, rfl⟩ := map_get e1
    obtain ⟨l, hl, rfl⟩ := map_get e2
    have hl60 := hle l (List.mem_of_getElem? hl)
    rw [hlen] at hi
    have hD4 : (upd H3 t2 (.tup [V.int n, nI l])) D = some (.lst ((((ns.zip ls).take i).map fun p => p.1 * (p.2 : Int)).map V.int)) := by rw [upd_ne (ne_of_none hD3 ht2)]; exact hD3
    refine ⟨t2, _, rfl, .of upd_same, rfl, _, _, rfl, _, _, rfl, rfl, rfl, yes_ ⟨_, rfl, _, rfl, _, _, rfl, rfl, .inr ⟨by omega, by omega⟩, _, hD4, ?_, ?_, same_mut (same_new s3 ht2) hD⟩⟩
    · rw [List.length_map, List.length_map, List.length_take]
      exact small_lt (by omega)
    · have hz : (ns.zip ls)[i]? = some (n, l) := by
        rw [List.getElem?_zip_eq_some]
        exact ⟨hn, hl⟩
      rw [upd_same, List.take_succ, hz]
      simp
  · rintro H3 ⟨hD3, s3⟩
    have hz : (ns.zip ls).take (ns.map V.int).length = ns.zip ls := List.take_of_length_le (by rw [List.length_zip, hlen]; omega)
    rw [hz] at hD3
    exact ⟨D, _, rfl, .of hD3, q H3 s3⟩
end
end K38
end
section
/-! ## K38T -/
/-! _law_all. -/
namespace K38
open PySem PySem.Spec PyProof.Rows L2
theorem rev_ind {α : Type} {P : List α → Prop} (h0 : P []) (hs : ∀ L x, P L → P (L ++ [x])) : ∀ L, P L := fun L => by
  have key : ∀ M : List α, P M.reverse := fun M => by
    induction M with
    | nil => exact h0
    | cons x M ih =>
      rw [List.reverse_cons]
      exact hs _ _ ih
  have := key L.reverse
  rwa [List.reverse_reverse] at this
/-! ### mirror -/
def dd (L : List (List Nat)) : List (List Nat) := L.foldl (fun acc r => if r ∈ acc then acc else acc ++ [r]) []
theorem dd_snoc (L : List (List Nat)) (r : List Nat) : dd (L ++ [r]) = if r ∈ dd L then dd L else dd L ++ [r] := by
  unfold dd
  rw [List.foldl_append]
  rfl
theorem dd_spec (L : List (List Nat)) : (dd L).Nodup ∧ ∀ r, r ∈ dd L ↔ r ∈ L := by
  refine rev_ind (P := fun L => (dd L).Nodup ∧ ∀ r, r ∈ dd L ↔ r ∈ L) ?_ ?_ L
  · exact ⟨List.nodup_nil, fun r => Iff.rfl⟩
  · intro L x ih
    obtain ⟨h1, h2⟩ := ih
    rw [dd_snoc]
    by_cases h : x ∈ dd L
    · rw [if_pos h]
      refine ⟨h1, fun r => ?_⟩
      rw [h2, List.mem_append, List.mem_singleton]
      exact ⟨.inl, fun hh => hh.elim id fun e => e ▸ (h2 x).mp h⟩
    · rw [if_neg h]
      refine ⟨List.nodup_append.mpr ⟨h1, by simp, fun a ha b hb e => ?_⟩, fun r => ?_⟩
      · rw [List.mem_singleton] at hb
        exact h (hb ▸ e ▸ ha)
      · rw [List.mem_append, List.mem_append, h2]
def kT (r : List Nat) : List Key := r.map fun x : Nat => (Sum.inl (x : Int) : Key)
theorem kT_V (r : List Nat) : (kT r).map kV = enc r := by
  unfold kT enc
  rw [List.map_map]
  rfl
theorem kT_inj {a b : List Nat} (h : kT a = kT b) : a = b := by
  unfold kT at h
  exact (List.map_inj_right (fun x y e => by have := Sum.inl.inj e; omega)).mp h
def dK (L : List (List Nat)) : List (List Key × V) := L.foldl (fun acc r => putK acc (kT r) (.bl true)) []
theorem dK_snoc (L : List (List Nat)) (r : List Nat) : dK (L ++ [r]) = putK (dK L) (kT r) (.bl true) := by
  unfold dK
  rw [List.foldl_append]
  rfl
theorem dK_keys (L : List (List Nat)) : (dK L).map Prod.fst = (dd L).map kT := by
  refine rev_ind (P := fun L => (dK L).map Prod.fst = (dd L).map kT) rfl ?_ L
  · intro L x ih
    rw [dK_snoc, dd_snoc, putK_keys, ih]
    have e : kT x ∈ (dd L).map kT ↔ x ∈ dd L := ⟨fun h => by
      obtain ⟨y, hy, e⟩ := List.mem_map.mp h
      rw [← kT_inj e]
      exact hy, fun h => List.mem_map.mpr ⟨x, h, rfl⟩⟩
    by_cases h : x ∈ dd L
    · rw [if_pos (e.mpr h), if_pos h]
    · rw [if_neg (fun z => h (e.mp z)), if_neg h, List.map_append]
      rfl
theorem srows_mem {n : Nat} (h2 : 2 ≤ n) (h7 : n ≤ 7) (r : List Nat) : r ∈ srows n ↔ CC n r := by
  unfold srows
  rw [List.mem_mergeSort]
  exact ⟨rows_CC, fun h => CC_rows h h2 h7⟩
theorem srows_2 : srows 2 = [[1, 1]] := by decide +kernel
theorem leNn_trans (a b c : List Nat) (h1 : leNn a b = true) (h2 : leNn b c = true) : leNn a c = true := by
  unfold leNn at *
  rw [decide_eq_true_eq] at *
  exact List.le_trans h1 h2
theorem leNn_total (a b : List Nat) : (leNn a b || leNn b a) = true := by
  unfold leNn
  rw [Bool.or_eq_true, decide_eq_true_eq, decide_eq_true_eq]
  exact List.le_total a b
/-- entries stay below the length -/
theorem srows_small : ∀ (i : Nat), i + 2 ≤ 7 → ∀ r ∈ srows (i + 2), ∀ l ∈ r, l + 1 ≤ i + 2
  | 0, _, r, hr, l, hl => by
    rw [show 0 + 2 = 2 from rfl, srows_2] at hr
    rw [List.mem_singleton.mp hr] at hl
    simp at hl
    omega
  | i + 1, h, r, hr, l, hl => by
    have hc := (srows_mem (n := i + 1 + 2) (by omega) h r).mp hr
    obtain ⟨row, h1, h2⟩ := CC_kid (s := i + 2) hc (by omega)
    have h3 := (srows_mem (n := i + 2) (by omega) (by omega) row).mpr h1
    exact (kid_CC h1 (srows_small i (by omega) row h3) (by omega) h2).2 l hl
theorem gen_mem {i : Nat} (h : i + 3 ≤ 7) (r : List Nat) : r ∈ gen (i + 2) (srows (i + 2)) ↔ CC (i + 3) r := by
  unfold gen
  rw [List.mem_flatMap]
  refine ⟨fun ⟨row, h1, h2⟩ => ?_, fun hc => ?_⟩
  · exact (kid_CC ((srows_mem (by omega) (by omega) row).mp h1) (srows_small i (by omega) row h1) (by omega) h2).1
  · obtain ⟨row, h1, h2⟩ := CC_kid (s := i + 2) hc (by omega)
    exact ⟨row, (srows_mem (by omega) (by omega) row).mpr h1, h2⟩
theorem lev_step {i : Nat} (h : i + 3 ≤ 7) : (dd (gen (i + 2) (srows (i + 2)))).mergeSort leNn = srows (i + 3) := by
  obtain ⟨h1, h2⟩ := dd_spec (gen (i + 2) (srows (i + 2)))
  have hp : (dd (gen (i + 2) (srows (i + 2)))).Perm (rows (i + 3)) := (List.perm_ext_iff_of_nodup h1 (rows_nodup _)).mpr fun r => by
    rw [h2, gen_mem h]
    exact ⟨fun hc => CC_rows hc (by omega) h, rows_CC⟩
  refine List.Perm.eq_of_pairwise (le := fun a b => leNn a b = true) (fun a b _ _ q1 q2 => ?_) (List.pairwise_mergeSort leNn_trans leNn_total _) (List.pairwise_mergeSort leNn_trans leNn_total _) (((List.mergeSort_perm _ _).trans hp).trans (List.mergeSort_perm _ _).symm)
  unfold leNn at q1 q2
  rw [decide_eq_true_eq] at q1 q2
  exact List.le_antisymm q1 q2
theorem dd_le {i : Nat} (h : i + 3 ≤ 7) {L : List (List Nat)} (hL : L ⊆ gen (i + 2) (srows (i + 2))) : (dK L).length ≤ 100000 := by
  obtain ⟨h1, h2⟩ := dd_spec L
  have e : (dK L).length = (dd L).length := by
    have := congrArg List.length (dK_keys L)
    rwa [List.length_map, List.length_map] at this
  rw [e]
  have hs : dd L ⊆ rows (i + 3) := fun r hr => CC_rows ((gen_mem h r).mp (hL ((h2 r).mp hr))) (by omega) h
  refine Nat.le_trans (List.Nodup.length_le_of_subset h1 hs) ?_
  rw [rows_len (by omega) h]
  have : ∀ n < 8, W n 2 ≤ 100000 := by decide +kernel
  exact this _ (by omega)
/-! ### tuples cut and joined -/
theorem cut_to (xs : List V) (k : Nat) : cutV xs none (some (k : Int)) = xs.take k := by
  unfold cutV
  rw [HT.sIx_nat, HT.sIx_none, List.drop_zero, Nat.sub_zero]
  by_cases h : k ≤ xs.length
  · rw [Nat.min_eq_left h]
  · rw [Nat.min_eq_right (by omega), List.take_length, List.take_of_length_le (by omega)]
theorem cut_whole {xs : List V} {lo hi : Option Int} (h : HT.sIx xs.length 0 lo = 0 ∧ HT.sIx xs.length xs.length hi = xs.length) : cutV xs lo hi = xs := by
  unfold cutV
  rw [h.1, h.2, List.drop_zero, Nat.sub_zero, List.take_length]
theorem sl_use {K : PySem.W.Frag} {H : Hp} {a : Addr} {xs : List V} {lo hi : Option Int} {Q : VK} (hS : H a = some (.tup xs)) (h : ∀ t H', Same H H' → H' t = some (.tup (cutV xs lo hi)) → Q (.ref t) H') : rSlA K (.ref a) lo hi H Q :=
  ⟨a, xs, rfl, .inl (.inl hS), fun hw => h a H (Same.refl _) (by rw [cut_whole hw]; exact hS), fun _ p hp => h p _ (same_new (Same.refl _) hp) upd_same⟩
theorem cat_use {K : PySem.W.Frag} {H : Hp} {a b : Addr} {xs ys : List V} {Q : VK} (hx : H a = some (.tup xs)) (hy : H b = some (.tup ys)) (hl : xs.length + ys.length ≤ 1000000) (h : ∀ t H', Same H H' → H' t = some (.tup (xs ++ ys)) → Q (.ref t) H') : rCatA K (.ref a) (.ref b) H Q :=
  ⟨a, b, xs, ys, rfl, rfl, .inl (.inl hx), .inl (.inl hy), small_le hl, fun e => h b H (Same.refl _) (by rw [e, List.nil_append]; exact hy), fun _ e => h a H (Same.refl _) (by rw [e, List.append_nil]; exact hx), fun _ _ p hp => h p _ (same_new (Same.refl _) hp) upd_same⟩
theorem enc_len (r : List Nat) : (enc r).length = r.length := List.length_map _
def spLawAll (K : PySem.W.Frag) : Sp := fun vs H Q _ => ∃ n : Nat, vs = [nI n] ∧ 2 ≤ n ∧ n ≤ 7 ∧ ∀ H' p ts, Same H H' → H' p = some (.lst (ts.map V.ref)) → Tups H' ts ((srows n).map enc) → Q (.ref p) H'
theorem scLawAll : FnScope ["_law_many", "_law_level", "_law_size", "_law_found", "_law_row", "_law_at", "_law_more", "_law_place"] ["_law_many"] (defScope sLawAll) := ⟨rfl, rfl, rfl, by decide +kernel, rfl, by decide +kernel, by decide +kernel⟩
section
variable {w : World} {K : PySem.W.Frag} {mg : Str → Option Value} {base : Heap}
theorem ok_law_all (T : Tx K mg) : Cal PR w K mg base 1 "_law_all" (spLawAll K) := by
  refine cal_of T.toTxt (st := sLawAll) (N := ["_law_many", "_law_level", "_law_size", "_law_found", "_law_row", "_law_at", "_law_more", "_law_place"]) (ps := ["_law_many"]) (List.mem_of_getElem? (i := 19) rfl) (by decide) scLawAll (fun _ _ _ _ _ _ us hl => match us, hl with | [_], _ => rfl) (fun vs H Q E h => by
    obtain ⟨n, rfl, _⟩ := h
    rfl) (fun cdv A outer s H vs Q E hr h => ?_)
  obtain ⟨n, rfl, h2, h7, q⟩ := h
  refine ⟨_, PSs.nox (pss_cons (ps_set (i := 1) scLawAll.nd rfl (Or.inl rfl) (pe_lst (pa_cons (pe_tup (pa_cons pe_int (pa_cons pe_int pa_nil))) pa_nil)))
    (pss_cons (ps_for PassesOwn.never rfl (pi_range2 (by rfl) (T.fr _ (by decide)) (pa_cons pe_int (pa_cons (pv 0) pa_nil))) (pg_name (i := 2) scLawAll.nd rfl (Or.inl rfl))
      (pss_cons (ps_set (i := 3) scLawAll.nd rfl (Or.inl rfl) pe_dnewT)
      (pss_cons (ps_for PassesOwn.never rfl (pi_list (pv 1)) (pg_name (i := 4) scLawAll.nd rfl (Or.inl rfl))
        (pss_one (ps_for PassesOwn.never rfl (pi_range1 (by rfl) (T.fr _ (by decide)) (pa_cons (pv 2) pa_nil)) (pg_name (i := 5) scLawAll.nd rfl (Or.inl rfl))
          (pss_cons (ps_set (i := 6) scLawAll.nd rfl (Or.inl rfl) (pe_op op_catA (pe_op op_catA (pe_slice sl_tupA (pv 4) po_none (po_some (pv 5))) (pe_tup (pa_cons (pe_op op_add (pe_ix ix_tup (pv 4) (pv 5) (fun _ _ => rfl)) pe_int) pa_nil))) (pe_slice sl_tupA (pv 4) (po_some (pe_op op_add (pv 5) pe_int)) po_none)))
          (pss_one (ps_for PassesOwn.never rfl (pi_range1 (by rfl) (T.fr _ (by decide)) (pa_cons (pe_op op_add (pv 2) pe_int) pa_nil)) (pg_name (i := 7) scLawAll.nd rfl (Or.inl rfl))
            (pss_one (ps_dput (un1 hr) (pv 3) (pe_op op_catA (pe_op op_catA (pe_slice sl_tupA (pv 6) po_none (po_some (pv 7))) (pe_tup (pa_cons (pe_op op_add (pe_ix ix_tup (pv 4) (pv 5) (fun _ _ => rfl)) pe_int) pa_nil))) (pe_slice sl_tupA (pv 6) (po_some (pv 7)) po_none)) pe_bl (by rfl)))))))))
      (pss_one (ps_set (i := 1) scLawAll.nd rfl (Or.inl rfl) (pe_callB (cr_sortDT rfl (un8 hr)) (by rfl) (T.fr _ (by decide)) boot_sorted' (pa_cons (pv 3) pa_nil)))))))
    (pss_one (ps_ret (pv 1))))), ?_⟩
  refine ⟨(by show 2 ≤ sizeLine; decide), fun t0 ht0 => ⟨(by show 1 ≤ sizeLine; decide), fun L0 hL0 => ?_⟩⟩
  have s0 : Same H (upd (upd H t0 (.tup [.int 1, .int 1])) L0 (.lst [.ref t0])) := same_new (same_new (Same.refl _) ht0) hL0
  have hT0 : Tups (upd (upd H t0 (.tup [.int 1, .int 1])) L0 (.lst [.ref t0])) [t0] ((srows 2).map enc) := by
    rw [srows_2]
    refine Tups.snoc (ts := []) (cs := []) (Tups.nil _) ?_
    rw [upd_ne (ne_of_none (upd_same (H := H) (a := t0) (o := .tup [.int 1, .int 1])) hL0)]
    exact upd_same
  have en : (((n : Int)) - 2).toNat = n - 2 := by omega
  refine ⟨_, rfl, 2, (n : Int), rfl, ⟨by decide, by decide, by omega, by omega⟩, ?_⟩
  rw [en]
  refine for_range (lo := 2) (n := n - 2) (fun i σ H1 => ∃ (v2 v3 v4 v5 v6 v7 : Option V) (L : Addr) (ts : List Addr), σ = [some (nI n), some (.ref L), v2, v3, v4, v5, v6, v7] ∧ H1 L = some (.lst (ts.map V.ref)) ∧ Tups H1 ts ((srows (i + 2)).map enc) ∧ Same H H1)
    ⟨none, none, none, none, none, none, L0, [t0], rfl, upd_same, hT0, s0⟩ ?_ ?_
  · rintro i σ H1 hi ⟨v2, v3, v4, v5, v6, v7, L, ts, rfl, hL1, hT1, s1⟩
    intro F hF
    have hrow : ∀ r ∈ srows (i + 2), r.length = i + 2 := fun r hr => ((srows_mem (by omega) (by omega) r).mp hr).1
    have htl : (ts.map V.ref).length = (srows (i + 2)).length := by rw [List.length_map, hT1.len, List.length_map]
    have htF : ∀ t c, H1 t = some (.tup c) → t ≠ F := fun t c e e2 => by rw [e2, hF] at e; cases e
    have hLF : L ≠ F := fun e => by rw [e, hF] at hL1; cases hL1
    have fin : ∀ H' : Hp, SameB F H1 H' → Same H H' := fun H' sb c u e => sb c u (s1 _ _ e) (fun e2 => by
      have h := s1 _ _ e
      rw [e2, hF] at h
      cases h)
    refine ⟨_, rfl, L, rfl, ⟨_, .of ((same_new (Same.refl _) hF) _ _ hL1)⟩, for_it (walk_list (K := K) (a := L) (xs := ts.map V.ref)) (fun a σ H2 => ∃ v4 v5 v6 v7 : Option V, σ = [some (nI n), some (.ref L), some (.int (2 + (i : Int))), some (.ref F), v4, v5, v6, v7] ∧
        H2 F = some (.dT (dK (((srows (i + 2)).take a).flatMap (kids (i + 2))))) ∧ SameB F H1 H2)
      ⟨v4, v5, v6, v7, rfl, upd_same, SameB.of (same_new (Same.refl _) hF)⟩ (fun a σ H2 _ ⟨_, _, _, _, _, _, b2⟩ => .of (b2 _ _ hL1 hLF)) ?_ ?_⟩
    · rintro a x σ H2 H2' ha ⟨v4, v5, v6, v7, rfl, hF2, b2⟩ ⟨rfl, hx⟩
      obtain ⟨t, c, rfl, ht, hc, hct⟩ := hT1.get hx
      obtain ⟨row, hrw, rfl⟩ := map_get hc
      have hrm : row ∈ srows (i + 2) := List.mem_of_getElem? hrw
      have hrl := hrow row hrm
      have hsub : ∀ j k : Nat, j ≤ i + 2 → (k ≤ i + 3 ∧ (k = 0 ∨ j < i + 2)) → ((srows (i + 2)).take a).flatMap (kids (i + 2)) ++ ((List.range j).flatMap fun at_ => (List.range (i + 3)).map (kid row at_)) ++ (List.range k).map (kid row j) ⊆ gen (i + 2) (srows (i + 2)) := fun j k hj hk r hr => by
        unfold gen
        rcases List.mem_append.mp hr with hr | hr
        · rcases List.mem_append.mp hr with hr | hr
          · obtain ⟨row', h1, h2⟩ := List.mem_flatMap.mp hr
            exact List.mem_flatMap.mpr ⟨row', List.mem_of_mem_take h1, h2⟩
          · obtain ⟨at_, h1, h2⟩ := List.mem_flatMap.mp hr
            exact List.mem_flatMap.mpr ⟨row, hrm, List.mem_flatMap.mpr ⟨at_, List.mem_range.mpr (by have := List.mem_range.mp h1; omega), h2⟩⟩
        · obtain ⟨pl, h1, rfl⟩ := List.mem_map.mp hr
          have h3 := List.mem_range.mp h1
          exact List.mem_flatMap.mpr ⟨row, hrm, List.mem_flatMap.mpr ⟨j, List.mem_range.mpr (by omega), List.mem_map.mpr ⟨pl, List.mem_range.mpr (by omega), rfl⟩⟩⟩
      rw [List.take_succ, hrw, Option.toList, List.flatMap_append]
      generalize hA : ((srows (i + 2)).take a).flatMap (kids (i + 2)) = A at *
      have e2 : ((2 : Int) + (i : Int)).toNat = i + 2 := by omega
      refine ⟨_, rfl, _, rfl, by omega, by omega, ?_⟩
      rw [e2]
      refine for_range (lo := 0) (n := i + 2) (fun j σ H3 => ∃ v5 v6 v7 : Option V, σ = [some (nI n), some (.ref L), some (.int (2 + (i : Int))), some (.ref F), some (.ref t), v5, v6, v7] ∧
          H3 F = some (.dT (dK (A ++ ((List.range j).flatMap fun at_ => (List.range (i + 3)).map (kid row at_))))) ∧ SameB F H1 H3)
        ⟨v5, v6, v7, rfl, by rw [List.range_zero, List.flatMap_nil, List.append_nil]; exact hF2, b2⟩ ?_ ?_
      · rintro j σ H3 hj ⟨v5, v6, v7, rfl, hF3, b3⟩
        have hct3 := b3 _ _ hct (htF _ _ hct)
        have hjl : j < row.length := by omega
        have hat : atI (enc row) (0 + (j : Int)) = some (nI (row.getD j 0)) := atI_nat (by
          unfold enc
          rw [List.getElem?_map, List.getD_eq_getElem?_getD, List.getElem?_eq_getElem hjl]
          rfl)
        have ez : (0 : Int) + (j : Int) = (j : Int) := Int.zero_add _
        refine ⟨_, rfl, _, rfl, _, rfl, sl_use hct3 fun ta Ha sa hta => ?_⟩
        have hcta := sa _ _ hct3
        refine ⟨_, rfl, _, rfl, t, enc row, _, _, rfl, rfl, .inl (.inl hcta), hat, _, _, rfl, rfl, (by show 1 ≤ sizeLine; decide), fun tb htb => ?_⟩
        have sb := same_new (o := .tup [V.int ((row.getD j 0 : Nat) + 1)]) (Same.refl Ha) htb
        refine cat_use (sb _ _ hta) upd_same ?_ fun tc Hc sc htc => ?_
        · rw [ez, cut_to, List.length_take, enc_len]
          show _ + 1 ≤ _
          omega
        have hctc := sc _ _ (sb _ _ hcta)
        refine ⟨_, rfl, _, rfl, _, _, rfl, rfl, _, rfl, ?_⟩
        dsimp only [tNoPart]
        refine sl_use hctc fun td Hd sd htd => cat_use (sd _ _ htc) htd ?_ fun M HM sM hM => ?_
        · rw [ez, cut_to, show (j : Int) + 1 = ((j + 1 : Nat) : Int) by omega, cut_from, List.length_append, List.length_take, List.length_drop, enc_len]
          show _ + 1 + _ ≤ _
          omega
        rw [ez, cut_to, show (j : Int) + 1 = ((j + 1 : Nat) : Int) by omega, cut_from] at hM
        have hM2 : HM M = some (.tup (enc (moreOf row j))) := by
          rw [hM]
          unfold moreOf enc
          rw [List.map_append, List.map_cons, List.map_take, List.map_drop, List.append_assoc]
          rfl
        have s3M : Same H3 HM := fun c u e => sM _ _ (sd _ _ (sc _ _ (sb _ _ (sa _ _ e))))
        have hMF : M ≠ F := fun e => by rw [e, s3M _ _ hF3] at hM2; cases hM2
        have e3 : ((2 : Int) + (i : Int) + 1).toNat = i + 3 := by omega
        refine ⟨_, rfl, _, _, rfl, rfl, _, rfl, by omega, by omega, ?_⟩
        rw [e3]
        refine for_range (lo := 0) (n := i + 3) (fun k σ H4 => ∃ v7 : Option V, σ = [some (nI n), some (.ref L), some (.int (2 + (i : Int))), some (.ref F), some (.ref t), some (.int (0 + (j : Int))), some (.ref M), v7] ∧
            H4 F = some (.dT (dK (A ++ ((List.range j).flatMap fun at_ => (List.range (i + 3)).map (kid row at_)) ++ (List.range k).map (kid row j)))) ∧ SameB F HM H4)
          ⟨v7, rfl, by rw [List.range_zero, List.map_nil, List.append_nil]; exact s3M _ _ hF3, SameB.refl _ _⟩ ?_ ?_
        · rintro k σ H4 hk ⟨v7, rfl, hF4, b4⟩
          have ek : (0 : Int) + (k : Int) = (k : Int) := Int.zero_add _
          have hM4 := b4 _ _ hM2 hMF
          have hct4 := b4 _ _ (s3M _ _ hct3) (htF _ _ hct)
          have hml : (moreOf row j).length = i + 2 := by
            unfold moreOf
            rw [List.length_append, List.length_cons, List.length_take, List.length_drop]
            omega
          refine ⟨_, rfl, _, rfl, _, rfl, _, rfl, sl_use hM4 fun ta' Ha' sa' hta' => ?_⟩
          have hMa := sa' _ _ hM4
          have hcta' := sa' _ _ hct4
          refine ⟨_, rfl, _, rfl, t, enc row, _, _, rfl, rfl, .inl (.inl hcta'), hat, _, _, rfl, rfl, (by show 1 ≤ sizeLine; decide), fun tb' htb' => ?_⟩
          have sb' := same_new (o := .tup [V.int ((row.getD j 0 : Nat) + 1)]) (Same.refl Ha') htb'
          refine cat_use (sb' _ _ hta') upd_same ?_ fun tc' Hc' sc' htc' => ?_
          · rw [ek, cut_to, List.length_take, enc_len]
            show _ + 1 ≤ _
            omega
          have hMc := sc' _ _ (sb' _ _ hMa)
          refine ⟨_, rfl, _, rfl, _, rfl, ?_⟩
          dsimp only [tNoPart]
          refine sl_use hMc fun td' Hd' sd' htd' => cat_use (sd' _ _ htc') htd' ?_ fun kb Hk sk hkb => ?_
          · rw [ek, cut_to, cut_from, List.length_append, List.length_take, List.length_drop, enc_len]
            show _ + 1 + _ ≤ _
            omega
          rw [ek, cut_to, cut_from] at hkb
          have hkb2 : Hk kb = some (.tup ((kT (kid row j k)).map kV)) := by
            rw [hkb, kT_V]
            unfold kid enc
            rw [List.map_append, List.map_cons, List.map_take, List.map_drop, List.append_assoc]
            rfl
          have s4k : Same H4 Hk := fun c u e => sk _ _ (sd' _ _ (sc' _ _ (sb' _ _ (sa' _ _ e))))
          have hFk := s4k _ _ hF4
          refine ⟨F, _, rfl, DPut.t (k := kT (kid row j k)) hFk hkb2 (small_lt (Nat.le_trans (dd_le (by omega) (hsub j k (by omega) ⟨by omega, .inr hj⟩)) (by decide))), _, rfl, ?_, (b4.trans (SameB.of s4k)).put⟩
          rw [upd_same, ← dK_snoc, List.range_succ (n := k), List.map_append, List.append_assoc, List.append_assoc, List.append_assoc]
          rfl
        · rintro σ H4 ⟨v7, rfl, hF4, b4⟩
          refine ⟨_, _, _, rfl, ?_, (SameB.trans b3 (SameB.of s3M)).trans b4⟩
          rw [hF4, List.range_succ (n := j), List.flatMap_append, List.append_assoc]
          simp
      · rintro σ H3 ⟨v5, v6, v7, rfl, hF3, b3⟩
        refine ⟨_, _, _, _, rfl, ?_, b3⟩
        rw [hF3]
        simp [kids]
    · rintro σ H2 ⟨v4, v5, v6, v7, rfl, hF2, b2⟩
      rw [htl, List.take_length] at hF2
      have hgl : ∀ r ∈ dd (gen (i + 2) (srows (i + 2))), r ≠ [] := fun r hr e => by
        have h9 := ((gen_mem (i := i) (by omega) r).mp (((dd_spec _).2 r).mp hr)).1
        rw [e] at h9
        cases h9
      have hcI : ∀ r : List Nat, r ≠ [] → ((r.headD 0 : Nat) : Int) :: cI r.tail = cI r := fun r hr => by
        cases r with
        | nil => exact absurd rfl hr
        | cons x r => rfl
      refine ⟨_, rfl, F, _, (dd (gen (i + 2) (srows (i + 2)))).map fun r => (((r.headD 0 : Nat) : Int), cI r.tail), rfl, hF2, ?_, fun bs p hb1 hb2 hp => ?_⟩
      · show (dK (gen (i + 2) (srows (i + 2)))).map Prod.fst = _
        rw [dK_keys, List.map_map]
        refine List.map_congr_left fun r hr => ?_
        show kT r = (((r.headD 0 : Nat) : Int) :: cI r.tail).map Sum.inl
        rw [hcI r (hgl r hr)]
        unfold kT cI
        rw [List.map_map]
        rfl
      · have hk1 : bs.map keyB = (dd (gen (i + 2) (srows (i + 2)))).map cI := by
          have e9 : bs.map keyB = (bs.map Prod.snd).map fun q : Int × List Int => q.1 :: q.2 := by rw [List.map_map]; rfl
          rw [e9, hb1, List.map_map]
          exact List.map_congr_left fun r hr => hcI r (hgl r hr)
        have hk2 : (bs.mergeSort leT).map keyB = (srows (i + 3)).map cI := by
          rw [List.map_mergeSort (r := leT) (f := keyB) (s := fun p q : List Int => decide (p ≤ q)) (fun a _ b _ => rfl), hk1, ← lev_step (by omega), List.map_mergeSort (r := leNn) (f := cI) (s := fun p q : List Int => decide (p ≤ q)) (fun a _ b _ => (cI_le a b).symm)]
        have hbl : (bs.mergeSort leT).length = (srows (i + 3)).length := by
          have := congrArg List.length hk2
          rwa [List.length_map, List.length_map] at this
        refine ⟨_, _, _, _, _, _, p, (bs.mergeSort leT).map Prod.fst, rfl, ?_, ⟨?_, fun j t c e1 e2 => ?_⟩, same_new (fin _ b2) hp⟩
        · rw [upd_same, List.map_map]
          rfl
        · rw [List.length_map, List.length_map, hbl]
        · obtain ⟨b, hb, rfl⟩ := map_get e1
          obtain ⟨r, hr2, rfl⟩ := map_get e2
          have h8 := hb2 b (List.mem_mergeSort.mp (List.mem_of_getElem? hb))
          have h9 : ((bs.mergeSort leT).map keyB)[j]? = some (keyB b) := by rw [List.getElem?_map, hb]; rfl
          rw [hk2] at h9
          obtain ⟨r', hr3, e3⟩ := map_get h9
          have e4 : r' = r := by
            have h10 : (srows (i + 3))[j]? = some r := hr2
            rw [hr3] at h10
            exact Option.some.inj h10
          rw [e3, e4, cI_V] at h8
          rw [upd_ne (ne_of_none h8 hp)]
          exact h8
  · rintro σ H1 ⟨v2, v3, v4, v5, v6, v7, L, ts, rfl, hL1, hT1, s1⟩
    rw [show n - 2 + 2 = n by omega] at hT1
    exact ⟨_, rfl, q H1 L ts s1 hL1 hT1⟩
end
end K38
end
section
/-! ## K38U -/
/-! _law_number: the display of a dict with one tuple key; the sum that stays. -/
namespace K38
open PySem PySem.Spec PyProof.Rows L2
/-! ### {t: v} -/
def tDisp1 (tk tv : TE) : TE := fun σ H Q => ∀ p, H p = none → tPairs [(tk, tv)] σ (upd H p (.dT [])) fun ps H2 => ∃ (b : Addr) (ks : List Key) (y : V), ps = [(.ref b, y)] ∧ H2 p = some (.dT []) ∧ H2 b = some (.tup (ks.map kV)) ∧ Q (.ref p) (upd H2 p (.dT (putK [] ks y)))
section
variable {X : Cx}
theorem pe_disp1 {k v : Expr} {pos : Pos} {tk tv : TE} (hu : X.A.units + 1 < cLine) (hk : PE X k tk) (hv : PE X v tv) : PE X (.Dict [some k] [v] pos) (tDisp1 tk tv) := by
  refine ⟨fun pins s σ H Q I q => ?_⟩
  have hn := I.hok.fresh (Nat.le_refl s.heap.objs.size)
  have I1 := I.laid (a := s.heap.objs.size) (o := .dT []) (h' := s.heap.push { cls := .type "dict", data := .dict #[] }) (t' := s.toks) (fun _ _ q => Heap.get?_push_of_some _ q) (Nat.le_refl _) (dt_empty s.heap I.big)
  have hp : PPs X pos [some k] [v] [(tk, tv)] := pps_cons hk hv pps_nil
  rw [arm_eval_Dict, zip_pairTrees [some k] [v] X.env pos rfl rfl, dictDisplay_pairs _ (by
    intro he
    have := pairTrees_length [some k] [v] X.env pos rfl rfl
    rw [he] at this
    cases this) (by rw [pairTrees_length [some k] [v] X.env pos rfl rfl]; show 1 < 17; decide)]
  refine wpAny_bind (wpAny_standAt (wpAny_bind (wpAny_subDictH (knd := tupleKind (mixKind X.prog X.w)) (Q := fun d s' => wpAny (model X.prog X.w) X.A (pure (Value.ref d)) (EP X pins σ Q) X.xe s') (by show X.A.units < cLine; omega) (by rw [pairTrees_length [some k] [v] X.env pos rfl rfl]; show 1 ≤ 15; decide) ?_)))
  refine thn (hp.run pins _ σ _ (fun ps H2 => ∃ (b : Addr) (ks : List Key) (y : V), ps = [(.ref b, y)] ∧ H2 s.heap.objs.size = some (.dT []) ∧ H2 b = some (.tup (ks.map kV)) ∧ Q (.ref s.heap.objs.size) (upd H2 s.heap.objs.size (.dT (putK [] ks y)))) I1 (q _ hn)) fun ws s2 ⟨ps, H2, I2, rel, b, ks, y, ep, e, eb, q2⟩ => ?_
  subst ep
  cases rel with
    | @cons p r ps' rs' h t =>
      cases t
      obtain ⟨r1, r2⟩ := r
      obtain ⟨hr1, hr2⟩ := h
      cases hr1
      obtain ⟨z, hd, xs, rk, dd⟩ := dt_of I2.hok e
      cases rk
      refine ⟨[(ks, b, r2)], ⟨rfl, rfl, key_of I2.hok eb, trivial⟩, dd, fun h' tk' dd' hs => wpAny_pure ⟨.ref s.heap.objs.size, _, ?_, rfl, q2⟩⟩
      obtain ⟨o, es, ep, hq, h2, h3, h4, _, h5⟩ := dd'
      refine d_write I2 (by rw [e]; exact True.intro) hs ⟨o, hq⟩ ⟨?_, hd, _, (KT.put (Paired.nil : KT H2 [] []) ks eb hr2).keeps fun c ys ec => ?_, o, es, ep, hq, h2, h3, h4, h5⟩
      · exact Nat.le_trans (length_putK _ _ _) (show 1 ≤ sizeLine by decide)
      · rw [upd_ne (ne_of ec e (fun z => nomatch z))]
        exact ec
end
end K38
end
section
/-! ## K38V -/
/-! _law_number: the walk. -/
namespace K38
open PySem PySem.Spec PyProof.Rows L2
def phi1 : List Key × V → Nat
  | ([Sum.inl a, Sum.inl b], .int x) => x.toNat * W a.toNat b.toNat
  | _ => 0
theorem phi1_eq (m n x : Nat) : phi1 (kMN m n, nI x) = x * W m n := by
  unfold kMN nI phi1
  simp
def phi (kvs : List (List Key × V)) : Nat := (kvs.map phi1).sum
theorem phi_put {m n x a : Nat} : ∀ {kvs : List (List Key × V)}, (kvs.map Prod.fst).Nodup → valV kvs (kMN m n) = some (nI x) → phi (putK kvs (kMN m n) (nI (x + a))) = phi kvs + a * W m n := by
  intro kvs hn hv
  have hany : (kvs.any fun kv => decide (kv.1 = kMN m n)) = true := by rw [valV_any, hv]; rfl
  unfold putK
  rw [if_pos hany]
  clear hany
  induction kvs with
  | nil => cases hv
  | cons p r ih =>
    rw [List.map_cons, List.nodup_cons] at hn
    unfold phi at ih ⊢
    rw [List.map_cons, List.map_cons, List.sum_cons, List.map_cons, List.sum_cons]
    by_cases hk : p.1 = kMN m n
    · rw [if_pos hk]
      rw [valV_pos hk] at hv
      have e2 : p.2 = nI x := Option.some.inj hv
      have e3 : (r.map fun kv => if kv.1 = kMN m n then (kv.1, nI (x + a)) else kv) = r := by
        conv => rhs; rw [← List.map_id r]
        refine List.map_congr_left fun q hq => ?_
        rw [if_neg (fun e => hn.1 (by rw [hk, ← e]; exact List.mem_map.mpr ⟨q, hq, rfl⟩))]
        rfl
      rw [e3, hk, phi1_eq, show p = (kMN m n, nI x) from Prod.ext hk e2, phi1_eq, Nat.add_mul]
      omega
    · rw [if_neg hk]
      rw [valV_neg hk] at hv
      have := ih hn.2 hv
      omega
theorem phi_new {m n a : Nat} {kvs : List (List Key × V)} (hv : valV kvs (kMN m n) = none) : phi (putK kvs (kMN m n) (nI a)) = phi kvs + a * W m n := by
  rw [putK_new _ hv]
  unfold phi
  rw [List.map_append, List.sum_append]
  simp [phi1_eq]
/-- the table at a level -/
structure GN (N l : Nat) (kvs : List (List Key × V)) : Prop where
  nd : (kvs.map Prod.fst).Nodup
  at_ : ∀ k v, (k, v) ∈ kvs → ∃ m n x : Nat, k = kMN m n ∧ v = nI x ∧ 2 ≤ n ∧ n ≤ m ∧ m ≤ 26 ∧ 2 * m + 2 * l + 2 ≤ 2 * N + n
theorem GN.nil (N l : Nat) : GN N l [] := ⟨List.nodup_nil, fun k v h => by cases h⟩
theorem GN.len {N l : Nat} {kvs : List (List Key × V)} (g : GN N l kvs) : kvs.length ≤ 729 := by
  have h : kvs.map Prod.fst ⊆ allK := fun k hk => by
    obtain ⟨⟨k', v⟩, hm, rfl⟩ := List.mem_map.mp hk
    obtain ⟨m, n, x, e, _, h1, h2, h3, _⟩ := g.at_ _ _ hm
    unfold allK
    rw [List.mem_flatMap]
    exact ⟨m, List.mem_range.mpr (by omega), List.mem_map.mpr ⟨n, List.mem_range.mpr (by omega), e.symm⟩⟩
  have h2 := List.Nodup.length_le_of_subset g.nd h
  rw [List.length_map] at h2
  exact Nat.le_trans h2 (by decide +kernel)
theorem GN.put {N l : Nat} {kvs : List (List Key × V)} (g : GN N l kvs) {m n x : Nat} (h1 : 2 ≤ n) (h2 : n ≤ m) (h3 : m ≤ 26) (h4 : 2 * m + 2 * l + 2 ≤ 2 * N + n) : GN N l (putK kvs (kMN m n) (nI x)) := by
  refine ⟨nodup_put _ _ g.nd, fun k v h => ?_⟩
  rcases putK_mem h with h | ⟨rfl, rfl⟩
  · exact g.at_ _ _ h
  · exact ⟨m, n, x, rfl, rfl, h1, h2, h3, h4⟩
theorem GN.val {N l : Nat} {kvs : List (List Key × V)} (g : GN N l kvs) {m n : Nat} {v : V} (h : valV kvs (kMN m n) = some v) : ∃ x : Nat, v = nI x := by
  obtain ⟨_, _, x, _, e, _⟩ := g.at_ _ _ (valV_mem h)
  exact ⟨x, e⟩
theorem GN.empty {N l : Nat} {kvs : List (List Key × V)} (g : GN N l kvs) (h : N ≤ l) : kvs = [] := by
  cases kvs with
  | nil => rfl
  | cons p r =>
    obtain ⟨m, n, x, _, _, h1, h2, h3, h4⟩ := g.at_ p.1 p.2 (List.mem_cons_self ..)
    omega
theorem nodup_val {kvs : List (List Key × V)} (h : (kvs.map Prod.fst).Nodup) {k : List Key} {v : V} (hm : (k, v) ∈ kvs) : valV kvs k = some v := by
  induction kvs with
  | nil => cases hm
  | cons p r ih =>
    rw [List.map_cons, List.nodup_cons] at h
    rcases List.mem_cons.mp hm with e | hm
    · subst e
      exact valV_pos rfl
    · rw [valV_neg (fun e => h.1 (by rw [e]; exact List.mem_map.mpr ⟨(k, v), hm, rfl⟩))]
      exact ih h.2 hm
theorem phi_drop {kvs : List (List Key × V)} {i : Nat} {p : List Key × V} (h : kvs[i]? = some p) : phi (kvs.drop i) = phi1 p + phi (kvs.drop (i + 1)) := by
  obtain ⟨hi, e⟩ := List.getElem?_eq_some_iff.mp h
  rw [List.drop_eq_getElem_cons hi, e]
  unfold phi
  rw [List.map_cons, List.sum_cons]
theorem eqv_two (a b c d : Int) : PyData.eqv (.tuple [.int a, .int b]) (.tuple [.int c, .int d]) = decide ((a, b) = (c, d)) := PySem.W.Datum.eqv (a, b) (c, d)
theorem plain_two (a b : Int) : (PyData.tuple [.int a, .int b]).plain = true := PySem.W.Datum.plain (a, b)
theorem depth_two (a b : Int) : (PyData.tuple [.int a, .int b]).depth ≤ 8 := Nat.le_trans (PySem.W.Datum.depth_le (a, b)) (by decide)
def S (m n j : Nat) : Nat := ((List.range j).map fun few => chN m few * W (m - few) (2 * (n - few))).sum
theorem S_succ (m n j : Nat) : S m n (j + 1) = S m n j + chN m j * W (m - j) (2 * (n - j)) := by
  unfold S
  rw [List.range_succ, List.map_append, List.sum_append]
  simp
def spLawNumber (K : PySem.W.Frag) : Sp := fun vs H Q _ => ∃ N : Nat, vs = [nI N] ∧ 2 ≤ N ∧ N ≤ 26 ∧ ∀ H', Same H H' → Q (nI (W N 2)) H'
theorem scLawNumber : FnScope ["_law_many", "_law_now", "_law_found", "_law_level", "_law_after", "_law_left", "_law_nodes", "_law_few", "_law_key", "_law_ways_here"] ["_law_many"] (defScope sLawNumber) := ⟨rfl, rfl, rfl, by decide +kernel, rfl, by decide +kernel, by decide +kernel⟩
section
variable {w : World} {K : PySem.W.Frag} {mg : Str → Option Value} {base : Heap}
theorem ok_law_number (T : Tx K mg) : Cal PR w K mg base 2 "_law_number" (spLawNumber K) := by
  have bMin : bootBuiltins "min" = some (.builtin "min") := by decide +kernel
  refine cal_of T.toTxt (st := sLawNumber) (N := ["_law_many", "_law_now", "_law_found", "_law_level", "_law_after", "_law_left", "_law_nodes", "_law_few", "_law_key", "_law_ways_here"]) (ps := ["_law_many"]) (List.mem_of_getElem? (i := 21) rfl) (by decide) scLawNumber (fun _ _ _ _ _ _ us hl => match us, hl with | [_], _ => rfl) (fun vs H Q E h => by
    obtain ⟨n, rfl, _⟩ := h
    rfl) (fun cdv A outer s H vs Q E hr h => ?_)
  obtain ⟨N, rfl, h2, h26, q⟩ := h
  refine ⟨_, PSs.nox (pss_cons (ps_par (i := 1) (j := 2) rfl scLawNumber.nd rfl rfl (by decide) rfl rfl (pa_cons (pe_disp1 (un1 hr) (pe_tup (pa_cons (pv 0) (pa_cons pe_int pa_nil))) pe_int) (pa_cons pe_int pa_nil)) (by rfl))
    (pss_cons (ps_for PassesOwn.never rfl (pi_range1 (by rfl) (T.fr _ (by decide)) (pa_cons (pv 0) pa_nil)) (pg_name (i := 3) scLawNumber.nd rfl (Or.inl rfl))
      (pss_cons (ps_set (i := 4) scLawNumber.nd rfl (Or.inl rfl) pe_dnewT)
      (pss_cons (ps_lock (ps_for PassesOwn.never rfl (pi_keys (pv 1)) (pg_two (i := 5) (j := 6) (K := K) rfl rfl scLawNumber.nd rfl rfl (Or.inl rfl) (Or.inl rfl) (Or.inr rfl) (Or.inr rfl))
        (pss_one (ps_for PassesOwn.never rfl (pi_range1 (by rfl) (T.fr _ (by decide)) (pa_cons (pe_op op_add (pe_callB (call_min2 rfl) (by rfl) (T.fr _ (by decide)) bMin (pa_cons (pv 5) (pa_cons (pv 6) pa_nil))) pe_int) pa_nil)) (pg_name (i := 7) scLawNumber.nd rfl (Or.inl rfl))
          (pss_cons (ps_par (i := 8) (j := 9) rfl scLawNumber.nd rfl rfl (by decide) rfl rfl (pa_cons (pe_tup (pa_cons (pe_op op_sub (pv 5) (pv 7)) (pa_cons (pe_op op_mul pe_int (pe_op op_sub (pv 6) (pv 7))) pa_nil)))
              (pa_cons (pe_op op_mul (pe_dget (un1 hr) (pv 1) (pe_tup (pa_cons (pv 5) (pa_cons (pv 6) pa_nil))) (fun _ _ => rfl)) (pe_x (ok_law_ways T.toTxt) hr (Nat.le_refl _) passL (pa_cons (pv 5) (pa_cons (pv 7) pa_nil)))) pa_nil)) (by rfl))
          (pss_one (ps_if (pt_cmpR (op_eqP (un8 hr)) (pv 8) (pe_tup (pa_cons pe_int (pa_cons pe_int pa_nil))) (nomark _))
            (pss_one (ps_set (i := 2) scLawNumber.nd rfl (Or.inl rfl) (pe_op op_add (pv 2) (pv 9))))
            (pss_one (ps_if (pt_chain op_lt op_le pe_int (pe_ix ix_tup (pv 8) pe_int (fun _ _ => rfl)) (pe_ix ix_tup (pv 8) pe_int (fun _ _ => rfl)))
              (pss_one (ps_dput (un1 hr) (pv 4) (pv 8) (pe_op op_add (pe_dget2 (un1 hr) (pv 4) (pv 8) pe_int ⟨by rfl, by rfl, by rfl, by rfl⟩) (pv 9)) (by rfl))) pss_nil)))))))))
      (pss_one (ps_set (i := 1) scLawNumber.nd rfl (Or.inl rfl) (pv 4))))))
    (pss_one (ps_ret (pv 2))))), ?_⟩
  intro D hD
  refine ⟨_, rfl, (by show 2 ≤ sizeLine; decide), fun t ht => ⟨t, kMN N 2, .int 1, rfl, ?_, upd_same, ?_⟩⟩
  · rw [upd_ne (ne_of_none upd_same ht)]
    exact upd_same
  refine ⟨_, _, rfl, ?_⟩
  have s0 : Same H (upd (upd (upd H D (.dT [])) t (.tup [nI N, .int 2])) D (.dT (putK [] (kMN N 2) (nI 1)))) := same_mut (same_new (same_new (Same.refl _) hD) ht) hD
  have g0 : GN N 0 (putK [] (kMN N 2) (nI 1)) := (GN.nil N 0).put (by decide) h2 h26 (by omega)
  have f0 : 0 + phi (putK [] (kMN N 2) (nI 1)) = W N 2 := by
    rw [phi_new (a := 1) (by rfl)]
    simp [phi]
  refine ⟨_, rfl, (N : Int), rfl, by omega, by omega, for_range (lo := 0) (n := N) (fun l σ H1 => ∃ (v3 v4 v5 v6 v7 v8 v9 : Option V) (D : Addr) (kvs : List (List Key × V)) (fd : Nat), σ = [some (nI N), some (.ref D), some (nI fd), v3, v4, v5, v6, v7, v8, v9] ∧
      H1 D = some (.dT kvs) ∧ GN N l kvs ∧ fd + phi kvs = W N 2 ∧ Same H H1 ∧ H D = none)
    ⟨none, none, none, none, none, none, none, D, _, 0, rfl, upd_same, g0, f0, s0, hD⟩ ?_ ?_⟩
  · rintro l σ H1 hl ⟨v3, v4, v5, v6, v7, v8, v9, D, kvs, fd, rfl, hD1, g1, f1, s1, hDH⟩
    intro A0 hA
    have hAH : H A0 = none := by
      cases e : H A0 with
      | none => rfl
      | some u => rw [s1 _ _ e] at hA; cases hA
    have hAD : A0 ≠ D := fun e => by rw [e, hD1] at hA; cases hA
    have hD2 : (upd H1 A0 (.dT [])) D = some (.dT kvs) := by rw [upd_ne (Ne.symm hAD)]; exact hD1
    have s2 : Same H (upd H1 A0 (.dT [])) := same_new s1 hA
    have hA2 : (upd H1 A0 (.dT [])) A0 = some (.dT []) := upd_same
    generalize upd H1 A0 (.dT []) = H2 at *
    refine ⟨D, .dT kvs, hD2, True.intro, fun od => ?_⟩
    refine ⟨_, rfl, D, od, rfl, .inr ⟨kvs, upd_same, for_it (walk_keysT (d := D) (o := od) (kvs := kvs)) (fun i σ H3 => ∃ (v5 v6 v7 v8 v9 : Option V) (kA : List (List Key × V)) (fd : Nat), σ = [some (nI N), some (.ref D), some (nI fd), some (.int (0 + (l : Int))), some (.ref A0), v5, v6, v7, v8, v9] ∧
        H3 D = some (.frz od (.dT kvs)) ∧ H3 A0 = some (.dT kA) ∧ GN N (l + 1) kA ∧ fd + phi kA + phi (kvs.drop i) = W N 2 ∧ Same H H3)
      ⟨v5, v6, v7, v8, v9, [], fd, rfl, upd_same, by rw [upd_ne hAD]; exact hA2, GN.nil _ _, by rw [List.drop_zero]; exact f1, same_mut s2 hDH⟩ (fun i σ H3 _ ⟨_, _, _, _, _, _, _, _, e, _⟩ => e) ?_ ?_⟩⟩
    · rintro i xk σ H3 H3' hi ⟨v5, v6, v7, v8, v9, kA, fd, rfl, hD3, hA3, g3, f3, s3⟩ ⟨rfl, k, v, qd, hki, rfl, hqd⟩
      obtain ⟨m, n, x, rfl, rfl, hn2, hnm, hm26, hm4⟩ := g1.at_ k v (List.mem_of_getElem? hki)
      rw [phi_drop hki, phi1_eq] at f3
      have hval : valV kvs (kMN m n) = some (nI x) := nodup_val g1.nd (List.mem_of_getElem? hki)
      refine ⟨qd, _, rfl, .of hqd, rfl, _, _, rfl, _, _, rfl, rfl, ?_⟩
      refine ⟨_, rfl, _, rfl, (m : Int), (n : Int), rfl, _, _, rfl, rfl, _, rfl, ?_⟩
      rw [show (if (n : Int) < (m : Int) then (n : Int) else (m : Int)) = (n : Int) by split <;> omega]
      refine ⟨by omega, by omega, ?_⟩
      rw [show ((n : Int) + 1).toNat = n + 1 by omega]
      refine for_range (lo := 0) (n := n + 1) (fun j σ H4 => ∃ (v7 v8 v9 : Option V) (kA : List (List Key × V)) (fd : Nat), σ = [some (nI N), some (.ref D), some (nI fd), some (.int (0 + (l : Int))), some (.ref A0), some (.int m), some (.int n), v7, v8, v9] ∧
          H4 D = some (.frz od (.dT kvs)) ∧ H4 A0 = some (.dT kA) ∧ GN N (l + 1) kA ∧ fd + phi kA + phi (kvs.drop (i + 1)) + x * W m n = W N 2 + x * S m n j ∧ Same H H4)
        ⟨v7, v8, v9, kA, fd, rfl, hD3, hA3, g3, by show _ = W N 2 + x * 0; omega, s3⟩ ?_ ?_
      · rintro j σ H4 hj ⟨v7, v8, v9, kA, fd, rfl, hD4, hA4, g4, f4, s4⟩
        have ea : (m : Int) - (0 + (j : Int)) = ((m - j : Nat) : Int) := by omega
        have eb : 2 * ((n : Int) - (0 + (j : Int))) = ((2 * (n - j) : Nat) : Int) := by omega
        have hch := ch_small m (by omega) j (by omega)
        refine ⟨_, rfl, _, rfl, _, _, rfl, rfl, _, rfl, _, rfl, _, _, rfl, rfl, _, _, rfl, rfl, .inl ⟨by decide, by decide⟩, (by show 2 ≤ sizeLine; decide), fun kb hkb => ?_⟩
        have s5 : Same H4 (upd H4 kb (.tup [.int ((m : Int) - (0 + (j : Int))), .int (2 * ((n : Int) - (0 + (j : Int))))])) := same_new (Same.refl _) hkb
        have hkb5 : (upd H4 kb (.tup [.int ((m : Int) - (0 + (j : Int))), .int (2 * ((n : Int) - (0 + (j : Int))))])) kb = some (.tup [nI (m - j), nI (2 * (n - j))]) := by
          rw [upd_same, ea, eb]
          rfl
        refine ⟨_, rfl, _, rfl, _, rfl, (by show 2 ≤ sizeLine; decide), fun kq hkq => ⟨D, nI x, rfl, ?_, _, rfl, _, rfl, m, j, ?_, by omega, by omega, _, _, rfl, rfl, .inr ⟨by omega, by omega⟩, _, _, rfl, ?_⟩⟩
        · have h9 : (upd (upd H4 kb (.tup [.int ((m : Int) - (0 + (j : Int))), .int (2 * ((n : Int) - (0 + (j : Int))))])) kq (.tup [.int m, .int n])) D = some (.frz od (.dT kvs)) := by
            rw [upd_ne (ne_of_none (s5 _ _ hD4) hkq)]
            exact s5 _ _ hD4
          exact .inr ⟨kvs, kMN m n, kq, .inr ⟨od, h9⟩, rfl, upd_same, hval.symm⟩
        · show [V.int (m : Int), V.int (0 + (j : Int))] = _
          rw [Int.zero_add]
        have s6 := same_new (o := .tup [V.int (m : Int), V.int (n : Int)]) s5 hkq
        have hkb6 := (same_new (o := .tup [V.int (m : Int), V.int (n : Int)]) (Same.refl _) hkq) _ _ hkb5
        generalize upd (upd H4 kb (.tup [.int ((m : Int) - (0 + (j : Int))), .int (2 * ((n : Int) - (0 + (j : Int))))])) kq (.tup [V.int (m : Int), V.int (n : Int)]) = H6 at *
        refine ⟨_, rfl, (by show 2 ≤ sizeLine; decide), fun z hz => ?_⟩
        have s7 := same_new (o := .tup [V.int 0, V.int 0]) (Same.refl H6) hz
        have hkb7 := s7 _ _ hkb6
        have hz7 : (upd H6 z (.tup [V.int 0, V.int 0])) z = some (.tup [V.int 0, V.int 0]) := upd_same
        have s47 : Same H4 (upd H6 z (.tup [V.int 0, V.int 0])) := fun c u e => s7 _ _ (s6 _ _ e)
        generalize upd H6 z (.tup [V.int 0, V.int 0]) = H7 at *
        have hD7 := s47 _ _ hD4
        have hA7 := s47 _ _ hA4
        have sH7 : Same H H7 := fun c u e => s47 _ _ (s4 _ _ e)
        refine ⟨.tuple [.int ((m - j : Nat) : Int), .int ((2 * (n - j) : Nat) : Int)], .tuple [.int 0, .int 0], .tup (.inl (.inl hkb7)) (.cons (.int _) (.cons (.int _) .nil)), .tup (.inl (.inl hz7)) (.cons (.int _) (.cons (.int _) .nil)), plain_two _ _, plain_two _ _, depth_two _ _, _, rfl, ?_⟩
        rw [eqv_two]
        by_cases hzero : m - j = 0 ∧ n - j = 0
        · refine ifT (decide_eq_true (by rw [hzero.1, hzero.2]; rfl)) ⟨_, rfl, _, rfl, _, _, rfl, rfl, ?_⟩
          refine ⟨some (.int (0 + (j : Int))), some (.ref kb), some (.int ((x : Int) * ((chN m j : Nat) : Int))), kA, fd + x * chN m j, ?_, hD7, hA7, g4, ?_, sH7⟩
          · show [some (nI N), some (.ref D), some (.int ((fd : Int) + (x : Int) * ((chN m j : Nat) : Int))), _, _, _, _, _, _, _] = _
            rw [← Int.natCast_mul, ← Int.natCast_add]
            rfl
          · rw [S_succ, hzero.1, hzero.2, show W 0 (2 * 0) = 1 from rfl, Nat.mul_one, Nat.mul_add]
            omega
        · have hne : ¬ ((((m - j : Nat) : Int), ((2 * (n - j) : Nat) : Int)) = ((0 : Int), (0 : Int))) := fun e => hzero (by
            have e1 := congrArg Prod.fst e
            have e2 := congrArg Prod.snd e
            simp only at e1 e2
            omega)
          refine ifF (decide_eq_false hne) ?_
          have skip : ¬ (0 < n - j ∧ 2 * (n - j) ≤ m - j) → W (m - j) (2 * (n - j)) = 0 := fun h => by
            rw [W_base (by omega), if_neg (by omega)]
          refine ⟨_, rfl, kb, _, 1, nI (2 * (n - j)), rfl, rfl, .inl (.inl hkb7), rfl, _, _, rfl, rfl, _, rfl, ?_⟩
          by_cases hp : 0 < n - j
          · refine ifT (decide_eq_true (by omega)) ⟨_, rfl, kb, _, 0, nI (m - j), rfl, rfl, .inl (.inl hkb7), rfl, _, _, rfl, rfl, _, rfl, ?_⟩
            by_cases hle : 2 * (n - j) ≤ m - j
            · refine ifT (decide_eq_true (by omega)) ?_
              have hkb8 : H7 kb = some (.tup ((kMN (m - j) (2 * (n - j))).map kV)) := hkb7
              have fin : ∀ (y : Nat), phi (putK kA (kMN (m - j) (2 * (n - j))) (nI (y + x * chN m j))) = phi kA + x * chN m j * W (m - j) (2 * (n - j)) → ∃ (v7 v8 v9 : Option V) (kA' : List (List Key × V)) (fd' : Nat),
                  [some (nI N), some (V.ref D), some (nI fd), some (.int (0 + (l : Int))), some (.ref A0), some (.int m), some (.int n), some (.int (0 + (j : Int))), some (.ref kb), some (V.int ((x : Int) * ((chN m j : Nat) : Int)))] = [some (nI N), some (.ref D), some (nI fd'), some (.int (0 + (l : Int))), some (.ref A0), some (.int m), some (.int n), v7, v8, v9] ∧
                  (upd H7 A0 (.dT (putK kA (kMN (m - j) (2 * (n - j))) (.int ((y : Int) + (x : Int) * ((chN m j : Nat) : Int)))))) D = some (.frz od (.dT kvs)) ∧ (upd H7 A0 (.dT (putK kA (kMN (m - j) (2 * (n - j))) (.int ((y : Int) + (x : Int) * ((chN m j : Nat) : Int)))))) A0 = some (.dT kA') ∧ GN N (l + 1) kA' ∧
                  fd' + phi kA' + phi (kvs.drop (i + 1)) + x * W m n = W N 2 + x * S m n (j + 1) ∧ Same H (upd H7 A0 (.dT (putK kA (kMN (m - j) (2 * (n - j))) (.int ((y : Int) + (x : Int) * ((chN m j : Nat) : Int)))))) := fun y hy => by
                have ey : (V.int ((y : Int) + (x : Int) * ((chN m j : Nat) : Int))) = nI (y + x * chN m j) := by
                  rw [← Int.natCast_mul, ← Int.natCast_add]
                  rfl
                rw [ey]
                refine ⟨_, _, _, _, fd, rfl, by rw [upd_ne (Ne.symm hAD)]; exact hD7, upd_same, g4.put (by omega) hle (by omega) (by omega), ?_, same_mut sH7 hAH⟩
                rw [hy, S_succ, Nat.mul_add, ← Nat.mul_assoc]
                omega
              have hg := DGet.t (k := kMN (m - j) (2 * (n - j))) hA7 hkb8
              cases hv : valV kA (kMN (m - j) (2 * (n - j))) with
              | some u =>
                rw [hv] at hg
                obtain ⟨y, rfl⟩ := g4.val hv
                refine ⟨_, rfl, A0, rfl, .inr ⟨kA, .inl hA7⟩, _, rfl, _, hg, _, rfl, _, _, rfl, rfl, _, rfl, _, rfl, A0, _, rfl, DPut.t (k := kMN (m - j) (2 * (n - j))) hA7 hkb8 (small_lt (by have := g4.len; omega)), ?_⟩
                exact fin y (phi_put g4.nd hv)
              | none =>
                rw [hv] at hg
                refine ⟨_, rfl, A0, rfl, .inr ⟨kA, .inl hA7⟩, _, rfl, none, hg, _, rfl, _, _, rfl, rfl, _, rfl, _, rfl, A0, _, rfl, DPut.t (k := kMN (m - j) (2 * (n - j))) hA7 hkb8 (small_lt (by have := g4.len; omega)), ?_⟩
                exact fin 0 (by rw [Nat.zero_add]; exact phi_new hv)
            · refine ifF (decide_eq_false (by omega)) ⟨_, _, _, kA, fd, rfl, hD7, hA7, g4, ?_, sH7⟩
              rw [S_succ, skip (fun z => hle z.2), Nat.mul_zero, Nat.add_zero]
              exact f4
          · refine ifF (decide_eq_false (by omega)) ⟨_, rfl, ifF rfl ⟨_, _, _, kA, fd, rfl, hD7, hA7, g4, ?_, sH7⟩⟩
            rw [S_succ, skip (fun z => hp z.1), Nat.mul_zero, Nat.add_zero]
            exact f4
      · rintro σ H4 ⟨v7, v8, v9, kA, fd, rfl, hD4, hA4, g4, f4, s4⟩
        refine ⟨_, _, _, _, _, kA, fd, rfl, hD4, hA4, g4, ?_, s4⟩
        have hS : S m n (n + 1) = W m n := (W_step (by omega)).symm
        rw [hS] at f4
        omega
    · rintro σ H3 ⟨v5, v6, v7, v8, v9, kA, fd, rfl, hD3, hA3, g3, f3, s3⟩
      refine ⟨hD3, _, rfl, _, _, _, _, _, _, _, A0, kA, fd, rfl, by rw [upd_ne hAD]; exact hA3, g3, ?_, same_mut s3 hDH, hAH⟩
      rw [List.drop_length] at f3
      exact f3
  · rintro σ H1 ⟨v3, v4, v5, v6, v7, v8, v9, D, kvs, fd, rfl, hD1, g1, f1, s1, hDH⟩
    have e := g1.empty (Nat.le_refl _)
    subst e
    have f2 : fd = W N 2 := f1
    refine ⟨_, rfl, ?_⟩
    rw [f2]
    exact q H1 s1
end
end K38
end
section
/-! ## K38W -/
/-! Several clauses 'except x as n' (as the layer's rules for one such clause, and for several without a name). -/
namespace K38
open PySem PySem.Spec PyProof.Rows L2
abbrev SuiteT := Addr → Value → Option Addr → TS
def dropN (i : Nat) (D : Ends) : Ends := { nx := fun σ' H' => D.nx (σ'.set i none) H', rt := D.rt, bk := fun σ' H' => D.bk (σ'.set i none) H', ct := fun σ' H' => D.ct (σ'.set i none) H' }
def wMA (K : PySem.W.Frag) (Wout : WX) (i : Nat) (D : Ends) : List (Value × SuiteT) → WX
  | [] => Wout
  | (c, ts) :: r => fun cls d σ H => ∃ b, PySem.W.exmOne K cls c = some b ∧ (b = true → ∀ a, H a = none → ts a cls d (dropN i D) (σ.set i (some (.ref a))) H) ∧ (b = false → wMA K Wout i D r cls d σ H)
inductive HdsA (X : Cx) (n : Str) : List ExceptHandler → List (Value × SuiteT) → Prop
  | nil : HdsA X n [] []
  | cons {x : Str} {c : Value} {ts : SuiteT} {b₀ : Stmt} {suite : List Stmt} {np pos' : Pos} {hds : List ExceptHandler} {l : List (Value × SuiteT)} (hc : Names X x c)
      (hsu : ∀ (a : Addr) (oe : Obj) (cls : Value) (d : Option Addr) (pn : List (Addr × Obj)), Zc cls d oe → (∃ vs, oe.data = .fields vs) → PSs (X.suite a ((a, oe) :: pn)) (b₀ :: suite) (ts a cls d)) (r : HdsA X n hds l) :
      HdsA X n (.ExceptHandler (some (.Name x np)) (some n) (b₀ :: suite) pos' :: hds) ((c, ts) :: l)
section
variable {X : Cx} {n : Str} {i : Nat} {body : List Stmt} {h₀ : ExceptHandler} {hds : List ExceptHandler} {l : List (Value × SuiteT)} {pos : Pos} {tb : WX → TS} {Wout : WX}
theorem ps_try_many_as (hs : X.stack = X.env :: X.outer) (hf : X.env.frame = some X.env.locals) (hN : X.N.Nodup) (hi : X.N[i]? = some n) (hln : X.env.kindOf n = some .local) (tk : Takes X Wout)
    (hb : ∀ (W : WX) (pn : List (Addr × Obj)) (xe : Value → Shared → Prop), Takes (X.tr pn xe) W → PassesOwn (model X.prog X.w) X.A X.env xe → PSs (X.tr pn xe) body (tb W))
    (hh : HdsA X n (h₀ :: hds) l) : PS X (.Try body (h₀ :: hds) [] [] pos) (fun D σ H => tb (wMA X.K Wout i D l) D σ H) := by
  refine ⟨fun pins s σ H D I h => ?_⟩
  have ok := I.ok
  have hfr : X.A.frames = some (X.env :: X.outer) := by rw [ok.frames, hs]
  have hloc : Loc X.env.scope n := .inl hln
  refine wpAny_Try_except ?_
  refine wpAny_mono ((hb (wMA X.K Wout i D l) (X.pn ++ pins) (fun e s₁ => wpAny (model X.prog X.w) X.A (noteFrame e X.env) (fun _ s₂ => wpAny (model X.prog X.w) X.A (setFlight e none) (fun _ s₃ =>
    wpAny (model X.prog X.w) X.A (handleBy e X.env (h₀ :: hds)) (SP X pins D) X.xe s₃) X.xe s₂) X.xe s₁) (fun u s' xx => ?_) PassesOwn.looking).run [] s σ H D (I.toTry _) h) (fun f s1 hsp => ?_) (fun e s1 he => he)
  · obtain ⟨a, B, sI, pins', σ', H', cls, d, rfl, J', nb, up, sky, na, os, ag, w⟩ := xx
    have J : Inv X pins σ' H' sI := J'.ofTry ok
    have sky' : Sky B (X.env :: X.outer) a (Zc cls d) X.env.locals s'.heap := by rw [← hs]; exact sky
    show wpAny (model X.prog X.w) X.A (noteFrame (.ref a) X.env) _ _ _
    refine Sky.land Zc.steady hfr hf sky' fun h3 fl3 up3 => ?_
    have J3 : Inv X pins σ' H' { s' with heap := h3 } := J.landed nb fl3.1 (up.trans up3) os ag
    obtain ⟨oe3, vs3, he3, hz3, hd3⟩ := fl3.there
    have notFr : ∀ {h : Heap} {o : Obj} {vs : Array Value}, h.FunFrames B (X.env :: X.outer) → h.get? a = some o → o.data = .fields vs → a ∉ frs (X.env :: X.outer) := fun {h o vs} ff e dd hm => by
      obtain ⟨_, o', e', hnf⟩ := ff.mem hm
      rw [e] at e'; cases e'
      exact hnf _ dd
    have nfr := notFr fl3.2.2.1 he3 hd3
    have nL : a ≠ X.env.locals := fun z => nfr (List.mem_filterMap.mpr ⟨X.env, List.mem_cons_self, by rw [hf, z]⟩)
    have nF : a ∉ X.fs := fun hm => by
      obtain ⟨e, he, q⟩ := List.mem_filterMap.mp hm
      exact nfr (List.mem_filterMap.mpr ⟨e, List.mem_cons_of_mem _ he, q⟩)
    have S3 := J3.suite he3 hd3 na nL nF
    have go : ∀ {hds' : List ExceptHandler} {l' : List (Value × SuiteT)}, HdsA X n hds' l' → wMA X.K Wout i D l' cls d σ' H' →
        wpAny (model X.prog X.w) X.A (handleBy (.ref a) X.env hds') (SP X pins D) X.xe { s' with heap := h3 } := by
      intro hds' l' hk
      induction hk with
      | nil =>
        intro w
        refine wpAny_handleBy_nil ?_
        obtain ⟨k1, k2, k3, oe, vs, T, oT, ts', he, hz, hd, h1, hr⟩ := id fl3
        unfold PySem.passOn
        refine wpAny_bind (wpAny_field he hd h1 ?_)
        rw [if_neg (show ¬ ((Value.ref T == Value.none) = true) from by simp)]
        have fin : wpAny (model X.prog X.w) X.A (setFlight (.ref a) X.env.frame) (fun _ s4 => wpAny (model X.prog X.w) X.A (throw (.ref a) : Sem Flow) (SP X pins D) X.xe s4) X.xe { s' with heap := h3 } := by
          rw [hf]
          refine HandSPX.setFlight_upZ fl3 fun h4 hh4 up4 => wpAny_throw (tk _ _ ?_)
          exact ⟨a, B, sI, pins, σ', H', cls, d, rfl, J, nb, (up.trans up3).trans up4, .inr (.inr (by rw [hs]; exact hh4)), na, os, ag, w⟩
        first
          | exact wpAny_bind (wpAny_pure (wpAny_bind fin))
          | exact wpAny_bind fin
      | @cons x c ts b₀ suite np pos' hds2 l2 hc hsu r ih =>
        intro w
        obtain ⟨b, hb1, hyes, hno⟩ := w
        refine wpAny_handleBy_cons (codeAny_handlers_test ?_) (by intro q; cases q)
        have LT : PySem.W.Looks (model X.prog X.w) h3 (typeOf (.ref a)) cls := fun A Q E s k q => wpAny_typeOf_ref (k _ _ he3) (by rw [hz3.1]; exact q)
        have LM := PySem.W.exm_one (M := model X.prog X.w) (J3.kIn) LT hb1
        have test : ∀ {Q : Value → Shared → Prop} {E : Value → Shared → Prop}, Q c { s' with heap := h3 } → wpAny (model X.prog X.w) (X.A.mark (some (.ref a))) (eval (.Name x np) X.env) Q E { s' with heap := h3 } := fun {Q E} q => by
          obtain ⟨hg, hdbg, hm | ⟨hm, hv, hnn⟩⟩ := hc
          · exact ld_glob (X := X.suite a ((a, oe3) :: (X.pn ++ pins))) S3 hg hm q hdbg
          · exact ld_blt (X := X.suite a ((a, oe3) :: (X.pn ++ pins))) S3 hg hm hv q hnn hdbg
        refine test (LM.here ?_)
        cases b with
        | true =>
          refine codeAny_handlers_suite_as ?_
          refine HandSPX.lands_againZ fl3 fun h4 fl4 up4 => ?_
          have J4 : Inv X pins σ' H' { s' with heap := h4 } := J.landed nb fl4.1 ((up.trans up3).trans up4) os ag
          obtain ⟨oe4, vs4, he4, hz4, hd4⟩ := fl4.there
          have S4 := J4.suite he4 hd4 na nL nF
          refine store_ok (X := X.suite a ((a, oe4) :: (X.pn ++ pins))) (v := .ref a) S4 hN hi hloc rfl (fun s5 S5 => ?_) (.inr hln)
          refine wpAny_mono ((hsu a oe4 cls d (X.pn ++ pins) hz4 ⟨_, hd4⟩).run [] s5 _ H' _ S5 (hyes rfl a na)) (fun f s6 hsp => ?_) (fun _ _ z => False.elim z)
          have end_ : ∀ {σ6 : L2.St} {H6 : Hp} {Q : Shared → Prop}, Inv (X.suite a ((a, oe4) :: (X.pn ++ pins))) [] σ6 H6 s6 → (∀ s7, Inv X pins (σ6.set i none) H6 s7 → Q s7) →
              wpAny (model X.prog X.w) X.A (do bindName X.env n .none; unbindBehindTheSuite X.env n pos') (fun _ s7 => Q s7) X.xe s6 := fun {σ6 H6 Q} S6 hq => gone_ok (S6.unsuite ok) hN hi hln hq
          cases f with
          | next =>
            obtain ⟨σ6, H6, S6, q6⟩ := hsp
            exact end_ S6 fun s7 J7 => ⟨_, _, J7, q6⟩
          | brk =>
            obtain ⟨σ6, H6, S6, q6⟩ := hsp
            exact end_ S6 fun s7 J7 => ⟨_, _, J7, q6⟩
          | cont =>
            obtain ⟨σ6, H6, S6, q6⟩ := hsp
            exact end_ S6 fun s7 J7 => ⟨_, _, J7, q6⟩
          | ret u =>
            obtain ⟨v6, σ6, H6, S6, r6, q6⟩ := hsp
            exact end_ S6 fun s7 J7 => ⟨_, _, _, J7, r6, q6⟩
        | false =>
          show wpAny _ X.A (handleBy (.ref a) X.env hds2) _ _ _
          exact ih (hno rfl)
    exact go hh w
  · cases f with
    | next =>
      obtain ⟨σ', H', J', q⟩ := hsp
      exact wpAny_execs_nil ⟨σ', H', J'.ofTry ok, q⟩
    | brk =>
      obtain ⟨σ', H', J', q⟩ := hsp
      exact ⟨σ', H', J'.ofTry ok, q⟩
    | cont =>
      obtain ⟨σ', H', J', q⟩ := hsp
      exact ⟨σ', H', J'.ofTry ok, q⟩
    | ret u =>
      obtain ⟨v, σ', H', J', r, q⟩ := hsp
      exact ⟨v, σ', H', J'.ofTry ok, r, q⟩
/-- the slots are as many as the names -/
theorem takes_len {W : WX} (tk : Takes X W) : Takes X (fun cls d σ H => σ.length = X.N.length → W cls d σ H) := fun u s' ⟨a, B, sI, pins, σ, H, cls, d, e, I, nb, up, sky, na, os, ag, w⟩ =>
  tk u s' ⟨a, B, sI, pins, σ, H, cls, d, e, I, nb, up, sky, na, os, ag, w I.len⟩
end
end K38
end
section
/-! ## K38X -/
/-! repr: what the stack's guards say is taken as known; a list of ints then has one repr. -/
namespace K38
open PySem PySem.Spec PyProof.Rows L2
/-- a list's repr at a is under way -/
def lsGuard (a : Addr) : Code × Pos → Bool
  | (.builtin "list.__repr__.loop" ⟨v :: _, _⟩, _) => Builtin.List.listSameRef v (.ref a)
  | _ => false
theorem lsGuard_off (a : Addr) (c : Code) (p : Pos) (hc : c.isGuard = false) : lsGuard a (c, p) = false := by
  unfold lsGuard
  split
  · next v rest kw _ heq =>
    cases heq
    simp [Code.isGuard, guardIds] at hc
  · rfl
theorem lsGuard_pos (a : Addr) (c : Code) (p : Pos) : lsGuard a (c, p) = lsGuard a (c, default) := by
  unfold lsGuard
  split
  · next v rest kw _ heq =>
    cases heq
    rfl
  · next h =>
    split
    · next v rest kw _ heq =>
      cases heq
      exact absurd rfl (h _ _ _ _)
    · rfl
def inWay (g : List Code) (a : Addr) : Bool := g.any fun c => lsGuard a (c, default)
/-- the text -/
def lrep (g : List Code) (a : Addr) (ts : List Str) : Str := if inWay g a = true then "[...]" else PySem.listText ts
section
variable {prog : Program} {w : World} {A : Around} {E : Value → Shared → Prop} {s : Shared} {a : Addr} {oa : Obj} {x : Value} {l : List Value} {na : Nat} {ts : List Str} {g : List Code}
theorem call_list_reprG {Q : Value → Shared → Prop} (hTy : s.TypeIs (.ref a) "list") (hg : A.guards = some g)
    (ha : s.heap.get? a = some oa) (hda : oa.data = .seq (x :: l).toArray na) (hlen : ts.length = (x :: l).toArray.size)
    (hT : ∀ (i : Nat) (y : Value), (x :: l).toArray[i]? = some y → ∃ t, ts[i]? = some t ∧ ReprIs prog w y t)
    (hQ : ∀ h' u tk, (∀ b o, s.heap.get? b = some o → h'.get? b = some o) → Q (.str (lrep g a ts) u) { s with heap := h', toks := tk })
    (hsz : (listText ts).length ≤ sizeLine) :
    wpAny (model prog w) A (call (.builtin "list.__repr__") [.ref a]) Q E s := by
  cases hw : inWay g a with
  | true =>
    unfold lrep at hQ
    rw [if_pos hw] at hQ
    refine wpAny_call (codeAny_call_builtin_own (Code.quiet_builtin _ (by decide +kernel)) F.entry_list_repr (F.slot_list_repr.check _ _ _ _ _ _ _ _ hTy (F.args_list_repr_1 _) ?_))
    show wpOwn _ _ _ (Builtin.listReprAt 0 ⟨[.ref a], []⟩) _ _ s
    intro Γ p hc hΓ
    unfold Builtin.listReprAt
    simp [slotArgs, Builtin.List.listItems, seqItems?, Sem.wp_load_of (h := ha), hda, stack]
    show Sem.wp _ Γ (if (Γ.below.any (lsGuard a)) = true then _ else _) _ _ p s
    rw [if_pos]
    · refine (wpOwn_of_wpAny (E := E) (A := A) (c := .builtin "list.__repr__" ⟨[.ref a], []⟩) ?_) Γ p hc hΓ
      refine wpAny_bind (wpAny_rule ?_)
      exact wpAny_bind (wpAny_mkStr (wpAny_pure (hQ s.heap _ _ fun _ _ e => e)) (by decide +kernel))
    · rw [any_eq_guards (lsGuard_off a) (lsGuard_pos a), hΓ.2.2.2.1 g hg]
      exact hw
  | false =>
    unfold lrep at hQ
    rw [if_neg (by rw [hw]; simp)] at hQ
    refine call_list_repr hTy hg (fun v rest kw hm => ?_) ha hda hlen hT hQ hsz
    have h1 := List.any_eq_false.mp hw _ hm
    cases e : Builtin.List.listSameRef v (.ref a) with
    | false => rfl
    | true => exact absurd e h1
end
end K38
end
section
/-! ## K38Y -/
/-! repr; _law_refused. -/
namespace K38
open PySem PySem.Spec PyProof.Rows L2 LamX
/-- the repr of the values that the law asks about -/
def ReprV (K : PySem.W.Frag) (g : List Code) (H : Hp) (x : V) (t : Str) : Prop :=
  (∃ i : Int, x = .int i ∧ i.natAbs.log2 < 1920 ∧ t = toString i) ∨ (∃ b : Bool, x = .bl b ∧ t = (if b = true then ("True" : Str) else ("False" : Str))) ∨ (x = .non ∧ t = "None") ∨ (x = .str "3" ∧ t = reprText "3") ∨
  (∃ a, x = .ref a ∧ SqL K H a [.int 3] ∧ t = lrep g a [toString (3 : Int)])
theorem ReprV.same {K : PySem.W.Frag} {g : List Code} {H H' : Hp} {x : V} {t : Str} (h : ReprV K g H x t) (s : Same H H') : ReprV K g H' x t := by
  rcases h with h | h | h | h | ⟨a, h1, h2, h3⟩
  · exact .inl h
  · exact .inr (.inl h)
  · exact .inr (.inr (.inl h))
  · exact .inr (.inr (.inr (.inl h)))
  · exact .inr (.inr (.inr (.inr ⟨a, h1, SqA.same (b := true) s h2, h3⟩)))
def rRepr (K : PySem.W.Frag) (g : List Code) : List V → Hp → VK → Prop := fun xs H Q => ∃ x t, xs = [x] ∧ ReprV K g H x t ∧ Q (.str t) H
theorem call_repr {X : Cx} {g : List Code} (hg : X.A.guards = some g) (hu : X.A.units + 100 < cLine) : CallR X (.builtin "repr") (rRepr X.K g) := by
  intro pins s σ H xs us Q I r h
  obtain ⟨x, t, rfl, hv, q⟩ := h
  obtain ⟨u, rfl, ru⟩ := vals1 r
  rcases hv with ⟨i, rfl, hz, rfl⟩ | ⟨b, rfl, rfl⟩ | ⟨rfl, rfl⟩ | ⟨rfl, rfl⟩ | ⟨a, rfl, hS, rfl⟩
  · obtain ⟨tk, rfl⟩ := ru
    exact PySem.P.repr_of_int hz ⟨.str _, H, I.tok _, ⟨_, rfl⟩, q⟩
  · obtain rfl : u = Value.bool b := ru
    exact PySem.P.repr_of_bool ⟨.str _, H, I.tok _, ⟨_, rfl⟩, by cases b <;> exact q⟩
  · obtain rfl : u = Value.none := ru
    exact PySem.P.repr_of_none ⟨.str _, H, I.tok _, ⟨_, rfl⟩, q⟩
  · obtain ⟨tk, rfl⟩ := ru
    exact PySem.P.repr_of_str ⟨.str _, H, I.tok _, ⟨_, rfl⟩, q⟩ (hsz := by decide +kernel)
  · obtain rfl : u = Value.ref a := ru
    obtain ⟨its, rv, ⟨o, n, e, hc, _, hd⟩, _⟩ := I.list hS
    obtain ⟨u3, rfl, tk, rfl⟩ := vals1 rv
    have hTy : s.TypeIs (.ref a) "list" := ⟨o, e, hc⟩
    refine call_repr_slot (by omega) hTy F.slot_list_repr.toG ?_
    exact call_list_reprG (A := X.A.in1) (x := .int 3 tk) (l := []) hTy hg e hd rfl (fun i y hy => by
      cases i with
      | zero => exact ⟨_, rfl, by cases hy; exact ReprIs.int tk (by decide)⟩
      | succ i => simp at hy) (fun h' u tk2 hk => ⟨_, _, rfl, .str _, H, I.kept hk, ⟨_, rfl⟩, q⟩) (by decide +kernel)
/-! ### more facts -/
def exmL : List (Str × Str × Bool) := [("OtherSize", "OtherSize", true), ("BadSize", "OtherSize", false), ("BadSize", "BadSize", true), ("BadCount", "OtherSize", false), ("BadCount", "BadSize", false), ("BadCount", "BadCount", true),
  ("TooMany", "OtherSize", false), ("TooMany", "BadSize", false), ("TooMany", "BadCount", false), ("TooMany", "TooMany", true)]
def exN : List Str := ["OtherSize", "BadSize", "BadCount", "TooMany"]
def exF : List (Str × Str) := [("OtherSize", "many"), ("OtherSize", "wanted"), ("BadSize", "size"), ("BadCount", "index"), ("TooMany", "what"), ("TooMany", "many"), ("TooMany", "most")]
structure Tz (K : PySem.W.Frag) (mg : Str → Option Value) : Prop extends Tx K mg where
  em : ∀ p ∈ exmL, PySem.W.exmOne K (.ref (He.ga K p.1)) (.ref (He.ga K p.2.1)) = some p.2.2
  xf : ∀ x ∈ exN, xfB K (He.ga K x) = true
  nof : ∀ p ∈ exF, PySem.W.findIn K (.ref (He.ga K p.1)) p.2 = some none
/-- what the law is told, of the exception that the call raised -/
def Told (K : PySem.W.Frag) (g : List Code) (Q : VK) (cls : Value) (d : Option Addr) (H : Hp) : Prop := ∃ (dd : Addr) (fs : List (Str × V)), d = some dd ∧ H dd = some (.xd fs) ∧
  ((cls = .ref (He.ga K "OtherSize") ∧ ∃ m n, fs.lookup ("many" : Str) = some m ∧ fs.lookup ("wanted" : Str) = some n ∧ ∀ p, H p = none → Q (.ref p) (upd H p (.tup [.str "size", m, n]))) ∨
   (cls = .ref (He.ga K "BadSize") ∧ ∃ v t, fs.lookup ("size" : Str) = some v ∧ ReprV K g H v t ∧ ∀ p, H p = none → Q (.ref p) (upd H p (.tup [.str "bad", .str t]))) ∨
   (cls = .ref (He.ga K "BadCount") ∧ ∃ j, fs.lookup ("index" : Str) = some j ∧ ∀ p, H p = none → Q (.ref p) (upd H p (.tup [.str "count", j]))) ∨
   (cls = .ref (He.ga K "TooMany") ∧ ∃ a m n, fs.lookup ("what" : Str) = some a ∧ fs.lookup ("many" : Str) = some m ∧ fs.lookup ("most" : Str) = some n ∧ ∀ p, H p = none → Q (.ref p) (upd H p (.tup [a, m, n]))))
def TRef (K : PySem.W.Frag) (g : List Code) : (XK → Hp → VK → Prop) → Hp → VK → Prop := fun tl H Q => ∀ H0, Same H H0 → ∀ Qn, tl (Told K g Q) H0 Qn
theorem scRefused : FnScope ["_law_call", "_law_told", "e"] ["_law_call"] (defScope sRefused) := ⟨rfl, rfl, rfl, by decide +kernel, rfl, by decide +kernel, by decide +kernel⟩
section
variable {X : Cx} {gd : List Code} {g : Addr} {cdg : Value} {q : Str}
theorem refused_gives (T : Tz X.K X.mg) (hg : X.A.guards = some gd) (hu : (X.A.deeper (envOfC "_law_refused" (defScope sRefused) 0 g cdg)).units + 100 < cLine) :
    GivesTo X ["_law_call", "_law_told", "e"] "_law_refused" (defScope sRefused) g cdg (defBody sRefused) "_law_call" q (TRef X.K gd) := by
  intro f c' s H Q tl act hc h
  obtain ⟨f1, c1, a1, X1⟩ := T.xOtherSize
  obtain ⟨f2, c2, a2, X2⟩ := T.xBadSize
  obtain ⟨f3, c3, a3, X3⟩ := T.xBadCount
  obtain ⟨f4, c4, a4, X4⟩ := T.xTooMany
  have xf : ∀ x ∈ exN, XfC X.K (He.ga X.K x) := fun x hx => xfB_ok (T.xf x hx)
  refine ⟨_, pss_cons (ps_set (i := 1) scRefused.nd rfl (Or.inl rfl) (pe_tup pa_nil)) (pss_cons
    (ps_try_many_as (X := (cxOf C8.CX0 X.prog X.w X.K X.mg X.base ["_law_call", "_law_told", "e"] "_law_refused" (defScope sRefused) g cdg X.A X.stack s H C8.E0).nox) (i := 2) (n := "e")
      (tb := fun W D σ H => ∃ Ech : XK, (∀ cls d σ' H', Ech cls d H' → σ'.length = 3 → W cls d σ' H') ∧ σ[0]? = some (some (.ref f)) ∧ H c' = some (CodeO c' q) ∧ ∀ Qn, tl Ech H Qn)
      rfl rfl scRefused.nd rfl rfl LamX.takes0 (fun W pn xe tk _ => ?_)
      (.cons (c := .ref (He.ga X.K "OtherSize")) ⟨rfl, by decide, .inl X1.gC⟩ (fun a oe cls d pn hz hv => pss_one (ps_set (i := 1) scRefused.nd rfl (Or.inl rfl) (pe_tup (pa_cons pe_str (pa_cons (pe_xf (xf _ (by decide)) (T.nof ("OtherSize", "many") (by decide)) hz hv (pv 2))
        (pa_cons (pe_xf (xf _ (by decide)) (T.nof ("OtherSize", "wanted") (by decide)) hz hv (pv 2)) pa_nil))))))
      (.cons (c := .ref (He.ga X.K "BadSize")) ⟨rfl, by decide, .inl X2.gC⟩ (fun a oe cls d pn hz hv => pss_one (ps_set (i := 1) scRefused.nd rfl (Or.inl rfl) (pe_tup (pa_cons pe_str (pa_cons
        (pe_callB (r := rRepr X.K gd) (call_repr hg hu) (by rfl) (T.fr _ (by decide)) (by decide +kernel) (pa_cons (pe_xf (xf _ (by decide)) (T.nof ("BadSize", "size") (by decide)) hz hv (pv 2)) pa_nil)) pa_nil)))))
      (.cons (c := .ref (He.ga X.K "BadCount")) ⟨rfl, by decide, .inl X3.gC⟩ (fun a oe cls d pn hz hv => pss_one (ps_set (i := 1) scRefused.nd rfl (Or.inl rfl) (pe_tup (pa_cons pe_str (pa_cons (pe_xf (xf _ (by decide)) (T.nof ("BadCount", "index") (by decide)) hz hv (pv 2)) pa_nil)))))
      (.cons (c := .ref (He.ga X.K "TooMany")) ⟨rfl, by decide, .inl X4.gC⟩ (fun a oe cls d pn hz hv => pss_one (ps_set (i := 1) scRefused.nd rfl (Or.inl rfl) (pe_tup (pa_cons (pe_xf (xf _ (by decide)) (T.nof ("TooMany", "what") (by decide)) hz hv (pv 2)) (pa_cons (pe_xf (xf _ (by decide)) (T.nof ("TooMany", "many") (by decide)) hz hv (pv 2))
        (pa_cons (pe_xf (xf _ (by decide)) (T.nof ("TooMany", "most") (by decide)) hz hv (pv 2)) pa_nil)))))) .nil)))))
    (pss_one (ps_ret (pv 1)))), ?_⟩
  · refine ⟨fun pins s' σ H' D I h' => ?_⟩
    obtain ⟨Ech, hW, h1, h2, h3⟩ := h'
    exact (pss_one (ps_expr (act _ pn xe Ech _ _ (takes_len tk) hW))).run pins s' σ H' D I ⟨h1, h2, h3 _⟩
  · refine ⟨by decide, fun p hp => ?_⟩
    have sm : Same H (upd H p (.tup [])) := Ext.upd hp
    refine ⟨Told X.K gd Q, fun cls d σ' H' ht hl => ?_, rfl, ?_, h _ sm⟩
    · obtain ⟨dd, fs, rfl, hdd, ht⟩ := ht
      obtain ⟨x, y, z, rfl⟩ : ∃ x y z, σ' = [x, y, z] := match σ', hl with | [x, y, z], _ => ⟨x, y, z, rfl⟩
      have no : ∀ {A : Prop}, (false = true) → A := fun h => nomatch h
      have sz3 : ∀ {n : Nat}, n + 0 ≤ 3 → n ≤ sizeLine := fun {n} h => by rw [sizeLine_eq]; omega
      have no2 : ∀ {A : Prop}, (true = false) → A := fun h => nomatch h
      rcases ht with ⟨rfl, m, n, l1, l2, q⟩ | ⟨rfl, v, t, l1, hr, q⟩ | ⟨rfl, j, l1, q⟩ | ⟨rfl, a0, m, n, l1, l2, l3, q⟩
      · exact ⟨true, T.em ("OtherSize", "OtherSize", true) (by decide), fun _ a ha => ⟨_, rfl, rfl, rfl, dd, fs, m, rfl, hdd, l1, _, rfl, rfl, rfl, dd, fs, n, rfl, hdd, l2, sz3 (by simp), fun p hp => ⟨_, rfl, q p hp⟩⟩, no2⟩
      · exact ⟨false, T.em ("BadSize", "OtherSize", false) (by decide), no, fun _ => ⟨true, T.em ("BadSize", "BadSize", true) (by decide), fun _ a ha => ⟨_, rfl, rfl, rfl, dd, fs, v, rfl, hdd, l1, v, t, rfl, hr, sz3 (by simp), fun p hp => ⟨_, rfl, q p hp⟩⟩, no2⟩⟩
      · exact ⟨false, T.em ("BadCount", "OtherSize", false) (by decide), no, fun _ => ⟨false, T.em ("BadCount", "BadSize", false) (by decide), no, fun _ => ⟨true, T.em ("BadCount", "BadCount", true) (by decide), fun _ a ha =>
          ⟨_, rfl, rfl, rfl, dd, fs, j, rfl, hdd, l1, sz3 (by simp), fun p hp => ⟨_, rfl, q p hp⟩⟩, no2⟩⟩⟩
      · exact ⟨false, T.em ("TooMany", "OtherSize", false) (by decide), no, fun _ => ⟨false, T.em ("TooMany", "BadSize", false) (by decide), no, fun _ => ⟨false, T.em ("TooMany", "BadCount", false) (by decide), no, fun _ => ⟨true, T.em ("TooMany", "TooMany", true) (by decide), fun _ a ha =>
          ⟨_, rfl, rfl, rfl, dd, fs, a0, rfl, hdd, l1, _, rfl, rfl, rfl, dd, fs, m, rfl, hdd, l2, _, rfl, rfl, rfl, dd, fs, n, rfl, hdd, l3, sz3 (by simp), fun p hp => ⟨_, rfl, q p hp⟩⟩, no2⟩⟩⟩⟩
    · exact sm _ _ hc
end
end K38
end
section
/-! ## K38Za -/
/-! The law: what stays from statement to statement. -/
namespace K38
open PySem PySem.Spec PyProof.Rows L2
/-- all but the pen and the tables of code objects is kept -/
def Kp (P : Addr) (H H' : Hp) : Prop := ∀ b u, H b = some u → b ≠ P → (∀ ps, u ≠ .tbl ps) → H' b = some u
theorem Kp.of {P : Addr} {H H' : Hp} (s : Same H H') : Kp P H H' := fun b u e _ _ => s b u e
theorem Kp.ofB {P : Addr} {H H' : Hp} (s : SameB P H H') : Kp P H H' := fun b u e n _ => s b u e n
theorem Kp.ofN {P : Addr} {H H' : Hp} (s : LamX.ExtN H H') : Kp P H H' := fun b u e _ n => s b u e n
section
variable {K : PySem.W.Frag} {H H' : Hp} {P : Addr} {kvs : List (Key × V)}
theorem sqA_kp {b : Bool} {a : Addr} {xs : List V} (h : SqA b K H a xs) (hP : H P = some (.dK kvs)) (s : Kp P H H') : SqA b K H' a xs := by
  cases b
  · rcases h with (h | ⟨u, h⟩) | h
    · exact .inl (.inl (s _ _ h (fun e => by rw [e, hP] at h; cases h) (fun _ z => by cases z)))
    · exact .inl (.inr ⟨u, s _ _ h (fun e => by rw [e, hP] at h; cases h) (fun _ z => by cases z)⟩)
    · exact .inr h
  · rcases h with (h | ⟨u, h⟩) | h
    · exact .inl (.inl (s _ _ h (fun e => by rw [e, hP] at h; cases h) (fun _ z => by cases z)))
    · exact .inl (.inr ⟨u, s _ _ h (fun e => by rw [e, hP] at h; cases h) (fun _ z => by cases z)⟩)
    · exact .inr h
theorem tup_kp {a : Addr} {xs : List V} (h : H a = some (.tup xs)) (hP : H P = some (.dK kvs)) (s : Kp P H H') : H' a = some (.tup xs) := s _ _ h (fun e => by rw [e, hP] at h; cases h) (fun _ z => by cases z)
theorem lst_kp {a : Addr} {xs : List V} (h : H a = some (.lst xs)) (hP : H P = some (.dK kvs)) (s : Kp P H H') : H' a = some (.lst xs) := s _ _ h (fun e => by rw [e, hP] at h; cases h) (fun _ z => by cases z)
theorem CodeAt.kp {y : Addr} {ls : List Nat} (c : CodeAt K H y ls) (hP : H P = some (.dK kvs)) (s : Kp P H H') : CodeAt K H' y ls := by
  obtain ⟨dx, fs, t, p, h1, h2, h3, h4, h5, h6⟩ := c
  exact ⟨dx, fs, t, p, s _ _ h1 (fun e => by rw [e, hP] at h1; cases h1) (fun _ z => by cases z), h2, h3, h4, sqA_kp (b := false) h5 hP s, tup_kp h6 hP s⟩
theorem CodesAt.kp {ys : List Addr} {L : List (List Nat)} (c : CodesAt K H ys L) (hP : H P = some (.dK kvs)) (s : Kp P H H') : CodesAt K H' ys L := ⟨c.1, fun i y r h1 h2 => (c.2 i y r h1 h2).kp hP s⟩
theorem Tups.kp {ts : List Addr} {cs : List (List V)} (x : Tups H ts cs) (hP : H P = some (.dK kvs)) (s : Kp P H H') : Tups H' ts cs := x.mono fun t c e => tup_kp e hP s
theorem tabS_sameB {p : Addr} {q : Str} (t : LamX.TabS H p q) (hP : H P = some (.dK kvs)) (s : SameB P H H') : LamX.TabS H' p q := by
  obtain ⟨ps, h1, h2, h3⟩ := t
  refine ⟨ps, s _ _ h1 (fun e => by rw [e, hP] at h1; cases h1), h2, fun pos cv hc => ?_⟩
  obtain ⟨c, e1, e2⟩ := h3 pos cv hc
  exact ⟨c, e1, s _ _ e2 (fun e => by rw [e, hP] at e2; unfold LamX.CodeO at e2; cases e2)⟩
theorem tabs_sameB {T : List (Addr × Str)} (t : LamX.Tabs T H) (hP : H P = some (.dK kvs)) (s : SameB P H H') : LamX.Tabs T H' := fun p hp => tabS_sameB (t p hp) hP s
theorem PenAt.extN {c : Addr} {cs : List Int} {n : Nat} (p : PenAt K H P c cs n) (s : LamX.ExtN H H') : PenAt K H' P c cs n := by
  obtain ⟨nx, lf, h, h0, h1, h2⟩ := p
  exact ⟨nx, lf, s _ _ h (fun _ z => by cases z), h0, h1, sqA_kp (b := true) h2 h (.ofN s)⟩
end
/-- what the law knows from its third row on -/
structure LI (K : PySem.W.Frag) (T : List (Addr × Str)) (P c : Addr) (cs : List Int) (D Fd : Addr) (ts ys : List Addr) (n m : Nat) (H : Hp) : Prop where
  n2 : 2 ≤ n
  n7 : n ≤ 7
  pen : PenAt K H P c cs m
  tabs : LamX.Tabs T H
  due : H D = some (.lst (ts.map V.ref))
  tps : Tups H ts ((srows n).map enc)
  fnd : H Fd = some (.tup (ys.map V.ref))
  cds : CodesAt K H ys (srows n)
section
variable {K : PySem.W.Frag} {T : List (Addr × Str)} {P c D Fd : Addr} {cs : List Int} {ts ys : List Addr} {n m : Nat} {H H' : Hp}
theorem LI.same (l : LI K T P c cs D Fd ts ys n m H) (s : Same H H') : LI K T P c cs D Fd ts ys n m H' := ⟨l.n2, l.n7, l.pen.same s, l.tabs.ext s, s _ _ l.due, l.tps.same s, s _ _ l.fnd, l.cds.same s⟩
theorem LI.draw {m' : Nat} (l : LI K T P c cs D Fd ts ys n m H) (s : SameB P H H') (p : PenAt K H' P c cs m') : LI K T P c cs D Fd ts ys n m' H' := by
  obtain ⟨kvs, hP⟩ := l.pen.at_
  exact ⟨l.n2, l.n7, p, tabs_sameB l.tabs hP s, lst_kp l.due hP (.ofB s), l.tps.kp hP (.ofB s), tup_kp l.fnd hP (.ofB s), l.cds.kp hP (.ofB s)⟩
theorem LI.extN (l : LI K T P c cs D Fd ts ys n m H) (s : LamX.ExtN H H') (t : LamX.Tabs T H') : LI K T P c cs D Fd ts ys n m H' := by
  obtain ⟨kvs, hP⟩ := l.pen.at_
  exact ⟨l.n2, l.n7, l.pen.extN s, t, lst_kp l.due hP (.ofN s), l.tps.kp hP (.ofN s), tup_kp l.fnd hP (.ofN s), l.cds.kp hP (.ofN s)⟩
end
/-! ### the law's def -/
abbrev nmLaw : List Str := ["_law_script", "_law_pen", "_law_many", "_law_due", "_law_found", "_law_code", "_law_size", "_law_counts", "_law_few", "_law_odd"]
theorem scLaw : FnScope nmLaw ["_law_script"] (defScope sLaw) := ⟨rfl, rfl, rfl, by decide +kernel, rfl, by decide +kernel, by decide +kernel⟩
abbrev lwX (w : World) (K : PySem.W.Frag) (mg : Str → Option Value) (base : Heap) (f : Addr) (cd : Value) (A : Around) (outer : List Env) (s : Shared) (H : Hp) (E : XK) : Cx := (cxOf (L2.CX PR w) PR w K mg base nmLaw "law" (defScope sLaw) f cd A outer s H E).nox
abbrev lawSt (i : Nat) : Stmt := (defBody sLaw).getD i (.Pass default)
/-- one row of the law: from I to J -/
def StOk (X : Cx) (st : Stmt) (I J : L2.St → Hp → Prop) : Prop := ∃ t, PS X st t ∧ ∀ (D : Ends) (σ : L2.St) (H : Hp), I σ H → (∀ σ' H', J σ' H' → D.nx σ' H') → t D σ H
theorem StOk.cons {X : Cx} {st : Stmt} {sts : List Stmt} {I J : L2.St → Hp → Prop} {R : V → Hp → Prop} (a : StOk X st I J) (b : ∃ t, PSs X sts t ∧ ∀ (D : Ends) (σ : L2.St) (H : Hp), J σ H → (∀ v H', R v H' → D.rt v H') → t D σ H) :
    ∃ t, PSs X (st :: sts) t ∧ ∀ (D : Ends) (σ : L2.St) (H : Hp), I σ H → (∀ v H', R v H' → D.rt v H') → t D σ H := by
  obtain ⟨t1, p1, h1⟩ := a
  obtain ⟨t2, p2, h2⟩ := b
  exact ⟨_, pss_cons p1 p2, fun D σ H i r => h1 _ σ H i fun σ' H' j => h2 D σ' H' j r⟩
section
variable {w : World} {K : PySem.W.Frag} {mg : Str → Option Value} {base : Heap} {f : Addr} {cd : Value} {A : Around} {outer : List Env} {s : Shared} {HZ : Hp} {E : XK} {T : List (Addr × Str)} {k : Nat}
def J0 (K : PySem.W.Frag) (T : List (Addr × Str)) : L2.St → Hp → Prop := fun σ H => ∃ (a : Addr) (ns : List Int), σ = [some (.ref a), none, none, none, none, none, none, none, none, none] ∧ SqL K H a (ns.map V.int) ∧ LamX.Tabs T H
def J1 (K : PySem.W.Frag) (T : List (Addr × Str)) : L2.St → Hp → Prop := fun σ H => ∃ (a : Option V) (P c : Addr) (cs : List Int), σ = [a, some (.ref P), none, none, none, none, none, none, none, none] ∧ PenAt K H P c cs 0 ∧ LamX.Tabs T H
def J2 (K : PySem.W.Frag) (T : List (Addr × Str)) : L2.St → Hp → Prop := fun σ H => ∃ (a : Option V) (P c : Addr) (cs : List Int) (n : Nat), σ = [a, some (.ref P), some (nI n), none, none, none, none, none, none, none] ∧ 2 ≤ n ∧ n ≤ 7 ∧ PenAt K H P c cs 2 ∧ LamX.Tabs T H
def J3 (K : PySem.W.Frag) (T : List (Addr × Str)) (m : Nat) : L2.St → Hp → Prop := fun σ H => ∃ (a v5 v6 : Option V) (P c D Fd : Addr) (cs : List Int) (ts ys : List Addr) (n : Nat), σ = [a, some (.ref P), some (nI n), some (.ref D), some (.ref Fd), v5, v6, none, none, none] ∧ LI K T P c cs D Fd ts ys n m H
theorem st0 (Tz0 : Tz K mg) (hr : Room 60 (lwX w K mg base f cd A outer s HZ E).A) : StOk (lwX w K mg base f cd A outer s HZ E) (lawSt 0) (J0 K T) (J1 K T) := by
  refine ⟨_, ps_set (i := 1) scLaw.nd rfl (Or.inl rfl) (pe_x (ok_pen_of Tz0.toTx) hr (by decide) passL (pa_cons (pv 0) pa_nil)), ?_⟩
  rintro D σ H ⟨a, ns, rfl, hS, tb⟩ hj
  exact ⟨_, rfl, a, ns, rfl, hS, fun H' P c cs s' hp => hj _ _ ⟨_, P, c, cs, rfl, hp, tb.ext s'⟩⟩
end
end K38
end
section
/-! ## K38Zb -/
/-! The law's rows: number of signs, due and found. -/
namespace K38
open PySem PySem.Spec PyProof.Rows L2
section
variable {w : World} {K : PySem.W.Frag} {mg : Str → Option Value} {base : Heap} {f : Addr} {cd : Value} {A : Around} {outer : List Env} {s : Shared} {HZ : Hp} {E : XK} {T : List (Addr × Str)} {k : Nat}
theorem st1 (Tz0 : Tz K mg) (hr : Room 60 (lwX w K mg base f cd A outer s HZ E).A) : StOk (lwX w K mg base f cd A outer s HZ E) (lawSt 1) (J1 K T) (J2 K T) := by
  refine ⟨_, ps_set (i := 2) scLaw.nd rfl (Or.inl rfl) (pe_ifExp (pt_cmpR op_eq (pe_x (ok_draw Tz0.toTx) hr (by decide) passL (pa_cons (pv 1) (pa_cons pe_int pa_nil))) pe_int (nomark _)) pe_int (pe_op op_add pe_int (pe_x (ok_draw Tz0.toTx) hr (by decide) passL (pa_cons (pv 1) (pa_cons pe_int pa_nil))))), ?_⟩
  rintro D σ H ⟨a, P, c, cs, rfl, hp, tb⟩ hj
  refine ⟨_, rfl, P, c, 8, 0, cs, rfl, by decide, by decide, by decide, hp, fun H' d hd s' hp' => ?_⟩
  obtain ⟨kvs, hP⟩ := hp.at_
  have tb' := tabs_sameB tb hP s'
  refine ⟨rfl, _, rfl, ?_⟩
  by_cases h0 : d = 0
  · refine ifT (decide_eq_true (by rw [h0]; rfl)) ?_
    exact hj _ _ ⟨a, P, c, cs, 7, rfl, by decide, by decide, hp'.le (by decide), tb'⟩
  · refine ifF (decide_eq_false (fun e => h0 (by have := V.int.inj e; omega))) ?_
    refine ⟨_, rfl, P, c, 5, 1, cs, rfl, by decide, by decide, by decide, hp', fun H2 d2 hd2 s2 hp2 => ?_⟩
    obtain ⟨kvs2, hP2⟩ := hp'.at_
    refine ⟨_, _, rfl, rfl, ?_⟩
    have e : V.int (2 + (d2 : Int)) = nI (2 + d2) := by
      unfold nI
      rw [Int.natCast_add]
      rfl
    dsimp only
    rw [e]
    exact hj _ _ ⟨a, P, c, cs, 2 + d2, rfl, by omega, by omega, hp2, tabs_sameB tb' hP2 s2⟩
theorem st2 (Tz0 : Tz K mg) (hr : Room 60 (lwX w K mg base f cd A outer s HZ E).A) : StOk (lwX w K mg base f cd A outer s HZ E) (lawSt 2) (J2 K T) (J3 K T 2) := by
  refine ⟨_, ps_par (i := 3) (j := 4) rfl scLaw.nd rfl rfl (by decide) rfl rfl (pa_cons (pe_x (ok_law_all Tz0.toTx) hr (by decide) passL (pa_cons (pv 2) pa_nil)) (pa_cons (pe_x (ok_all Tz0.toTx) hr (by decide) passL (pa_cons (pv 2) pa_nil)) pa_nil)) (by rfl), ?_⟩
  rintro D σ H ⟨a, P, c, cs, n, rfl, h2, h7, hp, tb⟩ hj
  refine ⟨_, rfl, n, rfl, h2, h7, fun H1 D1 ts s1 hD ht => ?_⟩
  refine ⟨_, rfl, _, rfl, .inl ⟨n, rfl, h2, h7, fun H2 F2 ys s2 hF hc => ?_⟩⟩
  refine ⟨_, _, rfl, hj _ _ ⟨a, none, none, P, c, D1, F2, cs, ts, ys, n, rfl, h2, h7, (hp.same s1).same s2, (tb.ext s1).ext s2, s2 _ _ hD, ht.same s2, hF, hc⟩⟩
end
theorem list_choose {p : Nat → Addr → Prop} {n : Nat} (h : ∀ i, i < n → ∃ t, p i t) : ∃ tt : List Addr, tt.length = n ∧ ∀ (i : Nat) (t : Addr), tt[i]? = some t → p i t := by
  classical
  refine ⟨(List.range n).map fun i => if hi : i < n then Classical.choose (h i hi) else 0, by simp, fun i t ht => ?_⟩
  rw [List.getElem?_map] at ht
  cases hr : (List.range n)[i]? with
  | none => rw [hr] at ht; cases ht
  | some j =>
    rw [hr] at ht
    have hi : i < n := by
      have := List.getElem?_eq_some_iff.mp hr
      obtain ⟨h1, _⟩ := this
      simpa using h1
    rw [List.getElem?_range hi] at hr
    cases hr
    rw [← Option.some.inj ht]
    dsimp only
    rw [dif_pos hi]
    exact Classical.choose_spec (h i hi)
/-- the lengths' tuple of a code -/
def LenT (K : PySem.W.Frag) (H : Hp) (y : Addr) (r : List Nat) (t : Addr) : Prop := ∃ (dx : Addr) (fs : List (Str × V)), H y = some (.ins (He.ga K "Code") dx fs) ∧ fs.lookup ("lengths" : Str) = some (.ref t) ∧ SqT K H t (enc r)
theorem codes_lens {K : PySem.W.Frag} {H : Hp} {ys : List Addr} {L : List (List Nat)} (c : CodesAt K H ys L) : ∃ tt : List Addr, tt.length = L.length ∧ ∀ (i : Nat) (t : Addr), tt[i]? = some t → ∃ y r, ys[i]? = some y ∧ L[i]? = some r ∧ LenT K H y r t := by
  refine list_choose fun i hi => ?_
  have h1 : i < ys.length := by rw [c.1]; exact hi
  obtain ⟨dx, fs, t, p, h⟩ := c.2 i _ _ (List.getElem?_eq_getElem h1) (List.getElem?_eq_getElem hi)
  exact ⟨t, _, _, List.getElem?_eq_getElem h1, List.getElem?_eq_getElem hi, dx, fs, h.1, h.2.1, h.2.2.2.2.1⟩
/-- the rows as data -/
def rowsD (L : List (List Nat)) : List (PySem.W.Tup Int) := L.map fun r => PySem.W.Tup.mk (cI r)
theorem dp_rows {K : PySem.W.Frag} {H : Hp} : ∀ {L : List (List Nat)} {tt : List Addr}, tt.length = L.length → (∀ (i : Nat) (t : Addr) (r : List Nat), tt[i]? = some t → L[i]? = some r → SqT K H t (enc r)) → DpAll K H (tt.map V.ref) ((rowsD L).map PySem.W.Datum.toD)
  | [], [], _, _ => .nil
  | r :: L, t :: tt, hl, h => by
    refine .cons (.tup (h 0 t r rfl rfl) ?_) (dp_rows (L := L) (tt := tt) (by simpa using hl) fun i t' r' h1 h2 => h (i + 1) t' r' (by simpa using h1) (by simpa using h2))
    rw [← cI_V]
    exact dp_ints (cI r)
theorem rows_eqv (L : List (List Nat)) : PyData.eqv (PySem.W.Datum.toD (rowsD L)) (PySem.W.Datum.toD (rowsD L)) = true := by
  rw [PySem.W.Datum.eqv]
  exact decide_eq_true rfl
section
variable {w : World} {K : PySem.W.Frag} {mg : Str → Option Value} {base : Heap} {f : Addr} {cd : Value} {A : Around} {outer : List Env} {s : Shared} {HZ : Hp} {E : XK} {T : List (Addr × Str)} {k : Nat}
theorem srows_small' {n : Nat} (h2 : 2 ≤ n) (h7 : n ≤ 7) : (srows n).length ≤ 1000000 := by
  unfold srows
  rw [List.length_mergeSort, rows_len h2 h7, show W n 2 = wy 14 n 2 from wy_more _ _ _ _ (by omega) (by omega)]
  exact wy_small 14 (by decide) n (by omega) 2 (by decide)
theorem st3 (Tz0 : Tz K mg) (hr : Room 60 (lwX w K mg base f cd A outer s HZ E).A) : StOk (lwX w K mg base f cd A outer s HZ E) (lawSt 3) (J3 K T 2) (J3 K T 2) := by
  have C := tkCls Tz0.toTx
  have nL : NoAttr K (He.ga K "Code") "lengths" := He.noat_ok (Tz0.fa (.noat "Code" "lengths") (List.mem_of_getElem? (i := 2) rfl))
  have bTup : bootBuiltins "tuple" = some (.type "tuple") := by decide +kernel
  refine ⟨_, ps_if (PW.pt (pw_or (pt_not (pt_val (pe_callB call_isi (by rfl) (Tz0.fr _ (by decide)) (by decide +kernel) (pa_cons (pv 4) (pa_cons (pe_bltn (v := .ty "tuple") (by rfl) (Tz0.fr _ (by decide)) bTup rfl) pa_nil)))))
      (pw_or1 (pt_cmpR (op_neP (un8 hr)) (pe_lc (wi := iTup K (tVar 4)) (g := gName 5) (tt := tYes) (te := tFld K (tVar 5) "lengths") rfl scLaw.nd (pi_tup (pv 4)) (own := [("_law_code", 5)]) (blkOk_by (by rfl))
        (fun _ _ _ _ _ => pg_name (i := 5) scLaw.nd rfl (Or.inl rfl) (Or.inr rfl)) (fun _ _ _ _ _ => pts_nil) (fun _ _ _ _ _ => pe_fld (pv 5) (by rfl))) (pv 3) (nomark _))))) (pss_one (ps_ret pe_bl)) pss_nil, ?_⟩
  rintro D σ H ⟨a, v5, v6, P, c, D1, F1, cs, ts, ys, n, rfl, l⟩ hj
  refine ⟨_, rfl, _, _, _, _, true, rfl, .ty "tuple", .base (.tup l.fnd), kit_ty (by decide +kernel), _, rfl, ifF rfl ?_⟩
  obtain ⟨tt, htl, htt⟩ := codes_lens l.cds
  have hyl := l.cds.1
  have h1m := srows_small' l.n2 l.n7
  refine ⟨_, rfl, F1, rfl, ⟨_, .of l.fnd⟩, fun R hR => lc_it (walk_tup (K := K) (a := F1) (xs := ys.map V.ref)) (fun i H3 => H3 R = some (.lst ((tt.take i).map V.ref)) ∧ Same H H3)
    ⟨upd_same, same_new (Same.refl _) hR⟩ (fun i H3 _ ⟨_, s3⟩ => .of (s3 _ _ l.fnd)) ?_ ?_⟩
  · rintro i x H3 H4 hi ⟨hR3, s3⟩ ⟨rfl, hx⟩
    obtain ⟨y0, hy0, rfl⟩ := map_get hx
    have hit : i < tt.length := by
      rw [htl, ← hyl]
      simpa using hi
    obtain ⟨y, r, e1, e2, dx, fs, g1, g2, g3⟩ := htt i _ (List.getElem?_eq_getElem hit)
    rw [hy0] at e1
    cases e1
    refine ⟨rfl, yes_ ⟨_, rfl, _, _, dx, fs, _, rfl, s3 _ _ g1, C, nL, g2, _, hR3, ?_, ?_, same_mut s3 hR⟩⟩
    · rw [List.length_map, List.length_take]
      exact small_lt (by omega)
    · rw [upd_same, List.take_succ, List.getElem?_eq_getElem hit, List.map_append]
      rfl
  · rintro H3 ⟨hR3, s3⟩
    rw [List.length_map, hyl, ← htl, List.take_length] at hR3
    have l3 := l.same s3
    refine ⟨_, rfl, PySem.W.Datum.toD (rowsD (srows n)), PySem.W.Datum.toD (rowsD (srows n)), .lst (.of hR3) (dp_rows htl fun i t r e1 e2 => ?_), .lst (.of l3.due) (dp_rows ?_ fun i t r e1 e2 => ?_), PySem.W.Datum.plain _, PySem.W.Datum.plain _, Nat.le_trans (PySem.W.Datum.depth_le _) (by decide), ?_⟩
    · obtain ⟨y, r2, _, e3, dx, fs, _, _, g3⟩ := htt i t e1
      rw [e2] at e3
      cases e3
      exact sqT_same s3 g3
    · have := l.tps.len
      rwa [List.length_map] at this
    · refine .of (l3.tps.at_ i t (enc r) e1 ?_)
      rw [List.getElem?_map, e2]
      rfl
    · rw [rows_eqv]
      exact ⟨_, rfl, ifF rfl (hj _ _ ⟨a, v5, v6, P, c, D1, F1, cs, ts, ys, n, rfl, l3⟩)⟩
end
end K38
end
section
/-! ## K38Zc -/
/-! The law's rows: each code made anew. -/
namespace K38
open PySem PySem.Spec PyProof.Rows L2
section
variable {w : World} {K : PySem.W.Frag} {mg : Str → Option Value} {base : Heap} {f : Addr} {cd : Value} {A : Around} {outer : List Env} {s : Shared} {HZ : Hp} {E : XK} {T : List (Addr × Str)} {k : Nat}
abbrev teMade (K : PySem.W.Frag) : TE := tOp (rEqG (DIns (He.ga K "Code") (EqR K))) (tVar 5) (tMake (He.ga K "Code") (spCodeInit K) [.non] E0 (tCons (tFld K (tVar 5) "lengths") tNil))
theorem st4 (Tz0 : Tz K mg) (hr : Room 60 (lwX w K mg base f cd A outer s HZ E).A) : StOk (lwX w K mg base f cd A outer s HZ E) (lawSt 4) (J3 K T 2) (J3 K T 2) := by
  have C := tkCls Tz0.toTx
  have nL : NoAttr K (He.ga K "Code") "lengths" := He.noat_ok (Tz0.fa (.noat "Code" "lengths") (List.mem_of_getElem? (i := 2) rfl))
  have mE : Meth K (He.ga K "Code") "__eq__" (He.ma K (He.ga K "Code") "__eq__") := He.meth_ok (Tz0.fa (.meth "Code" "__eq__") (List.mem_of_getElem? (i := 6) rfl))
  obtain ⟨fdE, psE, dsE, FE, BE, VE⟩ := (ok_code_eq (w := w) (base := base) Tz0.toTx).ex
  cases VE
  obtain ⟨fd, ps, ds, F, B, V0⟩ := (ok_code_init (w := w) (base := base) Tz0.toTx).ex
  refine ⟨_, ps_if (pt_not (pt_val (pe_callB (cr_all rfl) (by rfl) (Tz0.fr _ (by decide)) (by decide +kernel)
      (pa_cons (pe_lc (wi := iTup K (tVar 4)) (g := gName 5) (tt := tYes) (te := teMade K) rfl scLaw.nd (pi_tup (pv 4)) (own := [("_law_code", 5)]) (blkOk_by (by rfl))
        (fun _ _ _ _ _ => pg_name (i := 5) scLaw.nd rfl (Or.inl rfl) (Or.inr rfl)) (fun _ _ _ _ _ => pts_nil)
        (fun _ _ _ _ _ => pe_cmpR (op_eqG (rcG_ins FE mE.at_ mE.fn BE passL) (hr.mono (by decide))) (pv 5) (pe_make (mkCode Tz0.toTx) F (hr.mono (by decide)) (by rfl) (Tz0.gl "Code" (by decide)) B V0 passL (pa_cons (pe_fld (pv 5) (by rfl)) pa_nil)) (nomark _))) pa_nil)))) (pss_one (ps_ret pe_bl)) pss_nil, ?_⟩
  rintro D σ H ⟨a, v5, v6, P, c, D1, F1, cs, ts, ys, n, rfl, l⟩ hj
  have hyl := l.cds.1
  have h1m := srows_small' l.n2 l.n7
  refine ⟨_, rfl, F1, rfl, ⟨_, .of l.fnd⟩, fun R hR => lc_it (walk_tup (K := K) (a := F1) (xs := ys.map V.ref)) (fun i H3 => H3 R = some (.lst ((List.replicate i true).map V.bl)) ∧ Same H H3)
    ⟨upd_same, same_new (Same.refl _) hR⟩ (fun i H3 _ ⟨_, s3⟩ => .of (s3 _ _ l.fnd)) ?_ ?_⟩
  · rintro i x H3 H4 hi ⟨hR3, s3⟩ ⟨rfl, hx⟩
    obtain ⟨y, hy, rfl⟩ := map_get hx
    rw [List.length_map, hyl] at hi
    have hrow := List.getElem?_eq_getElem hi
    have hc := (l.cds.2 i y _ hy hrow).same s3
    have hfull := CC_full ((srows_mem l.n2 l.n7 _).mp (List.getElem_mem hi)) l.n2 (by have := l.n7; omega)
    generalize (srows n)[i] = r at *
    have hc2 := hc
    obtain ⟨dx, fs, t, p, g1, g2, g3, g4, g5, g6⟩ := hc2
    refine ⟨rfl, yes_ ⟨_, rfl, _, rfl, y, _, dx, fs, _, rfl, g1, C, nL, g2, fun x dx' hx' hdx hne => ?_⟩⟩
    have sm : Same H4 (upd (upd H4 dx' (.own x)) x (.ins (He.ga K "Code") dx' [])) := same_new (same_new (Same.refl _) hdx) (by rw [upd_ne (Ne.symm hne)]; exact hx')
    refine ⟨x, t, dx', false, r, rfl, upd_same, sqT_same sm g5, hfull, fun H' kp hcx => ⟨rfl, ?_⟩⟩
    have s' : Same H4 H' := fun b u e => kp b u (sm b u e) (ne_of_none e hx')
    have hcx2 := hcx
    obtain ⟨dx3, fs3, t3, p3, k1, _⟩ := hcx2
    refine ⟨⟨y, x, dx, dx3, fs, fs3, rfl, rfl, s' _ _ g1, k1, r, hc.same s', hcx⟩, fun H'' ex => ⟨_, ex _ _ (s' _ _ hR3), ?_, ?_, same_mut (fun b u e => ex _ _ (s' _ _ (s3 _ _ e))) hR⟩⟩
    · rw [List.length_map, List.length_replicate]
      exact small_lt (by omega)
    · rw [upd_same, List.replicate_succ', List.map_append]
      rfl
  · rintro H3 ⟨hR3, s3⟩
    refine ⟨R, _, rfl, .of hR3, ?_⟩
    have e : (List.replicate (ys.map V.ref).length true).all id = true := by
      rw [List.all_eq_true]
      intro b hb
      rw [(List.mem_replicate.mp hb).2]
      rfl
    rw [e]
    exact ⟨_, rfl, ifF rfl (hj _ _ ⟨a, v5, v6, P, c, D1, F1, cs, ts, ys, n, rfl, l.same s3⟩)⟩
end
end K38
end
section
/-! ## K38Zd -/
/-! The law's rows: the numbers of codes. -/
namespace K38
open PySem PySem.Spec PyProof.Rows L2
section
variable {w : World} {K : PySem.W.Frag} {mg : Str → Option Value} {base : Heap} {f : Addr} {cd : Value} {A : Around} {outer : List Env} {s : Shared} {HZ : Hp} {E : XK} {T : List (Addr × Str)} {k : Nat}
theorem ne_self (n : Nat) : (!decide (nI n = nI n)) = false := by rw [decide_eq_true rfl]; rfl
theorem st5 (Tz0 : Tz K mg) (hr : Room 60 (lwX w K mg base f cd A outer s HZ E).A) : StOk (lwX w K mg base f cd A outer s HZ E) (lawSt 5) (J3 K T 2) (J3 K T 3) := by
  refine ⟨_, ps_for PassesOwn.never rfl (pi_list (pe_lst (pa_cons (pv 2) (pa_cons pe_int (pa_cons (pe_op op_add pe_int (pe_x (ok_pick Tz0.toTx) hr (by decide) passL (pa_cons (pv 1) (pa_cons (pe_lst (pa_cons pe_int (pa_cons pe_int (pa_cons pe_int pa_nil)))) pa_nil)))) pa_nil))))) (pg_name (i := 6) scLaw.nd rfl (Or.inl rfl))
    (pss_one (ps_if (pt_cmpR op_ne (pe_x (ok_number Tz0.toTx) hr (by decide) passL (pa_cons (pv 6) pa_nil)) (pe_x (ok_law_number Tz0.toTx) hr (by decide) passL (pa_cons (pv 6) pa_nil)) (nomark _)) (pss_one (ps_ret pe_bl)) pss_nil)), ?_⟩
  rintro D σ H ⟨a, v5, v6, P, c, D1, F1, cs, ts, ys, n, rfl, l⟩ hj
  refine ⟨_, rfl, _, rfl, (by show 3 ≤ sizeLine; decide), fun L2 hL2 => ⟨P, c, L2, 2, cs, true, _, rfl, .of upd_same, by decide, by decide, by decide, (l.same (same_new (Same.refl _) hL2)).pen, fun H' i x hx s' hp' => ?_⟩⟩
  have l' := (l.same (same_new (o := .lst [.int 7, .int 11, .int 25]) (Same.refl _) hL2)).draw s' hp'
  obtain ⟨e, rfl, he1, he2⟩ : ∃ e : Nat, x = nI e ∧ 2 ≤ e + 1 ∧ e + 1 ≤ 26 := by
    match i, hx with
    | 0, hx => exact ⟨7, (Option.some.inj hx).symm, by decide, by decide⟩
    | 1, hx => exact ⟨11, (Option.some.inj hx).symm, by decide, by decide⟩
    | 2, hx => exact ⟨25, (Option.some.inj hx).symm, by decide, by decide⟩
  have e1 : V.int (1 + (e : Int)) = nI (e + 1) := by
    unfold nI
    rw [Int.natCast_add, Int.add_comm]
    rfl
  refine ⟨1, (e : Int), rfl, rfl, ?_⟩
  refine ⟨(by show 3 ≤ sizeLine; decide), fun L hL => ⟨L, rfl, ⟨_, .of upd_same⟩, ?_⟩⟩
  dsimp only at hL ⊢
  rw [e1]
  generalize hxs : [nI n, V.int 7, nI (e + 1)] = xs
  have hel : ∀ (j : Nat) (y : V), xs[j]? = some y → ∃ z : Nat, y = nI z ∧ 2 ≤ z ∧ z ≤ 26 := fun j y hy => by
    have hm := List.mem_of_getElem? hy
    rw [← hxs] at hm
    simp only [List.mem_cons, List.not_mem_nil, or_false] at hm
    rcases hm with rfl | rfl | rfl
    · exact ⟨n, rfl, l.n2, by have := l.n7; omega⟩
    · exact ⟨7, rfl, by decide, by decide⟩
    · exact ⟨e + 1, rfl, he1, he2⟩
  refine for_it (walk_list (K := K) (a := L) (xs := xs)) (fun i σ H3 => ∃ v : Option V, σ = [a, some (.ref P), some (nI n), some (.ref D1), some (.ref F1), v5, v, none, none, none] ∧ LI K T P c cs D1 F1 ts ys n 3 H3 ∧ H3 L = some (.lst xs))
    ⟨v6, rfl, l'.same (same_new (Same.refl _) hL), upd_same⟩ (fun i σ H3 _ ⟨_, _, _, h⟩ => .of h) ?_ ?_
  · rintro i x σ H3 H4 hi ⟨v, rfl, l3, hL3⟩ ⟨rfl, hx⟩
    obtain ⟨z, rfl, hz2, hz26⟩ := hel i x hx
    refine ⟨_, rfl, _, rfl, .inl ⟨z, rfl, hz2, hz26, fun H5 s5 => ⟨_, rfl, z, rfl, hz2, hz26, fun H6 s6 => ⟨rfl, _, rfl, ifF (ne_self _) ⟨some (nI z), rfl, (l3.same s5).same s6, s6 _ _ (s5 _ _ hL3)⟩⟩⟩⟩⟩
  · rintro σ H3 ⟨v, rfl, l3, _⟩
    exact hj _ _ ⟨a, v5, v, P, c, D1, F1, cs, ts, ys, n, rfl, l3⟩
theorem st6 (Tz0 : Tz K mg) (hr : Room 60 (lwX w K mg base f cd A outer s HZ E).A) : StOk (lwX w K mg base f cd A outer s HZ E) (lawSt 6) (J3 K T 3) (J3 K T 3) := by
  refine ⟨_, ps_if (pt_cmpR op_ne (pe_x (ok_number Tz0.toTx) hr (by decide) passL (pa_cons (pv 2) pa_nil)) (pe_callB call_len (by rfl) (Tz0.fr _ (by decide)) boot_len (pa_cons (pv 3) pa_nil)) (nomark _)) (pss_one (ps_ret pe_bl)) pss_nil, ?_⟩
  rintro D σ H ⟨a, v5, v6, P, c, D1, F1, cs, ts, ys, n, rfl, l⟩ hj
  refine ⟨_, rfl, _, rfl, .inl ⟨n, rfl, l.n2, by have := l.n7; omega, fun H5 s5 => ⟨_, rfl, _, W n 2, rfl, .inl ⟨_, .of (s5 _ _ l.due), ?_⟩, rfl, _, rfl, ifF (ne_self _) (hj _ _ ⟨a, v5, v6, P, c, D1, F1, cs, ts, ys, n, rfl, l.same s5⟩)⟩⟩⟩
  have h1 := l.tps.len
  rw [List.length_map] at h1
  rw [List.length_map, h1]
  unfold srows
  rw [List.length_mergeSort, rows_len l.n2 l.n7]
end
end K38
end
section
/-! ## K38Ze -/
/-! The law's rows: counts, a code, its cost. -/
namespace K38
open PySem PySem.Spec PyProof.Rows L2
theorem W_pos : ∀ n ∈ [2, 3, 4, 5, 6, 7], 0 < W n 2 := by decide +kernel
theorem W_pos' {n : Nat} (h2 : 2 ≤ n) (h7 : n ≤ 7) : 0 < W n 2 := W_pos n (by
  have : n = 2 ∨ n = 3 ∨ n = 4 ∨ n = 5 ∨ n = 6 ∨ n = 7 := by omega
  rcases this with rfl | rfl | rfl | rfl | rfl | rfl <;> decide)
theorem LI.le {K : PySem.W.Frag} {T : List (Addr × Str)} {P c D Fd : Addr} {cs : List Int} {ts ys : List Addr} {n m m' : Nat} {H : Hp} (l : LI K T P c cs D Fd ts ys n m H) (h : m ≤ m') : LI K T P c cs D Fd ts ys n m' H :=
  ⟨l.n2, l.n7, l.pen.le h, l.tabs, l.due, l.tps, l.fnd, l.cds⟩
/-- the counts and the code -/
structure CI (K : PySem.W.Frag) (q y : Addr) (ns : List Int) (ls : List Nat) (n : Nat) (H : Hp) : Prop where
  cnt : H q = some (.lst (ns.map V.int))
  nl : ns.length = n
  pos : ∀ x ∈ ns, 0 ≤ x
  code : CodeAt K H y ls
  ll : ls.length = n
  le : ∀ l ∈ ls, l ≤ 60
theorem CI.kp {K : PySem.W.Frag} {q y : Addr} {ns : List Int} {ls : List Nat} {n : Nat} {H H' : Hp} {P : Addr} {kvs : List (Key × V)} (x : CI K q y ns ls n H) (hP : H P = some (.dK kvs)) (s : Kp P H H') : CI K q y ns ls n H' :=
  ⟨lst_kp x.cnt hP s, x.nl, x.pos, x.code.kp hP s, x.ll, x.le⟩
theorem CI.same {K : PySem.W.Frag} {q y : Addr} {ns : List Int} {ls : List Nat} {n : Nat} {H H' : Hp} (x : CI K q y ns ls n H) (s : Same H H') : CI K q y ns ls n H' := ⟨s _ _ x.cnt, x.nl, x.pos, x.code.same s, x.ll, x.le⟩
def J7 (K : PySem.W.Frag) (T : List (Addr × Str)) (m : Nat) : L2.St → Hp → Prop := fun σ H => ∃ (a v6 : Option V) (P c D Fd q y : Addr) (cs ns : List Int) (ts ys : List Addr) (ls : List Nat) (n : Nat), σ = [a, some (.ref P), some (nI n), some (.ref D), some (.ref Fd), some (.ref y), v6, some (.ref q), none, none] ∧ LI K T P c cs D Fd ts ys n m H ∧ CI K q y ns ls n H
section
variable {w : World} {K : PySem.W.Frag} {mg : Str → Option Value} {base : Heap} {f : Addr} {cd : Value} {A : Around} {outer : List Env} {s : Shared} {HZ : Hp} {E : XK} {T : List (Addr × Str)} {k : Nat}
theorem cost_use {y q : Addr} {ls : List Nat} {b : Bool} {ns : List Int} {H : Hp} {Q : VK} {E : XK} (c : CodeAt K H y ls) (hS : SqA b K H q (ns.map V.int)) (hl : ns.length = ls.length) (h2 : 2 ≤ ns.length) (h26 : ns.length ≤ 26) (hp : ∀ x ∈ ns, 0 ≤ x) (h60 : ∀ l ∈ ls, l ≤ 60)
    (hQ : ∀ H', Same H H' → Q (.int (costI ns ls)) H') : spCost K [.ref y, .ref q] H Q E :=
  ⟨y, q, ls, b, ns, rfl, c, hS, h60, fun z => absurd ⟨h2, h26⟩ z, fun _ _ _ H' s' => ⟨fun _ => hQ H' s', fun z => absurd hl z⟩, fun _ _ j n hj hn _ => absurd (hp n (List.mem_of_getElem? hj)) (by omega)⟩
theorem st7 (Tz0 : Tz K mg) (hr : Room 60 (lwX w K mg base f cd A outer s HZ E).A) : StOk (lwX w K mg base f cd A outer s HZ E) (lawSt 7) (J3 K T 3) (J7 K T 12) := by
  refine ⟨_, ps_asg (pe_tup (pa_cons (pe_x (ok_counts_of Tz0.toTx) hr (by decide) passL (pa_cons (pv 1) (pa_cons (pv 2) pa_nil))) (pa_cons (pe_x (ok_pick Tz0.toTx) hr (by decide) passL (pa_cons (pv 1) (pa_cons (pv 4) pa_nil))) pa_nil)))
    (pg_tup rfl (pgs_cons (pg_name (i := 7) scLaw.nd rfl (Or.inr rfl)) (pgs_cons (pg_name (i := 5) scLaw.nd rfl (Or.inr rfl)) pgs_nil))), ?_⟩
  rintro D σ H ⟨a, v5, v6, P, c, D1, F1, cs, ts, ys, n, rfl, l⟩ hj
  have h1m := srows_small' l.n2 l.n7
  have hyl := l.cds.1
  have h7 := l.n7
  have hrl : (srows n).length = W n 2 := by
    unfold srows
    rw [List.length_mergeSort, rows_len l.n2 l.n7]
  have hpos := W_pos' l.n2 l.n7
  refine ⟨_, rfl, _, rfl, P, c, n, 3, cs, rfl, by omega, by decide, l.pen, fun H1 q ns hnl hnp s1 hq0 hq hpn => ?_⟩
  have l1 := l.draw s1 hpn
  refine ⟨_, rfl, _, rfl, P, c, F1, 3 + 1 + n, cs, false, ys.map V.ref, rfl, .of l1.fnd, by rw [List.length_map]; omega, by rw [List.length_map]; omega, by omega, hpn, fun H2 i x hx s2 hpn2 => ?_⟩
  obtain ⟨kvs1, hP1⟩ := l1.pen.at_
  have l2 := (l1.draw s2 hpn2).le (m' := 12) (by omega)
  obtain ⟨y, hy, rfl⟩ := map_get hx
  have hi : i < (srows n).length := by
    rw [← hyl]
    exact (List.getElem?_eq_some_iff.mp hy).1
  have hc := l2.cds.2 i y _ hy (List.getElem?_eq_getElem hi)
  have hcc := (srows_mem l.n2 l.n7 _).mp (List.getElem_mem hi)
  refine ⟨(by show 2 ≤ sizeLine; decide), fun p0 hp0 => ⟨_, _, rfl, .of upd_same, rfl, _, _, rfl, _, _, rfl, rfl, ?_⟩⟩
  have s3 := same_new (o := .tup [.ref q, .ref y]) (Same.refl H2) hp0
  exact hj _ _ ⟨a, v6, P, c, D1, F1, q, y, cs, ns, ts, ys, _, n, rfl, l2.same s3, (CI.mk (lst_kp hq hP1 (.ofB s2)) hnl hnp hc hcc.1 fun x hx => Nat.le_trans (hcc.2.1 x hx).2 (by decide)).same s3⟩
theorem st8 (Tz0 : Tz K mg) (hr : Room 60 (lwX w K mg base f cd A outer s HZ E).A) : StOk (lwX w K mg base f cd A outer s HZ E) (lawSt 8) (J7 K T 12) (J7 K T 12) := by
  have C := tkCls Tz0.toTx
  have nL : NoAttr K (He.ga K "Code") "lengths" := He.noat_ok (Tz0.fa (.noat "Code" "lengths") (List.mem_of_getElem? (i := 2) rfl))
  refine ⟨_, ps_if (PW.pt (pw_or (pt_cmpR op_ne (pe_x (ok_cost Tz0.toTx) hr (by decide) passL (pa_cons (pv 5) (pa_cons (pv 7) pa_nil))) (pe_x (ok_law_cost Tz0.toTx) hr (by decide) passL (pa_cons (pe_fld (pv 5) (by rfl)) (pa_cons (pv 7) pa_nil))) (nomark _))
    (pw_or1 (pt_cmpR op_ne (pe_x (ok_cost Tz0.toTx) hr (by decide) passL (pa_cons (pv 5) (pa_cons (pe_callTy call_tuple_of (by rfl) (Tz0.fr _ (by decide)) (by decide +kernel) (pa_cons (pv 7) pa_nil)) pa_nil)))
      (pe_x (ok_cost Tz0.toTx) hr (by decide) passL (pa_cons (pv 5) (pa_cons (pv 7) pa_nil))) (nomark _))))) (pss_one (ps_ret pe_bl)) pss_nil, ?_⟩
  rintro D σ H ⟨a, v6, P, c, D1, F1, q, y, cs, ns, ts, ys, ls, n, rfl, l, x⟩ hj
  have h2 := l.n2
  have h7 := l.n7
  have hnl := x.nl
  have hll := x.ll
  have nes : (!decide (V.int (costI ns ls) = V.int (costI ns ls))) = false := by rw [decide_eq_true rfl]; rfl
  refine ⟨_, rfl, _, rfl, y, _, ls, true, ns, rfl, x.code, .of x.cnt, x.le, fun z => absurd ⟨by omega, by omega⟩ z, fun _ _ _ H1 s1 => ⟨fun _ => ?_, fun z => absurd (by omega) z⟩, fun _ _ j m hj hm _ => absurd (x.pos m (List.mem_of_getElem? hj)) (by omega)⟩
  have x1 := x.same s1
  have hc1 := x1.code
  obtain ⟨dx, fs, t, p, g1, g2, g3, g4, g5, g6⟩ := hc1
  refine ⟨_, rfl, y, _, dx, fs, _, rfl, g1, C, nL, g2, _, rfl, t, q, ls, ns, rfl, g5, .of x1.cnt, by omega, by omega, x.le, fun H2 s2 => ⟨rfl, _, rfl, ifF nes ?_⟩⟩
  have x2 := x1.same s2
  refine ⟨_, rfl, tuple_cb (b := true) (a := q) (xs := ns.map V.int) (.of x2.cnt) (fun Q hq => ⟨_, rfl, hq⟩) fun t4 H4 s4 h4 => ?_⟩
  have x4 := x2.same s4
  refine ⟨y, _, ls, false, ns, rfl, x4.code, h4, x.le, fun z => absurd ⟨by omega, by omega⟩ z, fun _ _ _ H5 s5 => ⟨fun _ => ?_, fun z => absurd (by omega) z⟩, fun _ _ j m hj hm _ => absurd (x.pos m (List.mem_of_getElem? hj)) (by omega)⟩
  have x5 := x4.same s5
  refine ⟨_, rfl, _, rfl, y, _, ls, true, ns, rfl, x5.code, .of x5.cnt, x.le, fun z => absurd ⟨by omega, by omega⟩ z, fun _ _ _ H6 s6 => ⟨fun _ => ?_, fun z => absurd (by omega) z⟩, fun _ _ j m hj hm _ => absurd (x.pos m (List.mem_of_getElem? hj)) (by omega)⟩
  refine ⟨rfl, _, rfl, ifF nes ?_⟩
  exact hj _ _ ⟨a, v6, P, c, D1, F1, q, y, cs, ns, ts, ys, ls, n, rfl, ((((l.same s1).same s2).same s4).same s5).same s6, x5.same s6⟩
end
end K38
end
section
/-! ## K38Zf -/
/-! The law's rows: what is refused. -/
namespace K38
open PySem PySem.Spec PyProof.Rows L2
abbrev qLam : Str := (envOfC "law" (defScope sLaw) 0 0 .none).qual ++ "<lambda>"
section
variable {w : World} {K : PySem.W.Frag} {mg : Str → Option Value} {base : Heap} {f : Addr} {c P0 : Addr} {A : Around} {outer : List Env} {s : Shared} {HZ : Hp} {E : XK} {gd : List Code}
theorem pe_ref {params : Arguments} {body : Expr} {scope : Scope} {lpos p pos : Pos} {t : XK → TE} (Tz0 : Tz K mg) (hr : Room 60 (lwX w K mg base f (.ref c) A outer s HZ E).A) (hg : A.guards = some gd) (TB : LamX.TabB base mg c P0) (L : LamX.LamS (defScope sLaw) scope)
    (hdef : defaultsOf params (lwX w K mg base f (.ref c) A outer s HZ E).env = ([], [])) (hbind : ∀ (q : Str) (cl : List (Str × Addr)) (pm cv ctv : Value), bindArgs (PySem.W.kla_fn "<lambda>" q params body scope cl pm cv ctv) ⟨[], []⟩ = pure [])
    (hbody : ∀ (A' : Around) (outer' : List Env) (s' : Shared) (H' : Hp) (E' : XK) (f' c' : Addr), Room 58 (A'.deeper (LamX.lamEnv (lwX w K mg base f (.ref c) A outer s HZ E) scope s'.heap.objs.size f' c')) → PE (LamX.lamCx (lwX w K mg base f (.ref c) A outer s HZ E) A' outer' s' H' E' scope f' c') body (t E')) :
    PE (lwX w K mg base f (.ref c) A outer s HZ E) (.Call (.Name "_law_refused" p) [.Lambda params body scope lpos] [] pos) (LamX.tLam [(P0, qLam)] (TRef K gd) t) := by
  obtain ⟨fd, F⟩ := Tz0.fd (dGlo "_law_refused" sRefused) (List.mem_of_getElem? (i := 22) rfl)
  have hb := F.bindsN (ps := ["_law_call"]) fun _ _ _ _ _ _ us hl => match us, hl with | [_], _ => rfl
  obtain ⟨oc, od, dV, kV, doc, pm, an, cdv, ct, osl, rfl, lk, hcd, _, _⟩ := F.ex
  exact LamX.pe_lamcall (X := lwX w K mg base f (.ref c) A outer s HZ E) (k := 58) (c := c) (P := P0) (by rfl) (Tz0.gl "_law_refused" (by decide)) F.kp lk hcd hb scRefused rfl (.inl rfl)
    (refused_gives (X := lwX w K mg base f (.ref c) A outer s HZ E) Tz0 hg (by have := hr.un; show (lwX w K mg base f (.ref c) A outer s HZ E).A.units + 3 + 100 < cLine; omega)) TB rfl List.mem_cons_self
    (fun p hp _ => congrArg Prod.snd (List.mem_singleton.mp hp)) hr L hdef hbind hbody
def LawT (P0 : Addr) : List (Addr × Str) := [(P0, qLam)]
theorem ne_plain (d : PyData) (h : d.plain = true) : (!PyData.eqv d d) = false := by
  rw [PySem.SeqAt.eqv_refl_plain d h]
  rfl
theorem psLam {A' : Around} {outer' : List Env} {s' : Shared} {H' : Hp} {E' : XK} {scope : Scope} {f' c' : Addr} : Passes (L2.CX PR w) (LamX.lamCx (lwX w K mg base f (.ref c) A outer s HZ E) A' outer' s' H' E' scope f' c') E' := passes_call (takes_of rfl rfl rfl rfl) (fun _ _ _ _ h => h)
theorem pl_sii (x : Str) (i j : Int) : (PyData.tuple [.str x, .int i, .int j]).plain = true := rfl
theorem dp_sii (x : Str) (i j : Int) : (PyData.tuple [.str x, .int i, .int j]).depth ≤ 8 := by
  simp [PyData.depthAll, PyData.depth]
theorem pl_si (x : Str) (i : Int) : (PyData.tuple [.str x, .int i]).plain = true := rfl
theorem dp_si (x : Str) (i : Int) : (PyData.tuple [.str x, .int i]).depth ≤ 8 := by
  simp [PyData.depthAll, PyData.depth]
theorem pl_ss (x y : Str) : (PyData.tuple [.str x, .str y]).plain = true := rfl
theorem dp_ss (x y : Str) : (PyData.tuple [.str x, .str y]).depth ≤ 8 := by
  simp [PyData.depthAll, PyData.depth]
theorem small3 {n : Nat} (h : n ≤ 1000) : n ≤ sizeLine := by rw [sizeLine_eq]; omega
theorem st9 (Tz0 : Tz K mg) (hr : Room 60 (lwX w K mg base f (.ref c) A outer s HZ E).A) (hg : A.guards = some gd) (TB : LamX.TabB base mg c P0) : StOk (lwX w K mg base f (.ref c) A outer s HZ E) (lawSt 9) (J7 K (LawT P0) 12) (J7 K (LawT P0) 12) := by
  refine ⟨_, ps_if (pt_cmpR (op_neP (un8 hr)) (pe_ref (t := fun E' => tCall (spCost K) [] E' (tCons (tVar 5) (tCons (tOp rCat (tVar 7) (tLst (tCons (tC (.int 1)) tNil))) tNil))) Tz0 hr hg TB (LamX.lamS_by (by decide +kernel)) (by rfl) (fun _ _ _ _ _ => by rfl)
      (fun A' outer' s' H' E' f' c' hr' => pe_x (ok_cost Tz0.toTx) hr' (by decide) psLam (pa_cons (pv 5) (pa_cons (pe_op op_cat (pv 7) (pe_lst (pa_cons pe_int pa_nil))) pa_nil))))
    (pe_tup (pa_cons pe_str (pa_cons (pe_op op_add (pv 2) pe_int) (pa_cons (pv 2) pa_nil)))) (nomark _)) (pss_one (ps_ret pe_bl)) pss_nil, ?_⟩
  rintro D σ H ⟨a, v6, P, c1, D1, F1, q, y, cs, ns, ts, ys, ls, n, rfl, l, x⟩ hj
  have h2 := l.n2
  have h7 := l.n7
  have hnl := x.nl
  have hll := x.ll
  refine ⟨l.tabs, fun H1 eN t1 => ?_⟩
  obtain ⟨kvs, hP⟩ := l.pen.at_
  have l1 := l.extN eN t1
  have x1 := x.kp hP (.ofN eN)
  intro H2 s2 Qn
  have x2 := x1.same s2
  refine ⟨_, rfl, _, rfl, small3 (by decide), fun p hp => ⟨q, p, _, _, rfl, rfl, (same_new (Same.refl _) hp) _ _ x2.cnt, upd_same, small3 (by rw [List.length_map]; show ns.length + 1 ≤ 1000; omega), fun r hr' => ?_⟩⟩
  have s3 : Same H2 (upd H2 p (.lst [.int 1])) := same_new (Same.refl _) hp
  have s4 := same_new (o := .lst (ns.map V.int ++ [.int 1])) (Same.refl _) hr'
  have x4 := (x2.same s3).same s4
  have e1 : (((ns ++ [1]).length : Nat) : Int) = (n : Int) + 1 := by rw [List.length_append, hnl]; rfl
  have e2 : ((ls.length : Nat) : Int) = (n : Int) := by rw [hll]
  have hn1 : (ns ++ [(1 : Int)]).length = n + 1 := by rw [List.length_append, hnl]; rfl
  have hpos : ∀ z ∈ ns ++ [(1 : Int)], 0 ≤ z := fun z hz => by
    rcases List.mem_append.mp hz with h | h
    · exact x.pos z h
    · rw [List.mem_singleton.mp h]
      decide
  refine ⟨y, r, ls, true, ns ++ [1], rfl, x4.code, .of (by rw [upd_same, List.map_append]; rfl), x.le, fun z => absurd ⟨by omega, by omega⟩ z, fun _ _ _ H5 s5 => ⟨fun z => absurd z (by omega), fun _ d hd => ?_⟩, fun _ _ j m hj hm _ => absurd (hpos m (List.mem_of_getElem? hj)) (by omega)⟩
  refine ⟨d, _, rfl, upd_same, .inl ⟨rfl, _, _, rfl, rfl, fun p2 hp2 => ?_⟩⟩
  refine ⟨_, rfl, _, _, rfl, rfl, _, rfl, small3 (show 3 ≤ 1000 by decide), fun p3 hp3 => ?_⟩
  have s6 := same_new (o := .xd [("wanted", .int (ls.length : Nat)), ("many", .int ((ns ++ [1]).length : Nat))]) (Same.refl _) hd
  have s7 := same_new (o := .tup [.str "size", .int ((ns ++ [1]).length : Nat), .int (ls.length : Nat)]) (Same.refl _) hp2
  have s8 := same_new (o := .tup [.str "size", .int ((n : Int) + 1), nI n]) (Same.refl _) hp3
  refine ⟨.tuple [.str "size", .int ((n : Int) + 1), .int n], .tuple [.str "size", .int ((n : Int) + 1), .int n], .tup (xs := [.str "size", .int ((n : Int) + 1), .int n]) (.of (s8 _ _ ?_)) (.cons (.str _) (.cons (.int _) (.cons (.int _) .nil))), .tup (.of upd_same) (.cons (.str _) (.cons (.int _) (.cons (.int _) .nil))), pl_sii _ _ _, pl_sii _ _ _, dp_sii _ _ _, ?_⟩
  · rw [upd_same, e1, e2]
  · rw [ne_plain _ (pl_sii _ _ _)]
    exact ⟨_, rfl, ifF rfl (hj _ _ ⟨a, v6, P, c1, D1, F1, q, y, cs, ns, ts, ys, ls, n, rfl, ((((((l1.same s2).same s3).same s4).same s5).same s6).same s7).same s8, (((x4.same s5).same s6).same s7).same s8⟩)⟩
end
end K38
end
section
/-! ## K38Zg -/
/-! The law's rows: what is refused, on. -/
namespace K38
open PySem PySem.Spec PyProof.Rows L2
/-- with the few counts -/
def J11 (K : PySem.W.Frag) (T : List (Addr × Str)) (m : Nat) : L2.St → Hp → Prop := fun σ H => ∃ (a v6 v9 : Option V) (P c D Fd q y q2 : Addr) (cs ns ns2 : List Int) (ts ys : List Addr) (ls : List Nat) (n : Nat), σ = [a, some (.ref P), some (nI n), some (.ref D), some (.ref Fd), some (.ref y), v6, some (.ref q), some (.ref q2), v9] ∧
  LI K T P c cs D Fd ts ys n m H ∧ CI K q y ns ls n H ∧ H q2 = some (.lst (ns2.map V.int)) ∧ ns2.length ≤ 1
section
variable {w : World} {K : PySem.W.Frag} {mg : Str → Option Value} {base : Heap} {f : Addr} {c P0 : Addr} {A : Around} {outer : List Env} {s : Shared} {HZ : Hp} {E : XK} {gd : List Code}
theorem st10 (Tz0 : Tz K mg) (hr : Room 60 (lwX w K mg base f (.ref c) A outer s HZ E).A) (hg : A.guards = some gd) (TB : LamX.TabB base mg c P0) : StOk (lwX w K mg base f (.ref c) A outer s HZ E) (lawSt 10) (J7 K (LawT P0) 12) (J7 K (LawT P0) 12) := by
  refine ⟨_, ps_if (pt_cmpR (op_neP (un8 hr)) (pe_ref (t := fun E' => tCall (spCost K) [] E' (tCons (tVar 5) (tCons (tOp rCat (tVar 7) (tLst (tCons (tUn (rU fun i => .int (-i)) (tC (.int 1))) tNil))) tNil))) Tz0 hr hg TB (LamX.lamS_by (by decide +kernel)) (by rfl) (fun _ _ _ _ _ => by rfl)
      (fun A' outer' s' H' E' f' c' hr' => pe_x (ok_cost Tz0.toTx) hr' (by decide) psLam (pa_cons (pv 5) (pa_cons (pe_op op_cat (pv 7) (pe_lst (pa_cons (pe_un un_neg pe_int) pa_nil))) pa_nil))))
    (pe_tup (pa_cons pe_str (pa_cons (pv 2) pa_nil))) (nomark _)) (pss_one (ps_ret pe_bl)) pss_nil, ?_⟩
  rintro D σ H ⟨a, v6, P, c1, D1, F1, q, y, cs, ns, ts, ys, ls, n, rfl, l, x⟩ hj
  have h2 := l.n2
  have h7 := l.n7
  have hnl := x.nl
  have hll := x.ll
  refine ⟨l.tabs, fun H1 eN t1 => ?_⟩
  obtain ⟨kvs, hP⟩ := l.pen.at_
  have l1 := l.extN eN t1
  have x1 := x.kp hP (.ofN eN)
  intro H2 s2 Qn
  have x2 := x1.same s2
  refine ⟨_, rfl, _, rfl, _, rfl, small3 (show 1 ≤ 1000 by decide), fun p hp => ⟨q, p, _, _, rfl, rfl, (same_new (Same.refl _) hp) _ _ x2.cnt, upd_same, small3 (by rw [List.length_map]; show ns.length + 1 ≤ 1000; omega), fun r hr' => ?_⟩⟩
  have s3 : Same H2 (upd H2 p (.lst [.int (-1)])) := same_new (Same.refl _) hp
  have s4 := same_new (o := .lst (ns.map V.int ++ [.int (-1)])) (Same.refl _) hr'
  have x4 := (x2.same s3).same s4
  have hn1 : (ns ++ [(-1 : Int)]).length = n + 1 := by rw [List.length_append, hnl]; rfl
  refine ⟨y, r, ls, true, ns ++ [-1], rfl, x4.code, .of (by rw [upd_same, List.map_append]; rfl), x.le, fun z => absurd ⟨by omega, by omega⟩ z, fun _ _ z => absurd (z (-1) (by simp)) (by decide), fun _ _ j m hjj hm _ H5 s5 d hd => ?_⟩
  have hjn : j = n := by
    have hjl : j < (ns ++ [(-1 : Int)]).length := (List.getElem?_eq_some_iff.mp hjj).1
    by_cases hh : j < ns.length
    · rw [List.getElem?_append_left hh] at hjj
      exact absurd (x.pos m (List.mem_of_getElem? hjj)) (by omega)
    · omega
  subst hjn
  refine ⟨d, _, rfl, upd_same, .inr (.inr (.inl ⟨rfl, _, rfl, fun p2 hp2 => ?_⟩))⟩
  refine ⟨_, rfl, small3 (show 2 ≤ 1000 by decide), fun p3 hp3 => ?_⟩
  have s6 := same_new (o := .xd [("index", .int (j : Nat))]) (Same.refl _) hd
  have s7 := same_new (o := .tup [.str "count", .int (j : Nat)]) (Same.refl _) hp2
  have s8 := same_new (o := .tup [.str "count", nI j]) (Same.refl _) hp3
  refine ⟨.tuple [.str "count", .int j], .tuple [.str "count", .int j], .tup (xs := [.str "count", .int j]) (.of (s8 _ _ upd_same)) (.cons (.str _) (.cons (.int _) .nil)), .tup (.of upd_same) (.cons (.str _) (.cons (.int _) .nil)), pl_si _ _, pl_si _ _, dp_si _ _, ?_⟩
  rw [ne_plain _ (pl_si _ _)]
  exact ⟨_, rfl, ifF rfl (hj _ _ ⟨a, v6, P, c1, D1, F1, q, y, cs, ns, ts, ys, ls, j, rfl, ((((((l1.same s2).same s3).same s4).same s5).same s6).same s7).same s8, (((x4.same s5).same s6).same s7).same s8⟩)⟩
theorem st11 {T : List (Addr × Str)} {cd : Value} (Tz0 : Tz K mg) (hr : Room 60 (lwX w K mg base f cd A outer s HZ E).A) : StOk (lwX w K mg base f cd A outer s HZ E) (lawSt 11) (J7 K T 12) (J11 K T 13) := by
  refine ⟨_, ps_set (i := 8) scLaw.nd rfl (Or.inr rfl) (pe_slice sl_list (pv 7) po_none (po_some (pe_x (ok_draw Tz0.toTx) hr (by decide) passL (pa_cons (pv 1) (pa_cons pe_int pa_nil))))), ?_⟩
  rintro D σ H ⟨a, v6, P, c1, D1, F1, q, y, cs, ns, ts, ys, ls, n, rfl, l, x⟩ hj
  obtain ⟨kvs, hP⟩ := l.pen.at_
  refine ⟨_, rfl, _, rfl, P, c1, 2, 12, cs, rfl, by decide, by decide, by decide, l.pen, fun H1 d hd s1 hp1 => ?_⟩
  have l1 := l.draw s1 hp1
  have x1 := x.kp hP (.ofB s1)
  refine ⟨_, rfl, q, _, rfl, .of x1.cnt, fun p hp => ?_⟩
  have s2 := same_new (o := .lst (cutV (ns.map V.int) none (some (d : Int)))) (Same.refl _) hp
  refine hj _ _ ⟨a, v6, none, P, c1, D1, F1, q, y, p, cs, ns, ns.take d, ts, ys, ls, n, rfl, (l1.same s2).le (by decide), x1.same s2, ?_, ?_⟩
  · rw [upd_same, cut_to, List.map_take]
  · rw [List.length_take]
    omega
theorem st12 (Tz0 : Tz K mg) (hr : Room 60 (lwX w K mg base f (.ref c) A outer s HZ E).A) (hg : A.guards = some gd) (TB : LamX.TabB base mg c P0) : StOk (lwX w K mg base f (.ref c) A outer s HZ E) (lawSt 12) (J11 K (LawT P0) 13) (J11 K (LawT P0) 13) := by
  refine ⟨_, ps_if (pt_cmpR (op_neP (un8 hr)) (pe_ref (t := fun E' => tCall (spCost K) [] E' (tCons (tVar 5) (tCons (tVar 8) tNil))) Tz0 hr hg TB (LamX.lamS_by (by decide +kernel)) (by rfl) (fun _ _ _ _ _ => by rfl)
      (fun A' outer' s' H' E' f' c' hr' => pe_x (ok_cost Tz0.toTx) hr' (by decide) psLam (pa_cons (pv 5) (pa_cons (pv 8) pa_nil))))
    (pe_tup (pa_cons pe_str (pa_cons (pe_callB call_len (by rfl) (Tz0.fr _ (by decide)) boot_len (pa_cons (pv 8) pa_nil)) (pa_cons pe_int pa_nil)))) (nomark _)) (pss_one (ps_ret pe_bl)) pss_nil, ?_⟩
  rintro D σ H ⟨a, v6, v9, P, c1, D1, F1, q, y, q2, cs, ns, ns2, ts, ys, ls, n, rfl, l, x, hq2, hl2⟩ hj
  refine ⟨l.tabs, fun H1 eN t1 => ?_⟩
  obtain ⟨kvs, hP⟩ := l.pen.at_
  have l1 := l.extN eN t1
  have x1 := x.kp hP (.ofN eN)
  have hq21 := lst_kp hq2 hP (.ofN eN)
  intro H2 s2 Qn
  have x2 := x1.same s2
  have hq22 := s2 _ _ hq21
  refine ⟨_, rfl, _, rfl, y, q2, ls, true, ns2, rfl, x2.code, .of hq22, x.le, fun _ d hd => ?_, fun z _ _ => absurd z (by omega), fun z _ _ => absurd z (by omega)⟩
  refine ⟨d, _, rfl, upd_same, .inr (.inr (.inr ⟨rfl, _, _, _, rfl, rfl, rfl, fun p2 hp2 => ?_⟩))⟩
  have s6 := same_new (o := .xd [("most", .int 26), ("many", .int (ns2.length : Nat)), ("what", .str "signs")]) (Same.refl _) hd
  have s7 := same_new (o := .tup [.str "signs", .int (ns2.length : Nat), .int 26]) (Same.refl _) hp2
  have hq27 := s7 _ _ (s6 _ _ hq22)
  refine ⟨_, rfl, _, ns2.length, rfl, .inl ⟨_, .of hq27, (List.length_map _).symm⟩, small3 (show 3 ≤ 1000 by decide), fun p3 hp3 => ?_⟩
  have s8 := same_new (o := .tup [.str "signs", .int (ns2.length : Nat), .int 26]) (Same.refl _) hp3
  refine ⟨.tuple [.str "signs", .int ns2.length, .int 26], .tuple [.str "signs", .int ns2.length, .int 26], .tup (xs := [.str "signs", .int ns2.length, .int 26]) (.of (s8 _ _ upd_same)) (.cons (.str _) (.cons (.int _) (.cons (.int _) .nil))), .tup (.of upd_same) (.cons (.str _) (.cons (.int _) (.cons (.int _) .nil))), pl_sii _ _ _, pl_sii _ _ _, dp_sii _ _ _, ?_⟩
  rw [ne_plain _ (pl_sii _ _ _)]
  exact ⟨_, rfl, ifF rfl (hj _ _ ⟨a, v6, v9, P, c1, D1, F1, q, y, q2, cs, ns, ns2, ts, ys, ls, n, rfl, (((l1.same s2).same s6).same s7).same s8, ((x2.same s6).same s7).same s8, s8 _ _ hq27, hl2⟩)⟩
end
end K38
end
section
/-! ## K38Zh -/
/-! The law's last rows: values that are no number of signs. -/
namespace K38
open PySem PySem.Spec PyProof.Rows L2
/-- the values -/
def OddE (l3 : Addr) (x : V) : Prop := (∃ i : Int, x = .int i ∧ (i = 1 ∨ i = 8 ∨ i = 27 ∨ i = 0 ∨ i = -2 ∨ i = 10 ^ 30)) ∨ x = .bl true ∨ x = .non ∨ x = .str "3" ∨ x = .ref l3
def tOdd (gd : List Code) : V → Str
  | .int i => toString i
  | .bl b => if b = true then "True" else "False"
  | .non => "None"
  | .ref a => lrep gd a [toString (3 : Int)]
  | _ => reprText "3"
theorem odd_repr {K : PySem.W.Frag} {gd : List Code} {H : Hp} {l3 : Addr} {x : V} (o : OddE l3 x) (h : H l3 = some (.lst [.int 3])) : ReprV K gd H x (tOdd gd x) := by
  rcases o with ⟨i, rfl, hi⟩ | rfl | rfl | rfl | rfl
  · refine .inl ⟨i, rfl, ?_, rfl⟩
    rcases hi with rfl | rfl | rfl | rfl | rfl | rfl <;> decide +kernel
  · exact .inr (.inl ⟨true, rfl, rfl⟩)
  · exact .inr (.inr (.inl ⟨rfl, rfl⟩))
  · exact .inr (.inr (.inr (.inl ⟨rfl, rfl⟩)))
  · exact .inr (.inr (.inr (.inr ⟨l3, rfl, .of h, rfl⟩)))
theorem odd_all {H : Hp} {l3 : Addr} {x : V} (o : OddE l3 x) (h : H l3 = some (.lst [.int 3])) : (∃ i, x = .int i ∧ ¬ (2 ≤ i ∧ i ≤ 7)) ∨ OddV H x := by
  rcases o with ⟨i, rfl, hi⟩ | rfl | rfl | rfl | rfl
  · refine .inl ⟨i, rfl, ?_⟩
    rcases hi with rfl | rfl | rfl | rfl | rfl | rfl <;> decide
  · exact .inr (.inr (.inl ⟨true, rfl⟩))
  · exact .inr (.inl rfl)
  · exact .inr (.inr (.inr (.inl ⟨_, rfl⟩)))
  · exact .inr (.inr (.inr (.inr ⟨l3, _, rfl, h⟩)))
theorem odd_num {H : Hp} {l3 : Addr} {x : V} (o : OddE l3 x) (h : H l3 = some (.lst [.int 3])) (h8 : x ≠ .int 8) : (∃ i, x = .int i ∧ ¬ (2 ≤ i ∧ i ≤ 26)) ∨ OddV H x := by
  rcases o with ⟨i, rfl, hi⟩ | rfl | rfl | rfl | rfl
  · refine .inl ⟨i, rfl, ?_⟩
    rcases hi with rfl | rfl | rfl | rfl | rfl | rfl
    · decide
    · exact absurd rfl h8
    all_goals decide
  · exact .inr (.inr (.inl ⟨true, rfl⟩))
  · exact .inr (.inl rfl)
  · exact .inr (.inr (.inr (.inl ⟨_, rfl⟩)))
  · exact .inr (.inr (.inr (.inr ⟨l3, _, rfl, h⟩)))
/-- x != 8 -/
theorem odd_8 {K : PySem.W.Frag} {H : Hp} {l3 : Addr} {x : V} (o : OddE l3 x) (h : H l3 = some (.lst [.int 3])) : ∃ d : PyData, Dp K H x d ∧ d.plain = true ∧ d.depth ≤ 8 ∧ ((x = .int 8 ∧ (!PyData.eqv d (.int 8)) = false) ∨ (x ≠ .int 8 ∧ (!PyData.eqv d (.int 8)) = true)) := by
  rcases o with ⟨i, rfl, hi⟩ | rfl | rfl | rfl | rfl
  · refine ⟨.int i, .int i, rfl, by simp [PyData.depth], ?_⟩
    have e : PyData.eqv (.int i) (.int 8) = (i == 8) := by simp only [PyData.eqv]
    rw [e]
    by_cases h8 : i = 8
    · subst h8
      exact .inl ⟨rfl, rfl⟩
    · exact .inr ⟨fun z => h8 (V.int.inj z), by simp [h8]⟩
  · exact ⟨.bool true, .bl true, rfl, by simp [PyData.depth], .inr ⟨(fun z => nomatch z), by simp [PyData.eqv]⟩⟩
  · exact ⟨.none, .non, rfl, by simp [PyData.depth], .inr ⟨(fun z => nomatch z), by simp [PyData.eqv]⟩⟩
  · exact ⟨.str "3", .str _, rfl, by simp [PyData.depth], .inr ⟨(fun z => nomatch z), by simp [PyData.eqv]⟩⟩
  · exact ⟨.list [.int 3], .lst (xs := [.int 3]) (.of h) (.cons (.int 3) .nil), rfl, by simp [PyData.depth, PyData.depthAll], .inr ⟨(fun z => nomatch z), by simp [PyData.eqv]⟩⟩
theorem told_bad {K : PySem.W.Frag} {gd : List Code} {Qk : VK} {x : V} {t : Str} {H : Hp} (hv : ∀ H', Same H H' → ReprV K gd H' x t) (hq : ∀ H' p, Same H H' → H' p = some (.tup [.str "bad", .str t]) → Qk (.ref p) H') : Rz K "BadSize" [("size", x)] H (Told K gd Qk) := fun d hd =>
  ⟨d, _, rfl, upd_same, .inr (.inl ⟨rfl, x, t, rfl, hv _ (same_new (Same.refl _) hd), fun p hp => hq _ p (same_new (same_new (Same.refl _) hd) hp) upd_same⟩)⟩
section
variable {w : World} {K : PySem.W.Frag} {mg : Str → Option Value} {base : Heap} {f : Addr} {c P0 : Addr} {A : Around} {outer : List Env} {s : Shared} {HZ : Hp} {E : XK} {gd : List Code}
theorem st13 (Tz0 : Tz K mg) (hr : Room 60 (lwX w K mg base f (.ref c) A outer s HZ E).A) (hg : A.guards = some gd) (TB : LamX.TabB base mg c P0) : StOk (lwX w K mg base f (.ref c) A outer s HZ E) (lawSt 13) (J11 K (LawT P0) 13) (fun _ _ => True) := by
  have hgX : (lwX w K mg base f (.ref c) A outer s HZ E).A.guards = some gd := hg
  have bRep : bootBuiltins "repr" = some (.builtin "repr") := by decide +kernel
  refine ⟨_, ps_for PassesOwn.never rfl (pi_list (pe_lst (pa_cons pe_int (pa_cons pe_int (pa_cons pe_int (pa_cons pe_int (pa_cons (pe_un un_neg pe_int) (pa_cons pe_bl (pa_cons pe_non (pa_cons pe_str (pa_cons (pe_lst (pa_cons pe_int pa_nil)) (pa_cons (pe_op op_pow pe_int pe_int) pa_nil)))))))))))) (pg_name (i := 9) scLaw.nd rfl (Or.inr rfl))
    (pss_cons (ps_if (pt_cmpR (op_neP (un8 hr)) (pe_ref (t := fun E' => tCall (spAll K) [] E' (tCons (tVar 9) tNil)) Tz0 hr hg TB (LamX.lamS_by (by decide +kernel)) (by rfl) (fun _ _ _ _ _ => by rfl)
        (fun A' outer' s' H' E' f' c' hr' => pe_x (ok_all Tz0.toTx) hr' (by decide) psLam (pa_cons (pv 9) pa_nil)))
      (pe_tup (pa_cons pe_str (pa_cons (pe_callB (r := rRepr K gd) (call_repr hgX (un100 hr)) (by rfl) (Tz0.fr _ (by decide)) bRep (pa_cons (pv 9) pa_nil)) pa_nil))) (nomark _)) (pss_one (ps_ret pe_bl)) pss_nil)
    (pss_one (ps_if (PW.pt (pw_and (pt_cmpR (op_neP (un8 hr)) (pv 9) pe_int (nomark _)) (pw_and1 (pt_cmpR (op_neP (un8 hr)) (pe_ref (t := fun E' => tCall (spNumber K) [] E' (tCons (tVar 9) tNil)) Tz0 hr hg TB (LamX.lamS_by (by decide +kernel)) (by rfl) (fun _ _ _ _ _ => by rfl)
        (fun A' outer' s' H' E' f' c' hr' => pe_x (ok_number Tz0.toTx) hr' (by decide) psLam (pa_cons (pv 9) pa_nil)))
      (pe_tup (pa_cons pe_str (pa_cons (pe_callB (r := rRepr K gd) (call_repr hgX (un100 hr)) (by rfl) (Tz0.fr _ (by decide)) bRep (pa_cons (pv 9) pa_nil)) pa_nil))) (nomark _))))) (pss_one (ps_ret pe_bl)) pss_nil))), ?_⟩
  rintro D σ H ⟨a, v6, v9, P, c1, D1, F1, q, y, q2, cs, ns, ns2, ts, ys, ls, n, rfl, l, x, hq2, hl2⟩ hj
  refine ⟨_, rfl, small3 (show 1 ≤ 1000 by decide), fun l3 h3 => ⟨_, _, rfl, rfl, ⟨by decide, by decide, by decide⟩, small3 (show 10 ≤ 1000 by decide), fun L hL => ⟨L, rfl, ⟨_, .of upd_same⟩, ?_⟩⟩⟩
  have sA : Same H (upd H l3 (.lst [.int 3])) := same_new (Same.refl _) h3
  have h3A : (upd H l3 (.lst [.int 3])) l3 = some (.lst [.int 3]) := upd_same
  dsimp only at hL ⊢
  generalize hxs : [V.int 1, V.int 8, V.int 27, V.int 0, V.int (-2), V.bl true, V.non, V.str "3", V.ref l3, V.int (10 ^ (30 : Int).toNat)] = xs
  have hel : ∀ (j : Nat) (z : V), xs[j]? = some z → OddE l3 z := fun j z hz => by
    have hm := List.mem_of_getElem? hz
    rw [← hxs] at hm
    simp only [List.mem_cons, List.not_mem_nil, or_false] at hm
    rcases hm with rfl | rfl | rfl | rfl | rfl | rfl | rfl | rfl | rfl | rfl
    · exact .inl ⟨_, rfl, .inl rfl⟩
    · exact .inl ⟨_, rfl, .inr (.inl rfl)⟩
    · exact .inl ⟨_, rfl, .inr (.inr (.inl rfl))⟩
    · exact .inl ⟨_, rfl, .inr (.inr (.inr (.inl rfl)))⟩
    · exact .inl ⟨_, rfl, .inr (.inr (.inr (.inr (.inl rfl))))⟩
    · exact .inr (.inl rfl)
    · exact .inr (.inr (.inl rfl))
    · exact .inr (.inr (.inr (.inl rfl)))
    · exact .inr (.inr (.inr (.inr rfl)))
    · exact .inl ⟨_, rfl, .inr (.inr (.inr (.inr (.inr rfl))))⟩
  have sB := same_new (o := .lst xs) (Same.refl (upd H l3 (.lst [.int 3]))) hL
  refine for_it (walk_list (K := K) (a := L) (xs := xs)) (fun i σ H3 => ∃ v : Option V, σ = [a, some (.ref P), some (nI n), some (.ref D1), some (.ref F1), some (.ref y), v6, some (.ref q), some (.ref q2), v] ∧ LamX.Tabs (LawT P0) H3 ∧ H3 L = some (.lst xs) ∧ H3 l3 = some (.lst [.int 3]))
    ⟨v9, rfl, (l.tabs.ext sA).ext sB, upd_same, sB _ _ h3A⟩ (fun i σ H3 _ ⟨_, _, _, h, _⟩ => .of h) ?_ ?_
  · rintro i x σ H3 H4 hi ⟨v, rfl, t3, hL3, h33⟩ ⟨rfl, hx⟩
    have o := hel i x hx
    -- what the refused call tells, compared: the rest k follows
    refine ⟨t3, fun H5 e5 t5 => ?_⟩
    intro H6 s6 Qn
    have k6 : ∀ (b : Addr) (zs : List V), H4 b = some (.lst zs) → H6 b = some (.lst zs) := fun b zs h => s6 _ _ (e5 _ _ h (fun _ z => nomatch z))
    have t6 := t5.ext s6
    have h36 := k6 _ _ h33
    have hL6 := k6 _ _ hL3
    refine ⟨_, rfl, x, rfl, .inr ⟨odd_all o h36, told_bad (t := tOdd gd x) (fun H' s' => odd_repr o (s' _ _ h36)) (fun H7 p s7 hp7 => ?_)⟩⟩
    refine ⟨_, rfl, x, tOdd gd x, rfl, odd_repr o (s7 _ _ h36), small3 (show 2 ≤ 1000 by decide), fun p2 hp2 => ?_⟩
    have s8 := same_new (o := .tup [.str "bad", .str (tOdd gd x)]) (Same.refl _) hp2
    refine ⟨.tuple [.str "bad", .str (tOdd gd x)], .tuple [.str "bad", .str (tOdd gd x)], .tup (.of (s8 _ _ hp7)) (.cons (.str _) (.cons (.str _) .nil)), .tup (.of upd_same) (.cons (.str _) (.cons (.str _) .nil)), pl_ss _ _, pl_ss _ _, dp_ss _ _, ?_⟩
    rw [ne_plain _ (pl_ss _ _)]
    refine ⟨_, rfl, ifF rfl ?_⟩
    have t8 := (t6.ext s7).ext s8
    have h38 := s8 _ _ (s7 _ _ h36)
    have hL8 := s8 _ _ (s7 _ _ hL6)
    generalize upd H7 p2 (.tup [.str "bad", .str (tOdd gd x)]) = H8 at t8 h38 hL8
    obtain ⟨d, hd, pl, dep, h8⟩ := odd_8 (K := K) o h38
    refine ⟨_, rfl, d, .int 8, hd, .int 8, pl, rfl, dep, ?_⟩
    rcases h8 with ⟨_, e⟩ | ⟨n8, e⟩
    · rw [e]
      exact ⟨_, rfl, ifF rfl (ifF rfl ⟨_, rfl, t8, hL8, h38⟩)⟩
    · rw [e]
      refine ⟨_, rfl, ifT rfl ⟨t8, fun H9 e9 t9 => ?_⟩⟩
      intro HA sA2 Qn2
      have kA : ∀ (b : Addr) (zs : List V), H8 b = some (.lst zs) → HA b = some (.lst zs) := fun b zs h => sA2 _ _ (e9 _ _ h (fun _ z => nomatch z))
      have tA := t9.ext sA2
      have h3A2 := kA _ _ h38
      have hLA := kA _ _ hL8
      refine ⟨_, rfl, x, rfl, .inr ⟨odd_num o h3A2 n8, told_bad (t := tOdd gd x) (fun H' s' => odd_repr o (s' _ _ h3A2)) (fun HB p s7 hp7 => ?_)⟩⟩
      refine ⟨_, rfl, x, tOdd gd x, rfl, odd_repr o (s7 _ _ h3A2), small3 (show 2 ≤ 1000 by decide), fun p2 hp2 => ?_⟩
      have s8 := same_new (o := .tup [.str "bad", .str (tOdd gd x)]) (Same.refl _) hp2
      refine ⟨.tuple [.str "bad", .str (tOdd gd x)], .tuple [.str "bad", .str (tOdd gd x)], .tup (.of (s8 _ _ hp7)) (.cons (.str _) (.cons (.str _) .nil)), .tup (.of upd_same) (.cons (.str _) (.cons (.str _) .nil)), pl_ss _ _, pl_ss _ _, dp_ss _ _, ?_⟩
      rw [ne_plain _ (pl_ss _ _)]
      exact ⟨_, rfl, ifF rfl ⟨_, rfl, (tA.ext s7).ext s8, s8 _ _ (s7 _ _ hLA), s8 _ _ (s7 _ _ h3A2)⟩⟩
  · rintro σ H3 ⟨v, rfl, _⟩
    exact hj _ _ trivial
end
end K38
end
section
/-! ## K38Zi -/
/-! The law keeps its promise. -/
namespace K38
open PySem PySem.Spec PyProof.Rows L2
/-- what stands on the stack is taken as known -/
theorem code_guards {M : Model} {A : Around} {c : Code} {R : Result → Shared → Prop} {s : Shared} (h : ∀ g, codeAny M { A with guards := some g } c R s) : codeAny M A c R s := fun Γ p hc hb =>
  h (guardsOf Γ.below) Γ p hc ⟨hb.1, hb.2.1, hb.2.2.1, fun g e => by cases e; rfl, hb.2.2.2.2⟩
def spLaw (K : PySem.W.Frag) (P0 : Addr) : Sp := fun vs H Q _ => ∃ (a : Addr) (ns : List Int), vs = [.ref a] ∧ SqL K H a (ns.map V.int) ∧ LamX.Tabs (LawT P0) H ∧ ∀ H', Q (.bl true) H'
section
variable {w : World} {K : PySem.W.Frag} {mg : Str → Option Value} {base : Heap} {f : Addr} {c P0 : Addr} {fd : FuncData}
theorem ok_law (Tz0 : Tz K mg) (F : FunD K "law" "law" (defArgs sLaw) (defBody sLaw) (defScope sLaw) [] [] f fd) (hc : fd.code = .ref c) (TB : LamX.TabB base mg c P0) : FnOk PR w K mg base (L2.CX PR w) 61 f fd ["_law_script"] (spLaw K P0) := by
  obtain ⟨oc, od, dV, kV, doc, pm, an, cdv, ct, osl, rfl, lk, hcd, _, _⟩ := F.ex
  obtain rfl : cdv = .ref c := hc
  refine ⟨fun vs H Q E h => ?_, fun A outer s H args us vs Q E hr e0 hb r hsp => code_guards fun g => ?_⟩
  · obtain ⟨a, ns, rfl, _⟩ := h
    rfl
  obtain ⟨a, ns, rfl, hS, tb, q⟩ := hsp
  refine LamX.run_ofS (CX := L2.CX PR w) (k := 60) (N := nmLaw) (ps := ["_law_script"]) (A := { A with guards := some g }) lk hcd scLaw ⟨hr.hd, hr.dp, hr.un⟩ ⟨e0.frames, e0.mod, e0.bs, e0.bsz, e0.funs, e0.frf, e0.hok, e0.bare⟩ hb r rfl fun hr2 => ?_
  have last : ∃ t, PSs (lwX w K mg base f (.ref c) { A with guards := some g } outer s H E) [lawSt 14] t ∧ ∀ (D : Ends) (σ : L2.St) (H' : Hp), (fun (_ : L2.St) (_ : Hp) => True) σ H' → (∀ v H'', (fun (v : V) (_ : Hp) => v = .bl true) v H'' → D.rt v H'') → t D σ H' :=
    ⟨_, pss_one (ps_ret pe_bl), fun D σ H' _ h => h _ _ rfl⟩
  obtain ⟨t, ht, hq⟩ := StOk.cons (st0 (T := LawT P0) Tz0 hr2) (StOk.cons (st1 Tz0 hr2) (StOk.cons (st2 Tz0 hr2) (StOk.cons (st3 Tz0 hr2) (StOk.cons (st4 Tz0 hr2) (StOk.cons (st5 Tz0 hr2) (StOk.cons (st6 Tz0 hr2) (StOk.cons (st7 Tz0 hr2) (StOk.cons (st8 Tz0 hr2) (StOk.cons (st9 Tz0 hr2 rfl TB) (StOk.cons (st10 Tz0 hr2 rfl TB) (StOk.cons (st11 Tz0 hr2) (StOk.cons (st12 Tz0 hr2 rfl TB)
    (StOk.cons (st13 Tz0 hr2 rfl TB) last)))))))))))))
  exact ⟨t, PSs.nox ht, hq _ _ _ ⟨a, ns, rfl, hS, tb⟩ fun v H' (e : v = .bl true) => by rw [e]; exact q H'⟩
end
end K38
end
section
/-! ## K38Hd -/
/-! The head's facts: what the Hook looks at, and that it gives Tz. -/
namespace K38
open PySem PySem.Spec PyProof.Rows L2 PySem.W PySem.HandSPX
/-! ### an error class of ours -/
abbrev ExV : Type := Option ((Str × Str × Arguments × FuncBody × Scope) × (Addr × List Str × Addr))
def exW (K : PySem.W.Frag) (x : Str) : ExV := match K.lookup (He.fAd K (x, some "__init__")) with
  | some ⟨_, _, .func fd, _⟩ => some ((fd.name, fd.qualname, fd.params, fd.body, fd.scope), (fd.globals, fd.closure.map (·.1), fd.builtins))
  | _ => none
def exE (q : Str) (st : Stmt) : ExV := some (("__init__", q, defArgs st, .stmts (defBody st), defScope st), (mainGlobals, ["__class__"], builtinsNs))
def codeB (K : PySem.W.Frag) (ca : Addr) : Bool := match K.lookup ca with
  | some ⟨_, _, .fields vs, _⟩ => (match vs[2]? with
    | some (Value.str z _) => decide (z = PR.main.file)
    | _ => false)
  | _ => false
def cellB (K : PySem.W.Frag) (C cc : Addr) : Bool := match K.lookup cc with
  | some ⟨_, _, .cell (some (.ref C')), _⟩ => decide (C' = C)
  | _ => false
def exFnB (K : PySem.W.Frag) (C fI : Addr) (q : Str) : Bool := match K.lookup fI with
  | some ⟨_, _, .func fd, _⟩ => (match fd.defaults with
    | .none => true
    | _ => false) && ((match fd.code with
    | .ref ca => PySem.W.codeIn K (.ref ca) q && codeB K ca
    | _ => false) && (match fd.closure with
    | [(_, cc)] => cellB K C cc
    | _ => false))
  | _ => false
def exClB (K : PySem.W.Frag) (C : Addr) : Bool := match K.lookup C with
  | some ⟨.type t, _, .cls cd, sl⟩ => decide (t = "type") && (match cd.mro, sl.toList with
    | .ref C' :: bm, [_, _, _, _, some (.builtin n), _] => decide (C' = C) && (decide (n = "ValueError.__new__") && (cd.hasDict && (!cd.hasDel && refsVE bm)))
    | _, _ => false)
  | _ => false
def exB (K : PySem.W.Frag) (x q : Str) (fs : List Str) : Bool :=
  exClB K (He.ga K x) && (exFnB K (He.ga K x) (He.ma K (He.ga K x) "__init__") q && (He.eqO (PySem.W.nsIn K mainGlobals x) (some (some (.ref (He.ga K x)))) && (He.eqO (PySem.W.findIn K (.ref (He.ga K x)) "__setattr__") (some (some (.builtin "object.__setattr__"))) &&
  ((fs.all fun f => He.eqO (PySem.W.findIn K (.ref (He.ga K x)) f) (some none)) && (He.eqO (PySem.W.findIn K (.ref (He.ga K x)) "__init__") (some (some (.ref (He.ma K (He.ga K x) "__init__")))) && (decide (PySem.W.typeIn K (.ref (He.ma K (He.ga K x) "__init__")) = some (.type "function")) &&
  (PySem.W.keepIn K (.ref (He.ga K x)) && (decide (PySem.W.subIn K (.ref (He.ga K x)) (.type "BaseException") = some true) && (decide (PySem.W.subIn K (.ref (He.ga K x)) (.type "ValueError") = some true) && (decide (PySem.W.typeIn K (.ref (He.ga K x)) = some (.type "type")) &&
  (decide (PySem.W.mroIn K (He.ga K x) (.ref (He.ga K x)) = some true) && He.eqO (PySem.W.ks_superIn K (He.ga K x) (He.ga K x) "__init__") (some (some (.builtin "ValueError.__init__"))))))))))))))
def exG (K : PySem.W.Frag) : Bool := He.eqO (PySem.W.nsIn K mainGlobals "super") (some none) && He.eqO (PySem.W.nsIn K cStatics "thirdparty.any") (some none)
theorem exc_at {K : PySem.W.Frag} {h : Heap} {mg : Str → Option Value} {x q : Str} {st : Stmt} (X : K.In h) (G : h.Ns mainGlobals mg) (hb : exB K x q ((fsOf st).map Fld.nm) = true) (hg : exG K = true) (hw : exW K x = exE q st) (hbody : defBody st = (spOf st).st :: (fsOf st).map Fld.st) : ExcAt K mg x q st := by
  obtain ⟨b1, hb⟩ := He.ba hb
  obtain ⟨b2, hb⟩ := He.ba hb
  obtain ⟨b3, hb⟩ := He.ba hb
  obtain ⟨b4, hb⟩ := He.ba hb
  obtain ⟨b5, hb⟩ := He.ba hb
  obtain ⟨b6, hb⟩ := He.ba hb
  obtain ⟨b7, hb⟩ := He.ba hb
  obtain ⟨b8, hb⟩ := He.ba hb
  obtain ⟨b9, hb⟩ := He.ba hb
  obtain ⟨b10, hb⟩ := He.ba hb
  obtain ⟨b11, hb⟩ := He.ba hb
  obtain ⟨b12, b13⟩ := He.ba hb
  obtain ⟨g1, g2⟩ := He.ba hg
  have hfn : ∃ cc ca, (∃ (oc : Value) (od : Option Addr) (kV doc pm : Value) (an : Option Addr) (ct : Value) (osl : Array (Option Value)),
      K.lookup (He.ma K (He.ga K x) "__init__") = some ⟨oc, od, .func (PySem.W.ksFn "__init__" q (defArgs st) ((spOf st).st :: (fsOf st).map Fld.st) (defScope st) .none kV doc pm an (.ref ca) ct cc), osl⟩ ∧ PySem.W.codeIn K (.ref ca) q = true) ∧
      (∃ (ccl : Value) (cdd : Option Addr) (vs : Array Value) (ccs : Array (Option Value)) (tf : Tok), K.lookup ca = some ⟨ccl, cdd, .fields vs, ccs⟩ ∧ vs[2]? = some (.str PR.main.file tf)) ∧
      ∃ (cl : Value) (cld : Option Addr) (csl : Array (Option Value)), K.lookup cc = some ⟨cl, cld, .cell (some (.ref (He.ga K x))), csl⟩ := by
    have hw2 : (match K.lookup (He.ma K (He.ga K x) "__init__") with
      | some ⟨_, _, .func fd, _⟩ => some ((fd.name, fd.qualname, fd.params, fd.body, fd.scope), (fd.globals, fd.closure.map (·.1), fd.builtins))
      | _ => none) = exE q st := hw
    unfold exFnB at b2
    cases e : K.lookup (He.ma K (He.ga K x) "__init__") with
    | none =>
      rw [e] at b2
      cases b2
    | some o =>
      rw [e] at b2 hw2
      obtain ⟨oc, od, dt, osl⟩ := o
      cases dt with
      | func fd =>
        obtain ⟨n1, n2, n3, n4, n5, n6, n7, n8, n9, n10, n11, n12, n13, n14, n15⟩ := fd
        have e2 : (some ((n1, n2, n3, n4, n5), (n6, n7.map (·.1), n15)) : ExV) = exE q st := hw2
        unfold exE at e2
        simp only [Option.some.injEq, Prod.mk.injEq] at e2
        obtain ⟨⟨h1, h2, h3, h4, h5⟩, h6, h7, h8⟩ := e2
        subst h1 h2 h3 h4 h5 h6 h8
        obtain ⟨d1, d20⟩ := He.ba b2
        obtain ⟨d2, d3⟩ := He.ba d20
        clear d20 b2
        dsimp only at d1 d2 d3
        cases n8 with
        | none =>
          cases n13 with
          | ref ca =>
            obtain ⟨d4, d5⟩ := He.ba d2
            match n7, h7, d3 with
            | [(z, cc)], h7, d3 =>
              have hz : z = "__class__" := by
                have := List.cons.inj h7
                exact this.1
              subst hz
              have d3 : cellB K (He.ga K x) cc = true := d3
              unfold codeB at d5
              unfold cellB at d3
              refine ⟨cc, ca, ⟨oc, od, n9, n10, n11, n12, n14, osl, by rw [← hbody], d4⟩, ?_, ?_⟩
              · cases e5 : K.lookup ca with
                | none =>
                  rw [e5] at d5
                  cases d5
                | some o5 =>
                  rw [e5] at d5
                  obtain ⟨c5, od5, dt5, sl5⟩ := o5
                  cases dt5 with
                  | fields vs =>
                    dsimp only at d5
                    cases e6 : vs[2]? with
                    | none =>
                      rw [e6] at d5
                      cases d5
                    | some u =>
                      rw [e6] at d5
                      cases u with
                      | str z tf =>
                        have : z = PR.main.file := of_decide_eq_true d5
                        subst this
                        exact ⟨c5, od5, vs, sl5, tf, rfl, e6⟩
                      | _ => cases d5
                  | _ => cases d5
              · cases e5 : K.lookup cc with
                | none =>
                  rw [e5] at d3
                  cases d3
                | some o5 =>
                  rw [e5] at d3
                  obtain ⟨c5, od5, dt5, sl5⟩ := o5
                  cases dt5 with
                  | cell v =>
                    cases v with
                    | none => cases d3
                    | some v =>
                      cases v with
                      | ref C' =>
                        have : C' = He.ga K x := of_decide_eq_true d3
                        rw [this]
                        exact ⟨c5, od5, sl5, rfl⟩
                      | _ => cases d3
                  | _ => cases d3
          | _ => cases d2
        | _ => cases d1
      | _ => cases b2
  have hcl : ∃ nm q N bs bm sn sub ab col dd k0 k1 k2 k3 k5, K.lookup (He.ga K x) = some (excClassObj nm q (He.ga K x) N bs bm true sn sub ab col dd k0 k1 k2 k3 k5 "ValueError.__new__") ∧ refsVE bm = true := by
    unfold exClB at b1
    cases e : K.lookup (He.ga K x) with
    | none =>
      rw [e] at b1
      cases b1
    | some o =>
      rw [e] at b1
      obtain ⟨oc, od, dt, osl⟩ := o
      cases oc with
      | type t =>
        cases dt with
        | cls cd =>
          obtain ⟨c1, c2⟩ := He.ba b1
          have ht : t = "type" := of_decide_eq_true c1
          subst ht
          split at c2
          · rename_i C' bm k0 k1 k2 k3 n k5 hm hs
            obtain ⟨c3, c2⟩ := He.ba c2
            obtain ⟨c4, c2⟩ := He.ba c2
            obtain ⟨c5, c2⟩ := He.ba c2
            obtain ⟨c6, c7⟩ := He.ba c2
            have h1 : C' = He.ga K x := of_decide_eq_true c3
            have h2 : n = "ValueError.__new__" := of_decide_eq_true c4
            obtain ⟨nm, bs, mro, ns, qn, hd, sn, sub, ab, col, del⟩ := cd
            dsimp only at hm c5 c6
            rw [h1] at hm
            rw [h2] at hs
            subst hm
            have h3 : del = false := by simpa using c6
            subst c5 h3
            refine ⟨nm, qn, ns, bs, bm, sn, sub, ab, col, od, k0, k1, k2, k3, k5, ?_, c7⟩
            have h4 : osl = #[k0, k1, k2, k3, some (.builtin "ValueError.__new__"), k5] := by
              apply Array.ext'
              rw [hs]
            rw [h4]
          · cases c2
        | _ => cases b1
      | _ => cases dt <;> cases b1
  obtain ⟨cc, ca, f1, f2, f3⟩ := hfn
  exact ⟨He.ma K (He.ga K x) "__init__", cc, ca, ⟨PySem.W.mg_of X G (He.eqO_ok b3), hcl, He.eqO_ok b4, fun f hf => He.eqO_ok (List.all_eq_true.mp b5 _ (List.mem_map_of_mem hf)), He.eqO_ok b6, of_decide_eq_true b7, b8, of_decide_eq_true b9, of_decide_eq_true b10, of_decide_eq_true b11, of_decide_eq_true b12, He.eqO_ok b13,
    He.eqO_ok g1, He.eqO_ok g2, f1, f2, f3⟩⟩
end K38
end
section
/-! ## K38Hf -/
/-! The head's Hook, and what it gives. -/
namespace K38
open PySem PySem.Spec PyProof.Rows L2
def faAll : List He.Fa := globs.map He.Fa.glo ++ (frees.map He.Fa.free ++ ([.int "MOST_SIGNS" 26, .int "MOST_LENGTH" 25, .int "MOST_LISTED" 7] ++ (faX ++ (exmL.map (fun p => He.Fa.exm p.1 p.2.1 p.2.2) ++ exF.map fun p => He.Fa.noat p.1 p.2))))
def exAll (K : PySem.W.Frag) : Bool :=
  exG K && (exB K "TooMany" "TooMany.__init__" ((fsOf sTooMany).map Fld.nm) && (exB K "BadCount" "BadCount.__init__" ((fsOf sBadCount).map Fld.nm) && (exB K "OtherSize" "OtherSize.__init__" ((fsOf sOtherSize).map Fld.nm) && (exB K "BadSize" "BadSize.__init__" ((fsOf sBadSize).map Fld.nm) &&
  ((exN.all fun x => xfB K (He.ga K x)) && (decide (PySem.W.findIn K (.ref (He.ga K "Code")) "__class__" = some (some (.builtin "object.__class__"))) && (decide (PySem.W.specialIn K (.builtin "object.__class__") "__get__" = some (some (.builtin "getset_descriptor.__get__"))) &&
  (decide (PySem.W.takesIn K (.builtin "object.__class__") = some true) && decide (PySem.W.mroIn K (He.ga K "Code") (.type "object") = some true)))))))))
def exWs (K : PySem.W.Frag) : List ExV := [exW K "TooMany", exW K "BadCount", exW K "OtherSize", exW K "BadSize"]
def exEs : List ExV := [exE "TooMany.__init__" sTooMany, exE "BadCount.__init__" sBadCount, exE "OtherSize.__init__" sOtherSize, exE "BadSize.__init__" sBadSize]
def tf0 : List He.Defn := [("law", none)]
def asK (g : Addr → Option Obj) : List Addr := cStatics :: He.asD g 6
abbrev AlK : Type := He.AlX × List ExV
def obsK (g : Addr → Option Obj) : AlK := ((He.obsT faAll fn [] (He.frT g (asK g)), exAll (He.frT g (asK g)) && He.tabsB g tf0 (He.frT g (asK g))), exWs (He.frT g (asK g)))
def valK (w : World) : AlK := (He.valX fn [] w, exEs)
def SaysK (w : World) (h : Heap) (K : PySem.W.Frag) : Prop := He.SaysX faAll fn [] tf0 exAll w h K ∧ exWs K = exEs
theorem saysK_of {w : World} {h : Heap} (e : obsK h.get? = valK w) : SaysK w h (He.frT h.get? (asK h.get?)) := by
  have e0 : (He.obsT faAll fn [] (He.frT h.get? (asK h.get?)), exAll (He.frT h.get? (asK h.get?)) && He.tabsB h.get? tf0 (He.frT h.get? (asK h.get?))) = He.valX fn [] w := congrArg (fun z : AlK => z.1) e
  have e3 : exWs (He.frT h.get? (asK h.get?)) = exEs := congrArg (fun z : AlK => z.2) e
  have e1 : He.obsT faAll fn [] (He.frT h.get? (asK h.get?)) = He.valT fn [] w := congrArg (fun z : He.AlX => z.1) e0
  have e2 : (exAll (He.frT h.get? (asK h.get?)) && He.tabsB h.get? tf0 (He.frT h.get? (asK h.get?))) = true := congrArg (fun z : He.AlX => z.2) e0
  obtain ⟨h1, h2⟩ := He.ba e2
  have key : ∀ p ∈ tf0, PySem.W.codeHdIn (He.frT h.get? (asK h.get?)) (He.cT (He.frT h.get? (asK h.get?)) p).1 (He.cT (He.frT h.get? (asK h.get?)) p).2 = true ∧ ∃ o, h.get? (He.cT (He.frT h.get? (asK h.get?)) p).2 = some o ∧ He.emptyTab o = true := fun p hp => by
    obtain ⟨h3, h4⟩ := He.ba (List.all_eq_true.mp h2 p hp)
    refine ⟨h3, ?_⟩
    cases q : h.get? (He.cT (He.frT h.get? (asK h.get?)) p).2 with
    | none =>
      rw [q] at h4
      cases h4
    | some o =>
      rw [q] at h4
      exact ⟨o, rfl, h4⟩
  exact ⟨⟨e1, h1, fun p hp => (key p hp).1, fun p hp => by
    obtain ⟨_, o, q, z⟩ := key p hp
    exact He.frT_none q z, fun p hp => by
    obtain ⟨_, o, q, z⟩ := key p hp
    rw [q, He.emptyTab_eq z]⟩, e3⟩
def hk : PySem.W.Hook where
  α := AlK
  obs := fun s => obsK s.heap.get?
  val := fun w => valK w
  says := fun w h => ∃ K : PySem.W.Frag, K.In h ∧ SaysK w h K
  of := fun _ _ e => ⟨_, He.frT_in, saysK_of e⟩
  keeps := fun _ _ _ ⟨K, hK, c, c2⟩ k => ⟨K, PySem.W.Frag.In.keeps hK k, ⟨c.t, c.more, c.hd, c.out, fun p hp => k _ _ (c.empty p hp)⟩, c2⟩
theorem obsK_eq {g : Addr → Option Obj} {s : Shared} (h : ∀ a, g a = s.heap.get? a) : obsK g = hk.obs s := by
  have e : g = s.heap.get? := funext h
  rw [e] <;> rfl
/-! ### the facts -/
theorem tz_of {w : World} {h : Heap} {K : PySem.W.Frag} {mg : Str → Option Value} (X : K.In h) (G : h.Ns mainGlobals mg) (c : SaysK w h K) : Tz K mg := by
  obtain ⟨c, hw⟩ := c
  have cD : He.SaysD faAll fn K := congrArg (fun z : He.AlT => z.1) c.t
  have fa1 : ∀ x ∈ globs, (He.Fa.glo x).ok K = true := fun x hx => cD.facts (List.mem_append_left _ (List.mem_map_of_mem hx))
  have fa2 : ∀ x ∈ frees, (He.Fa.free x).ok K = true := fun x hx => cD.facts (List.mem_append_right _ (List.mem_append_left _ (List.mem_map_of_mem hx)))
  have fa3 : ∀ f ∈ ([.int "MOST_SIGNS" 26, .int "MOST_LENGTH" 25, .int "MOST_LISTED" 7] : List He.Fa), f.ok K = true := fun x hx => cD.facts (List.mem_append_right _ (List.mem_append_right _ (List.mem_append_left _ hx)))
  have fa4 : ∀ f ∈ faX, f.ok K = true := fun x hx => cD.facts (List.mem_append_right _ (List.mem_append_right _ (List.mem_append_right _ (List.mem_append_left _ hx))))
  have fa5 : ∀ p ∈ exmL, (He.Fa.exm p.1 p.2.1 p.2.2).ok K = true := fun p hp => cD.facts (List.mem_append_right _ (List.mem_append_right _ (List.mem_append_right _ (List.mem_append_right _ (List.mem_append_left _ (List.mem_map.mpr ⟨p, hp, rfl⟩))))))
  have fa6 : ∀ p ∈ exF, (He.Fa.noat p.1 p.2).ok K = true := fun p hp => cD.facts (List.mem_append_right _ (List.mem_append_right _ (List.mem_append_right _ (List.mem_append_right _ (List.mem_append_right _ (List.mem_map.mpr ⟨p, hp, rfl⟩))))))
  obtain ⟨b1, hb⟩ := He.ba c.more
  obtain ⟨b2, hb⟩ := He.ba hb
  obtain ⟨b3, hb⟩ := He.ba hb
  obtain ⟨b4, hb⟩ := He.ba hb
  obtain ⟨b5, hb⟩ := He.ba hb
  obtain ⟨b6, hb⟩ := He.ba hb
  obtain ⟨b7, hb⟩ := He.ba hb
  obtain ⟨b8, hb⟩ := He.ba hb
  obtain ⟨b9, b10⟩ := He.ba hb
  simp only [exWs, exEs, List.cons.injEq, and_true] at hw
  obtain ⟨w1, w2, w3, w4⟩ := hw
  have tx : Txt K mg := ⟨fun x hx => He.free_ok X G (fa2 x hx), fun x hx => He.glo_ok X G (fa1 x hx), fun d hd => cD.defs hd, He.int_ok X G (fa3 _ (List.mem_of_getElem? (i := 0) rfl)), He.int_ok X G (fa3 _ (List.mem_of_getElem? (i := 1) rfl)), He.int_ok X G (fa3 _ (List.mem_of_getElem? (i := 2) rfl)),
    exc_at X G b2 b1 w1 rfl, exc_at X G b3 b1 w2 rfl, exc_at X G b4 b1 w3 rfl, exc_at X G b5 b1 w4 rfl⟩
  exact ⟨⟨tx, fa4, of_decide_eq_true b7, of_decide_eq_true b8, of_decide_eq_true b9, of_decide_eq_true b10⟩, fun p hp => of_decide_eq_true (fa5 p hp), fun x hx => List.all_eq_true.mp b6 x hx, fun p hp => He.eqO_ok (fa6 p hp)⟩
end K38
end
section
/-! ## K38Hr -/
/-! The head's run. -/
namespace K38
open PySem PySem.Spec PyProof.Rows L2
abbrev R : PySem.W.OpenRow := PySem.W.OpenLaw.row PySem.Challenge.rw_leastjoined_k38_whole_lists_of_codes
def names : List Str := (["JoinsError", "TooMany", "BadCount", "BadLength", "NotFull", "BadWord", "Begins", "OtherSize", "BadSize", "MOST_SIGNS", "MOST_LENGTH", "MOST_LISTED"] : List Str) ++
  ((["is_whole", "two_to", "choose", "check_signs", "check_counts", "bits_of", "canonical", "is_word", "checked_words", "Code"] : List Str) ++ ((["check_pair", "cost", "check_many", "Fillings", "number_of_codes", "subsets", "lists_below", "all_codes"] : List Str) ++
  (["_law_pen_of", "_law_draw", "_law_pick", "_law_counts_of", "_law_cost", "_law_all", "_law_ways", "_law_number", "_law_refused"] : List Str)))
def ob (s : PySem.W.SharedT) : AlK := obsK (HandSHeadRun.getT s)
theorem ob_eq (s : PySem.W.SharedT) : ob s = hk.obs s.abs := obsK_eq (HandSHeadRun.getT_eq s)
theorem run (w : World) : HandSHeadRun.RunEq R (PySem.W.view R.prog [42]) hk ob 4200 names w := by
  intro os
  kernel_rfl
end K38
end
section
/-! ## K38Hs -/
/-! What is known of the law behind the head. -/
namespace K38
open PySem PySem.Spec PyProof.Rows L2
theorem law_at {w : World} {h : Heap} {K : PySem.W.Frag} {mg : Str → Option Value} {fa : Addr} (X : K.In h) (G : h.Ns mainGlobals mg) (c : SaysK w h K) (hmg : mg ("law" : Str) = some (.ref fa)) :
    LamX.LawAtS PySem.Challenge.rw_leastjoined_k38_whole_lists_of_codes w K (L2.CX PR w) 61 63 "_law_script" mg fa h := by
  have T := tz_of X G c
  obtain ⟨fd, F⟩ := T.fd (dGlo "law" sLaw) (List.mem_of_getElem? (i := 23) rfl)
  have hga := T.gl "law" (by decide)
  have e : fa = He.ga K "law" := by
    rw [hmg] at hga
    exact Value.ref.inj (Option.some.inj hga)
  subst e
  have hbind := FunD.bindsA (ps := ["_law_script"]) F fun _ _ _ _ _ _ us hl => match us, hl with | [_], _ => rfl
  have hc : fd.code = .ref (He.cT K ("law", none)).1 := by
    obtain ⟨oc, od, dV, kV, doc, pm, an, cdv, ct, osl, rfl, lk, hcd, _, _⟩ := F.ex
    obtain ⟨c1, rfl⟩ := He.codeIn_ref hcd
    have := He.codeOf_eq (p := ("law", none)) (c := c1) lk rfl
    show Value.ref c1 = Value.ref (He.codeOf K ("law", none))
    rw [this]
  have mem : ∀ p ∈ [He.cT K ("law", none)], p = He.cT K ("law", none) := fun p hp => List.mem_singleton.mp hp
  refine ⟨fd, [He.cT K ("law", none)], spLaw K (He.cT K ("law", none)).2, fun p hp => ?_, fun p hp => ?_, fun p hp => ?_, fun s u => hbind s [u] rfl, fun H a ns _ _ ht hS => ⟨a, ns, rfl, hS, fun p hp => ?_, fun _ => rfl⟩, fun base _ _ TB => ok_law T F hc (TB _ List.mem_cons_self)⟩
  · rw [mem p hp]
    exact c.1.empty _ List.mem_cons_self
  · rw [mem p hp]
    exact c.1.out _ List.mem_cons_self
  · rw [mem p hp]
    exact PySem.W.codeHd_of_K X (c.1.hd _ List.mem_cons_self)
  · have := List.mem_singleton.mp hp
    subst this
    exact LamX.TabS.nil (ht _ List.mem_cons_self)
theorem no_cx {w : World} {H : Hp} {s : Shared} {e : Value} {s' : Shared} (h : L2.CX PR w [] H s (fun _ _ _ => False) e s') : False := by
  unfold L2.CX at h
  obtain ⟨_, _, _, _, _, _, _, _, _, _, _, _, _, z⟩ := h
end K38
end
open PySem PySem.W PySem.Calls PyProof.Rows
theorem PySem.Challenge.cw_leastjoined_k38_whole_lists_of_codes_holds : PySem.Challenge.rw_leastjoined_k38_whole_lists_of_codes.Holds := by
  w_on; o_law
  refine HandSHeadRun.head_any (r := OpenLaw.row PySem.Challenge.rw_leastjoined_k38_whole_lists_of_codes) (q := view (OpenLaw.row PySem.Challenge.rw_leastjoined_k38_whole_lists_of_codes).prog [42]) (H := K38.hk) (ob := K38.ob) (M := 4200) (loose := K38.names) (d := HandSHeadRun.topDef (OpenLaw.row PySem.Challenge.rw_leastjoined_k38_whole_lists_of_codes).prog 42) (kwd := []) K38.ob_eq
    (by kernel_rfl) (fun s => by kernel_rfl) K38.run (by kernel_rfl) (by kernel_rfl) (by kernel_rfl) (by rfl) (by first | assumption | decide +kernel) (by decide +kernel) ⟨rfl, rfl, rfl, rfl, rfl, by decide +kernel⟩ ?hw ?hc
  case hw => w_witness2
  case hc =>
    refine LamX.walk_ofTsE (l := PySem.Challenge.rw_leastjoined_k38_whole_lists_of_codes) (n := 63) (k := 61) (x := "_law_script") (CX := fun w => L2.CX K38.PR w) rfl (by decide) (by kernel_rfl) ⟨rfl, by decide, by decide⟩ ?F (fun _ _ _ _ _ z => K38.no_cx z)
    intro w mg fa h Y G hmg0
    obtain ⟨K, KX, c⟩ := Y
    have hmg : mg ("law" : PySem.Str) = some (.ref fa) := by
      have e : (HandSHeadRun.topDef (OpenLaw.row PySem.Challenge.rw_leastjoined_k38_whole_lists_of_codes).prog 42).name = ("law" : PySem.Str) := by kernel_rfl
      rw [← e]
      exact hmg0
    exact ⟨K, KX, K38.law_at KX G c hmg⟩
