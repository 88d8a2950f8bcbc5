import PyProof.Rows.All
import Wide.All
import OpenK.AllK
import Wide.FinOn
import HandS.ExcInit
import HandS.ExcSuper
import KE.KExcSuper
import HandS.ForMost
import HandS.Walk
import KE.GoesMore
import HandS.Zip
import HandS.TupAny
import HandS.TupMul
import HandS.IsInst
import HandS.Conv
import HandS.NoneIn
import HandS.Defaults
import HandS.MakeKwOnly
import HandS.DictComp
import HandS.SortInts
import HandS.Exc
import HandS.WordsExc
import HandS.Codes
import HandS.MakeKw
import HandS.ExcField
import HandS.TryMany
import HandS.Lambda
import HandS.Ends
import HandS.EndBits
import HandS.EndTab
import KE.KNestM
import PySem.Challenge.RW_agedcopy_k12_whole_markings_safe_or_not
set_option Elab.async false
set_option linter.all false
set_option maxRecDepth 100000
set_option maxHeartbeats 4000000
/-! AgR: raise C(e), C's __init__ saying super().__init__(text) and self.at = at, C over ValueError. -/
namespace Ag
open PySem PySem.Spec PyProof.Rows L2
abbrev ageCall (txt : Str) (j : Nat) (p0 p1 p2 p3 p4 : Pos) : Expr := .Call (.Attribute (.Call (.Name "super" p0) [] [] p1) "__init__" p2) [.Constant (.str txt) j p3] [] p4
abbrev ageBody (txt : Str) (j : Nat) (p0 p1 p2 p3 p4 p5 q0 q1 q2 q3 : Pos) : List Stmt := [.Expr (ageCall txt j p0 p1 p2 p3 p4) p5, .Assign [.Attribute (.Name "self" q0) "at" q1] (.Name "at" q2) q3]
/-- the function object of such an __init__ -/
structure AgeI (P : Program) (K : PySem.W.Frag) (C fI : Addr) : Prop where
  ex : ∃ (name qual : Str) (params : Arguments) (scope : Scope) (dV kV doc pm : Value) (an : Option Addr) (ct oc : Value) (od : Option Addr) (osl : Array (Option Value)) (cc cda : Addr) (txt : Str) (j : Nat) (p0 p1 p2 p3 p4 p5 q0 q1 q2 q3 : Pos) (ar : Arg)
      (ccl : Value) (cdd : Option Addr) (vs : Array Value) (ccs : Array (Option Value)) (cl : Value) (cld : Option Addr) (csl : Array (Option Value)) (file : Str) (tf : Tok) (pl : Sem Bool),
    K.lookup fI = some ⟨oc, od, .func (PySem.W.ksFn name qual params (ageBody txt j p0 p1 p2 p3 p4 p5 q0 q1 q2 q3) scope dV kV doc pm an (.ref cda) ct cc), osl⟩ ∧
    PySem.W.codeIn K (.ref cda) qual = true ∧ (params.posonlyargs ++ params.args).head? = some ar ∧ ar.arg = "self" ∧
    (∀ u v : Value, bindArgs (PySem.W.ksFn name qual params (ageBody txt j p0 p1 p2 p3 p4 p5 q0 q1 q2 q3) scope dV kV doc pm an (.ref cda) ct cc) ⟨[u, v], []⟩ = pure [(("self" : Str), u), (("at" : Str), v)]) ∧
    K.lookup cda = some ⟨ccl, cdd, .fields vs, ccs⟩ ∧ vs[2]? = some (.str file tf) ∧ ((P.main.file : Str) == file) = true ∧ K.lookup cc = some ⟨cl, cld, .cell (some (.ref C)), csl⟩ ∧
    scope.names.lookup ("super" : Str) = some .globalImplicit ∧ scope.names.lookup ("__class__" : Str) = some .free ∧ scope.names.lookup ("self" : Str) = some .local ∧ scope.names.lookup ("at" : Str) = some .local ∧
    (∀ x ∈ scope.names, x.2 ≠ .cell) ∧ scope.isCoroutine = false ∧ scope.isGenerator = false ∧ scope.kind = .function ∧ (P.main.scope.names.lookup ("super" : Str)).isSome = false ∧
    (∀ env : Env, eval (ageCall txt j p0 p1 p2 p3 p4) env = (do
        let ov ← attributeBase (.Call (.Name "super" p0) [] [] p1) "__init__" env (eval (.Call (.Name "super" p0) [] [] p1) env)
        standAt p2.atName
        let (f, first) ← holding [ov] (getMethod ov "__init__" pl)
        callWith p4 f first (backTo p4 (starEach [.Constant (.str txt) j p3] env)) [])) ∧
    (∀ env : Env, swapsWith (ageCall txt j p0 p1 p2 p3 p4) none p5.line env = pure false) ∧ (∀ env : Env, swapsWith (.Name "at" q2) (some (.Attribute (.Name "self" q0) "at" q1)) q3.line env = pure false)
structure XcT (P : Program) (K : PySem.W.Frag) (mg : Str → Option Value) (x : Str) (C : Addr) : Prop where
  g : mg x = some (.ref C)
  ox : OexC K C
  fI : ∃ f, PySem.W.findIn K (.ref C) "__init__" = some (some (.ref f)) ∧ PySem.W.typeIn K (.ref f) = some (.type "function") ∧ AgeI P K C f
  su : PySem.W.ks_superIn K C C "__init__" = some (some (.builtin "ValueError.__init__"))
  ve : PySem.W.subIn K (.ref C) (.type "ValueError") = some true
  self : PySem.W.mroIn K C (.ref C) = some true
  noat : PySem.W.findIn K (.ref C) "at" = some none
  tp : PySem.W.nsIn K cStatics "thirdparty.any" = some none
  nsu : mg "super" = none
section
open PySem.W
variable {prog : Program} {w : World} {A : Around} {E : Value → Shared → Prop} {h : Heap} {g : Array GenState} {d : Drawn} {t : Nat} {os : OsState}
theorem call_mw {nm q : Str} {C N : Addr} {bs bm : List Value} {hdct : Bool} {sn : List Str} {sub : List Value} {ab : Bool} {col : Option Bool} {dd : Option Addr} {k0 k1 k2 k3 k5 : Option Value} {u e t0 : Addr} {rest : List Value} {Q : Value → Shared → Prop}
    (hC : h.get? C = some (excClassObj nm q C N bs bm hdct sn sub ab col dd k0 k1 k2 k3 k5 "ValueError.__new__")) (he : h.get? e = some (HandSPX.excO C t0)) (hu : h.get? u = some (kxs_mw "ValueError.__init__" e)) (hrest : rest.length ≤ sizeLine)
    (hq : ∀ h' t1, (∀ b o, b ≠ e → h.get? b = some o → h'.get? b = some o) → h'.get? e = some (HandSPX.excO C t1) → Q .none ⟨h', g, d, t, os⟩) :
    wpAny (model prog w) A (call (.ref u) rest) Q E ⟨h, g, d, t, os⟩ := by
  refine wpAny_call (codeAny_of_tree ?_)
  show wpAny _ A.in1 (callAny (.ref u) ⟨rest, []⟩) _ _ _
  simp only [callAny]
  refine wpAny_bind (wpAny_load hu ?_)
  simp only [kxs_mw, show (Value.type "method-wrapper" == Value.type "method" || Value.type "method-wrapper" == Value.type "builtin_function_or_method" || Value.type "method-wrapper" == Value.type "method-wrapper") = true by decide, if_true]
  refine KFB.if_so (by decide) ?_
  refine wpAny_bind (ESX.check_bound F.excBase_ValueError hC he rfl ?_)
  refine wpAny_bind (wpAny_pure (wpAny_pure ?_))
  refine ⟨Code.quiet_builtin _ (by decide +kernel), codeAny_builtin F.excBase_ValueError.initEntry ?_⟩
  rw [Around.under_plainId F.excBase_ValueError.init.plain _]
  wp_walk
  refine hq _ h.objs.size (fun b o hb ho => ?_) ?_
  · rw [Heap.get?_update_other _ _ (Ne.symm hb)]
    exact Heap.get?_push_of_some _ ho
  · rw [Heap.get?_update_self _ (Heap.get?_push_of_some _ he) rfl]
    rfl
end
section
open PySem.W
variable {prog : Program} {w : World} {A : Around} {R : Result → Shared → Prop} {h base : Heap} {g : Array GenState} {d : Drawn} {t : Nat} {os : OsState} {K : Frag} {mg : Str → Option Value} {x : Str} {C fI e t0 : Addr} {v : Value}
/-- such an __init__ called -/
theorem age_init (T : XcT prog K mg x C) (I : AgeI prog K C fI) (m : Mod K mg base) (hb : ∀ b o, base.get? b = some o → h.get? b = some o) (he : h.get? e = some (HandSPX.excO C t0)) (hroom : A.depth < recursionLimit) (hbe : base.get? e = none)
    (hq : ∀ h' t1 tk dx, (∀ b o, b ≠ e → h.get? b = some o → h'.get? b = some o) → h.get? dx = none → dx ≠ e → h.objs.size ≤ dx → h'.get? e = some { cls := .ref C, dict := some dx, data := .fields #[.ref t1, .none, .none, .none, .bool false, .none] } →
      h'.Ns1 dx (fun y => if y = "at" then some v else none) → R (.ok (.ret .none)) ⟨h', g, d, tk, os⟩) :
    codeAny (model prog w) A (.call (.ref fI) ⟨[.ref e, v], []⟩) R ⟨h, g, d, t, os⟩ := by
  obtain ⟨name, qual, params, scope, dV, kV, doc, pm, an, ct, oc, od, osl, cc, cda, txt, j, p0, p1, p2, p3, p4, p5, q0, q1, q2, q3, ar, ccl, cdd, vs, ccs, cl, cld, csl, file, tf, pl, lk, hcd, har, hself, hbind, lkc, hvs, hfile, lcc, nsup, ncls, nself, nat, hcell, hco, hgen, hk, htop, hev, hsw1, hsw2⟩ := I.ex
  obtain ⟨nm, q, N, bs, bm, sn, sub, ab, col, dd, k0, k1, k2, k3, k5, hC, hbm⟩ := T.ox.cls
  have hcl : clsIn K C = some { name := nm, bases := bs, mro := .ref C :: bm, ns := N, qualname := q, hasDict := true, slotNames := sn, subclasses := sub, abstract := ab, collection := col, hasDel := false } := by unfold clsIn; rw [hC] <;> rfl
  have KI : K.In h := m.kin.keeps hb
  have hCh := KI _ _ hC
  have heC : e ≠ C := fun z => by
    rw [z, hCh] at he
    have z2 := Option.some.inj he
    have z3 := congrArg Obj.data z2
    cases z3
  refine ks_codeAny_call_defAt (fd := ksFn name qual params _ scope dV kV doc pm an (.ref cda) ct cc) (binds := [(("self" : Str), .ref e), (("at" : Str), v)]) hroom (KI _ _ lk) rfl (m.nolimit.keeps hb) (codeRec_of KI hcd) rfl ?_ hcell ?_ (fun h1 hns hk1 => ?_) hco hgen hk
  · exact fun A Q E s q => wpAny_of_eq (hbind _ _) q
  · intro y hy
    simp only [List.mem_cons, List.not_mem_nil, or_false] at hy
    rcases hy with rfl | rfl
    · exact nself
    · exact nat
  · have kb1 : ∀ b o, base.get? b = some o → h1.get? b = some o := fun b o z => hk1 b o (hb b o z)
    have K1 : K.In h1 := m.kin.keeps kb1
    have hL : h.objs.size ≠ e := fun z => absurd (Heap.lt_size he) (by rw [← z]; exact Nat.lt_irrefl _)
    refine ks_wpAt_execs_cons (ks_wpAt_Expr_any (ks_wpAt_MethodCall (pl := pl) ?_ (hev _)) (hi := by show (scope.kind == ScopeKind.module && _) = false; rw [hk]; rfl) (hs := hsw1 _))
    refine ks_wpAt_super_base (env := callEnv _ h.objs.size fI) nsup ncls (by decide) rfl (K1 _ _ lk) rfl har rfl (K1 _ _ lkc) rfl hvs hfile htop ?_
    obtain ⟨mb, hmb1, hmb2⟩ := m.blt
    refine ks_loadName_global hk nsup (Calls.loadGlobal_builtin (m.glob.keeps kb1) T.nsu (hmb1.keeps kb1) ((hmb2 "super" (by decide)).trans rfl) ⟨rfl, ?_⟩)
    refine wpAny_loadName_free hk ncls rfl ⟨_, K1 _ _ lcc, rfl⟩ ?_
    rw [hself]
    refine wpAny_loadName_local hk nself hns (v := .ref e) rfl ?_
    refine ks_wpAny_isType_cls (K1 _ _ hC) rfl ⟨rfl, ?_⟩
    refine ks_wpAny_call_super (K1 _ _ hC) rfl (hk1 _ _ he) rfl (fun c z => by cases z) (looks_mroIn K1 T.self) (fun h2 hso hk2 => ?_)
    have k2 : ∀ b o, h.get? b = some o → h2.get? b = some o := fun b o z => hk2 b o (hk1 b o z)
    have K2 : K.In h2 := KI.keeps k2
    have alo : alongIn K "__init__" ((((Value.ref C :: bm).dropWhile (· != .ref C)).drop 1)) = some (some (.builtin "ValueError.__init__")) := by
      have z := T.su
      unfold ks_superIn at z
      rw [hcl] at z
      exact z
    have inst2 : InstAt h2 e (HandSPX.excO C t0) C none := ⟨k2 _ _ he, rfl, rfl, trivial⟩
    refine kxs_getMethod kxs_ValueError hso (looks_opaque K2 T.tp) (l₀ := .ref C :: bm) (fun A Q E s k q => wpAny_bind ((looks_clsIn K2 hcl) A _ E s k (wpAny_pure q))) rfl K2 alo (inst2.type.andThen (looks_subIn K2 T.ve)) heC (by decide) ?_
    have up3 : ∀ b o, h2.get? b = some o → (h2.push (kxs_mw "ValueError.__init__" e)).get? b = some o := fun b o z => Heap.get?_push_of_some _ z
    refine kxs_callWith (i := "ValueError.__init__") (x := e) rfl ?_
    refine Calls.evalArgs_plain (Calls.spliced_cons (Calls.Constant_str (k := j) (pos := p3) (Calls.spliced_nil ⟨?_, ?_⟩)))
    · exact Heap.get?_push_at rfl rfl
    have hu3 : (h2.push (kxs_mw "ValueError.__init__" e)).get? h2.objs.size = some (kxs_mw "ValueError.__init__" e) := Heap.get?_push_at rfl rfl
    show wpAny (model prog w) _ (call (.ref h2.objs.size) [.str txt _]) _ _ _
    refine call_mw (up3 _ _ (K2 _ _ hC)) (up3 _ _ (k2 _ _ he)) hu3 (by size_fits) (fun h4 t1 k4 he4 => ?_)
    have k04 : ∀ b o, b ≠ e → h.get? b = some o → h4.get? b = some o := fun b o nb z => k4 b o nb (up3 b o (k2 b o z))
    have ne_of : ∀ {b o}, base.get? b = some o → b ≠ e := fun {b o} z y => by
      rw [y, hbe] at z
      cases z
    have K4 : K.In h4 := m.kin.keeps fun b o z => k04 b o (ne_of z) (hb b o z)
    obtain ⟨oL, esL, epL, hoL, hrL⟩ := hns
    have ns4 : h4.Ns h.objs.size (fun x => List.lookup x [(("self" : Str), Value.ref e), (("at" : Str), v)].reverse) := ⟨oL, esL, epL, k4 _ _ hL (up3 _ _ (hk2 _ _ hoL)), hrL⟩
    refine ks_wpAt_execs_cons (ks_wpAt_Assign_Attr ?_ (hsw2 _))
    refine wpAt_of_wpAny (ESX.ldL ns4 (v := v) rfl ?_ hk nat)
    refine ESX.ldL ns4 (v := .ref e) rfl ?_ hk nself
    refine set_plain K4 (ox := { cls := .ref C, dict := none, data := .fields #[.ref t1, .none, .none, .none, .bool false, .none] }) (od := none) ⟨he4, rfl, rfl, trivial⟩ T.ox.sa ?_
    refine HandSPX.exc_osa K4 he4 hcl (show HandSPX.refsVE (.ref C :: bm) = true from hbm) rfl T.noat (fun h5 tk5 dx k5' dn dne he5 hn5 => ?_)
    show PySem.wpAt _ _ _ (execs [] _) _ _ _
    refine wpAt_of_wpAny (wpAny_execs_nil ?_)
    have hsz : h.objs.size ≤ h4.objs.size := Nat.le_of_lt ns4.lt
    refine hq h5 t1 _ dx (fun b o nb z => k5' b o nb (k04 b o nb z)) ?_ dne (Nat.le_trans hsz dn) he5 hn5
    exact Heap.get?_none_of_le (Nat.le_trans hsz dn)
end
/-- C(e) -/
def tMkA (C : Addr) (ta : TA) : L2.St → Hp → XK → Prop := fun σ H Q => ta σ H fun vs H1 => ∃ v, vs = [v] ∧ ∀ d, H1 d = none → Q (.ref C) (some d) (upd H1 d (.xd [("at", v)]))
section
variable {X : Cx} {x : Str} {C : Addr} {k : Nat} {a : Expr} {ta : TA} {p pos pos2 : Pos}
theorem pmk_age (T : XcT X.prog X.K X.mg x C) (hr : Room k X.A) (ha : PA X [a] ta) (hg : Gl X x) (hdb : (x == ("__debug__" : Str)) = false) (he : starEach [a] X.env = (false, eval a X.env) :: starEach [] X.env) (hpl : (backTo pos (starEach [] X.env)).any (·.1) = false) :
    PMk X (.Call (.Name x p) [a] [] pos) (tMkA C ta) := by
  intro pins s σ H Q I h
  obtain ⟨nm, q, N, bs, bm, sn, sub, ab, col, dd, k0, k1, k2, k3, k5, hC, hbm⟩ := T.ox.cls
  obtain ⟨fI, iC, tI, AI⟩ := T.fI
  refine wpAny_Call_Name_kw (ld_glob I hg T.g ?_ hdb)
  refine PySem.W.callWith_K (h₀ := X.base) I.ok.mod.kin T.ox.kC (thn (ha.run pos pins s σ H _ I h) fun us s1 ⟨vs, H1, I1, r1, v, ev, q1⟩ => ⟨I1.kIn, ?_⟩) he hpl
  show wpAny _ _ (call (.ref C) us) _ _ _
  subst ev
  obtain ⟨u, rfl, ru⟩ := Vals.one r1
  obtain ⟨hp, g, dr, tk, os⟩ := s1
  have hsz : hp.objs.size ≤ hp.objs.size + 1 := Nat.le_succ _
  have hn : H1 (hp.objs.size + 1) = none := I1.hok.fresh hsz
  have kk : ∀ b o, hp.get? b = some o → ((hp.push (PySem.W.kdv_tup [u])).push (PySem.HandSPX.excO C hp.objs.size)).get? b = some o := fun b o e => Heap.get?_push_of_some _ (Heap.get?_push_of_some _ e)
  have hget : ((hp.push (PySem.W.kdv_tup [u])).push (PySem.HandSPX.excO C hp.objs.size)).get? (hp.objs.size + 1) = some (PySem.HandSPX.excO C hp.objs.size) := by heap_get
  have I2 : Inv X pins σ (upd H1 (hp.objs.size + 1) (exo (hp.objs.size + 1) C none)) ⟨(hp.push (PySem.W.kdv_tup [u])).push (PySem.HandSPX.excO C hp.objs.size), g, dr, tk, os⟩ :=
    I1.laid (t' := tk) (a := hp.objs.size + 1) (o := exo (hp.objs.size + 1) C none) (h' := (hp.push (PySem.W.kdv_tup [u])).push (PySem.HandSPX.excO C hp.objs.size)) kk hsz (exo_ok hget)
  have hbe : X.base.get? (hp.objs.size + 1) = none := by
    cases z : X.base.get? (hp.objs.size + 1) with
    | none => rfl
    | some o => exact absurd (Heap.lt_size (I1.bk _ _ z)) (Nat.not_lt.mpr hsz)
  refine wpAny_call (PySem.HandSPX.call_own F.excBase_ValueError (fun Y => PySem.HandSPX.refsVE_contains Y bm hbm) (I1.kIn _ _ hC) (PySem.W.looks_findIn I1.kIn iC) (fun self => PySem.W.bind_fn I1.kIn self tI) (by size_fits) ?_)
  refine age_init T AI I1.mod I2.bk hget (by rw [make_depth]; have := hr.dp; omega) hbe fun h' t1 tk' dx k' dn dne dge he' hn' => ?_
  refine ⟨rfl, ?_⟩
  generalize hA : hp.objs.size + 1 = A at *
  generalize hH2 : upd (upd (upd H1 A (exo A C none)) dx (exd dx [(("at" : Str), v)])) A (exo A C (some dx)) = H2
  have hdA : upd H1 A (exo A C none) dx = none := I2.hok.fresh dge
  have hd1 : H1 dx = none := by rw [← hdA, upd_ne dne]
  have nd : ∀ {b : Addr} {o : Obj}, ((hp.push (PySem.W.kdv_tup [u])).push (PySem.HandSPX.excO C hp.objs.size)).get? b = some o → b ≠ dx := fun {b o} z y => by
    rw [y, dn] at z
    cases z
  have na : ∀ {b : Addr}, upd H1 A (exo A C none) b = none → b ≠ A := fun {b} n z => by
    rw [z, upd_same] at n
    cases n
  have eA : upd H1 A (exo A C none) A = some (exo A C none) := upd_same
  have Un1 : Un (frs X.stack) [] (upd H1 A (exo A C none)) H2 ((hp.push (PySem.W.kdv_tup [u])).push (PySem.HandSPX.excO C hp.objs.size)) h' := by
    subst hH2
    exact {
      keep := fun b o q n _ _ => k' b o (na n) q
      slot := fun b o q n _ _ => ⟨o.slots, k' b o (na n) q⟩
      free := fun b o q n _ => by rw [upd_ne (na n), upd_ne (nd q)]; exact n
      there := fun b o q _ => by
        by_cases hb : b = A
        · exact ⟨_, by rw [hb]; exact he'⟩
        · exact ⟨o, k' b o hb q⟩
      tups := fun b xs q => by rw [upd_ne (at_ne eA q exo_tup), upd_ne (ne_of_none q hdA)]; exact q
      frzs := fun b o v q => by rw [upd_ne (at_ne eA q exo_frz), upd_ne (ne_of_none q hdA)]; exact q
      tbls := fun b ps q => ⟨#[], by rw [upd_ne (at_ne eA q exo_tbl), upd_ne (ne_of_none q hdA), q]; simp⟩ }
  have hok2 : HOk X.prog X.w H2 h' := by
    subst hH2
    intro b o q
    by_cases hb : b = A
    · subst hb
      rw [upd_same] at q
      cases q
      exact exo_ok he'
    · rw [upd_ne hb] at q
      by_cases hd : b = dx
      · subst hd
        rw [upd_same] at q
        cases q
        exact exd_ok hn' (relO_put (fs := []) ru fun g => True.intro)
      · rw [upd_ne hd] at q
        exact (I2.hok b o q).stay (fun c v hc z => k' c v (by
            rcases hc with hc | hc
            · rw [hc]
              exact hb
            · exact at_ne eA hc exo_own) z)
          (fun c hc => by rw [upd_ne (at_ne eA hc exo_own), upd_ne (ne_of_none hc hdA)]; exact hc) (fun c xs hc => by rw [upd_ne (at_ne eA hc exo_tup), upd_ne (ne_of_none hc hdA)]; exact hc)
  have ea : H2 A = some (exo A C (some dx)) := by rw [← hH2]; exact upd_same
  have ed : H2 dx = some (exd dx [(("at" : Str), v)]) := by rw [← hH2, upd_ne dne]; exact upd_same
  have eq : upd (del H2 A) dx (.xd [(("at" : Str), v)]) = upd H1 dx (.xd [(("at" : Str), v)]) := by
    funext b
    by_cases hb : b = dx
    · rw [hb, upd_same, upd_same]
    · rw [upd_ne hb, upd_ne hb]
      by_cases hbA : b = A
      · rw [hbA, del_same, hn]
      · rw [del_ne hbA, ← hH2, upd_ne hbA, upd_ne hb, upd_ne hbA]
  refine mk_end (raises_own T.ox.exC T.ox.tyC) I1 (by omega) kk Un1 hok2 rfl I1.bare ea ed hd1 ?_
  rw [eq]
  exact q1 dx hd1
def tRaiseA (C : Addr) (W : WX) (ta : TA) : TS := fun _ σ H => ta σ H fun vs H1 => ∃ v, vs = [v] ∧ ∀ d, H1 d = none → W (.ref C) (some d) σ (upd H1 d (.xd [("at", v)]))
theorem ps_raiseA {W : WX} (T : XcT X.prog X.K X.mg x C) (hr : Room k X.A) (ha : PA X [a] ta) (tk : Takes X W) (hc : X.calm = true := by rfl) (hg : Gl X x := by rfl) (hdb : (x == ("__debug__" : Str)) = false := by decide)
    (he : starEach [a] X.env = (false, eval a X.env) :: starEach [] X.env := by rfl) (hpl : (backTo pos (starEach [] X.env)).any (·.1) = false := by rfl) : PS X (.Raise (some (.Call (.Name x p) [a] [] pos)) none pos2) (tRaiseA C W ta) :=
  ps_raise hc tk (pmk_age T hr ha hg hdb he hpl)
end
end Ag
set_option Elab.async false
set_option linter.all false
set_option maxRecDepth 100000
set_option maxHeartbeats 2000000
/-! Ag0: what stays (G), what is owned (M), types of values, and what a reading comes to. -/
namespace Ag
open PySem L2
theorem Same.new {G : Hp} {p : Addr} {o : HO} (h : G p = none) : Same G (upd G p o) := fun a u e => by
  rw [upd_ne (ne_of_none e h)]; exact e
theorem free_of {G H : Hp} {p : Addr} (e : Same G H) (h : H p = none) : G p = none := by
  cases q : G p with
  | none => rfl
  | some o => rw [e p o q] at h; cases h
/-! ### types -/
structure Ty where
  p : Hp → V → Prop
  mono : ∀ {G G' : Hp} {v : V}, Same G G' → p G v → p G' v
structure Ct where
  p : Hp → HO → Prop
  mono : ∀ {G G' : Hp} {o : HO}, Same G G' → p G o → p G' o
abbrev Gam := List (Option Ty)
abbrev Mem := List (Addr × Ct)
structure Wd (G : Hp) (M : Mem) (H : Hp) : Prop where
  le : Same G H
  nd : (M.map (·.1)).Nodup
  at_ : ∀ c ∈ M, G c.1 = none ∧ ∃ o, H c.1 = some o ∧ c.2.p G o
structure Sd (G : Hp) (σ : L2.St) (Γ : Gam) : Prop where
  len : σ.length = Γ.length
  get : ∀ (i : Nat) (T : Ty), Γ[i]? = some (some T) → ∃ v, σ[i]? = some (some v) ∧ T.p G v
section
variable {G G' H : Hp} {M : Mem} {σ : L2.St} {Γ : Gam} {p a : Addr} {o o' : HO} {c : Addr × Ct} {C C' : Ct} {T : Ty} {v : V} {i : Nat}
theorem Wd.alloc (w : Wd G M H) (h : H p = none) (o : HO) : Wd (upd G p o) M (upd H p o) ∧ Same G (upd G p o) := by
  have hg : G p = none := free_of w.le h
  refine ⟨⟨fun b u e => ?_, w.nd, fun c hc => ?_⟩, Same.new hg⟩
  · by_cases hb : b = p
    · subst hb; rw [upd_same] at e ⊢; exact e
    · rw [upd_ne hb] at e ⊢; exact w.le b u e
  · obtain ⟨h1, o1, h2, h3⟩ := w.at_ c hc
    have ne : c.1 ≠ p := ne_of_none h2 h
    exact ⟨by rw [upd_ne ne]; exact h1, o1, by rw [upd_ne ne]; exact h2, c.2.mono (Same.new hg) h3⟩
theorem Wd.own (w : Wd G M H) (h : H p = none) (k : C.p G o) : Wd G ((p, C) :: M) (upd H p o) := by
  have hg : G p = none := free_of w.le h
  refine ⟨fun b u e => ?_, ?_, fun c hc => ?_⟩
  · rw [upd_ne (ne_of_none e hg)]; exact w.le b u e
  · rw [List.map_cons, List.nodup_cons]
    refine ⟨fun hm => ?_, w.nd⟩
    obtain ⟨c, hc, e⟩ := List.mem_map.mp hm
    obtain ⟨_, o1, h2, _⟩ := w.at_ c hc
    rw [e, h] at h2; cases h2
  · rcases List.mem_cons.mp hc with rfl | hc
    · exact ⟨hg, o, upd_same, k⟩
    · obtain ⟨h1, o1, h2, h3⟩ := w.at_ c hc
      exact ⟨h1, o1, by rw [upd_ne (ne_of_none h2 h)]; exact h2, h3⟩
theorem nodup_key {M : Mem} (nd : (M.map (·.1)).Nodup) {a : Addr} {C C' : Ct} (h : (a, C) ∈ M) (h' : (a, C') ∈ M) : C = C' := by
  induction M with
  | nil => cases h
  | cons d r ih =>
    rw [List.map_cons, List.nodup_cons] at nd
    rcases List.mem_cons.mp h with e | h <;> rcases List.mem_cons.mp h' with e' | h'
    · rw [← e] at e'; exact ((Prod.mk.inj e').2).symm
    · exact absurd (List.mem_map.mpr ⟨_, h', by rw [← e]⟩) nd.1
    · exact absurd (List.mem_map.mpr ⟨_, h, by rw [← e']⟩) nd.1
    · exact ih nd.2 h h'
theorem Wd.write (w : Wd G M H) (hm : (a, C) ∈ M) (k : C.p G o) : Wd G M (upd H a o) := by
  obtain ⟨ha, _, _, _⟩ := w.at_ _ hm
  refine ⟨fun b u e => ?_, w.nd, fun c hc => ?_⟩
  · rw [upd_ne (ne_of_none e ha)]; exact w.le b u e
  · obtain ⟨h1, o1, h2, h3⟩ := w.at_ c hc
    refine ⟨h1, ?_⟩
    by_cases e : c.1 = a
    · obtain ⟨c1, c2⟩ := c
      cases e
      have q := nodup_key w.nd hc hm
      cases q
      exact ⟨o, upd_same, k⟩
    · exact ⟨o1, by rw [upd_ne e]; exact h2, h3⟩
theorem Wd.change (w : Wd G ((a, C) :: M) H) (k : C'.p G o) : Wd G ((a, C') :: M) (upd H a o) := by
  obtain ⟨ha, _, _, _⟩ := w.at_ _ List.mem_cons_self
  have nd := w.nd
  refine ⟨fun b u e => ?_, by simpa using nd, fun c hc => ?_⟩
  · rw [upd_ne (ne_of_none e ha)]; exact w.le b u e
  · rcases List.mem_cons.mp hc with rfl | hc
    · exact ⟨ha, o, upd_same, k⟩
    · obtain ⟨h1, o1, h2, h3⟩ := w.at_ c (List.mem_cons_of_mem _ hc)
      refine ⟨h1, o1, ?_, h3⟩
      rw [upd_ne (fun e => ?_)]
      · exact h2
      · rw [List.map_cons, List.nodup_cons] at nd
        exact nd.1 (List.mem_map.mpr ⟨c, hc, e⟩)
theorem Wd.tail (w : Wd G (c :: M) H) : Wd G M H :=
  ⟨w.le, by have := w.nd; rw [List.map_cons, List.nodup_cons] at this; exact this.2, fun d hd => w.at_ d (List.mem_cons_of_mem _ hd)⟩
theorem Wd.freeze (w : Wd G ((a, C) :: M) H) (h : H a = some o) : Wd (upd G a o) M H ∧ Same G (upd G a o) := by
  obtain ⟨ha, _, _, _⟩ := w.at_ _ List.mem_cons_self
  have nd := w.nd
  refine ⟨⟨fun b u e => ?_, w.tail.nd, fun c hc => ?_⟩, Same.new ha⟩
  · by_cases hb : b = a
    · subst hb; rw [upd_same] at e; rw [h]; exact e
    · rw [upd_ne hb] at e; exact w.le b u e
  · obtain ⟨h1, o1, h2, h3⟩ := w.at_ c (List.mem_cons_of_mem _ hc)
    have ne : c.1 ≠ a := fun e => by
      rw [List.map_cons, List.nodup_cons] at nd
      exact nd.1 (List.mem_map.mpr ⟨c, hc, e⟩)
    exact ⟨by rw [upd_ne ne]; exact h1, o1, h2, c.2.mono (Same.new ha) h3⟩
theorem Wd.swap {c d : Addr × Ct} (w : Wd G (c :: d :: M) H) : Wd G (d :: c :: M) H :=
  ⟨w.le, by
    have nd := w.nd
    simp only [List.map_cons, List.nodup_cons, List.mem_cons, not_or] at nd ⊢
    exact ⟨⟨fun e => nd.1.1 e.symm, nd.2.1⟩, nd.1.2, nd.2.2⟩, fun x hx => w.at_ x (by
      simp only [List.mem_cons] at hx ⊢
      rcases hx with h | h | h
      · exact .inr (.inl h)
      · exact .inl h
      · exact .inr (.inr h))⟩
theorem Sd.mono (s : Sd G σ Γ) (e : Same G G') : Sd G' σ Γ := ⟨s.len, fun i T h => let ⟨v, h1, h2⟩ := s.get i T h; ⟨v, h1, T.mono e h2⟩⟩
theorem Sd.set (s : Sd G σ Γ) (i : Nat) (h : T.p G v) : Sd G (σ.set i (some v)) (Γ.set i (some T)) := by
  refine ⟨by simpa using s.len, fun j T' hj => ?_⟩
  by_cases e : i = j
  · subst e
    by_cases hi : i < Γ.length
    · rw [List.getElem?_set_self hi] at hj
      cases hj
      exact ⟨v, by rw [List.getElem?_set_self (by rw [s.len]; exact hi)], h⟩
    · rw [List.getElem?_eq_none (by simpa using hi)] at hj; cases hj
  · rw [List.getElem?_set_ne e] at hj ⊢
    exact s.get j T' hj
theorem Sd.weak {Γ' : Gam} (s : Sd G σ Γ) (hl : Γ'.length = Γ.length) (h : ∀ (i : Nat) (T : Ty), Γ'[i]? = some (some T) → ∃ T0, Γ[i]? = some (some T0) ∧ ∀ v, T0.p G v → T.p G v) : Sd G σ Γ' :=
  ⟨s.len.trans hl.symm, fun i T e => let ⟨T0, e0, k⟩ := h i T e; let ⟨v, h1, h2⟩ := s.get i T0 e0; ⟨v, h1, k v h2⟩⟩
end
/-- the block's own slots forgotten -/
def wipeG (Γ : Gam) : List Nat → Gam
  | [] => Γ
  | v :: vs => (wipeG Γ vs).set v none
theorem Sd.wipe {G : Hp} {σ : L2.St} {Γ : Gam} (s : Sd G σ Γ) : ∀ vs : List Nat, Sd G (wipe σ vs) (wipeG Γ vs)
  | [] => s
  | v :: vs => by
    have ih := Sd.wipe s vs
    unfold L2.wipe wipeG
    refine ⟨by simpa using ih.len, fun j T hj => ?_⟩
    by_cases e : v = j
    · subst e
      by_cases hi : v < (wipeG Γ vs).length
      · rw [List.getElem?_set_self hi] at hj; cases hj
      · rw [List.getElem?_eq_none (by simpa using hi)] at hj; cases hj
    · rw [List.getElem?_set_ne e] at hj ⊢
      exact ih.get j T hj
/-! ### values' types -/
def tV (v : V) : Ty := ⟨fun _ x => x = v, fun _ h => h⟩
def tEx {α : Type} (T : α → Ty) : Ty := ⟨fun G v => ∃ a, (T a).p G v, fun e ⟨a, h⟩ => ⟨a, (T a).mono e h⟩⟩
theorem SqL.mono {K : PySem.W.Frag} {G G' : Hp} {a : Addr} {xs : List V} (e : Same G G') (h : SqL K G a xs) : SqL K G' a xs := e.seq h
theorem SqT.mono {K : PySem.W.Frag} {G G' : Hp} {a : Addr} {xs : List V} (e : Same G G') (h : SqT K G a xs) : SqT K G' a xs := by
  rcases h with (h | ⟨o, h⟩) | h
  · exact .inl (.inl (e _ _ h))
  · exact .inl (.inr ⟨o, e _ _ h⟩)
  · exact .inr h
section
variable {K : PySem.W.Frag} {G G' : Hp}
mutual
theorem Dp.mono (e : Same G G') : ∀ {v : V} {d : PyData}, Dp K G v d → Dp K G' v d
  | _, _, .non => .non
  | _, _, .bl b => .bl b
  | _, _, .int i => .int i
  | _, _, .str x => .str x
  | _, _, .lst s a => .lst (SqL.mono e s) (DpAll.mono e a)
  | _, _, .tup s a => .tup (SqT.mono e s) (DpAll.mono e a)
theorem DpAll.mono (e : Same G G') : ∀ {vs : List V} {ds : List PyData}, DpAll K G vs ds → DpAll K G' vs ds
  | _, _, .nil => .nil
  | _, _, .cons h t => .cons (Dp.mono e h) (DpAll.mono e t)
end
theorem DpAll.len : ∀ {vs : List V} {ds : List PyData}, DpAll K G vs ds → vs.length = ds.length
  | _, _, .nil => rfl
  | _, _, .cons _ t => congrArg Nat.succ (DpAll.len t)
theorem DpAll.at_ : ∀ {vs : List V} {ds : List PyData} {i : Nat} {d : PyData}, DpAll K G vs ds → ds[i]? = some d → ∃ v, vs[i]? = some v ∧ Dp K G v d
  | _, _, _, _, .nil, h => by simp at h
  | _, _, 0, _, .cons h _, e => by simp at e; subst e; exact ⟨_, rfl, h⟩
  | _, _, i + 1, _, .cons _ t, e => by
    obtain ⟨v, h1, h2⟩ := DpAll.at_ (i := i) t (by simpa using e)
    exact ⟨v, by simpa using h1, h2⟩
theorem DpAll.of_at : ∀ {vs : List V} {ds : List PyData} {i : Nat} {v : V}, DpAll K G vs ds → vs[i]? = some v → ∃ d, ds[i]? = some d ∧ Dp K G v d
  | _, _, _, _, .nil, h => by simp at h
  | _, _, 0, _, .cons h _, e => by simp at e; subst e; exact ⟨_, rfl, h⟩
  | _, _, i + 1, _, .cons _ t, e => by
    obtain ⟨v, h1, h2⟩ := DpAll.of_at (i := i) t (by simpa using e)
    exact ⟨v, by simpa using h1, h2⟩
theorem DpAll.app : ∀ {vs ws : List V} {ds es : List PyData}, DpAll K G vs ds → DpAll K G ws es → DpAll K G (vs ++ ws) (ds ++ es)
  | _, _, _, _, .nil, s => s
  | _, _, _, _, .cons h t, s => .cons h (DpAll.app t s)
theorem DpAll.take : ∀ {vs : List V} {ds : List PyData} (n : Nat), DpAll K G vs ds → DpAll K G (vs.take n) (ds.take n)
  | _, _, 0, _ => .nil
  | _, _, _ + 1, .nil => .nil
  | _, _, n + 1, .cons h t => .cons h (DpAll.take n t)
theorem DpAll.drop : ∀ {vs : List V} {ds : List PyData} (n : Nat), DpAll K G vs ds → DpAll K G (vs.drop n) (ds.drop n)
  | _, _, 0, r => r
  | _, _, _ + 1, .nil => .nil
  | _, _, n + 1, .cons _ t => DpAll.drop n t
end
/-- data -/
def tD (K : PySem.W.Frag) (d : PyData) : Ty := ⟨fun G v => Dp K G v d, fun e h => Dp.mono e h⟩
/-- a list or a tuple of such items -/
def tQ (K : PySem.W.Frag) (ds : List PyData) : Ty := ⟨fun G v => Dp K G v (.list ds) ∨ Dp K G v (.tuple ds), fun e h => h.imp (Dp.mono e) (Dp.mono e)⟩
inductive Tys (G : Hp) : List V → List Ty → Prop
  | nil : Tys G [] []
  | cons {v : V} {vs : List V} {T : Ty} {Ts : List Ty} : T.p G v → Tys G vs Ts → Tys G (v :: vs) (T :: Ts)
theorem Tys.mono {G G' : Hp} (e : Same G G') : ∀ {vs : List V} {Ts : List Ty}, Tys G vs Ts → Tys G' vs Ts
  | _, _, .nil => .nil
  | _, _, .cons h t => .cons (Ty.mono _ e h) (Tys.mono e t)
theorem Tys.len {G : Hp} : ∀ {vs : List V} {Ts : List Ty}, Tys G vs Ts → vs.length = Ts.length
  | _, _, .nil => rfl
  | _, _, .cons _ t => congrArg Nat.succ (Tys.len t)
theorem Tys.at_ {G : Hp} : ∀ {vs : List V} {Ts : List Ty} {i : Nat} {T : Ty}, Tys G vs Ts → Ts[i]? = some T → ∃ v, vs[i]? = some v ∧ T.p G v
  | _, _, _, _, .nil, h => by simp at h
  | _, _, 0, _, .cons h _, e => by simp at e; subst e; exact ⟨_, rfl, h⟩
  | _, _, i + 1, _, .cons _ t, e => by
    obtain ⟨v, h1, h2⟩ := Tys.at_ (i := i) t (by simpa using e)
    exact ⟨v, by simpa using h1, h2⟩
/-! ### what a reading comes to -/
def Ev (Γ : Gam) (M : Mem) (te : TE) (T : Ty) : Prop := ∀ (G : Hp) (σ : L2.St) (H : Hp), Sd G σ Γ → Wd G M H → ∀ Q : VK, (∀ v G' H', Same G G' → Wd G' M H' → T.p G' v → Q v H') → te σ H Q
def EvT (Γ : Gam) (M : Mem) (tt : TT) (P : Bool → Prop) : Prop := ∀ (G : Hp) (σ : L2.St) (H : Hp), Sd G σ Γ → Wd G M H → ∀ Q : Bool → Hp → Prop, (∀ b G' H', Same G G' → Wd G' M H' → P b → Q b H') → tt σ H Q
def EvA (Γ : Gam) (M : Mem) (ta : TA) (Ts : List Ty) : Prop := ∀ (G : Hp) (σ : L2.St) (H : Hp), Sd G σ Γ → Wd G M H → ∀ Q : List V → Hp → Prop, (∀ vs G' H', Same G G' → Wd G' M H' → Tys G' vs Ts → Q vs H') → ta σ H Q
/-- an operator on values -/
def RvO (M : Mem) (r : R2) (T U R : Ty) : Prop := ∀ (G : Hp) (H : Hp) (x y : V), Wd G M H → T.p G x → U.p G y → ∀ Q : VK, (∀ v G' H', Same G G' → Wd G' M H' → R.p G' v → Q v H') → r x y H Q
def RvC (M : Mem) (r : List V → Hp → VK → Prop) (Ts : List Ty) (R : Ty) : Prop := ∀ (G : Hp) (H : Hp) (vs : List V), Wd G M H → Tys G vs Ts → ∀ Q : VK, (∀ v G' H', Same G G' → Wd G' M H' → R.p G' v → Q v H') → r vs H Q
/-- from a state of these types the statement goes to its ends -/
def Go (Γ : Gam) (M : Mem) (ts : TS) (D : Ends) (G0 : Hp) : Prop := ∀ (G : Hp) (σ : L2.St) (H : Hp), Same G0 G → Sd G σ Γ → Wd G M H → ts D σ H
def Nx (D : Ends) (G0 : Hp) (Γ : Gam) (M : Mem) : Prop := ∀ (G : Hp) (σ : L2.St) (H : Hp), Same G0 G → Sd G σ Γ → Wd G M H → D.nx σ H
def Rt (D : Ends) (G0 : Hp) (M : Mem) (T : Ty) : Prop := ∀ (v : V) (G H : Hp), Same G0 G → Wd G M H → T.p G v → D.rt v H
section
variable {K : PySem.W.Frag} {Γ : Gam} {M : Mem} {ta tb te tc : TE} {tt tu : TT} {tA : TA} {T U R S : Ty} {Ts : List Ty} {P P' : Bool → Prop} {G0 G1 : Hp} {D : Ends} {ts tu1 tu2 : TS} {r : R2} {i j : Nat}
theorem ev_mono (h : Ev Γ M te T) (k : ∀ G v, T.p G v → U.p G v) : Ev Γ M te U := fun G σ H s w Q q => h G σ H s w Q fun v G' H' e w' t => q v G' H' e w' (k _ _ t)
theorem ev_var (h : Γ[i]? = some (some T)) : Ev Γ M (tVar i) T := fun G σ H s w Q q => let ⟨v, h1, h2⟩ := s.get i T h; ⟨v, h1, q v G H (Same.refl _) w h2⟩
theorem ev_int {i : Int} : Ev Γ M (tC (.int i)) (tD K (.int i)) := fun G σ H s w Q q => q _ G H (Same.refl _) w (.int i)
theorem ev_bl {b : Bool} : Ev Γ M (tC (.bl b)) (tD K (.bool b)) := fun G σ H s w Q q => q _ G H (Same.refl _) w (.bl b)
theorem ev_non : Ev Γ M (tC .non) (tD K .none) := fun G σ H s w Q q => q _ G H (Same.refl _) w .non
theorem ev_str {x : Str} : Ev Γ M (tC (.str x)) (tD K (.str x)) := fun G σ H s w Q q => q _ G H (Same.refl _) w (.str x)
theorem ev_cv {v : V} : Ev Γ M (tC v) (tV v) := fun G σ H s w Q q => q _ G H (Same.refl _) w rfl
theorem ev_op (ha : Ev Γ M ta T) (hb : Ev Γ M tb U) (hr : RvO M r T U R) : Ev Γ M (tOp r ta tb) R := fun G σ H s w Q q =>
  ha G σ H s w _ fun x G1 H1 e1 w1 h1 => hb G1 σ H1 (s.mono e1) w1 _ fun y G2 H2 e2 w2 h2 => hr G2 H2 x y w2 (T.mono e2 h1) h2 Q fun v G3 H3 e3 w3 h3 => q v G3 H3 ((e1.trans e2).trans e3) w3 h3
theorem ev_cb {r : List V → Hp → VK → Prop} (ha : EvA Γ M tA Ts) (hr : RvC M r Ts R) : Ev Γ M (tCB r tA) R := fun G σ H s w Q q =>
  ha G σ H s w _ fun vs G1 H1 e1 w1 h1 => hr G1 H1 vs w1 h1 Q fun v G2 H2 e2 w2 h2 => q v G2 H2 (e1.trans e2) w2 h2
theorem ea_nil : EvA Γ M tNil [] := fun G σ H s w Q q => q _ G H (Same.refl _) w .nil
theorem ea_cons (h : Ev Γ M te T) (hr : EvA Γ M tA Ts) : EvA Γ M (tCons te tA) (T :: Ts) := fun G σ H s w Q q =>
  h G σ H s w _ fun v G1 H1 e1 w1 h1 => hr G1 σ H1 (s.mono e1) w1 _ fun vs G2 H2 e2 w2 h2 => q _ G2 H2 (e1.trans e2) w2 (.cons (T.mono e2 h1) h2)
theorem et_mono (h : EvT Γ M tt P) (k : ∀ b, P b → P' b) : EvT Γ M tt P' := fun G σ H s w Q q => h G σ H s w Q fun b G' H' e w' p => q b G' H' e w' (k b p)
/-- a value that is True or False, as a test -/
theorem et_B {b : Bool} (h : Ev Γ M te (tD K (.bool b))) : EvT Γ M (tB te) (· = b) := fun G σ H s w Q q =>
  h G σ H s w _ fun v G1 H1 e1 w1 h1 => by cases h1; exact ⟨b, rfl, q b G1 H1 e1 w1 rfl⟩
theorem et_T {b : Bool} (h : Ev Γ M te (tD K (.bool b))) : EvT Γ M (tTest te) (· = b) := et_B h
/-- truth by any of some bools -/
def tBP (P : Bool → Prop) : Ty := ⟨fun _ v => ∃ b, v = .bl b ∧ P b, fun _ h => h⟩
theorem et_BP (h : Ev Γ M te (tBP P)) : EvT Γ M (tB te) P := fun G σ H s w Q q =>
  h G σ H s w _ fun v G1 H1 e1 w1 ⟨b, h1, h2⟩ => ⟨b, h1, q b G1 H1 e1 w1 h2⟩
theorem et_TP (h : Ev Γ M te (tBP P)) : EvT Γ M (tTest te) P := et_BP h
theorem et_not (h : EvT Γ M tt P) : EvT Γ M (tNot tt) (fun b => P (!b)) := fun G σ H s w Q q =>
  h G σ H s w _ fun b G1 H1 e1 w1 p => q _ G1 H1 e1 w1 (show P (!(!b)) by rw [Bool.not_not]; exact p)
theorem et_and {a b : Bool} (h1 : EvT Γ M tt (· = a)) (h2 : a = true → EvT Γ M tu (· = b)) : EvT Γ M (tAnd tt tu) (· = (a && b)) := fun G σ H s w Q q =>
  h1 G σ H s w _ fun c G1 H1 e1 w1 p => by
    subst p
    cases c with
    | true => exact h2 rfl G1 σ H1 (s.mono e1) w1 _ fun b' G2 H2 e2 w2 p2 => q b' G2 H2 (e1.trans e2) w2 p2
    | false => exact q false G1 H1 e1 w1 rfl
theorem et_or {a b : Bool} (h1 : EvT Γ M tt (· = a)) (h2 : a = false → EvT Γ M tu (· = b)) : EvT Γ M (tOr tt tu) (· = (a || b)) := fun G σ H s w Q q =>
  h1 G σ H s w _ fun c G1 H1 e1 w1 p => by
    subst p
    cases c with
    | true => exact q true G1 H1 e1 w1 rfl
    | false => exact h2 rfl G1 σ H1 (s.mono e1) w1 _ fun b' G2 H2 e2 w2 p2 => q b' G2 H2 (e1.trans e2) w2 p2
/-- by what each half says, whatever it is -/
theorem et_andP {P1 P2 : Bool → Prop} (h1 : EvT Γ M tt P1) (h2 : P1 true → EvT Γ M tu P2) (k1 : P1 true → ∀ b, P2 b → P b) (k2 : P1 false → P false) : EvT Γ M (tAnd tt tu) P := fun G σ H s w Q q =>
  h1 G σ H s w _ fun c G1 H1 e1 w1 p => by
    cases c with
    | true => exact h2 p G1 σ H1 (s.mono e1) w1 _ fun b' G2 H2 e2 w2 p2 => q b' G2 H2 (e1.trans e2) w2 (k1 p b' p2)
    | false => exact q false G1 H1 e1 w1 (k2 p)
theorem et_orP {P1 P2 : Bool → Prop} (h1 : EvT Γ M tt P1) (h2 : P1 false → EvT Γ M tu P2) (k1 : P1 false → ∀ b, P2 b → P b) (k2 : P1 true → P true) : EvT Γ M (tOr tt tu) P := fun G σ H s w Q q =>
  h1 G σ H s w _ fun c G1 H1 e1 w1 p => by
    cases c with
    | true => exact q true G1 H1 e1 w1 (k2 p)
    | false => exact h2 p G1 σ H1 (s.mono e1) w1 _ fun b' G2 H2 e2 w2 p2 => q b' G2 H2 (e1.trans e2) w2 (k1 p b' p2)
theorem ev_andV {a b : Bool} (h1 : Ev Γ M ta (tD K (.bool a))) (h2 : a = true → Ev Γ M tb (tD K (.bool b))) : Ev Γ M (tAndV ta tb) (tD K (.bool (a && b))) := fun G σ H s w Q q =>
  h1 G σ H s w _ fun v G1 H1 e1 w1 p => by
    cases p
    refine ⟨a, rfl, ?_⟩
    cases a with
    | true => exact h2 rfl G1 σ H1 (s.mono e1) w1 _ fun b' G2 H2 e2 w2 p2 => q b' G2 H2 (e1.trans e2) w2 p2
    | false => exact q _ G1 H1 e1 w1 (.bl false)
theorem ev_orV {a b : Bool} (h1 : Ev Γ M ta (tD K (.bool a))) (h2 : a = false → Ev Γ M tb (tD K (.bool b))) : Ev Γ M (tOrV ta tb) (tD K (.bool (a || b))) := fun G σ H s w Q q =>
  h1 G σ H s w _ fun v G1 H1 e1 w1 p => by
    cases p
    refine ⟨a, rfl, ?_⟩
    cases a with
    | false => exact h2 rfl G1 σ H1 (s.mono e1) w1 _ fun b' G2 H2 e2 w2 p2 => q b' G2 H2 (e1.trans e2) w2 p2
    | true => exact q _ G1 H1 e1 w1 (.bl true)
theorem ev_notV {a : Bool} (h1 : Ev Γ M ta (tD K (.bool a))) : Ev Γ M (tNotV ta) (tD K (.bool (!a))) := fun G σ H s w Q q =>
  h1 G σ H s w _ fun v G1 H1 e1 w1 p => by
    cases p
    exact ⟨a, rfl, q _ G1 H1 e1 w1 (.bl _)⟩
theorem ev_if (h : EvT Γ M tt P) (h1 : P true → Ev Γ M ta T) (h2 : P false → Ev Γ M tb T) : Ev Γ M (tIf tt ta tb) T := fun G σ H s w Q q =>
  h G σ H s w _ fun c G1 H1 e1 w1 p => by
    cases c with
    | true => exact h1 p G1 σ H1 (s.mono e1) w1 _ fun b' G2 H2 e2 w2 p2 => q b' G2 H2 (e1.trans e2) w2 p2
    | false => exact h2 p G1 σ H1 (s.mono e1) w1 _ fun b' G2 H2 e2 w2 p2 => q b' G2 H2 (e1.trans e2) w2 p2
/-! ### statements -/
theorem Rt.cons {c : Addr × Ct} (h : Rt D G0 M T) : Rt D G0 (c :: M) T := fun v G H e w t => h v G H e w.tail t
theorem Rt.base (h : Rt D G0 M T) (e : Same G0 G1) : Rt D G1 M T := fun v G H e1 w t => h v G H (e.trans e1) w t
theorem Rt.to (h : Rt D G0 M T) (k : ∀ G v, U.p G v → T.p G v) : Rt D G0 M U := fun v G H e w t => h v G H e w (k _ _ t)
theorem Go.base (h : Go Γ M ts D G0) (e : Same G0 G1) : Go Γ M ts D G1 := fun G σ H e1 s w => h G σ H (e.trans e1) s w
theorem go_seq (h : Go Γ M tu1 { D with nx := tu2 D } G0) : Go Γ M (tSeq tu1 tu2) D G0 := h
theorem go_nx (h : Go Γ M ts D G0) : Nx { D with nx := ts D } G0 Γ M := h
theorem go_next (h : Nx D G0 Γ M) : Go Γ M tNext D G0 := h
theorem go_asg (h : Ev Γ M te T) (k : Nx D G0 (Γ.set i (some T)) M) : Go Γ M (tAsg te (gName i)) D G0 := fun G σ H e s w =>
  h G σ H s w _ fun v G1 H1 e1 w1 t => k G1 _ H1 (e.trans e1) ((s.mono e1).set i t) w1
theorem go_set (h : Ev Γ M te T) (k : Go (Γ.set i (some T)) M ts D G0) : Go Γ M (tSeq (tAsg te (gName i)) ts) D G0 := go_seq (go_asg h k)
theorem sd_ex {α : Type} {T : α → Ty} {G : Hp} {σ : L2.St} (h : Γ[i]? = some (some (tEx T))) (s : Sd G σ Γ) : ∃ a, Sd G σ (Γ.set i (some (T a))) := by
  obtain ⟨v, h1, a, h2⟩ := s.get i _ h
  refine ⟨a, ?_⟩
  have q := s.set i h2
  have e : σ.set i (some v) = σ := by
    apply List.ext_getElem?
    intro j
    by_cases hj : i = j
    · subst hj
      rw [List.getElem?_set_self (List.getElem?_eq_some_iff.mp h1).1, h1]
    · rw [List.getElem?_set_ne hj]
  rw [e] at q
  exact q
theorem go_setX {α : Type} {T : α → Ty} (h : Ev Γ M te (tEx T)) (k : ∀ a, Go (Γ.set i (some (T a))) M ts D G0) : Go Γ M (tSeq (tAsg te (gName i)) ts) D G0 := fun G σ H e s w =>
  h G σ H s w _ fun v G1 H1 e1 w1 ⟨a, t⟩ => k a G1 _ H1 (e.trans e1) ((s.mono e1).set i t) w1
theorem go_ret (h : Ev Γ M te T) (k : Rt D G0 M T) : Go Γ M (tRet te) D G0 := fun G σ H e s w =>
  h G σ H s w _ fun v G1 H1 e1 w1 t => k v G1 H1 (e.trans e1) w1 t
theorem go_drop (h : Ev Γ M te T) (k : Nx D G0 Γ M) : Go Γ M (tDrop te) D G0 := fun G σ H e s w =>
  h G σ H s w _ fun v G1 H1 e1 w1 t => k G1 σ H1 (e.trans e1) (s.mono e1) w1
theorem go_if (h : EvT Γ M tt P) (h1 : P true → Go Γ M tu1 D G0) (h2 : P false → Go Γ M tu2 D G0) : Go Γ M (tIfS tt tu1 tu2) D G0 := fun G σ H e s w =>
  h G σ H s w _ fun c G1 H1 e1 w1 p => by
    cases c with
    | true => exact h1 p G1 σ H1 (e.trans e1) (s.mono e1) w1
    | false => exact h2 p G1 σ H1 (e.trans e1) (s.mono e1) w1
/-- an if whose branch leaves -/
theorem go_ifs (h : EvT Γ M tt P) (h1 : P true → Go Γ M tu1 { D with nx := ts D } G0) (h2 : P false → Go Γ M ts D G0) : Go Γ M (tSeq (tIfS tt tu1 tNext) ts) D G0 := go_seq (go_if h h1 h2)
/-- a statement and the rest with a word between them -/
def tCut (t u : TS) : TS := fun D σ H => ∃ Mid : L2.St → Hp → Prop, t { D with nx := Mid } σ H ∧ ∀ σ' H', Mid σ' H' → u D σ' H'
/-- where two ways meet -/
def Sat {β : Type} (G0 : Hp) (Γj : β → Gam) (Mj : β → Mem) (Pj : β → Prop) : L2.St → Hp → Prop := fun σ H => ∃ b G, Pj b ∧ Same G0 G ∧ Sd G σ (Γj b) ∧ Wd G (Mj b) H
theorem go_cut {β : Type} (Γj : β → Gam) (Mj : β → Mem) (Pj : β → Prop) (h : Go Γ M tu1 { D with nx := Sat G0 Γj Mj Pj } G0) (k : ∀ b, Pj b → Go (Γj b) (Mj b) tu2 D G0) : Go Γ M (tCut tu1 tu2) D G0 := fun G σ H e s w =>
  ⟨Sat G0 Γj Mj Pj, h G σ H e s w, fun σ' H' ⟨b, G', p, e', s', w'⟩ => k b p G' σ' H' e' s' w'⟩
theorem nx_sat {β : Type} {Γj : β → Gam} {Mj : β → Mem} {Pj : β → Prop} {nxD : Ends} (b : β) (p : Pj b) (hΓ : Γ = Γj b) (hM : M = Mj b) : Nx { nxD with nx := Sat G0 Γj Mj Pj } G0 Γ M := fun G σ H e s w => ⟨b, G, p, e, hΓ ▸ s, hM ▸ w⟩
end
end Ag
set_option Elab.async false
set_option linter.all false
set_option maxRecDepth 100000
set_option maxHeartbeats 4000000
/-! AgE: enumerate of a tuple; a list or a tuple walked. -/
namespace Ag
open PySem PySem.Spec PyProof.Rows L2
theorem enum_new_tup (t : Addr) (items : Array Value) (o : Obj) (hc : o.cls = .type "tuple") (hd : ∃ n, o.data = .seq items n) :
    Meets (Builtin.«enumerate.__new__» ⟨[.type "enumerate", .ref t], []⟩) (fun _ R s => s.heap.get? t = some o ∧
      R (.ok (.ret (.ref (s.heap.push { cls := .type "tuple_iterator", data := .fields #[.ref t, .int 0 0] }).objs.size)))
        { s with heap := (s.heap.push { cls := .type "tuple_iterator", data := .fields #[.ref t, .int 0 0] }).push { cls := .type "enumerate", data := .fields #[.none, .bool false, .ref s.heap.objs.size, rawInt 0, .none, .none] } }) :=
  .of_wp fun prog w A R s h => by
    obtain ⟨hp, g, dr, tk, os⟩ := s
    obtain ⟨hl, h⟩ := h
    obtain ⟨n, hd⟩ := hd
    have hsub := sub_enumerate
    have hT : Heap.IsTuple (Shared.heap ⟨hp, g, dr, tk, os⟩) t items := ⟨o, hl, hc, n, hd⟩
    obtain ⟨oc, od, odt, osl⟩ := o
    replace hc : oc = .type "tuple" := hc
    replace hd : odt = .seq items n := hd
    subst hc hd
    wp_walk using wpAny_loadPart' hl
    refine wpAny_stack_any fun st => wpAny_pure ?_
    split
    · rename_i c _ _ _ _ _
      cases (c == Value.type "enumerate")
      · wp_walk using wpAny_loadPart' hl, wpAny_pyIter_tuple hT
        exact ⟨_, rfl, h⟩
      · wp_walk using wpAny_loadPart' hl, wpAny_pyIter_tuple hT
        exact ⟨_, rfl, h⟩
    · wp_walk using wpAny_loadPart' hl, wpAny_pyIter_tuple hT
      exact ⟨_, rfl, h⟩
section
variable {prog : Program} {w : World} {A : Around} {E : Value → Shared → Prop} {s : Shared}
theorem enum_call_tup {t : Addr} {items : Array Value} {Q : Value → Shared → Prop} (hT : s.heap.IsTuple t items)
    (h : ∀ h', IsEnum h' (s.heap.objs.size + 1) s.heap.objs.size 0 .none → h'.IsTupleIter s.heap.objs.size t 0 → (∀ b o, s.heap.get? b = some o → h'.get? b = some o) → Q (.ref (s.heap.objs.size + 1)) { s with heap := h' }) :
    wpAny (model prog w) A (call (.type "enumerate") [.ref t]) Q E s := by
  obtain ⟨o, hl, hc, hd⟩ := hT
  refine callType_new F.called_enumerate (by decide) (F.typeCall_enumerate_1 _) (F.newCall_enumerate_1 _) (fun obj => F.args_object_init_2 obj _) F.entry_enumerate_new (enum_new_tup t items o hc hd) ⟨hl, ?_⟩
  have hz : (s.heap.push { cls := .type "tuple_iterator", data := .fields #[.ref t, .int 0 0] }).objs.size = s.heap.objs.size + 1 := Heap.size_push ..
  show _ ∧ _
  rw [hz]
  have he : IsEnum ((s.heap.push { cls := .type "tuple_iterator", data := .fields #[.ref t, .int 0 0] }).push { cls := .type "enumerate", data := .fields #[.none, .bool false, .ref s.heap.objs.size, rawInt 0, .none, .none] }) (s.heap.objs.size + 1) s.heap.objs.size 0 .none := by
    have z := Heap.get?_push_size (s.heap.push { cls := .type "tuple_iterator", data := .fields #[.ref t, .int 0 0] }) (o := { cls := .type "enumerate", data := .fields #[.none, .bool false, .ref s.heap.objs.size, rawInt 0, .none, .none] }) rfl
    rw [hz] at z
    exact z
  exact ⟨⟨_, he, rfl⟩, h _ he ⟨_, Heap.get?_push_of_some _ (Heap.get?_push_size _ rfl), rfl, rfl⟩ fun b o x => Heap.get?_push_of_some _ (Heap.get?_push_of_some _ x)⟩
end
/-- the tuple at a as it stands at each turn, each item in a new pair -/
def ItU (K : PySem.W.Frag) (a : Addr) : It :=
  ⟨fun i H => ∃ (xs : List V) (x : V), SqT K H a xs ∧ xs[i]? = some x, fun i H v H' => ∃ T x, v = .ref T ∧ H T = none ∧ H' = upd H T (.tup [.int (i : Nat), x]) ∧ ∀ xs, SqT K H a xs → xs[i]? = some x, fun i H => ∃ xs : List V, SqT K H a xs ∧ xs.length ≤ i⟩
theorem enum_ne_tup {h : Heap} {e it a : Addr} {i : Int} {old : Value} {its : Array Value} (he : IsEnum h e it i old) (hT : h.IsTuple a its) : e ≠ a := fun z => by
  obtain ⟨o, h1, h2, _⟩ := hT
  have h3 : h.get? e = some _ := he
  rw [z, h1] at h3
  have h4 := Option.some.inj h3
  rw [h4] at h2
  exact absurd h2 (by simp)
theorem iter_ne_tup {h : Heap} {it a : Addr} {i : Nat} {its : Array Value} (he : h.IsTupleIter it a i) (hT : h.IsTuple a its) : a ≠ it := fun z => by
  obtain ⟨o, h1, h2, _⟩ := hT
  obtain ⟨o', k1, k2, _⟩ := he
  rw [z, k1] at h1
  cases h1
  rw [k2] at h2
  exact absurd h2 (by simp)
theorem turn_enumU {P : Program} {w : World} {K : PySem.W.Frag} {elts : List Expr} {kk : Nat} {tpos : Pos} (a e it : Addr) :
    Turn P w K (.Tuple elts kk tpos) (ItU K a) [e, it] e (fun i h => (∃ old, IsEnum h e it ((i : Nat) : Int) old) ∧ h.IsTupleIter it a i ∧ e ≠ it) where
  mem := by simp
  obj := fun i h st b hb => by
    obtain ⟨⟨old, he⟩, ⟨o, ho, hc, hd⟩, _⟩ := st
    rcases (by simpa using hb : b = e ∨ b = it) with z | z
    · rw [z]
      exact ⟨_, he, fun v q => nomatch q⟩
    · rw [z]
      exact ⟨o, ho, fun v q => by rw [hd] at q; cases q⟩
  keep := fun i h h' st k => let ⟨⟨old, he⟩, hi, hne⟩ := st; ⟨⟨old, k e (by simp) _ he⟩, hi.at fun o q => k it (by simp) o q, hne⟩
  item := by
    intro X hP hw hK hc i pins s σ H E I hf st hg
    subst hP hw hK
    obtain ⟨⟨old, he⟩, hit, hne⟩ := st
    obtain ⟨xs, x, hq, hx⟩ := hg
    obtain ⟨its, rv, p, hz⟩ := I.tuple hq
    obtain ⟨u, hu, ru⟩ := rv.get hx
    have hT : s.heap.IsTuple a its.toArray := p
    have hel : e < s.heap.objs.size := Heap.lt_size he
    have hil : it < s.heap.objs.size := by obtain ⟨_, q, _⟩ := hit; exact Heap.lt_size q
    have n1 := enum_ne_tup he hT
    have n2 := iter_ne_tup hit hT
    have hlt : i < its.toArray.size := by
      have := (List.getElem?_eq_some_iff.mp hu).1
      simpa using this
    refine wpAny_pyNext_enum_itemD (Draws.tuple (A := X.A.in1) (I.ok.hd hc) it a n2 its.toArray) he ⟨hit, hT⟩ hlt hne (by simp [hne, n1]) fun u' h' tk hP ho hst' hT' hsz hk => ?_
    have eu : u' = u := by
      rw [show its.toArray[i]? = its[i]? by simp, hu] at hP
      exact (Option.some.inj hP).symm
    subst eu
    refine ⟨_, rfl, wpAny_letOwnedTupleGo_enum (s := { s with heap := h', toks := tk + 1 }) ho fun h'' he' sb => ?_⟩
    have hT2 : h''.get? s.heap.objs.size = some { cls := .type "tuple", data := .seq #[.int i tk, u'] } := (sb.2 _ (Nat.ne_of_gt hel)).trans hT'
    have new : ObjOk X.prog X.w (upd H s.heap.objs.size (.tup [.int (i : Nat), x])) h'' s.heap.objs.size (.tup [.int (i : Nat), x]) :=
      ⟨by show 2 ≤ sizeLine; decide, [.int i tk, u'], .cons ⟨_, rfl⟩ (.cons ru .nil), ⟨_, hT2, rfl, _, rfl⟩⟩
    have I1 : Inv X pins σ (upd H s.heap.objs.size (.tup [.int (i : Nat), x])) { s with heap := h'', toks := tk + 1 } :=
      I.turnedNew (ch := [e, it]) (fun b ob hb q => (sb.2 b (fun z => hb (by simp [z]))).trans (hk b ob (fun z => hb (by simp [z])) (fun z => hb (by simp [z])) q)) hf (Nat.le_refl _) new
    refine ⟨.ref s.heap.objs.size, _, I1, rfl, ⟨_, x, rfl, I.hok.fresh (Nat.le_refl _), rfl, fun ys hy => ?_⟩, ⟨⟨u', ?_⟩, hst'.1.at fun o q => (sb.2 it (Ne.symm hne)).trans q, hne⟩, fun b hb => ?_⟩
    · rw [I.tuple_inj hy hq]
      exact hx
    · have e1 : ((i + 1 : Nat) : Int) = (i : Int) + 1 := by omega
      rw [e1]
      exact he'
    · have hb' : b < s.heap.objs.size := by
        rcases (by simpa using hb : b = e ∨ b = it) with z | z
        · rw [z]; exact hel
        · rw [z]; exact hil
      rw [upd_ne (Nat.ne_of_lt hb')]
      exact (hf b hb).1
  done := by
    intro X hP hw hK hc i pins s σ H E I hf st hg
    subst hP hw hK
    obtain ⟨⟨old, he⟩, hit, hne⟩ := st
    obtain ⟨xs, hq, hx⟩ := hg
    obtain ⟨its, rv, p, hz⟩ := I.tuple hq
    have hT : s.heap.IsTuple a its.toArray := p
    obtain ⟨f0, f1, f2, f3, f4, f5⟩ := hf it (by simp)
    have n2 := iter_ne_tup hit hT
    have hend : its.toArray[i]? = none := by
      have := rv.length
      simp
      omega
    have Dr : Draws X.prog X.w X.A.in1 it [it, a] i (fun _ _ => True) (fun j h => j = i ∧ h.IsTupleIter it a j ∧ h.IsTuple a its.toArray) :=
      { live := fun _ _ st => let ⟨o, ho, _⟩ := st.2.1; ⟨o, ho⟩
        frame := fun _ _ _ st hk => ⟨st.1, st.2.1.at fun o e => hk it (by simp) o e, st.2.2.at fun o e => hk a (by simp) o e⟩
        item := fun j s Q E hj st hQ => absurd st.1 (Nat.ne_of_lt hj)
        done := fun s Q E st hE => wpAny_nextOf_tuple_end (I.ok.hd hc) st.2.1 st.2.2 hend hE }
    exact wpAny_pyNext_enum_endD Dr he ⟨rfl, hit, hT⟩ fun h' eb => ⟨rfl, I.turned (t' := s.toks) (fun b o hb q => eb b o hb q) f0 f1 f3 f4 f5⟩
  self := fun A i s Q E st h => let ⟨⟨_, he⟩, _⟩ := st; wpAny_pyIter_enum he h
section
variable {X : Cx} {e : Expr} {ta : TA} {tl : TE} {p pos tpos : Pos} {elts : List Expr} {kk : Nat} {tg l : Expr}
def iEnumQ (K : PySem.W.Frag) (ta : TA) : TI := fun σ H R => ta σ H fun vs H1 => ∃ a xs, vs = [.ref a] ∧ ((SqL K H1 a xs ∧ R (Ite K a) H1) ∨ (SqT K H1 a xs ∧ R (ItU K a) H1))
theorem pi_enumQ (hg : Gl X "enumerate") (hm : X.mg "enumerate" = none) (ha : PA X [e] ta) (hs : starEach [e] X.env = [(false, eval e X.env)] := by rfl) :
    PI X (.Tuple elts kk tpos) (.Call (.Name "enumerate" p) [e] [] pos) (iEnumQ X.K ta) := by
  refine ⟨fun pins s σ H R I h => ?_⟩
  refine Call_ (ld_blt I hg hm boot_enumerate (PyProof.Rows.callWith_type1 (thn (ha.run pos pins s σ H _ I h) fun us s1 ⟨vs, H1, I1, r1, q1⟩ => ?_) hs rfl))
  obtain ⟨a, xs, ex, q1⟩ := q1
  subst ex
  have fr : ∀ b ∈ [s1.heap.objs.size + 1, s1.heap.objs.size], FpOk X pins H1 b := fun b hb => by
    have hle : s1.heap.objs.size ≤ b := by
      rcases (by simpa using hb : b = s1.heap.objs.size + 1 ∨ b = s1.heap.objs.size) with z | z
      · rw [z]; exact Nat.le_add_right _ _
      · rw [z]; exact Nat.le_refl _
    exact I1.fpOk hle (I1.hok.fresh hle)
  cases r1 with
  | cons r rr =>
    cases rr
    cases r
    rcases q1 with ⟨hq, q⟩ | ⟨hq, q⟩
    · obtain ⟨its, rv, p', hz⟩ := I1.list hq
      refine call_enumerate_list p'.isList fun h' he hit hsz hk => wpAny_pyIter_enum he ?_
      exact ⟨s1.heap.objs.size + 1, [s1.heap.objs.size + 1, s1.heap.objs.size], _, _, H1, rfl, I1.kept (t' := s1.toks) hk, turn_enum a (s1.heap.objs.size + 1) s1.heap.objs.size, ⟨⟨.none, he⟩, hit, Nat.succ_ne_self _⟩, fr, q⟩
    · obtain ⟨its, rv, p', hz⟩ := I1.tuple hq
      refine enum_call_tup (show s1.heap.IsTuple a its.toArray from p') fun h' he hit hk => wpAny_pyIter_enum he ?_
      exact ⟨s1.heap.objs.size + 1, [s1.heap.objs.size + 1, s1.heap.objs.size], _, _, H1, rfl, I1.kept (t' := s1.toks) hk, turn_enumU a (s1.heap.objs.size + 1) s1.heap.objs.size, ⟨⟨.none, he⟩, hit, Nat.succ_ne_self _⟩, fr, q⟩
/-- a list or a tuple, walked -/
def iSeq (K : PySem.W.Frag) (tl : TE) : TI := fun σ H R => tl σ H fun x H1 => ∃ a xs, x = .ref a ∧ ((SqL K H1 a xs ∧ R (Itl K a) H1) ∨ (SqT K H1 a xs ∧ R (Itt K a) H1))
theorem pi_seq (hl : PE X l tl) : PI X tg l (iSeq X.K tl) := by
  refine ⟨fun pins s σ H R I h => ?_⟩
  refine thn (hl.run pins s σ H _ I h) fun v s1 ⟨x, H1, I1, r1, a, xs, ex, q1⟩ => ?_
  subst ex
  cases r1
  rcases q1 with ⟨hq, q⟩ | ⟨hq, q⟩
  · obtain ⟨its, rv, p', hz⟩ := I1.list hq
    exact wpAny_pyIter_list p'.isList (pi_one (tk := s1.toks) I1 _ (turn_list a _) ⟨_, Heap.get?_push_size _ rfl, rfl, rfl⟩ q)
  · obtain ⟨its, rv, p', hz⟩ := I1.tuple hq
    exact wpAny_pyIter_tuple (show s1.heap.IsTuple a its.toArray from p') (pi_one (tk := s1.toks) I1 _ (turn_tuple a _) ⟨_, Heap.get?_push_size _ rfl, rfl, rfl⟩ q)
end
end Ag
set_option Elab.async false
set_option linter.all false
set_option maxRecDepth 100000
set_option maxHeartbeats 2000000
/-! Ag1: more rules of pieces of syntax. -/
namespace Ag
open PySem PySem.Spec PyProof.Rows L2
/-! ### a def that is called -/
structure Callee (P : Program) (w : World) (K : PySem.W.Frag) (mg : Str → Option Value) (base : Heap) (k : Nat) (x : Str) (ps : List Str) (sp : Sp) : Prop where
  ex : ∃ (f : Addr) (fd : FuncData), FnOk P w K mg base (L2.CX P w) k f fd ps sp ∧ mg x = some (.ref f) ∧ PySem.W.keepIn K (.ref f) = true ∧ Binds K fd ps []
structure MCallee (P : Program) (w : World) (K : PySem.W.Frag) (mg : Str → Option Value) (base : Heap) (k : Nat) (C : Addr) (m : Str) (ps : List Str) (sp : Sp) : Prop where
  ex : ∃ (f : Addr) (fd : FuncData), FnOk P w K mg base (L2.CX P w) k f fd ps sp ∧ Cls K C ∧ Meth K C m f ∧ Binds K fd ps []
structure ICallee (P : Program) (w : World) (K : PySem.W.Frag) (mg : Str → Option Value) (base : Heap) (k : Nat) (x : Str) (C : Addr) (ps : List Str) (sp : Sp) : Prop where
  ex : ∃ (f : Addr) (fd : FuncData), FnOk P w K mg base (L2.CX P w) k f fd ps sp ∧ Mk K C f ∧ mg x = some (.ref C) ∧ Binds K fd ps []
/-- by keywords -/
structure KCallee (P : Program) (w : World) (K : PySem.W.Frag) (mg : Str → Option Value) (base : Heap) (k : Nat) (x : Str) (ps : List Str) (n : Nat) (ks : List Str) (gV : List V → List V → List V) (sp : Sp) : Prop where
  ex : ∃ (f : Addr) (fd : FuncData) (g : List Value → List Value → List Value), FnOk P w K mg base (L2.CX P w) k f fd ps sp ∧ mg x = some (.ref f) ∧ PySem.W.keepIn K (.ref f) = true ∧ KBn K fd ps n ks g gV
section
variable {X : Cx} {k kk : Nat} {x m : Str} {ps : List Str} {sp : Sp} {p pos apos : Pos} {e o : Expr} {es : List Expr} {t tk : TA} {ta : TE} {C : Addr} {E : XK} {kws : List Keyword} {n : Nat} {ks : List Str} {gV : List V → List V → List V}
theorem pcallG (c : Callee X.prog X.w X.K X.mg X.base k x ps sp) (hr : Room kk X.A) (hx : Passes (L2.CX X.prog X.w) X E) (ha : PA X (e :: es) t) (hk : k ≤ kk := by decide) (hg : Gl X x := by rfl) (hdb : (x == ("__debug__" : Str)) = false := by decide)
    (he : starEach (e :: es) X.env = (false, eval e X.env) :: starEach es X.env := by rfl) (hpl : (backTo pos (starEach es X.env)).any (·.1) = false := by rfl) : PE X (.Call (.Name x p) (e :: es) [] pos) (tCall sp [] E t) := by
  obtain ⟨f, fd, F, hm, hkp, hb⟩ := c.ex
  exact pe_call F (hr.mono hk) hg hm hkp hb .nil hx ha hdb he hpl
theorem pcall (c : Callee X.prog X.w X.K X.mg X.base k x ps sp) (hr : Room kk X.A) (ha : PA X (e :: es) t) (hk : k ≤ kk := by decide) (hg : Gl X x := by rfl) (hdb : (x == ("__debug__" : Str)) = false := by decide)
    (he : starEach (e :: es) X.env = (false, eval e X.env) :: starEach es X.env := by rfl) (hpl : (backTo pos (starEach es X.env)).any (·.1) = false := by rfl) : PE X (.Call (.Name x p) (e :: es) [] pos) (tCall sp [] E0 t) :=
  pcallG c hr passL ha hk hg hdb he hpl
theorem pmethG {pl : Sem Bool} (c : MCallee X.prog X.w X.K X.mg X.base k C m ps sp) (hr : Room kk X.A) (hx : Passes (L2.CX X.prog X.w) X E) (ho : PE X o ta) (ha : PA X (e :: es) t) (hk : k ≤ kk := by decide)
    (hst : starEach (e :: es) X.env = (false, eval e X.env) :: starEach es X.env := by rfl) (hpl : (backTo pos (starEach es X.env)).any (·.1) = false := by rfl)
    (ht : eval (.Call (.Attribute o m apos) (e :: es) [] pos) X.env = (do
      let ov ← eval o X.env
      standAt apos.atName
      let (f, first) ← holding [ov] (getMethod ov m pl)
      callWith pos f first (backTo pos (starEach (e :: es) X.env)) (backToKw pos (keywordEach [] X.env))) := by rfl) : PE X (.Call (.Attribute o m apos) (e :: es) [] pos) (tMeth C m sp [] E ta t) := by
  obtain ⟨f, fd, F, hc, hm, hb⟩ := c.ex
  exact pe_meth ho hc hm F (hr.mono hk) hb .nil hx ha hst hpl ht
theorem pmeth {pl : Sem Bool} (c : MCallee X.prog X.w X.K X.mg X.base k C m ps sp) (hr : Room kk X.A) (ho : PE X o ta) (ha : PA X (e :: es) t) (hk : k ≤ kk := by decide)
    (hst : starEach (e :: es) X.env = (false, eval e X.env) :: starEach es X.env := by rfl) (hpl : (backTo pos (starEach es X.env)).any (·.1) = false := by rfl)
    (ht : eval (.Call (.Attribute o m apos) (e :: es) [] pos) X.env = (do
      let ov ← eval o X.env
      standAt apos.atName
      let (f, first) ← holding [ov] (getMethod ov m pl)
      callWith pos f first (backTo pos (starEach (e :: es) X.env)) (backToKw pos (keywordEach [] X.env))) := by rfl) : PE X (.Call (.Attribute o m apos) (e :: es) [] pos) (tMeth C m sp [] E0 ta t) :=
  pmethG c hr passL ho ha hk hst hpl ht
theorem pmakeG (c : ICallee X.prog X.w X.K X.mg X.base k x C ps sp) (hr : Room kk X.A) (hx : Passes (L2.CX X.prog X.w) X E) (ha : PA X (e :: es) t) (hk : k + 1 ≤ kk := by decide) (hg : Gl X x := by rfl) (hdb : (x == ("__debug__" : Str)) = false := by decide)
    (he : starEach (e :: es) X.env = (false, eval e X.env) :: starEach es X.env := by rfl) (hpl : (backTo pos (starEach es X.env)).any (·.1) = false := by rfl) : PE X (.Call (.Name x p) (e :: es) [] pos) (tMake C sp [] E t) := by
  obtain ⟨f, fd, F, M, hm, hb⟩ := c.ex
  exact pe_make M F (hr.mono hk) hg hm hb .nil hx ha hdb he hpl
theorem pmake (c : ICallee X.prog X.w X.K X.mg X.base k x C ps sp) (hr : Room kk X.A) (ha : PA X (e :: es) t) (hk : k + 1 ≤ kk := by decide) (hg : Gl X x := by rfl) (hdb : (x == ("__debug__" : Str)) = false := by decide)
    (he : starEach (e :: es) X.env = (false, eval e X.env) :: starEach es X.env := by rfl) (hpl : (backTo pos (starEach es X.env)).any (·.1) = false := by rfl) : PE X (.Call (.Name x p) (e :: es) [] pos) (tMake C sp [] E0 t) :=
  pmakeG c hr passL ha hk hg hdb he hpl
theorem pcallKG (c : KCallee X.prog X.w X.K X.mg X.base k x ps n ks gV sp) (hr : Room kk X.A) (hx : Passes (L2.CX X.prog X.w) X E) (ha : PA X (e :: es) t) (hkw : PK X kws tk) (hk : k ≤ kk := by decide) (hg : Gl X x := by rfl)
    (hall : (backToKw pos (keywordEach kws X.env)).all (·.1.isSome) = true := by rfl) (hks : (backToKw pos (keywordEach kws X.env)).filterMap (·.1) = ks := by rfl) (hdb : (x == ("__debug__" : Str)) = false := by decide)
    (he : starEach (e :: es) X.env = (false, eval e X.env) :: starEach es X.env := by rfl)
    (hpl : ((backTo pos (starEach (e :: es) X.env)).any (·.1) || (backToKw pos (keywordEach kws X.env)).any (·.1.isNone)) = false := by rfl) : PE X (.Call (.Name x p) (e :: es) kws pos) (tCallN n ks.length sp gV E t tk) := by
  obtain ⟨f, fd, g, F, hm, hkp, hb⟩ := c.ex
  exact pe_callN F (hr.mono hk) hg hm hkp hb hx ha hkw hall hks hdb he hpl
theorem pcallK0G (c : KCallee X.prog X.w X.K X.mg X.base k x ps 0 ks gV sp) (hr : Room kk X.A) (hx : Passes (L2.CX X.prog X.w) X E) (hkw : PK X kws tk) (hk : k ≤ kk := by decide) (hg : Gl X x := by rfl)
    (hall : (backToKw pos (keywordEach kws X.env)).all (·.1.isSome) = true := by rfl) (hks : (backToKw pos (keywordEach kws X.env)).filterMap (·.1) = ks := by rfl) (hdb : (x == ("__debug__" : Str)) = false := by decide)
    (hpl : ((backTo pos (starEach [] X.env)).any (·.1) || (backToKw pos (keywordEach kws X.env)).any (·.1.isNone)) = false := by rfl) : PE X (.Call (.Name x p) [] kws pos) (tCallN 0 ks.length sp gV E tNil tk) := by
  obtain ⟨f, fd, g, F, hm, hkp, hb⟩ := c.ex
  constructor
  intro pins s σ H Q I hw
  apply wpAny_Call_Name_kw
  refine ld_glob I hg hm ?_ hdb
  apply PySem.W.callWith_KW0 (h₀ := X.base) I.ok.mod.kin hkp hall ?_ hpl
  refine wpAny_mono (hkw.run pos pins s σ H _ I hw) ?_ fun _ _ z => z
  intro ws s2 ⟨zs, H2, I2, rz, l1, l2, q2⟩
  refine ⟨I2.kIn, ?_⟩
  rw [hks]
  exact run_fnN (us := []) (vs := []) F (hr.mono hk) hb hx I2 .nil rz rfl l2 q2
/-! ### two readings of one piece -/
theorem PE.or {t1 t2 : TE} (h1 : PE X e t1) (h2 : PE X e t2) : PE X e (fun σ H Q => t1 σ H Q ∨ t2 σ H Q) :=
  ⟨fun pins s σ H Q I h => h.elim (h1.run pins s σ H Q I) (h2.run pins s σ H Q I)⟩
theorem PI.or {tg it : Expr} {w1 w2 : TI} (h1 : PI X tg it w1) (h2 : PI X tg it w2) : PI X tg it (fun σ H R => w1 σ H R ∨ w2 σ H R) :=
  ⟨fun pins s σ H R I h => h.elim (h1.run pins s σ H R I) (h2.run pins s σ H R I)⟩
theorem PG.or {tg : Expr} {g1 g2 : TG} (h1 : PG X tg g1) (h2 : PG X tg g2) : PG X tg (fun v σ H Q => g1 v σ H Q ∨ g2 v σ H Q) :=
  ⟨fun pins s σ H v u Q I r h => h.elim (h1.run pins s σ H v u Q I r) (h2.run pins s σ H v u Q I r)⟩
abbrev rSlQ (K : PySem.W.Frag) : V → Option Int → Option Int → Hp → VK → Prop := fun x lo hi H Q => rSlL K x lo hi H Q ∨ rSlA K x lo hi H Q
theorem slQ : SlR X (rSlQ X.K) := SlR.or sl_list sl_tupA
theorem hu100_of {A : Around} {k : Nat} (hr : Room k A) : A.units + 100 < cLine := by have := hr.un; omega
theorem hu64_of {A : Around} {k : Nat} (hr : Room k A) : A.units + 64 < cLine := by have := hr.un; omega
def gUnq (K : PySem.W.Frag) (n : Nat) (t : TGs) : TG := fun v σ H Q => gTup K n t v σ H Q ∨ gUnl K n t v σ H Q
theorem pg_unq {es : List Expr} {kz : Nat} {t : TGs} {n : Nat} (hc : X.calm = true) (h : PGs X es t)
    (hn : (assignEach es X.env).length = n := by rfl) (hst : (assignEach es X.env).findIdx? (·.1) = none := by rfl) : PG X (.Tuple es kz pos) (gUnq X.K n t) := PG.or (pg_tup hc h hn hst) (pg_unl hc h hn hst)
theorem pglobI {i : Int} (h : ∃ t, X.mg x = some (.int i t)) (hg : Gl X x := by rfl) (hd : (x == ("__debug__" : Str)) = false := by decide) : PE X (.Name x pos) (tC (.int i)) := by
  obtain ⟨t, e⟩ := h
  exact pe_glob hg e ⟨t, rfl⟩ hd
/-- a dict made by e, from now on never written -/
def tSeal (t : TE) : TE := fun σ H Q => t σ H fun v H1 => ∃ d u, v = .ref d ∧ H1 d = some u ∧ Mut (some u) ∧ ∀ od, Q v (upd H1 d (.frz od u))
theorem pe_seal {t : TE} (h : PE X e t) : PE X e (tSeal t) := by
  refine ⟨fun pins s σ H Q I hw => ?_⟩
  refine thn (h.run pins s σ H _ I hw) fun v s1 ⟨x, H1, I1, r, d, u, ex, hd, mu, q⟩ => ?_
  obtain ⟨od, I2⟩ := I1.lock hd mu
  exact ⟨x, _, I2, r, q od⟩
end
/-! ### STUBS -/
section
variable {X : Cx} {x : Str} {p pos tpos pos2 : Pos} {e : Expr} {ta : TA} {elts : List Expr} {kz : Nat} {te : TE}
/-- what is known of data whose repr is asked -/
structure ReprOk (d : PyData) : Prop where
  s : d.showable = true
  h : SeqAt.shaped d = true
  z : d.shown.length ≤ sizeLine
def rReprD (K : PySem.W.Frag) : List V → Hp → VK → Prop := fun vs H Q => ∃ x d, vs = [x] ∧ Dp K H x d ∧ ReprOk d ∧ Q (.str d.shown) H
def Dp0 (x : V) (d : PyData) : Prop := (x = .non ∧ d = .none) ∨ (∃ b, x = .bl b ∧ d = .bool b) ∨ (∃ i, x = .int i ∧ d = .int i) ∨ ∃ t, x = .str t ∧ d = .str t
def rReprS : List V → Hp → VK → Prop := fun vs H Q => ∃ x d, vs = [x] ∧ Dp0 x d ∧ ReprOk d ∧ Q (.str d.shown) H
theorem repr_flat {pins : List (Addr × Obj)} {σ : L2.St} {H : Hp} {s : Shared} {v : V} {u : Value} {d : PyData} {Q : VK} (I : Inv X pins σ H s) (r : RelV v u) (h0 : Dp0 v d) (ok : ReprOk d) (q : Q (.str d.shown) H) : wpAny (model X.prog X.w) X.A (call (.builtin "repr") [u]) (EP X pins σ Q) X.xe s := by
  rcases h0 with ⟨rfl, rfl⟩ | ⟨b, rfl, rfl⟩ | ⟨i, rfl, rfl⟩ | ⟨x, rfl, rfl⟩
  · obtain rfl : u = Value.none := r
    simp only [PyData.shown] at q
    exact PySem.P.repr_of_none ⟨.str _, H, I.tok _, ⟨_, rfl⟩, q⟩
  · obtain rfl : u = Value.bool b := r
    simp only [PyData.shown] at q
    exact PySem.P.repr_of_bool ⟨.str _, H, I.tok _, ⟨_, rfl⟩, q⟩
  · obtain ⟨t, rfl⟩ := (show ∃ t, u = Value.int i t from r)
    have hz : i.natAbs.log2 < 1920 := by
      have := ok.s
      simp only [PyData.showable] at this
      exact of_decide_eq_true this
    simp only [PyData.shown] at q
    exact PySem.P.repr_of_int hz ⟨.str _, H, I.tok _, ⟨_, rfl⟩, q⟩
  · obtain ⟨t, rfl⟩ := (show ∃ t, u = Value.str x t from r)
    have hz := ok.z
    simp only [PyData.shown] at q hz
    exact PySem.P.repr_of_str ⟨.str _, H, I.tok _, ⟨_, rfl⟩, q⟩ hz
theorem reprS : CallR X (.builtin "repr") rReprS := by
  intro pins s σ H vs us Q I r h
  obtain ⟨x, d, rfl, h0, hok, q⟩ := h
  obtain ⟨u, rfl, ru⟩ := Vals.one r
  exact repr_flat I ru h0 hok q
theorem call_reprD (hg : X.A.guards = some []) (hu : X.A.units + 100 < cLine) : CallR X (.builtin "repr") (rReprD X.K) := by
  intro pins s σ H vs us Q I r h
  obtain ⟨x, d, rfl, hd, hok, q⟩ := h
  obtain ⟨u, rfl, ru⟩ := Vals.one r
  have onHeap : ∀ {a : Addr} {d : PyData}, Dp X.K H (.ref a) d → ReprOk d → Q (.str d.shown) H → RelV (.ref a) u → (∃ xs, d = .list xs ∨ d = .tuple xs) → wpAny (model X.prog X.w) X.A (call (.builtin "repr") [u]) (EP X pins σ Q) X.xe s := by
    intro a d hd hok q ru hs
    obtain ⟨as, hr⟩ := Dp.reads I d _ _ hd ru
    obtain rfl : u = Value.ref a := ru
    have hdep := SeqAt.depth_of_shaped hok.h
    have hdict : d.hasDict = false := PyData.hasDict_of_canLay d (SeqAt.canLay_of_shaped hok.h)
    have hunits : X.A.units + (d.depth + 1) < cLine := by
      omega
    exact repr_of_reads' hr hok.s (fun z => by rw [hdict] at z; cases z) hg hunits (fun _ _ e => e) (fun h' u tk hk => ⟨.str _, H, I.kept (t' := tk) fun b o e => hk b o e, ⟨_, rfl⟩, q⟩) hok.z
  cases hd with
  | non => exact repr_flat I ru (.inl ⟨rfl, rfl⟩) hok q
  | bl b => exact repr_flat I ru (.inr (.inl ⟨b, rfl, rfl⟩)) hok q
  | int i => exact repr_flat I ru (.inr (.inr (.inl ⟨i, rfl, rfl⟩))) hok q
  | str t => exact repr_flat I ru (.inr (.inr (.inr ⟨t, rfl, rfl⟩))) hok q
  | lst h1 h2 => exact onHeap (.lst h1 h2) hok q ru ⟨_, .inl rfl⟩
  | tup h1 h2 => exact onHeap (.tup h1 h2) hok q ru ⟨_, .inr rfl⟩
/-- a dict whose keys may be None: only the keys matter -/
def kN : Option Key → V
  | none => .non
  | some k => kV k
def memN (ks : List (Option Key)) (k : Option Key) : Bool := ks.any fun j => decide (j = k)
def putN (ks : List (Option Key)) (k : Option Key) : List (Option Key) := if memN ks k then ks else ks ++ [k]
def dnP (P : Program) (w : World) (D : Addr) (ks : List (Option Key)) : Heap → Prop := fun h => ∃ vs : List (Option Key × Value), vs.map Prod.fst = ks ∧ vs.length ≤ 1000000 ∧ (D == sysModules) = false ∧ h.DictOf (noneKind P w) D vs
def dnO (P : Program) (w : World) (D : Addr) (ks : List (Option Key)) : HO := .ext (dnP P w D ks)
/-- {k: v for .. in ..}, the keys None or a key -/
def tDcL (P : Program) (w : World) (wi : TI) (g : TG) (tt : TT) (tk tv : TE) (own : List Nat) : TE := fun σ H Q => wi σ H fun J HJ => ∀ D, HJ D = none → ∃ St : Nat → Nat → Hp → Prop,
  (∃ m, St 0 m (upd HJ D (dnO P w D []))) ∧ ∀ i m Hi, St i m Hi → (J.stop i Hi ∧ Q (.ref D) Hi) ∨
    (J.go i Hi ∧ ∃ After : Hp → Prop, (∀ Ha, After Ha → ∃ m', m' < m ∧ St (i + 1) m' Ha) ∧
      ∀ x Hx, J.yld i Hi x Hx → g x (wipe σ own) Hx fun τ Hg => wipe τ own = wipe σ own ∧ tt τ Hg fun c Ht =>
        if c = true then tk τ Ht fun y Hk => tv τ Hk fun z Hv => ∃ ks k, y = kN k ∧ Hv D = some (dnO P w D ks) ∧ ks.length < 1000000 ∧ After (upd Hv D (dnO P w D (putN ks k))) else After Ht)
def rNotInL (P : Program) (w : World) : R2 := fun x y H Q => ∃ a ks k, y = .ref a ∧ x = kN k ∧ H a = some (dnO P w a ks) ∧ Q (.bl (!memN ks k)) H
theorem valueAt_mem {κ : Type} [DecidableEq κ] (k : κ) : ∀ vs : List (κ × Value), (valueAt vs k).isSome = (vs.map Prod.fst).any fun j => decide (j = k)
  | [] => rfl
  | p :: vs => by
    have ih := valueAt_mem k vs
    unfold valueAt at ih ⊢
    rw [List.find?_cons, List.map_cons, List.any_cons]
    by_cases c : p.1 = k
    · rw [decide_eq_true c]
      rfl
    · rw [decide_eq_false c, Bool.false_or]
      exact ih
theorem kN_is {P : Program} {w : World} {k : Option Key} {v : Value} (r : RelV (kN k) v) : (noneKind P w).is k v = true := by
  cases k with
  | none =>
    obtain rfl : v = Value.none := r
    rfl
  | some k =>
    have r' : RelV (kV k) v := r
    exact kV_is (P := P) (w := w) r'
theorem op_notInL (P : Program) (w : World) (hu : X.A.units + 1 < cLine) (hP : X.prog = P := by rfl) (hw : X.w = w := by rfl) : OpR X (compareOp .NotIn) (rNotInL P w) := by
  intro pins s σ H x y v u Q I rx ry h
  obtain ⟨a, ks, k, rfl, rfl, ha, q⟩ := h
  subst hP hw
  obtain rfl : u = Value.ref a := ry
  have hx : ObjOk X.prog X.w H s.heap a (.ext (dnP X.prog X.w a ks)) := I.hok a _ ha
  obtain ⟨vs, hks, hl, hs, hd⟩ := hx.1
  refine wpAny_notIn_of (kN_is rx) hs hd.mapOf ?_
  refine ⟨.bl (!memN ks k), H, I.tok _, ?_, q⟩
  have e : (valueAt vs k).isSome = memN ks k := by
    rw [valueAt_mem, hks]
    rfl
  rw [e]
  rfl
theorem dn_ok {P : Program} {w : World} {H : Hp} {h : Heap} {D : Addr} {ks : List (Option Key)} (z : dnP P w D ks h) : ObjOk P w H h D (dnO P w D ks) := by
  have z' := z
  obtain ⟨vs, e1, e2, e3, o, es, ep, ho, hr⟩ := z'
  refine ⟨z, ⟨o, ho⟩, fun h1 h2 ⟨vs, e1, e2, e3, o, es, ep, ho, hr⟩ k => ⟨vs, e1, e2, e3, o, es, ep, k _ ho, hr⟩⟩
theorem dn_new {P : Program} {w : World} (h : Heap) (hb : sysModules < h.objs.size) : dnP P w h.objs.size [] (h.push { cls := .type "dict", data := .dict #[] }) :=
  ⟨[], rfl, Nat.zero_le _, beq_eq_false_iff_ne.mpr (Ne.symm (Nat.ne_of_lt hb)), Heap.DictOf.new h⟩
theorem stored_keys {κ : Type} [DecidableEq κ] (vs : List (κ × Value)) (k : κ) (v : Value) : (stored vs k v).map Prod.fst = if (vs.map Prod.fst).any (fun j => decide (j = k)) then vs.map Prod.fst else vs.map Prod.fst ++ [k] := by
  unfold stored
  rw [List.any_map]
  by_cases c : (vs.any fun kv => decide (kv.1 = k)) = true
  · have c' : (vs.any ((fun j => decide (j = k)) ∘ Prod.fst)) = true := c
    rw [if_pos c, if_pos c', List.map_map]
    apply List.map_congr_left
    intro p _
    show (if p.1 = k then (p.1, v) else p).1 = p.1
    split <;> rfl
  · have c' : ¬ (vs.any ((fun j => decide (j = k)) ∘ Prod.fst)) = true := c
    rw [if_neg c, if_neg c', List.map_append]
    rfl
/-- d[k] = v by a comprehension, k None or a key -/
theorem dn_set {pins : List (Addr × Obj)} {σ : L2.St} {H : Hp} {s : Shared} {E : Value → Shared → Prop} {D : Addr} {ks : List (Option Key)} {k : Option Key} {u r : Value} {Q : Unit → Shared → Prop} (I : Inv X pins σ H s) (hD : H D = some (dnO X.prog X.w D ks)) (hz : ks.length < 1000000)
    (ry : RelV (kN k) u) (h : ∀ s', Inv X pins σ (upd H D (dnO X.prog X.w D (putN ks k))) s' → Q () s') : wpAny (model X.prog X.w) X.A (dictSet D u r) Q E s := by
  have hx : ObjOk X.prog X.w H s.heap D (.ext (dnP X.prog X.w D ks)) := I.hok D _ hD
  obtain ⟨vs, hks, hl, hs, hd⟩ := hx.1
  have hlen : vs.length = ks.length := by rw [← hks, List.length_map]
  refine wpAny_dictSet_pairs (hsz := by rw [sizeLine_eq]; omega) (kN_is ry) hd fun h' hd' same => h _ ?_
  have there : ∃ q, h'.get? D = some q := by
    obtain ⟨q, _, _, hq, _⟩ := hd'
    exact ⟨q, hq⟩
  have keys : (stored vs k r).map Prod.fst = putN ks k := by
    rw [stored_keys, hks]
    rfl
  have sz : (stored vs k r).length ≤ 1000000 := by
    have e1 : (stored vs k r).length = (putN ks k).length := by rw [← keys, List.length_map]
    have e2 : (putN ks k).length ≤ ks.length + 1 := by
      unfold putN
      cases memN ks k with
      | true => rw [if_pos rfl]; omega
      | false => rw [if_neg (by decide), List.length_append]; exact Nat.le_refl _
    omega
  exact d_write I (by rw [hD]; exact trivial) same there (dn_ok ⟨_, keys, sz, hs, hd'⟩)
theorem pe_dcL {kx vx tg iter : Expr} {ifs : List Expr} {scope : Scope} {own : List (Str × Nat)} {pos : Pos} {wi : TI} {g : TG} {tt : TT} {tk tv : TE} (hc : X.calm = true) (hN : X.N.Nodup) (hi : PI X tg iter wi) (ok : BlkOk X.N X.env.scope scope own)
    (hg : ∀ (s : Shared) (H : Hp) (C : Addr) (cl : List (Str × Addr)) (fp : List Addr), PG (X.blk s H scope (compEnvC scope cl C X.env) fp) tg g) (ht : ∀ (s : Shared) (H : Hp) (C : Addr) (cl : List (Str × Addr)) (fp : List Addr), PTs (X.blk s H scope (compEnvC scope cl C X.env) fp) ifs tt)
    (hk : ∀ (s : Shared) (H : Hp) (C : Addr) (cl : List (Str × Addr)) (fp : List Addr), PE (X.blk s H scope (compEnvC scope cl C X.env) fp) kx tk)
    (he : ∀ (s : Shared) (H : Hp) (C : Addr) (cl : List (Str × Addr)) (fp : List Addr), PE (X.blk s H scope (compEnvC scope cl C X.env) fp) vx tv) (hs : ∀ x, foldedSetIterable iter X.env x = pure x := by intro _; rfl) :
    PE X (.DictComp kx vx [⟨tg, iter, ifs, 0⟩] scope pos) (tDcL X.prog X.w wi g tt tk tv (own.map (·.2))) := by
  constructor
  intro pins s σ H Q I hw
  rw [arm_eval_DictComp]
  have bound : ∀ y ∈ scope.names, y.2 = .free → ∃ c, X.env.cells.lookup y.1 = some c := by
    intro y hy hf
    cases ok.free y hy hf with
    | inl a => exact I.ok.has _ (.inl a)
    | inr a => exact I.ok.has _ (.inr a)
  refine wpAny_comprehension_free (use := none) rfl hs (closure_ok bound) ok.kind (by
    intro y hy hl
    rw [ok.uniq y hy, hl]) ?_
  refine thn (hi.run pins s σ H _ I hw) ?_
  intro xv s1 hx
  refine thn hx ?_
  intro itv sA ⟨it, fp, tn, J, HA, eIt, IA, turn, atA, offA, q⟩
  subst eIt
  refine wpAny_newObj_type (newEnv_comp ?_)
  obtain ⟨D, eD⟩ : ∃ D, D = sA.heap.objs.size := ⟨_, rfl⟩
  rw [← eD]
  have newD : HA D = none := IA.hok.fresh (Nat.le_of_eq eD.symm)
  obtain ⟨Wt, ⟨m0, base⟩, steps⟩ := q D newD
  -- the state with the new dict
  obtain ⟨sB, eB⟩ : ∃ sB : Shared, sB = { sA with heap := sA.heap.push { cls := .type "dict", data := .dict #[] } } := ⟨_, rfl⟩
  rw [← eB]
  have heapB : sB.heap = sA.heap.push { cls := .type "dict", data := .dict #[] } := by rw [eB]
  have IB : Inv X pins σ (upd HA D (dnO X.prog X.w D [])) sB := by
    rw [eB]
    exact IA.laid (t' := sA.toks) (fun _ _ z => Heap.get?_push_of_some _ z) (Nat.le_of_eq eD.symm) (dn_ok (by rw [eD]; exact dn_new sA.heap IA.big))
  obtain ⟨HB, eHB⟩ : ∃ HB, HB = upd HA D (dnO X.prog X.w D []) := ⟨_, rfl⟩
  rw [← eHB] at IB base
  have small : ∀ b ∈ fp, b < sA.heap.objs.size := by
    intro b hb
    obtain ⟨o, z, _⟩ := turn.obj _ _ atA b hb
    exact Heap.lt_size z
  have offB : ∀ b ∈ fp, FpOk X pins HB b ∧ b < sB.heap.objs.size := by
    intro b hb
    have lt := small b hb
    constructor
    · refine ⟨?_, (offA b hb).2⟩
      rw [eHB, upd_ne (by rw [eD]; exact Nat.ne_of_lt lt)]
      exact (offA b hb).1
    · rw [heapB, Heap.size_push]
      exact Nat.lt_succ_of_lt lt
  have atB : tn 0 sB.heap := by
    refine turn.keep _ _ _ atA ?_
    intro b _ o z
    rw [heapB]
    exact Heap.get?_push_of_some _ z
  have IC := block_start IB ok hN offB
  obtain ⟨cl, eCl⟩ : ∃ cl, cl = cellsFrom (sB.heap.objs.size + 1) scope.names (cloFrom X.env.cells scope.names []) := ⟨_, rfl⟩
  rw [← eCl] at IC
  have gT := hg sB HB sB.heap.objs.size cl fp
  have gF := ht sB HB sB.heap.objs.size cl fp
  have gK := hk sB HB sB.heap.objs.size cl fp
  have gV := he sB HB sB.heap.objs.size cl fp
  obtain ⟨ce, eCe⟩ : ∃ ce, ce = compEnvC scope cl sB.heap.objs.size X.env := ⟨_, rfl⟩
  rw [← eCe] at IC gT gF gK gV
  have ceL : ce.locals = sB.heap.objs.size := by rw [eCe]; rfl
  have freeB : ∀ b ∈ fp, HB b = none := fun b hb => (offB b hb).1.1
  obtain ⟨sC, eC⟩ : ∃ sC : Shared, sC = { sB with heap := pushCells (sB.heap.push { cls := .type "dict", data := .dict #[] }) scope.names } := ⟨_, rfl⟩
  rw [← eC] at IC
  have atC : tn 0 sC.heap := by
    refine turn.keep _ _ _ atB ?_
    intro b _ o z
    rw [eC]
    exact pushCells_keeps _ _ _ _ (Heap.get?_push_of_some _ z)
  have lift : ∀ {τ : L2.St} {H' : Hp} {s' : Shared}, Inv (X.blk sB HB scope ce fp) [] τ H' s' → (∀ b ∈ fp, H' b = none) → ∀ b ∈ fp, FpOk (X.blk sB HB scope ce fp) [] H' b := by
    intro τ H' s' J hn b hb
    have hx := J.ok.exf b hb
    exact ⟨hn b hb, hx.1, J.ok.exfs b hb, .inl hb, fun x c e => hx.2 x c e, fun p hp => by
      have hp' : p ∈ ([] : List (Addr × Obj)) ++ [] := hp
      cases hp'⟩
  have loop : codeAny (model X.prog X.w) X.A (.compLoop (.DictComp kx vx [⟨tg, iter, ifs, 0⟩] scope pos) 0 (.ref it) (.ref D) ce) (compPost (model X.prog X.w) X.A X.xe none (EP X pins σ Q) (.ref D) sB.heap.objs.size) sC := by
    refine compLoop_anyD (fun n s' => ∃ i H', Inv (X.blk sB HB scope ce fp) [] (wipe σ (own.map (·.2))) H' s' ∧ tn i s'.heap ∧ (∀ b ∈ fp, H' b = none) ∧ Wt i n H') ?_ m0 ⟨0, HB, IC, atC, freeB, base⟩
    rintro n s5 ⟨i, H5, I5, at5, free5, w5⟩
    rcases steps i n H5 w5 with ⟨stop, out⟩ | ⟨go, After, hAfter, step⟩
    · have ended := turn.done (X.blk sB HB scope ce fp) rfl rfl rfl hc i [] s5 _ H5 (fun _ _ => False) I5 (lift I5 free5) at5 stop
      refine thnF ended ?_
      intro r s6 ⟨er, I6⟩
      subst er
      have I7 : Inv X pins σ H5 s6 := by
        refine IB.call' (ch := fp) I6.os I6.base I6.hok I6.bare ?_
        intro b hb
        obtain ⟨_, g1, g2, g3, g4, g5⟩ := (offB b hb).1
        exact ⟨g3, g1, g4, g5⟩
      have locFree : H5 sB.heap.objs.size = none := by
        have z : H5 ce.locals = none := I6.free
        rw [ceL] at z
        exact z
      obtain ⟨m, hn, _⟩ := I6.loc
      have hn' : s6.heap.Ns ce.locals m := hn
      rw [ceL] at hn'
      obtain ⟨f0, f1, f2, f3, f4, f5⟩ := IB.fpOk (Nat.le_refl _) locFree
      exact ⟨m, hn', fun h'' sb => ⟨.ref D, H5, I7.turned (t' := s6.toks) (fun b o hb e => (sb.2 b hb).trans e) f0 f1 f3 f4 f5, rfl, out⟩⟩
    · have next := turn.item (X.blk sB HB scope ce fp) rfl rfl rfl hc i [] s5 _ H5 (fun _ _ => False) I5 (lift I5 free5) at5 go
      refine thnF next ?_
      intro r s6 ⟨u, er, h6⟩
      subst er
      refine thnF h6 ?_
      intro _ s7 ⟨x, H7, I7, r7, y7, at7, free7⟩
      have J7 := I7.pinned (lift I7 free7) (turn.obj _ _ at7)
      refine thnF (gT.run _ s7 _ H7 x u _ J7 r7 (step x H7 y7)) ?_
      intro _ s8 ⟨σ8, H8, I8, wp8, q8⟩
      refine thnF (gF.run _ s8 σ8 H8 _ I8 q8) ?_
      intro b s9 ⟨H9, I9, q9⟩
      have close : ∀ {s' : Shared} {H' : Hp}, Inv (X.blk sB HB scope ce fp) ([] ++ pinsAt fp s7.heap) σ8 H' s' → After H' → ∃ m, m < n ∧ ∃ i H', Inv (X.blk sB HB scope ce fp) [] (wipe σ (own.map (·.2))) H' s' ∧ tn i s'.heap ∧ (∀ b ∈ fp, H' b = none) ∧ Wt i m H' := by
        intro s' H' J' hA
        obtain ⟨m', lt', w'⟩ := hAfter H' hA
        have stays : ∀ b ∈ fp, ∀ o, s7.heap.get? b = some o → s'.heap.get? b = some o ∧ H' b = none := by
          intro b hb o e
          have z := J'.pin (b, o) (List.mem_append_right _ (List.mem_append_right _ (mem_pinsAt hb e)))
          exact ⟨z.1, z.2.1⟩
        have lens : (wipe σ (own.map (·.2))).length = σ8.length := by rw [← wp8, wipe_length]
        refine ⟨m', lt', i + 1, H', (J'.unpinned (pins := [])).weak lens ?_, turn.keep _ _ _ at7 (fun b hb o e => (stays b hb o e).1), ?_, w'⟩
        · intro j v e
          rw [← wp8] at e
          exact (wipe_some e).1
        · intro b hb
          obtain ⟨o, e, _⟩ := turn.obj _ _ at7 b hb
          exact (stays b hb o e).2
      cases b with
      | false =>
        simp only [Bool.false_eq_true, if_false] at q9 ⊢
        exact close I9 q9
      | true =>
        simp only [if_true] at q9 ⊢
        refine thnF (gK.run _ s9 σ8 H9 _ I9 q9) ?_
        intro z s10 ⟨yk, H10, I10, r10, q10⟩
        refine thnF (gV.run _ s10 σ8 H10 _ I10 q10) ?_
        intro z2 s11 ⟨yv, H11, I11, r11, ks, k, ek, hD, hz, nx⟩
        subst ek
        exact dn_set (X := X.blk sB HB scope ce fp) I11 hD hz r10 fun s12 I12 => close I12 nx
  have fin := codeAny_compStart_dict loop (turn.self X.A 0 _ _ _ atC loop)
  rw [eCe, eCl, eC] at fin
  exact fin
end
/-! ### the same with the written part told by name (within a block it must not hang on the block's start) -/
section
variable {X : Cx} {x : Str} {p pos tpos pos2 apos cpos : Pos} {e e2 o a b c : Expr} {ta tb tc te to : TE} {tA : TA} {es elts : List Expr} {kz n : Nat} {op : CmpOp} {r : R2} {t : TGs} {f : Str} {tg l : Expr}
theorem fldK (K : PySem.W.Frag) (he : PE X e ta) (hK : X.K = K := by rfl) (hb : attributeBase e f X.env (eval e X.env) = eval e X.env := by rfl) : PE X (.Attribute e f pos) (tFld K ta f) := by subst hK; exact pe_fld he hb
theorem ixK (K : PySem.W.Frag) (ha : PE X a ta) (hb : PE X b tb) (hK : X.K = K := by rfl) (hs : PlainIx b := by exact fun _ _ => rfl) : PE X (.Subscript a b pos) (tOp (rIx K) ta tb) := by subst hK; exact pe_ix ix_seq ha hb hs
theorem slK (K : PySem.W.Frag) {lo hi : Option Expr} {tl th : TO} (he : PE X e te) (hl : PO X lo tl) (hu : PO X hi th) (hK : X.K = K := by rfl) : PE X (.Subscript e (.Slice lo hi none p) pos) (tSl (rSlQ K) te tl th) := by subst hK; exact pe_slice slQ he hl hu
theorem eqK (K : PySem.W.Frag) (hu : X.A.units + 64 < cLine) (hK : X.K = K := by rfl) : OpR X (compareOp .Eq) (rEqD K) := by subst hK; exact op_eqD hu
theorem neK (K : PySem.W.Frag) (hu : X.A.units + 64 < cLine) (hK : X.K = K := by rfl) : OpR X (compareOp .NotEq) (rNeD K) := by subst hK; exact op_neD hu
theorem inK (K : PySem.W.Frag) (hK : X.K = K := by rfl) : OpR X (compareOp .In) (rIn K false) := by subst hK; exact op_in_seq
theorem notInK (K : PySem.W.Frag) (hK : X.K = K := by rfl) : OpR X (compareOp .NotIn) (rIn K true) := by subst hK; exact op_notIn_seq
def rLenQ (K : PySem.W.Frag) : List V → Hp → VK → Prop := fun xs H Q => ∃ x n, xs = [x] ∧ LenV K x H n ∧ Q (.int n) H
theorem lenK (K : PySem.W.Frag) (hK : X.K = K := by rfl) : CallR X (.builtin "len") (rLenQ K) := by subst hK; exact call_len
def rTupleOf (K : PySem.W.Frag) : List V → Hp → VK → Prop := fun xs H Q => ∃ p ys, xs = [.ref p] ∧ ((SqL K H p ys ∧ ∀ l, H l = none → Q (.ref l) (upd H l (.tup ys))) ∨ (SqT K H p ys ∧ Q (.ref p) H))
theorem tupleK (K : PySem.W.Frag) (hK : X.K = K := by rfl) : CallR X (.type "tuple") (rTupleOf K) := by subst hK; exact call_tuple_of
def rListOf (K : PySem.W.Frag) : List V → Hp → VK → Prop := fun xs H Q => ∃ p ys, xs = [.ref p] ∧ (SqL K H p ys ∨ SqT K H p ys) ∧ ∀ l, H l = none → Q (.ref l) (upd H l (.lst ys))
theorem listK (K : PySem.W.Frag) (hK : X.K = K := by rfl) : CallR X (.type "list") (rListOf K) := by subst hK; exact call_list_of
theorem isiK (K : PySem.W.Frag) (hK : X.K = K := by rfl) : CallR X (.builtin "isinstance") (rIsi K) := by subst hK; exact call_isi
theorem isiTK (K : PySem.W.Frag) (hK : X.K = K := by rfl) : CallR X (.builtin "isinstance") (rIsiT K) := by subst hK; exact call_isiT
theorem allK (K : PySem.W.Frag) (hc : X.calm = true := by rfl) (hK : X.K = K := by rfl) : CallR X (.builtin "all") (rAll K) := by subst hK; exact cr_all hc
theorem minK (K : PySem.W.Frag) (hc : X.calm = true := by rfl) (hK : X.K = K := by rfl) : CallR X (.builtin "min") (rMin K) := by subst hK; exact cr_min hc
theorem sortedK (K : PySem.W.Frag) (hK : X.K = K := by rfl) : CallR X (.builtin "sorted") (rSortedI K) := by subst hK; exact cr_sortedI
def rMinTwo : List V → Hp → VK → Prop := fun xs H Q => ∃ i j, xs = [.int i, .int j] ∧ Q (.int (if j < i then j else i)) H
theorem min2R (hc : X.calm = true := by rfl) : CallR X (.builtin "min") rMinTwo := call_min2 hc
def rAbsI : List V → Hp → VK → Prop := fun xs H Q => ∃ i, xs = [.int i] ∧ Q (.int (if i < 0 then -i else i)) H
theorem absR : CallR X (.builtin "abs") rAbsI := call_abs
def rIntI : List V → Hp → VK → Prop := fun xs H Q => (∃ i, xs = [.int i] ∧ Q (.int i) H) ∨ ∃ k, xs = [.bl k] ∧ Q (.int (if k then 1 else 0)) H
theorem intR : CallR X (.type "int") rIntI := call_int1
theorem reprK (K : PySem.W.Frag) (hg : X.A.guards = some []) (hu : X.A.units + 100 < cLine) (hK : X.K = K := by rfl) : CallR X (.builtin "repr") (rReprD K) := by subst hK; exact call_reprD hg hu
theorem catAK (K : PySem.W.Frag) (hK : X.K = K := by rfl) : OpR X (binaryOp .Add) (rCatA K) := by subst hK; exact op_catA
theorem repTK (K : PySem.W.Frag) (hK : X.K = K := by rfl) : OpR X (binaryOp .Mult) (rRepT K) := by subst hK; exact op_repT
theorem seqK (K : PySem.W.Frag) {tl : TE} (hl : PE X l tl) (hK : X.K = K := by rfl) : PI X tg l (iSeq K tl) := by subst hK; exact pi_seq hl
theorem zipK (K : PySem.W.Frag) (hg : Gl X "zip") (hm : X.mg "zip" = none) (ha : PA X [e, e2] tA) (hK : X.K = K := by rfl) (hs : starEach [e, e2] X.env = (false, eval e X.env) :: starEach [e2] X.env := by rfl) (hpl : (backTo pos (starEach [e2] X.env)).any (·.1) = false := by rfl) :
    PI X (.Tuple elts kz tpos) (.Call (.Name "zip" p) [e, e2] [] pos) (RZ.iZipA K tA) := by subst hK; exact RZ.pi_zipA hg hm ha hs hpl
theorem enumK (K : PySem.W.Frag) (hg : Gl X "enumerate") (hm : X.mg "enumerate" = none) (ha : PA X [e] tA) (hK : X.K = K := by rfl) (hs : starEach [e] X.env = [(false, eval e X.env)] := by rfl) :
    PI X (.Tuple elts kz tpos) (.Call (.Name "enumerate" p) [e] [] pos) (iEnumQ K tA) := by subst hK; exact pi_enumQ hg hm ha hs
theorem tupG (K : PySem.W.Frag) (n : Nat) (h : PGs X es t) (hc : X.calm = true := by rfl) (hK : X.K = K := by rfl) (hn : (assignEach es X.env).length = n := by rfl) (hst : (assignEach es X.env).findIdx? (·.1) = none := by rfl) : PG X (.Tuple es kz pos) (gTup K n t) := by subst hK; exact pg_tup hc h hn hst
theorem unqG (K : PySem.W.Frag) (n : Nat) (h : PGs X es t) (hc : X.calm = true := by rfl) (hK : X.K = K := by rfl) (hn : (assignEach es X.env).length = n := by rfl) (hst : (assignEach es X.env).findIdx? (·.1) = none := by rfl) : PG X (.Tuple es kz pos) (gUnq K n t) := by subst hK; exact pg_unq hc h hn hst
theorem appendK (K : PySem.W.Frag) (ho : PE X o to) (ha : PA X [a] tA) (hK : X.K = K := by rfl) (hbase : attributeBase o "append" X.env (eval o X.env) = eval o X.env := by rfl)
    (hfew : ((backTo cpos (starEach [a] X.env)).all (fun x => !x.1) && (backToKw cpos (keywordEach [] X.env)).all (fun x => x.1.isSome) && decide ([a].length + ([] : List Keyword).length + (if ([] : List Keyword).isEmpty then 0 else 1) < 30)) = true := by rfl)
    (hline : (apos.endLine == cpos.line) = true := by rfl) (hs : starEach [a] X.env = (false, eval a X.env) :: starEach [] X.env := by rfl) (hplain : (backTo cpos (starEach [] X.env)).any (·.1) = false := by rfl) :
    PE X (.Call (.Attribute o "append" apos) [a] [] cpos) (tBM K "list" rAppend to tA) := by subst hK; exact pe_bm PySem.F.plainAttrs_list PySem.F.slot_list_append PySem.F.type_list_append mt_append ho ha hbase hfew hline hs hplain
end
end Ag
set_option Elab.async false
set_option linter.all false
set_option maxRecDepth 100000
set_option maxHeartbeats 2000000
/-! Ag1b: a name gets a dict comprehension. -/
namespace Ag
open PySem PySem.Spec PyProof.Rows L2
section
variable {X : Cx}
theorem sw_dc {kx vx : Expr} {gs : List Comprehension} {scope : Scope} {pos py : Pos} {y : Str} {l : Nat} {env : Env} (hf : env.scope.kind = .function) (hloc : env.scope.names.lookup y = some .local) (hline : (py.line == pos.line) = true)
    (hown : (scope.names.any fun (n, k) => n == y && (k == .local || k == .cell)) = false) : swapsWith (.DictComp kx vx gs scope pos) (some (.Name y py)) l env = pure true := by
  have h1 : env.blockKind = .function := by
    unfold Env.blockKind
    rw [hf]
    rfl
  have h2 : env.kindOf y = some .local := hloc
  unfold swapsWith
  simp only [h1, h2, hown, hline, Expr.pos]
  rfl
theorem ps_setDc {i : Nat} {y : Str} {py : Pos} {kx vx tg iter : Expr} {ifs : List Expr} {scope : Scope} {own : List (Str × Nat)} {pos spos : Pos} {wi : TI} {g : TG} {tt : TT} {tk tv : TE} (hc : X.calm = true) (hN : X.N.Nodup) (hy : X.N[i]? = some y)
    (hloc : X.env.scope.names.lookup y = some .local) (hsw : swapsWith (.DictComp kx vx [⟨tg, iter, ifs, 0⟩] scope pos) (some (.Name y py)) spos.line X.env = pure true) (hi : PI X tg iter wi) (ok : BlkOk X.N X.env.scope scope own)
    (hg : ∀ (s : Shared) (H : Hp) (C : Addr) (cl : List (Str × Addr)) (fp : List Addr), PG (X.blk s H scope (compEnvC scope cl C X.env) fp) tg g) (ht : ∀ (s : Shared) (H : Hp) (C : Addr) (cl : List (Str × Addr)) (fp : List Addr), PTs (X.blk s H scope (compEnvC scope cl C X.env) fp) ifs tt)
    (hk : ∀ (s : Shared) (H : Hp) (C : Addr) (cl : List (Str × Addr)) (fp : List Addr), PE (X.blk s H scope (compEnvC scope cl C X.env) fp) kx tk)
    (he : ∀ (s : Shared) (H : Hp) (C : Addr) (cl : List (Str × Addr)) (fp : List Addr), PE (X.blk s H scope (compEnvC scope cl C X.env) fp) vx tv) (hs : ∀ x, foldedSetIterable iter X.env x = pure x := by intro _; rfl) :
    PS X (.Assign [.Name y py] (.DictComp kx vx [⟨tg, iter, ifs, 0⟩] scope pos) spos) (tAsg (tDc wi g tt tk tv (own.map (·.2))) (gName i)) := by
  constructor
  intro pins s σ H D I hw
  rw [exec_Assign_Name_used _ _ _ _ hsw]
  apply wpAny_bind
  apply wpAny_standAt
  apply wpAny_bind
  have hw' : tDc wi g tt tk tv (own.map (·.2)) σ H (fun v H1 => gName i v σ H1 D.nx) := hw
  have key : wpAny (model X.prog X.w) X.A (comprehension (.DictComp kx vx [⟨tg, iter, ifs, 0⟩] scope pos) scope X.env (firstIterPos [⟨tg, iter, ifs, 0⟩] pos) newDict false (eval iter X.env) (some (assign (.Name y py) X.env))) (fun _ s' => SP X pins D .next s') X.xe s := by
    apply dc_core (Qf := fun _ s' => SP X pins D .next s') hc hN I hi ok hg ht hk he hs hw'
    intro A C s' m H' J q hn ⟨f0, f1, f2, f3, f4, f5⟩
    show wpAny _ _ (assign (.Name y py) X.env (.ref A)) _ _ _
    apply wpAny_assign_Name
    refine store_ok2 (v := V.ref A) J hN hy (.inl hloc) rfl ?_ (.inr hloc)
    intro s2 J2 ⟨b, sb, hb⟩
    have neq : C ≠ b := by
      cases hb with
      | inl z => rw [z]; exact f1
      | inr z => exact fun e => f4 y b z e.symm
    exact ⟨m, hn.sameBut sb neq, fun h3 sb3 => ⟨_, H', J2.turned (t' := s2.toks) (fun c o hc e => (sb3.2 c hc).trans e) f0 f1 f3 f4 f5, q⟩⟩
  apply wpAny_bind
  refine wpAny_mono key (fun _ s' hq => ?_) fun _ _ z => z
  exact wpAny_pure (wpAny_pure hq)
end
end Ag
set_option Elab.async false
set_option linter.all false
set_option maxRecDepth 100000
set_option maxHeartbeats 2000000
/-! Ag2: the text by places. -/
namespace Ag
open PySem PySem.Spec PyProof.Rows L2
def top (i : Nat) : Stmt := PySem.Challenge.pw_agedcopy_k12_whole_markings_safe_or_not.main.body.getD i (.Pass ⟨0, 0, 0, 0⟩)
abbrev s_is_integer : Stmt := top 10
abbrev N_is_integer : List Str := ["value"]
theorem sc_is_integer : FnScope N_is_integer ["value"] (defScope s_is_integer) := ⟨rfl, rfl, rfl, by decide +kernel, rfl, by decide +kernel, by decide +kernel⟩
abbrev s_is_number : Stmt := top 11
abbrev N_is_number : List Str := ["value"]
theorem sc_is_number : FnScope N_is_number ["value"] (defScope s_is_number) := ⟨rfl, rfl, rfl, by decide +kernel, rfl, by decide +kernel, by decide +kernel⟩
abbrev s_is_below : Stmt := top 12
abbrev N_is_below : List Str := ["value", "most"]
theorem sc_is_below : FnScope N_is_below ["value", "most"] (defScope s_is_below) := ⟨rfl, rfl, rfl, by decide +kernel, rfl, by decide +kernel, by decide +kernel⟩
abbrev s_is_sequence : Stmt := top 13
abbrev N_is_sequence : List Str := ["value"]
theorem sc_is_sequence : FnScope N_is_sequence ["value"] (defScope s_is_sequence) := ⟨rfl, rfl, rfl, by decide +kernel, rfl, by decide +kernel, by decide +kernel⟩
abbrev s_is_text : Stmt := top 14
abbrev N_is_text : List Str := ["value"]
theorem sc_is_text : FnScope N_is_text ["value"] (defScope s_is_text) := ⟨rfl, rfl, rfl, by decide +kernel, rfl, by decide +kernel, by decide +kernel⟩
abbrev s_is_ascending : Stmt := top 15
abbrev N_is_ascending : List Str := ["value", "most", "number", "one", "other"]
theorem sc_is_ascending : FnScope N_is_ascending ["value", "most"] (defScope s_is_ascending) := ⟨rfl, rfl, rfl, by decide +kernel, rfl, by decide +kernel, by decide +kernel⟩
abbrev s_is_table : Stmt := top 17
abbrev N_is_table : List Str := ["value", "states", "state"]
theorem sc_is_table : FnScope N_is_table ["value", "states"] (defScope s_is_table) := ⟨rfl, rfl, rfl, by decide +kernel, rfl, by decide +kernel, by decide +kernel⟩
abbrev s_check_tables : Stmt := top 18
abbrev N_check_tables : List Str := ["tables", "states", "at", "table"]
theorem sc_check_tables : FnScope N_check_tables ["tables"] (defScope s_check_tables) := ⟨rfl, rfl, rfl, by decide +kernel, rfl, by decide +kernel, by decide +kernel⟩
abbrev s_Machine_init : Stmt := inClass (top 19) 0
abbrev N_Machine_init : List Str := ["self", "tables"]
theorem sc_Machine_init : FnScope N_Machine_init ["self", "tables"] (defScope s_Machine_init) := ⟨rfl, rfl, rfl, by decide +kernel, rfl, by decide +kernel, by decide +kernel⟩
abbrev s_need_state : Stmt := top 20
abbrev N_need_state : List Str := ["machine", "state"]
theorem sc_need_state : FnScope N_need_state ["machine", "state"] (defScope s_need_state) := ⟨rfl, rfl, rfl, by decide +kernel, rfl, by decide +kernel, by decide +kernel⟩
abbrev s_check_log : Stmt := top 21
abbrev N_check_log : List Str := ["machine", "value", "at", "deed"]
theorem sc_check_log : FnScope N_check_log ["machine", "value"] (defScope s_check_log) := ⟨rfl, rfl, rfl, by decide +kernel, rfl, by decide +kernel, by decide +kernel⟩
abbrev s_check_starts : Stmt := top 22
abbrev N_check_starts : List Str := ["machine", "value"]
theorem sc_check_starts : FnScope N_check_starts ["machine", "value"] (defScope s_check_starts) := ⟨rfl, rfl, rfl, by decide +kernel, rfl, by decide +kernel, by decide +kernel⟩
abbrev s_behind : Stmt := top 23
abbrev N_behind : List Str := ["tables", "state", "log", "deed"]
theorem sc_behind : FnScope N_behind ["tables", "state", "log"] (defScope s_behind) := ⟨rfl, rfl, rfl, by decide +kernel, rfl, by decide +kernel, by decide +kernel⟩
abbrev s_are_rising : Stmt := top 25
abbrev N_are_rising : List Str := ["value", "most", "one", "other"]
theorem sc_are_rising : FnScope N_are_rising ["value", "most"] (defScope s_are_rising) := ⟨rfl, rfl, rfl, by decide +kernel, rfl, by decide +kernel, by decide +kernel⟩
abbrev s_check_kept : Stmt := top 26
abbrev N_check_kept : List Str := ["value", "length"]
theorem sc_check_kept : FnScope N_check_kept ["value", "length"] (defScope s_check_kept) := ⟨rfl, rfl, rfl, by decide +kernel, rfl, by decide +kernel, by decide +kernel⟩
abbrev s_check_bound : Stmt := top 27
abbrev N_check_bound : List Str := ["value"]
theorem sc_check_bound : FnScope N_check_bound ["value"] (defScope s_check_bound) := ⟨rfl, rfl, rfl, by decide +kernel, rfl, by decide +kernel, by decide +kernel⟩
abbrev s_start_rows : Stmt := top 28
abbrev N_start_rows : List Str := ["machine", "log", "found", "deed", "table", "place"]
theorem sc_start_rows : FnScope N_start_rows ["machine", "log"] (defScope s_start_rows) := ⟨rfl, rfl, rfl, by decide +kernel, rfl, by decide +kernel, by decide +kernel⟩
abbrev s_in_window : Stmt := top 29
abbrev N_in_window : List Str := ["age", "length", "bound"]
theorem sc_in_window : FnScope N_in_window ["age", "length", "bound"] (defScope s_in_window) := ⟨rfl, rfl, rfl, by decide +kernel, rfl, by decide +kernel, by decide +kernel⟩
abbrev s_Sight_init : Stmt := inClass (top 30) 0
abbrev N_Sight_init : List Str := ["self", "machine", "log", "state", "starts", "kept", "bound", "age"]
theorem sc_Sight_init : FnScope N_Sight_init ["self", "machine", "log", "state", "starts", "kept", "bound"] (defScope s_Sight_init) := ⟨rfl, rfl, rfl, by decide +kernel, rfl, by decide +kernel, by decide +kernel⟩
abbrev s_Sight_seen : Stmt := inClass (top 30) 1
abbrev N_Sight_seen : List Str := ["self", "age", "start"]
theorem sc_Sight_seen : FnScope N_Sight_seen ["self", "age"] (defScope s_Sight_seen) := ⟨rfl, rfl, rfl, by decide +kernel, rfl, by decide +kernel, by decide +kernel⟩
abbrev s_Paths_init : Stmt := inClass (top 32) 0
abbrev N_Paths_init : List Str := ["self", "state", "bound"]
theorem sc_Paths_init : FnScope N_Paths_init ["self", "state", "bound"] (defScope s_Paths_init) := ⟨rfl, rfl, rfl, by decide +kernel, rfl, by decide +kernel, by decide +kernel⟩
abbrev s_Paths_go : Stmt := inClass (top 32) 1
abbrev N_Paths_go : List Str := ["self", "table", "age", "found", "place", "told", "after"]
theorem sc_Paths_go : FnScope N_Paths_go ["self", "table", "age"] (defScope s_Paths_go) := ⟨rfl, rfl, rfl, by decide +kernel, rfl, by decide +kernel, by decide +kernel⟩
abbrev s_Paths_is_living : Stmt := inClass (top 32) 2
abbrev N_Paths_is_living : List Str := ["self", "old", "age"]
theorem sc_Paths_is_living : FnScope N_Paths_is_living ["self", "old", "age"] (defScope s_Paths_is_living) := ⟨rfl, rfl, rfl, by decide +kernel, rfl, by decide +kernel, by decide +kernel⟩
abbrev s_Paths_held : Stmt := inClass (top 32) 3
abbrev N_Paths_held : List Str := ["self", "age", "mark", "old"]
theorem sc_Paths_held : FnScope N_Paths_held ["self", "age"] (defScope s_Paths_held) := ⟨rfl, rfl, rfl, by decide +kernel, rfl, by decide +kernel, by decide +kernel⟩
abbrev s_Paths_mark_now : Stmt := inClass (top 32) 4
abbrev N_Paths_mark_now : List Str := ["self", "age", "held", "mark"]
theorem sc_Paths_mark_now : FnScope N_Paths_mark_now ["self", "age"] (defScope s_Paths_mark_now) := ⟨rfl, rfl, rfl, by decide +kernel, rfl, by decide +kernel, by decide +kernel⟩
abbrev s_Paths_put_copy : Stmt := inClass (top 32) 5
abbrev N_Paths_put_copy : List Str := ["self", "age", "mark"]
theorem sc_Paths_put_copy : FnScope N_Paths_put_copy ["self", "age"] (defScope s_Paths_put_copy) := ⟨rfl, rfl, rfl, by decide +kernel, rfl, by decide +kernel, by decide +kernel⟩
abbrev s_marks_of : Stmt := top 33
abbrev N_marks_of : List Str := ["sight", "bound", "paths", "found", "kept", "age"]
theorem sc_marks_of : FnScope N_marks_of ["sight", "bound"] (defScope s_marks_of) := ⟨rfl, rfl, rfl, by decide +kernel, rfl, by decide +kernel, by decide +kernel⟩
abbrev s_path_marks : Stmt := top 34
abbrev N_path_marks : List Str := ["machine", "log", "state", "starts", "kept"]
theorem sc_path_marks : FnScope N_path_marks ["machine", "log", "state", "starts", "kept"] (defScope s_path_marks) := ⟨rfl, rfl, rfl, by decide +kernel, rfl, by decide +kernel, by decide +kernel⟩
abbrev s_check_marking : Stmt := top 36
abbrev N_check_marking : List Str := ["machine", "value", "length", "row", "mark"]
theorem sc_check_marking : FnScope N_check_marking ["machine", "value", "length"] (defScope s_check_marking) := ⟨rfl, rfl, rfl, by decide +kernel, rfl, by decide +kernel, by decide +kernel⟩
abbrev s_unsafe_paper : Stmt := top 37
abbrev N_unsafe_paper : List Str := ["machine", "log", "marking", "starts", "kept", "bound", "told", "state", "sight", "at", "one", "other"]
theorem sc_unsafe_paper : FnScope N_unsafe_paper ["machine", "log", "marking", "starts", "kept", "bound"] (defScope s_unsafe_paper) := ⟨rfl, rfl, rfl, by decide +kernel, rfl, by decide +kernel, by decide +kernel⟩
abbrev s_are_unlike : Stmt := top 38
abbrev N_are_unlike : List Str := ["sight", "one", "other"]
theorem sc_are_unlike : FnScope N_are_unlike ["sight", "one", "other"] (defScope s_are_unlike) := ⟨rfl, rfl, rfl, by decide +kernel, rfl, by decide +kernel, by decide +kernel⟩
abbrev s_is_safe_marking : Stmt := top 39
abbrev N_is_safe_marking : List Str := ["machine", "log", "marking", "starts", "kept", "bound"]
theorem sc_is_safe_marking : FnScope N_is_safe_marking ["machine", "log", "marking", "starts", "kept", "bound"] (defScope s_is_safe_marking) := ⟨rfl, rfl, rfl, by decide +kernel, rfl, by decide +kernel, by decide +kernel⟩
abbrev s_unsafe_holds : Stmt := top 40
abbrev N_unsafe_holds : List Str := ["machine", "log", "marking", "value", "starts", "kept", "bound", "told", "first", "ages", "age", "state", "one", "other", "start", "later", "part", "rows"]
theorem sc_unsafe_holds : FnScope N_unsafe_holds ["machine", "log", "marking", "value", "starts", "kept", "bound"] (defScope s_unsafe_holds) := ⟨rfl, rfl, rfl, by decide +kernel, rfl, by decide +kernel, by decide +kernel⟩
abbrev s_coming_back : Stmt := top 42
abbrev N_coming_back : List Str := ["machine", "log", "state", "age", "ages", "place", "later"]
theorem sc_coming_back : FnScope N_coming_back ["machine", "log", "state", "age", "ages"] (defScope s_coming_back) := ⟨rfl, rfl, rfl, by decide +kernel, rfl, by decide +kernel, by decide +kernel⟩
abbrev s_nexts_of : Stmt := top 43
abbrev N_nexts_of : List Str := ["sight", "ages", "age"]
theorem sc_nexts_of : FnScope N_nexts_of ["sight"] (defScope s_nexts_of) := ⟨rfl, rfl, rfl, by decide +kernel, rfl, by decide +kernel, by decide +kernel⟩
abbrev s_lowest_of : Stmt := top 44
abbrev N_lowest_of : List Str := ["sight", "led_to", "later", "age"]
theorem sc_lowest_of : FnScope N_lowest_of ["sight"] (defScope s_lowest_of) := ⟨rfl, rfl, rfl, by decide +kernel, rfl, by decide +kernel, by decide +kernel⟩
abbrev s_lowest_ages : Stmt := top 45
abbrev N_lowest_ages : List Str := ["machine", "log", "state", "starts", "kept", "bound"]
theorem sc_lowest_ages : FnScope N_lowest_ages ["machine", "log", "state", "starts", "kept", "bound"] (defScope s_lowest_ages) := ⟨rfl, rfl, rfl, by decide +kernel, rfl, by decide +kernel, by decide +kernel⟩
abbrev s_least_marks : Stmt := top 46
abbrev N_least_marks : List Str := ["machine", "log", "state", "starts", "kept", "bound"]
theorem sc_least_marks : FnScope N_least_marks ["machine", "log", "state", "starts", "kept", "bound"] (defScope s_least_marks) := ⟨rfl, rfl, rfl, by decide +kernel, rfl, by decide +kernel, by decide +kernel⟩
abbrev s_Lbox : Stmt := top 48
abbrev N_Lbox : List Str := ["_law_script", "_law_k", "_law_cell", "_law_great"]
theorem sc_Lbox : FnScope N_Lbox ["_law_script", "_law_k"] (defScope s_Lbox) := ⟨rfl, rfl, rfl, by decide +kernel, rfl, by decide +kernel, by decide +kernel⟩
abbrev s_Ltake : Stmt := top 49
abbrev N_Ltake : List Str := ["_law_box_here", "_law_many", "_law_digit", "_law_raw"]
theorem sc_Ltake : FnScope N_Ltake ["_law_box_here", "_law_many"] (defScope s_Ltake) := ⟨rfl, rfl, rfl, by decide +kernel, rfl, by decide +kernel, by decide +kernel⟩
abbrev s_Lpick : Stmt := top 50
abbrev N_Lpick : List Str := ["_law_box_here", "_law_some"]
theorem sc_Lpick : FnScope N_Lpick ["_law_box_here", "_law_some"] (defScope s_Lpick) := ⟨rfl, rfl, rfl, by decide +kernel, rfl, by decide +kernel, by decide +kernel⟩
abbrev s_Ltables : Stmt := top 51
abbrev N_Ltables : List Str := ["_law_box_here", "_law_most_here", "_law_states", "_law_found", "_law_turn", "_law_style", "_law_table", "_law_state", "_law_by", "_law_one", "_law_other"]
theorem sc_Ltables : FnScope N_Ltables ["_law_box_here", "_law_most_here"] (defScope s_Ltables) := ⟨rfl, rfl, rfl, by decide +kernel, rfl, by decide +kernel, by decide +kernel⟩
abbrev s_Llog : Stmt := top 52
abbrev N_Llog : List Str := ["_law_box_here", "_law_deeds", "_law_most_here", "_law_turn"]
theorem sc_Llog : FnScope N_Llog ["_law_box_here", "_law_deeds", "_law_most_here"] (defScope s_Llog) := ⟨rfl, rfl, rfl, by decide +kernel, rfl, by decide +kernel, by decide +kernel⟩
abbrev s_Lrows : Stmt := top 53
abbrev N_Lrows : List Str := ["_law_tables_here", "_law_log_here", "_law_found", "_law_deed", "_law_place"]
theorem sc_Lrows : FnScope N_Lrows ["_law_tables_here", "_law_log_here"] (defScope s_Lrows) := ⟨rfl, rfl, rfl, by decide +kernel, rfl, by decide +kernel, by decide +kernel⟩
abbrev s_Lstarts : Stmt := top 54
abbrev N_Lstarts : List Str := ["_law_box_here", "_law_states", "_law_some", "_law_state"]
theorem sc_Lstarts : FnScope N_Lstarts ["_law_box_here", "_law_states"] (defScope s_Lstarts) := ⟨rfl, rfl, rfl, by decide +kernel, rfl, by decide +kernel, by decide +kernel⟩
abbrev s_Lkept : Stmt := top 55
abbrev N_Lkept : List Str := ["_law_box_here", "_law_length", "_law_some", "_law_age"]
theorem sc_Lkept : FnScope N_Lkept ["_law_box_here", "_law_length"] (defScope s_Lkept) := ⟨rfl, rfl, rfl, by decide +kernel, rfl, by decide +kernel, by decide +kernel⟩
abbrev s_Lseen : Stmt := top 56
abbrev N_Lseen : List Str := ["_law_rows_here", "_law_some", "_law_state", "_law_start", "_law_row"]
theorem sc_Lseen : FnScope N_Lseen ["_law_rows_here", "_law_some", "_law_state"] (defScope s_Lseen) := ⟨rfl, rfl, rfl, by decide +kernel, rfl, by decide +kernel, by decide +kernel⟩
abbrev s_Lheard : Stmt := top 57
abbrev N_Lheard : List Str := ["_law_ask", "fault"]
theorem sc_Lheard : FnScope N_Lheard ["_law_ask"] (defScope s_Lheard) := ⟨rfl, rfl, rfl, by decide +kernel, rfl, by decide +kernel, by decide +kernel⟩
abbrev s_Lages : Stmt := top 58
abbrev N_Lages : List Str := ["_law_seen_here", "_law_kept_here", "_law_length", "_law_bound", "_law_age"]
theorem sc_Lages : FnScope N_Lages ["_law_seen_here", "_law_kept_here", "_law_length", "_law_bound"] (defScope s_Lages) := ⟨rfl, rfl, rfl, by decide +kernel, rfl, by decide +kernel, by decide +kernel⟩
abbrev s_Lapart : Stmt := top 59
abbrev N_Lapart : List Str := ["_law_seen_here", "_law_one", "_law_other", "_law_start"]
theorem sc_Lapart : FnScope N_Lapart ["_law_seen_here", "_law_one", "_law_other"] (defScope s_Lapart) := ⟨rfl, rfl, rfl, by decide +kernel, rfl, by decide +kernel, by decide +kernel⟩
abbrev s_Ldue : Stmt := top 61
abbrev N_Ldue : List Str := ["_law_rows_here", "_law_some", "_law_kept_here", "_law_bound", "_law_marking_here", "_law_state", "_law_seen_here", "_law_ages_here", "_law_one", "_law_other"]
theorem sc_Ldue : FnScope N_Ldue ["_law_rows_here", "_law_some", "_law_kept_here", "_law_bound", "_law_marking_here"] (defScope s_Ldue) := ⟨rfl, rfl, rfl, by decide +kernel, rfl, by decide +kernel, by decide +kernel⟩
abbrev s_Lwhole : Stmt := top 62
abbrev N_Lwhole : List Str := ["_law_value", "_law_most_here"]
theorem sc_Lwhole : FnScope N_Lwhole ["_law_value", "_law_most_here"] (defScope s_Lwhole) := ⟨rfl, rfl, rfl, by decide +kernel, rfl, by decide +kernel, by decide +kernel⟩
abbrev s_Lholds : Stmt := top 63
abbrev N_Lholds : List Str := ["_law_rows_here", "_law_some", "_law_kept_here", "_law_bound", "_law_marking_here", "_law_value", "_law_state", "_law_one", "_law_other", "_law_start", "_law_later", "_law_part", "_law_last", "_law_age"]
theorem sc_Lholds : FnScope N_Lholds ["_law_rows_here", "_law_some", "_law_kept_here", "_law_bound", "_law_marking_here", "_law_value"] (defScope s_Lholds) := ⟨rfl, rfl, rfl, by decide +kernel, rfl, by decide +kernel, by decide +kernel⟩
abbrev s_Lbent : Stmt := top 64
abbrev N_Lbent : List Str := ["_law_box_here", "_law_paper", "_law_last", "_law_states", "_law_parts", "_law_kind", "_law_at"]
theorem sc_Lbent : FnScope N_Lbent ["_law_box_here", "_law_paper", "_law_last", "_law_states"] (defScope s_Lbent) := ⟨rfl, rfl, rfl, by decide +kernel, rfl, by decide +kernel, by decide +kernel⟩
abbrev s_Lmarking : Stmt := top 65
abbrev N_Lmarking : List Str := ["_law_box_here", "_law_machine", "_law_log_here", "_law_told", "_law_given", "_law_way", "_law_states", "_law_columns", "_law_state", "_law_age", "_law_by"]
theorem sc_Lmarking : FnScope N_Lmarking ["_law_box_here", "_law_machine", "_law_log_here", "_law_told", "_law_given"] (defScope s_Lmarking) := ⟨rfl, rfl, rfl, by decide +kernel, rfl, by decide +kernel, by decide +kernel⟩
abbrev s_Lfew_right : Stmt := top 66
abbrev N_Lfew_right : List Str := ["_law_box_here", "_law_machine", "_law_log_here", "_law_told", "_law_given", "_law_bound", "_law_state", "_law_need", "_law_marking_here", "_law_other", "_law_age", "_law_paper"]
theorem sc_Lfew_right : FnScope N_Lfew_right ["_law_box_here", "_law_machine", "_law_log_here", "_law_told", "_law_given", "_law_bound"] (defScope s_Lfew_right) := ⟨rfl, rfl, rfl, by decide +kernel, rfl, by decide +kernel, by decide +kernel⟩
abbrev s_Lrefusals : Stmt := top 67
abbrev N_Lrefusals : List Str := ["_law_box_here", "_law_machine", "_law_log_here", "_law_good", "_law_bad", "_law_asks", "_law_ask"]
theorem sc_Lrefusals : FnScope N_Lrefusals ["_law_box_here", "_law_machine", "_law_log_here"] (defScope s_Lrefusals) := ⟨rfl, rfl, rfl, by decide +kernel, rfl, by decide +kernel, by decide +kernel⟩
abbrev s_law : Stmt := top 68
abbrev N_law : List Str := ["_law_script", "_law_k", "_law_box_here", "_law_tables_here", "_law_machine", "_law_log_here", "_law_told", "_law_some", "_law_given", "_law_kept_here", "_law_rows_here", "_law_bound", "_law_marking_here", "_law_due_here", "_law_told_so", "_law_paper", "_law_turn", "_law_value", "_law_holds_here"]
theorem sc_law : FnScope N_law ["_law_script"] (defScope s_law) := ⟨rfl, rfl, rfl, by decide +kernel, rfl, by decide +kernel, by decide +kernel⟩
def cOf (x : Str) (mg : Str → Option Value) : Addr := match mg x with
  | some (.ref a) => a
  | _ => 0
abbrev cB : (Str → Option Value) → Addr := cOf "BadLog"
abbrev cR : (Str → Option Value) → Addr := cOf "Refused"
/-- what the top has left of names -/
structure Txt (P : Program) (K : PySem.W.Frag) (mg : Str → Option Value) : Prop where
  n_isinstance : mg "isinstance" = none
  n_len : mg "len" = none
  n_abs : mg "abs" = none
  n_min : mg "min" = none
  n_all : mg "all" = none
  n_sorted : mg "sorted" = none
  n_repr : mg "repr" = none
  n_int : mg "int" = none
  n_bool : mg "bool" = none
  n_str : mg "str" = none
  n_list : mg "list" = none
  n_tuple : mg "tuple" = none
  n_range : mg "range" = none
  n_zip : mg "zip" = none
  n_enumerate : mg "enumerate" = none
  MOST_DEEDS : ∃ t, mg "MOST_DEEDS" = some (.int 8 t)
  MOST_STATES : ∃ t, mg "MOST_STATES" = some (.int 12 t)
  MOST_LOG : ∃ t, mg "MOST_LOG" = some (.int 10000 t)
  BadLog : XcT P K mg "BadLog" (cB mg)
  Refused : XcT P K mg "Refused" (cR mg)
end Ag
set_option Elab.async false
set_option linter.all false
set_option maxRecDepth 100000
set_option maxHeartbeats 2000000
/-! Ag3: what each piece of syntax comes to, by data. -/
namespace Ag
open PySem PySem.Spec PyProof.Rows L2
section
variable {K : PySem.W.Frag} {Γ : Gam} {M : Mem} {ta tb te tc : TE} {tt tu : TT} {tA : TA} {T U R : Ty} {Ts : List Ty} {P P' : Bool → Prop} {G0 G1 : Hp} {D : Ends} {ts : TS} {d e : PyData} {ds es : List PyData} {i j : Int} {b : Bool}
/-! ### iL -/
theorem rv_I0 {g : Int → Int → V} {f : PyData} (h : ∀ G, Dp K G (g i j) f) : RvO M (rI0 g) (tD K (.int i)) (tD K (.int j)) (tD K f) := fun G H x y w hx hy Q q => by
  cases hx; cases hy
  exact ⟨i, j, rfl, rfl, q _ G H (Same.refl _) w (h G)⟩
theorem rv_I {C : Int → Int → Prop} {g : Int → Int → V} {f : PyData} (c : C i j) (h : ∀ G, Dp K G (g i j) f) : RvO M (rI C g) (tD K (.int i)) (tD K (.int j)) (tD K f) := fun G H x y w hx hy Q q => by
  cases hx; cases hy
  exact ⟨i, j, rfl, rfl, c, q _ G H (Same.refl _) w (h G)⟩
theorem ev_add (ha : Ev Γ M ta (tD K (.int i))) (hb : Ev Γ M tb (tD K (.int j))) : Ev Γ M (tOp (rI0 fun i j => .int (i + j)) ta tb) (tD K (.int (i + j))) := ev_op ha hb (rv_I0 fun _ => .int _)
theorem ev_sub (ha : Ev Γ M ta (tD K (.int i))) (hb : Ev Γ M tb (tD K (.int j))) : Ev Γ M (tOp (rI0 fun i j => .int (i - j)) ta tb) (tD K (.int (i - j))) := ev_op ha hb (rv_I0 fun _ => .int _)
theorem ev_mul (ha : Ev Γ M ta (tD K (.int i))) (hb : Ev Γ M tb (tD K (.int j))) (c : CMul i j) : Ev Γ M (tOp (rI CMul fun i j => .int (i * j)) ta tb) (tD K (.int (i * j))) := ev_op ha hb (rv_I c fun _ => .int _)
theorem ev_mod (ha : Ev Γ M ta (tD K (.int i))) (hb : Ev Γ M tb (tD K (.int j))) (c : 0 < j) : Ev Γ M (tOp (rI (fun _ j => 0 < j) fun i j => .int (i % j)) ta tb) (tD K (.int (i % j))) := ev_op ha hb (rv_I c fun _ => .int _)
theorem ev_fdiv (ha : Ev Γ M ta (tD K (.int i))) (hb : Ev Γ M tb (tD K (.int j))) (c : CDivN i j) : Ev Γ M (tOp (rI CDivN fun i j => .int (i.fdiv j)) ta tb) (tD K (.int (i.fdiv j))) := ev_op ha hb (rv_I c fun _ => .int _)
theorem ev_pow (ha : Ev Γ M ta (tD K (.int i))) (hb : Ev Γ M tb (tD K (.int j))) (c : CPow i j) : Ev Γ M (tOp (rI CPow fun i j => .int (i ^ j.toNat)) ta tb) (tD K (.int (i ^ j.toNat))) := ev_op ha hb (rv_I c fun _ => .int _)
theorem ev_lt (ha : Ev Γ M ta (tD K (.int i))) (hb : Ev Γ M tb (tD K (.int j))) : Ev Γ M (tOp (rI0 fun i j => .bl (decide (i < j))) ta tb) (tD K (.bool (decide (i < j)))) := ev_op ha hb (rv_I0 fun _ => .bl _)
theorem ev_le (ha : Ev Γ M ta (tD K (.int i))) (hb : Ev Γ M tb (tD K (.int j))) : Ev Γ M (tOp (rI0 fun i j => .bl (decide (i ≤ j))) ta tb) (tD K (.bool (decide (i ≤ j)))) := ev_op ha hb (rv_I0 fun _ => .bl _)
theorem ev_gt (ha : Ev Γ M ta (tD K (.int i))) (hb : Ev Γ M tb (tD K (.int j))) : Ev Γ M (tOp (rI0 fun i j => .bl (decide (j < i))) ta tb) (tD K (.bool (decide (j < i)))) := ev_op ha hb (rv_I0 fun _ => .bl _)
theorem ev_ge (ha : Ev Γ M ta (tD K (.int i))) (hb : Ev Γ M tb (tD K (.int j))) : Ev Γ M (tOp (rI0 fun i j => .bl (decide (j ≤ i))) ta tb) (tD K (.bool (decide (j ≤ i)))) := ev_op ha hb (rv_I0 fun _ => .bl _)
/-- iL of which only something is known -/
def tIP (K : PySem.W.Frag) (P : Int → Prop) : Ty := tEx fun r : { r : Int // P r } => tD K (.int r.1)
theorem tIP_p {P : Int → Prop} {G : Hp} {v : V} (h : (tIP K P).p G v) : ∃ r, v = .int r ∧ P r := by
  obtain ⟨⟨r, hr⟩, h⟩ := h
  cases h
  exact ⟨r, rfl, hr⟩
theorem tIP_of {P : Int → Prop} {G : Hp} {r : Int} (h : P r) : (tIP K P).p G (.int r) := ⟨⟨r, h⟩, .int r⟩
theorem ev_addP {P Q : Int → Prop} (ha : Ev Γ M ta (tD K (.int i))) (hb : Ev Γ M tb (tIP K P)) (k : ∀ r, P r → Q (i + r)) : Ev Γ M (tOp (rI0 fun i j => .int (i + j)) ta tb) (tIP K Q) := ev_op ha hb fun G H x y w hx hy Q' q => by
  cases hx
  obtain ⟨r, rfl, hr⟩ := tIP_p hy
  exact ⟨i, r, rfl, rfl, q _ G H (Same.refl _) w (tIP_of (k r hr))⟩
theorem ev_gtP {P : Int → Prop} {Pb : Bool → Prop} (ha : Ev Γ M ta (tIP K P)) (hb : Ev Γ M tb (tD K (.int j))) (k : ∀ r, P r → Pb (decide (j < r))) : Ev Γ M (tOp (rI0 fun i j => .bl (decide (j < i))) ta tb) (tBP Pb) := ev_op ha hb fun G H x y w hx hy Q' q => by
  cases hy
  obtain ⟨r, rfl, hr⟩ := tIP_p hx
  exact ⟨r, j, rfl, rfl, q _ G H (Same.refl _) w ⟨_, rfl, k r hr⟩⟩
/-! ### == of data, is None -/
theorem ev_eq (ha : Ev Γ M ta (tD K d)) (hb : Ev Γ M tb (tD K e)) (hd : SeqAt.shaped d = true) (he : SeqAt.shaped e = true) : Ev Γ M (tOp (rEqD K) ta tb) (tD K (.bool (PyData.eqv d e))) := ev_op ha hb fun G H x y w hx hy Q q =>
  ⟨d, e, Dp.mono w.le hx, Dp.mono w.le hy, hd, he, q _ G H (Same.refl _) w (.bl _)⟩
theorem ev_ne (ha : Ev Γ M ta (tD K d)) (hb : Ev Γ M tb (tD K e)) (hd : SeqAt.shaped d = true) (he : SeqAt.shaped e = true) : Ev Γ M (tOp (rNeD K) ta tb) (tD K (.bool (!PyData.eqv d e))) := ev_op ha hb fun G H x y w hx hy Q q =>
  ⟨d, e, Dp.mono w.le hx, Dp.mono w.le hy, hd, he, q _ G H (Same.refl _) w (.bl _)⟩
theorem ev_eqI (ha : Ev Γ M ta (tD K (.int i))) (hb : Ev Γ M tb (tD K (.int j))) : Ev Γ M (tOp (rEqD K) ta tb) (tD K (.bool (decide (i = j)))) := by
  have h := ev_eq ha hb rfl rfl
  have e : PyData.eqv (.int i) (.int j) = decide (i = j) := by unfold PyData.eqv; by_cases c : i = j <;> simp [c]
  rw [e] at h
  exact h
theorem ev_neI (ha : Ev Γ M ta (tD K (.int i))) (hb : Ev Γ M tb (tD K (.int j))) : Ev Γ M (tOp (rNeD K) ta tb) (tD K (.bool (!decide (i = j)))) := by
  have h := ev_ne ha hb rfl rfl
  have e : PyData.eqv (.int i) (.int j) = decide (i = j) := by unfold PyData.eqv; by_cases c : i = j <;> simp [c]
  rw [e] at h
  exact h
theorem ev_eqP {P : Int → Prop} {Pb : Bool → Prop} (ha : Ev Γ M ta (tIP K P)) (hb : Ev Γ M tb (tD K (.int j))) (k : ∀ r, P r → Pb (decide (r = j))) : Ev Γ M (tOp (rEqD K) ta tb) (tBP Pb) := ev_op ha hb fun G H x y w hx hy Q' q => by
  cases hy
  obtain ⟨r, rfl, hr⟩ := tIP_p hx
  refine ⟨.int r, .int j, .int r, .int j, rfl, rfl, q _ G H (Same.refl _) w ⟨_, rfl, ?_⟩⟩
  have e : PyData.eqv (.int r) (.int j) = decide (r = j) := by unfold PyData.eqv; by_cases c : r = j <;> simp [c]
  rw [e]
  exact k r hr
def isNone : PyData → Bool
  | .none => true
  | _ => false
theorem dp_none {G : Hp} {v : V} (h : Dp K G v d) : decide (v = .non) = isNone d := by cases h <;> simp [isNone]
theorem ev_isN (ha : Ev Γ M ta (tD K d)) : Ev Γ M (tOp (fun x y H Q => y = .non ∧ Q (.bl (decide (x = .non))) H) ta (tC .non)) (tD K (.bool (isNone d))) := ev_op (U := tV .non) ha ev_cv fun G H x y w hx hy Q q => by
  cases hy
  exact ⟨rfl, by rw [dp_none hx]; exact q _ G H (Same.refl _) w (.bl _)⟩
theorem ev_notN (ha : Ev Γ M ta (tD K d)) : Ev Γ M (tOp (fun x y H Q => y = .non ∧ Q (.bl (!decide (x = .non))) H) ta (tC .non)) (tD K (.bool (!isNone d))) := ev_op (U := tV .non) ha ev_cv fun G H x y w hx hy Q q => by
  cases hy
  exact ⟨rfl, by rw [dp_none hx]; exact q _ G H (Same.refl _) w (.bl _)⟩
/-! ### lists and tuples -/
/-- a list that is tracked by itself -/
def tL (K : PySem.W.Frag) (ds : List PyData) : Ty := ⟨fun G v => ∃ a xs, v = .ref a ∧ G a = some (.lst xs) ∧ DpAll K G xs ds, fun e ⟨a, xs, h1, h2, h3⟩ => ⟨a, xs, h1, e _ _ h2, DpAll.mono e h3⟩⟩
theorem tL_D {G : Hp} {v : V} (h : (tL K ds).p G v) : (tD K (.list ds)).p G v := by
  obtain ⟨a, xs, rfl, h2, h3⟩ := h
  exact .lst (SqL.of h2) h3
theorem ev_LD (h : Ev Γ M te (tL K ds)) : Ev Γ M te (tD K (.list ds)) := ev_mono h fun _ _ => tL_D
theorem ev_LQ (h : Ev Γ M te (tL K ds)) : Ev Γ M te (tQ K ds) := ev_mono h fun _ _ x => .inl (tL_D x)
theorem ev_lQ (h : Ev Γ M te (tD K (.list ds))) : Ev Γ M te (tQ K ds) := ev_mono h fun _ _ x => .inl x
theorem ev_tQ (h : Ev Γ M te (tD K (.tuple ds))) : Ev Γ M te (tQ K ds) := ev_mono h fun _ _ x => .inr x
theorem tQ_at {G : Hp} {v : V} (h : (tQ K ds).p G v) : ∃ a xs, v = .ref a ∧ (SqL K G a xs ∨ SqT K G a xs) ∧ DpAll K G xs ds := by
  rcases h with h | h
  · cases h with
    | lst h1 h2 => exact ⟨_, _, rfl, .inl h1, h2⟩
  · cases h with
    | tup h1 h2 => exact ⟨_, _, rfl, .inr h1, h2⟩
/-- many data -/
def tDs (K : PySem.W.Frag) (ds : List PyData) : List Ty := ds.map (tD K)
theorem tys_all {G : Hp} : ∀ {vs : List V} {ds : List PyData}, Tys G vs (tDs K ds) → DpAll K G vs ds
  | _, [], h => by cases h; exact .nil
  | _, d :: ds, h => by
    cases h with
    | cons h1 h2 => exact .cons h1 (tys_all h2)
theorem ev_lst (ha : EvA Γ M tA (tDs K ds)) (hz : ds.length ≤ 1000000 := by decide) : Ev Γ M (tLst tA) (tL K ds) := fun G σ H s w Q q =>
  ha G σ H s w _ fun vs G1 H1 e1 w1 h1 => by
    have hd := tys_all h1
    refine ⟨by rw [DpAll.len hd, sizeLine_eq]; omega, fun p hp => ?_⟩
    obtain ⟨w2, e2⟩ := w1.alloc hp (.lst vs)
    exact q _ _ _ (e1.trans e2) w2 ⟨p, vs, rfl, upd_same, DpAll.mono e2 hd⟩
theorem ev_tup (ha : EvA Γ M tA (tDs K ds)) (hz : ds.length ≤ 1000000 := by decide) : Ev Γ M (tTup tA) (tD K (.tuple ds)) := fun G σ H s w Q q =>
  ha G σ H s w _ fun vs G1 H1 e1 w1 h1 => by
    have hd := tys_all h1
    refine ⟨by rw [DpAll.len hd, sizeLine_eq]; omega, fun p hp => ?_⟩
    obtain ⟨w2, e2⟩ := w1.alloc hp (.tup vs)
    exact q _ _ _ (e1.trans e2) w2 (.tup (SqT.of upd_same) (DpAll.mono e2 hd))
/-- the item at an index -/
theorem at_dp {G : Hp} {xs : List V} {d : PyData} (h : DpAll K G xs ds) (ha : atI ds i = some d) : ∃ v, atI xs i = some v ∧ Dp K G v d := by
  unfold atI at ha ⊢
  rw [DpAll.len h]
  cases e : ixN ds.length i with
  | none => rw [e] at ha; cases ha
  | some j =>
    rw [e] at ha
    exact DpAll.at_ h ha
theorem ev_ix (ha : Ev Γ M ta (tQ K ds)) (hb : Ev Γ M tb (tD K (.int i))) (h : atI ds i = some d) : Ev Γ M (tOp (rIx K) ta tb) (tD K d) := ev_op ha hb fun G H x y w hx hy Q q => by
  cases hy
  obtain ⟨a, xs, rfl, hs, hd⟩ := tQ_at hx
  obtain ⟨v, h1, h2⟩ := at_dp hd h
  have fin := q v G H (Same.refl _) w h2
  rcases hs with hs | hs
  · exact .inl ⟨a, xs, i, v, rfl, rfl, SqL.mono w.le hs, h1, fin⟩
  · exact .inr (.inl ⟨a, xs, i, v, rfl, rfl, SqT.mono w.le hs, h1, fin⟩)
theorem ev_len (ha : Ev Γ M ta (tQ K ds)) : Ev Γ M (tCB (rLenQ K) (tCons ta tNil)) (tD K (.int ds.length)) := ev_cb (ea_cons ha ea_nil) fun G H vs w h Q q => by
  cases h with
  | cons hx hr =>
    cases hr
    obtain ⟨a, xs, rfl, hs, hd⟩ := tQ_at hx
    refine ⟨_, xs.length, rfl, ?_, by rw [DpAll.len hd]; exact q _ G H (Same.refl _) w (.int _)⟩
    rcases hs with hs | hs
    · exact .inl ⟨xs, SqL.mono w.le hs, rfl⟩
    · exact .inr ⟨xs, SqT.mono w.le hs, rfl⟩
theorem ev_tupleOf (ha : Ev Γ M ta (tQ K ds)) : Ev Γ M (tCB (rTupleOf K) (tCons ta tNil)) (tD K (.tuple ds)) := ev_cb (ea_cons ha ea_nil) fun G H vs w h Q q => by
  cases h with
  | cons hx hr =>
    cases hr
    obtain ⟨a, xs, rfl, hs, hd⟩ := tQ_at hx
    refine ⟨a, xs, rfl, ?_⟩
    rcases hs with hs | hs
    · refine .inl ⟨SqL.mono w.le hs, fun p hp => ?_⟩
      obtain ⟨w2, e2⟩ := w.alloc hp (.tup xs)
      exact q _ _ _ e2 w2 (.tup (SqT.of upd_same) (DpAll.mono e2 hd))
    · exact .inr ⟨SqT.mono w.le hs, q _ G H (Same.refl _) w (.tup hs hd)⟩
theorem ev_listOf (ha : Ev Γ M ta (tQ K ds)) : Ev Γ M (tCB (rListOf K) (tCons ta tNil)) (tL K ds) := ev_cb (ea_cons ha ea_nil) fun G H vs w h Q q => by
  cases h with
  | cons hx hr =>
    cases hr
    obtain ⟨a, xs, rfl, hs, hd⟩ := tQ_at hx
    refine ⟨a, xs, rfl, hs.imp (SqL.mono w.le) (SqT.mono w.le), fun p hp => ?_⟩
    obtain ⟨w2, e2⟩ := w.alloc hp (.lst xs)
    exact q _ _ _ e2 w2 ⟨p, xs, rfl, upd_same, DpAll.mono e2 hd⟩
def iL (l : List Int) : List PyData := l.map .int
theorem dpAll_ints {G : Hp} : ∀ l : List Int, DpAll K G (l.map V.int) (iL l)
  | [] => .nil
  | i :: l => .cons (.int i) (dpAll_ints l)
theorem ints_dp {G : Hp} : ∀ {vs : List V} {l : List Int}, DpAll K G vs (iL l) → vs = l.map V.int
  | _, [], h => by cases h; rfl
  | _, i :: l, h => by
    cases h with
    | cons h1 h2 => cases h1; rw [ints_dp h2, List.map_cons]
def upto (n : Nat) : List Int := (List.range n).map fun (k : Nat) => (k : Int)
theorem rgV_upto (n : Nat) : rgV 0 (n : Int) = (upto n).map V.int := by
  unfold rgV upto
  rw [List.map_map]
  have e : ((n : Int) - 0).toNat = n := by omega
  rw [e]
  apply List.map_congr_left
  intro k _
  simp
theorem ev_tupRg {n : Nat} (ha : Ev Γ M ta (tD K (.int n))) (hn : n ≤ 1000000) : Ev Γ M (tTupRg (tRg1 ta)) (tD K (.tuple (iL (upto n)))) := fun G σ H s w Q q =>
  ha G σ H s w _ fun v G1 H1 e1 w1 h1 => by
    cases h1
    refine ⟨n, rfl, ⟨by omega, by omega, by omega, by omega, by omega⟩, fun p hp => ?_⟩
    obtain ⟨w2, e2⟩ := w1.alloc hp (.tup (rgV 0 (n : Int)))
    exact q _ _ _ (e1.trans e2) w2 (.tup (SqT.of upd_same) (by rw [rgV_upto]; exact dpAll_ints _))
theorem ev_lstRg {n : Nat} (ha : Ev Γ M ta (tD K (.int n))) (hn : n ≤ 1000000) : Ev Γ M (tLstRg (tRg1 ta)) (tL K (iL (upto n))) := fun G σ H s w Q q =>
  ha G σ H s w _ fun v G1 H1 e1 w1 h1 => by
    cases h1
    refine ⟨n, rfl, ⟨by omega, by omega, by omega, by omega, by omega⟩, fun p hp => ?_⟩
    obtain ⟨w2, e2⟩ := w1.alloc hp (.lst (rgV 0 (n : Int)))
    exact q _ _ _ (e1.trans e2) w2 ⟨p, _, rfl, upd_same, by rw [rgV_upto]; exact dpAll_ints _⟩
/-- slices -/
def cutD (ds : List PyData) (lo hi : Option Int) : List PyData := (ds.drop (HT.sIx ds.length 0 lo)).take (HT.sIx ds.length ds.length hi - HT.sIx ds.length 0 lo)
def EvO (Γ : Gam) (M : Mem) (to : TO) (o : Option Int) : Prop := ∀ (G : Hp) (σ : L2.St) (H : Hp), Sd G σ Γ → Wd G M H → ∀ Q : Option Int → Hp → Prop, (∀ G' H', Same G G' → Wd G' M H' → Q o H') → to σ H Q
theorem eo_none : EvO Γ M tNoPart none := fun G σ H s w Q q => q G H (Same.refl _) w
theorem eo_some (h : Ev Γ M te (tD K (.int i))) : EvO Γ M (tPart te) (some i) := fun G σ H s w Q q => h G σ H s w _ fun v G1 H1 e1 w1 h1 => by
  cases h1
  exact ⟨i, rfl, q G1 H1 e1 w1⟩
theorem dp_cut {G : Hp} {xs : List V} (h : DpAll K G xs ds) (lo hi : Option Int) : DpAll K G (cutV xs lo hi) (cutD ds lo hi) := by
  unfold cutV cutD
  rw [DpAll.len h]
  exact DpAll.take _ (DpAll.drop _ h)
theorem cut_all {α : Type} (xs : List α) (lo hi : Option Int) (h : HT.sIx xs.length 0 lo = 0 ∧ HT.sIx xs.length xs.length hi = xs.length) : (xs.drop (HT.sIx xs.length 0 lo)).take (HT.sIx xs.length xs.length hi - HT.sIx xs.length 0 lo) = xs := by
  rw [h.1, h.2]; simp
theorem sl_list_ {G H : Hp} {v : V} {lo hi : Option Int} (w : Wd G M H) (h : Dp K G v (.list ds)) (Q : VK) (q : ∀ v G' H', Same G G' → Wd G' M H' → (tL K (cutD ds lo hi)).p G' v → Q v H') : rSlQ K v lo hi H Q := by
  cases h with
  | @lst a xs _ hs hd =>
    refine .inl ⟨a, xs, rfl, SqL.mono w.le hs, fun p hp => ?_⟩
    obtain ⟨w4, e4⟩ := w.alloc hp (.lst (cutV xs lo hi))
    exact q _ _ _ e4 w4 ⟨p, _, rfl, upd_same, dp_cut (DpAll.mono e4 hd) lo hi⟩
theorem sl_tup_ {G H : Hp} {v : V} {lo hi : Option Int} (w : Wd G M H) (h : Dp K G v (.tuple ds)) (Q : VK) (q : ∀ v G' H', Same G G' → Wd G' M H' → Dp K G' v (.tuple (cutD ds lo hi)) → Q v H') : rSlQ K v lo hi H Q := by
  cases h with
  | @tup a xs _ hs hd =>
    have hl := DpAll.len hd
    refine .inr ⟨a, xs, rfl, SqT.mono w.le hs, fun c => ?_, fun _ p hp => ?_⟩
    · refine q _ G H (Same.refl _) w ?_
      have e : cutD ds lo hi = ds := by
        rw [hl] at c
        exact cut_all ds lo hi c
      rw [e]
      exact .tup hs hd
    · obtain ⟨w4, e4⟩ := w.alloc hp (.tup (cutV xs lo hi))
      exact q _ _ _ e4 w4 (.tup (SqT.of upd_same) (dp_cut (DpAll.mono e4 hd) lo hi))
theorem ev_sl_ {lo hi : Option Int} {tl th : TO} (he : Ev Γ M te T) (hl : EvO Γ M tl lo) (hh : EvO Γ M th hi)
    (k : ∀ (G H : Hp) (v : V), Wd G M H → T.p G v → ∀ Q : VK, (∀ v G' H', Same G G' → Wd G' M H' → R.p G' v → Q v H') → rSlQ K v lo hi H Q) : Ev Γ M (tSl (rSlQ K) te tl th) R := fun G σ H s w Q q =>
  he G σ H s w _ fun v G1 H1 e1 w1 h1 => hl G1 σ H1 (s.mono e1) w1 _ fun G2 H2 e2 w2 => hh G2 σ H2 (s.mono (e1.trans e2)) w2 _ fun G3 H3 e3 w3 =>
    k G3 H3 v w3 (T.mono (e2.trans e3) h1) Q fun v G' H' e' w' t => q v G' H' (((e1.trans e2).trans e3).trans e') w' t
theorem ev_slL {lo hi : Option Int} {tl th : TO} (he : Ev Γ M te (tD K (.list ds))) (hl : EvO Γ M tl lo) (hh : EvO Γ M th hi) : Ev Γ M (tSl (rSlQ K) te tl th) (tL K (cutD ds lo hi)) := ev_sl_ he hl hh fun _ _ _ w h Q q => sl_list_ w h Q q
theorem ev_slT {lo hi : Option Int} {tl th : TO} (he : Ev Γ M te (tD K (.tuple ds))) (hl : EvO Γ M tl lo) (hh : EvO Γ M th hi) : Ev Γ M (tSl (rSlQ K) te tl th) (tD K (.tuple (cutD ds lo hi))) := ev_sl_ he hl hh fun _ _ _ w h Q q => sl_tup_ w h Q q
theorem ev_slQ {lo hi : Option Int} {tl th : TO} (he : Ev Γ M te (tQ K ds)) (hl : EvO Γ M tl lo) (hh : EvO Γ M th hi) : Ev Γ M (tSl (rSlQ K) te tl th) (tQ K (cutD ds lo hi)) := ev_sl_ he hl hh fun _ _ _ w h Q q =>
  h.elim (fun h => sl_list_ w h Q fun v G' H' e' w' t => q v G' H' e' w' (.inl (tL_D t))) (fun h => sl_tup_ w h Q fun v G' H' e' w' t => q v G' H' e' w' (.inr t))
/-! ### + and * of lists and tuples -/
theorem ev_cat (ha : Ev Γ M ta (tL K ds)) (hb : Ev Γ M tb (tL K es)) (hz : ds.length + es.length ≤ 1000000) : Ev Γ M (tOp rCat ta tb) (tL K (ds ++ es)) := ev_op ha hb fun G H x y w ⟨a, xs, ea, h1, h2⟩ ⟨b, ys, eb, k1, k2⟩ Q q => by
  refine ⟨a, b, xs, ys, ea, eb, w.le _ _ h1, w.le _ _ k1, by rw [DpAll.len h2, DpAll.len k2, sizeLine_eq]; omega, fun p hp => ?_⟩
  obtain ⟨w4, e4⟩ := w.alloc hp (.lst (xs ++ ys))
  exact q _ _ _ e4 w4 ⟨p, _, rfl, upd_same, DpAll.app (DpAll.mono e4 h2) (DpAll.mono e4 k2)⟩
theorem dp_flat {G : Hp} {xs : List V} (h : DpAll K G xs ds) : ∀ n : Nat, DpAll K G (List.replicate n xs).flatten (List.replicate n ds).flatten
  | 0 => .nil
  | n + 1 => by
    rw [List.replicate_succ, List.flatten_cons, List.replicate_succ, List.flatten_cons]
    exact DpAll.app h (dp_flat h n)
theorem flat_one {α : Type} (a : α) : ∀ n : Nat, (List.replicate n [a]).flatten = List.replicate n a
  | 0 => rfl
  | n + 1 => by rw [List.replicate_succ, List.flatten_cons, flat_one a n, List.replicate_succ]; rfl
/-- [d] * n -/
theorem ev_rep1 {n : Nat} (ha : Ev Γ M ta (tL K [d])) (hb : Ev Γ M tb (tD K (.int n))) (hz : n ≤ 1000000) : Ev Γ M (tOp rRep ta tb) (tL K (List.replicate n d)) := ev_op ha hb fun G H x y w ⟨a, xs, ea, h1, h2⟩ hy Q q => by
  cases hy
  have hl : xs.length = 1 := DpAll.len h2
  have e : ((n : Int)).toNat = n := by omega
  refine ⟨a, n, xs, ea, rfl, w.le _ _ h1, by omega, by omega, by rw [hl, sizeLine_eq]; omega, fun p hp => ?_⟩
  rw [e]
  obtain ⟨w4, e4⟩ := w.alloc hp (.lst (List.replicate n xs).flatten)
  refine q _ _ _ e4 w4 ⟨p, _, rfl, upd_same, ?_⟩
  have h5 := dp_flat (DpAll.mono e4 h2) n
  rw [flat_one] at h5
  exact h5
/-- (d,) * n -/
theorem ev_repT1 {n : Nat} (ha : Ev Γ M ta (tD K (.tuple [d]))) (hb : Ev Γ M tb (tD K (.int n))) (h2 : 2 ≤ n) (hz : n ≤ 1000) : Ev Γ M (tOp (rRepT K) ta tb) (tD K (.tuple (List.replicate n d))) := ev_op ha hb fun G H x y w hx hy Q q => by
  cases hy
  cases hx with
  | @tup a xs _ hs hd =>
    have hl : xs.length = 1 := DpAll.len hd
    have e : ((n : Int)).toNat = n := by omega
    refine ⟨a, n, xs, rfl, rfl, SqT.mono w.le hs, (by intro z; rw [z] at hl; cases hl), by omega, by omega, by omega, fun p hp => ?_⟩
    rw [e]
    obtain ⟨w4, e4⟩ := w.alloc hp (.tup (List.replicate n xs).flatten)
    refine q _ _ _ e4 w4 (.tup (SqT.of upd_same) ?_)
    have h5 := dp_flat (DpAll.mono e4 hd) n
    rw [flat_one] at h5
    exact h5
theorem ev_catT (ha : Ev Γ M ta (tD K (.tuple ds))) (hb : Ev Γ M tb (tD K (.tuple es))) (hz : ds.length + es.length ≤ 1000000) : Ev Γ M (tOp (rCatA K) ta tb) (tD K (.tuple (ds ++ es))) := ev_op ha hb fun G H x y w hx hy Q q => by
  cases hx with
  | @tup a xs _ hs hd =>
    cases hy with
    | @tup b ys _ ks kd =>
      refine ⟨a, b, xs, ys, rfl, rfl, SqT.mono w.le hs, SqT.mono w.le ks, by rw [DpAll.len hd, DpAll.len kd, sizeLine_eq]; omega, fun c => ?_, fun _ c => ?_, fun _ _ p hp => ?_⟩
      · have e : ds = [] := by have := DpAll.len hd; rw [c] at this; exact List.length_eq_zero_iff.mp this.symm
        rw [e] at q
        exact q _ G H (Same.refl _) w (.tup ks kd)
      · have e : es = [] := by have := DpAll.len kd; rw [c] at this; exact List.length_eq_zero_iff.mp this.symm
        rw [e, List.append_nil] at q
        exact q _ G H (Same.refl _) w (.tup hs hd)
      · obtain ⟨w4, e4⟩ := w.alloc hp (.tup (xs ++ ys))
        exact q _ _ _ e4 w4 (.tup (SqT.of upd_same) (DpAll.app (DpAll.mono e4 hd) (DpAll.mono e4 kd)))
/-! ### in -/
theorem flat_ints : ∀ l : List Int, (l.map V.int).all flatV = true
  | [] => rfl
  | i :: l => by rw [List.map_cons, List.all_cons, flat_ints l]; rfl
theorem inV_ints (i : Int) : ∀ l : List Int, inV (.int i) (l.map V.int) = decide (i ∈ l)
  | [] => by simp [inV]
  | j :: l => by
    have ih := inV_ints i l
    unfold inV at ih ⊢
    rw [List.map_cons, List.any_cons, ih]
    have e : eqV (.int j) (.int i) = decide (i = j) := by
      show (j == i) = decide (i = j)
      by_cases c : i = j
      · simp [c]
      · have c' : ¬ j = i := fun z => c z.symm
        simp [c, c']
    rw [e]
    by_cases c : i = j
    · simp [c]
    · simp [c]
theorem ev_in {l : List Int} (ha : Ev Γ M ta (tD K (.int i))) (hb : Ev Γ M tb (tQ K (iL l))) : Ev Γ M (tOp (rIn K false) ta tb) (tD K (.bool (decide (i ∈ l)))) := ev_op ha hb fun G H x y w hx hy Q q => by
  cases hx
  obtain ⟨a, xs, rfl, hs, hd⟩ := tQ_at hy
  have e := ints_dp hd
  subst e
  refine ⟨a, _, rfl, hs.imp (SqL.mono w.le) (SqT.mono w.le), rfl, flat_ints l, ?_⟩
  show Q (.bl (inV (.int i) (l.map V.int))) H
  rw [inV_ints]
  exact q _ G H (Same.refl _) w (.bl _)
theorem ev_notIn {l : List Int} (ha : Ev Γ M ta (tD K (.int i))) (hb : Ev Γ M tb (tQ K (iL l))) : Ev Γ M (tOp (rIn K true) ta tb) (tD K (.bool (!decide (i ∈ l)))) := ev_op ha hb fun G H x y w hx hy Q q => by
  cases hx
  obtain ⟨a, xs, rfl, hs, hd⟩ := tQ_at hy
  have e := ints_dp hd
  subst e
  refine ⟨a, _, rfl, hs.imp (SqL.mono w.le) (SqT.mono w.le), rfl, flat_ints l, ?_⟩
  show Q (.bl (!inV (.int i) (l.map V.int))) H
  rw [inV_ints]
  exact q _ G H (Same.refl _) w (.bl _)
/-! ### built-ins -/
theorem ev_intI (ha : Ev Γ M ta (tD K (.int i))) : Ev Γ M (tCB rIntI (tCons ta tNil)) (tD K (.int i)) := ev_cb (ea_cons ha ea_nil) fun G H vs w h Q q => by
  cases h with
  | cons hx hr => cases hr; cases hx; exact .inl ⟨i, rfl, q _ G H (Same.refl _) w (.int _)⟩
theorem ev_absI (ha : Ev Γ M ta (tD K (.int i))) : Ev Γ M (tCB rAbsI (tCons ta tNil)) (tD K (.int (if i < 0 then -i else i))) := ev_cb (ea_cons ha ea_nil) fun G H vs w h Q q => by
  cases h with
  | cons hx hr => cases hr; cases hx; exact ⟨i, rfl, q _ G H (Same.refl _) w (.int _)⟩
theorem ev_min2 (ha : Ev Γ M ta (tD K (.int i))) (hb : Ev Γ M tb (tD K (.int j))) : Ev Γ M (tCB rMinTwo (tCons ta (tCons tb tNil))) (tD K (.int (if j < i then j else i))) := ev_cb (ea_cons ha (ea_cons hb ea_nil)) fun G H vs w h Q q => by
  cases h with
  | cons hx hr => cases hr with
    | cons hy hr => cases hr; cases hx; cases hy; exact ⟨i, j, rfl, q _ G H (Same.refl _) w (.int _)⟩
def bools (l : List Bool) : List PyData := l.map .bool
theorem bools_dp {G : Hp} : ∀ {vs : List V} {l : List Bool}, DpAll K G vs (bools l) → vs = l.map V.bl
  | _, [], h => by cases h; rfl
  | _, i :: l, h => by
    cases h with
    | cons h1 h2 => cases h1; rw [bools_dp h2, List.map_cons]
theorem ev_all {l : List Bool} (ha : Ev Γ M ta (tD K (.list (bools l)))) : Ev Γ M (tCB (rAll K) (tCons ta tNil)) (tD K (.bool (l.all id))) := ev_cb (ea_cons ha ea_nil) fun G H vs w h Q q => by
  cases h with
  | cons hx hr =>
    cases hr
    cases hx with
    | lst hs hd =>
      have e := bools_dp hd
      subst e
      exact ⟨_, l, rfl, SqL.mono w.le hs, q _ G H (Same.refl _) w (.bl _)⟩
/-! ### the kinds of data, isinstance -/
def isInt : PyData → Bool
  | .int _ => true
  | .bool _ => true
  | _ => false
def isBool : PyData → Bool
  | .bool _ => true
  | _ => false
def isStr : PyData → Bool
  | .str _ => true
  | _ => false
def isSeq : PyData → Bool
  | .list _ => true
  | .tuple _ => true
  | _ => false
end
end Ag
set_option Elab.async false
set_option linter.all false
set_option maxRecDepth 100000
set_option maxHeartbeats 2000000
/-! Ag4: what is walked, loops, comprehensions, calls, objects. -/
namespace Ag
open PySem PySem.Spec PyProof.Rows L2
/-! ### what is walked -/
/-- from G' on: n turns, the i-th item of type Ti i -/
structure Wk (G' : Hp) (J : It) (n : Nat) (Ti : Nat → Ty) : Prop where
  go : ∀ (i : Nat) (G2 : Hp) (M2 : Mem) (H : Hp), i < n → Same G' G2 → Wd G2 M2 H → J.go i H
  stop : ∀ (G2 : Hp) (M2 : Mem) (H : Hp), Same G' G2 → Wd G2 M2 H → J.stop n H
  yld : ∀ (i : Nat) (G2 : Hp) (M2 : Mem) (H : Hp) (x : V) (H' : Hp), i < n → Same G' G2 → Wd G2 M2 H → J.yld i H x H' → ∃ G3, Same G2 G3 ∧ Wd G3 M2 H' ∧ (Ti i).p G3 x
def It1 (Γ : Gam) (M : Mem) (wi : TI) (n : Nat) (Ti : Nat → Ty) : Prop := ∀ (G : Hp) (σ : L2.St) (H : Hp), Sd G σ Γ → Wd G M H → ∀ R : It → Hp → Prop, (∀ J G' H', Same G G' → Wd G' M H' → Wk G' J n Ti → R J H') → wi σ H R
/-- a target -/
def Tg (g : TG) (T : Ty) (Γ Γ' : Gam) (vs : List Nat) : Prop := ∀ (G : Hp) (σ : L2.St) (M : Mem) (H : Hp) (x : V), Sd G σ Γ → Wd G M H → T.p G x → ∀ Q : L2.St → Hp → Prop, (∀ σ' : L2.St, Sd G σ' Γ' → σ'.length = σ.length → (∀ i : Nat, i ∉ vs → σ'[i]? = σ[i]?) → Q σ' H) → g x σ H Q
section
variable {K : PySem.W.Frag} {Γ Γ' : Gam} {M : Mem} {ta tb te tl : TE} {tt : TT} {tA : TA} {T U R : Ty} {Ti : Nat → Ty} {G0 G1 : Hp} {D : Ends} {ts tbd : TS} {d e : PyData} {ds es : List PyData} {n : Nat} {g : TG} {vs : List Nat} {wi : TI}
def dAt (ds : List PyData) (i : Nat) : PyData := (ds[i]?).getD .none
theorem dAt_lt {ds : List PyData} {i : Nat} (h : i < ds.length) : ds[i]? = some (dAt ds i) := by
  unfold dAt
  rw [List.getElem?_eq_getElem h]
  rfl
theorem wk_list {G' : Hp} {a : Addr} {xs : List V} (hs : SqL K G' a xs) (hd : DpAll K G' xs ds) : Wk G' (Itl K a) ds.length (fun i => tD K (dAt ds i)) where
  go := fun i G2 M2 H hi e w => walk_list.goes i H (by rw [DpAll.len hd]; exact hi) (SqL.mono (e.trans w.le) hs)
  stop := fun G2 M2 H e w => by rw [← DpAll.len hd]; exact walk_list.stops H (SqL.mono (e.trans w.le) hs)
  yld := fun i G2 M2 H x H' hi e w y => by
    obtain ⟨e1, e2⟩ := walk_list.yields i H x H' (by rw [DpAll.len hd]; exact hi) (SqL.mono (e.trans w.le) hs) y
    subst e1
    obtain ⟨v, h1, h2⟩ := DpAll.at_ hd (dAt_lt hi)
    rw [e2] at h1
    cases h1
    exact ⟨G2, Same.refl _, w, Dp.mono e h2⟩
theorem wk_tup {G' : Hp} {a : Addr} {xs : List V} (hs : SqT K G' a xs) (hd : DpAll K G' xs ds) : Wk G' (Itt K a) ds.length (fun i => tD K (dAt ds i)) where
  go := fun i G2 M2 H hi e w => walk_tup.goes i H (by rw [DpAll.len hd]; exact hi) (SqT.mono (e.trans w.le) hs)
  stop := fun G2 M2 H e w => by rw [← DpAll.len hd]; exact walk_tup.stops H (SqT.mono (e.trans w.le) hs)
  yld := fun i G2 M2 H x H' hi e w y => by
    obtain ⟨e1, e2⟩ := walk_tup.yields i H x H' (by rw [DpAll.len hd]; exact hi) (SqT.mono (e.trans w.le) hs) y
    subst e1
    obtain ⟨v, h1, h2⟩ := DpAll.at_ hd (dAt_lt hi)
    rw [e2] at h1
    cases h1
    exact ⟨G2, Same.refl _, w, Dp.mono e h2⟩
theorem it_seq (h : Ev Γ M tl (tQ K ds)) : It1 Γ M (iSeq K tl) ds.length (fun i => tD K (dAt ds i)) := fun G σ H s w R q =>
  h G σ H s w _ fun v G1 H1 e1 w1 h1 => by
    obtain ⟨a, xs, rfl, hs, hd⟩ := tQ_at h1
    refine ⟨a, xs, rfl, ?_⟩
    rcases hs with hs | hs
    · exact .inl ⟨SqL.mono w1.le hs, q _ G1 H1 e1 w1 (wk_list hs hd)⟩
    · exact .inr ⟨SqT.mono w1.le hs, q _ G1 H1 e1 w1 (wk_tup hs hd)⟩
theorem wk_range {G' : Hp} {lo : Int} : Wk G' (Itr lo n) n (fun i => tD K (.int (lo + i))) where
  go := fun i G2 M2 H hi e w => hi
  stop := fun G2 M2 H e w => Nat.le_refl _
  yld := fun i G2 M2 H x H' hi e w y => by
    obtain ⟨e1, e2⟩ := y
    subst e1 e2
    exact ⟨G2, Same.refl _, w, .int _⟩
theorem it_rng1 (h : Ev Γ M ta (tD K (.int n))) (hz : n ≤ 1000000) : It1 Γ M (iRng1 (tCons ta tNil)) n (fun i => tD K (.int i)) := fun G σ H s w R q =>
  (ea_cons h ea_nil) G σ H s w _ fun vs G1 H1 e1 w1 h1 => by
    cases h1 with
    | cons hx hr =>
      cases hr
      cases hx
      refine ⟨n, rfl, by omega, by omega, ?_⟩
      have e : ((n : Int)).toNat = n := by omega
      rw [e]
      refine q _ G1 H1 e1 w1 ?_
      have k : Wk G1 (Itr 0 n) n (fun i => tD K (.int (0 + i))) := wk_range
      simpa using k
theorem it_rng2 {lo hi : Nat} (ha : Ev Γ M ta (tD K (.int lo))) (hb : Ev Γ M tb (tD K (.int hi))) (hz : hi ≤ 1000000) (hz2 : lo ≤ 1000000) : It1 Γ M (iRng2 (tCons ta (tCons tb tNil))) (hi - lo) (fun i => tD K (.int (lo + i))) := fun G σ H s w R q =>
  (ea_cons ha (ea_cons hb ea_nil)) G σ H s w _ fun vs G1 H1 e1 w1 h1 => by
    cases h1 with
    | cons hx hr =>
      cases hr with
      | cons hy hr =>
        cases hr
        cases hx
        cases hy
        refine ⟨lo, hi, rfl, ⟨by omega, by omega, by omega, by omega⟩, ?_⟩
        have e : ((hi : Int) - (lo : Int)).toNat = hi - lo := by omega
        rw [e]
        exact q _ G1 H1 e1 w1 wk_range
theorem wk_enumL {G' : Hp} {a : Addr} {xs : List V} (hs : SqL K G' a xs) (hd : DpAll K G' xs ds) : Wk G' (Ite K a) ds.length (fun i => tD K (.tuple [.int i, dAt ds i])) where
  go := fun i G2 M2 H hi e w => ⟨xs, xs[i]'(by rw [DpAll.len hd]; exact hi), SqL.mono (e.trans w.le) hs, by simp [DpAll.len hd, hi]⟩
  stop := fun G2 M2 H e w => ⟨xs, SqL.mono (e.trans w.le) hs, by rw [DpAll.len hd]; exact Nat.le_refl _⟩
  yld := fun i G2 M2 H x H' hi e w ⟨T, y, e1, hT, e2, hy⟩ => by
    subst e1 e2
    obtain ⟨v, h1, h2⟩ := DpAll.at_ hd (dAt_lt hi)
    rw [hy xs (SqL.mono (e.trans w.le) hs)] at h1
    cases h1
    obtain ⟨w2, e3⟩ := w.alloc hT (.tup [.int (i : Nat), y])
    exact ⟨_, e3, w2, .tup (SqT.of upd_same) (.cons (.int _) (.cons (Dp.mono (e.trans e3) h2) .nil))⟩
theorem wk_enumT {G' : Hp} {a : Addr} {xs : List V} (hs : SqT K G' a xs) (hd : DpAll K G' xs ds) : Wk G' (ItU K a) ds.length (fun i => tD K (.tuple [.int i, dAt ds i])) where
  go := fun i G2 M2 H hi e w => ⟨xs, xs[i]'(by rw [DpAll.len hd]; exact hi), SqT.mono (e.trans w.le) hs, by simp [DpAll.len hd, hi]⟩
  stop := fun G2 M2 H e w => ⟨xs, SqT.mono (e.trans w.le) hs, by rw [DpAll.len hd]; exact Nat.le_refl _⟩
  yld := fun i G2 M2 H x H' hi e w ⟨T, y, e1, hT, e2, hy⟩ => by
    subst e1 e2
    obtain ⟨v, h1, h2⟩ := DpAll.at_ hd (dAt_lt hi)
    rw [hy xs (SqT.mono (e.trans w.le) hs)] at h1
    cases h1
    obtain ⟨w2, e3⟩ := w.alloc hT (.tup [.int (i : Nat), y])
    exact ⟨_, e3, w2, .tup (SqT.of upd_same) (.cons (.int _) (.cons (Dp.mono (e.trans e3) h2) .nil))⟩
theorem it_enum (h : Ev Γ M tl (tQ K ds)) : It1 Γ M (iEnumQ K (tCons tl tNil)) ds.length (fun i => tD K (.tuple [.int i, dAt ds i])) := fun G σ H s w R q =>
  (ea_cons h ea_nil) G σ H s w _ fun vs G1 H1 e1 w1 h1 => by
    cases h1 with
    | cons hx hr =>
      cases hr
      obtain ⟨a, xs, rfl, hs, hd⟩ := tQ_at hx
      refine ⟨a, xs, rfl, ?_⟩
      rcases hs with hs | hs
      · exact .inl ⟨SqL.mono w1.le hs, q _ G1 H1 e1 w1 (wk_enumL hs hd)⟩
      · exact .inr ⟨SqT.mono w1.le hs, q _ G1 H1 e1 w1 (wk_enumT hs hd)⟩
theorem wk_zipL {G' : Hp} {a b : Addr} {xs ys : List V} (hs : SqL K G' a xs) (hd : DpAll K G' xs ds) (ks : SqL K G' b ys) (kd : DpAll K G' ys es) : Wk G' (Itz K a b) (min ds.length es.length) (fun i => tD K (.tuple [dAt ds i, dAt es i])) where
  go := fun i G2 M2 H hi e w => ⟨xs, ys, xs[i]'(by rw [DpAll.len hd]; omega), ys[i]'(by rw [DpAll.len kd]; omega), SqL.mono (e.trans w.le) hs, SqL.mono (e.trans w.le) ks, by simp, by simp⟩
  stop := fun G2 M2 H e w => ⟨xs, ys, SqL.mono (e.trans w.le) hs, SqL.mono (e.trans w.le) ks, by rw [DpAll.len hd, DpAll.len kd]; omega⟩
  yld := fun i G2 M2 H x H' hi e w ⟨T, u, v, e1, hT, e2, hu, hv⟩ => by
    subst e1 e2
    obtain ⟨u', h1, h2⟩ := DpAll.at_ hd (dAt_lt (i := i) (by omega))
    obtain ⟨v', k1, k2⟩ := DpAll.at_ kd (dAt_lt (i := i) (by omega))
    rw [hu xs (SqL.mono (e.trans w.le) hs)] at h1
    rw [hv ys (SqL.mono (e.trans w.le) ks)] at k1
    cases h1
    cases k1
    obtain ⟨w2, e3⟩ := w.alloc hT (.tup [u, v])
    exact ⟨_, e3, w2, .tup (SqT.of upd_same) (.cons (Dp.mono (e.trans e3) h2) (.cons (Dp.mono (e.trans e3) k2) .nil))⟩
theorem wk_zipT {G' : Hp} {a b : Addr} {xs ys : List V} (hs : SqT K G' a xs) (hd : DpAll K G' xs ds) (ks : SqT K G' b ys) (kd : DpAll K G' ys es) : Wk G' (RZ.ItzT K a b) (min ds.length es.length) (fun i => tD K (.tuple [dAt ds i, dAt es i])) where
  go := fun i G2 M2 H hi e w => ⟨xs, ys, xs[i]'(by rw [DpAll.len hd]; omega), ys[i]'(by rw [DpAll.len kd]; omega), SqT.mono (e.trans w.le) hs, SqT.mono (e.trans w.le) ks, by simp, by simp⟩
  stop := fun G2 M2 H e w => ⟨xs, ys, SqT.mono (e.trans w.le) hs, SqT.mono (e.trans w.le) ks, by rw [DpAll.len hd, DpAll.len kd]; omega⟩
  yld := fun i G2 M2 H x H' hi e w ⟨T, u, v, e1, hT, e2, hu, hv⟩ => by
    subst e1 e2
    obtain ⟨u', h1, h2⟩ := DpAll.at_ hd (dAt_lt (i := i) (by omega))
    obtain ⟨v', k1, k2⟩ := DpAll.at_ kd (dAt_lt (i := i) (by omega))
    rw [hu xs (SqT.mono (e.trans w.le) hs)] at h1
    rw [hv ys (SqT.mono (e.trans w.le) ks)] at k1
    cases h1
    cases k1
    obtain ⟨w2, e3⟩ := w.alloc hT (.tup [u, v])
    exact ⟨_, e3, w2, .tup (SqT.of upd_same) (.cons (Dp.mono (e.trans e3) h2) (.cons (Dp.mono (e.trans e3) k2) .nil))⟩
/-- zip of a sequence with one of its own kind -/
def tZ (K : PySem.W.Frag) (k : Bool) (ds : List PyData) : Ty := tD K (if k then .tuple ds else .list ds)
theorem it_zip {k : Bool} (ha : Ev Γ M ta (tZ K k ds)) (hb : Ev Γ M tb (tZ K k es)) : It1 Γ M (RZ.iZipA K (tCons ta (tCons tb tNil))) (min ds.length es.length) (fun i => tD K (.tuple [dAt ds i, dAt es i])) := fun G σ H s w R q =>
  (ea_cons ha (ea_cons hb ea_nil)) G σ H s w _ fun vs G1 H1 e1 w1 h1 => by
    cases h1 with
    | cons hx hr =>
      cases hr with
      | cons hy hr =>
        cases hr
        cases k with
        | false =>
          cases (show Dp K G1 _ (.list ds) from hx) with
          | lst hs hd =>
            cases (show Dp K G1 _ (.list es) from hy) with
            | lst ks kd => exact ⟨_, _, _, _, rfl, .inl ⟨SqL.mono w1.le hs, SqL.mono w1.le ks, q _ G1 H1 e1 w1 (wk_zipL hs hd ks kd)⟩⟩
        | true =>
          cases (show Dp K G1 _ (.tuple ds) from hx) with
          | tup hs hd =>
            cases (show Dp K G1 _ (.tuple es) from hy) with
            | tup ks kd => exact ⟨_, _, _, _, rfl, .inr ⟨SqT.mono w1.le hs, SqT.mono w1.le ks, q _ G1 H1 e1 w1 (wk_zipT hs hd ks kd)⟩⟩
/-! ### targets -/
theorem tg_name {j : Nat} : Tg (gName j) T Γ (Γ.set j (some T)) [j] := fun G σ M H x s w t Q q => q _ (s.set j t) (by simp) fun i hi => by
  rw [List.getElem?_set_ne (fun z => hi (by simp [z]))]
theorem tg_pair {j1 j2 : Nat} {d1 d2 : PyData} : Tg (gTup K 2 (gCons (gName j1) (gCons (gName j2) gNil))) (tD K (.tuple [d1, d2])) Γ ((Γ.set j1 (some (tD K d1))).set j2 (some (tD K d2))) [j1, j2] := fun G σ M H x s w t Q q => by
  cases (show Dp K G x (.tuple [d1, d2]) from t) with
  | @tup a xs _ hs hd =>
    cases hd with
    | @cons v1 vs1 _ _ h1 hd =>
      cases hd with
      | @cons v2 vs2 _ _ h2 hd =>
        cases hd
        refine ⟨a, _, rfl, SqT.mono w.le hs, rfl, v1, [v2], rfl, v2, [], rfl, rfl, ?_⟩
        refine q _ ((s.set j1 (T := tD K d1) h1).set j2 (T := tD K d2) h2) (by simp) fun i hi => ?_
        simp only [List.mem_cons, not_or] at hi
        rw [List.getElem?_set_ne (Ne.symm hi.2.1), List.getElem?_set_ne (Ne.symm hi.1)]
/-! ### for -/
theorem go_for {β : Type} (hI : It1 Γ M wi n Ti) (Γi Γt : Nat → β → Gam) (Mi : Nat → β → Mem) (Pi : Nat → β → Prop) (b0 : β) (hΓ : Γi 0 b0 = Γ) (hM : Mi 0 b0 = M) (hP : Pi 0 b0) (hT : ∀ i b, i < n → Pi i b → Tg g (Ti i) (Γi i b) (Γt i b) vs)
    (turn : ∀ i b Gt, i < n → Pi i b → Same G0 Gt → Go (Γt i b) (Mi i b) tbd { D with nx := Sat Gt (Γi (i + 1)) (Mi (i + 1)) (Pi (i + 1)), ct := Sat Gt (Γi (i + 1)) (Mi (i + 1)) (Pi (i + 1)), bk := D.nx } Gt)
    (done : ∀ b, Pi n b → Nx D G0 (Γi n b) (Mi n b)) : Go Γ M (tFor wi g tbd) D G0 := fun G σ H e0 s w =>
  hI G σ H s w _ fun J G1 H1 e1 w1 k => by
    refine ⟨fun i m σ' H' => m = n - i ∧ i ≤ n ∧ ∃ b G', Pi i b ∧ Same G1 G' ∧ Sd G' σ' (Γi i b) ∧ Wd G' (Mi i b) H', ⟨n, by simp, Nat.zero_le _, b0, G1, hP, Same.refl _, hΓ ▸ s.mono e1, hM ▸ w1⟩, ?_⟩
    rintro i m σ' H' ⟨rfl, hi, b, G', p, e', s', w'⟩
    by_cases hlt : i < n
    · refine .inr ⟨k.go i G' _ H' hlt e' w', Sat G' (Γi (i + 1)) (Mi (i + 1)) (Pi (i + 1)), fun σ2 H2 hs => ?_, fun x H2 y => ?_⟩
      · obtain ⟨b2, G2, p2, e2, s2, w2⟩ := hs
        exact ⟨n - (i + 1), by omega, rfl, hlt, b2, G2, p2, e'.trans e2, s2, w2⟩
      · obtain ⟨G3, e3, w3, t3⟩ := k.yld i G' _ H' x H2 hlt e' w' y
        refine hT i b hlt p G3 σ' (Mi i b) H2 x (s'.mono e3) w3 t3 _ fun σ3 s3 _ _ => ?_
        have hg : Go (Γt i b) (Mi i b) tbd { D with nx := Sat G' (Γi (i + 1)) (Mi (i + 1)) (Pi (i + 1)), ct := Sat G' (Γi (i + 1)) (Mi (i + 1)) (Pi (i + 1)), bk := D.nx } G' := turn i b G' hlt p ((e0.trans e1).trans e')
        exact hg G3 σ3 H2 e3 s3 w3
    · have ei : i = n := by omega
      subst ei
      exact .inl ⟨k.stop G' _ H' e' w', done b p G' σ' H' ((e0.trans e1).trans e') s' w'⟩
theorem go_end {β : Type} {Γj : β → Gam} {Mj : β → Mem} {Pj : β → Prop} {ct bk : L2.St → Hp → Prop} {rt : VK} (b : β) (p : Pj b) (hΓ : Γj b = Γ) (hM : Mj b = M) : Go Γ M tNext { nx := Sat G0 Γj Mj Pj, rt := rt, ct := ct, bk := bk } G0 := fun G σ H e s w => ⟨b, G, p, e, hΓ ▸ s, hM ▸ w⟩
/-! ### comprehensions -/
theorem wipe_len (σ : L2.St) (vs : List Nat) : (wipe σ vs).length = σ.length := wipe_length σ vs
theorem wipe_at (σ : L2.St) : ∀ (vs : List Nat) (i : Nat), i < σ.length → (wipe σ vs)[i]? = if i ∈ vs then some none else σ[i]?
  | [], i, h => by simp [wipe]
  | v :: vs, i, h => by
    unfold L2.wipe
    by_cases e : v = i
    · subst e
      rw [List.getElem?_set_self (by rw [wipe_len]; exact h)]
      simp
    · rw [List.getElem?_set_ne e, wipe_at σ vs i h]
      have : (i ∈ v :: vs) ↔ i ∈ vs := by simp [Ne.symm e]
      simp only [this]
theorem wipe_same {σ σ' : L2.St} {vs : List Nat} (hl : σ'.length = σ.length) (h : ∀ i : Nat, i ∉ vs → σ'[i]? = (wipe σ vs)[i]?) : wipe σ' vs = wipe σ vs := by
  apply List.ext_getElem?
  intro i
  by_cases hi : i < σ.length
  · rw [wipe_at σ' vs i (by rw [hl]; exact hi), wipe_at σ vs i hi]
    by_cases c : i ∈ vs
    · rw [if_pos c, if_pos c]
    · rw [if_neg c, if_neg c, h i c, wipe_at σ vs i hi, if_neg c]
  · rw [List.getElem?_eq_none (by rw [wipe_len, hl]; omega), List.getElem?_eq_none (by rw [wipe_len]; omega)]
/-- a list under way -/
def cL (K : PySem.W.Frag) (ds : List PyData) : Ct := ⟨fun G o => ∃ xs, o = .lst xs ∧ DpAll K G xs ds, fun e ⟨xs, h1, h2⟩ => ⟨xs, h1, DpAll.mono e h2⟩⟩
def Sub (M M' : Mem) : Prop := ∀ c ∈ M, c ∈ M'
theorem Sub.refl (M : Mem) : Sub M M := fun _ h => h
theorem Sub.more {M M' : Mem} {c : Addr × Ct} (h : Sub M M') : Sub M (c :: M') := fun x hx => List.mem_cons_of_mem _ (h x hx)
/-- the general form: what the list may be behind i turns -/
theorem ev_lcG (Ok : Nat → List PyData → Prop) (Pt : Nat → Bool → Prop) (Pe : Nat → PyData → Prop) (hI : It1 Γ M wi n Ti) (hz : n ≤ 1000000) (Γt : Nat → Gam) (hT : ∀ i, i < n → Tg g (Ti i) (wipeG Γ vs) (Γt i) vs)
    (h0 : Ok 0 []) (ht : ∀ i, i < n → ∀ M', Sub M M' → EvT (Γt i) M' tt (Pt i)) (he : ∀ i, i < n → Pt i true → ∀ M', Sub M M' → Ev (Γt i) M' te (tEx fun d : { d : PyData // Pe i d } => tD K d.1))
    (h1 : ∀ i ds d, i < n → ds.length ≤ i → Ok i ds → Pt i true → Pe i d → Ok (i + 1) (ds ++ [d])) (h2 : ∀ i ds, i < n → Ok i ds → Pt i false → Ok (i + 1) ds) :
    Ev Γ M (tLc wi g tt te vs) (tEx fun ds : { ds : List PyData // Ok n ds } => tL K ds.1) := fun G σ H s w Q q =>
  hI G σ H s w _ fun J G1 H1 e1 w1 k D0 hD => by
    refine ⟨fun i m H' => m = n - i ∧ i ≤ n ∧ ∃ ds G', Ok i ds ∧ ds.length ≤ i ∧ Same G1 G' ∧ Wd G' ((D0, cL K ds) :: M) H', ⟨n, by simp, Nat.zero_le _, [], G1, h0, Nat.le_refl _, Same.refl _, w1.own hD ⟨[], rfl, .nil⟩⟩, ?_⟩
    rintro i m H' ⟨rfl, hi, ds, G', ok, hlen, e', w'⟩
    by_cases hlt : i < n
    · refine .inr ⟨k.go i G' _ H' hlt e' w', fun H2 => ∃ ds G', Ok (i + 1) ds ∧ ds.length ≤ i + 1 ∧ Same G1 G' ∧ Wd G' ((D0, cL K ds) :: M) H2, fun H2 hs => ⟨n - (i + 1), by omega, rfl, hlt, hs⟩, fun x H2 y => ?_⟩
      obtain ⟨G3, e3, w3, t3⟩ := k.yld i G' _ H' x H2 hlt e' w' y
      have s3 : Sd G3 σ Γ := s.mono ((e1.trans e').trans e3)
      refine hT i hlt G3 (wipe σ vs) _ H2 x (s3.wipe vs) w3 t3 _ fun σ3 s4 hl4 h4 => ⟨wipe_same (by rw [hl4, wipe_len]) h4, ?_⟩
      refine ht i hlt _ (Sub.more (Sub.refl _)) G3 σ3 H2 s4 w3 _ fun b G4 H4 e4 w4 pb => ?_
      cases b with
      | false =>
        show ∃ ds G', _
        exact ⟨ds, G4, h2 i ds hlt ok pb, Nat.le_succ_of_le hlen, (e'.trans e3).trans e4, w4⟩
      | true =>
        show te σ3 H4 _
        refine he i hlt pb _ (Sub.more (Sub.refl _)) G4 σ3 H4 (s4.mono e4) w4 _ fun z G5 H5 e5 w5 ⟨⟨d, pd⟩, tz⟩ => ?_
        obtain ⟨_, o, ho, xs, rfl, hxs⟩ := w5.at_ _ List.mem_cons_self
        refine ⟨xs, ho, by rw [DpAll.len hxs, sizeLine_eq]; omega, ds ++ [d], G5, h1 i ds d hlt hlen ok pb pd, by simp; omega, ((e'.trans e3).trans e4).trans e5, w5.change ?_⟩
        exact ⟨_, rfl, DpAll.app hxs (.cons tz .nil)⟩
    · have ei : i = n := by omega
      subst ei
      refine .inl ⟨k.stop G' _ H' e' w', ?_⟩
      obtain ⟨_, o, ho, xs, rfl, hxs⟩ := w'.at_ _ List.mem_cons_self
      obtain ⟨w2, e2⟩ := w'.freeze ho
      exact q _ _ H' ((e1.trans e').trans e2) w2 ⟨⟨ds, ok⟩, D0, xs, rfl, upd_same, DpAll.mono e2 hxs⟩
/-- with tests and items that are told -/
theorem ev_lcD (f : Nat → Bool) (v : Nat → PyData) (hI : It1 Γ M wi n Ti) (hz : n ≤ 1000000) (Γt : Nat → Gam) (hT : ∀ i, i < n → Tg g (Ti i) (wipeG Γ vs) (Γt i) vs) (ht : ∀ i, i < n → ∀ M', Sub M M' → EvT (Γt i) M' tt (· = f i))
    (he : ∀ i, i < n → f i = true → ∀ M', Sub M M' → Ev (Γt i) M' te (tD K (v i))) : Ev Γ M (tLc wi g tt te vs) (tL K (((List.range n).filter f).map v)) := by
  refine ev_mono (ev_lcG (K := K) (fun i ds => ds = ((List.range i).filter f).map v) (fun i b => b = f i) (fun i d => d = v i) hI hz Γt hT rfl ht (fun i hi p M' hM => ?_) (fun i ds d hi _ ok p pd => ?_) (fun i ds hi ok p => ?_)) fun G x ⟨⟨ds, e⟩, h⟩ => ?_
  · exact ev_mono (he i hi p.symm M' hM) fun G x h => ⟨⟨v i, rfl⟩, h⟩
  · rw [ok, pd, List.range_succ, List.filter_append, List.map_append, List.filter_cons, if_pos p.symm]
    rfl
  · rw [ok, List.range_succ, List.filter_append, List.map_append, List.filter_cons, if_neg (by rw [← p]; decide)]
    simp
  · have h' : (tL K ds).p G x := h
    rw [e] at h'
    exact h'
theorem et_yes : EvT Γ M tYes (· = true) := fun G σ H s w Q q => q true G H (Same.refl _) w rfl
end
end Ag
set_option Elab.async false
set_option linter.all false
set_option maxRecDepth 100000
set_option maxHeartbeats 2000000
/-! Ag5: promises, calls, objects, isinstance, chains. -/
namespace Ag
open PySem PySem.Spec PyProof.Rows L2
/-! ### promises -/
/-- what may fly: from the logical variables -/
abbrev XT := Hp → Value → Option Addr → Prop
def xNo : XT := fun _ _ _ => False
/-- from arguments of the types A a, the cells C a owned: an answer of the type R a, or an error by X a -/
def PrX {α : Type} (P : α → Prop) (C : α → Mem) (A : α → List Ty) (R : α → Ty) (X : α → XT) : Sp := fun vs H Q E => ∃ (a : α) (G : Hp) (M : Mem), P a ∧ Wd G M H ∧ Sub (C a) M ∧ Tys G vs (A a) ∧
  (∀ v G' H', Same G G' → Wd G' M H' → (R a).p G' v → Q v H') ∧ (∀ cls d G' H', Same G G' → Wd G' M H' → X a G' cls d → E cls d H')
/-- the making of an object: the new instance x goes from no fields to the fields F a -/
inductive FTys (G : Hp) : List (Str × V) → List (Str × Ty) → Prop
  | nil : FTys G [] []
  | cons {f : Str} {v : V} {vs : List (Str × V)} {T : Ty} {Ts : List (Str × Ty)} : T.p G v → FTys G vs Ts → FTys G ((f, v) :: vs) ((f, T) :: Ts)
theorem FTys.mono {G G' : Hp} (e : Same G G') : ∀ {vs : List (Str × V)} {Ts : List (Str × Ty)}, FTys G vs Ts → FTys G' vs Ts
  | _, _, .nil => .nil
  | _, _, .cons h t => .cons (Ty.mono _ e h) (FTys.mono e t)
theorem FTys.len {G : Hp} : ∀ {vs : List (Str × V)} {Ts : List (Str × Ty)}, FTys G vs Ts → vs.length = Ts.length
  | _, _, .nil => rfl
  | _, _, .cons _ t => congrArg Nat.succ (FTys.len t)
theorem FTys.look {G : Hp} {f : Str} {T : Ty} : ∀ {vs : List (Str × V)} {Ts : List (Str × Ty)}, FTys G vs Ts → Ts.lookup f = some T → ∃ v, vs.lookup f = some v ∧ T.p G v
  | _, _, .nil, h => by cases h
  | _, _, .cons (f := g) h t, e => by
    rw [List.lookup_cons] at e ⊢
    cases c : (f == g) with
    | true => rw [c] at e; cases e; exact ⟨_, rfl, h⟩
    | false => rw [c] at e; exact FTys.look t e
theorem FTys.none {G : Hp} {f : Str} : ∀ {vs : List (Str × V)} {Ts : List (Str × Ty)}, FTys G vs Ts → Ts.lookup f = none → vs.lookup f = none
  | _, _, .nil, _ => rfl
  | _, _, .cons (f := g) h t, e => by
    rw [List.lookup_cons] at e ⊢
    cases c : (f == g) with
    | true => rw [c] at e; cases e
    | false => rw [c] at e; exact FTys.none t e
def putT (f : Str) (T : Ty) : List (Str × Ty) → List (Str × Ty)
  | [] => [(f, T)]
  | (g, u) :: r => if g = f then (g, T) :: r else (g, u) :: putT f T r
theorem FTys.put {G : Hp} {f : Str} {v : V} {T : Ty} (h : T.p G v) : ∀ {vs : List (Str × V)} {Ts : List (Str × Ty)}, FTys G vs Ts → FTys G (putF f v vs) (putT f T Ts)
  | _, _, .nil => .cons h .nil
  | _, _, .cons (f := g) (v := u) (T := U) h2 t => by
    show FTys G (if g = f then (g, v) :: _ else (g, u) :: putF f v _) (if g = f then (g, T) :: _ else (g, U) :: putT f T _)
    by_cases c : g = f
    · rw [if_pos c, if_pos c]; exact .cons h t
    · rw [if_neg c, if_neg c]; exact .cons h2 (FTys.put h t)
/-- an instance that is not written any more; one under way -/
def tO (C : Addr) (Fs : List (Str × Ty)) : Ty := ⟨fun G v => ∃ a dx vs, v = .ref a ∧ G a = some (.ins C dx vs) ∧ FTys G vs Fs, fun e ⟨a, dx, vs, h1, h2, h3⟩ => ⟨a, dx, vs, h1, e _ _ h2, FTys.mono e h3⟩⟩
def cO (C : Addr) (Fs : List (Str × Ty)) : Ct := ⟨fun G o => ∃ dx vs, o = .ins C dx vs ∧ FTys G vs Fs, fun e ⟨dx, vs, h1, h2⟩ => ⟨dx, vs, h1, FTys.mono e h2⟩⟩
def PrI {α : Type} (P : α → Prop) (C : Addr) (A : α → List Ty) (F : α → List (Str × Ty)) (X : α → XT) : Sp := fun vs H Q E => ∃ (a : α) (G : Hp) (M : Mem) (x : Addr) (ws : List V), P a ∧ vs = .ref x :: ws ∧ Wd G ((x, cO C []) :: M) H ∧ Tys G ws (A a) ∧
  (∀ G' H', Same G G' → Wd G' ((x, cO C (F a)) :: M) H' → Q .non H') ∧ (∀ cls d G' H', Same G G' → Wd G' M H' → X a G' cls d → E cls d H')
theorem Wd.extra {G H : Hp} {M : Mem} {p : Addr} {o : HO} (w : Wd G M H) (h : H p = none) : Wd G M (upd H p o) :=
  ⟨fun b u e => by rw [upd_ne (ne_of_none (w.le b u e) h)]; exact w.le b u e, w.nd, fun c hc => let ⟨h1, o1, h2, h3⟩ := w.at_ c hc; ⟨h1, o1, by rw [upd_ne (ne_of_none h2 h)]; exact h2, h3⟩⟩
section
variable {K : PySem.W.Frag} {Γ : Gam} {M : Mem} {ta tb te to tc : TE} {tt : TT} {tA tk : TA} {T U R : Ty} {G0 G1 : Hp} {D : Ends} {ts : TS} {d e : PyData} {ds es : List PyData} {g : TG}
/-- te does not hand anything back -/
def Rs (G0 : Hp) (Γ : Gam) (M : Mem) (te : TE) : Prop := ∀ (G : Hp) (σ : L2.St) (H : Hp), Same G0 G → Sd G σ Γ → Wd G M H → ∀ Q : VK, te σ H Q
section
variable {α : Type} {P : α → Prop} {C : α → Mem} {A : α → List Ty} {Rr : α → Ty} {X : α → XT} {E : XK}
theorem ev_call (a : α) (h : EvA Γ M tA (A a)) (hP : P a) (hc : Sub (C a) M) (hx : ∀ G cls d, ¬ X a G cls d) : Ev Γ M (tCall (PrX P C A Rr X) [] E tA) (Rr a) := fun G σ H s w Q q =>
  h G σ H s w _ fun vs G1 H1 e1 w1 h1 => ⟨a, G1, M, hP, w1, hc, by rw [List.append_nil]; exact h1, fun v G' H' e' w' t => q v G' H' (e1.trans e') w' t, fun cls d G' H' _ _ z => absurd z (hx G' cls d)⟩
theorem rs_call (a : α) (h : EvA Γ M tA (A a)) (hP : P a) (hc : Sub (C a) M) (hr : ∀ G v, ¬ (Rr a).p G v) (hx : ∀ cls d G H, Same G0 G → Wd G M H → X a G cls d → E cls d H) : Rs G0 Γ M (tCall (PrX P C A Rr X) [] E tA) := fun G σ H e0 s w Q =>
  h G σ H s w _ fun vs G1 H1 e1 w1 h1 => ⟨a, G1, M, hP, w1, hc, by rw [List.append_nil]; exact h1, fun v G' H' _ _ t => absurd t (hr G' v), fun cls d G' H' e' w' z => hx cls d G' H' ((e0.trans e1).trans e') w' z⟩
/-- a method of an object that stands -/
theorem ev_meth {C' : Addr} {m : Str} {Fs : List (Str × Ty)} (a : α) (ho : Ev Γ M to (tO C' Fs)) (h : EvA Γ M tA As) (hA : A a = tO C' Fs :: As) (hm : Fs.lookup m = none) (hP : P a) (hc : Sub (C a) M) (hx : ∀ G cls d, ¬ X a G cls d) :
    Ev Γ M (tMeth C' m (PrX P C A Rr X) [] E to tA) (Rr a) := fun G σ H s w Q q =>
  ho G σ H s w _ fun v G1 H1 e1 w1 ⟨x, dx, vs, hv, hx1, hf⟩ => by
    subst hv
    refine ⟨x, dx, vs, rfl, w1.le _ _ hx1, FTys.none hf hm, ?_⟩
    refine h G1 σ H1 (s.mono e1) w1 _ fun ws G2 H2 e2 w2 h2 => ⟨a, G2, M, hP, w2, hc, ?_, fun v G' H' e' w' t => q v G' H' ((e1.trans e2).trans e') w' t, fun cls d G' H' _ _ z => absurd z (hx G' cls d)⟩
    rw [List.append_nil, hA]
    exact .cons ⟨x, dx, vs, rfl, e2 _ _ hx1, FTys.mono e2 hf⟩ h2
/-- by keywords -/
theorem ev_callN {n m : Nat} {gV : List V → List V → List V} {As Bs : List Ty} (a : α) (h : EvA Γ M tA As) (hk : EvA Γ M tk Bs) (hn : As.length = n) (hm : Bs.length = m) (hg : ∀ G vs zs, Tys G vs As → Tys G zs Bs → Tys G (gV vs zs) (A a)) (hP : P a) (hc : Sub (C a) M)
    (hx : ∀ G cls d, ¬ X a G cls d) : Ev Γ M (tCallN n m (PrX P C A Rr X) gV E tA tk) (Rr a) := fun G σ H s w Q q =>
  h G σ H s w _ fun vs G1 H1 e1 w1 h1 => hk G1 σ H1 (s.mono e1) w1 _ fun zs G2 H2 e2 w2 h2 => ⟨(Tys.len h1).trans hn, (Tys.len h2).trans hm, a, G2, M, hP, w2, hc, hg G2 vs zs (h1.mono e2) h2, fun v G' H' e' w' t => q v G' H' ((e1.trans e2).trans e') w' t,
    fun cls d G' H' _ _ z => absurd z (hx G' cls d)⟩
theorem rs_callN {n m : Nat} {gV : List V → List V → List V} {As Bs : List Ty} (a : α) (h : EvA Γ M tA As) (hk : EvA Γ M tk Bs) (hn : As.length = n) (hm : Bs.length = m) (hg : ∀ G vs zs, Tys G vs As → Tys G zs Bs → Tys G (gV vs zs) (A a)) (hP : P a) (hc : Sub (C a) M)
    (hr : ∀ G v, ¬ (Rr a).p G v) (hx : ∀ cls d G H, Same G0 G → Wd G M H → X a G cls d → E cls d H) : Rs G0 Γ M (tCallN n m (PrX P C A Rr X) gV E tA tk) := fun G σ H e0 s w Q =>
  h G σ H s w _ fun vs G1 H1 e1 w1 h1 => hk G1 σ H1 (s.mono e1) w1 _ fun zs G2 H2 e2 w2 h2 => ⟨(Tys.len h1).trans hn, (Tys.len h2).trans hm, a, G2, M, hP, w2, hc, hg G2 vs zs (h1.mono e2) h2, fun v G' H' _ _ t => absurd t (hr G' v),
    fun cls d G' H' e' w' z => hx cls d G' H' (((e0.trans e1).trans e2).trans e') w' z⟩
theorem ev_make {C' : Addr} {F : α → List (Str × Ty)} (a : α) (h : EvA Γ M tA (A a)) (hP : P a) (hx : ∀ G cls d, ¬ X a G cls d) : Ev Γ M (tMake C' (PrI P C' A F X) [] E tA) (tO C' (F a)) := fun G σ H s w Q q =>
  h G σ H s w _ fun vs G1 H1 e1 w1 h1 x dx nx ndx ne => by
    refine ⟨a, G1, M, x, vs, hP, by rw [List.append_nil], (w1.extra ndx).own (by rw [upd_ne (Ne.symm ne)]; exact nx) ⟨dx, [], rfl, .nil⟩, h1, fun G' H' e' w' => ⟨rfl, ?_⟩, fun cls d G' H' _ _ z => absurd z (hx G' cls d)⟩
    obtain ⟨_, o, ho, dx', vs', rfl, hf⟩ := w'.at_ _ List.mem_cons_self
    obtain ⟨w2, e2⟩ := w'.freeze ho
    exact q _ _ H' ((e1.trans e').trans e2) w2 ⟨x, dx', vs', rfl, upd_same, FTys.mono e2 hf⟩
theorem rs_make {C' : Addr} {F : α → List (Str × Ty)} (a : α) (h : EvA Γ M tA (A a)) (hP : P a) (hr : ∀ G vs, ¬ FTys G vs (F a)) (hx : ∀ cls d G H, Same G0 G → Wd G M H → X a G cls d → E cls d H) : Rs G0 Γ M (tMake C' (PrI P C' A F X) [] E tA) := fun G σ H e0 s w Q =>
  h G σ H s w _ fun vs G1 H1 e1 w1 h1 x dx nx ndx ne => by
    refine ⟨a, G1, M, x, vs, hP, by rw [List.append_nil], (w1.extra ndx).own (by rw [upd_ne (Ne.symm ne)]; exact nx) ⟨dx, [], rfl, .nil⟩, h1, fun G' H' e' w' => ?_, fun cls d G' H' e' w' z => hx cls d G' H' ((e0.trans e1).trans e') w' z⟩
    obtain ⟨_, o, ho, dx', vs', rfl, hf⟩ := w'.at_ _ List.mem_cons_self
    exact absurd hf (hr G' vs')
end
theorem ev_fld {C' : Addr} {Fs : List (Str × Ty)} {f : Str} (ho : Ev Γ M to (tO C' Fs)) (hl : Fs.lookup f = some T) (hC : Cls K C') (hn : NoAttr K C' f) : Ev Γ M (tFld K to f) T := fun G σ H s w Q q =>
  ho G σ H s w _ fun v G1 H1 e1 w1 ⟨x, dx, vs, hv, hx1, hf⟩ => by
    obtain ⟨u, hu, tu⟩ := FTys.look hf hl
    exact ⟨x, C', dx, vs, u, hv, w1.le _ _ hx1, hC, hn, hu, q u G1 H1 e1 w1 tu⟩
/-- a field of an object under way -/
theorem ev_fldM {C' x : Addr} {Fs : List (Str × Ty)} {f : Str} (ho : Ev Γ M to (tV (.ref x))) (hm : (x, cO C' Fs) ∈ M) (hl : Fs.lookup f = some T) (hC : Cls K C') (hn : NoAttr K C' f) : Ev Γ M (tFld K to f) T := fun G σ H s w Q q =>
  ho G σ H s w _ fun v G1 H1 e1 w1 hv => by
    obtain ⟨_, o, h2, dx, vs, rfl, hf⟩ := w1.at_ _ hm
    obtain ⟨u, hu, tu⟩ := FTys.look hf hl
    exact ⟨x, C', dx, vs, u, hv, h2, hC, hn, hu, q u G1 H1 e1 w1 tu⟩
theorem go_fld {C' x : Addr} {Fs : List (Str × Ty)} {f : Str} (hv : Ev Γ ((x, cO C' Fs) :: M) te T) (ho : Ev Γ ((x, cO C' Fs) :: M) to (tV (.ref x))) (hC : Cls K C') (hn : NoAttr K C' f) (hz : Fs.length < 1000) (k : Nx D G0 Γ ((x, cO C' (putT f T Fs)) :: M)) : Go Γ ((x, cO C' Fs) :: M) (sFld K to te f) D G0 := fun G σ H e0 s w =>
  hv G σ H s w _ fun y G1 H1 e1 w1 h1 => ho G1 σ H1 (s.mono e1) w1 _ fun v G2 H2 e2 w2 h2 => by
    obtain ⟨_, o, h4, dx, vs, rfl, hf⟩ := w2.at_ _ List.mem_cons_self
    refine ⟨x, C', dx, vs, h2, h4, hC, hn, by rw [FTys.len hf]; exact hz, ?_⟩
    exact k G2 σ _ ((e0.trans e1).trans e2) (s.mono (e1.trans e2)) (w2.change ⟨dx, _, rfl, FTys.put (T.mono e2 h1) hf⟩)
theorem go_rs_asg (h : Rs G0 Γ M te) : Go Γ M (tAsg te g) D G0 := fun G σ H e0 s w => h G σ H e0 s w _
theorem go_rs_drop (h : Rs G0 Γ M te) : Go Γ M (tDrop te) D G0 := fun G σ H e0 s w => h G σ H e0 s w _
theorem go_rs_ret (h : Rs G0 Γ M te) : Go Γ M (tRet te) D G0 := fun G σ H e0 s w => h G σ H e0 s w _
theorem go_rs_fld {f : Str} (h : Rs G0 Γ M te) : Go Γ M (sFld K to te f) D G0 := fun G σ H e0 s w => h G σ H e0 s w _
theorem rs_opL {r : R2} (h : Rs G0 Γ M ta) : Rs G0 Γ M (tOp r ta tb) := fun G σ H e0 s w Q => h G σ H e0 s w _
/-! ### isinstance -/
def tyN : PyData → String
  | .none => "NoneType"
  | .bool _ => "bool"
  | .int _ => "int"
  | .str _ => "str"
  | .list _ => "list"
  | .tuple _ => "tuple"
  | .dict _ => "dict"
theorem tyx {H : Hp} {v : V} (h : Dp K H v d) : TyX K H v (.type (tyN d)) := by
  cases h with
  | non => exact .base .non
  | bl b => exact .base (.bl b)
  | int i => exact .base (.int i)
  | str x => exact .base (.str x)
  | lst hs _ =>
    rcases hs with (h | ⟨o, h⟩) | ⟨o, its, n, h1, h2, _⟩
    · exact .base (.lst h)
    · exact .base (.frz h)
    · exact .kList h1 h2
  | tup hs _ =>
    rcases hs with (h | ⟨o, h⟩) | ⟨o, its, n, h1, h2, _⟩
    · exact .base (.tup h)
    · exact .fTuple h
    · exact .kTuple h1 h2
theorem ev_isi {t : String} {b : Bool} (ha : Ev Γ M ta (tD K d)) (hb : (∀ kvs, d ≠ .dict kvs) → kitB (tyN d) t = some b) : Ev Γ M (tCB (rIsi K) (tCons ta (tCons (tC (.ty t)) tNil))) (tD K (.bool b)) := ev_cb (ea_cons ha (ea_cons (T := tV (.ty t)) ev_cv ea_nil)) fun G H vs w h Q q => by
  cases h with
  | cons hx hr =>
    cases hr with
    | cons hy hr =>
      cases hr
      cases hy
      exact ⟨_, _, _, _, b, rfl, .ty t, tyx (Dp.mono w.le hx), kit_ty (hb fun kvs e => by rw [e] at hx; cases (show Dp K G _ (.dict kvs) from hx)), q _ G H (Same.refl _) w (.bl b)⟩
theorem ev_isInt (ha : Ev Γ M ta (tD K d)) : Ev Γ M (tCB (rIsi K) (tCons ta (tCons (tC (.ty "int")) tNil))) (tD K (.bool (isInt d))) := by
  refine ev_isi ha fun hd => ?_
  cases d with
  | dict kvs => exact absurd rfl (hd kvs)
  | _ => first | (show kitB "NoneType" "int" = some false; decide +kernel) | (show kitB "bool" "int" = some true; decide +kernel) | (show kitB "int" "int" = some true; decide +kernel) | (show kitB "str" "int" = some false; decide +kernel) | (show kitB "list" "int" = some false; decide +kernel) | (show kitB "tuple" "int" = some false; decide +kernel)
theorem ev_isBool (ha : Ev Γ M ta (tD K d)) : Ev Γ M (tCB (rIsi K) (tCons ta (tCons (tC (.ty "bool")) tNil))) (tD K (.bool (isBool d))) := by
  refine ev_isi ha fun hd => ?_
  cases d with
  | dict kvs => exact absurd rfl (hd kvs)
  | _ => first | (show kitB "NoneType" "bool" = some false; decide +kernel) | (show kitB "bool" "bool" = some true; decide +kernel) | (show kitB "int" "bool" = some false; decide +kernel) | (show kitB "str" "bool" = some false; decide +kernel) | (show kitB "list" "bool" = some false; decide +kernel) | (show kitB "tuple" "bool" = some false; decide +kernel)
theorem ev_isStr (ha : Ev Γ M ta (tD K d)) : Ev Γ M (tCB (rIsi K) (tCons ta (tCons (tC (.ty "str")) tNil))) (tD K (.bool (isStr d))) := by
  refine ev_isi ha fun hd => ?_
  cases d with
  | dict kvs => exact absurd rfl (hd kvs)
  | _ => first | (show kitB "NoneType" "str" = some false; decide +kernel) | (show kitB "bool" "str" = some false; decide +kernel) | (show kitB "int" "str" = some false; decide +kernel) | (show kitB "str" "str" = some true; decide +kernel) | (show kitB "list" "str" = some false; decide +kernel) | (show kitB "tuple" "str" = some false; decide +kernel)
theorem ev_isSeq (ha : Ev Γ M ta (tD K d)) : Ev Γ M (tCB (rIsiT K) (tCons ta (tCons (tTup (tCons (tC (.ty "list")) (tCons (tC (.ty "tuple")) tNil))) tNil))) (tD K (.bool (isSeq d))) := fun G σ H s w Q q =>
  ha G σ H s w _ fun v G1 H1 e1 w1 h1 => by
    refine ⟨by rw [sizeLine_eq]; decide, fun p hp => ?_⟩
    obtain ⟨w2, e2⟩ := w1.alloc hp (.tup [.ty "list", .ty "tuple"])
    refine ⟨v, p, [.ty "list", .ty "tuple"], .type (tyN d), [.type "list", .type "tuple"], isSeq d, rfl, upd_same, .cons (.ty _) (.cons (.ty _) .nil), tyx (Dp.mono (e2.trans w2.le) h1), ?_, q _ _ _ (e1.trans e2) w2 (.bl _)⟩
    cases d with
    | dict kvs => cases (show Dp K G1 _ (.dict kvs) from h1)
    | list _ => exact kitAny_cons (b := true) (kit_ty (by show kitB "list" "list" = _; decide +kernel)) (fun z => nomatch z) fun _ => rfl
    | tuple _ => exact kitAny_cons (b := false) (kit_ty (by show kitB "tuple" "list" = _; decide +kernel)) (fun _ => kitAny_cons (b := true) (kit_ty (by show kitB "tuple" "tuple" = _; decide +kernel)) (fun z => nomatch z) fun _ => rfl) fun z => nomatch z
    | none => exact kitAny_cons (b := false) (kit_ty (by show kitB "NoneType" "list" = _; decide +kernel)) (fun _ => kitAny_cons (b := false) (kit_ty (by show kitB "NoneType" "tuple" = _; decide +kernel)) (fun _ => kitAny_nil) fun z => nomatch z) fun z => nomatch z
    | bool _ => exact kitAny_cons (b := false) (kit_ty (by show kitB "bool" "list" = _; decide +kernel)) (fun _ => kitAny_cons (b := false) (kit_ty (by show kitB "bool" "tuple" = _; decide +kernel)) (fun _ => kitAny_nil) fun z => nomatch z) fun z => nomatch z
    | int _ => exact kitAny_cons (b := false) (kit_ty (by show kitB "int" "list" = _; decide +kernel)) (fun _ => kitAny_cons (b := false) (kit_ty (by show kitB "int" "tuple" = _; decide +kernel)) (fun _ => kitAny_nil) fun z => nomatch z) fun z => nomatch z
    | str _ => exact kitAny_cons (b := false) (kit_ty (by show kitB "str" "list" = _; decide +kernel)) (fun _ => kitAny_cons (b := false) (kit_ty (by show kitB "str" "tuple" = _; decide +kernel)) (fun _ => kitAny_nil) fun z => nomatch z) fun z => nomatch z
/-! ### chains of two comparisons of ints -/
theorem dp_int {G : Hp} {v : V} {i : Int} (h : Dp K G v (.int i)) : v = .int i := by cases h; rfl
theorem ev_chain {p r : Int → Int → Bool} {i j k : Int} (ha : Ev Γ M ta (tD K (.int i))) (hb : Ev Γ M tb (tD K (.int j))) (hc : Ev Γ M tc (tD K (.int k))) : Ev Γ M (tChain (rI0 fun i j => .bl (p i j)) (rI0 fun i j => .bl (r i j)) ta tb tc) (tD K (.bool (p i j && r j k))) := by
  intro G σ H s w Q q
  refine ha G σ H s w _ ?_
  intro x G1 H1 e1 w1 h1
  refine hb G1 σ H1 (s.mono e1) w1 _ ?_
  intro y G2 H2 e2 w2 h2
  refine ⟨i, j, dp_int h1, dp_int h2, p i j, rfl, ?_⟩
  cases c : p i j with
  | false => exact q _ G2 H2 (e1.trans e2) w2 (by rw [c]; exact Dp.bl false)
  | true =>
    refine hc G2 σ H2 (s.mono (e1.trans e2)) w2 _ ?_
    intro z G3 H3 e3 w3 h3
    exact ⟨j, k, dp_int h2, dp_int h3, q _ G3 H3 ((e1.trans e2).trans e3) w3 (by rw [c, Bool.true_and]; exact Dp.bl _)⟩
end
/-! ### the defs -/
structure DefAt (K : PySem.W.Frag) (mg : Str → Option Value) (x : Str) (st : Stmt) : Prop where
  ex : ∃ f fd, mg x = some (.ref f) ∧ Fun K x x st f fd
structure MDefAt (K : PySem.W.Frag) (C : Addr) (m qual : Str) (st : Stmt) : Prop where
  ex : ∃ f fd, Fun K m qual st f fd ∧ Meth K C m f ∧ Cls K C
structure IDefAt (K : PySem.W.Frag) (mg : Str → Option Value) (x qual : Str) (C : Addr) (st : Stmt) : Prop where
  ex : ∃ f fd, Fun K "__init__" qual st f fd ∧ Mk K C f ∧ mg x = some (.ref C)
/-- the slots at the start -/
def g0 (N : List Str) (Ts : List Ty) : Gam := Ts.map some ++ List.replicate (N.length - Ts.length) none
theorem sd_start {G : Hp} {N : List Str} {vs : List V} {Ts : List Ty} (h : Tys G vs Ts) : Sd G (L2.start N vs) (g0 N Ts) := by
  have hl := Tys.len h
  refine ⟨by unfold L2.start g0; simp [hl], fun i T e => ?_⟩
  unfold g0 at e
  by_cases hi : i < Ts.length
  · rw [List.getElem?_append_left (by simpa using hi), List.getElem?_map] at e
    cases q : Ts[i]? with
    | none => rw [q] at e; cases e
    | some T' =>
      rw [q] at e
      cases e
      obtain ⟨v, h1, h2⟩ := Tys.at_ h q
      refine ⟨v, ?_, h2⟩
      unfold L2.start
      rw [List.getElem?_append_left (by simp [hl, hi]), List.getElem?_map, h1]
      rfl
  · rw [List.getElem?_append_right (by simpa using hi), List.getElem?_replicate] at e
    split at e <;> cases e
/-- what a def's reading is given -/
abbrev Er (E : XK) (G : Hp) (M : Mem) (X : XT) : Prop := ∀ cls d G' H', Same G G' → Wd G' M H' → X G' cls d → E cls d H'
abbrev Dn (Q : VK) : Ends := { nx := fun _ H' => Q .non H', rt := Q }
section
variable {P : Program} {w : World} {K : PySem.W.Frag} {mg : Str → Option Value} {base : Heap} {x qual : Str} {st : Stmt} {N ps : List Str} {k : Nat} {α : Type} {P' : α → Prop} {C : α → Mem} {A : α → List Ty} {R : α → Ty} {X : α → XT}
abbrev Bd (x qual : Str) (st : Stmt) (ps : List Str) : Prop := ∀ (kV doc pm : Value) (an : Option Addr) (cdv ct : Value) (us : List Value), us.length = ps.length → bindArgs (PySem.W.fnOf x qual (defArgs st) (defBody st) (defScope st) .none kV doc pm an cdv ct) ⟨us, []⟩ = pure (ps.zip us)
theorem fn_ok {f : Addr} {fd : FuncData} (F : Fun K x qual st f fd) (S : FnScope N ps (defScope st)) (hl : ∀ a, (A a).length = ps.length)
    (body : ∀ (cdv : Value) (B : Around) (outer : List Env) (s : Shared) (H : Hp) (Q : VK) (E : XK), Room k (B.deeper (envOfC qual (defScope st) s.heap.objs.size f cdv)) →
      ∃ t, PSs (cxOf (L2.CX P w) P w K mg base N qual (defScope st) f cdv B outer s H E) (defBody st) t ∧ ∀ (a : α) (G : Hp) (M : Mem), P' a → Sub (C a) M → Rt (Dn Q) G M (R a) → Er E G M (X a) → Go (g0 N (A a)) M t (Dn Q) G) :
    FnOk P w K mg base (L2.CX P w) (k + 1) f fd ps (PrX P' C A R X) := by
  refine F.okX S (fun vs H Q E ⟨a, G, M, _, _, _, ht, _⟩ => (Tys.len ht).trans (hl a)) (fun cdv B outer s H vs Q E hr ⟨a, G, M, hp, hw, hs, ht, hq, he⟩ => ?_)
  obtain ⟨t, h1, h2⟩ := body cdv B outer s H Q E hr
  exact ⟨t, h1, h2 a G M hp hs (fun v G' H' e' w' z => hq v G' H' e' w' z) he G _ H (Same.refl _) (sd_start ht) hw⟩
theorem DefAt.ok (d : DefAt K mg x st) (S : FnScope N ps (defScope st)) (hb : Bd x x st ps) (hl : ∀ a, (A a).length = ps.length)
    (body : ∀ (f : Addr) (cdv : Value) (B : Around) (outer : List Env) (s : Shared) (H : Hp) (Q : VK) (E : XK), Room k (B.deeper (envOfC x (defScope st) s.heap.objs.size f cdv)) →
      ∃ t, PSs (cxOf (L2.CX P w) P w K mg base N x (defScope st) f cdv B outer s H E) (defBody st) t ∧ ∀ (a : α) (G : Hp) (M : Mem), P' a → Sub (C a) M → Rt (Dn Q) G M (R a) → Er E G M (X a) → Go (g0 N (A a)) M t (Dn Q) G) :
    Callee P w K mg base (k + 1) x ps (PrX P' C A R X) := by
  obtain ⟨f, fd, hm, F⟩ := d.ex
  exact ⟨f, fd, fn_ok F S hl (body f), hm, F.kp, F.binds hb⟩
theorem MDefAt.ok {c : Addr} (d : MDefAt K c x qual st) (S : FnScope N ps (defScope st)) (hb : Bd x qual st ps) (hl : ∀ a, (A a).length = ps.length)
    (body : ∀ (f : Addr) (cdv : Value) (B : Around) (outer : List Env) (s : Shared) (H : Hp) (Q : VK) (E : XK), Room k (B.deeper (envOfC qual (defScope st) s.heap.objs.size f cdv)) →
      ∃ t, PSs (cxOf (L2.CX P w) P w K mg base N qual (defScope st) f cdv B outer s H E) (defBody st) t ∧ ∀ (a : α) (G : Hp) (M : Mem), P' a → Sub (C a) M → Rt (Dn Q) G M (R a) → Er E G M (X a) → Go (g0 N (A a)) M t (Dn Q) G) :
    MCallee P w K mg base (k + 1) c x ps (PrX P' C A R X) := by
  obtain ⟨f, fd, F, hm, hc⟩ := d.ex
  exact ⟨f, fd, fn_ok F S hl (body f), hc, hm, F.binds hb⟩
theorem IDefAt.ok {c : Addr} {F : α → List (Str × Ty)} (d : IDefAt K mg x qual c st) (S : FnScope N ps (defScope st)) (hb : Bd "__init__" qual st ps) (hl : ∀ a, (A a).length + 1 = ps.length)
    (body : ∀ (f : Addr) (cdv : Value) (B : Around) (outer : List Env) (s : Shared) (H : Hp) (Q : VK) (E : XK), Room k (B.deeper (envOfC qual (defScope st) s.heap.objs.size f cdv)) →
      ∃ t, PSs (cxOf (L2.CX P w) P w K mg base N qual (defScope st) f cdv B outer s H E) (defBody st) t ∧ ∀ (a : α) (G : Hp) (M : Mem) (self : Addr), P' a → (∀ G' H', Same G G' → Wd G' ((self, cO c (F a)) :: M) H' → Q .non H') → Er E G M (X a) →
        Go (g0 N (tV (.ref self) :: A a)) ((self, cO c []) :: M) t (Dn Q) G) :
    ICallee P w K mg base (k + 1) x c ps (PrI P' c A F X) := by
  obtain ⟨f, fd, Fu, hm, hg⟩ := d.ex
  refine ⟨f, fd, Fu.okX S (fun vs H Q E ⟨a, G, M, self, ws, _, ev, _, ht, _⟩ => by rw [ev, List.length_cons, Tys.len ht]; exact hl a) (fun cdv B outer s H vs Q E hr ⟨a, G, M, self, ws, hp, ev, hw, ht, hq, he⟩ => ?_), hm, hg, Fu.binds hb⟩
  obtain ⟨t, h1, h2⟩ := body f cdv B outer s H Q E hr
  subst ev
  exact ⟨t, h1, h2 a G M self hp hq he G _ H (Same.refl _) (sd_start (.cons rfl ht)) hw⟩
end
end Ag
set_option Elab.async false
set_option linter.all false
set_option maxRecDepth 100000
set_option maxHeartbeats 2000000
/-! Ag5b: numbers that are Nats, walks by items. -/
namespace Ag
open PySem PySem.Spec PyProof.Rows L2
section
variable {K : PySem.W.Frag} {Γ : Gam} {M : Mem} {ta tb te to tc tl : TE} {tt : TT} {tA : TA} {T U R : Ty} {Ti : Nat → Ty} {G0 G1 : Hp} {D : Ends} {ts tbd : TS} {d e : PyData} {ds es : List PyData} {a b n : Nat} {l : List Nat} {g : TG} {vs : List Nat} {wi : TI}
abbrev nI (a : Nat) : PyData := .int (a : Int)
abbrev tN (K : PySem.W.Frag) (a : Nat) : Ty := tD K (nI a)
abbrev tB (K : PySem.W.Frag) (b : Bool) : Ty := tD K (.bool b)
def nL (l : List Nat) : List PyData := l.map nI
theorem nL_len (l : List Nat) : (nL l).length = l.length := List.length_map ..
theorem nL_iL (l : List Nat) : nL l = iL (l.map fun (k : Nat) => (k : Int)) := by
  unfold nL iL
  rw [List.map_map]
  rfl
abbrev gt (l : List Nat) (i : Nat) : Nat := l.getD i 0
theorem gt_lt {l : List Nat} {i : Nat} (h : i < l.length) : l[i]? = some (gt l i) := by
  unfold gt
  rw [List.getD_eq_getElem?_getD, List.getElem?_eq_getElem h]
  rfl
theorem dAt_nL {i : Nat} (h : i < l.length) : dAt (nL l) i = nI (gt l i) := by
  unfold dAt nL
  rw [List.getElem?_map, gt_lt h]
  rfl
theorem dAt_map {α : Type} {f : α → PyData} {l : List α} {i : Nat} {x : α} (h : l[i]? = some x) : dAt (l.map f) i = f x := by
  unfold dAt
  rw [List.getElem?_map, h]
  rfl
theorem at_nat {i : Nat} (h : i < ds.length) : atI ds (i : Int) = some (dAt ds i) := by
  unfold atI ixN
  rw [if_pos (by omega), if_pos (by omega)]
  show ds[(i : Int).toNat]? = _
  rw [Int.toNat_natCast, dAt_lt h]
theorem ev_to (h : Ev Γ M te (tD K d)) (e : d = e') : Ev Γ M te (tD K e') := e ▸ h
theorem ev_ixD (ha : Ev Γ M ta (tQ K ds)) (hb : Ev Γ M tb (tN K a)) (h : a < ds.length) : Ev Γ M (tOp (rIx K) ta tb) (tD K (dAt ds a)) := ev_ix ha hb (at_nat h)
theorem ev_ixX {d : PyData} (ha : Ev Γ M ta (tQ K ds)) (hb : Ev Γ M tb (tN K a)) (h : ds[a]? = some d) : Ev Γ M (tOp (rIx K) ta tb) (tD K d) := by
  have hl : a < ds.length := (List.getElem?_eq_some_iff.mp h).1
  refine ev_ix ha hb ?_
  rw [at_nat hl]
  unfold dAt
  rw [h]
  rfl
theorem ev_ixN (ha : Ev Γ M ta (tQ K (nL l))) (hb : Ev Γ M tb (tN K a)) (h : a < l.length) : Ev Γ M (tOp (rIx K) ta tb) (tN K (gt l a)) := ev_to (ev_ixD ha hb (by rw [nL_len]; exact h)) (dAt_nL h)
/-- the last -/
theorem ev_ixLast {d : PyData} (ha : Ev Γ M ta (tQ K (ds ++ [d]))) (hb : Ev Γ M tb (tD K (.int (-1)))) : Ev Γ M (tOp (rIx K) ta tb) (tD K d) := ev_ix ha hb (by
  unfold atI ixN
  rw [if_neg (by omega), if_pos (by rw [List.length_append]; show -((ds.length + 1 : Nat) : Int) ≤ -1; omega)]
  show (ds ++ [d])[(-1 + ((ds ++ [d]).length : Int)).toNat]? = some d
  have e : (-1 + ((ds ++ [d]).length : Int)).toNat = ds.length := by rw [List.length_append]; show (-1 + ((ds.length + 1 : Nat) : Int)).toNat = _; omega
  rw [e]
  simp)
theorem ev_addN (ha : Ev Γ M ta (tN K a)) (hb : Ev Γ M tb (tN K b)) : Ev Γ M (tOp (rI0 fun i j => .int (i + j)) ta tb) (tN K (a + b)) := ev_to (ev_add ha hb) (by simp [nI])
theorem ev_add1 {i : Int} (ha : Ev Γ M ta (tN K a)) (hb : Ev Γ M tb (tD K (.int 1))) : Ev Γ M (tOp (rI0 fun i j => .int (i + j)) ta tb) (tN K (a + 1)) := ev_to (ev_add ha hb) (by simp [nI])
theorem ev_1add {i : Int} (ha : Ev Γ M ta (tD K (.int 1))) (hb : Ev Γ M tb (tN K a)) : Ev Γ M (tOp (rI0 fun i j => .int (i + j)) ta tb) (tN K (1 + a)) := ev_to (ev_add ha hb) (by simp [nI])
theorem ev_sub1 {i : Int} (ha : Ev Γ M ta (tN K a)) (hb : Ev Γ M tb (tD K (.int 1))) (h : 0 < a) : Ev Γ M (tOp (rI0 fun i j => .int (i - j)) ta tb) (tN K (a - 1)) := ev_to (ev_sub ha hb) (by
  have : ((a - 1 : Nat) : Int) = (a : Int) - 1 := by omega
  rw [nI, this])
theorem dec_eqN (a b : Nat) : decide ((a : Int) = (b : Int)) = decide (a = b) := decide_eq_decide.mpr Int.ofNat_inj
theorem ev_eqN (ha : Ev Γ M ta (tN K a)) (hb : Ev Γ M tb (tN K b)) : Ev Γ M (tOp (rEqD K) ta tb) (tB K (decide (a = b))) := ev_to (ev_eqI ha hb) (by rw [dec_eqN])
theorem ev_neN (ha : Ev Γ M ta (tN K a)) (hb : Ev Γ M tb (tN K b)) : Ev Γ M (tOp (rNeD K) ta tb) (tB K (!decide (a = b))) := ev_to (ev_neI ha hb) (by rw [dec_eqN])
theorem ev_ltN (ha : Ev Γ M ta (tN K a)) (hb : Ev Γ M tb (tN K b)) : Ev Γ M (tOp (rI0 fun i j => .bl (decide (i < j))) ta tb) (tB K (decide (a < b))) := ev_to (ev_lt ha hb) (by rw [decide_eq_decide.mpr Int.ofNat_lt])
theorem ev_leN (ha : Ev Γ M ta (tN K a)) (hb : Ev Γ M tb (tN K b)) : Ev Γ M (tOp (rI0 fun i j => .bl (decide (i ≤ j))) ta tb) (tB K (decide (a ≤ b))) := ev_to (ev_le ha hb) (by rw [decide_eq_decide.mpr Int.ofNat_le])
theorem ev_gtN (ha : Ev Γ M ta (tN K a)) (hb : Ev Γ M tb (tN K b)) : Ev Γ M (tOp (rI0 fun i j => .bl (decide (j < i))) ta tb) (tB K (decide (b < a))) := ev_to (ev_gt ha hb) (by rw [decide_eq_decide.mpr Int.ofNat_lt])
theorem ev_geN (ha : Ev Γ M ta (tN K a)) (hb : Ev Γ M tb (tN K b)) : Ev Γ M (tOp (rI0 fun i j => .bl (decide (j ≤ i))) ta tb) (tB K (decide (b ≤ a))) := ev_to (ev_ge ha hb) (by rw [decide_eq_decide.mpr Int.ofNat_le])
theorem mem_nat (a : Nat) (l : List Nat) : decide ((a : Int) ∈ l.map fun (k : Nat) => (k : Int)) = decide (a ∈ l) := by
  apply decide_eq_decide.mpr
  rw [List.mem_map]
  constructor
  · rintro ⟨b, hb, e⟩
    have e2 : b = a := by omega
    exact e2 ▸ hb
  · exact fun h => ⟨a, h, rfl⟩
theorem ev_inN (ha : Ev Γ M ta (tN K a)) (hb : Ev Γ M tb (tQ K (nL l))) : Ev Γ M (tOp (rIn K false) ta tb) (tB K (decide (a ∈ l))) := by
  rw [nL_iL] at hb
  exact ev_to (ev_in ha hb) (by rw [mem_nat])
theorem ev_notInN (ha : Ev Γ M ta (tN K a)) (hb : Ev Γ M tb (tQ K (nL l))) : Ev Γ M (tOp (rIn K true) ta tb) (tB K (!decide (a ∈ l))) := by
  rw [nL_iL] at hb
  exact ev_to (ev_notIn ha hb) (by rw [mem_nat])
theorem ev_lenN (ha : Ev Γ M ta (tQ K (nL l))) : Ev Γ M (tCB (rLenQ K) (tCons ta tNil)) (tN K l.length) := ev_to (ev_len ha) (by rw [nL_len])
theorem upto_nL (n : Nat) : iL (upto n) = nL (List.range n) := by
  unfold iL upto nL
  rw [List.map_map]
  rfl
theorem ev_tupRgN (ha : Ev Γ M ta (tN K n)) (hn : n ≤ 1000000) : Ev Γ M (tTupRg (tRg1 ta)) (tD K (.tuple (nL (List.range n)))) := by rw [← upto_nL]; exact ev_tupRg ha hn
theorem ev_lstRgN (ha : Ev Γ M ta (tN K n)) (hn : n ≤ 1000000) : Ev Γ M (tLstRg (tRg1 ta)) (tL K (nL (List.range n))) := by rw [← upto_nL]; exact ev_lstRg ha hn
theorem ev_nat (a : Nat) : Ev Γ M (tC (.int (a : Int))) (tN K a) := ev_int
theorem et_notB {b : Bool} (h : EvT Γ M tt (· = b)) : EvT Γ M (tNot tt) (· = !b) := et_mono (et_not h) fun c e => by
  have e' : (!c) = b := e
  rw [← e', Bool.not_not]
theorem et_n {a b : Bool} (h : EvT Γ M tt (· = b)) (e : (!b) = a) : EvT Γ M (tNot tt) (· = a) := et_mono (et_notB h) fun c z => z.trans e
theorem et_b {a b : Bool} (h : Ev Γ M te (tB K b)) (e : b = a) : EvT Γ M (L2.tB te) (· = a) := et_mono (et_B h) fun c z => z.trans e
theorem et_t {a b : Bool} (h : Ev Γ M te (tB K b)) (e : b = a) : EvT Γ M (tTest te) (· = a) := et_mono (et_T h) fun c z => z.trans e
/-! ### slices by Nats -/
theorem cut_from (ds : List PyData) (a : Nat) : cutD ds (some (a : Int)) none = ds.drop a := by
  unfold cutD
  rw [HT.sIx_nat, HT.sIx_none]
  by_cases h : a ≤ ds.length
  · rw [Nat.min_eq_left h]
    rw [List.take_of_length_le (by rw [List.length_drop]; exact Nat.le_refl _)]
  · rw [Nat.min_eq_right (by omega), List.drop_eq_nil_of_le (by omega : ds.length ≤ a), List.drop_eq_nil_of_le (Nat.le_refl _)]
    simp
theorem cut_to (ds : List PyData) (a : Nat) : cutD ds none (some (a : Int)) = ds.take a := by
  unfold cutD
  rw [HT.sIx_nat, HT.sIx_none, List.drop_zero, Nat.sub_zero]
  by_cases h : a ≤ ds.length
  · rw [Nat.min_eq_left h]
  · rw [Nat.min_eq_right (by omega), List.take_of_length_le (Nat.le_refl _), List.take_of_length_le (by omega)]
theorem cut_mid (ds : List PyData) (a b : Nat) (ha : a ≤ ds.length) (hb : b ≤ ds.length) : cutD ds (some (a : Int)) (some (b : Int)) = (ds.drop a).take (b - a) := by
  unfold cutD
  rw [HT.sIx_nat, HT.sIx_nat, Nat.min_eq_left ha, Nat.min_eq_left hb]
theorem nL_drop (l : List Nat) (a : Nat) : (nL l).drop a = nL (l.drop a) := by unfold nL; rw [List.map_drop]
theorem nL_take (l : List Nat) (a : Nat) : (nL l).take a = nL (l.take a) := by unfold nL; rw [List.map_take]
theorem nL_app (l m : List Nat) : nL l ++ nL m = nL (l ++ m) := by unfold nL; rw [List.map_append]
/-! ### comprehensions by items -/
theorem range_dAt {α : Type} (f : PyData → Bool) (v : PyData → α) : ∀ ds : List PyData, ((List.range ds.length).filter fun i => f (dAt ds i)).map (fun i => v (dAt ds i)) = (ds.filter f).map v
  | [] => rfl
  | d :: ds => by
    rw [List.length_cons, List.range_succ_eq_map, List.filter_cons]
    have e : ∀ i, dAt (d :: ds) (i + 1) = dAt ds i := fun i => by unfold dAt; simp
    have ih := range_dAt f v ds
    have e2 : ((List.map Nat.succ (List.range ds.length)).filter fun i => f (dAt (d :: ds) i)) = ((List.range ds.length).filter fun i => f (dAt ds i)).map Nat.succ := by
      rw [List.filter_map]
      congr 1
    have e3 : (((List.range ds.length).filter fun i => f (dAt ds i)).map Nat.succ).map (fun i => v (dAt (d :: ds) i)) = (ds.filter f).map v := by
      rw [← ih, List.map_map]
      congr 1
    have e0 : dAt (d :: ds) 0 = d := rfl
    rw [e0, List.filter_cons]
    cases c : f d with
    | true =>
      rw [if_pos rfl, if_pos rfl, List.map_cons, List.map_cons, e0, e2, e3]
    | false =>
      rw [if_neg (by decide), if_neg (by decide), e2, e3]
theorem ev_lcS {j : Nat} (f : PyData → Bool) (v : PyData → PyData) (h : Ev Γ M tl (tQ K ds)) (hz : ds.length ≤ 1000000) (ht : ∀ d ∈ ds, ∀ M', Sub M M' → EvT ((wipeG Γ [j]).set j (some (tD K d))) M' tt (· = f d))
    (he : ∀ d ∈ ds, f d = true → ∀ M', Sub M M' → Ev ((wipeG Γ [j]).set j (some (tD K d))) M' te (tD K (v d))) : Ev Γ M (tLc (iSeq K tl) (gName j) tt te [j]) (tL K ((ds.filter f).map v)) := by
  rw [← range_dAt]
  have hm : ∀ i, i < ds.length → dAt ds i ∈ ds := fun i hi => List.mem_iff_getElem?.mpr ⟨i, dAt_lt hi⟩
  exact ev_lcD (fun i => f (dAt ds i)) (fun i => v (dAt ds i)) (it_seq h) hz (fun i => (wipeG Γ [j]).set j (some (tD K (dAt ds i)))) (fun i hi => tg_name) (fun i hi M' hM => ht _ (hm i hi) M' hM) (fun i hi hf M' hM => he _ (hm i hi) hf M' hM)
theorem filter_yes {α : Type} : ∀ l : List α, l.filter (fun _ => true) = l
  | [] => rfl
  | a :: l => by rw [List.filter_cons, if_pos rfl, filter_yes l]
theorem ev_lcM {j : Nat} (v : PyData → PyData) (h : Ev Γ M tl (tQ K ds)) (hz : ds.length ≤ 1000000) (he : ∀ d ∈ ds, ∀ M', Sub M M' → Ev ((wipeG Γ [j]).set j (some (tD K d))) M' te (tD K (v d))) : Ev Γ M (tLc (iSeq K tl) (gName j) tYes te [j]) (tL K (ds.map v)) := by
  have r := ev_lcS (f := fun _ => true) v h hz (fun d _ M' _ => et_yes) (fun d hd _ M' hM => he d hd M' hM)
  rw [filter_yes] at r
  exact r
/-- all([p(x) for x in seq]) -/
theorem ev_allS {j : Nat} (p : PyData → Bool) (h : Ev Γ M tl (tQ K ds)) (hz : ds.length ≤ 1000000) (he : ∀ d ∈ ds, ∀ M', Sub M M' → Ev ((wipeG Γ [j]).set j (some (tD K d))) M' te (tB K (p d))) : Ev Γ M (tCB (rAll K) (tCons (tLc (iSeq K tl) (gName j) tYes te [j]) tNil)) (tB K (ds.all p)) := by
  have r := ev_all (l := ds.map p) (ev_mono (ev_lcM (fun d => .bool (p d)) h hz he) fun G v t => by
    have t' := tL_D t
    unfold bools
    rw [List.map_map]
    exact t')
  rw [List.all_map] at r
  exact r
/-- over numbers -/
theorem ev_lcN {j : Nat} (f : Nat → Bool) (v : Nat → PyData) (h : Ev Γ M tl (tQ K (nL l))) (hz : l.length ≤ 1000000) (ht : ∀ k ∈ l, ∀ M', Sub M M' → EvT ((wipeG Γ [j]).set j (some (tN K k))) M' tt (· = f k))
    (he : ∀ k ∈ l, f k = true → ∀ M', Sub M M' → Ev ((wipeG Γ [j]).set j (some (tN K k))) M' te (tD K (v k))) : Ev Γ M (tLc (iSeq K tl) (gName j) tt te [j]) (tL K ((l.filter f).map v)) := by
  have e : ∀ l : List Nat, ((List.range l.length).filter fun i => f (gt l i)).map (fun i => v (gt l i)) = (l.filter f).map v := fun l => by
    have r := range_dAt (fun d => match d with | .int i => f i.toNat | _ => false) (fun d => match d with | .int i => v i.toNat | _ => .none) (nL l)
    rw [nL_len] at r
    have e1 : (List.filter (fun i => match dAt (nL l) i with | .int i => f i.toNat | _ => false) (List.range l.length)) = (List.range l.length).filter fun i => f (gt l i) := by
      apply List.filter_congr
      intro i hi
      rw [dAt_nL (List.mem_range.mp hi)]
      simp
    rw [e1] at r
    have e2 : (List.map (fun i => match dAt (nL l) i with | .int i => v i.toNat | _ => .none) ((List.range l.length).filter fun i => f (gt l i))) = ((List.range l.length).filter fun i => f (gt l i)).map (fun i => v (gt l i)) := by
      apply List.map_congr_left
      intro i hi
      rw [dAt_nL (List.mem_range.mp (List.mem_filter.mp hi).1)]
      simp
    rw [e2] at r
    rw [r]
    unfold nL
    rw [List.filter_map, List.map_map]
    congr 1
  rw [← e]
  have hm : ∀ i, i < l.length → gt l i ∈ l := fun i hi => List.mem_iff_getElem?.mpr ⟨i, gt_lt hi⟩
  have hI := it_seq h
  rw [nL_len] at hI
  refine ev_lcD (fun i => f (gt l i)) (fun i => v (gt l i)) hI hz (fun i => (wipeG Γ [j]).set j (some (tN K (gt l i)))) (fun i hi => ?_) (fun i hi M' hM => ht _ (hm i hi) M' hM) (fun i hi hf M' hM => he _ (hm i hi) hf M' hM)
  rw [dAt_nL hi]
  exact tg_name
theorem ev_lcNM {j : Nat} (v : Nat → PyData) (h : Ev Γ M tl (tQ K (nL l))) (hz : l.length ≤ 1000000) (he : ∀ k ∈ l, ∀ M', Sub M M' → Ev ((wipeG Γ [j]).set j (some (tN K k))) M' te (tD K (v k))) : Ev Γ M (tLc (iSeq K tl) (gName j) tYes te [j]) (tL K (l.map v)) := by
  have r := ev_lcN (f := fun _ => true) v h hz (fun d _ M' _ => et_yes) (fun d hd _ M' hM => he d hd M' hM)
  rw [filter_yes] at r
  exact r
theorem range_at {α : Type} (p : α → Bool) (v : α → PyData) : ∀ l : List α, ((List.range l.length).filter fun i => (l[i]?).any p).map (fun i => ((l[i]?).map v).getD .none) = (l.filter p).map v
  | [] => rfl
  | d :: ds => by
    rw [List.length_cons, List.range_succ_eq_map, List.filter_cons]
    have ih := range_at p v ds
    have e2 : ((List.map Nat.succ (List.range ds.length)).filter fun i => ((d :: ds)[i]?).any p) = ((List.range ds.length).filter fun i => (ds[i]?).any p).map Nat.succ := by
      rw [List.filter_map]
      congr 1
    have e3 : (((List.range ds.length).filter fun i => (ds[i]?).any p).map Nat.succ).map (fun i => (((d :: ds)[i]?).map v).getD .none) = (ds.filter p).map v := by
      rw [← ih, List.map_map]
      congr 1
    have e0 : (((d :: ds)[0]?).any p) = p d := rfl
    rw [e0, List.filter_cons]
    cases c : p d with
    | true =>
      rw [if_pos rfl, if_pos rfl, List.map_cons, List.map_cons, e2, e3]
      rfl
    | false =>
      rw [if_neg (by decide), if_neg (by decide), e2, e3]
/-- over the items of any list -/
theorem ev_lcAf {α : Type} {l : List α} {f : α → PyData} {j : Nat} (p : α → Bool) (v : α → PyData) (h : Ev Γ M tl (tQ K (l.map f))) (hz : l.length ≤ 1000000) (ht : ∀ x ∈ l, ∀ M', Sub M M' → EvT ((wipeG Γ [j]).set j (some (tD K (f x)))) M' tt (· = p x))
    (he : ∀ x ∈ l, p x = true → ∀ M', Sub M M' → Ev ((wipeG Γ [j]).set j (some (tD K (f x)))) M' te (tD K (v x))) : Ev Γ M (tLc (iSeq K tl) (gName j) tt te [j]) (tL K ((l.filter p).map v)) := by
  rw [← range_at]
  have hI := it_seq h
  rw [List.length_map] at hI
  have hx : ∀ i, i < l.length → ∃ x, l[i]? = some x ∧ x ∈ l ∧ dAt (l.map f) i = f x := fun i hi => ⟨l[i], List.getElem?_eq_getElem hi, List.getElem_mem hi, dAt_map (List.getElem?_eq_getElem hi)⟩
  refine ev_lcD (fun i => (l[i]?).any p) (fun i => ((l[i]?).map v).getD .none) hI hz (fun i => (wipeG Γ [j]).set j (some (tD K (dAt (l.map f) i)))) (fun i hi => tg_name) (fun i hi M' hM => ?_) (fun i hi hf M' hM => ?_)
  · obtain ⟨x, h1, h2, h3⟩ := hx i hi
    rw [h3, h1]
    exact ht x h2 M' hM
  · obtain ⟨x, h1, h2, h3⟩ := hx i hi
    rw [h1] at hf
    rw [h3, h1]
    exact he x h2 hf M' hM
theorem ev_lcA {α : Type} {l : List α} {f : α → PyData} {j : Nat} (v : α → PyData) (h : Ev Γ M tl (tQ K (l.map f))) (hz : l.length ≤ 1000000) (he : ∀ x ∈ l, ∀ M', Sub M M' → Ev ((wipeG Γ [j]).set j (some (tD K (f x)))) M' te (tD K (v x))) :
    Ev Γ M (tLc (iSeq K tl) (gName j) tYes te [j]) (tL K (l.map v)) := by
  have r := ev_lcAf (p := fun _ => true) v h hz (fun d _ M' _ => et_yes) (fun d hd _ M' hM => he d hd M' hM)
  rw [filter_yes] at r
  exact r
/-- over range(n) -/
theorem ev_lcR {j : Nat} (f : Nat → Bool) (v : Nat → PyData) (h : Ev Γ M ta (tN K n)) (hz : n ≤ 1000000) (ht : ∀ k, k < n → ∀ M', Sub M M' → EvT ((wipeG Γ [j]).set j (some (tN K k))) M' tt (· = f k))
    (he : ∀ k, k < n → f k = true → ∀ M', Sub M M' → Ev ((wipeG Γ [j]).set j (some (tN K k))) M' te (tD K (v k))) : Ev Γ M (tLc (iRng1 (tCons ta tNil)) (gName j) tt te [j]) (tL K (((List.range n).filter f).map v)) :=
  ev_lcD f v (it_rng1 h hz) hz (fun i => (wipeG Γ [j]).set j (some (tN K i))) (fun i hi => tg_name) ht he
theorem ev_lcRM {j : Nat} (v : Nat → PyData) (h : Ev Γ M ta (tN K n)) (hz : n ≤ 1000000) (he : ∀ k, k < n → ∀ M', Sub M M' → Ev ((wipeG Γ [j]).set j (some (tN K k))) M' te (tD K (v k))) : Ev Γ M (tLc (iRng1 (tCons ta tNil)) (gName j) tYes te [j]) (tL K ((List.range n).map v)) := by
  have r := ev_lcR (f := fun _ => true) v h hz (fun d _ M' _ => et_yes) (fun d hd _ M' hM => he d hd M' hM)
  rw [filter_yes] at r
  exact r
/-! ### calls that cannot raise -/
abbrev PrS {α : Type} (P : α → Prop) (A : α → List Ty) (R : α → Ty) : Sp := PrX P (fun _ => []) A R (fun _ => xNo)
theorem sub_nil {M : Mem} : Sub [] M := fun _ h => nomatch h
theorem ev_callS {α : Type} {P : α → Prop} {A : α → List Ty} {Rr : α → Ty} {E : XK} (a : α) (h : EvA Γ M tA (A a)) (hP : P a) : Ev Γ M (tCall (PrS P A Rr) [] E tA) (Rr a) := ev_call a h hP sub_nil (fun _ _ _ z => z)
end
end Ag
set_option Elab.async false
set_option linter.all false
set_option maxRecDepth 100000
set_option maxHeartbeats 2000000
/-! Ag5c: slots forgotten, loops. -/
namespace Ag
open PySem PySem.Spec PyProof.Rows L2
/-- less is known of the slots -/
inductive Le : Gam → Gam → Prop
  | nil : Le [] []
  | same {x : Option Ty} {Γ Γ' : Gam} : Le Γ Γ' → Le (x :: Γ) (x :: Γ')
  | no {x : Option Ty} {Γ Γ' : Gam} : Le Γ Γ' → Le (none :: Γ) (x :: Γ')
  | to {T U : Ty} {Γ Γ' : Gam} : (∀ G v, U.p G v → T.p G v) → Le Γ Γ' → Le (some T :: Γ) (some U :: Γ')
theorem Le.refl : ∀ Γ : Gam, Le Γ Γ
  | [] => .nil
  | x :: Γ => .same (Le.refl Γ)
theorem Le.len : ∀ {Γ Γ' : Gam}, Le Γ Γ' → Γ.length = Γ'.length
  | _, _, .nil => rfl
  | _, _, .same h => congrArg Nat.succ h.len
  | _, _, .no h => congrArg Nat.succ h.len
  | _, _, .to _ h => congrArg Nat.succ h.len
theorem Le.at_ : ∀ {Γ Γ' : Gam} {i : Nat} {T : Ty}, Le Γ Γ' → Γ[i]? = some (some T) → ∃ U, Γ'[i]? = some (some U) ∧ ∀ G v, U.p G v → T.p G v
  | _, _, _, _, .nil, h => by cases h
  | _, _, 0, T, .same h, e => ⟨T, e, fun _ _ h => h⟩
  | _, _, i + 1, T, .same h, e => Le.at_ (i := i) h e
  | _, _, 0, T, .no h, e => by cases e
  | _, _, i + 1, T, .no h, e => Le.at_ (i := i) h e
  | _, _, 0, T, .to k h, e => by cases e; exact ⟨_, rfl, k⟩
  | _, _, i + 1, T, .to k h, e => Le.at_ (i := i) h e
theorem Le.sd {G : Hp} {σ : L2.St} {Γ Γ' : Gam} (h : Le Γ Γ') (s : Sd G σ Γ') : Sd G σ Γ :=
  s.weak h.len fun i T e => let ⟨U, e2, k⟩ := h.at_ e; ⟨U, e2, fun v => k G v⟩
section
variable {K : PySem.W.Frag} {Γ Γ' : Gam} {M : Mem} {ta tb te tl : TE} {tt : TT} {tA : TA} {T U R : Ty} {Ti : Nat → Ty} {G0 G1 : Hp} {D : Ends} {ts tu1 tu2 tbd : TS} {d e : PyData} {ds es : List PyData} {n : Nat} {g : TG} {vs : List Nat} {wi : TI}
theorem Go.le (h : Go Γ M ts D G0) (l : Le Γ Γ') : Go Γ' M ts D G0 := fun G σ H e s w => h G σ H e (l.sd s) w
theorem go_endW {β : Type} {Γj : β → Gam} {Mj : β → Mem} {Pj : β → Prop} {ct bk : L2.St → Hp → Prop} {rt : VK} (b : β) (p : Pj b) (hΓ : Le (Γj b) Γ) (hM : Mj b = M) : Go Γ M tNext { nx := Sat G0 Γj Mj Pj, rt := rt, ct := ct, bk := bk } G0 := fun G σ H e s w => ⟨b, G, p, e, hΓ.sd s, hM ▸ w⟩
theorem nx_endW {β : Type} {Γj : β → Gam} {Mj : β → Mem} {Pj : β → Prop} {ct bk : L2.St → Hp → Prop} {rt : VK} (b : β) (p : Pj b) (hΓ : Le (Γj b) Γ) (hM : Mj b = M) : Nx { nx := Sat G0 Γj Mj Pj, rt := rt, ct := ct, bk := bk } G0 Γ M := fun G σ H e s w => ⟨b, G, p, e, hΓ.sd s, hM ▸ w⟩
/-- a loop whose turns change nothing that lasts: Γw what is known at each turn's start -/
theorem go_forC (Γw : Gam) (hI : It1 Γ M wi n Ti) (hw : Le Γw Γ) (Γt : Nat → Gam) (hT : ∀ i, i < n → Tg g (Ti i) Γw (Γt i) vs)
    (turn : ∀ i Gt, i < n → Same G0 Gt → Go (Γt i) M tbd { D with nx := Sat Gt (fun _ : Unit => Γw) (fun _ => M) (fun _ => True), ct := Sat Gt (fun _ : Unit => Γw) (fun _ => M) (fun _ => True), bk := D.nx } Gt)
    (done : Nx D G0 Γw M) : Go Γ M (tFor wi g tbd) D G0 := fun G σ H e0 s w =>
  go_for (Γ := Γ) (fun G σ H s w R q => hI G σ H s w R q) (fun i (_ : Unit) => if i = 0 then Γ else Γw) (fun i _ => Γt i) (fun _ _ => M) (fun _ _ => True) () (if_pos rfl) rfl trivial
    (fun i b hi _ => fun G σ M H x s w t Q q => hT i hi G σ M H x (by
      by_cases c : i = 0
      · rw [if_pos c] at s; exact hw.sd s
      · rw [if_neg c] at s; exact s) w t Q q)
    (fun i b Gt hi _ e => by
      rw [if_neg (Nat.succ_ne_zero i)]
      exact turn i Gt hi e)
    (fun b _ => fun G σ H e s w => done G σ H e (by
      by_cases c : n = 0
      · rw [if_pos c] at s; exact hw.sd s
      · rw [if_neg c] at s; exact s) w) G σ H e0 s w
theorem go_fldX {C' x : Addr} {Fs : List (Str × Ty)} {f : Str} {to : TE} (Fs' : List (Str × Ty)) (hv : Ev Γ ((x, cO C' Fs) :: M) te T) (ho : Ev Γ ((x, cO C' Fs) :: M) to (tV (.ref x))) (hC : Cls K C') (hn : NoAttr K C' f) (k : Go Γ ((x, cO C' Fs') :: M) ts D G0) (he : putT f T Fs = Fs' := by rfl) (hz : Fs.length < 1000 := by decide) : Go Γ ((x, cO C' Fs) :: M) (tSeq (sFld K to te f) ts) D G0 :=
  go_seq (go_fld hv ho hC hn hz (go_nx (by rw [he]; exact k)))
/-- an own exception with its field at -/
def xA (K : PySem.W.Frag) (C : Addr) (d : PyData) : XT := fun G cls od => cls = .ref C ∧ ∃ dd v, od = some dd ∧ G dd = some (.xd [("at", v)]) ∧ Dp K G v d
theorem go_raise {C : Addr} {W : WX} {te : TE} (h : Ev Γ M te (tD K d)) (k : ∀ G' H' σ dd v, Same G0 G' → Wd G' M H' → G' dd = some (.xd [("at", v)]) → Dp K G' v d → W (.ref C) (some dd) σ H') : Go Γ M (tRaiseA C W (tCons te tNil)) D G0 := fun G σ H e s w =>
  (ea_cons h ea_nil) G σ H s w _ fun vs G1 H1 e1 w1 h1 => by
    cases h1 with
    | cons hx hr =>
      cases hr
      refine ⟨_, rfl, fun dd hd => ?_⟩
      obtain ⟨w2, e2⟩ := w1.alloc hd (.xd [("at", _)])
      exact k _ _ _ _ _ ((e.trans e1).trans e2) w2 upd_same (Dp.mono e2 hx)
end
end Ag
set_option Elab.async false
set_option linter.all false
set_option maxRecDepth 100000
set_option maxHeartbeats 2000000
/-! Ag5d: lists under way. -/
namespace Ag
open PySem PySem.Spec PyProof.Rows L2
theorem sq_of {K : PySem.W.Frag} {H : Hp} {p : Addr} {xs : List V} (h : H p = some (.lst xs)) : SqL K H p xs := SqL.of h
section
variable {K : PySem.W.Frag} {Γ Γ' : Gam} {M M' : Mem} {ta tb te tl : TE} {tt : TT} {tA : TA} {T U R : Ty} {Ti : Nat → Ty} {G0 G1 : Hp} {D : Ends} {ts tu1 tu2 tbd : TS} {d e : PyData} {ds es : List PyData} {n i : Nat} {g : TG} {vs : List Nat} {wi : TI} {p : Addr}
/-- x = [..], a list that is to grow -/
theorem go_setOwn (ha : EvA Γ M tA (tDs K ds)) (hz : ds.length ≤ 1000000) (k : ∀ p, Go (Γ.set i (some (tV (.ref p)))) ((p, cL K ds) :: M) ts D G0) : Go Γ M (tSeq (tAsg (tLst tA) (gName i)) ts) D G0 := fun G σ H e s w =>
  ha G σ H s w _ fun vs G1 H1 e1 w1 h1 => by
    have hd := tys_all h1
    refine ⟨by rw [DpAll.len hd, sizeLine_eq]; omega, fun p hp => ?_⟩
    exact k p G1 _ _ (e.trans e1) ((s.mono e1).set i (T := tV (.ref p)) rfl) (w1.own hp ⟨vs, rfl, hd⟩)
/-- x.append(e) -/
theorem go_append (ho : Ev Γ ((p, cL K ds) :: M) te (tV (.ref p))) (h : Ev Γ ((p, cL K ds) :: M) ta (tD K d)) (hz : ds.length < 1000000) (k : Nx D G0 Γ ((p, cL K (ds ++ [d])) :: M)) : Go Γ ((p, cL K ds) :: M) (tDrop (tBM K "list" rAppend te (tCons ta tNil))) D G0 := fun G σ H e s w =>
  ho G σ H s w _ fun v G1 H1 e1 w1 hv => by
    subst hv
    obtain ⟨_, o, h2, xs, rfl, hxs⟩ := w1.at_ _ List.mem_cons_self
    refine ⟨.inl ⟨rfl, xs, SqL.of h2⟩, ?_⟩
    refine (ea_cons h ea_nil) G1 σ H1 (s.mono e1) w1 _ fun vs G2 H2 e2 w2 ht => ?_
    cases ht with
    | cons hx hr =>
      cases hr
      obtain ⟨_, o, h4, ys, rfl, hys⟩ := w2.at_ _ List.mem_cons_self
      exact ⟨p, ys, _, rfl, rfl, h4, by rw [DpAll.len hys, sizeLine_eq]; omega, k G2 σ _ ((e.trans e1).trans e2) (s.mono (e1.trans e2)) (w2.change ⟨_, rfl, DpAll.app hys (.cons hx .nil)⟩)⟩
/-- the item of an owned list at an index -/
theorem ev_ixOwn {j : Int} (ho : Ev Γ M te (tV (.ref p))) (hm : (p, cL K ds) ∈ M) (hb : Ev Γ M tb (tD K (.int j))) (h : atI ds j = some d) : Ev Γ M (tOp (rIx K) te tb) (tD K d) := fun G σ H s w Q q =>
  ho G σ H s w _ fun v G1 H1 e1 w1 hv => hb G1 σ H1 (s.mono e1) w1 _ fun y G2 H2 e2 w2 hy => by
    subst hv
    cases (show Dp K G2 y (.int j) from hy) with
    | int =>
    obtain ⟨_, o, h2, xs, rfl, hxs⟩ := w2.at_ _ hm
    obtain ⟨v, h3, h4⟩ := at_dp hxs h
    exact .inl ⟨p, xs, j, v, rfl, rfl, SqL.of h2, h3, q v G2 H2 (e1.trans e2) w2 h4⟩
theorem at_last {ds : List PyData} {d : PyData} : atI (ds ++ [d]) (-1) = some d := by
  unfold atI ixN
  rw [if_neg (by omega), if_pos (by rw [List.length_append]; show -((ds.length + 1 : Nat) : Int) ≤ -1; omega)]
  show (ds ++ [d])[(-1 + ((ds ++ [d]).length : Int)).toNat]? = some d
  have e : (-1 + ((ds ++ [d]).length : Int)).toNat = ds.length := by rw [List.length_append]; show (-1 + ((ds.length + 1 : Nat) : Int)).toNat = _; omega
  rw [e]
  simp
/-- an owned list goes out: it is not written any more -/
theorem go_retOwn (ho : Ev Γ ((p, cL K ds) :: M) te (tV (.ref p))) (k : Rt D G0 M (tL K ds)) : Go Γ ((p, cL K ds) :: M) (tRet te) D G0 := fun G σ H e s w =>
  ho G σ H s w _ fun v G1 H1 e1 w1 hv => by
    subst hv
    obtain ⟨_, o, h2, xs, rfl, hxs⟩ := w1.at_ _ List.mem_cons_self
    obtain ⟨w2, e2⟩ := w1.freeze h2
    exact k _ _ _ ((e.trans e1).trans e2) w2 ⟨p, xs, rfl, upd_same, DpAll.mono e2 hxs⟩
/-- an owned list stays from now on -/
theorem go_keep (hΓ : Γ[i]? = some (some (tV (.ref p)))) (k : Go (Γ.set i (some (tL K ds))) M ts D G0) : Go Γ ((p, cL K ds) :: M) ts D G0 := fun G σ H e s w => by
  obtain ⟨_, o, h2, xs, rfl, hxs⟩ := w.at_ _ List.mem_cons_self
  obtain ⟨w2, e2⟩ := w.freeze h2
  obtain ⟨v, h3, h4⟩ := s.get i _ hΓ
  have h4' : v = .ref p := h4
  subst h4'
  have s2 := (s.mono e2).set i (T := tL K ds) (v := .ref p) ⟨p, xs, rfl, upd_same, DpAll.mono e2 hxs⟩
  have e : σ.set i (some (.ref p)) = σ := by
    apply List.ext_getElem?
    intro j
    by_cases hj : i = j
    · subst hj
      rw [List.getElem?_set_self (List.getElem?_eq_some_iff.mp h3).1, h3]
    · rw [List.getElem?_set_ne hj]
  rw [e] at s2
  exact k _ σ H (by exact Same.trans ‹Same G0 G› e2) s2 w2
/-- a loop that changes what is owned -/
theorem go_forM (Γw : Gam) (Mi : Nat → Mem) (hI : It1 Γ M wi n Ti) (hM : Mi 0 = M) (hw : Le Γw Γ) (Γt : Nat → Gam) (hT : ∀ i, i < n → Tg g (Ti i) Γw (Γt i) vs)
    (turn : ∀ i Gt, i < n → Same G0 Gt → Go (Γt i) (Mi i) tbd { D with nx := Sat Gt (fun _ : Unit => Γw) (fun _ => Mi (i + 1)) (fun _ => True), ct := Sat Gt (fun _ : Unit => Γw) (fun _ => Mi (i + 1)) (fun _ => True), bk := D.nx } Gt)
    (done : Nx D G0 Γw (Mi n)) : Go Γ M (tFor wi g tbd) D G0 := fun G σ H e0 s w =>
  go_for (Γ := Γ) (fun G σ H s w R q => hI G σ H s w R q) (fun i (_ : Unit) => if i = 0 then Γ else Γw) (fun i _ => Γt i) (fun i _ => Mi i) (fun _ _ => True) () (if_pos rfl) hM trivial
    (fun i b hi _ => fun G σ M H x s w t Q q => hT i hi G σ M H x (by
      by_cases c : i = 0
      · rw [if_pos c] at s; exact hw.sd s
      · rw [if_neg c] at s; exact s) w t Q q)
    (fun i b Gt hi _ e => by
      rw [if_neg (Nat.succ_ne_zero i)]
      exact turn i Gt hi e)
    (fun b _ => fun G σ H e s w => done G σ H e (by
      by_cases c : n = 0
      · rw [if_pos c] at s; exact hw.sd s
      · rw [if_neg c] at s; exact s) w) G σ H e0 s w
end
end Ag
set_option Elab.async false
set_option linter.all false
set_option maxRecDepth 100000
set_option maxHeartbeats 2000000
/-! Ag6: the program's facts, and the first defs. -/
namespace Ag
open PySem PySem.Spec PyProof.Rows L2
abbrev FR := PySem.W.Frag
abbrev MG := Str → Option Value
structure KDefAt (K : PySem.W.Frag) (mg : Str → Option Value) (x : Str) (st : Stmt) (kws : List (Str × V)) : Prop where
  ex : ∃ f fd, mg x = some (.ref f) ∧ FunD K x x (defArgs st) (defBody st) (defScope st) [] kws f fd
structure Prg (P : Program) (K : PySem.W.Frag) (mg : Str → Option Value) : Prop extends Txt P K mg where
  d_is_integer : DefAt K mg "is_integer" s_is_integer
  d_is_number : DefAt K mg "is_number" s_is_number
  d_is_below : DefAt K mg "is_below" s_is_below
  d_is_sequence : DefAt K mg "is_sequence" s_is_sequence
  d_is_text : DefAt K mg "is_text" s_is_text
  d_is_ascending : DefAt K mg "is_ascending" s_is_ascending
  d_is_table : DefAt K mg "is_table" s_is_table
  d_check_tables : DefAt K mg "check_tables" s_check_tables
  d_Machine_init : IDefAt K mg "Machine" "Machine.__init__" (cOf "Machine" mg) s_Machine_init
  d_need_state : DefAt K mg "need_state" s_need_state
  d_check_log : DefAt K mg "check_log" s_check_log
  d_check_starts : DefAt K mg "check_starts" s_check_starts
  d_behind : DefAt K mg "behind" s_behind
  d_are_rising : DefAt K mg "are_rising" s_are_rising
  d_check_kept : DefAt K mg "check_kept" s_check_kept
  d_check_bound : DefAt K mg "check_bound" s_check_bound
  d_start_rows : DefAt K mg "start_rows" s_start_rows
  d_in_window : DefAt K mg "in_window" s_in_window
  d_Sight_init : IDefAt K mg "Sight" "Sight.__init__" (cOf "Sight" mg) s_Sight_init
  d_Sight_seen : MDefAt K (cOf "Sight" mg) "seen" "Sight.seen" s_Sight_seen
  d_Paths_init : IDefAt K mg "Paths" "Paths.__init__" (cOf "Paths" mg) s_Paths_init
  d_Paths_go : MDefAt K (cOf "Paths" mg) "go" "Paths.go" s_Paths_go
  d_Paths_is_living : MDefAt K (cOf "Paths" mg) "is_living" "Paths.is_living" s_Paths_is_living
  d_Paths_held : MDefAt K (cOf "Paths" mg) "held" "Paths.held" s_Paths_held
  d_Paths_mark_now : MDefAt K (cOf "Paths" mg) "mark_now" "Paths.mark_now" s_Paths_mark_now
  d_Paths_put_copy : MDefAt K (cOf "Paths" mg) "put_copy" "Paths.put_copy" s_Paths_put_copy
  d_marks_of : DefAt K mg "marks_of" s_marks_of
  d_path_marks : KDefAt K mg "path_marks" s_path_marks [("starts", V.non), ("kept", V.non)]
  d_check_marking : DefAt K mg "check_marking" s_check_marking
  d_unsafe_paper : KDefAt K mg "unsafe_paper" s_unsafe_paper [("starts", V.non), ("kept", V.non), ("bound", V.non)]
  d_are_unlike : DefAt K mg "are_unlike" s_are_unlike
  d_is_safe_marking : KDefAt K mg "is_safe_marking" s_is_safe_marking [("starts", V.non), ("kept", V.non), ("bound", V.non)]
  d_unsafe_holds : KDefAt K mg "unsafe_holds" s_unsafe_holds [("starts", V.non), ("kept", V.non), ("bound", V.non)]
  d_coming_back : DefAt K mg "coming_back" s_coming_back
  d_nexts_of : DefAt K mg "nexts_of" s_nexts_of
  d_lowest_of : DefAt K mg "lowest_of" s_lowest_of
  d_lowest_ages : KDefAt K mg "lowest_ages" s_lowest_ages [("starts", V.non), ("kept", V.non), ("bound", V.non)]
  d_least_marks : KDefAt K mg "least_marks" s_least_marks [("starts", V.non), ("kept", V.non), ("bound", V.non)]
  d_Lbox : DefAt K mg "_law_box" s_Lbox
  d_Ltake : DefAt K mg "_law_take" s_Ltake
  d_Lpick : DefAt K mg "_law_pick" s_Lpick
  d_Ltables : DefAt K mg "_law_tables" s_Ltables
  d_Llog : DefAt K mg "_law_log" s_Llog
  d_Lrows : DefAt K mg "_law_rows" s_Lrows
  d_Lstarts : DefAt K mg "_law_starts" s_Lstarts
  d_Lkept : DefAt K mg "_law_kept" s_Lkept
  d_Lseen : DefAt K mg "_law_seen" s_Lseen
  d_Lheard : DefAt K mg "_law_heard" s_Lheard
  d_Lages : DefAt K mg "_law_ages" s_Lages
  d_Lapart : DefAt K mg "_law_apart" s_Lapart
  d_Ldue : DefAt K mg "_law_due" s_Ldue
  d_Lwhole : DefAt K mg "_law_whole" s_Lwhole
  d_Lholds : DefAt K mg "_law_holds" s_Lholds
  d_Lbent : DefAt K mg "_law_bent" s_Lbent
  d_Lmarking : DefAt K mg "_law_marking" s_Lmarking
  d_Lfew_right : DefAt K mg "_law_few_right" s_Lfew_right
  d_Lrefusals : DefAt K mg "_law_refusals" s_Lrefusals
  cls_Machine : Cls K (cOf "Machine" mg)
  na_Machine_tables : NoAttr K (cOf "Machine" mg) "tables"
  na_Machine_deeds : NoAttr K (cOf "Machine" mg) "deeds"
  na_Machine_states : NoAttr K (cOf "Machine" mg) "states"
  cls_Sight : Cls K (cOf "Sight" mg)
  na_Sight_machine : NoAttr K (cOf "Sight" mg) "machine"
  na_Sight_log : NoAttr K (cOf "Sight" mg) "log"
  na_Sight_state : NoAttr K (cOf "Sight" mg) "state"
  na_Sight_starts : NoAttr K (cOf "Sight" mg) "starts"
  na_Sight_bound : NoAttr K (cOf "Sight" mg) "bound"
  na_Sight_rows : NoAttr K (cOf "Sight" mg) "rows"
  na_Sight_all_ages : NoAttr K (cOf "Sight" mg) "all_ages"
  na_Sight_ages : NoAttr K (cOf "Sight" mg) "ages"
  cls_Paths : Cls K (cOf "Paths" mg)
  na_Paths_state : NoAttr K (cOf "Paths" mg) "state"
  na_Paths_bound : NoAttr K (cOf "Paths" mg) "bound"
  na_Paths_places : NoAttr K (cOf "Paths" mg) "places"
  na_Paths_youngest : NoAttr K (cOf "Paths" mg) "youngest"
def isInteger (d : PyData) : Bool := isInt d && !isBool d
def isNumber : PyData → Bool
  | .int i => decide (0 ≤ i)
  | _ => false
def isBelow (n : Nat) : PyData → Bool
  | .int i => decide (0 ≤ i) && decide (i < n)
  | _ => false
def asc (l : List Nat) : Bool := (List.range (l.length - 1)).all fun i => decide (gt l i < gt l (i + 1))
section
theorem wipeG_len (Γ : Gam) : ∀ vs : List Nat, (wipeG Γ vs).length = Γ.length
  | [] => rfl
  | v :: vs => by unfold wipeG; rw [List.length_set, wipeG_len Γ vs]
section
variable {K : PySem.W.Frag} {Γ : Gam} {M : Mem} {tv : TE} {l : List Nat} {k : Bool}
theorem tZ_Q {ds : List PyData} {G : Hp} {v : V} (h : (tZ K k ds).p G v) : (tQ K ds).p G v := by
  cases k with
  | true => exact .inr h
  | false => exact .inl h
theorem ev_ZQ {ds : List PyData} (h : Ev Γ M tv (tZ K k ds)) : Ev Γ M tv (tQ K ds) := ev_mono h fun _ _ => tZ_Q
theorem ev_slZ {ds : List PyData} {lo hi : Option Int} {tl th : TO} (he : Ev Γ M tv (tZ K k ds)) (hl : EvO Γ M tl lo) (hh : EvO Γ M th hi) : Ev Γ M (tSl (rSlQ K) tv tl th) (tZ K k (cutD ds lo hi)) := by
  cases k with
  | true => exact ev_slT he hl hh
  | false => exact ev_LD (ev_slL he hl hh)
/-- all([one < other for one, other in zip(v, v[1:])]) -/
theorem ev_allZ {j1 j2 : Nat} (h : Ev Γ M tv (tZ K k (nL l))) (hz : l.length ≤ 1000000) (h1 : j1 < Γ.length) (h2 : j2 < Γ.length) (hne : j1 ≠ j2) :
    Ev Γ M (tCB (rAll K) (tCons (tLc (RZ.iZipA K (tCons tv (tCons (tSl (rSlQ K) tv (tPart (tC (.int 1))) tNoPart) tNil))) (gTup K 2 (gCons (gName j1) (gCons (gName j2) gNil))) tYes (tOp (rI0 fun i j => .bl (decide (i < j))) (tVar j1) (tVar j2)) [j1, j2]) tNil)) (tB K (asc l)) := by
  have hs : Ev Γ M (tSl (rSlQ K) tv (tPart (tC (.int 1))) tNoPart) (tZ K k (nL (l.drop 1))) := by
    have r := ev_slZ h (eo_some (K := K) (i := 1) ev_int) eo_none
    rw [show cutD (nL l) (some 1) none = nL (l.drop 1) from by rw [show (1 : Int) = ((1 : Nat) : Int) from rfl, cut_from, nL_drop]] at r
    exact r
  have hI := it_zip h hs
  have hn : min (nL l).length (nL (l.drop 1)).length = l.length - 1 := by rw [nL_len, nL_len, List.length_drop]; omega
  rw [hn] at hI
  have hg : ∀ i, gt (l.drop 1) i = gt l (i + 1) := fun i => by unfold gt; rw [List.getD_eq_getElem?_getD, List.getD_eq_getElem?_getD, List.getElem?_drop, Nat.add_comm]
  have r := ev_lcD (K := K) (fun _ => true) (fun i => .bool (decide (gt l i < gt l (i + 1)))) hI (by omega)
    (fun i => ((wipeG Γ [j1, j2]).set j1 (some (tN K (gt l i)))).set j2 (some (tN K (gt l (i + 1))))) (fun i hi => by
      rw [dAt_nL (by omega), dAt_nL (by rw [List.length_drop]; omega), hg]
      exact tg_pair) (fun i hi M' hM => et_yes) (te := tOp (rI0 fun i j => .bl (decide (i < j))) (tVar j1) (tVar j2)) (fun i hi _ M' hM => by
      refine ev_ltN (ev_var ?_) (ev_var ?_)
      · rw [List.getElem?_set_ne (Ne.symm hne), List.getElem?_set_self (by rw [wipeG_len]; exact h1)]
      · rw [List.getElem?_set_self (by rw [List.length_set, wipeG_len]; exact h2)])
  rw [filter_yes] at r
  have r2 := ev_all (l := (List.range (l.length - 1)).map fun i => decide (gt l i < gt l (i + 1))) (ev_mono r fun G v t => by
    have t' := tL_D t
    unfold bools
    rw [List.map_map]
    exact t')
  rw [List.all_map] at r2
  exact r2
end
abbrev sp_is_integer (K : FR) (mg : MG) : Sp := PrS (fun _ : PyData => True) (fun d => [tD K d]) (fun d => tB K (isInteger d))
abbrev sp_is_number (K : FR) (mg : MG) : Sp := PrS (fun _ : PyData => True) (fun d => [tD K d]) (fun d => tB K (isNumber d))
abbrev sp_is_below (K : FR) (mg : MG) : Sp := PrS (fun _ : PyData × Nat => True) (fun a => [tD K a.1, tN K a.2]) (fun a => tB K (isBelow a.2 a.1))
abbrev sp_is_sequence (K : FR) (mg : MG) : Sp := PrS (fun _ : PyData => True) (fun d => [tD K d]) (fun d => tB K (isSeq d))
abbrev sp_is_text (K : FR) (mg : MG) : Sp := PrS (fun _ : PyData => True) (fun d => [tD K d]) (fun d => tB K (isStr d))
structure AscA where
  k : Bool
  l : List Nat
  n : Nat
abbrev sp_are_rising (K : FR) (mg : MG) : Sp := PrS (fun a : AscA => a.l.length ≤ 1000000 ∧ ∀ x ∈ a.l, x < a.n) (fun a => [tZ K a.k (nL a.l), tN K a.n]) (fun a => tB K (asc a.l))
abbrev sp_is_ascending (K : FR) (mg : MG) : Sp := PrS (fun a : AscA => a.l.length ≤ 1000000 ∧ a.l ≠ [] ∧ ∀ x ∈ a.l, x < a.n) (fun a => [tZ K a.k (nL a.l), tN K a.n]) (fun a => tB K (asc a.l))
/-- good tables -/
structure OkT (tabs : List (List Nat)) (n : Nat) : Prop where
  n1 : 1 ≤ n
  n2 : n ≤ 12
  l1 : 1 ≤ tabs.length
  l2 : tabs.length ≤ 8
  row : ∀ t ∈ tabs, t.length = n ∧ ∀ x ∈ t, x < n
def tbD (tabs : List (List Nat)) : List PyData := tabs.map fun t => .tuple (nL t)
theorem tbD_len (tabs : List (List Nat)) : (tbD tabs).length = tabs.length := List.length_map ..
abbrev fMa (K : FR) (tabs : List (List Nat)) (n : Nat) : List (Str × Ty) := [("tables", tD K (.tuple (tbD tabs))), ("deeds", tN K tabs.length), ("states", tN K n)]
abbrev tMa (K : FR) (mg : MG) (tabs : List (List Nat)) (n : Nat) : Ty := tO (cOf "Machine" mg) (fMa K tabs n)
structure TabA where
  tabs : List (List Nat)
  n : Nat
abbrev sp_check_tables (K : FR) (mg : MG) : Sp := PrS (fun a : TabA => OkT a.tabs a.n) (fun a => [tD K (.list (tbD a.tabs))]) (fun a => tD K (.tuple (tbD a.tabs)))
abbrev sp_Machine_init (K : FR) (mg : MG) : Sp := PrI (fun a : TabA => OkT a.tabs a.n) (cOf "Machine" mg) (fun a => [tD K (.list (tbD a.tabs))]) (fun a => fMa K a.tabs a.n) (fun _ => xNo)
abbrev sp_is_table (K : FR) (mg : MG) : Sp := PrS (fun a : List Nat × Nat => a.1.length = a.2 ∧ a.2 ≤ 1000000 ∧ ∀ x ∈ a.1, x < a.2) (fun a => [tD K (.tuple (nL a.1)), tN K a.2]) (fun a => tB K true)
end
section
variable {P : Program} {w : World} {K : PySem.W.Frag} {mg : Str → Option Value} {base : Heap}
theorem ok_is_integer (T : Prg P K mg) : Callee P w K mg base 1 "is_integer" ["value"] (sp_is_integer K mg) := by
  refine T.d_is_integer.ok sc_is_integer (fun _ _ _ _ _ _ us hl => match us, hl with | [_], _ => rfl) (fun _ => rfl) ?_
  intro f cdv B outer s H Q E hr
  have hu := hu_of hr
  have hu64 := hu64_of hr
  refine ⟨_, (pss_one (ps_ret (pe_and (pe_callB (isiK K) rfl T.n_isinstance (by decide +kernel) (pa_cons (pv 0) (pa_cons (pe_bltn (v := .ty "int") rfl T.n_int (by decide +kernel) rfl) pa_nil))) (pe_one (pe_not (pe_callB (isiK K) rfl T.n_isinstance (by decide +kernel) (pa_cons (pv 0) (pa_cons (pe_bltn (v := .ty "bool") rfl T.n_bool (by decide +kernel) rfl) pa_nil)))))))), ?_⟩
  intro a G M hp hc hret hexc
  exact go_ret (ev_andV (ev_isInt (ev_var rfl)) (fun _ => ev_notV (ev_isBool (ev_var rfl)))) hret
theorem ok_is_number (T : Prg P K mg) : Callee P w K mg base 2 "is_number" ["value"] (sp_is_number K mg) := by
  refine T.d_is_number.ok sc_is_number (fun _ _ _ _ _ _ us hl => match us, hl with | [_], _ => rfl) (fun _ => rfl) ?_
  intro f cdv B outer s H Q E hr
  have hu := hu_of hr
  have hu64 := hu64_of hr
  refine ⟨_, (pss_one (ps_ret (pe_and (pcallG (ok_is_integer T) hr passL (pa_cons (pv 0) pa_nil)) (pe_one (pe_cmpR op_ge (pv 0) pe_int (nomark _)))))), ?_⟩
  intro a G M hp hc hret hexc
  cases a with
  | int i => exact go_ret (ev_to (ev_andV (ev_callS _ (ea_cons (ev_var rfl) ea_nil) trivial) (fun _ => ev_ge (ev_var rfl) ev_int)) rfl) hret
  | _ => exact go_ret (ev_to (ev_andV (b := false) (ev_callS _ (ea_cons (ev_var rfl) ea_nil) trivial) (fun z => nomatch z)) rfl) hret
theorem ok_is_below (T : Prg P K mg) : Callee P w K mg base 3 "is_below" ["value", "most"] (sp_is_below K mg) := by
  refine T.d_is_below.ok sc_is_below (fun _ _ _ _ _ _ us hl => match us, hl with | [_, _], _ => rfl) (fun _ => rfl) ?_
  intro f cdv B outer s H Q E hr
  have hu := hu_of hr
  have hu64 := hu64_of hr
  refine ⟨_, (pss_one (ps_ret (pe_and (pcallG (ok_is_number T) hr passL (pa_cons (pv 0) pa_nil)) (pe_one (pe_cmpR op_lt (pv 0) (pv 1) (nomark _)))))), ?_⟩
  intro a G M hp hc hret hexc
  obtain ⟨d, n⟩ := a
  cases d with
  | int i =>
    refine go_ret (ev_to (ev_andV (ev_callS _ (ea_cons (ev_var rfl) ea_nil) trivial) (fun _ => ev_lt (ev_var rfl) (ev_var rfl))) rfl) hret
  | _ => exact go_ret (ev_to (ev_andV (b := false) (ev_callS _ (ea_cons (ev_var rfl) ea_nil) trivial) (fun z => nomatch z)) rfl) hret
theorem ok_is_sequence (T : Prg P K mg) : Callee P w K mg base 1 "is_sequence" ["value"] (sp_is_sequence K mg) := by
  refine T.d_is_sequence.ok sc_is_sequence (fun _ _ _ _ _ _ us hl => match us, hl with | [_], _ => rfl) (fun _ => rfl) ?_
  intro f cdv B outer s H Q E hr
  have hu := hu_of hr
  have hu64 := hu64_of hr
  refine ⟨_, (pss_one (ps_ret (pe_callB (isiTK K) rfl T.n_isinstance (by decide +kernel) (pa_cons (pv 0) (pa_cons (pe_tup (pa_cons (pe_bltn (v := .ty "list") rfl T.n_list (by decide +kernel) rfl) (pa_cons (pe_bltn (v := .ty "tuple") rfl T.n_tuple (by decide +kernel) rfl) pa_nil))) pa_nil))))), ?_⟩
  intro a G M hp hc hret hexc
  exact go_ret (ev_isSeq (ev_var rfl)) hret
theorem ok_is_text (T : Prg P K mg) : Callee P w K mg base 1 "is_text" ["value"] (sp_is_text K mg) := by
  refine T.d_is_text.ok sc_is_text (fun _ _ _ _ _ _ us hl => match us, hl with | [_], _ => rfl) (fun _ => rfl) ?_
  intro f cdv B outer s H Q E hr
  have hu := hu_of hr
  have hu64 := hu64_of hr
  refine ⟨_, (pss_one (ps_ret (pe_callB (isiK K) rfl T.n_isinstance (by decide +kernel) (pa_cons (pv 0) (pa_cons (pe_bltn (v := .ty "str") rfl T.n_str (by decide +kernel) rfl) pa_nil))))), ?_⟩
  intro a G M hp hc hret hexc
  exact go_ret (ev_isStr (ev_var rfl)) hret
section
variable {Γ : Gam} {M : Mem} {ta tb tc : TE} {E : XK} {d : PyData}
theorem ev_is_integer {b : Bool} (h : Ev Γ M ta (tD K d)) (e : isInteger d = b := by rfl) : Ev Γ M (tCall (sp_is_integer K mg) [] E (tCons ta tNil)) (tB K b) := e ▸ ev_callS d (ea_cons h ea_nil) trivial
theorem ev_is_number {b : Bool} (h : Ev Γ M ta (tD K d)) (e : isNumber d = b := by rfl) : Ev Γ M (tCall (sp_is_number K mg) [] E (tCons ta tNil)) (tB K b) := e ▸ ev_callS d (ea_cons h ea_nil) trivial
theorem ev_is_below {b : Bool} {n : Nat} (h : Ev Γ M ta (tD K d)) (hb : Ev Γ M tb (tN K n)) (e : isBelow n d = b := by rfl) : Ev Γ M (tCall (sp_is_below K mg) [] E (tCons ta (tCons tb tNil))) (tB K b) := e ▸ ev_callS (d, n) (ea_cons h (ea_cons hb ea_nil)) trivial
theorem ev_is_sequence {b : Bool} (h : Ev Γ M ta (tD K d)) (e : isSeq d = b := by rfl) : Ev Γ M (tCall (sp_is_sequence K mg) [] E (tCons ta tNil)) (tB K b) := e ▸ ev_callS d (ea_cons h ea_nil) trivial
theorem ev_is_text {b : Bool} (h : Ev Γ M ta (tD K d)) (e : isStr d = b := by rfl) : Ev Γ M (tCall (sp_is_text K mg) [] E (tCons ta tNil)) (tB K b) := e ▸ ev_callS d (ea_cons h ea_nil) trivial
theorem ev_is_ascending {b : Bool} {k : Bool} {l : List Nat} {n : Nat} (h : Ev Γ M ta (tZ K k (nL l))) (hb : Ev Γ M tb (tN K n)) (hz : l.length ≤ 1000000) (hne : l ≠ []) (hl : ∀ x ∈ l, x < n) (e : asc l = b := by rfl) : Ev Γ M (tCall (sp_is_ascending K mg) [] E (tCons ta (tCons tb tNil))) (tB K b) := e ▸ ev_callS (⟨k, l, n⟩ : AscA) (ea_cons h (ea_cons hb ea_nil)) ⟨hz, hne, hl⟩
theorem ev_are_rising {b : Bool} {k : Bool} {l : List Nat} {n : Nat} (h : Ev Γ M ta (tZ K k (nL l))) (hb : Ev Γ M tb (tN K n)) (hz : l.length ≤ 1000000) (hl : ∀ x ∈ l, x < n) (e : asc l = b := by rfl) : Ev Γ M (tCall (sp_are_rising K mg) [] E (tCons ta (tCons tb tNil))) (tB K b) := e ▸ ev_callS (⟨k, l, n⟩ : AscA) (ea_cons h (ea_cons hb ea_nil)) ⟨hz, hl⟩
theorem ev_is_table {l : List Nat} {n : Nat} (h : Ev Γ M ta (tD K (.tuple (nL l)))) (hb : Ev Γ M tb (tN K n)) (h1 : l.length = n) (hz : n ≤ 1000000) (hl : ∀ x ∈ l, x < n) : Ev Γ M (tCall (sp_is_table K mg) [] E (tCons ta (tCons tb tNil))) (tB K true) :=
  ev_callS (l, n) (ea_cons h (ea_cons hb ea_nil)) ⟨h1, hz, hl⟩
theorem ev_check_tables {tabs : List (List Nat)} {n : Nat} (h : Ev Γ M ta (tD K (.list (tbD tabs)))) (ok : OkT tabs n) : Ev Γ M (tCall (sp_check_tables K mg) [] E (tCons ta tNil)) (tD K (.tuple (tbD tabs))) :=
  ev_callS (⟨tabs, n⟩ : TabA) (ea_cons h ea_nil) ok
end
theorem all_below {l : List Nat} {n : Nat} (h : ∀ x ∈ l, x < n) : (nL l).all (isBelow n) = true := by
  unfold nL
  rw [List.all_map, List.all_eq_true]
  intro x hx
  show (decide (0 ≤ (x : Int)) && decide ((x : Int) < n)) = true
  have := h x hx
  rw [Bool.and_eq_true, decide_eq_true_eq, decide_eq_true_eq]
  omega
theorem isSeq_tZ {k : Bool} {ds : List PyData} : isSeq (if k then .tuple ds else .list ds) = true := by cases k <;> rfl
theorem ok_is_ascending (T : Prg P K mg) : Callee P w K mg base 4 "is_ascending" ["value", "most"] (sp_is_ascending K mg) := by
  refine T.d_is_ascending.ok sc_is_ascending (fun _ _ _ _ _ _ us hl => match us, hl with | [_, _], _ => rfl) (fun _ => rfl) ?_
  intro f cdv B outer s H Q E hr
  have hu := hu_of hr
  have hu64 := hu64_of hr
  refine ⟨_, (pss_cons (ps_if (PW.pt (pw_or (pt_not (pt_val (pcallG (ok_is_sequence T) hr passL (pa_cons (pv 0) pa_nil)))) (pw_or (pt_cmpR (eqK K hu64) (pe_callB (lenK K) rfl T.n_len (by decide +kernel) (pa_cons (pv 0) pa_nil)) pe_int (nomark _)) (pw_or1 (pt_not (pt_val (pe_callB (allK K) rfl T.n_all (by decide +kernel) (pa_cons (pe_lc rfl sc_is_ascending.nd (seqK K (pv 0)) (blkOk_by (own := [("number", 2)]) (N := N_is_ascending) (sc := defScope s_is_ascending) (by decide +kernel)) (fun _ _ _ _ _ => (pg_name (i := 2) sc_is_ascending.nd rfl (Or.inl rfl))) (fun _ _ _ _ _ => pts_nil) (fun _ _ _ _ _ => (pcallG (ok_is_below T) hr passL (pa_cons (pv 2) (pa_cons (pv 1) pa_nil))))) pa_nil)))))))) (pss_one (ps_ret pe_bl)) pss_nil)
      (pss_one (ps_ret (pe_callB (allK K) rfl T.n_all (by decide +kernel) (pa_cons (pe_lc rfl sc_is_ascending.nd (zipK K rfl T.n_zip (pa_cons (pv 0) (pa_cons (slK K (pv 0) (po_some pe_int) po_none) pa_nil))) (blkOk_by (own := [("one", 3), ("other", 4)]) (N := N_is_ascending) (sc := defScope s_is_ascending) (by decide +kernel)) (fun _ _ _ _ _ => (tupG K 2 (pgs_cons (pg_name (i := 3) sc_is_ascending.nd rfl (Or.inl rfl)) (pgs_cons (pg_name (i := 4) sc_is_ascending.nd rfl (Or.inl rfl)) pgs_nil)))) (fun _ _ _ _ _ => pts_nil) (fun _ _ _ _ _ => (pe_cmpR op_lt (pv 3) (pv 4) (nomark _)))) pa_nil))))), ?_⟩
  intro a G M hp hc hret hexc
  obtain ⟨k, l, n⟩ := a
  obtain ⟨hz, hne, hb⟩ := hp
  refine go_ifs (et_or (a := false) (b := false || false) ?_ fun _ => et_or (a := false) (b := false) ?_ fun _ => ?_) ?_ ?_
  · exact et_n (et_b (ev_callS _ (ea_cons (ev_var rfl) ea_nil) trivial) isSeq_tZ) rfl
  · refine et_t (ev_eqN (ev_lenN (ev_ZQ (ev_var rfl))) (ev_nat 0)) (decide_eq_false fun z => hne (List.length_eq_zero_iff.mp z))
  · refine et_n (et_b (ev_allS (isBelow n) (ev_ZQ (ev_var rfl)) (by rw [nL_len]; exact hz) fun d hd M' hM => ?_) (all_below hb)) rfl
    exact ev_callS (d, n) (ea_cons (ev_var rfl) (ea_cons (ev_var rfl) ea_nil)) trivial
  · exact fun z => nomatch z
  · exact fun _ => go_ret (ev_allZ (ev_var rfl) hz (by show 3 < 5; decide) (by show 4 < 5; decide) (by decide)) hret
theorem ok_are_rising (T : Prg P K mg) : Callee P w K mg base 4 "are_rising" ["value", "most"] (sp_are_rising K mg) := by
  refine T.d_are_rising.ok sc_are_rising (fun _ _ _ _ _ _ us hl => match us, hl with | [_, _], _ => rfl) (fun _ => rfl) ?_
  intro f cdv B outer s H Q E hr
  have hu := hu_of hr
  have hu64 := hu64_of hr
  refine ⟨_, (pss_cons (ps_if (PW.pt (pw_or (pt_not (pt_val (pcallG (ok_is_sequence T) hr passL (pa_cons (pv 0) pa_nil)))) (pw_or1 (pt_not (pt_val (pe_callB (allK K) rfl T.n_all (by decide +kernel) (pa_cons (pe_lc rfl sc_are_rising.nd (seqK K (pv 0)) (blkOk_by (own := [("one", 2)]) (N := N_are_rising) (sc := defScope s_are_rising) (by decide +kernel)) (fun _ _ _ _ _ => (pg_name (i := 2) sc_are_rising.nd rfl (Or.inl rfl))) (fun _ _ _ _ _ => pts_nil) (fun _ _ _ _ _ => (pcallG (ok_is_below T) hr passL (pa_cons (pv 2) (pa_cons (pv 1) pa_nil))))) pa_nil))))))) (pss_one (ps_ret pe_bl)) pss_nil)
      (pss_one (ps_ret (pe_callB (allK K) rfl T.n_all (by decide +kernel) (pa_cons (pe_lc rfl sc_are_rising.nd (zipK K rfl T.n_zip (pa_cons (pv 0) (pa_cons (slK K (pv 0) (po_some pe_int) po_none) pa_nil))) (blkOk_by (own := [("one", 2), ("other", 3)]) (N := N_are_rising) (sc := defScope s_are_rising) (by decide +kernel)) (fun _ _ _ _ _ => (tupG K 2 (pgs_cons (pg_name (i := 2) sc_are_rising.nd rfl (Or.inl rfl)) (pgs_cons (pg_name (i := 3) sc_are_rising.nd rfl (Or.inl rfl)) pgs_nil)))) (fun _ _ _ _ _ => pts_nil) (fun _ _ _ _ _ => (pe_cmpR op_lt (pv 2) (pv 3) (nomark _)))) pa_nil))))), ?_⟩
  intro a G M hp hc hret hexc
  obtain ⟨k, l, n⟩ := a
  obtain ⟨hz, hb⟩ := hp
  refine go_ifs (et_or (a := false) (b := false) ?_ fun _ => ?_) ?_ ?_
  · exact et_n (et_b (ev_callS _ (ea_cons (ev_var rfl) ea_nil) trivial) isSeq_tZ) rfl
  · refine et_n (et_b (ev_allS (isBelow n) (ev_ZQ (ev_var rfl)) (by rw [nL_len]; exact hz) fun d hd M' hM => ?_) (all_below hb)) rfl
    exact ev_callS (d, n) (ea_cons (ev_var rfl) (ea_cons (ev_var rfl) ea_nil)) trivial
  · exact fun z => nomatch z
  · exact fun _ => go_ret (ev_allZ (ev_var rfl) hz (by show 2 < 4; decide) (by show 3 < 4; decide) (by decide)) hret
theorem ok_is_table (T : Prg P K mg) : Callee P w K mg base 4 "is_table" ["value", "states"] (sp_is_table K mg) := by
  refine T.d_is_table.ok sc_is_table (fun _ _ _ _ _ _ us hl => match us, hl with | [_, _], _ => rfl) (fun _ => rfl) ?_
  intro f cdv B outer s H Q E hr
  have hu := hu_of hr
  have hu64 := hu64_of hr
  refine ⟨_, (pss_one (ps_ret (pe_and (pcallG (ok_is_sequence T) hr passL (pa_cons (pv 0) pa_nil)) (pe_and (pe_cmpR (eqK K hu64) (pe_callB (lenK K) rfl T.n_len (by decide +kernel) (pa_cons (pv 0) pa_nil)) (pv 1) (nomark _)) (pe_one (pe_callB (allK K) rfl T.n_all (by decide +kernel) (pa_cons (pe_lc rfl sc_is_table.nd (seqK K (pv 0)) (blkOk_by (own := [("state", 2)]) (N := N_is_table) (sc := defScope s_is_table) (by decide +kernel)) (fun _ _ _ _ _ => (pg_name (i := 2) sc_is_table.nd rfl (Or.inl rfl))) (fun _ _ _ _ _ => pts_nil) (fun _ _ _ _ _ => (pcallG (ok_is_below T) hr passL (pa_cons (pv 2) (pa_cons (pv 1) pa_nil))))) pa_nil))))))), ?_⟩
  intro a G M hp hc hret hexc
  obtain ⟨l, n⟩ := a
  obtain ⟨hl, hz, hb⟩ := hp
  have hl' : l.length = n := hl
  refine go_ret (ev_andV (a := true) (b := true && true) (ev_is_sequence (ev_var rfl)) fun _ => ev_andV (a := true) (b := true) (ev_to (ev_eqN (ev_lenN (ev_tQ (ev_var rfl))) (ev_var rfl)) ?_) fun _ => ev_to (ev_allS (isBelow n) (ev_tQ (ev_var rfl)) (by rw [nL_len, hl']; exact hz) fun d hd M' hM => ?_) ?_) hret
  · rw [decide_eq_true hl']
  · exact ev_is_below (ev_var rfl) (ev_var rfl)
  · rw [all_below hb]
theorem ok_check_tables (T : Prg P K mg) : Callee P w K mg base 9 "check_tables" ["tables"] (sp_check_tables K mg) := by
  refine T.d_check_tables.ok sc_check_tables (fun _ _ _ _ _ _ us hl => match us, hl with | [_], _ => rfl) (fun _ => rfl) ?_
  intro f cdv B outer s H Q E hr
  have hu := hu_of hr
  have hu64 := hu64_of hr
  refine ⟨_, (pss_cons (ps_if (PW.pt (pw_or (pt_not (pt_val (pcallG (ok_is_sequence T) hr passL (pa_cons (pv 0) pa_nil)))) (pw_or1 (pt_not (pt_chain op_le op_le pe_int (pe_callB (lenK K) rfl T.n_len (by decide +kernel) (pa_cons (pv 0) pa_nil)) (pglobI T.MOST_DEEDS)))))) (pss_one ps_never) pss_nil)
      (pss_cons (ps_set (i := 1) sc_check_tables.nd rfl (Or.inl rfl) (pe_ifExp (pt_val (pcallG (ok_is_sequence T) hr passL (pa_cons (ixK K (pv 0) pe_int) pa_nil))) (pe_callB (lenK K) rfl T.n_len (by decide +kernel) (pa_cons (ixK K (pv 0) pe_int) pa_nil)) pe_int))
      (pss_cons (ps_for (passes_of rfl) rfl (enumK K rfl T.n_enumerate (pa_cons (pv 0) pa_nil)) (tupG K 2 (pgs_cons (pg_name (i := 2) sc_check_tables.nd rfl (Or.inl rfl)) (pgs_cons (pg_name (i := 3) sc_check_tables.nd rfl (Or.inl rfl)) pgs_nil))) (pss_one (ps_if (PW.pt (pw_or (pt_not (pt_chain op_le op_le pe_int (pv 1) (pglobI T.MOST_STATES))) (pw_or1 (pt_not (pt_val (pcallG (ok_is_table T) hr passL (pa_cons (pv 3) (pa_cons (pv 1) pa_nil)))))))) (pss_one ps_never) pss_nil)))
      (pss_one (ps_ret (pe_callTy (tupleK K) rfl T.n_tuple (by decide +kernel) (pa_cons (pe_lc rfl sc_check_tables.nd (seqK K (pv 0)) (blkOk_by (own := [("table", 3)]) (N := N_check_tables) (sc := defScope s_check_tables) (by decide +kernel)) (fun _ _ _ _ _ => (pg_name (i := 3) sc_check_tables.nd rfl (Or.inl rfl))) (fun _ _ _ _ _ => pts_nil) (fun _ _ _ _ _ => (pe_callTy (tupleK K) rfl T.n_tuple (by decide +kernel) (pa_cons (pv 3) pa_nil)))) pa_nil))))))), ?_⟩
  intro a G M hp hc hret hexc
  obtain ⟨tabs, n⟩ := a
  have hp' : OkT tabs n := hp
  obtain ⟨n1, n2, l1, l2, row⟩ := hp'
  have hrow : ∀ i, i < tabs.length → ∃ t, tabs[i]? = some t ∧ t.length = n ∧ ∀ x ∈ t, x < n := fun i hi => ⟨tabs[i], List.getElem?_eq_getElem hi, row _ (List.getElem_mem hi)⟩
  have hat : ∀ i, i < tabs.length → ∃ t, dAt (tbD tabs) i = .tuple (nL t) ∧ t.length = n ∧ ∀ x ∈ t, x < n := fun i hi => by
    obtain ⟨t, h1, h2⟩ := hrow i hi
    exact ⟨t, dAt_map h1, h2⟩
  obtain ⟨t0, e0, hl0, _⟩ := hat 0 l1
  have h0 : ∀ Γ M, Γ[0]? = some (some (tD K (.list (tbD tabs)))) → Ev Γ M (tOp (rIx K) (tVar 0) (tC (.int 0))) (tD K (.tuple (nL t0))) := fun Γ M hΓ => e0 ▸ ev_ixD (ev_lQ (ev_var hΓ)) (ev_nat 0) (by rw [tbD_len]; exact l1)
  refine go_ifs (et_or (a := false) (b := false) (et_n (et_b (ev_is_sequence (ev_var rfl)) rfl) rfl) fun _ => et_n (b := true) ?_ rfl) (fun z => nomatch z) fun _ => ?_
  · refine et_t (ev_chain (i := 1) (j := tabs.length) (k := 8) ev_int (ev_to (ev_len (ev_lQ (ev_var rfl))) (by rw [tbD_len])) ev_int) ?_
    rw [Bool.and_eq_true, decide_eq_true_eq, decide_eq_true_eq]
    have l1' : 1 ≤ tabs.length := l1
    have l2' : tabs.length ≤ 8 := l2
    omega
  refine go_set (T := tN K n) (ev_if (et_b (a := true) (ev_is_sequence (h0 _ _ rfl)) rfl) (fun _ => ?_) (fun z => nomatch z)) ?_
  · have := ev_lenN (ev_tQ (h0 (g0 N_check_tables [tD K (.list (tbD tabs))]) M rfl))
    rw [hl0] at this
    exact this
  refine go_seq (go_forC [some (tD K (.list (tbD tabs))), some (tN K n), none, none] (it_enum (ev_lQ (ev_var rfl))) (Le.refl _) (fun i => [some (tD K (.list (tbD tabs))), some (tN K n), some (tN K i), some (tD K (dAt (tbD tabs) i))]) (fun i hi => tg_pair) (fun i Gt hi e => ?_) (go_nx ?_))
  · obtain ⟨t, et, hl, hb⟩ := hat i (by rw [tbD_len] at hi; exact hi)
    rw [et]
    refine go_if (et_or (a := false) (b := false) (et_n (b := true) (et_t (ev_chain (i := 1) (j := n) (k := 12) ev_int (ev_var rfl) ev_int) ?_) rfl) fun _ => et_n (et_b (ev_is_table (ev_var rfl) (ev_var rfl) hl (Nat.le_trans n2 (by decide)) hb) rfl) rfl) (fun z => nomatch z) fun _ => go_endW () trivial (.same (.same (.no (.no .nil)))) rfl
    rw [Bool.and_eq_true, decide_eq_true_eq, decide_eq_true_eq]
    have l1' : 1 ≤ n := n1
    have l2' : n ≤ 12 := n2
    omega
  · have r := ev_lcA (K := K) (j := 3) (l := tabs) (f := fun t => .tuple (nL t)) (v := fun t => .tuple (nL t)) (M := M) (te := tCB (rTupleOf K) (tCons (tVar 3) tNil)) (ev_lQ (ev_var (Γ := [some (tD K (.list (tbD tabs))), some (tN K n), none, none]) (i := 0) rfl)) (by omega) fun t ht M' hM => ev_tupleOf (ev_tQ (ev_var rfl))
    exact go_ret (ev_tupleOf (ev_LQ r)) hret
theorem ok_Machine_init (T : Prg P K mg) : ICallee P w K mg base 10 "Machine" (cOf "Machine" mg) ["self", "tables"] (sp_Machine_init K mg) := by
  refine T.d_Machine_init.ok sc_Machine_init (fun _ _ _ _ _ _ us hl => match us, hl with | [_, _], _ => rfl) (fun _ => rfl) ?_
  intro f cdv B outer s H Q E hr
  have hu := hu_of hr
  have hu64 := hu64_of hr
  refine ⟨_, (pss_cons (ps_fld (pv 0) (pcallG (ok_check_tables T) hr passL (pa_cons (pv 1) pa_nil)) rfl)
      (pss_cons (ps_fld (pv 0) (pe_callB (lenK K) rfl T.n_len (by decide +kernel) (pa_cons (fldK K (pv 0)) pa_nil)) rfl)
      (pss_one (ps_fld (pv 0) (pe_callB (lenK K) rfl T.n_len (by decide +kernel) (pa_cons (ixK K (fldK K (pv 0)) pe_int) pa_nil)) rfl)))), ?_⟩
  intro a G M self hp hret hexc
  obtain ⟨tabs, n⟩ := a
  have hp' : OkT tabs n := hp
  have hz : (tbD tabs).length ≤ 1000 := by rw [tbD_len]; exact Nat.le_trans hp'.l2 (by decide)
  have hself : ∀ {M : Mem}, Ev (g0 N_Machine_init [tV (.ref self), tD K (.list (tbD tabs))]) M (tVar 0) (tV (.ref self)) := ev_var rfl
  have hd : n ≤ 12 := hp'.n2
  have ht : ∀ {Γ : Gam} {M : Mem} {Fs : List (Str × Ty)}, Γ[0]? = some (some (tV (.ref self))) → List.lookup (α := Str) "tables" Fs = some (tD K (.tuple (tbD tabs))) → Ev Γ ((self, cO (cOf "Machine" mg) Fs) :: M) (tFld K (tVar 0) "tables") (tD K (.tuple (tbD tabs))) := fun h1 h2 => ev_fldM (ev_var h1) List.mem_cons_self h2 T.cls_Machine T.na_Machine_tables
  refine go_fldX [("tables", tD K (.tuple (tbD tabs)))] (ev_check_tables (ev_var rfl) hp') hself T.cls_Machine T.na_Machine_tables ?_ rfl (by show 0 < 1000; decide)
  refine go_fldX [("tables", tD K (.tuple (tbD tabs))), ("deeds", tN K tabs.length)] (ev_to (ev_len (ev_tQ (ht rfl rfl))) (by rw [tbD_len])) hself T.cls_Machine T.na_Machine_deeds ?_ rfl (by show 1 < 1000; decide)
  refine go_fld (T := tN K n) ?_ hself T.cls_Machine T.na_Machine_states (by show 2 < 1000; decide) fun G' σ H e s w => hret G' H e w
  obtain ⟨t, h1, h2⟩ : ∃ t, tabs[0]? = some t ∧ t.length = n := ⟨tabs[0]'hp'.l1, List.getElem?_eq_getElem hp'.l1, (hp'.row _ (List.getElem_mem hp'.l1)).1⟩
  have r := ev_ixD (ds := tbD tabs) (a := 0) (ta := tFld K (tVar 0) "tables") (tb := tC (.int 0)) (M := (self, cO (cOf "Machine" mg) [("tables", tD K (.tuple (tbD tabs))), ("deeds", tN K tabs.length)]) :: M) (Γ := g0 N_Machine_init [tV (.ref self), tD K (.list (tbD tabs))]) (ev_tQ (ht rfl rfl)) (ev_nat 0) (by rw [tbD_len]; exact hp'.l1)
  have e0 : dAt (tbD tabs) 0 = .tuple (nL t) := dAt_map h1
  rw [e0] at r
  have r2 := ev_lenN (ev_tQ r)
  rw [h2] at r2
  exact r2
end
end Ag
set_option Elab.async false
set_option linter.all false
set_option maxRecDepth 100000
set_option maxHeartbeats 2000000
/-! Ag7: ages. -/
namespace Ag
open PySem PySem.Spec PyProof.Rows L2
def tNo : Ty := ⟨fun _ _ => False, fun _ h => h⟩
/-! ### what a log does -/
def st (tabs : List (List Nat)) (d s : Nat) : Nat := gt (tabs.getD d []) s
def run (tabs : List (List Nat)) (log : List Nat) (s : Nat) : Nat := log.foldl (fun s d => st tabs d s) s
def rowOf (tabs : List (List Nat)) (n : Nat) (log : List Nat) (k : Nat) : List Nat := (List.range n).map fun s => run tabs (log.take k) s
def rowsOf (tabs : List (List Nat)) (n : Nat) (log : List Nat) : List (List Nat) := (List.range (log.length + 1)).map (rowOf tabs n log)
def OkL (tabs : List (List Nat)) (log : List Nat) : Prop := log.length ≤ 1000 ∧ ∀ x ∈ log, x < tabs.length
theorem gt_mem {l : List Nat} {i : Nat} (h : i < l.length) : gt l i ∈ l := List.mem_iff_getElem?.mpr ⟨i, gt_lt h⟩
theorem tab_at {tabs : List (List Nat)} {n d : Nat} (ok : OkT tabs n) (h : d < tabs.length) : ∃ t, tabs[d]? = some t ∧ tabs.getD d [] = t ∧ t.length = n ∧ ∀ x ∈ t, x < n := by
  refine ⟨tabs[d], List.getElem?_eq_getElem h, by rw [List.getD_eq_getElem?_getD, List.getElem?_eq_getElem h]; rfl, ok.row _ (List.getElem_mem h)⟩
theorem st_lt {tabs : List (List Nat)} {n d s : Nat} (ok : OkT tabs n) (h : d < tabs.length) (hs : s < n) : st tabs d s < n := by
  obtain ⟨t, _, e, hl, hb⟩ := tab_at ok h
  unfold st
  rw [e]
  exact hb _ (gt_mem (by rw [hl]; exact hs))
theorem run_lt {tabs : List (List Nat)} {n : Nat} (ok : OkT tabs n) : ∀ {log : List Nat} {s : Nat}, (∀ x ∈ log, x < tabs.length) → s < n → run tabs log s < n
  | [], s, _, hs => hs
  | d :: log, s, h, hs => run_lt (log := log) ok (fun x hx => h x (List.mem_cons_of_mem _ hx)) (st_lt ok (h d List.mem_cons_self) hs)
theorem run_succ (tabs : List (List Nat)) (log : List Nat) (s i : Nat) (h : i < log.length) : run tabs (log.take (i + 1)) s = st tabs (gt log i) (run tabs (log.take i) s) := by
  unfold run
  rw [List.take_succ, gt_lt h, List.foldl_append]
  rfl
theorem OkL.take {tabs : List (List Nat)} {log : List Nat} (h : OkL tabs log) (k : Nat) : ∀ x ∈ log.take k, x < tabs.length := fun x hx => h.2 x (List.mem_of_mem_take hx)
theorem rowOf_len (tabs : List (List Nat)) (n : Nat) (log : List Nat) (k : Nat) : (rowOf tabs n log k).length = n := by unfold rowOf; rw [List.length_map, List.length_range]
theorem rowOf_at {tabs : List (List Nat)} {n : Nat} {log : List Nat} {k s : Nat} (h : s < n) : gt (rowOf tabs n log k) s = run tabs (log.take k) s := by
  unfold gt rowOf
  rw [List.getD_eq_getElem?_getD, List.getElem?_map, List.getElem?_range h]
  rfl
theorem rowsOf_len (tabs : List (List Nat)) (n : Nat) (log : List Nat) : (rowsOf tabs n log).length = log.length + 1 := by unfold rowsOf; rw [List.length_map, List.length_range]
theorem rowsOf_at {tabs : List (List Nat)} {n : Nat} {log : List Nat} {k : Nat} (h : k < log.length + 1) : (rowsOf tabs n log)[k]? = some (rowOf tabs n log k) := by
  unfold rowsOf
  rw [List.getElem?_map, List.getElem?_range h]
  rfl
/-! ### arguments -/
/-- what starts may be, and what it tells -/
inductive GoodSt (n : Nat) : PyData → List Nat → Prop
  | none : GoodSt n .none (List.range n)
  | seq (k : Bool) (l : List Nat) : l.length ≤ 1000 → l ≠ [] → asc l = true → (∀ x ∈ l, x < n) → GoodSt n (if k then .tuple (nL l) else .list (nL l)) l
inductive GoodKp (len : Nat) : PyData → List Nat → Prop
  | none : GoodKp len .none (List.range (len + 1))
  | seq (k : Bool) (l : List Nat) : l.length ≤ 1000 → asc l = true → (∀ x ∈ l, x < len + 1) → GoodKp len (if k then .tuple (nL l) else .list (nL l)) l
def bdD : Option Nat → PyData
  | none => .none
  | some b => nI b
def GoodBd : Option Nat → Prop
  | none => True
  | some b => 0 < b
def inWin (age length : Nat) : Option Nat → Bool
  | none => true
  | some b => decide (length < age + b)
structure LogA where
  tabs : List (List Nat)
  n : Nat
  k : Bool
  log : List Nat
  ok : Bool
abbrev sp_check_log (K : FR) (mg : MG) : Sp := PrX (fun a : LogA => OkT a.tabs a.n ∧ if a.ok then OkL a.tabs a.log else ∃ x, a.log = [x] ∧ a.tabs.length ≤ x) (fun _ => []) (fun a => [tMa K mg a.tabs a.n, tZ K a.k (nL a.log)]) (fun a => if a.ok then tD K (.tuple (nL a.log)) else tNo) (fun a => if a.ok then xNo else xA K (cB mg) (.int 0))
abbrev sp_need_state (K : FR) (mg : MG) : Sp := PrS (fun a : (TabA × Nat) => a.2 < a.1.n) (fun a => [tMa K mg a.1.tabs a.1.n, tN K a.2]) (fun a => tN K a.2)
structure StA where
  tabs : List (List Nat)
  n : Nat
  d : PyData
  l : List Nat
abbrev sp_check_starts (K : FR) (mg : MG) : Sp := PrS (fun a : StA => OkT a.tabs a.n ∧ GoodSt a.n a.d a.l) (fun a => [tMa K mg a.tabs a.n, tD K a.d]) (fun a => tD K (.tuple (nL a.l)))
structure KpA where
  len : Nat
  d : PyData
  l : List Nat
  ok : Bool
abbrev sp_check_kept (K : FR) (mg : MG) : Sp := PrX (fun a : KpA => a.len ≤ 1000 ∧ if a.ok then GoodKp a.len a.d a.l else a.d = .tuple (nL [0, 0])) (fun _ => []) (fun a => [tD K a.d, tN K a.len]) (fun a => if a.ok then tD K (.tuple (nL a.l)) else tNo) (fun a => if a.ok then xNo else xA K (cR mg) a.d)
structure BdA where
  d : PyData
  b : Option Nat
  ok : Bool
abbrev sp_check_bound (K : FR) (mg : MG) : Sp := PrX (fun a : BdA => if a.ok then GoodBd a.b ∧ a.d = bdD a.b else a.d = nI 0) (fun _ => []) (fun a => [tD K a.d]) (fun a => if a.ok then tD K a.d else tNo) (fun a => if a.ok then xNo else xA K (cR mg) a.d)
structure BehA where
  tabs : List (List Nat)
  n : Nat
  s : Nat
  l : List Nat
abbrev sp_behind (K : FR) (mg : MG) : Sp := PrS (fun a : BehA => OkT a.tabs a.n ∧ a.s < a.n ∧ OkL a.tabs a.l) (fun a => [tD K (.tuple (tbD a.tabs)), tN K a.s, tD K (.tuple (nL a.l))]) (fun a => tN K (run a.tabs a.l a.s))
abbrev sp_start_rows (K : FR) (mg : MG) : Sp := PrS (fun a : BehA => OkT a.tabs a.n ∧ OkL a.tabs a.l) (fun a => [tMa K mg a.tabs a.n, tD K (.tuple (nL a.l))]) (fun a => tD K (.list (tbD (rowsOf a.tabs a.n a.l))))
structure WinA where
  age : Nat
  len : Nat
  b : Option Nat
abbrev sp_in_window (K : FR) (mg : MG) : Sp := PrS (fun a : WinA => True) (fun a => [tN K a.age, tN K a.len, tD K (bdD a.b)]) (fun a => tB K (inWin a.age a.len a.b))
theorem ev_neg {K : FR} {Γ : Gam} {M : Mem} {ta : TE} {i : Int} (h : Ev Γ M ta (tD K (.int i))) : Ev Γ M (tUn (rU fun i => .int (-i)) ta) (tD K (.int (-i))) := fun G σ H s w Q q =>
  h G σ H s w _ fun v G1 H1 e1 w1 h1 => ⟨i, dp_int h1, q _ G1 H1 e1 w1 (.int _)⟩
section
variable {P : Program} {w : World} {K : PySem.W.Frag} {mg : Str → Option Value} {base : Heap}
section
variable {Γ : Gam} {M : Mem} {ta tb tc : TE} {E : XK} {d : PyData} {tabs : List (List Nat)} {n : Nat}
theorem ev_tables (T : Prg P K mg) (h : Ev Γ M ta (tMa K mg tabs n)) : Ev Γ M (tFld K ta "tables") (tD K (.tuple (tbD tabs))) := ev_fld h rfl T.cls_Machine T.na_Machine_tables
theorem ev_deeds (T : Prg P K mg) (h : Ev Γ M ta (tMa K mg tabs n)) : Ev Γ M (tFld K ta "deeds") (tN K tabs.length) := ev_fld h rfl T.cls_Machine T.na_Machine_deeds
theorem ev_states (T : Prg P K mg) (h : Ev Γ M ta (tMa K mg tabs n)) : Ev Γ M (tFld K ta "states") (tN K n) := ev_fld h rfl T.cls_Machine T.na_Machine_states
theorem below_nat {x n : Nat} (h : x < n) : isBelow n (nI x) = true := by
  show (decide (0 ≤ (x : Int)) && decide ((x : Int) < n)) = true
  rw [Bool.and_eq_true, decide_eq_true_eq, decide_eq_true_eq]
  omega
theorem not_below {x n : Nat} (h : n ≤ x) : isBelow n (nI x) = false := by
  show (decide (0 ≤ (x : Int)) && decide ((x : Int) < n)) = false
  rw [Bool.and_eq_false_iff, decide_eq_false_iff_not, decide_eq_false_iff_not]
  omega
end
theorem ok_check_log (T : Prg P K mg) : Callee P w K mg base 9 "check_log" ["machine", "value"] (sp_check_log K mg) := by
  refine T.d_check_log.ok sc_check_log (fun _ _ _ _ _ _ us hl => match us, hl with | [_, _], _ => rfl) (fun _ => rfl) ?_
  intro f cdv B outer s H Q E hr
  have hu := hu_of hr
  have hu64 := hu64_of hr
  refine ⟨_, (pss_cons (ps_if (PW.pt (pw_or (pt_not (pt_val (pcallG (ok_is_sequence T) hr passL (pa_cons (pv 1) pa_nil)))) (pw_or1 (pt_cmpR op_gt (pe_callB (lenK K) rfl T.n_len (by decide +kernel) (pa_cons (pv 1) pa_nil)) (pglobI T.MOST_LOG) (nomark _))))) (pss_one ps_never) pss_nil)
      (pss_cons (ps_for (passes_of rfl) rfl (enumK K rfl T.n_enumerate (pa_cons (pv 1) pa_nil)) (tupG K 2 (pgs_cons (pg_name (i := 2) sc_check_log.nd rfl (Or.inl rfl)) (pgs_cons (pg_name (i := 3) sc_check_log.nd rfl (Or.inl rfl)) pgs_nil))) (pss_one (ps_if (pt_not (pt_val (pcallG (ok_is_below T) hr passL (pa_cons (pv 3) (pa_cons (fldK K (pv 0)) pa_nil))))) (pss_one (ps_raiseA T.BadLog hr (pa_cons (pv 2) pa_nil) (takes_of rfl rfl rfl rfl))) pss_nil)))
      (pss_one (ps_ret (pe_callTy (tupleK K) rfl T.n_tuple (by decide +kernel) (pa_cons (pv 1) pa_nil)))))), ?_⟩
  intro a G M hp hc hret hexc
  obtain ⟨tabs, n, k, log, ok⟩ := a
  obtain ⟨hT, hL⟩ := hp
  have hm : ∀ Γ : Gam, Γ[0]? = some (some (tMa K mg tabs n)) → ∀ M, Ev Γ M (tFld K (tVar 0) "deeds") (tN K tabs.length) := fun Γ h M => ev_deeds T (ev_var h)
  have hlen : log.length ≤ 1000 := by
    cases ok with
    | true => have hL' : OkL tabs log := hL; exact hL'.1
    | false =>
      have hL' : ∃ x, log = [x] ∧ tabs.length ≤ x := hL
      obtain ⟨x, e, _⟩ := hL'
      rw [e]; exact (by decide : 1 ≤ 1000)
  refine go_ifs (et_or (a := false) (b := false) (et_n (et_b (ev_is_sequence (ev_var rfl)) isSeq_tZ) rfl) fun _ => et_t (ev_gt (j := 10000) (ev_lenN (l := log) (ev_ZQ (ev_var rfl))) ev_int) ?_) (fun z => nomatch z) fun _ => ?_
  · rw [decide_eq_false_iff_not]; omega
  have hI := it_enum (K := K) (Γ := [some (tMa K mg tabs n), some (tZ K k (nL log)), none, none]) (M := M) (tl := tVar 1) (ev_ZQ (k := k) (ds := nL log) (ev_var rfl))
  rw [nL_len] at hI
  have hTg : ∀ i, i < log.length → Tg (gTup K 2 (gCons (gName 2) (gCons (gName 3) gNil))) (tD K (.tuple [.int i, dAt (nL log) i])) [some (tMa K mg tabs n), some (tZ K k (nL log)), none, none] [some (tMa K mg tabs n), some (tZ K k (nL log)), some (tN K i), some (tN K (gt log i))] [2, 3] := fun i hi => by
    rw [dAt_nL hi]; exact tg_pair
  cases ok with
  | true =>
    have hL' : OkL tabs log := hL
    refine go_seq (go_forC [some (tMa K mg tabs n), some (tZ K k (nL log)), none, none] hI (Le.refl _) (fun i => [some (tMa K mg tabs n), some (tZ K k (nL log)), some (tN K i), some (tN K (gt log i))]) hTg (fun i Gt hi e => ?_) (go_nx ?_))
    · exact go_if (et_n (a := false) (et_b (ev_is_below (ev_var rfl) (hm _ rfl _)) (below_nat (hL'.2 _ (gt_mem hi)))) rfl) (fun z => nomatch z) fun _ => go_endW () trivial (.same (.same (.no (.no .nil)))) rfl
    · exact go_ret (ev_tupleOf (ev_ZQ (ev_var rfl))) hret
  | false =>
    have hL' : ∃ x, log = [x] ∧ tabs.length ≤ x := hL
    obtain ⟨x, el, hx⟩ := hL'
    subst el
    refine go_seq (go_for hI (fun i (_ : Unit) => [some (tMa K mg tabs n), some (tZ K k (nL [x])), none, none]) (fun i _ => [some (tMa K mg tabs n), some (tZ K k (nL [x])), some (tN K i), some (tN K (gt [x] i))]) (fun _ _ => M) (fun i _ => i = 0) () rfl rfl rfl (fun i _ hi _ => hTg i hi) (fun i _ Gt hi e0 e => ?_) fun _ z => nomatch z)
    subst e0
    refine go_if (et_n (a := true) (et_b (ev_is_below (ev_var rfl) (hm _ rfl _)) (not_below hx)) rfl) (fun _ => ?_) fun z => nomatch z
    exact go_raise (d := .int 0) (ev_var rfl) fun G' H' σ dd v e' w' h1 h2 => hexc _ _ _ _ (e.trans e') w' ⟨rfl, dd, v, rfl, h1, h2⟩
theorem ok_need_state (T : Prg P K mg) : Callee P w K mg base 9 "need_state" ["machine", "state"] (sp_need_state K mg) := by
  refine T.d_need_state.ok sc_need_state (fun _ _ _ _ _ _ us hl => match us, hl with | [_, _], _ => rfl) (fun _ => rfl) ?_
  intro f cdv B outer s H Q E hr
  have hu := hu_of hr
  have hu64 := hu64_of hr
  refine ⟨_, (pss_cons (ps_if (pt_not (pt_val (pcallG (ok_is_below T) hr passL (pa_cons (pv 1) (pa_cons (fldK K (pv 0)) pa_nil))))) (pss_one ps_never) pss_nil)
      (pss_one (ps_ret (pv 1)))), ?_⟩
  intro a G M hp hc hret hexc
  obtain ⟨⟨tabs, n⟩, x⟩ := a
  have hx : x < n := hp
  exact go_ifs (et_n (b := true) (et_b (ev_is_below (n := n) (ev_var rfl) (ev_states T (ev_var rfl))) (below_nat hx)) rfl) (fun z => nomatch z) fun _ => go_ret (ev_var rfl) hret
theorem ok_check_starts (T : Prg P K mg) : Callee P w K mg base 9 "check_starts" ["machine", "value"] (sp_check_starts K mg) := by
  refine T.d_check_starts.ok sc_check_starts (fun _ _ _ _ _ _ us hl => match us, hl with | [_, _], _ => rfl) (fun _ => rfl) ?_
  intro f cdv B outer s H Q E hr
  have hu := hu_of hr
  have hu64 := hu64_of hr
  refine ⟨_, (pss_cons (ps_if (pt_cmpR op_isN (pv 1) pe_non (nomark _)) (pss_one (ps_ret (pe_tupRg rfl rfl T.n_tuple (prg_1 rfl T.n_range (fldK K (pv 0)))))) pss_nil)
      (pss_cons (ps_if (pt_not (pt_val (pcallG (ok_is_ascending T) hr passL (pa_cons (pv 1) (pa_cons (fldK K (pv 0)) pa_nil))))) (pss_one (ps_raiseA T.Refused hr (pa_cons (pv 1) pa_nil) (takes_of rfl rfl rfl rfl))) pss_nil)
      (pss_one (ps_ret (pe_callTy (tupleK K) rfl T.n_tuple (by decide +kernel) (pa_cons (pv 1) pa_nil)))))), ?_⟩
  intro a G M hp hc hret hexc
  obtain ⟨tabs, n, d, l⟩ := a
  obtain ⟨hT, hg⟩ := hp
  have hm : ∀ Γ : Gam, Γ[0]? = some (some (tMa K mg tabs n)) → ∀ M, Ev Γ M (tFld K (tVar 0) "states") (tN K n) := fun Γ h M => ev_states T (ev_var h)
  have hT' : OkT tabs n := hT
  have hg' : GoodSt n d l := hg
  cases hg' with
  | none =>
    exact go_ifs (et_t (a := true) (ev_isN (d := .none) (ev_var rfl)) rfl) (fun _ => go_ret (ev_tupRgN (hm _ rfl _) (Nat.le_trans hT'.n2 (by decide))) hret) fun z => nomatch z
  | seq k l hz hne hasc hb =>
    refine go_ifs (et_t (a := false) (ev_isN (d := if k then .tuple (nL l) else .list (nL l)) (ev_var rfl)) (by cases k <;> rfl)) (fun z => nomatch z) fun _ => ?_
    refine go_ifs (et_n (a := false) (et_b (ev_is_ascending (k := k) (l := l) (n := n) (ev_var rfl) (hm _ rfl _) (Nat.le_trans hz (by decide)) hne hb) hasc) rfl) (fun z => nomatch z) fun _ => ?_
    exact go_ret (ev_tupleOf (ev_ZQ (k := k) (ds := nL l) (ev_var rfl))) hret
theorem ok_check_kept (T : Prg P K mg) : Callee P w K mg base 9 "check_kept" ["value", "length"] (sp_check_kept K mg) := by
  refine T.d_check_kept.ok sc_check_kept (fun _ _ _ _ _ _ us hl => match us, hl with | [_, _], _ => rfl) (fun _ => rfl) ?_
  intro f cdv B outer s H Q E hr
  have hu := hu_of hr
  have hu64 := hu64_of hr
  refine ⟨_, (pss_cons (ps_if (pt_cmpR op_isN (pv 0) pe_non (nomark _)) (pss_one (ps_ret (pe_tupRg rfl rfl T.n_tuple (prg_1 rfl T.n_range (pe_op op_add (pv 1) pe_int))))) pss_nil)
      (pss_cons (ps_if (pt_not (pt_val (pcallG (ok_are_rising T) hr passL (pa_cons (pv 0) (pa_cons (pe_op op_add (pv 1) pe_int) pa_nil))))) (pss_one (ps_raiseA T.Refused hr (pa_cons (pv 0) pa_nil) (takes_of rfl rfl rfl rfl))) pss_nil)
      (pss_one (ps_ret (pe_callTy (tupleK K) rfl T.n_tuple (by decide +kernel) (pa_cons (pv 0) pa_nil)))))), ?_⟩
  intro a G M hp hc hret hexc
  obtain ⟨len, d, l, ok⟩ := a
  obtain ⟨hl, hg⟩ := hp
  have hl' : len ≤ 1000 := hl
  have h1 : ∀ {Γ : Gam} {M : Mem}, Γ[1]? = some (some (tN K len)) → Ev Γ M (tOp (rI0 fun i j => .int (i + j)) (tVar 1) (tC (.int 1))) (tN K (len + 1)) := fun h => ev_addN (ev_var h) (ev_nat 1)
  cases ok with
  | true =>
    have hg' : GoodKp len d l := hg
    cases hg' with
    | none =>
      exact go_ifs (et_t (a := true) (ev_isN (d := .none) (ev_var rfl)) rfl) (fun _ => go_ret (ev_tupRgN (h1 rfl) (by omega)) hret) fun z => nomatch z
    | seq k l hz hasc hb =>
      refine go_ifs (et_t (a := false) (ev_isN (d := if k then .tuple (nL l) else .list (nL l)) (ev_var rfl)) (by cases k <;> rfl)) (fun z => nomatch z) fun _ => ?_
      refine go_ifs (et_n (a := false) (et_b (ev_are_rising (k := k) (l := l) (n := len + 1) (ev_var rfl) (h1 rfl) (Nat.le_trans hz (by decide)) hb) hasc) rfl) (fun z => nomatch z) fun _ => ?_
      exact go_ret (ev_tupleOf (ev_ZQ (k := k) (ds := nL l) (ev_var rfl))) hret
  | false =>
    have hg' : d = .tuple (nL [0, 0]) := hg
    subst hg'
    refine go_ifs (et_t (a := false) (ev_isN (d := .tuple (nL [0, 0])) (ev_var rfl)) rfl) (fun z => nomatch z) fun _ => ?_
    refine go_ifs (et_n (a := true) (et_b (ev_are_rising (k := true) (l := [0, 0]) (n := len + 1) (ev_var rfl) (h1 rfl) (by decide) ?_) rfl) rfl) (fun _ => ?_) fun z => nomatch z
    · intro x hx
      rcases List.mem_cons.mp hx with e | hx
      · omega
      · rcases List.mem_cons.mp hx with e | hx
        · omega
        · cases hx
    · exact go_raise (d := .tuple (nL [0, 0])) (ev_var rfl) fun G' H' σ dd v e' w' h1 h2 => hexc _ _ _ _ e' w' ⟨rfl, dd, v, rfl, h1, h2⟩
theorem ok_check_bound (T : Prg P K mg) : Callee P w K mg base 9 "check_bound" ["value"] (sp_check_bound K mg) := by
  refine T.d_check_bound.ok sc_check_bound (fun _ _ _ _ _ _ us hl => match us, hl with | [_], _ => rfl) (fun _ => rfl) ?_
  intro f cdv B outer s H Q E hr
  have hu := hu_of hr
  have hu64 := hu64_of hr
  refine ⟨_, (pss_cons (ps_if (PW.pt (pw_and (pt_cmpR op_notN (pv 0) pe_non (nomark _)) (pw_and1 (PW.pt (pw_or (pt_not (pt_val (pcallG (ok_is_number T) hr passL (pa_cons (pv 0) pa_nil)))) (pw_or1 (pt_cmpR (eqK K hu64) (pv 0) pe_int (nomark _)))))))) (pss_one (ps_raiseA T.Refused hr (pa_cons (pv 0) pa_nil) (takes_of rfl rfl rfl rfl))) pss_nil)
      (pss_one (ps_ret (pv 0)))), ?_⟩
  intro a G M hp hc hret hexc
  obtain ⟨d, b, ok⟩ := a
  cases ok with
  | true =>
    obtain ⟨hb, hd⟩ := (id hp : GoodBd b ∧ d = bdD b)
    subst hd
    cases b with
    | none => exact go_ifs (et_and (a := false) (b := false) (et_t (ev_notN (d := .none) (ev_var rfl)) rfl) fun z => nomatch z) (fun z => nomatch z) fun _ => go_ret (ev_var rfl) hret
    | some x =>
      have hb' : 0 < x := hb
      refine go_ifs (et_and (a := true) (b := false) (et_t (ev_notN (d := nI x) (ev_var rfl)) rfl) fun _ => et_or (a := false) (b := false) (et_n (b := true) (et_b (ev_is_number (ev_var rfl)) (decide_eq_true (Int.natCast_nonneg x))) rfl) fun _ => et_t (ev_eqN (b := 0) (ev_var rfl) ev_int) ?_) (fun z => nomatch z) fun _ => go_ret (ev_var rfl) hret
      rw [decide_eq_false_iff_not]; omega
  | false =>
    have hd : d = nI 0 := hp
    subst hd
    refine go_ifs (et_and (a := true) (b := true) (et_t (ev_notN (d := nI 0) (ev_var rfl)) rfl) fun _ => et_or (a := false) (b := true) (et_n (b := true) (et_b (ev_is_number (d := nI 0) (ev_var rfl)) rfl) rfl) fun _ => et_t (ev_eqN (a := 0) (b := 0) (ev_var rfl) ev_int) rfl) (fun _ => ?_) fun z => nomatch z
    exact go_raise (d := nI 0) (ev_var rfl) fun G' H' σ dd v e' w' h1 h2 => hexc _ _ _ _ e' w' ⟨rfl, dd, v, rfl, h1, h2⟩
theorem ok_behind (T : Prg P K mg) : Callee P w K mg base 1 "behind" ["tables", "state", "log"] (sp_behind K mg) := by
  refine T.d_behind.ok sc_behind (fun _ _ _ _ _ _ us hl => match us, hl with | [_, _, _], _ => rfl) (fun _ => rfl) ?_
  intro f cdv B outer s H Q E hr
  have hu := hu_of hr
  have hu64 := hu64_of hr
  refine ⟨_, (pss_cons (ps_for (passes_of rfl) rfl (seqK K (pv 2)) (pg_name (i := 3) sc_behind.nd rfl (Or.inl rfl)) (pss_one (ps_set (i := 1) sc_behind.nd rfl (Or.inl rfl) (ixK K (ixK K (pv 0) (pv 3)) (pv 1)))))
      (pss_one (ps_ret (pv 1)))), ?_⟩
  intro a G M hp hc hret hexc
  obtain ⟨tabs, n, x, l⟩ := a
  obtain ⟨hT, hx, hL⟩ := hp
  have hT' : OkT tabs n := hT
  have hx' : x < n := hx
  have hL' : OkL tabs l := hL
  have hI := it_seq (K := K) (Γ := [some (tD K (.tuple (tbD tabs))), some (tN K x), some (tD K (.tuple (nL l))), none]) (M := M) (tl := tVar 2) (ev_tQ (ds := nL l) (ev_var rfl))
  rw [nL_len] at hI
  refine go_seq (go_for hI (fun i (_ : Unit) => [some (tD K (.tuple (tbD tabs))), some (tN K (run tabs (l.take i) x)), some (tD K (.tuple (nL l))), none]) (fun i _ => [some (tD K (.tuple (tbD tabs))), some (tN K (run tabs (l.take i) x)), some (tD K (.tuple (nL l))), some (tN K (gt l i))]) (fun _ _ => M) (fun _ _ => True) () rfl rfl trivial (fun i _ hi _ => by rw [dAt_nL hi]; exact tg_name) (fun i _ Gt hi _ e => ?_) fun _ _ => ?_)
  · have hd : gt l i < tabs.length := hL'.2 _ (gt_mem hi)
    obtain ⟨t, h1, h2, h3, h4⟩ := tab_at hT' hd
    have hr : run tabs (l.take i) x < n := run_lt hT' (hL'.take i) hx'
    refine go_asg (T := tN K (gt t (run tabs (l.take i) x))) (ev_ixN (l := t) (ev_tQ (ev_ixX (ds := tbD tabs) (ev_tQ (ev_var rfl)) (ev_var rfl) (by unfold tbD; rw [List.getElem?_map, h1]; rfl))) (ev_var rfl) (by rw [h3]; exact hr)) (nx_endW () trivial (.same ?_) rfl)
    rw [run_succ _ _ _ _ hi]
    unfold st
    rw [h2]
    exact .same (.same (.no .nil))
  · rw [List.take_length]
    exact go_nx (go_ret (ev_var rfl) hret)
theorem ok_in_window (T : Prg P K mg) : Callee P w K mg base 1 "in_window" ["age", "length", "bound"] (sp_in_window K mg) := by
  refine T.d_in_window.ok sc_in_window (fun _ _ _ _ _ _ us hl => match us, hl with | [_, _, _], _ => rfl) (fun _ => rfl) ?_
  intro f cdv B outer s H Q E hr
  have hu := hu_of hr
  have hu64 := hu64_of hr
  refine ⟨_, (pss_one (ps_ret (pe_or (pe_cmpR op_isN (pv 2) pe_non (nomark _)) (pe_one (pe_cmpR op_gt (pv 0) (pe_op op_sub (pv 1) (pv 2)) (nomark _)))))), ?_⟩
  intro a G M hp hc hret hexc
  obtain ⟨age, len, b⟩ := a
  cases b with
  | none => exact go_ret (ev_orV (a := true) (b := false) (ev_isN (d := .none) (ev_var rfl)) fun z => nomatch z) hret
  | some b =>
    refine go_ret (ev_orV (a := false) (b := inWin age len (some b)) (ev_isN (d := nI b) (ev_var rfl)) fun _ => ev_to (ev_gt (i := age) (j := (len : Int) - b) (ev_var rfl) (ev_sub (ev_var rfl) (ev_var rfl))) ?_) hret
    unfold inWin
    congr 1
    apply decide_eq_decide.mpr
    omega
theorem ok_start_rows (T : Prg P K mg) : Callee P w K mg base 1 "start_rows" ["machine", "log"] (sp_start_rows K mg) := by
  refine T.d_start_rows.ok sc_start_rows (fun _ _ _ _ _ _ us hl => match us, hl with | [_, _], _ => rfl) (fun _ => rfl) ?_
  intro f cdv B outer s H Q E hr
  have hu := hu_of hr
  have hu64 := hu64_of hr
  refine ⟨_, (pss_cons (ps_set (i := 2) sc_start_rows.nd rfl (Or.inl rfl) (pe_lst (pa_cons (pe_tupRg rfl rfl T.n_tuple (prg_1 rfl T.n_range (fldK K (pv 0)))) pa_nil)))
      (pss_cons (ps_for (passes_of rfl) rfl (seqK K (pv 1)) (pg_name (i := 3) sc_start_rows.nd rfl (Or.inl rfl)) (pss_cons (ps_set (i := 4) sc_start_rows.nd rfl (Or.inr rfl) (ixK K (fldK K (pv 0)) (pv 3)))
      (pss_one (ps_expr (appendK K (pv 2) (pa_cons (pe_callTy (tupleK K) rfl T.n_tuple (by decide +kernel) (pa_cons (pe_lc rfl sc_start_rows.nd (seqK K (ixK K (pv 2) (pe_un un_neg pe_int))) (blkOk_by (own := [("place", 5)]) (N := N_start_rows) (sc := defScope s_start_rows) (by decide +kernel)) (fun _ _ _ _ _ => (pg_name (i := 5) sc_start_rows.nd rfl (Or.inl rfl))) (fun _ _ _ _ _ => pts_nil) (fun _ _ _ _ _ => (ixK K (pv 4) (pv 5)))) pa_nil)) pa_nil))))))
      (pss_one (ps_ret (pv 2))))), ?_⟩
  intro a G M hp hc hret hexc
  obtain ⟨tabs, n, x, l⟩ := a
  obtain ⟨hT, hL⟩ := hp
  have hT' : OkT tabs n := hT
  have hL' : OkL tabs l := hL
  have hz := hL'.1
  have hm : ∀ {Γ : Gam} {M : Mem}, Γ[0]? = some (some (tMa K mg tabs n)) → Ev Γ M (tVar 0) (tMa K mg tabs n) := fun h => ev_var h
  refine go_setOwn (ds := tbD [rowOf tabs n l 0]) (ea_cons (T := tD K (.tuple (nL (rowOf tabs n l 0)))) ?_ ea_nil) (by show 1 ≤ 1000000; decide) fun p => ?_
  · have r := ev_tupRgN (ev_states T (hm (Γ := g0 N_start_rows [tMa K mg tabs n, tD K (.tuple (nL l))]) (M := M) rfl)) (Nat.le_trans hT'.n2 (by decide))
    have e : rowOf tabs n l 0 = List.range n := by
      unfold rowOf
      rw [List.take_zero]
      exact List.map_id _
    rw [e]
    exact r
  have hI := it_seq (K := K) (Γ := [some (tMa K mg tabs n), some (tD K (.tuple (nL l))), some (tV (.ref p)), none, none, none]) (M := (p, cL K (tbD [rowOf tabs n l 0])) :: M) (tl := tVar 1) (ev_tQ (ds := nL l) (ev_var rfl))
  rw [nL_len] at hI
  refine go_seq (go_forM [some (tMa K mg tabs n), some (tD K (.tuple (nL l))), some (tV (.ref p)), none, none, none] (fun i => (p, cL K (tbD ((List.range (i + 1)).map (rowOf tabs n l)))) :: M) hI rfl (Le.refl _) (fun i => [some (tMa K mg tabs n), some (tD K (.tuple (nL l))), some (tV (.ref p)), some (tN K (gt l i)), none, none]) (fun i hi => by rw [dAt_nL hi]; exact tg_name) (fun i Gt hi e => ?_) ?_)
  · have hd : gt l i < tabs.length := hL'.2 _ (gt_mem hi)
    obtain ⟨t, h1, h2, h3, h4⟩ := tab_at hT' hd
    refine go_set (T := tD K (.tuple (nL t))) (ev_ixX (ds := tbD tabs) (ev_tQ (ev_tables T (hm rfl))) (ev_var rfl) (by unfold tbD; rw [List.getElem?_map, h1]; rfl)) ?_
    have e3 : tbD ((List.range (i + 1 + 1)).map (rowOf tabs n l)) = tbD ((List.range (i + 1)).map (rowOf tabs n l)) ++ [.tuple (nL (rowOf tabs n l (i + 1)))] := by
      rw [List.range_succ, List.map_append]
      unfold tbD
      rw [List.map_append]
      rfl
    refine go_append (d := .tuple (nL (rowOf tabs n l (i + 1)))) (ev_var rfl) ?_ (by rw [tbD_len, List.length_map, List.length_range]; omega) ?_
    · have e2 : rowOf tabs n l (i + 1) = (rowOf tabs n l i).map fun s => gt t s := by
        unfold rowOf
        rw [List.map_map]
        apply List.map_congr_left
        intro s hs
        rw [run_succ _ _ _ _ hi]
        show st tabs (gt l i) _ = _
        unfold st
        rw [h2]
        rfl
      rw [e2]
      unfold nL
      rw [List.map_map]
      refine ev_tupleOf (ev_LQ (ev_lcNM (fun s => nI (gt t s)) (ev_tQ (ev_ixOwn (j := -1) (ev_var rfl) List.mem_cons_self (ev_neg ev_int) ?_)) (by rw [rowOf_len]; have := hT'.n2; omega) fun s hs M' hM => ?_))
      · rw [List.range_succ, List.map_append]
        unfold tbD
        rw [List.map_append]
        exact at_last
      · have hs' : s < n := by
          unfold rowOf at hs
          obtain ⟨s0, h5, h6⟩ := List.mem_map.mp hs
          rw [← h6]
          exact run_lt hT' (hL'.take i) (List.mem_range.mp h5)
        exact ev_ixN (l := t) (ev_tQ (ev_var rfl)) (ev_var rfl) (by rw [h3]; exact hs')
    · exact nx_endW () trivial (.same (.same (.same (.no (.no (.same .nil)))))) (by rw [e3])
  · exact go_nx (go_retOwn (ev_var rfl) (hret.to fun G v h => tL_D h))
end
end Ag
set_option Elab.async false
set_option linter.all false
set_option maxRecDepth 100000
set_option maxHeartbeats 2000000
/-! Ag8: Sight. -/
namespace Ag
open PySem PySem.Spec PyProof.Rows L2
def seenOf (tabs : List (List Nat)) (log : List Nat) (state : Nat) (sl : List Nat) (age : Nat) : List Nat := sl.filter fun s => decide (run tabs (log.take age) s = state)
def allAges (tabs : List (List Nat)) (log : List Nat) (state : Nat) (sl kl : List Nat) : List Nat := kl.filter fun age => decide (0 < (seenOf tabs log state sl age).length)
def agesOf (tabs : List (List Nat)) (log : List Nat) (state : Nat) (sl kl : List Nat) (b : Option Nat) : List Nat := (allAges tabs log state sl kl).filter fun age => inWin age log.length b
inductive Kb
  | good
  | badK
  | badB
/-- what a Sight is made of -/
structure SgA where
  tabs : List (List Nat)
  n : Nat
  k : Bool
  log : List Nat
  state : Nat
  sd : PyData
  sl : List Nat
  kd : PyData
  kl : List Nat
  bd : PyData
  b : Option Nat
  ok : Kb
structure SgA.Ok (a : SgA) : Prop where
  t : OkT a.tabs a.n
  l : OkL a.tabs a.log
  s : a.state < a.n
  st : GoodSt a.n a.sd a.sl
  kb : match a.ok with
    | .good => GoodKp a.log.length a.kd a.kl ∧ GoodBd a.b ∧ a.bd = bdD a.b
    | .badK => a.kd = .tuple (nL [0, 0])
    | .badB => GoodKp a.log.length a.kd a.kl ∧ a.bd = nI 0
abbrev SgA.aa (a : SgA) : List Nat := allAges a.tabs a.log a.state a.sl a.kl
abbrev SgA.ages (a : SgA) : List Nat := agesOf a.tabs a.log a.state a.sl a.kl a.b
abbrev fSg5 (K : FR) (mg : MG) (a : SgA) : List (Str × Ty) := [("machine", tMa K mg a.tabs a.n), ("log", tD K (.tuple (nL a.log))), ("state", tN K a.state), ("starts", tD K (.tuple (nL a.sl))), ("bound", tD K a.bd), ("rows", tD K (.list (tbD (rowsOf a.tabs a.n a.log))))]
abbrev fSg (K : FR) (mg : MG) (a : SgA) : List (Str × Ty) := [("machine", tMa K mg a.tabs a.n), ("log", tD K (.tuple (nL a.log))), ("state", tN K a.state), ("starts", tD K (.tuple (nL a.sl))), ("bound", tD K a.bd), ("rows", tD K (.list (tbD (rowsOf a.tabs a.n a.log)))), ("all_ages", tD K (.list (nL a.aa))), ("ages", tD K (.list (nL a.ages)))]
abbrev tSg (K : FR) (mg : MG) (a : SgA) : Ty := tO (cOf "Sight" mg) (fSg K mg a)
def fSgX (K : FR) (mg : MG) (a : SgA) : List (Str × Ty) := match a.ok with
  | .good => fSg K mg a
  | _ => [("machine", tNo)]
def xSg (K : FR) (mg : MG) (a : SgA) : XT := match a.ok with
  | .good => xNo
  | .badK => xA K (cR mg) a.kd
  | .badB => xA K (cR mg) a.bd
abbrev sp_Sight_init (K : FR) (mg : MG) : Sp := PrI (fun a : SgA => a.Ok) (cOf "Sight" mg) (fun a => [tMa K mg a.tabs a.n, tZ K a.k (nL a.log), tN K a.state, tD K a.sd, tD K a.kd, tD K a.bd]) (fSgX K mg) (xSg K mg)
structure SeenA where
  a : SgA
  m : Option Addr
  age : Nat
abbrev sp_Sight_seen (K : FR) (mg : MG) : Sp := PrX (fun a : SeenA => a.a.Ok ∧ a.age ≤ a.a.log.length) (fun a => match a.m with | none => [] | some x => [(x, cO (cOf "Sight" mg) (fSg5 K mg a.a))]) (fun a => [match a.m with | none => tSg K mg a.a | some x => tV (.ref x), tN K a.age])
  (fun a => tD K (.tuple (nL (seenOf a.a.tabs a.a.log a.a.state a.a.sl a.age)))) (fun _ => xNo)
section
variable {K : FR} {mg : MG} {Γ : Gam} {M : Mem} {ta tb tc to : TE} {tA : TA} {E : XK}
theorem GoodSt.len {n : Nat} {d : PyData} {l : List Nat} (h : GoodSt n d l) (hn : n ≤ 12) : l.length ≤ 1000 := by
  cases h with
  | none => rw [List.length_range]; omega
  | seq k l h1 _ _ _ => exact h1
theorem GoodSt.lt {n : Nat} {d : PyData} {l : List Nat} (h : GoodSt n d l) : ∀ x ∈ l, x < n := by
  cases h with
  | none => exact fun x hx => List.mem_range.mp hx
  | seq k l _ _ _ h1 => exact h1
theorem GoodKp.len {n : Nat} {d : PyData} {l : List Nat} (h : GoodKp n d l) (hn : n ≤ 1000) : l.length ≤ 1001 := by
  cases h with
  | none => rw [List.length_range]; omega
  | seq k l h1 _ _ => omega
theorem GoodKp.lt {n : Nat} {d : PyData} {l : List Nat} (h : GoodKp n d l) : ∀ x ∈ l, x < n + 1 := by
  cases h with
  | none => exact fun x hx => List.mem_range.mp hx
  | seq k l _ _ h1 => exact h1
/-- a method of an object under way -/
theorem ev_methM {α : Type} {P : α → Prop} {C : α → Mem} {A : α → List Ty} {Rr : α → Ty} {X : α → XT} {C' x : Addr} {m : Str} {Fs : List (Str × Ty)} {As : List Ty} (a : α) (ho : Ev Γ M to (tV (.ref x))) (hxm : (x, cO C' Fs) ∈ M) (h : EvA Γ M tA As) (hA : A a = tV (.ref x) :: As) (hm : Fs.lookup m = none) (hP : P a) (hc : Sub (C a) M) (hx : ∀ G cls d, ¬ X a G cls d) :
    Ev Γ M (tMeth C' m (PrX P C A Rr X) [] E to tA) (Rr a) := fun G σ H s w Q q =>
  ho G σ H s w _ fun v G1 H1 e1 w1 hv => by
    subst hv
    obtain ⟨_, o, h2, dx, vs, rfl, hf⟩ := w1.at_ _ hxm
    refine ⟨x, dx, vs, rfl, h2, FTys.none hf hm, ?_⟩
    refine h G1 σ H1 (s.mono e1) w1 _ fun ws G2 H2 e2 w2 h2 => ⟨a, G2, M, hP, w2, hc, ?_, fun v G' H' e' w' t => q v G' H' ((e1.trans e2).trans e') w' t, fun cls d G' H' _ _ z => absurd z (hx G' cls d)⟩
    rw [List.append_nil, hA]
    exact .cons rfl h2
theorem filter_nL (l : List Nat) (f : Nat → Bool) : (l.filter f).map nI = nL (l.filter f) := rfl
end
section
variable {P : Program} {w : World} {K : PySem.W.Frag} {mg : Str → Option Value} {base : Heap}
theorem ok_Sight_seen (T : Prg P K mg) : MCallee P w K mg base 1 (cOf "Sight" mg) "seen" ["self", "age"] (sp_Sight_seen K mg) := by
  refine T.d_Sight_seen.ok sc_Sight_seen (fun _ _ _ _ _ _ us hl => match us, hl with | [_, _], _ => rfl) (fun _ => rfl) ?_
  intro f cdv B outer s H Q E hr
  have hu := hu_of hr
  have hu64 := hu64_of hr
  refine ⟨_, (pss_one (ps_ret (pe_callTy (tupleK K) rfl T.n_tuple (by decide +kernel) (pa_cons (pe_lc rfl sc_Sight_seen.nd (seqK K (fldK K (pv 0))) (blkOk_by (own := [("start", 2)]) (N := N_Sight_seen) (sc := defScope s_Sight_seen) (by decide +kernel)) (fun _ _ _ _ _ => (pg_name (i := 2) sc_Sight_seen.nd rfl (Or.inl rfl))) (fun _ _ _ _ _ => (pts_one (pt_cmpR (eqK K hu64) (ixK K (ixK K (fldK K (pv 0)) (pv 1)) (pv 2)) (fldK K (pv 0)) (nomark _)))) (fun _ _ _ _ _ => (pv 2))) pa_nil)))), ?_⟩
  intro a G M hp hc hret hexc
  obtain ⟨a, m, age⟩ := a
  obtain ⟨ha, hage⟩ := hp
  have ha' : a.Ok := ha
  have hage' : age ≤ a.log.length := hage
  obtain ⟨Ts, hTs⟩ : ∃ Ts, Ts = (match m with | none => tSg K mg a | some x => tV (.ref x) : Ty) := ⟨_, rfl⟩
  have hf : ∀ {f : Str} {U : Ty} {Γ : Gam} {M' : Mem}, Γ[0]? = some (some Ts) → Sub M M' → List.lookup f (fSg5 K mg a) = some U → List.lookup f (fSg K mg a) = some U → NoAttr K (cOf "Sight" mg) f → Ev Γ M' (tFld K (tVar 0) f) U := by
    intro f U Γ M' h1 h2 h3 h3' h4
    cases m with
    | none => subst hTs; exact ev_fld (ev_var h1) h3' T.cls_Sight h4
    | some x => subst hTs; exact ev_fldM (ev_var h1) (h2 _ (hc _ List.mem_cons_self)) h3 T.cls_Sight h4
  have hΓ : g0 N_Sight_seen [Ts, tN K age] = [some Ts, some (tN K age), none] := rfl
  have hl := GoodSt.len ha'.st ha'.t.n2
  suffices h : Go [some Ts, some (tN K age), none] M _ (Dn Q) G by
    rw [← hΓ, hTs] at h
    exact h
  refine go_ret (ev_tupleOf (ev_LQ (ev_lcN (l := a.sl) (fun s => decide (run a.tabs (a.log.take age) s = a.state)) nI (ev_tQ (hf rfl (Sub.refl _) rfl rfl T.na_Sight_starts)) (by omega) (fun s hs M' hM => ?_) fun s hs _ M' hM => ev_var rfl))) hret
  have hs' := GoodSt.lt ha'.st s hs
  have r := ev_ixX (K := K) (Γ := [some Ts, some (tN K age), some (tN K s)]) (M := M') (a := age) (ta := tFld K (tVar 0) "rows") (tb := tVar 1) (ds := tbD (rowsOf a.tabs a.n a.log)) (d := .tuple (nL (rowOf a.tabs a.n a.log age))) (ev_lQ (hf rfl hM rfl rfl T.na_Sight_rows)) (ev_var rfl) (by unfold tbD; rw [List.getElem?_map, rowsOf_at (by omega)]; rfl)
  have r2 := ev_ixN (ev_tQ r) (ev_var (i := 2) (T := tN K s) rfl) (by rw [rowOf_len]; exact hs')
  rw [rowOf_at hs'] at r2
  exact et_t (ev_eqN r2 (hf rfl hM rfl rfl T.na_Sight_state)) rfl
section
variable {Γ : Gam} {M : Mem} {ta tb tc to : TE} {tA : TA} {E : XK} {tabs : List (List Nat)} {n : Nat}
theorem ev_check_log {k : Bool} {log : List Nat} (ha : Ev Γ M ta (tMa K mg tabs n)) (hb : Ev Γ M tb (tZ K k (nL log))) (ok : OkT tabs n) (hl : OkL tabs log) : Ev Γ M (tCall (sp_check_log K mg) [] E (tCons ta (tCons tb tNil))) (tD K (.tuple (nL log))) :=
  ev_call (⟨tabs, n, k, log, true⟩ : LogA) (ea_cons ha (ea_cons hb ea_nil)) ⟨ok, hl⟩ sub_nil (fun _ _ _ z => z)
theorem ev_need_state {x : Nat} (ha : Ev Γ M ta (tMa K mg tabs n)) (hb : Ev Γ M tb (tN K x)) (h : x < n) : Ev Γ M (tCall (sp_need_state K mg) [] E (tCons ta (tCons tb tNil))) (tN K x) := ev_callS ((⟨tabs, n⟩ : TabA), x) (ea_cons ha (ea_cons hb ea_nil)) h
theorem ev_check_starts {d : PyData} {l : List Nat} (ha : Ev Γ M ta (tMa K mg tabs n)) (hb : Ev Γ M tb (tD K d)) (ok : OkT tabs n) (h : GoodSt n d l) : Ev Γ M (tCall (sp_check_starts K mg) [] E (tCons ta (tCons tb tNil))) (tD K (.tuple (nL l))) := ev_callS (⟨tabs, n, d, l⟩ : StA) (ea_cons ha (ea_cons hb ea_nil)) ⟨ok, h⟩
theorem ev_check_kept {d : PyData} {len : Nat} {l : List Nat} (ha : Ev Γ M ta (tD K d)) (hb : Ev Γ M tb (tN K len)) (hl : len ≤ 1000) (h : GoodKp len d l) : Ev Γ M (tCall (sp_check_kept K mg) [] E (tCons ta (tCons tb tNil))) (tD K (.tuple (nL l))) :=
  ev_call (⟨len, d, l, true⟩ : KpA) (ea_cons ha (ea_cons hb ea_nil)) ⟨hl, h⟩ sub_nil (fun _ _ _ z => z)
theorem rs_check_kept {G0 : Hp} {len : Nat} (ha : Ev Γ M ta (tD K (.tuple (nL [0, 0])))) (hb : Ev Γ M tb (tN K len)) (hl : len ≤ 1000) (hx : ∀ cls d G H, Same G0 G → Wd G M H → xA K (cR mg) (.tuple (nL [0, 0])) G cls d → E cls d H) : Rs G0 Γ M (tCall (sp_check_kept K mg) [] E (tCons ta (tCons tb tNil))) :=
  rs_call (⟨len, .tuple (nL [0, 0]), [], false⟩ : KpA) (ea_cons ha (ea_cons hb ea_nil)) ⟨hl, rfl⟩ sub_nil (fun _ _ z => z) hx
theorem ev_check_bound {b : Option Nat} (ha : Ev Γ M ta (tD K (bdD b))) (h : GoodBd b) : Ev Γ M (tCall (sp_check_bound K mg) [] E (tCons ta tNil)) (tD K (bdD b)) :=
  ev_call (⟨bdD b, b, true⟩ : BdA) (ea_cons ha ea_nil) ⟨h, rfl⟩ sub_nil (fun _ _ _ z => z)
theorem rs_check_bound {G0 : Hp} (ha : Ev Γ M ta (tD K (nI 0))) (hx : ∀ cls d G H, Same G0 G → Wd G M H → xA K (cR mg) (nI 0) G cls d → E cls d H) : Rs G0 Γ M (tCall (sp_check_bound K mg) [] E (tCons ta tNil)) :=
  rs_call (⟨nI 0, none, false⟩ : BdA) (ea_cons ha ea_nil) rfl sub_nil (fun _ _ z => z) hx
theorem ev_behind {x : Nat} {l : List Nat} (ha : Ev Γ M ta (tD K (.tuple (tbD tabs)))) (hb : Ev Γ M tb (tN K x)) (hc : Ev Γ M tc (tD K (.tuple (nL l)))) (ok : OkT tabs n) (hx : x < n) (hl : OkL tabs l) : Ev Γ M (tCall (sp_behind K mg) [] E (tCons ta (tCons tb (tCons tc tNil)))) (tN K (run tabs l x)) :=
  ev_callS (⟨tabs, n, x, l⟩ : BehA) (ea_cons ha (ea_cons hb (ea_cons hc ea_nil))) ⟨ok, hx, hl⟩
theorem ev_start_rows {l : List Nat} (ha : Ev Γ M ta (tMa K mg tabs n)) (hb : Ev Γ M tb (tD K (.tuple (nL l)))) (ok : OkT tabs n) (hl : OkL tabs l) : Ev Γ M (tCall (sp_start_rows K mg) [] E (tCons ta (tCons tb tNil))) (tD K (.list (tbD (rowsOf tabs n l)))) :=
  ev_callS (⟨tabs, n, 0, l⟩ : BehA) (ea_cons ha (ea_cons hb ea_nil)) ⟨ok, hl⟩
theorem ev_in_window {age len : Nat} {b : Option Nat} (ha : Ev Γ M ta (tN K age)) (hb : Ev Γ M tb (tN K len)) (hc : Ev Γ M tc (tD K (bdD b))) : Ev Γ M (tCall (sp_in_window K mg) [] E (tCons ta (tCons tb (tCons tc tNil)))) (tB K (inWin age len b)) :=
  ev_callS (⟨age, len, b⟩ : WinA) (ea_cons ha (ea_cons hb (ea_cons hc ea_nil))) trivial
theorem ev_seen {a : SgA} {age : Nat} (ho : Ev Γ M ta (tSg K mg a)) (hb : Ev Γ M tb (tN K age)) (h : a.Ok) (hl : age ≤ a.log.length) : Ev Γ M (tMeth (cOf "Sight" mg) "seen" (sp_Sight_seen K mg) [] E ta (tCons tb tNil)) (tD K (.tuple (nL (seenOf a.tabs a.log a.state a.sl age)))) :=
  ev_meth (⟨a, none, age⟩ : SeenA) ho (ea_cons hb ea_nil) rfl rfl ⟨h, hl⟩ sub_nil (fun _ _ _ z => z)
theorem ev_seenM {a : SgA} {age : Nat} {x : Addr} (ho : Ev Γ M ta (tV (.ref x))) (hm : (x, cO (cOf "Sight" mg) (fSg5 K mg a)) ∈ M) (hb : Ev Γ M tb (tN K age)) (h : a.Ok) (hl : age ≤ a.log.length) : Ev Γ M (tMeth (cOf "Sight" mg) "seen" (sp_Sight_seen K mg) [] E ta (tCons tb tNil)) (tD K (.tuple (nL (seenOf a.tabs a.log a.state a.sl age)))) :=
  ev_methM (⟨a, some x, age⟩ : SeenA) ho hm (ea_cons hb ea_nil) rfl rfl ⟨h, hl⟩ (fun c hc => by
    cases hc with
    | head => exact hm
    | tail _ hc => cases hc) (fun _ _ _ z => z)
end
theorem ok_Sight_init (T : Prg P K mg) : ICallee P w K mg base 10 "Sight" (cOf "Sight" mg) ["self", "machine", "log", "state", "starts", "kept", "bound"] (sp_Sight_init K mg) := by
  refine T.d_Sight_init.ok sc_Sight_init (fun _ _ _ _ _ _ us hl => match us, hl with | [_, _, _, _, _, _, _], _ => rfl) (fun _ => rfl) ?_
  intro f cdv B outer s H Q E hr
  have hu := hu_of hr
  have hu64 := hu64_of hr
  refine ⟨_, (pss_cons (ps_fld (pv 0) (pv 1) rfl)
      (pss_cons (ps_fld (pv 0) (pcallG (ok_check_log T) hr (passes_call (takes_of rfl rfl rfl rfl) (fun _ _ _ _ h => h)) (pa_cons (pv 1) (pa_cons (pv 2) pa_nil))) rfl)
      (pss_cons (ps_fld (pv 0) (pcallG (ok_need_state T) hr passL (pa_cons (pv 1) (pa_cons (pv 3) pa_nil))) rfl)
      (pss_cons (ps_fld (pv 0) (pcallG (ok_check_starts T) hr passL (pa_cons (pv 1) (pa_cons (pv 4) pa_nil))) rfl)
      (pss_cons (ps_set (i := 5) sc_Sight_init.nd rfl (Or.inl rfl) (pcallG (ok_check_kept T) hr (passes_call (takes_of rfl rfl rfl rfl) (fun _ _ _ _ h => h)) (pa_cons (pv 5) (pa_cons (pe_callB (lenK K) rfl T.n_len (by decide +kernel) (pa_cons (fldK K (pv 0)) pa_nil)) pa_nil))))
      (pss_cons (ps_fld (pv 0) (pcallG (ok_check_bound T) hr (passes_call (takes_of rfl rfl rfl rfl) (fun _ _ _ _ h => h)) (pa_cons (pv 6) pa_nil)) rfl)
      (pss_cons (ps_fld (pv 0) (pcallG (ok_start_rows T) hr passL (pa_cons (pv 1) (pa_cons (fldK K (pv 0)) pa_nil))) rfl)
      (pss_cons (ps_fld (pv 0) (pe_lc rfl sc_Sight_init.nd (seqK K (pv 5)) (blkOk_by (own := [("age", 7)]) (N := N_Sight_init) (sc := defScope s_Sight_init) (by decide +kernel)) (fun _ _ _ _ _ => (pg_name (i := 7) sc_Sight_init.nd rfl (Or.inl rfl))) (fun _ _ _ _ _ => (pts_one (pt_cmpR op_gt (pe_callB (lenK K) rfl T.n_len (by decide +kernel) (pa_cons (pmethG (ok_Sight_seen T) hr passL (pv 0) (pa_cons (pv 7) pa_nil)) pa_nil)) pe_int (nomark _)))) (fun _ _ _ _ _ => (pv 7))) rfl)
      (pss_one (ps_fld (pv 0) (pe_lc rfl sc_Sight_init.nd (seqK K (fldK K (pv 0))) (blkOk_by (own := [("age", 7)]) (N := N_Sight_init) (sc := defScope s_Sight_init) (by decide +kernel)) (fun _ _ _ _ _ => (pg_name (i := 7) sc_Sight_init.nd rfl (Or.inl rfl))) (fun _ _ _ _ _ => (pts_one (pt_val (pcallG (ok_in_window T) hr passL (pa_cons (pv 7) (pa_cons (pe_callB (lenK K) rfl T.n_len (by decide +kernel) (pa_cons (fldK K (pv 0)) pa_nil)) (pa_cons (pv 6) pa_nil))))))) (fun _ _ _ _ _ => (pv 7))) rfl)))))))))), ?_⟩
  intro a G M self hp hret hexc
  obtain ⟨tabs, n, k, log, state, sd, sl, kd, kl, bd, b, ok⟩ := a
  obtain ⟨hT, hL, hs, hst, hkb⟩ := hp
  have hT' : OkT tabs n := hT
  have hL' : OkL tabs log := hL
  have hs' : state < n := hs
  have hst' : GoodSt n sd sl := hst
  have hlog : log.length ≤ 1000 := hL'.1
  have hself : ∀ {Γ : Gam} {M : Mem}, Γ[0]? = some (some (tV (.ref self))) → Ev Γ M (tVar 0) (tV (.ref self)) := fun h => ev_var h
  have hf : ∀ {f : Str} {U : Ty} {Γ : Gam} {M M' : Mem} {Fs : List (Str × Ty)}, Γ[0]? = some (some (tV (.ref self))) → Sub ((self, cO (cOf "Sight" mg) Fs) :: M) M' → Fs.lookup f = some U → NoAttr K (cOf "Sight" mg) f → Ev Γ M' (tFld K (tVar 0) f) U := fun h1 hM h2 h3 => ev_fldM (ev_var h1) (hM _ List.mem_cons_self) h2 T.cls_Sight h3
  let F1 : List (Str × Ty) := [("machine", tMa K mg tabs n)]
  let F2 : List (Str × Ty) := [("machine", tMa K mg tabs n), ("log", tD K (.tuple (nL log)))]
  let F3 : List (Str × Ty) := [("machine", tMa K mg tabs n), ("log", tD K (.tuple (nL log))), ("state", tN K state)]
  let F4 : List (Str × Ty) := [("machine", tMa K mg tabs n), ("log", tD K (.tuple (nL log))), ("state", tN K state), ("starts", tD K (.tuple (nL sl)))]
  have hΓ : g0 N_Sight_init [tV (.ref self), tMa K mg tabs n, tZ K k (nL log), tN K state, tD K sd, tD K kd, tD K bd] = [some (tV (.ref self)), some (tMa K mg tabs n), some (tZ K k (nL log)), some (tN K state), some (tD K sd), some (tD K kd), some (tD K bd), none] := rfl
  suffices h : Go [some (tV (.ref self)), some (tMa K mg tabs n), some (tZ K k (nL log)), some (tN K state), some (tD K sd), some (tD K kd), some (tD K bd), none] ((self, cO (cOf "Sight" mg) []) :: M) _ (Dn Q) G by
    rw [← hΓ] at h
    exact h
  refine go_fldX F1 (T := tMa K mg tabs n) (ev_var rfl) (hself rfl) T.cls_Sight T.na_Sight_machine ?_ rfl (by show 0 < 1000; decide)
  refine go_fldX F2 (ev_check_log (k := k) (log := log) (ev_var rfl) (ev_var rfl) hT' hL') (hself rfl) T.cls_Sight T.na_Sight_log ?_ rfl (by show 1 < 1000; decide)
  refine go_fldX F3 (ev_need_state (n := n) (tabs := tabs) (x := state) (ev_var rfl) (ev_var rfl) hs') (hself rfl) T.cls_Sight T.na_Sight_state ?_ rfl (by show 2 < 1000; decide)
  refine go_fldX F4 (ev_check_starts (n := n) (tabs := tabs) (d := sd) (l := sl) (ev_var rfl) (ev_var rfl) hT' hst') (hself rfl) T.cls_Sight T.na_Sight_starts ?_ rfl (by show 3 < 1000; decide)
  have hlen : ∀ {Γ : Gam} {M M' : Mem} {Fs : List (Str × Ty)}, Γ[0]? = some (some (tV (.ref self))) → Sub ((self, cO (cOf "Sight" mg) Fs) :: M) M' → List.lookup (α := Str) "log" Fs = some (tD K (.tuple (nL log))) → Ev Γ M' (tCB (rLenQ K) (tCons (tFld K (tVar 0) "log") tNil)) (tN K log.length) := fun h1 h2 h3 => ev_lenN (ev_tQ (hf h1 h2 h3 T.na_Sight_log))
  cases ok with
  | badK =>
    have hkb' : kd = .tuple (nL [0, 0]) := hkb
    subst hkb'
    exact go_seq (go_rs_asg (rs_check_kept (len := log.length) (ev_var rfl) (hlen rfl (Sub.refl _) rfl) hlog fun cls d G' H' e' w' z => hexc _ _ _ _ e' w'.tail z))
  | badB =>
    obtain ⟨hk, hb⟩ := (id hkb : GoodKp log.length kd kl ∧ bd = nI 0)
    subst hb
    refine go_set (ev_check_kept (len := log.length) (l := kl) (ev_var rfl) (hlen rfl (Sub.refl _) rfl) hlog hk) ?_
    exact go_seq (go_rs_fld (rs_check_bound (ev_var rfl) fun cls d G' H' e' w' z => hexc _ _ _ _ e' w'.tail z))
  | good =>
    obtain ⟨hk, hb, hbd⟩ := (id hkb : GoodKp log.length kd kl ∧ GoodBd b ∧ bd = bdD b)
    subst hbd
    let a : SgA := ⟨tabs, n, k, log, state, sd, sl, kd, kl, bdD b, b, .good⟩
    have ha : a.Ok := ⟨hT, hL, hs, hst, hkb⟩
    have hkl := GoodKp.len hk hlog
    have hkt := GoodKp.lt hk
    let F5 : List (Str × Ty) := [("machine", tMa K mg tabs n), ("log", tD K (.tuple (nL log))), ("state", tN K state), ("starts", tD K (.tuple (nL sl))), ("bound", tD K (bdD b))]
    let F7 : List (Str × Ty) := [("machine", tMa K mg tabs n), ("log", tD K (.tuple (nL log))), ("state", tN K state), ("starts", tD K (.tuple (nL sl))), ("bound", tD K (bdD b)), ("rows", tD K (.list (tbD (rowsOf tabs n log)))), ("all_ages", tD K (.list (nL a.aa)))]
    refine go_set (ev_check_kept (len := log.length) (l := kl) (ev_var rfl) (hlen rfl (Sub.refl _) rfl) hlog hk) ?_
    refine go_fldX F5 (ev_check_bound (b := b) (ev_var rfl) hb) (hself rfl) T.cls_Sight T.na_Sight_bound ?_ rfl (by show 4 < 1000; decide)
    refine go_fldX (fSg5 K mg a) (ev_start_rows (n := n) (tabs := tabs) (l := log) (ev_var rfl) (hf rfl (Sub.refl _) rfl T.na_Sight_log) hT' hL') (hself rfl) T.cls_Sight T.na_Sight_rows ?_ rfl (by show 5 < 1000; decide)
    refine go_fldX F7 (ev_LD (ev_lcN (l := kl) (fun age => decide (0 < (seenOf tabs log state sl age).length)) nI (ev_tQ (ev_var rfl)) (by omega) (fun age hage M' hM => ?_) fun age hage _ M' hM => ev_var rfl)) (hself rfl) T.cls_Sight T.na_Sight_all_ages ?_ rfl (by show 6 < 1000; decide)
    · have hage' := hkt age hage
      exact et_t (ev_gtN (b := 0) (ev_lenN (ev_tQ (ev_seenM (a := a) (ev_var rfl) (hM _ List.mem_cons_self) (ev_var rfl) ha (Nat.le_of_lt_succ hage')))) ev_int) rfl
    refine go_fld (T := tD K (.list (nL a.ages))) (ev_LD (ev_lcN (l := a.aa) (fun age => inWin age log.length b) nI (ev_lQ (hf rfl (Sub.refl _) rfl T.na_Sight_all_ages)) ?_ (fun age hage M' hM => ?_) fun age hage _ M' hM => ev_var rfl)) (hself rfl) T.cls_Sight T.na_Sight_ages (by show 7 < 1000; decide) fun G' σ H e s w => hret G' H e w
    · exact Nat.le_trans (List.length_filter_le (fun age => decide (0 < (seenOf tabs log state sl age).length)) kl) (by omega)
    · exact et_b (ev_in_window (ev_var rfl) (hlen rfl hM rfl) (ev_var rfl)) rfl
end
end Ag
set_option Elab.async false
set_option linter.all false
set_option maxRecDepth 100000
set_option maxHeartbeats 2000000
/-! Ag9: readers. -/
namespace Ag
open PySem PySem.Spec PyProof.Rows L2
section
variable {P : Program} {w : World} {K : PySem.W.Frag} {mg : Str → Option Value} {base : Heap} {x : Str} {st : Stmt} {N ps : List Str} {k : Nat} {α : Type} {P' : α → Prop} {C : α → Mem} {A : α → List Ty} {R : α → Ty} {X : α → XT} {kws : List (Str × V)}
theorem fnD_ok {f : Addr} {fd : FuncData} (F : FunD K x x (defArgs st) (defBody st) (defScope st) [] kws f fd) (S : FnScope N ps (defScope st)) (hl : ∀ a, (A a).length = ps.length)
    (body : ∀ (cdv : Value) (B : Around) (outer : List Env) (s : Shared) (H : Hp) (Q : VK) (E : XK), Room k (B.deeper (envOfC x (defScope st) s.heap.objs.size f cdv)) →
      ∃ t, PSs (cxOf (L2.CX P w) P w K mg base N x (defScope st) f cdv B outer s H E) (defBody st) t ∧ ∀ (a : α) (G : Hp) (M : Mem), P' a → Sub (C a) M → Rt (Dn Q) G M (R a) → Er E G M (X a) → Go (g0 N (A a)) M t (Dn Q) G) :
    FnOk P w K mg base (L2.CX P w) (k + 1) f fd ps (PrX P' C A R X) := by
  refine F.ok S (fun vs H Q E ⟨a, G, M, _, _, _, ht, _⟩ => (Tys.len ht).trans (hl a)) (fun cdv B outer s H vs Q E hr ⟨a, G, M, hp, hw, hs, ht, hq, he⟩ => ?_)
  obtain ⟨t, h1, h2⟩ := body cdv B outer s H Q E hr
  exact ⟨t, h1, h2 a G M hp hs (fun v G' H' e' w' z => hq v G' H' e' w' z) he G _ H (Same.refl _) (sd_start ht) hw⟩
end
/-! ### markings -/
def items : PyData → List PyData
  | .list ds => ds
  | .tuple ds => ds
  | _ => []
def okRow (n : Nat) (d : PyData) : Bool := isSeq d && (decide ((items d).length = n) && (items d).all isNumber)
def okMk (n len : Nat) (d : PyData) : Bool := isSeq d && (decide ((items d).length = len + 1) && (items d).all (okRow n))
structure Szd (d : PyData) : Prop where
  h : (items d).length ≤ 1000
  r : ∀ e ∈ items d, (items e).length ≤ 1000
def mkI (d : PyData) (age s : Nat) : Int := match dAt (items (dAt (items d) age)) s with
  | .int i => i
  | _ => 0
section
variable {K : FR} {mg : MG} {Γ : Gam} {M : Mem} {ta tb tc to : TE} {tA : TA} {E : XK} {d : PyData}
theorem seq_Q {G : Hp} {v : V} (hs : isSeq d = true) (h : Dp K G v d) : (tQ K (items d)).p G v := by
  cases d with
  | list ds => exact .inl h
  | tuple ds => exact .inr h
  | _ => cases hs
theorem ev_sQ (hs : isSeq d = true) (h : Ev Γ M ta (tD K d)) : Ev Γ M ta (tQ K (items d)) := ev_mono h fun G v t => seq_Q hs t
theorem mk_row {n len : Nat} (h : okMk n len d = true) : isSeq d = true ∧ (items d).length = len + 1 ∧ ∀ age, age < len + 1 → okRow n (dAt (items d) age) = true := by
  unfold okMk at h
  rw [Bool.and_eq_true, Bool.and_eq_true, decide_eq_true_eq, List.all_eq_true] at h
  exact ⟨h.1, h.2.1, fun age ha => h.2.2 _ (List.mem_iff_getElem?.mpr ⟨age, dAt_lt (by rw [h.2.1]; exact ha)⟩)⟩
theorem mk_int {n len age s : Nat} (h : okMk n len d = true) (ha : age < len + 1) (hs : s < n) : dAt (items (dAt (items d) age)) s = .int (mkI d age s) := by
  obtain ⟨_, _, h3⟩ := mk_row h
  have h4 := h3 age ha
  unfold okRow at h4
  rw [Bool.and_eq_true, Bool.and_eq_true, decide_eq_true_eq, List.all_eq_true] at h4
  have h5 := h4.2.2 _ (List.mem_iff_getElem?.mpr ⟨s, dAt_lt (by rw [h4.2.1]; exact hs)⟩)
  unfold mkI
  cases e : dAt (items (dAt (items d) age)) s with
  | int i => rfl
  | _ => rw [e] at h5; cases h5
/-- marking[age][s] -/
theorem ev_mark {n len age s : Nat} (h : okMk n len d = true) (ha : Ev Γ M ta (tD K d)) (hb : Ev Γ M tb (tN K age)) (hc : Ev Γ M tc (tN K s)) (hage : age < len + 1) (hs : s < n) : Ev Γ M (tOp (rIx K) (tOp (rIx K) ta tb) tc) (tD K (.int (mkI d age s))) := by
  obtain ⟨h1, h2, h3⟩ := mk_row h
  have h4 := h3 age hage
  have h4' := h4
  unfold okRow at h4'
  rw [Bool.and_eq_true, Bool.and_eq_true, decide_eq_true_eq] at h4'
  rw [← mk_int h hage hs]
  exact ev_ixD (ev_sQ h4'.1 (ev_ixD (ev_sQ h1 ha) hb (by rw [h2]; exact hage))) hc (by rw [h4'.2.1]; exact hs)
end
structure MkA where
  tabs : List (List Nat)
  n : Nat
  len : Nat
  d : PyData
abbrev sp_check_marking (K : FR) (mg : MG) : Sp := PrX (fun a : MkA => a.len ≤ 1000 ∧ Szd a.d) (fun _ => []) (fun a => [tMa K mg a.tabs a.n, tD K a.d, tN K a.len]) (fun a => if okMk a.n a.len a.d then tD K a.d else tNo) (fun a => if okMk a.n a.len a.d then xNo else xA K (cR mg) a.d)
def unlike (tabs : List (List Nat)) (log : List Nat) (state one other : Nat) : Bool := !decide (run tabs ((log.drop one).take (other - one)) state = state)
structure UnlA where
  a : SgA
  one : Nat
  other : Nat
abbrev sp_are_unlike (K : FR) (mg : MG) : Sp := PrS (fun a : UnlA => a.a.Ok ∧ a.one ≤ a.a.log.length ∧ a.other ≤ a.a.log.length) (fun a => [tSg K mg a.a, tN K a.one, tN K a.other]) (fun a => tB K (unlike a.a.tabs a.a.log a.a.state a.one a.other))
section
variable {P : Program} {w : World} {K : PySem.W.Frag} {mg : Str → Option Value} {base : Heap}
theorem ok_check_marking (T : Prg P K mg) : Callee P w K mg base 9 "check_marking" ["machine", "value", "length"] (sp_check_marking K mg) := by
  refine T.d_check_marking.ok sc_check_marking (fun _ _ _ _ _ _ us hl => match us, hl with | [_, _, _], _ => rfl) (fun _ => rfl) ?_
  intro f cdv B outer s H Q E hr
  have hu := hu_of hr
  have hu64 := hu64_of hr
  refine ⟨_, (pss_cons (ps_if (PW.pt (pw_or (pt_not (pt_val (pcallG (ok_is_sequence T) hr passL (pa_cons (pv 1) pa_nil)))) (pw_or1 (pt_cmpR (neK K hu64) (pe_callB (lenK K) rfl T.n_len (by decide +kernel) (pa_cons (pv 1) pa_nil)) (pe_op op_add (pv 2) pe_int) (nomark _))))) (pss_one (ps_raiseA T.Refused hr (pa_cons (pv 1) pa_nil) (takes_of rfl rfl rfl rfl))) pss_nil)
      (pss_cons (ps_for (passes_of rfl) rfl (seqK K (pv 1)) (pg_name (i := 3) sc_check_marking.nd rfl (Or.inl rfl)) (pss_one (ps_if (PW.pt (pw_or (pt_not (pt_val (pcallG (ok_is_sequence T) hr passL (pa_cons (pv 3) pa_nil)))) (pw_or (pt_cmpR (neK K hu64) (pe_callB (lenK K) rfl T.n_len (by decide +kernel) (pa_cons (pv 3) pa_nil)) (fldK K (pv 0)) (nomark _)) (pw_or1 (pt_not (pt_val (pe_callB (allK K) rfl T.n_all (by decide +kernel) (pa_cons (pe_lc rfl sc_check_marking.nd (seqK K (pv 3)) (blkOk_by (own := [("mark", 4)]) (N := N_check_marking) (sc := defScope s_check_marking) (by decide +kernel)) (fun _ _ _ _ _ => (pg_name (i := 4) sc_check_marking.nd rfl (Or.inl rfl))) (fun _ _ _ _ _ => pts_nil) (fun _ _ _ _ _ => (pcallG (ok_is_number T) hr passL (pa_cons (pv 4) pa_nil)))) pa_nil)))))))) (pss_one (ps_raiseA T.Refused hr (pa_cons (pv 1) pa_nil) (takes_of rfl rfl rfl rfl))) pss_nil)))
      (pss_one (ps_ret (pv 1))))), ?_⟩
  intro a G M hp hc hret hexc
  obtain ⟨tabs, n, len, d⟩ := a
  obtain ⟨hl, hz⟩ := hp
  have hz' : Szd d := hz
  have hm : ∀ {Γ : Gam} {M : Mem}, Γ[0]? = some (some (tMa K mg tabs n)) → Ev Γ M (tFld K (tVar 0) "states") (tN K n) := fun h => ev_states T (ev_var h)
  have hraise : okMk n len d = false → ∀ {Γ : Gam} {D : Ends} {G1 : Hp}, Γ[1]? = some (some (tD K d)) → Same G G1 → Go Γ M (tRaiseA (cR mg) (fun cls d _ H => E cls d H) (tCons (tVar 1) tNil)) D G1 := fun hk Γ D G1 h e => by
    refine go_raise (d := d) (ev_var h) fun G' H' σ dd v e' w' h1 h2 => hexc _ _ _ _ (e.trans e') w' ?_
    show (if okMk n len d = true then xNo else xA K (cR mg) d) _ _ _
    rw [hk]
    exact ⟨rfl, dd, v, rfl, h1, h2⟩
  have hΓ : g0 N_check_marking [tMa K mg tabs n, tD K d, tN K len] = [some (tMa K mg tabs n), some (tD K d), some (tN K len), none, none] := rfl
  cases hs : isSeq d with
  | false =>
    have hk : okMk n len d = false := by unfold okMk; rw [hs]; rfl
    exact go_ifs (et_or (a := true) (b := true) (et_n (et_b (ev_is_sequence (d := d) (ev_var rfl) hs) rfl) rfl) fun z => nomatch z) (fun _ => hraise hk rfl (Same.refl _)) fun z => nomatch z
  | true =>
    by_cases hlen : (items d).length = len + 1
    · refine go_ifs (et_or (a := false) (b := false) (et_n (et_b (ev_is_sequence (d := d) (ev_var rfl) hs) rfl) rfl) fun _ => et_t (ev_neN (a := len + 1) (b := len + 1) (ev_to (ev_len (ev_sQ hs (ev_var rfl))) (by rw [hlen])) (ev_addN (b := 1) (ev_var rfl) ev_int)) ?_) (fun z => nomatch z) fun _ => ?_
      · rw [decide_eq_true rfl]; rfl
      have hI := it_seq (K := K) (Γ := [some (tMa K mg tabs n), some (tD K d), some (tN K len), none, none]) (M := M) (tl := tVar 1) (ev_sQ hs (ev_var rfl))
      refine go_seq (go_for hI (fun i (_ : Unit) => [some (tMa K mg tabs n), some (tD K d), some (tN K len), none, none]) (fun i _ => [some (tMa K mg tabs n), some (tD K d), some (tN K len), some (tD K (dAt (items d) i)), none]) (fun _ _ => M) (fun i _ => ∀ j, j < i → okRow n (dAt (items d) j) = true) () rfl rfl (fun j hj => absurd hj (Nat.not_lt_zero _)) (fun i _ hi _ => tg_name) (fun i _ Gt hi hpi e => ?_) fun _ hpi => ?_)
      · obtain ⟨row, hrow⟩ : ∃ row, row = dAt (items d) i := ⟨_, rfl⟩
        rw [← hrow]
        have hmem : row ∈ items d := hrow ▸ List.mem_iff_getElem?.mpr ⟨i, dAt_lt hi⟩
        have hrz := hz'.r row hmem
        have bad : okRow n row = false → okMk n len d = false := fun hb => by
          cases hk : okMk n len d with
          | false => rfl
          | true =>
            have := (mk_row hk).2.2 i (by rw [← hlen]; exact hi)
            rw [← hrow, hb] at this
            cases this
        have good : okRow n row = true → ∀ j, j < i + 1 → okRow n (dAt (items d) j) = true := fun hg j hj => by
          rcases Nat.lt_succ_iff_lt_or_eq.mp hj with h | h
          · exact hpi j h
          · rw [h, ← hrow]; exact hg
        cases hrs : isSeq row with
        | false => exact go_if (et_or (a := true) (b := true) (et_n (et_b (ev_is_sequence (d := row) (ev_var rfl) hrs) rfl) rfl) fun z => nomatch z) (fun _ => hraise (bad (by unfold okRow; rw [hrs]; rfl)) rfl e) fun z => nomatch z
        | true =>
          by_cases hrl : (items row).length = n
          · cases hall : (items row).all isNumber with
            | true =>
              refine go_if (et_or (a := false) (b := false) (et_n (et_b (ev_is_sequence (d := row) (ev_var rfl) hrs) rfl) rfl) fun _ => et_or (a := false) (b := false) (et_t (ev_neN (a := n) (b := n) (ev_to (ev_len (ev_sQ hrs (ev_var rfl))) (by rw [hrl])) (hm rfl)) (by rw [decide_eq_true rfl]; rfl)) fun _ => et_n (et_b (ev_allS isNumber (ev_sQ hrs (ev_var rfl)) (by omega) fun d hd M' hM => ev_is_number (ev_var rfl)) hall) rfl) (fun z => nomatch z) fun _ => ?_
              exact go_endW () (good (by unfold okRow; rw [hrs, hall, decide_eq_true hrl]; rfl)) (.same (.same (.same (.no (.same .nil))))) rfl
            | false =>
              exact go_if (et_or (a := false) (b := true) (et_n (et_b (ev_is_sequence (d := row) (ev_var rfl) hrs) rfl) rfl) fun _ => et_or (a := false) (b := true) (et_t (ev_neN (a := n) (b := n) (ev_to (ev_len (ev_sQ hrs (ev_var rfl))) (by rw [hrl])) (hm rfl)) (by rw [decide_eq_true rfl]; rfl)) fun _ => et_n (et_b (ev_allS isNumber (ev_sQ hrs (ev_var rfl)) (by omega) fun d hd M' hM => ev_is_number (ev_var rfl)) hall) rfl) (fun _ => hraise (bad (by unfold okRow; rw [hrs, hall, decide_eq_true hrl]; rfl)) rfl e) fun z => nomatch z
          · exact go_if (et_or (a := false) (b := true) (et_n (et_b (ev_is_sequence (d := row) (ev_var rfl) hrs) rfl) rfl) fun _ => et_or (a := true) (b := true) (et_t (ev_neN (a := (items row).length) (b := n) (ev_len (ev_sQ hrs (ev_var rfl))) (hm rfl)) (by rw [decide_eq_false hrl]; rfl)) fun z => nomatch z) (fun _ => hraise (bad (by unfold okRow; rw [hrs, decide_eq_false hrl]; rfl)) rfl e) fun z => nomatch z
      · have hk : okMk n len d = true := by
          unfold okMk
          rw [hs, decide_eq_true hlen, Bool.true_and, Bool.true_and, List.all_eq_true]
          intro r hr
          obtain ⟨i, hi⟩ := List.mem_iff_getElem?.mp hr
          have hi' := (List.getElem?_eq_some_iff.mp hi).1
          have := hpi i hi'
          rw [dAt_lt hi'] at hi
          rw [← Option.some.inj hi]
          exact this
        refine go_nx (go_ret (ev_var rfl) (hret.to fun G v h => ?_))
        show (if okMk n len d = true then tD K d else tNo).p G v
        rw [hk]
        exact h
    · have hk : okMk n len d = false := by unfold okMk; rw [hs, decide_eq_false hlen]; rfl
      refine go_ifs (et_or (a := false) (b := true) (et_n (et_b (ev_is_sequence (d := d) (ev_var rfl) hs) rfl) rfl) fun _ => et_t (ev_neN (a := (items d).length) (b := len + 1) (ev_len (ev_sQ hs (ev_var rfl))) (ev_addN (b := 1) (ev_var rfl) ev_int)) ?_) (fun _ => hraise hk rfl (Same.refl _)) fun z => nomatch z
      rw [decide_eq_false hlen]; rfl
theorem ok_are_unlike (T : Prg P K mg) : Callee P w K mg base 2 "are_unlike" ["sight", "one", "other"] (sp_are_unlike K mg) := by
  refine T.d_are_unlike.ok sc_are_unlike (fun _ _ _ _ _ _ us hl => match us, hl with | [_, _, _], _ => rfl) (fun _ => rfl) ?_
  intro f cdv B outer s H Q E hr
  have hu := hu_of hr
  have hu64 := hu64_of hr
  refine ⟨_, (pss_one (ps_ret (pe_cmpR (neK K hu64) (pcallG (ok_behind T) hr passL (pa_cons (fldK K (fldK K (pv 0))) (pa_cons (fldK K (pv 0)) (pa_cons (slK K (fldK K (pv 0)) (po_some (pv 1)) (po_some (pv 2))) pa_nil)))) (fldK K (pv 0)) (nomark _)))), ?_⟩
  intro a G M hp hc hret hexc
  obtain ⟨a, one, other⟩ := a
  obtain ⟨ha, h1, h2⟩ := hp
  have ha' : a.Ok := ha
  have h1' : one ≤ a.log.length := h1
  have h2' : other ≤ a.log.length := h2
  have hf : ∀ {f : Str} {U : Ty} {Γ : Gam} {M : Mem}, Γ[0]? = some (some (tSg K mg a)) → List.lookup f (fSg K mg a) = some U → NoAttr K (cOf "Sight" mg) f → Ev Γ M (tFld K (tVar 0) f) U := fun h1 h2 h3 => ev_fld (ev_var h1) h2 T.cls_Sight h3
  have hsl : Ev (g0 N_are_unlike [tSg K mg a, tN K one, tN K other]) M (tSl (rSlQ K) (tFld K (tVar 0) "log") (tPart (tVar 1)) (tPart (tVar 2))) (tD K (.tuple (nL ((a.log.drop one).take (other - one))))) := by
    have r := ev_slT (ds := nL a.log) (hf (Γ := g0 N_are_unlike [tSg K mg a, tN K one, tN K other]) (M := M) rfl rfl T.na_Sight_log) (eo_some (K := K) (i := (one : Int)) (te := tVar 1) (ev_var rfl)) (eo_some (K := K) (i := (other : Int)) (te := tVar 2) (ev_var rfl))
    rw [cut_mid _ _ _ (by rw [nL_len]; exact h1') (by rw [nL_len]; exact h2'), nL_drop, nL_take] at r
    exact r
  exact go_ret (ev_neN (ev_behind (n := a.n) (ev_tables T (hf rfl rfl T.na_Sight_machine)) (hf rfl rfl T.na_Sight_state) hsl ha'.t ha'.s ⟨Nat.le_trans (List.length_take_le _ _) (by have := ha'.l.1; omega), fun x hx => ha'.l.2 x (List.mem_of_mem_drop (List.mem_of_mem_take hx))⟩) (hf rfl rfl T.na_Sight_state)) hret
end
end Ag
set_option Elab.async false
set_option linter.all false
set_option maxRecDepth 100000
set_option maxHeartbeats 2000000
/-! Ag10: unsafe_paper, is_safe_marking. -/
namespace Ag
open PySem PySem.Spec PyProof.Rows L2
inductive Md
  | good
  | badLog
  | badMark
  | badK
  | badB
structure UpA where
  tabs : List (List Nat)
  n : Nat
  k : Bool
  log : List Nat
  md : PyData
  sd : PyData
  sl : List Nat
  kd : PyData
  kl : List Nat
  bd : PyData
  b : Option Nat
  ok : Md
def UpA.Rest (a : UpA) : Prop := match a.ok with
  | .badLog => ∃ x, a.log = [x] ∧ a.tabs.length ≤ x
  | .badMark => OkL a.tabs a.log ∧ Szd a.md ∧ okMk a.n a.log.length a.md = false
  | .good => OkL a.tabs a.log ∧ Szd a.md ∧ okMk a.n a.log.length a.md = true ∧ GoodSt a.n a.sd a.sl ∧ GoodKp a.log.length a.kd a.kl ∧ GoodBd a.b ∧ a.bd = bdD a.b
  | .badK => OkL a.tabs a.log ∧ Szd a.md ∧ okMk a.n a.log.length a.md = true ∧ GoodSt a.n a.sd a.sl ∧ a.kd = .tuple (nL [0, 0])
  | .badB => OkL a.tabs a.log ∧ Szd a.md ∧ okMk a.n a.log.length a.md = true ∧ GoodSt a.n a.sd a.sl ∧ GoodKp a.log.length a.kd a.kl ∧ a.bd = nI 0
def UpA.X (K : FR) (mg : MG) (a : UpA) : XT := match a.ok with
  | .good => xNo
  | .badLog => xA K (cB mg) (.int 0)
  | .badMark => xA K (cR mg) a.md
  | .badK => xA K (cR mg) a.kd
  | .badB => xA K (cR mg) a.bd
def UpA.T (K : FR) (a : UpA) (d : PyData) : Ty := match a.ok with
  | .good => tD K d
  | _ => tNo
def UpA.sg (a : UpA) (s : Nat) (ok : Kb) : SgA := ⟨a.tabs, a.n, true, a.log, s, a.sd, a.sl, a.kd, a.kl, a.bd, a.b, ok⟩
def UpA.ages (a : UpA) (s : Nat) : List Nat := agesOf a.tabs a.log s a.sl a.kl a.b
def papD (s one other x y : Nat) : PyData := .tuple [.str "unsafe", nI s, nI one, nI other, nI x, nI y]
def condOf (a : UpA) (s one other : Nat) : Bool := decide (mkI a.md one s = mkI a.md other s) && unlike a.tabs a.log s one other
def papOf (a : UpA) (s one other : Nat) : PyData := papD s one other (gt (seenOf a.tabs a.log s a.sl one) 0) (gt (seenOf a.tabs a.log s a.sl other) 0)
def papJ (a : UpA) (s at_ j : Nat) : Option PyData := if condOf a s (gt (a.ages s) at_) (gt ((a.ages s).drop (at_ + 1)) j) then some (papOf a s (gt (a.ages s) at_) (gt ((a.ages s).drop (at_ + 1)) j)) else none
def papI (a : UpA) (s at_ : Nat) : Option PyData := (List.range ((a.ages s).drop (at_ + 1)).length).findSome? (papJ a s at_)
def papS (a : UpA) (s : Nat) : Option PyData := (List.range (a.ages s).length).findSome? (papI a s)
def paper (a : UpA) : Option PyData := (List.range a.n).findSome? (papS a)
theorem find_none {α : Type} {f : Nat → Option α} {n : Nat} (h : ∀ j, j < n → f j = none) : (List.range n).findSome? f = none := by
  rw [List.findSome?_eq_none_iff]
  exact fun j hj => h j (List.mem_range.mp hj)
theorem find_some {α : Type} {f : Nat → Option α} {n i : Nat} {r : α} (hi : i < n) (h : ∀ j, j < i → f j = none) (e : f i = some r) : (List.range n).findSome? f = some r := by
  obtain ⟨m, rfl⟩ : ∃ m, n = i + (m + 1) := ⟨n - i - 1, by omega⟩
  rw [List.range_add, List.findSome?_append, find_none h, List.range_succ_eq_map, List.map_cons, List.findSome?_cons]
  show (match f (i + 0) with | some b => some b | none => _) = some r
  rw [Nat.add_zero, e]
abbrev upArgs (K : FR) (mg : MG) (a : UpA) : List Ty := [tMa K mg a.tabs a.n, tZ K a.k (nL a.log), tD K a.md, tD K a.sd, tD K a.kd, tD K a.bd]
abbrev sp_unsafe_paper (K : FR) (mg : MG) : Sp := PrX (fun a : UpA => OkT a.tabs a.n ∧ a.Rest) (fun _ => []) (upArgs K mg) (fun a => a.T K ((paper a).getD .none)) (UpA.X K mg)
abbrev sp_is_safe_marking (K : FR) (mg : MG) : Sp := PrX (fun a : UpA => OkT a.tabs a.n ∧ a.Rest) (fun _ => []) (upArgs K mg) (fun a => a.T K (.bool (paper a).isNone)) (UpA.X K mg)
section
variable {K : FR} {mg : MG} {Γ : Gam} {M : Mem} {ta tb tc to : TE} {tA : TA} {E : XK} {d : PyData} {tabs : List (List Nat)} {n : Nat} {G0 : Hp}
theorem rs_check_log {k : Bool} {log : List Nat} {x : Nat} (ha : Ev Γ M ta (tMa K mg tabs n)) (hb : Ev Γ M tb (tZ K k (nL log))) (ok : OkT tabs n) (hl : log = [x]) (hx : tabs.length ≤ x) (hX : ∀ cls d G H, Same G0 G → Wd G M H → xA K (cB mg) (.int 0) G cls d → E cls d H) :
    Rs G0 Γ M (tCall (sp_check_log K mg) [] E (tCons ta (tCons tb tNil))) := rs_call (⟨tabs, n, k, log, false⟩ : LogA) (ea_cons ha (ea_cons hb ea_nil)) ⟨ok, x, hl, hx⟩ sub_nil (fun _ _ z => z) hX
theorem ev_check_marking {len : Nat} (ha : Ev Γ M ta (tMa K mg tabs n)) (hb : Ev Γ M tb (tD K d)) (hc : Ev Γ M tc (tN K len)) (hl : len ≤ 1000) (hz : Szd d) (ok : okMk n len d = true) : Ev Γ M (tCall (sp_check_marking K mg) [] E (tCons ta (tCons tb (tCons tc tNil)))) (tD K d) := by
  refine ev_mono (ev_call (⟨tabs, n, len, d⟩ : MkA) (ea_cons ha (ea_cons hb (ea_cons hc ea_nil))) ⟨hl, hz⟩ sub_nil (fun G cls od z => ?_)) fun G v h => ?_
  · have z' : (if okMk n len d = true then xNo else xA K (cR mg) d) G cls od := z
    rw [ok] at z'
    exact z'
  · have z' : (if okMk n len d = true then tD K d else tNo).p G v := h
    rw [ok] at z'
    exact z'
theorem rs_check_marking {len : Nat} (ha : Ev Γ M ta (tMa K mg tabs n)) (hb : Ev Γ M tb (tD K d)) (hc : Ev Γ M tc (tN K len)) (hl : len ≤ 1000) (hz : Szd d) (ok : okMk n len d = false) (hX : ∀ cls od G H, Same G0 G → Wd G M H → xA K (cR mg) d G cls od → E cls od H) :
    Rs G0 Γ M (tCall (sp_check_marking K mg) [] E (tCons ta (tCons tb (tCons tc tNil)))) := by
  refine rs_call (⟨tabs, n, len, d⟩ : MkA) (ea_cons ha (ea_cons hb (ea_cons hc ea_nil))) ⟨hl, hz⟩ sub_nil (fun G v z => ?_) fun cls od G H e w z => ?_
  · have z' : (if okMk n len d = true then tD K d else tNo).p G v := z
    rw [ok] at z'
    exact z'
  · have z' : (if okMk n len d = true then xNo else xA K (cR mg) d) G cls od := z
    rw [ok] at z'
    exact hX cls od G H e w z'
theorem ev_are_unlike {a : SgA} {one other : Nat} (ha : Ev Γ M ta (tSg K mg a)) (hb : Ev Γ M tb (tN K one)) (hc : Ev Γ M tc (tN K other)) (ok : a.Ok) (h1 : one ≤ a.log.length) (h2 : other ≤ a.log.length) :
    Ev Γ M (tCall (sp_are_unlike K mg) [] E (tCons ta (tCons tb (tCons tc tNil)))) (tB K (unlike a.tabs a.log a.state one other)) := ev_callS (⟨a, one, other⟩ : UnlA) (ea_cons ha (ea_cons hb (ea_cons hc ea_nil))) ⟨ok, h1, h2⟩
/-- a Sight is made; it is refused -/
theorem ev_Sight {a : SgA} (h : EvA Γ M tA [tMa K mg a.tabs a.n, tZ K a.k (nL a.log), tN K a.state, tD K a.sd, tD K a.kd, tD K a.bd]) (ok : a.Ok) (hg : a.ok = .good) : Ev Γ M (tMake (cOf "Sight" mg) (sp_Sight_init K mg) [] E tA) (tSg K mg a) := by
  have r := ev_make (E := E) (A := fun a : SgA => [tMa K mg a.tabs a.n, tZ K a.k (nL a.log), tN K a.state, tD K a.sd, tD K a.kd, tD K a.bd]) (P := fun a : SgA => a.Ok) (C' := cOf "Sight" mg) (F := fSgX K mg) (X := xSg K mg) a h ok fun G cls d z => by
    unfold xSg at z
    rw [hg] at z
    exact z
  have e : fSgX K mg a = fSg K mg a := by unfold fSgX; rw [hg]
  rw [e] at r
  exact r
theorem rs_Sight {a : SgA} {d : PyData} (h : EvA Γ M tA [tMa K mg a.tabs a.n, tZ K a.k (nL a.log), tN K a.state, tD K a.sd, tD K a.kd, tD K a.bd]) (ok : a.Ok) (hg : (a.ok = .badK ∧ d = a.kd) ∨ (a.ok = .badB ∧ d = a.bd)) (hX : ∀ cls od G H, Same G0 G → Wd G M H → xA K (cR mg) d G cls od → E cls od H) :
    Rs G0 Γ M (tMake (cOf "Sight" mg) (sp_Sight_init K mg) [] E tA) := by
  refine rs_make (A := fun a : SgA => [tMa K mg a.tabs a.n, tZ K a.k (nL a.log), tN K a.state, tD K a.sd, tD K a.kd, tD K a.bd]) (P := fun a : SgA => a.Ok) (C' := cOf "Sight" mg) (F := fSgX K mg) (X := xSg K mg) a h ok (fun G vs z => ?_) fun cls od G H e w z => ?_
  · have e : fSgX K mg a = ([("machine", tNo)] : List (Str × Ty)) := by unfold fSgX; rcases hg with ⟨h, _⟩ | ⟨h, _⟩ <;> rw [h]
    rw [e] at z
    cases z with
    | cons h _ => exact h
  · refine hX cls od G H e w ?_
    unfold xSg at z
    rcases hg with ⟨h, h2⟩ | ⟨h, h2⟩
    · rw [h] at z; rw [h2]; exact z
    · rw [h] at z; rw [h2]; exact z
theorem ages_mem {a : UpA} {s x : Nat} (h : x ∈ a.ages s) : x ∈ a.kl ∧ 0 < (seenOf a.tabs a.log s a.sl x).length ∧ inWin x a.log.length a.b = true := by
  unfold UpA.ages agesOf allAges at h
  obtain ⟨h1, h2⟩ := List.mem_filter.mp h
  obtain ⟨h3, h4⟩ := List.mem_filter.mp h1
  exact ⟨h3, of_decide_eq_true h4, h2⟩
end
theorem ev_eqD {K : FR} {Γ : Gam} {M : Mem} {ta tb : TE} {i j : Int} (ha : Ev Γ M ta (tD K (.int i))) (hb : Ev Γ M tb (tD K (.int j))) : Ev Γ M (tOp (rEqD K) ta tb) (tB K (decide (i = j))) := ev_eqI ha hb
section
variable {P : Program} {w : World} {K : PySem.W.Frag} {mg : Str → Option Value} {base : Heap}
theorem fn_unsafe_paper (T : Prg P K mg) {f : Addr} {fd : FuncData} {kws : List (Str × V)} (F : FunD K "unsafe_paper" "unsafe_paper" (defArgs s_unsafe_paper) (defBody s_unsafe_paper) (defScope s_unsafe_paper) [] kws f fd) : FnOk P w K mg base (L2.CX P w) 12 f fd ["machine", "log", "marking", "starts", "kept", "bound"] (sp_unsafe_paper K mg) := by
  refine fnD_ok F sc_unsafe_paper (fun _ => rfl) ?_
  intro cdv B outer s H Q E hr
  have hu := hu_of hr
  have hu64 := hu64_of hr
  refine ⟨_, (pss_cons (ps_set (i := 6) sc_unsafe_paper.nd rfl (Or.inl rfl) (pcallG (ok_check_log T) hr (passes_call (takes_of rfl rfl rfl rfl) (fun _ _ _ _ h => h)) (pa_cons (pv 0) (pa_cons (pv 1) pa_nil))))
      (pss_cons (ps_expr (pcallG (ok_check_marking T) hr (passes_call (takes_of rfl rfl rfl rfl) (fun _ _ _ _ h => h)) (pa_cons (pv 0) (pa_cons (pv 2) (pa_cons (pe_callB (lenK K) rfl T.n_len (by decide +kernel) (pa_cons (pv 6) pa_nil)) pa_nil)))))
      (pss_cons (ps_for (passes_of rfl) rfl (pi_range1 rfl T.n_range (pa_cons (fldK K (pv 0)) pa_nil)) (pg_name (i := 7) sc_unsafe_paper.nd rfl (Or.inl rfl)) (pss_cons (ps_set (i := 8) sc_unsafe_paper.nd rfl (Or.inl rfl) (pmakeG (ok_Sight_init T) hr (passes_call (takes_of rfl rfl rfl rfl) (fun _ _ _ _ h => h)) (pa_cons (pv 0) (pa_cons (pv 6) (pa_cons (pv 7) (pa_cons (pv 3) (pa_cons (pv 4) (pa_cons (pv 5) pa_nil))))))))
      (pss_one (ps_for (passes_of rfl) rfl (enumK K rfl T.n_enumerate (pa_cons (fldK K (pv 8)) pa_nil)) (tupG K 2 (pgs_cons (pg_name (i := 9) sc_unsafe_paper.nd rfl (Or.inl rfl)) (pgs_cons (pg_name (i := 10) sc_unsafe_paper.nd rfl (Or.inl rfl)) pgs_nil))) (pss_one (ps_for (passes_of rfl) rfl (seqK K (slK K (fldK K (pv 8)) (po_some (pe_op op_add (pv 9) pe_int)) po_none)) (pg_name (i := 11) sc_unsafe_paper.nd rfl (Or.inl rfl)) (pss_one (ps_if (PW.pt (pw_and (pt_cmpR (eqK K hu64) (ixK K (ixK K (pv 2) (pv 10)) (pv 7)) (ixK K (ixK K (pv 2) (pv 11)) (pv 7)) (nomark _)) (pw_and1 (pt_val (pcallG (ok_are_unlike T) hr passL (pa_cons (pv 8) (pa_cons (pv 10) (pa_cons (pv 11) pa_nil)))))))) (pss_one (ps_ret (pe_tup (pa_cons pe_str (pa_cons (pv 7) (pa_cons (pv 10) (pa_cons (pv 11) (pa_cons (ixK K (pmethG (ok_Sight_seen T) hr passL (pv 8) (pa_cons (pv 10) pa_nil)) pe_int) (pa_cons (ixK K (pmethG (ok_Sight_seen T) hr passL (pv 8) (pa_cons (pv 11) pa_nil)) pe_int) pa_nil))))))))) pss_nil))))))))
      (pss_one (ps_ret pe_non))))), ?_⟩
  intro a G M hp hc hret hexc
  obtain ⟨tabs, n, k, log, md, sd, sl, kd, kl, bd, b, ok⟩ := a
  obtain ⟨hT, hR⟩ := hp
  have hT' : OkT tabs n := hT
  obtain ⟨a, hae⟩ : ∃ a : UpA, a = ⟨tabs, n, k, log, md, sd, sl, kd, kl, bd, b, ok⟩ := ⟨_, rfl⟩
  have hΓ : g0 N_unsafe_paper (upArgs K mg ⟨tabs, n, k, log, md, sd, sl, kd, kl, bd, b, ok⟩) = [some (tMa K mg tabs n), some (tZ K k (nL log)), some (tD K md), some (tD K sd), some (tD K kd), some (tD K bd), none, none, none, none, none, none] := rfl
  rw [hΓ]
  have hm : ∀ {Γ : Gam} {M : Mem}, Γ[0]? = some (some (tMa K mg tabs n)) → Ev Γ M (tFld K (tVar 0) "states") (tN K n) := fun h => ev_states T (ev_var h)
  cases ok with
  | badLog =>
    have hR' : ∃ x, log = [x] ∧ tabs.length ≤ x := hR
    obtain ⟨x, h1, h2⟩ := hR'
    exact go_seq (go_rs_asg (rs_check_log (k := k) (log := log) (ev_var rfl) (ev_var rfl) hT' h1 h2 hexc))
  | badMark =>
    have hR' : OkL tabs log ∧ Szd md ∧ okMk n log.length md = false := hR
    obtain ⟨hL, hz, hk⟩ := hR'
    refine go_set (ev_check_log (k := k) (log := log) (ev_var rfl) (ev_var rfl) hT' hL) ?_
    exact go_seq (go_rs_drop (rs_check_marking (ev_var rfl) (ev_var rfl) (ev_lenN (ev_tQ (ev_var rfl))) hL.1 hz hk hexc))
  | badK =>
    have hR' : OkL tabs log ∧ Szd md ∧ okMk n log.length md = true ∧ GoodSt n sd sl ∧ kd = .tuple (nL [0, 0]) := hR
    obtain ⟨hL, hz, hk, hst, hkd⟩ := hR'
    refine go_set (ev_check_log (k := k) (log := log) (ev_var rfl) (ev_var rfl) hT' hL) ?_
    refine go_seq (go_drop (ev_check_marking (ev_var rfl) (ev_var rfl) (ev_lenN (ev_tQ (ev_var rfl))) hL.1 hz hk) (go_nx ?_))
    refine go_seq (go_for (it_rng1 (hm rfl) (Nat.le_trans hT'.n2 (by decide))) (fun i (_ : Unit) => [some (tMa K mg tabs n), some (tZ K k (nL log)), some (tD K md), some (tD K sd), some (tD K kd), some (tD K bd), some (tD K (.tuple (nL log))), none, none, none, none, none]) (fun i _ => [some (tMa K mg tabs n), some (tZ K k (nL log)), some (tD K md), some (tD K sd), some (tD K kd), some (tD K bd), some (tD K (.tuple (nL log))), some (tN K i), none, none, none, none]) (fun _ _ => M) (fun i _ => i = 0) () rfl rfl rfl (fun i _ hi _ => tg_name) (fun i _ Gt hi hi0 e => ?_) fun _ z => absurd (z : n = 0) (by have := hT'.n1; omega))
    exact go_seq (go_rs_asg (rs_Sight (a := ⟨tabs, n, true, log, i, sd, sl, kd, kl, bd, b, .badK⟩) (d := kd) (ea_cons (ev_var rfl) (ea_cons (ev_var rfl) (ea_cons (ev_var rfl) (ea_cons (ev_var rfl) (ea_cons (ev_var rfl) (ea_cons (ev_var rfl) ea_nil)))))) ⟨hT', hL, hi, hst, hkd⟩ (.inl ⟨rfl, rfl⟩) fun cls od G' H' e' w' z => hexc _ _ _ _ (e.trans e') w' z))
  | badB =>
    have hR' : OkL tabs log ∧ Szd md ∧ okMk n log.length md = true ∧ GoodSt n sd sl ∧ GoodKp log.length kd kl ∧ bd = nI 0 := hR
    obtain ⟨hL, hz, hk, hst, hkd, hbd⟩ := hR'
    refine go_set (ev_check_log (k := k) (log := log) (ev_var rfl) (ev_var rfl) hT' hL) ?_
    refine go_seq (go_drop (ev_check_marking (ev_var rfl) (ev_var rfl) (ev_lenN (ev_tQ (ev_var rfl))) hL.1 hz hk) (go_nx ?_))
    refine go_seq (go_for (it_rng1 (hm rfl) (Nat.le_trans hT'.n2 (by decide))) (fun i (_ : Unit) => [some (tMa K mg tabs n), some (tZ K k (nL log)), some (tD K md), some (tD K sd), some (tD K kd), some (tD K bd), some (tD K (.tuple (nL log))), none, none, none, none, none]) (fun i _ => [some (tMa K mg tabs n), some (tZ K k (nL log)), some (tD K md), some (tD K sd), some (tD K kd), some (tD K bd), some (tD K (.tuple (nL log))), some (tN K i), none, none, none, none]) (fun _ _ => M) (fun i _ => i = 0) () rfl rfl rfl (fun i _ hi _ => tg_name) (fun i _ Gt hi hi0 e => ?_) fun _ z => absurd (z : n = 0) (by have := hT'.n1; omega))
    exact go_seq (go_rs_asg (rs_Sight (a := ⟨tabs, n, true, log, i, sd, sl, kd, kl, bd, b, .badB⟩) (d := bd) (ea_cons (ev_var rfl) (ea_cons (ev_var rfl) (ea_cons (ev_var rfl) (ea_cons (ev_var rfl) (ea_cons (ev_var rfl) (ea_cons (ev_var rfl) ea_nil)))))) ⟨hT', hL, hi, hst, hkd, hbd⟩ (.inr ⟨rfl, rfl⟩) fun cls od G' H' e' w' z => hexc _ _ _ _ (e.trans e') w' z))
  | good =>
    have hR' : OkL tabs log ∧ Szd md ∧ okMk n log.length md = true ∧ GoodSt n sd sl ∧ GoodKp log.length kd kl ∧ GoodBd b ∧ bd = bdD b := hR
    obtain ⟨hL, hz, hk, hst, hkp, hgb, hbd⟩ := hR'
    have hret' : Rt (Dn Q) G M (tD K ((paper a).getD .none)) := by rw [hae]; exact hret
    have hagelen : ∀ s, (a.ages s).length ≤ 1001 := fun s => by
      have h1 := GoodKp.len hkp hL.1
      have h2 : (a.ages s).length ≤ (allAges a.tabs a.log s a.sl a.kl).length := List.length_filter_le _ _
      have h3 : (allAges a.tabs a.log s a.sl a.kl).length ≤ a.kl.length := List.length_filter_le _ _
      have h4 : a.kl.length = kl.length := by rw [hae]
      omega
    have hage : ∀ s x, x ∈ a.ages s → x < log.length + 1 ∧ 0 < (seenOf tabs log s sl x).length := fun s x hx => by
      obtain ⟨h1, h2, _⟩ := ages_mem hx
      have e1 : a.kl = kl := by rw [hae]
      have e2 : a.tabs = tabs ∧ a.log = log ∧ a.sl = sl := by rw [hae]; exact ⟨rfl, rfl, rfl⟩
      rw [e1] at h1
      rw [e2.1, e2.2.1, e2.2.2] at h2
      exact ⟨GoodKp.lt hkp x h1, h2⟩
    refine go_set (ev_check_log (k := k) (log := log) (ev_var rfl) (ev_var rfl) hT' hL) ?_
    refine go_seq (go_drop (ev_check_marking (ev_var rfl) (ev_var rfl) (ev_lenN (ev_tQ (ev_var rfl))) hL.1 hz hk) (go_nx ?_))
    refine go_seq (go_for (it_rng1 (hm rfl) (Nat.le_trans hT'.n2 (by decide))) (fun i (_ : Unit) => [some (tMa K mg tabs n), some (tZ K k (nL log)), some (tD K md), some (tD K sd), some (tD K kd), some (tD K bd), some (tD K (.tuple (nL log))), none, none, none, none, none]) (fun i _ => [some (tMa K mg tabs n), some (tZ K k (nL log)), some (tD K md), some (tD K sd), some (tD K kd), some (tD K bd), some (tD K (.tuple (nL log))), some (tN K i), none, none, none, none]) (fun _ _ => M) (fun i _ => ∀ j, j < i → papS a j = none) () rfl rfl (fun j hj => absurd hj (Nat.not_lt_zero _)) (fun i _ hi _ => tg_name) (fun i _ Gt hi hpi e => ?_) fun _ hpi => ?_)
    · obtain ⟨sg, hsg⟩ : ∃ sg : SgA, sg = ⟨tabs, n, true, log, i, sd, sl, kd, kl, bd, b, .good⟩ := ⟨_, rfl⟩
      have hok : sg.Ok := by rw [hsg]; exact ⟨hT', hL, hi, hst, hkp, hgb, hbd⟩
      have hsf : sg.tabs = tabs ∧ sg.n = n ∧ sg.k = true ∧ sg.log = log ∧ sg.state = i ∧ sg.sd = sd ∧ sg.kd = kd ∧ sg.bd = bd := by rw [hsg]; exact ⟨rfl, rfl, rfl, rfl, rfl, rfl, rfl, rfl⟩
      have hages : sg.ages = a.ages i := by rw [hsg, hae]; rfl
      refine go_set (T := tSg K mg sg) (ev_Sight (a := sg) ?_ hok (by rw [hsg])) ?_
      · obtain ⟨e1, e2, e3, e4, e5, e6, e7, e8⟩ := hsf
        rw [e1, e2, e3, e4, e5, e6, e7, e8]
        exact ea_cons (ev_var rfl) (ea_cons (ev_var rfl) (ea_cons (ev_var rfl) (ea_cons (ev_var rfl) (ea_cons (ev_var rfl) (ea_cons (ev_var rfl) ea_nil)))))
      have hf : ∀ {f : Str} {U : Ty} {Γ : Gam} {M : Mem}, Γ[8]? = some (some (tSg K mg sg)) → List.lookup f (fSg K mg sg) = some U → NoAttr K (cOf "Sight" mg) f → Ev Γ M (tFld K (tVar 8) f) U := fun h1 h2 h3 => ev_fld (ev_var h1) h2 T.cls_Sight h3
      have hfa : ∀ {Γ : Gam} {M : Mem}, Γ[8]? = some (some (tSg K mg sg)) → Ev Γ M (tFld K (tVar 8) "ages") (tD K (.list (nL (a.ages i)))) := fun h1 => hages ▸ hf h1 rfl T.na_Sight_ages
      have hI := it_enum (K := K) (Γ := [some (tMa K mg tabs n), some (tZ K k (nL log)), some (tD K md), some (tD K sd), some (tD K kd), some (tD K bd), some (tD K (.tuple (nL log))), some (tN K i), some (tSg K mg sg), none, none, none]) (M := M) (ev_lQ (hfa rfl))
      rw [nL_len] at hI
      refine go_for hI (fun j (_ : Unit) => [some (tMa K mg tabs n), some (tZ K k (nL log)), some (tD K md), some (tD K sd), some (tD K kd), some (tD K bd), some (tD K (.tuple (nL log))), some (tN K i), some (tSg K mg sg), none, none, none]) (fun j _ => [some (tMa K mg tabs n), some (tZ K k (nL log)), some (tD K md), some (tD K sd), some (tD K kd), some (tD K bd), some (tD K (.tuple (nL log))), some (tN K i), some (tSg K mg sg), some (tN K j), some (tN K (gt (a.ages i) j)), none]) (fun _ _ => M) (fun j _ => ∀ j', j' < j → papI a i j' = none) () rfl rfl (fun j hj => absurd hj (Nat.not_lt_zero _)) (fun j _ hj _ => by rw [dAt_nL hj]; exact tg_pair) (fun j _ Gt2 hj hpj e2 => ?_) fun _ hpj => nx_endW () (fun j' hj' => ?_) (.same (.same (.same (.same (.same (.same (.same (.no (.no (.same (.same (.same .nil)))))))))))) rfl
      · have hsl : Ev [some (tMa K mg tabs n), some (tZ K k (nL log)), some (tD K md), some (tD K sd), some (tD K kd), some (tD K bd), some (tD K (.tuple (nL log))), some (tN K i), some (tSg K mg sg), some (tN K j), some (tN K (gt (a.ages i) j)), none] M (tSl (rSlQ K) (tFld K (tVar 8) "ages") (tPart (tOp (rI0 fun i j => .int (i + j)) (tVar 9) (tC (.int 1)))) tNoPart) (tL K (nL ((a.ages i).drop (j + 1)))) := by
          have r := ev_slL (ds := nL (a.ages i)) (hfa (Γ := [some (tMa K mg tabs n), some (tZ K k (nL log)), some (tD K md), some (tD K sd), some (tD K kd), some (tD K bd), some (tD K (.tuple (nL log))), some (tN K i), some (tSg K mg sg), some (tN K j), some (tN K (gt (a.ages i) j)), none]) (M := M) rfl) (eo_some (K := K) (i := ((j + 1 : Nat) : Int)) (te := tOp (rI0 fun i j => .int (i + j)) (tVar 9) (tC (.int 1))) (ev_addN (b := 1) (ev_var rfl) ev_int)) eo_none
          rw [cut_from, nL_drop] at r
          exact r
        have hI2 := it_seq (ev_LQ hsl)
        rw [nL_len] at hI2
        refine go_for hI2 (fun j2 (_ : Unit) => [some (tMa K mg tabs n), some (tZ K k (nL log)), some (tD K md), some (tD K sd), some (tD K kd), some (tD K bd), some (tD K (.tuple (nL log))), some (tN K i), some (tSg K mg sg), some (tN K j), some (tN K (gt (a.ages i) j)), none]) (fun j2 _ => [some (tMa K mg tabs n), some (tZ K k (nL log)), some (tD K md), some (tD K sd), some (tD K kd), some (tD K bd), some (tD K (.tuple (nL log))), some (tN K i), some (tSg K mg sg), some (tN K j), some (tN K (gt (a.ages i) j)), some (tN K (gt ((a.ages i).drop (j + 1)) j2))]) (fun _ _ => M) (fun j2 _ => ∀ j', j' < j2 → papJ a i j j' = none) () rfl rfl (fun j hj => absurd hj (Nat.not_lt_zero _)) (fun j2 _ hj2 _ => by rw [dAt_nL hj2]; exact tg_name) (fun j2 _ Gt3 hj2 hpj2 e3 => ?_) fun _ hpj2 => nx_endW () (fun j' hj' => ?_) (.same (.same (.same (.same (.same (.same (.same (.same (.same (.no (.no (.same .nil)))))))))))) rfl
        · obtain ⟨one, hone⟩ : ∃ one, one = gt (a.ages i) j := ⟨_, rfl⟩
          obtain ⟨oth, hoth⟩ : ∃ oth, oth = gt ((a.ages i).drop (j + 1)) j2 := ⟨_, rfl⟩
          rw [← hone, ← hoth]
          obtain ⟨h1, h1'⟩ := hage i one (hone ▸ gt_mem hj)
          obtain ⟨h2, h2'⟩ := hage i oth (hoth ▸ List.mem_of_mem_drop (gt_mem hj2))
          have emd : a.md = md := by rw [hae]
          have hcond : condOf a i one oth = (decide (mkI md one i = mkI md oth i) && unlike sg.tabs sg.log sg.state one oth) := by rw [hsg, hae]; rfl
          have hll : sg.log.length = log.length := by rw [hsg]
          refine go_if (P := (· = condOf a i one oth)) (by
            rw [hcond]
            exact et_and (et_t (ev_eqD (ev_mark hk (ev_var rfl) (ev_var rfl) (ev_var rfl) h1 hi) (ev_mark hk (ev_var rfl) (ev_var rfl) (ev_var rfl) h2 hi)) rfl) fun _ => et_b (ev_are_unlike (a := sg) (ev_var rfl) (ev_var rfl) (ev_var rfl) hok (by omega) (by omega)) rfl) (fun hc1 => ?_) fun hc1 => ?_
          · have hseen : ∀ {Γ : Gam} {M : Mem} {x : Nat} {tb : TE}, Γ[8]? = some (some (tSg K mg sg)) → x < log.length + 1 → 0 < (seenOf tabs log i sl x).length → Ev Γ M tb (tN K x) → Ev Γ M (tOp (rIx K) (tMeth (cOf "Sight" mg) "seen" (sp_Sight_seen K mg) [] E0 (tVar 8) (tCons tb tNil)) (tC (.int 0))) (tN K (gt (seenOf a.tabs a.log i a.sl x) 0)) := fun {Γ M x tb} g1 g2 g3 g4 => by
              have r := ev_ixN (K := K) (a := 0) (ev_tQ (ev_seen (E := E0) (a := sg) (age := x) (ev_var g1) g4 hok (by omega))) (ev_nat 0) (by rw [hsg]; exact g3)
              have e5 : seenOf sg.tabs sg.log sg.state sg.sl x = seenOf a.tabs a.log i a.sl x := by rw [hsg, hae]
              rw [e5] at r
              exact r
            refine go_ret (T := tD K (papOf a i one oth)) (ev_tup (ea_cons (ev_str (x := "unsafe")) (ea_cons (ev_var (i := 7) (T := tN K i) rfl) (ea_cons (ev_var (i := 10) (T := tN K one) rfl) (ea_cons (ev_var (i := 11) (T := tN K oth) rfl) (ea_cons (hseen rfl h1 h1' (ev_var rfl)) (ea_cons (hseen rfl h2 h2' (ev_var rfl)) ea_nil)))))) (by exact (by decide : 6 ≤ 1000000))) ?_
            have hpj0 : papJ a i j j2 = some (papOf a i one oth) := by
              unfold papJ
              rw [← hone, ← hoth, if_pos hc1.symm]
            have hpi0 : papI a i j = some (papOf a i one oth) := find_some hj2 hpj2 hpj0
            have hps0 : papS a i = some (papOf a i one oth) := find_some hj hpj hpi0
            have hp0 : paper a = some (papOf a i one oth) := find_some (by rw [hae]; exact hi) hpi hps0
            rw [hp0] at hret'
            exact hret'.base (((e.trans e2).trans e3))
          · refine go_endW () (fun j' hj' => ?_) (.same (.same (.same (.same (.same (.same (.same (.same (.same (.same (.same (.no .nil)))))))))))) rfl
            rcases Nat.lt_succ_iff_lt_or_eq.mp hj' with h | h
            · exact hpj2 j' h
            · rw [h]
              unfold papJ
              rw [← hone, ← hoth, if_neg (by rw [← hc1]; decide)]
        · rcases Nat.lt_succ_iff_lt_or_eq.mp hj' with h | h
          · exact hpj j' h
          · rw [h]; exact find_none hpj2
      · rcases Nat.lt_succ_iff_lt_or_eq.mp hj' with h | h
        · exact hpi j' h
        · rw [h]; exact find_none hpj
    · have hn : paper a = none := find_none (by rw [hae]; rw [hae] at hpi; exact hpi)
      rw [hn] at hret'
      exact go_nx (go_ret ev_non hret')
end
end Ag
set_option Elab.async false
set_option linter.all false
set_option maxRecDepth 100000
set_option maxHeartbeats 2000000
/-! Ag11: calls by keywords, is_safe_marking. -/
namespace Ag
open PySem PySem.Spec PyProof.Rows L2
theorem find_range {α : Type} {f : Nat → Option α} {n : Nat} {r : α} (h : (List.range n).findSome? f = some r) : ∃ i, i < n ∧ f i = some r := by
  obtain ⟨i, hi, e⟩ := List.exists_of_findSome?_eq_some h
  exact ⟨i, List.mem_range.mp hi, e⟩
theorem paper_spec {a : UpA} {p : PyData} (h : paper a = some p) : ∃ s i j, s < a.n ∧ i < (a.ages s).length ∧ j < ((a.ages s).drop (i + 1)).length ∧ condOf a s (gt (a.ages s) i) (gt ((a.ages s).drop (i + 1)) j) = true ∧ p = papOf a s (gt (a.ages s) i) (gt ((a.ages s).drop (i + 1)) j) := by
  obtain ⟨s, hs, h⟩ := find_range h
  obtain ⟨i, hi, h⟩ := find_range h
  obtain ⟨j, hj, h⟩ := find_range h
  unfold papJ at h
  by_cases c : condOf a s (gt (a.ages s) i) (gt ((a.ages s).drop (i + 1)) j) = true
  · rw [if_pos c] at h
    exact ⟨s, i, j, hs, hi, hj, c, (Option.some.inj h).symm⟩
  · rw [if_neg c] at h
    cases h
section
variable {P : Program} {w : World} {K : PySem.W.Frag} {mg : Str → Option Value} {base : Heap}
def gk_unsafe_paper_kw3_starts_kept_bound {α : Type} (a b c : List α) : List α := a ++ ((c.drop 0).take 1 ++ ((c.drop 1).take 1 ++ ((c.drop 2).take 1)))
theorem okk_unsafe_paper_kw3_starts_kept_bound (T : Prg P K mg) : KCallee P w K mg base 12 "unsafe_paper" ["machine", "log", "marking", "starts", "kept", "bound"] 3 ["starts", "kept", "bound"] (fun vs zs => gk_unsafe_paper_kw3_starts_kept_bound vs (List.map Prod.snd ([] : List (Str × V))) zs) (sp_unsafe_paper K mg) := by
  obtain ⟨f, fd, hm, F⟩ := T.d_unsafe_paper.ex
  obtain ⟨mv, kb⟩ := F.kbinds0 (ps := ["machine", "log", "marking", "starts", "kept", "bound"]) 3 ["starts", "kept", "bound"] [] (fun a b c => gk_unsafe_paper_kw3_starts_kept_bound a b c) (by simp) (by simp) (fun r1 r2 r3 => (r1.append (((r3.drop 0).take 1).append (((r3.drop 1).take 1).append ((r3.drop 2).take 1))))) (fun D doc pm an cdv ct us mv ws h1 h2 h3 => match us, mv, ws, h1, h2, h3 with
    | [_, _, _], [], [_, _, _], _, _, _ => rfl)
  exact ⟨f, fd, _, fn_unsafe_paper T F, hm, F.kp, kb⟩
def gk_unsafe_paper_kw0_bound_kept_starts_marking_log_machine {α : Type} (a b c : List α) : List α := (c.drop 5).take 1 ++ ((c.drop 4).take 1 ++ ((c.drop 3).take 1 ++ ((c.drop 2).take 1 ++ ((c.drop 1).take 1 ++ ((c.drop 0).take 1)))))
theorem okk_unsafe_paper_kw0_bound_kept_starts_marking_log_machine (T : Prg P K mg) : KCallee P w K mg base 12 "unsafe_paper" ["machine", "log", "marking", "starts", "kept", "bound"] 0 ["bound", "kept", "starts", "marking", "log", "machine"] (fun vs zs => gk_unsafe_paper_kw0_bound_kept_starts_marking_log_machine vs (List.map Prod.snd ([] : List (Str × V))) zs) (sp_unsafe_paper K mg) := by
  obtain ⟨f, fd, hm, F⟩ := T.d_unsafe_paper.ex
  obtain ⟨mv, kb⟩ := F.kbinds0 (ps := ["machine", "log", "marking", "starts", "kept", "bound"]) 0 ["bound", "kept", "starts", "marking", "log", "machine"] [] (fun a b c => gk_unsafe_paper_kw0_bound_kept_starts_marking_log_machine a b c) (by simp) (by simp) (fun r1 r2 r3 => (((r3.drop 5).take 1).append (((r3.drop 4).take 1).append (((r3.drop 3).take 1).append (((r3.drop 2).take 1).append (((r3.drop 1).take 1).append ((r3.drop 0).take 1))))))) (fun D doc pm an cdv ct us mv ws h1 h2 h3 => match us, mv, ws, h1, h2, h3 with
    | [], [], [_, _, _, _, _, _], _, _, _ => rfl)
  exact ⟨f, fd, _, fn_unsafe_paper T F, hm, F.kp, kb⟩
section
variable {Γ : Gam} {M : Mem} {ta tb tc t1 t2 t3 t4 t5 t6 : TE} {E : XK} {G0 : Hp}
theorem upT {a : UpA} {d : PyData} (h : a.ok = .good) : a.T K d = tD K d := by unfold UpA.T; rw [h]
theorem upX {a : UpA} (h : a.ok = .good) (G : Hp) (cls : Value) (d : Option Addr) : ¬ a.X K mg G cls d := by unfold UpA.X; rw [h]; exact fun z => z
theorem upT' {a : UpA} {d : PyData} (h : a.ok ≠ .good) (G : Hp) (v : V) : ¬ (a.T K d).p G v := by
  unfold UpA.T
  cases e : a.ok with
  | good => exact absurd e h
  | _ => exact fun z => z
theorem ev_unsafe_paper_k (a : UpA) (h1 : Ev Γ M t1 (tMa K mg a.tabs a.n)) (h2 : Ev Γ M t2 (tZ K a.k (nL a.log))) (h3 : Ev Γ M t3 (tD K a.md)) (h4 : Ev Γ M t4 (tD K a.sd)) (h5 : Ev Γ M t5 (tD K a.kd)) (h6 : Ev Γ M t6 (tD K a.bd)) (hT : OkT a.tabs a.n) (hR : a.Rest) (hg : a.ok = .good) :
    Ev Γ M (tCallN 3 3 (sp_unsafe_paper K mg) (fun vs zs => gk_unsafe_paper_kw3_starts_kept_bound vs (List.map Prod.snd ([] : List (Str × V))) zs) E (tCons t1 (tCons t2 (tCons t3 tNil))) (tCons t4 (tCons t5 (tCons t6 tNil)))) (tD K ((paper a).getD .none)) := by
  rw [← upT hg]
  exact ev_callN a (ea_cons h1 (ea_cons h2 (ea_cons h3 ea_nil))) (ea_cons h4 (ea_cons h5 (ea_cons h6 ea_nil))) rfl rfl (fun G vs zs k1 k2 => by
    cases k1 with | cons a1 k1 => cases k1 with | cons a2 k1 => cases k1 with | cons a3 k1 =>
    cases k1
    cases k2 with | cons b1 k2 => cases k2 with | cons b2 k2 => cases k2 with | cons b3 k2 =>
    cases k2
    exact .cons a1 (.cons a2 (.cons a3 (.cons b1 (.cons b2 (.cons b3 .nil)))))) ⟨hT, hR⟩ sub_nil (upX hg)
theorem rs_unsafe_paper_k (a : UpA) (h1 : Ev Γ M t1 (tMa K mg a.tabs a.n)) (h2 : Ev Γ M t2 (tZ K a.k (nL a.log))) (h3 : Ev Γ M t3 (tD K a.md)) (h4 : Ev Γ M t4 (tD K a.sd)) (h5 : Ev Γ M t5 (tD K a.kd)) (h6 : Ev Γ M t6 (tD K a.bd)) (hT : OkT a.tabs a.n) (hR : a.Rest) (hg : a.ok ≠ .good)
    (hX : ∀ cls od G H, Same G0 G → Wd G M H → a.X K mg G cls od → E cls od H) :
    Rs G0 Γ M (tCallN 3 3 (sp_unsafe_paper K mg) (fun vs zs => gk_unsafe_paper_kw3_starts_kept_bound vs (List.map Prod.snd ([] : List (Str × V))) zs) E (tCons t1 (tCons t2 (tCons t3 tNil))) (tCons t4 (tCons t5 (tCons t6 tNil)))) :=
  rs_callN a (ea_cons h1 (ea_cons h2 (ea_cons h3 ea_nil))) (ea_cons h4 (ea_cons h5 (ea_cons h6 ea_nil))) rfl rfl (fun G vs zs k1 k2 => by
    cases k1 with | cons a1 k1 => cases k1 with | cons a2 k1 => cases k1 with | cons a3 k1 =>
    cases k1
    cases k2 with | cons b1 k2 => cases k2 with | cons b2 k2 => cases k2 with | cons b3 k2 =>
    cases k2
    exact .cons a1 (.cons a2 (.cons a3 (.cons b1 (.cons b2 (.cons b3 .nil)))))) ⟨hT, hR⟩ sub_nil (upT' hg) hX
end
theorem fn_is_safe_marking (T : Prg P K mg) {f : Addr} {fd : FuncData} {kws : List (Str × V)} (F : FunD K "is_safe_marking" "is_safe_marking" (defArgs s_is_safe_marking) (defBody s_is_safe_marking) (defScope s_is_safe_marking) [] kws f fd) : FnOk P w K mg base (L2.CX P w) 13 f fd ["machine", "log", "marking", "starts", "kept", "bound"] (sp_is_safe_marking K mg) := by
  refine fnD_ok F sc_is_safe_marking (fun _ => rfl) ?_
  intro cdv B outer s H Q E hr
  have hu := hu_of hr
  have hu64 := hu64_of hr
  refine ⟨_, (pss_one (ps_ret (pe_cmpR op_isN (pcallKG (okk_unsafe_paper_kw3_starts_kept_bound T) hr (passes_call (takes_of rfl rfl rfl rfl) (fun _ _ _ _ h => h)) (pa_cons (pv 0) (pa_cons (pv 1) (pa_cons (pv 2) pa_nil))) (pk_cons (pv 3) (pk_cons (pv 4) (pk_cons (pv 5) pk_nil)))) pe_non (nomark _)))), ?_⟩
  intro a G M hp hc hret hexc
  have hT : OkT a.tabs a.n := hp.1
  have hR : a.Rest := hp.2
  by_cases hg : a.ok = .good
  · have h := ev_unsafe_paper_k (K := K) (mg := mg) (E := E) (Γ := g0 N_is_safe_marking (upArgs K mg a)) (M := M) a (ev_var (i := 0) rfl) (ev_var (i := 1) rfl) (ev_var (i := 2) rfl) (ev_var (i := 3) rfl) (ev_var (i := 4) rfl) (ev_var (i := 5) rfl) hT hR hg
    refine go_ret (ev_to (ev_isN h) ?_) (hret.to fun G v h => (upT (K := K) hg).symm ▸ h)
    cases e : paper a with
    | none => rfl
    | some p =>
      obtain ⟨_, _, _, _, _, _, _, ep⟩ := paper_spec e
      rw [ep]
      rfl
  · exact go_rs_ret (rs_opL (rs_unsafe_paper_k a (ev_var (i := 0) rfl) (ev_var (i := 1) rfl) (ev_var (i := 2) rfl) (ev_var (i := 3) rfl) (ev_var (i := 4) rfl) (ev_var (i := 5) rfl) hT hR hg fun cls od G' H' e' w' z => hexc _ _ _ _ e' w' z))
end
end Ag
set_option Elab.async false
set_option linter.all false
set_option maxRecDepth 100000
set_option maxHeartbeats 2000000
/-! Ag12: unsafe_holds. -/
namespace Ag
open PySem PySem.Spec PyProof.Rows L2
def nat : PyData → Nat
  | .int i => i.toNat
  | _ => 0
theorem num_nat {d : PyData} (h : isNumber d = true) : d = nI (nat d) := by
  cases d with
  | int i =>
    have h' : 0 ≤ i := of_decide_eq_true h
    show PyData.int i = .int ((i.toNat : Nat) : Int)
    rw [Int.toNat_of_nonneg h']
  | _ => cases h
theorem below_nat' {n : Nat} {d : PyData} (h : isBelow n d = true) : d = nI (nat d) ∧ nat d < n := by
  cases d with
  | int i =>
    have h' : (decide (0 ≤ i) && decide (i < n)) = true := h
    rw [Bool.and_eq_true, decide_eq_true_eq, decide_eq_true_eq] at h'
    refine ⟨?_, ?_⟩
    · show PyData.int i = .int ((i.toNat : Nat) : Int)
      rw [Int.toNat_of_nonneg h'.1]
    · show i.toNat < n
      omega
  | _ => cases h
def winOf (a : UpA) : List Nat := a.kl.filter fun age => inWin age a.log.length a.b
def inNums (l : List Nat) (d : PyData) : Bool := isNumber d && decide (nat d ∈ l)
/-- what unsafe_holds tells -/
def holdsF (a : UpA) (v : PyData) : Bool :=
  if isSeq v && (decide ((items v).length = 6) && (isStr (dAt (items v) 0) && PyData.eqv (dAt (items v) 0) (.str "unsafe"))) then
    if [dAt (items v) 1, dAt (items v) 4, dAt (items v) 5].all (isBelow a.n) then
      if [dAt (items v) 2, dAt (items v) 3].all (inNums (winOf a)) && decide (nat (dAt (items v) 2) < nat (dAt (items v) 3)) then
        if decide (nat (dAt (items v) 4) ∈ a.sl) && (decide (nat (dAt (items v) 5) ∈ a.sl) && decide (mkI a.md (nat (dAt (items v) 2)) (nat (dAt (items v) 1)) = mkI a.md (nat (dAt (items v) 3)) (nat (dAt (items v) 1)))) then
          if decide (run a.tabs (a.log.take (nat (dAt (items v) 2))) (nat (dAt (items v) 4)) = nat (dAt (items v) 1)) && decide (run a.tabs (a.log.take (nat (dAt (items v) 3))) (nat (dAt (items v) 5)) = nat (dAt (items v) 1)) then
            !decide (run a.tabs (a.log.take (nat (dAt (items v) 3))) (nat (dAt (items v) 4)) = nat (dAt (items v) 1))
          else false
        else false
      else false
    else false
  else false
abbrev uhArgs (K : FR) (mg : MG) (a : UpA × PyData) : List Ty := [tMa K mg a.1.tabs a.1.n, tZ K a.1.k (nL a.1.log), tD K a.1.md, tD K a.2, tD K a.1.sd, tD K a.1.kd, tD K a.1.bd]
abbrev sp_unsafe_holds (K : FR) (mg : MG) : Sp := PrX (fun a : UpA × PyData => OkT a.1.tabs a.1.n ∧ a.1.Rest ∧ (items a.2).length ≤ 1000 ∧ SeqAt.shaped (dAt (items a.2) 0) = true) (fun _ => []) (uhArgs K mg) (fun a => a.1.T K (.bool (holdsF a.1 a.2))) (fun a => a.1.X K mg)
section
variable {K : FR} {mg : MG} {Γ Γ' : Gam} {M : Mem} {ta tb tc to te : TE} {tA : TA} {E : XK} {d : PyData} {G0 : Hp} {D : Ends} {g : TG} {T : Ty} {vs : List Nat}
theorem go_asgT (h : Ev Γ M te T) (ht : Tg g T Γ Γ' vs) (k : Nx D G0 Γ' M) : Go Γ M (tAsg te g) D G0 := fun G σ H e s w =>
  h G σ H s w _ fun v G1 H1 e1 w1 t => ht G1 σ M H1 v (s.mono e1) w1 t _ fun σ' s' _ _ => k G1 σ' H1 (e.trans e1) s' w1
theorem tg_unq5 {j1 j2 j3 j4 j5 : Nat} {d1 d2 d3 d4 d5 : PyData} : Tg (gUnq K 5 (gCons (gName j1) (gCons (gName j2) (gCons (gName j3) (gCons (gName j4) (gCons (gName j5) gNil)))))) (tQ K [d1, d2, d3, d4, d5]) Γ (((((Γ.set j1 (some (tD K d1))).set j2 (some (tD K d2))).set j3 (some (tD K d3))).set j4 (some (tD K d4))).set j5 (some (tD K d5))) [j1, j2, j3, j4, j5] := fun G σ M H x s w t Q q => by
  obtain ⟨a, xs, rfl, hs, hd⟩ := tQ_at t
  cases hd with | @cons v1 vs1 _ _ h1 hd => cases hd with | @cons v2 vs2 _ _ h2 hd => cases hd with | @cons v3 vs3 _ _ h3 hd => cases hd with | @cons v4 vs4 _ _ h4 hd => cases hd with | @cons v5 vs5 _ _ h5 hd =>
  cases hd
  have fin : gCons (gName j1) (gCons (gName j2) (gCons (gName j3) (gCons (gName j4) (gCons (gName j5) gNil)))) [v1, v2, v3, v4, v5] σ H Q := by
    refine ⟨v1, _, rfl, v2, _, rfl, v3, _, rfl, v4, _, rfl, v5, [], rfl, rfl, ?_⟩
    refine q _ (((((s.set j1 (T := tD K d1) h1).set j2 (T := tD K d2) h2).set j3 (T := tD K d3) h3).set j4 (T := tD K d4) h4).set j5 (T := tD K d5) h5) (by simp) fun i hi => ?_
    simp only [List.mem_cons, not_or] at hi
    rw [List.getElem?_set_ne (Ne.symm hi.2.2.2.2.1), List.getElem?_set_ne (Ne.symm hi.2.2.2.1), List.getElem?_set_ne (Ne.symm hi.2.2.1), List.getElem?_set_ne (Ne.symm hi.2.1), List.getElem?_set_ne (Ne.symm hi.1)]
  rcases hs with hs | hs
  · exact .inr ⟨a, _, rfl, SqL.mono w.le hs, rfl, fin⟩
  · exact .inl ⟨a, _, rfl, SqT.mono w.le hs, rfl, fin⟩
theorem six {ds : List PyData} (h : ds.length = 6) : ds.drop 1 = [dAt ds 1, dAt ds 2, dAt ds 3, dAt ds 4, dAt ds 5] := by
  match ds, h with
  | [a, b, c, d, e, f], _ => rfl
end
section
variable {P : Program} {w : World} {K : PySem.W.Frag} {mg : Str → Option Value} {base : Heap}
theorem fn_unsafe_holds (T : Prg P K mg) {f : Addr} {fd : FuncData} {kws : List (Str × V)} (F : FunD K "unsafe_holds" "unsafe_holds" (defArgs s_unsafe_holds) (defBody s_unsafe_holds) (defScope s_unsafe_holds) [] kws f fd) : FnOk P w K mg base (L2.CX P w) 10 f fd ["machine", "log", "marking", "value", "starts", "kept", "bound"] (sp_unsafe_holds K mg) := by
  refine fnD_ok F sc_unsafe_holds (fun _ => rfl) ?_
  intro cdv B outer s H Q E hr
  have hu := hu_of hr
  have hu64 := hu64_of hr
  refine ⟨_, (pss_cons (ps_set (i := 7) sc_unsafe_holds.nd rfl (Or.inr rfl) (pcallG (ok_check_log T) hr (passes_call (takes_of rfl rfl rfl rfl) (fun _ _ _ _ h => h)) (pa_cons (pv 0) (pa_cons (pv 1) pa_nil))))
      (pss_cons (ps_expr (pcallG (ok_check_marking T) hr (passes_call (takes_of rfl rfl rfl rfl) (fun _ _ _ _ h => h)) (pa_cons (pv 0) (pa_cons (pv 2) (pa_cons (pe_callB (lenK K) rfl T.n_len (by decide +kernel) (pa_cons (pv 7) pa_nil)) pa_nil)))))
      (pss_cons (ps_set (i := 8) sc_unsafe_holds.nd rfl (Or.inl rfl) (pcallG (ok_check_starts T) hr passL (pa_cons (pv 0) (pa_cons (pv 4) pa_nil))))
      (pss_cons (ps_set (i := 9) sc_unsafe_holds.nd rfl (Or.inr rfl) (pcallG (ok_check_kept T) hr (passes_call (takes_of rfl rfl rfl rfl) (fun _ _ _ _ h => h)) (pa_cons (pv 5) (pa_cons (pe_callB (lenK K) rfl T.n_len (by decide +kernel) (pa_cons (pv 7) pa_nil)) pa_nil))))
      (pss_cons (ps_expr (pcallG (ok_check_bound T) hr (passes_call (takes_of rfl rfl rfl rfl) (fun _ _ _ _ h => h)) (pa_cons (pv 6) pa_nil)))
      (pss_cons (ps_set (i := 9) sc_unsafe_holds.nd rfl (Or.inr rfl) (pe_lc rfl sc_unsafe_holds.nd (seqK K (pv 9)) (blkOk_by (own := [("age", 10)]) (N := N_unsafe_holds) (sc := defScope s_unsafe_holds) (by decide +kernel)) (fun _ _ _ _ _ => (pg_name (i := 10) sc_unsafe_holds.nd rfl (Or.inl rfl))) (fun _ _ _ _ _ => (pts_one (pt_val (pcallG (ok_in_window T) hr passL (pa_cons (pv 10) (pa_cons (pe_callB (lenK K) rfl T.n_len (by decide +kernel) (pa_cons (pv 7) pa_nil)) (pa_cons (pv 6) pa_nil))))))) (fun _ _ _ _ _ => (pv 10))))
      (pss_cons (ps_if (PW.pt (pw_or (pt_not (pt_val (pcallG (ok_is_sequence T) hr passL (pa_cons (pv 3) pa_nil)))) (pw_or (pt_cmpR (neK K hu64) (pe_callB (lenK K) rfl T.n_len (by decide +kernel) (pa_cons (pv 3) pa_nil)) pe_int (nomark _)) (pw_or (pt_not (pt_val (pcallG (ok_is_text T) hr passL (pa_cons (ixK K (pv 3) pe_int) pa_nil)))) (pw_or1 (pt_cmpR (neK K hu64) (ixK K (pv 3) pe_int) pe_str (nomark _))))))) (pss_one (ps_ret pe_bl)) pss_nil)
      (pss_cons (ps_asg (slK K (pv 3) (po_some pe_int) po_none) (unqG K 5 (pgs_cons (pg_name (i := 11) sc_unsafe_holds.nd rfl (Or.inl rfl)) (pgs_cons (pg_name (i := 12) sc_unsafe_holds.nd rfl (Or.inl rfl)) (pgs_cons (pg_name (i := 13) sc_unsafe_holds.nd rfl (Or.inl rfl)) (pgs_cons (pg_name (i := 14) sc_unsafe_holds.nd rfl (Or.inl rfl)) (pgs_cons (pg_name (i := 15) sc_unsafe_holds.nd rfl (Or.inl rfl)) pgs_nil)))))))
      (pss_cons (ps_if (pt_not (pt_val (pe_callB (allK K) rfl T.n_all (by decide +kernel) (pa_cons (pe_lc rfl sc_unsafe_holds.nd (seqK K (pe_tup (pa_cons (pv 11) (pa_cons (pv 14) (pa_cons (pv 15) pa_nil))))) (blkOk_by (own := [("part", 16)]) (N := N_unsafe_holds) (sc := defScope s_unsafe_holds) (by decide +kernel)) (fun _ _ _ _ _ => (pg_name (i := 16) sc_unsafe_holds.nd rfl (Or.inl rfl))) (fun _ _ _ _ _ => pts_nil) (fun _ _ _ _ _ => (pcallG (ok_is_below T) hr passL (pa_cons (pv 16) (pa_cons (fldK K (pv 0)) pa_nil))))) pa_nil)))) (pss_one (ps_ret pe_bl)) pss_nil)
      (pss_cons (ps_if (PW.pt (pw_or (pt_not (pt_val (pe_callB (allK K) rfl T.n_all (by decide +kernel) (pa_cons (pe_lc rfl sc_unsafe_holds.nd (seqK K (pe_tup (pa_cons (pv 12) (pa_cons (pv 13) pa_nil)))) (blkOk_by (own := [("age", 10)]) (N := N_unsafe_holds) (sc := defScope s_unsafe_holds) (by decide +kernel)) (fun _ _ _ _ _ => (pg_name (i := 10) sc_unsafe_holds.nd rfl (Or.inl rfl))) (fun _ _ _ _ _ => pts_nil) (fun _ _ _ _ _ => (pe_and (pcallG (ok_is_number T) hr passL (pa_cons (pv 10) pa_nil)) (pe_one (pe_cmpR (inK K) (pv 10) (pv 9) (by rfl)))))) pa_nil)))) (pw_or1 (pt_cmpR op_ge (pv 12) (pv 13) (nomark _))))) (pss_one (ps_ret pe_bl)) pss_nil)
      (pss_cons (ps_if (PW.pt (pw_or (pt_cmpR (notInK K) (pv 14) (pv 8) (by rfl)) (pw_or (pt_cmpR (notInK K) (pv 15) (pv 8) (by rfl)) (pw_or1 (pt_cmpR (neK K hu64) (ixK K (ixK K (pv 2) (pv 12)) (pv 11)) (ixK K (ixK K (pv 2) (pv 13)) (pv 11)) (nomark _)))))) (pss_one (ps_ret pe_bl)) pss_nil)
      (pss_cons (ps_set (i := 17) sc_unsafe_holds.nd rfl (Or.inl rfl) (pcallG (ok_start_rows T) hr passL (pa_cons (pv 0) (pa_cons (pv 7) pa_nil))))
      (pss_cons (ps_if (PW.pt (pw_or (pt_cmpR (neK K hu64) (ixK K (ixK K (pv 17) (pv 12)) (pv 14)) (pv 11) (nomark _)) (pw_or1 (pt_cmpR (neK K hu64) (ixK K (ixK K (pv 17) (pv 13)) (pv 15)) (pv 11) (nomark _))))) (pss_one (ps_ret pe_bl)) pss_nil)
      (pss_one (ps_ret (pe_cmpR (neK K hu64) (ixK K (ixK K (pv 17) (pv 13)) (pv 14)) (pv 11) (nomark _))))))))))))))))), ?_⟩
  intro a G M hp hc hret hexc
  obtain ⟨⟨tabs, n, k, log, md, sd, sl, kd, kl, bd, b, ok⟩, v⟩ := a
  obtain ⟨hT, hR, hv, hsh⟩ := hp
  have hT' : OkT tabs n := hT
  have hv' : (items v).length ≤ 1000 := hv
  obtain ⟨a, hae⟩ : ∃ a : UpA, a = ⟨tabs, n, k, log, md, sd, sl, kd, kl, bd, b, ok⟩ := ⟨_, rfl⟩
  have hΓ : g0 N_unsafe_holds (uhArgs K mg (⟨tabs, n, k, log, md, sd, sl, kd, kl, bd, b, ok⟩, v)) = [some (tMa K mg tabs n), some (tZ K k (nL log)), some (tD K md), some (tD K v), some (tD K sd), some (tD K kd), some (tD K bd), none, none, none, none, none, none, none, none, none, none, none] := rfl
  rw [hΓ]
  have hm : ∀ {Γ : Gam} {M : Mem}, Γ[0]? = some (some (tMa K mg tabs n)) → Ev Γ M (tFld K (tVar 0) "states") (tN K n) := fun h => ev_states T (ev_var h)
  cases ok with
  | badLog =>
    have hR' : ∃ x, log = [x] ∧ tabs.length ≤ x := hR
    obtain ⟨x, h1, h2⟩ := hR'
    exact go_seq (go_rs_asg (rs_check_log (k := k) (log := log) (ev_var rfl) (ev_var rfl) hT' h1 h2 hexc))
  | badMark =>
    have hR' : OkL tabs log ∧ Szd md ∧ okMk n log.length md = false := hR
    obtain ⟨hL, hz, hk⟩ := hR'
    refine go_set (ev_check_log (k := k) (log := log) (ev_var rfl) (ev_var rfl) hT' hL) ?_
    exact go_seq (go_rs_drop (rs_check_marking (ev_var rfl) (ev_var rfl) (ev_lenN (ev_tQ (ev_var rfl))) hL.1 hz hk hexc))
  | badK =>
    have hR' : OkL tabs log ∧ Szd md ∧ okMk n log.length md = true ∧ GoodSt n sd sl ∧ kd = .tuple (nL [0, 0]) := hR
    obtain ⟨hL, hz, hk, hst, hkd⟩ := hR'
    subst hkd
    refine go_set (ev_check_log (k := k) (log := log) (ev_var rfl) (ev_var rfl) hT' hL) ?_
    refine go_seq (go_drop (ev_check_marking (ev_var rfl) (ev_var rfl) (ev_lenN (ev_tQ (ev_var rfl))) hL.1 hz hk) (go_nx ?_))
    refine go_set (ev_check_starts (n := n) (tabs := tabs) (d := sd) (l := sl) (ev_var rfl) (ev_var rfl) hT' hst) ?_
    exact go_seq (go_rs_asg (rs_check_kept (len := log.length) (ev_var rfl) (ev_lenN (ev_tQ (ev_var rfl))) hL.1 hexc))
  | badB =>
    have hR' : OkL tabs log ∧ Szd md ∧ okMk n log.length md = true ∧ GoodSt n sd sl ∧ GoodKp log.length kd kl ∧ bd = nI 0 := hR
    obtain ⟨hL, hz, hk, hst, hkp, hbd⟩ := hR'
    subst hbd
    refine go_set (ev_check_log (k := k) (log := log) (ev_var rfl) (ev_var rfl) hT' hL) ?_
    refine go_seq (go_drop (ev_check_marking (ev_var rfl) (ev_var rfl) (ev_lenN (ev_tQ (ev_var rfl))) hL.1 hz hk) (go_nx ?_))
    refine go_set (ev_check_starts (n := n) (tabs := tabs) (d := sd) (l := sl) (ev_var rfl) (ev_var rfl) hT' hst) ?_
    refine go_set (ev_check_kept (len := log.length) (l := kl) (ev_var rfl) (ev_lenN (ev_tQ (ev_var rfl))) hL.1 hkp) ?_
    exact go_seq (go_rs_drop (rs_check_bound (ev_var rfl) hexc))
  | good =>
    have hR' : OkL tabs log ∧ Szd md ∧ okMk n log.length md = true ∧ GoodSt n sd sl ∧ GoodKp log.length kd kl ∧ GoodBd b ∧ bd = bdD b := hR
    obtain ⟨hL, hz, hk, hst, hkp, hgb, hbd⟩ := hR'
    subst hbd
    have hret' : Rt (Dn Q) G M (tB K (holdsF a v)) := by rw [hae]; exact hret
    have ea : a.tabs = tabs ∧ a.n = n ∧ a.log = log ∧ a.md = md ∧ a.sl = sl ∧ a.kl = kl ∧ a.b = b := by rw [hae]; exact ⟨rfl, rfl, rfl, rfl, rfl, rfl, rfl⟩
    obtain ⟨wl, hwl⟩ : ∃ wl, wl = kl.filter fun age => inWin age log.length b := ⟨_, rfl⟩
    have hwin : winOf a = wl := by rw [hwl, hae]; rfl
    have hwlt : ∀ x ∈ wl, x < log.length + 1 := fun x hx => GoodKp.lt hkp x (by rw [hwl] at hx; exact (List.mem_filter.mp hx).1)
    have hkl := GoodKp.len hkp hL.1
    refine go_set (ev_check_log (k := k) (log := log) (ev_var rfl) (ev_var rfl) hT' hL) ?_
    refine go_seq (go_drop (ev_check_marking (ev_var rfl) (ev_var rfl) (ev_lenN (ev_tQ (ev_var rfl))) hL.1 hz hk) (go_nx ?_))
    refine go_set (ev_check_starts (n := n) (tabs := tabs) (d := sd) (l := sl) (ev_var rfl) (ev_var rfl) hT' hst) ?_
    refine go_set (ev_check_kept (len := log.length) (l := kl) (ev_var rfl) (ev_lenN (ev_tQ (ev_var rfl))) hL.1 hkp) ?_
    refine go_seq (go_drop (ev_check_bound (b := b) (ev_var rfl) hgb) (go_nx ?_))
    refine go_set (T := tL K (nL wl)) (by
      rw [hwl]
      exact ev_lcN (l := kl) (fun age => inWin age log.length b) nI (ev_tQ (ev_var rfl)) (by omega) (fun age hage M' hM => et_b (ev_in_window (ev_var rfl) (ev_lenN (ev_tQ (ev_var (i := 7) rfl))) (ev_var rfl)) rfl) fun age hage _ M' hM => ev_var rfl) ?_
    have retF : holdsF a v = false → ∀ {Γ : Gam} {D : Ends} {G1 : Hp}, D.rt = Q → Same G G1 → Go Γ M (tRet (tC (.bl false))) D G1 := fun h Γ D G1 hD e => go_ret ev_bl fun v' G' H' e' w' t => by
      rw [hD]
      rw [h] at hret'
      exact hret' v' G' H' (e.trans e') w' t
    cases hs : isSeq v with
    | false =>
      have hF : holdsF a v = false := by unfold holdsF; rw [hs]; rfl
      exact go_ifs (et_or (a := true) (b := true) (et_n (et_b (ev_is_sequence (d := v) (ev_var rfl) hs) rfl) rfl) fun z => nomatch z) (fun _ => retF hF rfl (Same.refl _)) fun z => nomatch z
    | true =>
    rcases (Decidable.em ((items v).length = 6)).symm with hl | hl
    · have hF : holdsF a v = false := by unfold holdsF; rw [hs, decide_eq_false hl]; rfl
      refine go_ifs (et_or (a := false) (b := true) (et_n (et_b (ev_is_sequence (d := v) (ev_var rfl) hs) rfl) rfl) fun _ => et_or (a := true) (b := true) (et_t (ev_neN (a := (items v).length) (b := 6) (ev_len (ev_sQ hs (ev_var rfl))) ev_int) ?_) fun z => nomatch z) (fun _ => retF hF rfl (Same.refl _)) fun z => nomatch z
      rw [decide_eq_false hl]; rfl
    have h0 : ∀ {Γ : Gam} {M : Mem}, Γ[3]? = some (some (tD K v)) → Ev Γ M (tOp (rIx K) (tVar 3) (tC (.int 0))) (tD K (dAt (items v) 0)) := fun h => ev_ixD (a := 0) (ev_sQ hs (ev_var h)) (ev_nat 0) (by omega)
    have hl6 : ∀ {Γ : Gam} {M : Mem}, Γ[3]? = some (some (tD K v)) → EvT Γ M (tTest (tOp (rNeD K) (tCB (rLenQ K) (tCons (tVar 3) tNil)) (tC (.int 6)))) (· = false) := fun h => et_t (ev_neN (a := (items v).length) (b := 6) (ev_len (ev_sQ hs (ev_var h))) ev_int) (by rw [decide_eq_true hl]; rfl)
    cases ht : isStr (dAt (items v) 0) with
    | false =>
      have hF : holdsF a v = false := by unfold holdsF; rw [hs, decide_eq_true hl, ht]; rfl
      exact go_ifs (et_or (a := false) (b := true) (et_n (et_b (ev_is_sequence (d := v) (ev_var rfl) hs) rfl) rfl) fun _ => et_or (a := false) (b := true) (hl6 rfl) fun _ => et_or (a := true) (b := true) (et_n (et_b (ev_is_text (h0 rfl) ht) rfl) rfl) fun z => nomatch z) (fun _ => retF hF rfl (Same.refl _)) fun z => nomatch z
    | true =>
    cases he : PyData.eqv (dAt (items v) 0) (.str "unsafe") with
    | false =>
      have hF : holdsF a v = false := by unfold holdsF; rw [hs, decide_eq_true hl, ht, he]; rfl
      exact go_ifs (et_or (a := false) (b := true) (et_n (et_b (ev_is_sequence (d := v) (ev_var rfl) hs) rfl) rfl) fun _ => et_or (a := false) (b := true) (hl6 rfl) fun _ => et_or (a := false) (b := true) (et_n (et_b (ev_is_text (h0 rfl) ht) rfl) rfl) fun _ => et_t (ev_ne (h0 rfl) ev_str hsh (by decide +kernel)) (by rw [he]; rfl)) (fun _ => retF hF rfl (Same.refl _)) fun z => nomatch z
    | true =>
    refine go_ifs (et_or (a := false) (b := false) (et_n (et_b (ev_is_sequence (d := v) (ev_var rfl) hs) rfl) rfl) fun _ => et_or (a := false) (b := false) (hl6 rfl) fun _ => et_or (a := false) (b := false) (et_n (et_b (ev_is_text (h0 rfl) ht) rfl) rfl) fun _ => et_t (ev_ne (h0 rfl) ev_str hsh (by decide +kernel)) (by rw [he]; rfl)) (fun z => nomatch z) fun _ => ?_
    obtain ⟨d1, hd1⟩ : ∃ d, d = dAt (items v) 1 := ⟨_, rfl⟩
    obtain ⟨d2, hd2⟩ : ∃ d, d = dAt (items v) 2 := ⟨_, rfl⟩
    obtain ⟨d3, hd3⟩ : ∃ d, d = dAt (items v) 3 := ⟨_, rfl⟩
    obtain ⟨d4, hd4⟩ : ∃ d, d = dAt (items v) 4 := ⟨_, rfl⟩
    obtain ⟨d5, hd5⟩ : ∃ d, d = dAt (items v) 5 := ⟨_, rfl⟩
    have hF : holdsF a v = (if [d1, d4, d5].all (isBelow n) then
      if [d2, d3].all (inNums wl) && decide (nat d2 < nat d3) then
        if decide (nat d4 ∈ sl) && (decide (nat d5 ∈ sl) && decide (mkI md (nat d2) (nat d1) = mkI md (nat d3) (nat d1))) then
          if decide (run tabs (log.take (nat d2)) (nat d4) = nat d1) && decide (run tabs (log.take (nat d3)) (nat d5) = nat d1) then
            !decide (run tabs (log.take (nat d3)) (nat d4) = nat d1)
          else false
        else false
      else false
    else false) := by
      unfold holdsF
      rw [hs, decide_eq_true hl, ht, he, hwin, hd1, hd2, hd3, hd4, hd5, ea.1, ea.2.1, ea.2.2.1, ea.2.2.2.1, ea.2.2.2.2.1]
      rfl
    have hsl : Ev [some (tMa K mg tabs n), some (tZ K k (nL log)), some (tD K md), some (tD K v), some (tD K sd), some (tD K kd), some (tD K (bdD b)), some (tD K (.tuple (nL log))), some (tD K (.tuple (nL sl))), some (tL K (nL wl)), none, none, none, none, none, none, none, none] M (tSl (rSlQ K) (tVar 3) (tPart (tC (.int 1))) tNoPart) (tQ K [d1, d2, d3, d4, d5]) := by
      have r := ev_slQ (K := K) (ds := items v) (lo := some ((1 : Nat) : Int)) (hi := none) (te := tVar 3) (tl := tPart (tC (.int 1))) (th := tNoPart) (Γ := [some (tMa K mg tabs n), some (tZ K k (nL log)), some (tD K md), some (tD K v), some (tD K sd), some (tD K kd), some (tD K (bdD b)), some (tD K (.tuple (nL log))), some (tD K (.tuple (nL sl))), some (tL K (nL wl)), none, none, none, none, none, none, none, none]) (M := M) (ev_sQ hs (ev_var rfl)) (eo_some (K := K) ev_int) eo_none
      rw [cut_from, six hl, ← hd1, ← hd2, ← hd3, ← hd4, ← hd5] at r
      exact r
    refine go_seq (go_asgT hsl tg_unq5 (go_nx ?_))
    have hall1 : ∀ c, [d1, d4, d5].all (isBelow n) = c → EvT [some (tMa K mg tabs n), some (tZ K k (nL log)), some (tD K md), some (tD K v), some (tD K sd), some (tD K kd), some (tD K (bdD b)), some (tD K (.tuple (nL log))), some (tD K (.tuple (nL sl))), some (tL K (nL wl)), none, some (tD K d1), some (tD K d2), some (tD K d3), some (tD K d4), some (tD K d5), none, none] M _ (· = c) := fun c hc => et_b (ev_allS (j := 16) (isBelow n) (ev_tQ (ev_tup (ds := [d1, d4, d5]) (ea_cons (ev_var (i := 11) rfl) (ea_cons (ev_var (i := 14) rfl) (ea_cons (ev_var (i := 15) rfl) ea_nil))) (by exact (by decide : 3 ≤ 1000000)))) (by exact (by decide : 3 ≤ 1000000)) fun d hd M' hM => ev_is_below (mg := mg) (E := E0) (n := n) (ev_var (i := 16) rfl) (hm rfl)) hc
    cases hc1 : [d1, d4, d5].all (isBelow n) with
    | false =>
      exact go_ifs (et_n (a := true) (hall1 false hc1) rfl) (fun _ => retF (by rw [hF, hc1]; rfl) rfl (Same.refl _)) fun z => nomatch z
    | true =>
    refine go_ifs (et_n (a := false) (hall1 true hc1) rfl) (fun z => nomatch z) fun _ => ?_
    rw [hc1, if_pos rfl] at hF
    rw [List.all_eq_true] at hc1
    obtain ⟨e1, l1⟩ := below_nat' (hc1 d1 (by simp))
    obtain ⟨e4, l4⟩ := below_nat' (hc1 d4 (by simp))
    obtain ⟨e5, l5⟩ := below_nat' (hc1 d5 (by simp))
    have hall2 : ∀ c, [d2, d3].all (inNums wl) = c → EvT [some (tMa K mg tabs n), some (tZ K k (nL log)), some (tD K md), some (tD K v), some (tD K sd), some (tD K kd), some (tD K (bdD b)), some (tD K (.tuple (nL log))), some (tD K (.tuple (nL sl))), some (tL K (nL wl)), none, some (tD K d1), some (tD K d2), some (tD K d3), some (tD K d4), some (tD K d5), none, none] M _ (· = c) := fun c hc => et_b (ev_allS (j := 10) (inNums wl) (ev_tQ (ev_tup (ds := [d2, d3]) (ea_cons (ev_var (i := 12) rfl) (ea_cons (ev_var (i := 13) rfl) ea_nil)) (by exact (by decide : 2 ≤ 1000000)))) (by exact (by decide : 2 ≤ 1000000)) fun d hd M' hM => ev_andV (a := isNumber d) (b := decide (nat d ∈ wl)) (ev_is_number (mg := mg) (E := E0) (ev_var (i := 10) rfl)) fun hn => ev_inN (a := nat d) (ev_to (ev_var (i := 10) rfl) (num_nat hn)) (ev_LQ (ev_var (i := 9) rfl))) hc
    cases hc2 : [d2, d3].all (inNums wl) with
    | false =>
      exact go_ifs (et_or (a := true) (b := true) (et_n (a := true) (hall2 false hc2) rfl) fun z => nomatch z) (fun _ => retF (by rw [hF, hc2]; rfl) rfl (Same.refl _)) fun z => nomatch z
    | true =>
    rw [hc2, Bool.true_and] at hF
    have hc2' := hc2
    rw [List.all_eq_true] at hc2'
    have in2 := hc2' d2 (by simp)
    have in3 := hc2' d3 (by simp)
    unfold inNums at in2 in3
    rw [Bool.and_eq_true, decide_eq_true_eq] at in2 in3
    have e2 := num_nat in2.1
    have e3 := num_nat in3.1
    have l2 := hwlt _ in2.2
    have l3 := hwlt _ in3.2
    obtain ⟨s1, hs1⟩ : ∃ x, x = nat d1 := ⟨_, rfl⟩
    obtain ⟨s2, hs2⟩ : ∃ x, x = nat d2 := ⟨_, rfl⟩
    obtain ⟨s3, hs3⟩ : ∃ x, x = nat d3 := ⟨_, rfl⟩
    obtain ⟨s4, hs4⟩ : ∃ x, x = nat d4 := ⟨_, rfl⟩
    obtain ⟨s5, hs5⟩ : ∃ x, x = nat d5 := ⟨_, rfl⟩
    rw [← hs1] at e1 l1 hF
    rw [← hs2] at e2 l2 hF
    rw [← hs3] at e3 l3 hF
    rw [← hs4] at e4 l4 hF
    rw [← hs5] at e5 l5 hF
    refine go_ifs (P := (· = (false || decide (s3 ≤ s2)))) (et_or (a := false) (b := decide (s3 ≤ s2)) (et_n (hall2 true hc2) rfl) fun _ => et_t (ev_geN (ev_to (ev_var (i := 12) rfl) e2) (ev_to (ev_var (i := 13) rfl) e3)) rfl) (fun hc => ?_) fun hc => ?_
    · have h32 : s3 ≤ s2 := by rw [Bool.false_or] at hc; exact of_decide_eq_true hc.symm
      exact retF (by rw [hF, if_neg (by rw [decide_eq_true_eq]; omega)]) rfl (Same.refl _)
    have h23 : s2 < s3 := by rw [Bool.false_or] at hc; have := of_decide_eq_false hc.symm; omega
    rw [if_pos (decide_eq_true h23)] at hF
    subst e1 e2 e3 e4 e5
    refine go_ifs (P := (· = (!decide (s4 ∈ sl) || (!decide (s5 ∈ sl) || !decide (mkI md s2 s1 = mkI md s3 s1))))) (et_or (et_t (ev_notInN (ev_var (i := 14) rfl) (ev_tQ (ev_var (i := 8) rfl))) rfl) fun _ => et_or (et_t (ev_notInN (ev_var (i := 15) rfl) (ev_tQ (ev_var (i := 8) rfl))) rfl) fun _ => et_t (ev_neI (ev_mark hk (ev_var (i := 2) rfl) (ev_var (i := 12) rfl) (ev_var (i := 11) rfl) l2 l1) (ev_mark hk (ev_var (i := 2) rfl) (ev_var (i := 13) rfl) (ev_var (i := 11) rfl) l3 l1)) rfl) (fun hc => ?_) fun hc => ?_
    · refine retF ?_ rfl (Same.refl _)
      rw [hF, if_neg]
      intro z
      rw [Bool.and_eq_true, Bool.and_eq_true] at z
      rw [z.1, z.2.1, z.2.2] at hc
      cases hc
    rw [if_pos (by
      cases q1 : decide (s4 ∈ sl) <;> cases q2 : decide (s5 ∈ sl) <;> cases q3 : decide (mkI md s2 s1 = mkI md s3 s1) <;> rw [q1, q2, q3] at hc <;> first | rfl | cases hc)] at hF
    refine go_set (ev_start_rows (n := n) (tabs := tabs) (l := log) (ev_var rfl) (ev_var (i := 7) rfl) hT' hL) ?_
    have hrow : ∀ {Γ : Gam} {M : Mem} {age s : Nat} {tb tc : TE}, Γ[17]? = some (some (tD K (.list (tbD (rowsOf tabs n log))))) → age < log.length + 1 → s < n → Ev Γ M tb (tN K age) → Ev Γ M tc (tN K s) → Ev Γ M (tOp (rIx K) (tOp (rIx K) (tVar 17) tb) tc) (tN K (run tabs (log.take age) s)) := fun {Γ M age s tb tc} g1 g2 g3 g4 g5 => by
      have r := ev_ixX (ds := tbD (rowsOf tabs n log)) (d := .tuple (nL (rowOf tabs n log age))) (ev_lQ (ev_var g1)) g4 (by unfold tbD; rw [List.getElem?_map, rowsOf_at g2]; rfl)
      have r2 := ev_ixN (ev_tQ r) g5 (by rw [rowOf_len]; exact g3)
      rw [rowOf_at g3] at r2
      exact r2
    refine go_ifs (P := (· = (!decide (run tabs (log.take s2) s4 = s1) || !decide (run tabs (log.take s3) s5 = s1)))) (et_or (et_t (ev_neN (hrow rfl l2 l4 (ev_var (i := 12) rfl) (ev_var (i := 14) rfl)) (ev_var (i := 11) rfl)) rfl) fun _ => et_t (ev_neN (hrow rfl l3 l5 (ev_var (i := 13) rfl) (ev_var (i := 15) rfl)) (ev_var (i := 11) rfl)) rfl) (fun hc => ?_) fun hc => ?_
    · refine retF ?_ rfl (Same.refl _)
      rw [hF, if_neg]
      intro z
      rw [Bool.and_eq_true] at z
      rw [z.1, z.2] at hc
      cases hc
    rw [if_pos (by
      cases q1 : decide (run tabs (log.take s2) s4 = s1) <;> cases q2 : decide (run tabs (log.take s3) s5 = s1) <;> rw [q1, q2] at hc <;> first | rfl | cases hc)] at hF
    rw [hF] at hret'
    exact go_ret (ev_neN (hrow rfl l3 l4 (ev_var (i := 13) rfl) (ev_var (i := 14) rfl)) (ev_var (i := 11) rfl)) hret'
end
end Ag
set_option Elab.async false
set_option linter.all false
set_option maxRecDepth 100000
set_option maxHeartbeats 2000000
/-! Ag13a: dicts. -/
namespace Ag
open PySem PySem.Spec PyProof.Rows L2
section
variable (K : PySem.W.Frag)
/-- a dict's entries, each key once -/
inductive KV (G : Hp) : List (Key × V) → List (Nat × PyData) → Prop
  | nil : KV G [] []
  | cons {x : Nat} {v : V} {d : PyData} {kvs : List (Key × V)} {prs : List (Nat × PyData)} : Dp K G v d → KV G kvs prs → KV G ((.inl (x : Int), v) :: kvs) ((x, d) :: prs)
end
section
variable {K : PySem.W.Frag} {G G' : Hp}
theorem KV.mono (e : Same G G') : ∀ {kvs : List (Key × V)} {prs : List (Nat × PyData)}, KV K G kvs prs → KV K G' kvs prs
  | _, _, .nil => .nil
  | _, _, .cons h t => .cons (Dp.mono e h) (KV.mono e t)
theorem KV.len : ∀ {kvs : List (Key × V)} {prs : List (Nat × PyData)}, KV K G kvs prs → kvs.length = prs.length
  | _, _, .nil => rfl
  | _, _, .cons _ t => congrArg Nat.succ (KV.len t)
theorem KV.app : ∀ {kvs kvs' : List (Key × V)} {prs prs' : List (Nat × PyData)}, KV K G kvs prs → KV K G kvs' prs' → KV K G (kvs ++ kvs') (prs ++ prs')
  | _, _, _, _, .nil, s => s
  | _, _, _, _, .cons h t, s => .cons h (KV.app t s)
theorem inl_ne {x y : Nat} (h : x ≠ y) : (Sum.inl (x : Int) : Key) ≠ .inl (y : Int) := fun z => h (by
  have z' : (x : Int) = (y : Int) := Sum.inl.inj z
  omega)
theorem KV.val {y : Nat} : ∀ {kvs : List (Key × V)} {prs : List (Nat × PyData)}, KV K G kvs prs → (valV kvs (.inl (y : Int))).isSome = decide (y ∈ prs.map Prod.fst)
  | _, _, .nil => by simp [valV_nil]
  | _, _, .cons (x := x) (v := v) (kvs := kvs) h t => by
    by_cases c : x = y
    · subst c
      rw [valV_pos rfl]
      simp
    · rw [valV_neg (inl_ne c), KV.val t]
      apply decide_eq_decide.mpr
      simp [Ne.symm c]
theorem KV.fresh {y : Nat} {kvs : List (Key × V)} {prs : List (Nat × PyData)} {z : V} (h : KV K G kvs prs) (hn : y ∉ prs.map Prod.fst) : putK kvs (.inl (y : Int)) z = kvs ++ [(.inl (y : Int), z)] := by
  unfold putK
  rw [valV_any, h.val, decide_eq_false hn]
  rfl
theorem KV.at_ : ∀ {kvs : List (Key × V)} {prs : List (Nat × PyData)} {i : Nat} {p : Key × V}, KV K G kvs prs → kvs[i]? = some p → ∃ x d, prs[i]? = some (x, d) ∧ p.1 = .inl (x : Int) ∧ Dp K G p.2 d
  | _, _, _, _, .nil, h => by simp at h
  | _, _, 0, _, .cons (x := x) (d := d) h _, e => by simp at e; subst e; exact ⟨x, d, rfl, rfl, h⟩
  | _, _, i + 1, _, .cons _ t, e => by
    obtain ⟨x, d, h1, h2, h3⟩ := KV.at_ (i := i) t (by simpa using e)
    exact ⟨x, d, by simpa using h1, h2, h3⟩
end
def cDk (K : PySem.W.Frag) (prs : List (Nat × PyData)) : Ct := ⟨fun G o => ∃ kvs, o = .dK kvs ∧ KV K G kvs prs, fun e ⟨kvs, h1, h2⟩ => ⟨kvs, h1, KV.mono e h2⟩⟩
/-- a dict that is only asked -/
def tDS (ks : List Nat) : Ty := ⟨fun G v => ∃ a kvs, v = .ref a ∧ G a = some (.dK kvs) ∧ ∀ y : Nat, (valV kvs (.inl (y : Int))).isSome = decide (y ∈ ks), fun e ⟨a, kvs, h1, h2, h3⟩ => ⟨a, kvs, h1, e _ _ h2, h3⟩⟩
section
variable {K : PySem.W.Frag} {Γ Γ' : Gam} {M M' : Mem} {ta tb te tl tk tv td : TE} {tt : TT} {tA : TA} {T U R : Ty} {Ti : Nat → Ty} {G0 G1 : Hp} {D : Ends} {ts tu1 tu2 tbd : TS} {d e : PyData} {ds es : List PyData} {n i : Nat} {g : TG} {vs : List Nat} {wi : TI} {p : Addr}
theorem dc_run (kf : Nat → Nat) (vf : Nat → PyData) (hd : ∀ i j, i < j → j < n → kf i ≠ kf j) (hI : It1 Γ M wi n Ti) (hz : n ≤ 1000000) (Γt : Nat → Gam) (hT : ∀ i, i < n → Tg g (Ti i) (wipeG Γ vs) (Γt i) vs)
    (hk : ∀ i, i < n → ∀ M', Sub M M' → Ev (Γt i) M' tk (tN K (kf i))) (hv : ∀ i, i < n → ∀ M', Sub M M' → Ev (Γt i) M' tv (tD K (vf i)))
    {G : Hp} {σ : L2.St} {H : Hp} (s : Sd G σ Γ) (w : Wd G M H) {Q : VK} (q : ∀ p G' H', Same G G' → Wd G' ((p, cDk K ((List.range n).map fun i => (kf i, vf i))) :: M) H' → Q (.ref p) H') : tDc wi g tYes tk tv vs σ H Q :=
  hI G σ H s w _ fun J G1 H1 e1 w1 k D0 hD => by
    refine ⟨fun i m H' => m = n - i ∧ i ≤ n ∧ ∃ G', Same G1 G' ∧ Wd G' ((D0, cDk K ((List.range i).map fun i => (kf i, vf i))) :: M) H', ⟨n, by simp, Nat.zero_le _, G1, Same.refl _, w1.own hD ⟨[], rfl, .nil⟩⟩, ?_⟩
    rintro i m H' ⟨rfl, hi, G', e', w'⟩
    by_cases hlt : i < n
    · refine .inr ⟨k.go i G' _ H' hlt e' w', fun H2 => ∃ G', Same G1 G' ∧ Wd G' ((D0, cDk K ((List.range (i + 1)).map fun i => (kf i, vf i))) :: M) H2, fun H2 hs => ⟨n - (i + 1), by omega, rfl, hlt, hs⟩, fun x H2 y => ?_⟩
      obtain ⟨G3, e3, w3, t3⟩ := k.yld i G' _ H' x H2 hlt e' w' y
      have s3 : Sd G3 σ Γ := s.mono ((e1.trans e').trans e3)
      refine hT i hlt G3 (wipe σ vs) _ H2 x (s3.wipe vs) w3 t3 _ fun σ3 s4 hl4 h4 => ⟨wipe_same (by rw [hl4, wipe_len]) h4, ?_⟩
      refine (et_yes : EvT (Γt i) _ tYes _) G3 σ3 H2 s4 w3 _ fun b G4 H4 e4 w4 pb => ?_
      subst pb
      show tk σ3 H4 _
      refine hk i hlt _ (Sub.more (Sub.refl _)) G4 σ3 H4 (s4.mono e4) w4 _ fun y1 G5 H5 e5 w5 hy => ?_
      refine hv i hlt _ (Sub.more (Sub.refl _)) G5 σ3 H5 (s4.mono (e4.trans e5)) w5 _ fun z G6 H6 e6 w6 tz => ?_
      cases (show Dp K G5 y1 (nI (kf i)) from hy) with
      | int =>
      obtain ⟨_, o, ho, kvs, rfl, hkv⟩ := w6.at_ _ List.mem_cons_self
      have hl := KV.len hkv
      rw [List.length_map, List.length_range] at hl
      refine ⟨kvs, .inl (kf i : Int), rfl, ho, by rw [hl, sizeLine_eq]; omega, G6, (((e'.trans e3).trans e4).trans e5).trans e6, w6.change ⟨_, rfl, ?_⟩⟩
      rw [hkv.fresh (fun hm => by
        rw [List.map_map] at hm
        obtain ⟨j, hj, ej⟩ := List.mem_map.mp hm
        exact hd j i (List.mem_range.mp hj) hlt ej), List.range_succ, List.map_append]
      exact hkv.app (.cons tz .nil)
    · have ei : i = n := by omega
      subst ei
      exact .inl ⟨k.stop G' _ H' e' w', q _ _ _ (e1.trans e') w'⟩
/-- {k: True for k in seq}, asked from now on -/
theorem ev_dcS {l : List Nat} {j : Nat} {d : PyData} (hd : ∀ i j, i < j → j < l.length → gt l i ≠ gt l j) (h : Ev Γ M tl (tQ K (nL l))) (hz : l.length ≤ 1000000) (hj : j < Γ.length) (hv : ∀ k ∈ l, ∀ M', Sub M M' → Ev ((wipeG Γ [j]).set j (some (tN K k))) M' tv (tD K d)) : Ev Γ M (tDc (iSeq K tl) (gName j) tYes (tVar j) tv [j]) (tDS l) := fun G σ H s w Q q => by
  have hI := it_seq h
  rw [nL_len] at hI
  refine dc_run (K := K) (fun i => gt l i) (fun _ => d) hd hI hz (fun i => (wipeG Γ [j]).set j (some (tN K (gt l i)))) (fun i hi => by rw [dAt_nL hi]; exact tg_name) (fun i hi M' hM => ev_var ?_) (fun i hi M' hM => hv _ (List.mem_iff_getElem?.mpr ⟨i, gt_lt hi⟩) M' hM) s w fun p G' H' e' w' => ?_
  · rw [List.getElem?_set_self (by
      have : (wipeG Γ [j]).length = Γ.length := by unfold wipeG; rw [List.length_set]; rfl
      rw [this]; exact hj)]
  · obtain ⟨_, o, ho, kvs, rfl, hkv⟩ := w'.at_ _ List.mem_cons_self
    obtain ⟨w2, e2⟩ := w'.freeze ho
    refine q _ _ H' (e'.trans e2) w2 ⟨p, kvs, rfl, upd_same, fun y => ?_⟩
    rw [hkv.val, List.map_map]
    apply decide_eq_decide.mpr
    constructor
    · intro hm
      obtain ⟨i, hi, e⟩ := List.mem_map.mp hm
      exact e ▸ List.mem_iff_getElem?.mpr ⟨i, gt_lt (List.mem_range.mp hi)⟩
    · intro hm
      obtain ⟨i, hi⟩ := List.mem_iff_getElem?.mp hm
      have hl := (List.getElem?_eq_some_iff.mp hi).1
      refine List.mem_map.mpr ⟨i, List.mem_range.mpr hl, ?_⟩
      rw [gt_lt hl] at hi
      exact Option.some.inj hi
theorem ev_dcIn {ks : List Nat} {a : Nat} (ha : Ev Γ M ta (tN K a)) (hd : Ev Γ M td (tDS ks)) : Ev Γ M (tDIn ta td) (tB K (decide (a ∈ ks))) := fun G σ H s w Q q =>
  ha G σ H s w _ fun y G1 H1 e1 w1 hy => hd G1 σ H1 (s.mono e1) w1 _ fun x G2 H2 e2 w2 ⟨c, kvs, ex, hc, hk⟩ => by
    cases (show Dp K G1 y (nI a) from hy) with
    | int =>
    refine ⟨c, valV kvs (.inl (a : Int)), ex, .inl ⟨kvs, .inl (a : Int), .inl (w2.le _ _ hc), rfl, rfl⟩, ?_⟩
    rw [hk]
    exact q _ G2 H2 (e1.trans e2) w2 (.bl _)
/-! ### strictly ascending lists -/
theorem pw_gt {l : List Nat} (h : l.Pairwise (· < ·)) : ∀ i j, i < j → j < l.length → gt l i < gt l j := fun i j hij hj => by
  have := List.pairwise_iff_getElem.mp h i j (by omega) hj hij
  unfold gt
  rw [List.getD_eq_getElem?_getD, List.getD_eq_getElem?_getD, List.getElem?_eq_getElem (by omega : i < l.length), List.getElem?_eq_getElem hj]
  exact this
end
end Ag
set_option Elab.async false
set_option linter.all false
set_option maxRecDepth 100000
set_option maxHeartbeats 2000000
/-! Ag13: forests. -/
namespace Ag
open PySem PySem.Spec PyProof.Rows L2
/-- a dict is handed back, owned -/
def PrO (K : FR) {α : Type} (P : α → Prop) (A : α → List Ty) (prs : α → List (Nat × PyData)) : Sp := fun vs H Q E => ∃ (a : α) (G : Hp) (M : Mem), P a ∧ Wd G M H ∧ Tys G vs (A a) ∧ ∀ p G' H', Same G G' → Wd G' ((p, cDk K (prs a)) :: M) H' → Q (.ref p) H'
section
variable {P : Program} {w : World} {K : PySem.W.Frag} {mg : Str → Option Value} {base : Heap} {x : Str} {st : Stmt} {N ps : List Str} {k : Nat} {α : Type} {P' : α → Prop} {A : α → List Ty} {prs : α → List (Nat × PyData)}
theorem DefAt.okO (d : DefAt K mg x st) (S : FnScope N ps (defScope st)) (hb : Bd x x st ps) (hl : ∀ a, (A a).length = ps.length)
    (body : ∀ (f : Addr) (cdv : Value) (B : Around) (outer : List Env) (s : Shared) (H : Hp) (Q : VK) (E : XK), Room k (B.deeper (envOfC x (defScope st) s.heap.objs.size f cdv)) →
      ∃ t, PSs (cxOf (L2.CX P w) P w K mg base N x (defScope st) f cdv B outer s H E) (defBody st) t ∧ ∀ (a : α) (G : Hp) (M : Mem), P' a → (∀ p G' H', Same G G' → Wd G' ((p, cDk K (prs a)) :: M) H' → Q (.ref p) H') → Go (g0 N (A a)) M t (Dn Q) G) :
    Callee P w K mg base (k + 1) x ps (PrO K P' A prs) := by
  obtain ⟨f, fd, hm, F⟩ := d.ex
  refine ⟨f, fd, F.okX S (fun vs H Q E ⟨a, G, M, _, _, ht, _⟩ => (Tys.len ht).trans (hl a)) (fun cdv B outer s H vs Q E hr ⟨a, G, M, hp, hw, ht, hq⟩ => ?_), hm, F.kp, F.binds hb⟩
  obtain ⟨t, h1, h2⟩ := body f cdv B outer s H Q E hr
  exact ⟨t, h1, h2 a G M hp hq G _ H (Same.refl _) (sd_start ht) hw⟩
end
section
variable {K : PySem.W.Frag} {Γ : Gam} {M : Mem} {tA : TA} {E : XK} {g : TG} {tv tk : TE} {wi : TI} {Ti : Nat → Ty} {n : Nat} {vs : List Nat}
/-- f(..).values(), the dict new and nobody's -/
theorem it_vals {α : Type} {P : α → Prop} {A : α → List Ty} {prs : α → List (Nat × PyData)} (a : α) (hp : P a) (h : EvA Γ M tA (A a)) (Ti : Nat → Ty) (hT : ∀ i x d, (prs a)[i]? = some (x, d) → Ti i = tD K d) : It1 Γ M (iVals (tSeal (tCall (PrO K P A prs) [] E tA))) (prs a).length Ti := fun G σ H s w R q =>
  h G σ H s w _ fun vs G1 H1 e1 w1 h1 => ⟨a, G1, M, hp, w1, by rw [List.append_nil]; exact h1, fun p G2 H2 e2 w2 => by
    obtain ⟨_, o, ho, kvs, rfl, hkv⟩ := w2.at_ _ List.mem_cons_self
    refine ⟨p, .dK kvs, rfl, ho, trivial, fun od => ?_⟩
    obtain ⟨w3, e3⟩ := (w2.change (C' := ⟨fun _ o => o = .frz od (.dK kvs), fun _ h => h⟩) (o := .frz od (.dK kvs)) rfl).freeze upd_same
    have hl := KV.len hkv
    refine ⟨p, od, kvs, rfl, upd_same, q _ _ _ ((e1.trans e2).trans e3) w3 ?_⟩
    exact {
      go := fun i G4 M4 H4 hi e4 w4 => ⟨w4.le _ _ (e4 _ _ upd_same), by rw [hl]; exact hi⟩
      stop := fun G4 M4 H4 e4 w4 => ⟨w4.le _ _ (e4 _ _ upd_same), by rw [hl]; exact Nat.le_refl _⟩
      yld := fun i G4 M4 H4 x H5 hi e4 w4 ⟨eh, k, hk⟩ => by
        subst eh
        obtain ⟨y, d, h1, _, h3⟩ := KV.at_ hkv hk
        refine ⟨G4, Same.refl _, w4, ?_⟩
        rw [hT i y d h1]
        exact Dp.mono (e3.trans e4) h3 }⟩
def kk (o : Option Nat) : Option Key := o.map fun k => .inl (k : Int)
theorem kk_inj {a b : Option Nat} (h : kk a = kk b) : a = b := by
  cases a with
  | none => cases b with
    | none => rfl
    | some y => cases h
  | some x => cases b with
    | none => cases h
    | some y =>
      have h1 : (Sum.inl (x : Int) : Key) = .inl (y : Int) := Option.some.inj h
      have h2 : (x : Int) = (y : Int) := Sum.inl.inj h1
      have h3 : x = y := by omega
      rw [h3]
theorem mem_put (ks : List (Option Key)) (k j : Option Key) : memN (putN ks k) j = (memN ks j || decide (k = j)) := by
  unfold putN
  cases c : memN ks k with
  | true =>
    rw [if_pos rfl]
    by_cases e : k = j
    · subst e
      rw [c]; simp
    · rw [decide_eq_false e, Bool.or_false]
  | false =>
    rw [if_neg (by decide)]
    unfold memN
    rw [List.any_append]
    simp
theorem put_len (ks : List (Option Key)) (k : Option Key) : (putN ks k).length ≤ ks.length + 1 := by
  unfold putN
  cases memN ks k with
  | true => rw [if_pos rfl]; omega
  | false => rw [if_neg (by decide), List.length_append]; exact Nat.le_refl _
/-- a dict whose keys are numbers or None, asked from now on -/
def tDN (P : Program) (w : World) (nx : List (Option Nat)) : Ty := ⟨fun G v => ∃ a ks, v = .ref a ∧ G a = some (dnO P w a ks) ∧ ∀ k : Option Nat, memN ks (kk k) = decide (k ∈ nx), fun e ⟨a, ks, h1, h2, h3⟩ => ⟨a, ks, h1, e _ _ h2, h3⟩⟩
theorem dp_opt {G : Hp} {v : V} {o : Option Nat} (h : Dp K G v (bdD o)) : v = kN (kk o) := by
  cases o with
  | none => cases (show Dp K G v .none from h); rfl
  | some x => cases (show Dp K G v (.int x) from h); rfl
theorem ev_dcL {P : Program} {w' : World} (nx : Nat → Option Nat) {d : PyData} (hI : It1 Γ M wi n Ti) (hz : n ≤ 100000) (Γt : Nat → Gam) (hT : ∀ i, i < n → Tg g (Ti i) (wipeG Γ vs) (Γt i) vs)
    (hk : ∀ i, i < n → ∀ M', Sub M M' → Ev (Γt i) M' tk (tD K (bdD (nx i)))) (hv : ∀ i, i < n → ∀ M', Sub M M' → Ev (Γt i) M' tv (tD K d)) : Ev Γ M (tDcL P w' wi g tYes tk tv vs) (tDN P w' ((List.range n).map nx)) := fun G σ H s w Q q =>
  hI G σ H s w _ fun J G1 H1 e1 w1 k D0 hD => by
    refine ⟨fun i m H' => m = n - i ∧ i ≤ n ∧ ∃ ks G', ks.length ≤ i ∧ (∀ j : Option Nat, memN ks (kk j) = decide (j ∈ (List.range i).map nx)) ∧ Same G1 G' ∧ Wd G' ((D0, ⟨fun _ o => o = dnO P w' D0 ks, fun _ h => h⟩) :: M) H', ⟨n, by simp, Nat.zero_le _, [], G1, Nat.le_refl _, fun j => rfl, Same.refl _, w1.own hD rfl⟩, ?_⟩
    rintro i m H' ⟨rfl, hi, ks, G', hl, hm, e', w2⟩
    by_cases hlt : i < n
    · refine .inr ⟨k.go i G' _ H' hlt e' w2, fun H2 => ∃ ks G', ks.length ≤ i + 1 ∧ (∀ j : Option Nat, memN ks (kk j) = decide (j ∈ (List.range (i + 1)).map nx)) ∧ Same G1 G' ∧ Wd G' ((D0, ⟨fun _ o => o = dnO P w' D0 ks, fun _ h => h⟩) :: M) H2, fun H2 hs => ⟨n - (i + 1), by omega, rfl, hlt, hs⟩, fun x H2 y => ?_⟩
      obtain ⟨G3, e3, w3, t3⟩ := k.yld i G' _ H' x H2 hlt e' w2 y
      have s3 : Sd G3 σ Γ := s.mono ((e1.trans e').trans e3)
      refine hT i hlt G3 (wipe σ vs) _ H2 x (s3.wipe vs) w3 t3 _ fun σ3 s4 hl4 h4 => ⟨wipe_same (by rw [hl4, wipe_len]) h4, ?_⟩
      refine (et_yes : EvT (Γt i) _ tYes _) G3 σ3 H2 s4 w3 _ fun b G4 H4 e4 w4 pb => ?_
      subst pb
      show tk σ3 H4 _
      refine hk i hlt _ (Sub.more (Sub.refl _)) G4 σ3 H4 (s4.mono e4) w4 _ fun y1 G5 H5 e5 w5 hy => ?_
      refine hv i hlt _ (Sub.more (Sub.refl _)) G5 σ3 H5 (s4.mono (e4.trans e5)) w5 _ fun z G6 H6 e6 w6 tz => ?_
      obtain ⟨_, o, ho, eo⟩ := w6.at_ _ List.mem_cons_self
      have eo' : o = dnO P w' D0 ks := eo
      subst eo'
      refine ⟨ks, kk (nx i), dp_opt hy, ho, by omega, putN ks (kk (nx i)), G6, Nat.le_trans (put_len _ _) (by omega), fun j => ?_, (((e'.trans e3).trans e4).trans e5).trans e6, w6.change rfl⟩
      rw [mem_put, hm, List.range_succ, List.map_append]
      have e7 : decide (kk (nx i) = kk j) = decide (nx i = j) := decide_eq_decide.mpr ⟨kk_inj, fun h => by rw [h]⟩
      rw [e7]
      by_cases c : nx i = j
      · simp [c]
      · have c' : ¬ j = nx i := fun z => c z.symm
        simp [c, c']
    · have ei : i = n := by omega
      subst ei
      obtain ⟨_, o, ho, eo⟩ := w2.at_ _ List.mem_cons_self
      have eo' : o = dnO P w' D0 ks := eo
      subst eo'
      obtain ⟨w4, e4⟩ := w2.freeze ho
      exact .inl ⟨k.stop G' _ H' e' w2, q _ _ _ ((e1.trans e').trans e4) w4 ⟨D0, ks, rfl, upd_same, hm⟩⟩
theorem ev_notInL {P : Program} {w' : World} {ta td : TE} {a : Nat} {nx : List (Option Nat)} (ha : Ev Γ M ta (tN K a)) (hd : Ev Γ M td (tDN P w' nx)) : Ev Γ M (tOp (rNotInL P w') ta td) (tB K (!decide (some a ∈ nx))) := ev_op ha hd fun G H x y w hx ⟨c, ks, ey, hc, hk⟩ Q q => by
  cases (show Dp K G x (nI a) from hx) with
  | int =>
  refine ⟨c, ks, kk (some a), ey, rfl, w.le _ _ hc, ?_⟩
  rw [hk]
  exact q _ G H (Same.refl _) w (.bl _)
end
/-! ### forests -/
def cbF (tabs : List (List Nat)) (log : List Nat) (state age : Nat) (keys : List Nat) (i : Nat) : Option Nat := if decide (run tabs ((log.drop age).take (i + 1)) state = state) && decide (age + 1 + i ∈ keys) then some (age + 1 + i) else none
def cbOf (tabs : List (List Nat)) (log : List Nat) (state age : Nat) (keys : List Nat) : Option Nat := (List.range (log.length - age)).findSome? (cbF tabs log state age keys)
structure CbA where
  tabs : List (List Nat)
  n : Nat
  log : List Nat
  state : Nat
  age : Nat
  keys : List Nat
abbrev sp_coming_back (K : FR) (mg : MG) : Sp := PrS (fun a : CbA => OkT a.tabs a.n ∧ OkL a.tabs a.log ∧ a.state < a.n ∧ a.age ≤ a.log.length) (fun a => [tMa K mg a.tabs a.n, tD K (.tuple (nL a.log)), tN K a.state, tN K a.age, tDS a.keys]) (fun a => tD K (bdD (cbOf a.tabs a.log a.state a.age a.keys)))
def nextOf (a : SgA) (age : Nat) : Option Nat := cbOf a.tabs a.log a.state age a.ages
abbrev sp_nexts_of (K : FR) (mg : MG) : Sp := PrO K (fun a : SgA => a.Ok ∧ a.ok = .good) (fun a => [tSg K mg a]) (fun a => (List.range a.ages.length).map fun i => (gt a.ages i, bdD (nextOf a (gt a.ages i))))
def lowOf (a : SgA) : List Nat := a.ages.filter fun age => !decide (some age ∈ a.ages.map (nextOf a))
abbrev sp_lowest_of (K : FR) (mg : MG) : Sp := PrS (fun a : SgA => a.Ok ∧ a.ok = .good) (fun a => [tSg K mg a]) (fun a => tD K (.list (nL (lowOf a))))
abbrev sgArgs (K : FR) (mg : MG) (a : SgA) : List Ty := [tMa K mg a.tabs a.n, tZ K a.k (nL a.log), tN K a.state, tD K a.sd, tD K a.kd, tD K a.bd]
abbrev sp_lowest_ages (K : FR) (mg : MG) : Sp := PrS (fun a : SgA => a.Ok ∧ a.ok = .good) (sgArgs K mg) (fun a => tD K (.tuple (nL (lowOf a))))
abbrev sp_least_marks (K : FR) (mg : MG) : Sp := PrS (fun a : SgA => a.Ok ∧ a.ok = .good) (sgArgs K mg) (fun a => tN K (lowOf a).length)
/-- ascending -/
theorem asc_pw {l : List Nat} (h : asc l = true) : l.Pairwise (· < ·) := by
  unfold asc at h
  rw [List.all_eq_true] at h
  have hs : ∀ i, i + 1 < l.length → gt l i < gt l (i + 1) := fun i hi => of_decide_eq_true (h i (List.mem_range.mpr (by omega)))
  have hd : ∀ k i, i + k + 1 < l.length → gt l i < gt l (i + k + 1) := fun k => by
    induction k with
    | zero => exact fun i hi => hs i hi
    | succ k ih => exact fun i hi => Nat.lt_trans (ih i (by omega)) (hs (i + k + 1) hi)
  refine List.pairwise_iff_getElem.mpr fun i j hi hj hij => ?_
  have := hd (j - i - 1) i (by omega)
  have e : i + (j - i - 1) + 1 = j := by omega
  rw [e] at this
  unfold gt at this
  rw [List.getD_eq_getElem?_getD, List.getD_eq_getElem?_getD, List.getElem?_eq_getElem hi, List.getElem?_eq_getElem hj] at this
  exact this
theorem range_pw (n : Nat) : (List.range n).Pairwise (· < ·) := List.pairwise_lt_range
theorem GoodKp.pw {n : Nat} {d : PyData} {l : List Nat} (h : GoodKp n d l) : l.Pairwise (· < ·) := by
  cases h with
  | none => exact range_pw _
  | seq k l _ h _ => exact asc_pw h
theorem SgA.kp {a : SgA} (h : a.Ok) (hg : a.ok = .good) : GoodKp a.log.length a.kd a.kl ∧ GoodBd a.b ∧ a.bd = bdD a.b := by
  have := h.kb
  rw [hg] at this
  exact this
theorem SgA.pw {a : SgA} (h : a.Ok) (hg : a.ok = .good) : a.ages.Pairwise (· < ·) := ((SgA.kp h hg).1.pw.filter _).filter _
theorem SgA.lt {a : SgA} (h : a.Ok) (hg : a.ok = .good) : ∀ x ∈ a.ages, x < a.log.length + 1 := fun x hx => (SgA.kp h hg).1.lt x (List.mem_filter.mp (List.mem_filter.mp hx).1).1
theorem SgA.len {a : SgA} (h : a.Ok) (hg : a.ok = .good) : a.ages.length ≤ 1001 := by
  have h1 := (SgA.kp h hg).1.len h.l.1
  have h2 : a.ages.length ≤ a.aa.length := List.length_filter_le _ _
  have h3 : a.aa.length ≤ a.kl.length := List.length_filter_le _ _
  omega
section
variable {P : Program} {w : World} {K : PySem.W.Frag} {mg : Str → Option Value} {base : Heap}
theorem ok_coming_back (T : Prg P K mg) : Callee P w K mg base 1 "coming_back" ["machine", "log", "state", "age", "ages"] (sp_coming_back K mg) := by
  refine T.d_coming_back.ok sc_coming_back (fun _ _ _ _ _ _ us hl => match us, hl with | [_, _, _, _, _], _ => rfl) (fun _ => rfl) ?_
  intro f cdv B outer s H Q E hr
  have hu := hu_of hr
  have hu64 := hu64_of hr
  refine ⟨_, (pss_cons (ps_set (i := 5) sc_coming_back.nd rfl (Or.inl rfl) (pv 2))
      (pss_cons (ps_for (passes_of rfl) rfl (pi_range2 rfl T.n_range (pa_cons (pe_op op_add (pv 3) pe_int) (pa_cons (pe_op op_add (pe_callB (lenK K) rfl T.n_len (by decide +kernel) (pa_cons (pv 1) pa_nil)) pe_int) pa_nil))) (pg_name (i := 6) sc_coming_back.nd rfl (Or.inl rfl)) (pss_cons (ps_set (i := 5) sc_coming_back.nd rfl (Or.inl rfl) (ixK K (ixK K (fldK K (pv 0)) (ixK K (pv 1) (pe_op op_sub (pv 6) pe_int))) (pv 5)))
      (pss_one (ps_if (PW.pt (pw_and (pt_cmpR (eqK K hu64) (pv 5) (pv 2) (nomark _)) (pw_and1 (pt_cmp (pc_din hu (pv 6) (pv 4)))))) (pss_one (ps_ret (pv 6))) pss_nil))))
      (pss_one (ps_ret pe_non)))), ?_⟩
  intro a G M hp hc hret hexc
  obtain ⟨tabs, n, log, state, age, keys⟩ := a
  obtain ⟨hT, hL, hs, ha⟩ := hp
  have hT' : OkT tabs n := hT
  have hL' : OkL tabs log := hL
  have hs' : state < n := hs
  have ha' : age ≤ log.length := ha
  have hret' : Rt (Dn Q) G M (tD K (bdD (cbOf tabs log state age keys))) := hret
  have hl := hL'.1
  refine go_set (T := tN K state) (ev_var rfl) ?_
  have hI := it_rng2 (K := K) (lo := age + 1) (hi := log.length + 1) (Γ := [some (tMa K mg tabs n), some (tD K (.tuple (nL log))), some (tN K state), some (tN K age), some (tDS keys), some (tN K state), none]) (M := M) (ev_addN (b := 1) (ev_var (i := 3) rfl) ev_int) (ev_addN (b := 1) (ev_lenN (ev_tQ (ev_var (i := 1) (T := tD K (.tuple (nL log))) rfl))) ev_int) (by omega) (by omega)
  have hn : log.length + 1 - (age + 1) = log.length - age := by omega
  rw [hn] at hI
  refine go_seq (go_for (vs := [6]) hI (fun i (_ : Unit) => [some (tMa K mg tabs n), some (tD K (.tuple (nL log))), some (tN K state), some (tN K age), some (tDS keys), some (tN K (run tabs ((log.drop age).take i) state)), none]) (fun i _ => [some (tMa K mg tabs n), some (tD K (.tuple (nL log))), some (tN K state), some (tN K age), some (tDS keys), some (tN K (run tabs ((log.drop age).take i) state)), some (tN K (age + 1 + i))]) (fun _ _ => M) (fun i _ => ∀ j, j < i → cbF tabs log state age keys j = none) () rfl rfl (fun j hj => absurd hj (Nat.not_lt_zero _)) (fun i _ hi _ => ?_) (fun i _ Gt hi hpi e => ?_) fun _ hpi => ?_)
  · have e : (PyData.int (((age + 1 : Nat) : Int) + (i : Nat))) = nI (age + 1 + i) := by
      show PyData.int (((age + 1 : Nat) : Int) + (i : Nat)) = .int ((age + 1 + i : Nat) : Int)
      congr 1
    rw [e]
    exact tg_name
  · have hd : gt log (age + i) < tabs.length := hL'.2 _ (gt_mem (by omega))
    obtain ⟨t, h1, h2, h3, h4⟩ := tab_at hT' hd
    have hok : ∀ x ∈ (log.drop age).take i, x < tabs.length := fun x hx => hL'.2 x (List.mem_of_mem_drop (List.mem_of_mem_take hx))
    have hr : run tabs ((log.drop age).take i) state < n := run_lt hT' hok hs'
    have hstep : gt t (run tabs ((log.drop age).take i) state) = run tabs ((log.drop age).take (i + 1)) state := by
      rw [run_succ _ _ _ _ (by rw [List.length_drop]; omega)]
      have e : gt (log.drop age) i = gt log (age + i) := by unfold gt; rw [List.getD_eq_getElem?_getD, List.getD_eq_getElem?_getD, List.getElem?_drop]
      rw [e]
      unfold st
      rw [h2]
    refine go_set (T := tN K (run tabs ((log.drop age).take (i + 1)) state)) ?_ ?_
    · rw [← hstep]
      refine ev_ixN (l := t) (ev_tQ (ev_ixX (a := gt log (age + i)) (ds := tbD tabs) (ev_tQ (ev_tables T (ev_var rfl))) ?_ (by unfold tbD; rw [List.getElem?_map, h1]; rfl))) (ev_var rfl) (by rw [h3]; exact hr)
      refine ev_ixN (l := log) (a := age + i) (ev_tQ (ev_var rfl)) (ev_to (ev_sub1 (i := 0) (a := age + 1 + i) (ev_var rfl) ev_int (by omega)) ?_) (by omega)
      rw [show age + 1 + i - 1 = age + i from by omega]
    · refine go_if (P := (· = (decide (run tabs ((log.drop age).take (i + 1)) state = state) && decide (age + 1 + i ∈ keys)))) (et_and (et_t (ev_eqN (ev_var rfl) (ev_var rfl)) rfl) fun _ => et_t (ev_dcIn (ev_var rfl) (ev_var rfl)) rfl) (fun hc => ?_) fun hc => ?_
      · have hc1 : cbF tabs log state age keys i = some (age + 1 + i) := by unfold cbF; rw [if_pos hc.symm]
        have hc2 : cbOf tabs log state age keys = some (age + 1 + i) := find_some hi hpi hc1
        rw [hc2] at hret'
        exact go_ret (ev_var (T := tN K (age + 1 + i)) rfl) (hret'.base e)
      · refine go_endW () (fun j hj => ?_) (.same (.same (.same (.same (.same (.same (.no .nil))))))) rfl
        rcases Nat.lt_succ_iff_lt_or_eq.mp hj with h | h
        · exact hpi j h
        · rw [h]; unfold cbF; rw [if_neg (by rw [← hc]; decide)]
  · have hc2 : cbOf tabs log state age keys = none := find_none hpi
    rw [hc2] at hret'
    exact go_nx (go_ret ev_non hret')
theorem ok_nexts_of (T : Prg P K mg) : Callee P w K mg base 2 "nexts_of" ["sight"] (sp_nexts_of K mg) := by
  refine T.d_nexts_of.okO sc_nexts_of (fun _ _ _ _ _ _ us hl => match us, hl with | [_], _ => rfl) (fun _ => rfl) ?_
  intro f cdv B outer s H Q E hr
  have hu := hu_of hr
  have hu64 := hu64_of hr
  refine ⟨_, (pss_cons (ps_set (i := 1) sc_nexts_of.nd rfl (Or.inr rfl) (pe_dc rfl sc_nexts_of.nd (seqK K (fldK K (pv 0))) (blkOk_by (own := [("age", 2)]) (N := N_nexts_of) (sc := defScope s_nexts_of) (by decide +kernel)) (fun _ _ _ _ _ => (pg_name (i := 2) sc_nexts_of.nd rfl (Or.inl rfl))) (fun _ _ _ _ _ => pts_nil) (fun _ _ _ _ _ => (pv 2)) (fun _ _ _ _ _ => pe_bl)))
      (pss_one (ps_ret (pe_dc rfl sc_nexts_of.nd (seqK K (fldK K (pv 0))) (blkOk_by (own := [("age", 2)]) (N := N_nexts_of) (sc := defScope s_nexts_of) (by decide +kernel)) (fun _ _ _ _ _ => (pg_name (i := 2) sc_nexts_of.nd rfl (Or.inl rfl))) (fun _ _ _ _ _ => pts_nil) (fun _ _ _ _ _ => (pv 2)) (fun _ _ _ _ _ => (pcallG (ok_coming_back T) hr passL (pa_cons (fldK K (pv 0)) (pa_cons (fldK K (pv 0)) (pa_cons (fldK K (pv 0)) (pa_cons (pv 2) (pa_cons (pv 1) pa_nil))))))))))), ?_⟩
  intro a G M hp hret
  obtain ⟨ha, hg⟩ := hp
  have ha' : a.Ok := ha
  have hpw := SgA.pw ha' hg
  have hlt := SgA.lt ha' hg
  have hlen := SgA.len ha' hg
  have hdist : ∀ i j, i < j → j < a.ages.length → gt a.ages i ≠ gt a.ages j := fun i j h1 h2 => Nat.ne_of_lt (pw_gt hpw i j h1 h2)
  have hf : ∀ {f : Str} {U : Ty} {Γ : Gam} {M : Mem}, Γ[0]? = some (some (tSg K mg a)) → List.lookup f (fSg K mg a) = some U → NoAttr K (cOf "Sight" mg) f → Ev Γ M (tFld K (tVar 0) f) U := fun h1 h2 h3 => ev_fld (ev_var h1) h2 T.cls_Sight h3
  have hfa : ∀ {Γ : Gam} {M : Mem}, Γ[0]? = some (some (tSg K mg a)) → Ev Γ M (tFld K (tVar 0) "ages") (tQ K (nL a.ages)) := fun h1 => ev_lQ (hf h1 rfl T.na_Sight_ages)
  refine go_set (T := tDS a.ages) (ev_dcS (d := .bool true) hdist (hfa rfl) (by omega) (by show 2 < 3; decide) fun k hk M' hM => ev_bl) ?_
  have hI := it_seq (K := K) (Γ := [some (tSg K mg a), some (tDS a.ages), none]) (M := M) (hfa rfl)
  rw [nL_len] at hI
  intro G1 σ H1 e s1 w1
  refine dc_run (K := K) (n := a.ages.length) (fun i => gt a.ages i) (fun i => bdD (nextOf a (gt a.ages i))) hdist hI (by omega) (fun i => [some (tSg K mg a), some (tDS a.ages), some (tN K (gt a.ages i))]) (fun i hi => by rw [dAt_nL hi]; exact tg_name) (fun i hi M' hM => ev_var rfl) (fun i hi M' hM => ?_) s1 w1 fun p G2 H2 e2 w2 => hret p G2 H2 (e.trans e2) w2
  have hage := hlt _ (gt_mem hi)
  exact ev_callS (⟨a.tabs, a.n, a.log, a.state, gt a.ages i, a.ages⟩ : CbA) (ea_cons (hf rfl rfl T.na_Sight_machine) (ea_cons (hf rfl rfl T.na_Sight_log) (ea_cons (hf rfl rfl T.na_Sight_state) (ea_cons (ev_var rfl) (ea_cons (ev_var rfl) ea_nil))))) ⟨ha'.t, ha'.l, ha'.s, Nat.le_of_lt_succ hage⟩
theorem ok_lowest_of (T : Prg P K mg) : Callee P w K mg base 3 "lowest_of" ["sight"] (sp_lowest_of K mg) := by
  refine T.d_lowest_of.ok sc_lowest_of (fun _ _ _ _ _ _ us hl => match us, hl with | [_], _ => rfl) (fun _ => rfl) ?_
  intro f cdv B outer s H Q E hr
  have hu := hu_of hr
  have hu64 := hu64_of hr
  refine ⟨_, (pss_cons (ps_set (i := 1) sc_lowest_of.nd rfl (Or.inr rfl) (pe_dcL rfl sc_lowest_of.nd (pi_values (pe_seal (pcallG (ok_nexts_of T) hr passL (pa_cons (pv 0) pa_nil)))) (blkOk_by (own := [("later", 2)]) (N := N_lowest_of) (sc := defScope s_lowest_of) (by decide +kernel)) (fun _ _ _ _ _ => (pg_name (i := 2) sc_lowest_of.nd rfl (Or.inl rfl))) (fun _ _ _ _ _ => pts_nil) (fun _ _ _ _ _ => (pv 2)) (fun _ _ _ _ _ => pe_bl)))
      (pss_one (ps_ret (pe_lc rfl sc_lowest_of.nd (seqK K (fldK K (pv 0))) (blkOk_by (own := [("age", 3)]) (N := N_lowest_of) (sc := defScope s_lowest_of) (by decide +kernel)) (fun _ _ _ _ _ => (pg_name (i := 3) sc_lowest_of.nd rfl (Or.inl rfl))) (fun _ _ _ _ _ => (pts_one (pt_cmpR (op_notInL P w hu) (pv 3) (pv 1) (by rfl)))) (fun _ _ _ _ _ => (pv 3)))))), ?_⟩
  intro a G M hp hc hret hexc
  obtain ⟨ha, hg⟩ := hp
  have ha' : a.Ok := ha
  have hlen := SgA.len ha' hg
  have hfa : ∀ {Γ : Gam} {M : Mem}, Γ[0]? = some (some (tSg K mg a)) → Ev Γ M (tFld K (tVar 0) "ages") (tQ K (nL a.ages)) := fun h1 => ev_lQ (ev_fld (ev_var h1) rfl T.cls_Sight T.na_Sight_ages)
  have hI := it_vals (K := K) (E := E0) (Γ := g0 N_lowest_of [tSg K mg a]) (M := M) (tA := tCons (tVar 0) tNil) (P := fun a : SgA => a.Ok ∧ a.ok = .good) (A := fun a => [tSg K mg a]) (prs := fun a : SgA => (List.range a.ages.length).map fun i => (gt a.ages i, bdD (nextOf a (gt a.ages i)))) a ⟨ha, hg⟩ (ea_cons (ev_var rfl) ea_nil) (fun i => tD K (bdD (nextOf a (gt a.ages i)))) (fun i x d h => by
    rw [List.getElem?_map] at h
    obtain ⟨j, hj, e⟩ := Option.map_eq_some_iff.mp h
    have hi : i < a.ages.length := by
      have := (List.getElem?_eq_some_iff.mp hj).1
      rw [List.length_range] at this
      exact this
    rw [List.getElem?_range hi] at hj
    cases hj
    have e2 := (Prod.mk.inj e).2
    rw [e2])
  rw [List.length_map, List.length_range] at hI
  refine go_set (T := tDN P w ((List.range a.ages.length).map fun i => nextOf a (gt a.ages i))) (ev_dcL (K := K) (d := .bool true) (fun i => nextOf a (gt a.ages i)) hI (by omega) (fun i => [some (tSg K mg a), none, some (tD K (bdD (nextOf a (gt a.ages i)))), none]) (fun i hi => tg_name) (fun i hi M' hM => ev_var rfl) (fun i hi M' hM => ev_bl)) ?_
  have e1 : ((List.range a.ages.length).map fun i => nextOf a (gt a.ages i)) = a.ages.map (nextOf a) := by
    apply List.ext_getElem?
    intro i
    rw [List.getElem?_map, List.getElem?_map]
    by_cases hi : i < a.ages.length
    · rw [List.getElem?_range hi, gt_lt hi]
      rfl
    · rw [List.getElem?_eq_none (by rw [List.length_range]; omega), List.getElem?_eq_none (by omega)]
      rfl
  rw [e1]
  exact go_ret (ev_LD (ev_lcN (l := a.ages) (fun age => !decide (some age ∈ a.ages.map (nextOf a))) nI (hfa rfl) (by omega) (fun k hk M' hM => et_t (ev_notInL (ev_var rfl) (ev_var rfl)) rfl) fun k hk _ M' hM => ev_var rfl)) hret
theorem fn_lowest_ages (T : Prg P K mg) {f : Addr} {fd : FuncData} {kws : List (Str × V)} (F : FunD K "lowest_ages" "lowest_ages" (defArgs s_lowest_ages) (defBody s_lowest_ages) (defScope s_lowest_ages) [] kws f fd) : FnOk P w K mg base (L2.CX P w) 12 f fd ["machine", "log", "state", "starts", "kept", "bound"] (sp_lowest_ages K mg) := by
  refine fnD_ok F sc_lowest_ages (fun _ => rfl) ?_
  intro cdv B outer s H Q E hr
  have hu := hu_of hr
  have hu64 := hu64_of hr
  refine ⟨_, (pss_one (ps_ret (pe_callTy (tupleK K) rfl T.n_tuple (by decide +kernel) (pa_cons (pcallG (ok_lowest_of T) hr passL (pa_cons (pmakeG (ok_Sight_init T) hr passL (pa_cons (pv 0) (pa_cons (pv 1) (pa_cons (pv 2) (pa_cons (pv 3) (pa_cons (pv 4) (pa_cons (pv 5) pa_nil))))))) pa_nil)) pa_nil)))), ?_⟩
  intro a G M hp hc hret hexc
  obtain ⟨ha, hg⟩ := hp
  refine go_ret (ev_tupleOf (ev_lQ (ds := nL (lowOf a)) (ev_callS (P := fun a : SgA => a.Ok ∧ a.ok = .good) (A := fun a => [tSg K mg a]) (Rr := fun a => tD K (.list (nL (lowOf a)))) a (ea_cons (ev_Sight (a := a) ?_ ha hg) ea_nil) ⟨ha, hg⟩))) hret
  exact ea_cons (ev_var rfl) (ea_cons (ev_var rfl) (ea_cons (ev_var rfl) (ea_cons (ev_var rfl) (ea_cons (ev_var rfl) (ea_cons (ev_var rfl) ea_nil)))))
def gk_lowest_ages_kw3_starts_kept_bound {α : Type} (a b c : List α) : List α := a ++ ((c.drop 0).take 1 ++ ((c.drop 1).take 1 ++ ((c.drop 2).take 1)))
theorem okk_lowest_ages_kw3_starts_kept_bound (T : Prg P K mg) : KCallee P w K mg base 12 "lowest_ages" ["machine", "log", "state", "starts", "kept", "bound"] 3 ["starts", "kept", "bound"] (fun vs zs => gk_lowest_ages_kw3_starts_kept_bound vs (List.map Prod.snd ([] : List (Str × V))) zs) (sp_lowest_ages K mg) := by
  obtain ⟨f, fd, hm, F⟩ := T.d_lowest_ages.ex
  obtain ⟨mv, kb⟩ := F.kbinds0 (ps := ["machine", "log", "state", "starts", "kept", "bound"]) 3 ["starts", "kept", "bound"] [] (fun a b c => gk_lowest_ages_kw3_starts_kept_bound a b c) (by simp) (by simp) (fun r1 r2 r3 => (r1.append (((r3.drop 0).take 1).append (((r3.drop 1).take 1).append ((r3.drop 2).take 1))))) (fun D doc pm an cdv ct us mv ws h1 h2 h3 => match us, mv, ws, h1, h2, h3 with
    | [_, _, _], [], [_, _, _], _, _, _ => rfl)
  exact ⟨f, fd, _, fn_lowest_ages T F, hm, F.kp, kb⟩
theorem fn_least_marks (T : Prg P K mg) {f : Addr} {fd : FuncData} {kws : List (Str × V)} (F : FunD K "least_marks" "least_marks" (defArgs s_least_marks) (defBody s_least_marks) (defScope s_least_marks) [] kws f fd) : FnOk P w K mg base (L2.CX P w) 13 f fd ["machine", "log", "state", "starts", "kept", "bound"] (sp_least_marks K mg) := by
  refine fnD_ok F sc_least_marks (fun _ => rfl) ?_
  intro cdv B outer s H Q E hr
  have hu := hu_of hr
  have hu64 := hu64_of hr
  refine ⟨_, (pss_one (ps_ret (pe_callB (lenK K) rfl T.n_len (by decide +kernel) (pa_cons (pcallKG (okk_lowest_ages_kw3_starts_kept_bound T) hr passL (pa_cons (pv 0) (pa_cons (pv 1) (pa_cons (pv 2) pa_nil))) (pk_cons (pv 3) (pk_cons (pv 4) (pk_cons (pv 5) pk_nil)))) pa_nil)))), ?_⟩
  intro a G M hp hc hret hexc
  obtain ⟨ha, hg⟩ := hp
  refine go_ret (ev_lenN (l := lowOf a) (ev_tQ (ev_callN (P := fun a : SgA => a.Ok ∧ a.ok = .good) (C := fun _ => []) (A := sgArgs K mg) (Rr := fun a => tD K (.tuple (nL (lowOf a)))) (X := fun _ => xNo) a (ea_cons (ev_var (i := 0) rfl) (ea_cons (ev_var (i := 1) rfl) (ea_cons (ev_var (i := 2) rfl) ea_nil))) (ea_cons (ev_var (i := 3) rfl) (ea_cons (ev_var (i := 4) rfl) (ea_cons (ev_var (i := 5) rfl) ea_nil))) rfl rfl (fun G vs zs k1 k2 => ?_) ⟨ha, hg⟩ sub_nil (fun _ _ _ z => z)))) hret
  cases k1 with | cons a1 k1 => cases k1 with | cons a2 k1 => cases k1 with | cons a3 k1 =>
  cases k1
  cases k2 with | cons b1 k2 => cases k2 with | cons b2 k2 => cases k2 with | cons b3 k2 =>
  cases k2
  exact .cons a1 (.cons a2 (.cons a3 (.cons b1 (.cons b2 (.cons b3 .nil)))))
end
end Ag
set_option Elab.async false
set_option linter.all false
set_option maxRecDepth 100000
set_option maxHeartbeats 2000000
/-! Ag14: the draws. -/
namespace Ag
open PySem PySem.Spec PyProof.Rows L2
/-- an object is handed back, owned -/
def PrC {α : Type} (P : α → Prop) (A : α → List Ty) (Cl : α → Ct) : Sp := fun vs H Q E => ∃ (a : α) (G : Hp) (M : Mem), P a ∧ Wd G M H ∧ Tys G vs (A a) ∧ ∀ p G' H', Same G G' → Wd G' ((p, Cl a) :: M) H' → Q (.ref p) H'
section
variable {P : Program} {w : World} {K : PySem.W.Frag} {mg : Str → Option Value} {base : Heap} {x : Str} {st : Stmt} {N ps : List Str} {k : Nat} {α : Type} {P' : α → Prop} {A : α → List Ty} {Cl : α → Ct}
theorem DefAt.okC (d : DefAt K mg x st) (S : FnScope N ps (defScope st)) (hb : Bd x x st ps) (hl : ∀ a, (A a).length = ps.length)
    (body : ∀ (f : Addr) (cdv : Value) (B : Around) (outer : List Env) (s : Shared) (H : Hp) (Q : VK) (E : XK), Room k (B.deeper (envOfC x (defScope st) s.heap.objs.size f cdv)) →
      ∃ t, PSs (cxOf (L2.CX P w) P w K mg base N x (defScope st) f cdv B outer s H E) (defBody st) t ∧ ∀ (a : α) (G : Hp) (M : Mem), P' a → (∀ p G' H', Same G G' → Wd G' ((p, Cl a) :: M) H' → Q (.ref p) H') → Go (g0 N (A a)) M t (Dn Q) G) :
    Callee P w K mg base (k + 1) x ps (PrC P' A Cl) := by
  obtain ⟨f, fd, hm, F⟩ := d.ex
  refine ⟨f, fd, F.okX S (fun vs H Q E ⟨a, G, M, _, _, ht, _⟩ => (Tys.len ht).trans (hl a)) (fun cdv B outer s H vs Q E hr ⟨a, G, M, hp, hw, ht, hq⟩ => ?_), hm, F.kp, F.binds hb⟩
  obtain ⟨t, h1, h2⟩ := body f cdv B outer s H Q E hr
  exact ⟨t, h1, h2 a G M hp hq G _ H (Same.refl _) (sd_start ht) hw⟩
end
/-- the box: two ints, whichever -/
def cBox : Ct := ⟨fun _ o => ∃ x y : Int, o = .lst [.int x, .int y], fun _ h => h⟩
/-- a number below m -/
def tNB (K : FR) (m : Nat) : Ty := tEx fun r : { r : Nat // r < m } => tN K r.1
/-- any int -/
def tI (K : FR) : Ty := tEx fun i : Int => tD K (.int i)
structure TakeA where
  p : Addr
  m : Nat
abbrev sp_Lbox (K : FR) (mg : MG) : Sp := PrC (fun a : List Int × Nat => a.1.length ≤ 1000000 ∧ a.2 < 1000) (fun a => [tD K (.list (iL a.1)), tN K a.2]) (fun _ => cBox)
abbrev sp_Ltake (K : FR) (mg : MG) : Sp := PrX (fun a : TakeA => 0 < a.m ∧ a.m < 1000000) (fun a => [(a.p, cBox)]) (fun a => [tV (.ref a.p), tN K a.m]) (fun a => tNB K a.m) (fun _ => xNo)
structure PickA where
  p : Addr
  T : Ty
  ds : List V
section
variable {K : FR} {mg : MG} {Γ Γ' : Gam} {M : Mem} {ta tb tc to te : TE} {tA : TA} {E : XK} {d : PyData} {G0 : Hp} {D : Ends} {g : TG} {T U R : Ty} {vs : List Nat} {ts tu1 tu2 : TS} {p : Addr} {i : Nat} {wi : TI} {Ti : Nat → Ty} {n m : Nat}
theorem go_cutK {β : Type} (Γj : β → Gam) (Mj : β → Mem) (Pj : β → Prop) (h : Go Γ M tu1 { D with nx := Sat G0 Γj Mj Pj } G0) (k : ∀ b, Pj b → Go (Γj b) (Mj b) tu2 D G0) : Go Γ M (C8.tCut tu1 tu2) D G0 := fun G σ H e s w =>
  ⟨Sat G0 Γj Mj Pj, h G σ H e s w, fun σ' H' ⟨b, G', p, e', s', w'⟩ => k b p G' σ' H' e' s' w'⟩
theorem tI_of {i : Int} {G : Hp} {v : V} (h : Dp K G v (.int i)) : (tI K).p G v := ⟨i, h⟩
theorem ev_I {i : Int} (h : Ev Γ M te (tD K (.int i))) : Ev Γ M te (tI K) := ev_mono h fun _ _ => tI_of
theorem rv_any {C : Int → Int → Prop} {g : Int → Int → V} (hg : ∀ i j, ∃ k, g i j = .int k) (hC : ∀ i j, C i j) : RvO M (rI C g) (tI K) (tI K) (tI K) := fun G H x y w ⟨i, hx⟩ ⟨j, hy⟩ Q q => by
  obtain ⟨k, e⟩ := hg i j
  refine ⟨i, j, dp_int hx, dp_int hy, hC i j, ?_⟩
  rw [e]
  exact q _ G H (Same.refl _) w ⟨k, .int k⟩
/-- with a second operand that is told -/
theorem ev_anyR {C : Int → Int → Prop} {f : Int → Int → Int} {j : Int} (ha : Ev Γ M ta (tI K)) (hb : Ev Γ M tb (tD K (.int j))) (hC : ∀ i, C i j) : Ev Γ M (tOp (rI C fun i j => .int (f i j)) ta tb) (tI K) := ev_op ha hb fun G H x y w ⟨i, hx⟩ hy Q q => ⟨i, j, dp_int hx, dp_int hy, hC i, q _ G H (Same.refl _) w ⟨_, .int _⟩⟩
theorem ev_anyR0 {f : Int → Int → Int} {j : Int} (ha : Ev Γ M ta (tI K)) (hb : Ev Γ M tb (tD K (.int j))) : Ev Γ M (tOp (rI0 fun i j => .int (f i j)) ta tb) (tI K) := ev_op ha hb fun G H x y w ⟨i, hx⟩ hy Q q => ⟨i, j, dp_int hx, dp_int hy, q _ G H (Same.refl _) w ⟨_, .int _⟩⟩
theorem ev_any0 {f : Int → Int → Int} (ha : Ev Γ M ta (tI K)) (hb : Ev Γ M tb (tI K)) : Ev Γ M (tOp (rI0 fun i j => .int (f i j)) ta tb) (tI K) := ev_op ha hb fun G H x y w ⟨i, hx⟩ ⟨j, hy⟩ Q q => ⟨i, j, dp_int hx, dp_int hy, q _ G H (Same.refl _) w ⟨_, .int _⟩⟩
theorem ev_intAny (ha : Ev Γ M ta (tI K)) : Ev Γ M (tCB rIntI (tCons ta tNil)) (tI K) := ev_cb (ea_cons ha ea_nil) fun G H vs w h Q q => by
  cases h with
  | cons hx hr => cases hr; obtain ⟨i, hx⟩ := hx; exact .inl ⟨i, by rw [dp_int hx], q _ G H (Same.refl _) w ⟨i, .int _⟩⟩
/-- an int mod m -/
theorem ev_modN (ha : Ev Γ M ta (tI K)) (hb : Ev Γ M tb (tN K m)) (hm : 0 < m) : Ev Γ M (tOp (rI (fun _ j => 0 < j) fun i j => .int (i % j)) ta tb) (tNB K m) := ev_op ha hb fun G H x y w ⟨i, hx⟩ hy Q q => by
  have hm' : (0 : Int) < (m : Int) := by omega
  refine ⟨i, m, dp_int hx, dp_int hy, hm', ?_⟩
  have h1 : 0 ≤ i % (m : Int) := Int.emod_nonneg _ (by omega)
  have h2 : i % (m : Int) < m := Int.emod_lt_of_pos _ hm'
  have e : i % (m : Int) = (((i % (m : Int)).toNat : Nat) : Int) := by omega
  show Q (.int (i % (m : Int))) H
  rw [e]
  exact q _ G H (Same.refl _) w ⟨⟨(i % (m : Int)).toNat, by omega⟩, .int _⟩
/-- box[0], box[1] -/
theorem ev_box {j : Int} (ho : Ev Γ M te (tV (.ref p))) (hm : (p, cBox) ∈ M) (hb : Ev Γ M tb (tD K (.int j))) (hj : j = 0 ∨ j = 1) : Ev Γ M (tOp (rIx K) te tb) (tI K) := fun G σ H s w Q q =>
  ho G σ H s w _ fun v G1 H1 e1 w1 hv => hb G1 σ H1 (s.mono e1) w1 _ fun y G2 H2 e2 w2 hy => by
    subst hv
    obtain ⟨_, o, h2, a, b, rfl⟩ := w2.at_ _ hm
    have ey := dp_int hy
    subst ey
    rcases hj with rfl | rfl
    · exact .inl ⟨p, [.int a, .int b], 0, .int a, rfl, rfl, SqL.of h2, rfl, q _ G2 H2 (e1.trans e2) w2 ⟨a, .int a⟩⟩
    · exact .inl ⟨p, [.int a, .int b], 1, .int b, rfl, rfl, SqL.of h2, rfl, q _ G2 H2 (e1.trans e2) w2 ⟨b, .int b⟩⟩
/-- box[0] = .., box[1] = .. -/
theorem go_box {j : Int} (hv : Ev Γ M te (tI K)) (ho : Ev Γ M to (tV (.ref p))) (hm : (p, cBox) ∈ M) (hb : Ev Γ M tb (tD K (.int j))) (hj : j = 0 ∨ j = 1) (k : Nx D G0 Γ M) : Go Γ M (tAsg te (gSub to tb rSetL)) D G0 := fun G σ H e s w =>
  hv G σ H s w _ fun v G1 H1 e1 w1 ⟨c, hc⟩ => ho G1 σ H1 (s.mono e1) w1 _ fun x G2 H2 e2 w2 hx => hb G2 σ H2 (s.mono (e1.trans e2)) w2 _ fun y G3 H3 e3 w3 hy => by
    have ec := dp_int hc
    have ey := dp_int hy
    have ex : x = .ref p := hx
    subst ec ey ex
    obtain ⟨_, o, h2, a, b, rfl⟩ := w3.at_ _ hm
    rcases hj with rfl | rfl
    · exact ⟨p, [.int a, .int b], 0, 0, rfl, rfl, h2, rfl, k G3 σ _ (((e.trans e1).trans e2).trans e3) (s.mono ((e1.trans e2).trans e3)) (w3.write hm ⟨c, b, rfl⟩)⟩
    · exact ⟨p, [.int a, .int b], 1, 1, rfl, rfl, h2, rfl, k G3 σ _ (((e.trans e1).trans e2).trans e3) (s.mono ((e1.trans e2).trans e3)) (w3.write hm ⟨a, c, rfl⟩)⟩
theorem ev_modI {j : Int} (ha : Ev Γ M ta (tI K)) (hb : Ev Γ M tb (tD K (.int j))) (hj : 0 < j) : Ev Γ M (tOp (rI (fun _ j => 0 < j) fun i j => .int (i % j)) ta tb) (tI K) := ev_op ha hb fun G H x y w ⟨i, hx⟩ hy Q q => ⟨i, j, dp_int hx, dp_int hy, hj, q _ G H (Same.refl _) w ⟨_, .int _⟩⟩
theorem ev_mulR {j : Int} (ha : Ev Γ M ta (tI K)) (hb : Ev Γ M tb (tD K (.int j))) (hj : -(2 ^ 64) < j ∧ j < 2 ^ 64) : Ev Γ M (tOp (rI CMul fun i j => .int (i * j)) ta tb) (tI K) := ev_op ha hb fun G H x y w ⟨i, hx⟩ hy Q q => ⟨i, j, dp_int hx, dp_int hy, .inr hj, q _ G H (Same.refl _) w ⟨_, .int _⟩⟩
theorem ev_divI {j : Int} (ha : Ev Γ M ta (tI K)) (hb : Ev Γ M tb (tD K (.int j))) (hj : j ≠ 0 ∧ j.natAbs < 1073741824) : Ev Γ M (tOp (rI CDivN fun i j => .int (i.fdiv j)) ta tb) (tI K) := ev_op ha hb fun G H x y w ⟨i, hx⟩ hy Q q => ⟨i, j, dp_int hx, dp_int hy, hj, q _ G H (Same.refl _) w ⟨_, .int _⟩⟩
theorem ev_absAny (ha : Ev Γ M ta (tI K)) : Ev Γ M (tCB rAbsI (tCons ta tNil)) (tI K) := ev_cb (ea_cons ha ea_nil) fun G H vs w h Q q => by
  cases h with
  | cons hx hr => cases hr; obtain ⟨i, hx⟩ := hx; exact ⟨i, by rw [dp_int hx], q _ G H (Same.refl _) w ⟨_, .int _⟩⟩
/-- a test of any int against a told one -/
theorem et_any {c : Int → Int → Bool} {j : Int} (ha : Ev Γ M ta (tI K)) (hb : Ev Γ M tb (tD K (.int j))) : EvT Γ M (tTest (tOp (rI0 fun i j => .bl (c i j)) ta tb)) (fun _ => True) := fun G σ H s w Q q =>
  ha G σ H s w _ fun x G1 H1 e1 w1 ⟨i, hx⟩ => hb G1 σ H1 (s.mono e1) w1 _ fun y G2 H2 e2 w2 hy => ⟨i, j, dp_int hx, dp_int hy, ⟨_, rfl, q _ G2 H2 (e1.trans e2) w2 trivial⟩⟩
/-- return [x, y], both ints: a box -/
theorem go_retBoxA (h : EvA Γ M tA [tI K, tI K]) (k : ∀ p G' H', Same G0 G' → Wd G' ((p, cBox) :: M) H' → D.rt (.ref p) H') : Go Γ M (tRet (tLst tA)) D G0 := by
  intro G σ H e s w
  refine h G σ H s w _ ?_
  intro vs G1 H1 e1 w1 h1
  cases h1 with
    | cons hx hr =>
      cases hr with
      | cons hy hr =>
        cases hr
        obtain ⟨i, hx⟩ := hx
        obtain ⟨j, hy⟩ := hy
        have ex := dp_int hx
        have ey := dp_int hy
        subst ex ey
        exact ⟨by rw [sizeLine_eq]; exact (by decide : 2 ≤ 16777216), fun p hp => k p G1 _ (e.trans e1) (w1.own hp ⟨i, j, rfl⟩)⟩
theorem go_retBox (ha : Ev Γ M ta (tI K)) (hb : Ev Γ M tb (tI K)) (k : ∀ p G' H', Same G0 G' → Wd G' ((p, cBox) :: M) H' → D.rt (.ref p) H') : Go Γ M (tRet (tLst (tCons ta (tCons tb tNil)))) D G0 := go_retBoxA (ea_cons ha (ea_cons hb ea_nil)) k
theorem ev_take (ho : Ev Γ M ta (tV (.ref p))) (hb : Ev Γ M tb (tN K m)) (hm : (p, cBox) ∈ M) (h0 : 0 < m) (h1 : m < 1000000) : Ev Γ M (tCall (sp_Ltake K mg) [] E (tCons ta (tCons tb tNil))) (tNB K m) :=
  ev_call (⟨p, m⟩ : TakeA) (ea_cons ho (ea_cons hb ea_nil)) ⟨h0, h1⟩ (fun c hc => by
    cases hc with
    | head => exact hm
    | tail _ hc => cases hc) (fun _ _ _ z => z)
end
section
variable {P : Program} {w : World} {K : PySem.W.Frag} {mg : Str → Option Value} {base : Heap}
theorem ok_Lbox (T : Prg P K mg) : Callee P w K mg base 1 "_law_box" ["_law_script", "_law_k"] (sp_Lbox K mg) := by
  refine T.d_Lbox.okC sc_Lbox (fun _ _ _ _ _ _ us hl => match us, hl with | [_, _], _ => rfl) (fun _ => rfl) ?_
  intro f cdv B outer s H Q E hr
  have hu := hu_of hr
  have hu64 := hu64_of hr
  refine ⟨_, (pss_cons (ps_set (i := 2) sc_Lbox.nd rfl (Or.inl rfl) (pe_op op_add (pe_op op_mul pe_int (pv 1)) pe_int))
      (C8.pss_cut (ps_if (pt_cmpR op_lt (pv 1) (pe_callB (lenK K) rfl T.n_len (by decide +kernel) (pa_cons (pv 0) pa_nil)) (nomark _)) (pss_one (ps_set (i := 2) sc_Lbox.nd rfl (Or.inl rfl) (pe_callB absR rfl T.n_abs (by decide +kernel) (pa_cons (pe_callTy intR rfl T.n_int (by decide +kernel) (pa_cons (ixK K (pv 0) (pv 1)) pa_nil)) pa_nil)))) (pss_one (ps_if (pt_cmpR op_gt (pe_callB (lenK K) rfl T.n_len (by decide +kernel) (pa_cons (pv 0) pa_nil)) pe_int (nomark _)) (pss_one (ps_set (i := 2) sc_Lbox.nd rfl (Or.inl rfl) (pe_op op_add (pv 2) (pe_op op_mul (pe_op op_mod (pe_callTy intR rfl T.n_int (by decide +kernel) (pa_cons (pe_callB absR rfl T.n_abs (by decide +kernel) (pa_cons (pe_callTy intR rfl T.n_int (by decide +kernel) (pa_cons (ixK K (pv 0) (pe_op op_mod (pe_callTy intR rfl T.n_int (by decide +kernel) (pa_cons (pv 1) pa_nil)) (pe_callB (lenK K) rfl T.n_len (by decide +kernel) (pa_cons (pv 0) pa_nil)))) pa_nil)) pa_nil)) pa_nil)) pe_int) pe_int)))) pss_nil)))
      (pss_cons (ps_set (i := 3) sc_Lbox.nd rfl (Or.inl rfl) (pe_ifExp (pt_cmpR op_ge (pv 2) (pe_op op_pow pe_int pe_int) (nomark _)) (pv 2) pe_int))
      (pss_one (ps_ret (pe_lst (pa_cons (pv 3) (pa_cons (pe_op op_add (pe_op op_mod (pe_callTy intR rfl T.n_int (by decide +kernel) (pa_cons (pe_op op_add (pe_op op_mul (pe_op op_mod (pe_callTy intR rfl T.n_int (by decide +kernel) (pa_cons (pv 2) pa_nil)) pe_int) pe_int) (pe_op op_mul pe_int (pv 1))) pa_nil)) pe_int) pe_int) pa_nil)))))))), ?_⟩
  intro a G M hp hret
  obtain ⟨l, k⟩ := a
  obtain ⟨hz, hk⟩ := hp
  have hz' : l.length ≤ 1000000 := hz
  have hk' : k < 1000 := hk
  have hlen : ∀ {Γ : Gam} {M : Mem}, Γ[0]? = some (some (tD K (.list (iL l)))) → Ev Γ M (tCB (rLenQ K) (tCons (tVar 0) tNil)) (tN K l.length) := fun h => ev_to (ev_len (ev_lQ (ev_var h))) (by unfold iL; rw [List.length_map])
  have hat : ∀ {Γ : Gam} {M : Mem} {tb : TE} {j : Nat}, Γ[0]? = some (some (tD K (.list (iL l)))) → j < l.length → Ev Γ M tb (tN K j) → Ev Γ M (tOp (rIx K) (tVar 0) tb) (tI K) := fun {Γ M tb j} h hj hb => by
    have r := ev_ixX (K := K) (ds := iL l) (d := .int l[j]) (ev_lQ (ev_var h)) hb (by unfold iL; rw [List.getElem?_map, List.getElem?_eq_getElem hj]; rfl)
    exact ev_I r
  refine go_set (T := tI K) (ev_anyR0 (f := fun i j => i + j) (j := 773) (ev_I (i := 6653 * (k : Int)) (ev_mul (ev_int (i := 6653)) (ev_var (i := 1) (T := tN K k) rfl) (.inl (by decide)))) ev_int) ?_
  refine go_cutK (fun _ : Unit => [some (tD K (.list (iL l))), some (tN K k), some (tI K), none]) (fun _ => M) (fun _ => True) ?_ fun _ _ => ?_
  · have nx : ∀ {D : Ends}, Nx { D with nx := Sat G (fun _ : Unit => [some (tD K (.list (iL l))), some (tN K k), some (tI K), none]) (fun _ => M) (fun _ => True) } G [some (tD K (.list (iL l))), some (tN K k), some (tI K), none] M := fun {D} => nx_endW () trivial (Le.refl _) rfl
    by_cases hkl : k < l.length
    · refine go_if (P := (· = decide (k < l.length))) (et_t (ev_ltN (ev_var rfl) (hlen rfl)) rfl) (fun _ => go_asg (T := tI K) (ev_absAny (ev_intAny (hat rfl hkl (ev_var rfl)))) nx) fun z => ?_
      rw [decide_eq_true hkl] at z
      cases z
    · refine go_if (P := (· = decide (k < l.length))) (et_t (ev_ltN (ev_var rfl) (hlen rfl)) rfl) (fun z => ?_) fun _ => ?_
      · rw [decide_eq_false hkl] at z
        cases z
      · by_cases h0 : 0 < l.length
        · have hmod : k % l.length < l.length := Nat.mod_lt _ h0
          refine go_if (P := (· = decide (0 < l.length))) (et_t (ev_gtN (b := 0) (hlen rfl) ev_int) rfl) (fun _ => go_asg (T := tI K) ?_ nx) fun z => ?_
          · refine ev_any0 (f := fun i j => i + j) (ev_var rfl) (ev_mulR (ev_modI (ev_intAny (ev_absAny (ev_intAny (hat rfl hmod ?_)))) ev_int (by decide)) ev_int (by decide))
            exact ev_to (ev_mod (i := (k : Int)) (j := (l.length : Int)) (ev_intI (ev_var rfl)) (hlen rfl) (by omega)) rfl
          · rw [decide_eq_true h0] at z
            cases z
        · refine go_if (P := (· = decide (0 < l.length))) (et_t (ev_gtN (b := 0) (hlen rfl) ev_int) rfl) (fun z => ?_) fun _ => go_next nx
          rw [decide_eq_false h0] at z
          cases z
  · refine go_set (T := tI K) (ev_if (et_any (ev_var (i := 2) rfl) (ev_pow (i := 10) (j := 18) ev_int ev_int ⟨by decide, by decide, by decide⟩)) (fun _ => ev_var (i := 2) rfl) fun _ => ev_I ev_int) ?_
    exact go_retBox (ev_var rfl) (ev_anyR0 (f := fun i j => i + j) (ev_modI (ev_intAny (ev_any0 (f := fun i j => i + j) (ev_mulR (ev_modI (ev_intAny (ev_var rfl)) ev_int (by decide)) ev_int (by decide)) (ev_I (i := 773 * (k : Int)) (ev_mul (ev_int (i := 773)) (ev_var (i := 1) (T := tN K k) rfl) (.inl (by decide)))))) ev_int (by decide)) ev_int) fun p G' H' e' w' => hret p G' H' e' w'
theorem ok_Ltake (T : Prg P K mg) : Callee P w K mg base 1 "_law_take" ["_law_box_here", "_law_many"] (sp_Ltake K mg) := by
  refine T.d_Ltake.ok sc_Ltake (fun _ _ _ _ _ _ us hl => match us, hl with | [_, _], _ => rfl) (fun _ => rfl) ?_
  intro f cdv B outer s H Q E hr
  have hu := hu_of hr
  have hu64 := hu64_of hr
  refine ⟨_, (pss_cons (ps_if (pt_cmpR op_gt (ixK K (pv 0) pe_int) pe_int (nomark _)) (pss_cons (ps_set (i := 2) sc_Ltake.nd rfl (Or.inl rfl) (pe_op op_mod (pe_callTy intR rfl T.n_int (by decide +kernel) (pa_cons (ixK K (pv 0) pe_int) pa_nil)) (pv 1)))
      (pss_cons (ps_asg (pe_op op_fdivN (ixK K (pv 0) pe_int) (pv 1)) (pg_sub (pv 0) pe_int set_list))
      (pss_one (ps_ret (pv 2))))) pss_nil)
      (pss_cons (ps_set (i := 3) sc_Ltake.nd rfl (Or.inl rfl) (pe_op op_mod (pe_callTy intR rfl T.n_int (by decide +kernel) (pa_cons (pe_op op_add (pe_op op_mul (ixK K (pv 0) pe_int) pe_int) pe_int) pa_nil)) pe_int))
      (pss_cons (ps_asg (pe_op op_add (pe_op op_mod (pe_callTy intR rfl T.n_int (by decide +kernel) (pa_cons (pe_op op_add (pe_op op_mul (pv 3) pe_int) pe_int) pa_nil)) pe_int) pe_int) (pg_sub (pv 0) pe_int set_list))
      (pss_one (ps_ret (pe_op op_mod (pe_callTy intR rfl T.n_int (by decide +kernel) (pa_cons (pe_op op_fdivN (pe_op op_add (pe_op op_mul (pv 3) pe_int) (ixK K (pv 0) pe_int)) pe_int) pa_nil)) (pv 1))))))), ?_⟩
  intro a G M hp hc hret hexc
  obtain ⟨p, m⟩ := a
  obtain ⟨h0, h1⟩ := hp
  have h0' : 0 < m := h0
  have h1' : m < 1000000 := h1
  have hb : (p, cBox) ∈ M := hc _ List.mem_cons_self
  refine go_ifs (P := fun _ => True) (et_any (ev_box (j := 0) (ev_var rfl) hb ev_int (.inl rfl)) ev_int) (fun _ => ?_) fun _ => ?_
  · refine go_setX (T := fun r : { r : Nat // r < m } => tN K r.1) (ev_modN (ev_intAny (ev_box (j := 0) (ev_var rfl) hb ev_int (.inl rfl))) (ev_var rfl) h0') fun r => ?_
    refine go_seq (go_box (j := 0) (ev_divI (j := (m : Int)) (ev_box (j := 0) (ev_var rfl) hb ev_int (.inl rfl)) (ev_var rfl) (by omega)) (ev_var rfl) hb ev_int (.inl rfl) (go_nx ?_))
    exact go_ret (ev_var rfl) fun v G' H' e' w' t => hret v G' H' e' w' ⟨r, t⟩
  · refine go_set (T := tI K) (ev_modI (ev_intAny (ev_anyR0 (f := fun i j => i + j) (ev_mulR (ev_box (j := 1) (ev_var rfl) hb ev_int (.inr rfl)) ev_int (by decide)) ev_int)) ev_int (by decide)) ?_
    refine go_seq (go_box (j := 1) (ev_anyR0 (f := fun i j => i + j) (ev_modI (ev_intAny (ev_anyR0 (f := fun i j => i + j) (ev_mulR (ev_var rfl) ev_int (by decide)) ev_int)) ev_int (by decide)) ev_int) (ev_var rfl) hb ev_int (.inr rfl) (go_nx ?_))
    exact go_ret (ev_modN (ev_intAny (ev_divI (j := 8209) (ev_any0 (f := fun i j => i + j) (ev_mulR (ev_var rfl) ev_int (by decide)) (ev_box (j := 1) (ev_var rfl) hb ev_int (.inr rfl))) ev_int (by decide))) (ev_var rfl) h0') hret
end
end Ag
set_option Elab.async false
set_option linter.all false
set_option maxRecDepth 100000
set_option maxHeartbeats 2000000
/-! Ag15: what is drawn. -/
namespace Ag
open PySem PySem.Spec PyProof.Rows L2
/-! ### shapes -/
theorem canAll_nL : ∀ l : List Nat, PyData.canLayAll0 (nL l) = true
  | [] => by unfold nL; simp [PyData.canLayAll0]
  | a :: l => by
    have ih := canAll_nL l
    unfold nL at ih ⊢
    rw [List.map_cons]
    simp only [PyData.canLayAll0, PyData.canLay0, ih, Bool.and_self]
theorem depthAll_nL : ∀ l : List Nat, PyData.depthAll (nL l) = 0
  | [] => by unfold nL; simp [PyData.depthAll]
  | a :: l => by
    have ih := depthAll_nL l
    unfold nL at ih ⊢
    rw [List.map_cons]
    simp only [PyData.depthAll, PyData.depth, ih]
    rfl
theorem shaped_L (l : List Nat) : SeqAt.shaped (.list (nL l)) = true := by
  unfold SeqAt.shaped
  simp only [PyData.canLay0, PyData.depth, canAll_nL, depthAll_nL]
  rfl
theorem shaped_E : SeqAt.shaped (.list []) = true := shaped_L []
theorem eqvAll_nL : ∀ l : List Nat, PyData.eqv (.list (nL l)) (.list []) = l.isEmpty
  | [] => by unfold nL; simp [PyData.eqv, PyData.eqvAll]
  | a :: l => by unfold nL; rw [List.map_cons]; simp [PyData.eqv, PyData.eqvAll]
/-! ### numbers of which something is known -/
def tNP (K : FR) (P : Nat → Prop) : Ty := tEx fun r : { r : Nat // P r } => tN K r.1
structure PkA where
  p : Addr
  ds : List PyData
abbrev sp_Lpick (K : FR) (mg : MG) : Sp := PrX (fun a : PkA => 0 < a.ds.length ∧ a.ds.length < 1000000) (fun a => [(a.p, cBox)]) (fun a => [tV (.ref a.p), tD K (.list a.ds)]) (fun a => tEx fun d : { d : PyData // d ∈ a.ds } => tD K d.1) (fun _ => xNo)
def RowOk (n : Nat) (l : List Nat) : Prop := l.length = n ∧ ∀ x ∈ l, x < n
abbrev sp_Ltables (K : FR) (mg : MG) : Sp := PrX (fun _ : Addr => True) (fun p => [(p, cBox)]) (fun p => [tV (.ref p), tN K 5]) (fun _ => tEx fun a : { a : TabA // OkT a.tabs a.n ∧ a.tabs.length ≤ 3 ∧ 2 ≤ a.n ∧ a.n ≤ 5 } => tD K (.list (tbD a.1.tabs))) (fun _ => xNo)
structure LgA where
  p : Addr
  deeds : Nat
abbrev sp_Llog (K : FR) (mg : MG) : Sp := PrX (fun a : LgA => 0 < a.deeds ∧ a.deeds < 1000) (fun a => [(a.p, cBox)]) (fun a => [tV (.ref a.p), tN K a.deeds, tN K 9]) (fun a => tEx fun l : { l : List Nat // l.length ≤ 9 ∧ ∀ x ∈ l, x < a.deeds } => tD K (.tuple (nL l.1))) (fun _ => xNo)
section
variable {K : FR} {mg : MG} {Γ Γ' : Gam} {M : Mem} {ta tb tc to te t1 t2 tv : TE} {tA : TA} {E : XK} {d : PyData} {G0 : Hp} {D : Ends} {g : TG} {T U R T1 T2 : Ty} {vs : List Nat} {ts tu1 tu2 tbd : TS} {p : Addr} {i j : Nat} {wi : TI} {Ti : Nat → Ty} {n m : Nat} {tt : TT}
theorem ev_pick {ds : List PyData} (ho : Ev Γ M ta (tV (.ref p))) (hb : Ev Γ M tb (tD K (.list ds))) (hm : (p, cBox) ∈ M) (h0 : 0 < ds.length) (h1 : ds.length < 1000000) : Ev Γ M (tCall (sp_Lpick K mg) [] E (tCons ta (tCons tb tNil))) (tEx fun d : { d : PyData // d ∈ ds } => tD K d.1) :=
  ev_call (⟨p, ds⟩ : PkA) (ea_cons ho (ea_cons hb ea_nil)) ⟨h0, h1⟩ (fun c hc => by
    cases hc with
    | head => exact hm
    | tail _ hc => cases hc) (fun _ _ _ z => z)
theorem ev_NB_I (h : Ev Γ M te (tNB K m)) : Ev Γ M te (tI K) := ev_mono h fun G v ⟨r, hr⟩ => ⟨_, hr⟩
theorem ev_N_I (h : Ev Γ M te (tN K m)) : Ev Γ M te (tI K) := ev_I h
theorem ev_N_NB (h : Ev Γ M te (tN K n)) (hn : n < m) : Ev Γ M te (tNB K m) := ev_mono h fun G v t => ⟨⟨n, hn⟩, t⟩
theorem ev_NB_NP {P : Nat → Prop} (h : Ev Γ M te (tNB K m)) (k : ∀ r, r < m → P r) : Ev Γ M te (tNP K P) := ev_mono h fun G v ⟨r, hr⟩ => ⟨⟨r.1, k r.1 r.2⟩, hr⟩
theorem ev_addNP {P Q : Nat → Prop} (ha : Ev Γ M ta (tN K n)) (hb : Ev Γ M tb (tNP K P)) (k : ∀ r, P r → Q (n + r)) : Ev Γ M (tOp (rI0 fun i j => .int (i + j)) ta tb) (tNP K Q) := ev_op ha hb fun G H x y w hx ⟨⟨r, hr⟩, hy⟩ Q' q => by
  refine ⟨n, r, dp_int hx, dp_int hy, q _ G H (Same.refl _) w ⟨⟨n + r, k r hr⟩, ?_⟩⟩
  exact .int _
theorem et_eqII (ha : Ev Γ M ta (tI K)) (hb : Ev Γ M tb (tI K)) : EvT Γ M (tTest (tOp (rEqD K) ta tb)) (fun _ => True) := fun G σ H s w Q q =>
  ha G σ H s w _ fun x G1 H1 e1 w1 ⟨i, hx⟩ => hb G1 σ H1 (s.mono e1) w1 _ fun y G2 H2 e2 w2 ⟨j, hy⟩ =>
    ⟨.int i, .int j, by rw [dp_int hx]; exact .int i, by rw [dp_int hy]; exact .int j, rfl, rfl, ⟨_, rfl, q _ G2 H2 (e1.trans e2) w2 trivial⟩⟩
theorem et_anyAnd {tu : TT} (h1 : EvT Γ M tt (fun _ => True)) (h2 : EvT Γ M tu (fun _ => True)) : EvT Γ M (tAnd tt tu) (fun _ => True) := et_andP h1 (fun _ => h2) (fun _ _ _ => trivial) fun _ => trivial
/-- a for over range(e) where e is only known to be of some values -/
theorem go_forR {P : Nat → Prop} (h : Ev Γ M ta (tNP K P)) (k : ∀ r, P r → Go Γ M (tFor (iRng1 (tCons (tC (.int (r : Int))) tNil)) g tbd) D G0) : Go Γ M (tFor (iRng1 (tCons ta tNil)) g tbd) D G0 := fun G σ H e s w =>
  h G σ H s w _ fun v G1 H1 e1 w1 ⟨⟨r, hr⟩, hv⟩ => by
    have ev := dp_int hv
    subst ev
    exact k r hr G1 σ H1 (e.trans e1) (s.mono e1) w1
theorem ev_lcRX {P : Nat → Prop} (h : Ev Γ M ta (tNP K P)) (k : ∀ r, P r → Ev Γ M (tLc (iRng1 (tCons (tC (.int (r : Int))) tNil)) g tt te vs) T) : Ev Γ M (tLc (iRng1 (tCons ta tNil)) g tt te vs) T := fun G σ H s w Q q =>
  h G σ H s w _ fun v G1 H1 e1 w1 ⟨⟨r, hr⟩, hv⟩ => by
    have ev := dp_int hv
    subst ev
    exact k r hr G1 σ H1 (s.mono e1) w1 Q fun v G' H' e' w' t => q v G' H' (e1.trans e') w' t
/-- a list of numbers below m -/
theorem ev_lcNB (hI : It1 Γ M wi n Ti) (hz : n ≤ 1000000) (Γt : Nat → Gam) (hT : ∀ i, i < n → Tg g (Ti i) (wipeG Γ vs) (Γt i) vs) (he : ∀ i, i < n → ∀ M', Sub M M' → Ev (Γt i) M' te (tNB K m)) :
    Ev Γ M (tLc wi g tYes te vs) (tEx fun l : { l : List Nat // l.length = n ∧ ∀ x ∈ l, x < m } => tL K (nL l.1)) := by
  refine ev_mono (ev_lcG (K := K) (fun i ds => ∃ l : List Nat, ds = nL l ∧ l.length = i ∧ ∀ x ∈ l, x < m) (fun _ b => b = true) (fun _ d => ∃ r, d = nI r ∧ r < m) hI hz Γt hT ⟨[], rfl, rfl, fun x hx => nomatch hx⟩ (fun i hi M' hM => et_yes) (fun i hi _ M' hM => ev_mono (he i hi M' hM) fun G v ⟨r, hr⟩ => ⟨⟨nI r.1, r.1, rfl, r.2⟩, hr⟩) (fun i ds d hi _ ok _ pd => ?_) fun i ds hi ok p => ?_) fun G v ⟨⟨ds, l, e, h1, h2⟩, h⟩ => ?_
  · obtain ⟨l, e, h1, h2⟩ := ok
    obtain ⟨r, e2, h3⟩ := pd
    refine ⟨l ++ [r], by rw [e, e2, ← nL_app]; rfl, by rw [List.length_append, h1]; rfl, fun x hx => ?_⟩
    rcases List.mem_append.mp hx with h | h
    · exact h2 x h
    · rcases List.mem_singleton.mp h with rfl
      exact h3
  · cases p
  · have h' : (tL K ds).p G v := h
    subst e
    exact ⟨⟨l, h1, h2⟩, h'⟩
/-- of range(n), whichever are let in -/
theorem ev_lcSub {j : Nat} (h : Ev Γ M ta (tN K n)) (hz : n ≤ 1000000) (hj : j < Γ.length) (ht : ∀ k, k < n → ∀ M', Sub M M' → EvT ((wipeG Γ [j]).set j (some (tN K k))) M' tt (fun _ => True)) :
    Ev Γ M (tLc (iRng1 (tCons ta tNil)) (gName j) tt (tVar j) [j]) (tEx fun l : { l : List Nat // l.Pairwise (· < ·) ∧ ∀ x ∈ l, x < n } => tL K (nL l.1)) := by
  refine ev_mono (ev_lcG (K := K) (fun i ds => ∃ l : List Nat, ds = nL l ∧ l.Pairwise (· < ·) ∧ ∀ x ∈ l, x < i) (fun _ _ => True) (fun i d => d = nI i) (it_rng1 h hz) hz (fun i => (wipeG Γ [j]).set j (some (tN K i))) (fun i hi => tg_name) ⟨[], rfl, .nil, fun x hx => nomatch hx⟩ (fun i hi M' hM => ht i hi M' hM) (fun i hi _ M' hM => ev_mono (ev_var (T := tN K i) ?_) fun G v t => ⟨⟨nI i, rfl⟩, t⟩) (fun i ds d hi _ ok _ pd => ?_) fun i ds hi ok p => ?_) fun G v ⟨⟨ds, l, e, h1, h2⟩, h⟩ => ?_
  · rw [List.getElem?_set_self (by rw [wipeG_len]; exact hj)]
  · obtain ⟨l, e, h1, h2⟩ := ok
    subst pd
    refine ⟨l ++ [i], by rw [e, ← nL_app]; rfl, List.pairwise_append.mpr ⟨h1, List.pairwise_singleton _ _, fun a ha b hb => ?_⟩, fun x hx => ?_⟩
    · rcases List.mem_singleton.mp hb with rfl
      exact h2 a ha
    · rcases List.mem_append.mp hx with h | h
      · have := h2 x h; omega
      · rcases List.mem_singleton.mp h with rfl
        omega
  · obtain ⟨l, e, h1, h2⟩ := ok
    exact ⟨l, e, h1, fun x hx => by have := h2 x hx; omega⟩
  · have h' : (tL K ds).p G v := h
    subst e
    exact ⟨⟨l, h1, h2⟩, h'⟩
theorem rc_tupleOf {ds : List PyData} : RvC M (rTupleOf K) [tQ K ds] (tD K (.tuple ds)) := fun G H vs w h Q q => by
  cases h with
  | cons hx hr =>
    cases hr
    obtain ⟨a, xs, rfl, hs, hd⟩ := tQ_at hx
    refine ⟨a, xs, rfl, hs.elim (fun hs => .inl ⟨SqL.mono w.le hs, fun p hp => ?_⟩) fun hs => .inr ⟨SqT.mono w.le hs, q _ G H (Same.refl _) w (.tup hs hd)⟩⟩
    obtain ⟨w2, e2⟩ := w.alloc hp (.tup xs)
    exact q _ _ _ e2 w2 (.tup (SqT.of upd_same) (DpAll.mono e2 hd))
theorem ev_tupleX {α : Type} {f : α → List PyData} (h : Ev Γ M ta (tEx fun a => tL K (f a))) : Ev Γ M (tCB (rTupleOf K) (tCons ta tNil)) (tEx fun a => tD K (.tuple (f a))) := ev_cb (ea_cons h ea_nil) fun G H vs w ht Q q => by
  cases ht with
  | cons hx hr =>
    cases hr
    obtain ⟨a, hx⟩ := hx
    exact rc_tupleOf (ds := f a) G H _ w (.cons (.inl (tL_D hx)) .nil) Q fun v G' H' e' w' t => q v G' H' e' w' ⟨a, t⟩
/-- x, y = (e, f) -/
theorem go_pair (h1 : Ev Γ M t1 T1) (h2 : Ev Γ M t2 T2) (k : Nx D G0 ((Γ.set i (some T1)).set j (some T2)) M) : Go Γ M (tAsg (tTup (tCons t1 (tCons t2 tNil))) (gTup K 2 (gCons (gName i) (gCons (gName j) gNil)))) D G0 := fun G σ H e s w =>
  h1 G σ H s w _ fun v1 G1 H1 e1 w1 hv1 => h2 G1 σ H1 (s.mono e1) w1 _ fun v2 G2 H2 e2 w2 hv2 => by
    refine ⟨by rw [sizeLine_eq]; exact (by decide : 2 ≤ 16777216), fun p hp => ?_⟩
    obtain ⟨w3, e3⟩ := w2.alloc hp (.tup [v1, v2])
    refine ⟨p, [v1, v2], rfl, SqT.of upd_same, rfl, v1, [v2], rfl, v2, [], rfl, rfl, ?_⟩
    exact k _ _ _ (((e.trans e1).trans e2).trans e3) (((s.mono ((e1.trans e2).trans e3)).set i (T := T1) (T1.mono (e2.trans e3) hv1)).set j (T := T2) (T2.mono e3 hv2)) w3
/-- x, y = (e, []), the list to grow -/
theorem go_pairOwn (h1 : Ev Γ M t1 T1) (k : ∀ q, Nx D G0 ((Γ.set i (some T1)).set j (some (tV (.ref q)))) ((q, cL K []) :: M)) : Go Γ M (tAsg (tTup (tCons t1 (tCons (tLst tNil) tNil))) (gTup K 2 (gCons (gName i) (gCons (gName j) gNil)))) D G0 := fun G σ H e s w =>
  h1 G σ H s w _ fun v1 G1 H1 e1 w1 hv1 => by
    refine ⟨by rw [sizeLine_eq]; exact (by decide : 0 ≤ 16777216), fun q hq => ⟨by rw [sizeLine_eq]; exact (by decide : 2 ≤ 16777216), fun p hp => ?_⟩⟩
    have w2 : Wd G1 ((q, cL K []) :: M) (upd H1 q (.lst [])) := w1.own hq ⟨[], rfl, .nil⟩
    obtain ⟨w3, e3⟩ := w2.alloc hp (.tup [v1, .ref q])
    refine ⟨p, [v1, .ref q], rfl, SqT.of upd_same, rfl, v1, [.ref q], rfl, .ref q, [], rfl, rfl, ?_⟩
    exact k q _ _ _ ((e.trans e1).trans e3) (((s.mono (e1.trans e3)).set i (T := T1) (T1.mono e3 hv1)).set j (T := tV (.ref q)) rfl) w3
end
section
variable {P : Program} {w : World} {K : PySem.W.Frag} {mg : Str → Option Value} {base : Heap}
theorem ok_Lpick (T : Prg P K mg) : Callee P w K mg base 2 "_law_pick" ["_law_box_here", "_law_some"] (sp_Lpick K mg) := by
  refine T.d_Lpick.ok sc_Lpick (fun _ _ _ _ _ _ us hl => match us, hl with | [_, _], _ => rfl) (fun _ => rfl) ?_
  intro f cdv B outer s H Q E hr
  have hu := hu_of hr
  have hu64 := hu64_of hr
  refine ⟨_, (pss_one (ps_ret (ixK K (pv 1) (pcallG (ok_Ltake T) hr passL (pa_cons (pv 0) (pa_cons (pe_callB (lenK K) rfl T.n_len (by decide +kernel) (pa_cons (pv 1) pa_nil)) pa_nil)))))), ?_⟩
  intro a G M hp hc hret hexc
  obtain ⟨p, ds⟩ := a
  obtain ⟨h0, h1⟩ := hp
  have h0' : 0 < ds.length := h0
  have h1' : ds.length < 1000000 := h1
  refine go_ret (T := tEx fun d : { d : PyData // d ∈ ds } => tD K d.1) (ev_op (T := tD K (.list ds)) (U := tNB K ds.length) (ev_var rfl) (ev_take (ev_var rfl) (ev_len (ev_lQ (ev_var rfl))) (hc _ List.mem_cons_self) h0' h1') fun G2 H2 x y w2 hx ⟨r, hy⟩ Q2 q2 => ?_) hret
  have ey := dp_int hy
  subst ey
  cases (show Dp K G2 x (.list ds) from hx) with
  | @lst a xs _ hs hd =>
    obtain ⟨v, h3, h4⟩ := at_dp hd (at_nat r.2)
    exact .inl ⟨a, xs, _, v, rfl, rfl, SqL.mono w2.le hs, h3, q2 v G2 H2 (Same.refl _) w2 ⟨⟨dAt ds r.1, List.mem_iff_getElem?.mpr ⟨r.1, dAt_lt r.2⟩⟩, h4⟩⟩
theorem ok_Llog (T : Prg P K mg) : Callee P w K mg base 2 "_law_log" ["_law_box_here", "_law_deeds", "_law_most_here"] (sp_Llog K mg) := by
  refine T.d_Llog.ok sc_Llog (fun _ _ _ _ _ _ us hl => match us, hl with | [_, _, _], _ => rfl) (fun _ => rfl) ?_
  intro f cdv B outer s H Q E hr
  have hu := hu_of hr
  have hu64 := hu64_of hr
  refine ⟨_, (pss_one (ps_ret (pe_callTy (tupleK K) rfl T.n_tuple (by decide +kernel) (pa_cons (pe_lc rfl sc_Llog.nd (pi_range1 rfl T.n_range (pa_cons (pcallG (ok_Ltake T) hr passL (pa_cons (pv 0) (pa_cons (pe_op op_add (pv 2) pe_int) pa_nil))) pa_nil)) (blkOk_by (own := [("_law_turn", 3)]) (N := N_Llog) (sc := defScope s_Llog) (by decide +kernel)) (fun _ _ _ _ _ => (pg_name (i := 3) sc_Llog.nd rfl (Or.inl rfl))) (fun _ _ _ _ _ => pts_nil) (fun _ _ _ _ _ => (pcallG (ok_Ltake T) hr passL (pa_cons (pv 0) (pa_cons (pv 1) pa_nil))))) pa_nil)))), ?_⟩
  intro a G M hp hc hret hexc
  obtain ⟨p, deeds⟩ := a
  obtain ⟨h0, h1⟩ := hp
  have h0' : 0 < deeds := h0
  have h1' : deeds < 1000 := h1
  have hb : (p, cBox) ∈ M := hc _ List.mem_cons_self
  have hlc : Ev (g0 N_Llog [tV (.ref p), tN K deeds, tN K 9]) M (tLc (iRng1 (tCons (tCall (sp_Ltake K mg) [] E0 (tCons (tVar 0) (tCons (tOp (rI0 fun i j => .int (i + j)) (tVar 2) (tC (.int 1))) tNil))) tNil)) (gName 3) tYes (tCall (sp_Ltake K mg) [] E0 (tCons (tVar 0) (tCons (tVar 1) tNil))) [3]) (tEx fun l : { l : List Nat // l.length ≤ 9 ∧ ∀ x ∈ l, x < deeds } => tL K (nL l.1)) := by
    refine ev_lcRX (P := fun r => r ≤ 9) (ev_NB_NP (ev_take (m := 10) (ev_var rfl) (ev_addN (a := 9) (b := 1) (ev_var rfl) ev_int) hb (by decide) (by decide)) (fun r h => by omega)) fun r hr => ?_
    refine ev_mono (ev_lcNB (m := deeds) (it_rng1 (n := r) ev_int (by omega)) (by omega) (fun i => [some (tV (.ref p)), some (tN K deeds), some (tN K 9), some (tN K i)]) (fun i hi => tg_name) fun i hi M' hM => ev_take (ev_var rfl) (ev_var rfl) (hM _ hb) h0' (by omega)) fun G v ⟨⟨l, h2, h3⟩, h⟩ => ⟨⟨l, by omega, h3⟩, h⟩
  exact go_ret (ev_tupleX hlc) hret
end
end Ag
set_option Elab.async false
set_option linter.all false
set_option maxRecDepth 100000
set_option maxHeartbeats 2000000
/-! Ag16: tables, rows, starts, kept. -/
namespace Ag
open PySem PySem.Spec PyProof.Rows L2
def rwD (rows : List (List Nat)) : List PyData := rows.map fun r => .list (nL r)
theorem rwD_len (rows : List (List Nat)) : (rwD rows).length = rows.length := List.length_map ..
structure RwA where
  tabs : List (List Nat)
  n : Nat
  log : List Nat
abbrev sp_Lrows (K : FR) (mg : MG) : Sp := PrS (fun a : RwA => OkT a.tabs a.n ∧ OkL a.tabs a.log) (fun a => [tD K (.list (tbD a.tabs)), tD K (.tuple (nL a.log))]) (fun a => tD K (.list (rwD (rowsOf a.tabs a.n a.log))))
structure SdA where
  p : Addr
  n : Nat
abbrev sp_Lstarts (K : FR) (mg : MG) : Sp := PrX (fun a : SdA => 0 < a.n ∧ a.n ≤ 12) (fun a => [(a.p, cBox)]) (fun a => [tV (.ref a.p), tN K a.n]) (fun a => tEx fun s : { s : PyData × List Nat // GoodSt a.n s.1 s.2 } => tD K (.tuple [s.1.1, .list (nL s.1.2)])) (fun _ => xNo)
abbrev sp_Lkept (K : FR) (mg : MG) : Sp := PrX (fun a : SdA => a.n ≤ 100) (fun a => [(a.p, cBox)]) (fun a => [tV (.ref a.p), tN K a.n]) (fun a => tEx fun s : { s : PyData × List Nat // GoodKp a.n s.1 s.2 } => tD K (.tuple [s.1.1, .list (nL s.1.2)])) (fun _ => xNo)
theorem pw_asc {l : List Nat} (h : l.Pairwise (· < ·)) : asc l = true := by
  unfold asc
  rw [List.all_eq_true]
  intro i hi
  have := List.mem_range.mp hi
  exact decide_eq_true (pw_gt h i (i + 1) (by omega) (by omega))
theorem pw_len {l : List Nat} {n : Nat} (h : l.Pairwise (· < ·)) (hn : ∀ x ∈ l, x < n) : l.length ≤ n := by
  have hk : ∀ k, k < l.length → k ≤ gt l k := fun k => by
    induction k with
    | zero => exact fun _ => Nat.zero_le _
    | succ k ih => exact fun hk => Nat.lt_of_le_of_lt (ih (by omega)) (pw_gt h k (k + 1) (by omega) hk)
  cases e : l.length with
  | zero => omega
  | succ m =>
    have h1 := hk m (by omega)
    have h2 := hn _ (gt_mem (l := l) (i := m) (by omega))
    omega
section
variable {K : FR} {mg : MG} {Γ Γ' : Gam} {M : Mem} {ta tb tc to te t1 t2 tv : TE} {tA : TA} {E : XK} {d : PyData} {G0 : Hp} {D : Ends} {g : TG} {T U R T1 T2 : Ty} {vs : List Nat} {ts tu1 tu2 tbd : TS} {p : Addr} {i j : Nat} {wi : TI} {Ti : Nat → Ty} {n m : Nat} {tt : TT}
theorem ev_tup2X {α : Type} {f : α → PyData} {e : PyData} (h1 : Ev Γ M t1 (tEx fun a => tD K (f a))) (h2 : Ev Γ M t2 (tD K e)) : Ev Γ M (tTup (tCons t1 (tCons t2 tNil))) (tEx fun a => tD K (.tuple [f a, e])) := fun G σ H s w Q q =>
  h1 G σ H s w _ fun v1 G1 H1 e1 w1 ⟨a, hv1⟩ => h2 G1 σ H1 (s.mono e1) w1 _ fun v2 G2 H2 e2 w2 hv2 => by
    refine ⟨by rw [sizeLine_eq]; exact (by decide : 2 ≤ 16777216), fun p hp => ?_⟩
    obtain ⟨w3, e3⟩ := w2.alloc hp (.tup [v1, v2])
    exact q _ _ _ ((e1.trans e2).trans e3) w3 ⟨a, .tup (SqT.of upd_same) (.cons (Dp.mono (e2.trans e3) hv1) (.cons (Dp.mono e3 hv2) .nil))⟩
end
section
variable {P : Program} {w : World} {K : PySem.W.Frag} {mg : Str → Option Value} {base : Heap}
theorem ok_Lrows (T : Prg P K mg) : Callee P w K mg base 1 "_law_rows" ["_law_tables_here", "_law_log_here"] (sp_Lrows K mg) := by
  refine T.d_Lrows.ok sc_Lrows (fun _ _ _ _ _ _ us hl => match us, hl with | [_, _], _ => rfl) (fun _ => rfl) ?_
  intro f cdv B outer s H Q E hr
  have hu := hu_of hr
  have hu64 := hu64_of hr
  refine ⟨_, (pss_cons (ps_set (i := 2) sc_Lrows.nd rfl (Or.inl rfl) (pe_lst (pa_cons (pe_listRg rfl rfl T.n_list (prg_1 rfl T.n_range (pe_callB (lenK K) rfl T.n_len (by decide +kernel) (pa_cons (ixK K (pv 0) pe_int) pa_nil)))) pa_nil)))
      (pss_cons (ps_for (passes_of rfl) rfl (seqK K (pv 1)) (pg_name (i := 3) sc_Lrows.nd rfl (Or.inr rfl)) (pss_one (ps_expr (appendK K (pv 2) (pa_cons (pe_lc rfl sc_Lrows.nd (seqK K (ixK K (pv 2) (pe_un un_neg pe_int))) (blkOk_by (own := [("_law_place", 4)]) (N := N_Lrows) (sc := defScope s_Lrows) (by decide +kernel)) (fun _ _ _ _ _ => (pg_name (i := 4) sc_Lrows.nd rfl (Or.inl rfl))) (fun _ _ _ _ _ => pts_nil) (fun _ _ _ _ _ => (ixK K (ixK K (pv 0) (pv 3)) (pv 4)))) pa_nil)))))
      (pss_one (ps_ret (pv 2))))), ?_⟩
  intro a G M hp hc hret hexc
  obtain ⟨tabs, n, l⟩ := a
  obtain ⟨hT, hL⟩ := hp
  have hT' : OkT tabs n := hT
  have hL' : OkL tabs l := hL
  have hz := hL'.1
  have e0 : rowOf tabs n l 0 = List.range n := by
    unfold rowOf
    rw [List.take_zero]
    exact List.map_id _
  obtain ⟨t0, h1, _, h3, _⟩ := tab_at hT' hT'.l1
  refine go_setOwn (ds := rwD [rowOf tabs n l 0]) (ea_cons (T := tD K (.list (nL (rowOf tabs n l 0)))) ?_ ea_nil) (by show 1 ≤ 1000000; decide) fun p => ?_
  · rw [e0]
    have r := ev_lenN (ev_tQ (ev_ixX (K := K) (Γ := g0 N_Lrows [tD K (.list (tbD tabs)), tD K (.tuple (nL l))]) (M := M) (a := 0) (ds := tbD tabs) (d := .tuple (nL t0)) (ev_lQ (ev_var (i := 0) rfl)) (ev_nat 0) (by unfold tbD; rw [List.getElem?_map, h1]; rfl)))
    rw [h3] at r
    exact ev_LD (ev_lstRgN r (Nat.le_trans hT'.n2 (by decide)))
  have hI := it_seq (K := K) (Γ := [some (tD K (.list (tbD tabs))), some (tD K (.tuple (nL l))), some (tV (.ref p)), none, none]) (M := (p, cL K (rwD [rowOf tabs n l 0])) :: M) (tl := tVar 1) (ev_tQ (ds := nL l) (ev_var rfl))
  rw [nL_len] at hI
  refine go_seq (go_forM [some (tD K (.list (tbD tabs))), some (tD K (.tuple (nL l))), some (tV (.ref p)), none, none] (fun i => (p, cL K (rwD ((List.range (i + 1)).map (rowOf tabs n l)))) :: M) hI rfl (Le.refl _) (fun i => [some (tD K (.list (tbD tabs))), some (tD K (.tuple (nL l))), some (tV (.ref p)), some (tN K (gt l i)), none]) (fun i hi => by rw [dAt_nL hi]; exact tg_name) (fun i Gt hi e => ?_) ?_)
  · have hd : gt l i < tabs.length := hL'.2 _ (gt_mem hi)
    obtain ⟨t, h1, h2, h3, h4⟩ := tab_at hT' hd
    have e3 : rwD ((List.range (i + 1 + 1)).map (rowOf tabs n l)) = rwD ((List.range (i + 1)).map (rowOf tabs n l)) ++ [.list (nL (rowOf tabs n l (i + 1)))] := by
      rw [List.range_succ, List.map_append]
      unfold rwD
      rw [List.map_append]
      rfl
    refine go_append (d := .list (nL (rowOf tabs n l (i + 1)))) (ev_var rfl) ?_ (by rw [rwD_len, List.length_map, List.length_range]; omega) ?_
    · have e2 : rowOf tabs n l (i + 1) = (rowOf tabs n l i).map fun s => gt t s := by
        unfold rowOf
        rw [List.map_map]
        apply List.map_congr_left
        intro s hs
        rw [run_succ _ _ _ _ hi]
        show st tabs (gt l i) _ = _
        unfold st
        rw [h2]
        rfl
      rw [e2]
      unfold nL
      rw [List.map_map]
      refine ev_LD (ev_lcNM (fun s => nI (gt t s)) (ev_lQ (ev_ixOwn (j := -1) (ev_var rfl) List.mem_cons_self (ev_neg ev_int) ?_)) (by rw [rowOf_len]; have := hT'.n2; omega) fun s hs M' hM => ?_)
      · rw [List.range_succ, List.map_append]
        unfold rwD
        rw [List.map_append]
        exact at_last
      · have hs' : s < n := by
          unfold rowOf at hs
          obtain ⟨s0, h5, h6⟩ := List.mem_map.mp hs
          rw [← h6]
          exact run_lt hT' (hL'.take i) (List.mem_range.mp h5)
        exact ev_ixN (l := t) (ev_tQ (ev_ixX (ds := tbD tabs) (ev_lQ (ev_var (i := 0) rfl)) (ev_var (i := 3) rfl) (by unfold tbD; rw [List.getElem?_map, h1]; rfl))) (ev_var (i := 4) rfl) (by rw [h3]; exact hs')
    · exact nx_endW () trivial (.same (.same (.same (.no (.same .nil))))) (by rw [e3])
  · exact go_nx (go_retOwn (ev_var rfl) (hret.to fun G v h => tL_D h))
theorem ok_Lstarts (T : Prg P K mg) : Callee P w K mg base 3 "_law_starts" ["_law_box_here", "_law_states"] (sp_Lstarts K mg) := by
  refine T.d_Lstarts.ok sc_Lstarts (fun _ _ _ _ _ _ us hl => match us, hl with | [_, _], _ => rfl) (fun _ => rfl) ?_
  intro f cdv B outer s H Q E hr
  have hu := hu_of hr
  have hu64 := hu64_of hr
  refine ⟨_, (pss_cons (ps_if (pt_cmpR (eqK K hu64) (pcallG (ok_Ltake T) hr passL (pa_cons (pv 0) (pa_cons pe_int pa_nil))) pe_int (nomark _)) (pss_one (ps_ret (pe_tup (pa_cons pe_non (pa_cons (pe_listRg rfl rfl T.n_list (prg_1 rfl T.n_range (pv 1))) pa_nil))))) pss_nil)
      (pss_cons (ps_setLc (i := 2) rfl sc_Lstarts.nd rfl rfl (sw_true rfl rfl rfl (by decide +kernel)) (pi_range1 rfl T.n_range (pa_cons (pv 1) pa_nil)) (blkOk_by (own := [("_law_state", 3)]) (N := N_Lstarts) (sc := defScope s_Lstarts) (by decide +kernel)) (fun _ _ _ _ _ => (pg_name (i := 3) sc_Lstarts.nd rfl (Or.inl rfl))) (fun _ _ _ _ _ => (pts_one (pt_cmpR op_gt (pcallG (ok_Ltake T) hr passL (pa_cons (pv 0) (pa_cons pe_int pa_nil))) pe_int (nomark _)))) (fun _ _ _ _ _ => (pv 3)))
      (pss_cons (ps_set (i := 2) sc_Lstarts.nd rfl (Or.inl rfl) (pe_ifExp (pt_cmpR (neK K hu64) (pv 2) (pe_lst pa_nil) (nomark _)) (pv 2) (pe_lst (pa_cons (pcallG (ok_Ltake T) hr passL (pa_cons (pv 0) (pa_cons (pv 1) pa_nil))) pa_nil))))
      (pss_one (ps_ret (pe_tup (pa_cons (pcallG (ok_Lpick T) hr passL (pa_cons (pv 0) (pa_cons (pe_lst (pa_cons (pe_callTy (tupleK K) rfl T.n_tuple (by decide +kernel) (pa_cons (pv 2) pa_nil)) (pa_cons (pe_callTy (listK K) rfl T.n_list (by decide +kernel) (pa_cons (pv 2) pa_nil)) pa_nil))) pa_nil))) (pa_cons (pv 2) pa_nil)))))))), ?_⟩
  intro a G M hp hc hret hexc
  obtain ⟨p, n⟩ := a
  obtain ⟨h0, h1⟩ := hp
  have h0' : 0 < n := h0
  have h1' : n ≤ 12 := h1
  have hb : (p, cBox) ∈ M := hc _ List.mem_cons_self
  refine go_ifs (P := fun _ => True) (et_eqII (ev_NB_I (ev_take (m := 2) (ev_var rfl) ev_int hb (by decide) (by decide))) (ev_I ev_int)) (fun _ => ?_) fun _ => ?_
  · exact go_ret (ev_tup (ds := [.none, .list (nL (List.range n))]) (ea_cons ev_non (ea_cons (ev_LD (ev_lstRgN (ev_var rfl) (by omega))) ea_nil)) (by exact (by decide : 2 ≤ 1000000))) fun v G' H' e' w' t => hret v G' H' e' w' ⟨⟨(.none, List.range n), .none⟩, t⟩
  · refine go_setX (T := fun l : { l : List Nat // l.Pairwise (· < ·) ∧ ∀ x ∈ l, x < n } => tL K (nL l.1)) (ev_lcSub (ev_var rfl) (by omega) (by show 3 < 4; decide) fun k hk M' hM => et_any (ev_NB_I (ev_take (m := 3) (ev_var rfl) ev_int (hM _ hb) (by decide) (by decide))) ev_int) fun ⟨l, hl1, hl2⟩ => ?_
    refine go_setX (T := fun l : { l : List Nat // l ≠ [] ∧ l.Pairwise (· < ·) ∧ ∀ x ∈ l, x < n } => tL K (nL l.1)) (ev_if (et_t (a := !l.isEmpty) (ev_ne (d := .list (nL l)) (e := .list []) (ev_LD (ev_var (i := 2) rfl)) (ev_LD (ev_lst (ds := []) ea_nil)) (shaped_L l) shaped_E) (by rw [eqvAll_nL])) (fun z => ?_) fun z => ?_) fun ⟨l, hne, hl1, hl2⟩ => ?_
    · have hne : l ≠ [] := fun e => by rw [e] at z; cases z
      exact ev_mono (ev_var (i := 2) (T := tL K (nL l)) rfl) fun G v t => ⟨⟨l, hne, hl1, hl2⟩, t⟩
    · intro G1 σ H1 s1 w1 Q1 q1
      refine ev_take (mg := mg) (E := E0) (m := n) (ta := tVar 0) (tb := tVar 1) (ev_var (i := 0) rfl) (ev_var (i := 1) rfl) hb h0' (by omega) G1 σ H1 s1 w1 _ fun v G2 H2 e2 w2 ⟨r, hr⟩ => ⟨by rw [sizeLine_eq]; exact (by decide : 1 ≤ 16777216), fun q hq => ?_⟩
      obtain ⟨w3, e3⟩ := w2.alloc hq (.lst [v])
      exact q1 _ _ _ (e2.trans e3) w3 ⟨⟨[r.1], by simp, List.pairwise_singleton _ _, fun x hx => by rcases List.mem_singleton.mp hx with rfl; exact r.2⟩, q, [v], rfl, upd_same, .cons (Dp.mono e3 hr) .nil⟩
    · have hz : l.length ≤ 1000 := by have := pw_len hl1 hl2; omega
      refine go_ret (ev_tup2X (ev_pick (ds := [.tuple (nL l), .list (nL l)]) (ev_var rfl) (ev_LD (ev_lst (ds := [.tuple (nL l), .list (nL l)]) (ea_cons (ev_tupleOf (ev_LQ (ev_var (i := 2) (T := tL K (nL l)) rfl))) (ea_cons (ev_LD (ev_listOf (ev_LQ (ev_var (i := 2) (T := tL K (nL l)) rfl)))) ea_nil)) (by exact (by decide : 2 ≤ 1000000)))) hb (by exact (by decide : 0 < 2)) (by exact (by decide : 2 < 1000000))) (ev_LD (ev_var (i := 2) (T := tL K (nL l)) rfl))) fun v G' H' e' w' ⟨⟨d, hd⟩, t⟩ => hret v G' H' e' w' ⟨⟨(d, l), ?_⟩, t⟩
      rcases List.mem_cons.mp hd with rfl | hd
      · exact GoodSt.seq true l hz hne (pw_asc hl1) hl2
      · rcases List.mem_singleton.mp hd with rfl
        exact GoodSt.seq false l hz hne (pw_asc hl1) hl2
theorem ok_Lkept (T : Prg P K mg) : Callee P w K mg base 3 "_law_kept" ["_law_box_here", "_law_length"] (sp_Lkept K mg) := by
  refine T.d_Lkept.ok sc_Lkept (fun _ _ _ _ _ _ us hl => match us, hl with | [_, _], _ => rfl) (fun _ => rfl) ?_
  intro f cdv B outer s H Q E hr
  have hu := hu_of hr
  have hu64 := hu64_of hr
  refine ⟨_, (pss_cons (ps_if (pt_cmpR (eqK K hu64) (pcallG (ok_Ltake T) hr passL (pa_cons (pv 0) (pa_cons pe_int pa_nil))) pe_int (nomark _)) (pss_one (ps_ret (pe_tup (pa_cons pe_non (pa_cons (pe_listRg rfl rfl T.n_list (prg_1 rfl T.n_range (pe_op op_add (pv 1) pe_int))) pa_nil))))) pss_nil)
      (pss_cons (ps_setLc (i := 2) rfl sc_Lkept.nd rfl rfl (sw_true rfl rfl rfl (by decide +kernel)) (pi_range1 rfl T.n_range (pa_cons (pe_op op_add (pv 1) pe_int) pa_nil)) (blkOk_by (own := [("_law_age", 3)]) (N := N_Lkept) (sc := defScope s_Lkept) (by decide +kernel)) (fun _ _ _ _ _ => (pg_name (i := 3) sc_Lkept.nd rfl (Or.inl rfl))) (fun _ _ _ _ _ => (pts_one (pt_cmpR op_gt (pcallG (ok_Ltake T) hr passL (pa_cons (pv 0) (pa_cons pe_int pa_nil))) pe_int (nomark _)))) (fun _ _ _ _ _ => (pv 3)))
      (pss_one (ps_ret (pe_tup (pa_cons (pcallG (ok_Lpick T) hr passL (pa_cons (pv 0) (pa_cons (pe_lst (pa_cons (pe_callTy (tupleK K) rfl T.n_tuple (by decide +kernel) (pa_cons (pv 2) pa_nil)) (pa_cons (pe_callTy (listK K) rfl T.n_list (by decide +kernel) (pa_cons (pv 2) pa_nil)) pa_nil))) pa_nil))) (pa_cons (pv 2) pa_nil))))))), ?_⟩
  intro a G M hp hc hret hexc
  obtain ⟨p, n⟩ := a
  have h1' : n ≤ 100 := hp
  have hb : (p, cBox) ∈ M := hc _ List.mem_cons_self
  refine go_ifs (P := fun _ => True) (et_eqII (ev_NB_I (ev_take (m := 2) (ev_var rfl) ev_int hb (by decide) (by decide))) (ev_I ev_int)) (fun _ => ?_) fun _ => ?_
  · exact go_ret (ev_tup (ds := [.none, .list (nL (List.range (n + 1)))]) (ea_cons ev_non (ea_cons (ev_LD (ev_lstRgN (ev_addN (b := 1) (ev_var rfl) ev_int) (by omega))) ea_nil)) (by exact (by decide : 2 ≤ 1000000))) fun v G' H' e' w' t => hret v G' H' e' w' ⟨⟨(.none, List.range (n + 1)), .none⟩, t⟩
  · refine go_setX (T := fun l : { l : List Nat // l.Pairwise (· < ·) ∧ ∀ x ∈ l, x < n + 1 } => tL K (nL l.1)) (ev_lcSub (n := n + 1) (ev_addN (b := 1) (ev_var rfl) ev_int) (by omega) (by show 3 < 4; decide) fun k hk M' hM => et_any (ev_NB_I (ev_take (m := 3) (ev_var rfl) ev_int (hM _ hb) (by decide) (by decide))) ev_int) fun ⟨l, hl1, hl2⟩ => ?_
    have hz : l.length ≤ 1000 := by have := pw_len hl1 hl2; omega
    refine go_ret (ev_tup2X (ev_pick (ds := [.tuple (nL l), .list (nL l)]) (ev_var rfl) (ev_LD (ev_lst (ds := [.tuple (nL l), .list (nL l)]) (ea_cons (ev_tupleOf (ev_LQ (ev_var (i := 2) (T := tL K (nL l)) rfl))) (ea_cons (ev_LD (ev_listOf (ev_LQ (ev_var (i := 2) (T := tL K (nL l)) rfl)))) ea_nil)) (by exact (by decide : 2 ≤ 1000000)))) hb (by exact (by decide : 0 < 2)) (by exact (by decide : 2 < 1000000))) (ev_LD (ev_var (i := 2) (T := tL K (nL l)) rfl))) fun v G' H' e' w' ⟨⟨d, hd⟩, t⟩ => hret v G' H' e' w' ⟨⟨(d, l), ?_⟩, t⟩
    rcases List.mem_cons.mp hd with rfl | hd
    · exact GoodKp.seq true l hz (pw_asc hl1) hl2
    · rcases List.mem_singleton.mp hd with rfl
      exact GoodKp.seq false l hz (pw_asc hl1) hl2
end
end Ag
set_option Elab.async false
set_option linter.all false
set_option maxRecDepth 100000
set_option maxHeartbeats 2000000
/-! Ag17: tables. -/
namespace Ag
open PySem PySem.Spec PyProof.Rows L2
section
variable {K : FR} {mg : MG} {Γ Γ' : Gam} {M : Mem} {ta tb tc to te t1 t2 tv : TE} {tA : TA} {E : XK} {d : PyData} {G0 : Hp} {D : Ends} {g : TG} {T U R T1 T2 : Ty} {vs : List Nat} {ts tu1 tu2 tbd : TS} {p : Addr} {i j : Nat} {wi : TI} {Ti : Nat → Ty} {n m : Nat} {tt : TT}
/-- x = [..], the list's items told only in part -/
theorem nx_setX {α : Type} {T : α → Ty} (h : Ev Γ M te (tEx T)) (k : ∀ a, Nx D G0 (Γ.set i (some (T a))) M) : Go Γ M (tAsg te (gName i)) D G0 := fun G σ H e s w =>
  h G σ H s w _ fun v G1 H1 e1 w1 ⟨a, t⟩ => k a G1 _ H1 (e.trans e1) ((s.mono e1).set i t) w1
end
section
variable {P : Program} {w : World} {K : PySem.W.Frag} {mg : Str → Option Value} {base : Heap}
theorem ok_Ltables (T : Prg P K mg) : Callee P w K mg base 2 "_law_tables" ["_law_box_here", "_law_most_here"] (sp_Ltables K mg) := by
  refine T.d_Ltables.ok sc_Ltables (fun _ _ _ _ _ _ us hl => match us, hl with | [_, _], _ => rfl) (fun _ => rfl) ?_
  intro f cdv B outer s H Q E hr
  have hu := hu_of hr
  have hu64 := hu64_of hr
  refine ⟨_, (pss_cons (ps_asg (pe_tup (pa_cons (pe_op op_add pe_int (pcallG (ok_Ltake T) hr passL (pa_cons (pv 0) (pa_cons (pe_op op_sub (pv 1) pe_int) pa_nil)))) (pa_cons (pe_lst pa_nil) pa_nil))) (tupG K 2 (pgs_cons (pg_name (i := 2) sc_Ltables.nd rfl (Or.inr rfl)) (pgs_cons (pg_name (i := 3) sc_Ltables.nd rfl (Or.inl rfl)) pgs_nil))))
      (pss_cons (ps_for (passes_of rfl) rfl (pi_range1 rfl T.n_range (pa_cons (pe_op op_add pe_int (pcallG (ok_Ltake T) hr passL (pa_cons (pv 0) (pa_cons pe_int pa_nil)))) pa_nil)) (pg_name (i := 4) sc_Ltables.nd rfl (Or.inl rfl)) (pss_cons (ps_set (i := 5) sc_Ltables.nd rfl (Or.inl rfl) (pcallG (ok_Ltake T) hr passL (pa_cons (pv 0) (pa_cons pe_int pa_nil))))
      (pss_cons (ps_setLc (i := 6) rfl sc_Ltables.nd rfl rfl (sw_true rfl rfl rfl (by decide +kernel)) (pi_range1 rfl T.n_range (pa_cons (pv 2) pa_nil)) (blkOk_by (own := [("_law_state", 7)]) (N := N_Ltables) (sc := defScope s_Ltables) (by decide +kernel)) (fun _ _ _ _ _ => (pg_name (i := 7) sc_Ltables.nd rfl (Or.inl rfl))) (fun _ _ _ _ _ => pts_nil) (fun _ _ _ _ _ => (pcallG (ok_Ltake T) hr passL (pa_cons (pv 0) (pa_cons (pv 2) pa_nil)))))
      (C8.pss_cut (ps_if (pt_cmpR (eqK K hu64) (pv 5) pe_int (nomark _)) (pss_cons (ps_set (i := 8) sc_Ltables.nd rfl (Or.inr rfl) (pe_op op_add pe_int (pcallG (ok_Ltake T) hr passL (pa_cons (pv 0) (pa_cons (pv 2) pa_nil)))))
      (pss_one (ps_setLc (i := 6) rfl sc_Ltables.nd rfl rfl (sw_true rfl rfl rfl (by decide +kernel)) (pi_range1 rfl T.n_range (pa_cons (pv 2) pa_nil)) (blkOk_by (own := [("_law_state", 7)]) (N := N_Ltables) (sc := defScope s_Ltables) (by decide +kernel)) (fun _ _ _ _ _ => (pg_name (i := 7) sc_Ltables.nd rfl (Or.inl rfl))) (fun _ _ _ _ _ => pts_nil) (fun _ _ _ _ _ => (pe_op op_mod (pe_callTy intR rfl T.n_int (by decide +kernel) (pa_cons (pe_op op_add (pv 7) (pv 8)) pa_nil)) (pv 2)))))) pss_nil)
      (C8.pss_cut (ps_if (pt_cmpR (eqK K hu64) (pv 5) pe_int (nomark _)) (pss_one (ps_setLc (i := 6) rfl sc_Ltables.nd rfl rfl (sw_true rfl rfl rfl (by decide +kernel)) (pi_range1 rfl T.n_range (pa_cons (pv 2) pa_nil)) (blkOk_by (own := [("_law_state", 7)]) (N := N_Ltables) (sc := defScope s_Ltables) (by decide +kernel)) (fun _ _ _ _ _ => (pg_name (i := 7) sc_Ltables.nd rfl (Or.inl rfl))) (fun _ _ _ _ _ => pts_nil) (fun _ _ _ _ _ => (pe_callB min2R rfl T.n_min (by decide +kernel) (pa_cons (pe_op op_add (pv 7) pe_int) (pa_cons (pe_op op_sub (pv 2) pe_int) pa_nil)))))) pss_nil)
      (C8.pss_cut (ps_if (pt_cmpR (eqK K hu64) (pv 5) pe_int (nomark _)) (pss_cons (ps_asg (pe_tup (pa_cons (pcallG (ok_Ltake T) hr passL (pa_cons (pv 0) (pa_cons (pv 2) pa_nil))) (pa_cons (pcallG (ok_Ltake T) hr passL (pa_cons (pv 0) (pa_cons (pv 2) pa_nil))) pa_nil))) (tupG K 2 (pgs_cons (pg_name (i := 9) sc_Ltables.nd rfl (Or.inr rfl)) (pgs_cons (pg_name (i := 10) sc_Ltables.nd rfl (Or.inr rfl)) pgs_nil))))
      (pss_one (ps_setLc (i := 6) rfl sc_Ltables.nd rfl rfl (sw_true rfl rfl rfl (by decide +kernel)) (pi_range1 rfl T.n_range (pa_cons (pv 2) pa_nil)) (blkOk_by (own := [("_law_state", 7)]) (N := N_Ltables) (sc := defScope s_Ltables) (by decide +kernel)) (fun _ _ _ _ _ => (pg_name (i := 7) sc_Ltables.nd rfl (Or.inl rfl))) (fun _ _ _ _ _ => pts_nil) (fun _ _ _ _ _ => (pe_ifExp (pt_cmpR (eqK K hu64) (pv 7) (pv 9) (nomark _)) (pv 10) (pe_ifExp (PW.pt (pw_and (pt_cmpR (eqK K hu64) (pv 7) (pv 10) (nomark _)) (pw_and1 (pt_cmpR (eqK K hu64) (pcallG (ok_Ltake T) hr passL (pa_cons (pv 0) (pa_cons pe_int pa_nil))) pe_int (nomark _))))) (pv 9) (pv 7))))))) pss_nil)
      (pss_one (ps_expr (appendK K (pv 3) (pa_cons (pe_callTy (tupleK K) rfl T.n_tuple (by decide +kernel) (pa_cons (pv 6) pa_nil)) pa_nil))))))))))
      (pss_one (ps_ret (pv 3))))), ?_⟩
  intro a G M hp hc hret hexc
  have hb : (a, cBox) ∈ M := hc _ List.mem_cons_self
  refine go_seq (go_pairOwn (T1 := tNP K fun n => 2 ≤ n ∧ n ≤ 5) (ev_addNP (n := 2) (P := fun r => r < 4) ev_int (ev_NB_NP (ev_take (m := 4) (ev_var rfl) (ev_to (ev_sub (i := 5) (j := 1) (ev_var (i := 1) rfl) ev_int) rfl) hb (by decide) (by decide)) fun r h => h) fun r h => ⟨by omega, by omega⟩) fun q => go_nx ?_)
  -- the number of states
  suffices h : ∀ n, 2 ≤ n → n ≤ 5 → Go [some (tV (.ref a)), some (tN K 5), some (tN K n), some (tV (.ref q)), none, none, none, none, none, none, none] ((q, cL K []) :: M) _ (Dn Q) G by
    intro G1 σ H1 e s1 w1
    obtain ⟨⟨n, h2, h5⟩, s2⟩ := sd_ex (Γ := [some (tV (.ref a)), some (tN K 5), some (tNP K fun n => 2 ≤ n ∧ n ≤ 5), some (tV (.ref q)), none, none, none, none, none, none, none]) (i := 2) (T := fun r : { r : Nat // 2 ≤ r ∧ r ≤ 5 } => tN K r.1) rfl s1
    exact h n h2 h5 G1 σ H1 e s2 w1
  intro n h2 h5
  let Γ0 : Gam := [some (tV (.ref a)), some (tN K 5), some (tN K n), some (tV (.ref q)), none, none, none, none, none, none, none]
  let Γc : List Nat → Gam := fun l => [some (tV (.ref a)), some (tN K 5), some (tN K n), some (tV (.ref q)), none, some (tI K), some (tL K (nL l)), none, none, none, none]
  have hbM : ∀ {tabs : List (List Nat)}, (a, cBox) ∈ ((q, cL K (tbD tabs)) :: M) := List.mem_cons_of_mem _ hb
  refine go_seq (go_forR (P := fun r => 1 ≤ r ∧ r ≤ 3) (ev_addNP (n := 1) (P := fun r => r < 3) ev_int (ev_NB_NP (ev_take (m := 3) (ev_var rfl) ev_int (List.mem_cons_of_mem _ hb) (by decide) (by decide)) fun r h => h) fun r h => ⟨by omega, by omega⟩) fun cnt hcnt => ?_)
  refine go_for (it_rng1 (n := cnt) ev_int (by omega)) (fun i (_ : List (List Nat)) => Γ0) (fun i _ => Γ0.set 4 (some (tN K i))) (fun _ tabs => (q, cL K (tbD tabs)) :: M) (fun i tabs => tabs.length = i ∧ ∀ t ∈ tabs, RowOk n t) [] rfl rfl ⟨rfl, fun t ht => nomatch ht⟩ (fun i _ hi _ => tg_name) (fun i tabs Gt hi hP e => ?_) fun tabs hP => ?_
  · refine go_set (T := tI K) (ev_NB_I (ev_take (m := 4) (ev_var rfl) ev_int hbM (by decide) (by decide))) ?_
    have hI : ∀ {Γ : Gam}, Γ[2]? = some (some (tN K n)) → It1 Γ ((q, cL K (tbD tabs)) :: M) (iRng1 (tCons (tVar 2) tNil)) n (fun i => tN K i) := fun h => it_rng1 (ev_var h) (by omega)
    refine go_setX (T := fun l : { l : List Nat // l.length = n ∧ ∀ x ∈ l, x < n } => tL K (nL l.1)) (ev_lcNB (m := n) (hI rfl) (by omega) (fun k => [some (tV (.ref a)), some (tN K 5), some (tN K n), some (tV (.ref q)), some (tN K i), some (tI K), none, some (tN K k), none, none, none]) (fun k hk => tg_name) fun k hk M' hM => ev_take (ev_var rfl) (ev_var rfl) (hM _ hbM) (by omega) (by omega)) fun ⟨l, hl⟩ => ?_
    refine Go.le (Γ := Γc l) ?_ (.same (.same (.same (.same (.no (.same (.same (.same (.same (.same (.same .nil)))))))))))
    have le1 : ∀ {l : List Nat} {x4 x7 x8 x9 x10 : Option Ty}, Le (Γc l) [some (tV (.ref a)), some (tN K 5), some (tN K n), some (tV (.ref q)), x4, some (tI K), some (tL K (nL l)), x7, x8, x9, x10] := .same (.same (.same (.same (.no (.same (.same (.no (.no (.no (.no .nil))))))))))
    refine go_cutK (fun l : { l : List Nat // RowOk n l } => Γc l.1) (fun _ => (q, cL K (tbD tabs)) :: M) (fun _ => True) ?_ fun ⟨l, hl⟩ _ => ?_
    · refine go_if (P := fun _ => True) (et_eqII (ev_var rfl) (ev_I ev_int)) (fun _ => ?_) fun _ => nx_endW ⟨l, hl⟩ trivial le1 rfl
      refine go_set (T := tI K) (ev_any0 (f := fun i j => i + j) (ev_I ev_int) (ev_NB_I (ev_take (m := n) (ev_var rfl) (ev_var rfl) hbM (by omega) (by omega)))) ?_
      refine nx_setX (T := fun l : { l : List Nat // l.length = n ∧ ∀ x ∈ l, x < n } => tL K (nL l.1)) (ev_lcNB (m := n) (hI rfl) (by omega) (fun k => [some (tV (.ref a)), some (tN K 5), some (tN K n), some (tV (.ref q)), none, some (tI K), some (tL K (nL l)), some (tN K k), some (tI K), none, none]) (fun k hk => tg_name) fun k hk M' hM => ev_modN (ev_intAny (ev_any0 (f := fun i j => i + j) (ev_N_I (ev_var (i := 7) rfl)) (ev_var (i := 8) rfl))) (ev_var (i := 2) rfl) (by omega)) fun ⟨l2, hl2⟩ => nx_endW ⟨l2, hl2⟩ trivial le1 rfl
    refine go_cutK (fun l : { l : List Nat // RowOk n l } => Γc l.1) (fun _ => (q, cL K (tbD tabs)) :: M) (fun _ => True) ?_ fun ⟨l, hl⟩ _ => ?_
    · refine go_if (P := fun _ => True) (et_eqII (ev_var rfl) (ev_I ev_int)) (fun _ => ?_) fun _ => nx_endW ⟨l, hl⟩ trivial le1 rfl
      refine nx_setX (T := fun l : { l : List Nat // l.length = n ∧ ∀ x ∈ l, x < n } => tL K (nL l.1)) (ev_lcNB (m := n) (hI rfl) (by omega) (fun k => [some (tV (.ref a)), some (tN K 5), some (tN K n), some (tV (.ref q)), none, some (tI K), some (tL K (nL l)), some (tN K k), none, none, none]) (fun k hk => tg_name) fun k hk M' hM => ev_mono (ev_min2 (ev_addN (a := k) (b := 1) (ev_var (i := 7) rfl) ev_int) (ev_sub1 (i := 0) (a := n) (ev_var (i := 2) rfl) ev_int (by omega))) fun G v t => ?_) fun ⟨l2, hl2⟩ => nx_endW ⟨l2, hl2⟩ trivial le1 rfl
      by_cases c : ((n - 1 : Nat) : Int) < ((k + 1 : Nat) : Int)
      · rw [if_pos c] at t
        exact ⟨⟨n - 1, by omega⟩, t⟩
      · rw [if_neg c] at t
        exact ⟨⟨k + 1, by omega⟩, t⟩
    refine go_cutK (fun l : { l : List Nat // RowOk n l } => Γc l.1) (fun _ => (q, cL K (tbD tabs)) :: M) (fun _ => True) ?_ fun ⟨l, hl⟩ _ => ?_
    · refine go_if (P := fun _ => True) (et_eqII (ev_var rfl) (ev_I ev_int)) (fun _ => ?_) fun _ => nx_endW ⟨l, hl⟩ trivial le1 rfl
      refine go_seq (go_pair (T1 := tNB K n) (T2 := tNB K n) (ev_take (m := n) (ev_var rfl) (ev_var rfl) hbM (by omega) (by omega)) (ev_take (m := n) (ev_var rfl) (ev_var rfl) hbM (by omega) (by omega)) (go_nx ?_))
      refine nx_setX (T := fun l : { l : List Nat // l.length = n ∧ ∀ x ∈ l, x < n } => tL K (nL l.1)) (ev_lcNB (m := n) (hI rfl) (by omega) (fun k => [some (tV (.ref a)), some (tN K 5), some (tN K n), some (tV (.ref q)), none, some (tI K), some (tL K (nL l)), some (tN K k), none, some (tNB K n), some (tNB K n)]) (fun k hk => tg_name) fun k hk M' hM => ?_) fun ⟨l2, hl2⟩ => nx_endW ⟨l2, hl2⟩ trivial le1 rfl
      exact ev_if (P := fun _ => True) (et_eqII (ev_N_I (ev_var (i := 7) rfl)) (ev_NB_I (ev_var (i := 9) rfl))) (fun _ => ev_var rfl) fun _ => ev_if (P := fun _ => True) (et_anyAnd (et_eqII (ev_N_I (ev_var (i := 7) rfl)) (ev_NB_I (ev_var (i := 10) rfl))) (et_eqII (ev_NB_I (ev_take (m := 2) (ev_var rfl) ev_int (hM _ hbM) (by decide) (by decide))) (ev_I ev_int))) (fun _ => ev_var rfl) fun _ => ev_N_NB (ev_var (i := 7) rfl) hk
    · have e3 : tbD (tabs ++ [l]) = tbD tabs ++ [.tuple (nL l)] := by unfold tbD; rw [List.map_append]; rfl
      refine go_append (d := .tuple (nL l)) (ev_var rfl) (ev_tupleOf (ev_LQ (ev_var (i := 6) rfl))) (by rw [tbD_len, hP.1]; omega) (nx_endW (tabs ++ [l]) ⟨by rw [List.length_append, hP.1]; rfl, fun t ht => ?_⟩ (.same (.same (.same (.same (.no (.no (.no (.no (.no (.no (.no .nil))))))))))) (by rw [e3]))
      rcases List.mem_append.mp ht with h | h
      · exact hP.2 t h
      · rcases List.mem_singleton.mp h with rfl
        exact hl
  · refine go_nx (go_retOwn (ev_var rfl) (hret.to fun G v h => ?_))
    exact ⟨⟨⟨tabs, n⟩, ⟨by show 1 ≤ n; omega, by show n ≤ 12; omega, by show 1 ≤ tabs.length; rw [hP.1]; exact hcnt.1, by show tabs.length ≤ 8; rw [hP.1]; omega, hP.2⟩, by show tabs.length ≤ 3; rw [hP.1]; exact hcnt.2, h2, h5⟩, tL_D h⟩
end
end Ag
set_option Elab.async false
set_option linter.all false
set_option maxRecDepth 100000
set_option maxHeartbeats 2000000
/-! Ag18: the law's own reading. -/
namespace Ag
open PySem PySem.Spec PyProof.Rows L2
/-- the law's seen -/
def seenR (tabs : List (List Nat)) (log : List Nat) (s : Nat) (sl : List Nat) : List (List Nat) := (List.range (log.length + 1)).map (seenOf tabs log s sl)
def apartOf (tabs : List (List Nat)) (log : List Nat) (s : Nat) (sl : List Nat) (one other : Nat) : Bool := ((seenOf tabs log s sl one).filter fun x => decide (x ∈ seenOf tabs log s sl other)).isEmpty
structure DuA where
  tabs : List (List Nat)
  n : Nat
  log : List Nat
  sl : List Nat
  kl : List Nat
  b : Option Nat
  md : PyData
structure DuA.Ok (a : DuA) : Prop where
  t : OkT a.tabs a.n
  l : OkL a.tabs a.log
  sl : ∀ x ∈ a.sl, x < a.n
  sz : a.sl.length ≤ 1000
  kl : ∀ x ∈ a.kl, x < a.log.length + 1
  kz : a.kl.length ≤ 1001
  md : okMk a.n a.log.length a.md = true
def DuA.ages (a : DuA) (s : Nat) : List Nat := agesOf a.tabs a.log s a.sl a.kl a.b
abbrev duRows (K : FR) (a : DuA) : Ty := tD K (.list (rwD (rowsOf a.tabs a.n a.log)))
abbrev sp_Lseen (K : FR) (mg : MG) : Sp := PrS (fun a : DuA × Nat => a.1.Ok ∧ a.2 < a.1.n) (fun a => [duRows K a.1, tD K (.list (nL a.1.sl)), tN K a.2]) (fun a => tD K (.list (rwD (seenR a.1.tabs a.1.log a.2 a.1.sl))))
abbrev sp_Lages (K : FR) (mg : MG) : Sp := PrS (fun a : DuA × Nat => a.1.Ok ∧ a.2 < a.1.n) (fun a => [tD K (.list (rwD (seenR a.1.tabs a.1.log a.2 a.1.sl))), tD K (.list (nL a.1.kl)), tN K a.1.log.length, tD K (bdD a.1.b)]) (fun a => tD K (.list (nL (a.1.ages a.2))))
structure ApA where
  a : DuA
  s : Nat
  one : Nat
  other : Nat
abbrev sp_Lapart (K : FR) (mg : MG) : Sp := PrS (fun a : ApA => a.a.Ok ∧ a.one < a.a.log.length + 1 ∧ a.other < a.a.log.length + 1) (fun a => [tD K (.list (rwD (seenR a.a.tabs a.a.log a.s a.a.sl))), tN K a.one, tN K a.other]) (fun a => tB K (apartOf a.a.tabs a.a.log a.s a.a.sl a.one a.other))
def dueC (a : DuA) (s one other : Nat) : Bool := decide (one < other) && (decide (mkI a.md one s = mkI a.md other s) && apartOf a.tabs a.log s a.sl one other)
def dueP (a : DuA) (s one other : Nat) : PyData := papD s one other (gt (seenOf a.tabs a.log s a.sl one) 0) (gt (seenOf a.tabs a.log s a.sl other) 0)
def dueJ (a : DuA) (s i j : Nat) : Option PyData := if dueC a s (gt (a.ages s) i) (gt (a.ages s) j) then some (dueP a s (gt (a.ages s) i) (gt (a.ages s) j)) else none
def dueI (a : DuA) (s i : Nat) : Option PyData := (List.range (a.ages s).length).findSome? (dueJ a s i)
def dueS (a : DuA) (s : Nat) : Option PyData := (List.range (a.ages s).length).findSome? (dueI a s)
def due (a : DuA) : Option PyData := (List.range a.n).findSome? (dueS a)
abbrev sp_Ldue (K : FR) (mg : MG) : Sp := PrS (fun a : DuA => a.Ok) (fun a => [duRows K a, tD K (.list (nL a.sl)), tD K (.list (nL a.kl)), tD K (bdD a.b), tD K a.md]) (fun a => tD K ((due a).getD .none))
abbrev sp_Lwhole (K : FR) (mg : MG) : Sp := PrS (fun _ : PyData × Nat => True) (fun a => [tD K a.1, tN K a.2]) (fun a => tB K (isBelow a.2 a.1))
section
variable {K : FR} {mg : MG} {Γ Γ' : Gam} {M : Mem} {ta tb tc to te t1 t2 tv : TE} {tA : TA} {E : XK} {d : PyData} {G0 : Hp} {D : Ends} {g : TG} {T U R T1 T2 : Ty} {vs : List Nat} {p : Addr} {i j : Nat} {wi : TI} {Ti : Nat → Ty} {n m : Nat} {tt : TT}
theorem seenR_at {tabs : List (List Nat)} {log : List Nat} {s : Nat} {sl : List Nat} {age : Nat} (h : age < log.length + 1) : (rwD (seenR tabs log s sl))[age]? = some (.list (nL (seenOf tabs log s sl age))) := by
  unfold rwD seenR
  rw [List.getElem?_map, List.getElem?_map, List.getElem?_range h]
  rfl
/-- seen[age] -/
theorem ev_seenAt {tabs : List (List Nat)} {log : List Nat} {s : Nat} {sl : List Nat} {age : Nat} (h : age < log.length + 1) (ha : Ev Γ M ta (tD K (.list (rwD (seenR tabs log s sl))))) (hb : Ev Γ M tb (tN K age)) : Ev Γ M (tOp (rIx K) ta tb) (tD K (.list (nL (seenOf tabs log s sl age)))) := ev_ixX (ev_lQ ha) hb (seenR_at h)
theorem seen_len (tabs : List (List Nat)) (log : List Nat) (s : Nat) (sl : List Nat) (age : Nat) : (seenOf tabs log s sl age).length ≤ sl.length := List.length_filter_le _ _
theorem ev_rowAt {tabs : List (List Nat)} {log : List Nat} {age : Nat} (h : age < log.length + 1) (ha : Ev Γ M ta (tD K (.list (rwD (rowsOf tabs n log))))) (hb : Ev Γ M tb (tN K age)) : Ev Γ M (tOp (rIx K) ta tb) (tD K (.list (nL (rowOf tabs n log age)))) := ev_ixX (ev_lQ ha) hb (by unfold rwD; rw [List.getElem?_map, rowsOf_at h]; rfl)
theorem ages_both (tabs : List (List Nat)) (log : List Nat) (s : Nat) (sl kl : List Nat) (b : Option Nat) : agesOf tabs log s sl kl b = kl.filter fun age => !(seenOf tabs log s sl age).isEmpty && inWin age log.length b := by
  unfold agesOf allAges
  rw [List.filter_filter]
  apply List.filter_congr
  intro x _
  rw [Bool.and_comm]
  congr 1
  cases e : seenOf tabs log s sl x with
  | nil => rfl
  | cons y r => simp
end
section
variable {P : Program} {w : World} {K : PySem.W.Frag} {mg : Str → Option Value} {base : Heap}
theorem ok_Lseen (T : Prg P K mg) : Callee P w K mg base 1 "_law_seen" ["_law_rows_here", "_law_some", "_law_state"] (sp_Lseen K mg) := by
  refine T.d_Lseen.ok sc_Lseen (fun _ _ _ _ _ _ us hl => match us, hl with | [_, _, _], _ => rfl) (fun _ => rfl) ?_
  intro f cdv B outer s H Q E hr
  have hu := hu_of hr
  have hu64 := hu64_of hr
  refine ⟨_, (pss_one (ps_ret (pe_lc rfl sc_Lseen.nd (seqK K (pv 0)) (blkOk_by (own := [("_law_row", 4)]) (N := N_Lseen) (sc := defScope s_Lseen) (by decide +kernel)) (fun _ _ _ _ _ => (pg_name (i := 4) sc_Lseen.nd rfl (Or.inr rfl))) (fun _ _ _ _ _ => pts_nil) (fun _ _ _ _ _ => (pe_lc rfl sc_Lseen.nd (seqK K (pv 1)) (blkOk_by (own := [("_law_start", 3)]) (by first | rfl | kernel_rfl)) (fun _ _ _ _ _ => (pg_name (i := 3) sc_Lseen.nd rfl (Or.inl rfl))) (fun _ _ _ _ _ => (pts_one (pt_cmpR (eqK K hu64) (ixK K (pv 4) (pv 3)) (pv 2) (nomark _)))) (fun _ _ _ _ _ => (pv 3))))))), ?_⟩
  intro a G M hp hc hret hexc
  obtain ⟨a, s⟩ := a
  obtain ⟨ha, hs⟩ := hp
  have ha' : a.Ok := ha
  have hs' : s < a.n := hs
  have hz := ha'.sz
  have hlz := ha'.l.1
  refine go_ret (T := tL K (rwD (seenR a.tabs a.log s a.sl))) ?_ (hret.to fun G v h => tL_D h)
  have e : rwD (seenR a.tabs a.log s a.sl) = (List.range (a.log.length + 1)).map fun age => .list (nL (seenOf a.tabs a.log s a.sl age)) := by unfold rwD seenR; rw [List.map_map]; rfl
  rw [e]
  have e2 : rwD (rowsOf a.tabs a.n a.log) = (List.range (a.log.length + 1)).map fun age => .list (nL (rowOf a.tabs a.n a.log age)) := by unfold rwD rowsOf; rw [List.map_map]; rfl
  refine ev_lcA (f := fun age => .list (nL (rowOf a.tabs a.n a.log age))) (fun age => .list (nL (seenOf a.tabs a.log s a.sl age))) (by rw [← e2]; exact ev_lQ (ev_var rfl)) (by rw [List.length_range]; omega) fun age hage M' hM => ?_
  refine ev_LD (ev_lcN (l := a.sl) (fun x => decide (run a.tabs (a.log.take age) x = s)) nI (ev_lQ (ev_var rfl)) (by omega) (fun x hx M'' hM' => ?_) fun x hx _ M'' hM' => ev_var rfl)
  have hx' := ha'.sl x hx
  have r := ev_ixN (K := K) (M := M'') (Γ := [some (duRows K a), some (tD K (.list (nL a.sl))), some (tN K s), some (tN K x), some (tD K (.list (nL (rowOf a.tabs a.n a.log age))))]) (l := rowOf a.tabs a.n a.log age) (a := x) (ta := tVar 4) (tb := tVar 3) (ev_lQ (ev_var rfl)) (ev_var rfl) (by rw [rowOf_len]; exact hx')
  rw [rowOf_at hx'] at r
  exact et_t (ev_eqN r (ev_var rfl)) rfl
theorem ok_Lages (T : Prg P K mg) : Callee P w K mg base 1 "_law_ages" ["_law_seen_here", "_law_kept_here", "_law_length", "_law_bound"] (sp_Lages K mg) := by
  refine T.d_Lages.ok sc_Lages (fun _ _ _ _ _ _ us hl => match us, hl with | [_, _, _, _], _ => rfl) (fun _ => rfl) ?_
  intro f cdv B outer s H Q E hr
  have hu := hu_of hr
  have hu64 := hu64_of hr
  refine ⟨_, (pss_one (ps_ret (pe_lc rfl sc_Lages.nd (seqK K (pv 1)) (blkOk_by (own := [("_law_age", 4)]) (N := N_Lages) (sc := defScope s_Lages) (by decide +kernel)) (fun _ _ _ _ _ => (pg_name (i := 4) sc_Lages.nd rfl (Or.inl rfl))) (fun _ _ _ _ _ => (pts_one (PW.pt (pw_and (pt_cmpR (neK K hu64) (ixK K (pv 0) (pv 4)) (pe_lst pa_nil) (nomark _)) (pw_and1 (PW.pt (pw_or (pt_cmpR op_isN (pv 3) pe_non (nomark _)) (pw_or1 (pt_cmpR op_gt (pv 4) (pe_op op_sub (pv 2) (pv 3)) (nomark _)))))))))) (fun _ _ _ _ _ => (pv 4))))), ?_⟩
  intro a G M hp hc hret hexc
  obtain ⟨a, s⟩ := a
  obtain ⟨ha, hs⟩ := hp
  have ha' : a.Ok := ha
  have hz := ha'.kz
  refine go_ret (T := tL K (nL (a.ages s))) ?_ (hret.to fun G v h => tL_D h)
  unfold DuA.ages
  rw [ages_both]
  refine ev_lcN (l := a.kl) (fun age => !(seenOf a.tabs a.log s a.sl age).isEmpty && inWin age a.log.length a.b) nI (ev_lQ (ev_var rfl)) (by omega) (fun age hage M' hM => ?_) fun x hx _ M'' hM' => ev_var rfl
  have hage' := ha'.kl age hage
  refine et_and (et_t (ev_ne (ev_seenAt hage' (ev_var rfl) (ev_var rfl)) (ev_LD (ev_lst (ds := []) ea_nil)) (shaped_L _) shaped_E) (by rw [eqvAll_nL])) fun _ => ?_
  cases hb : a.b with
  | none => exact et_or (a := true) (b := true) (et_t (ev_isN (d := .none) (ev_var (i := 3) rfl)) rfl) fun z => nomatch z
  | some b =>
    refine et_or (a := false) (b := inWin age a.log.length (some b)) (et_t (ev_isN (d := nI b) (ev_var (i := 3) rfl)) rfl) fun _ => et_t (ev_gt (i := age) (j := (a.log.length : Int) - b) (ev_var rfl) (ev_sub (ev_var (i := 2) rfl) (ev_var (i := 3) rfl))) ?_
    unfold inWin
    apply decide_eq_decide.mpr
    omega
theorem ok_Lapart (T : Prg P K mg) : Callee P w K mg base 1 "_law_apart" ["_law_seen_here", "_law_one", "_law_other"] (sp_Lapart K mg) := by
  refine T.d_Lapart.ok sc_Lapart (fun _ _ _ _ _ _ us hl => match us, hl with | [_, _, _], _ => rfl) (fun _ => rfl) ?_
  intro f cdv B outer s H Q E hr
  have hu := hu_of hr
  have hu64 := hu64_of hr
  refine ⟨_, (pss_one (ps_ret (pe_cmpR (eqK K hu64) (pe_lc rfl sc_Lapart.nd (seqK K (ixK K (pv 0) (pv 1))) (blkOk_by (own := [("_law_start", 3)]) (N := N_Lapart) (sc := defScope s_Lapart) (by decide +kernel)) (fun _ _ _ _ _ => (pg_name (i := 3) sc_Lapart.nd rfl (Or.inl rfl))) (fun _ _ _ _ _ => (pts_one (pt_cmpR (inK K) (pv 3) (ixK K (pv 0) (pv 2)) (by rfl)))) (fun _ _ _ _ _ => (pv 3))) (pe_lst pa_nil) (nomark _)))), ?_⟩
  intro a G M hp hc hret hexc
  obtain ⟨a, s, one, other⟩ := a
  obtain ⟨ha, h1, h2⟩ := hp
  have ha' : a.Ok := ha
  have hz := ha'.sz
  have h1' : one < a.log.length + 1 := h1
  have h2' : other < a.log.length + 1 := h2
  have hl := seen_len a.tabs a.log s a.sl one
  refine go_ret (ev_to (ev_eq (d := .list (nL ((seenOf a.tabs a.log s a.sl one).filter fun x => decide (x ∈ seenOf a.tabs a.log s a.sl other)))) (e := .list []) (ev_LD (ev_lcN (l := seenOf a.tabs a.log s a.sl one) (fun x => decide (x ∈ seenOf a.tabs a.log s a.sl other)) nI (ev_lQ (ev_seenAt h1' (ev_var rfl) (ev_var rfl))) (by omega) (fun x hx M' hM => et_t (ev_inN (ev_var rfl) (ev_lQ (ev_seenAt h2' (ev_var rfl) (ev_var rfl)))) rfl) fun x hx _ M' hM => ev_var rfl)) (ev_LD (ev_lst (ds := []) ea_nil)) (shaped_L _) shaped_E) ?_) hret
  rw [eqvAll_nL]
  rfl
theorem ok_Lwhole (T : Prg P K mg) : Callee P w K mg base 1 "_law_whole" ["_law_value", "_law_most_here"] (sp_Lwhole K mg) := by
  refine T.d_Lwhole.ok sc_Lwhole (fun _ _ _ _ _ _ us hl => match us, hl with | [_, _], _ => rfl) (fun _ => rfl) ?_
  intro f cdv B outer s H Q E hr
  have hu := hu_of hr
  have hu64 := hu64_of hr
  refine ⟨_, (pss_one (ps_ret (pe_and (pe_callB (isiK K) rfl T.n_isinstance (by decide +kernel) (pa_cons (pv 0) (pa_cons (pe_bltn (v := .ty "int") rfl T.n_int (by decide +kernel) rfl) pa_nil))) (pe_and (pe_not (pe_callB (isiK K) rfl T.n_isinstance (by decide +kernel) (pa_cons (pv 0) (pa_cons (pe_bltn (v := .ty "bool") rfl T.n_bool (by decide +kernel) rfl) pa_nil)))) (pe_one (pe_chain op_le op_lt pe_int (pv 0) (pv 1))))))), ?_⟩
  intro a G M hp hc hret hexc
  obtain ⟨d, n⟩ := a
  cases d with
  | int i => exact go_ret (ev_to (ev_andV (a := true) (b := true && (decide (0 ≤ i) && decide (i < (n : Int)))) (ev_to (ev_isInt (d := .int i) (ev_var rfl)) rfl) fun _ => ev_andV (a := true) (b := decide (0 ≤ i) && decide (i < (n : Int))) (ev_notV (a := false) (ev_to (ev_isBool (d := .int i) (ev_var rfl)) rfl)) fun _ => ev_chain (p := fun i j => decide (i ≤ j)) (r := fun i j => decide (i < j)) (i := 0) (j := i) (k := n) ev_int (ev_var rfl) (ev_var rfl)) rfl) hret
  | bool x => exact go_ret (ev_to (ev_andV (a := true) (b := false && false) (ev_to (ev_isInt (d := .bool x) (ev_var rfl)) rfl) fun _ => ev_andV (a := false) (b := false) (ev_notV (a := true) (ev_to (ev_isBool (d := .bool x) (ev_var rfl)) rfl)) fun z => nomatch z) rfl) hret
  | none => exact go_ret (ev_to (ev_andV (a := false) (b := false) (ev_to (ev_isInt (d := .none) (ev_var rfl)) rfl) fun z => nomatch z) rfl) hret
  | str x => exact go_ret (ev_to (ev_andV (a := false) (b := false) (ev_to (ev_isInt (d := .str x) (ev_var rfl)) rfl) fun z => nomatch z) rfl) hret
  | list x => exact go_ret (ev_to (ev_andV (a := false) (b := false) (ev_to (ev_isInt (d := .list x) (ev_var rfl)) rfl) fun z => nomatch z) rfl) hret
  | tuple x => exact go_ret (ev_to (ev_andV (a := false) (b := false) (ev_to (ev_isInt (d := .tuple x) (ev_var rfl)) rfl) fun z => nomatch z) rfl) hret
  | dict x => exact go_ret (ev_to (ev_andV (a := false) (b := false) (ev_to (ev_isInt (d := .dict x) (ev_var rfl)) rfl) fun z => nomatch z) rfl) hret
end
end Ag
set_option Elab.async false
set_option linter.all false
set_option maxRecDepth 100000
set_option maxHeartbeats 2000000
/-! Ag19: due, holds. -/
namespace Ag
open PySem PySem.Spec PyProof.Rows L2
/-! ### flat data -/
def flat : PyData → Bool
  | .none => true
  | .bool _ => true
  | .int _ => true
  | .str x => SeqAt.shaped (.str x)
  | _ => false
theorem flat_can {d : PyData} (h : flat d = true) : d.canLay0 = true ∧ d.depth = 0 := by
  cases d with
  | none => exact ⟨by simp only [PyData.canLay0], by simp only [PyData.depth]⟩
  | bool b => exact ⟨by simp only [PyData.canLay0], by simp only [PyData.depth]⟩
  | int b => exact ⟨by simp only [PyData.canLay0], by simp only [PyData.depth]⟩
  | str x => exact ⟨SeqAt.canLay_of_shaped h, by simp only [PyData.depth]⟩
  | _ => cases h
theorem flat_all : ∀ {ds : List PyData}, (∀ d ∈ ds, flat d = true) → PyData.canLayAll0 ds = true ∧ PyData.depthAll ds = 0
  | [], _ => ⟨by simp only [PyData.canLayAll0], by simp only [PyData.depthAll]⟩
  | d :: ds, h => by
    obtain ⟨h1, h2⟩ := flat_can (h d List.mem_cons_self)
    obtain ⟨h3, h4⟩ := flat_all (ds := ds) fun x hx => h x (List.mem_cons_of_mem _ hx)
    refine ⟨by simp only [PyData.canLayAll0, h1, h3, Bool.and_self], by simp only [PyData.depthAll, h2, h4]; rfl⟩
theorem shaped_flat {ds : List PyData} (h : ∀ d ∈ ds, flat d = true) : SeqAt.shaped (.list ds) = true := by
  obtain ⟨h1, h2⟩ := flat_all h
  unfold SeqAt.shaped
  simp only [PyData.canLay0, PyData.depth, h1, h2]
  rfl
theorem eqvL_nil (ds : List PyData) : PyData.eqv (.list ds) (.list []) = ds.isEmpty := by
  cases ds <;> simp [PyData.eqv, PyData.eqvAll]
theorem filter_isEmpty {α : Type} (p : α → Bool) (l : List α) : (l.filter fun x => !p x).isEmpty = l.all p := by
  induction l with
  | nil => rfl
  | cons a l ih =>
    rw [List.filter_cons, List.all_cons]
    cases p a with
    | true => rw [Bool.true_and, ← ih]; rfl
    | false => rfl
def UpA.du (a : UpA) : DuA := ⟨a.tabs, a.n, a.log, a.sl, a.kl, a.b, a.md⟩
def OkV (v : PyData) : Prop := (items v).length ≤ 1000 ∧ (∀ d ∈ items v, flat d = true) ∧ ((items v).length = 6 → dAt (items v) 0 = .str "unsafe" ∨ dAt (items v) 0 = .str "safe" ∨ dAt (items v) 0 = .int 0)
abbrev sp_Lholds (K : FR) (mg : MG) : Sp := PrS (fun a : UpA × PyData => a.1.du.Ok ∧ OkV a.2) (fun a => [duRows K a.1.du, tD K (.list (nL a.1.sl)), tD K (.list (nL a.1.kl)), tD K (bdD a.1.b), tD K a.1.md, tD K a.2]) (fun a => tB K (holdsF a.1 a.2))
section
variable {K : FR} {mg : MG} {Γ Γ' : Gam} {M : Mem} {ta tb tc to te t1 t2 tv : TE} {tA : TA} {E : XK} {d : PyData} {G0 : Hp} {D : Ends} {g : TG} {T U R T1 T2 : Ty} {vs : List Nat} {p : Addr} {i j : Nat} {wi : TI} {Ti : Nat → Ty} {n m : Nat} {tt : TT}
theorem ev_whole {b : Bool} (h : Ev Γ M ta (tD K d)) (hb : Ev Γ M tb (tN K n)) (e : isBelow n d = b := by rfl) : Ev Γ M (tCall (sp_Lwhole K mg) [] E (tCons ta (tCons tb tNil))) (tB K b) := e ▸ ev_callS (d, n) (ea_cons h (ea_cons hb ea_nil)) trivial
theorem ev_Lapart {a : DuA} {s one other : Nat} (ha : Ev Γ M ta (tD K (.list (rwD (seenR a.tabs a.log s a.sl))))) (hb : Ev Γ M tb (tN K one)) (hc : Ev Γ M tc (tN K other)) (ok : a.Ok) (h1 : one < a.log.length + 1) (h2 : other < a.log.length + 1) : Ev Γ M (tCall (sp_Lapart K mg) [] E (tCons ta (tCons tb (tCons tc tNil)))) (tB K (apartOf a.tabs a.log s a.sl one other)) :=
  ev_callS (⟨a, s, one, other⟩ : ApA) (ea_cons ha (ea_cons hb (ea_cons hc ea_nil))) ⟨ok, h1, h2⟩
theorem dAt_mem {ds : List PyData} {i : Nat} (h : i < ds.length) : dAt ds i ∈ ds := List.mem_iff_getElem?.mpr ⟨i, dAt_lt h⟩
end
section
variable {P : Program} {w : World} {K : PySem.W.Frag} {mg : Str → Option Value} {base : Heap}
theorem ok_Ldue (T : Prg P K mg) : Callee P w K mg base 2 "_law_due" ["_law_rows_here", "_law_some", "_law_kept_here", "_law_bound", "_law_marking_here"] (sp_Ldue K mg) := by
  refine T.d_Ldue.ok sc_Ldue (fun _ _ _ _ _ _ us hl => match us, hl with | [_, _, _, _, _], _ => rfl) (fun _ => rfl) ?_
  intro f cdv B outer s H Q E hr
  have hu := hu_of hr
  have hu64 := hu64_of hr
  refine ⟨_, (pss_cons (ps_for (passes_of rfl) rfl (pi_range1 rfl T.n_range (pa_cons (pe_callB (lenK K) rfl T.n_len (by decide +kernel) (pa_cons (ixK K (pv 0) pe_int) pa_nil)) pa_nil)) (pg_name (i := 5) sc_Ldue.nd rfl (Or.inl rfl)) (pss_cons (ps_set (i := 6) sc_Ldue.nd rfl (Or.inl rfl) (pcallG (ok_Lseen T) hr passL (pa_cons (pv 0) (pa_cons (pv 1) (pa_cons (pv 5) pa_nil)))))
      (pss_cons (ps_set (i := 7) sc_Ldue.nd rfl (Or.inl rfl) (pcallG (ok_Lages T) hr passL (pa_cons (pv 6) (pa_cons (pv 2) (pa_cons (pe_op op_sub (pe_callB (lenK K) rfl T.n_len (by decide +kernel) (pa_cons (pv 0) pa_nil)) pe_int) (pa_cons (pv 3) pa_nil))))))
      (pss_one (ps_for (passes_of rfl) rfl (seqK K (pv 7)) (pg_name (i := 8) sc_Ldue.nd rfl (Or.inl rfl)) (pss_one (ps_for (passes_of rfl) rfl (seqK K (pv 7)) (pg_name (i := 9) sc_Ldue.nd rfl (Or.inl rfl)) (pss_one (ps_if (PW.pt (pw_and (pt_cmpR op_gt (pv 9) (pv 8) (nomark _)) (pw_and (pt_cmpR (eqK K hu64) (ixK K (ixK K (pv 4) (pv 8)) (pv 5)) (ixK K (ixK K (pv 4) (pv 9)) (pv 5)) (nomark _)) (pw_and1 (pt_val (pcallG (ok_Lapart T) hr passL (pa_cons (pv 6) (pa_cons (pv 8) (pa_cons (pv 9) pa_nil))))))))) (pss_one (ps_ret (pe_tup (pa_cons pe_str (pa_cons (pv 5) (pa_cons (pv 8) (pa_cons (pv 9) (pa_cons (ixK K (ixK K (pv 6) (pv 8)) pe_int) (pa_cons (ixK K (ixK K (pv 6) (pv 9)) pe_int) pa_nil))))))))) pss_nil)))))))))
      (pss_one (ps_ret pe_non))), ?_⟩
  intro a G M hp hc hret hexc
  have ha : a.Ok := hp
  have hlz := ha.l.1
  have hagelen : ∀ s, (a.ages s).length ≤ 1001 := fun s => by
    have h1 := ha.kz
    have h2 : (a.ages s).length ≤ (allAges a.tabs a.log s a.sl a.kl).length := List.length_filter_le _ _
    have h3 : (allAges a.tabs a.log s a.sl a.kl).length ≤ a.kl.length := List.length_filter_le _ _
    omega
  have hage : ∀ s x, x ∈ a.ages s → x < a.log.length + 1 ∧ 0 < (seenOf a.tabs a.log s a.sl x).length := fun s x hx => by
    obtain ⟨h1, _⟩ := List.mem_filter.mp hx
    obtain ⟨h3, h4⟩ := List.mem_filter.mp h1
    exact ⟨ha.kl x h3, of_decide_eq_true h4⟩
  have hlen : ∀ {Γ : Gam} {M : Mem}, Γ[0]? = some (some (duRows K a)) → Ev Γ M (tCB (rLenQ K) (tCons (tVar 0) tNil)) (tN K (a.log.length + 1)) := fun h => ev_to (ev_len (ev_lQ (ev_var h))) (by rw [rwD_len, rowsOf_len])
  have hn : ∀ {Γ : Gam} {M : Mem}, Γ[0]? = some (some (duRows K a)) → Ev Γ M (tCB (rLenQ K) (tCons (tOp (rIx K) (tVar 0) (tC (.int 0))) tNil)) (tN K a.n) := fun {Γ M} h => by
    have r := ev_lenN (ev_lQ (ev_rowAt (K := K) (age := 0) (by omega) (ev_var h) (ev_nat 0) (M := M)))
    rw [rowOf_len] at r
    exact r
  let Γ0 : Gam := [some (duRows K a), some (tD K (.list (nL a.sl))), some (tD K (.list (nL a.kl))), some (tD K (bdD a.b)), some (tD K a.md), none, none, none, none, none]
  have hΓ : g0 N_Ldue [duRows K a, tD K (.list (nL a.sl)), tD K (.list (nL a.kl)), tD K (bdD a.b), tD K a.md] = Γ0 := rfl
  rw [hΓ]
  refine go_seq (go_for (it_rng1 (hn rfl) (Nat.le_trans ha.t.n2 (by decide))) (fun i (_ : Unit) => Γ0) (fun i _ => Γ0.set 5 (some (tN K i))) (fun _ _ => M) (fun i _ => ∀ j, j < i → dueS a j = none) () rfl rfl (fun j hj => absurd hj (Nat.not_lt_zero _)) (fun i _ hi _ => tg_name) (fun i _ Gt hi hpi e => ?_) fun _ hpi => ?_)
  · refine go_set (T := tD K (.list (rwD (seenR a.tabs a.log i a.sl)))) (ev_callS (P := fun a : DuA × Nat => a.1.Ok ∧ a.2 < a.1.n) (A := fun a => [duRows K a.1, tD K (.list (nL a.1.sl)), tN K a.2]) (Rr := fun a => tD K (.list (rwD (seenR a.1.tabs a.1.log a.2 a.1.sl)))) (a, i) (ea_cons (ev_var rfl) (ea_cons (ev_var rfl) (ea_cons (ev_var rfl) ea_nil))) ⟨ha, hi⟩) ?_
    refine go_set (T := tD K (.list (nL (a.ages i)))) (ev_callS (P := fun a : DuA × Nat => a.1.Ok ∧ a.2 < a.1.n) (A := fun a => [tD K (.list (rwD (seenR a.1.tabs a.1.log a.2 a.1.sl))), tD K (.list (nL a.1.kl)), tN K a.1.log.length, tD K (bdD a.1.b)]) (Rr := fun a => tD K (.list (nL (a.1.ages a.2)))) (a, i) (ea_cons (ev_var rfl) (ea_cons (ev_var rfl) (ea_cons (ev_sub1 (i := 0) (a := a.log.length + 1) (hlen rfl) ev_int (by omega)) (ea_cons (ev_var rfl) ea_nil)))) ⟨ha, hi⟩) ?_
    let Γ1 : Gam := [some (duRows K a), some (tD K (.list (nL a.sl))), some (tD K (.list (nL a.kl))), some (tD K (bdD a.b)), some (tD K a.md), some (tN K i), some (tD K (.list (rwD (seenR a.tabs a.log i a.sl)))), some (tD K (.list (nL (a.ages i)))), none, none]
    have hI : ∀ {Γ : Gam}, Γ[7]? = some (some (tD K (.list (nL (a.ages i))))) → It1 Γ M (iSeq K (tVar 7)) (a.ages i).length (fun k => tD K (dAt (nL (a.ages i)) k)) := fun {Γ} h => by
      have r := it_seq (K := K) (Γ := Γ) (M := M) (tl := tVar 7) (ev_lQ (ds := nL (a.ages i)) (ev_var h))
      rw [nL_len] at r
      exact r
    refine go_for (vs := [8]) (hI rfl) (fun j (_ : Unit) => Γ1) (fun j _ => Γ1.set 8 (some (tN K (gt (a.ages i) j)))) (fun _ _ => M) (fun j _ => ∀ j', j' < j → dueI a i j' = none) () rfl rfl (fun j hj => absurd hj (Nat.not_lt_zero _)) (fun j _ hj _ => by rw [dAt_nL hj]; exact tg_name) (fun j _ Gt2 hj hpj e2 => ?_) fun _ hpj => nx_endW () (fun j' hj' => ?_) (.same (.same (.same (.same (.same (.no (.no (.no (.same (.same .nil)))))))))) rfl
    · refine go_for (vs := [9]) (hI rfl) (fun j2 (_ : Unit) => Γ1.set 8 (some (tN K (gt (a.ages i) j)))) (fun j2 _ => (Γ1.set 8 (some (tN K (gt (a.ages i) j)))).set 9 (some (tN K (gt (a.ages i) j2)))) (fun _ _ => M) (fun j2 _ => ∀ j', j' < j2 → dueJ a i j j' = none) () rfl rfl (fun j hj => absurd hj (Nat.not_lt_zero _)) (fun j2 _ hj2 _ => by rw [dAt_nL hj2]; exact tg_name) (fun j2 _ Gt3 hj2 hpj2 e3 => ?_) fun _ hpj2 => nx_endW () (fun j' hj' => ?_) (.same (.same (.same (.same (.same (.same (.same (.same (.no (.same .nil)))))))))) rfl
      · obtain ⟨one, hone⟩ : ∃ one, one = gt (a.ages i) j := ⟨_, rfl⟩
        obtain ⟨oth, hoth⟩ : ∃ oth, oth = gt (a.ages i) j2 := ⟨_, rfl⟩
        rw [← hone, ← hoth]
        obtain ⟨h1, h1'⟩ := hage i one (hone ▸ gt_mem hj)
        obtain ⟨h2, h2'⟩ := hage i oth (hoth ▸ gt_mem hj2)
        refine go_if (P := (· = dueC a i one oth)) (et_and (et_t (ev_gtN (ev_var (i := 9) rfl) (ev_var (i := 8) rfl)) rfl) fun _ => et_and (et_t (ev_eqD (ev_mark ha.md (ev_var (i := 4) rfl) (ev_var (i := 8) rfl) (ev_var (i := 5) rfl) h1 hi) (ev_mark ha.md (ev_var (i := 4) rfl) (ev_var (i := 9) rfl) (ev_var (i := 5) rfl) h2 hi)) rfl) fun _ => et_b (ev_Lapart (ev_var (i := 6) rfl) (ev_var (i := 8) rfl) (ev_var (i := 9) rfl) ha h1 h2) rfl) (fun hc1 => ?_) fun hc1 => ?_
        · have hs : ∀ {Γ : Gam} {M : Mem} {x : Nat} {tb : TE}, Γ[6]? = some (some (tD K (.list (rwD (seenR a.tabs a.log i a.sl))))) → x < a.log.length + 1 → 0 < (seenOf a.tabs a.log i a.sl x).length → Ev Γ M tb (tN K x) → Ev Γ M (tOp (rIx K) (tOp (rIx K) (tVar 6) tb) (tC (.int 0))) (tN K (gt (seenOf a.tabs a.log i a.sl x) 0)) := fun g1 g2 g3 g4 => ev_ixN (a := 0) (ev_lQ (ev_seenAt g2 (ev_var g1) g4)) (ev_nat 0) g3
          refine go_ret (T := tD K (dueP a i one oth)) (ev_tup (ea_cons (ev_str (x := "unsafe")) (ea_cons (ev_var (i := 5) (T := tN K i) rfl) (ea_cons (ev_var (i := 8) (T := tN K one) rfl) (ea_cons (ev_var (i := 9) (T := tN K oth) rfl) (ea_cons (hs rfl h1 h1' (ev_var rfl)) (ea_cons (hs rfl h2 h2' (ev_var rfl)) ea_nil)))))) (by exact (by decide : 6 ≤ 1000000))) ?_
          have hJ : dueJ a i j j2 = some (dueP a i one oth) := by
            unfold dueJ
            rw [← hone, ← hoth, if_pos hc1.symm]
          have hI0 : dueI a i j = some (dueP a i one oth) := find_some hj2 hpj2 hJ
          have hS : dueS a i = some (dueP a i one oth) := find_some hj hpj hI0
          have hD : due a = some (dueP a i one oth) := find_some hi hpi hS
          have hret' : Rt (Dn Q) G M (tD K ((due a).getD .none)) := hret
          rw [hD] at hret'
          exact hret'.base ((e.trans e2).trans e3)
        · refine go_endW () (fun j' hj' => ?_) (.same (.same (.same (.same (.same (.same (.same (.same (.same (.no .nil)))))))))) rfl
          rcases Nat.lt_succ_iff_lt_or_eq.mp hj' with h | h
          · exact hpj2 j' h
          · rw [h]
            unfold dueJ
            rw [← hone, ← hoth, if_neg (by rw [← hc1]; decide)]
      · rcases Nat.lt_succ_iff_lt_or_eq.mp hj' with h | h
        · exact hpj j' h
        · rw [h]; exact find_none hpj2
    · rcases Nat.lt_succ_iff_lt_or_eq.mp hj' with h | h
      · exact hpi j' h
      · rw [h]; exact find_none hpj
  · have hD : due a = none := find_none hpi
    have hret' : Rt (Dn Q) G M (tD K ((due a).getD .none)) := hret
    rw [hD] at hret'
    exact go_nx (go_ret ev_non hret')
end
end Ag
set_option Elab.async false
set_option linter.all false
set_option maxRecDepth 100000
set_option maxHeartbeats 4000000
/-! Ag20: the law's holds. -/
namespace Ag
open PySem PySem.Spec PyProof.Rows L2
theorem ro_unsafe : ReprOk (.str "unsafe") := ⟨by decide +kernel, by decide +kernel, by decide +kernel⟩
theorem ro_safe : ReprOk (.str "safe") := ⟨by decide +kernel, by decide +kernel, by decide +kernel⟩
theorem ro_zero : ReprOk (.int 0) := ⟨by decide +kernel, by decide +kernel, by decide +kernel⟩
section
variable {K : FR} {Γ : Gam} {M : Mem} {ta : TE} {d : PyData}
theorem dp0_of {G : Hp} {v : V} (h : Dp K G v d) (hf : flat d = true) : Dp0 v d := by
  cases h with
  | non => exact .inl ⟨rfl, rfl⟩
  | bl b => exact .inr (.inl ⟨b, rfl, rfl⟩)
  | int i => exact .inr (.inr (.inl ⟨i, rfl, rfl⟩))
  | str x => exact .inr (.inr (.inr ⟨x, rfl, rfl⟩))
  | _ => cases hf
theorem ev_reprS (h : Ev Γ M ta (tD K d)) (hf : flat d = true) (ok : ReprOk d) : Ev Γ M (tCB rReprS (tCons ta tNil)) (tD K (.str d.shown)) := ev_cb (ea_cons h ea_nil) fun G H vs w ht Q q => by
  cases ht with
  | cons hx hr => cases hr; exact ⟨_, d, rfl, dp0_of hx hf, ok, q _ G H (Same.refl _) w (.str _)⟩
end
section
variable {P : Program} {w : World} {K : PySem.W.Frag} {mg : Str → Option Value} {base : Heap}
theorem ok_Lholds (T : Prg P K mg) : Callee P w K mg base 2 "_law_holds" ["_law_rows_here", "_law_some", "_law_kept_here", "_law_bound", "_law_marking_here", "_law_value"] (sp_Lholds K mg) := by
  refine T.d_Lholds.ok sc_Lholds (fun _ _ _ _ _ _ us hl => match us, hl with | [_, _, _, _, _, _], _ => rfl) (fun _ => rfl) ?_
  intro f cdv B outer s H Q E hr
  have hu := hu_of hr
  have hu64 := hu64_of hr
  refine ⟨_, (pss_cons (ps_if (PW.pt (pw_or (pt_not (pt_val (pe_callB (isiTK K) rfl T.n_isinstance (by decide +kernel) (pa_cons (pv 5) (pa_cons (pe_tup (pa_cons (pe_bltn (v := .ty "list") rfl T.n_list (by decide +kernel) rfl) (pa_cons (pe_bltn (v := .ty "tuple") rfl T.n_tuple (by decide +kernel) rfl) pa_nil))) pa_nil))))) (pw_or (pt_cmpR (neK K hu64) (pe_callB (lenK K) rfl T.n_len (by decide +kernel) (pa_cons (pv 5) pa_nil)) pe_int (nomark _)) (pw_or1 (pt_cmpR (neK K hu64) (pe_callB reprS rfl T.n_repr (by decide +kernel) (pa_cons (ixK K (pv 5) pe_int) pa_nil)) (pe_callB reprS rfl T.n_repr (by decide +kernel) (pa_cons pe_str pa_nil)) (nomark _)))))) (pss_one (ps_ret pe_bl)) pss_nil)
      (pss_cons (ps_asg (slK K (pv 5) (po_some pe_int) po_none) (unqG K 5 (pgs_cons (pg_name (i := 6) sc_Lholds.nd rfl (Or.inl rfl)) (pgs_cons (pg_name (i := 7) sc_Lholds.nd rfl (Or.inl rfl)) (pgs_cons (pg_name (i := 8) sc_Lholds.nd rfl (Or.inl rfl)) (pgs_cons (pg_name (i := 9) sc_Lholds.nd rfl (Or.inl rfl)) (pgs_cons (pg_name (i := 10) sc_Lholds.nd rfl (Or.inl rfl)) pgs_nil)))))))
      (pss_cons (ps_if (pt_cmpR (neK K hu64) (pe_lc rfl sc_Lholds.nd (seqK K (pe_tup (pa_cons (pv 6) (pa_cons (pv 9) (pa_cons (pv 10) pa_nil))))) (blkOk_by (own := [("_law_part", 11)]) (N := N_Lholds) (sc := defScope s_Lholds) (by decide +kernel)) (fun _ _ _ _ _ => (pg_name (i := 11) sc_Lholds.nd rfl (Or.inl rfl))) (fun _ _ _ _ _ => (pts_one (pt_not (pt_val (pcallG (ok_Lwhole T) hr passL (pa_cons (pv 11) (pa_cons (pe_callB (lenK K) rfl T.n_len (by decide +kernel) (pa_cons (ixK K (pv 0) pe_int) pa_nil)) pa_nil))))))) (fun _ _ _ _ _ => (pv 11))) (pe_lst pa_nil) (nomark _)) (pss_one (ps_ret pe_bl)) pss_nil)
      (pss_cons (ps_set (i := 12) sc_Lholds.nd rfl (Or.inr rfl) (pe_lc rfl sc_Lholds.nd (seqK K (pv 2)) (blkOk_by (own := [("_law_age", 13)]) (N := N_Lholds) (sc := defScope s_Lholds) (by decide +kernel)) (fun _ _ _ _ _ => (pg_name (i := 13) sc_Lholds.nd rfl (Or.inl rfl))) (fun _ _ _ _ _ => (pts_one (PW.pt (pw_or (pt_cmpR op_isN (pv 3) pe_non (nomark _)) (pw_or1 (pt_cmpR op_gt (pv 13) (pe_op op_sub (pe_op op_sub (pe_callB (lenK K) rfl T.n_len (by decide +kernel) (pa_cons (pv 0) pa_nil)) pe_int) (pv 3)) (nomark _))))))) (fun _ _ _ _ _ => (pv 13))))
      (pss_cons (ps_if (PW.pt (pw_or (pt_cmpR (neK K hu64) (pe_lc rfl sc_Lholds.nd (seqK K (pe_tup (pa_cons (pv 7) (pa_cons (pv 8) pa_nil)))) (blkOk_by (own := [("_law_age", 13)]) (N := N_Lholds) (sc := defScope s_Lholds) (by decide +kernel)) (fun _ _ _ _ _ => (pg_name (i := 13) sc_Lholds.nd rfl (Or.inl rfl))) (fun _ _ _ _ _ => (pts_one (PW.pt (pw_or (pt_not (pt_val (pcallG (ok_Lwhole T) hr passL (pa_cons (pv 13) (pa_cons (pe_callB (lenK K) rfl T.n_len (by decide +kernel) (pa_cons (pv 0) pa_nil)) pa_nil))))) (pw_or1 (pt_cmpR (notInK K) (pv 13) (pv 12) (by rfl))))))) (fun _ _ _ _ _ => (pv 13))) (pe_lst pa_nil) (nomark _)) (pw_or1 (pt_cmpR op_ge (pv 7) (pv 8) (nomark _))))) (pss_one (ps_ret pe_bl)) pss_nil)
      (pss_cons (ps_if (PW.pt (pw_or (pt_cmpR (notInK K) (pv 9) (pv 1) (by rfl)) (pw_or (pt_cmpR (notInK K) (pv 10) (pv 1) (by rfl)) (pw_or1 (pt_cmpR (neK K hu64) (ixK K (ixK K (pv 4) (pv 7)) (pv 6)) (ixK K (ixK K (pv 4) (pv 8)) (pv 6)) (nomark _)))))) (pss_one (ps_ret pe_bl)) pss_nil)
      (pss_one (ps_ret (pe_and (pe_cmpR (eqK K hu64) (ixK K (ixK K (pv 0) (pv 7)) (pv 9)) (pv 6) (nomark _)) (pe_and (pe_cmpR (eqK K hu64) (ixK K (ixK K (pv 0) (pv 8)) (pv 10)) (pv 6) (nomark _)) (pe_one (pe_cmpR (neK K hu64) (ixK K (ixK K (pv 0) (pv 8)) (pv 9)) (pv 6) (nomark _))))))))))))), ?_⟩
  intro a G M hp hc hret hexc
  obtain ⟨⟨tabs, n, k, log, md, sd, sl, kd, kl, bd, b, ok⟩, v⟩ := a
  obtain ⟨ha, hv, hflat, hit0⟩ := hp
  obtain ⟨a, hae⟩ : ∃ a : UpA, a = ⟨tabs, n, k, log, md, sd, sl, kd, kl, bd, b, ok⟩ := ⟨_, rfl⟩
  have ha' : DuA.Ok ⟨tabs, n, log, sl, kl, b, md⟩ := ha
  have hT' : OkT tabs n := ha'.t
  have hL' : OkL tabs log := ha'.l
  have hlz := hL'.1
  have hk : okMk n log.length md = true := ha'.md
  have hv' : (items v).length ≤ 1000 := hv
  have hflat' : ∀ d ∈ items v, flat d = true := hflat
  have hit0' : (items v).length = 6 → dAt (items v) 0 = .str "unsafe" ∨ dAt (items v) 0 = .str "safe" ∨ dAt (items v) 0 = .int 0 := hit0
  have hret' : Rt (Dn Q) G M (tB K (holdsF a v)) := by rw [hae]; exact hret
  have ea : a.tabs = tabs ∧ a.n = n ∧ a.log = log ∧ a.md = md ∧ a.sl = sl ∧ a.kl = kl ∧ a.b = b := by rw [hae]; exact ⟨rfl, rfl, rfl, rfl, rfl, rfl, rfl⟩
  obtain ⟨wl, hwl⟩ : ∃ wl, wl = kl.filter fun age => inWin age log.length b := ⟨_, rfl⟩
  have hwin : winOf a = wl := by rw [hwl, hae]; rfl
  have hwlt : ∀ x ∈ wl, x < log.length + 1 := fun x hx => ha'.kl x (by rw [hwl] at hx; exact (List.mem_filter.mp hx).1)
  have hkl : kl.length ≤ 1001 := ha'.kz
  let R0 : Ty := tD K (.list (rwD (rowsOf tabs n log)))
  have hΓ : g0 N_Lholds [duRows K (UpA.du ⟨tabs, n, k, log, md, sd, sl, kd, kl, bd, b, ok⟩), tD K (.list (nL sl)), tD K (.list (nL kl)), tD K (bdD b), tD K md, tD K v] = [some R0, some (tD K (.list (nL sl))), some (tD K (.list (nL kl))), some (tD K (bdD b)), some (tD K md), some (tD K v), none, none, none, none, none, none, none, none] := rfl
  suffices hgo : Go [some R0, some (tD K (.list (nL sl))), some (tD K (.list (nL kl))), some (tD K (bdD b)), some (tD K md), some (tD K v), none, none, none, none, none, none, none, none] M _ (Dn Q) G by
    rw [← hΓ] at hgo
    exact hgo
  have hlen : ∀ {Γ : Gam} {M : Mem}, Γ[0]? = some (some R0) → Ev Γ M (tCB (rLenQ K) (tCons (tVar 0) tNil)) (tN K (log.length + 1)) := fun h => ev_to (ev_len (ev_lQ (ev_var h))) (by rw [rwD_len, rowsOf_len])
  have hn : ∀ {Γ : Gam} {M : Mem}, Γ[0]? = some (some R0) → Ev Γ M (tCB (rLenQ K) (tCons (tOp (rIx K) (tVar 0) (tC (.int 0))) tNil)) (tN K n) := fun {Γ M} h => by
    have r := ev_lenN (ev_lQ (ev_rowAt (K := K) (age := 0) (by omega) (ev_var h) (ev_nat 0) (M := M)))
    rw [rowOf_len] at r
    exact r
  have retF : holdsF a v = false → ∀ {Γ : Gam} {D : Ends} {G1 : Hp}, D.rt = Q → Same G G1 → Go Γ M (tRet (tC (.bl false))) D G1 := fun h Γ D G1 hD e => go_ret ev_bl fun v' G' H' e' w' t => by
    rw [hD]
    rw [h] at hret'
    exact hret' v' G' H' (e.trans e') w' t
  cases hs : isSeq v with
  | false =>
    have hF : holdsF a v = false := by unfold holdsF; rw [hs]; rfl
    exact go_ifs (et_or (a := true) (b := true) (et_n (et_b (ev_to (ev_isSeq (d := v) (ev_var rfl)) (by rw [hs])) rfl) rfl) fun z => nomatch z) (fun _ => retF hF rfl (Same.refl _)) fun z => nomatch z
  | true =>
  rcases (Decidable.em ((items v).length = 6)).symm with hl | hl
  · have hF : holdsF a v = false := by unfold holdsF; rw [hs, decide_eq_false hl]; rfl
    refine go_ifs (et_or (a := false) (b := true) (et_n (et_b (ev_to (ev_isSeq (d := v) (ev_var rfl)) (by rw [hs])) rfl) rfl) fun _ => et_or (a := true) (b := true) (et_t (ev_neN (a := (items v).length) (b := 6) (ev_len (ev_sQ hs (ev_var rfl))) ev_int) ?_) fun z => nomatch z) (fun _ => retF hF rfl (Same.refl _)) fun z => nomatch z
    rw [decide_eq_false hl]; rfl
  have h0 : ∀ {Γ : Gam} {M : Mem}, Γ[5]? = some (some (tD K v)) → Ev Γ M (tOp (rIx K) (tVar 5) (tC (.int 0))) (tD K (dAt (items v) 0)) := fun h => ev_ixD (a := 0) (ev_sQ hs (ev_var h)) (ev_nat 0) (by omega)
  have hl6 : ∀ {Γ : Gam} {M : Mem}, Γ[5]? = some (some (tD K v)) → EvT Γ M (tTest (tOp (rNeD K) (tCB (rLenQ K) (tCons (tVar 5) tNil)) (tC (.int 6)))) (· = false) := fun h => et_t (ev_neN (a := (items v).length) (b := 6) (ev_len (ev_sQ hs (ev_var h))) ev_int) (by rw [decide_eq_true hl]; rfl)
  have hsq : ∀ {Γ : Gam} {M : Mem}, Γ[5]? = some (some (tD K v)) → EvT Γ M (tNot (L2.tB (tCB (rIsiT K) (tCons (tVar 5) (tCons (tTup (tCons (tC (.ty "list")) (tCons (tC (.ty "tuple")) tNil))) tNil))))) (· = false) := fun h => et_n (et_b (ev_to (ev_isSeq (d := v) (ev_var h)) (by rw [hs])) rfl) rfl
  have hrp : ∀ {Γ : Gam} {M : Mem} {d : PyData} {c : Bool}, Γ[5]? = some (some (tD K v)) → dAt (items v) 0 = d → flat d = true → ReprOk d → SeqAt.shaped (.str d.shown) = true → PyData.eqv (.str d.shown) (.str (PyData.shown (.str "unsafe"))) = c → EvT Γ M (tTest (tOp (rNeD K) (tCB rReprS (tCons (tOp (rIx K) (tVar 5) (tC (.int 0))) tNil)) (tCB rReprS (tCons (tC (.str "unsafe")) tNil)))) (· = !c) := fun {Γ M d c} h e hf hr hs he => et_t (ev_ne (ev_reprS (e ▸ h0 h) hf hr) (ev_reprS ev_str (by decide +kernel) ro_unsafe) hs (by decide +kernel)) (by rw [he])
  rcases hit0' hl with h00 | h00 | h00
  rotate_left
  · have hF : holdsF a v = false := by
      unfold holdsF
      rw [h00, hs, decide_eq_true hl]
      have : (isStr (.str "safe") && PyData.eqv (.str "safe") (.str "unsafe")) = false := by decide +kernel
      rw [this]; rfl
    exact go_ifs (et_or (a := false) (b := true) (hsq rfl) fun _ => et_or (a := false) (b := true) (hl6 rfl) fun _ => hrp (c := false) rfl h00 (by decide +kernel) ro_safe (by decide +kernel) (by decide +kernel)) (fun _ => retF hF rfl (Same.refl _)) fun z => nomatch z
  · have hF : holdsF a v = false := by
      unfold holdsF
      rw [h00, hs, decide_eq_true hl]
      rfl
    exact go_ifs (et_or (a := false) (b := true) (hsq rfl) fun _ => et_or (a := false) (b := true) (hl6 rfl) fun _ => hrp (c := false) rfl h00 (by decide +kernel) ro_zero (by decide +kernel) (by decide +kernel)) (fun _ => retF hF rfl (Same.refl _)) fun z => nomatch z
  refine go_ifs (et_or (a := false) (b := false) (hsq rfl) fun _ => et_or (a := false) (b := false) (hl6 rfl) fun _ => hrp (c := true) rfl h00 (by decide +kernel) ro_unsafe (by decide +kernel) (by decide +kernel)) (fun z => nomatch z) fun _ => ?_
  have ht : isStr (dAt (items v) 0) = true := by rw [h00]; rfl
  have he : PyData.eqv (dAt (items v) 0) (.str "unsafe") = true := by rw [h00]; decide +kernel
  obtain ⟨d1, hd1⟩ : ∃ d, d = dAt (items v) 1 := ⟨_, rfl⟩
  obtain ⟨d2, hd2⟩ : ∃ d, d = dAt (items v) 2 := ⟨_, rfl⟩
  obtain ⟨d3, hd3⟩ : ∃ d, d = dAt (items v) 3 := ⟨_, rfl⟩
  obtain ⟨d4, hd4⟩ : ∃ d, d = dAt (items v) 4 := ⟨_, rfl⟩
  obtain ⟨d5, hd5⟩ : ∃ d, d = dAt (items v) 5 := ⟨_, rfl⟩
  have f1 : flat d1 = true := hd1 ▸ hflat' _ (dAt_mem (by omega))
  have f2 : flat d2 = true := hd2 ▸ hflat' _ (dAt_mem (by omega))
  have f3 : flat d3 = true := hd3 ▸ hflat' _ (dAt_mem (by omega))
  have f4 : flat d4 = true := hd4 ▸ hflat' _ (dAt_mem (by omega))
  have f5 : flat d5 = true := hd5 ▸ hflat' _ (dAt_mem (by omega))
  have hF : holdsF a v = (if [d1, d4, d5].all (isBelow n) then
      if [d2, d3].all (inNums wl) && decide (nat d2 < nat d3) then
        if decide (nat d4 ∈ sl) && (decide (nat d5 ∈ sl) && decide (mkI md (nat d2) (nat d1) = mkI md (nat d3) (nat d1))) then
          if decide (run tabs (log.take (nat d2)) (nat d4) = nat d1) && decide (run tabs (log.take (nat d3)) (nat d5) = nat d1) then
            !decide (run tabs (log.take (nat d3)) (nat d4) = nat d1)
          else false
        else false
      else false
    else false) := by
    unfold holdsF
    rw [hs, decide_eq_true hl, ht, he, hwin, hd1, hd2, hd3, hd4, hd5, ea.1, ea.2.1, ea.2.2.1, ea.2.2.2.1, ea.2.2.2.2.1]
    rfl
  have hsl : Ev [some R0, some (tD K (.list (nL sl))), some (tD K (.list (nL kl))), some (tD K (bdD b)), some (tD K md), some (tD K v), none, none, none, none, none, none, none, none] M (tSl (rSlQ K) (tVar 5) (tPart (tC (.int 1))) tNoPart) (tQ K [d1, d2, d3, d4, d5]) := by
    have r := ev_slQ (K := K) (ds := items v) (lo := some ((1 : Nat) : Int)) (hi := none) (te := tVar 5) (tl := tPart (tC (.int 1))) (th := tNoPart) (Γ := [some R0, some (tD K (.list (nL sl))), some (tD K (.list (nL kl))), some (tD K (bdD b)), some (tD K md), some (tD K v), none, none, none, none, none, none, none, none]) (M := M) (ev_sQ hs (ev_var rfl)) (eo_some (K := K) ev_int) eo_none
    rw [cut_from, six hl, ← hd1, ← hd2, ← hd3, ← hd4, ← hd5] at r
    exact r
  refine go_seq (go_asgT hsl tg_unq5 (go_nx ?_))
  have hall1 : ∀ c, [d1, d4, d5].all (isBelow n) = c → EvT [some R0, some (tD K (.list (nL sl))), some (tD K (.list (nL kl))), some (tD K (bdD b)), some (tD K md), some (tD K v), some (tD K d1), some (tD K d2), some (tD K d3), some (tD K d4), some (tD K d5), none, none, none] M _ (· = !c) := fun c hc => et_t (ev_ne (d := .list ([d1, d4, d5].filter fun d => !isBelow n d)) (e := .list []) (by
      have r := ev_lcS (K := K) (te := tVar 11) (tt := tNot (L2.tB (tCall (sp_Lwhole K mg) [] E0 (tCons (tVar 11) (tCons (tCB (rLenQ K) (tCons (tOp (rIx K) (tVar 0) (tC (.int 0))) tNil)) tNil))))) (j := 11) (Γ := [some R0, some (tD K (.list (nL sl))), some (tD K (.list (nL kl))), some (tD K (bdD b)), some (tD K md), some (tD K v), some (tD K d1), some (tD K d2), some (tD K d3), some (tD K d4), some (tD K d5), none, none, none]) (M := M) (ds := [d1, d4, d5]) (fun d => !isBelow n d) id (ev_tQ (ev_tup (ds := [d1, d4, d5]) (ea_cons (ev_var (i := 6) rfl) (ea_cons (ev_var (i := 9) rfl) (ea_cons (ev_var (i := 10) rfl) ea_nil))) (by exact (by decide : 3 ≤ 1000000)))) (by exact (by decide : 3 ≤ 1000000)) (fun d hd M' hM => et_notB (et_b (ev_whole (mg := mg) (E := E0) (n := n) (ev_var (i := 11) rfl) (hn rfl)) rfl)) (fun d hd _ M' hM => ev_var (i := 11) rfl)
      rw [List.map_id] at r
      exact ev_LD r) (ev_LD (ev_lst (ds := []) ea_nil)) (shaped_flat fun d hd => by
      have := (List.mem_filter.mp hd).1
      simp only [List.mem_cons, List.not_mem_nil, or_false] at this
      rcases this with rfl | rfl | rfl <;> assumption) shaped_E) (by rw [eqvL_nil, filter_isEmpty, hc])
  cases hc1 : [d1, d4, d5].all (isBelow n) with
  | false => exact go_ifs (hall1 false hc1) (fun _ => retF (by rw [hF, hc1]; rfl) rfl (Same.refl _)) fun z => nomatch z
  | true =>
  refine go_ifs (hall1 true hc1) (fun z => nomatch z) fun _ => ?_
  rw [hc1, if_pos rfl] at hF
  rw [List.all_eq_true] at hc1
  obtain ⟨e1, l1⟩ := below_nat' (hc1 d1 (by simp))
  obtain ⟨e4, l4⟩ := below_nat' (hc1 d4 (by simp))
  obtain ⟨e5, l5⟩ := below_nat' (hc1 d5 (by simp))
  refine go_set (T := tL K (nL wl)) (by
    rw [hwl]
    refine ev_lcN (l := kl) (fun age => inWin age log.length b) nI (ev_lQ (ev_var (i := 2) rfl)) (by omega) (fun age hage M' hM => ?_) fun age hage _ M' hM => ev_var rfl
    cases b with
    | none => exact et_or (a := true) (b := true) (et_t (ev_isN (d := .none) (ev_var (i := 3) rfl)) rfl) fun z => nomatch z
    | some b =>
      refine et_or (a := false) (b := inWin age log.length (some b)) (et_t (ev_isN (d := nI b) (ev_var (i := 3) rfl)) rfl) fun _ => et_t (ev_gt (i := age) (j := (log.length : Int) - b) (ev_var (i := 13) rfl) (ev_sub (ev_sub1 (i := 0) (a := log.length + 1) (hlen rfl) ev_int (by omega)) (ev_var (i := 3) rfl))) ?_
      unfold inWin
      apply decide_eq_decide.mpr
      omega) ?_
  have hwh : ∀ d, (isBelow (log.length + 1) d && decide (nat d ∈ wl)) = inNums wl d := fun d => by
    unfold inNums
    cases hb : isBelow (log.length + 1) d with
    | true =>
      obtain ⟨eb, _⟩ := below_nat' hb
      have : isNumber d = true := by rw [eb]; exact decide_eq_true (p := 0 ≤ ((nat d : Nat) : Int)) (Int.natCast_nonneg (nat d))
      rw [this]
    | false =>
      cases hnm : isNumber d with
      | false => rfl
      | true =>
        have eb := num_nat hnm
        by_cases hm : nat d ∈ wl
        · rw [eb, below_nat (hwlt _ hm)] at hb; cases hb
        · rw [decide_eq_false hm]; rfl
  have hall2 : ∀ c, [d2, d3].all (inNums wl) = c → EvT [some R0, some (tD K (.list (nL sl))), some (tD K (.list (nL kl))), some (tD K (bdD b)), some (tD K md), some (tD K v), some (tD K d1), some (tD K d2), some (tD K d3), some (tD K d4), some (tD K d5), none, some (tL K (nL wl)), none] M _ (· = !c) := fun c hc => et_t (ev_ne (d := .list ([d2, d3].filter fun d => !inNums wl d)) (e := .list []) (by
      have r := ev_lcS (K := K) (te := tVar 13) (tt := tOr (tNot (L2.tB (tCall (sp_Lwhole K mg) [] E0 (tCons (tVar 13) (tCons (tCB (rLenQ K) (tCons (tVar 0) tNil)) tNil))))) (tTest (tOp (rIn K true) (tVar 13) (tVar 12)))) (j := 13) (Γ := [some R0, some (tD K (.list (nL sl))), some (tD K (.list (nL kl))), some (tD K (bdD b)), some (tD K md), some (tD K v), some (tD K d1), some (tD K d2), some (tD K d3), some (tD K d4), some (tD K d5), none, some (tL K (nL wl)), none]) (M := M) (ds := [d2, d3]) (fun d => !inNums wl d) id (ev_tQ (ev_tup (ds := [d2, d3]) (ea_cons (ev_var (i := 7) rfl) (ea_cons (ev_var (i := 8) rfl) ea_nil)) (by exact (by decide : 2 ≤ 1000000)))) (by exact (by decide : 2 ≤ 1000000)) (fun d hd M' hM => by
          have hb := hwh d
          cases hbb : isBelow (log.length + 1) d with
          | false =>
            rw [hbb] at hb
            rw [← hb]
            exact et_or (a := true) (b := true) (et_n (a := true) (et_b (ev_whole (mg := mg) (E := E0) (n := log.length + 1) (ev_var (i := 13) rfl) (hlen rfl) hbb) rfl) rfl) fun z => nomatch z
          | true =>
            rw [hbb, Bool.true_and] at hb
            obtain ⟨eb, _⟩ := below_nat' hbb
            rw [← hb]
            exact et_or (a := false) (b := !decide (nat d ∈ wl)) (et_n (a := false) (et_b (ev_whole (mg := mg) (E := E0) (n := log.length + 1) (ev_var (i := 13) rfl) (hlen rfl) hbb) rfl) rfl) fun _ => et_t (ev_notInN (a := nat d) (ev_to (ev_var (i := 13) rfl) eb) (ev_LQ (ev_var (i := 12) rfl))) rfl) (fun d hd _ M' hM => ev_var (i := 13) rfl)
      rw [List.map_id] at r
      exact ev_LD r) (ev_LD (ev_lst (ds := []) ea_nil)) (shaped_flat fun d hd => by
      have := (List.mem_filter.mp hd).1
      simp only [List.mem_cons, List.not_mem_nil, or_false] at this
      rcases this with rfl | rfl <;> assumption) shaped_E) (by rw [eqvL_nil, filter_isEmpty, hc])
  cases hc2 : [d2, d3].all (inNums wl) with
  | false => exact go_ifs (et_or (a := true) (b := true) (hall2 false hc2) fun z => nomatch z) (fun _ => retF (by rw [hF, hc2]; rfl) rfl (Same.refl _)) fun z => nomatch z
  | true =>
  rw [hc2, Bool.true_and] at hF
  have hc2' := hc2
  rw [List.all_eq_true] at hc2'
  have in2 := hc2' d2 (by simp)
  have in3 := hc2' d3 (by simp)
  unfold inNums at in2 in3
  rw [Bool.and_eq_true, decide_eq_true_eq] at in2 in3
  have e2 := num_nat in2.1
  have e3 := num_nat in3.1
  have l2 := hwlt _ in2.2
  have l3 := hwlt _ in3.2
  obtain ⟨s1, hs1⟩ : ∃ x, x = nat d1 := ⟨_, rfl⟩
  obtain ⟨s2, hs2⟩ : ∃ x, x = nat d2 := ⟨_, rfl⟩
  obtain ⟨s3, hs3⟩ : ∃ x, x = nat d3 := ⟨_, rfl⟩
  obtain ⟨s4, hs4⟩ : ∃ x, x = nat d4 := ⟨_, rfl⟩
  obtain ⟨s5, hs5⟩ : ∃ x, x = nat d5 := ⟨_, rfl⟩
  rw [← hs1] at e1 l1 hF
  rw [← hs2] at e2 l2 hF
  rw [← hs3] at e3 l3 hF
  rw [← hs4] at e4 l4 hF
  rw [← hs5] at e5 l5 hF
  refine go_ifs (P := (· = (false || decide (s3 ≤ s2)))) (et_or (a := false) (b := decide (s3 ≤ s2)) (hall2 true hc2) fun _ => et_t (ev_geN (ev_to (ev_var (i := 7) rfl) e2) (ev_to (ev_var (i := 8) rfl) e3)) rfl) (fun hc => ?_) fun hc => ?_
  · have h32 : s3 ≤ s2 := by rw [Bool.false_or] at hc; exact of_decide_eq_true hc.symm
    exact retF (by rw [hF, if_neg (by rw [decide_eq_true_eq]; omega)]) rfl (Same.refl _)
  have h23 : s2 < s3 := by rw [Bool.false_or] at hc; have := of_decide_eq_false hc.symm; omega
  rw [if_pos (decide_eq_true h23)] at hF
  subst e1 e2 e3 e4 e5
  refine go_ifs (P := (· = (!decide (s4 ∈ sl) || (!decide (s5 ∈ sl) || !decide (mkI md s2 s1 = mkI md s3 s1))))) (et_or (et_t (ev_notInN (ev_var (i := 9) rfl) (ev_lQ (ev_var (i := 1) rfl))) rfl) fun _ => et_or (et_t (ev_notInN (ev_var (i := 10) rfl) (ev_lQ (ev_var (i := 1) rfl))) rfl) fun _ => et_t (ev_neI (ev_mark hk (ev_var (i := 4) rfl) (ev_var (i := 7) rfl) (ev_var (i := 6) rfl) l2 l1) (ev_mark hk (ev_var (i := 4) rfl) (ev_var (i := 8) rfl) (ev_var (i := 6) rfl) l3 l1)) rfl) (fun hc => ?_) fun hc => ?_
  · refine retF ?_ rfl (Same.refl _)
    rw [hF, if_neg]
    intro z
    rw [Bool.and_eq_true, Bool.and_eq_true] at z
    rw [z.1, z.2.1, z.2.2] at hc
    cases hc
  rw [if_pos (by
    cases q1 : decide (s4 ∈ sl) <;> cases q2 : decide (s5 ∈ sl) <;> cases q3 : decide (mkI md s2 s1 = mkI md s3 s1) <;> rw [q1, q2, q3] at hc <;> first | rfl | cases hc)] at hF
  have hrow : ∀ {Γ : Gam} {M : Mem} {age s : Nat} {tb tc : TE}, Γ[0]? = some (some R0) → age < log.length + 1 → s < n → Ev Γ M tb (tN K age) → Ev Γ M tc (tN K s) → Ev Γ M (tOp (rIx K) (tOp (rIx K) (tVar 0) tb) tc) (tN K (run tabs (log.take age) s)) := fun {Γ M age s tb tc} g1 g2 g3 g4 g5 => by
    have r2 := ev_ixN (ev_lQ (ev_rowAt (K := K) g2 (ev_var g1) g4)) g5 (by rw [rowOf_len]; exact g3)
    rw [rowOf_at g3] at r2
    exact r2
  refine go_ret (ev_to (ev_andV (a := decide (run tabs (log.take s2) s4 = s1)) (b := decide (run tabs (log.take s3) s5 = s1) && !decide (run tabs (log.take s3) s4 = s1)) (ev_eqN (hrow rfl l2 l4 (ev_var (i := 7) rfl) (ev_var (i := 9) rfl)) (ev_var (i := 6) rfl)) fun _ => ev_andV (a := decide (run tabs (log.take s3) s5 = s1)) (b := !decide (run tabs (log.take s3) s4 = s1)) (ev_eqN (hrow rfl l3 l5 (ev_var (i := 8) rfl) (ev_var (i := 10) rfl)) (ev_var (i := 6) rfl)) fun _ => ev_neN (hrow rfl l3 l4 (ev_var (i := 8) rfl) (ev_var (i := 9) rfl)) (ev_var (i := 6) rfl)) ?_) hret'
  rw [hF]
  cases q1 : decide (run tabs (log.take s2) s4 = s1) <;> cases q2 : decide (run tabs (log.take s3) s5 = s1) <;> rfl
end
end Ag
set_option Elab.async false
set_option linter.all false
set_option maxRecDepth 100000
set_option maxHeartbeats 4000000
/-! AgP: the plain law. -/
namespace Ag
open PySem PySem.Spec PyProof.Rows L2
/-- what a good argument is -/
structure UpA.Good (a : UpA) : Prop where
  t : OkT a.tabs a.n
  l : OkL a.tabs a.log
  z : Szd a.md
  m : okMk a.n a.log.length a.md = true
  s : GoodSt a.n a.sd a.sl
  k : GoodKp a.log.length a.kd a.kl
  b : GoodBd a.b
theorem run_split (tabs : List (List Nat)) (log : List Nat) {one oth : Nat} (h : one ≤ oth) (x : Nat) : run tabs (log.take oth) x = run tabs ((log.drop one).take (oth - one)) (run tabs (log.take one) x) := by
  have e : log.take oth = log.take one ++ (log.drop one).take (oth - one) := by
    obtain ⟨k, rfl⟩ : ∃ k, oth = one + k := ⟨oth - one, by omega⟩
    rw [List.take_add]
    congr 2
    omega
  unfold run
  rw [e, List.foldl_append]
theorem seen_mem {tabs : List (List Nat)} {log : List Nat} {s : Nat} {sl : List Nat} {age x : Nat} : x ∈ seenOf tabs log s sl age ↔ x ∈ sl ∧ run tabs (log.take age) x = s := by
  unfold seenOf
  rw [List.mem_filter, decide_eq_true_eq]
/-- apart, where there is one that is seen -/
theorem apart_unlike {tabs : List (List Nat)} {log : List Nat} {s : Nat} {sl : List Nat} {one oth : Nat} (h : one ≤ oth) (hne : 0 < (seenOf tabs log s sl one).length) : apartOf tabs log s sl one oth = unlike tabs log s one oth := by
  have hx : ∀ x ∈ seenOf tabs log s sl one, decide (x ∈ seenOf tabs log s sl oth) = decide (run tabs ((log.drop one).take (oth - one)) s = s) := fun x hx => by
    obtain ⟨h1, h2⟩ := seen_mem.mp hx
    apply decide_eq_decide.mpr
    rw [seen_mem, run_split tabs log h, h2]
    exact ⟨fun z => z.2, fun z => ⟨h1, z⟩⟩
  unfold apartOf unlike
  rw [List.filter_congr hx]
  cases c : decide (run tabs ((log.drop one).take (oth - one)) s = s) with
  | true =>
    rw [filter_yes]
    cases e : seenOf tabs log s sl one with
    | nil => rw [e] at hne; cases hne
    | cons a r => rfl
  | false =>
    have e : ∀ l : List Nat, l.filter (fun _ => false) = [] := fun l => by simp
    rw [e]
    rfl
section
variable {a : UpA}
theorem UpA.Good.pw (h : a.Good) (s : Nat) : (a.ages s).Pairwise (· < ·) := (h.k.pw.filter _).filter _
theorem UpA.Good.lt (h : a.Good) {s x : Nat} (hx : x ∈ a.ages s) : x < a.log.length + 1 := h.k.lt x (ages_mem hx).1
theorem gt_drop (l : List Nat) (i j : Nat) : gt (l.drop i) j = gt l (i + j) := by unfold gt; rw [List.getD_eq_getElem?_getD, List.getD_eq_getElem?_getD, List.getElem?_drop]
theorem find_skip {α : Type} {f : Nat → Option α} {n k : Nat} (hk : k ≤ n) (h : ∀ j, j < k → f j = none) : (List.range n).findSome? f = (List.range (n - k)).findSome? fun j => f (k + j) := by
  obtain ⟨m, rfl⟩ : ∃ m, n = k + m := ⟨n - k, by omega⟩
  rw [List.range_add, List.findSome?_append, find_none h, Nat.add_sub_cancel_left, List.findSome?_map]
  rfl
theorem find_congr {α : Type} {f g : Nat → Option α} {n : Nat} (h : ∀ j, j < n → f j = g j) : (List.range n).findSome? f = (List.range n).findSome? g := by
  have key : ∀ l : List Nat, (∀ j ∈ l, f j = g j) → l.findSome? f = l.findSome? g := fun l => by
    induction l with
    | nil => exact fun _ => rfl
    | cons x l ih =>
      intro hl
      rw [List.findSome?_cons, List.findSome?_cons, hl x List.mem_cons_self, ih fun j hj => hl j (List.mem_cons_of_mem _ hj)]
  exact key _ fun j hj => h j (List.mem_range.mp hj)
theorem find_ne {α : Type} {f : Nat → Option α} {n i : Nat} (hi : i < n) (h : f i ≠ none) : (List.range n).findSome? f ≠ none := fun z => h ((List.findSome?_eq_none_iff.mp z) i (List.mem_range.mpr hi))
/-- L1: the law's due is the paper -/
theorem due_paper (h : a.Good) : due a.du = paper a := by
  refine find_congr fun s hs => find_congr fun i hi => ?_
  have hi : i < (a.ages s).length := hi
  show (List.range (a.ages s).length).findSome? (dueJ a.du s i) = (List.range ((a.ages s).drop (i + 1)).length).findSome? (papJ a s i)
  have hpw := h.pw s
  rw [find_skip (k := i + 1) (by omega) fun j hj => ?_, List.length_drop]
  · refine find_congr fun j hj => ?_
    have hlt : gt (a.ages s) i < gt (a.ages s) (i + 1 + j) := pw_gt hpw i (i + 1 + j) (by omega) (by omega)
    have hone := ages_mem (a := a) (s := s) (gt_mem hi)
    unfold dueJ papJ
    rw [gt_drop]
    have hc : dueC a.du s (gt (a.ages s) i) (gt (a.ages s) (i + 1 + j)) = condOf a s (gt (a.ages s) i) (gt (a.ages s) (i + 1 + j)) := by
      unfold dueC condOf
      rw [decide_eq_true hlt, Bool.true_and]
      show (_ && apartOf a.tabs a.log s a.sl _ _) = _
      rw [apart_unlike (Nat.le_of_lt hlt) hone.2.1]
      rfl
    show (if dueC a.du s (gt (a.ages s) i) (gt (a.ages s) (i + 1 + j)) = true then _ else none) = _
    rw [hc]
    rfl
  · have hle : ¬ gt (a.ages s) i < gt (a.ages s) j := by
      by_cases e : j = i
      · rw [e]; omega
      · have := pw_gt hpw j i (by omega) (by omega)
        omega
    unfold dueJ dueC
    show (if (decide (gt (a.ages s) i < gt (a.ages s) j) && _) = true then _ else none) = none
    rw [decide_eq_false hle, Bool.false_and]
    rfl
theorem ix_lt {l : List Nat} (h : l.Pairwise (· < ·)) {i j : Nat} (hi : i < l.length) (hj : j < l.length) (hlt : gt l i < gt l j) : i < j := by
  rcases Nat.lt_trichotomy i j with c | c | c
  · exact c
  · subst c; omega
  · have := pw_gt h j i c hi; omega
/-- two ages that the paper would tell -/
theorem paper_of (h : a.Good) {s one oth : Nat} (hs : s < a.n) (h1 : one ∈ a.ages s) (h2 : oth ∈ a.ages s) (hlt : one < oth) (hc : condOf a s one oth = true) : papS a s ≠ none := by
  obtain ⟨i, hi⟩ := List.mem_iff_getElem?.mp h1
  obtain ⟨j, hj⟩ := List.mem_iff_getElem?.mp h2
  have hil := (List.getElem?_eq_some_iff.mp hi).1
  have hjl := (List.getElem?_eq_some_iff.mp hj).1
  rw [gt_lt hil] at hi
  rw [gt_lt hjl] at hj
  have ei := Option.some.inj hi
  have ej := Option.some.inj hj
  have hij : i < j := ix_lt (h.pw s) hil hjl (by rw [ei, ej]; exact hlt)
  refine find_ne hil (find_ne (i := j - (i + 1)) (by rw [List.length_drop]; omega) ?_)
  unfold papJ
  rw [gt_drop, show i + 1 + (j - (i + 1)) = j from by omega, ei, ej, if_pos hc]
  exact fun z => by cases z
/-- L3: no paper, nothing holds -/
theorem holds_paper (h : a.Good) {v : PyData} (hv : holdsF a v = true) : paper a ≠ none := by
  unfold holdsF at hv
  split at hv
  case isFalse => cases hv
  split at hv
  case isFalse => cases hv
  rename_i _ c2
  split at hv
  case isFalse => cases hv
  rename_i c3
  split at hv
  case isFalse => cases hv
  rename_i c4
  split at hv
  case isFalse => cases hv
  rename_i c5
  rw [List.all_eq_true] at c2
  rw [Bool.and_eq_true, List.all_eq_true, decide_eq_true_eq] at c3
  rw [Bool.and_eq_true, Bool.and_eq_true, decide_eq_true_eq, decide_eq_true_eq, decide_eq_true_eq] at c4
  rw [Bool.and_eq_true, decide_eq_true_eq, decide_eq_true_eq] at c5
  obtain ⟨_, hs⟩ := below_nat' (c2 _ List.mem_cons_self)
  have i1 := c3.1 _ List.mem_cons_self
  have i2 := c3.1 _ (List.mem_cons_of_mem _ List.mem_cons_self)
  unfold inNums at i1 i2
  rw [Bool.and_eq_true, decide_eq_true_eq] at i1 i2
  generalize nat (dAt (items v) 1) = s at *
  generalize nat (dAt (items v) 2) = one at *
  generalize nat (dAt (items v) 3) = oth at *
  generalize nat (dAt (items v) 4) = st at *
  generalize nat (dAt (items v) 5) = lt at *
  have hin : ∀ {age x : Nat}, age ∈ winOf a → x ∈ a.sl → run a.tabs (a.log.take age) x = s → age ∈ a.ages s := fun {age x} w1 w2 w3 => by
    unfold winOf at w1
    obtain ⟨w4, w5⟩ := List.mem_filter.mp w1
    unfold UpA.ages agesOf allAges
    refine List.mem_filter.mpr ⟨List.mem_filter.mpr ⟨w4, decide_eq_true (List.length_pos_of_mem (seen_mem.mpr ⟨w2, w3⟩))⟩, w5⟩
  have hc : condOf a s one oth = true := by
    unfold condOf unlike
    rw [decide_eq_true c4.2.2, Bool.true_and]
    rw [run_split a.tabs a.log (Nat.le_of_lt c3.2), c5.1] at hv
    exact hv
  exact find_ne hs (paper_of h hs (hin i1.2 c4.1 c5.1) (hin i2.2 c4.2.1 c5.2) c3.2 hc)
/-- L4: the paper holds -/
theorem holds_of_paper (h : a.Good) {p : PyData} (hp : paper a = some p) : holdsF a p = true := by
  obtain ⟨s, i, j, hs, hi, hj, hc, rfl⟩ := paper_spec hp
  rw [gt_drop] at hc ⊢
  rw [List.length_drop] at hj
  obtain ⟨one, hone⟩ : ∃ one, one = gt (a.ages s) i := ⟨_, rfl⟩
  obtain ⟨oth, hoth⟩ : ∃ oth, oth = gt (a.ages s) (i + 1 + j) := ⟨_, rfl⟩
  rw [← hone, ← hoth] at hc ⊢
  have hlt : one < oth := by rw [hone, hoth]; exact pw_gt (h.pw s) i (i + 1 + j) (by omega) (by omega)
  have m1 : one ∈ a.ages s := hone ▸ gt_mem hi
  have m2 : oth ∈ a.ages s := hoth ▸ gt_mem (by omega)
  obtain ⟨k1, n1, w1⟩ := ages_mem m1
  obtain ⟨k2, n2, w2⟩ := ages_mem m2
  obtain ⟨x, hx⟩ : ∃ x, x = gt (seenOf a.tabs a.log s a.sl one) 0 := ⟨_, rfl⟩
  obtain ⟨y, hy⟩ : ∃ y, y = gt (seenOf a.tabs a.log s a.sl oth) 0 := ⟨_, rfl⟩
  obtain ⟨x1, x2⟩ := seen_mem.mp (hx ▸ gt_mem n1 : x ∈ _)
  obtain ⟨y1, y2⟩ := seen_mem.mp (hy ▸ gt_mem n2 : y ∈ _)
  unfold papOf
  rw [← hx, ← hy]
  have hwin : ∀ {age : Nat}, age ∈ a.kl → inWin age a.log.length a.b = true → inNums (winOf a) (nI age) = true := fun {age} g1 g2 => by
    unfold inNums winOf
    rw [Bool.and_eq_true, decide_eq_true_eq]
    refine ⟨decide_eq_true (p := 0 ≤ ((age : Nat) : Int)) (Int.natCast_nonneg age), ?_⟩
    show (age : Int).toNat ∈ _
    rw [Int.toNat_natCast]
    exact List.mem_filter.mpr ⟨g1, g2⟩
  unfold condOf unlike at hc
  rw [Bool.and_eq_true, decide_eq_true_eq] at hc
  show holdsF a (papD s one oth x y) = true
  unfold holdsF
  have c1 : (isSeq (papD s one oth x y) && (decide ((items (papD s one oth x y)).length = 6) && (isStr (dAt (items (papD s one oth x y)) 0) && PyData.eqv (dAt (items (papD s one oth x y)) 0) (.str "unsafe")))) = true := by
    show (true && (true && (true && PyData.eqv (.str "unsafe") (.str "unsafe")))) = true
    decide +kernel
  rw [if_pos c1]
  have e1 : dAt (items (papD s one oth x y)) 1 = nI s := rfl
  have e2 : dAt (items (papD s one oth x y)) 2 = nI one := rfl
  have e3 : dAt (items (papD s one oth x y)) 3 = nI oth := rfl
  have e4 : dAt (items (papD s one oth x y)) 4 = nI x := rfl
  have e5 : dAt (items (papD s one oth x y)) 5 = nI y := rfl
  have q : ∀ k : Nat, nat (nI k) = k := fun k => Int.toNat_natCast k
  have hsl := h.s.lt
  rw [e1, e2, e3, e4, e5, q, q, q, q, q]
  rw [if_pos, if_pos, if_pos, if_pos]
  · rw [run_split a.tabs a.log (Nat.le_of_lt hlt), x2]
    exact hc.2
  · rw [Bool.and_eq_true, decide_eq_true_eq, decide_eq_true_eq]; exact ⟨x2, y2⟩
  · rw [Bool.and_eq_true, Bool.and_eq_true, decide_eq_true_eq, decide_eq_true_eq, decide_eq_true_eq]; exact ⟨x1, y1, hc.1⟩
  · rw [Bool.and_eq_true, decide_eq_true_eq]
    refine ⟨?_, hlt⟩
    simp only [List.all_cons, List.all_nil, Bool.and_true, hwin k1 w1, hwin k2 w2, Bool.and_self]
  · simp only [List.all_cons, List.all_nil, Bool.and_true, below_nat hs, below_nat (hsl x x1), below_nat (hsl y y1), Bool.and_self]
end
end Ag
set_option Elab.async false
set_option linter.all false
set_option maxRecDepth 100000
set_option maxHeartbeats 4000000
/-! AgQ: fewer marks than the lowest ages are unsafe. -/
namespace Ag
open PySem PySem.Spec PyProof.Rows L2
/-- numbers below m, each once: at most m -/
theorem nodup_lt : ∀ (m : Nat) (l : List Nat), l.Nodup → (∀ x ∈ l, x < m) → l.length ≤ m
  | 0, l, _, h => by
    cases l with
    | nil => exact Nat.le_refl _
    | cons a l => exact absurd (h a List.mem_cons_self) (Nat.not_lt_zero _)
  | m + 1, l, hn, h => by
    by_cases hm : m ∈ l
    · have ih := nodup_lt m (l.erase m) (hn.erase m) fun x hx => by
        have h1 := h x (List.mem_of_mem_erase hx)
        have h2 : x ≠ m := fun e => by
          subst e
          exact (List.Nodup.mem_erase_iff hn).mp hx |>.1 rfl
        omega
      rw [List.length_erase_of_mem hm] at ih
      omega
    · have ih := nodup_lt m l hn fun x hx => by
        have h1 := h x hx
        have h2 : x ≠ m := fun e => hm (e ▸ hx)
        omega
      omega
theorem two_same (l : List Nat) (hl : l.Pairwise (· < ·)) (f : Nat → Nat) (m : Nat) (h : ∀ x ∈ l, f x < m) (hm : m < l.length) : ∃ x y, x ∈ l ∧ y ∈ l ∧ x < y ∧ f x = f y := by
  refine Classical.byContradiction fun hno => ?_
  have hnd : (l.map f).Nodup := by
    unfold List.Nodup
    rw [List.pairwise_map]
    refine List.pairwise_iff_getElem.mpr fun i j hi hj hij => ?_
    exact fun e => hno ⟨l[i], l[j], List.getElem_mem hi, List.getElem_mem hj, List.pairwise_iff_getElem.mp hl i j hi hj hij, e⟩
  have := nodup_lt m (l.map f) hnd fun x hx => by
    obtain ⟨y, hy, e⟩ := List.mem_map.mp hx
    exact e ▸ h y hy
  rw [List.length_map] at this
  omega
section
variable {a : SgA}
theorem run_mid (tabs : List (List Nat)) (log : List Nat) {u w v s : Nat} (h1 : u ≤ w) (h2 : w ≤ v) (hu : run tabs ((log.drop u).take (w - u)) s = s) : run tabs ((log.drop u).take (v - u)) s = run tabs ((log.drop w).take (v - w)) s := by
  have e := run_split tabs (log.drop u) (one := w - u) (oth := v - u) (by omega) s
  rw [e, hu, List.drop_drop]
  have e2 : u + (w - u) = w := by omega
  have e3 : v - u - (w - u) = v - w := by omega
  rw [e2, e3]
/-- where a state comes back to an age, an age leads there -/
theorem led {u v : Nat} (hu : u ∈ a.ages) (hv : v ∈ a.ages) (huv : u < v) (hvl : v ≤ a.log.length) (hr : run a.tabs ((a.log.drop u).take (v - u)) a.state = a.state) : ∃ w ∈ a.ages, nextOf a w = some v := by
  generalize hk : v - u = k
  induction k using Nat.strongRecOn generalizing u with
  | ind k ih =>
    -- the first later age where the state is back
    have hcv : cbF a.tabs a.log a.state u a.ages (v - u - 1) = some v := by
      unfold cbF
      have e : v - u - 1 + 1 = v - u := by omega
      have e2 : u + 1 + (v - u - 1) = v := by omega
      rw [e, e2, decide_eq_true hr, decide_eq_true hv]
      rfl
    have hne : cbOf a.tabs a.log a.state u a.ages ≠ none := find_ne (i := v - u - 1) (by omega) (by rw [hcv]; exact fun z => by cases z)
    cases hc : cbOf a.tabs a.log a.state u a.ages with
    | none => exact absurd hc hne
    | some w =>
      have hc' := hc
      unfold cbOf at hc'
      -- the turn that tells w, none before it
      obtain ⟨l1, i, l2, hl, hi, hbefore⟩ := List.findSome?_eq_some_iff.mp hc'
      have hir : i < a.log.length - u := by
        have : i ∈ List.range (a.log.length - u) := by rw [hl]; simp
        exact List.mem_range.mp this
      have hi' := hi
      unfold cbF at hi'
      by_cases cc : (decide (run a.tabs ((a.log.drop u).take (i + 1)) a.state = a.state) && decide (u + 1 + i ∈ a.ages)) = true
      · rw [if_pos cc] at hi'
        have ew := Option.some.inj hi'
        rw [Bool.and_eq_true, decide_eq_true_eq, decide_eq_true_eq] at cc
        obtain ⟨cr, ca⟩ := cc
        -- w is not behind v
        have hle : i ≤ v - u - 1 := by
          refine Classical.byContradiction fun hgt => ?_
          have hmem : v - u - 1 ∈ l1 := by
            have h1 : v - u - 1 ∈ l1 ++ i :: l2 := hl ▸ List.mem_range.mpr (by omega)
            rcases List.mem_append.mp h1 with h | h
            · exact h
            · exfalso
              have hs : (l1 ++ i :: l2).Pairwise (· < ·) := hl ▸ List.pairwise_lt_range
              have hs2 := (List.pairwise_append.mp hs).2.1
              rcases List.mem_cons.mp h with h | h
              · omega
              · have := (List.pairwise_cons.mp hs2).1 _ h
                omega
          have := hbefore _ hmem
          rw [hcv] at this
          cases this
        by_cases hwv : w = v
        · exact ⟨u, hu, by unfold nextOf; rw [hc, hwv]⟩
        · have hwlt : w < v := by omega
          have er : run a.tabs ((a.log.drop w).take (v - w)) a.state = a.state := by
            rw [← run_mid a.tabs a.log (u := u) (w := w) (v := v) (by omega) (by omega) (by rw [show w - u = i + 1 from by omega]; exact cr)]
            exact hr
          exact ih (v - w) (by omega) (u := w) (by rw [← ew]; exact ca) hwlt er rfl
      · rw [if_neg cc] at hi'
        cases hi'
/-- the lowest ages are pairwise unlike -/
theorem low_unlike (h : a.Ok) (hg : a.ok = .good) {u v : Nat} (hu : u ∈ lowOf a) (hv : v ∈ lowOf a) (huv : u < v) : unlike a.tabs a.log a.state u v = true := by
  unfold lowOf at hu hv
  obtain ⟨u1, _⟩ := List.mem_filter.mp hu
  obtain ⟨v1, v2⟩ := List.mem_filter.mp hv
  unfold unlike
  by_cases c : run a.tabs ((a.log.drop u).take (v - u)) a.state = a.state
  · exfalso
    obtain ⟨w, hw, e⟩ := led u1 v1 huv (by have := SgA.lt h hg v v1; omega) c
    have : some v ∈ a.ages.map (nextOf a) := List.mem_map.mpr ⟨w, hw, e⟩
    rw [decide_eq_true this] at v2
    cases v2
  · rw [decide_eq_false c]; rfl
end
/-- L2 -/
theorem few_right {a : UpA} (h : a.Good) (hbd : a.bd = bdD a.b) {s : Nat} (hs : s < a.n) (hmk : ∀ age, age < a.log.length + 1 → ∃ r : Nat, r < (lowOf (a.sg s .good)).length - 1 ∧ mkI a.md age s = (r : Int)) (h1 : 1 < (lowOf (a.sg s .good)).length)
    (hoth : ∀ t, t < a.n → t ≠ s → ∀ age, age < a.log.length + 1 → mkI a.md age t = 10 ^ 20 + (age : Int)) : ∃ one oth x y, paper a = some (papD s one oth x y) := by
  have hok : (a.sg s .good).Ok := ⟨h.t, h.l, hs, h.s, ⟨h.k, h.b, hbd⟩⟩
  have hsub : ∀ x ∈ lowOf (a.sg s .good), x ∈ a.ages s := fun x hx => (List.mem_filter.mp hx).1
  have hlt : ∀ x ∈ lowOf (a.sg s .good), x < a.log.length + 1 := fun x hx => h.lt (hsub x hx)
  have hpw : (lowOf (a.sg s .good)).Pairwise (· < ·) := (h.pw s).filter _
  obtain ⟨u, v, hu, hv, huv, he⟩ := two_same (lowOf (a.sg s .good)) hpw (fun x => (mkI a.md x s).toNat) ((lowOf (a.sg s .good)).length - 1) (fun x hx => by
    obtain ⟨r, hr, e⟩ := hmk x (hlt x hx)
    show (mkI a.md x s).toNat < _
    rw [e, Int.toNat_natCast]
    exact hr) (by omega)
  have hc : condOf a s u v = true := by
    obtain ⟨r1, _, e1⟩ := hmk u (hlt u hu)
    obtain ⟨r2, _, e2⟩ := hmk v (hlt v hv)
    have he' : (mkI a.md u s).toNat = (mkI a.md v s).toNat := he
    rw [e1, e2, Int.toNat_natCast, Int.toNat_natCast] at he'
    unfold condOf
    rw [e1, e2, he', decide_eq_true rfl, Bool.true_and]
    exact low_unlike (a := a.sg s .good) hok rfl hu hv huv
  have hS := paper_of h hs (hsub u hu) (hsub v hv) huv hc
  have hnone : ∀ t, t < s → papS a t = none := fun t ht => by
    refine find_none fun i hi => find_none fun j hj => ?_
    unfold papJ
    rw [if_neg]
    intro z
    unfold condOf at z
    rw [Bool.and_eq_true, decide_eq_true_eq] at z
    rw [gt_drop] at z
    rw [List.length_drop] at hj
    have g1 := h.lt (gt_mem hi)
    have g2 : gt (a.ages t) (i + 1 + j) < a.log.length + 1 := h.lt (gt_mem (by omega))
    have g3 := pw_gt (h.pw t) i (i + 1 + j) (by omega) (by omega)
    have := z.1
    rw [hoth t (by omega) (by omega) _ g1, hoth t (by omega) (by omega) _ g2] at this
    omega
  cases hp : papS a s with
  | none => exact absurd hp hS
  | some p =>
    have hpa : paper a = some p := find_some hs hnone hp
    obtain ⟨i, hi, hp⟩ := find_range hp
    obtain ⟨j, hj, hp⟩ := find_range hp
    unfold papJ at hp
    split at hp
    · have := Option.some.inj hp
      unfold papOf at this
      exact ⟨_, _, _, _, by rw [hpa, ← this]⟩
    · cases hp
end Ag
set_option Elab.async false
set_option linter.all false
set_option maxRecDepth 100000
set_option maxHeartbeats 4000000
/-! Ag21: bent. -/
namespace Ag
open PySem PySem.Spec PyProof.Rows L2
theorem flat_shaped {d : PyData} (h : flat d = true) : SeqAt.shaped d = true := by
  obtain ⟨h1, h2⟩ := flat_can h
  unfold SeqAt.shaped
  rw [h1, h2]
  rfl
theorem okv_shaped {v : PyData} (h : OkV v) : SeqAt.shaped (dAt (items v) 0) = true := by
  by_cases hl : 0 < (items v).length
  · exact flat_shaped (h.2.1 _ (dAt_mem hl))
  · have e : items v = [] := List.length_eq_zero_iff.mp (by omega)
    rw [e]
    rfl
theorem okv_flat {d : PyData} (h : items d = []) : OkV d := ⟨by rw [h]; exact Nat.zero_le _, by rw [h]; exact (fun _ h => nomatch h), by rw [h]; exact (fun h => nomatch h)⟩
theorem flat_uns : flat (.str "unsafe") = true := by decide +kernel
theorem flat_safe : flat (.str "safe") = true := by decide +kernel
structure BtA where
  p : Addr
  s : Nat
  one : Nat
  oth : Nat
  x : Nat
  y : Nat
  last : Nat
  n : Nat
abbrev sp_Lbent (K : FR) (mg : MG) : Sp := PrX (fun a : BtA => 0 < a.n ∧ a.n < 1000 ∧ a.last < 1000) (fun a => [(a.p, cBox)]) (fun a => [tV (.ref a.p), tD K (papD a.s a.one a.oth a.x a.y), tN K a.last, tN K a.n]) (fun _ => tEx fun v : { v : PyData // OkV v } => tD K v.1) (fun _ => xNo)
section
variable {K : FR} {mg : MG} {Γ Γ' : Gam} {M : Mem} {ta tb tc to te t1 t2 tv : TE} {tA : TA} {E : XK} {d : PyData} {ds : List PyData} {G0 : Hp} {D : Ends} {g : TG} {T U R T1 T2 : Ty} {vs : List Nat} {p q : Addr} {i j : Nat} {wi : TI} {Ti : Nat → Ty} {n m : Nat} {tt : TT} {ts : TS}
theorem go_parOwn (h1 : Ev Γ M t1 (tQ K ds)) (h2 : ∀ p, Ev Γ ((p, cL K ds) :: M) t2 T2) (k : ∀ p, Nx D G0 ((Γ.set i (some (tV (.ref p)))).set j (some T2)) ((p, cL K ds) :: M)) : Go Γ M (tPar i j (tCons (tCB (rListOf K) (tCons t1 tNil)) (tCons t2 tNil))) D G0 := fun G σ H e s w =>
  h1 G σ H s w _ fun v G1 H1 e1 w1 hv => by
    obtain ⟨a, xs, rfl, hs, hd⟩ := tQ_at hv
    refine ⟨a, xs, rfl, hs.imp (SqL.mono w1.le) (SqT.mono w1.le), fun p hp => ?_⟩
    have w2 : Wd G1 ((p, cL K ds) :: M) (upd H1 p (.lst xs)) := w1.own hp ⟨xs, rfl, hd⟩
    refine h2 p G1 σ _ (s.mono e1) w2 _ fun v2 G2 H2 e2 w3 t => ⟨.ref p, v2, rfl, ?_⟩
    exact k p G2 _ H2 ((e.trans e1).trans e2) (((s.mono (e1.trans e2)).set i (T := tV (.ref p)) rfl).set j (T := T2) t) w3
/-- a value of data of which something is known -/
def tDP (K : FR) (Pd : PyData → Prop) : Ty := tEx fun d : { d : PyData // Pd d } => tD K d.1
theorem ev_DP {Pd : PyData → Prop} (h : Ev Γ M te (tD K d)) (k : Pd d) : Ev Γ M te (tDP K Pd) := ev_mono h fun G v t => ⟨⟨d, k⟩, t⟩
theorem ev_NB_DP {Pd : PyData → Prop} (h : Ev Γ M te (tNB K m)) (k : ∀ r, Pd (nI r)) : Ev Γ M te (tDP K Pd) := ev_mono h fun G v ⟨r, t⟩ => ⟨⟨nI r.1, k r.1⟩, t⟩
/-- parts[i] = v on an owned list -/
theorem go_setItem {Pd : PyData → Prop} (hv : Ev Γ ((q, cL K ds) :: M) tv (tDP K Pd)) (ho : Ev Γ ((q, cL K ds) :: M) to (tV (.ref q))) (hb : Ev Γ ((q, cL K ds) :: M) tb (tN K i)) (hi : i < ds.length) (k : ∀ d, Pd d → Nx D G0 Γ ((q, cL K (ds.set i d)) :: M)) : Go Γ ((q, cL K ds) :: M) (tAsg tv (gSub to tb rSetL)) D G0 := fun G σ H e s w =>
  hv G σ H s w _ fun v G1 H1 e1 w1 ⟨⟨d, pd⟩, hvd⟩ => ho G1 σ H1 (s.mono e1) w1 _ fun x G2 H2 e2 w2 hx => hb G2 σ H2 (s.mono (e1.trans e2)) w2 _ fun y G3 H3 e3 w3 hy => by
    have ey := dp_int hy
    have ex : x = .ref q := hx
    subst ey ex
    obtain ⟨_, o, h2, xs, rfl, hxs⟩ := w3.at_ _ List.mem_cons_self
    have hl := DpAll.len hxs
    have hset : ∀ {vs : List V} {ds : List PyData} {i : Nat}, DpAll K G3 vs ds → DpAll K G3 (vs.set i v) (ds.set i d) := by
      intro vs
      induction vs with
      | nil => intro ds i h; cases h; exact .nil
      | cons a vs ih =>
        intro ds i h
        cases h with
        | cons h1 h2 =>
          cases i with
          | zero => exact .cons (Dp.mono (e2.trans e3) hvd) h2
          | succ i => exact .cons h1 (ih h2)
    refine ⟨q, xs, i, i, rfl, rfl, h2, ?_, k d pd G3 σ _ (((e.trans e1).trans e2).trans e3) (s.mono ((e1.trans e2).trans e3)) (w3.change ⟨_, rfl, hset hxs⟩)⟩
    unfold ixN
    rw [if_pos (by omega), if_pos (by omega), Int.toNat_natCast]
inductive AllDP (K : FR) (Pd : PyData → Prop) : List Ty → Prop
  | nil : AllDP K Pd []
  | cons {Ts : List Ty} : AllDP K Pd Ts → AllDP K Pd (tDP K Pd :: Ts)
theorem all_dp {Pd : PyData → Prop} {G : Hp} : ∀ {Ts : List Ty} {vs : List V}, AllDP K Pd Ts → Tys G vs Ts → ∃ ds : List PyData, ds.length = Ts.length ∧ (∀ d ∈ ds, Pd d) ∧ DpAll K G vs ds
  | _, _, .nil, h => by cases h; exact ⟨[], rfl, (fun _ h => nomatch h), .nil⟩
  | _, _, .cons a, h => by
    cases h with
    | cons h1 h2 =>
      obtain ⟨⟨d, pd⟩, hd⟩ := h1
      obtain ⟨ds, e1, e2, e3⟩ := all_dp a h2
      exact ⟨d :: ds, by rw [List.length_cons, e1]; rfl, fun x hx => by
        rcases List.mem_cons.mp hx with rfl | hx
        · exact pd
        · exact e2 x hx, .cons hd e3⟩
theorem ev_lstP {Pd : PyData → Prop} {Ts : List Ty} (ha : EvA Γ M tA Ts) (hT : AllDP K Pd Ts) (hz : Ts.length ≤ 1000000) : Ev Γ M (tLst tA) (tEx fun ds : { ds : List PyData // ds.length = Ts.length ∧ ∀ d ∈ ds, Pd d } => tL K ds.1) := fun G σ H s w Q q =>
  ha G σ H s w _ fun vs G1 H1 e1 w1 h1 => by
    obtain ⟨ds, e2, e3, e4⟩ := all_dp hT h1
    refine ⟨by rw [DpAll.len e4, e2, sizeLine_eq]; omega, fun p hp => ?_⟩
    obtain ⟨w2, e5⟩ := w1.alloc hp (.lst vs)
    exact q _ _ _ (e1.trans e5) w2 ⟨⟨ds, e2, e3⟩, p, vs, rfl, upd_same, DpAll.mono e5 e4⟩
theorem ev_pickP {Pd : PyData → Prop} {k : Nat} (ho : Ev Γ M ta (tV (.ref p))) (hb : Ev Γ M tb (tEx fun ds : { ds : List PyData // ds.length = k ∧ ∀ d ∈ ds, Pd d } => tL K ds.1)) (hm : (p, cBox) ∈ M) (h0 : 0 < k) (h1 : k < 1000000) : Ev Γ M (tCall (sp_Lpick K mg) [] E (tCons ta (tCons tb tNil))) (tDP K Pd) := fun G σ H s w Q q =>
  (ea_cons ho (ea_cons hb ea_nil)) G σ H s w _ fun vs G1 H1 e1 w1 ht => by
    cases ht with
    | cons hx hr =>
      cases hr with
      | cons hy hr =>
        cases hr
        obtain ⟨⟨ds, hl, hP⟩, hy⟩ := hy
        refine ⟨⟨p, ds⟩, G1, M, ⟨by show 0 < ds.length; rw [hl]; exact h0, by show ds.length < 1000000; rw [hl]; exact h1⟩, w1, fun c hc => ?_, .cons hx (.cons (tL_D hy) .nil), fun v G2 H2 e2 w2 ⟨⟨d, hd⟩, t⟩ => q v G2 H2 (e1.trans e2) w2 ⟨⟨d, hP d hd⟩, t⟩, fun _ _ _ _ _ _ z => z.elim⟩
        cases hc with
        | head => exact hm
        | tail _ hc => cases hc
end
section
variable {P : Program} {w : World} {K : PySem.W.Frag} {mg : Str → Option Value} {base : Heap}
theorem ok_Lbent (T : Prg P K mg) : Callee P w K mg base 3 "_law_bent" ["_law_box_here", "_law_paper", "_law_last", "_law_states"] (sp_Lbent K mg) := by
  refine T.d_Lbent.ok sc_Lbent (fun _ _ _ _ _ _ us hl => match us, hl with | [_, _, _, _], _ => rfl) (fun _ => rfl) ?_
  intro f cdv B outer s H Q E hr
  have hu := hu_of hr
  have hu64 := hu64_of hr
  refine ⟨_, (pss_cons (ps_par (i := 4) (j := 5) rfl sc_Lbent.nd rfl rfl (by decide) rfl rfl (pa_cons (pe_callTy (listK K) rfl T.n_list (by decide +kernel) (pa_cons (pv 1) pa_nil)) (pa_cons (pcallG (ok_Ltake T) hr passL (pa_cons (pv 0) (pa_cons pe_int pa_nil))) pa_nil)) rfl)
      (pss_cons (ps_if (pt_cmpR (eqK K hu64) (pv 5) pe_int (nomark _)) (pss_one (ps_ret (pcallG (ok_Lpick T) hr passL (pa_cons (pv 0) (pa_cons (pe_lst (pa_cons pe_non (pa_cons (pe_tup pa_nil) (pa_cons pe_str (pa_cons (slK K (pv 4) po_none (po_some pe_int)) (pa_cons (pe_op op_cat (pv 4) (pe_lst (pa_cons pe_int pa_nil))) (pa_cons (pe_op (catAK K) (pe_tup (pa_cons pe_str pa_nil)) (pe_callTy (tupleK K) rfl T.n_tuple (by decide +kernel) (pa_cons (slK K (pv 4) (po_some pe_int) po_none) pa_nil))) (pa_cons (pe_op (catAK K) (pe_tup (pa_cons pe_int pa_nil)) (pe_callTy (tupleK K) rfl T.n_tuple (by decide +kernel) (pa_cons (slK K (pv 4) (po_some pe_int) po_none) pa_nil))) pa_nil)))))))) pa_nil))))) pss_nil)
      (pss_cons (ps_set (i := 6) sc_Lbent.nd rfl (Or.inl rfl) (pe_op op_add pe_int (pcallG (ok_Ltake T) hr passL (pa_cons (pv 0) (pa_cons pe_int pa_nil)))))
      (pss_cons (ps_asg (pcallG (ok_Lpick T) hr passL (pa_cons (pv 0) (pa_cons (pe_lst (pa_cons (pcallG (ok_Ltake T) hr passL (pa_cons (pv 0) (pa_cons (pv 3) pa_nil))) (pa_cons (pcallG (ok_Ltake T) hr passL (pa_cons (pv 0) (pa_cons (pe_op op_add (pv 2) pe_int) pa_nil))) (pa_cons pe_non (pa_cons pe_bl (pa_cons (pe_op op_sub pe_int pe_int) (pa_cons (pe_op op_add (pv 2) pe_int) (pa_cons (pv 3) pa_nil)))))))) pa_nil))) (pg_sub (pv 4) (pv 6) set_list))
      (pss_one (ps_ret (pe_ifExp (pt_cmpR op_lt (pv 5) pe_int (nomark _)) (pe_callTy (tupleK K) rfl T.n_tuple (by decide +kernel) (pa_cons (pv 4) pa_nil)) (pv 4)))))))), ?_⟩
  intro a G M hp hc hret hexc
  obtain ⟨p, s, one, oth, x, y, last, n⟩ := a
  obtain ⟨h0, h1, h2⟩ := hp
  have h0' : 0 < n := h0
  have h1' : n < 1000 := h1
  have h2' : last < 1000 := h2
  have hb : (p, cBox) ∈ M := hc _ List.mem_cons_self
  let ds : List PyData := [.str "unsafe", nI s, nI one, nI oth, nI x, nI y]
  have hfl : ∀ d ∈ ds, flat d = true := by
    intro d hd
    simp only [ds, List.mem_cons, List.not_mem_nil, or_false] at hd
    rcases hd with rfl | rfl | rfl | rfl | rfl | rfl
    · exact flat_uns
    all_goals rfl
  refine go_seq (go_parOwn (ds := ds) (T2 := tI K) (ev_tQ (ev_var (i := 1) rfl)) (fun q => ev_NB_I (ev_take (m := 8) (ev_var rfl) ev_int (List.mem_cons_of_mem _ hb) (by decide) (by decide))) fun q => go_nx ?_)
  have hbq : ∀ {ds : List PyData}, (p, cBox) ∈ ((q, cL K ds) :: M) := List.mem_cons_of_mem _ hb
  refine go_ifs (P := fun _ => True) (et_eqII (ev_var (i := 5) rfl) (ev_I ev_int)) (fun _ => ?_) fun _ => ?_
  · refine go_keep (i := 4) rfl ?_
    have hpl : ∀ {Γ : Gam} {M : Mem}, Γ[4]? = some (some (tL K ds)) → Ev Γ M (tVar 4) (tL K ds) := fun h => ev_var h
    have s5 : ∀ {Γ : Gam} {M : Mem}, Γ[4]? = some (some (tL K ds)) → Ev Γ M (tSl (rSlQ K) (tVar 4) tNoPart (tPart (tC (.int 5)))) (tD K (.list [.str "unsafe", nI s, nI one, nI oth, nI x])) := fun {Γ M} h => by
      have r := ev_slL (ev_LD (hpl (M := M) h)) eo_none (eo_some (K := K) (i := ((5 : Nat) : Int)) (te := tC (.int 5)) ev_int)
      rw [cut_to] at r
      exact ev_LD r
    have s1 : ∀ {Γ : Gam} {M : Mem}, Γ[4]? = some (some (tL K ds)) → Ev Γ M (tCB (rTupleOf K) (tCons (tSl (rSlQ K) (tVar 4) (tPart (tC (.int 1))) tNoPart) tNil)) (tD K (.tuple [nI s, nI one, nI oth, nI x, nI y])) := fun {Γ M} h => by
      have r := ev_slL (ev_LD (hpl (M := M) h)) (eo_some (K := K) (i := ((1 : Nat) : Int)) (te := tC (.int 1)) ev_int) eo_none
      rw [cut_from] at r
      exact ev_tupleOf (ev_LQ r)
    refine go_ret (ev_pick (ds := [.none, .tuple [], .str "unsafe", .list [.str "unsafe", nI s, nI one, nI oth, nI x], .list (ds ++ [nI 0]), .tuple ([.str "safe"] ++ [nI s, nI one, nI oth, nI x, nI y]), .tuple ([nI 0] ++ [nI s, nI one, nI oth, nI x, nI y])]) (ev_var rfl) (ev_LD (ev_lst (ea_cons ev_non (ea_cons (ev_tup (ds := []) ea_nil) (ea_cons ev_str (ea_cons (s5 rfl) (ea_cons (ev_LD (ev_cat (hpl rfl) (ev_lst (ds := [nI 0]) (ea_cons ev_int ea_nil)) (by exact (by decide : 7 ≤ 1000000)))) (ea_cons (ev_catT (ev_tup (ds := [.str "safe"]) (ea_cons ev_str ea_nil)) (s1 rfl) (by exact (by decide : 6 ≤ 1000000))) (ea_cons (ev_catT (ev_tup (ds := [nI 0]) (ea_cons ev_int ea_nil)) (s1 rfl) (by exact (by decide : 6 ≤ 1000000))) ea_nil))))))) (by exact (by decide : 7 ≤ 1000000)))) hb (by exact (by decide : 0 < 7)) (by exact (by decide : 7 < 1000000))) fun v G' H' e' w' ⟨⟨d, hd⟩, t⟩ => hret v G' H' e' w' ⟨⟨d, ?_⟩, t⟩
    simp only [List.mem_cons, List.not_mem_nil, or_false] at hd
    rcases hd with rfl | rfl | rfl | rfl | rfl | rfl | rfl
    · exact okv_flat rfl
    · exact okv_flat rfl
    · exact okv_flat rfl
    · refine ⟨by exact (by decide : 5 ≤ 1000), fun d hd => ?_, fun z => by cases (show (5 : Nat) = 6 from z)⟩
      exact hfl d (by
        have hd' : d ∈ [PyData.str "unsafe", nI s, nI one, nI oth, nI x] := hd
        simp only [ds, List.mem_cons, List.not_mem_nil, or_false] at hd' ⊢
        rcases hd' with h | h | h | h | h <;> simp [h])
    · refine ⟨by exact (by decide : 7 ≤ 1000), fun d hd => ?_, fun z => by cases (show (7 : Nat) = 6 from z)⟩
      rcases List.mem_append.mp (show d ∈ ds ++ [nI 0] from hd) with h | h
      · exact hfl d h
      · rcases List.mem_singleton.mp h with rfl
        rfl
    · refine ⟨by exact (by decide : 6 ≤ 1000), fun d hd => ?_, fun _ => .inr (.inl rfl)⟩
      have hd' : d ∈ [PyData.str "safe", nI s, nI one, nI oth, nI x, nI y] := hd
      simp only [List.mem_cons, List.not_mem_nil, or_false] at hd'
      rcases hd' with rfl | rfl | rfl | rfl | rfl | rfl
      · exact flat_safe
      all_goals rfl
    · refine ⟨by exact (by decide : 6 ≤ 1000), fun d hd => ?_, fun _ => .inr (.inr rfl)⟩
      have hd' : d ∈ [nI 0, nI s, nI one, nI oth, nI x, nI y] := hd
      simp only [List.mem_cons, List.not_mem_nil, or_false] at hd'
      rcases hd' with rfl | rfl | rfl | rfl | rfl | rfl
      all_goals rfl
  · refine go_setX (T := fun r : { r : Nat // 1 ≤ r ∧ r ≤ 5 } => tN K r.1) (ev_addNP (n := 1) (P := fun r => r < 5) (Q := fun r => 1 ≤ r ∧ r ≤ 5) ev_int (ev_NB_NP (ev_take (m := 5) (ev_var rfl) ev_int hbq (by decide) (by decide)) fun r h => h) fun r h => ⟨by omega, by omega⟩) fun ⟨at_, ha1, ha5⟩ => ?_
    refine go_seq (go_setItem (Pd := fun d => flat d = true) (i := at_) (ev_pickP (k := 7) (ev_var rfl) (ev_lstP (Ts := [tDP K fun d => flat d = true, tDP K fun d => flat d = true, tDP K fun d => flat d = true, tDP K fun d => flat d = true, tDP K fun d => flat d = true, tDP K fun d => flat d = true, tDP K fun d => flat d = true]) (ea_cons (ev_NB_DP (ev_take (m := n) (ev_var (i := 0) rfl) (ev_var (i := 3) rfl) hbq h0' (by omega)) fun r => rfl) (ea_cons (ev_NB_DP (ev_take (m := last + 1) (ev_var (i := 0) rfl) (ev_addN (b := 1) (ev_var (i := 2) rfl) ev_int) hbq (by omega) (by omega)) fun r => rfl) (ea_cons (ev_DP (d := .none) ev_non rfl) (ea_cons (ev_DP (ev_bl (b := true)) rfl) (ea_cons (ev_DP (ev_sub ev_int ev_int) rfl) (ea_cons (ev_DP (ev_addN (b := 1) (ev_var (i := 2) rfl) ev_int) rfl) (ea_cons (ev_DP (ev_var (i := 3) (T := tN K n) rfl) rfl) ea_nil))))))) (.cons (.cons (.cons (.cons (.cons (.cons (.cons .nil))))))) (by exact (by decide : 7 ≤ 1000000))) hbq (by decide) (by decide)) (ev_var rfl) (ev_var rfl) (by show at_ < 6; omega) fun d hd => go_nx ?_)
    refine go_keep (i := 4) rfl ?_
    have hok : ∀ k : Bool, OkV (if k then .tuple (ds.set at_ d) else .list (ds.set at_ d)) := fun k => by
      have hit : items (if k then .tuple (ds.set at_ d) else .list (ds.set at_ d)) = ds.set at_ d := by cases k <;> rfl
      refine ⟨by rw [hit, List.length_set]; exact (by decide : 6 ≤ 1000), fun e he => ?_, fun _ => .inl ?_⟩
      · rw [hit] at he
        rcases List.mem_or_eq_of_mem_set he with h | h
        · exact hfl e h
        · rw [h]; exact hd
      · rw [hit]
        unfold dAt
        rw [List.getElem?_set_ne (by omega)]
        rfl
    refine go_ret (T := tEx fun v : { v : PyData // OkV v } => tD K v.1) (ev_if (P := fun _ => True) (et_any (ev_var (i := 5) rfl) ev_int) (fun _ => ev_mono (ev_tupleOf (ev_LQ (ev_var (i := 4) (T := tL K (ds.set at_ d)) rfl))) fun G v t => ⟨⟨_, hok true⟩, t⟩) fun _ => ev_mono (ev_LD (ev_var (i := 4) (T := tL K (ds.set at_ d)) rfl)) fun G v t => ⟨⟨_, hok false⟩, t⟩) hret
end
end Ag
set_option Elab.async false
set_option linter.all false
set_option maxRecDepth 100000
set_option maxHeartbeats 4000000
/-! Ag22: Paths. -/
namespace Ag
open PySem PySem.Spec PyProof.Rows L2
/-! ### dicts of which only the kind of entries is known -/
def KP (K : FR) (Pk : Nat → PyData → Prop) (G : Hp) (kvs : List (Key × V)) : Prop := ∀ e ∈ kvs, ∃ (x : Nat) (d : PyData), e.1 = .inl (x : Int) ∧ Dp K G e.2 d ∧ Pk x d
section
variable {K : FR} {Pk : Nat → PyData → Prop} {G G' : Hp} {kvs : List (Key × V)}
theorem KP.mono (e : Same G G') (h : KP K Pk G kvs) : KP K Pk G' kvs := fun p hp => let ⟨x, d, h1, h2, h3⟩ := h p hp; ⟨x, d, h1, Dp.mono e h2, h3⟩
theorem KP.put {y : Nat} {v : V} {d : PyData} (h : KP K Pk G kvs) (hd : Dp K G v d) (hp : Pk y d) : KP K Pk G (putK kvs (.inl (y : Int)) v) := by
  unfold putK
  split
  · intro e he
    obtain ⟨e0, h0, e1⟩ := List.mem_map.mp he
    by_cases c : e0.1 = .inl (y : Int)
    · rw [if_pos c] at e1
      subst e1
      exact ⟨y, d, c, hd, hp⟩
    · rw [if_neg c] at e1
      subst e1
      exact h e0 h0
  · intro e he
    rcases List.mem_append.mp he with h1 | h1
    · exact h e h1
    · rcases List.mem_singleton.mp h1 with rfl
      exact ⟨y, d, rfl, hd, hp⟩
theorem put_len2 (kvs : List (Key × V)) (k : Key) (v : V) : (putK kvs k v).length ≤ kvs.length + 1 := by
  unfold putK
  split
  · rw [List.length_map]; omega
  · rw [List.length_append]; exact Nat.le_refl _
theorem KP.get {y : Nat} {v : V} (h : KP K Pk G kvs) (e : valV kvs (.inl (y : Int)) = some v) : ∃ d, Dp K G v d ∧ Pk y d := by
  unfold valV at e
  obtain ⟨p, hp, e2⟩ := Option.map_eq_some_iff.mp e
  have h1 := List.find?_some hp
  have h2 := List.mem_of_find?_eq_some hp
  obtain ⟨x, d, h3, h4, h5⟩ := h p h2
  have h6 : p.1 = .inl (y : Int) := of_decide_eq_true h1
  rw [h3] at h6
  have h7 : (x : Int) = (y : Int) := Sum.inl.inj h6
  have h8 : x = y := by omega
  subst h8
  subst e2
  exact ⟨d, h4, h5⟩
end
/-- a dict under way, at most L entries -/
def cDP (K : FR) (Pk : Nat → PyData → Prop) (L : Nat) : Ct := ⟨fun G o => ∃ kvs, o = .dK kvs ∧ kvs.length ≤ L ∧ KP K Pk G kvs, fun e ⟨kvs, h1, h2, h3⟩ => ⟨kvs, h1, h2, KP.mono e h3⟩⟩
/-- the same, locked -/
def cFz (K : FR) (Pk : Nat → PyData → Prop) (od : Obj) (kvs : List (Key × V)) : Ct := ⟨fun G o => o = .frz od (.dK kvs) ∧ KP K Pk G kvs, fun e ⟨h1, h2⟩ => ⟨h1, KP.mono e h2⟩⟩
/-! ### walks within what is owned -/
structure WkM (G' : Hp) (Mw : Mem) (J : It) (n : Nat) (Ti : Nat → Ty) : Prop where
  go : ∀ (i : Nat) (G2 : Hp) (M2 : Mem) (H : Hp), i < n → Same G' G2 → Sub Mw M2 → Wd G2 M2 H → J.go i H
  stop : ∀ (G2 : Hp) (M2 : Mem) (H : Hp), Same G' G2 → Sub Mw M2 → Wd G2 M2 H → J.stop n H
  yld : ∀ (i : Nat) (G2 : Hp) (M2 : Mem) (H : Hp) (x : V) (H' : Hp), i < n → Same G' G2 → Sub Mw M2 → Wd G2 M2 H → J.yld i H x H' → ∃ G3, Same G2 G3 ∧ Wd G3 M2 H' ∧ (Ti i).p G3 x
/-- of the items of a locked dict -/
theorem wk_items {K : FR} {Pk : Nat → PyData → Prop} {G' : Hp} {d : Addr} {od : Obj} {kvs : List (Key × V)} : WkM G' [(d, cFz K Pk od kvs)] (Iti d od kvs) kvs.length (fun _ => tEx fun e : { e : Nat × PyData // Pk e.1 e.2 } => tD K (.tuple [nI e.1.1, e.1.2])) where
  go := fun i G2 M2 H hi e hM w => by
    obtain ⟨_, o, h1, h2, _⟩ := w.at_ _ (hM _ List.mem_cons_self)
    subst h2
    exact ⟨h1, hi⟩
  stop := fun G2 M2 H e hM w => by
    obtain ⟨_, o, h1, h2, _⟩ := w.at_ _ (hM _ List.mem_cons_self)
    subst h2
    exact ⟨h1, Nat.le_refl _⟩
  yld := fun i G2 M2 H x H' hi e hM w ⟨T, k, v, hk, ex, hT, eh⟩ => by
    obtain ⟨_, o, h1, h2, h3⟩ := w.at_ _ (hM _ List.mem_cons_self)
    subst ex eh
    obtain ⟨y, dd, h4, h5, h6⟩ := h3 (k, v) (List.mem_iff_getElem?.mpr ⟨i, hk⟩)
    obtain ⟨w2, e2⟩ := w.alloc hT (.tup [kV k, v])
    have h4' : k = .inl (y : Int) := h4
    subst h4'
    exact ⟨_, e2, w2, ⟨(y, dd), h6⟩, .tup (SqT.of upd_same) (.cons (.int _) (.cons (Dp.mono e2 h5) .nil))⟩
section
variable {K : FR} {Γ Γ' : Gam} {M Mw : Mem} {ta tb te tl : TE} {tt : TT} {tA : TA} {T U R : Ty} {Ti : Nat → Ty} {G0 G1 : Hp} {D : Ends} {ts tbd : TS} {n : Nat} {g : TG} {vs : List Nat} {wi : TI}
def It1M (Γ : Gam) (M Mw : Mem) (wi : TI) (n : Nat) (Ti : Nat → Ty) : Prop := ∀ (G : Hp) (σ : L2.St) (H : Hp), Sd G σ Γ → Wd G M H → ∀ R : It → Hp → Prop, (∀ J G' H', Same G G' → Wd G' M H' → WkM G' Mw J n Ti → R J H') → wi σ H R
theorem it_items {Pk : Nat → PyData → Prop} {d : Addr} {od : Obj} {kvs : List (Key × V)} (h : Ev Γ M te (tV (.ref d))) (hM : (d, cFz K Pk od kvs) ∈ M) : It1M Γ M [(d, cFz K Pk od kvs)] (iItems te) kvs.length (fun _ => tEx fun e : { e : Nat × PyData // Pk e.1 e.2 } => tD K (.tuple [nI e.1.1, e.1.2])) := fun G σ H s w R q =>
  h G σ H s w _ fun v G1 H1 e1 w1 hv => by
    obtain ⟨_, o, h1, h2, _⟩ := w1.at_ _ hM
    subst h2
    exact ⟨d, od, kvs, hv, h1, q _ G1 H1 e1 w1 wk_items⟩
theorem go_forL {β : Type} (hI : It1M Γ M Mw wi n Ti) (Γi Γt : Nat → β → Gam) (Mi : Nat → β → Mem) (Pi : Nat → β → Prop) (b0 : β) (hΓ : Γi 0 b0 = Γ) (hM : Mi 0 b0 = M) (hP : Pi 0 b0) (hS : ∀ i b, Sub Mw (Mi i b)) (hT : ∀ i b, i < n → Pi i b → Tg g (Ti i) (Γi i b) (Γt i b) vs)
    (turn : ∀ i b Gt, i < n → Pi i b → Same G0 Gt → Go (Γt i b) (Mi i b) tbd { D with nx := Sat Gt (Γi (i + 1)) (Mi (i + 1)) (Pi (i + 1)), ct := Sat Gt (Γi (i + 1)) (Mi (i + 1)) (Pi (i + 1)), bk := D.nx } Gt)
    (done : ∀ b, Pi n b → Nx D G0 (Γi n b) (Mi n b)) : Go Γ M (tFor wi g tbd) D G0 := fun G σ H e0 s w =>
  hI G σ H s w _ fun J G1 H1 e1 w1 k => by
    refine ⟨fun i m σ' H' => m = n - i ∧ i ≤ n ∧ ∃ b G', Pi i b ∧ Same G1 G' ∧ Sd G' σ' (Γi i b) ∧ Wd G' (Mi i b) H', ⟨n, by simp, Nat.zero_le _, b0, G1, hP, Same.refl _, hΓ ▸ s.mono e1, hM ▸ w1⟩, ?_⟩
    rintro i m σ' H' ⟨rfl, hi, b, G', p, e', s', w'⟩
    by_cases hlt : i < n
    · refine .inr ⟨k.go i G' _ H' hlt e' (hS i b) w', Sat G' (Γi (i + 1)) (Mi (i + 1)) (Pi (i + 1)), fun σ2 H2 hs => ?_, fun x H2 y => ?_⟩
      · obtain ⟨b2, G2, p2, e2, s2, w2⟩ := hs
        exact ⟨n - (i + 1), by omega, rfl, hlt, b2, G2, p2, e'.trans e2, s2, w2⟩
      · obtain ⟨G3, e3, w3, t3⟩ := k.yld i G' _ H' x H2 hlt e' (hS i b) w' y
        refine hT i b hlt p G3 σ' (Mi i b) H2 x (s'.mono e3) w3 t3 _ fun σ3 s3 _ _ => ?_
        have hg : Go (Γt i b) (Mi i b) tbd { D with nx := Sat G' (Γi (i + 1)) (Mi (i + 1)) (Pi (i + 1)), ct := Sat G' (Γi (i + 1)) (Mi (i + 1)) (Pi (i + 1)), bk := D.nx } G' := turn i b G' hlt p ((e0.trans e1).trans e')
        exact hg G3 σ3 H2 e3 s3 w3
    · have ei : i = n := by omega
      subst ei
      exact .inl ⟨k.stop G' _ H' e' (hS i b) w', done b p G' σ' H' ((e0.trans e1).trans e') s' w'⟩
/-- a comprehension over such a walk: nothing told but the kind of its items -/
theorem ev_lcL (Pe : PyData → Prop) (hI : It1M Γ M Mw wi n Ti) (hz : n ≤ 1000000) (hS : Sub Mw M) (Γt : Nat → Gam) (hT : ∀ i, i < n → Tg g (Ti i) (wipeG Γ vs) (Γt i) vs)
    (ht : ∀ i, i < n → ∀ M', Sub M M' → EvT (Γt i) M' tt (fun _ => True)) (he : ∀ i, i < n → ∀ M', Sub M M' → Ev (Γt i) M' te (tEx fun d : { d : PyData // Pe d } => tD K d.1)) :
    Ev Γ M (tLc wi g tt te vs) (tEx fun ds : { ds : List PyData // ds.length ≤ n ∧ ∀ d ∈ ds, Pe d } => tL K ds.1) := fun G σ H s w Q q =>
  hI G σ H s w _ fun J G1 H1 e1 w1 k D0 hD => by
    have hS' : ∀ {C : Ct}, Sub Mw ((D0, C) :: M) := fun c hc => List.mem_cons_of_mem _ (hS c hc)
    refine ⟨fun i m H' => m = n - i ∧ i ≤ n ∧ ∃ ds G', ds.length ≤ i ∧ (∀ d ∈ ds, Pe d) ∧ Same G1 G' ∧ Wd G' ((D0, cL K ds) :: M) H', ⟨n, by simp, Nat.zero_le _, [], G1, Nat.le_refl _, (fun _ h => nomatch h), Same.refl _, w1.own hD ⟨[], rfl, .nil⟩⟩, ?_⟩
    rintro i m H' ⟨rfl, hi, ds, G', hlen, hP, e', w'⟩
    by_cases hlt : i < n
    · refine .inr ⟨k.go i G' _ H' hlt e' hS' w', fun H2 => ∃ ds G', ds.length ≤ i + 1 ∧ (∀ d ∈ ds, Pe d) ∧ Same G1 G' ∧ Wd G' ((D0, cL K ds) :: M) H2, fun H2 hs => ⟨n - (i + 1), by omega, rfl, hlt, hs⟩, fun x H2 y => ?_⟩
      obtain ⟨G3, e3, w3, t3⟩ := k.yld i G' _ H' x H2 hlt e' hS' w' y
      have s3 : Sd G3 σ Γ := s.mono ((e1.trans e').trans e3)
      refine hT i hlt G3 (wipe σ vs) _ H2 x (s3.wipe vs) w3 t3 _ fun σ3 s4 hl4 h4 => ⟨wipe_same (by rw [hl4, wipe_len]) h4, ?_⟩
      refine ht i hlt _ (Sub.more (Sub.refl _)) G3 σ3 H2 s4 w3 _ fun b G4 H4 e4 w4 pb => ?_
      cases b with
      | false => exact ⟨ds, G4, by omega, hP, (e'.trans e3).trans e4, w4⟩
      | true =>
        show te σ3 H4 _
        refine he i hlt _ (Sub.more (Sub.refl _)) G4 σ3 H4 (s4.mono e4) w4 _ fun z G5 H5 e5 w5 ⟨⟨d, pd⟩, tz⟩ => ?_
        obtain ⟨_, o, ho, xs, rfl, hxs⟩ := w5.at_ _ List.mem_cons_self
        refine ⟨xs, ho, by rw [DpAll.len hxs, sizeLine_eq]; omega, ds ++ [d], G5, by rw [List.length_append]; show ds.length + 1 ≤ _; omega, fun x hx => ?_, ((e'.trans e3).trans e4).trans e5, w5.change ⟨_, rfl, DpAll.app hxs (.cons tz .nil)⟩⟩
        rcases List.mem_append.mp hx with h | h
        · exact hP x h
        · rcases List.mem_singleton.mp h with rfl
          exact pd
    · have ei : i = n := by omega
      subst ei
      refine .inl ⟨k.stop G' _ H' e' hS' w', ?_⟩
      obtain ⟨_, o, ho, xs, rfl, hxs⟩ := w'.at_ _ List.mem_cons_self
      obtain ⟨w2, e2⟩ := w'.freeze ho
      exact q _ _ H' ((e1.trans e').trans e2) w2 ⟨⟨ds, hlen, hP⟩, D0, xs, rfl, upd_same, DpAll.mono e2 hxs⟩
end
end Ag
set_option Elab.async false
set_option linter.all false
set_option maxRecDepth 100000
set_option maxHeartbeats 4000000
/-! Ag23: Paths' methods. -/
namespace Ag
open PySem PySem.Spec PyProof.Rows L2
abbrev fP (K : FR) (st : Nat) (dp yp : Addr) : List (Str × Ty) := [("state", tN K st), ("bound", tD K .none), ("places", tV (.ref dp)), ("youngest", tV (.ref yp))]
def Pl (n : Nat) : Nat → PyData → Prop := fun x d => x < n ∧ ∃ m a : Nat, d = .tuple [nI m, nI a]
def Yo : Nat → PyData → Prop := fun _ d => ∃ a : Nat, d = nI a
structure PthA where
  x : Addr
  st : Nat
  dp : Addr
  yp : Addr
  n : Nat
  L : Nat
abbrev cX (K : FR) (mg : MG) (a : PthA) : Addr × Ct := (a.x, cO (cOf "Paths" mg) (fP K a.st a.dp a.yp))
abbrev cD (K : FR) (a : PthA) : Addr × Ct := (a.dp, cDP K (Pl a.n) a.L)
abbrev cY (K : FR) (a : PthA) : Addr × Ct := (a.yp, cDP K Yo a.L)
abbrev MP (K : FR) (mg : MG) (a : PthA) (M : Mem) : Mem := cX K mg a :: cD K a :: cY K a :: M
abbrev sp_Paths_is_living (K : FR) (mg : MG) : Sp := PrX (fun _ : PthA × Nat => True) (fun a => [cX K mg a.1]) (fun a => [tV (.ref a.1.x), tI K, tN K a.2]) (fun _ => tB K true) (fun _ => xNo)
abbrev sp_Paths_held (K : FR) (mg : MG) : Sp := PrX (fun a : PthA × Nat => a.1.L ≤ 100000) (fun a => [cX K mg a.1, cY K a.1]) (fun a => [tV (.ref a.1.x), tN K a.2]) (fun a => tEx fun l : { l : List Nat // l.length ≤ a.1.L } => tD K (.tuple (nL l.1))) (fun _ => xNo)
section
variable {K : FR} {mg : MG} {Γ Γ' : Gam} {M M' Mw : Mem} {ta tb te tl to : TE} {tt : TT} {tA : TA} {T U R T1 T2 : Ty} {Ti : Nat → Ty} {G0 G1 : Hp} {D : Ends} {ts tbd : TS} {n i j : Nat} {g : TG} {vs : List Nat} {wi : TI} {p : Addr} {E : XK}
theorem Wd.perm {G H : Hp} (w : Wd G M H) (h : M.Perm M') : Wd G M' H := ⟨w.le, (h.map _).nodup_iff.mp w.nd, fun c hc => w.at_ c (h.mem_iff.mpr hc)⟩
theorem ev_perm (h : M.Perm M') (e : Ev Γ M' te T) : Ev Γ M te T := fun G σ H s w Q q => e G σ H s (w.perm h) Q fun v G' H' e' w' t => q v G' H' e' (w'.perm h.symm) t
theorem go_perm (h : M.Perm M') (e : Go Γ M' ts D G0) : Go Γ M ts D G0 := fun G σ H e0 s w => e G σ H e0 s (w.perm h)
theorem mem_front {c : Addr × Ct} : ∀ {M : Mem}, c ∈ M → ∃ M', M.Perm (c :: M')
  | d :: M, h => by
    rcases List.mem_cons.mp h with rfl | h
    · exact ⟨M, List.Perm.refl _⟩
    · obtain ⟨M', hp⟩ := mem_front h
      exact ⟨d :: M', (List.Perm.cons d hp).trans (List.Perm.swap ..)⟩
theorem ev_lock {Pk : Nat → PyData → Prop} {L : Nat} (h : ∀ od kvs, kvs.length ≤ L → Ev Γ ((p, cFz K Pk od kvs) :: M) te T) : Ev Γ ((p, cDP K Pk L) :: M) (tLockE te) T := fun G σ H s w Q q => by
  obtain ⟨_, o, h1, kvs, rfl, h2, h3⟩ := w.at_ _ List.mem_cons_self
  refine ⟨p, .dK kvs, h1, trivial, fun od => ?_⟩
  refine h od kvs h2 G σ _ s (w.change ⟨rfl, h3⟩) _ fun v G' H' e' w' t => ?_
  obtain ⟨_, o', h4, h5, h6⟩ := w'.at_ _ List.mem_cons_self
  subst h5
  exact ⟨h4, q v G' _ e' (w'.change ⟨kvs, rfl, h2, h6⟩) t⟩
def lockD (D : Ends) (d : Addr) (od : Obj) (u : HO) : Ends := ⟨fun σ' H' => H' d = some (.frz od u) ∧ D.nx σ' (upd H' d u), fun v H' => H' d = some (.frz od u) ∧ D.rt v (upd H' d u), fun σ' H' => H' d = some (.frz od u) ∧ D.bk σ' (upd H' d u), fun σ' H' => H' d = some (.frz od u) ∧ D.ct σ' (upd H' d u)⟩
theorem go_lock {Pk : Nat → PyData → Prop} {L : Nat} (h : ∀ od kvs, kvs.length ≤ L → Go Γ ((p, cFz K Pk od kvs) :: M) ts (lockD D p od (.dK kvs)) G0) : Go Γ ((p, cDP K Pk L) :: M) (tLock ts) D G0 := fun G σ H e s w => by
  obtain ⟨_, o, h1, kvs, rfl, h2, h3⟩ := w.at_ _ List.mem_cons_self
  exact ⟨p, .dK kvs, h1, trivial, fun od => h od kvs h2 G σ _ e s (w.change ⟨rfl, h3⟩)⟩
theorem nx_lock {Pk : Nat → PyData → Prop} {L : Nat} {od : Obj} {kvs : List (Key × V)} (hl : kvs.length ≤ L) (k : Nx D G0 Γ ((p, cDP K Pk L) :: M)) : Nx (lockD D p od (.dK kvs)) G0 Γ ((p, cFz K Pk od kvs) :: M) := fun G σ H e s w => by
  obtain ⟨_, o, h4, h5, h6⟩ := w.at_ _ List.mem_cons_self
  subst h5
  exact ⟨h4, k G σ _ e s (w.change ⟨kvs, rfl, hl, h6⟩)⟩
theorem tg_pairX (h : ∀ G v, T.p G v → ∃ d1 d2, Dp K G v (.tuple [d1, d2]) ∧ (∀ u, Dp K G u d1 → T1.p G u) ∧ (∀ u, Dp K G u d2 → T2.p G u)) : Tg (gTup K 2 (gCons (gName i) (gCons (gName j) gNil))) T Γ ((Γ.set i (some T1)).set j (some T2)) [i, j] := fun G σ M H x s w t Q q => by
  obtain ⟨d1, d2, h1, h2, h3⟩ := h G x t
  cases h1 with
  | @tup a xs _ hs hd =>
    cases hd with | @cons v1 vs1 _ _ h4 hd => cases hd with | @cons v2 vs2 _ _ h5 hd =>
    cases hd
    refine ⟨a, _, rfl, SqT.mono w.le hs, rfl, v1, [v2], rfl, v2, [], rfl, rfl, ?_⟩
    refine q _ ((s.set i (T := T1) (h2 _ h4)).set j (T := T2) (h3 _ h5)) (by simp) fun k hk => ?_
    simp only [List.mem_cons, not_or] at hk
    rw [List.getElem?_set_ne (Ne.symm hk.2.1), List.getElem?_set_ne (Ne.symm hk.1)]
/-- any number -/
abbrev tNA (K : FR) : Ty := tNP K fun _ => True
theorem ev_sortedN {P : List Nat → Prop} (h : Ev Γ M ta (tEx fun ds : { ds : List PyData // ds.length ≤ n ∧ ∀ d ∈ ds, ∃ k : Nat, d = nI k } => tL K ds.1)) : Ev Γ M (tCB (rSortedI K) (tCons ta tNil)) (tEx fun l : { l : List Nat // l.length ≤ n } => tL K (nL l.1)) := ev_cb (ea_cons h ea_nil) fun G H vs w ht Q q => by
  cases ht with
  | cons hx hr =>
    cases hr
    obtain ⟨⟨ds, hl, hP⟩, a, xs, rfl, h1, h2⟩ := hx
    obtain ⟨l, hls⟩ : ∃ l : List Nat, ds = nL l := by
      clear h2 hl
      induction ds with
      | nil => exact ⟨[], rfl⟩
      | cons d ds ih =>
        obtain ⟨k, hk⟩ := hP d List.mem_cons_self
        obtain ⟨l, hl⟩ := ih fun x hx => hP x (List.mem_cons_of_mem _ hx)
        exact ⟨k :: l, by rw [hk, hl]; rfl⟩
    subst hls
    have h2' : DpAll K G xs (nL l) := h2
    rw [nL_iL] at h2'
    have e := ints_dp h2'
    subst e
    refine ⟨a, l.map fun (k : Nat) => (k : Int), rfl, SqL.of (w.le _ _ h1), fun ns' p hp hpw hn => ?_⟩
    obtain ⟨l', hl'⟩ : ∃ l' : List Nat, ns' = l'.map fun (k : Nat) => (k : Int) := by
      have hall : ∀ x ∈ ns', ∃ k : Nat, x = (k : Int) := fun x hx => by
        obtain ⟨k, _, e⟩ := List.mem_map.mp (hp.mem_iff.mp hx)
        exact ⟨k, e.symm⟩
      clear hp hpw
      induction ns' with
      | nil => exact ⟨[], rfl⟩
      | cons d ds ih =>
        obtain ⟨k, hk⟩ := hall d List.mem_cons_self
        obtain ⟨l, hl⟩ := ih fun x hx => hall x (List.mem_cons_of_mem _ hx)
        exact ⟨k :: l, by rw [hk, hl]; rfl⟩
    obtain ⟨w2, e2⟩ := w.alloc hn (.lst (ns'.map V.int))
    have hlen : l'.length ≤ n := by
      have h3 := hp.length_eq
      rw [hl', List.length_map, List.length_map] at h3
      rw [nL_len] at hl
      omega
    refine q _ _ _ e2 w2 ⟨⟨l', hlen⟩, p, _, rfl, upd_same, ?_⟩
    show DpAll K _ (ns'.map V.int) (nL l')
    rw [nL_iL, hl']
    exact dpAll_ints _
end
section
variable {P : Program} {w : World} {K : PySem.W.Frag} {mg : Str → Option Value} {base : Heap}
theorem ok_Paths_is_living (T : Prg P K mg) : MCallee P w K mg base 1 (cOf "Paths" mg) "is_living" ["self", "old", "age"] (sp_Paths_is_living K mg) := by
  refine T.d_Paths_is_living.ok sc_Paths_is_living (fun _ _ _ _ _ _ us hl => match us, hl with | [_, _, _], _ => rfl) (fun _ => rfl) ?_
  intro f cdv B outer s H Q E hr
  have hu := hu_of hr
  have hu64 := hu64_of hr
  refine ⟨_, (pss_one (ps_ret (pe_or (pe_cmpR op_isN (fldK K (pv 0)) pe_non (nomark _)) (pe_one (pe_cmpR op_gt (pv 1) (pe_op op_sub (pv 2) (fldK K (pv 0))) (nomark _)))))), ?_⟩
  intro a G M hp hc hret hexc
  obtain ⟨a, age⟩ := a
  have hx : cX K mg a ∈ M := hc _ List.mem_cons_self
  exact go_ret (ev_orV (a := true) (b := false) (ev_isN (d := .none) (ev_fldM (ev_var rfl) hx rfl T.cls_Paths T.na_Paths_bound)) fun z => nomatch z) hret
theorem ok_Paths_held (T : Prg P K mg) : MCallee P w K mg base 2 (cOf "Paths" mg) "held" ["self", "age"] (sp_Paths_held K mg) := by
  refine T.d_Paths_held.ok sc_Paths_held (fun _ _ _ _ _ _ us hl => match us, hl with | [_, _], _ => rfl) (fun _ => rfl) ?_
  intro f cdv B outer s H Q E hr
  have hu := hu_of hr
  have hu64 := hu64_of hr
  refine ⟨_, (pss_one (ps_ret (pe_callTy (tupleK K) rfl T.n_tuple (by decide +kernel) (pa_cons (pe_callB (sortedK K) rfl T.n_sorted (by decide +kernel) (pa_cons (pe_lock (pe_lc rfl sc_Paths_held.nd (pi_items (fldK K (pv 0))) (blkOk_by (own := [("mark", 2), ("old", 3)]) (N := N_Paths_held) (sc := defScope s_Paths_held) (by decide +kernel)) (fun _ _ _ _ _ => (tupG K 2 (pgs_cons (pg_name (i := 2) sc_Paths_held.nd rfl (Or.inl rfl)) (pgs_cons (pg_name (i := 3) sc_Paths_held.nd rfl (Or.inl rfl)) pgs_nil)))) (fun _ _ _ _ _ => (pts_one (pt_val (pmethG (ok_Paths_is_living T) hr passL (pv 0) (pa_cons (pv 3) (pa_cons (pv 1) pa_nil)))))) (fun _ _ _ _ _ => (pv 2)))) pa_nil)) pa_nil)))), ?_⟩
  intro a G M hp hc hret hexc
  obtain ⟨a, age⟩ := a
  have hL : a.L ≤ 100000 := hp
  have hx : cX K mg a ∈ M := hc _ List.mem_cons_self
  have hy : cY K a ∈ M := hc _ (List.mem_cons_of_mem _ List.mem_cons_self)
  obtain ⟨M1, hp1⟩ := mem_front hy
  have hlc : Ev (g0 N_Paths_held [tV (.ref a.x), tN K age]) M (tLockE (tLc (iItems (tFld K (tVar 0) "youngest")) (gTup K 2 (gCons (gName 2) (gCons (gName 3) gNil))) (L2.tB (tMeth (cOf "Paths" mg) "is_living" (sp_Paths_is_living K mg) [] E0 (tVar 0) (tCons (tVar 3) (tCons (tVar 1) tNil)))) (tVar 2) [2, 3])) (tEx fun ds : { ds : List PyData // ds.length ≤ a.L ∧ ∀ d ∈ ds, ∃ k : Nat, d = nI k } => tL K ds.1) := by
    refine ev_perm hp1 (ev_lock fun od kvs hlen => ?_)
    have hx1 : ∀ {C : Ct}, cX K mg a ∈ ((a.yp, C) :: M1) := fun {C} => by
      rcases List.mem_cons.mp (hp1.mem_iff.mp hx) with h | h
      · exfalso
        have e2 := (Prod.mk.inj h).2
        have e3 : (cO (cOf "Paths" mg) (fP K a.st a.dp a.yp)).p G (.dK []) := by
          rw [e2]
          exact ⟨[], rfl, Nat.zero_le _, fun _ h => nomatch h⟩
        obtain ⟨dx, vs, e4, _⟩ := e3
        cases e4
      · exact List.mem_cons_of_mem _ h
    refine ev_mono (ev_lcL (K := K) (fun d => ∃ k : Nat, d = nI k) (it_items (Pk := Yo) (ev_fldM (ev_var rfl) hx1 rfl T.cls_Paths T.na_Paths_youngest) List.mem_cons_self) (by omega) (fun c hc => by
      cases hc with
      | head => exact List.mem_cons_self
      | tail _ hc => cases hc) (fun i => [some (tV (.ref a.x)), some (tN K age), some (tNA K), some (tI K)]) (fun i hi => tg_pairX fun G v ⟨⟨⟨k, d⟩, b, hb⟩, h⟩ => ?_) (fun i hi M' hM => ?_) fun i hi M' hM => ?_) fun G v ⟨⟨ds, h1, h2⟩, h⟩ => ⟨⟨ds, by omega, h2⟩, h⟩
    · have hb' : d = nI b := hb
      subst hb'
      exact ⟨nI k, nI b, h, fun u hu => ⟨⟨k, trivial⟩, hu⟩, fun u hu => ⟨(b : Int), hu⟩⟩
    · refine et_mono (et_b (a := true) (ev_methM (P := fun _ : PthA × Nat => True) (C := fun a => [cX K mg a.1]) (A := fun a => [tV (.ref a.1.x), tI K, tN K a.2]) (Rr := fun _ => tB K true) (X := fun _ => xNo) (x := a.x) (Fs := fP K a.st a.dp a.yp) (a, age) (ev_var (i := 0) rfl) (hM _ hx1) (ea_cons (ev_var (i := 3) rfl) (ea_cons (ev_var (i := 1) rfl) ea_nil)) rfl rfl trivial (fun c hc => by
        cases hc with
        | head => exact hM _ hx1
        | tail _ hc => cases hc) (fun _ _ _ z => z)) rfl) fun _ _ => trivial
    · exact ev_mono (ev_var (i := 2) (T := tNA K) rfl) fun G v ⟨⟨k, _⟩, h⟩ => ⟨⟨nI k, k, rfl⟩, h⟩
  exact go_ret (ev_tupleX (ev_sortedN (P := fun _ => True) hlc)) hret
end
end Ag
set_option Elab.async false
set_option linter.all false
set_option maxRecDepth 100000
set_option maxHeartbeats 4000000
/-! Ag24: Paths' methods that write. -/
namespace Ag
open PySem PySem.Spec PyProof.Rows L2
abbrev sp_Paths_mark_now (K : FR) (mg : MG) : Sp := PrX (fun a : PthA × Nat => a.1.L ≤ 100000) (fun a => [cX K mg a.1, cD K a.1, cY K a.1]) (fun a => [tV (.ref a.1.x), tN K a.2]) (fun _ => tNA K) (fun _ => xNo)
def PthA.more (a : PthA) : PthA := ⟨a.x, a.st, a.dp, a.yp, a.n, a.L + 1⟩
def PthA.to (a : PthA) (dp : Addr) : PthA := ⟨a.x, a.st, dp, a.yp, a.n, a.L⟩
def sp_Paths_put_copy (K : FR) (mg : MG) : Sp := fun vs H Q E => ∃ (a : PthA) (age : Nat) (G : Hp) (M : Mem), a.L ≤ 50000 ∧ a.st < a.n ∧ Wd G (MP K mg a M) H ∧ Tys G vs [tV (.ref a.x), tN K age] ∧
  ∀ (m : Nat) G' H', Same G G' → Wd G' (MP K mg a.more M) H' → Q (.int (m : Int)) H'
def sp_Paths_go (K : FR) (mg : MG) : Sp := fun vs H Q E => ∃ (a : PthA) (t : List Nat) (age : Nat) (G : Hp) (M : Mem), a.L ≤ 50000 ∧ RowOk a.n t ∧ Wd G (MP K mg a M) H ∧ Tys G vs [tV (.ref a.x), tD K (.tuple (nL t)), tN K age] ∧
  ∀ dp' G' H', Same G G' → Wd G' (MP K mg (a.to dp') M) H' → Q .non H'
def sp_Paths_init (K : FR) (mg : MG) : Sp := fun vs H Q E => ∃ (x : Addr) (st n : Nat) (ws : List V) (G : Hp) (M : Mem), vs = .ref x :: ws ∧ Wd G ((x, cO (cOf "Paths" mg) []) :: M) H ∧ Tys G ws [tN K st, tD K .none] ∧
  ∀ dp yp G' H', Same G G' → Wd G' (MP K mg ⟨x, st, dp, yp, n, 0⟩ M) H' → Q .non H'
theorem pigeon : ∀ (n : Nat) (l : List Nat), (∀ k, k < n → k ∈ l) → n ≤ l.length
  | 0, _, _ => Nat.zero_le _
  | n + 1, l, h => by
    have hm := h n (Nat.lt_succ_self n)
    have ih := pigeon n (l.erase n) fun k hk => (List.mem_erase_of_ne (by omega)).mpr (h k (by omega))
    rw [List.length_erase_of_mem hm] at ih
    have : 0 < l.length := List.length_pos_of_mem hm
    omega
section
variable {K : FR} {mg : MG} {Γ Γ' : Gam} {M M' Mw : Mem} {ta tb te tl to : TE} {tt : TT} {tA : TA} {T U R T1 T2 : Ty} {Ti : Nat → Ty} {G0 G1 : Hp} {D : Ends} {ts tbd : TS} {n i j : Nat} {g : TG} {vs : List Nat} {wi : TI} {p : Addr} {E : XK}
theorem Go.at {G H : Hp} {σ : L2.St} (h : Go Γ M ts D G0) (e : Same G0 G) (s : Sd G σ Γ) (w : Wd G M H) : ts D σ H := h G σ H e s w
theorem ev_minN {l : List Nat} (h : Ev Γ M ta (tL K (nL l))) (hne : l ≠ []) : Ev Γ M (tCB (rMin K) (tCons ta tNil)) (tNA K) := ev_cb (ea_cons h ea_nil) fun G H vs w ht Q q => by
  cases ht with
  | cons hx hr =>
    cases hr
    obtain ⟨a, xs, rfl, h1, h2⟩ := hx
    rw [nL_iL] at h2
    have e := ints_dp h2
    subst e
    refine ⟨a, l.map fun (k : Nat) => (k : Int), rfl, SqL.of (w.le _ _ h1), by rw [List.length_map]; exact Nat.pos_of_ne_zero fun z => hne (List.length_eq_zero_iff.mp z), fun m hm _ => ?_⟩
    obtain ⟨k, _, rfl⟩ := List.mem_map.mp hm
    exact q _ G H (Same.refl _) w ⟨⟨k, trivial⟩, .int _⟩
/-- what the cells of a Paths hold -/
theorem pth_at {a : PthA} {G H : Hp} (w : Wd G M H) (hx : cX K mg a ∈ M) (hd : cD K a ∈ M) : ∃ dx fs kvs, H a.x = some (.ins (cOf "Paths" mg) dx fs) ∧ List.lookup (α := Str) "state" fs = some (.int (a.st : Int)) ∧ List.lookup (α := Str) "places" fs = some (.ref a.dp) ∧ List.lookup (α := Str) "youngest" fs = some (.ref a.yp) ∧ H a.dp = some (.dK kvs) ∧ kvs.length ≤ a.L ∧ KP K (Pl a.n) G kvs := by
  obtain ⟨_, o, h1, dx, fs, rfl, hf⟩ := w.at_ _ hx
  obtain ⟨_, o2, h2, kvs, rfl, h3, h4⟩ := w.at_ _ hd
  obtain ⟨v1, e1, t1⟩ := FTys.look (f := "state") (T := tN K a.st) hf rfl
  obtain ⟨v2, e2, t2⟩ := FTys.look (f := "places") (T := tV (.ref a.dp)) hf rfl
  obtain ⟨v3, e3, t3⟩ := FTys.look (f := "youngest") (T := tV (.ref a.yp)) hf rfl
  have q1 := dp_int t1
  have q2 : v2 = .ref a.dp := t2
  have q3 : v3 = .ref a.yp := t3
  subst q1 q2 q3
  exact ⟨dx, fs, kvs, h1, e1, e2, e3, h2, h3, h4⟩
theorem fldR {C x dx : Addr} {fs : List (Str × V)} {v : V} {f : Str} {σ : L2.St} {H : Hp} {Q : VK} (h0 : σ[i]? = some (some (.ref x))) (hx : H x = some (.ins C dx fs)) (hl : fs.lookup f = some v) (hC : Cls K C) (hn : NoAttr K C f) (q : Q v H) : tFld K (tVar i) f σ H Q := ⟨.ref x, h0, x, C, dx, fs, v, rfl, hx, hC, hn, hl, q⟩
theorem sd_at {G : Hp} {σ : L2.St} {v : V} (s : Sd G σ Γ) (h : Γ[i]? = some (some (tV v))) : σ[i]? = some (some v) := by
  obtain ⟨u, h1, h2⟩ := s.get i _ h
  have h3 : u = v := h2
  rw [h1, h3]
end
section
variable {P : Program} {w : World} {K : PySem.W.Frag} {mg : Str → Option Value} {base : Heap}
theorem ok_Paths_mark_now (T : Prg P K mg) : MCallee P w K mg base 3 (cOf "Paths" mg) "mark_now" ["self", "age"] (sp_Paths_mark_now K mg) := by
  refine T.d_Paths_mark_now.ok sc_Paths_mark_now (fun _ _ _ _ _ _ us hl => match us, hl with | [_, _], _ => rfl) (fun _ => rfl) ?_
  intro f cdv B outer s H Q E hr
  have hu := hu_of hr
  have hu64 := hu64_of hr
  refine ⟨_, (pss_cons (ps_if (pt_cmp (pc_din hu (fldK K (pv 0)) (fldK K (pv 0)))) (pss_one (ps_ret (ixK K (pe_dget hu (fldK K (pv 0)) (fldK K (pv 0)) (fun _ _ => rfl)) pe_int))) pss_nil)
      (pss_cons (ps_set (i := 2) sc_Paths_mark_now.nd rfl (Or.inr rfl) (pmethG (ok_Paths_held T) hr passL (pv 0) (pa_cons (pv 1) pa_nil)))
      (pss_one (ps_ret (pe_callB (minK K) rfl T.n_min (by decide +kernel) (pa_cons (pe_lc rfl sc_Paths_mark_now.nd (pi_range1 rfl T.n_range (pa_cons (pe_op op_add (pe_callB (lenK K) rfl T.n_len (by decide +kernel) (pa_cons (pv 2) pa_nil)) pe_int) pa_nil)) (blkOk_by (own := [("mark", 3)]) (N := N_Paths_mark_now) (sc := defScope s_Paths_mark_now) (by decide +kernel)) (fun _ _ _ _ _ => (pg_name (i := 3) sc_Paths_mark_now.nd rfl (Or.inl rfl))) (fun _ _ _ _ _ => (pts_one (pt_cmpR (notInK K) (pv 3) (pv 2) (by rfl)))) (fun _ _ _ _ _ => (pv 3))) pa_nil)))))), ?_⟩
  intro a G M hp hc hret hexc
  obtain ⟨a, age⟩ := a
  have hL : a.L ≤ 100000 := hp
  have hx : cX K mg a ∈ M := hc _ List.mem_cons_self
  have hd : cD K a ∈ M := hc _ (List.mem_cons_of_mem _ List.mem_cons_self)
  have hy : cY K a ∈ M := hc _ (List.mem_cons_of_mem _ (List.mem_cons_of_mem _ List.mem_cons_self))
  intro G1 σ H1 e s1 w1
  obtain ⟨dx, fs, kvs, e1, e2, e3, e4, e5, e6, e7⟩ := pth_at w1 hx hd
  have s0 : σ[0]? = some (some (.ref a.x)) := sd_at s1 rfl
  have evS : ∀ Q : VK, Q (.int (a.st : Int)) H1 → tFld K (tVar 0) "state" σ H1 Q := fun Q q => fldR s0 e1 e2 T.cls_Paths T.na_Paths_state q
  have evP : ∀ Q : VK, Q (.ref a.dp) H1 → tFld K (tVar 0) "places" σ H1 Q := fun Q q => fldR s0 e1 e3 T.cls_Paths T.na_Paths_places q
  generalize tFld K (tVar 0) "state" = tS at evS ⊢
  generalize tFld K (tVar 0) "places" = tP at evP ⊢
  refine evS _ ?_
  refine evP _ ?_
  refine ⟨a.dp, valV kvs (.inl (a.st : Int)), rfl, .inl ⟨kvs, .inl (a.st : Int), .inl e5, rfl, rfl⟩, _, rfl, ?_⟩
  cases hv : valV kvs (.inl (a.st : Int)) with
  | some v =>
    obtain ⟨d, hd1, _, m, b, hmb⟩ := KP.get e7 hv
    subst hmb
    refine evP _ ?_
    refine evS _ ?_
    refine ⟨a.dp, v, rfl, .inl ⟨kvs, .inl (a.st : Int), .inl e5, rfl, hv.symm⟩, ?_⟩
    cases hd1 with
    | @tup t xs _ hs hds =>
      cases hds with
      | @cons v1 vs1 _ _ h4 h5 =>
        refine .inr (.inl ⟨t, _, 0, v1, rfl, rfl, SqT.mono w1.le hs, ?_, hret _ G1 H1 e w1 ⟨⟨m, trivial⟩, h4⟩⟩)
        have : atI (v1 :: vs1) ((0 : Nat) : Int) = some v1 := by
          unfold atI ixN
          rw [if_pos (by omega), if_pos (by rw [List.length_cons]; omega)]
          rfl
        exact this
  | none =>
    rw [if_neg (by decide)]
    show tSeq _ _ (Dn Q) σ H1
    refine Go.at (Γ := g0 N_Paths_mark_now [tV (.ref a.x), tN K age]) (G0 := G) (M := M) ?_ e s1 w1
    refine go_setX (T := fun l : { l : List Nat // l.length ≤ a.L } => tD K (.tuple (nL l.1))) (ev_methM (P := fun a : PthA × Nat => a.1.L ≤ 100000) (C := fun a => [cX K mg a.1, cY K a.1]) (A := fun a => [tV (.ref a.1.x), tN K a.2]) (Rr := fun a => tEx fun l : { l : List Nat // l.length ≤ a.1.L } => tD K (.tuple (nL l.1))) (X := fun _ => xNo) (x := a.x) (Fs := fP K a.st a.dp a.yp) (a, age) (ev_var (i := 0) rfl) hx (ea_cons (ev_var (i := 1) rfl) ea_nil) rfl rfl hL (fun c hc => by
      cases hc with
      | head => exact hx
      | tail _ hc => cases hc with
        | head => exact hy
        | tail _ hc => cases hc) (fun _ _ _ z => z)) fun ⟨l, hl⟩ => ?_
    refine go_ret (ev_minN (l := (List.range (l.length + 1)).filter fun k => !decide (k ∈ l)) (ev_lcR (n := l.length + 1) (fun k => !decide (k ∈ l)) nI (ev_addN (b := 1) (ev_lenN (ev_tQ (ev_var (i := 2) rfl))) ev_int) (by omega) (fun k hk M' hM => et_t (ev_notInN (ev_var (i := 3) rfl) (ev_tQ (ev_var (i := 2) rfl))) rfl) fun k hk _ M' hM => ev_var (i := 3) rfl) fun hnil => ?_) hret
    have := pigeon (l.length + 1) l fun k hk => by
      have h1 := List.filter_eq_nil_iff.mp hnil k (List.mem_range.mpr hk)
      by_cases c : k ∈ l
      · exact c
      · exact absurd (by rw [decide_eq_false c]; rfl) h1
    omega
end
end Ag
set_option Elab.async false
set_option linter.all false
set_option maxRecDepth 100000
set_option maxHeartbeats 4000000
/-! Ag25: put_copy, go. -/
namespace Ag
open PySem PySem.Spec PyProof.Rows L2
section
variable {P : Program} {w : World} {K : PySem.W.Frag} {mg : Str → Option Value} {base : Heap} {x qual : Str} {st : Stmt} {N ps : List Str} {k : Nat} {sp : Sp}
theorem MDefAt.okR {c : Addr} (d : MDefAt K c x qual st) (S : FnScope N ps (defScope st)) (hb : Bd x qual st ps) (hl : ∀ vs H Q E, sp vs H Q E → vs.length = ps.length)
    (body : ∀ (f : Addr) (cdv : Value) (B : Around) (outer : List Env) (s : Shared) (H : Hp) (Q : VK) (E : XK), Room k (B.deeper (envOfC qual (defScope st) s.heap.objs.size f cdv)) →
      ∃ t, PSs (cxOf (L2.CX P w) P w K mg base N qual (defScope st) f cdv B outer s H E) (defBody st) t ∧ ∀ vs, sp vs H Q E → t (Dn Q) (L2.start N vs) H) :
    MCallee P w K mg base (k + 1) c x ps sp := by
  obtain ⟨f, fd, F, hm, hc⟩ := d.ex
  refine ⟨f, fd, F.okX S hl (fun cdv B outer s H vs Q E hr hs => ?_), hc, hm, F.binds hb⟩
  obtain ⟨t, h1, h2⟩ := body f cdv B outer s H Q E hr
  exact ⟨t, h1, h2 vs hs⟩
theorem IDefAt.okR {c : Addr} (d : IDefAt K mg x qual c st) (S : FnScope N ps (defScope st)) (hb : Bd "__init__" qual st ps) (hl : ∀ vs H Q E, sp vs H Q E → vs.length = ps.length)
    (body : ∀ (f : Addr) (cdv : Value) (B : Around) (outer : List Env) (s : Shared) (H : Hp) (Q : VK) (E : XK), Room k (B.deeper (envOfC qual (defScope st) s.heap.objs.size f cdv)) →
      ∃ t, PSs (cxOf (L2.CX P w) P w K mg base N qual (defScope st) f cdv B outer s H E) (defBody st) t ∧ ∀ vs, sp vs H Q E → t (Dn Q) (L2.start N vs) H) :
    ICallee P w K mg base (k + 1) x c ps sp := by
  obtain ⟨f, fd, Fu, hm, hg⟩ := d.ex
  refine ⟨f, fd, Fu.okX S hl (fun cdv B outer s H vs Q E hr hs => ?_), hm, hg, Fu.binds hb⟩
  obtain ⟨t, h1, h2⟩ := body f cdv B outer s H Q E hr
  exact ⟨t, h1, h2 vs hs⟩
end
theorem len_Paths_put_copy {K : FR} {mg : MG} (vs : List V) (H : Hp) (Q : VK) (E : XK) : sp_Paths_put_copy K mg vs H Q E → vs.length = (["self", "age"] : List Str).length := fun ⟨a, age, G, M, _, _, _, h, _⟩ => Tys.len h
theorem len_Paths_go {K : FR} {mg : MG} (vs : List V) (H : Hp) (Q : VK) (E : XK) : sp_Paths_go K mg vs H Q E → vs.length = (["self", "table", "age"] : List Str).length := fun ⟨a, t, age, G, M, _, _, _, h, _⟩ => Tys.len h
theorem len_Paths_init {K : FR} {mg : MG} (vs : List V) (H : Hp) (Q : VK) (E : XK) : sp_Paths_init K mg vs H Q E → vs.length = (["self", "state", "bound"] : List Str).length := fun ⟨x, st, n, ws, G, M, e, _, h, _⟩ => by rw [e, List.length_cons, Tys.len h]; rfl
section
variable {K : FR} {mg : MG} {Γ Γ' : Gam} {M M' Mw : Mem} {ta tb te tl to tv td ty : TE} {tt : TT} {tA : TA} {T U R T1 T2 : Ty} {Ti : Nat → Ty} {G0 G1 : Hp} {D : Ends} {ts tbd : TS} {n i j : Nat} {g : TG} {vs : List Nat} {wi : TI} {p : Addr} {E : XK}
theorem cDP_more {Pk : Nat → PyData → Prop} {L : Nat} {G : Hp} {o : HO} (h : (cDP K Pk L).p G o) : (cDP K Pk (L + 1)).p G o := let ⟨kvs, h1, h2, h3⟩ := h; ⟨kvs, h1, Nat.le_succ_of_le h2, h3⟩
/-- d[k] = v on an owned dict at the head -/
theorem go_dput {Pk : Nat → PyData → Prop} {L : Nat} (hv : Ev Γ ((p, cDP K Pk L) :: M) tv T) (hd : Ev Γ ((p, cDP K Pk L) :: M) td (tV (.ref p))) (hk : Ev Γ ((p, cDP K Pk L) :: M) ty (tNP K fun x => ∀ G v, T.p G v → ∃ d, Dp K G v d ∧ Pk x d)) (hz : L ≤ 1000000)
    (k : Nx D G0 Γ ((p, cDP K Pk (L + 1)) :: M)) : Go Γ ((p, cDP K Pk L) :: M) (sDPut td ty tv) D G0 := fun G σ H e s w =>
  hv G σ H s w _ fun v G1 H1 e1 w1 t => hd G1 σ H1 (s.mono e1) w1 _ fun x G2 H2 e2 w2 hx => hk G2 σ H2 (s.mono (e1.trans e2)) w2 _ fun y G3 H3 e3 w3 ⟨⟨r, hr⟩, hy⟩ => by
    have ex : x = .ref p := hx
    have ey := dp_int hy
    subst ex ey
    obtain ⟨_, o, h1, kvs, rfl, h2, h3⟩ := w3.at_ _ List.mem_cons_self
    obtain ⟨d, h4, h5⟩ := hr G3 v (T.mono (e2.trans e3) t)
    refine ⟨p, _, rfl, .inl ⟨kvs, .inl (r : Int), h1, rfl, by rw [sizeLine_eq]; omega, rfl⟩, ?_⟩
    exact k G3 σ _ (((e.trans e1).trans e2).trans e3) (s.mono ((e1.trans e2).trans e3)) (w3.change ⟨_, rfl, Nat.le_trans (put_len2 _ _ _) (by omega), h3.put h4 h5⟩)
theorem nx_perm (h : M.Perm M') (k : Nx D G0 Γ M') : Nx D G0 Γ M := fun G σ H e s w => k G σ H e s (w.perm h)
theorem Wd.head {C C' : Ct} {G H : Hp} (w : Wd G ((p, C) :: M) H) (h : ∀ G o, C.p G o → C'.p G o) : Wd G ((p, C') :: M) H := ⟨w.le, by simpa using w.nd, fun c hc => by
  rcases List.mem_cons.mp hc with rfl | hc
  · obtain ⟨h1, o, h2, h3⟩ := w.at_ _ List.mem_cons_self
    exact ⟨h1, o, h2, h _ _ h3⟩
  · exact w.at_ c (List.mem_cons_of_mem _ hc)⟩
theorem nx_head {C C' : Ct} (h : ∀ G o, C.p G o → C'.p G o) (k : Nx D G0 Γ ((p, C') :: M)) : Nx D G0 Γ ((p, C) :: M) := fun G σ H e s w => k G σ H e s (w.head h)
theorem cDP_le {Pk : Nat → PyData → Prop} {L L' : Nat} (hl : L ≤ L') (G : Hp) (o : HO) (h : (cDP K Pk L).p G o) : (cDP K Pk L').p G o := let ⟨kvs, h1, h2, h3⟩ := h; ⟨kvs, h1, Nat.le_trans h2 hl, h3⟩
abbrev tTold (K : FR) : Ty := tEx fun e : Nat × Nat => tD K (.tuple [nI e.1, nI e.2])
/-- an item of a row, the place only known to be one -/
theorem ev_ixNB {l : List Nat} {m : Nat} (ha : Ev Γ M ta (tD K (.tuple (nL l)))) (hb : Ev Γ M tb (tNB K n)) (h1 : l.length = n) (h2 : ∀ x ∈ l, x < m) : Ev Γ M (tOp (rIx K) ta tb) (tNB K m) := ev_op ha hb fun G H x y w hx ⟨r, hy⟩ Q q => by
  have ey := dp_int hy
  subst ey
  cases (show Dp K G x (.tuple (nL l)) from hx) with
  | @tup a xs _ hs hd =>
    have hr : r.1 < l.length := by rw [h1]; exact r.2
    obtain ⟨v, h3, h4⟩ := at_dp hd (at_nat (ds := nL l) (i := r.1) (by rw [nL_len]; exact hr))
    rw [dAt_nL hr] at h4
    exact .inr (.inl ⟨a, xs, _, v, rfl, rfl, SqT.mono w.le hs, h3, q v G H (Same.refl _) w ⟨⟨gt l r.1, h2 _ (gt_mem hr)⟩, h4⟩⟩)
theorem ix1 {G : Hp} {v : V} {m b : Nat} (h : Dp K G v (.tuple [nI m, nI b])) : ∃ t xs, v = .ref t ∧ SqT K G t xs ∧ atI xs 1 = some (.int (b : Int)) := by
  cases h with
  | @tup t xs _ hs hd =>
    cases hd with | @cons v1 vs1 _ _ h4 hd => cases hd with | @cons v2 vs2 _ _ h5 hd =>
    cases hd
    have e := dp_int h5
    subst e
    exact ⟨t, _, rfl, hs, rfl⟩
theorem ev_told (h : Ev Γ M ta (tTold K)) : Ev Γ M (tOp (rIx K) ta (tC (.int 1))) (tI K) := ev_op (U := tV (.int 1)) h ev_cv fun G H x y w ⟨⟨m, b⟩, hx⟩ hy Q q => by
  have ey : y = .int 1 := hy
  subst ey
  obtain ⟨t, xs, rfl, hs, ha⟩ := ix1 hx
  exact .inr (.inl ⟨t, xs, 1, _, rfl, rfl, SqT.mono w.le hs, ha, q _ G H (Same.refl _) w ⟨_, .int _⟩⟩)
theorem et_found {q : Addr} {i3 i5 i6 L : Nat} (hm : (q, cDP K (Pl n) L) ∈ M) (h3 : Γ[i3]? = some (some (tV (.ref q)))) (h6 : Γ[i6]? = some (some (tNB K n))) (h5 : Γ[i5]? = some (some (tTold K))) :
    EvT Γ M (tOr (L2.tB (tDNotIn (tVar i6) (tVar i3))) (tTest (tOp (rI0 fun i j => .bl (decide (j < i))) (tOp (rIx K) (tVar i5) (tC (.int 1))) (tOp (rIx K) (tDGet (tVar i3) (tVar i6)) (tC (.int 1)))))) (fun _ => True) := fun G σ H s w Q qq => by
  obtain ⟨v6, e6, r, hr⟩ := s.get i6 _ h6
  obtain ⟨v5, e5, ⟨m, b⟩, hmb⟩ := s.get i5 _ h5
  have e3 := sd_at s h3
  have e7 := dp_int hr
  subst e7
  obtain ⟨_, o, h1, kvs, rfl, h2, hkp⟩ := w.at_ _ hm
  refine ⟨_, e6, _, e3, _, valV kvs (.inl (r.1 : Int)), rfl, .inl ⟨kvs, .inl (r.1 : Int), .inl h1, rfl, rfl⟩, _, rfl, ?_⟩
  cases hv : valV kvs (.inl (r.1 : Int)) with
  | none => exact qq true G H (Same.refl _) w trivial
  | some v =>
    obtain ⟨d, hd, _, m2, b2, e2⟩ := hkp.get hv
    subst e2
    obtain ⟨t, xs, rfl, hs, ha⟩ := ix1 hmb
    obtain ⟨t2, xs2, rfl, hs2, ha2⟩ := ix1 hd
    refine ⟨_, e5, .inr (.inl ⟨t, xs, 1, _, rfl, rfl, SqT.mono w.le hs, ha, ?_⟩)⟩
    refine ⟨_, e3, _, e6, q, .ref t2, rfl, .inl ⟨kvs, .inl (r.1 : Int), .inl h1, rfl, hv.symm⟩, ?_⟩
    refine .inr (.inl ⟨t2, xs2, 1, _, rfl, rfl, SqT.mono w.le hs2, ha2, ?_⟩)
    exact ⟨_, _, rfl, rfl, _, rfl, qq _ G H (Same.refl _) w trivial⟩
/-- x = {}, a dict that is to grow -/
theorem go_setDNew {Pk : Nat → PyData → Prop} (k : ∀ p, Go (Γ.set i (some (tV (.ref p)))) ((p, cDP K Pk 0) :: M) ts D G0) : Go Γ M (tSeq (tAsg tDNewK (gName i)) ts) D G0 := fun G σ H e s w p hp =>
  k p G _ _ e (s.set i (T := tV (.ref p)) rfl) (w.own hp ⟨[], rfl, Nat.le_refl _, fun _ h => nomatch h⟩)
end
section
variable {P : Program} {w : World} {K : PySem.W.Frag} {mg : Str → Option Value} {base : Heap}
theorem ok_Paths_put_copy (T : Prg P K mg) : MCallee P w K mg base 4 (cOf "Paths" mg) "put_copy" ["self", "age"] (sp_Paths_put_copy K mg) := by
  refine T.d_Paths_put_copy.okR sc_Paths_put_copy (fun _ _ _ _ _ _ us hl => match us, hl with | [_, _], _ => rfl) len_Paths_put_copy ?_
  intro f cdv B outer s H Q E hr
  have hu := hu_of hr
  have hu64 := hu64_of hr
  refine ⟨_, (pss_cons (ps_set (i := 2) sc_Paths_put_copy.nd rfl (Or.inl rfl) (pmethG (ok_Paths_mark_now T) hr passL (pv 0) (pa_cons (pv 1) pa_nil)))
      (pss_cons (ps_dput hu (fldK K (pv 0)) (fldK K (pv 0)) (pe_tup (pa_cons (pv 2) (pa_cons (pv 1) pa_nil))) rfl)
      (pss_cons (ps_dput hu (fldK K (pv 0)) (pv 2) (pv 1) rfl)
      (pss_one (ps_ret (pv 2)))))), ?_⟩
  intro vs hsp
  obtain ⟨a, age, G, M, hL, hst, hw, ht, hret⟩ := hsp
  refine Go.at (Γ := g0 N_Paths_put_copy [tV (.ref a.x), tN K age]) (G0 := G) (M := MP K mg a M) ?_ (Same.refl _) (sd_start ht) hw
  refine go_setX (T := fun r : { r : Nat // True } => tN K r.1) (ev_methM (P := fun a : PthA × Nat => a.1.L ≤ 100000) (C := fun a => [cX K mg a.1, cD K a.1, cY K a.1]) (A := fun a => [tV (.ref a.1.x), tN K a.2]) (Rr := fun _ => tNA K) (X := fun _ => xNo) (x := a.x) (Fs := fP K a.st a.dp a.yp) (a, age) (ev_var (i := 0) rfl) List.mem_cons_self (ea_cons (ev_var (i := 1) rfl) ea_nil) rfl rfl (by show a.L ≤ 100000; omega) (fun c hc => by
    cases hc with
    | head => exact List.mem_cons_self
    | tail _ hc => cases hc with
      | head => exact List.mem_cons_of_mem _ List.mem_cons_self
      | tail _ hc => cases hc with
        | head => exact List.mem_cons_of_mem _ (List.mem_cons_of_mem _ List.mem_cons_self)
        | tail _ hc => cases hc) (fun _ _ _ z => z)) fun ⟨m, _⟩ => ?_
  -- the places first
  refine go_perm (List.Perm.swap _ _ _) ?_
  refine go_seq (go_dput (T := tD K (.tuple [nI m, nI age])) (ev_tup (ds := [nI m, nI age]) (ea_cons (ev_var (i := 2) rfl) (ea_cons (ev_var (i := 1) rfl) ea_nil)) (by exact (by decide : 2 ≤ 1000000))) (ev_fldM (ev_var (i := 0) rfl) (List.mem_cons_of_mem _ List.mem_cons_self) rfl T.cls_Paths T.na_Paths_places) (ev_mono (ev_fldM (T := tN K a.st) (ev_var (i := 0) rfl) (List.mem_cons_of_mem _ List.mem_cons_self) rfl T.cls_Paths T.na_Paths_state) fun G v h => ⟨⟨a.st, fun G v hv => ⟨_, hv, hst, m, age, rfl⟩⟩, h⟩) (by omega) (go_nx ?_))
  have hp1 : (((a.dp, cDP K (Pl a.n) (a.L + 1)) :: cX K mg a :: cY K a :: M : Mem)).Perm (cY K a :: (a.dp, cDP K (Pl a.n) (a.L + 1)) :: cX K mg a :: M) := (List.Perm.cons _ (List.Perm.swap _ _ _)).trans (List.Perm.swap _ _ _)
  refine go_perm hp1 ?_
  refine go_seq (go_dput (T := tN K age) (ev_var (i := 1) rfl) (ev_fldM (ev_var (i := 0) rfl) (List.mem_cons_of_mem _ (List.mem_cons_of_mem _ List.mem_cons_self)) rfl T.cls_Paths T.na_Paths_youngest) (ev_mono (ev_var (i := 2) (T := tN K m) rfl) fun G v h => ⟨⟨m, fun G v hv => ⟨_, hv, age, rfl⟩⟩, h⟩) (by omega) (go_nx ?_))
  refine go_ret (T := tN K m) (ev_var (i := 2) rfl) fun v G' H' e' w' t => ?_
  have ev := dp_int t
  subst ev
  refine hret m G' H' e' (w'.perm ?_)
  exact (List.Perm.swap _ _ _).trans ((List.Perm.cons _ (List.Perm.swap _ _ _)).trans (List.Perm.swap _ _ _))
theorem ok_Paths_init (T : Prg P K mg) : ICallee P w K mg base 1 "Paths" (cOf "Paths" mg) ["self", "state", "bound"] (sp_Paths_init K mg) := by
  refine T.d_Paths_init.okR sc_Paths_init (fun _ _ _ _ _ _ us hl => match us, hl with | [_, _, _], _ => rfl) len_Paths_init ?_
  intro f cdv B outer s H Q E hr
  have hu := hu_of hr
  have hu64 := hu64_of hr
  refine ⟨_, (pss_cons (ps_fld (pv 0) (pv 1) rfl)
      (pss_cons (ps_fld (pv 0) (pv 2) rfl)
      (pss_cons (ps_fld (pv 0) pe_dnewK rfl)
      (pss_one (ps_fld (pv 0) pe_dnewK rfl))))), ?_⟩
  intro vs hsp
  obtain ⟨x, st, n, ws, G, M, ev, hw, ht, hret⟩ := hsp
  subst ev
  have hself : ∀ {M : Mem}, Ev (g0 N_Paths_init [tV (.ref x), tN K st, tD K .none]) M (tVar 0) (tV (.ref x)) := ev_var rfl
  refine Go.at (Γ := g0 N_Paths_init [tV (.ref x), tN K st, tD K .none]) (G0 := G) (M := (x, cO (cOf "Paths" mg) []) :: M) ?_ (Same.refl _) (sd_start (.cons rfl ht)) hw
  refine go_fldX [("state", tN K st)] (T := tN K st) (ev_var rfl) hself T.cls_Paths T.na_Paths_state ?_ rfl (by show 0 < 1000; decide)
  refine go_fldX [("state", tN K st), ("bound", tD K .none)] (T := tD K .none) (ev_var rfl) hself T.cls_Paths T.na_Paths_bound ?_ rfl (by show 1 < 1000; decide)
  intro G1 σ H1 e s1 w1 dp hdp
  have w2 : Wd G1 ((dp, cDP K (Pl n) 0) :: (x, cO (cOf "Paths" mg) [("state", tN K st), ("bound", tD K .none)]) :: M) (upd H1 dp (.dK [])) := w1.own hdp ⟨[], rfl, Nat.le_refl _, fun _ h => nomatch h⟩
  have s0 : σ[0]? = some (some (.ref x)) := sd_at s1 rfl
  obtain ⟨_, o, h1, dx, fs, rfl, hf⟩ := w2.swap.at_ _ List.mem_cons_self
  refine ⟨.ref x, s0, x, cOf "Paths" mg, dx, fs, rfl, h1, T.cls_Paths, T.na_Paths_places, by rw [FTys.len hf]; exact (by decide : 2 < 1000), ?_⟩
  have w3 := w2.swap.change (C' := cO (cOf "Paths" mg) [("state", tN K st), ("bound", tD K .none), ("places", tV (.ref dp))]) ⟨dx, _, rfl, FTys.put (f := "places") (T := tV (.ref dp)) (v := .ref dp) rfl hf⟩
  intro yp hyp
  have w4 := w3.own (C := cDP K Yo 0) hyp ⟨[], rfl, Nat.le_refl _, fun _ h => nomatch h⟩
  obtain ⟨_, o, h2, dx2, fs2, rfl, hf2⟩ := w4.swap.at_ _ List.mem_cons_self
  refine ⟨.ref x, s0, x, cOf "Paths" mg, dx2, fs2, rfl, h2, T.cls_Paths, T.na_Paths_youngest, by rw [FTys.len hf2]; exact (by decide : 3 < 1000), ?_⟩
  have w5 := w4.swap.change (C' := cO (cOf "Paths" mg) (fP K st dp yp)) ⟨dx2, _, rfl, FTys.put (f := "youngest") (T := tV (.ref yp)) (v := .ref yp) rfl hf2⟩
  exact hret dp yp _ _ e (w5.perm (List.Perm.cons _ (List.Perm.swap _ _ _)))
theorem ok_Paths_go (T : Prg P K mg) : MCallee P w K mg base 2 (cOf "Paths" mg) "go" ["self", "table", "age"] (sp_Paths_go K mg) := by
  refine T.d_Paths_go.okR sc_Paths_go (fun _ _ _ _ _ _ us hl => match us, hl with | [_, _, _], _ => rfl) len_Paths_go ?_
  intro f cdv B outer s H Q E hr
  have hu := hu_of hr
  have hu64 := hu64_of hr
  refine ⟨_, (pss_cons (ps_set (i := 3) sc_Paths_go.nd rfl (Or.inl rfl) pe_dnewK)
      (pss_cons (ps_lock (ps_for (passes_of rfl) rfl (pi_items (fldK K (pv 0))) (tupG K 2 (pgs_cons (pg_name (i := 4) sc_Paths_go.nd rfl (Or.inl rfl)) (pgs_cons (pg_name (i := 5) sc_Paths_go.nd rfl (Or.inl rfl)) pgs_nil))) (pss_cons (ps_set (i := 6) sc_Paths_go.nd rfl (Or.inl rfl) (ixK K (pv 1) (pv 4)))
      (pss_cons (ps_if (PW.pt (pw_and (pt_val (pmethG (ok_Paths_is_living T) hr passL (pv 0) (pa_cons (ixK K (pv 5) pe_int) (pa_cons (pv 2) pa_nil)))) (pw_and1 (PW.pt (pw_or (pt_cmp (pc_dnotin hu (pv 6) (pv 3))) (pw_or1 (pt_cmpR op_gt (ixK K (pv 5) pe_int) (ixK K (pe_dget hu (pv 3) (pv 6) (fun _ _ => rfl)) pe_int) (nomark _)))))))) (pss_one (ps_dput hu (pv 3) (pv 6) (pv 5) rfl)) pss_nil) pss_nil))))
      (pss_one (ps_fld (pv 0) (pv 3) rfl)))), ?_⟩
  intro vs hsp
  obtain ⟨a, t, age, G, M, hL, ⟨ht1, ht2⟩, hw, ht, hret⟩ := hsp
  refine Go.at (Γ := g0 N_Paths_go [tV (.ref a.x), tD K (.tuple (nL t)), tN K age]) (G0 := G) (M := MP K mg a M) ?_ (Same.refl _) (sd_start ht) hw
  refine go_setDNew (K := K) (Pk := Pl a.n) fun q => ?_
  have hp1 : (((q, cDP K (Pl a.n) 0) :: MP K mg a M : Mem)).Perm (cD K a :: (q, cDP K (Pl a.n) 0) :: cX K mg a :: cY K a :: M) := (List.Perm.cons _ (List.Perm.swap _ _ _)).trans (List.Perm.swap _ _ _)
  refine go_perm hp1 (go_seq (go_lock fun od kvs hlen => ?_))
  let Γ0 : Gam := [some (tV (.ref a.x)), some (tD K (.tuple (nL t))), some (tN K age), some (tV (.ref q)), none, none, none]
  let Mi : Nat → Mem := fun i => (a.dp, cFz K (Pl a.n) od kvs) :: (q, cDP K (Pl a.n) i) :: cX K mg a :: cY K a :: M
  have hxM : ∀ {i : Nat}, cX K mg a ∈ Mi i := List.mem_cons_of_mem _ (List.mem_cons_of_mem _ List.mem_cons_self)
  refine go_forL (vs := [4, 5]) (it_items (Pk := Pl a.n) (ev_fldM (ev_var (i := 0) rfl) (List.mem_cons_of_mem _ (List.mem_cons_of_mem _ List.mem_cons_self)) rfl T.cls_Paths T.na_Paths_places) List.mem_cons_self) (fun i (_ : Unit) => Γ0) (fun i _ => (Γ0.set 4 (some (tNB K a.n))).set 5 (some (tTold K))) (fun i _ => Mi i) (fun _ _ => True) () rfl rfl trivial (fun i _ c hc => by
    cases hc with
    | head => exact List.mem_cons_self
    | tail _ hc => cases hc) (fun i _ hi _ => tg_pairX fun G v ⟨⟨⟨y, d⟩, hy, m, b, hb⟩, h⟩ => ⟨nI y, d, h, fun u hu => ⟨⟨y, hy⟩, hu⟩, fun u hu => ⟨(m, b), (by have hb' : d = .tuple [nI m, nI b] := hb; rw [hb'] at hu; exact hu)⟩⟩) (fun i _ Gt hi _ e => ?_) fun _ _ => ?_
  · refine go_set (T := tNB K a.n) (ev_ixNB (ev_var (i := 1) rfl) (ev_var (i := 4) rfl) ht1 ht2) ?_
    refine go_seq (go_if (P := fun _ => True) (et_andP (P1 := fun _ => True) (P2 := fun _ => True) (et_mono (et_b (a := true) (ev_methM (P := fun _ : PthA × Nat => True) (C := fun a => [cX K mg a.1]) (A := fun a => [tV (.ref a.1.x), tI K, tN K a.2]) (Rr := fun _ => tB K true) (X := fun _ => xNo) (x := a.x) (Fs := fP K a.st a.dp a.yp) (a, age) (ev_var (i := 0) rfl) hxM (ea_cons (ev_told (ev_var (i := 5) rfl)) (ea_cons (ev_var (i := 2) rfl) ea_nil)) rfl rfl trivial (fun c hc => by
        cases hc with
        | head => exact hxM
        | tail _ hc => cases hc) (fun _ _ _ z => z)) rfl) fun _ _ => trivial) (fun _ => et_found (n := a.n) (L := i) (List.mem_cons_of_mem _ List.mem_cons_self) rfl rfl rfl) (fun _ _ _ => trivial) fun _ => trivial) (fun _ => ?_) fun _ => ?_)
    · refine go_perm (List.Perm.swap _ _ _) (go_dput (T := tTold K) (ev_var (i := 5) rfl) (ev_var (i := 3) rfl) (ev_mono (ev_var (i := 6) (T := tNB K a.n) rfl) fun G v ⟨r, h⟩ => ⟨⟨r.1, fun G v ⟨e, hv⟩ => ⟨_, hv, r.2, e.1, e.2, rfl⟩⟩, h⟩) (by omega) ?_)
      exact nx_perm (List.Perm.swap _ _ _) (nx_endW () trivial (.same (.same (.same (.same (.no (.no (.no .nil))))))) rfl)
    · exact nx_perm (List.Perm.swap _ _ _) (nx_head (cDP_le (Nat.le_succ i)) (nx_perm (List.Perm.swap _ _ _) (nx_endW () trivial (.same (.same (.same (.same (.no (.no (.no .nil))))))) rfl)))
  · refine nx_lock hlen ?_
    have hp2 : (((a.dp, cDP K (Pl a.n) a.L) :: (q, cDP K (Pl a.n) kvs.length) :: cX K mg a :: cY K a :: M : Mem)).Perm ((a.x, cO (cOf "Paths" mg) (fP K a.st a.dp a.yp)) :: (q, cDP K (Pl a.n) kvs.length) :: (a.dp, cDP K (Pl a.n) a.L) :: cY K a :: M) := (List.Perm.swap _ _ _).trans ((List.Perm.cons _ (List.Perm.swap _ _ _)).trans ((List.Perm.swap _ _ _).trans (List.Perm.cons _ (List.Perm.refl _))))
    refine nx_perm hp2 (go_nx ?_)
    refine go_fld (T := tV (.ref q)) (ev_var (i := 3) rfl) (ev_var (i := 0) rfl) T.cls_Paths T.na_Paths_places (by show 4 < 1000; decide) fun G' σ H' e s w' => hret q G' H' e ?_
    have w2 : Wd G' ((a.x, cO (cOf "Paths" mg) (fP K a.st q a.yp)) :: (q, cDP K (Pl a.n) kvs.length) :: (a.dp, cDP K (Pl a.n) a.L) :: cY K a :: M) H' := w'
    have w3 := (w2.perm (M' := (a.dp, cDP K (Pl a.n) a.L) :: (q, cDP K (Pl a.n) kvs.length) :: (a.x, cO (cOf "Paths" mg) (fP K a.st q a.yp)) :: cY K a :: M) ((List.Perm.swap _ _ _).trans ((List.Perm.cons _ (List.Perm.swap _ _ _)).trans (List.Perm.swap _ _ _)))).tail
    exact (w3.head (cDP_le hlen)).swap
end
end Ag
set_option Elab.async false
set_option linter.all false
set_option maxRecDepth 100000
set_option maxHeartbeats 4000000
/-! Ag26: marks_of, path_marks. -/
namespace Ag
open PySem PySem.Spec PyProof.Rows L2
def MkD (d : PyData) : Prop := d = .none ∨ ∃ k : Nat, d = nI k
abbrev tMks (K : FR) (len : Nat) : Ty := tEx fun ds : { ds : List PyData // ds.length = len + 1 ∧ ∀ d ∈ ds, MkD d } => tD K (.tuple ds.1)
abbrev sp_marks_of (K : FR) (mg : MG) : Sp := PrS (fun a : SgA => a.Ok ∧ a.ok = .good) (fun a => [tSg K mg a, tD K .none]) (fun a => tMks K a.log.length)
abbrev sp_path_marks (K : FR) (mg : MG) : Sp := PrS (fun a : SgA => a.Ok ∧ a.ok = .good ∧ a.bd = .none) (fun a => [tMa K mg a.tabs a.n, tZ K a.k (nL a.log), tN K a.state, tD K a.sd, tD K a.kd]) (fun a => tMks K a.log.length)
section
variable {K : FR} {mg : MG} {Γ Γ' : Gam} {M M' Mw : Mem} {ta tb te tl to tv td ty : TE} {tt : TT} {tA : TA} {T U R T1 T2 : Ty} {Ti : Nat → Ty} {G0 G1 : Hp} {D : Ends} {ts tbd : TS} {n i j : Nat} {g : TG} {vs : List Nat} {wi : TI} {p : Addr} {E : XK} {a : PthA} {c : Addr × Ct}
theorem go_makePaths {st : Nat} (n : Nat) (h : EvA Γ M tA [tN K st, tD K .none]) (k : ∀ x dp yp, Go (Γ.set i (some (tV (.ref x)))) (MP K mg ⟨x, st, dp, yp, n, 0⟩ M) ts D G0) : Go Γ M (tSeq (tAsg (tMake (cOf "Paths" mg) (sp_Paths_init K mg) [] E tA) (gName i)) ts) D G0 := fun G σ H e s w =>
  h G σ H s w _ fun vs G1 H1 e1 w1 h1 x dx nx ndx ne => by
    refine ⟨x, st, n, vs, G1, M, by rw [List.append_nil], (w1.extra ndx).own (by rw [upd_ne (Ne.symm ne)]; exact nx) ⟨dx, [], rfl, .nil⟩, h1, fun dp yp G' H' e' w' => ⟨rfl, ?_⟩⟩
    exact k x dp yp G' _ H' ((e.trans e1).trans e') ((s.mono (e1.trans e')).set i (T := tV (.ref x)) rfl) w'
theorem perm4 {c x d y : Addr × Ct} : (c :: x :: d :: y :: M).Perm (x :: d :: y :: c :: M) := (List.Perm.swap _ _ _).trans (List.Perm.cons _ ((List.Perm.swap _ _ _).trans (List.Perm.cons _ (List.Perm.swap _ _ _))))
theorem go_callGo {t : List Nat} {age : Nat} (hL : a.L ≤ 50000) (hrow : RowOk a.n t) (ho : Ev Γ (c :: MP K mg a M) to (tV (.ref a.x))) (h : EvA Γ (c :: MP K mg a M) tA [tD K (.tuple (nL t)), tN K age]) (k : ∀ dp, Nx D G0 Γ (c :: MP K mg (a.to dp) M)) :
    Go Γ (c :: MP K mg a M) (tDrop (tMeth (cOf "Paths" mg) "go" (sp_Paths_go K mg) [] E to tA)) D G0 := fun G σ H e s w =>
  ho G σ H s w _ fun v G1 H1 e1 w1 hv => by
    have ev : v = .ref a.x := hv
    subst ev
    obtain ⟨_, o, h2, dx, fs, rfl, hf⟩ := w1.at_ (cX K mg a) (List.mem_cons_of_mem _ List.mem_cons_self)
    refine ⟨a.x, dx, fs, rfl, h2, FTys.none (f := "go") hf rfl, ?_⟩
    refine h G1 σ H1 (s.mono e1) w1 _ fun vs G2 H2 e2 w2 ht => ?_
    refine ⟨a, t, age, G2, c :: M, hL, hrow, w2.perm perm4, by rw [List.append_nil]; exact .cons rfl ht, fun dp G' H' e' w' => ?_⟩
    exact k dp G' σ H' (((e.trans e1).trans e2).trans e') (s.mono ((e1.trans e2).trans e')) (w'.perm perm4.symm)
theorem go_appendPut {ds : List PyData} {age : Nat} {b : Bool} {pf : Addr} (hL : a.L ≤ 50000) (hst : a.st < a.n) (hz : ds.length < 1000000) (hto : Ev Γ ((pf, cL K ds) :: MP K mg a M) te (tV (.ref pf))) (htest : EvT Γ ((pf, cL K ds) :: MP K mg a M) tt (· = b)) (ho : Ev Γ ((pf, cL K ds) :: MP K mg a M) to (tV (.ref a.x))) (h : EvA Γ ((pf, cL K ds) :: MP K mg a M) tA [tN K age])
    (k : ∀ d, MkD d → Nx D G0 Γ ((pf, cL K (ds ++ [d])) :: MP K mg a.more M)) :
    Go Γ ((pf, cL K ds) :: MP K mg a M) (tDrop (tBM K "list" rAppend te (tCons (tIf tt (tMeth (cOf "Paths" mg) "put_copy" (sp_Paths_put_copy K mg) [] E to tA) (tC .non)) tNil))) D G0 := fun G σ H e s w =>
  hto G σ H s w _ fun v G1 H1 e1 w1 hv => by
    have ev : v = .ref pf := hv
    subst ev
    obtain ⟨_, o, h2, xs, rfl, hxs⟩ := w1.at_ _ List.mem_cons_self
    refine ⟨.inl ⟨rfl, xs, SqL.of h2⟩, ?_⟩
    have fin : ∀ (y : V) (d : PyData) (G3 : Hp) (H3 : Hp), MkD d → Same G1 G3 → Dp K G3 y d → Wd G3 ((pf, cL K ds) :: MP K mg a.more M) H3 → rAppend (.ref pf) [y] H3 fun _ H' => D.nx σ H' := fun y d G3 H3 hd e3 hy w3 => by
      obtain ⟨_, o, h4, ys, rfl, hys⟩ := w3.at_ _ List.mem_cons_self
      exact ⟨pf, ys, y, rfl, rfl, h4, by rw [DpAll.len hys, sizeLine_eq]; omega, k d hd G3 σ _ ((e.trans e1).trans e3) (s.mono (e1.trans e3)) (w3.change ⟨_, rfl, DpAll.app hys (.cons hy .nil)⟩)⟩
    refine htest G1 σ H1 (s.mono e1) w1 _ fun c G2 H2 e2 w2 hc => ?_
    cases c with
    | true =>
      refine ho G2 σ H2 (s.mono (e1.trans e2)) w2 _ fun v G3 H3 e3 w3 hv => ?_
      have ev : v = .ref a.x := hv
      subst ev
      obtain ⟨_, o, h4, dx, fs, rfl, hf⟩ := w3.at_ (cX K mg a) (List.mem_cons_of_mem _ List.mem_cons_self)
      refine ⟨a.x, dx, fs, rfl, h4, FTys.none (f := "put_copy") hf rfl, ?_⟩
      refine h G3 σ H3 (s.mono ((e1.trans e2).trans e3)) w3 _ fun vs G4 H4 e4 w4 ht => ?_
      refine ⟨a, age, G4, (pf, cL K ds) :: M, hL, hst, w4.perm perm4, by rw [List.append_nil]; exact .cons rfl ht, fun m G' H' e' w' => ?_⟩
      exact fin _ (nI m) G' H' (.inr ⟨m, rfl⟩) (((e2.trans e3).trans e4).trans e') (.int _) (w'.perm perm4.symm)
    | false =>
      refine fin .non .none G2 H2 (.inl rfl) e2 .non ?_
      have w3 := w2.perm (M' := cD K a :: cY K a :: cX K mg a :: (pf, cL K ds) :: M) (perm4.trans ((List.Perm.swap _ _ _).trans (List.Perm.cons _ (List.Perm.swap _ _ _))))
      have w4 := (w3.head (cDP_le (Nat.le_succ a.L))).swap.head (cDP_le (Nat.le_succ a.L))
      have w5 : Wd G2 (cY K a.more :: cD K a.more :: cX K mg a.more :: (pf, cL K ds) :: M) H2 := w4
      exact (w5.perm ((List.Perm.swap _ _ _).trans ((List.Perm.cons _ (List.Perm.swap _ _ _)).trans ((List.Perm.swap _ _ _))))).perm perm4.symm
theorem SgA.aapw {a : SgA} (h : a.Ok) (hg : a.ok = .good) : a.aa.Pairwise (· < ·) := (SgA.kp h hg).1.pw.filter _
theorem SgA.aalen {a : SgA} (h : a.Ok) (hg : a.ok = .good) : a.aa.length ≤ 1001 := by
  have h1 := (SgA.kp h hg).1.len h.l.1
  have h3 : a.aa.length ≤ a.kl.length := List.length_filter_le _ _
  omega
end
section
variable {P : Program} {w : World} {K : PySem.W.Frag} {mg : Str → Option Value} {base : Heap}
theorem ok_marks_of (T : Prg P K mg) : Callee P w K mg base 5 "marks_of" ["sight", "bound"] (sp_marks_of K mg) := by
  refine T.d_marks_of.ok sc_marks_of (fun _ _ _ _ _ _ us hl => match us, hl with | [_, _], _ => rfl) (fun _ => rfl) ?_
  intro f cdv B outer s H Q E hr
  have hu := hu_of hr
  have hu64 := hu64_of hr
  refine ⟨_, (pss_cons (ps_set (i := 2) sc_marks_of.nd rfl (Or.inl rfl) (pmakeG (ok_Paths_init T) hr passL (pa_cons (fldK K (pv 0)) (pa_cons (pv 1) pa_nil))))
      (pss_cons (ps_set (i := 3) sc_marks_of.nd rfl (Or.inl rfl) (pe_lst pa_nil))
      (pss_cons (ps_setDc (i := 4) rfl sc_marks_of.nd rfl rfl (sw_dc rfl rfl rfl (by decide +kernel)) (seqK K (fldK K (pv 0))) (blkOk_by (own := [("age", 5)]) (N := N_marks_of) (sc := defScope s_marks_of) (by decide +kernel)) (fun _ _ _ _ _ => (pg_name (i := 5) sc_marks_of.nd rfl (Or.inl rfl))) (fun _ _ _ _ _ => pts_nil) (fun _ _ _ _ _ => (pv 5)) (fun _ _ _ _ _ => pe_bl))
      (pss_cons (ps_for (passes_of rfl) rfl (pi_range1 rfl T.n_range (pa_cons (pe_op op_add (pe_callB (lenK K) rfl T.n_len (by decide +kernel) (pa_cons (fldK K (pv 0)) pa_nil)) pe_int) pa_nil)) (pg_name (i := 5) sc_marks_of.nd rfl (Or.inl rfl)) (C8.pss_cut (ps_if (pt_cmpR op_gt (pv 5) pe_int (nomark _)) (pss_one (ps_expr (pmethG (ok_Paths_go T) hr passL (pv 2) (pa_cons (ixK K (fldK K (fldK K (pv 0))) (ixK K (fldK K (pv 0)) (pe_op op_sub (pv 5) pe_int))) (pa_cons (pv 5) pa_nil))))) pss_nil)
      (pss_one (ps_expr (appendK K (pv 3) (pa_cons (pe_ifExp (pt_cmp (pc_din hu (pv 5) (pv 4))) (pmethG (ok_Paths_put_copy T) hr passL (pv 2) (pa_cons (pv 5) pa_nil)) pe_non) pa_nil))))))
      (pss_one (ps_ret (pe_callTy (tupleK K) rfl T.n_tuple (by decide +kernel) (pa_cons (pv 3) pa_nil)))))))), ?_⟩
  intro a G M hp hc hret hexc
  obtain ⟨ha, hg⟩ := hp
  have ha' : a.Ok := ha
  have hlz := ha'.l.1
  have hpw := SgA.aapw ha' hg
  have haz := SgA.aalen ha' hg
  have hdist : ∀ i j, i < j → j < a.aa.length → gt a.aa i ≠ gt a.aa j := fun i j h1 h2 => Nat.ne_of_lt (pw_gt hpw i j h1 h2)
  have hf : ∀ {f : Str} {U : Ty} {Γ : Gam} {M : Mem}, Γ[0]? = some (some (tSg K mg a)) → List.lookup f (fSg K mg a) = some U → NoAttr K (cOf "Sight" mg) f → Ev Γ M (tFld K (tVar 0) f) U := fun h1 h2 h3 => ev_fld (ev_var h1) h2 T.cls_Sight h3
  refine go_makePaths (K := K) (mg := mg) (st := a.state) a.n (ea_cons (hf rfl rfl T.na_Sight_state) (ea_cons (ev_var (i := 1) rfl) ea_nil)) fun x dp yp => ?_
  refine go_setOwn (K := K) (ds := []) ea_nil (by exact (by decide : 0 ≤ 1000000)) fun pf => ?_
  refine go_set (T := tDS a.aa) (ev_dcS (d := .bool true) hdist (ev_lQ (hf rfl rfl T.na_Sight_all_ages)) (by omega) (by show 5 < 6; decide) fun k hk M' hM => ev_bl) ?_
  let Γ0 : Gam := [some (tSg K mg a), some (tD K .none), some (tV (.ref x)), some (tV (.ref pf)), some (tDS a.aa), none]
  let pa : Addr → Nat → PthA := fun dp i => ⟨x, a.state, dp, yp, a.n, i⟩
  have hI := it_rng1 (K := K) (Γ := Γ0) (M := (pf, cL K []) :: MP K mg (pa dp 0) M) (n := a.log.length + 1) (ta := tOp (rI0 fun i j => .int (i + j)) (tCB (rLenQ K) (tCons (tFld K (tVar 0) "log") tNil)) (tC (.int 1))) (ev_addN (b := 1) (ev_lenN (ev_tQ (hf rfl rfl T.na_Sight_log))) ev_int) (by omega)
  refine go_seq (go_for hI (fun i (_ : List PyData × Addr) => Γ0) (fun i _ => Γ0.set 5 (some (tN K i))) (fun i b => (pf, cL K b.1) :: MP K mg (pa b.2 i) M) (fun i b => b.1.length = i ∧ ∀ d ∈ b.1, MkD d) ([], dp) rfl rfl ⟨rfl, fun _ h => nomatch h⟩ (fun i _ hi _ => tg_name) (fun i b Gt hi hP e => ?_) fun b hP => ?_)
  · obtain ⟨ds, dp1⟩ := b
    obtain ⟨hP1, hP2⟩ := hP
    have hP1' : ds.length = i := hP1
    refine go_cutK (fun _ : Addr => Γ0.set 5 (some (tN K i))) (fun dp2 => (pf, cL K ds) :: MP K mg (pa dp2 i) M) (fun _ => True) ?_ fun dp2 _ => ?_
    · refine go_if (P := (· = decide (0 < i))) (et_t (ev_gtN (b := 0) (ev_var (i := 5) rfl) ev_int) rfl) (fun hc => ?_) fun hc => nx_endW dp1 trivial (Le.refl _) rfl
      have hi0 : 0 < i := of_decide_eq_true hc.symm
      have hd : gt a.log (i - 1) < a.tabs.length := ha'.l.2 _ (gt_mem (by omega))
      obtain ⟨t, h1, h2, h3, h4⟩ := tab_at ha'.t hd
      refine go_callGo (a := pa dp1 i) (t := t) (age := i) (by show i ≤ 50000; omega) ⟨h3, h4⟩ (ev_var (i := 2) rfl) (ea_cons (ev_ixX (a := gt a.log (i - 1)) (ds := tbD a.tabs) (ev_tQ (ev_tables T (hf rfl rfl T.na_Sight_machine))) (ev_ixN (l := a.log) (a := i - 1) (ev_tQ (hf rfl rfl T.na_Sight_log)) (ev_sub1 (i := 0) (a := i) (ev_var (i := 5) rfl) ev_int hi0) (by omega)) (by unfold tbD; rw [List.getElem?_map, h1]; rfl)) (ea_cons (ev_var (i := 5) rfl) ea_nil)) fun dp2 => nx_endW dp2 trivial (Le.refl _) rfl
    · refine go_appendPut (a := pa dp2 i) (b := decide (i ∈ a.aa)) (age := i) (by show i ≤ 50000; omega) ha'.s (by omega) (ev_var (i := 3) rfl) (et_b (ev_dcIn (ev_var (i := 5) rfl) (ev_var (i := 4) rfl)) rfl) (ev_var (i := 2) rfl) (ea_cons (ev_var (i := 5) rfl) ea_nil) fun d hd => nx_endW (ds ++ [d], dp2) ⟨by rw [List.length_append, hP1']; rfl, fun z hz => ?_⟩ (.same (.same (.same (.same (.same (.no .nil)))))) rfl
      rcases List.mem_append.mp hz with h | h
      · exact hP2 z h
      · rcases List.mem_singleton.mp h with rfl
        exact hd
  · obtain ⟨ds, dp1⟩ := b
    refine go_nx (go_keep (i := 3) rfl ?_)
    refine go_ret (ev_tupleOf (ev_LQ (ev_var (i := 3) (T := tL K ds) rfl))) fun v G' H' e' w' t => hret v G' H' e' ?_ ⟨⟨ds, hP.1, hP.2⟩, t⟩
    exact w'.tail.tail.tail
theorem fn_path_marks (T : Prg P K mg) {f : Addr} {fd : FuncData} {kws : List (Str × V)} (F : FunD K "path_marks" "path_marks" (defArgs s_path_marks) (defBody s_path_marks) (defScope s_path_marks) [] kws f fd) : FnOk P w K mg base (L2.CX P w) 12 f fd ["machine", "log", "state", "starts", "kept"] (sp_path_marks K mg) := by
  refine fnD_ok F sc_path_marks (fun _ => rfl) ?_
  intro cdv B outer s H Q E hr
  have hu := hu_of hr
  have hu64 := hu64_of hr
  refine ⟨_, (pss_one (ps_ret (pcallG (ok_marks_of T) hr passL (pa_cons (pmakeG (ok_Sight_init T) hr passL (pa_cons (pv 0) (pa_cons (pv 1) (pa_cons (pv 2) (pa_cons (pv 3) (pa_cons (pv 4) (pa_cons pe_non pa_nil))))))) (pa_cons pe_non pa_nil))))), ?_⟩
  intro a G M hp hc hret hexc
  obtain ⟨ha, hg, hb⟩ := hp
  have hb' : a.bd = .none := hb
  refine go_ret (ev_callS (P := fun a : SgA => a.Ok ∧ a.ok = .good) (A := fun a => [tSg K mg a, tD K .none]) (Rr := fun a => tMks K a.log.length) a (ea_cons (ev_Sight (a := a) ?_ ha hg) (ea_cons ev_non ea_nil)) ⟨ha, hg⟩) hret
  rw [hb']
  exact ea_cons (ev_var rfl) (ea_cons (ev_var rfl) (ea_cons (ev_var rfl) (ea_cons (ev_var rfl) (ea_cons (ev_var rfl) (ea_cons ev_non ea_nil)))))
def gk_path_marks_kw3_starts_kept {α : Type} (a b c : List α) : List α := a ++ ((c.drop 0).take 1 ++ ((c.drop 1).take 1))
theorem okk_path_marks_kw3_starts_kept (T : Prg P K mg) : KCallee P w K mg base 12 "path_marks" ["machine", "log", "state", "starts", "kept"] 3 ["starts", "kept"] (fun vs zs => gk_path_marks_kw3_starts_kept vs (List.map Prod.snd ([] : List (Str × V))) zs) (sp_path_marks K mg) := by
  obtain ⟨f, fd, hm, F⟩ := T.d_path_marks.ex
  obtain ⟨mv, kb⟩ := F.kbinds0 (ps := ["machine", "log", "state", "starts", "kept"]) 3 ["starts", "kept"] [] (fun a b c => gk_path_marks_kw3_starts_kept a b c) (by simp) (by simp) (fun r1 r2 r3 => (r1.append (((r3.drop 0).take 1).append ((r3.drop 1).take 1)))) (fun D doc pm an cdv ct us mv ws h1 h2 h3 => match us, mv, ws, h1, h2, h3 with
    | [_, _, _], [], [_, _], _, _, _ => rfl)
  exact ⟨f, fd, _, fn_path_marks T F, hm, F.kp, kb⟩
end
end Ag
set_option Elab.async false
set_option linter.all false
set_option maxRecDepth 100000
set_option maxHeartbeats 4000000
/-! Ag27: marking, few_right. -/
namespace Ag
open PySem PySem.Spec PyProof.Rows L2
def MdP (n len : Nat) (d : PyData) : Prop := okMk n len d = true ∧ Szd d
def RwP (n : Nat) (d : PyData) : Prop := okRow n d = true ∧ (items d).length ≤ 1000
theorem rwP {n : Nat} {k : Bool} {ds : List PyData} (hn : n ≤ 1000) (hl : ds.length = n) (h : ∀ d ∈ ds, isNumber d = true) : RwP n (if k then .tuple ds else .list ds) := by
  have e : items (if k then .tuple ds else .list ds) = ds := by cases k <;> rfl
  unfold RwP okRow
  rw [e, isSeq_tZ, decide_eq_true hl, List.all_eq_true.mpr h]
  exact ⟨rfl, by omega⟩
theorem mdP {n len : Nat} {k : Bool} {ds : List PyData} (hn : len + 1 ≤ 1000) (hl : ds.length = len + 1) (h : ∀ d ∈ ds, RwP n d) : MdP n len (if k then .tuple ds else .list ds) := by
  have e : items (if k then .tuple ds else .list ds) = ds := by cases k <;> rfl
  unfold MdP okMk
  rw [e, isSeq_tZ, decide_eq_true hl, List.all_eq_true.mpr fun d hd => (h d hd).1]
  exact ⟨rfl, by rw [e]; omega, by rw [e]; exact fun d hd => (h d hd).2⟩
theorem num_nI (k : Nat) : isNumber (nI k) = true := decide_eq_true (p := 0 ≤ ((k : Nat) : Int)) (Int.natCast_nonneg k)
structure MgA where
  p : Addr
  tabs : List (List Nat)
  n : Nat
  log : List Nat
  sd : PyData
  sl : List Nat
  kd : PyData
  kl : List Nat
structure MgA.Ok (a : MgA) : Prop where
  t : OkT a.tabs a.n
  n2 : 2 ≤ a.n
  l : OkL a.tabs a.log
  lz : a.log.length ≤ 900
  s : GoodSt a.n a.sd a.sl
  k : GoodKp a.log.length a.kd a.kl
abbrev sp_Lmarking (K : FR) (mg : MG) : Sp := PrX (fun a : MgA => a.Ok) (fun a => [(a.p, cBox)]) (fun a => [tV (.ref a.p), tMa K mg a.tabs a.n, tD K (.tuple (nL a.log)), tD K a.sd, tD K a.kd]) (fun a => tEx fun d : { d : PyData // MdP a.n a.log.length d } => tD K d.1) (fun _ => xNo)
structure FwA where
  m : MgA
  b : Option Nat
abbrev sp_Lfew_right (K : FR) (mg : MG) : Sp := PrX (fun a : FwA => a.m.Ok ∧ GoodBd a.b) (fun a => [(a.m.p, cBox)]) (fun a => [tV (.ref a.m.p), tMa K mg a.m.tabs a.m.n, tD K (.tuple (nL a.m.log)), tD K a.m.sd, tD K a.m.kd, tD K (bdD a.b)]) (fun _ => tB K true) (fun _ => xNo)
section
variable {K : FR} {mg : MG} {Γ Γ' : Gam} {M M' Mw : Mem} {ta tb te tl to tv td ty t1 t2 t3 t4 t5 t6 : TE} {tt : TT} {tA : TA} {T U R T1 T2 : Ty} {Ti : Nat → Ty} {G0 G1 : Hp} {D : Ends} {ts tbd : TS} {n i j : Nat} {g : TG} {vs : List Nat} {wi : TI} {p : Addr} {E : XK}
/-- a comprehension of n items, each of which something is known -/
theorem ev_lcPi (Pe : Nat → PyData → Prop) (hI : It1 Γ M wi n Ti) (hz : n ≤ 1000000) (Γt : Nat → Gam) (hT : ∀ i, i < n → Tg g (Ti i) (wipeG Γ vs) (Γt i) vs) (he : ∀ i, i < n → ∀ M', Sub M M' → Ev (Γt i) M' te (tDP K (Pe i))) :
    Ev Γ M (tLc wi g tYes te vs) (tEx fun ds : { ds : List PyData // ds.length = n ∧ ∀ i, i < n → Pe i (dAt ds i) } => tL K ds.1) := by
  refine ev_mono (ev_lcG (K := K) (fun i ds => ds.length = i ∧ ∀ j, j < i → Pe j (dAt ds j)) (fun _ b => b = true) (fun i d => Pe i d) hI hz Γt hT ⟨rfl, fun j hj => absurd hj (Nat.not_lt_zero _)⟩ (fun i hi M' hM => et_yes) (fun i hi _ M' hM => he i hi M' hM) (fun i ds d hi _ ok _ pd => ?_) fun i ds hi ok p => by cases p) fun G v ⟨⟨ds, h1, h2⟩, h⟩ => ⟨⟨ds, h1, h2⟩, h⟩
  obtain ⟨h1, h2⟩ := ok
  refine ⟨by rw [List.length_append, h1]; rfl, fun j hj => ?_⟩
  by_cases c : j < i
  · have e : dAt (ds ++ [d]) j = dAt ds j := by unfold dAt; rw [List.getElem?_append_left (by omega)]
    rw [e]
    exact h2 j c
  · have e1 : j = i := by omega
    subst e1
    have e : dAt (ds ++ [d]) j = d := by unfold dAt; rw [List.getElem?_append_right (by omega), h1, Nat.sub_self]; rfl
    rw [e]
    exact pd
theorem all_of_at {ds : List PyData} {n : Nat} {Pe : PyData → Prop} (hl : ds.length = n) (h : ∀ i, i < n → Pe (dAt ds i)) : ∀ d ∈ ds, Pe d := fun d hd => by
  obtain ⟨i, hi⟩ := List.mem_iff_getElem?.mp hd
  have hil := (List.getElem?_eq_some_iff.mp hi).1
  have := h i (by omega)
  rw [dAt_lt hil] at hi
  rw [← Option.some.inj hi]
  exact this
theorem ev_repTX {d : PyData → Prop} (ha : Ev Γ M ta (tDP K d)) (hb : Ev Γ M tb (tN K n)) (h2 : 2 ≤ n) (hz : n ≤ 1000) : Ev Γ M (tOp (rRepT K) (tTup (tCons ta tNil)) tb) (tEx fun x : { x : PyData // d x } => tD K (.tuple (List.replicate n x.1))) := fun G σ H s w Q q =>
  ha G σ H s w _ fun v G1 H1 e1 w1 ⟨⟨x, hx⟩, hv⟩ => by
    refine ⟨by rw [sizeLine_eq]; exact (by decide : 1 ≤ 16777216), fun t ht => ?_⟩
    obtain ⟨w2, e2⟩ := w1.alloc ht (.tup [v])
    refine hb _ σ _ (s.mono (e1.trans e2)) w2 _ fun y G3 H3 e3 w3 hy => ?_
    have ey := dp_int hy
    subst ey
    have e : ((n : Int)).toNat = n := by omega
    refine ⟨t, n, [v], rfl, rfl, SqT.of (w3.le _ _ (e3 _ _ upd_same)), (by intro z; cases z), by omega, by omega, by show 1 ≤ 1000; decide, fun q2 hq2 => ?_⟩
    rw [e]
    obtain ⟨w4, e4⟩ := w3.alloc hq2 (.tup (List.replicate n [v]).flatten)
    refine q _ _ _ (((e1.trans e2).trans e3).trans e4) w4 ⟨⟨x, hx⟩, .tup (SqT.of upd_same) ?_⟩
    have h5 := dp_flat (K := K) (ds := [x]) (xs := [v]) (.cons (Dp.mono ((e2.trans e3).trans e4) hv) .nil) n
    have e6 := flat_one x n
    rw [e6] at h5
    exact h5
/-- a draw below a number that is only known to be one -/
theorem ev_takeP {P : Nat → Prop} (ho : Ev Γ M ta (tV (.ref p))) (hb : Ev Γ M tb (tNP K P)) (hm : (p, cBox) ∈ M) (h : ∀ r, P r → 0 < r ∧ r < 1000000) : Ev Γ M (tCall (sp_Ltake K mg) [] E (tCons ta (tCons tb tNil))) (tDP K fun d => isNumber d = true) := fun G σ H s w Q q =>
  (ea_cons ho (ea_cons hb ea_nil)) G σ H s w _ fun vs G1 H1 e1 w1 ht => by
    cases ht with
    | cons hx hr =>
      cases hr with
      | cons hy hr =>
        cases hr
        obtain ⟨⟨r, hr⟩, hy⟩ := hy
        refine ⟨⟨p, r⟩, G1, M, h r hr, w1, fun c hc => ?_, .cons hx (.cons hy .nil), fun v G2 H2 e2 w2 ⟨k, t⟩ => q v G2 H2 (e1.trans e2) w2 ⟨⟨nI k.1, num_nI _⟩, t⟩, fun _ _ _ _ _ _ z => z.elim⟩
        cases hc with
        | head => exact hm
        | tail _ hc => cases hc
end
section
variable {P : Program} {w : World} {K : PySem.W.Frag} {mg : Str → Option Value} {base : Heap}
def gk_least_marks_kw3_starts_kept_bound {α : Type} (a b c : List α) : List α := a ++ ((c.drop 0).take 1 ++ ((c.drop 1).take 1 ++ ((c.drop 2).take 1)))
theorem okk_least_marks_kw3_starts_kept_bound (T : Prg P K mg) : KCallee P w K mg base 13 "least_marks" ["machine", "log", "state", "starts", "kept", "bound"] 3 ["starts", "kept", "bound"] (fun vs zs => gk_least_marks_kw3_starts_kept_bound vs (List.map Prod.snd ([] : List (Str × V))) zs) (sp_least_marks K mg) := by
  obtain ⟨f, fd, hm, F⟩ := T.d_least_marks.ex
  obtain ⟨mv, kb⟩ := F.kbinds0 (ps := ["machine", "log", "state", "starts", "kept", "bound"]) 3 ["starts", "kept", "bound"] [] (fun a b c => gk_least_marks_kw3_starts_kept_bound a b c) (by simp) (by simp) (fun r1 r2 r3 => (r1.append (((r3.drop 0).take 1).append (((r3.drop 1).take 1).append ((r3.drop 2).take 1))))) (fun D doc pm an cdv ct us mv ws h1 h2 h3 => match us, mv, ws, h1, h2, h3 with
    | [_, _, _], [], [_, _, _], _, _, _ => rfl)
  exact ⟨f, fd, _, fn_least_marks T F, hm, F.kp, kb⟩
end
section
variable {Γ : Gam} {M : Mem} {K : FR} {mg : MG} {ta tb tc t1 t2 t3 t4 t5 : TE} {E : XK}
theorem ev_path_marks (a : SgA) (h1 : Ev Γ M t1 (tMa K mg a.tabs a.n)) (h2 : Ev Γ M t2 (tZ K a.k (nL a.log))) (h3 : Ev Γ M t3 (tN K a.state)) (h4 : Ev Γ M t4 (tD K a.sd)) (h5 : Ev Γ M t5 (tD K a.kd)) (ok : a.Ok) (hg : a.ok = .good) (hb : a.bd = .none) :
    Ev Γ M (tCallN 3 2 (sp_path_marks K mg) (fun vs zs => gk_path_marks_kw3_starts_kept vs (List.map Prod.snd ([] : List (Str × V))) zs) E (tCons t1 (tCons t2 (tCons t3 tNil))) (tCons t4 (tCons t5 tNil))) (tMks K a.log.length) :=
  ev_callN (P := fun a : SgA => a.Ok ∧ a.ok = .good ∧ a.bd = .none) (C := fun _ => []) (A := fun a => [tMa K mg a.tabs a.n, tZ K a.k (nL a.log), tN K a.state, tD K a.sd, tD K a.kd]) (Rr := fun a => tMks K a.log.length) (X := fun _ => xNo) a (ea_cons h1 (ea_cons h2 (ea_cons h3 ea_nil))) (ea_cons h4 (ea_cons h5 ea_nil)) rfl rfl (fun G vs zs k1 k2 => by
    cases k1 with | cons a1 k1 => cases k1 with | cons a2 k1 => cases k1 with | cons a3 k1 =>
    cases k1
    cases k2 with | cons b1 k2 => cases k2 with | cons b2 k2 =>
    cases k2
    exact .cons a1 (.cons a2 (.cons a3 (.cons b1 (.cons b2 .nil))))) ⟨ok, hg, hb⟩ sub_nil (fun _ _ _ z => z)
theorem ev_least_marks (a : SgA) {t6 : TE} (h1 : Ev Γ M t1 (tMa K mg a.tabs a.n)) (h2 : Ev Γ M t2 (tZ K a.k (nL a.log))) (h3 : Ev Γ M t3 (tN K a.state)) (h4 : Ev Γ M t4 (tD K a.sd)) (h5 : Ev Γ M t5 (tD K a.kd)) (h6 : Ev Γ M t6 (tD K a.bd)) (ok : a.Ok) (hg : a.ok = .good) :
    Ev Γ M (tCallN 3 3 (sp_least_marks K mg) (fun vs zs => gk_least_marks_kw3_starts_kept_bound vs (List.map Prod.snd ([] : List (Str × V))) zs) E (tCons t1 (tCons t2 (tCons t3 tNil))) (tCons t4 (tCons t5 (tCons t6 tNil)))) (tN K (lowOf a).length) :=
  ev_callN (P := fun a : SgA => a.Ok ∧ a.ok = .good) (C := fun _ => []) (A := sgArgs K mg) (Rr := fun a => tN K (lowOf a).length) (X := fun _ => xNo) a (ea_cons h1 (ea_cons h2 (ea_cons h3 ea_nil))) (ea_cons h4 (ea_cons h5 (ea_cons h6 ea_nil))) rfl rfl (fun G vs zs k1 k2 => by
    cases k1 with | cons a1 k1 => cases k1 with | cons a2 k1 => cases k1 with | cons a3 k1 =>
    cases k1
    cases k2 with | cons b1 k2 => cases k2 with | cons b2 k2 => cases k2 with | cons b3 k2 =>
    cases k2
    exact .cons a1 (.cons a2 (.cons a3 (.cons b1 (.cons b2 (.cons b3 .nil)))))) ⟨ok, hg⟩ sub_nil (fun _ _ _ z => z)
end
section
variable {P : Program} {w : World} {K : PySem.W.Frag} {mg : Str → Option Value} {base : Heap}
theorem ok_Lmarking (T : Prg P K mg) : Callee P w K mg base 13 "_law_marking" ["_law_box_here", "_law_machine", "_law_log_here", "_law_told", "_law_given"] (sp_Lmarking K mg) := by
  refine T.d_Lmarking.ok sc_Lmarking (fun _ _ _ _ _ _ us hl => match us, hl with | [_, _, _, _, _], _ => rfl) (fun _ => rfl) ?_
  intro f cdv B outer s H Q E hr
  have hu := hu_of hr
  have hu64 := hu64_of hr
  refine ⟨_, (pss_cons (ps_asg (pe_tup (pa_cons (pcallG (ok_Ltake T) hr passL (pa_cons (pv 0) (pa_cons pe_int pa_nil))) (pa_cons (fldK K (pv 1)) pa_nil))) (tupG K 2 (pgs_cons (pg_name (i := 5) sc_Lmarking.nd rfl (Or.inr rfl)) (pgs_cons (pg_name (i := 6) sc_Lmarking.nd rfl (Or.inr rfl)) pgs_nil))))
      (pss_cons (ps_if (pt_cmpR (eqK K hu64) (pv 5) pe_int (nomark _)) (pss_cons (ps_set (i := 7) sc_Lmarking.nd rfl (Or.inr rfl) (pe_lc rfl sc_Lmarking.nd (pi_range1 rfl T.n_range (pa_cons (pv 6) pa_nil)) (blkOk_by (own := [("_law_state", 8)]) (N := N_Lmarking) (sc := defScope s_Lmarking) (by decide +kernel)) (fun _ _ _ _ _ => (pg_name (i := 8) sc_Lmarking.nd rfl (Or.inl rfl))) (fun _ _ _ _ _ => pts_nil) (fun _ _ _ _ _ => (pcallKG (okk_path_marks_kw3_starts_kept T) hr passL (pa_cons (pv 1) (pa_cons (pv 2) (pa_cons (pv 8) pa_nil))) (pk_cons (pv 3) (pk_cons (pv 4) pk_nil))))))
      (pss_one (ps_ret (pe_lc rfl sc_Lmarking.nd (pi_range1 rfl T.n_range (pa_cons (pe_op op_add (pe_callB (lenK K) rfl T.n_len (by decide +kernel) (pa_cons (pv 2) pa_nil)) pe_int) pa_nil)) (blkOk_by (own := [("_law_age", 9)]) (N := N_Lmarking) (sc := defScope s_Lmarking) (by decide +kernel)) (fun _ _ _ _ _ => (pg_name (i := 9) sc_Lmarking.nd rfl (Or.inr rfl))) (fun _ _ _ _ _ => pts_nil) (fun _ _ _ _ _ => (pe_callTy (tupleK K) rfl T.n_tuple (by decide +kernel) (pa_cons (pe_lc rfl sc_Lmarking.nd (pi_range1 rfl T.n_range (pa_cons (pv 6) pa_nil)) (blkOk_by (own := [("_law_state", 8)]) (by first | rfl | kernel_rfl)) (fun _ _ _ _ _ => (pg_name (i := 8) sc_Lmarking.nd rfl (Or.inl rfl))) (fun _ _ _ _ _ => pts_nil) (fun _ _ _ _ _ => (pe_ifExp (pt_cmpR op_isN (ixK K (ixK K (pv 7) (pv 8)) (pv 9)) pe_non (nomark _)) pe_int (ixK K (ixK K (pv 7) (pv 8)) (pv 9))))) pa_nil))))))) pss_nil)
      (pss_cons (ps_if (pt_cmpR (eqK K hu64) (pv 5) pe_int (nomark _)) (pss_one (ps_ret (pe_op op_rep (pe_lst (pa_cons (pe_op op_rep (pe_lst (pa_cons pe_int pa_nil)) (pv 6)) pa_nil)) (pe_op op_add (pe_callB (lenK K) rfl T.n_len (by decide +kernel) (pa_cons (pv 2) pa_nil)) pe_int)))) pss_nil)
      (pss_cons (ps_if (pt_cmpR (eqK K hu64) (pv 5) pe_int (nomark _)) (pss_cons (ps_set (i := 10) sc_Lmarking.nd rfl (Or.inr rfl) (pe_op op_add pe_int (pcallG (ok_Ltake T) hr passL (pa_cons (pv 0) (pa_cons pe_int pa_nil)))))
      (pss_one (ps_ret (pe_callTy (tupleK K) rfl T.n_tuple (by decide +kernel) (pa_cons (pe_lc rfl sc_Lmarking.nd (pi_range1 rfl T.n_range (pa_cons (pe_op op_add (pe_callB (lenK K) rfl T.n_len (by decide +kernel) (pa_cons (pv 2) pa_nil)) pe_int) pa_nil)) (blkOk_by (own := [("_law_age", 9)]) (N := N_Lmarking) (sc := defScope s_Lmarking) (by decide +kernel)) (fun _ _ _ _ _ => (pg_name (i := 9) sc_Lmarking.nd rfl (Or.inl rfl))) (fun _ _ _ _ _ => pts_nil) (fun _ _ _ _ _ => (pe_op (repTK K) (pe_tup (pa_cons (pe_op op_mod (pe_callTy intR rfl T.n_int (by decide +kernel) (pa_cons (pv 9) pa_nil)) (pv 10)) pa_nil)) (pv 6)))) pa_nil))))) pss_nil)
      (pss_one (ps_ret (pe_lc rfl sc_Lmarking.nd (pi_range1 rfl T.n_range (pa_cons (pe_op op_add (pe_callB (lenK K) rfl T.n_len (by decide +kernel) (pa_cons (pv 2) pa_nil)) pe_int) pa_nil)) (blkOk_by (own := [("_law_age", 9)]) (N := N_Lmarking) (sc := defScope s_Lmarking) (by decide +kernel)) (fun _ _ _ _ _ => (pg_name (i := 9) sc_Lmarking.nd rfl (Or.inl rfl))) (fun _ _ _ _ _ => pts_nil) (fun _ _ _ _ _ => (pe_lc rfl sc_Lmarking.nd (pi_range1 rfl T.n_range (pa_cons (pv 6) pa_nil)) (blkOk_by (own := [("_law_state", 8)]) (by first | rfl | kernel_rfl)) (fun _ _ _ _ _ => (pg_name (i := 8) sc_Lmarking.nd rfl (Or.inl rfl))) (fun _ _ _ _ _ => pts_nil) (fun _ _ _ _ _ => (pcallG (ok_Ltake T) hr passL (pa_cons (pv 0) (pa_cons (pe_op op_add pe_int (pv 5)) pa_nil))))))))))))), ?_⟩
  intro a G M hp hc hret hexc
  have ha : a.Ok := hp
  obtain ⟨hT, hn2, hL, hlz, hst, hkp⟩ := ha
  have hn12 := hT.n2
  have hb : (a.p, cBox) ∈ M := hc _ List.mem_cons_self
  let Γ1 : Gam := [some (tV (.ref a.p)), some (tMa K mg a.tabs a.n), some (tD K (.tuple (nL a.log))), some (tD K a.sd), some (tD K a.kd), some (tNB K 5), some (tN K a.n), none, none, none, none]
  refine go_seq (go_pair (T1 := tNB K 5) (T2 := tN K a.n) (ev_take (m := 5) (ev_var rfl) ev_int hb (by decide) (by decide)) (ev_states T (ev_var rfl)) (go_nx ?_))
  have hlen : ∀ {Γ : Gam} {M : Mem}, Γ[2]? = some (some (tD K (.tuple (nL a.log)))) → Ev Γ M (tOp (rI0 fun i j => .int (i + j)) (tCB (rLenQ K) (tCons (tVar 2) tNil)) (tC (.int 1))) (tN K (a.log.length + 1)) := fun h => ev_addN (b := 1) (ev_lenN (ev_tQ (ev_var h))) ev_int
  refine go_ifs (P := fun _ => True) (et_eqII (ev_NB_I (ev_var (i := 5) rfl)) (ev_I ev_int)) (fun _ => ?_) fun _ => ?_
  · -- by the paths' marks
    refine go_setX (T := fun ds : { ds : List PyData // ds.length = a.n ∧ ∀ i, i < a.n → (∃ es : List PyData, dAt ds i = .tuple es ∧ es.length = a.log.length + 1 ∧ ∀ d ∈ es, MkD d) } => tL K ds.1) (ev_lcPi (fun _ d => ∃ es : List PyData, d = .tuple es ∧ es.length = a.log.length + 1 ∧ ∀ d ∈ es, MkD d) (it_rng1 (n := a.n) (ev_var (i := 6) rfl) (by omega)) (by omega) (fun k => Γ1.set 8 (some (tN K k))) (fun i hi => tg_name) fun i hi M' hM => ?_) fun ⟨cols, hc1, hc2⟩ => ?_
    · exact ev_mono (ev_path_marks ⟨a.tabs, a.n, true, a.log, i, a.sd, a.sl, a.kd, a.kl, .none, none, .good⟩ (ev_var (i := 1) rfl) (ev_var (i := 2) rfl) (ev_var (i := 8) rfl) (ev_var (i := 3) rfl) (ev_var (i := 4) rfl) ⟨hT, hL, hi, hst, hkp, trivial, rfl⟩ rfl rfl) fun G v ⟨⟨ds, h1, h2⟩, h⟩ => ⟨⟨.tuple ds, ds, rfl, h1, h2⟩, h⟩
    · refine go_ret (ev_lcPi (fun _ d => RwP a.n d) (it_rng1 (n := a.log.length + 1) (hlen rfl) (by omega)) (by omega) (fun k => (Γ1.set 7 (some (tL K cols))).set 9 (some (tN K k))) (fun i hi => tg_name) fun age hage M' hM => ?_) fun v G' H' e' w' ⟨⟨ds, h1, h2⟩, h⟩ => hret v G' H' e' w' ⟨⟨.list ds, mdP (k := false) (by omega) h1 (all_of_at h1 h2)⟩, tL_D h⟩
      refine ev_mono (ev_tupleX (f := fun ds : { ds : List PyData // ds.length = a.n ∧ ∀ i, i < a.n → isNumber (dAt ds i) = true } => ds.1) (ev_lcPi (fun _ d => isNumber d = true) (it_rng1 (n := a.n) (ev_var (i := 6) rfl) (by omega)) (by omega) (fun k => ((Γ1.set 7 (some (tL K cols))).set 9 (some (tN K age))).set 8 (some (tN K k))) (fun i hi => tg_name) fun st hst M'' hM' => ?_)) fun G v ⟨⟨ds, h1, h2⟩, h⟩ => ⟨⟨.tuple ds, rwP (k := true) (by omega) h1 (all_of_at h1 h2)⟩, h⟩
      obtain ⟨es, he1, he2, he3⟩ := hc2 st hst
      have hat : ∀ {Γ : Gam} {M : Mem}, Γ[7]? = some (some (tL K cols)) → Γ[8]? = some (some (tN K st)) → Γ[9]? = some (some (tN K age)) → Ev Γ M (tOp (rIx K) (tOp (rIx K) (tVar 7) (tVar 8)) (tVar 9)) (tD K (dAt es age)) := fun g1 g2 g3 => ev_ixD (ev_tQ (ev_to (ev_ixD (ev_LQ (ev_var g1)) (ev_var g2) (by omega)) he1)) (ev_var g3) (by omega)
      rcases he3 _ (dAt_mem (ds := es) (i := age) (by omega)) with hd | ⟨k, hd⟩
      · exact ev_if (et_t (a := true) (ev_isN (hat rfl rfl rfl)) (by rw [hd]; rfl)) (fun _ => ev_DP (d := nI 0) ev_int (num_nI 0)) fun z => nomatch z
      · refine ev_if (et_t (a := false) (ev_isN (hat rfl rfl rfl)) (by rw [hd]; rfl)) (fun z => nomatch z) fun _ => ev_DP (d := nI k) (ev_to (hat rfl rfl rfl) hd) (num_nI k)
  refine go_ifs (P := fun _ => True) (et_eqII (ev_NB_I (ev_var (i := 5) rfl)) (ev_I ev_int)) (fun _ => ?_) fun _ => ?_
  · -- one and the same row
    refine go_ret (ev_rep1 (d := .list (List.replicate a.n (nI 0))) (ev_lst (ds := [.list (List.replicate a.n (nI 0))]) (ea_cons (ev_LD (ev_rep1 (d := nI 0) (ev_lst (ds := [nI 0]) (ea_cons ev_int ea_nil)) (ev_var (i := 6) rfl) (by omega))) ea_nil) (by exact (by decide : 1 ≤ 1000000))) (hlen rfl) (by omega)) fun v G' H' e' w' h => hret v G' H' e' w' ⟨⟨.list (List.replicate (a.log.length + 1) (.list (List.replicate a.n (nI 0)))), mdP (k := false) (by omega) (List.length_replicate ..) fun d hd => ?_⟩, tL_D h⟩
    rw [(List.mem_replicate.mp hd).2]
    exact rwP (k := false) (by omega) (List.length_replicate ..) fun d hd => by rw [(List.mem_replicate.mp hd).2]; exact num_nI 0
  refine go_ifs (P := fun _ => True) (et_eqII (ev_NB_I (ev_var (i := 5) rfl)) (ev_I ev_int)) (fun _ => ?_) fun _ => ?_
  · -- by the age
    refine go_setX (T := fun r : { r : Nat // 1 ≤ r ∧ r ≤ 4 } => tN K r.1) (ev_addNP (n := 1) (P := fun r => r < 4) (Q := fun r => 1 ≤ r ∧ r ≤ 4) ev_int (ev_NB_NP (ev_take (m := 4) (ev_var rfl) ev_int hb (by decide) (by decide)) fun r h => h) fun r h => ⟨by omega, by omega⟩) fun ⟨by_, hb1, hb4⟩ => ?_
    refine go_ret (ev_tupleX (f := fun ds : { ds : List PyData // ds.length = a.log.length + 1 ∧ ∀ i, i < a.log.length + 1 → RwP a.n (dAt ds i) } => ds.1) (ev_lcPi (fun _ d => RwP a.n d) (it_rng1 (n := a.log.length + 1) (hlen rfl) (by omega)) (by omega) (fun k => (Γ1.set 10 (some (tN K by_))).set 9 (some (tN K k))) (fun i hi => tg_name) fun age hage M' hM => ?_)) fun v G' H' e' w' ⟨⟨ds, h1, h2⟩, h⟩ => hret v G' H' e' w' ⟨⟨.tuple ds, mdP (k := true) (by omega) h1 (all_of_at h1 h2)⟩, h⟩
    exact ev_mono (ev_repTX (d := fun d => isNumber d = true) (ev_NB_DP (ev_modN (m := by_) (ev_intAny (ev_N_I (ev_var (i := 9) (T := tN K age) rfl))) (ev_var (i := 10) rfl) (by omega)) fun r => num_nI r) (ev_var (i := 6) rfl) hn2 (by omega)) fun G v ⟨⟨d, hd⟩, h⟩ => ⟨⟨.tuple (List.replicate a.n d), rwP (k := true) (by omega) (List.length_replicate ..) fun e he => by rw [(List.mem_replicate.mp he).2]; exact hd⟩, h⟩
  · -- by draws
    refine go_ret (ev_lcPi (fun _ d => RwP a.n d) (it_rng1 (n := a.log.length + 1) (hlen rfl) (by omega)) (by omega) (fun k => Γ1.set 9 (some (tN K k))) (fun i hi => tg_name) fun age hage M' hM => ?_) fun v G' H' e' w' ⟨⟨ds, h1, h2⟩, h⟩ => hret v G' H' e' w' ⟨⟨.list ds, mdP (k := false) (by omega) h1 (all_of_at h1 h2)⟩, tL_D h⟩
    refine ev_mono (ev_lcPi (K := K) (fun _ d => isNumber d = true) (it_rng1 (n := a.n) (ev_var (i := 6) rfl) (by omega)) (by omega) (fun k => (Γ1.set 9 (some (tN K age))).set 8 (some (tN K k))) (fun i hi => tg_name) fun st hst M'' hM' => ?_) fun G v ⟨⟨ds, h1, h2⟩, h⟩ => ⟨⟨.list ds, rwP (k := false) (by omega) h1 (all_of_at h1 h2)⟩, tL_D h⟩
    exact ev_takeP (P := fun r => 2 ≤ r ∧ r ≤ 6) (ev_var (i := 0) rfl) (ev_addNP (n := 2) (P := fun r => r < 5) ev_int (ev_NB_NP (ev_var (i := 5) (T := tNB K 5) rfl) fun r h => h) fun r h => ⟨by omega, by omega⟩) (hM' _ (hM _ hb)) fun r h => ⟨by omega, by omega⟩
end
end Ag
set_option Elab.async false
set_option linter.all false
set_option maxRecDepth 100000
set_option maxHeartbeats 4000000
/-! Ag28: few_right. -/
namespace Ag
open PySem PySem.Spec PyProof.Rows L2
section
variable {P : Program} {w : World} {K : PySem.W.Frag} {mg : Str → Option Value} {base : Heap}
theorem ok_Lfew_right (T : Prg P K mg) : Callee P w K mg base 14 "_law_few_right" ["_law_box_here", "_law_machine", "_law_log_here", "_law_told", "_law_given", "_law_bound"] (sp_Lfew_right K mg) := by
  refine T.d_Lfew_right.ok sc_Lfew_right (fun _ _ _ _ _ _ us hl => match us, hl with | [_, _, _, _, _, _], _ => rfl) (fun _ => rfl) ?_
  intro f cdv B outer s H Q E hr
  have hu := hu_of hr
  have hu64 := hu64_of hr
  refine ⟨_, (pss_cons (ps_for (passes_of rfl) rfl (pi_range1 rfl T.n_range (pa_cons (fldK K (pv 1)) pa_nil)) (pg_name (i := 6) sc_Lfew_right.nd rfl (Or.inr rfl)) (pss_cons (ps_set (i := 7) sc_Lfew_right.nd rfl (Or.inr rfl) (pcallKG (okk_least_marks_kw3_starts_kept_bound T) hr passL (pa_cons (pv 1) (pa_cons (pv 2) (pa_cons (pv 6) pa_nil))) (pk_cons (pv 3) (pk_cons (pv 4) (pk_cons (pv 5) pk_nil)))))
      (pss_one (ps_if (pt_cmpR op_gt (pv 7) pe_int (nomark _)) (pss_cons (ps_setLc (i := 8) rfl sc_Lfew_right.nd rfl rfl (sw_true rfl rfl rfl (by decide +kernel)) (pi_range1 rfl T.n_range (pa_cons (pe_op op_add (pe_callB (lenK K) rfl T.n_len (by decide +kernel) (pa_cons (pv 2) pa_nil)) pe_int) pa_nil)) (blkOk_by (own := [("_law_age", 10)]) (N := N_Lfew_right) (sc := defScope s_Lfew_right) (by decide +kernel)) (fun _ _ _ _ _ => (pg_name (i := 10) sc_Lfew_right.nd rfl (Or.inr rfl))) (fun _ _ _ _ _ => pts_nil) (fun _ _ _ _ _ => (pe_lc rfl sc_Lfew_right.nd (pi_range1 rfl T.n_range (pa_cons (fldK K (pv 1)) pa_nil)) (blkOk_by (own := [("_law_other", 9)]) (by first | rfl | kernel_rfl)) (fun _ _ _ _ _ => (pg_name (i := 9) sc_Lfew_right.nd rfl (Or.inl rfl))) (fun _ _ _ _ _ => pts_nil) (fun _ _ _ _ _ => (pe_ifExp (pt_cmpR (eqK K hu64) (pv 9) (pv 6) (nomark _)) (pcallG (ok_Ltake T) hr passL (pa_cons (pv 0) (pa_cons (pe_op op_sub (pv 7) pe_int) pa_nil))) (pe_op op_add (pe_op op_pow pe_int pe_int) (pv 10)))))))
      (pss_cons (ps_set (i := 11) sc_Lfew_right.nd rfl (Or.inl rfl) (pcallKG (okk_unsafe_paper_kw3_starts_kept_bound T) hr passL (pa_cons (pv 1) (pa_cons (pv 2) (pa_cons (pv 8) pa_nil))) (pk_cons (pv 3) (pk_cons (pv 4) (pk_cons (pv 5) pk_nil)))))
      (pss_one (ps_if (PW.pt (pw_or (pt_cmpR op_isN (pv 11) pe_non (nomark _)) (pw_or1 (pt_cmpR (neK K hu64) (ixK K (pv 11) pe_int) (pv 6) (nomark _))))) (pss_one (ps_ret pe_bl)) pss_nil)))) pss_nil))))
      (pss_one (ps_ret pe_bl))), ?_⟩
  intro a G M hp hc hret hexc
  obtain ⟨a, b⟩ := a
  obtain ⟨ha, hgb⟩ := hp
  have ha : a.Ok := ha
  have hgb : GoodBd b := hgb
  obtain ⟨hT, hn2, hL, hlz, hst, hkp⟩ := ha
  have hn12 := hT.n2
  have hb : (a.p, cBox) ∈ M := hc _ List.mem_cons_self
  let Γ0 : Gam := [some (tV (.ref a.p)), some (tMa K mg a.tabs a.n), some (tD K (.tuple (nL a.log))), some (tD K a.sd), some (tD K a.kd), some (tD K (bdD b)), none, none, none, none, none, none]
  have hst' : ∀ {Γ : Gam} {M : Mem}, Γ[1]? = some (some (tMa K mg a.tabs a.n)) → Ev Γ M (tFld K (tVar 1) "states") (tN K a.n) := fun h => ev_states T (ev_var h)
  have hlen : ∀ {Γ : Gam} {M : Mem}, Γ[2]? = some (some (tD K (.tuple (nL a.log)))) → Ev Γ M (tOp (rI0 fun i j => .int (i + j)) (tCB (rLenQ K) (tCons (tVar 2) tNil)) (tC (.int 1))) (tN K (a.log.length + 1)) := fun h => ev_addN (b := 1) (ev_lenN (ev_tQ (ev_var h))) ev_int
  refine go_seq (go_for (it_rng1 (n := a.n) (hst' rfl) (by omega)) (fun i (_ : Unit) => Γ0) (fun i _ => Γ0.set 6 (some (tN K i))) (fun _ _ => M) (fun _ _ => True) () rfl rfl trivial (fun i _ hi _ => tg_name) (fun s _ Gt hs _ e => ?_) fun _ _ => go_nx (go_ret ev_bl hret))
  let up : PyData → UpA := fun md => ⟨a.tabs, a.n, true, a.log, md, a.sd, a.sl, a.kd, a.kl, bdD b, b, .good⟩
  let sg : SgA := ⟨a.tabs, a.n, true, a.log, s, a.sd, a.sl, a.kd, a.kl, bdD b, b, .good⟩
  have hsg : sg.Ok := ⟨hT, hL, hs, hst, hkp, hgb, rfl⟩
  have hneed : (lowOf sg).length ≤ 1001 := Nat.le_trans (List.length_filter_le _ _) (SgA.len hsg rfl)
  obtain ⟨need, hnd⟩ : ∃ need, need = (lowOf sg).length := ⟨_, rfl⟩
  refine go_set (T := tN K need) (by
    rw [hnd]
    exact ev_least_marks sg (ev_var (i := 1) rfl) (ev_var (i := 2) rfl) (ev_var (i := 6) rfl) (ev_var (i := 3) rfl) (ev_var (i := 4) rfl) (ev_var (i := 5) rfl) hsg rfl) ?_
  have leE : ∀ {x6 x7 x8 x9 x10 x11 : Option Ty}, Le Γ0 [some (tV (.ref a.p)), some (tMa K mg a.tabs a.n), some (tD K (.tuple (nL a.log))), some (tD K a.sd), some (tD K a.kd), some (tD K (bdD b)), x6, x7, x8, x9, x10, x11] := .same (.same (.same (.same (.same (.same (.no (.no (.no (.no (.no (.no .nil)))))))))))
  refine go_if (P := (· = decide (1 < need))) (et_t (ev_gtN (b := 1) (ev_var (i := 7) rfl) ev_int) rfl) (fun hc1 => ?_) fun _ => nx_endW () trivial leE rfl
  have h1 : 1 < need := of_decide_eq_true hc1.symm
  let Γ1 : Gam := (Γ0.set 6 (some (tN K s))).set 7 (some (tN K need))
  let Pr : Nat → PyData → Prop := fun age d => ∃ es : List PyData, d = .list es ∧ es.length = a.n ∧ ∀ j, j < a.n → (j = s → ∃ r : Nat, r < need - 1 ∧ dAt es j = nI r) ∧ (j ≠ s → dAt es j = .int (10 ^ 20 + (age : Int)))
  refine go_setX (T := fun ds : { ds : List PyData // ds.length = a.log.length + 1 ∧ ∀ i, i < a.log.length + 1 → Pr i (dAt ds i) } => tL K ds.1) (ev_lcPi (fun age d => Pr age d) (it_rng1 (n := a.log.length + 1) (hlen rfl) (by omega)) (by omega) (fun k => Γ1.set 10 (some (tN K k))) (fun i hi => tg_name) fun age hage M' hM => ?_) fun ⟨ds, hd1, hd2⟩ => ?_
  · refine ev_mono (ev_lcPi (K := K) (fun j d => (j = s → ∃ r : Nat, r < need - 1 ∧ d = nI r) ∧ (j ≠ s → d = .int (10 ^ 20 + (age : Int)))) (it_rng1 (n := a.n) (hst' rfl) (by omega)) (by omega) (fun k => (Γ1.set 10 (some (tN K age))).set 9 (some (tN K k))) (fun i hi => tg_name) fun j hj M'' hM' => ?_) fun G v ⟨⟨es, h2, h3⟩, h⟩ => ⟨⟨.list es, es, rfl, h2, h3⟩, tL_D h⟩
    refine ev_if (P := (· = decide (j = s))) (et_t (ev_eqN (ev_var (i := 9) rfl) (ev_var (i := 6) rfl)) rfl) (fun z => ?_) fun z => ?_
    · have ez : j = s := of_decide_eq_true z.symm
      exact ev_mono (ev_take (m := need - 1) (ev_var (i := 0) rfl) (ev_sub1 (i := 0) (a := need) (ev_var (i := 7) rfl) ev_int (by omega)) (hM' _ (hM _ hb)) (by omega) (by omega)) fun G v ⟨r, h⟩ => ⟨⟨nI r.1, fun _ => ⟨r.1, r.2, rfl⟩, fun q => absurd ez q⟩, h⟩
    · have ez : ¬ j = s := of_decide_eq_false z.symm
      exact ev_DP (d := .int (10 ^ 20 + (age : Int))) (ev_add (i := 10 ^ 20) (j := (age : Int)) (ev_pow (i := 10) (j := 20) ev_int ev_int ⟨by decide, by decide, by decide⟩) (ev_var (i := 10) (T := tN K age) rfl)) ⟨fun q => absurd q ez, fun _ => rfl⟩
  -- the paper
  obtain ⟨md, hmd⟩ : ∃ md : PyData, md = .list ds := ⟨_, rfl⟩
  have hit : items md = ds := by rw [hmd]; rfl
  have hrow : ∀ age, age < a.log.length + 1 → RwP a.n (dAt ds age) := fun age hage => by
    obtain ⟨es, e1, e2, e3⟩ := hd2 age hage
    rw [e1]
    refine rwP (k := false) (by omega) e2 (all_of_at (n := a.n) e2 fun j hj => ?_)
    obtain ⟨q1, q2⟩ := e3 j hj
    by_cases ej : j = s
    · obtain ⟨r, _, er⟩ := q1 ej
      rw [er]; exact num_nI r
    · rw [q2 ej]
      exact decide_eq_true (p := (0 : Int) ≤ 10 ^ 20 + (age : Int)) (by omega)
  have hmdP : MdP a.n a.log.length md := by rw [hmd]; exact mdP (k := false) (by omega) hd1 (all_of_at hd1 hrow)
  have hmk : ∀ age j, age < a.log.length + 1 → j < a.n → ∃ es, dAt ds age = .list es ∧ mkI md age j = (match dAt es j with | .int i => i | _ => 0) := fun age j hage hj => by
    obtain ⟨es, e1, _, _⟩ := hd2 age hage
    refine ⟨es, e1, ?_⟩
    unfold mkI
    rw [hit, e1]
    rfl
  have hgood : (up md).Good := ⟨hT, hL, hmdP.2, hmdP.1, hst, hkp, hgb⟩
  obtain ⟨one, oth, x, y, hpap⟩ := few_right (a := up md) hgood rfl (s := s) hs (fun age hage => by
    obtain ⟨es, e1, e2⟩ := hmk age s hage hs
    obtain ⟨es', e1', _, e3⟩ := hd2 age hage
    rw [e1] at e1'
    cases e1'
    obtain ⟨r, hr, er⟩ := (e3 s hs).1 rfl
    rw [er] at e2
    exact ⟨r, by rw [hnd] at hr; exact hr, e2⟩) (by rw [hnd] at h1; exact h1) (fun t ht hne age hage => by
    obtain ⟨es, e1, e2⟩ := hmk age t hage ht
    obtain ⟨es', e1', _, e3⟩ := hd2 age hage
    rw [e1] at e1'
    cases e1'
    rw [(e3 t ht).2 hne] at e2
    exact e2)
  refine go_set (T := tD K (papD s one oth x y)) (by
    have r := ev_unsafe_paper_k (K := K) (mg := mg) (E := E0) (Γ := Γ1.set 8 (some (tL K ds))) (M := M) (up md) (ev_var (i := 1) rfl) (ev_var (i := 2) rfl) (by rw [show (up md).md = .list ds from hmd]; exact ev_LD (ev_var (i := 8) rfl)) (ev_var (i := 3) rfl) (ev_var (i := 4) rfl) (ev_var (i := 5) rfl) hT ⟨hL, hmdP.2, hmdP.1, hst, hkp, hgb, rfl⟩ rfl
    rw [hpap] at r
    exact r) ?_
  refine go_if (et_or (a := false) (b := false) (et_t (ev_isN (d := papD s one oth x y) (ev_var (i := 11) rfl)) rfl) fun _ => et_t (ev_neN (a := s) (b := s) (ev_ixX (a := 1) (ds := [.str "unsafe", nI s, nI one, nI oth, nI x, nI y]) (ev_tQ (ev_var (i := 11) rfl)) ev_int rfl) (ev_var (i := 6) rfl)) (by rw [decide_eq_true rfl]; rfl)) (fun z => nomatch z) fun _ => nx_endW () trivial leE rfl
end
end Ag
set_option Elab.async false
set_option linter.all false
set_option maxRecDepth 100000
set_option maxHeartbeats 4000000
/-! Ag29: the remaining calls by keywords. -/
namespace Ag
open PySem PySem.Spec PyProof.Rows L2
section
variable {P : Program} {w : World} {K : PySem.W.Frag} {mg : Str → Option Value} {base : Heap}
def gk_is_safe_marking_kw3_starts_kept_bound {α : Type} (a b c : List α) : List α := a ++ ((c.drop 0).take 1 ++ ((c.drop 1).take 1 ++ ((c.drop 2).take 1)))
theorem okk_is_safe_marking_kw3_starts_kept_bound (T : Prg P K mg) : KCallee P w K mg base 13 "is_safe_marking" ["machine", "log", "marking", "starts", "kept", "bound"] 3 ["starts", "kept", "bound"] (fun vs zs => gk_is_safe_marking_kw3_starts_kept_bound vs (List.map Prod.snd ([] : List (Str × V))) zs) (sp_is_safe_marking K mg) := by
  obtain ⟨f, fd, hm, F⟩ := T.d_is_safe_marking.ex
  obtain ⟨mv, kb⟩ := F.kbinds0 (ps := ["machine", "log", "marking", "starts", "kept", "bound"]) 3 ["starts", "kept", "bound"] [] (fun a b c => gk_is_safe_marking_kw3_starts_kept_bound a b c) (by simp) (by simp) (fun r1 r2 r3 => (r1.append (((r3.drop 0).take 1).append (((r3.drop 1).take 1).append ((r3.drop 2).take 1))))) (fun D doc pm an cdv ct us mv ws h1 h2 h3 => match us, mv, ws, h1, h2, h3 with
    | [_, _, _], [], [_, _, _], _, _, _ => rfl)
  exact ⟨f, fd, _, fn_is_safe_marking T F, hm, F.kp, kb⟩
def gk_is_safe_marking_kw0_bound_kept_starts_marking_log_machine {α : Type} (a b c : List α) : List α := (c.drop 5).take 1 ++ ((c.drop 4).take 1 ++ ((c.drop 3).take 1 ++ ((c.drop 2).take 1 ++ ((c.drop 1).take 1 ++ ((c.drop 0).take 1)))))
theorem okk_is_safe_marking_kw0_bound_kept_starts_marking_log_machine (T : Prg P K mg) : KCallee P w K mg base 13 "is_safe_marking" ["machine", "log", "marking", "starts", "kept", "bound"] 0 ["bound", "kept", "starts", "marking", "log", "machine"] (fun vs zs => gk_is_safe_marking_kw0_bound_kept_starts_marking_log_machine vs (List.map Prod.snd ([] : List (Str × V))) zs) (sp_is_safe_marking K mg) := by
  obtain ⟨f, fd, hm, F⟩ := T.d_is_safe_marking.ex
  obtain ⟨mv, kb⟩ := F.kbinds0 (ps := ["machine", "log", "marking", "starts", "kept", "bound"]) 0 ["bound", "kept", "starts", "marking", "log", "machine"] [] (fun a b c => gk_is_safe_marking_kw0_bound_kept_starts_marking_log_machine a b c) (by simp) (by simp) (fun r1 r2 r3 => (((r3.drop 5).take 1).append (((r3.drop 4).take 1).append (((r3.drop 3).take 1).append (((r3.drop 2).take 1).append (((r3.drop 1).take 1).append ((r3.drop 0).take 1))))))) (fun D doc pm an cdv ct us mv ws h1 h2 h3 => match us, mv, ws, h1, h2, h3 with
    | [], [], [_, _, _, _, _, _], _, _, _ => rfl)
  exact ⟨f, fd, _, fn_is_safe_marking T F, hm, F.kp, kb⟩
def gk_unsafe_holds_kw4_starts_kept_bound {α : Type} (a b c : List α) : List α := a ++ ((c.drop 0).take 1 ++ ((c.drop 1).take 1 ++ ((c.drop 2).take 1)))
theorem okk_unsafe_holds_kw4_starts_kept_bound (T : Prg P K mg) : KCallee P w K mg base 10 "unsafe_holds" ["machine", "log", "marking", "value", "starts", "kept", "bound"] 4 ["starts", "kept", "bound"] (fun vs zs => gk_unsafe_holds_kw4_starts_kept_bound vs (List.map Prod.snd ([] : List (Str × V))) zs) (sp_unsafe_holds K mg) := by
  obtain ⟨f, fd, hm, F⟩ := T.d_unsafe_holds.ex
  obtain ⟨mv, kb⟩ := F.kbinds0 (ps := ["machine", "log", "marking", "value", "starts", "kept", "bound"]) 4 ["starts", "kept", "bound"] [] (fun a b c => gk_unsafe_holds_kw4_starts_kept_bound a b c) (by simp) (by simp) (fun r1 r2 r3 => (r1.append (((r3.drop 0).take 1).append (((r3.drop 1).take 1).append ((r3.drop 2).take 1))))) (fun D doc pm an cdv ct us mv ws h1 h2 h3 => match us, mv, ws, h1, h2, h3 with
    | [_, _, _, _], [], [_, _, _], _, _, _ => rfl)
  exact ⟨f, fd, _, fn_unsafe_holds T F, hm, F.kp, kb⟩
def gk_unsafe_holds_kw0_bound_kept_starts_value_marking_log_machine {α : Type} (a b c : List α) : List α := (c.drop 6).take 1 ++ ((c.drop 5).take 1 ++ ((c.drop 4).take 1 ++ ((c.drop 3).take 1 ++ ((c.drop 2).take 1 ++ ((c.drop 1).take 1 ++ ((c.drop 0).take 1))))))
theorem okk_unsafe_holds_kw0_bound_kept_starts_value_marking_log_machine (T : Prg P K mg) : KCallee P w K mg base 10 "unsafe_holds" ["machine", "log", "marking", "value", "starts", "kept", "bound"] 0 ["bound", "kept", "starts", "value", "marking", "log", "machine"] (fun vs zs => gk_unsafe_holds_kw0_bound_kept_starts_value_marking_log_machine vs (List.map Prod.snd ([] : List (Str × V))) zs) (sp_unsafe_holds K mg) := by
  obtain ⟨f, fd, hm, F⟩ := T.d_unsafe_holds.ex
  obtain ⟨mv, kb⟩ := F.kbinds0 (ps := ["machine", "log", "marking", "value", "starts", "kept", "bound"]) 0 ["bound", "kept", "starts", "value", "marking", "log", "machine"] [] (fun a b c => gk_unsafe_holds_kw0_bound_kept_starts_value_marking_log_machine a b c) (by simp) (by simp) (fun r1 r2 r3 => (((r3.drop 6).take 1).append (((r3.drop 5).take 1).append (((r3.drop 4).take 1).append (((r3.drop 3).take 1).append (((r3.drop 2).take 1).append (((r3.drop 1).take 1).append ((r3.drop 0).take 1)))))))) (fun D doc pm an cdv ct us mv ws h1 h2 h3 => match us, mv, ws, h1, h2, h3 with
    | [], [], [_, _, _, _, _, _, _], _, _, _ => rfl)
  exact ⟨f, fd, _, fn_unsafe_holds T F, hm, F.kp, kb⟩
def gk_is_safe_marking_kw3_starts_kept {α : Type} (a b c : List α) : List α := a ++ ((c.drop 0).take 1 ++ ((c.drop 1).take 1 ++ ((b.drop 0).take 1)))
theorem okk_is_safe_marking_kw3_starts_kept (T : Prg P K mg) : KCallee P w K mg base 13 "is_safe_marking" ["machine", "log", "marking", "starts", "kept", "bound"] 3 ["starts", "kept"] (fun vs zs => gk_is_safe_marking_kw3_starts_kept vs (List.map Prod.snd ([("bound", V.non)] : List (Str × V))) zs) (sp_is_safe_marking K mg) := by
  obtain ⟨f, fd, hm, F⟩ := T.d_is_safe_marking.ex
  obtain ⟨mv, kb⟩ := F.kbinds0 (ps := ["machine", "log", "marking", "starts", "kept", "bound"]) 3 ["starts", "kept"] [("bound", V.non)] (fun a b c => gk_is_safe_marking_kw3_starts_kept a b c) (by simp) (by simp) (fun r1 r2 r3 => (r1.append (((r3.drop 0).take 1).append (((r3.drop 1).take 1).append ((r2.drop 0).take 1))))) (fun D doc pm an cdv ct us mv ws h1 h2 h3 => match us, mv, ws, h1, h2, h3 with
    | [_, _, _], [_], [_, _], _, _, _ => ⟨_, _, _, _, _, _, rfl, rfl, rfl⟩)
  exact ⟨f, fd, _, fn_is_safe_marking T F, hm, F.kp, kb⟩
def gk_unsafe_paper_kw3_starts_kept {α : Type} (a b c : List α) : List α := a ++ ((c.drop 0).take 1 ++ ((c.drop 1).take 1 ++ ((b.drop 0).take 1)))
theorem okk_unsafe_paper_kw3_starts_kept (T : Prg P K mg) : KCallee P w K mg base 12 "unsafe_paper" ["machine", "log", "marking", "starts", "kept", "bound"] 3 ["starts", "kept"] (fun vs zs => gk_unsafe_paper_kw3_starts_kept vs (List.map Prod.snd ([("bound", V.non)] : List (Str × V))) zs) (sp_unsafe_paper K mg) := by
  obtain ⟨f, fd, hm, F⟩ := T.d_unsafe_paper.ex
  obtain ⟨mv, kb⟩ := F.kbinds0 (ps := ["machine", "log", "marking", "starts", "kept", "bound"]) 3 ["starts", "kept"] [("bound", V.non)] (fun a b c => gk_unsafe_paper_kw3_starts_kept a b c) (by simp) (by simp) (fun r1 r2 r3 => (r1.append (((r3.drop 0).take 1).append (((r3.drop 1).take 1).append ((r2.drop 0).take 1))))) (fun D doc pm an cdv ct us mv ws h1 h2 h3 => match us, mv, ws, h1, h2, h3 with
    | [_, _, _], [_], [_, _], _, _, _ => ⟨_, _, _, _, _, _, rfl, rfl, rfl⟩)
  exact ⟨f, fd, _, fn_unsafe_paper T F, hm, F.kp, kb⟩
def gk_unsafe_holds_kw4_starts_kept {α : Type} (a b c : List α) : List α := a ++ ((c.drop 0).take 1 ++ ((c.drop 1).take 1 ++ ((b.drop 0).take 1)))
theorem okk_unsafe_holds_kw4_starts_kept (T : Prg P K mg) : KCallee P w K mg base 10 "unsafe_holds" ["machine", "log", "marking", "value", "starts", "kept", "bound"] 4 ["starts", "kept"] (fun vs zs => gk_unsafe_holds_kw4_starts_kept vs (List.map Prod.snd ([("bound", V.non)] : List (Str × V))) zs) (sp_unsafe_holds K mg) := by
  obtain ⟨f, fd, hm, F⟩ := T.d_unsafe_holds.ex
  obtain ⟨mv, kb⟩ := F.kbinds0 (ps := ["machine", "log", "marking", "value", "starts", "kept", "bound"]) 4 ["starts", "kept"] [("bound", V.non)] (fun a b c => gk_unsafe_holds_kw4_starts_kept a b c) (by simp) (by simp) (fun r1 r2 r3 => (r1.append (((r3.drop 0).take 1).append (((r3.drop 1).take 1).append ((r2.drop 0).take 1))))) (fun D doc pm an cdv ct us mv ws h1 h2 h3 => match us, mv, ws, h1, h2, h3 with
    | [_, _, _, _], [_], [_, _], _, _, _ => ⟨_, _, _, _, _, _, rfl, rfl, rfl⟩)
  exact ⟨f, fd, _, fn_unsafe_holds T F, hm, F.kp, kb⟩
def gk_is_safe_marking_kw3_kept_bound {α : Type} (a b c : List α) : List α := a ++ ((b.drop 0).take 1 ++ ((c.drop 0).take 1 ++ ((c.drop 1).take 1)))
theorem okk_is_safe_marking_kw3_kept_bound (T : Prg P K mg) : KCallee P w K mg base 13 "is_safe_marking" ["machine", "log", "marking", "starts", "kept", "bound"] 3 ["kept", "bound"] (fun vs zs => gk_is_safe_marking_kw3_kept_bound vs (List.map Prod.snd ([("starts", V.non)] : List (Str × V))) zs) (sp_is_safe_marking K mg) := by
  obtain ⟨f, fd, hm, F⟩ := T.d_is_safe_marking.ex
  obtain ⟨mv, kb⟩ := F.kbinds0 (ps := ["machine", "log", "marking", "starts", "kept", "bound"]) 3 ["kept", "bound"] [("starts", V.non)] (fun a b c => gk_is_safe_marking_kw3_kept_bound a b c) (by simp) (by simp) (fun r1 r2 r3 => (r1.append (((r2.drop 0).take 1).append (((r3.drop 0).take 1).append ((r3.drop 1).take 1))))) (fun D doc pm an cdv ct us mv ws h1 h2 h3 => match us, mv, ws, h1, h2, h3 with
    | [_, _, _], [_], [_, _], _, _, _ => ⟨_, _, _, _, _, _, rfl, rfl, rfl⟩)
  exact ⟨f, fd, _, fn_is_safe_marking T F, hm, F.kp, kb⟩
def gk_unsafe_paper_kw3_kept_bound {α : Type} (a b c : List α) : List α := a ++ ((b.drop 0).take 1 ++ ((c.drop 0).take 1 ++ ((c.drop 1).take 1)))
theorem okk_unsafe_paper_kw3_kept_bound (T : Prg P K mg) : KCallee P w K mg base 12 "unsafe_paper" ["machine", "log", "marking", "starts", "kept", "bound"] 3 ["kept", "bound"] (fun vs zs => gk_unsafe_paper_kw3_kept_bound vs (List.map Prod.snd ([("starts", V.non)] : List (Str × V))) zs) (sp_unsafe_paper K mg) := by
  obtain ⟨f, fd, hm, F⟩ := T.d_unsafe_paper.ex
  obtain ⟨mv, kb⟩ := F.kbinds0 (ps := ["machine", "log", "marking", "starts", "kept", "bound"]) 3 ["kept", "bound"] [("starts", V.non)] (fun a b c => gk_unsafe_paper_kw3_kept_bound a b c) (by simp) (by simp) (fun r1 r2 r3 => (r1.append (((r2.drop 0).take 1).append (((r3.drop 0).take 1).append ((r3.drop 1).take 1))))) (fun D doc pm an cdv ct us mv ws h1 h2 h3 => match us, mv, ws, h1, h2, h3 with
    | [_, _, _], [_], [_, _], _, _, _ => ⟨_, _, _, _, _, _, rfl, rfl, rfl⟩)
  exact ⟨f, fd, _, fn_unsafe_paper T F, hm, F.kp, kb⟩
def gk_unsafe_holds_kw4_kept_bound {α : Type} (a b c : List α) : List α := a ++ ((b.drop 0).take 1 ++ ((c.drop 0).take 1 ++ ((c.drop 1).take 1)))
theorem okk_unsafe_holds_kw4_kept_bound (T : Prg P K mg) : KCallee P w K mg base 10 "unsafe_holds" ["machine", "log", "marking", "value", "starts", "kept", "bound"] 4 ["kept", "bound"] (fun vs zs => gk_unsafe_holds_kw4_kept_bound vs (List.map Prod.snd ([("starts", V.non)] : List (Str × V))) zs) (sp_unsafe_holds K mg) := by
  obtain ⟨f, fd, hm, F⟩ := T.d_unsafe_holds.ex
  obtain ⟨mv, kb⟩ := F.kbinds0 (ps := ["machine", "log", "marking", "value", "starts", "kept", "bound"]) 4 ["kept", "bound"] [("starts", V.non)] (fun a b c => gk_unsafe_holds_kw4_kept_bound a b c) (by simp) (by simp) (fun r1 r2 r3 => (r1.append (((r2.drop 0).take 1).append (((r3.drop 0).take 1).append ((r3.drop 1).take 1))))) (fun D doc pm an cdv ct us mv ws h1 h2 h3 => match us, mv, ws, h1, h2, h3 with
    | [_, _, _, _], [_], [_, _], _, _, _ => ⟨_, _, _, _, _, _, rfl, rfl, rfl⟩)
  exact ⟨f, fd, _, fn_unsafe_holds T F, hm, F.kp, kb⟩
end
/-- a def whose lacking arguments are filled up -/
structure DCallee (P : Program) (w : World) (K : PySem.W.Frag) (mg : Str → Option Value) (base : Heap) (k : Nat) (x : Str) (ps : List Str) (dvs : List V) (sp : Sp) : Prop where
  ex : ∃ (f : Addr) (fd : FuncData) (ds : List Value), FnOk P w K mg base (L2.CX P w) k f fd ps sp ∧ mg x = some (.ref f) ∧ PySem.W.keepIn K (.ref f) = true ∧ Vals dvs ds ∧ Binds K fd ps ds
section
variable {X : Cx} {k kk : Nat} {x : Str} {ps : List Str} {sp : Sp} {p pos : Pos} {e : Expr} {es : List Expr} {t : TA} {E : XK} {dvs : List V}
theorem pcallDG (c : DCallee X.prog X.w X.K X.mg X.base k x ps dvs sp) (hr : Room kk X.A) (hx : Passes (L2.CX X.prog X.w) X E) (ha : PA X (e :: es) t) (hk : k ≤ kk := by decide) (hg : Gl X x := by rfl) (hdb : (x == ("__debug__" : Str)) = false := by decide)
    (he : starEach (e :: es) X.env = (false, eval e X.env) :: starEach es X.env := by rfl) (hpl : (backTo pos (starEach es X.env)).any (·.1) = false := by rfl) : PE X (.Call (.Name x p) (e :: es) [] pos) (tCall sp dvs E t) := by
  obtain ⟨f, fd, ds, F, hm, hkp, hv, hb⟩ := c.ex
  exact pe_call F (hr.mono hk) hg hm hkp hb hv hx ha hdb he hpl
end
section
variable {P : Program} {w : World} {K : PySem.W.Frag} {mg : Str → Option Value} {base : Heap}
theorem okd_is_safe_marking (T : Prg P K mg) : DCallee P w K mg base 13 "is_safe_marking" ["machine", "log", "marking", "starts", "kept", "bound"] [.non, .non, .non] (sp_is_safe_marking K mg) := by
  obtain ⟨f, fd, hm, F⟩ := T.d_is_safe_marking.ex
  obtain ⟨ds, hv, hb⟩ := F.binds0 (ps := ["machine", "log", "marking", "starts", "kept", "bound"]) 3 (by simp) rfl (fun D doc pm an cdv ct us ks h1 h2 => match us, ks, h1, h2 with
    | [_, _, _], [_, _, _], _, _ => ⟨_, _, _, _, _, _, rfl, rfl, ⟨_, _, _, _, _, _, rfl, rfl, ⟨_, _, _, _, _, _, rfl, rfl, rfl⟩⟩⟩)
  exact ⟨f, fd, ds, fn_is_safe_marking T F, hm, F.kp, hv, hb⟩
theorem okd_unsafe_paper (T : Prg P K mg) : DCallee P w K mg base 12 "unsafe_paper" ["machine", "log", "marking", "starts", "kept", "bound"] [.non, .non, .non] (sp_unsafe_paper K mg) := by
  obtain ⟨f, fd, hm, F⟩ := T.d_unsafe_paper.ex
  obtain ⟨ds, hv, hb⟩ := F.binds0 (ps := ["machine", "log", "marking", "starts", "kept", "bound"]) 3 (by simp) rfl (fun D doc pm an cdv ct us ks h1 h2 => match us, ks, h1, h2 with
    | [_, _, _], [_, _, _], _, _ => ⟨_, _, _, _, _, _, rfl, rfl, ⟨_, _, _, _, _, _, rfl, rfl, ⟨_, _, _, _, _, _, rfl, rfl, rfl⟩⟩⟩)
  exact ⟨f, fd, ds, fn_unsafe_paper T F, hm, F.kp, hv, hb⟩
theorem okd_unsafe_holds (T : Prg P K mg) : DCallee P w K mg base 10 "unsafe_holds" ["machine", "log", "marking", "value", "starts", "kept", "bound"] [.non, .non, .non] (sp_unsafe_holds K mg) := by
  obtain ⟨f, fd, hm, F⟩ := T.d_unsafe_holds.ex
  obtain ⟨ds, hv, hb⟩ := F.binds0 (ps := ["machine", "log", "marking", "value", "starts", "kept", "bound"]) 4 (by simp) rfl (fun D doc pm an cdv ct us ks h1 h2 => match us, ks, h1, h2 with
    | [_, _, _, _], [_, _, _], _, _ => ⟨_, _, _, _, _, _, rfl, rfl, ⟨_, _, _, _, _, _, rfl, rfl, ⟨_, _, _, _, _, _, rfl, rfl, rfl⟩⟩⟩)
  exact ⟨f, fd, ds, fn_unsafe_holds T F, hm, F.kp, hv, hb⟩
end
end Ag
set_option Elab.async false
set_option linter.all false
set_option maxRecDepth 100000
set_option maxHeartbeats 2000000
/-! AgH: try with several clauses, each with a name. -/
namespace Ag
open PySem PySem.Spec PyProof.Rows L2
/-- one clause: its class, the slot of its name, its suite's reading -/
structure Cls1 where
  c : Value
  i : Nat
  ts : Addr → Value → Option Addr → TS
/-- the ends behind a suite: the name is gone -/
def offEnds (D : Ends) (i : Nat) : Ends where
  nx := fun τ J => D.nx (τ.set i none) J
  rt := D.rt
  bk := fun τ J => D.bk (τ.set i none) J
  ct := fun τ J => D.ct (τ.set i none) J
def wAll (K : PySem.W.Frag) (D : Ends) : List Cls1 → WX
  | [] => fun _ _ _ _ => False
  | q :: r => fun kind dd τ J => ∃ hit, PySem.W.exmOne K kind q.c = some hit ∧ (hit = true → ∀ b, J b = none → q.ts b kind dd (offEnds D q.i) (τ.set q.i (some (.ref b))) J) ∧ (hit = false → wAll K D r kind dd τ J)
inductive ClsOk (X : Cx) : List ExceptHandler → List Cls1 → Prop
  | nil : ClsOk X [] []
  | cons {y n : Str} {q : Cls1} {first : Stmt} {more : List Stmt} {p1 p2 : Pos} {hds : List ExceptHandler} {l : List Cls1} (slot : X.N[q.i]? = some n) (loc : X.env.kindOf n = some .local) (named : Names X y q.c)
      (suite : ∀ (b : Addr) (ob : Obj) (kind : Value) (dd : Option Addr) (pn : List (Addr × Obj)), Zc kind dd ob → (∃ vs, ob.data = .fields vs) → PSs (X.suite b ((b, ob) :: pn)) (first :: more) (q.ts b kind dd)) (rest : ClsOk X hds l) :
      ClsOk X (.ExceptHandler (some (.Name y p1)) (some n) (first :: more) p2 :: hds) (q :: l)
section
variable {X : Cx} {pins : List (Addr × Obj)} {τ : L2.St} {J : Hp} {D : Ends} {kind : Value} {dd : Option Addr} {b : Addr} {B : Heap} {sI s2 : Shared} {body : List Stmt} {h₀ : ExceptHandler} {hds : List ExceptHandler} {l : List Cls1} {pos : Pos} {tb : WX → TS}
/-- an exception that lies on the ground of X is looked at by the clauses -/
theorem clauses (hst : X.stack = X.env :: X.outer) (hfr : X.env.frame = some X.env.locals) (hN : X.N.Nodup) (I : Inv X pins τ J sI) (kept : ∀ c o, sI.heap.get? c = some o → c ∉ frs X.stack → B.get? c = some o) (up : sI.heap.UpToSlots s2.heap) (os : s2.os = sI.os)
    (bare : AllBare s2.gens) (off : J b = none) (fly : HandSPX.FlyingZ B (X.env :: X.outer) b (Zc kind dd) s2.heap) (ok : ClsOk X hds l) : wAll X.K D l kind dd τ J → wpAny (model X.prog X.w) X.A (handleBy (.ref b) X.env hds) (SP X pins D) X.xe s2 := by
  have I2 : Inv X pins τ J s2 := I.landed kept fly.1 up os bare
  obtain ⟨ob, vs, get2, zc2, flds2⟩ := fly.there
  have notFrame : b ∉ frs (X.env :: X.outer) := by
    intro hm
    obtain ⟨_, ob', get', nof⟩ := fly.2.2.1.mem hm
    rw [get2] at get'
    cases get'
    exact nof _ flds2
  have notLoc : b ≠ X.env.locals := by
    intro z
    apply notFrame
    exact List.mem_filterMap.mpr ⟨X.env, List.mem_cons_self, by rw [hfr, z]⟩
  have notFs : b ∉ X.fs := by
    intro hm
    obtain ⟨e, he, q⟩ := List.mem_filterMap.mp hm
    exact notFrame (List.mem_filterMap.mpr ⟨e, List.mem_cons_of_mem _ he, q⟩)
  have S2 := I2.suite get2 flds2 off notLoc notFs
  induction ok with
  | nil => exact fun w => w.elim
  | @cons y n q first more p1 p2 hds l slot loc named suite rest ih =>
    rintro ⟨hit, isHit, yes, no⟩
    apply wpAny_handleBy_cons
    · apply codeAny_handlers_test
      have typ : PySem.W.Looks (model X.prog X.w) s2.heap (typeOf (.ref b)) kind := by
        intro A Q E s k z
        exact wpAny_typeOf_ref (k _ _ get2) (by rw [zc2.1]; exact z)
      have matched := PySem.W.exm_one (M := model X.prog X.w) (I2.kIn) typ isHit
      have test : ∀ {Q : Value → Shared → Prop} {E : Value → Shared → Prop}, Q q.c s2 → wpAny (model X.prog X.w) (X.A.mark (some (.ref b))) (eval (.Name y p1) X.env) Q E s2 := by
        intro Q E z
        obtain ⟨gl, nodbg, byName | ⟨noName, builtin, noN⟩⟩ := named
        · exact ld_glob (X := X.suite b ((b, ob) :: (X.pn ++ pins))) S2 gl byName z nodbg
        · exact ld_blt (X := X.suite b ((b, ob) :: (X.pn ++ pins))) S2 gl noName builtin z noN nodbg
      apply test
      apply matched.here
      cases hit with
      | false =>
        show wpAny _ X.A (handleBy (.ref b) X.env hds) _ _ _
        exact ih (no rfl)
      | true =>
        apply codeAny_handlers_suite_as
        apply HandSPX.lands_againZ fly
        intro h4 fly4 up4
        have I4 : Inv X pins τ J { s2 with heap := h4 } := I.landed kept fly4.1 (up.trans up4) os bare
        obtain ⟨ob4, vs4, get4, zc4, flds4⟩ := fly4.there
        have S4 := I4.suite get4 flds4 off notLoc notFs
        apply store_ok (X := X.suite b ((b, ob4) :: (X.pn ++ pins))) (v := .ref b) S4 hN slot (.inl loc) rfl _ (.inr loc)
        intro s5 S5
        refine wpAny_mono ((suite b ob4 kind dd (X.pn ++ pins) zc4 ⟨_, flds4⟩).run [] s5 _ J _ S5 (yes rfl b off)) ?_ (fun _ _ z => False.elim z)
        intro f s6 z
        have bye : ∀ {τ6 : L2.St} {J6 : Hp} {Q : Shared → Prop}, Inv (X.suite b ((b, ob4) :: (X.pn ++ pins))) [] τ6 J6 s6 → (∀ s7, Inv X pins (τ6.set q.i none) J6 s7 → Q s7) →
            wpAny (model X.prog X.w) X.A (do bindName X.env n .none; unbindBehindTheSuite X.env n p2) (fun _ s7 => Q s7) X.xe s6 := fun {τ6 J6 Q} S6 hq => gone_ok (S6.unsuite I.ok) hN slot loc hq
        cases f with
        | next =>
          obtain ⟨τ6, J6, S6, q6⟩ := z
          exact bye S6 fun s7 I7 => ⟨_, _, I7, q6⟩
        | brk =>
          obtain ⟨τ6, J6, S6, q6⟩ := z
          exact bye S6 fun s7 I7 => ⟨_, _, I7, q6⟩
        | cont =>
          obtain ⟨τ6, J6, S6, q6⟩ := z
          exact bye S6 fun s7 I7 => ⟨_, _, I7, q6⟩
        | ret u =>
          obtain ⟨v6, τ6, J6, S6, r6, q6⟩ := z
          exact bye S6 fun s7 I7 => ⟨_, _, _, I7, r6, q6⟩
    · intro z
      cases z
/-- try: body / except .. as ..: .. (several) -/
theorem ps_tries (hst : X.stack = X.env :: X.outer) (hfr : X.env.frame = some X.env.locals) (hN : X.N.Nodup)
    (hb : ∀ (W : WX) (pn : List (Addr × Obj)) (xe : Value → Shared → Prop), Takes (X.tr pn xe) W → PassesOwn (model X.prog X.w) X.A X.env xe → PSs (X.tr pn xe) body (tb W))
    (hh : ClsOk X (h₀ :: hds) l) : PS X (.Try body (h₀ :: hds) [] [] pos) (fun D τ J => tb (wAll X.K D l) D τ J) := by
  constructor
  intro pins s τ J D I w
  have ok := I.ok
  have frames : X.A.frames = some (X.env :: X.outer) := by rw [ok.frames, hst]
  apply wpAny_Try_except
  refine wpAny_mono ((hb (wAll X.K D l) (X.pn ++ pins) (fun e s1 => wpAny (model X.prog X.w) X.A (noteFrame e X.env) (fun _ s2 => wpAny (model X.prog X.w) X.A (setFlight e none)
    (fun _ s3 => wpAny (model X.prog X.w) X.A (handleBy e X.env (h₀ :: hds)) (SP X pins D) X.xe s3) X.xe s2) X.xe s1) ?_ PassesOwn.looking).run [] s τ J D (I.toTry _) w) ?_ (fun e s1 z => z)
  · intro u s1 air
    obtain ⟨b, B, sI, pins', τ', J', kind, dd, rfl, I', kept, up, sky, off, os, bare, w'⟩ := air
    have I1 : Inv X pins τ' J' sI := I'.ofTry ok
    have sky1 : Sky B (X.env :: X.outer) b (Zc kind dd) X.env.locals s1.heap := by rw [← hst]; exact sky
    show wpAny (model X.prog X.w) X.A (noteFrame (.ref b) X.env) _ _ _
    apply Sky.land Zc.steady frames hfr sky1
    intro h3 fly up3
    exact clauses (s2 := { s1 with heap := h3 }) hst hfr hN I1 kept (up.trans up3) os bare off fly hh w'
  · intro f s1 z
    cases f with
    | next =>
      obtain ⟨τ1, J1, I1, q⟩ := z
      exact wpAny_execs_nil ⟨τ1, J1, I1.ofTry ok, q⟩
    | brk =>
      obtain ⟨τ1, J1, I1, q⟩ := z
      exact ⟨τ1, J1, I1.ofTry ok, q⟩
    | cont =>
      obtain ⟨τ1, J1, I1, q⟩ := z
      exact ⟨τ1, J1, I1.ofTry ok, q⟩
    | ret u =>
      obtain ⟨v, τ1, J1, I1, r, q⟩ := z
      exact ⟨v, τ1, J1, I1.ofTry ok, r, q⟩
end
end Ag
set_option Elab.async false
set_option linter.all false
set_option maxRecDepth 100000
set_option maxHeartbeats 2000000
/-! AgL: lambdas in lists, a def that calls them, repr's guards carried on. -/
namespace Ag
open PySem PySem.Spec PyProof.Rows L2
/-! ### defs that lean on an empty list of guards -/
structure FnG (P : Program) (w : World) (K : PySem.W.Frag) (mg : Str → Option Value) (base : Heap) (k : Nat) (f : Addr) (fd : FuncData) (ps : List Str) (sp : Sp) : Prop where
  len : ∀ vs H Q E, sp vs H Q E → vs.length = ps.length
  run : ∀ (B : Around) (outer : List Env) (s : Shared) (H : Hp) (args : Args) (us : List Value) (vs : List V) (Q : VK) (E : XK), B.guards = some [] → Room k B → Env0 P w K mg base B outer s H → BindsTo s fd args (ps.zip us) → Vals vs us → sp vs H Q E →
    codeAny (model P w) B (.call (.ref f) args) (CR (L2.CX P w) outer P w H s Q E) s
structure CalleeG (P : Program) (w : World) (K : PySem.W.Frag) (mg : Str → Option Value) (base : Heap) (k : Nat) (x : Str) (ps : List Str) (sp : Sp) : Prop where
  ex : ∃ (f : Addr) (fd : FuncData), FnG P w K mg base k f fd ps sp ∧ mg x = some (.ref f) ∧ PySem.W.keepIn K (.ref f) = true ∧ Binds K fd ps []
section
variable {P : Program} {w : World} {K : PySem.W.Frag} {mg : Str → Option Value} {base : Heap} {x qual : Str} {st : Stmt} {N ps : List Str} {k : Nat} {f : Addr} {fd : FuncData} {sp : Sp}
theorem fnG_of (F : Fun K x qual st f fd) (S : FnScope N ps (defScope st)) (len : ∀ vs H Q E, sp vs H Q E → vs.length = ps.length)
    (body : ∀ (cdv : Value) (B : Around) (outer : List Env) (s : Shared) (H : Hp) (vs : List V) (Q : VK) (E : XK), (B.deeper (envOfC qual (defScope st) s.heap.objs.size f cdv)).guards = some [] → Room k (B.deeper (envOfC qual (defScope st) s.heap.objs.size f cdv)) →
      (∀ doc kV pm an ct, fd = PySem.W.fnOf x qual (defArgs st) (defBody st) (defScope st) .none kV doc pm an cdv ct → True) → sp vs H Q E →
      ∃ t, PSs (cxOf (L2.CX P w) P w K mg base N qual (defScope st) f cdv B outer s H E) (defBody st) t ∧ t { nx := fun _ H' => Q .non H', rt := Q } (L2.start N vs) H) : FnG P w K mg base (k + 1) f fd ps sp := by
  obtain ⟨oc, od, kV, doc, pm, an, cdv, ct, osl, rfl, lk, hcd⟩ := F.ex
  constructor
  · exact len
  · intro B outer s H args us vs Q E hg hr e0 hb r hs
    exact LamX.run_ofS lk hcd S hr e0 hb r (len _ _ _ _ hs) fun hr' => body cdv B outer s H vs Q E hg hr' (fun _ _ _ _ _ _ => trivial) hs
end
section
variable {X : Cx} {k kk : Nat} {x : Str} {ps : List Str} {sp : Sp} {p pos : Pos} {e : Expr} {es : List Expr} {t : TA} {E : XK}
theorem pcallGd (c : CalleeG X.prog X.w X.K X.mg X.base k x ps sp) (hgd : X.A.guards = some []) (hr : Room kk X.A) (hx : Passes (L2.CX X.prog X.w) X E) (ha : PA X (e :: es) t) (hk : k ≤ kk := by decide) (hg : Gl X x := by rfl) (hdb : (x == ("__debug__" : Str)) = false := by decide)
    (he : starEach (e :: es) X.env = (false, eval e X.env) :: starEach es X.env := by rfl) (hpl : (backTo pos (starEach es X.env)).any (·.1) = false := by rfl) : PE X (.Call (.Name x p) (e :: es) [] pos) (tCall sp [] E t) := by
  obtain ⟨f, fd, F, hm, hkp, hb⟩ := c.ex
  constructor
  intro pins s σ H Q I h
  apply wpAny_Call_Name_kw
  refine ld_glob I hg hm ?_ hdb
  refine PySem.W.callWith_K (h₀ := X.base) I.ok.mod.kin hkp (thn (ha.run pos pins s σ H _ I h) ?_) he hpl
  intro us s1 ⟨vs, H1, I1, r, q⟩
  refine ⟨I1.kIn, ?_⟩
  have r2 : Vals (vs ++ []) (us ++ []) := r.append .nil
  have hl : (us ++ []).length = ps.length := by rw [← r2.length]; exact F.len _ _ _ _ q
  apply wpAny_call
  refine codeAny_mono (F.run X.A X.stack s1 H1 ⟨us, []⟩ (us ++ []) (vs ++ []) Q E hgd (hr.mono hk) I1.env0 (hb s1 us I1.kIn hl) r2 q) ?_
  intro r s' hq
  cases r with
  | error e => exact hx pins σ H1 s1 e s' I1 hq
  | ok fl =>
    cases fl with
    | ret u => exact I1.after hq
    | next => exact hq.elim
    | brk => exact hq.elim
    | cont => exact hq.elim
end
/-! ### a lambda is made -/
abbrev lamQ (X : Cx) : Str := X.env.qual ++ "<lambda>"
def lamP (X : Cx) (prs : Arguments) (bd : Expr) (sc : Scope) (f c' : Addr) : Heap → Prop := fun h => ∃ pm ctv, h.get? f = some (PySem.W.kla_obj "<lambda>" (lamQ X) prs bd sc (cloFrom X.env.cells sc.names []) pm c' ctv)
def lamO (X : Cx) (prs : Arguments) (bd : Expr) (sc : Scope) (f c' : Addr) : HO := .ext (lamP X prs bd sc f c')
/-- what is known in G of the code objects that a table tells -/
def TabG (G : Hp) (q : Str) (ps : Array Value) : Prop := TriplesOk ps.toList ∧ ∀ (pos : Pos) (cv : Value), codeAmong pos ps.toList = some cv → ∃ c, cv = .ref c ∧ G c = some (LamX.CodeO c q)
theorem TabG.mono {G G' : Hp} {q : Str} {ps : Array Value} (e : Same G G') (t : TabG G q ps) : TabG G' q ps := ⟨t.1, fun pos cv h => let ⟨c, h1, h2⟩ := t.2 pos cv h; ⟨c, h1, e _ _ h2⟩⟩
/-- the reading of a lambda; T: the table of its maker's code -/
def tLamV (X : Cx) (prs : Arguments) (bd : Expr) (sc : Scope) (T : Addr) : TE := fun σ H Q => ∃ ps, H T = some (.tbl ps) ∧ TabG H (lamQ X) ps ∧ ∀ f c', H f = none → f ≠ c' →
  ((∃ pos, codeAmong pos ps.toList = some (.ref c')) → Q (.ref f) (upd H f (lamO X prs bd sc f c'))) ∧
  (∀ more, H c' = none → TriplesOk (ps ++ more).toList → (∀ (pos : Pos) (cv : Value), codeAmong pos (ps ++ more).toList = some cv → codeAmong pos ps.toList = some cv ∨ cv = .ref c') →
    Q (.ref f) (upd (upd (upd H T (.tbl (ps ++ more))) c' (LamX.CodeO c' (lamQ X))) f (lamO X prs bd sc f c')))
section
variable {X : Cx}
theorem lam_laid {pins : List (Addr × Obj)} {σ : L2.St} {H : Hp} {s : Shared} {prs : Arguments} {bd : Expr} {sc : Scope} {c' : Addr} {pm ctv : Value} {tk : Nat} (I : Inv X pins σ H s) :
    Inv X pins σ (upd H s.heap.objs.size (lamO X prs bd sc s.heap.objs.size c')) { s with heap := s.heap.push (PySem.W.kla_obj "<lambda>" (lamQ X) prs bd sc (cloFrom X.env.cells sc.names []) pm c' ctv), toks := tk } := by
  apply I.laid (fun _ _ z => Heap.get?_push_of_some _ z) (Nat.le_refl _)
  have at_ := Heap.get?_push_size s.heap (o := PySem.W.kla_obj "<lambda>" (lamQ X) prs bd sc (cloFrom X.env.cells sc.names []) pm c' ctv) rfl
  exact ⟨⟨pm, ctv, at_⟩, ⟨_, at_⟩, fun h1 h2 ⟨a, b, z⟩ k => ⟨a, b, k _ z⟩⟩
theorem pe_lam {prs : Arguments} {bd : Expr} {sc : Scope} {pos : Pos} {c T : Addr} (TB : LamX.TabB X.base X.mg c T) (hcode : X.env.code = .ref c) (L : LamX.LamS X.env.scope sc) (hdef : defaultsOf prs X.env = ([], []) := by rfl) : PE X (.Lambda prs bd sc pos) (tLamV X prs bd sc T) := by
  constructor
  intro pins s σ H Q I h
  obtain ⟨ps, hT, ⟨trip, known⟩, q⟩ := h
  have bT : s.heap.BuiltinsAt X.mg T := TB.bm.keeps I.bk
  have atT : s.heap.get? T = some { cls := .none, data := .fields ps } := I.hok T _ hT
  have clo := closure_ok (L.has I.ok)
  apply PySem.W.kla_eval hdef
  cases hc : codeAmong pos ps.toList with
  | some cv =>
    obtain ⟨c', e, hco⟩ := known pos cv hc
    subst e
    refine PySem.W.kla_makeFunctionHit (mg := X.mg) (c := c) (P := T) (ps := ps) clo I.ok.glob (I.mod.glob.keeps I.bk) hcode (TB.code.keeps I.bk) atT trip hc bT ?_
    intro ctv h' tk hx sz
    have I1 : Inv X pins σ H { s with heap := h', toks := s.toks } := I.kept hx
    have I2 := lam_laid (prs := prs) (bd := bd) (sc := sc) (c' := c') (pm := (X.mg "__name__").getD .none) (ctv := ctv) (tk := tk) I1
    have newF : H h'.objs.size = none := I1.hok.fresh (Nat.le_refl _)
    exact ⟨.ref h'.objs.size, _, I2, rfl, (q h'.objs.size c' newF (fun z => by rw [z, hco] at newF; cases newF)).1 ⟨pos, hc⟩⟩
  | none =>
    refine PySem.W.kla_makeFunction (mg := X.mg) (c := c) (P := T) (ps := ps) clo I.ok.glob (I.mod.glob.keeps I.bk) hcode (TB.code.keeps I.bk) atT trip hc TB.gP bT ?_
    intro c' ctv h' tk hx ge lt hrec htb
    obtain ⟨c2, oc, vs, t, e2, hoc, hd, hv⟩ := hrec
    cases e2
    have sz : s.heap.objs.size ≤ h'.objs.size := Nat.le_trans ge (Nat.le_of_lt lt)
    have newC : H c' = none := I.hok.fresh ge
    have I1 := LamX.inv_table (t' := s.toks) (more := #[rawInt pos.line, rawInt pos.col, .ref c']) (h' := h') I hT hx htb ge ⟨oc, vs, t, hoc, hd, hv⟩
    have I2 := lam_laid (prs := prs) (bd := bd) (sc := sc) (c' := c') (pm := (X.mg "__name__").getD .none) (ctv := ctv) (tk := tk) I1
    have newF : H h'.objs.size = none := I.hok.fresh sz
    have app : (ps ++ #[rawInt pos.line, rawInt pos.col, .ref c']).toList = ps.toList ++ [rawInt pos.line, rawInt pos.col, .ref c'] := by simp
    refine ⟨.ref h'.objs.size, _, I2, rfl, (q h'.objs.size c' newF (Nat.ne_of_gt lt)).2 _ newC ?_ ?_⟩
    · rw [app]
      exact PySem.TriplesOk_snoc _ _ _ _ trip
    · intro p2 cv hcv
      rw [app] at hcv
      exact LamX.among_app _ trip hcv
end
/-! ### at the level of types -/
theorem upd_comm {H : Hp} {a b : Addr} {o u : HO} (h : a ≠ b) : upd (upd H a o) b u = upd (upd H b u) a o := by
  funext c
  by_cases ha : c = a
  · rw [ha, upd_ne h, upd_same, upd_same]
  · by_cases hb : c = b
    · rw [hb, upd_same, upd_ne (Ne.symm h), upd_same]
    · rw [upd_ne hb, upd_ne ha, upd_ne ha, upd_ne hb]
def cTab (q : Str) : Ct := ⟨fun G o => ∃ ps, o = .tbl ps ∧ TabG G q ps, fun e ⟨ps, h1, h2⟩ => ⟨ps, h1, h2.mono e⟩⟩
/-- such a lambda -/
def tLamF (X : Cx) (prs : Arguments) (bd : Expr) (sc : Scope) : Ty := ⟨fun G v => ∃ f c', v = .ref f ∧ G f = some (lamO X prs bd sc f c') ∧ G c' = some (LamX.CodeO c' (lamQ X)), fun e ⟨f, c', h1, h2, h3⟩ => ⟨f, c', h1, e _ _ h2, e _ _ h3⟩⟩
theorem ev_lam {X : Cx} {prs : Arguments} {bd : Expr} {sc : Scope} {T : Addr} {Γ : Gam} {M : Mem} (hm : (T, cTab (lamQ X)) ∈ M) : Ev Γ M (tLamV X prs bd sc T) (tLamF X prs bd sc) := by
  intro G σ H s w Q q
  obtain ⟨offT, o, hT, ps, rfl, tab⟩ := w.at_ _ hm
  refine ⟨ps, hT, tab.mono w.le, ?_⟩
  intro f c' nf ne
  refine ⟨?_, ?_⟩
  · rintro ⟨pos, hc⟩
    obtain ⟨c2, e, hco⟩ := tab.2 pos _ hc
    cases e
    obtain ⟨w2, e2⟩ := w.alloc nf (lamO X prs bd sc f c')
    exact q _ _ _ e2 w2 ⟨f, c', rfl, upd_same, e2 _ _ hco⟩
  · intro more nc trip tell
    have nTc : T ≠ c' := ne_of_none hT nc
    have nTf : T ≠ f := ne_of_none hT nf
    rw [upd_comm nTc]
    obtain ⟨w2, e2⟩ := w.alloc nc (LamX.CodeO c' (lamQ X))
    have tab2 : TabG (upd G c' (LamX.CodeO c' (lamQ X))) (lamQ X) (ps ++ more) := by
      refine ⟨trip, ?_⟩
      intro pos cv hcv
      cases tell pos cv hcv with
      | inl z =>
        obtain ⟨c0, e1, e3⟩ := tab.2 pos cv z
        exact ⟨c0, e1, e2 _ _ e3⟩
      | inr z => exact ⟨c', z, upd_same⟩
    have w3 := w2.write (o := .tbl (ps ++ more)) hm ⟨_, rfl, tab2⟩
    have nf3 : (upd (upd H c' (LamX.CodeO c' (lamQ X))) T (.tbl (ps ++ more))) f = none := by
      rw [upd_ne (Ne.symm nTf), upd_ne ne]
      exact nf
    obtain ⟨w4, e4⟩ := w3.alloc nf3 (lamO X prs bd sc f c')
    exact q _ _ _ (e2.trans e4) w4 ⟨f, c', rfl, upd_same, e4 _ _ upd_same⟩
end Ag
set_option Elab.async false
set_option linter.all false
set_option maxRecDepth 100000
set_option maxHeartbeats 2000000
/-! AgM: a comprehension whose tests look at the maker's names. -/
namespace Ag
open PySem PySem.Spec PyProof.Rows L2
section
variable {X : Cx}
/-- [.. for .. in .. if ..], the tests told of the slots of the def, and that its context is to be had back -/
theorem pe_lcS {elt tg iter : Expr} {ifs : List Expr} {scope : Scope} {own : List (Str × Nat)} {pos : Pos} {wi : TI} {g : TG} {tt : L2.St → TT} {te : TE} (hc : X.calm = true) (hN : X.N.Nodup) (hi : PI X tg iter wi) (ok : BlkOk X.N X.env.scope scope own)
    (hg : ∀ (s : Shared) (H : Hp) (C : Addr) (cl : List (Str × Addr)) (fp : List Addr), PG (X.blk s H scope (compEnvC scope cl C X.env) fp) tg g)
    (ht : ∀ (pins : List (Addr × Obj)) (σ : L2.St) (s : Shared) (H : Hp) (C : Addr) (cl : List (Str × Addr)) (fp : List Addr),
      (∀ (pB : List (Addr × Obj)) (τ : L2.St) (J : Hp) (sB : Shared), Inv (X.blk s H scope (compEnvC scope cl C X.env) fp) pB τ J sB → Inv X pins σ J sB) → PTs (X.blk s H scope (compEnvC scope cl C X.env) fp) ifs (tt σ))
    (he : ∀ (s : Shared) (H : Hp) (C : Addr) (cl : List (Str × Addr)) (fp : List Addr), PE (X.blk s H scope (compEnvC scope cl C X.env) fp) elt te) (hs : ∀ x, foldedSetIterable iter X.env x = pure x := by intro _; rfl) :
    PE X (.ListComp elt [⟨tg, iter, ifs, 0⟩] scope pos) (fun σ H Q => tLc wi g (tt σ) te (own.map (·.2)) σ H Q) := by
  constructor
  intro pins s σ H Q I hw
  rw [eval_ListComp]
  have bound : ∀ y ∈ scope.names, y.2 = .free → ∃ c, X.env.cells.lookup y.1 = some c := by
    intro y hy hf
    cases ok.free y hy hf with
    | inl a => exact I.ok.has _ (.inl a)
    | inr a => exact I.ok.has _ (.inr a)
  refine wpAny_comprehension_free (use := none) rfl hs (closure_ok bound) ok.kind (by
    intro y hy hl
    rw [ok.uniq y hy, hl]) ?_
  refine thn (hi.run pins s σ H _ I hw) ?_
  intro xv s1 hx
  refine thn hx ?_
  intro itv sA ⟨it, fp, tn, J, HA, eIt, IA, turn, atA, offA, q⟩
  subst eIt
  refine wpAny_newObj_type (newEnv_comp ?_) (by show 0 ≤ sizeLine; decide)
  obtain ⟨D, eD⟩ : ∃ D, D = sA.heap.objs.size := ⟨_, rfl⟩
  rw [← eD]
  have newD : HA D = none := IA.hok.fresh (Nat.le_of_eq eD.symm)
  obtain ⟨Wt, ⟨m0, base⟩, steps⟩ := q D newD
  -- the state with the new list
  obtain ⟨sB, eB⟩ : ∃ sB : Shared, sB = { sA with heap := sA.heap.push { cls := .type "list", data := .seq ([] : List Value).toArray } } := ⟨_, rfl⟩
  rw [← eB]
  have heapB : sB.heap = sA.heap.push { cls := .type "list", data := .seq ([] : List Value).toArray } := by rw [eB]
  have IB : Inv X pins σ (upd HA D (.lst [])) sB := by
    rw [eB]
    refine IA.laid (t' := sA.toks) (fun _ _ z => Heap.get?_push_of_some _ z) (Nat.le_of_eq eD.symm) ⟨Nat.zero_le _, [], 0, .nil, ?_⟩
    rw [eD]
    exact Heap.get?_push_size _ rfl
  obtain ⟨HB, eHB⟩ : ∃ HB, HB = upd HA D (.lst []) := ⟨_, rfl⟩
  rw [← eHB] at IB base
  have small : ∀ b ∈ fp, b < sA.heap.objs.size := by
    intro b hb
    obtain ⟨o, z, _⟩ := turn.obj _ _ atA b hb
    exact Heap.lt_size z
  have offB : ∀ b ∈ fp, FpOk X pins HB b ∧ b < sB.heap.objs.size := by
    intro b hb
    have lt := small b hb
    constructor
    · refine ⟨?_, (offA b hb).2⟩
      rw [eHB, upd_ne (by rw [eD]; exact Nat.ne_of_lt lt)]
      exact (offA b hb).1
    · rw [heapB, Heap.size_push]
      exact Nat.lt_succ_of_lt lt
  have atB : tn 0 sB.heap := by
    refine turn.keep _ _ _ atA ?_
    intro b _ o z
    rw [heapB]
    exact Heap.get?_push_of_some _ z
  have IC := block_start IB ok hN offB
  obtain ⟨cl, eCl⟩ : ∃ cl, cl = cellsFrom (sB.heap.objs.size + 1) scope.names (cloFrom X.env.cells scope.names []) := ⟨_, rfl⟩
  rw [← eCl] at IC
  have gT := hg sB HB sB.heap.objs.size cl fp
  have gF := fun cv => ht pins σ sB HB sB.heap.objs.size cl fp cv
  have gV := he sB HB sB.heap.objs.size cl fp
  obtain ⟨ce, eCe⟩ : ∃ ce, ce = compEnvC scope cl sB.heap.objs.size X.env := ⟨_, rfl⟩
  rw [← eCe] at IC gT gF gV
  have ceL : ce.locals = sB.heap.objs.size := by rw [eCe]; rfl
  have back : ∀ (pB : List (Addr × Obj)) (τ : L2.St) (J : Hp) (s6 : Shared), Inv (X.blk sB HB scope ce fp) pB τ J s6 → Inv X pins σ J s6 := by
    intro pB τ J s6 I6
    refine IB.call' (ch := fp) I6.os I6.base I6.hok I6.bare ?_
    intro b hb
    obtain ⟨_, g1, g2, g3, g4, g5⟩ := (offB b hb).1
    exact ⟨g3, g1, g4, g5⟩
  have gF := gF back
  have freeB : ∀ b ∈ fp, HB b = none := fun b hb => (offB b hb).1.1
  obtain ⟨sC, eC⟩ : ∃ sC : Shared, sC = { sB with heap := pushCells (sB.heap.push { cls := .type "dict", data := .dict #[] }) scope.names } := ⟨_, rfl⟩
  rw [← eC] at IC
  have atC : tn 0 sC.heap := by
    refine turn.keep _ _ _ atB ?_
    intro b _ o z
    rw [eC]
    exact pushCells_keeps _ _ _ _ (Heap.get?_push_of_some _ z)
  have lift : ∀ {τ : L2.St} {H' : Hp} {s' : Shared}, Inv (X.blk sB HB scope ce fp) [] τ H' s' → (∀ b ∈ fp, H' b = none) → ∀ b ∈ fp, FpOk (X.blk sB HB scope ce fp) [] H' b := by
    intro τ H' s' J hn b hb
    have hx := J.ok.exf b hb
    exact ⟨hn b hb, hx.1, J.ok.exfs b hb, .inl hb, fun x c e => hx.2 x c e, fun p hp => by
      have hp' : p ∈ ([] : List (Addr × Obj)) ++ [] := hp
      cases hp'⟩
  have loop : codeAny (model X.prog X.w) X.A (.compLoop (.ListComp elt [⟨tg, iter, ifs, 0⟩] scope pos) 0 (.ref it) (.ref D) ce) (compPost (model X.prog X.w) X.A X.xe none (EP X pins σ Q) (.ref D) sB.heap.objs.size) sC := by
    refine compLoop_any (fun n s' => ∃ i H', Inv (X.blk sB HB scope ce fp) [] (wipe σ (own.map (·.2))) H' s' ∧ tn i s'.heap ∧ (∀ b ∈ fp, H' b = none) ∧ Wt i n H') ?_ m0 ⟨0, HB, IC, atC, freeB, base⟩
    rintro n s5 ⟨i, H5, I5, at5, free5, w5⟩
    rcases steps i n H5 w5 with ⟨stop, out⟩ | ⟨go, After, hAfter, step⟩
    · have ended := turn.done (X.blk sB HB scope ce fp) rfl rfl rfl hc i [] s5 _ H5 (fun _ _ => False) I5 (lift I5 free5) at5 stop
      refine thnF ended ?_
      intro r s6 ⟨er, I6⟩
      subst er
      have I7 : Inv X pins σ H5 s6 := back _ _ _ _ I6
      have locFree : H5 sB.heap.objs.size = none := by
        have z : H5 ce.locals = none := I6.free
        rw [ceL] at z
        exact z
      obtain ⟨m, hn, _⟩ := I6.loc
      have hn' : s6.heap.Ns ce.locals m := hn
      rw [ceL] at hn'
      obtain ⟨f0, f1, f2, f3, f4, f5⟩ := IB.fpOk (Nat.le_refl _) locFree
      exact ⟨m, hn', fun h'' sb => ⟨.ref D, H5, I7.turned (t' := s6.toks) (fun b o hb e => (sb.2 b hb).trans e) f0 f1 f3 f4 f5, rfl, out⟩⟩
    · have next := turn.item (X.blk sB HB scope ce fp) rfl rfl rfl hc i [] s5 _ H5 (fun _ _ => False) I5 (lift I5 free5) at5 go
      refine thnF next ?_
      intro r s6 ⟨u, er, h6⟩
      subst er
      refine thnF h6 ?_
      intro _ s7 ⟨x, H7, I7, r7, y7, at7, free7⟩
      have J7 := I7.pinned (lift I7 free7) (turn.obj _ _ at7)
      refine thnF (gT.run _ s7 _ H7 x u _ J7 r7 (step x H7 y7)) ?_
      intro _ s8 ⟨σ8, H8, I8, wp8, q8⟩
      refine thnF (gF.run _ s8 σ8 H8 _ I8 q8) ?_
      intro b s9 ⟨H9, I9, q9⟩
      have close : ∀ {s' : Shared} {H' : Hp}, Inv (X.blk sB HB scope ce fp) ([] ++ pinsAt fp s7.heap) σ8 H' s' → After H' → ∃ m, m < n ∧ ∃ i H', Inv (X.blk sB HB scope ce fp) [] (wipe σ (own.map (·.2))) H' s' ∧ tn i s'.heap ∧ (∀ b ∈ fp, H' b = none) ∧ Wt i m H' := by
        intro s' H' J' hA
        obtain ⟨m', lt', w'⟩ := hAfter H' hA
        have stays : ∀ b ∈ fp, ∀ o, s7.heap.get? b = some o → s'.heap.get? b = some o ∧ H' b = none := by
          intro b hb o e
          have z := J'.pin (b, o) (List.mem_append_right _ (List.mem_append_right _ (mem_pinsAt hb e)))
          exact ⟨z.1, z.2.1⟩
        have lens : (wipe σ (own.map (·.2))).length = σ8.length := by rw [← wp8, wipe_length]
        refine ⟨m', lt', i + 1, H', (J'.unpinned (pins := [])).weak lens ?_, turn.keep _ _ _ at7 (fun b hb o e => (stays b hb o e).1), ?_, w'⟩
        · intro j v e
          rw [← wp8] at e
          exact (wipe_some e).1
        · intro b hb
          obtain ⟨o, e, _⟩ := turn.obj _ _ at7 b hb
          exact (stays b hb o e).2
      cases b with
      | false =>
        simp only [Bool.false_eq_true, if_false] at q9 ⊢
        exact close I9 q9
      | true =>
        simp only [if_true] at q9 ⊢
        refine thnF (gV.run _ s9 σ8 H9 _ I9 q9) ?_
        intro z s10 ⟨yv, H10, I10, r10, acc, hD, hz, nx⟩
        exact app_ok (X := X.blk sB HB scope ce fp) I10 hD hz r10 fun s11 I11 => close I11 nx
  have fin := codeAny_compStart_list loop (turn.self X.A 0 _ _ _ atC loop)
  rw [eCe, eCl, eC] at fin
  exact fin
end
end Ag
set_option Elab.async false
set_option linter.all false
set_option maxRecDepth 100000
set_option maxHeartbeats 4000000
/-! AgN: the def that calls what it is given and tells what it raised. -/
namespace Ag
open PySem PySem.Spec PyProof.Rows L2
abbrev HearCx (X : Cx) (g : Addr) (cdv : Value) (s : Shared) (H : Hp) (Eg : XK) : Cx := cxOf (L2.CX X.prog X.w) X.prog X.w X.K X.mg X.base N_Lheard "_law_heard" (defScope s_Lheard) g cdv X.A X.stack s H Eg
abbrev hearEnv (g : Addr) (cdv : Value) (s : Shared) : Env := envOfC "_law_heard" (defScope s_Lheard) s.heap.objs.size g cdv
section
variable {X : Cx} {pins : List (Addr × Obj)} {σ : L2.St} {H : Hp} {s : Shared}
/-- the lambda is called within the def, X its maker's context at the def's call -/
theorem pe_ask {Eg : XK} {g f c' : Addr} {cdv : Value} {prs : Arguments} {bd : Expr} {sc : Scope} {k : Nat} {pn : List (Addr × Obj)} {xe : Value → Shared → Prop} {W : WX} {E : XK} {tb : TE} {p1 p2 : Pos}
    (I : Inv X pins σ H s) (L : LamX.LamS X.env.scope sc) (bind : ∀ (q : Str) (cl : List (Str × Addr)) (pm cv ctv : Value), bindArgs (PySem.W.kla_fn "<lambda>" q prs bd sc cl pm cv ctv) ⟨[], []⟩ = pure [])
    (tk : Takes ((HearCx X g cdv s H Eg).tr pn xe) W) (hW : ∀ cls d σ' H', E cls d H' → W cls d σ' H') (hr : Room (k + 1) (X.A.deeper (hearEnv g cdv s)))
    (body : ∀ (B : Around) (outer : List Env) (s : Shared) (H : Hp), Room k (B.deeper (LamX.lamEnv X sc s.heap.objs.size f c')) → PE (LamX.lamCx X B outer s H E sc f c') bd tb) :
    PE ((HearCx X g cdv s H Eg).tr pn xe) (.Call (.Name "_law_ask" p1) [] [] p2)
      (fun τ J Q => τ[0]? = some (some (.ref f)) ∧ J f = some (lamO X prs bd sc f c') ∧ J c' = some (LamX.CodeO c' (lamQ X)) ∧ tb σ J Q) := by
  constructor
  intro pinsZ sZ τ J Q IZ h
  obtain ⟨isF, hf, hc, ht⟩ := h
  apply wpAny_Call_Name_kw
  refine thn ((pv (X := (HearCx X g cdv s H Eg).tr pn xe) (pos := p1) (x := "_law_ask") 0 rfl (Or.inl rfl)).run pinsZ sZ τ J (fun v H1 => v = .ref f ∧ H1 = J) IZ ⟨.ref f, isF, rfl, rfl⟩) ?_
  intro u s1 ⟨v, H1, I1, r1, ev, eH⟩
  subst ev
  rw [eH] at I1
  obtain rfl : u = Value.ref f := r1
  have objF : ObjOk X.prog X.w J s1.heap f (.ext (lamP X prs bd sc f c')) := I1.hok f _ hf
  obtain ⟨⟨pm, ctv, get⟩, _, _⟩ := objF
  have objC := I1.hok c' _ hc
  obtain ⟨⟨oc, vs, t, hoc, hdc, hvc⟩, _, _⟩ := objC
  apply PySem.W.callWith_F0 ⟨_, _, _, _, get⟩
  have un : Un (frs X.stack) [] H J s.heap s1.heap := I1.base
  have run : codeAny (model X.prog X.w) (X.A.deeper (hearEnv g cdv s)) (.call (.ref f) ⟨[], []⟩) (CR (L2.CX X.prog X.w) (hearEnv g cdv s :: X.stack) X.prog X.w J s1 Q E) s1 := by
    refine PySem.W.kla_callFunE hr.depth get rfl L.co L.gen rfl ⟨c', oc, vs, t, rfl, hoc, hdc, hvc⟩ ?_
    rw [bind]
    apply wpAny_pure
    refine wpAny_newFunctionEnv (fun y hy => (L.own y hy).2) (fun y hy => absurd hy (by simp)) ?_ L.kind
    intro h1 hns hsb
    refine ⟨I1.nolimit.fresh _ hsb, ?_⟩
    show codeAny _ _ (.expr bd (LamX.lamEnv X sc s1.heap.objs.size f c')) _ _
    have stay : ∀ b o, s1.heap.get? b = some o → h1.get? b = some o := by
      intro b o e
      exact hsb.extBut b o (Nat.ne_of_lt (Heap.lt_size e)) (Heap.get?_push_of_some _ e)
    have inLam : Inv (LamX.lamCx X (X.A.deeper (hearEnv g cdv s)) (hearEnv g cdv s :: X.stack) s1 J E sc f c') [] σ J { s1 with heap := h1, toks := s1.toks + ([] : List (Str × Value)).length } :=
      LamX.lam_start2 I L I1.env0 hr.hd un hns stay
    apply PySem.W.kla_codeExpr
    refine wpAny_mono ((body _ _ s1 J (hr.deeper _)).run [] _ _ J Q inLam ht) ?_ (fun _ _ z => z)
    intro v s' ⟨w', H', J', rv, q⟩
    exact ⟨w', H', J'.os, J'.bare, J'.base, J'.hok, rv, q⟩
  have pass : Passes (L2.CX X.prog X.w) ((HearCx X g cdv s H Eg).tr pn xe) E := passes_call tk hW
  apply wpAny_call
  refine codeAny_mono run ?_
  intro r s' hq
  cases r with
  | error e => exact pass pinsZ τ J s1 e s' I1 hq
  | ok fl =>
    cases fl with
    | ret u => exact I1.after hq
    | next => exact hq.elim
    | brk => exact hq.elim
    | cont => exact hq.elim
end
/-! ### the def itself -/
/-- what it leans on -/
structure HdT (K : PySem.W.Frag) (mg : Str → Option Value) : Prop where
  n_repr : mg "repr" = none
  gB : mg "BadLog" = some (.ref (cB mg))
  gR : mg "Refused" = some (.ref (cR mg))
  no : ∃ cN, mg "NoState" = some (.ref cN) ∧ PySem.W.exmOne K (.ref (cR mg)) (.ref cN) = some false
  bb : PySem.W.exmOne K (.ref (cB mg)) (.ref (cB mg)) = some true
  rb : PySem.W.exmOne K (.ref (cR mg)) (.ref (cB mg)) = some false
  rr : PySem.W.exmOne K (.ref (cR mg)) (.ref (cR mg)) = some true
  xb : XfC K (cB mg)
  xr : XfC K (cR mg)
  ab : PySem.W.findIn K (.ref (cB mg)) "at" = some none
  ar : PySem.W.findIn K (.ref (cR mg)) "at" = some none
/-- the class, and what is told -/
def cE (lg : Bool) (mg : Str → Option Value) : Addr := if lg then cB mg else cR mg
def hearD (lg : Bool) (d : PyData) : PyData := if lg then .tuple [.str "log", d] else .tuple [.str "refused", .str d.shown]
/-- a lambda that raises -/
def Raiser (K : PySem.W.Frag) (mg : Str → Option Value) (Γ : Gam) (M0 : Mem) (lg : Bool) (d : PyData) (tb : XK → TE) : Prop := ∀ (M : Mem) (G : Hp) (σ : L2.St) (H : Hp) (E : XK), Sub M0 M → Sd G σ Γ → Wd G M H →
  (∀ cls od G' H', Same G G' → Wd G' M H' → xA K (cE lg mg) d G' cls od → E cls od H') → ∀ Q, tb E σ H Q
structure AskS (X : Cx) (prs : Arguments) (bd : Expr) (sc : Scope) : Prop where
  lam : LamX.LamS X.env.scope sc
  bind : ∀ (q : Str) (cl : List (Str × Addr)) (pm cv ctv : Value), bindArgs (PySem.W.kla_fn "<lambda>" q prs bd sc cl pm cv ctv) ⟨[], []⟩ = pure []
def tAsk (X : Cx) (k : Nat) (Γ : Gam) (M0 : Mem) (lg : Bool) (d : PyData) : Ty := ⟨fun G v => ∃ (prs : Arguments) (bd : Expr) (sc : Scope) (f c' : Addr) (tb : XK → TE), AskS X prs bd sc ∧ v = .ref f ∧ G f = some (lamO X prs bd sc f c') ∧ G c' = some (LamX.CodeO c' (lamQ X)) ∧
  (∀ (B : Around) (outer : List Env) (s : Shared) (H : Hp) (E : XK), Room k (B.deeper (LamX.lamEnv X sc s.heap.objs.size f c')) → PE (LamX.lamCx X B outer s H E sc f c') bd (tb E)) ∧ Raiser X.K X.mg Γ M0 lg d tb,
  fun e ⟨prs, bd, sc, f, c', tb, h1, h2, h3, h4, h5, h6⟩ => ⟨prs, bd, sc, f, c', tb, h1, h2, e _ _ h3, e _ _ h4, h5, h6⟩⟩
theorem st_set {τ : L2.St} {v : V} (h : τ.length = 2) : (τ.set 1 (some v))[1]? = some (some v) := by
  rw [List.getElem?_set_self (by rw [h]; decide)]
section
variable {X : Cx} {pins : List (Addr × Obj)} {σ : L2.St} {H : Hp} {s : Shared}
theorem heard_run (D : HdT X.K X.mg) {g : Addr} {fd : FuncData} (F : Fun X.K "_law_heard" "_law_heard" s_Lheard g fd) (bd0 : Binds X.K fd ["_law_ask"] []) {k : Nat} (hgd : X.A.guards = some []) (hr : Room (k + 2) X.A) (I : Inv X pins σ H s) {lg : Bool} {d : PyData} (rok : lg = false → ReprOk d)
    {Γ : Gam} {M0 M : Mem} {G : Hp} {v : V} {u : Value} (sd : Sd G σ Γ) (wd : Wd G M H) (sub : Sub M0 M) (ask : (tAsk X k Γ M0 lg d).p G v) (rv : RelV v u) {Q : VK} (hQ : ∀ y G' H', Same G G' → Wd G' M H' → Dp X.K G' y (hearD lg d) → Q y H') :
    codeAny (model X.prog X.w) X.A (.call (.ref g) ⟨[u], []⟩) (CR (L2.CX X.prog X.w) X.stack X.prog X.w H s Q C8.E0) s := by
  obtain ⟨prs, bd, sc, f, c', tb, ⟨lam, bind⟩, rfl, hf, hc, body, raise⟩ := ask
  obtain rfl : u = Value.ref f := rv
  obtain ⟨oc, od, kV, doc, pm, an, cdv, ct, osl, rfl, lk, hcd⟩ := F.ex
  refine LamX.run_ofS (N := N_Lheard) (ps := ["_law_ask"]) (us := [.ref f]) (vs := [.ref f]) lk hcd sc_Lheard hr I.env0 (bd0 s [.ref f] I.kIn rfl) (.cons rfl .nil) rfl fun hr' => ?_
  obtain ⟨cN, gN, exN⟩ := D.no
  have hgd' : ∀ b pn, ((HearCx X g cdv s H C8.E0).suite b pn).A.guards = some [] := fun _ _ => hgd
  have hu100 : ∀ b pn, ((HearCx X g cdv s H C8.E0).suite b pn).A.units + 100 < cLine := fun _ _ => by
    have z := hu100_of hr'
    exact z
  let Hear : WX → XK := fun W cls dd J => ∀ τ : L2.St, τ.length = 2 → W cls dd τ J
  refine ⟨_, pss_one (ps_tries (X := HearCx X g cdv s H C8.E0)
    (l := [⟨.ref (cB X.mg), 1, fun b cls dd => tRet (tTup (tCons (tC (.str "log")) (tCons (tXf b cls dd (cB X.mg) "at" (tVar 1)) tNil)))⟩, ⟨.ref cN, 1, fun _ _ _ _ _ _ => False⟩,
      ⟨.ref (cR X.mg), 1, fun b cls dd => tRet (tTup (tCons (tC (.str "refused")) (tCons (tCB (rReprD X.K) (tCons (tXf b cls dd (cR X.mg) "at" (tVar 1)) tNil)) tNil)))⟩])
    (tb := fun W => tRet (tTup (tCons (tC (.str "told")) (tCons (fun τ J Q => τ[0]? = some (some (.ref f)) ∧ J f = some (lamO X prs bd sc f c') ∧ J c' = some (LamX.CodeO c' (lamQ X)) ∧ tb (Hear W) σ J Q) tNil))))
    rfl rfl sc_Lheard.nd ?_ ?_), ?_⟩
  · intro W pn xe tk _
    have tk' : Takes ((HearCx X g cdv s H C8.E0).tr pn xe) (fun cls dd τ J => τ.length = 2 → W cls dd τ J) := by
      intro u s' air
      obtain ⟨b, B, sI, pins', τ, J, cls, dd, e, I', kept, up, sky, off, os, bare, w⟩ := air
      exact tk u s' ⟨b, B, sI, pins', τ, J, cls, dd, e, I', kept, up, sky, off, os, bare, w I'.len⟩
    exact pss_one (ps_ret (pe_tup (pa_cons pe_str (pa_cons (pe_ask I lam bind tk' (fun cls dd τ J h => h τ) hr' (fun B outer s H r => body B outer s H _ r)) pa_nil))))
  · refine .cons rfl rfl ⟨rfl, by decide, .inl D.gB⟩ (fun b ob cls dd pn zc fl => pss_one (ps_ret (pe_tup (pa_cons pe_str (pa_cons (pe_xf (X := HearCx X g cdv s H C8.E0) D.xb D.ab zc fl (pv 1)) pa_nil))))) ?_
    refine .cons rfl rfl ⟨rfl, by decide, .inl gN⟩ (fun b ob cls dd pn zc fl => ⟨fun _ _ _ _ _ _ z => z.elim⟩) ?_
    refine .cons rfl rfl ⟨rfl, by decide, .inl D.gR⟩ (fun b ob cls dd pn zc fl => pss_one (ps_ret (pe_tup (pa_cons pe_str (pa_cons (pe_callB (x := "repr") (reprK X.K (hgd' b ((b, ob) :: pn)) (hu100 b ((b, ob) :: pn))) rfl D.n_repr (by decide +kernel) (pa_cons (pe_xf (X := HearCx X g cdv s H C8.E0) D.xr D.ar zc fl (pv 1)) pa_nil)) pa_nil))))) .nil
  · refine ⟨rfl, wd.le _ _ hf, wd.le _ _ hc, ?_⟩
    refine raise M G σ H _ sub sd wd ?_ _
    rintro cls od G' J e' w' ⟨rfl, dd, v, rfl, hdd, dv⟩ τ len
    cases lg with
    | true =>
      refine ⟨true, D.bb, ?_, (fun z => nomatch z)⟩
      intro _ b nb
      refine ⟨.ref b, st_set len, rfl, rfl, dd, _, v, rfl, w'.le _ _ hdd, rfl, by rw [sizeLine_eq]; exact (by decide : 2 ≤ 16777216), ?_⟩
      intro p hp
      obtain ⟨w2, e2⟩ := w'.alloc hp (.tup [.str "log", v])
      exact hQ _ _ _ (e'.trans e2) w2 (.tup (SqT.of upd_same) (.cons (.str _) (.cons (Dp.mono e2 dv) .nil)))
    | false =>
      refine ⟨false, D.rb, (fun z => nomatch z), fun _ => ⟨false, exN, (fun z => nomatch z), fun _ => ⟨true, D.rr, ?_, (fun z => nomatch z)⟩⟩⟩
      intro _ b nb
      refine ⟨.ref b, st_set len, rfl, rfl, dd, _, v, rfl, w'.le _ _ hdd, rfl, v, d, rfl, Dp.mono w'.le dv, rok rfl, by rw [sizeLine_eq]; exact (by decide : 2 ≤ 16777216), ?_⟩
      intro p hp
      obtain ⟨w2, e2⟩ := w'.alloc hp (.tup [.str "refused", .str d.shown])
      exact hQ _ _ _ (e'.trans e2) w2 (.tup (SqT.of upd_same) (.cons (.str _) (.cons (.str _) .nil)))
/-- its reading within the comprehension -/
def tHd (X : Cx) (k i : Nat) (σ : L2.St) : TE := fun τ J Q => ∃ (lg : Bool) (d : PyData) (Γ : Gam) (M0 : Mem) (v : V) (G : Hp) (M : Mem), (lg = false → ReprOk d) ∧ τ[i]? = some (some v) ∧ Sd G σ Γ ∧ Wd G M J ∧ Sub M0 M ∧ (tAsk X k Γ M0 lg d).p G v ∧ ∀ y G' J', Same G G' → Wd G' M J' → Dp X.K G' y (hearD lg d) → Q y J'
/-- the def that was heard of -/
structure HdF (K : PySem.W.Frag) (mg : Str → Option Value) : Prop extends HdT K mg where
  fn : DefAt K mg "_law_heard" s_Lheard
theorem pe_heard (D : HdF X.K X.mg) {k : Nat} (hgd : X.A.guards = some []) (hr : Room (k + 2) X.A) {i : Nat} {a : Str} {p p2 pos : Pos} {scope : Scope} {s0 : Shared} {H0 : Hp} {ce : Env} {fp : List Addr}
    (back : ∀ (pB : List (Addr × Obj)) (τ : L2.St) (J : Hp) (sB : Shared), Inv (X.blk s0 H0 scope ce fp) pB τ J sB → Inv X pins σ J sB)
    (hv : PE (X.blk s0 H0 scope ce fp) (.Name a p2) (tVar i)) (hg : Gl (X.blk s0 H0 scope ce fp) "_law_heard" := by rfl)
    (he : starEach [Expr.Name a p2] ce = (false, eval (.Name a p2) ce) :: starEach [] ce := by rfl) (hpl : (backTo pos (starEach [] ce)).any (·.1) = false := by rfl) :
    PE (X.blk s0 H0 scope ce fp) (.Call (.Name "_law_heard" p) [.Name a p2] [] pos) (tHd X k i σ) := by
  obtain ⟨g, fd, hm, F⟩ := D.fn.ex
  have bd0 : Binds X.K fd ["_law_ask"] [] := F.binds (fun _ _ _ _ _ _ us hl => match us, hl with | [_], _ => rfl)
  constructor
  intro pinsB sB τ J Q IB h
  obtain ⟨lg, d, Γ, M0, v, G, M, rok, at_, sd, wd, sub, ask, q⟩ := h
  apply wpAny_Call_Name_kw
  refine ld_glob IB hg hm ?_ (by decide)
  refine PySem.W.callWith_K (h₀ := X.base) IB.ok.mod.kin F.kp (thn ((pa_cons hv pa_nil).run pos pinsB sB τ J (fun vs H1 => vs = [v] ∧ H1 = J) IB ⟨v, at_, rfl, rfl⟩) ?_) he hpl
  intro us s1 ⟨vs, H1, I1, r, ev, eH⟩
  subst ev
  rw [eH] at I1
  obtain ⟨u, rfl, ru⟩ := Vals.one r
  refine ⟨I1.kIn, ?_⟩
  apply wpAny_call
  refine codeAny_mono (heard_run D.toHdT F bd0 hgd hr (back _ _ _ _ I1) rok sd wd sub ask ru q) ?_
  intro r s' hq
  cases r with
  | error e =>
    obtain ⟨_, _, _, _, _, _, _, _, _, _, _, _, z⟩ := hq
    exact (show False from z).elim
  | ok fl =>
    cases fl with
    | ret u => exact I1.after hq
    | next => exact hq.elim
    | brk => exact hq.elim
    | cont => exact hq.elim
end
end Ag
set_option Elab.async false
set_option linter.all false
set_option maxRecDepth 100000
set_option maxHeartbeats 2000000
/-! AgW: how long a repr is. -/
namespace Ag
open PySem PySem.Spec PyProof.Rows L2
theorem sok_app (a b : Str) : PyData.strOk (a ++ b) = (PyData.strOk a && PyData.strOk b) := by
  unfold PyData.strOk
  rw [Str.cps_append, Array.all_append]
theorem sok_of (s : String) : PyData.strOk (Str.ofString s) = true := by
  unfold PyData.strOk
  rw [Str.ofString_eq_toList, ← Array.all_toList, List.all_eq_true]
  intro n hn
  obtain ⟨c, _, e⟩ := List.mem_map.mp hn
  have h := c.valid
  have e' : c.val.toNat = n := e
  rw [decide_eq_true_eq, ← e']
  rcases h with h | ⟨_, h⟩
  · exact Nat.lt_of_lt_of_le h (by decide)
  · exact h
structure Rp (d : PyData) (j B : Nat) : Prop where
  s : d.showable = true
  c : d.canLay0 = true
  e : d.depth ≤ j
  z : d.shown.length ≤ B
  k : PyData.strOk d.shown = true
theorem Rp.sh {d : PyData} {j B : Nat} (h : Rp d j B) (hj : j ≤ 64) : SeqAt.shaped d = true := by
  unfold SeqAt.shaped
  rw [h.c, Bool.true_and, decide_eq_true_eq]
  exact Nat.le_trans h.e hj
theorem Rp.ok {d : PyData} {j B : Nat} (h : Rp d j B) (hj : j ≤ 64) (hB : B ≤ 16777216) : ReprOk d := ⟨h.s, h.sh hj, by rw [sizeLine_eq]; exact Nat.le_trans h.z hB⟩
theorem Rp.mono {d : PyData} {j B j' B' : Nat} (h : Rp d j B) (hj : j ≤ j') (hB : B ≤ B') : Rp d j' B' := ⟨h.s, h.c, Nat.le_trans h.e hj, Nat.le_trans h.z hB, h.k⟩
theorem rp_non : Rp .none 0 4 := ⟨by simp only [PyData.showable], by simp only [PyData.canLay0], by simp only [PyData.depth]; exact Nat.le_refl _, by simp only [PyData.shown]; decide +kernel, by simp only [PyData.shown]; exact sok_of _⟩
theorem rp_bl (b : Bool) : Rp (.bool b) 0 5 := by
  cases b
  · exact ⟨by simp only [PyData.showable], by simp only [PyData.canLay0], by simp only [PyData.depth]; exact Nat.le_refl _, by simp only [PyData.shown]; decide +kernel, by simp only [PyData.shown]; exact sok_of _⟩
  · exact ⟨by simp only [PyData.showable], by simp only [PyData.canLay0], by simp only [PyData.depth]; exact Nat.le_refl _, by simp only [PyData.shown]; decide +kernel, by simp only [PyData.shown]; exact sok_of _⟩
theorem rp_int {i : Int} (h : i.natAbs.log2 < 1920) : Rp (.int i) 0 1921 :=
  ⟨by simp only [PyData.showable]; exact decide_eq_true h, by simp only [PyData.canLay0], by simp only [PyData.depth]; exact Nat.le_refl _, by simp only [PyData.shown]; exact int_text_len_1921 h, by simp only [PyData.shown]; exact sok_of _⟩
theorem log_small {i : Int} (h : i.natAbs < 2 ^ 64) : i.natAbs.log2 < 1920 := by
  by_cases h0 : i.natAbs = 0
  · rw [h0]; decide
  · have := (Nat.log2_lt h0).mpr h
    omega
theorem rp_nat {k : Nat} (h : k < 1000000) : Rp (.int (k : Int)) 0 1921 := rp_int (log_small (by have : ((k : Int)).natAbs = k := Int.natAbs_natCast k; rw [this]; exact Nat.lt_trans h (by decide)))
/-- texts one behind the other -/
theorem tx_len : ∀ (ts : List Str) (k : Nat) (acc : Str), (textFrom k acc ts).length ≤ acc.length + piled ts
  | [], k, acc => by show acc.length ≤ _; rw [piled_nil]; exact Nat.le_refl _
  | t :: r, k, acc => by
    have ih := tx_len r (k + 1) (acc ++ (if k > 0 then ", " else "" : String) ++ t)
    have e : (acc ++ (if k > 0 then ", " else "" : String) ++ t).length ≤ acc.length + 2 + t.length := by
      rw [strLen_append, strLen_append]
      by_cases c : k > 0
      · rw [if_pos c]; have e2 : ((", " : String) : Str).length = 2 := rfl; rw [e2]; exact Nat.le_refl _
      · rw [if_neg c]; have e2 : (("" : String) : Str).length = 0 := rfl; rw [e2]; omega
    rw [piled_cons]
    show (textFrom (k + 1) _ r).length ≤ _
    omega
theorem tx_ok : ∀ (ts : List Str) (k : Nat) (acc : Str), PyData.strOk acc = true → (∀ t ∈ ts, PyData.strOk t = true) → PyData.strOk (textFrom k acc ts) = true
  | [], k, acc, h, _ => h
  | t :: r, k, acc, h, ht => by
    apply tx_ok r (k + 1) _ _ fun x hx => ht x (List.mem_cons_of_mem _ hx)
    rw [sok_app, sok_app, h, ht t List.mem_cons_self, Bool.true_and, Bool.and_true]
    exact sok_of _
theorem join_ok : ∀ ts : List Str, (∀ t ∈ ts, PyData.strOk t = true) → PyData.strOk (Str.join ", " ts) = true
  | [], _ => by show PyData.strOk ("" : Str) = true; exact sok_of _
  | [x], h => h x List.mem_cons_self
  | x :: y :: r, h => by
    show PyData.strOk (x ++ ", " ++ Str.join ", " (y :: r)) = true
    rw [sok_app, sok_app, h x List.mem_cons_self, Bool.true_and, join_ok (y :: r) fun t ht => h t (List.mem_cons_of_mem _ ht), Bool.and_true]
    exact sok_of _
theorem all_shown {j B : Nat} : ∀ {ds : List PyData}, (∀ d ∈ ds, Rp d j B) → PyData.showableAll ds = true ∧ PyData.canLayAll0 ds = true ∧ PyData.depthAll ds ≤ j ∧ piled (PyData.shownAll ds) ≤ ds.length * (B + 2) ∧ ∀ t ∈ PyData.shownAll ds, PyData.strOk t = true
  | [], _ => ⟨by simp only [PyData.showableAll], by simp only [PyData.canLayAll0], by simp only [PyData.depthAll]; exact Nat.zero_le _, by simp only [PyData.shownAll, piled_nil]; exact Nat.zero_le _, by simp only [PyData.shownAll]; intro t ht; cases ht⟩
  | d :: ds, h => by
    have hd := h d List.mem_cons_self
    obtain ⟨h1, h2, h3, h4, h5⟩ := all_shown (ds := ds) fun e he => h e (List.mem_cons_of_mem _ he)
    refine ⟨by simp only [PyData.showableAll]; rw [hd.s, h1]; rfl, by simp only [PyData.canLayAll0]; rw [hd.c, h2]; rfl, by simp only [PyData.depthAll]; exact Nat.max_le.mpr ⟨hd.e, h3⟩, ?_, ?_⟩
    · simp only [PyData.shownAll, piled_cons, List.length_cons, Nat.succ_mul]
      have := hd.z
      omega
    · simp only [PyData.shownAll]
      intro t ht
      cases ht with
      | head => exact hd.k
      | tail _ ht => exact h5 t ht
theorem rp_list {ds : List PyData} {j B : Nat} (h : ∀ d ∈ ds, Rp d j B) : Rp (.list ds) (j + 1) (2 + ds.length * (B + 2)) := by
  obtain ⟨h1, h2, h3, h4, h5⟩ := all_shown h
  refine ⟨by simp only [PyData.showable]; exact h1, by simp only [PyData.canLay0]; exact h2, by simp only [PyData.depth]; omega, ?_, ?_⟩
  · simp only [PyData.shown]
    unfold listText
    rw [strLen_append]
    have e1 := tx_len (PyData.shownAll ds) 0 "["
    have e2 : (("[" : String) : Str).length = 1 := rfl
    have e3 : (("]" : String) : Str).length = 1 := rfl
    rw [e3]
    rw [e2] at e1
    omega
  · simp only [PyData.shown]
    unfold listText
    rw [sok_app, tx_ok _ 0 _ (sok_of _) h5]
    exact sok_of _
theorem rp_tup {ds : List PyData} {j B : Nat} (h : ∀ d ∈ ds, Rp d j B) : Rp (.tuple ds) (j + 1) (3 + ds.length * (B + 2)) := by
  obtain ⟨h1, h2, h3, h4, h5⟩ := all_shown h
  refine ⟨by simp only [PyData.showable]; exact h1, by simp only [PyData.canLay0]; exact h2, by simp only [PyData.depth]; omega, ?_, ?_⟩
  · simp only [PyData.shown]
    unfold tupleText
    rw [strLen_append, strLen_append]
    have e1 : ((("(" : String) : Str)).length = 1 := rfl
    have e3 : (((if (PyData.shownAll ds).length == 1 then ",)" else ")" : String) : Str)).length ≤ 2 := by split <;> decide
    rw [e1]
    by_cases c : PyData.shownAll ds = []
    · rw [c] at e3 ⊢
      have e4 : (Str.join ", " ([] : List Str)).length = 0 := rfl
      rw [e4]
      omega
    · have := join_length_add (PyData.shownAll ds) c
      omega
  · simp only [PyData.shown]
    unfold tupleText
    rw [sok_app, sok_app, join_ok _ h5, Bool.and_true]
    rw [show PyData.strOk ("(" : Str) = true from sok_of _, Bool.true_and]
    exact sok_of _
theorem rp_strL {x : Str} {B : Nat} (hx : PyData.strOk x = true) (hl : (reprText x).length ≤ B) (hk : PyData.strOk (reprText x) = true) : Rp (.str x) 0 B :=
  ⟨by simp only [PyData.showable], by simp only [PyData.canLay0]; exact hx, by simp only [PyData.depth]; exact Nat.le_refl _, by simp only [PyData.shown]; exact hl, by simp only [PyData.shown]; exact hk⟩
theorem rp_unsafe : Rp (.str "unsafe") 0 1921 := rp_strL (sok_of _) (by decide +kernel) (by decide +kernel)
theorem rp_zero : Rp (.str "0") 0 1921 := rp_strL (sok_of _) (by decide +kernel) (by decide +kernel)
theorem rp_rep {d : PyData} {j B n : Nat} (h : Rp d j B) : ∀ e ∈ List.replicate n d, Rp e j B := fun e he => by
  rw [(List.mem_replicate.mp he).2]
  exact h
end Ag
set_option Elab.async false
set_option linter.all false
set_option maxRecDepth 100000
set_option maxHeartbeats 4000000
/-! AgO: what lists of lambdas and their hearing come to. -/
namespace Ag
open PySem PySem.Spec PyProof.Rows L2
section
variable {K : PySem.W.Frag} {mg : Str → Option Value} {Γ Γ0 : Gam} {M M0 : Mem} {ta te : TE} {T : Ty} {G0 : Hp} {D : Ends} {ts : TS} {n i j : Nat} {p : Addr} {lg : Bool} {d : PyData} {k : Nat} {X : Cx}
def cAsks (T : Ty) (n : Nat) : Ct := ⟨fun G o => ∃ vs, o = .lst vs ∧ vs.length = n ∧ ∀ v ∈ vs, T.p G v, fun e ⟨vs, h1, h2, h3⟩ => ⟨vs, h1, h2, fun v hv => T.mono e (h3 v hv)⟩⟩
def tAsks (T : Ty) (n : Nat) : Ty := ⟨fun G v => ∃ a vs, v = .ref a ∧ G a = some (.lst vs) ∧ vs.length = n ∧ ∀ x ∈ vs, T.p G x, fun e ⟨a, vs, h1, h2, h3, h4⟩ => ⟨a, vs, h1, e _ _ h2, h3, fun v hv => T.mono e (h4 v hv)⟩⟩
theorem go_setAsks (h : Ev Γ M ta T) (k : ∀ p, Go (Γ.set i (some (tV (.ref p)))) ((p, cAsks T 1) :: M) ts D G0) : Go Γ M (tSeq (tAsg (tLst (tCons ta tNil)) (gName i)) ts) D G0 := by
  intro G σ H e s w
  refine h G σ H s w _ ?_
  intro v G1 H1 e1 w1 h1
  refine ⟨by rw [sizeLine_eq]; exact (by decide : 1 ≤ 16777216), ?_⟩
  intro p hp
  exact k p G1 _ _ (e.trans e1) ((s.mono e1).set i (T := tV (.ref p)) rfl) (w1.own hp ⟨[v], rfl, rfl, fun x hx => by rw [List.mem_singleton.mp hx]; exact h1⟩)
theorem go_appAsks (ho : Ev Γ ((p, cAsks T n) :: M) te (tV (.ref p))) (h : Ev Γ ((p, cAsks T n) :: M) ta T) (hz : n < 1000) (k : Go Γ ((p, cAsks T (n + 1)) :: M) ts D G0) : Go Γ ((p, cAsks T n) :: M) (tSeq (tDrop (tBM K "list" rAppend te (tCons ta tNil))) ts) D G0 := by
  intro G σ H e s w
  refine ho G σ H s w _ ?_
  intro v G1 H1 e1 w1 hv
  have hv' : v = .ref p := hv
  subst hv'
  obtain ⟨_, o, h2, xs, rfl, hxs⟩ := w1.at_ _ List.mem_cons_self
  refine ⟨.inl ⟨rfl, xs, SqL.of h2⟩, ?_⟩
  refine h G1 σ H1 (s.mono e1) w1 _ ?_
  intro x G2 H2 e2 w2 hx
  obtain ⟨_, o, h4, ys, rfl, hl, hys⟩ := w2.at_ _ List.mem_cons_self
  refine ⟨p, ys, x, rfl, rfl, h4, by rw [hl, sizeLine_eq]; omega, ?_⟩
  refine k G2 σ _ ((e.trans e1).trans e2) (s.mono (e1.trans e2)) (w2.change ⟨ys ++ [x], rfl, by rw [List.length_append, hl]; rfl, ?_⟩)
  intro y hy
  cases List.mem_append.mp hy with
  | inl z => exact hys y z
  | inr z => rw [List.mem_singleton.mp z]; exact hx
theorem go_keepAsks (hΓ : Γ[i]? = some (some (tV (.ref p)))) (k : Go (Γ.set i (some (tAsks T n))) M ts D G0) : Go Γ ((p, cAsks T n) :: M) ts D G0 := by
  intro G σ H e s w
  obtain ⟨_, o, h2, xs, rfl, hl, hxs⟩ := w.at_ _ List.mem_cons_self
  obtain ⟨w2, e2⟩ := w.freeze h2
  obtain ⟨v, h3, h4⟩ := s.get i _ hΓ
  have h4' : v = .ref p := h4
  subst h4'
  have s2 := (s.mono e2).set i (T := tAsks T n) (v := .ref p) ⟨p, xs, rfl, upd_same, hl, fun x hx => T.mono e2 (hxs x hx)⟩
  have eq : σ.set i (some (.ref p)) = σ := by
    apply List.ext_getElem?
    intro j
    by_cases hj : i = j
    · subst hj
      rw [List.getElem?_set_self (List.getElem?_eq_some_iff.mp h3).1, h3]
    · rw [List.getElem?_set_ne hj]
  rw [eq] at s2
  exact k _ σ H (e.trans e2) s2 w2
/-- [.. for x in asks if ..] whose test is never so -/
theorem ev_lc0 {tt : L2.St → TT} (hi : Γ[i]? = some (some (tAsks T n)))
    (ht : ∀ (G : Hp) (σ τ : L2.St) (H : Hp) (M' : Mem), Sd G σ Γ → Sd G τ ((wipeG Γ [j]).set j (some T)) → Wd G M' H → Sub M M' → ∀ Q : Bool → Hp → Prop, (∀ G' H', Same G G' → Wd G' M' H' → Q false H') → tt σ τ H Q) :
    Ev Γ M (fun σ H Q => tLc (iSeq K (tVar i)) (gName j) (tt σ) te [j] σ H Q) (tL K []) := by
  intro G σ H s w Q q
  obtain ⟨v, h1, a, vs, rfl, ha, hl, hall⟩ := s.get i _ hi
  refine ⟨.ref a, h1, a, vs, rfl, .inl ⟨SqL.of (w.le _ _ ha), ?_⟩⟩
  intro D0 hD
  refine ⟨fun k m H' => m = vs.length - k ∧ k ≤ vs.length ∧ ∃ G', Same G G' ∧ Wd G' ((D0, cL K []) :: M) H', ⟨vs.length, by simp, Nat.zero_le _, G, Same.refl _, w.own hD ⟨[], rfl, .nil⟩⟩, ?_⟩
  rintro k m H' ⟨rfl, hk, G', e', w'⟩
  have sq : SqL K H' a vs := SqL.of (w'.le _ _ (e' _ _ ha))
  by_cases hlt : k < vs.length
  · refine .inr ⟨walk_list.goes k H' hlt sq, fun H2 => ∃ G', Same G G' ∧ Wd G' ((D0, cL K []) :: M) H2, fun H2 hs => ⟨vs.length - (k + 1), by omega, rfl, hlt, hs⟩, ?_⟩
    intro x H2 y
    obtain ⟨e1, e2⟩ := walk_list.yields k H' x H2 hlt sq y
    subst e1
    have tx : T.p G' x := T.mono e' (hall x (List.mem_of_getElem? e2))
    refine ⟨wipe_same (by rw [List.length_set, wipe_len]) (fun b hb => by rw [List.getElem?_set_ne (fun z => hb (by simp [z]))]), ?_⟩
    refine ht G' σ _ _ _ (s.mono e') (((s.mono e').wipe [j]).set j tx) w' (Sub.more (Sub.refl _)) _ ?_
    intro G4 H4 e4 w4
    exact ⟨G4, e'.trans e4, w4⟩
  · have ei : k = vs.length := by omega
    subst ei
    refine .inl ⟨walk_list.stops H' sq, ?_⟩
    obtain ⟨_, o, ho, xs, rfl, hxs⟩ := w'.at_ _ List.mem_cons_self
    obtain ⟨w2, e2⟩ := w'.freeze ho
    exact q _ _ H' (e'.trans e2) w2 ⟨D0, xs, rfl, upd_same, DpAll.mono e2 hxs⟩
/-- the test: what is heard is what is awaited -/
theorem heard_is {t2 : TE} {Γt : Gam} {M' : Mem} {G : Hp} {σ τ : L2.St} {H : Hp} {Q : Bool → Hp → Prop} (rok : lg = false → ReprOk d) (hj : Γt[j]? = some (some (tAsk X k Γ0 M0 lg d))) (sd : Sd G σ Γ0) (st : Sd G τ Γt) (w : Wd G M' H) (sub : Sub M0 M')
    (h2 : Ev Γt M' t2 (tD X.K (hearD lg d))) (sh : SeqAt.shaped (hearD lg d) = true) (hq : ∀ G' H', Same G G' → Wd G' M' H' → Q false H') (same : PyData.eqv (hearD lg d) (hearD lg d) = true) : tTest (tOp (rNeD X.K) (tHd X k j σ) t2) τ H Q := by
  obtain ⟨v, h1, ask⟩ := st.get j _ hj
  refine ⟨lg, d, Γ0, M0, v, G, M', rok, h1, sd, w, sub, ask, ?_⟩
  intro y G1 H1 e1 w1 dy
  refine h2 G1 τ H1 (st.mono e1) w1 _ ?_
  intro z G2 H2 e2 w2 dz
  refine ⟨_, _, Dp.mono (e2.trans w2.le) dy, Dp.mono w2.le dz, sh, sh, ?_⟩
  rw [same]
  exact ⟨false, rfl, hq G2 H2 (e1.trans e2) w2⟩
theorem ev_ask {prs : Arguments} {bd : Expr} {sc : Scope} {T : Addr} (tb : XK → TE) (hm : (T, cTab (lamQ X)) ∈ M) (st : AskS X prs bd sc)
    (body : ∀ (f c' : Addr) (B : Around) (outer : List Env) (s : Shared) (H : Hp) (E : XK), Room k (B.deeper (LamX.lamEnv X sc s.heap.objs.size f c')) → PE (LamX.lamCx X B outer s H E sc f c') bd (tb E))
    (raise : Raiser X.K X.mg Γ0 M0 lg d tb) : Ev Γ M (tLamV X prs bd sc T) (tAsk X k Γ0 M0 lg d) :=
  ev_mono (ev_lam hm) fun G v ⟨f, c', h1, h2, h3⟩ => ⟨prs, bd, sc, f, c', tb, st, h1, h2, h3, fun B outer s H E r => body f c' B outer s H E r, raise⟩
theorem raiser_of {tb : XK → TE} (h : ∀ (M : Mem) (G0 : Hp) (E : XK), Sub M0 M → (∀ cls od G H, Same G0 G → Wd G M H → xA K (cE lg mg) d G cls od → E cls od H) → Rs G0 Γ0 M (tb E)) : Raiser K mg Γ0 M0 lg d tb := fun M G σ H E sub sd wd hE Q =>
  h M G E sub (fun cls od G' H' e w x => hE cls od G' H' e w x) G σ H (Same.refl _) sd wd Q
theorem Tys.app {G : Hp} {vs ws : List V} {Ts Us : List Ty} (h : Tys G vs Ts) (k : Tys G ws Us) : Tys G (vs ++ ws) (Ts ++ Us) := by
  induction h with
  | nil => exact k
  | cons a _ ih => exact .cons a ih
theorem rs_callD {α : Type} {P : α → Prop} {C : α → Mem} {A : α → List Ty} {Rr : α → Ty} {X : α → XT} {E : XK} {tA : TA} {dvs : List V} {As Ds : List Ty} (a : α) (h : EvA Γ M tA As) (hd : ∀ G, Tys G dvs Ds) (hA : A a = As ++ Ds) (hP : P a) (hc : Sub (C a) M) (hr : ∀ G v, ¬ (Rr a).p G v)
    (hx : ∀ cls d G H, Same G0 G → Wd G M H → X a G cls d → E cls d H) : Rs G0 Γ M (tCall (PrX P C A Rr X) dvs E tA) := by
  intro G σ H e0 s w Q
  refine h G σ H s w _ ?_
  intro vs G1 H1 e1 w1 h1
  exact ⟨a, G1, M, hP, w1, hc, by rw [hA]; exact Tys.app h1 (hd G1), fun v G' H' _ _ t => absurd t (hr G' v), fun cls d G' H' e' w' z => hx cls d G' H' ((e0.trans e1).trans e') w' z⟩
theorem hear_sh {x : Str} {e : PyData} (hx : PyData.strOk x = true) (he : e.canLay0 = true) (hd : e.depth = 0) : SeqAt.shaped (.tuple [.str x, e]) = true := by
  unfold SeqAt.shaped
  simp only [PyData.canLay0, PyData.canLayAll0, PyData.depth, PyData.depthAll, hx, he, hd]
  decide
theorem hear_shF {B j : Nat} {d : PyData} (h : Rp d j B) : SeqAt.shaped (hearD false d) = true := hear_sh (x := "refused") (sok_of _) (by simp only [PyData.canLay0]; exact h.k) (by simp only [PyData.depth])
theorem hear_shT : SeqAt.shaped (hearD true (.int 0)) = true := hear_sh (x := "log") (sok_of _) (by simp only [PyData.canLay0]) (by simp only [PyData.depth])
theorem hear_eqF (d : PyData) : PyData.eqv (hearD false d) (hearD false d) = true := by
  show PyData.eqv (.tuple [.str "refused", .str d.shown]) (.tuple [.str "refused", .str d.shown]) = true
  simp [PyData.eqv, PyData.eqvAll]
theorem hear_eqT : PyData.eqv (hearD true (.int 0)) (hearD true (.int 0)) = true := by
  show PyData.eqv (.tuple [.str "log", .int 0]) (.tuple [.str "log", .int 0]) = true
  simp [PyData.eqv, PyData.eqvAll]
end
end Ag
set_option Elab.async false
set_option linter.all false
set_option maxRecDepth 100000
set_option maxHeartbeats 4000000
/-! AgX: what the twelve lambdas come to; the markings that are none. -/
namespace Ag
open PySem PySem.Spec PyProof.Rows L2
section
variable {K : FR} {mg : MG} {Γ : Gam} {M : Mem} {G0 : Hp} {E : XK} {t1 t2 t3 t4 t5 t6 t7 : TE}
theorem rs_is_safe_marking_kw3_starts_kept (a : UpA) (h1 : Ev Γ M t1 (tMa K mg a.tabs a.n)) (h2 : Ev Γ M t2 (tZ K a.k (nL a.log))) (h3 : Ev Γ M t3 (tD K a.md)) (h4 : Ev Γ M t4 (tD K a.sd)) (h5 : Ev Γ M t5 (tD K a.kd)) (hb : a.bd = .none) (hT : OkT a.tabs a.n) (hR : a.Rest) (hg : a.ok ≠ .good) (hX : ∀ cls od G H, Same G0 G → Wd G M H → a.X K mg G cls od → E cls od H) :
    Rs G0 Γ M (tCallN 3 2 (sp_is_safe_marking K mg) (fun vs zs => gk_is_safe_marking_kw3_starts_kept vs (List.map Prod.snd ([("bound", V.non)] : List (Str × V))) zs) E (tCons t1 (tCons t2 (tCons t3 tNil))) (tCons t4 (tCons t5 tNil))) :=
  rs_callN a (ea_cons h1 (ea_cons h2 (ea_cons h3 ea_nil))) (ea_cons h4 (ea_cons h5 ea_nil)) rfl rfl (fun G vs zs k1 k2 => by
    cases k1 with | cons a1 k1 => cases k1 with | cons a2 k1 => cases k1 with | cons a3 k1 =>
    cases k1
    cases k2 with | cons b1 k2 => cases k2 with | cons b2 k2 =>
    cases k2
    exact .cons a1 (.cons a2 (.cons a3 (.cons b1 (.cons b2 (.cons (by show Dp K G _ a.bd; rw [hb]; exact .non) .nil)))))) ⟨hT, hR⟩ sub_nil (upT' hg) hX
theorem rs_is_safe_marking_kw3_kept_bound (a : UpA) (h1 : Ev Γ M t1 (tMa K mg a.tabs a.n)) (h2 : Ev Γ M t2 (tZ K a.k (nL a.log))) (h3 : Ev Γ M t3 (tD K a.md)) (h4 : Ev Γ M t4 (tD K a.kd)) (h5 : Ev Γ M t5 (tD K a.bd)) (hs : a.sd = .none) (hT : OkT a.tabs a.n) (hR : a.Rest) (hg : a.ok ≠ .good) (hX : ∀ cls od G H, Same G0 G → Wd G M H → a.X K mg G cls od → E cls od H) :
    Rs G0 Γ M (tCallN 3 2 (sp_is_safe_marking K mg) (fun vs zs => gk_is_safe_marking_kw3_kept_bound vs (List.map Prod.snd ([("starts", V.non)] : List (Str × V))) zs) E (tCons t1 (tCons t2 (tCons t3 tNil))) (tCons t4 (tCons t5 tNil))) :=
  rs_callN a (ea_cons h1 (ea_cons h2 (ea_cons h3 ea_nil))) (ea_cons h4 (ea_cons h5 ea_nil)) rfl rfl (fun G vs zs k1 k2 => by
    cases k1 with | cons a1 k1 => cases k1 with | cons a2 k1 => cases k1 with | cons a3 k1 =>
    cases k1
    cases k2 with | cons b1 k2 => cases k2 with | cons b2 k2 =>
    cases k2
    exact .cons a1 (.cons a2 (.cons a3 (.cons (by show Dp K G _ a.sd; rw [hs]; exact .non) (.cons b1 (.cons b2 .nil)))))) ⟨hT, hR⟩ sub_nil (upT' hg) hX
theorem rs_is_safe_marking_d (a : UpA) (h1 : Ev Γ M t1 (tMa K mg a.tabs a.n)) (h2 : Ev Γ M t2 (tZ K a.k (nL a.log))) (h3 : Ev Γ M t3 (tD K a.md)) (hs : a.sd = .none) (hk : a.kd = .none) (hb : a.bd = .none) (hT : OkT a.tabs a.n) (hR : a.Rest) (hg : a.ok ≠ .good) (hX : ∀ cls od G H, Same G0 G → Wd G M H → a.X K mg G cls od → E cls od H) : Rs G0 Γ M (tCall (sp_is_safe_marking K mg) [.non, .non, .non] E (tCons t1 (tCons t2 (tCons t3 tNil)))) :=
  rs_callD (Ds := [tD K a.sd, tD K a.kd, tD K a.bd]) a (ea_cons h1 (ea_cons h2 (ea_cons h3 ea_nil))) (fun G => .cons (by show Dp K G _ a.sd; rw [hs]; exact .non) (.cons (by show Dp K G _ a.kd; rw [hk]; exact .non) (.cons (by show Dp K G _ a.bd; rw [hb]; exact .non) .nil))) rfl ⟨hT, hR⟩ sub_nil (upT' hg) hX
theorem rs_unsafe_paper_kw3_starts_kept (a : UpA) (h1 : Ev Γ M t1 (tMa K mg a.tabs a.n)) (h2 : Ev Γ M t2 (tZ K a.k (nL a.log))) (h3 : Ev Γ M t3 (tD K a.md)) (h4 : Ev Γ M t4 (tD K a.sd)) (h5 : Ev Γ M t5 (tD K a.kd)) (hb : a.bd = .none) (hT : OkT a.tabs a.n) (hR : a.Rest) (hg : a.ok ≠ .good) (hX : ∀ cls od G H, Same G0 G → Wd G M H → a.X K mg G cls od → E cls od H) :
    Rs G0 Γ M (tCallN 3 2 (sp_unsafe_paper K mg) (fun vs zs => gk_unsafe_paper_kw3_starts_kept vs (List.map Prod.snd ([("bound", V.non)] : List (Str × V))) zs) E (tCons t1 (tCons t2 (tCons t3 tNil))) (tCons t4 (tCons t5 tNil))) :=
  rs_callN a (ea_cons h1 (ea_cons h2 (ea_cons h3 ea_nil))) (ea_cons h4 (ea_cons h5 ea_nil)) rfl rfl (fun G vs zs k1 k2 => by
    cases k1 with | cons a1 k1 => cases k1 with | cons a2 k1 => cases k1 with | cons a3 k1 =>
    cases k1
    cases k2 with | cons b1 k2 => cases k2 with | cons b2 k2 =>
    cases k2
    exact .cons a1 (.cons a2 (.cons a3 (.cons b1 (.cons b2 (.cons (by show Dp K G _ a.bd; rw [hb]; exact .non) .nil)))))) ⟨hT, hR⟩ sub_nil (upT' hg) hX
theorem rs_unsafe_paper_kw3_kept_bound (a : UpA) (h1 : Ev Γ M t1 (tMa K mg a.tabs a.n)) (h2 : Ev Γ M t2 (tZ K a.k (nL a.log))) (h3 : Ev Γ M t3 (tD K a.md)) (h4 : Ev Γ M t4 (tD K a.kd)) (h5 : Ev Γ M t5 (tD K a.bd)) (hs : a.sd = .none) (hT : OkT a.tabs a.n) (hR : a.Rest) (hg : a.ok ≠ .good) (hX : ∀ cls od G H, Same G0 G → Wd G M H → a.X K mg G cls od → E cls od H) :
    Rs G0 Γ M (tCallN 3 2 (sp_unsafe_paper K mg) (fun vs zs => gk_unsafe_paper_kw3_kept_bound vs (List.map Prod.snd ([("starts", V.non)] : List (Str × V))) zs) E (tCons t1 (tCons t2 (tCons t3 tNil))) (tCons t4 (tCons t5 tNil))) :=
  rs_callN a (ea_cons h1 (ea_cons h2 (ea_cons h3 ea_nil))) (ea_cons h4 (ea_cons h5 ea_nil)) rfl rfl (fun G vs zs k1 k2 => by
    cases k1 with | cons a1 k1 => cases k1 with | cons a2 k1 => cases k1 with | cons a3 k1 =>
    cases k1
    cases k2 with | cons b1 k2 => cases k2 with | cons b2 k2 =>
    cases k2
    exact .cons a1 (.cons a2 (.cons a3 (.cons (by show Dp K G _ a.sd; rw [hs]; exact .non) (.cons b1 (.cons b2 .nil)))))) ⟨hT, hR⟩ sub_nil (upT' hg) hX
theorem rs_unsafe_paper_d (a : UpA) (h1 : Ev Γ M t1 (tMa K mg a.tabs a.n)) (h2 : Ev Γ M t2 (tZ K a.k (nL a.log))) (h3 : Ev Γ M t3 (tD K a.md)) (hs : a.sd = .none) (hk : a.kd = .none) (hb : a.bd = .none) (hT : OkT a.tabs a.n) (hR : a.Rest) (hg : a.ok ≠ .good) (hX : ∀ cls od G H, Same G0 G → Wd G M H → a.X K mg G cls od → E cls od H) : Rs G0 Γ M (tCall (sp_unsafe_paper K mg) [.non, .non, .non] E (tCons t1 (tCons t2 (tCons t3 tNil)))) :=
  rs_callD (Ds := [tD K a.sd, tD K a.kd, tD K a.bd]) a (ea_cons h1 (ea_cons h2 (ea_cons h3 ea_nil))) (fun G => .cons (by show Dp K G _ a.sd; rw [hs]; exact .non) (.cons (by show Dp K G _ a.kd; rw [hk]; exact .non) (.cons (by show Dp K G _ a.bd; rw [hb]; exact .non) .nil))) rfl ⟨hT, hR⟩ sub_nil (upT' hg) hX
theorem rs_unsafe_holds_kw4_starts_kept (a : UpA) (h1 : Ev Γ M t1 (tMa K mg a.tabs a.n)) (h2 : Ev Γ M t2 (tZ K a.k (nL a.log))) (h3 : Ev Γ M t3 (tD K a.md)) (h7 : Ev Γ M t7 (tD K .none)) (h4 : Ev Γ M t4 (tD K a.sd)) (h5 : Ev Γ M t5 (tD K a.kd)) (hb : a.bd = .none) (hT : OkT a.tabs a.n) (hR : a.Rest) (hg : a.ok ≠ .good) (hX : ∀ cls od G H, Same G0 G → Wd G M H → a.X K mg G cls od → E cls od H) :
    Rs G0 Γ M (tCallN 4 2 (sp_unsafe_holds K mg) (fun vs zs => gk_unsafe_holds_kw4_starts_kept vs (List.map Prod.snd ([("bound", V.non)] : List (Str × V))) zs) E (tCons t1 (tCons t2 (tCons t3 (tCons t7 tNil)))) (tCons t4 (tCons t5 tNil))) :=
  rs_callN (a, .none) (ea_cons h1 (ea_cons h2 (ea_cons h3 (ea_cons h7 ea_nil)))) (ea_cons h4 (ea_cons h5 ea_nil)) rfl rfl (fun G vs zs k1 k2 => by
    cases k1 with | cons a1 k1 => cases k1 with | cons a2 k1 => cases k1 with | cons a3 k1 =>
    cases k1 with | cons a4 k1 =>
    cases k1
    cases k2 with | cons b1 k2 => cases k2 with | cons b2 k2 =>
    cases k2
    exact .cons a1 (.cons a2 (.cons a3 (.cons a4 (.cons b1 (.cons b2 (.cons (by show Dp K G _ a.bd; rw [hb]; exact .non) .nil))))))) ⟨hT, hR, by show 0 ≤ 1000; decide, rfl⟩ sub_nil (upT' hg) hX
theorem rs_unsafe_holds_kw4_kept_bound (a : UpA) (h1 : Ev Γ M t1 (tMa K mg a.tabs a.n)) (h2 : Ev Γ M t2 (tZ K a.k (nL a.log))) (h3 : Ev Γ M t3 (tD K a.md)) (h7 : Ev Γ M t7 (tD K .none)) (h4 : Ev Γ M t4 (tD K a.kd)) (h5 : Ev Γ M t5 (tD K a.bd)) (hs : a.sd = .none) (hT : OkT a.tabs a.n) (hR : a.Rest) (hg : a.ok ≠ .good) (hX : ∀ cls od G H, Same G0 G → Wd G M H → a.X K mg G cls od → E cls od H) :
    Rs G0 Γ M (tCallN 4 2 (sp_unsafe_holds K mg) (fun vs zs => gk_unsafe_holds_kw4_kept_bound vs (List.map Prod.snd ([("starts", V.non)] : List (Str × V))) zs) E (tCons t1 (tCons t2 (tCons t3 (tCons t7 tNil)))) (tCons t4 (tCons t5 tNil))) :=
  rs_callN (a, .none) (ea_cons h1 (ea_cons h2 (ea_cons h3 (ea_cons h7 ea_nil)))) (ea_cons h4 (ea_cons h5 ea_nil)) rfl rfl (fun G vs zs k1 k2 => by
    cases k1 with | cons a1 k1 => cases k1 with | cons a2 k1 => cases k1 with | cons a3 k1 =>
    cases k1 with | cons a4 k1 =>
    cases k1
    cases k2 with | cons b1 k2 => cases k2 with | cons b2 k2 =>
    cases k2
    exact .cons a1 (.cons a2 (.cons a3 (.cons a4 (.cons (by show Dp K G _ a.sd; rw [hs]; exact .non) (.cons b1 (.cons b2 .nil))))))) ⟨hT, hR, by show 0 ≤ 1000; decide, rfl⟩ sub_nil (upT' hg) hX
theorem rs_unsafe_holds_d (a : UpA) (h1 : Ev Γ M t1 (tMa K mg a.tabs a.n)) (h2 : Ev Γ M t2 (tZ K a.k (nL a.log))) (h3 : Ev Γ M t3 (tD K a.md)) (h7 : Ev Γ M t7 (tD K .none)) (hs : a.sd = .none) (hk : a.kd = .none) (hb : a.bd = .none) (hT : OkT a.tabs a.n) (hR : a.Rest) (hg : a.ok ≠ .good) (hX : ∀ cls od G H, Same G0 G → Wd G M H → a.X K mg G cls od → E cls od H) : Rs G0 Γ M (tCall (sp_unsafe_holds K mg) [.non, .non, .non] E (tCons t1 (tCons t2 (tCons t3 (tCons t7 tNil))))) :=
  rs_callD (Ds := [tD K a.sd, tD K a.kd, tD K a.bd]) (a, .none) (ea_cons h1 (ea_cons h2 (ea_cons h3 (ea_cons h7 ea_nil)))) (fun G => .cons (by show Dp K G _ a.sd; rw [hs]; exact .non) (.cons (by show Dp K G _ a.kd; rw [hk]; exact .non) (.cons (by show Dp K G _ a.bd; rw [hb]; exact .non) .nil))) rfl ⟨hT, hR, by show 0 ≤ 1000; decide, rfl⟩ sub_nil (upT' hg) hX
end
/-! ### what is no marking -/
def rowZ (n : Nat) : PyData := .list (List.replicate n (nI 0))
def goodR (n len : Nat) : List PyData := List.replicate (len + 1) (rowZ n)
def bads (n len : Nat) : List PyData := [.none, .list (goodR n len ++ (goodR n len).take 1), .list ((goodR n len).drop 1), .list ((goodR n len).drop 1 ++ [.list (List.replicate (n + 1) (nI 0))]), .list ((goodR n len).drop 1 ++ [.none]), .list ((goodR n len).drop 1 ++ [.list (List.replicate n (.bool true))]), .str "0"]
theorem rep_all {α : Type} {p : α → Bool} {a : α} {n : Nat} (h : p a = true) : (List.replicate n a).all p = true := List.all_eq_true.mpr fun x hx => by rw [(List.mem_replicate.mp hx).2]; exact h
theorem goodR_okMk (n len : Nat) : okMk n len (.list (goodR n len)) = true := by
  have hr : okRow n (rowZ n) = true := by
    unfold okRow rowZ
    rw [show items (.list (List.replicate n (nI 0))) = List.replicate n (nI 0) from rfl, List.length_replicate, rep_all (num_nI 0)]
    simp [isSeq]
  unfold okMk
  rw [show items (.list (goodR n len)) = goodR n len from rfl]
  unfold goodR
  rw [List.length_replicate, rep_all hr]
  simp [isSeq]
theorem goodR_szd {n len : Nat} (hn : n ≤ 12) (hl : len ≤ 100) : Szd (.list (goodR n len)) := ⟨by show (goodR n len).length ≤ 1000; unfold goodR; rw [List.length_replicate]; omega, fun e he => by
  have he' : e ∈ goodR n len := he
  rw [(List.mem_replicate.mp he').2]
  show (List.replicate n (nI 0)).length ≤ 1000
  rw [List.length_replicate]
  omega⟩
theorem drop_rep {n len : Nat} : (goodR n len).drop 1 = List.replicate len (rowZ n) := by
  unfold goodR
  rw [List.drop_replicate]
  rfl
/-- a list of rows and one more -/
theorem bad_last {n len : Nat} {r : PyData} (hr : okRow n r = false) : okMk n len (.list (List.replicate len (rowZ n) ++ [r])) = false := by
  unfold okMk
  rw [show items (.list (List.replicate len (rowZ n) ++ [r])) = List.replicate len (rowZ n) ++ [r] from rfl, List.all_append, List.all_cons, hr]
  simp
theorem szd_last {n len : Nat} {r : PyData} (hn : n ≤ 12) (hl : len ≤ 101) (hr : (items r).length ≤ 1000) : Szd (.list (List.replicate len (rowZ n) ++ [r])) := ⟨by show (List.replicate len (rowZ n) ++ [r]).length ≤ 1000; rw [List.length_append, List.length_replicate]; show len + 1 ≤ 1000; omega, fun e he => by
  have he' : e ∈ List.replicate len (rowZ n) ++ [r] := he
  rcases List.mem_append.mp he' with h | h
  · rw [(List.mem_replicate.mp h).2]
    show (List.replicate n (nI 0)).length ≤ 1000
    rw [List.length_replicate]
    omega
  · rw [List.mem_singleton.mp h]
    exact hr⟩
theorem rp_row {n : Nat} {d : PyData} (hd : Rp d 0 1921) (hn : n ≤ 13) : Rp (.list (List.replicate n d)) 1 30000 := (rp_list (rp_rep hd)).mono (Nat.le_refl _) (by rw [List.length_replicate]; omega)
theorem rp_nI0 : Rp (nI 0) 0 1921 := rp_nat (k := 0) (by decide)
theorem rp_rows {ds : List PyData} {len : Nat} (hl : ds.length ≤ 103) (h : ∀ d ∈ ds, Rp d 1 30000) : Rp (.list ds) 2 4000000 := (rp_list h).mono (Nat.le_refl _) (by omega)
theorem rp_last {n len : Nat} {r : PyData} (hn : n ≤ 12) (hl : len ≤ 100) (hr : Rp r 1 30000) : Rp (.list (List.replicate len (rowZ n) ++ [r])) 2 4000000 := by
  refine rp_rows (len := len) (by rw [List.length_append, List.length_replicate]; show len + 1 ≤ 103; omega) fun e he => ?_
  rcases List.mem_append.mp he with h | h
  · rw [(List.mem_replicate.mp h).2]
    exact rp_row rp_nI0 (by omega)
  · rw [List.mem_singleton.mp h]
    exact hr
theorem bads_all {n len : Nat} (hn1 : 1 ≤ n) (hn : n ≤ 12) (hl : len ≤ 100) : ∀ d ∈ bads n len, okMk n len d = false ∧ Szd d ∧ Rp d 2 4000000 := by
  intro d hd
  unfold bads at hd
  rw [drop_rep] at hd
  simp only [List.mem_cons, List.not_mem_nil, or_false] at hd
  rcases hd with rfl | rfl | rfl | rfl | rfl | rfl | rfl
  · exact ⟨by simp [okMk, isSeq], ⟨by show 0 ≤ 1000; decide, fun e he => nomatch he⟩, rp_non.mono (by decide) (by decide)⟩
  · have e : goodR n len ++ (goodR n len).take 1 = List.replicate (len + 1) (rowZ n) ++ [rowZ n] := by
      unfold goodR
      rw [List.take_replicate]
      rw [show min 1 (len + 1) = 1 by omega]
      rfl
    rw [e]
    refine ⟨?_, szd_last (len := len + 1) hn (by omega) (by show (List.replicate n (nI 0)).length ≤ 1000; rw [List.length_replicate]; omega), ?_⟩
    · unfold okMk
      rw [show items (.list (List.replicate (len + 1) (rowZ n) ++ [rowZ n])) = List.replicate (len + 1) (rowZ n) ++ [rowZ n] from rfl, List.length_append, List.length_replicate]
      have : decide (len + 1 + [rowZ n].length = len + 1) = false := decide_eq_false (by show ¬ (len + 1 + 1 = len + 1); omega)
      rw [this]
      simp
    · refine rp_rows (len := len) (by rw [List.length_append, List.length_replicate]; show len + 1 + 1 ≤ 103; omega) fun e he => ?_
      have h1 : e = rowZ n := by
        rcases List.mem_append.mp he with h | h
        · exact (List.mem_replicate.mp h).2
        · exact List.mem_singleton.mp h
      rw [h1]
      exact rp_row rp_nI0 (by omega)
  · refine ⟨?_, ⟨by show (List.replicate len (rowZ n)).length ≤ 1000; rw [List.length_replicate]; omega, fun e he => ?_⟩, ?_⟩
    · unfold okMk
      rw [show items (.list (List.replicate len (rowZ n))) = List.replicate len (rowZ n) from rfl, List.length_replicate]
      have : decide (len = len + 1) = false := decide_eq_false (by omega)
      rw [this]
      simp
    · have he' : e ∈ List.replicate len (rowZ n) := he
      rw [(List.mem_replicate.mp he').2]
      show (List.replicate n (nI 0)).length ≤ 1000
      rw [List.length_replicate]
      omega
    · refine rp_rows (len := len) (by rw [List.length_replicate]; omega) fun e he => ?_
      rw [(List.mem_replicate.mp he).2]
      exact rp_row rp_nI0 (by omega)
  · refine ⟨bad_last ?_, szd_last hn (by omega) (by show (List.replicate (n + 1) (nI 0)).length ≤ 1000; rw [List.length_replicate]; omega), rp_last hn hl (rp_row rp_nI0 (by omega))⟩
    unfold okRow
    rw [show items (.list (List.replicate (n + 1) (nI 0))) = List.replicate (n + 1) (nI 0) from rfl, List.length_replicate]
    have : decide (n + 1 = n) = false := decide_eq_false (by omega)
    rw [this]
    simp
  · exact ⟨bad_last (by simp [okRow, isSeq]), szd_last hn (by omega) (by show 0 ≤ 1000; decide), rp_last hn hl (rp_non.mono (by decide) (by decide))⟩
  · refine ⟨bad_last ?_, szd_last hn (by omega) (by show (List.replicate n (PyData.bool true)).length ≤ 1000; rw [List.length_replicate]; omega), rp_last hn hl (rp_row ((rp_bl true).mono (by decide) (by decide)) (by omega))⟩
    unfold okRow
    rw [show items (.list (List.replicate n (.bool true))) = List.replicate n (.bool true) from rfl]
    have : (List.replicate n (PyData.bool true)).all isNumber = false := by
      cases n with
      | zero => omega
      | succ m => rw [List.replicate_succ, List.all_cons]; rfl
    rw [this]
    simp
  · exact ⟨by simp [okMk, isSeq], ⟨by show 0 ≤ 1000; decide, fun e he => nomatch he⟩, rp_zero.mono (by decide) (by decide)⟩
section
variable {K : FR} {Γ : Gam} {M : Mem} {ta : TE} {d : PyData}
theorem ev_reprD (h : Ev Γ M ta (tD K d)) (ok : ReprOk d) : Ev Γ M (tCB (rReprD K) (tCons ta tNil)) (tD K (.str d.shown)) := ev_cb (ea_cons h ea_nil) fun G H vs w t Q q => by
  cases t with
  | cons hx hr =>
    cases hr
    exact ⟨_, d, rfl, Dp.mono w.le hx, ok, q _ G H (Same.refl _) w (.str _)⟩
end
end Ag
set_option Elab.async false
set_option linter.all false
set_option maxRecDepth 100000
set_option maxHeartbeats 8000000
/-! AgY: refusals. -/
namespace Ag
open PySem PySem.Spec PyProof.Rows L2
/-- a def that makes lambdas: its code object, the table of that -/
structure LamDef (K : PySem.W.Frag) (mg : Str → Option Value) (base : Heap) (x : Str) (st : Stmt) (c Tb : Addr) : Prop where
  ex : ∃ f fd, mg x = some (.ref f) ∧ Fun K x x st f fd ∧ fd.code = .ref c
  tb : LamX.TabB base mg c Tb
section
variable {P : Program} {w : World} {K : PySem.W.Frag} {mg : Str → Option Value} {base : Heap} {x qual : Str} {st : Stmt} {N ps : List Str} {k : Nat} {α : Type} {P' : α → Prop} {C : α → Mem} {A : α → List Ty} {R : α → Ty} {X : α → XT}
theorem fnGc_ok {f c : Addr} {fd : FuncData} (F : Fun K x qual st f fd) (hc : fd.code = .ref c) (S : FnScope N ps (defScope st)) (hl : ∀ a, (A a).length = ps.length)
    (body : ∀ (B : Around) (outer : List Env) (s : Shared) (H : Hp) (Q : VK) (E : XK), (B.deeper (envOfC qual (defScope st) s.heap.objs.size f (.ref c))).guards = some [] → Room k (B.deeper (envOfC qual (defScope st) s.heap.objs.size f (.ref c))) →
      ∃ t, PSs (cxOf (L2.CX P w) P w K mg base N qual (defScope st) f (.ref c) B outer s H E) (defBody st) t ∧ ∀ (a : α) (G : Hp) (M : Mem), P' a → Sub (C a) M → Rt (Dn Q) G M (R a) → Er E G M (X a) → Go (g0 N (A a)) M t (Dn Q) G) :
    FnG P w K mg base (k + 1) f fd ps (PrX P' C A R X) := by
  obtain ⟨oc, od, kV, doc, pm, an, cdv, ct, osl, rfl, lk, hcd⟩ := F.ex
  have e : cdv = .ref c := hc
  subst e
  have len : ∀ vs H Q E, PrX P' C A R X vs H Q E → vs.length = ps.length := fun vs H Q E ⟨a, G, M, _, _, _, ht, _⟩ => (Tys.len ht).trans (hl a)
  constructor
  · exact len
  · intro B outer s H args us vs Q E hg hr e0 hb r hs
    refine LamX.run_ofS lk hcd S hr e0 hb r (len _ _ _ _ hs) fun hr' => ?_
    obtain ⟨a, G, M, hp, hw, hs, ht, hq, he⟩ := hs
    obtain ⟨t, h1, h2⟩ := body B outer s H Q E hg hr'
    exact ⟨t, h1, h2 a G M hp hs (fun v G' H' e' w' z => hq v G' H' e' w' z) he G _ H (Same.refl _) (sd_start ht) hw⟩
end
section
variable {K : FR} {Γ : Gam} {M : Mem} {ta te : TE} {ds : List PyData} {T : Ty} {X : Cx} {σ : L2.St}
theorem ev_tailR (h : Ev Γ M te (tL K ds)) : Ev Γ M (tSl (rSlQ K) te (tPart (tC (.int 1))) tNoPart) (tL K (ds.drop 1)) := by
  have q := ev_slL (ev_LD h) (eo_some (K := K) (i := ((1 : Nat) : Int)) ev_int) eo_none
  rw [cut_from] at q
  exact q
theorem ev_headR (h : Ev Γ M te (tL K ds)) : Ev Γ M (tSl (rSlQ K) te tNoPart (tPart (tC (.int 1)))) (tL K (ds.take 1)) := by
  have q := ev_slL (ev_LD h) eo_none (eo_some (K := K) (i := ((1 : Nat) : Int)) ev_int)
  rw [cut_to] at q
  exact q
theorem et_emptyNe (h : Ev Γ M te (tL K [])) : EvT Γ M (tTest (tOp (rNeD K) te (tLst tNil))) (· = false) := et_t (ev_ne (ev_LD h) (ev_LD (ev_lst (ds := []) ea_nil)) (by decide) (by decide)) (by simp [PyData.eqv, PyData.eqvAll])
theorem ev_emptyEq (h : Ev Γ M te (tL K [])) : Ev Γ M (tOp (rEqD K) te (tLst tNil)) (tB K true) := ev_to (ev_eq (ev_LD h) (ev_LD (ev_lst (ds := []) ea_nil)) (by decide) (by decide)) (by simp [PyData.eqv, PyData.eqvAll])
end
structure RfA where
  p : Addr
  tabs : List (List Nat)
  n : Nat
  log : List Nat
structure RfA.Ok (a : RfA) : Prop where
  t : OkT a.tabs a.n
  n2 : 2 ≤ a.n
  l : OkL a.tabs a.log
  lz : a.log.length ≤ 100
abbrev rfQ : Str := "_law_refusals.<locals>.<lambda>"
abbrev sp_Lrefusals (K : FR) (mg : MG) (Tb : Addr) : Sp := PrX (fun a : RfA => a.Ok) (fun a => [(a.p, cBox), (Tb, cTab rfQ)]) (fun a => [tV (.ref a.p), tMa K mg a.tabs a.n, tD K (.tuple (nL a.log))]) (fun _ => tB K true) (fun _ => xNo)
section
variable {P : Program} {w : World} {K : PySem.W.Frag} {mg : Str → Option Value} {base : Heap}
theorem ok_Lrefusals (T : Prg P K mg) (D : HdT K mg) {c Tb : Addr} (L : LamDef K mg base "_law_refusals" s_Lrefusals c Tb) : CalleeG P w K mg base 16 "_law_refusals" ["_law_box_here", "_law_machine", "_law_log_here"] (sp_Lrefusals K mg Tb) := by
  obtain ⟨f, fd, hm, F, hc⟩ := L.ex
  refine ⟨f, fd, fnGc_ok F hc sc_Lrefusals (fun _ => rfl) ?_, hm, F.kp, F.binds (fun _ _ _ _ _ _ us hl => match us, hl with | [_, _, _], _ => rfl)⟩
  intro B outer s H Q E hgd hr
  have hu := hu_of hr
  have hu64 := hu64_of hr
  have hu100 := hu100_of hr
  refine ⟨_, (pss_cons (ps_set (i := 3) sc_Lrefusals.nd rfl (Or.inr rfl) (pe_op op_rep (pe_lst (pa_cons (pe_op op_rep (pe_lst (pa_cons pe_int pa_nil)) (fldK K (pv 1))) pa_nil)) (pe_op op_add (pe_callB (lenK K) rfl T.n_len (by decide +kernel) (pa_cons (pv 2) pa_nil)) pe_int)))
      (pss_cons (ps_set (i := 4) sc_Lrefusals.nd rfl (Or.inr rfl) (pcallG (ok_Lpick T) hr passL (pa_cons (pv 0) (pa_cons (pe_lst (pa_cons pe_non (pa_cons (pe_op op_cat (pv 3) (slK K (pv 3) po_none (po_some pe_int))) (pa_cons (slK K (pv 3) (po_some pe_int) po_none) (pa_cons (pe_op op_cat (slK K (pv 3) (po_some pe_int) po_none) (pe_lst (pa_cons (pe_op op_rep (pe_lst (pa_cons pe_int pa_nil)) (pe_op op_add (fldK K (pv 1)) pe_int)) pa_nil))) (pa_cons (pe_op op_cat (slK K (pv 3) (po_some pe_int) po_none) (pe_lst (pa_cons pe_non pa_nil))) (pa_cons (pe_op op_cat (slK K (pv 3) (po_some pe_int) po_none) (pe_lst (pa_cons (pe_op op_rep (pe_lst (pa_cons pe_bl pa_nil)) (fldK K (pv 1))) pa_nil))) (pa_cons pe_str pa_nil)))))))) pa_nil))))
      (pss_cons (ps_set (i := 5) sc_Lrefusals.nd rfl (Or.inl rfl) (pe_lst (pa_cons (pe_lam L.tb rfl (LamX.lamS_by (sc := defScope s_Lrefusals) (by decide +kernel))) pa_nil)))
      (pss_cons (ps_expr (appendK K (pv 5) (pa_cons (pe_lam L.tb rfl (LamX.lamS_by (sc := defScope s_Lrefusals) (by decide +kernel))) pa_nil)))
      (pss_cons (ps_expr (appendK K (pv 5) (pa_cons (pe_lam L.tb rfl (LamX.lamS_by (sc := defScope s_Lrefusals) (by decide +kernel))) pa_nil)))
      (pss_cons (ps_if (pt_cmpR (neK K hu64) (pe_lcS rfl sc_Lrefusals.nd (seqK K (pv 5)) (blkOk_by (own := [("_law_ask", 6)]) (N := N_Lrefusals) (sc := defScope s_Lrefusals) (by decide +kernel)) (fun _ _ _ _ _ => (pg_name (i := 6) sc_Lrefusals.nd rfl (Or.inl rfl))) (fun pins σ0 s0 H0 C cl fp back => (pts_one (pt_cmpR (neK K hu64) (pe_heard (X := (cxOf (L2.CX P w) P w K mg base N_Lrefusals "_law_refusals" (defScope s_Lrefusals) f (.ref c) B outer s H E)) ⟨D, T.d_Lheard⟩ hgd hr back (pv 6)) (pe_tup (pa_cons pe_str (pa_cons (pe_callB (reprK K hgd hu100) rfl T.n_repr (by decide +kernel) (pa_cons (pv 4) pa_nil)) pa_nil))) (nomark _)))) (fun _ _ _ _ _ => (pv 6))) (pe_lst pa_nil) (nomark _)) (pss_one (ps_ret pe_bl)) pss_nil)
      (pss_cons (ps_set (i := 5) sc_Lrefusals.nd rfl (Or.inl rfl) (pe_lst (pa_cons (pe_lam L.tb rfl (LamX.lamS_by (sc := defScope s_Lrefusals) (by decide +kernel))) pa_nil)))
      (pss_cons (ps_expr (appendK K (pv 5) (pa_cons (pe_lam L.tb rfl (LamX.lamS_by (sc := defScope s_Lrefusals) (by decide +kernel))) pa_nil)))
      (pss_cons (ps_expr (appendK K (pv 5) (pa_cons (pe_lam L.tb rfl (LamX.lamS_by (sc := defScope s_Lrefusals) (by decide +kernel))) pa_nil)))
      (pss_cons (ps_if (pt_cmpR (neK K hu64) (pe_lcS rfl sc_Lrefusals.nd (seqK K (pv 5)) (blkOk_by (own := [("_law_ask", 6)]) (N := N_Lrefusals) (sc := defScope s_Lrefusals) (by decide +kernel)) (fun _ _ _ _ _ => (pg_name (i := 6) sc_Lrefusals.nd rfl (Or.inl rfl))) (fun pins σ0 s0 H0 C cl fp back => (pts_one (pt_cmpR (neK K hu64) (pe_heard (X := (cxOf (L2.CX P w) P w K mg base N_Lrefusals "_law_refusals" (defScope s_Lrefusals) f (.ref c) B outer s H E)) ⟨D, T.d_Lheard⟩ hgd hr back (pv 6)) (pe_tup (pa_cons pe_str (pa_cons pe_int pa_nil))) (nomark _)))) (fun _ _ _ _ _ => (pv 6))) (pe_lst pa_nil) (nomark _)) (pss_one (ps_ret pe_bl)) pss_nil)
      (pss_cons (ps_set (i := 5) sc_Lrefusals.nd rfl (Or.inl rfl) (pe_lst (pa_cons (pe_lam L.tb rfl (LamX.lamS_by (sc := defScope s_Lrefusals) (by decide +kernel))) pa_nil)))
      (pss_cons (ps_expr (appendK K (pv 5) (pa_cons (pe_lam L.tb rfl (LamX.lamS_by (sc := defScope s_Lrefusals) (by decide +kernel))) pa_nil)))
      (pss_cons (ps_expr (appendK K (pv 5) (pa_cons (pe_lam L.tb rfl (LamX.lamS_by (sc := defScope s_Lrefusals) (by decide +kernel))) pa_nil)))
      (pss_cons (ps_if (pt_cmpR (neK K hu64) (pe_lcS rfl sc_Lrefusals.nd (seqK K (pv 5)) (blkOk_by (own := [("_law_ask", 6)]) (N := N_Lrefusals) (sc := defScope s_Lrefusals) (by decide +kernel)) (fun _ _ _ _ _ => (pg_name (i := 6) sc_Lrefusals.nd rfl (Or.inl rfl))) (fun pins σ0 s0 H0 C cl fp back => (pts_one (pt_cmpR (neK K hu64) (pe_heard (X := (cxOf (L2.CX P w) P w K mg base N_Lrefusals "_law_refusals" (defScope s_Lrefusals) f (.ref c) B outer s H E)) ⟨D, T.d_Lheard⟩ hgd hr back (pv 6)) (pe_tup (pa_cons pe_str (pa_cons pe_str pa_nil))) (nomark _)))) (fun _ _ _ _ _ => (pv 6))) (pe_lst pa_nil) (nomark _)) (pss_one (ps_ret pe_bl)) pss_nil)
      (pss_cons (ps_set (i := 5) sc_Lrefusals.nd rfl (Or.inl rfl) (pe_lst (pa_cons (pe_lam L.tb rfl (LamX.lamS_by (sc := defScope s_Lrefusals) (by decide +kernel))) pa_nil)))
      (pss_cons (ps_expr (appendK K (pv 5) (pa_cons (pe_lam L.tb rfl (LamX.lamS_by (sc := defScope s_Lrefusals) (by decide +kernel))) pa_nil)))
      (pss_cons (ps_expr (appendK K (pv 5) (pa_cons (pe_lam L.tb rfl (LamX.lamS_by (sc := defScope s_Lrefusals) (by decide +kernel))) pa_nil)))
      (pss_one (ps_ret (pe_cmpR (eqK K hu64) (pe_lcS rfl sc_Lrefusals.nd (seqK K (pv 5)) (blkOk_by (own := [("_law_ask", 6)]) (N := N_Lrefusals) (sc := defScope s_Lrefusals) (by decide +kernel)) (fun _ _ _ _ _ => (pg_name (i := 6) sc_Lrefusals.nd rfl (Or.inl rfl))) (fun pins σ0 s0 H0 C cl fp back => (pts_one (pt_cmpR (neK K hu64) (pe_heard (X := (cxOf (L2.CX P w) P w K mg base N_Lrefusals "_law_refusals" (defScope s_Lrefusals) f (.ref c) B outer s H E)) ⟨D, T.d_Lheard⟩ hgd hr back (pv 6)) (pe_tup (pa_cons pe_str (pa_cons pe_str pa_nil))) (nomark _)))) (fun _ _ _ _ _ => (pv 6))) (pe_lst pa_nil) (nomark _))))))))))))))))))))), ?_⟩
  intro a G M hp hcM hret hexc
  obtain ⟨p, tabs, n, log⟩ := a
  obtain ⟨hT, hn2, hL, hlz⟩ := hp
  have hT : OkT tabs n := hT
  have hL : OkL tabs log := hL
  have hlz : log.length ≤ 100 := hlz
  have hn2 : 2 ≤ n := hn2
  have hn12 := hT.n2
  have hb : (p, cBox) ∈ M := hcM _ List.mem_cons_self
  have hTb : (Tb, cTab rfQ) ∈ M := hcM _ (List.mem_cons_of_mem _ List.mem_cons_self)
  let XR : Cx := cxOf (L2.CX P w) P w K mg base N_Lrefusals "_law_refusals" (defScope s_Lrefusals) f (.ref c) B outer s H E
  have hlen : ∀ {Γ : Gam} {M : Mem}, Γ[2]? = some (some (tD K (.tuple (nL log)))) → Ev Γ M (tOp (rI0 fun i j => .int (i + j)) (tCB (rLenQ K) (tCons (tVar 2) tNil)) (tC (.int 1))) (tN K (log.length + 1)) := fun h => ev_addN (b := 1) (ev_lenN (ev_tQ (ev_var h))) ev_int
  have hGl : (goodR n log.length).length = log.length + 1 := by unfold goodR; rw [List.length_replicate]
  refine go_set (T := tL K (goodR n log.length)) (ev_rep1 (d := rowZ n) (ev_lst (ds := [rowZ n]) (ea_cons (ev_LD (ev_rep1 (d := nI 0) (ev_lst (ds := [nI 0]) (ea_cons ev_int ea_nil)) (ev_states T (ev_var (i := 1) rfl)) (by omega))) ea_nil) (by exact (by decide : 1 ≤ 1000000))) (hlen rfl) (by omega)) ?_
  let Γ1 : Gam := [some (tV (.ref p)), some (tMa K mg tabs n), some (tD K (.tuple (nL log))), some (tL K (goodR n log.length)), none, none, none]
  have hg3 : ∀ {M : Mem}, Ev Γ1 M (tVar 3) (tL K (goodR n log.length)) := ev_var rfl
  have hst : ∀ {M : Mem}, Ev Γ1 M (tFld K (tVar 1) "states") (tN K n) := ev_states T (ev_var (i := 1) rfl)
  have hz1 : ((goodR n log.length).drop 1).length = log.length := by rw [List.length_drop, hGl]; rfl
  refine go_setX (T := fun d : { d : PyData // d ∈ bads n log.length } => tD K d.1) (ev_pick (ds := bads n log.length) (ev_var (i := 0) rfl) (ev_LD (ev_lst (ds := bads n log.length) (ea_cons ev_non (ea_cons (ev_LD (ev_cat hg3 (ev_headR hg3) (by rw [hGl, List.length_take]; omega)))
    (ea_cons (ev_LD (ev_tailR hg3)) (ea_cons (ev_LD (ev_cat (ev_tailR hg3) (ev_lst (ds := [.list (List.replicate (n + 1) (nI 0))]) (ea_cons (ev_LD (ev_rep1 (d := nI 0) (ev_lst (ds := [nI 0]) (ea_cons ev_int ea_nil)) (ev_addN (b := 1) hst ev_int) (by omega))) ea_nil) (by exact (by decide : 1 ≤ 1000000))) (by rw [hz1]; show log.length + 1 ≤ 1000000; omega)))
    (ea_cons (ev_LD (ev_cat (ev_tailR hg3) (ev_lst (ds := [.none]) (ea_cons ev_non ea_nil)) (by rw [hz1]; show log.length + 1 ≤ 1000000; omega)))
    (ea_cons (ev_LD (ev_cat (ev_tailR hg3) (ev_lst (ds := [.list (List.replicate n (.bool true))]) (ea_cons (ev_LD (ev_rep1 (d := .bool true) (ev_lst (ds := [.bool true]) (ea_cons ev_bl ea_nil)) hst (by omega))) ea_nil) (by exact (by decide : 1 ≤ 1000000))) (by rw [hz1]; show log.length + 1 ≤ 1000000; omega)))
    (ea_cons ev_str ea_nil))))))) (by exact (by decide : 7 ≤ 1000000)))) hb (by exact (by decide : 0 < 7)) (by exact (by decide : 7 < 1000000))) fun ⟨bad, hbad⟩ => ?_
  obtain ⟨hmk, hsz, hrp⟩ := bads_all (by omega) hn12 hlz bad hbad
  have rok : ReprOk bad := hrp.ok (by decide) (by decide)
  let Γ0 : Gam := [some (tV (.ref p)), some (tMa K mg tabs n), some (tD K (.tuple (nL log))), some (tL K (goodR n log.length)), some (tD K bad), none, none]
  have le : ∀ {T : Ty}, Le Γ0 [some (tV (.ref p)), some (tMa K mg tabs n), some (tD K (.tuple (nL log))), some (tL K (goodR n log.length)), some (tD K bad), some T, none] := .same (.same (.same (.same (.same (.no (.same .nil))))))
  have hgz : Szd (.list (goodR n log.length)) := goodR_szd hn12 hlz
  have h9 : tabs.length ≤ 9 := Nat.le_trans hT.l2 (by decide)
  have hk4 : GoodKp log.length (.tuple (nL [])) [] := .seq true [] (by decide) (by decide) (fun x hx => nomatch hx)
  let up1 : UpA := ⟨tabs, n, true, log, bad, .tuple [], [], nI 5, [], .none, none, .badMark⟩
  let up2 : UpA := ⟨tabs, n, true, [9], .none, .none, [], .none, [], .none, none, .badLog⟩
  let up3 : UpA := ⟨tabs, n, true, log, .list (goodR n log.length), .none, List.range n, .tuple (nL [0, 0]), [], nI 0, none, .badK⟩
  let up4 : UpA := ⟨tabs, n, true, log, .list (goodR n log.length), .none, List.range n, .tuple (nL []), [], nI 0, none, .badB⟩
  have r3 : Rp (.tuple (nL [0, 0])) 1 30000 := (rp_tup (j := 0) (B := 1921) (fun d hd => by
    have e : d = nI 0 := by
      simp only [nL, List.map_cons, List.map_nil, List.mem_cons, List.not_mem_nil, or_false, or_self] at hd
      exact hd
    rw [e]
    exact rp_nI0)).mono (Nat.le_refl _) (by decide)
  have e3 : (PyData.tuple (nL [0, 0])).shown = "(0, 0)" := by decide +kernel
  have e4 : (nI 0).shown = "0" := by decide +kernel
  refine go_setAsks (T := tAsk XR 13 Γ0 M false bad) (ev_ask (k := 13) (Γ0 := Γ0) (M0 := M) (lg := false) (d := bad) _ hTb ⟨LamX.lamS_by (sc := defScope s_Lrefusals) (by decide +kernel), fun _ _ _ _ _ => rfl⟩
      (fun f c' B outer s H E r => pcallKG (okk_is_safe_marking_kw3_starts_kept T) r (passes_call (takes_of rfl rfl rfl rfl) (fun _ _ _ _ h => h)) (pa_cons (pv 1) (pa_cons (pv 2) (pa_cons (pv 4) pa_nil))) (pk_cons (pe_tup pa_nil) (pk_cons pe_int pk_nil)))
      (raiser_of fun M' G0 E sub hX => rs_is_safe_marking_kw3_starts_kept up1 (ev_var (i := 1) rfl) (ev_var (i := 2) rfl) (ev_var (i := 4) rfl) (ev_tup (ds := []) ea_nil) ev_int rfl hT ⟨hL, hsz, hmk⟩ (fun z => nomatch z) hX)) fun p1 => ?_
  refine go_appAsks (ev_var rfl) (ev_ask (k := 13) (Γ0 := Γ0) (M0 := M) (lg := false) (d := bad) _ (List.mem_cons_of_mem _ hTb) ⟨LamX.lamS_by (sc := defScope s_Lrefusals) (by decide +kernel), fun _ _ _ _ _ => rfl⟩
      (fun f c' B outer s H E r => pcallKG (okk_unsafe_paper_kw3_starts_kept T) r (passes_call (takes_of rfl rfl rfl rfl) (fun _ _ _ _ h => h)) (pa_cons (pv 1) (pa_cons (pv 2) (pa_cons (pv 4) pa_nil))) (pk_cons (pe_tup pa_nil) (pk_cons pe_int pk_nil)))
      (raiser_of fun M' G0 E sub hX => rs_unsafe_paper_kw3_starts_kept up1 (ev_var (i := 1) rfl) (ev_var (i := 2) rfl) (ev_var (i := 4) rfl) (ev_tup (ds := []) ea_nil) ev_int rfl hT ⟨hL, hsz, hmk⟩ (fun z => nomatch z) hX)) (by decide) ?_
  refine go_appAsks (ev_var rfl) (ev_ask (k := 13) (Γ0 := Γ0) (M0 := M) (lg := false) (d := bad) _ (List.mem_cons_of_mem _ hTb) ⟨LamX.lamS_by (sc := defScope s_Lrefusals) (by decide +kernel), fun _ _ _ _ _ => rfl⟩
      (fun f c' B outer s H E r => pcallKG (okk_unsafe_holds_kw4_starts_kept T) r (passes_call (takes_of rfl rfl rfl rfl) (fun _ _ _ _ h => h)) (pa_cons (pv 1) (pa_cons (pv 2) (pa_cons (pv 4) (pa_cons pe_non pa_nil)))) (pk_cons (pe_tup pa_nil) (pk_cons pe_int pk_nil)))
      (raiser_of fun M' G0 E sub hX => rs_unsafe_holds_kw4_starts_kept up1 (ev_var (i := 1) rfl) (ev_var (i := 2) rfl) (ev_var (i := 4) rfl) ev_non (ev_tup (ds := []) ea_nil) ev_int rfl hT ⟨hL, hsz, hmk⟩ (fun z => nomatch z) hX)) (by decide) ?_
  refine go_keepAsks (i := 5) rfl ?_
  refine go_ifs (P := (· = false)) (et_emptyNe (ev_lc0 (K := K) (j := 6) (i := 5) (n := 3) (T := tAsk XR 13 Γ0 M false bad) rfl fun G σ τ H M' sd st w sub Q hq => heard_is (X := XR) (Γ0 := Γ0) (M0 := M) (lg := false) (d := bad) (k := 13) (fun _ => rok) rfl (le.sd sd) st w sub (ev_tup (ds := [.str "refused", .str bad.shown]) (ea_cons ev_str (ea_cons (ev_reprD (ev_var (i := 4) rfl) rok) ea_nil)) (by exact (by decide : 2 ≤ 1000000))) (hear_shF hrp) hq (hear_eqF bad))) (fun z => nomatch z) fun _ => ?_
  refine go_setAsks (T := tAsk XR 13 Γ0 M true (.int 0)) (ev_ask (k := 13) (Γ0 := Γ0) (M0 := M) (lg := true) (d := (.int 0)) _ hTb ⟨LamX.lamS_by (sc := defScope s_Lrefusals) (by decide +kernel), fun _ _ _ _ _ => rfl⟩
      (fun f c' B outer s H E r => pcallDG (okd_is_safe_marking T) r (passes_call (takes_of rfl rfl rfl rfl) (fun _ _ _ _ h => h)) (pa_cons (pv 1) (pa_cons (pe_tup (pa_cons pe_int pa_nil)) (pa_cons pe_non pa_nil))))
      (raiser_of fun M' G0 E sub hX => rs_is_safe_marking_d up2 (ev_var (i := 1) rfl) (ev_tup (ds := nL [9]) (ea_cons ev_int ea_nil)) ev_non rfl rfl rfl hT ⟨9, rfl, h9⟩ (fun z => nomatch z) hX)) fun p2 => ?_
  refine go_appAsks (ev_var rfl) (ev_ask (k := 13) (Γ0 := Γ0) (M0 := M) (lg := true) (d := (.int 0)) _ (List.mem_cons_of_mem _ hTb) ⟨LamX.lamS_by (sc := defScope s_Lrefusals) (by decide +kernel), fun _ _ _ _ _ => rfl⟩
      (fun f c' B outer s H E r => pcallDG (okd_unsafe_paper T) r (passes_call (takes_of rfl rfl rfl rfl) (fun _ _ _ _ h => h)) (pa_cons (pv 1) (pa_cons (pe_tup (pa_cons pe_int pa_nil)) (pa_cons pe_non pa_nil))))
      (raiser_of fun M' G0 E sub hX => rs_unsafe_paper_d up2 (ev_var (i := 1) rfl) (ev_tup (ds := nL [9]) (ea_cons ev_int ea_nil)) ev_non rfl rfl rfl hT ⟨9, rfl, h9⟩ (fun z => nomatch z) hX)) (by decide) ?_
  refine go_appAsks (ev_var rfl) (ev_ask (k := 13) (Γ0 := Γ0) (M0 := M) (lg := true) (d := (.int 0)) _ (List.mem_cons_of_mem _ hTb) ⟨LamX.lamS_by (sc := defScope s_Lrefusals) (by decide +kernel), fun _ _ _ _ _ => rfl⟩
      (fun f c' B outer s H E r => pcallDG (okd_unsafe_holds T) r (passes_call (takes_of rfl rfl rfl rfl) (fun _ _ _ _ h => h)) (pa_cons (pv 1) (pa_cons (pe_tup (pa_cons pe_int pa_nil)) (pa_cons pe_non (pa_cons pe_non pa_nil)))))
      (raiser_of fun M' G0 E sub hX => rs_unsafe_holds_d up2 (ev_var (i := 1) rfl) (ev_tup (ds := nL [9]) (ea_cons ev_int ea_nil)) ev_non ev_non rfl rfl rfl hT ⟨9, rfl, h9⟩ (fun z => nomatch z) hX)) (by decide) ?_
  refine go_keepAsks (i := 5) rfl ?_
  refine go_ifs (P := (· = false)) (et_emptyNe (ev_lc0 (K := K) (j := 6) (i := 5) (n := 3) (T := tAsk XR 13 Γ0 M true (.int 0)) rfl fun G σ τ H M' sd st w sub Q hq => heard_is (X := XR) (Γ0 := Γ0) (M0 := M) (lg := true) (d := (.int 0)) (k := 13) (fun z => nomatch z) rfl (le.sd sd) st w sub (ev_tup (ds := [.str "log", .int 0]) (ea_cons ev_str (ea_cons ev_int ea_nil))) hear_shT hq hear_eqT)) (fun z => nomatch z) fun _ => ?_
  refine go_setAsks (T := tAsk XR 13 Γ0 M false (.tuple (nL [0, 0]))) (ev_ask (k := 13) (Γ0 := Γ0) (M0 := M) (lg := false) (d := (.tuple (nL [0, 0]))) _ hTb ⟨LamX.lamS_by (sc := defScope s_Lrefusals) (by decide +kernel), fun _ _ _ _ _ => rfl⟩
      (fun f c' B outer s H E r => pcallKG (okk_is_safe_marking_kw3_kept_bound T) r (passes_call (takes_of rfl rfl rfl rfl) (fun _ _ _ _ h => h)) (pa_cons (pv 1) (pa_cons (pv 2) (pa_cons (pv 3) pa_nil))) (pk_cons (pe_tup (pa_cons pe_int (pa_cons pe_int pa_nil))) (pk_cons pe_int pk_nil)))
      (raiser_of fun M' G0 E sub hX => rs_is_safe_marking_kw3_kept_bound up3 (ev_var (i := 1) rfl) (ev_var (i := 2) rfl) (ev_LD (ev_var (i := 3) rfl)) (ev_tup (ds := nL [0, 0]) (ea_cons ev_int (ea_cons ev_int ea_nil))) ev_int rfl hT ⟨hL, hgz, goodR_okMk _ _, .none, rfl⟩ (fun z => nomatch z) hX)) fun p3 => ?_
  refine go_appAsks (ev_var rfl) (ev_ask (k := 13) (Γ0 := Γ0) (M0 := M) (lg := false) (d := (.tuple (nL [0, 0]))) _ (List.mem_cons_of_mem _ hTb) ⟨LamX.lamS_by (sc := defScope s_Lrefusals) (by decide +kernel), fun _ _ _ _ _ => rfl⟩
      (fun f c' B outer s H E r => pcallKG (okk_unsafe_paper_kw3_kept_bound T) r (passes_call (takes_of rfl rfl rfl rfl) (fun _ _ _ _ h => h)) (pa_cons (pv 1) (pa_cons (pv 2) (pa_cons (pv 3) pa_nil))) (pk_cons (pe_tup (pa_cons pe_int (pa_cons pe_int pa_nil))) (pk_cons pe_int pk_nil)))
      (raiser_of fun M' G0 E sub hX => rs_unsafe_paper_kw3_kept_bound up3 (ev_var (i := 1) rfl) (ev_var (i := 2) rfl) (ev_LD (ev_var (i := 3) rfl)) (ev_tup (ds := nL [0, 0]) (ea_cons ev_int (ea_cons ev_int ea_nil))) ev_int rfl hT ⟨hL, hgz, goodR_okMk _ _, .none, rfl⟩ (fun z => nomatch z) hX)) (by decide) ?_
  refine go_appAsks (ev_var rfl) (ev_ask (k := 13) (Γ0 := Γ0) (M0 := M) (lg := false) (d := (.tuple (nL [0, 0]))) _ (List.mem_cons_of_mem _ hTb) ⟨LamX.lamS_by (sc := defScope s_Lrefusals) (by decide +kernel), fun _ _ _ _ _ => rfl⟩
      (fun f c' B outer s H E r => pcallKG (okk_unsafe_holds_kw4_kept_bound T) r (passes_call (takes_of rfl rfl rfl rfl) (fun _ _ _ _ h => h)) (pa_cons (pv 1) (pa_cons (pv 2) (pa_cons (pv 3) (pa_cons pe_non pa_nil)))) (pk_cons (pe_tup (pa_cons pe_int (pa_cons pe_int pa_nil))) (pk_cons pe_int pk_nil)))
      (raiser_of fun M' G0 E sub hX => rs_unsafe_holds_kw4_kept_bound up3 (ev_var (i := 1) rfl) (ev_var (i := 2) rfl) (ev_LD (ev_var (i := 3) rfl)) ev_non (ev_tup (ds := nL [0, 0]) (ea_cons ev_int (ea_cons ev_int ea_nil))) ev_int rfl hT ⟨hL, hgz, goodR_okMk _ _, .none, rfl⟩ (fun z => nomatch z) hX)) (by decide) ?_
  refine go_keepAsks (i := 5) rfl ?_
  refine go_ifs (P := (· = false)) (et_emptyNe (ev_lc0 (K := K) (j := 6) (i := 5) (n := 3) (T := tAsk XR 13 Γ0 M false (.tuple (nL [0, 0]))) rfl fun G σ τ H M' sd st w sub Q hq => heard_is (X := XR) (Γ0 := Γ0) (M0 := M) (lg := false) (d := (.tuple (nL [0, 0]))) (k := 13) (fun _ => r3.ok (by decide) (by decide)) rfl (le.sd sd) st w sub (ev_to (ev_tup (ds := [.str "refused", .str "(0, 0)"]) (ea_cons ev_str (ea_cons ev_str ea_nil))) (by rw [← e3]; rfl)) (hear_shF r3) hq (hear_eqF _))) (fun z => nomatch z) fun _ => ?_
  refine go_setAsks (T := tAsk XR 13 Γ0 M false (nI 0)) (ev_ask (k := 13) (Γ0 := Γ0) (M0 := M) (lg := false) (d := (nI 0)) _ hTb ⟨LamX.lamS_by (sc := defScope s_Lrefusals) (by decide +kernel), fun _ _ _ _ _ => rfl⟩
      (fun f c' B outer s H E r => pcallKG (okk_is_safe_marking_kw3_kept_bound T) r (passes_call (takes_of rfl rfl rfl rfl) (fun _ _ _ _ h => h)) (pa_cons (pv 1) (pa_cons (pv 2) (pa_cons (pv 3) pa_nil))) (pk_cons (pe_tup pa_nil) (pk_cons pe_int pk_nil)))
      (raiser_of fun M' G0 E sub hX => rs_is_safe_marking_kw3_kept_bound up4 (ev_var (i := 1) rfl) (ev_var (i := 2) rfl) (ev_LD (ev_var (i := 3) rfl)) (ev_tup (ds := []) ea_nil) ev_int rfl hT ⟨hL, hgz, goodR_okMk _ _, .none, hk4, rfl⟩ (fun z => nomatch z) hX)) fun p4 => ?_
  refine go_appAsks (ev_var rfl) (ev_ask (k := 13) (Γ0 := Γ0) (M0 := M) (lg := false) (d := (nI 0)) _ (List.mem_cons_of_mem _ hTb) ⟨LamX.lamS_by (sc := defScope s_Lrefusals) (by decide +kernel), fun _ _ _ _ _ => rfl⟩
      (fun f c' B outer s H E r => pcallKG (okk_unsafe_paper_kw3_kept_bound T) r (passes_call (takes_of rfl rfl rfl rfl) (fun _ _ _ _ h => h)) (pa_cons (pv 1) (pa_cons (pv 2) (pa_cons (pv 3) pa_nil))) (pk_cons (pe_tup pa_nil) (pk_cons pe_int pk_nil)))
      (raiser_of fun M' G0 E sub hX => rs_unsafe_paper_kw3_kept_bound up4 (ev_var (i := 1) rfl) (ev_var (i := 2) rfl) (ev_LD (ev_var (i := 3) rfl)) (ev_tup (ds := []) ea_nil) ev_int rfl hT ⟨hL, hgz, goodR_okMk _ _, .none, hk4, rfl⟩ (fun z => nomatch z) hX)) (by decide) ?_
  refine go_appAsks (ev_var rfl) (ev_ask (k := 13) (Γ0 := Γ0) (M0 := M) (lg := false) (d := (nI 0)) _ (List.mem_cons_of_mem _ hTb) ⟨LamX.lamS_by (sc := defScope s_Lrefusals) (by decide +kernel), fun _ _ _ _ _ => rfl⟩
      (fun f c' B outer s H E r => pcallKG (okk_unsafe_holds_kw4_kept_bound T) r (passes_call (takes_of rfl rfl rfl rfl) (fun _ _ _ _ h => h)) (pa_cons (pv 1) (pa_cons (pv 2) (pa_cons (pv 3) (pa_cons pe_non pa_nil)))) (pk_cons (pe_tup pa_nil) (pk_cons pe_int pk_nil)))
      (raiser_of fun M' G0 E sub hX => rs_unsafe_holds_kw4_kept_bound up4 (ev_var (i := 1) rfl) (ev_var (i := 2) rfl) (ev_LD (ev_var (i := 3) rfl)) ev_non (ev_tup (ds := []) ea_nil) ev_int rfl hT ⟨hL, hgz, goodR_okMk _ _, .none, hk4, rfl⟩ (fun z => nomatch z) hX)) (by decide) ?_
  refine go_keepAsks (i := 5) rfl ?_
  exact go_ret (ev_emptyEq (ev_lc0 (K := K) (j := 6) (i := 5) (n := 3) (T := tAsk XR 13 Γ0 M false (nI 0)) rfl fun G σ τ H M' sd st w sub Q hq => heard_is (X := XR) (Γ0 := Γ0) (M0 := M) (lg := false) (d := (nI 0)) (k := 13) (fun _ => rp_nI0.ok (by decide) (by decide)) rfl (le.sd sd) st w sub (ev_to (ev_tup (ds := [.str "refused", .str "0"]) (ea_cons ev_str (ea_cons ev_str ea_nil))) (by rw [← e4]; rfl)) (hear_shF rp_nI0) hq (hear_eqF _))) hret
end
end Ag
set_option Elab.async false
set_option linter.all false
set_option maxRecDepth 100000
set_option maxHeartbeats 4000000
/-! AgV: rules for the law's own walk. -/
namespace Ag
open PySem PySem.Spec PyProof.Rows L2
section
variable {K : FR} {mg : MG} {Γ : Gam} {M : Mem} {G0 : Hp} {E : XK} {t1 t2 t3 t4 t5 t6 t7 te : TE} {ta : TA} {T1 T2 : Ty} {D : Ends} {ts : TS} {i j : Nat} {c : Addr × Ct} {d : PyData} {B n : Nat}
theorem nx_tail (h : Nx D G0 Γ M) : Nx D G0 Γ (c :: M) := fun G σ H e s w => h G σ H e s w.tail
theorem sub1 (h : c ∈ M) : Sub [c] M := fun x hx => by rw [List.mem_singleton.mp hx]; exact h
theorem sub2 {c' : Addr × Ct} (h : c ∈ M) (h' : c' ∈ M) : Sub [c, c'] M := fun x hx => by
  cases hx with
  | head => exact h
  | tail _ hx => rw [List.mem_singleton.mp hx]; exact h'
theorem go_setC {α : Type} {P : α → Prop} {A : α → List Ty} {Cl : α → Ct} (a : α) (h : EvA Γ M ta (A a)) (hP : P a) (k : ∀ p, Go (Γ.set i (some (tV (.ref p)))) ((p, Cl a) :: M) ts D G0) : Go Γ M (tSeq (tAsg (tCall (PrC P A Cl) [] E ta) (gName i)) ts) D G0 := by
  intro G σ H e s w
  refine h G σ H s w _ ?_
  intro vs G1 H1 e1 w1 h1
  refine ⟨a, G1, M, hP, w1, by rw [List.append_nil]; exact h1, ?_⟩
  intro p G2 H2 e2 w2
  exact k p G2 _ H2 ((e.trans e1).trans e2) ((s.mono (e1.trans e2)).set i (T := tV (.ref p)) rfl) w2
theorem go_par (h : EvA Γ M ta [T1, T2]) (k : Go ((Γ.set i (some T1)).set j (some T2)) M ts D G0) : Go Γ M (tSeq (tPar i j ta) ts) D G0 := by
  intro G σ H e s w
  refine h G σ H s w _ ?_
  intro vs G1 H1 e1 w1 h1
  cases h1 with
  | cons hx hr =>
    cases hr with
    | cons hy hr =>
      cases hr
      exact ⟨_, _, rfl, k G1 _ H1 (e.trans e1) (((s.mono e1).set i hx).set j hy) w1⟩
theorem go_ex {α : Type} {T : α → Ty} (h : Γ[i]? = some (some (tEx T))) (k : ∀ a, Go (Γ.set i (some (T a))) M ts D G0) : Go Γ M ts D G0 := by
  intro G σ H e s w
  obtain ⟨a, s2⟩ := sd_ex h s
  exact k a G σ H e s2 w
theorem go_pairX {α : Type} {f g : α → PyData} (h : Ev Γ M te (tEx fun a : α => tD K (.tuple [f a, g a]))) (k : ∀ a, Go ((Γ.set i (some (tD K (f a)))).set j (some (tD K (g a)))) M ts D G0) :
    Go Γ M (tSeq (tAsg te (gTup K 2 (gCons (gName i) (gCons (gName j) gNil)))) ts) D G0 := by
  intro G σ H e s w
  refine h G σ H s w _ ?_
  rintro v G1 H1 e1 w1 ⟨a, h1⟩
  refine tg_pair (K := K) (d1 := f a) (d2 := g a) (j1 := i) (j2 := j) (Γ := Γ) G1 σ M H1 v (s.mono e1) w1 h1 _ ?_
  intro σ' s' _ _
  exact k a G1 σ' H1 (e.trans e1) s' w1
theorem shS {j B : Nat} (h : Rp d j B) : SeqAt.shaped (.str d.shown) = true := by
  unfold SeqAt.shaped
  simp only [PyData.canLay0, PyData.depth, h.k]
  exact (by decide : (true && decide (0 ≤ 64)) = true)
theorem et_reprNe {j B : Nat} (h1 : Ev Γ M t1 (tD K d)) (h2 : Ev Γ M t2 (tD K d)) (r : Rp d j B) (hj : j ≤ 64) (hB : B ≤ 16777216) :
    EvT Γ M (tTest (tOp (rNeD K) (tCB (rReprD K) (tCons t1 tNil)) (tCB (rReprD K) (tCons t2 tNil)))) (· = false) :=
  et_t (ev_ne (ev_reprD h1 (r.ok hj hB)) (ev_reprD h2 (r.ok hj hB)) (shS r) (shS r)) (by simp [PyData.eqv])
theorem et_neSame {e : PyData} (h1 : Ev Γ M t1 (tD K d)) (h2 : Ev Γ M t2 (tD K e)) (he : d = e) (sh : SeqAt.shaped d = true) (hr : PyData.eqv d d = true) : EvT Γ M (tTest (tOp (rNeD K) t1 t2)) (· = false) := by
  subst he
  exact et_t (ev_ne h1 h2 sh sh) (by rw [hr]; rfl)
theorem sh_bl (b : Bool) : SeqAt.shaped (.bool b) = true := (rp_bl b).sh (by decide)
theorem eqv_bl (b : Bool) : PyData.eqv (.bool b) (.bool b) = true := by simp [PyData.eqv]
theorem ev_is_safe_marking_k (a : UpA) (h1 : Ev Γ M t1 (tMa K mg a.tabs a.n)) (h2 : Ev Γ M t2 (tZ K a.k (nL a.log))) (h3 : Ev Γ M t3 (tD K a.md)) (h4 : Ev Γ M t4 (tD K a.sd)) (h5 : Ev Γ M t5 (tD K a.kd)) (h6 : Ev Γ M t6 (tD K a.bd)) (hT : OkT a.tabs a.n) (hR : a.Rest) (hg : a.ok = .good) :
    Ev Γ M (tCallN 3 3 (sp_is_safe_marking K mg) (fun vs zs => gk_is_safe_marking_kw3_starts_kept_bound vs (List.map Prod.snd ([] : List (Str × V))) zs) E (tCons t1 (tCons t2 (tCons t3 tNil))) (tCons t4 (tCons t5 (tCons t6 tNil)))) (tD K (.bool (paper a).isNone)) := by
  rw [← upT hg]
  exact ev_callN a (ea_cons h1 (ea_cons h2 (ea_cons h3 ea_nil))) (ea_cons h4 (ea_cons h5 (ea_cons h6 ea_nil))) rfl rfl (fun G vs zs k1 k2 => by
    cases k1 with | cons a1 k1 =>
    cases k1 with | cons a2 k1 =>
    cases k1 with | cons a3 k1 =>
    cases k1
    cases k2 with | cons a4 k2 =>
    cases k2 with | cons a5 k2 =>
    cases k2 with | cons a6 k2 =>
    cases k2
    exact (.cons a1 (.cons a2 (.cons a3 (.cons a4 (.cons a5 (.cons a6 .nil))))))) ⟨hT, hR⟩ sub_nil (upX hg)
theorem ev_is_safe_marking_0 (a : UpA) (h1 : Ev Γ M t1 (tMa K mg a.tabs a.n)) (h2 : Ev Γ M t2 (tZ K a.k (nL a.log))) (h3 : Ev Γ M t3 (tD K a.md)) (h4 : Ev Γ M t4 (tD K a.sd)) (h5 : Ev Γ M t5 (tD K a.kd)) (h6 : Ev Γ M t6 (tD K a.bd)) (hT : OkT a.tabs a.n) (hR : a.Rest) (hg : a.ok = .good) :
    Ev Γ M (tCallN 0 6 (sp_is_safe_marking K mg) (fun vs zs => gk_is_safe_marking_kw0_bound_kept_starts_marking_log_machine vs (List.map Prod.snd ([] : List (Str × V))) zs) E tNil (tCons t6 (tCons t5 (tCons t4 (tCons t3 (tCons t2 (tCons t1 tNil))))))) (tD K (.bool (paper a).isNone)) := by
  rw [← upT hg]
  exact ev_callN a ea_nil (ea_cons h6 (ea_cons h5 (ea_cons h4 (ea_cons h3 (ea_cons h2 (ea_cons h1 ea_nil)))))) rfl rfl (fun G vs zs k1 k2 => by
    cases k1
    cases k2 with | cons a6 k2 =>
    cases k2 with | cons a5 k2 =>
    cases k2 with | cons a4 k2 =>
    cases k2 with | cons a3 k2 =>
    cases k2 with | cons a2 k2 =>
    cases k2 with | cons a1 k2 =>
    cases k2
    exact (.cons a1 (.cons a2 (.cons a3 (.cons a4 (.cons a5 (.cons a6 .nil))))))) ⟨hT, hR⟩ sub_nil (upX hg)
theorem ev_unsafe_paper_0 (a : UpA) (h1 : Ev Γ M t1 (tMa K mg a.tabs a.n)) (h2 : Ev Γ M t2 (tZ K a.k (nL a.log))) (h3 : Ev Γ M t3 (tD K a.md)) (h4 : Ev Γ M t4 (tD K a.sd)) (h5 : Ev Γ M t5 (tD K a.kd)) (h6 : Ev Γ M t6 (tD K a.bd)) (hT : OkT a.tabs a.n) (hR : a.Rest) (hg : a.ok = .good) :
    Ev Γ M (tCallN 0 6 (sp_unsafe_paper K mg) (fun vs zs => gk_unsafe_paper_kw0_bound_kept_starts_marking_log_machine vs (List.map Prod.snd ([] : List (Str × V))) zs) E tNil (tCons t6 (tCons t5 (tCons t4 (tCons t3 (tCons t2 (tCons t1 tNil))))))) (tD K ((paper a).getD .none)) := by
  rw [← upT hg]
  exact ev_callN a ea_nil (ea_cons h6 (ea_cons h5 (ea_cons h4 (ea_cons h3 (ea_cons h2 (ea_cons h1 ea_nil)))))) rfl rfl (fun G vs zs k1 k2 => by
    cases k1
    cases k2 with | cons a6 k2 =>
    cases k2 with | cons a5 k2 =>
    cases k2 with | cons a4 k2 =>
    cases k2 with | cons a3 k2 =>
    cases k2 with | cons a2 k2 =>
    cases k2 with | cons a1 k2 =>
    cases k2
    exact (.cons a1 (.cons a2 (.cons a3 (.cons a4 (.cons a5 (.cons a6 .nil))))))) ⟨hT, hR⟩ sub_nil (upX hg)
theorem ev_unsafe_holds_k (a : UpA) (h1 : Ev Γ M t1 (tMa K mg a.tabs a.n)) (h2 : Ev Γ M t2 (tZ K a.k (nL a.log))) (h3 : Ev Γ M t3 (tD K a.md)) (h4 : Ev Γ M t4 (tD K a.sd)) (h5 : Ev Γ M t5 (tD K a.kd)) (h6 : Ev Γ M t6 (tD K a.bd)) (v : PyData) (h7 : Ev Γ M t7 (tD K v)) (hv : (items v).length ≤ 1000 ∧ SeqAt.shaped (dAt (items v) 0) = true) (hT : OkT a.tabs a.n) (hR : a.Rest) (hg : a.ok = .good) :
    Ev Γ M (tCallN 4 3 (sp_unsafe_holds K mg) (fun vs zs => gk_unsafe_holds_kw4_starts_kept_bound vs (List.map Prod.snd ([] : List (Str × V))) zs) E (tCons t1 (tCons t2 (tCons t3 (tCons t7 tNil)))) (tCons t4 (tCons t5 (tCons t6 tNil)))) (tD K (.bool (holdsF a v))) := by
  rw [← upT hg]
  exact ev_callN (a, v) (ea_cons h1 (ea_cons h2 (ea_cons h3 (ea_cons h7 ea_nil)))) (ea_cons h4 (ea_cons h5 (ea_cons h6 ea_nil))) rfl rfl (fun G vs zs k1 k2 => by
    cases k1 with | cons a1 k1 =>
    cases k1 with | cons a2 k1 =>
    cases k1 with | cons a3 k1 =>
    cases k1 with | cons a7 k1 =>
    cases k1
    cases k2 with | cons a4 k2 =>
    cases k2 with | cons a5 k2 =>
    cases k2 with | cons a6 k2 =>
    cases k2
    exact (.cons a1 (.cons a2 (.cons a3 (.cons a7 (.cons a4 (.cons a5 (.cons a6 .nil)))))))) ⟨hT, hR, hv.1, hv.2⟩ sub_nil (upX hg)
theorem ev_unsafe_holds_0 (a : UpA) (h1 : Ev Γ M t1 (tMa K mg a.tabs a.n)) (h2 : Ev Γ M t2 (tZ K a.k (nL a.log))) (h3 : Ev Γ M t3 (tD K a.md)) (h4 : Ev Γ M t4 (tD K a.sd)) (h5 : Ev Γ M t5 (tD K a.kd)) (h6 : Ev Γ M t6 (tD K a.bd)) (v : PyData) (h7 : Ev Γ M t7 (tD K v)) (hv : (items v).length ≤ 1000 ∧ SeqAt.shaped (dAt (items v) 0) = true) (hT : OkT a.tabs a.n) (hR : a.Rest) (hg : a.ok = .good) :
    Ev Γ M (tCallN 0 7 (sp_unsafe_holds K mg) (fun vs zs => gk_unsafe_holds_kw0_bound_kept_starts_value_marking_log_machine vs (List.map Prod.snd ([] : List (Str × V))) zs) E tNil (tCons t6 (tCons t5 (tCons t4 (tCons t7 (tCons t3 (tCons t2 (tCons t1 tNil)))))))) (tD K (.bool (holdsF a v))) := by
  rw [← upT hg]
  exact ev_callN (a, v) ea_nil (ea_cons h6 (ea_cons h5 (ea_cons h4 (ea_cons h7 (ea_cons h3 (ea_cons h2 (ea_cons h1 ea_nil))))))) rfl rfl (fun G vs zs k1 k2 => by
    cases k1
    cases k2 with | cons a6 k2 =>
    cases k2 with | cons a5 k2 =>
    cases k2 with | cons a4 k2 =>
    cases k2 with | cons a7 k2 =>
    cases k2 with | cons a3 k2 =>
    cases k2 with | cons a2 k2 =>
    cases k2 with | cons a1 k2 =>
    cases k2
    exact (.cons a1 (.cons a2 (.cons a3 (.cons a7 (.cons a4 (.cons a5 (.cons a6 .nil)))))))) ⟨hT, hR, hv.1, hv.2⟩ sub_nil (upX hg)
end
/-! ### papers -/
theorem gt0_lt {l : List Nat} {n : Nat} (hn : 0 < n) (h : ∀ x ∈ l, x < n) : gt l 0 < n := by
  cases l with
  | nil => exact hn
  | cons a r => exact h a List.mem_cons_self
theorem rp_pap {s one oth x y : Nat} (h1 : s < 1000000) (h2 : one < 1000000) (h3 : oth < 1000000) (h4 : x < 1000000) (h5 : y < 1000000) : Rp (papD s one oth x y) 1 30000 := by
  refine (rp_tup (j := 0) (B := 1921) ?_).mono (Nat.le_refl _) (by exact (by decide : 3 + 6 * (1921 + 2) ≤ 30000))
  intro d hd
  simp only [List.mem_cons, List.not_mem_nil, or_false] at hd
  rcases hd with rfl | rfl | rfl | rfl | rfl | rfl
  · exact rp_unsafe
  · exact rp_nat h1
  · exact rp_nat h2
  · exact rp_nat h3
  · exact rp_nat h4
  · exact rp_nat h5
theorem paper_pap {a : UpA} (h : a.Good) (hz : a.log.length ≤ 1000) {p : PyData} (hp : paper a = some p) : ∃ s one oth x y, p = papD s one oth x y ∧ Rp p 1 30000 := by
  obtain ⟨s, i, j, hs, hi, hj, _, rfl⟩ := paper_spec hp
  have hn := h.t.n2
  have l1 : gt (a.ages s) i < a.log.length + 1 := h.lt (gt_mem hi)
  have l2 : gt ((a.ages s).drop (i + 1)) j < a.log.length + 1 := h.lt (List.mem_of_mem_drop (gt_mem hj))
  have l3 : ∀ age, gt (seenOf a.tabs a.log s a.sl age) 0 < a.n := fun age => gt0_lt (by have := h.t.n1; omega) fun x hx => h.s.lt x (seen_mem.mp hx).1
  exact ⟨_, _, _, _, _, rfl, rp_pap (by omega) (by omega) (by omega) (Nat.lt_trans (l3 _) (by omega)) (Nat.lt_trans (l3 _) (by omega))⟩
theorem okv_pap (s one oth x y : Nat) : OkV (papD s one oth x y) := by
  refine ⟨by show 6 ≤ 1000; decide, ?_, fun _ => .inl rfl⟩
  intro d hd
  have hd' : d ∈ [PyData.str "unsafe", nI s, nI one, nI oth, nI x, nI y] := hd
  simp only [List.mem_cons, List.not_mem_nil, or_false] at hd'
  rcases hd' with rfl | rfl | rfl | rfl | rfl | rfl
  · exact rp_unsafe.sh (by decide)
  · rfl
  · rfl
  · rfl
  · rfl
  · rfl
theorem okv_sh {v : PyData} (h : OkV v) : (items v).length ≤ 1000 ∧ SeqAt.shaped (dAt (items v) 0) = true := by
  refine ⟨h.1, ?_⟩
  cases e : items v with
  | nil => exact rp_non.sh (by decide)
  | cons d r =>
    have hf := h.2.1 d (by rw [e]; exact List.mem_cons_self)
    obtain ⟨h1, h2⟩ := flat_can hf
    show SeqAt.shaped d = true
    unfold SeqAt.shaped
    rw [h1, h2]
    decide
theorem eqv_pap (s one oth x y : Nat) : PyData.eqv (papD s one oth x y) (papD s one oth x y) = true := by
  unfold papD nI
  simp [PyData.eqv, PyData.eqvAll]
theorem eqv_non : PyData.eqv .none .none = true := by simp [PyData.eqv]
theorem good_du {a : UpA} (h : a.Good) (hz : a.log.length ≤ 1000) : a.du.Ok := ⟨h.t, h.l, h.s.lt, h.s.len h.t.n2, h.k.lt, h.k.len hz, h.m⟩
end Ag
set_option Elab.async false
set_option linter.all false
set_option maxRecDepth 100000
set_option maxHeartbeats 8000000
/-! AgZ: the law. -/
namespace Ag
open PySem PySem.Spec PyProof.Rows L2
section
variable {P : Program} {w : World} {K : PySem.W.Frag} {mg : Str → Option Value} {base : Heap} {x qual : Str} {st : Stmt} {N ps : List Str} {k : Nat} {α : Type} {P' : α → Prop} {C : α → Mem} {A : α → List Ty} {R : α → Ty} {X : α → XT}
theorem fnG_ok {f : Addr} {fd : FuncData} (F : Fun K x qual st f fd) (S : FnScope N ps (defScope st)) (hl : ∀ a, (A a).length = ps.length)
    (body : ∀ (cdv : Value) (B : Around) (outer : List Env) (s : Shared) (H : Hp) (Q : VK) (E : XK), (B.deeper (envOfC qual (defScope st) s.heap.objs.size f cdv)).guards = some [] → Room k (B.deeper (envOfC qual (defScope st) s.heap.objs.size f cdv)) →
      ∃ t, PSs (cxOf (L2.CX P w) P w K mg base N qual (defScope st) f cdv B outer s H E) (defBody st) t ∧ ∀ (a : α) (G : Hp) (M : Mem), P' a → Sub (C a) M → Rt (Dn Q) G M (R a) → Er E G M (X a) → Go (g0 N (A a)) M t (Dn Q) G) :
    FnG P w K mg base (k + 1) f fd ps (PrX P' C A R X) := by
  refine fnG_of F S (fun vs H Q E ⟨a, G, M, _, _, _, ht, _⟩ => (Tys.len ht).trans (hl a)) ?_
  intro cdv B outer s H vs Q E hg hr _ hs
  obtain ⟨a, G, M, hp, hw, hs, ht, hq, he⟩ := hs
  obtain ⟨t, h1, h2⟩ := body cdv B outer s H Q E hg hr
  exact ⟨t, h1, h2 a G M hp hs (fun v G' H' e' w' z => hq v G' H' e' w' z) he G _ H (Same.refl _) (sd_start ht) hw⟩
end
abbrev sp_law (K : FR) (Tb : Addr) : Sp := PrX (fun l : List Int => l.length ≤ 1000000) (fun _ => [(Tb, cTab rfQ)]) (fun l => [tD K (.list (iL l))]) (fun _ => tB K true) (fun _ => xNo)
section
variable {P : Program} {w : World} {K : PySem.W.Frag} {mg : Str → Option Value} {base : Heap}
theorem ok_law (T : Prg P K mg) (D : HdT K mg) {c Tb : Addr} (L : LamDef K mg base "_law_refusals" s_Lrefusals c Tb) {f : Addr} {fd : FuncData} (F : Fun K "law" "law" s_law f fd) : FnG P w K mg base 17 f fd ["_law_script"] (sp_law K Tb) := by
  have RF : CalleeG P w K mg base 16 "_law_refusals" ["_law_box_here", "_law_machine", "_law_log_here"] (sp_Lrefusals K mg Tb) := ok_Lrefusals T D L
  refine fnG_ok F sc_law (fun _ => rfl) ?_
  intro cdv B outer s H Q E hgd hr
  have hu := hu_of hr
  have hu64 := hu64_of hr
  have hu100 := hu100_of hr
  refine ⟨_, (pss_cons (ps_for (passes_of rfl) rfl (pi_range1 rfl T.n_range (pa_cons pe_int pa_nil)) (pg_name (i := 1) sc_law.nd rfl (Or.inl rfl)) (pss_cons (ps_set (i := 2) sc_law.nd rfl (Or.inl rfl) (pcallG (ok_Lbox T) hr passL (pa_cons (pv 0) (pa_cons (pv 1) pa_nil))))
      (pss_cons (ps_set (i := 3) sc_law.nd rfl (Or.inl rfl) (pcallG (ok_Ltables T) hr passL (pa_cons (pv 2) (pa_cons pe_int pa_nil))))
      (pss_cons (ps_par (i := 4) (j := 5) rfl sc_law.nd rfl rfl (by decide) rfl rfl (pa_cons (pmakeG (ok_Machine_init T) hr passL (pa_cons (pv 3) pa_nil)) (pa_cons (pcallG (ok_Llog T) hr passL (pa_cons (pv 2) (pa_cons (pe_callB (lenK K) rfl T.n_len (by decide +kernel) (pa_cons (pv 3) pa_nil)) (pa_cons pe_int pa_nil)))) pa_nil)) rfl)
      (pss_cons (ps_asg (pcallG (ok_Lstarts T) hr passL (pa_cons (pv 2) (pa_cons (pe_callB (lenK K) rfl T.n_len (by decide +kernel) (pa_cons (ixK K (pv 3) pe_int) pa_nil)) pa_nil))) (tupG K 2 (pgs_cons (pg_name (i := 6) sc_law.nd rfl (Or.inl rfl)) (pgs_cons (pg_name (i := 7) sc_law.nd rfl (Or.inl rfl)) pgs_nil))))
      (pss_cons (ps_asg (pcallG (ok_Lkept T) hr passL (pa_cons (pv 2) (pa_cons (pe_callB (lenK K) rfl T.n_len (by decide +kernel) (pa_cons (pv 5) pa_nil)) pa_nil))) (tupG K 2 (pgs_cons (pg_name (i := 8) sc_law.nd rfl (Or.inl rfl)) (pgs_cons (pg_name (i := 9) sc_law.nd rfl (Or.inl rfl)) pgs_nil))))
      (pss_cons (ps_par (i := 10) (j := 11) rfl sc_law.nd rfl rfl (by decide) rfl rfl (pa_cons (pcallG (ok_Lrows T) hr passL (pa_cons (pv 3) (pa_cons (pv 5) pa_nil))) (pa_cons (pcallG (ok_Lpick T) hr passL (pa_cons (pv 2) (pa_cons (pe_lst (pa_cons pe_non (pa_cons (pe_op op_add pe_int (pcallG (ok_Ltake T) hr passL (pa_cons (pv 2) (pa_cons pe_int pa_nil)))) pa_nil))) pa_nil))) pa_nil)) rfl)
      (pss_cons (ps_set (i := 12) sc_law.nd rfl (Or.inl rfl) (pcallG (ok_Lmarking T) hr passL (pa_cons (pv 2) (pa_cons (pv 4) (pa_cons (pv 5) (pa_cons (pv 6) (pa_cons (pv 8) pa_nil)))))))
      (pss_cons (ps_set (i := 13) sc_law.nd rfl (Or.inl rfl) (pcallG (ok_Ldue T) hr passL (pa_cons (pv 10) (pa_cons (pv 7) (pa_cons (pv 9) (pa_cons (pv 11) (pa_cons (pv 12) pa_nil)))))))
      (pss_cons (ps_if (pt_cmpR (neK K hu64) (pe_callB (reprK K hgd hu100) rfl T.n_repr (by decide +kernel) (pa_cons (pcallKG (okk_unsafe_paper_kw3_starts_kept_bound T) hr passL (pa_cons (pv 4) (pa_cons (pv 5) (pa_cons (pv 12) pa_nil))) (pk_cons (pv 6) (pk_cons (pv 8) (pk_cons (pv 11) pk_nil)))) pa_nil)) (pe_callB (reprK K hgd hu100) rfl T.n_repr (by decide +kernel) (pa_cons (pv 13) pa_nil)) (nomark _)) (pss_one (ps_ret pe_bl)) pss_nil)
      (pss_cons (ps_if (pt_cmpR (neK K hu64) (pcallK0G (okk_unsafe_paper_kw0_bound_kept_starts_marking_log_machine T) hr passL (pk_cons (pv 11) (pk_cons (pv 8) (pk_cons (pv 6) (pk_cons (pv 12) (pk_cons (pe_callTy (listK K) rfl T.n_list (by decide +kernel) (pa_cons (pv 5) pa_nil)) (pk_cons (pv 4) pk_nil))))))) (pv 13) (nomark _)) (pss_one (ps_ret pe_bl)) pss_nil)
      (pss_cons (ps_if (pt_cmpR (neK K hu64) (pe_callB (reprK K hgd hu100) rfl T.n_repr (by decide +kernel) (pa_cons (pcallKG (okk_is_safe_marking_kw3_starts_kept_bound T) hr passL (pa_cons (pv 4) (pa_cons (pv 5) (pa_cons (pv 12) pa_nil))) (pk_cons (pv 6) (pk_cons (pv 8) (pk_cons (pv 11) pk_nil)))) pa_nil)) (pe_callB (reprK K hgd hu100) rfl T.n_repr (by decide +kernel) (pa_cons (pe_cmpR op_isN (pv 13) pe_non (nomark _)) pa_nil)) (nomark _)) (pss_one (ps_ret pe_bl)) pss_nil)
      (pss_cons (ps_set (i := 14) sc_law.nd rfl (Or.inl rfl) (pcallK0G (okk_is_safe_marking_kw0_bound_kept_starts_marking_log_machine T) hr passL (pk_cons (pv 11) (pk_cons (pv 8) (pk_cons (pv 6) (pk_cons (pv 12) (pk_cons (pe_callTy (listK K) rfl T.n_list (by decide +kernel) (pa_cons (pv 5) pa_nil)) (pk_cons (pv 4) pk_nil))))))))
      (pss_cons (ps_if (pt_cmpR (neK K hu64) (pv 14) (pe_cmpR op_isN (pv 13) pe_non (nomark _)) (nomark _)) (pss_one (ps_ret pe_bl)) pss_nil)
      (pss_cons (ps_set (i := 15) sc_law.nd rfl (Or.inl rfl) (pe_ifExp (pt_cmpR op_notN (pv 13) pe_non (nomark _)) (pv 13) (pe_tup (pa_cons pe_str (pa_cons pe_int (pa_cons pe_int (pa_cons (pe_callB (lenK K) rfl T.n_len (by decide +kernel) (pa_cons (pv 5) pa_nil)) (pa_cons pe_int (pa_cons pe_int pa_nil)))))))))
      (pss_cons (ps_for (passes_of rfl) rfl (pi_range1 rfl T.n_range (pa_cons pe_int pa_nil)) (pg_name (i := 16) sc_law.nd rfl (Or.inl rfl)) (pss_cons (ps_set (i := 17) sc_law.nd rfl (Or.inl rfl) (pe_ifExp (pt_cmpR (eqK K hu64) (pv 16) pe_int (nomark _)) (pv 15) (pcallG (ok_Lbent T) hr passL (pa_cons (pv 2) (pa_cons (pv 15) (pa_cons (pe_callB (lenK K) rfl T.n_len (by decide +kernel) (pa_cons (pv 5) pa_nil)) (pa_cons (pe_callB (lenK K) rfl T.n_len (by decide +kernel) (pa_cons (ixK K (pv 3) pe_int) pa_nil)) pa_nil)))))))
      (pss_cons (ps_set (i := 18) sc_law.nd rfl (Or.inl rfl) (pcallG (ok_Lholds T) hr passL (pa_cons (pv 10) (pa_cons (pv 7) (pa_cons (pv 9) (pa_cons (pv 11) (pa_cons (pv 12) (pa_cons (pv 17) pa_nil))))))))
      (pss_cons (ps_if (pt_cmpR (neK K hu64) (pe_callB (reprK K hgd hu100) rfl T.n_repr (by decide +kernel) (pa_cons (pcallKG (okk_unsafe_holds_kw4_starts_kept_bound T) hr passL (pa_cons (pv 4) (pa_cons (pv 5) (pa_cons (pv 12) (pa_cons (pv 17) pa_nil)))) (pk_cons (pv 6) (pk_cons (pv 8) (pk_cons (pv 11) pk_nil)))) pa_nil)) (pe_callB (reprK K hgd hu100) rfl T.n_repr (by decide +kernel) (pa_cons (pv 18) pa_nil)) (nomark _)) (pss_one (ps_ret pe_bl)) pss_nil)
      (pss_one (ps_if (PW.pt (pw_and (pt_cmpR op_isN (pv 13) pe_non (nomark _)) (pw_and1 (pt_val (pv 18))))) (pss_one (ps_ret pe_bl)) pss_nil))))))
      (pss_cons (ps_set (i := 18) sc_law.nd rfl (Or.inl rfl) (pcallK0G (okk_unsafe_holds_kw0_bound_kept_starts_value_marking_log_machine T) hr passL (pk_cons (pv 11) (pk_cons (pv 8) (pk_cons (pv 6) (pk_cons (pv 15) (pk_cons (pv 12) (pk_cons (pv 5) (pk_cons (pv 4) pk_nil)))))))))
      (pss_cons (ps_if (pt_cmpR (neK K hu64) (pv 18) (pe_cmpR op_notN (pv 13) pe_non (nomark _)) (nomark _)) (pss_one (ps_ret pe_bl)) pss_nil)
      (pss_one (ps_if (PW.pt (pw_or (pt_not (pt_val (pcallG (ok_Lfew_right T) hr passL (pa_cons (pv 2) (pa_cons (pv 4) (pa_cons (pv 5) (pa_cons (pv 6) (pa_cons (pv 8) (pa_cons (pv 11) pa_nil))))))))) (pw_or1 (pt_not (pt_val (pcallGd RF hgd hr passL (pa_cons (pv 2) (pa_cons (pv 4) (pa_cons (pv 5) pa_nil))))))))) (pss_one (ps_ret pe_bl)) pss_nil))))))))))))))))))))
      (pss_one (ps_ret pe_bl))), ?_⟩
  intro l G M hl hcM hret hexc
  have hl : l.length ≤ 1000000 := hl
  have hTb : (Tb, cTab rfQ) ∈ M := hcM _ List.mem_cons_self
  let Γw : Gam := [some (tD K (.list (iL l))), none, none, none, none, none, none, none, none, none, none, none, none, none, none, none, none, none, none]
  refine go_seq (go_forC Γw (it_rng1 (n := 3) ev_int (by decide)) (Le.refl _) (fun i => Γw.set 1 (some (tN K i))) (fun i hi => tg_name) (fun i Gt hi e => ?_) (go_nx (go_ret ev_bl hret)))
  refine go_setC (a := (l, i)) (ea_cons (ev_var (i := 0) rfl) (ea_cons (ev_var (i := 1) rfl) ea_nil)) ⟨hl, by show i < 1000; omega⟩ fun p => ?_
  have hb : (p, cBox) ∈ ((p, cBox) :: M) := List.mem_cons_self
  have hTb' : (Tb, cTab rfQ) ∈ ((p, cBox) :: M) := List.mem_cons_of_mem _ hTb
  refine go_setX (T := fun a : { a : TabA // OkT a.tabs a.n ∧ a.tabs.length ≤ 3 ∧ 2 ≤ a.n ∧ a.n ≤ 5 } => tD K (.list (tbD a.1.tabs))) (ev_call p (ea_cons (ev_var (i := 2) rfl) (ea_cons ev_int ea_nil)) trivial (sub1 hb) (fun _ _ _ z => z)) fun ⟨⟨tabs, n⟩, hT, hT3, hn2, hn5⟩ => ?_
  have hT : OkT tabs n := hT
  have hn2 : 2 ≤ n := hn2
  have hn5 : n ≤ 5 := hn5
  have hT3 : tabs.length ≤ 3 := hT3
  have hT1 := hT.l1
  obtain ⟨t0, ht0, _, ht0n, _⟩ := tab_at hT (d := 0) (by omega)
  have hlenT : ∀ {Γ : Gam} {M : Mem}, Γ[3]? = some (some (tD K (.list (tbD tabs)))) → Ev Γ M (tCB (rLenQ K) (tCons (tVar 3) tNil)) (tN K tabs.length) := fun h => ev_to (ev_len (ev_lQ (ev_var h))) (by rw [tbD_len])
  have hlen0 : ∀ {Γ : Gam} {M : Mem}, Γ[3]? = some (some (tD K (.list (tbD tabs)))) → Ev Γ M (tCB (rLenQ K) (tCons (tOp (rIx K) (tVar 3) (tC (.int 0))) tNil)) (tN K n) := fun h => ev_to (ev_lenN (l := t0) (ev_tQ (ev_ixX (a := 0) (ds := tbD tabs) (d := .tuple (nL t0)) (ev_lQ (ev_var h)) ev_int (by unfold tbD; rw [List.getElem?_map, ht0]; rfl)))) (by rw [ht0n])
  -- the machine, the log
  refine go_par (T1 := tMa K mg tabs n) (T2 := tEx fun l : { l : List Nat // l.length ≤ 9 ∧ ∀ x ∈ l, x < tabs.length } => tD K (.tuple (nL l.1))) (ea_cons (ev_make (a := (⟨tabs, n⟩ : TabA)) (ea_cons (ev_var (i := 3) rfl) ea_nil) hT (fun _ _ _ z => z)) (ea_cons (ev_call (a := (⟨p, tabs.length⟩ : LgA)) (ea_cons (ev_var (i := 2) rfl) (ea_cons (hlenT rfl) (ea_cons ev_int ea_nil))) ⟨by show 0 < tabs.length; omega, by show tabs.length < 1000; omega⟩ (sub1 hb) (fun _ _ _ z => z)) ea_nil)) ?_
  refine go_ex (i := 5) rfl fun ⟨log, hL9, hLt⟩ => ?_
  have hL : OkL tabs log := ⟨by omega, hLt⟩
  have hlenL : ∀ {Γ : Gam} {M : Mem}, Γ[5]? = some (some (tD K (.tuple (nL log)))) → Ev Γ M (tCB (rLenQ K) (tCons (tVar 5) tNil)) (tN K log.length) := fun h => ev_lenN (ev_tQ (ev_var h))
  -- starts, kept
  refine go_pairX (K := K) (i := 6) (j := 7) (f := fun a : { s : PyData × List Nat // GoodSt n s.1 s.2 } => a.1.1) (g := fun a => .list (nL a.1.2)) (ev_call (a := (⟨p, n⟩ : SdA)) (ea_cons (ev_var (i := 2) rfl) (ea_cons (hlen0 rfl) ea_nil)) ⟨by show 0 < n; omega, by show n ≤ 12; omega⟩ (sub1 hb) (fun _ _ _ z => z)) fun ⟨⟨sd, sl⟩, hst⟩ => ?_
  have hst : GoodSt n sd sl := hst
  refine go_pairX (K := K) (i := 8) (j := 9) (f := fun a : { s : PyData × List Nat // GoodKp log.length s.1 s.2 } => a.1.1) (g := fun a => .list (nL a.1.2)) (ev_call (a := (⟨p, log.length⟩ : SdA)) (ea_cons (ev_var (i := 2) rfl) (ea_cons (hlenL rfl) ea_nil)) (by show log.length ≤ 100; omega) (sub1 hb) (fun _ _ _ z => z)) fun ⟨⟨kd, kl⟩, hkp⟩ => ?_
  have hkp : GoodKp log.length kd kl := hkp
  -- rows, bound
  refine go_par (T1 := tD K (.list (rwD (rowsOf tabs n log)))) (T2 := tDP K fun d => ∃ b : Option Nat, GoodBd b ∧ d = bdD b) (ea_cons (ev_callS (a := (⟨tabs, n, log⟩ : RwA)) (ea_cons (ev_var (i := 3) rfl) (ea_cons (ev_var (i := 5) rfl) ea_nil)) ⟨hT, hL⟩) (ea_cons (ev_pickP (k := 2) (ev_var (i := 2) rfl) (ev_lstP (Ts := [tDP K fun d => ∃ b : Option Nat, GoodBd b ∧ d = bdD b, tDP K fun d => ∃ b : Option Nat, GoodBd b ∧ d = bdD b]) (ea_cons (ev_DP (d := .none) ev_non ⟨none, trivial, rfl⟩) (ea_cons (ev_mono (ev_addNP (n := 1) (P := fun r => r < 11) (Q := fun r => 0 < r) ev_int (ev_NB_NP (ev_take (m := 11) (ev_var (i := 2) rfl) ev_int hb (by decide) (by decide)) fun r h => h) fun r h => by omega) fun G v ⟨⟨r, hr⟩, h⟩ => ⟨⟨nI r, some r, hr, rfl⟩, h⟩) ea_nil)) (.cons (.cons .nil)) (by exact (by decide : 2 ≤ 1000000))) hb (by decide) (by decide)) ea_nil)) ?_
  refine go_ex (i := 11) rfl fun ⟨bd, b, hgb, hbd⟩ => ?_
  subst hbd
  -- the marking
  have hMg : MgA.Ok ⟨p, tabs, n, log, sd, sl, kd, kl⟩ := ⟨hT, hn2, hL, by show log.length ≤ 900; omega, hst, hkp⟩
  refine go_setX (T := fun d : { d : PyData // MdP n log.length d } => tD K d.1) (ev_call (a := (⟨p, tabs, n, log, sd, sl, kd, kl⟩ : MgA)) (ea_cons (ev_var (i := 2) rfl) (ea_cons (ev_var (i := 4) rfl) (ea_cons (ev_var (i := 5) rfl) (ea_cons (ev_var (i := 6) rfl) (ea_cons (ev_var (i := 8) rfl) ea_nil))))) hMg (sub1 hb) (fun _ _ _ z => z)) fun ⟨md, hmd⟩ => ?_
  have hmd : MdP n log.length md := hmd
  obtain ⟨up, hup⟩ : ∃ up : UpA, up = ⟨tabs, n, true, log, md, sd, sl, kd, kl, bdD b, b, .good⟩ := ⟨_, rfl⟩
  obtain ⟨ul, hul⟩ : ∃ ul : UpA, ul = ⟨tabs, n, false, log, md, sd, sl, kd, kl, bdD b, b, .good⟩ := ⟨_, rfl⟩
  have hgood : up.Good := by rw [hup]; exact ⟨hT, hL, hmd.2, hmd.1, hst, hkp, hgb⟩
  have hrest : up.Rest := by rw [hup]; exact ⟨hL, hmd.2, hmd.1, hst, hkp, hgb, rfl⟩
  have hrestL : ul.Rest := by rw [hul]; exact ⟨hL, hmd.2, hmd.1, hst, hkp, hgb, rfl⟩
  have hok : up.ok = .good := by rw [hup]
  have hokL : ul.ok = .good := by rw [hul]
  have hTu : OkT up.tabs up.n := by rw [hup]; exact hT
  have hTl : OkT ul.tabs ul.n := by rw [hul]; exact hT
  have hpl : paper ul = paper up := by rw [hup, hul]; rfl
  have hz : up.log.length ≤ 1000 := by rw [hup]; show log.length ≤ 1000; omega
  have hdu : due up.du = paper up := due_paper hgood
  obtain ⟨d, hd⟩ : ∃ d, d = (paper up).getD .none := ⟨_, rfl⟩
  have hRp : Rp d 1 30000 := by
    rw [hd]
    cases e : paper up with
    | none => exact rp_non.mono (by decide) (by decide)
    | some q =>
      obtain ⟨_, _, _, _, _, _, r⟩ := paper_pap hgood hz e
      exact r
  have hself : PyData.eqv d d = true := by
    rw [hd]
    cases e : paper up with
    | none => exact eqv_non
    | some q =>
      obtain ⟨s, one, oth, x, y, e2, _⟩ := paper_pap hgood hz e
      show PyData.eqv q q = true
      rw [e2]
      exact eqv_pap ..
  have hnone : isNone d = (paper up).isNone := by
    rw [hd]
    cases e : paper up with
    | none => rfl
    | some q =>
      obtain ⟨s, one, oth, x, y, e2, _⟩ := paper_pap hgood hz e
      show isNone q = false
      rw [e2]
      rfl
  -- the paper that is passed on
  obtain ⟨pd, hpd⟩ : ∃ pd, pd = (paper up).getD (papD 0 0 log.length 0 0) := ⟨_, rfl⟩
  have hpp : ∃ s one oth x y, pd = papD s one oth x y := by
    rw [hpd]
    cases e : paper up with
    | none => exact ⟨0, 0, log.length, 0, 0, rfl⟩
    | some q =>
      obtain ⟨s, one, oth, x, y, e2, _⟩ := paper_pap hgood hz e
      exact ⟨s, one, oth, x, y, e2⟩
  have hpd1 : isNone d = false → d = pd := fun h => by
    rw [hnone] at h
    rw [hd, hpd]
    cases e : paper up with
    | none => rw [e] at h; cases h
    | some q => rfl
  have hpd0 : isNone d = true → papD 0 0 log.length 0 0 = pd := fun h => by
    rw [hnone] at h
    rw [hpd]
    cases e : paper up with
    | none => rfl
    | some q => rw [e] at h; cases h
  have hhold : holdsF up pd = !isNone d := by
    rw [hnone]
    cases e : paper up with
    | some q =>
      have := holds_of_paper hgood e
      rw [hpd, e]
      exact this
    | none =>
      cases c : holdsF up pd with
      | false => rfl
      | true => exact absurd e (holds_paper hgood c)
  subst hup
  subst hul
  let U : UpA := ⟨tabs, n, true, log, md, sd, sl, kd, kl, bdD b, b, .good⟩
  let UL : UpA := ⟨tabs, n, false, log, md, sd, sl, kd, kl, bdD b, b, .good⟩
  have hcon : ∀ v, true = (isNone d && holdsF U v) → False := fun v h => by
    have h1 : (isNone d && holdsF U v) = true := h.symm
    rw [Bool.and_eq_true] at h1
    have h2 := holds_paper hgood h1.2
    rw [hnone] at h1
    cases e : paper U with
    | none => exact h2 e
    | some q =>
      have h3 : (paper U).isNone = true := h1.1
      rw [e] at h3
      cases h3
  obtain ⟨ps, po, pt, px, py, epd⟩ := hpp
  have okv : OkV pd := by rw [epd]; exact okv_pap ..
  let Γ2 : Gam := [some (tD K (.list (iL l))), some (tN K i), some (tV (.ref p)), some (tD K (.list (tbD tabs))), some (tMa K mg tabs n), some (tD K (.tuple (nL log))), some (tD K sd), some (tD K (.list (nL sl))), some (tD K kd), some (tD K (.list (nL kl))), some (tD K (.list (rwD (rowsOf tabs n log)))), some (tD K (bdD b)), some (tD K md), none, none, none, none, none, none]
  refine Go.le (Γ := Γ2) ?_ (Le.refl _)
  refine go_set (T := tD K d) (ev_to (ev_callS (a := U.du) (ea_cons (ev_var (i := 10) rfl) (ea_cons (ev_var (i := 7) rfl) (ea_cons (ev_var (i := 9) rfl) (ea_cons (ev_var (i := 11) rfl) (ea_cons (ev_var (i := 12) rfl) ea_nil))))) (good_du hgood hz)) (by rw [hd]; exact congrArg (fun o => Option.getD o PyData.none) hdu)) ?_
  refine go_ifs (P := (· = false)) (et_reprNe (d := d) (ev_to (ev_unsafe_paper_k U (ev_var (i := 4) rfl) (ev_var (i := 5) rfl) (ev_var (i := 12) rfl) (ev_var (i := 6) rfl) (ev_var (i := 8) rfl) (ev_var (i := 11) rfl) hTu hrest hok) hd.symm) (ev_var (i := 13) rfl) hRp (by decide) (by decide)) (fun z => nomatch z) fun _ => ?_
  refine go_ifs (P := (· = false)) (et_neSame (d := d) (e := d) (ev_to (ev_unsafe_paper_0 UL (ev_var (i := 4) rfl) (ev_LD (ev_listOf (ev_tQ (ev_var (i := 5) rfl)))) (ev_var (i := 12) rfl) (ev_var (i := 6) rfl) (ev_var (i := 8) rfl) (ev_var (i := 11) rfl) hTl hrestL hokL) (by rw [hd]; exact congrArg (fun o => Option.getD o PyData.none) hpl)) (ev_var (i := 13) rfl) rfl (hRp.sh (by decide)) hself) (fun z => nomatch z) fun _ => ?_
  refine go_ifs (P := (· = false)) (et_reprNe (d := .bool (isNone d)) (ev_to (ev_is_safe_marking_k U (ev_var (i := 4) rfl) (ev_var (i := 5) rfl) (ev_var (i := 12) rfl) (ev_var (i := 6) rfl) (ev_var (i := 8) rfl) (ev_var (i := 11) rfl) hTu hrest hok) (by rw [hnone])) (ev_isN (ev_var (i := 13) rfl)) (rp_bl _) (by decide) (by decide)) (fun z => nomatch z) fun _ => ?_
  refine go_set (T := tB K (isNone d)) (ev_to (ev_is_safe_marking_0 UL (ev_var (i := 4) rfl) (ev_LD (ev_listOf (ev_tQ (ev_var (i := 5) rfl)))) (ev_var (i := 12) rfl) (ev_var (i := 6) rfl) (ev_var (i := 8) rfl) (ev_var (i := 11) rfl) hTl hrestL hokL) (by rw [hnone]; exact congrArg (fun o => PyData.bool (Option.isNone o)) hpl)) ?_
  refine go_ifs (P := (· = false)) (et_neSame (d := .bool (isNone d)) (e := .bool (isNone d)) (ev_var (i := 14) rfl) (ev_isN (ev_var (i := 13) rfl)) rfl (sh_bl _) (eqv_bl _)) (fun z => nomatch z) fun _ => ?_
  refine go_set (T := tD K pd) (ev_if (P := (· = !isNone d)) (et_t (ev_notN (ev_var (i := 13) rfl)) rfl) (fun h => ev_to (d := d) (ev_var (i := 13) rfl) (by
      cases c : isNone d with
      | false => exact hpd1 c
      | true => rw [c] at h; cases h)) fun h => ev_to (ev_tup (ds := [.str "unsafe", nI 0, nI 0, nI log.length, nI 0, nI 0]) (ea_cons ev_str (ea_cons ev_int (ea_cons ev_int (ea_cons (hlenL rfl) (ea_cons ev_int (ea_cons ev_int ea_nil)))))) (by exact (by decide : 6 ≤ 1000000))) (by
      cases c : isNone d with
      | true => exact hpd0 c
      | false => rw [c] at h; cases h)) ?_
  let Γ7 : Gam := [some (tD K (.list (iL l))), some (tN K i), some (tV (.ref p)), some (tD K (.list (tbD tabs))), some (tMa K mg tabs n), some (tD K (.tuple (nL log))), some (tD K sd), some (tD K (.list (nL sl))), some (tD K kd), some (tD K (.list (nL kl))), some (tD K (.list (rwD (rowsOf tabs n log)))), some (tD K (bdD b)), some (tD K md), some (tD K d), some (tB K (isNone d)), some (tD K pd), none, none, none]
  have le7 : ∀ {x16 x17 x18 : Option Ty}, Le Γ7 [some (tD K (.list (iL l))), some (tN K i), some (tV (.ref p)), some (tD K (.list (tbD tabs))), some (tMa K mg tabs n), some (tD K (.tuple (nL log))), some (tD K sd), some (tD K (.list (nL sl))), some (tD K kd), some (tD K (.list (nL kl))), some (tD K (.list (rwD (rowsOf tabs n log)))), some (tD K (bdD b)), some (tD K md), some (tD K d), some (tB K (isNone d)), some (tD K pd), x16, x17, x18] :=
    .same (.same (.same (.same (.same (.same (.same (.same (.same (.same (.same (.same (.same (.same (.same (.same (.no (.no (.no .nil))))))))))))))))))
  refine go_seq (go_forC Γ7 (it_rng1 (n := 7) ev_int (by decide)) (Le.refl _) (fun j => Γ7.set 16 (some (tN K j))) (fun j hj => tg_name) (fun j Gt2 hj e2 => ?_) (go_nx ?_))
  · refine go_setX (T := fun v : { v : PyData // OkV v } => tD K v.1) (ev_if (P := fun _ => True) (et_eqII (ev_N_I (ev_var (i := 16) rfl)) (ev_I ev_int)) (fun _ => ev_mono (ev_var (i := 15) rfl) fun G v h => ⟨⟨pd, okv⟩, h⟩)
      (fun _ => ev_call (a := (⟨p, ps, po, pt, px, py, log.length, n⟩ : BtA)) (ea_cons (ev_var (i := 2) rfl) (ea_cons (ev_to (d := pd) (ev_var (i := 15) rfl) epd) (ea_cons (hlenL rfl) (ea_cons (hlen0 rfl) ea_nil)))) ⟨by show 0 < n; omega, by show n < 1000; omega, by show log.length < 1000; omega⟩ (sub1 hb) (fun _ _ _ z => z))) fun ⟨v, hv⟩ => ?_
    refine go_set (T := tB K (holdsF U v)) (ev_callS (a := (U, v)) (ea_cons (ev_var (i := 10) rfl) (ea_cons (ev_var (i := 7) rfl) (ea_cons (ev_var (i := 9) rfl) (ea_cons (ev_var (i := 11) rfl) (ea_cons (ev_var (i := 12) rfl) (ea_cons (ev_var (i := 17) rfl) ea_nil)))))) ⟨good_du hgood hz, hv⟩) ?_
    refine go_ifs (P := (· = false)) (et_reprNe (d := .bool (holdsF U v)) (ev_unsafe_holds_k U (ev_var (i := 4) rfl) (ev_var (i := 5) rfl) (ev_var (i := 12) rfl) (ev_var (i := 6) rfl) (ev_var (i := 8) rfl) (ev_var (i := 11) rfl) v (ev_var (i := 17) rfl) (okv_sh hv) hTu hrest hok) (ev_var (i := 18) rfl) (rp_bl _) (by decide) (by decide)) (fun z => nomatch z) fun _ => ?_
    exact go_if (P := (· = (isNone d && holdsF U v))) (et_and (et_t (ev_isN (ev_var (i := 13) rfl)) rfl) (fun _ => et_b (ev_var (i := 18) rfl) rfl)) (fun h => (hcon v h).elim) fun _ => nx_endW () trivial le7 rfl
  · refine go_set (T := tB K (holdsF U pd)) (ev_unsafe_holds_0 U (ev_var (i := 4) rfl) (ev_var (i := 5) rfl) (ev_var (i := 12) rfl) (ev_var (i := 6) rfl) (ev_var (i := 8) rfl) (ev_var (i := 11) rfl) pd (ev_var (i := 15) rfl) (okv_sh okv) hTu hrest hok) ?_
    refine go_ifs (P := (· = false)) (et_neSame (d := .bool (holdsF U pd)) (e := .bool (!isNone d)) (ev_var (i := 18) rfl) (ev_notN (ev_var (i := 13) rfl)) (congrArg PyData.bool hhold) (sh_bl _) (eqv_bl _)) (fun z => nomatch z) fun _ => ?_
    exact go_if (P := (· = (false || false))) (et_or (a := false) (b := false) (et_n (et_b (ev_call (a := (⟨⟨p, tabs, n, log, sd, sl, kd, kl⟩, b⟩ : FwA)) (ea_cons (ev_var (i := 2) rfl) (ea_cons (ev_var (i := 4) rfl) (ea_cons (ev_var (i := 5) rfl) (ea_cons (ev_var (i := 6) rfl) (ea_cons (ev_var (i := 8) rfl) (ea_cons (ev_var (i := 11) rfl) ea_nil)))))) ⟨hMg, hgb⟩ (sub1 hb) (fun _ _ _ z => z)) rfl) rfl)
      (fun _ => et_n (et_b (ev_call (a := (⟨p, tabs, n, log⟩ : RfA)) (ea_cons (ev_var (i := 2) rfl) (ea_cons (ev_var (i := 4) rfl) (ea_cons (ev_var (i := 5) rfl) ea_nil))) ⟨hT, hn2, hL, by show log.length ≤ 100; omega⟩ (sub2 hb hTb') (fun _ _ _ z => z)) rfl) rfl)) (fun z => absurd z (by decide)) fun _ => nx_tail (nx_endW () trivial (.same (.no (.no (.no (.no (.no (.no (.no (.no (.no (.no (.no (.no (.no (.no (.no (.no (.no (.no .nil))))))))))))))))))) rfl)
end
end Ag
set_option Elab.async false
set_option linter.all false
set_option maxRecDepth 100000
set_option maxHeartbeats 4000000
/-! AgG: the law is called. -/
namespace Ag
open PySem PySem.Spec PyProof.Rows L2
/-- what is tracked at the law's call: the table, the script (where it is no known list) -/
def H0 (K : PySem.W.Frag) (Tb a : Addr) (vs : List Value) (xs : List V) : Hp := fun b => if b = Tb then some (.tbl #[]) else if b = a ∧ K.lookup a = none then some (.frz { cls := .type "list", data := .seq vs.toArray } (.lst xs)) else none
section
variable {P : Program} {w : World} {K : PySem.W.Frag} {mg mb : Str → Option Value} {k : Nat} {fa a c Tb : Addr} {fd : FuncData} {x : Str} {sp : Sp} {s₁ : Shared} {vs : List Value} {xs : List V} {b : Addr} {o : Obj} {u : HO}
theorem h0_tb : H0 K Tb a vs xs Tb = some (.tbl #[]) := if_pos rfl
theorem h0_cases (h : H0 K Tb a vs xs b = some u) : (b = Tb ∧ u = .tbl #[]) ∨ (b = a ∧ K.lookup a = none ∧ u = .frz { cls := .type "list", data := .seq vs.toArray } (.lst xs)) := by
  unfold H0 at h
  by_cases c1 : b = Tb
  · rw [if_pos c1] at h
    exact .inl ⟨c1, (Option.some.inj h).symm⟩
  · rw [if_neg c1] at h
    by_cases c2 : b = a ∧ K.lookup a = none
    · rw [if_pos c2] at h
      exact .inr ⟨c2.1, c2.2, (Option.some.inj h).symm⟩
    · rw [if_neg c2] at h
      cases h
theorem lawG (KX : K.In s₁.heap) (hns : s₁.heap.Ns mainGlobals mg) (hb : s₁.heap.Ns builtinsNs mb) (hbb : ∀ x : Str, x ≠ "__name__" → mb x = bootBuiltins x) (hlim : s₁.heap.NoLimit) (hg : s₁.gens = #[])
    (hT : s₁.heap.get? Tb = some { cls := .none, data := .fields #[] }) (nT : K.lookup Tb = none) (C : PySem.W.CodeHd s₁.heap c Tb)
    (hbm : ∃ (bm : Addr) (ob : Obj), mg "__builtins__" = some (.ref bm) ∧ bm ≠ builtinsNs ∧ s₁.heap.get? bm = some ob ∧ ob.cls = .type "module" ∧ ob.dict = some builtinsNs ∧ ob.data = .plain)
    (ha : s₁.heap.get? a = some { cls := .type "list", data := .seq vs.toArray }) (rv : Vals xs vs) (hl : xs.length ≤ sizeLine) (hr : Room k callerA)
    (F : ∀ base : Heap, K.In base → base.Ns mainGlobals mg → LamX.TabB base mg c Tb → FnG P w K mg base k fa fd [x] sp) (hbind : ∀ (s : Shared) (u : Value), BindsTo s fd ⟨[u], []⟩ [(x, u)])
    (hsp : ∀ H : Hp, H Tb = some (.tbl #[]) → a ≠ Tb → SqL K H a xs → sp [.ref a] H (fun v _ => v = .bl true) fun _ _ _ => False) :
    codeAny (model P w) callerA (.call (.ref fa) ⟨[.ref a], []⟩) (fun r s' => r = .ok (.ret (.bool true)) ∧ OldK s₁.heap s'.heap ∧ s'.os = s₁.os ∧ AllBare s'.gens) s₁ := by
  have neT : a ≠ Tb := by
    intro z
    rw [z, hT] at ha
    have z2 := congrArg Obj.data (Option.some.inj ha)
    cases z2
  obtain ⟨H, eH⟩ : ∃ H, H = H0 K Tb a vs xs := ⟨_, rfl⟩
  have cs : ∀ {b u}, H b = some u → (b = Tb ∧ u = .tbl #[]) ∨ (b = a ∧ K.lookup a = none ∧ u = .frz { cls := .type "list", data := .seq vs.toArray } (.lst xs)) := by
    intro b u e
    rw [eH] at e
    exact h0_cases e
  have atT : H Tb = some (.tbl #[]) := by rw [eH]; exact h0_tb
  have sq : SqL K H a xs := by
    cases hk : K.lookup a with
    | none =>
      left
      right
      refine ⟨{ cls := .type "list", data := .seq vs.toArray }, ?_⟩
      rw [eH]
      unfold H0
      rw [if_neg neT, if_pos ⟨rfl, hk⟩]
    | some o =>
      right
      have e := KX a o hk
      rw [ha] at e
      cases e
      exact ⟨_, vs.toArray, _, hk, rfl, rfl, rfl, by rw [List.size_toArray, ← rv.length]; exact hl, by simpa using rv⟩
  have ok : HOk P w H s₁.heap := by
    intro b u e
    rcases cs e with ⟨rfl, rfl⟩ | ⟨rfl, _, rfl⟩
    · exact hT
    · exact ⟨ha, hl, vs, _, rv, ha⟩
  -- what is neither a list nor an empty record is not tracked
  have off : ∀ {b : Addr} {o : Obj}, s₁.heap.get? b = some o → (∀ vs n, o.data ≠ .seq vs n) → o.data ≠ .fields #[] → H b = none := by
    intro b o e h1 h2
    cases q : H b with
    | none => rfl
    | some u =>
      exfalso
      rcases cs q with ⟨rfl, _⟩ | ⟨rfl, _, _⟩
      · rw [hT] at e
        cases e
        exact h2 rfl
      · rw [ha] at e
        cases e
        exact h1 _ _ rfl
  have stays : ∀ {b : Addr} {o : Obj}, s₁.heap.get? b = some o → H b = none → (hidT s₁.heap H).get? b = some o := fun e n => hidT_get e n
  have nsStays : ∀ {b : Addr} {m : Str → Option Value}, s₁.heap.Ns b m → (hidT s₁.heap H).Ns b m := by
    rintro b m ⟨o, es, ep, e, d, r⟩
    refine ⟨o, es, ep, stays e (off e ?_ ?_), d, r⟩
    · intro vs n z
      rw [d] at z
      cases z
    · intro z
      rw [d] at z
      cases z
  have KB : K.In (hidT s₁.heap H) := by
    intro b o e
    refine stays (KX b o e) ?_
    cases q : H b with
    | none => rfl
    | some u =>
      exfalso
      rcases cs q with ⟨rfl, _⟩ | ⟨rfl, hk, _⟩
      · rw [nT] at e
        cases e
      · rw [hk] at e
        cases e
  have TB : LamX.TabB (hidT s₁.heap H) mg c Tb := by
    refine ⟨?_, ?_, ?_⟩
    · obtain ⟨o, us, file, tf, flags, tg, inF, text, tt, e1, r1, r2, r3, r⟩ := C
      refine ⟨o, us, file, tf, flags, tg, inF, text, tt, stays e1 (off e1 ?_ ?_), r1, r2, r3, r⟩
      · intro vs n z
        rw [r2] at z
        cases z
      · intro z
        rw [r2] at z
        cases z
        simp at r3
    · obtain ⟨bm, ob, b1, b2, b3, b4, b5, b6⟩ := hbm
      refine ⟨bm, ob, b1, b2, ?_, ?_, stays b3 (off b3 ?_ ?_), b4, b5, b6⟩
      · intro q
        obtain ⟨o, es, ep, e, hd, _⟩ := hns
        rw [q, e] at b3
        cases b3
        rw [hd] at b6
        cases b6
      · intro q
        rw [q, hT] at b3
        cases b3
        cases b6
      · intro vs n z
        rw [b6] at z
        cases z
      · intro z
        rw [b6] at z
        cases z
    · intro z
      obtain ⟨o, es, ep, e, hd, _⟩ := hns
      rw [z, hT] at e
      cases e
      cases hd
  have M : L2.Mod K mg (hidT s₁.heap H) := by
    obtain ⟨mc, h1, h2⟩ := hlim
    exact ⟨KB, nsStays hns, ⟨mb, nsStays hb, hbb⟩, ⟨mc, nsStays h1, h2⟩⟩
  have e0 : Env0 P w K mg (hidT s₁.heap H) callerA [] s₁ H := ⟨rfl, M, fun b o e => of_hidT e, Nat.le_of_eq (hidT_size _ _), trivial, (fun b hb => absurd (show b ∈ ([] : List Addr) from hb) (by simp)), ok, .of_eq hg⟩
  refine codeAny_mono ((F _ KB (nsStays hns) TB).run callerA [] s₁ H ⟨[.ref a], []⟩ [.ref a] [.ref a] _ _ rfl hr e0 (hbind s₁ (.ref a)) (.cons rfl .nil) (hsp H atT neT sq)) ?_
  intro r s' h
  cases r with
  | error e =>
    obtain ⟨_, _, _, _, _, _, _, _, _, _, _, _, z⟩ := h
    exact (show False from z).elim
  | ok fl =>
    cases fl with
    | next => exact h.elim
    | brk => exact h.elim
    | cont => exact h.elim
    | ret u =>
      obtain ⟨v, H', os, bare, un, ok', r', q⟩ := h
      have q' : v = .bl true := q
      subst q'
      obtain rfl : u = Value.bool true := r'
      have others : ∀ b o, b ≠ Tb → s₁.heap.get? b = some o → s'.heap.get? b = some o := by
        intro b o ne e
        cases q : H b with
        | none => exact un.keep b o e q (fun z => absurd (show b ∈ ([] : List Addr) from z) (by simp)) (by simp)
        | some u =>
          rcases cs q with ⟨z, _⟩ | ⟨_, _, z⟩
          · exact absurd z ne
          · subst z
            have z2 := un.frzs b _ _ q
            obtain ⟨e1, _⟩ := ok b _ q
            obtain ⟨e2, _⟩ := ok' b _ z2
            rw [e] at e1
            cases e1
            exact e2
      obtain ⟨more, grown⟩ := un.tbls Tb #[] atT
      have grown' : s'.heap.get? Tb = some { cls := .none, data := .fields (#[] ++ more) } := ok' Tb _ grown
      refine ⟨rfl, ⟨?_, ?_⟩, os, bare⟩
      · intro b o e
        by_cases hb : b = Tb
        · rw [hb] at e ⊢
          rw [hT] at e
          cases e
          exact .inr (.inl ⟨(C.tab hT).isCodeTable, rfl, #[], more, rfl, grown'⟩)
        · exact .inl (others b o hb e)
      · intro b o e
        by_cases hb : b = Tb
        · rw [hb]
          exact ⟨_, grown'⟩
        · exact ⟨o, others b o hb e⟩
end
/-- the law's promise holds at the call -/
theorem law_sp {K : PySem.W.Frag} {Tb a : Addr} {ns : List Int} {H : Hp} (hT : H Tb = some (.tbl #[])) (ne : a ≠ Tb) (hs : SqL K H a (ns.map V.int)) (hl : ns.length ≤ 1000000) : sp_law K Tb [.ref a] H (fun v _ => v = .bl true) fun _ _ _ => False := by
  let G : Hp := fun b => if b = Tb then none else H b
  have ga : G a = H a := if_neg ne
  have gT : G Tb = none := if_pos rfl
  have le : Same G H := by
    intro b u e
    by_cases hb : b = Tb
    · have e' : (if b = Tb then none else H b) = some u := e
      rw [if_pos hb] at e'
      cases e'
    · have e' : (if b = Tb then none else H b) = some u := e
      rw [if_neg hb] at e'
      exact e'
  have sq : SqL K G a (ns.map V.int) := by
    rcases hs with (h | ⟨o, h⟩) | h
    · exact .inl (.inl (ga.trans h))
    · exact .inl (.inr ⟨o, ga.trans h⟩)
    · exact .inr h
  refine ⟨ns, G, [(Tb, cTab rfQ)], hl, ⟨le, ?_, ?_⟩, fun c hc => hc, .cons (.lst sq (dpAll_ints ns)) .nil, ?_, fun _ _ _ _ _ _ z => z.elim⟩
  · exact List.nodup_cons.mpr ⟨(fun h => nomatch h), List.nodup_nil⟩
  · intro c hc
    have e := List.mem_singleton.mp hc
    subst e
    refine ⟨gT, _, hT, #[], rfl, trivial, ?_⟩
    intro pos cv z
    have z' : codeAmong pos [] = some cv := z
    simp [codeAmong] at z'
  · intro v G' H' _ _ t
    cases t
    rfl
end Ag
set_option Elab.async false
set_option linter.all false
set_option maxRecDepth 100000
set_option maxHeartbeats 4000000
/-! AgU: each fact of the top by what its words find. -/
namespace Ag
open PySem PySem.Spec PyProof.Rows L2
section
variable {K : PySem.W.Frag} {h : Heap} {mg : Str → Option Value} {x qual m : Str} {st : Stmt} {f C : Addr} {oc kV dc pm cd ct : Value} {od an : Option Addr} {sl : Array (Option Value)}
theorem fun_at (l : K.lookup f = some ⟨oc, od, .func (PySem.W.fnOf x qual (defArgs st) (defBody st) (defScope st) .none kV dc pm an cd ct), sl⟩) (c : PySem.W.codeIn K cd qual = true) (k : PySem.W.keepIn K (.ref f) = true) : Fun K x qual st f (PySem.W.fnOf x qual (defArgs st) (defBody st) (defScope st) .none kV dc pm an cd ct) := fun_mk l c k
theorem defAt_mk (X : K.In h) (G : h.Ns mainGlobals mg) (a : PySem.W.nsIn K mainGlobals x = some (some (.ref f)))
    (l : K.lookup f = some ⟨oc, od, .func (PySem.W.fnOf x x (defArgs st) (defBody st) (defScope st) .none kV dc pm an cd ct), sl⟩) (c : PySem.W.codeIn K cd x = true) (k : PySem.W.keepIn K (.ref f) = true) : DefAt K mg x st :=
  ⟨f, _, PySem.W.mg_of X G a, fun_mk l c k⟩
theorem cOf_mk (X : K.In h) (G : h.Ns mainGlobals mg) (a : PySem.W.nsIn K mainGlobals x = some (some (.ref C))) : mg x = some (.ref C) ∧ cOf x mg = C := by
  have e := PySem.W.mg_of X G a
  refine ⟨e, ?_⟩
  unfold cOf
  rw [e]
theorem mdefAt_mk (_X : K.In h) (hC : cOf x mg = C) (a : PySem.W.findIn K (.ref C) m = some (some (.ref f))) (i : PySem.W.isFn K (.ref f) = true)
    (l : K.lookup f = some ⟨oc, od, .func (PySem.W.fnOf m qual (defArgs st) (defBody st) (defScope st) .none kV dc pm an cd ct), sl⟩) (c : PySem.W.codeIn K cd qual = true) (k : PySem.W.keepIn K (.ref f) = true) (cl : Cls K (cOf x mg)) : MDefAt K (cOf x mg) m qual st := by
  rw [hC] at cl ⊢
  exact ⟨f, _, fun_mk l c k, ⟨a, i, k⟩, cl⟩
theorem idefAt_mk (_X : K.In h) (hm : mg x = some (.ref C) ∧ cOf x mg = C) (a : PySem.W.findIn K (.ref C) "__init__" = some (some (.ref f))) (i : PySem.W.isFn K (.ref f) = true)
    (l : K.lookup f = some ⟨oc, od, .func (PySem.W.fnOf "__init__" qual (defArgs st) (defBody st) (defScope st) .none kV dc pm an cd ct), sl⟩) (c : PySem.W.codeIn K cd qual = true) (k : PySem.W.keepIn K (.ref f) = true) (mk : PySem.W.makesIn K C = true) (kc : PySem.W.keepIn K (.ref C) = true) : IDefAt K mg x qual (cOf x mg) st := by
  rw [hm.2]
  exact ⟨f, _, fun_mk l c k, ⟨mk, a, i, kc⟩, hm.1⟩
theorem kdefAt_mk {kws : List (Str × V)} (X : K.In h) (G : h.Ns mainGlobals mg) (a : PySem.W.nsIn K mainGlobals x = some (some (.ref f)))
    (l : K.lookup f = some ⟨oc, od, .func (PySem.W.fnOf x x (defArgs st) (defBody st) (defScope st) .none kV dc pm an cd ct), sl⟩) (c : PySem.W.codeIn K cd x = true) (k : PySem.W.keepIn K (.ref f) = true) (kw : KwdV K kV kws) : KDefAt K mg x st kws :=
  ⟨f, _, PySem.W.mg_of X G a, ⟨⟨oc, od, .none, kV, dc, pm, an, cd, ct, sl, rfl, l, c, .inl ⟨rfl, rfl⟩, kw⟩, k⟩⟩
theorem cls_mk (_X : K.In h) (hC : cOf x mg = C) (pg : PySem.W.plainGet K C Str.empty = true) (hd : PySem.W.hasDictIn K C = true) (po : PySem.W.plainOver K C = true) (sa : PySem.W.findIn K (.ref C) "__setattr__" = some (some (.builtin "object.__setattr__"))) : Cls K (cOf x mg) := by
  rw [hC]
  exact ⟨pg, hd, po, sa⟩
theorem na_mk (_X : K.In h) (hC : cOf x mg = C) (a : PySem.W.findIn K (.ref C) m = some none) : NoAttr K (cOf x mg) m := by
  rw [hC]
  exact a
end
end Ag
namespace Ag
open PySem PySem.Spec PyProof.Rows L2
section
variable {K : PySem.W.Frag} {h : Heap} {mg : Str → Option Value} {x qual m : Str} {st : Stmt} {f C D : Addr} {oc kV dc pm cd ct : Value} {od an : Option Addr} {sl : Array (Option Value)}
theorem kdef2_mk (X : K.In h) (G : h.Ns mainGlobals mg) (a : PySem.W.nsIn K mainGlobals x = some (some (.ref f)))
    (l : K.lookup f = some ⟨oc, od, .func (PySem.W.fnOf x x (defArgs st) (defBody st) (defScope st) .none (.ref D) dc pm an cd ct), sl⟩) (c : PySem.W.codeIn K cd x = true) (k : PySem.W.keepIn K (.ref f) = true)
    (k1 : PySem.W.nsIn K D "starts" = some (some .none)) (k2 : PySem.W.nsIn K D "kept" = some (some .none)) : KDefAt K mg x st [("starts", V.non), ("kept", V.non)] := by
  refine kdefAt_mk X G a l c k (.inr ⟨D, rfl, ?_⟩)
  intro q hq
  simp only [List.mem_cons, List.not_mem_nil, or_false] at hq
  rcases hq with rfl | rfl
  · exact ⟨_, k1, rfl⟩
  · exact ⟨_, k2, rfl⟩
theorem kdef3_mk (X : K.In h) (G : h.Ns mainGlobals mg) (a : PySem.W.nsIn K mainGlobals x = some (some (.ref f)))
    (l : K.lookup f = some ⟨oc, od, .func (PySem.W.fnOf x x (defArgs st) (defBody st) (defScope st) .none (.ref D) dc pm an cd ct), sl⟩) (c : PySem.W.codeIn K cd x = true) (k : PySem.W.keepIn K (.ref f) = true)
    (k1 : PySem.W.nsIn K D "starts" = some (some .none)) (k2 : PySem.W.nsIn K D "kept" = some (some .none)) (k3 : PySem.W.nsIn K D "bound" = some (some .none)) : KDefAt K mg x st [("starts", V.non), ("kept", V.non), ("bound", V.non)] := by
  refine kdefAt_mk X G a l c k (.inr ⟨D, rfl, ?_⟩)
  intro q hq
  simp only [List.mem_cons, List.not_mem_nil, or_false] at hq
  rcases hq with rfl | rfl | rfl
  · exact ⟨_, k1, rfl⟩
  · exact ⟨_, k2, rfl⟩
  · exact ⟨_, k3, rfl⟩
theorem oex_mk {nm q : Str} {N : Addr} {bs bm : List Value} {sn : List Str} {sub : List Value} {ab : Bool} {col : Option Bool} {dd : Option Addr} {k0 k1 k2 k3 k5 : Option Value}
    (l : K.lookup C = some (excClassObj nm q C N bs bm true sn sub ab col dd k0 k1 k2 k3 k5 "ValueError.__new__")) (hb : PySem.HandSPX.refsVE bm = true) (sa : PySem.W.findIn K (.ref C) "__setattr__" = some (some (.builtin "object.__setattr__")))
    (ex : PySem.W.subIn K (.ref C) (.type "BaseException") = some true) (ty : PySem.W.typeIn K (.ref C) = some (.type "type")) (kc : PySem.W.keepIn K (.ref C) = true) : OexC K C := ⟨⟨nm, q, N, bs, bm, sn, sub, ab, col, dd, k0, k1, k2, k3, k5, l, hb⟩, sa, ex, ty, kc⟩
theorem xc_mk {P : Program} (_X : K.In h) (hm : mg x = some (.ref C) ∧ cOf x mg = C) (ox : OexC K C) (i : PySem.W.findIn K (.ref C) "__init__" = some (some (.ref f))) (t : PySem.W.typeIn K (.ref f) = some (.type "function")) (ag : AgeI P K C f)
    (su : PySem.W.ks_superIn K C C "__init__" = some (some (.builtin "ValueError.__init__"))) (ve : PySem.W.subIn K (.ref C) (.type "ValueError") = some true) (self : PySem.W.mroIn K C (.ref C) = some true) (na : PySem.W.findIn K (.ref C) "at" = some none)
    (tp : PySem.W.nsIn K cStatics "thirdparty.any" = some none) (ns : mg "super" = none) : XcT P K mg x (cOf x mg) := by
  rw [hm.2]
  exact ⟨hm.1, ox, ⟨f, i, t, ag⟩, su, ve, self, na, tp, ns⟩
theorem xf_mk (ga : PySem.W.findIn K (.ref C) "__getattribute__" = some (some (.builtin "BaseException.__getattribute__"))) (gg : PySem.W.findIn K (.ref C) "__getattr__" = some none) (ex : PySem.W.subIn K (.ref C) (.type "BaseException") = some true)
    (hd : PySem.W.hasDictIn K C = true) : XfC K C := ⟨ga, gg, ex, hd⟩
theorem hdT_mk {B R N : Addr} (_X : K.In h) (nr : mg "repr" = none) (gB : mg "BadLog" = some (.ref B) ∧ cOf "BadLog" mg = B) (gR : mg "Refused" = some (.ref R) ∧ cOf "Refused" mg = R) (gN : mg "NoState" = some (.ref N))
    (rn : PySem.W.exmOne K (.ref R) (.ref N) = some false) (bb : PySem.W.exmOne K (.ref B) (.ref B) = some true) (rb : PySem.W.exmOne K (.ref R) (.ref B) = some false) (rr : PySem.W.exmOne K (.ref R) (.ref R) = some true)
    (xb : XfC K B) (xr : XfC K R) (ab : PySem.W.findIn K (.ref B) "at" = some none) (ar : PySem.W.findIn K (.ref R) "at" = some none) : HdT K mg := by
  have eB : cB mg = B := gB.2
  have eR : cR mg = R := gR.2
  exact ⟨nr, by rw [eB]; exact gB.1, by rw [eR]; exact gR.1, ⟨N, gN, by rw [eR]; exact rn⟩, by rw [eB]; exact bb, by rw [eR, eB]; exact rb, by rw [eR]; exact rr, by rw [eB]; exact xb, by rw [eR]; exact xr, by rw [eB]; exact ab, by rw [eR]; exact ar⟩
end
/-- the end: from what the top has left -/
theorem walkG {l : PySem.W.OpenLaw} {q : Program} {loose : List Str} {XP : (Str → Option Value) → Heap → Prop} {YP : World → Heap → Prop} {d : DefRec} {K : Params → PySem.W.Frag} {c Tb : Addr} (hn : l.most = some 63) (hdf : d.params.defaults = []) (hname : d.name = ("law" : Str))
    (hY : ∀ (w : World) (h : Heap), YP w h → (K w.params).In h) (hT : ∀ (w : World) (h : Heap), YP w h → h.get? Tb = some { cls := .none, data := .fields #[] })
    (F : ∀ (w : World) (mg : Str → Option Value) (h : Heap), (K w.params).In h → h.Ns mainGlobals mg → Prg l.prog (K w.params) mg ∧ HdT (K w.params) mg ∧ (∃ f fd, mg "law" = some (.ref f) ∧ Fun (K w.params) "law" "law" s_law f fd) ∧
      (∃ f fd, mg "_law_refusals" = some (.ref f) ∧ Fun (K w.params) "_law_refusals" "_law_refusals" s_Lrefusals f fd ∧ fd.code = .ref c) ∧ PySem.W.codeHdIn (K w.params) c Tb = true ∧ (K w.params).lookup Tb = none) :
    PySem.W.WalkO q loose XP YP l.row.toRowW d [] (fun f vs => PySem.call f vs) := by
  refine Att.attach_callB hn hdf fun w s₀ s₁ mg mb fa o pm cd doc a vs ns G Y ho hd hcd hmg hobj hints hlen hbits hg => ?_
  have KX := hY w _ Y
  obtain ⟨T, D, ⟨f, fd, hf, Fl⟩, ⟨fR, fdR, hR, FR, hcR⟩, hc, nT⟩ := F w mg _ KX G.T.g
  have e : fa = f := by
    rw [hname] at hmg
    have e1 := hmg.symm.trans hf
    cases e1
    rfl
  subst e
  have bind : ∀ (s : Shared) (u : Value), BindsTo s fd ⟨[u], []⟩ [("_law_script", u)] := by
    obtain ⟨oc, od, kV, dc, pm, an, cdv, ct, osl, rfl, _, _⟩ := Fl.ex
    exact fun s u => .of_eq rfl
  refine lawG (c := c) (Tb := Tb) (k := 17) (sp := sp_law (K w.params) Tb) KX G.T.g G.T.b G.T.builtins G.T.nolimit hg (hT w _ Y) nT (PySem.W.codeHd_of_K KX hc) G.T.bmain hobj (vals_ints hints) ?_ ⟨rfl, by decide, by decide⟩
    (fun base KB GB TB => ok_law T D ⟨⟨fR, fdR, hR, FR, hcR⟩, TB⟩ Fl) bind (fun H hH ne hs => law_sp hH ne hs (by omega))
  rw [List.length_map, sizeLine_eq]
  omega
end Ag
namespace Ag
open PySem PySem.Spec PyProof.Rows L2
theorem agei_mk {P : Program} {K : PySem.W.Frag} {C fI : Addr} {name qual : Str} {params : Arguments} {scope : Scope} {dV kV doc pm : Value} {an : Option Addr} {ct oc : Value} {od : Option Addr} {osl : Array (Option Value)} {cc cda : Addr} {txt : Str} {j : Nat} {p0 p1 p2 p3 p4 p5 q0 q1 q2 q3 : Pos} {ar : Arg}
    {ccl : Value} {cdd : Option Addr} {vs : Array Value} {ccs : Array (Option Value)} {cl : Value} {cld : Option Addr} {csl : Array (Option Value)} {file : Str} {tf : Tok} {pl : Sem Bool}
    (lk : K.lookup fI = some ⟨oc, od, .func (PySem.W.ksFn name qual params (ageBody txt j p0 p1 p2 p3 p4 p5 q0 q1 q2 q3) scope dV kV doc pm an (.ref cda) ct cc), osl⟩)
    (hcd : PySem.W.codeIn K (.ref cda) qual = true) (har : (params.posonlyargs ++ params.args).head? = some ar) (hself : ar.arg = "self")
    (hbind : ∀ u v : Value, bindArgs (PySem.W.ksFn name qual params (ageBody txt j p0 p1 p2 p3 p4 p5 q0 q1 q2 q3) scope dV kV doc pm an (.ref cda) ct cc) ⟨[u, v], []⟩ = pure [(("self" : Str), u), (("at" : Str), v)])
    (lkc : K.lookup cda = some ⟨ccl, cdd, .fields vs, ccs⟩) (hvs : vs[2]? = some (.str file tf)) (hfile : ((P.main.file : Str) == file) = true) (lcc : K.lookup cc = some ⟨cl, cld, .cell (some (.ref C)), csl⟩)
    (nsup : scope.names.lookup ("super" : Str) = some .globalImplicit) (ncls : scope.names.lookup ("__class__" : Str) = some .free) (nself : scope.names.lookup ("self" : Str) = some .local) (nat : scope.names.lookup ("at" : Str) = some .local)
    (hcell : ∀ x ∈ scope.names, x.2 ≠ .cell) (hco : scope.isCoroutine = false) (hgen : scope.isGenerator = false) (hk : scope.kind = .function) (htop : (P.main.scope.names.lookup ("super" : Str)).isSome = false)
    (hev : ∀ env : Env, eval (ageCall txt j p0 p1 p2 p3 p4) env = (do
        let ov ← attributeBase (.Call (.Name "super" p0) [] [] p1) "__init__" env (eval (.Call (.Name "super" p0) [] [] p1) env)
        standAt p2.atName
        let (f, first) ← holding [ov] (getMethod ov "__init__" pl)
        callWith p4 f first (backTo p4 (starEach [.Constant (.str txt) j p3] env)) []))
    (hsw1 : ∀ env : Env, swapsWith (ageCall txt j p0 p1 p2 p3 p4) none p5.line env = pure false) (hsw2 : ∀ env : Env, swapsWith (.Name "at" q2) (some (.Attribute (.Name "self" q0) "at" q1)) q3.line env = pure false) : AgeI P K C fI :=
  ⟨name, qual, params, scope, dV, kV, doc, pm, an, ct, oc, od, osl, cc, cda, txt, j, p0, p1, p2, p3, p4, p5, q0, q1, q2, q3, ar, ccl, cdd, vs, ccs, cl, cld, csl, file, tf, pl, lk, hcd, har, hself, hbind, lkc, hvs, hfile, lcc, nsup, ncls, nself, nat, hcell, hco, hgen, hk, htop, hev, hsw1, hsw2⟩
end Ag
namespace Ag
open PySem PySem.Spec PyProof.Rows L2
theorem lamAt_mk {K : PySem.W.Frag} {h : Heap} {mg : Str → Option Value} {x : Str} {st : Stmt} {f c : Addr} {oc kV dc pm ct : Value} {od an : Option Addr} {sl : Array (Option Value)} (X : K.In h) (G : h.Ns mainGlobals mg) (a : PySem.W.nsIn K mainGlobals x = some (some (.ref f)))
    (l : K.lookup f = some ⟨oc, od, .func (PySem.W.fnOf x x (defArgs st) (defBody st) (defScope st) .none kV dc pm an (.ref c) ct), sl⟩) (ci : PySem.W.codeIn K (.ref c) x = true) (k : PySem.W.keepIn K (.ref f) = true) : ∃ f fd, mg x = some (.ref f) ∧ Fun K x x st f fd ∧ fd.code = .ref c :=
  ⟨f, _, PySem.W.mg_of X G a, fun_mk l ci k, rfl⟩
end Ag
set_option Elab.async false
set_option linter.all false
set_option maxRecDepth 100000
set_option maxHeartbeats 0
open PySem PySem.W PySem.Calls PyProof.Rows
theorem PySem.Challenge.cw_agedcopy_k12_whole_markings_safe_or_not_holds : PySem.Challenge.rw_agedcopy_k12_whole_markings_safe_or_not.Holds := by
  w_on; o_law; k_head; (case hw => w_witness2); k_fill
  refine' Ag.walkG (l := PySem.Challenge.rw_agedcopy_k12_whole_markings_safe_or_not) rfl rfl (by kernel_rfl) (fun w h Y => PySem.W.km_in_of Y) (fun w h Y => PySem.W.km_tabs_of Y _ List.mem_cons_self) ?F
  case F =>
    intro w mg h X G
    have c_Machine := Ag.cOf_mk (mg := mg) (x := "Machine") X G (by k_is)
    have c_Sight := Ag.cOf_mk (mg := mg) (x := "Sight") X G (by k_is)
    have c_Paths := Ag.cOf_mk (mg := mg) (x := "Paths") X G (by k_is)
    have c_BadLog := Ag.cOf_mk (mg := mg) (x := "BadLog") X G (by k_is)
    have c_Refused := Ag.cOf_mk (mg := mg) (x := "Refused") X G (by k_is)
    have f_n_isinstance : mg "isinstance" = none := PySem.W.mg_none_of X G (by k_is)
    have f_n_len : mg "len" = none := PySem.W.mg_none_of X G (by k_is)
    have f_n_abs : mg "abs" = none := PySem.W.mg_none_of X G (by k_is)
    have f_n_min : mg "min" = none := PySem.W.mg_none_of X G (by k_is)
    have f_n_all : mg "all" = none := PySem.W.mg_none_of X G (by k_is)
    have f_n_sorted : mg "sorted" = none := PySem.W.mg_none_of X G (by k_is)
    have f_n_repr : mg "repr" = none := PySem.W.mg_none_of X G (by k_is)
    have f_n_int : mg "int" = none := PySem.W.mg_none_of X G (by k_is)
    have f_n_bool : mg "bool" = none := PySem.W.mg_none_of X G (by k_is)
    have f_n_str : mg "str" = none := PySem.W.mg_none_of X G (by k_is)
    have f_n_list : mg "list" = none := PySem.W.mg_none_of X G (by k_is)
    have f_n_tuple : mg "tuple" = none := PySem.W.mg_none_of X G (by k_is)
    have f_n_range : mg "range" = none := PySem.W.mg_none_of X G (by k_is)
    have f_n_zip : mg "zip" = none := PySem.W.mg_none_of X G (by k_is)
    have f_n_enumerate : mg "enumerate" = none := PySem.W.mg_none_of X G (by k_is)
    have n_super : mg "super" = none := PySem.W.mg_none_of X G (by k_is)
    have f_MOST_DEEDS : ∃ t, mg "MOST_DEEDS" = some (.int 8 t) := ⟨_, PySem.W.mg_of X G (by k_is)⟩
    have f_MOST_STATES : ∃ t, mg "MOST_STATES" = some (.int 12 t) := ⟨_, PySem.W.mg_of X G (by k_is)⟩
    have f_MOST_LOG : ∃ t, mg "MOST_LOG" = some (.int 10000 t) := ⟨_, PySem.W.mg_of X G (by k_is)⟩
    have f_BadLog : Ag.XcT PySem.Challenge.rw_agedcopy_k12_whole_markings_safe_or_not.prog _ mg "BadLog" (Ag.cOf "BadLog" mg) := Ag.xc_mk X c_BadLog (Ag.oex_mk (by k_is) (by kernel_rfl) (by k_is) (by k_is) (by k_is) (by k_is)) (by k_is) (by k_is) (Ag.agei_mk (by k_is) (by k_is) rfl rfl (fun _ _ => rfl) (by k_is) rfl (by kernel_rfl) (by k_is) rfl rfl rfl rfl (by decide +kernel) rfl rfl rfl (by kernel_rfl) (fun _ => rfl) (fun _ => rfl) (fun _ => rfl)) (by ks_is) (by k_is) (by k_is) (by k_is) (by k_is) n_super
    have f_Refused : Ag.XcT PySem.Challenge.rw_agedcopy_k12_whole_markings_safe_or_not.prog _ mg "Refused" (Ag.cOf "Refused" mg) := Ag.xc_mk X c_Refused (Ag.oex_mk (by k_is) (by kernel_rfl) (by k_is) (by k_is) (by k_is) (by k_is)) (by k_is) (by k_is) (Ag.agei_mk (by k_is) (by k_is) rfl rfl (fun _ _ => rfl) (by k_is) rfl (by kernel_rfl) (by k_is) rfl rfl rfl rfl (by decide +kernel) rfl rfl rfl (by kernel_rfl) (fun _ => rfl) (fun _ => rfl) (fun _ => rfl)) (by ks_is) (by k_is) (by k_is) (by k_is) (by k_is) n_super
    have f_cls_Machine : L2.Cls _ (Ag.cOf "Machine" mg) := Ag.cls_mk X c_Machine.2 (by k_is) (by k_is) (by k_is) (by k_is)
    have f_cls_Sight : L2.Cls _ (Ag.cOf "Sight" mg) := Ag.cls_mk X c_Sight.2 (by k_is) (by k_is) (by k_is) (by k_is)
    have f_cls_Paths : L2.Cls _ (Ag.cOf "Paths" mg) := Ag.cls_mk X c_Paths.2 (by k_is) (by k_is) (by k_is) (by k_is)
    have f_na_Machine_tables : L2.NoAttr _ (Ag.cOf "Machine" mg) "tables" := Ag.na_mk X c_Machine.2 (by k_is)
    have f_na_Machine_deeds : L2.NoAttr _ (Ag.cOf "Machine" mg) "deeds" := Ag.na_mk X c_Machine.2 (by k_is)
    have f_na_Machine_states : L2.NoAttr _ (Ag.cOf "Machine" mg) "states" := Ag.na_mk X c_Machine.2 (by k_is)
    have f_na_Sight_machine : L2.NoAttr _ (Ag.cOf "Sight" mg) "machine" := Ag.na_mk X c_Sight.2 (by k_is)
    have f_na_Sight_log : L2.NoAttr _ (Ag.cOf "Sight" mg) "log" := Ag.na_mk X c_Sight.2 (by k_is)
    have f_na_Sight_state : L2.NoAttr _ (Ag.cOf "Sight" mg) "state" := Ag.na_mk X c_Sight.2 (by k_is)
    have f_na_Sight_starts : L2.NoAttr _ (Ag.cOf "Sight" mg) "starts" := Ag.na_mk X c_Sight.2 (by k_is)
    have f_na_Sight_bound : L2.NoAttr _ (Ag.cOf "Sight" mg) "bound" := Ag.na_mk X c_Sight.2 (by k_is)
    have f_na_Sight_rows : L2.NoAttr _ (Ag.cOf "Sight" mg) "rows" := Ag.na_mk X c_Sight.2 (by k_is)
    have f_na_Sight_all_ages : L2.NoAttr _ (Ag.cOf "Sight" mg) "all_ages" := Ag.na_mk X c_Sight.2 (by k_is)
    have f_na_Sight_ages : L2.NoAttr _ (Ag.cOf "Sight" mg) "ages" := Ag.na_mk X c_Sight.2 (by k_is)
    have f_na_Paths_state : L2.NoAttr _ (Ag.cOf "Paths" mg) "state" := Ag.na_mk X c_Paths.2 (by k_is)
    have f_na_Paths_bound : L2.NoAttr _ (Ag.cOf "Paths" mg) "bound" := Ag.na_mk X c_Paths.2 (by k_is)
    have f_na_Paths_places : L2.NoAttr _ (Ag.cOf "Paths" mg) "places" := Ag.na_mk X c_Paths.2 (by k_is)
    have f_na_Paths_youngest : L2.NoAttr _ (Ag.cOf "Paths" mg) "youngest" := Ag.na_mk X c_Paths.2 (by k_is)
    have f_d_is_integer : Ag.DefAt _ mg "is_integer" Ag.s_is_integer := Ag.defAt_mk X G (by k_is) (by k_is) (by k_is) (by k_is)
    have f_d_is_number : Ag.DefAt _ mg "is_number" Ag.s_is_number := Ag.defAt_mk X G (by k_is) (by k_is) (by k_is) (by k_is)
    have f_d_is_below : Ag.DefAt _ mg "is_below" Ag.s_is_below := Ag.defAt_mk X G (by k_is) (by k_is) (by k_is) (by k_is)
    have f_d_is_sequence : Ag.DefAt _ mg "is_sequence" Ag.s_is_sequence := Ag.defAt_mk X G (by k_is) (by k_is) (by k_is) (by k_is)
    have f_d_is_text : Ag.DefAt _ mg "is_text" Ag.s_is_text := Ag.defAt_mk X G (by k_is) (by k_is) (by k_is) (by k_is)
    have f_d_is_ascending : Ag.DefAt _ mg "is_ascending" Ag.s_is_ascending := Ag.defAt_mk X G (by k_is) (by k_is) (by k_is) (by k_is)
    have f_d_is_table : Ag.DefAt _ mg "is_table" Ag.s_is_table := Ag.defAt_mk X G (by k_is) (by k_is) (by k_is) (by k_is)
    have f_d_check_tables : Ag.DefAt _ mg "check_tables" Ag.s_check_tables := Ag.defAt_mk X G (by k_is) (by k_is) (by k_is) (by k_is)
    have f_d_Machine_init : Ag.IDefAt _ mg "Machine" "Machine.__init__" (Ag.cOf "Machine" mg) Ag.s_Machine_init := Ag.idefAt_mk X c_Machine (by k_is) (by k_is) (by k_is) (by k_is) (by k_is) (by k_is) (by k_is)
    have f_d_need_state : Ag.DefAt _ mg "need_state" Ag.s_need_state := Ag.defAt_mk X G (by k_is) (by k_is) (by k_is) (by k_is)
    have f_d_check_log : Ag.DefAt _ mg "check_log" Ag.s_check_log := Ag.defAt_mk X G (by k_is) (by k_is) (by k_is) (by k_is)
    have f_d_check_starts : Ag.DefAt _ mg "check_starts" Ag.s_check_starts := Ag.defAt_mk X G (by k_is) (by k_is) (by k_is) (by k_is)
    have f_d_behind : Ag.DefAt _ mg "behind" Ag.s_behind := Ag.defAt_mk X G (by k_is) (by k_is) (by k_is) (by k_is)
    have f_d_are_rising : Ag.DefAt _ mg "are_rising" Ag.s_are_rising := Ag.defAt_mk X G (by k_is) (by k_is) (by k_is) (by k_is)
    have f_d_check_kept : Ag.DefAt _ mg "check_kept" Ag.s_check_kept := Ag.defAt_mk X G (by k_is) (by k_is) (by k_is) (by k_is)
    have f_d_check_bound : Ag.DefAt _ mg "check_bound" Ag.s_check_bound := Ag.defAt_mk X G (by k_is) (by k_is) (by k_is) (by k_is)
    have f_d_start_rows : Ag.DefAt _ mg "start_rows" Ag.s_start_rows := Ag.defAt_mk X G (by k_is) (by k_is) (by k_is) (by k_is)
    have f_d_in_window : Ag.DefAt _ mg "in_window" Ag.s_in_window := Ag.defAt_mk X G (by k_is) (by k_is) (by k_is) (by k_is)
    have f_d_Sight_init : Ag.IDefAt _ mg "Sight" "Sight.__init__" (Ag.cOf "Sight" mg) Ag.s_Sight_init := Ag.idefAt_mk X c_Sight (by k_is) (by k_is) (by k_is) (by k_is) (by k_is) (by k_is) (by k_is)
    have f_d_Sight_seen : Ag.MDefAt _ (Ag.cOf "Sight" mg) "seen" "Sight.seen" Ag.s_Sight_seen := Ag.mdefAt_mk X c_Sight.2 (by k_is) (by k_is) (by k_is) (by k_is) (by k_is) f_cls_Sight
    have f_d_Paths_init : Ag.IDefAt _ mg "Paths" "Paths.__init__" (Ag.cOf "Paths" mg) Ag.s_Paths_init := Ag.idefAt_mk X c_Paths (by k_is) (by k_is) (by k_is) (by k_is) (by k_is) (by k_is) (by k_is)
    have f_d_Paths_go : Ag.MDefAt _ (Ag.cOf "Paths" mg) "go" "Paths.go" Ag.s_Paths_go := Ag.mdefAt_mk X c_Paths.2 (by k_is) (by k_is) (by k_is) (by k_is) (by k_is) f_cls_Paths
    have f_d_Paths_is_living : Ag.MDefAt _ (Ag.cOf "Paths" mg) "is_living" "Paths.is_living" Ag.s_Paths_is_living := Ag.mdefAt_mk X c_Paths.2 (by k_is) (by k_is) (by k_is) (by k_is) (by k_is) f_cls_Paths
    have f_d_Paths_held : Ag.MDefAt _ (Ag.cOf "Paths" mg) "held" "Paths.held" Ag.s_Paths_held := Ag.mdefAt_mk X c_Paths.2 (by k_is) (by k_is) (by k_is) (by k_is) (by k_is) f_cls_Paths
    have f_d_Paths_mark_now : Ag.MDefAt _ (Ag.cOf "Paths" mg) "mark_now" "Paths.mark_now" Ag.s_Paths_mark_now := Ag.mdefAt_mk X c_Paths.2 (by k_is) (by k_is) (by k_is) (by k_is) (by k_is) f_cls_Paths
    have f_d_Paths_put_copy : Ag.MDefAt _ (Ag.cOf "Paths" mg) "put_copy" "Paths.put_copy" Ag.s_Paths_put_copy := Ag.mdefAt_mk X c_Paths.2 (by k_is) (by k_is) (by k_is) (by k_is) (by k_is) f_cls_Paths
    have f_d_marks_of : Ag.DefAt _ mg "marks_of" Ag.s_marks_of := Ag.defAt_mk X G (by k_is) (by k_is) (by k_is) (by k_is)
    have f_d_path_marks : Ag.KDefAt _ mg "path_marks" Ag.s_path_marks [("starts", L2.V.non), ("kept", L2.V.non)] := Ag.kdef2_mk X G (by k_is) (by k_is) (by k_is) (by k_is) (by k_is) (by k_is)
    have f_d_check_marking : Ag.DefAt _ mg "check_marking" Ag.s_check_marking := Ag.defAt_mk X G (by k_is) (by k_is) (by k_is) (by k_is)
    have f_d_unsafe_paper : Ag.KDefAt _ mg "unsafe_paper" Ag.s_unsafe_paper [("starts", L2.V.non), ("kept", L2.V.non), ("bound", L2.V.non)] := Ag.kdef3_mk X G (by k_is) (by k_is) (by k_is) (by k_is) (by k_is) (by k_is) (by k_is)
    have f_d_are_unlike : Ag.DefAt _ mg "are_unlike" Ag.s_are_unlike := Ag.defAt_mk X G (by k_is) (by k_is) (by k_is) (by k_is)
    have f_d_is_safe_marking : Ag.KDefAt _ mg "is_safe_marking" Ag.s_is_safe_marking [("starts", L2.V.non), ("kept", L2.V.non), ("bound", L2.V.non)] := Ag.kdef3_mk X G (by k_is) (by k_is) (by k_is) (by k_is) (by k_is) (by k_is) (by k_is)
    have f_d_unsafe_holds : Ag.KDefAt _ mg "unsafe_holds" Ag.s_unsafe_holds [("starts", L2.V.non), ("kept", L2.V.non), ("bound", L2.V.non)] := Ag.kdef3_mk X G (by k_is) (by k_is) (by k_is) (by k_is) (by k_is) (by k_is) (by k_is)
    have f_d_coming_back : Ag.DefAt _ mg "coming_back" Ag.s_coming_back := Ag.defAt_mk X G (by k_is) (by k_is) (by k_is) (by k_is)
    have f_d_nexts_of : Ag.DefAt _ mg "nexts_of" Ag.s_nexts_of := Ag.defAt_mk X G (by k_is) (by k_is) (by k_is) (by k_is)
    have f_d_lowest_of : Ag.DefAt _ mg "lowest_of" Ag.s_lowest_of := Ag.defAt_mk X G (by k_is) (by k_is) (by k_is) (by k_is)
    have f_d_lowest_ages : Ag.KDefAt _ mg "lowest_ages" Ag.s_lowest_ages [("starts", L2.V.non), ("kept", L2.V.non), ("bound", L2.V.non)] := Ag.kdef3_mk X G (by k_is) (by k_is) (by k_is) (by k_is) (by k_is) (by k_is) (by k_is)
    have f_d_least_marks : Ag.KDefAt _ mg "least_marks" Ag.s_least_marks [("starts", L2.V.non), ("kept", L2.V.non), ("bound", L2.V.non)] := Ag.kdef3_mk X G (by k_is) (by k_is) (by k_is) (by k_is) (by k_is) (by k_is) (by k_is)
    have f_d_Lbox : Ag.DefAt _ mg "_law_box" Ag.s_Lbox := Ag.defAt_mk X G (by k_is) (by k_is) (by k_is) (by k_is)
    have f_d_Ltake : Ag.DefAt _ mg "_law_take" Ag.s_Ltake := Ag.defAt_mk X G (by k_is) (by k_is) (by k_is) (by k_is)
    have f_d_Lpick : Ag.DefAt _ mg "_law_pick" Ag.s_Lpick := Ag.defAt_mk X G (by k_is) (by k_is) (by k_is) (by k_is)
    have f_d_Ltables : Ag.DefAt _ mg "_law_tables" Ag.s_Ltables := Ag.defAt_mk X G (by k_is) (by k_is) (by k_is) (by k_is)
    have f_d_Llog : Ag.DefAt _ mg "_law_log" Ag.s_Llog := Ag.defAt_mk X G (by k_is) (by k_is) (by k_is) (by k_is)
    have f_d_Lrows : Ag.DefAt _ mg "_law_rows" Ag.s_Lrows := Ag.defAt_mk X G (by k_is) (by k_is) (by k_is) (by k_is)
    have f_d_Lstarts : Ag.DefAt _ mg "_law_starts" Ag.s_Lstarts := Ag.defAt_mk X G (by k_is) (by k_is) (by k_is) (by k_is)
    have f_d_Lkept : Ag.DefAt _ mg "_law_kept" Ag.s_Lkept := Ag.defAt_mk X G (by k_is) (by k_is) (by k_is) (by k_is)
    have f_d_Lseen : Ag.DefAt _ mg "_law_seen" Ag.s_Lseen := Ag.defAt_mk X G (by k_is) (by k_is) (by k_is) (by k_is)
    have f_d_Lheard : Ag.DefAt _ mg "_law_heard" Ag.s_Lheard := Ag.defAt_mk X G (by k_is) (by k_is) (by k_is) (by k_is)
    have f_d_Lages : Ag.DefAt _ mg "_law_ages" Ag.s_Lages := Ag.defAt_mk X G (by k_is) (by k_is) (by k_is) (by k_is)
    have f_d_Lapart : Ag.DefAt _ mg "_law_apart" Ag.s_Lapart := Ag.defAt_mk X G (by k_is) (by k_is) (by k_is) (by k_is)
    have f_d_Ldue : Ag.DefAt _ mg "_law_due" Ag.s_Ldue := Ag.defAt_mk X G (by k_is) (by k_is) (by k_is) (by k_is)
    have f_d_Lwhole : Ag.DefAt _ mg "_law_whole" Ag.s_Lwhole := Ag.defAt_mk X G (by k_is) (by k_is) (by k_is) (by k_is)
    have f_d_Lholds : Ag.DefAt _ mg "_law_holds" Ag.s_Lholds := Ag.defAt_mk X G (by k_is) (by k_is) (by k_is) (by k_is)
    have f_d_Lbent : Ag.DefAt _ mg "_law_bent" Ag.s_Lbent := Ag.defAt_mk X G (by k_is) (by k_is) (by k_is) (by k_is)
    have f_d_Lmarking : Ag.DefAt _ mg "_law_marking" Ag.s_Lmarking := Ag.defAt_mk X G (by k_is) (by k_is) (by k_is) (by k_is)
    have f_d_Lfew_right : Ag.DefAt _ mg "_law_few_right" Ag.s_Lfew_right := Ag.defAt_mk X G (by k_is) (by k_is) (by k_is) (by k_is)
    have f_d_Lrefusals : Ag.DefAt _ mg "_law_refusals" Ag.s_Lrefusals := Ag.defAt_mk X G (by k_is) (by k_is) (by k_is) (by k_is)
    have hdt : Ag.HdT _ mg := Ag.hdT_mk X f_n_repr c_BadLog c_Refused (PySem.W.mg_of X G (by k_is)) (by kernel_rfl) (by kernel_rfl) (by kernel_rfl) (by kernel_rfl) (Ag.xf_mk (by k_is) (by k_is) (by k_is) (by k_is)) (Ag.xf_mk (by k_is) (by k_is) (by k_is) (by k_is)) (by k_is) (by k_is)
    have hlaw := (Ag.defAt_mk (x := "law") (st := Ag.s_law) X G (by k_is) (by k_is) (by k_is) (by k_is)).ex
    have href := Ag.lamAt_mk (x := "_law_refusals") (st := Ag.s_Lrefusals) X G (by k_is) (by k_is) (by k_is) (by k_is)
    exact ⟨{ n_isinstance := f_n_isinstance, n_len := f_n_len, n_abs := f_n_abs, n_min := f_n_min, n_all := f_n_all, n_sorted := f_n_sorted, n_repr := f_n_repr, n_int := f_n_int, n_bool := f_n_bool, n_str := f_n_str, n_list := f_n_list, n_tuple := f_n_tuple, n_range := f_n_range, n_zip := f_n_zip, n_enumerate := f_n_enumerate, MOST_DEEDS := f_MOST_DEEDS, MOST_STATES := f_MOST_STATES, MOST_LOG := f_MOST_LOG, BadLog := f_BadLog, Refused := f_Refused, cls_Machine := f_cls_Machine, cls_Sight := f_cls_Sight, cls_Paths := f_cls_Paths, na_Machine_tables := f_na_Machine_tables, na_Machine_deeds := f_na_Machine_deeds, na_Machine_states := f_na_Machine_states, na_Sight_machine := f_na_Sight_machine, na_Sight_log := f_na_Sight_log, na_Sight_state := f_na_Sight_state, na_Sight_starts := f_na_Sight_starts, na_Sight_bound := f_na_Sight_bound, na_Sight_rows := f_na_Sight_rows, na_Sight_all_ages := f_na_Sight_all_ages, na_Sight_ages := f_na_Sight_ages, na_Paths_state := f_na_Paths_state, na_Paths_bound := f_na_Paths_bound, na_Paths_places := f_na_Paths_places, na_Paths_youngest := f_na_Paths_youngest, d_is_integer := f_d_is_integer, d_is_number := f_d_is_number, d_is_below := f_d_is_below, d_is_sequence := f_d_is_sequence, d_is_text := f_d_is_text, d_is_ascending := f_d_is_ascending, d_is_table := f_d_is_table, d_check_tables := f_d_check_tables, d_Machine_init := f_d_Machine_init, d_need_state := f_d_need_state, d_check_log := f_d_check_log, d_check_starts := f_d_check_starts, d_behind := f_d_behind, d_are_rising := f_d_are_rising, d_check_kept := f_d_check_kept, d_check_bound := f_d_check_bound, d_start_rows := f_d_start_rows, d_in_window := f_d_in_window, d_Sight_init := f_d_Sight_init, d_Sight_seen := f_d_Sight_seen, d_Paths_init := f_d_Paths_init, d_Paths_go := f_d_Paths_go, d_Paths_is_living := f_d_Paths_is_living, d_Paths_held := f_d_Paths_held, d_Paths_mark_now := f_d_Paths_mark_now, d_Paths_put_copy := f_d_Paths_put_copy, d_marks_of := f_d_marks_of, d_path_marks := f_d_path_marks, d_check_marking := f_d_check_marking, d_unsafe_paper := f_d_unsafe_paper, d_are_unlike := f_d_are_unlike, d_is_safe_marking := f_d_is_safe_marking, d_unsafe_holds := f_d_unsafe_holds, d_coming_back := f_d_coming_back, d_nexts_of := f_d_nexts_of, d_lowest_of := f_d_lowest_of, d_lowest_ages := f_d_lowest_ages, d_least_marks := f_d_least_marks, d_Lbox := f_d_Lbox, d_Ltake := f_d_Ltake, d_Lpick := f_d_Lpick, d_Ltables := f_d_Ltables, d_Llog := f_d_Llog, d_Lrows := f_d_Lrows, d_Lstarts := f_d_Lstarts, d_Lkept := f_d_Lkept, d_Lseen := f_d_Lseen, d_Lheard := f_d_Lheard, d_Lages := f_d_Lages, d_Lapart := f_d_Lapart, d_Ldue := f_d_Ldue, d_Lwhole := f_d_Lwhole, d_Lholds := f_d_Lholds, d_Lbent := f_d_Lbent, d_Lmarking := f_d_Lmarking, d_Lfew_right := f_d_Lfew_right, d_Lrefusals := f_d_Lrefusals }, hdt, hlaw, href, by kernel_rfl, by kernel_rfl⟩
