import PyProof.Rows.All
import Wide.All
import OpenK.AllK
import Wide.FinOn
import HandS.ForMost
import HandS.Wide
import HandS.Walk
import HandS.TupAny
import HandS.Nested
import HandS.ExcInit
import HandS.ExcField
import HandS.TryOnly
import HandS.WordsExc
import HandS.FStr
import HandS.IsInst
import HandS.TupSets
import HandS.TupLen
import HandS.TupMul
import HandS.DictComp
import HandS.More
import HandS.Style
import KE.KDictSum
import KE.KExcSuper
import PySem.Challenge.RW_everyoctetonce_k14_plans
set_option Elab.async false
set_option linter.all false
set_option maxRecDepth 100000
set_option maxHeartbeats 2000000
set_option pp.maxSteps 250
namespace Eo14
open PySem L2
/-! ### an own exception's __init__ that begins with super().__init__(e) -/
namespace Sup
open PySem PySem.W PySem.Calls PyProof.Rows L2 NdefX
variable {CX : CXT} {P : Program} {w : World} {K : PySem.W.Frag} {mg : Str → Option Value} {base : Heap} {N ps : List Str} {f cc cda C : Addr} {k : Nat} {sp : Sp}
/-- what the written part says of the def, its cell, its class -/
structure SupTxt (P : Program) (K : PySem.W.Frag) (mg : Str → Option Value) (F : NF) (f cc C : Addr) (self0 : Str) : Prop where
  lk : ∃ oc od doc pm an ct osl, K.lookup f = some ⟨oc, od, .func (PySem.W.fnX F.name F.qual F.params F.body F.scope F.cl .none .none doc pm an (.ref F.c) ct), osl⟩
  cl : F.cl = [(("__class__" : Str), cc)]
  code : codeIn K (.ref F.c) F.qual = true
  cob : ∃ ccl cdd vs ccs file tf, K.lookup F.c = some ⟨ccl, cdd, .fields vs, ccs⟩ ∧ vs[2]? = some (.str file tf) ∧ ((P.main.file : Str) == file) = true
  cell : ∃ cl cld csl, K.lookup cc = some ⟨cl, cld, .cell (some (.ref C)), csl⟩
  T : OexC K C
  sub : mroIn K C (.ref C) = some true
  msup : mg "super" = none
  top : (P.main.scope.names.lookup ("super" : Str)).isSome = false
  opq : nsIn K cStatics "thirdparty.any" = some none
  init : ks_superIn K C C "__init__" = some (some (.builtin "ValueError.__init__"))
  ve : subIn K (.ref C) (.type "ValueError") = some true
  par : ∃ ar, (F.params.posonlyargs ++ F.params.args).head? = some ar ∧ ar.arg = self0
  ks : F.scope.names.lookup ("super" : Str) = some .globalImplicit
  boot : bootBuiltins "super" = some (.type "super")
theorem fn_super {F : NF} {self0 : Str} {ps' : List Str} {p0 p1 p2 p3 p4 : Pos} {e : Expr} {rest : List Stmt} (X : SupTxt P K mg F f cc C self0) (S : NScope N (self0 :: ps') ["__class__"] F.scope)
    (hb : F.body = .Expr (.Call (.Attribute (.Call (.Name "super" p0) [] [] p1) "__init__" p2) [e] [] p3) p4 :: rest)
    (len : ∀ vs H Q E, sp vs H Q E → vs.length = (self0 :: ps').length)
    (hbody : ∀ (A : Around) (outer : List Env) (s : Shared) (H : Hp) (vs : List V) (Q : VK) (E : XK), Room k (A.deeper (envF F f s.heap.objs.size)) → sp vs H Q E →
      ∃ a vr ta R, vs = .ref a :: vr ∧ H a = some (exo a C none) ∧ PA (ncx CX P w K mg base N F f A outer s H E) [e] ta ∧ ta (startF N vs [none]) H R ∧
        ∀ ws H1, R ws H1 → ws.length ≤ 1000 ∧ H1 a = some (exo a C none) ∧ ∃ t, PSs (ncx CX P w K mg base N F f A outer s H E) rest t ∧ t { nx := fun _ H' => Q .non H', rt := Q } (startF N vs [none]) H1)
    {pl : Sem Bool} (hev : ∀ L : Addr, eval (.Call (.Attribute (.Call (.Name "super" p0) [] [] p1) "__init__" p2) [e] [] p3) (envF F f L) = (do
      let ov ← attributeBase (.Call (.Name "super" p0) [] [] p1) "__init__" (envF F f L) (eval (.Call (.Name "super" p0) [] [] p1) (envF F f L))
      standAt p2.atName
      let (g, first) ← holding [ov] (getMethod ov "__init__" pl)
      callWith p3 g first (backTo p3 (starEach [e] (envF F f L))) []))
    (hsw : ∀ L : Addr, swapsWith (.Call (.Attribute (.Call (.Name "super" p0) [] [] p1) "__init__" p2) [e] [] p3) none p4.line (envF F f L) = pure false)
    (hst : ∀ L : Addr, starEach [e] (envF F f L) = (false, eval e (envF F f L)) :: starEach [] (envF F f L))
    {fd : FuncData} (hfd : ∃ oc od osl, K.lookup f = some ⟨oc, od, .func fd, osl⟩) :
    FnOk P w K mg base CX (k + 1) f fd (self0 :: ps') sp := by
  obtain ⟨oc, od, doc, pm, an, ct, osl, lk⟩ := X.lk
  obtain ⟨_, _, _, lk2⟩ := hfd
  rw [lk] at lk2
  cases lk2
  refine ⟨len, fun A outer s H args us vs Q E hr e0 hbd r hsp => ?_⟩
  have hl := len _ _ _ _ hsp
  have KX : K.In s.heap := e0.mod.kin.keeps fun b o e => (e0.bs b o e).1
  have lim : s.heap.NoLimit := e0.mod.nolimit.keeps fun b o e => (e0.bs b o e).1
  refine ks_codeAny_call_defAt (fd := PySem.W.fnX F.name F.qual F.params F.body F.scope F.cl .none .none doc pm an (.ref F.c) ct) (body := F.body) (binds := (self0 :: ps').zip us) hr.depth (KX _ _ lk) rfl lim (PySem.W.codeRec_of KX X.code) rfl hbd S.nocell (fun x hx => S.par x.1 (List.of_mem_zip hx).1) (fun h₁ hns kp => ?_) S.co S.gen S.kind
  show _root_.PySem.wpAt _ (A.deeper (envF F f s.heap.objs.size)) (.func F.body (envF F f s.heap.objs.size)) (execs F.body (envF F f s.heap.objs.size)) _ _ _
  obtain ⟨a, vr, ta, R, rfl, ea, ha, hta, hrest⟩ := hbody A outer s H vs Q E (hr.deeper _) hsp
  obtain ⟨cl, cld, csl, hcell⟩ := X.cell
  have Cs : CellsAt F.cl ["__class__"] [none] s.heap H := by
    have one : ∀ y c, F.cl.lookup y = some c → y = "__class__" ∧ c = cc := fun y c h => by
      rw [X.cl] at h
      by_cases z : y = "__class__"
      · subst z
        simp [List.lookup] at h
        exact ⟨rfl, h.symm⟩
      · have z' : (y == ("__class__" : Str)) = false := by simp [z]
        simp [List.lookup, z'] at h
    refine ⟨rfl, fun y c h => ?_, fun x y c h1 h2 => by rw [(one x c h1).1, (one y c h2).1], fun i y h => ?_⟩
    · obtain ⟨rfl, rfl⟩ := one y c h
      exact ⟨(e0.bs _ _ (e0.mod.kin _ _ hcell)).2, _, _, KX _ _ hcell, rfl⟩
    · cases i with
      | zero =>
        simp at h
        subst h
        refine ⟨cc, by rw [X.cl]; simp [List.lookup], fun v hv => ?_⟩
        simp at hv
      | succ i => simp at h
  have I : Inv (ncx CX P w K mg base N F f A outer s H E) [] (startF N (.ref a :: vr) [none]) H { s with heap := h₁, toks := s.toks + ((self0 :: ps').zip us).length } := inv_startN S hr.hd e0 hl r Cs hns kp
  have hx : execs F.body (envF F f s.heap.objs.size) = execs (.Expr (.Call (.Attribute (.Call (.Name "super" p0) [] [] p1) "__init__" p2) [e] [] p3) p4 :: rest) (envF F f s.heap.objs.size) := by rw [hb]
  rw [hx]
  have hint : interactive (envF F f s.heap.objs.size) = false := by
    unfold interactive
    simp [S.kind]
  refine ks_wpAt_execs_cons (ks_wpAt_Expr_any (ks_wpAt_MethodCall ?_ (hev _)) hint (hsw _))
  obtain ⟨ccl, cdd, fvs, ccs, file, tf, hcode, hvs, hfile⟩ := X.cob
  obtain ⟨ar, har, hself⟩ := X.par
  obtain ⟨nm, q, Nn, bs, bm, sn, sub, ab, col, dd, k0, k1, k2, k3, k5, hC, hbm⟩ := X.T.cls
  obtain ⟨mb, hb1, hb2⟩ := I.mod.blt
  obtain ⟨t1, ho⟩ := exo_at I.hok ea
  obtain ⟨u0, hu0, ru0⟩ := r.get (i := 0) (x := .ref a) rfl
  obtain rfl : u0 = Value.ref a := ru0
  have nd : (self0 :: ps').Nodup := by
    have z := S.nd.sublist (List.take_sublist ((self0 :: ps').length + (["__class__"] : List Str).length) N)
    rw [S.pre] at z
    exact (List.nodup_append.mp z).1
  have hv0 : ((self0 :: ps').zip us).reverse.lookup self0 = some (.ref a) := zip_look nd (i := 0) rfl hu0
  have X1 : K.In h₁ := KX.keeps kp
  have hcd : ∃ cd, clsIn K C = some cd ∧ ∃ oD, h₁.get? C = some oD ∧ oD.data = .cls cd := by
    refine ⟨_, by unfold clsIn; rw [hC], _, X1 _ _ hC, rfl⟩
  obtain ⟨cd, hclsIn, oD, hD1, hD2⟩ := hcd
  have hkc : F.scope.names.lookup ("__class__" : Str) = some .free := S.frk _ List.mem_cons_self
  refine ks_wpAt_super_base (env := envF F f s.heap.objs.size) (prog := P) X.ks hkc rfl rfl (X1 _ _ lk) rfl har rfl (X1 _ _ hcode) rfl hvs hfile X.top ?_
  refine ks_loadName_global S.kind X.ks (loadGlobal_builtin (env := envF F f s.heap.objs.size) (I.mod.glob.keeps I.bk) X.msup (hb1.keeps I.bk) ((hb2 "super" (by decide)).trans X.boot) ⟨rfl, ?_⟩)
  refine wpAny_loadName_free S.kind hkc (by show F.cl.lookup _ = some cc; rw [X.cl]; simp [List.lookup]) ⟨_, X1 _ _ hcell, rfl⟩ ?_
  refine wpAny_loadName_local S.kind (by show F.scope.names.lookup ar.arg = _; rw [hself]; exact S.par _ List.mem_cons_self) hns (by rw [hself]; exact hv0) ?_
  refine ks_wpAny_isType_cls hD1 hD2 ⟨rfl, ?_⟩
  refine ks_wpAny_call_super hD1 hD2 ho rfl (fun c z => by cases z) (looks_mroIn X1 X.sub) (fun h2 e2 k2' => ?_)
  have X2 : K.In h2 := X1.keeps k2'
  have ho2 := k2' _ _ ho
  have IA : InstAt h2 a { cls := .ref C, dict := none, data := .fields #[.ref t1, .none, .none, .none, .bool false, .none] } C none := ⟨ho2, rfl, rfl, trivial⟩
  have hal : alongIn K "__init__" ((cd.mro.dropWhile (· != .ref C)).drop 1) = some (some (.builtin "ValueError.__init__")) := by
    have z := X.init
    unfold ks_superIn at z
    rw [hclsIn] at z
    exact z
  refine kxs_getMethod kxs_ValueError e2 (looks_opaque X2 X.opq) (fun A Q E s k q => wpAny_bind ((looks_clsIn X2 hclsIn) A _ E s k (wpAny_pure q))) rfl X2 hal (IA.type.andThen (looks_subIn X2 X.ve)) (ks_ne X2 IA hclsIn) (by decide) ?_
  have kk : ∀ b o, h₁.get? b = some o → (h2.push (kxs_mw "ValueError.__init__" a)).get? b = some o := fun b o z => Heap.get?_push_of_some _ (k2' b o z)
  have hu : (h2.push (kxs_mw "ValueError.__init__" a)).get? h2.objs.size = some (kxs_mw "ValueError.__init__" a) := Heap.get?_push_at rfl rfl
  have hlt : h₁.objs.size ≤ h2.objs.size := Nat.le_of_lt (Heap.lt_size e2)
  have I3a := I.kept (h' := h2.push (kxs_mw "ValueError.__init__" a)) (t' := s.toks + ((self0 :: ps').zip us).length + 1) kk
  have hloc := I.lt
  have nu : H h2.objs.size = none := I.hok.fresh hlt
  have I3 : L2.Inv (ncx CX P w K mg base N F f A outer s H E) [(h2.objs.size, kxs_mw "ValueError.__init__" a)] (startF N (V.ref a :: vr) [none]) H _ := I3a.pins_of fun p hp => by
    rw [List.mem_singleton.mp hp]
    refine ⟨hu, nu, fun z => ?_, I.nofs hlt, fun v z => by cases z⟩
    have hloc' : s.heap.objs.size < h₁.objs.size := hloc
    have z' : h2.objs.size = s.heap.objs.size := z
    omega
  rw [hst]
  refine kxs_callWith (i := "ValueError.__init__") (x := a) rfl ?_
  refine evalArgs_plain (rest := backTo p3 (starEach [] (envF F f s.heap.objs.size))) ?_
  show wpAny _ _ (spliced (backTo p3 ((false, eval e (envF F f s.heap.objs.size)) :: starEach [] (envF F f s.heap.objs.size)))) _ _ _
  rw [← hst]
  refine wpAny_mono (ha.run p3 _ _ (startF N (V.ref a :: vr) [none]) H R I3 hta) (fun vs4 s4 h4 => ?_) fun _ _ z => z
  obtain ⟨ws, H4, I4, r4, q4⟩ := h4
  have hu4 : s4.heap.get? h2.objs.size = some (kxs_mw "ValueError.__init__" a) := (I4.pin _ (List.mem_append_right _ List.mem_cons_self)).1
  refine ⟨hu4, ?_⟩
  obtain ⟨hwl, ea4, t, hrun, hq⟩ := hrest ws H4 q4
  obtain ⟨t4, ho4⟩ := exo_at I4.hok ea4
  have hz4 : vs4.length ≤ sizeLine := by
    rw [← Paired.length r4, sizeLine_eq]
    omega
  obtain ⟨g4, gens4, d4, tk4, os4⟩ := s4
  have hC4 := (I4.kIn) _ _ hC
  refine wpAny_call (codeAny_of_tree ?_)
  show wpAny _ _ (callAny (.ref h2.objs.size) ⟨[] ++ vs4, []⟩) _ _ _
  simp only [callAny]
  refine wpAny_bind (wpAny_load hu4 ?_)
  simp only [kxs_mw, show (Value.type "method-wrapper" == Value.type "method" || Value.type "method-wrapper" == Value.type "builtin_function_or_method" || Value.type "method-wrapper" == Value.type "method-wrapper") = true by decide, if_true]
  refine KFB.if_so (by decide) ?_
  refine wpAny_bind (check_bound_init PySem.F.excBase_ValueError.toExcCallFacts hC4 ho4 rfl ?_)
  refine wpAny_bind (wpAny_pure (wpAny_pure ?_))
  refine ⟨plainId_quiet PySem.F.excBase_ValueError.init.plain _, codeAny_builtin PySem.F.excBase_ValueError.initEntry ?_⟩
  refine exc_init_tree (cls := .ref C) (t0 := t4) (dv := none) (c2 := .none) (c3 := .none) (b4 := .bool false) ho4 (by simpa using hz4) (fun h6 kp6 he6 ht6 => ?_)
  have J := I4.write (t' := tk4) (x := a) (e := a) (o := exo a C none) (by rw [ea4]; exact True.intro) (.inl rfl) kp6 ⟨_, he6⟩ (exo_ok he6)
  have eu : upd H4 a (exo a C none) = H4 := by
    funext b
    by_cases hb : b = a
    · rw [hb, upd_same, ea4]
    · rw [upd_ne hb]
  rw [eu] at J
  have I5 := J.pins_of (pins' := []) (fun p hp => by cases hp)
  show _root_.PySem.wpAt _ _ _ _ _ _ _
  refine PySem.wpAt_of_wpAny (wpAny_mono (hrun.run [] _ _ H4 _ I5 hq) (fun fl s' hs => ?_) fun e s' hs => hs)
  have fin : ∀ {σ' : L2.St} {H' : Hp} {v : V} {u : Value}, L2.Inv (ncx CX P w K mg base N F f A outer s H E) [] σ' H' s' → L2.RelV v u → Q v H' → CE outer P w H s Q u s' :=
    fun {σ' H' v u} J rv q => ⟨v, H', J.os, J.bare, J.base, J.hok, rv, q⟩
  cases fl with
  | ret u =>
    obtain ⟨v, σ', H', J, rv, q⟩ := hs
    exact fin J rv q
  | next =>
    obtain ⟨σ', H', J, q⟩ := hs
    exact fin (v := V.non) (u := Value.none) J rfl q
  | brk =>
    obtain ⟨_, _, _, q⟩ := hs
    exact False.elim q
  | cont =>
    obtain ⟨_, _, _, q⟩ := hs
    exact False.elim q
end Sup
/-- an error of the class at C is what «except» of it names -/
theorem exm_self {K : PySem.W.Frag} {C : Addr} (h1 : PySem.W.subIn K (.ref C) (.type "BaseException") = some true) (h2 : PySem.W.isClsIn K C = true) (h3 : PySem.W.typeIn K (.ref C) = some (.type "type")) (h4 : PySem.W.subIn K (.ref C) (.ref C) = some true) :
    PySem.W.exmOne K (.ref C) (.ref C) = some true := by
  have e1 : (PySem.W.subIn K (.ref C) (.type "BaseException") == some true) = true := by rw [h1]; rfl
  have e2 : ((PySem.W.clsIn K C).isSome && PySem.W.typeIn K (.ref C) == some (.type "type")) = true := by
    rw [show (PySem.W.clsIn K C).isSome = true from h2, h3]
    rfl
  show (if (PySem.W.subIn K (.ref C) (.type "BaseException") == some true) = true then (if ((PySem.W.clsIn K C).isSome && PySem.W.typeIn K (.ref C) == some (.type "type")) = true then PySem.W.subIn K (.ref C) (.ref C) else none) else none) = some true
  rw [if_pos e1, if_pos e2]
  exact h4
/-- an own exception's class x (def __init__ F at f, its cell at cc), parameters ps, made by super().__init__(..) and fields -/
structure ExcT (P : Program) (K : PySem.W.Frag) (mg : Str → Option Value) (F : NdefX.NF) (f cc C : Addr) (fd : FuncData) (x : Str) (ps : List Str) : Prop where
  S : Sup.SupTxt P K mg F f cc C "self"
  mg : mg x = some (.ref C)
  iC : PySem.W.findIn K (.ref C) "__init__" = some (some (.ref f))
  tI : PySem.W.typeIn K (.ref f) = some (.type "function")
  te : PySem.W.exmOne K (.ref C) (.ref C) = some true
  xf : XfC K C
  no_code : PySem.W.findIn K (.ref C) "code" = some none
  b : Binds K fd ps []
  hfd : ∃ oc od osl, K.lookup f = some ⟨oc, od, .func fd, osl⟩
/-! ### sorted(d), d a dict whose keys are tuples of ints -/
namespace SortT
open PySem PySem.Spec PySem.W PySem.Calls PyProof.Rows L2
section
variable {prog : Program} {w : World} {A : Around} {d : Addr} {o : Obj} {es : Array DictEntry} {ep : Nat}
theorem walks_raw (hh : A.handled = none) (I d : Addr) (hne : d ≠ I) (hd : o.data = .dict es ep) :
    Walks prog w A I [I, d] [I] es.size (fun i v => ∃ en, es[i]? = some en ∧ v = en.key) (fun i h => h.IsKeyIter I d i es.size ep ∧ h.get? d = some o) where
  sub := fun b hb => by simp at hb; simp [hb]
  frame := fun _ _ _ st hk => ⟨st.1.at fun o e => hk I (by simp) o e, hk d (by simp) _ st.2⟩
  item := fun i s Q E hi st hQ => by
    refine next_key_item st.1 st.2 hd rfl (en := es[i]) (by simp [hi]) fun h' hit' hs' => ?_
    exact hQ _ h' s.toks ⟨es[i], by simp [hi], rfl⟩ ⟨hit', (hs'.2 d hne).trans st.2⟩ fun b o hb e => (hs'.2 b fun z => hb (by simp [z])).trans e
  done := fun s Q E st hQ => next_key_end hh st.1 st.2 hd rfl (Nat.le_refl _) fun h' eb => hQ h' s.toks fun b o hb e => eb b o (fun z => hb (by simp [z])) e
  self := fun _ _ _ _ st hQ => wpAny_pyIter_keyiter st.1 hQ
theorem src_raw (lo : (d == sysModules) = false) (hc : o.ExactDict) (hd : o.data = .dict es ep) : KdlSrc prog w "dict" d d es.size (fun i v => ∃ en, es[i]? = some en ∧ v = en.key) (fun h => h.get? d = some o) where
  type := fun _ hm => ⟨o, hm, hc.1⟩
  there := fun _ hm => ⟨Heap.lt_size hm, Heap.lt_size hm⟩
  keep := fun _ _ hm hk => hk d (.inl rfl) _ hm
  notList := by decide
  notTuple := by decide
  hint := fun _ _ _ _ hm hq => kdl_hint_dict ⟨o, hm, hc.1⟩ hq
  iter := fun _ s hh hm => ⟨_, _, (fun _ _ hq => iter_keys lo hm hc hd hq), walks_raw hh _ d (Nat.ne_of_lt (Heap.lt_size hm)) hd, ⟨⟨_, Heap.get?_push_size _ rfl, rfl, rfl⟩, Heap.get?_push_of_some _ hm⟩⟩
end
/-- fewer than 64 keys, tuples of k ints in [0, B): a new list of the keys' own tuples, ascending by code B -/
def rSortDT (K : PySem.W.Frag) (k : Nat) (B : Int) : List V → Hp → VK → Prop := fun vs H Q => ∃ (a : Addr) (kvs : List (List Key × V)), vs = [V.ref a] ∧ H a = some (.dT kvs) ∧ kvs.length < 64 ∧ (∀ p ∈ kvs, ∃ ns : List Int, p.1 = ns.map Sum.inl ∧ ns.length = k ∧ TS.Bd B ns) ∧
  ∀ (qs ys : List V) (p : Addr), Paired (fun (q : V) (kv : List Key × V) => ∃ t, q = .ref t ∧ H t = some (.tup (kv.1.map kV))) qs kvs → ys.Perm qs → ys.Pairwise (fun x y => ∀ n m, TupI K H x n → TupI K H y m → TS.code B n ≤ TS.code B m) → H p = none → Q (.ref p) (upd H p (.lst ys))
theorem kV_ints (ns : List Int) : (ns.map Sum.inl : List Key).map kV = ns.map V.int := by
  rw [List.map_map]; rfl
section
variable {X : Cx}
theorem cr_sortDT {k : Nat} {B : Int} (hk : 1 ≤ k) (hcalm : X.calm = true) : CallR X (.builtin "sorted") (rSortDT X.K k B) := by
  intro pins s σ H vs us Q I r q
  obtain ⟨a, kvs, rfl, hd, h64, hks, q⟩ := q
  rw [Vals.ref1 r]
  obtain ⟨z, lo, xs, rel, o, es, ep, ho, hx, hdt, he, hkeys, _⟩ := dt_of I.hok hd
  have l1 : es.size = xs.length := size_of_entries he
  have l2 : kvs.length = xs.length := Paired.length rel
  have h16 : es.size ≤ sizeLine := by rw [l1, ← l2]; exact z
  refine Calls.call_function_entry PyProof.Rows.kind_sorted PyProof.Rows.plain_sorted PyProof.Rows.entry_sorted (PyProof.Rows.args_sorted1 _) ?_
  unfold Builtin.«sorted»
  refine wpAny_bind (m := checkCount "sorted" 1 1 _) (wpAny_pure ?_)
  refine wpAny_bind (PySem.W.kdu_collect (A := X.A.in1) (src_raw lo hx hdt) (I.ok.hd hcalm) ho h16 fun h' tk acc hkp hacc => ?_)
  have hal : acc.toList.length = kvs.length := by rw [Array.length_toList, hacc.1, l1, l2]
  have I1 : Inv X pins σ H { s with heap := h', toks := tk } := I.kept hkp
  have hacc2 : acc.toList = xs.map fun x => Value.ref x.2.1 := by
    refine List.ext_getElem? fun j => ?_
    rw [List.getElem?_map]
    by_cases hj : j < xs.length
    · obtain ⟨en, e1, e2⟩ := hacc.2 j (acc.toList[j]'(by omega)) (by rw [← Array.getElem?_toList, List.getElem?_eq_getElem])
      have e3 := entry_at he j
      rw [e1, List.getElem?_eq_getElem hj] at e3
      have e4 : en = entryOfKey (tupleKind (mixKind X.prog X.w)) xs[j] := Option.some.inj e3
      rw [List.getElem?_eq_getElem (by omega), List.getElem?_eq_getElem hj, e2, e4]
      rfl
    · rw [List.getElem?_eq_none (by omega), List.getElem?_eq_none (by omega)]
      rfl
  have hall : ∀ x ∈ xs, ∃ ns : List Int, H x.2.1 = some (.tup (ns.map V.int)) ∧ ns.length = k ∧ TS.Bd B ns := by
    have go : ∀ {l : List (List Key × V)} {m : List (List Key × Addr × Value)}, KT H l m → (∀ p ∈ l, ∃ ns : List Int, p.1 = ns.map Sum.inl ∧ ns.length = k ∧ TS.Bd B ns) → ∀ x ∈ m, ∃ ns : List Int, H x.2.1 = some (.tup (ns.map V.int)) ∧ ns.length = k ∧ TS.Bd B ns := by
      intro l m r
      induction r with
      | nil => intro _ x hx; cases hx
      | @cons p q ps qs hq _ ih =>
        intro hp x hx
        rcases List.mem_cons.mp hx with e | hx
        · subst e
          obtain ⟨ns, e1, e2, e3⟩ := hp p List.mem_cons_self
          refine ⟨ns, ?_, e2, e3⟩
          rw [hq.2.1, e1, kV_ints]
        · exact ih (fun p hp' => hp p (List.mem_cons_of_mem _ hp')) x hx
    exact go rel hks
  have hpair : Paired (fun (q : V) (kv : List Key × V) => ∃ t, q = .ref t ∧ H t = some (.tup (kv.1.map kV))) (xs.map fun x => V.ref x.2.1) kvs := by
    have go : ∀ {l : List (List Key × V)} {m : List (List Key × Addr × Value)}, KT H l m → Paired (fun (q : V) (kv : List Key × V) => ∃ t, q = .ref t ∧ H t = some (.tup (kv.1.map kV))) (m.map fun x => V.ref x.2.1) l := by
      intro l m r
      induction r with
      | nil => exact .nil
      | @cons p q ps qs hq _ ih => exact .cons ⟨_, rfl, hq.2.1⟩ ih
    exact go rel
  have hT : ∀ {t : Addr} {ns : List Int}, H t = some (.tup (ns.map V.int)) → TS.TupInts h' (.ref t) ns := fun {t ns} e => tupI_raw I1 (SqT.of e)
  have hS : TS.TupsOk h' k B acc.toList := fun v hv => by
    rw [hacc2] at hv
    obtain ⟨x, hx', rfl⟩ := List.mem_map.mp hv
    obtain ⟨ns, e1, e2, e3⟩ := hall x hx'
    exact ⟨ns, hT e1, e2, e3⟩
  refine wpAny_bind (wpAny_newList ?_ (by rw [hal, sizeLine_eq]; omega))
  have hoL : (h'.push (seqObj "list" acc.toList.toArray 0)).get? h'.objs.size = some (seqObj "list" acc.toList.toArray 0) := Heap.get?_push_size _ rfl
  have keep : ∀ b o, h'.get? b = some o → o.cls = .type "tuple" → (h'.push (seqObj "list" acc.toList.toArray 0)).get? b = some o := fun b o q _ => Heap.get?_push_of_some _ q
  show wpAny _ _ _ _ _ { s with heap := h'.push (seqObj "list" acc.toList.toArray 0), toks := tk }
  refine wpAny_bind (wpAny_holding (wpAny_call_entry PyProof.Rows.slot_list_sort ⟨_, hoL, rfl⟩ PyProof.Rows.entry_list_sort
    (TS.sort_tups (s := { s with heap := h'.push (seqObj "list" acc.toList.toArray 0), toks := tk }) hoL (by rw [hal]; exact h64) hk (hS.keeps keep) (fun v => TS.code B (TS.intsOf h' v)) (fun v hv ns t => ?_) fun out a1 a2 => ⟨_, rfl, ?_⟩) (PyProof.Rows.args_list_sort _)))
  · obtain ⟨ns0, t0, _⟩ := hS v hv
    have e : ns = ns0 := t.ints.symm.trans (t0.keeps keep).ints
    rw [e]
    show TS.code B (TS.intsOf h' v) = TS.code B ns0
    rw [t0.ints]
  obtain ⟨e', he'⟩ := PyProof.Rows.sortedHeap_at (vs := acc.toList) (out := out) hoL
  have h3 : ∀ u ∈ out.toList, ∃ a, u = Value.ref a := fun u hu => by
    have hu' := a1.mem_iff.mp hu
    rw [hacc2] at hu'
    obtain ⟨x, _, rfl⟩ := List.mem_map.mp hu'
    exact ⟨_, rfl⟩
  have hbk : acc.toList.map bkV = xs.map fun x => V.ref x.2.1 := by
    rw [hacc2, List.map_map]; rfl
  have hp : (out.toList.map bkV).Perm (xs.map fun x => V.ref x.2.1) := by
    rw [← hbk]
    exact a1.map bkV
  have hlen : (out.toList.map bkV).length ≤ sizeLine := by
    rw [hp.length_eq, List.length_map, ← l2]
    exact z
  refine wpAny_pure ⟨_, rfl, .ref h'.objs.size, upd H h'.objs.size (.lst (out.toList.map bkV)), I1.laid (t' := tk) (fun b u e => ?_) (Nat.le_refl _)
    (show ObjOk X.prog X.w _ _ _ (.lst (out.toList.map bkV)) from ⟨hlen, out.toList, e', bkV_vals h3, by rw [Array.toArray_toList]; exact he'⟩), rfl, q _ _ _ hpair hp ?_ (I1.hok.fresh (Nat.le_refl _))⟩
  · have hb : b < h'.objs.size := Heap.lt_size e
    rw [PyProof.Rows.sortedHeap_old (Nat.ne_of_lt hb) (by rw [size_push']; exact Nat.lt_succ_of_lt hb)]
    exact Heap.get?_push_of_some _ e
  · rw [List.pairwise_map]
    refine List.Pairwise.imp (fun {u v} huv n m hn hm => ?_) a2
    obtain ⟨t, et, ht⟩ := hn
    obtain ⟨t', et', ht'⟩ := hm
    have eu := bkV_ref et
    have ev := bkV_ref et'
    have i1 : TS.intsOf h' u = n := by
      rw [eu]
      exact (tupI_raw I1 ht).ints
    have i2 : TS.intsOf h' v = m := by
      rw [ev]
      exact (tupI_raw I1 ht').ints
    rw [← i1, ← i2]
    exact huv
end
end SortT
/-! ### {k: v for target in iter}, keys tuples -/
namespace DcT
open PySem PySem.Spec PyProof.Rows L2
theorem d_dictSetT {X : Cx} {pins : List (Addr × Obj)} {σ : L2.St} {H : Hp} {s : Shared} {E : Value → Shared → Prop} {D b : Addr} {kvs : List (List Key × V)} {k : List Key} {v : V} {u r : Value} {Q : Unit → Shared → Prop} (hu : X.A.units + 1 < cLine) (I : Inv X pins σ H s)
    (hD : H D = some (.dT kvs)) (hz : kvs.length < sizeLine) (eb : H b = some (.tup (k.map kV))) (ry : RelV (.ref b) u) (rv : RelV v r) (h : ∀ s', Inv X pins σ (upd H D (.dT (putK kvs k v))) s' → Q () s') : wpAny (model X.prog X.w) X.A (dictSet D u r) Q E s := by
  cases (show u = Value.ref b from ry)
  obtain ⟨z, hd, xs, rel, dd⟩ := dt_of I.hok hD
  have hzv : xs.length ≤ sizeLine := by rw [← Paired.length rel]; exact z
  have hl : (putK kvs k v).length ≤ sizeLine := by have := length_putK kvs k v; omega
  refine wpAny_dictSet_heap (hsz := hzv) ((show X.A.units < cLine by omega)) (key_of I.hok eb) dd fun h' dd' hs => h _ ?_
  obtain ⟨q, es, ep, hq, h2, h3, h4, _, h5⟩ := dd'
  refine d_write I (by rw [hD]; exact True.intro) hs ⟨q, hq⟩ ⟨hl, hd, _, (rel.put k eb rv).keeps fun c ys ec => ?_, q, es, ep, hq, h2, h3, h4, h5⟩
  rw [upd_ne (ne_of ec hD (fun z => nomatch z))]
  exact ec
section
variable {X : Cx}
/-- {k: v for target in iter if ..}, keys tuples: D the new dict -/
def tDcT (wi : TI) (g : TG) (tt : TT) (tk tv : TE) (vs : List Nat) : TE := fun σ H Q => wi σ H fun J H1 => ∀ D, H1 D = none → ∃ W : Nat → Nat → Hp → Prop, (∃ m, W 0 m (upd H1 D (.dT []))) ∧ ∀ i m H, W i m H →
  (J.stop i H ∧ Q (.ref D) H) ∨ (J.go i H ∧ ∃ Nx : Hp → Prop, (∀ H', Nx H' → ∃ m', m' < m ∧ W (i + 1) m' H') ∧ ∀ x H', J.yld i H x H' → g x (wipe σ vs) H' fun σ2 H2 => wipe σ2 vs = wipe σ vs ∧ tt σ2 H2 fun b H3 =>
    if b = true then tk σ2 H3 fun y H4 => tv σ2 H4 fun z H5 => ∃ kvs k b, y = .ref b ∧ H5 b = some (.tup (k.map kV)) ∧ H5 D = some (.dT kvs) ∧ kvs.length < sizeLine ∧ Nx (upd H5 D (.dT (putK kvs k z))) else Nx H3)
theorem dcT_core {pins : List (Addr × Obj)} {s : Shared} {σ : L2.St} {H : Hp} {Q : VK} {kx vx tg iter : Expr} {ifs : List Expr} {scope : Scope} {own : List (Str × Nat)} {pos pos' : Pos} {wi : TI} {g : TG} {tt : TT} {tk tv : TE} {use : Option (Value → Sem Unit)} {Qf : Value → Shared → Prop}
    (hu : X.A.units + 1 < cLine) (hc : X.calm = true) (hN : X.N.Nodup) (I : Inv X pins σ H s) (hi : PI X tg iter wi) (ok : BlkOk X.N X.env.scope scope own)
    (hg : ∀ (s : Shared) (H : Hp) (C : Addr) (cl : List (Str × Addr)) (fp : List Addr), PG (X.blk s H scope (compEnvC scope cl C X.env) fp) tg g) (ht : ∀ (s : Shared) (H : Hp) (C : Addr) (cl : List (Str × Addr)) (fp : List Addr), PTs (X.blk s H scope (compEnvC scope cl C X.env) fp) ifs tt)
    (hk : ∀ (s : Shared) (H : Hp) (C : Addr) (cl : List (Str × Addr)) (fp : List Addr), PE (X.blk s H scope (compEnvC scope cl C X.env) fp) kx tk)
    (he : ∀ (s : Shared) (H : Hp) (C : Addr) (cl : List (Str × Addr)) (fp : List Addr), PE (X.blk s H scope (compEnvC scope cl C X.env) fp) vx tv) (hs : ∀ x, foldedSetIterable iter X.env x = pure x)
    (h : tDcT wi g tt tk tv (own.map (·.2)) σ H Q)
    (hRR : ∀ D C s' m H', Inv X pins σ H' s' → Q (.ref D) H' → s'.heap.Ns C m → FpOk X pins H' C → compPost (model X.prog X.w) X.A X.xe use Qf (.ref D) C (.ok .next) s') :
    wpAny (model X.prog X.w) X.A (comprehension (.DictComp kx vx [⟨tg, iter, ifs, 0⟩] scope pos) scope X.env pos' newDict false (eval iter X.env) use) Qf X.xe s := by
  have hfree : ∀ y ∈ scope.names, y.2 = .free → ∃ c, X.env.cells.lookup y.1 = some c := fun y hy e => by
    rcases ok.free y hy e with k | k
    · exact I.ok.has _ (.inl k)
    · exact I.ok.has _ (.inr k)
  refine wpAny_comprehension_free (use := use) rfl hs (closure_ok hfree) ok.kind (fun y hy e => by rw [ok.uniq y hy, e])
    (thn (hi.run pins s σ H _ I h) fun xv s1 hx => thn hx fun itv s2 h2 => ?_)
  obtain ⟨it, fp, tn, J, H2, e, I2, T, st2, f2, q⟩ := h2
  subst e
  refine wpAny_newObj_type (newEnv_comp ?_)
  generalize hD : s2.heap.objs.size = D
  have hDn : H2 D = none := I2.hok.fresh (Nat.le_of_eq hD)
  obtain ⟨W, ⟨m0, w0⟩, turn⟩ := q D hDn
  -- the new list
  generalize hs3 : ({ s2 with heap := s2.heap.push { cls := .type "dict", data := .dict #[] } } : Shared) = s3
  have I3 : Inv X pins σ (upd H2 D (.dT [])) s3 := by
    rw [← hs3]
    refine I2.laid (t' := s2.toks) (fun b o e => Heap.get?_push_of_some _ e) (Nat.le_of_eq hD) ?_
    rw [← hD]
    exact dt_empty s2.heap I2.big
  have h3 : s3.heap = s2.heap.push { cls := .type "dict", data := .dict #[] } := by rw [← hs3]
  have sz : ∀ b ∈ fp, b < s2.heap.objs.size := fun b hb => by
    obtain ⟨o, e, _⟩ := T.obj _ _ st2 b hb
    exact Heap.lt_size e
  have f3 : ∀ b ∈ fp, FpOk X pins (upd H2 D (.dT [])) b ∧ b < s3.heap.objs.size := fun b hb => by
    have hlt := sz b hb
    refine ⟨⟨?_, (f2 b hb).2⟩, by rw [h3, Heap.size_push]; exact Nat.lt_succ_of_lt hlt⟩
    rw [upd_ne (by rw [← hD]; exact Nat.ne_of_lt hlt)]
    exact (f2 b hb).1
  have st3 : tn 0 s3.heap := T.keep _ _ _ st2 fun b _ o e => by rw [h3]; exact Heap.get?_push_of_some _ e
  have I4 := block_start I3 ok hN f3
  have pg := hg s3 (upd H2 D (.dT [])) s3.heap.objs.size (cellsFrom (s3.heap.objs.size + 1) scope.names (cloFrom X.env.cells scope.names [])) fp
  have pt := ht s3 (upd H2 D (.dT [])) s3.heap.objs.size (cellsFrom (s3.heap.objs.size + 1) scope.names (cloFrom X.env.cells scope.names [])) fp
  have pk := hk s3 (upd H2 D (.dT [])) s3.heap.objs.size (cellsFrom (s3.heap.objs.size + 1) scope.names (cloFrom X.env.cells scope.names [])) fp
  have pe := he s3 (upd H2 D (.dT [])) s3.heap.objs.size (cellsFrom (s3.heap.objs.size + 1) scope.names (cloFrom X.env.cells scope.names [])) fp
  show codeAny _ _ (.compStart (.DictComp kx vx [⟨tg, iter, ifs, 0⟩] scope pos) 0 (.ref it) (.ref D) (compEnvC scope (cellsFrom (s3.heap.objs.size + 1) scope.names (cloFrom X.env.cells scope.names [])) s3.heap.objs.size X.env)) (compPost (model X.prog X.w) X.A X.xe use Qf (.ref D) s3.heap.objs.size) { s3 with heap := pushCells (s3.heap.push { cls := .type "dict", data := .dict #[] }) scope.names }
  have nfp : ∀ b ∈ fp, (upd H2 D (.dT [])) b = none := fun b hb => (f3 b hb).1.1
  generalize hce : compEnvC scope (cellsFrom (s3.heap.objs.size + 1) scope.names (cloFrom X.env.cells scope.names [])) s3.heap.objs.size X.env = ce at I4 pg pt pk pe ⊢
  have cL : ce.locals = s3.heap.objs.size := by subst hce; rfl
  generalize hH3 : upd H2 D (.dT []) = H3 at I3 I4 pg pt pk pe w0 nfp f3
  generalize hs4 : ({ s3 with heap := pushCells (s3.heap.push { cls := .type "dict", data := .dict #[] }) scope.names } : Shared) = s4 at I4 ⊢
  have st4 : tn 0 s4.heap := T.keep _ _ _ st3 fun b _ o e => by rw [← hs4]; exact pushCells_keeps _ _ _ _ (Heap.get?_push_of_some _ e)
  have stat : ∀ {σ' : L2.St} {H' : Hp} {s' : Shared}, Inv (X.blk s3 H3 scope ce fp) [] σ' H' s' → (∀ b ∈ fp, H' b = none) → ∀ b ∈ fp, FpOk (X.blk s3 H3 scope ce fp) [] H' b := fun {σ' H' s'} I' hn b hb =>
    ⟨hn b hb, (I'.ok.exf b hb).1, I'.ok.exfs b hb, .inl hb, fun x c e => (I'.ok.exf b hb).2 x c e, fun p hp => absurd (show p ∈ ([] : List (Addr × Obj)) ++ [] from hp) (by simp)⟩
  have loop : codeAny (model X.prog X.w) X.A (.compLoop (.DictComp kx vx [⟨tg, iter, ifs, 0⟩] scope pos) 0 (.ref it) (.ref D) ce) (compPost (model X.prog X.w) X.A X.xe use Qf (.ref D) s3.heap.objs.size) s4 := by
    refine compLoop_anyD (fun n s' => ∃ i H', Inv (X.blk s3 H3 scope ce fp) [] (wipe σ (own.map (·.2))) H' s' ∧ tn i s'.heap ∧ (∀ b ∈ fp, H' b = none) ∧ W i n H') ?_ m0 ⟨0, H3, I4, st4, nfp, w0⟩
    rintro n s5 ⟨i, H5, I5, st5, n5, w5⟩
    rcases turn i n H5 w5 with ⟨stop, qq⟩ | ⟨go, Nx, hNx, step⟩
    · have td := T.done (X.blk s3 H3 scope ce fp) rfl rfl rfl hc i [] s5 _ H5 (fun _ _ => False) I5 (stat I5 n5) st5 stop
      refine thnF td fun r s6 ⟨hr, I6⟩ => ?_
      subst hr
      -- back in the def's context
      have I7 : Inv X pins σ H5 s6 := I3.call' (ch := fp) I6.os I6.base I6.hok I6.bare fun b hb => ⟨(f3 b hb).1.2.2.2.1, (f3 b hb).1.2.1, (f3 b hb).1.2.2.2.2.1, (f3 b hb).1.2.2.2.2.2⟩
      have nC : H5 s3.heap.objs.size = none := by
        have z : H5 ce.locals = none := I6.free
        rw [cL] at z
        exact z
      obtain ⟨m, hn, _⟩ := I6.loc
      have hn : s6.heap.Ns ce.locals m := hn
      rw [cL] at hn
      exact hRR D s3.heap.objs.size s6 m H5 I7 qq hn (I3.fpOk (Nat.le_refl _) nC)
    · have ti := T.item (X.blk s3 H3 scope ce fp) rfl rfl rfl hc i [] s5 _ H5 (fun _ _ => False) I5 (stat I5 n5) st5 go
      refine thnF ti fun r s6 ⟨u, hr, h6⟩ => ?_
      subst hr
      refine thnF h6 fun _ s7 ⟨x, H7, I7, r7, y7, st7, n7⟩ => ?_
      have I7' := I7.pinned (stat I7 n7) (T.obj _ _ st7)
      refine thnF (pg.run _ s7 _ H7 x u _ I7' r7 (step x H7 y7)) fun _ s8 ⟨σ8, H8, I8, hw8, q8⟩ => ?_
      refine thnF (pt.run _ s8 σ8 H8 _ I8 q8) fun b s9 ⟨H9, I9, q9⟩ => ?_
      -- the turn's end
      have fin : ∀ {s' : Shared} {H' : Hp}, Inv (X.blk s3 H3 scope ce fp) ([] ++ pinsAt fp s7.heap) σ8 H' s' → Nx H' → ∃ m, m < n ∧ ∃ i H', Inv (X.blk s3 H3 scope ce fp) [] (wipe σ (own.map (·.2))) H' s' ∧ tn i s'.heap ∧ (∀ b ∈ fp, H' b = none) ∧ W i m H' := fun {s' H'} I' nx => by
        obtain ⟨m', hm, w'⟩ := hNx H' nx
        have pin' : ∀ b ∈ fp, ∀ o, s7.heap.get? b = some o → s'.heap.get? b = some o ∧ H' b = none := fun b hb o e =>
          let z := I'.pin (b, o) (List.mem_append_right _ (List.mem_append_right _ (mem_pinsAt hb e)))
          ⟨z.1, z.2.1⟩
        have hl : (wipe σ (own.map (·.2))).length = σ8.length := by rw [← hw8, wipe_length]
        refine ⟨m', hm, i + 1, H', (I'.unpinned (pins := [])).weak hl (fun j v e => ?_), T.keep _ _ _ st7 fun b hb o e => (pin' b hb o e).1, fun b hb => ?_, w'⟩
        · rw [← hw8] at e
          exact (wipe_some e).1
        · obtain ⟨o, e, _⟩ := T.obj _ _ st7 b hb
          exact (pin' b hb o e).2
      cases b with
      | false =>
        simp only [Bool.false_eq_true, if_false] at q9 ⊢
        exact fin I9 q9
      | true =>
        simp only [if_true] at q9 ⊢
        refine thnF (pk.run _ s9 σ8 H9 _ I9 q9) fun z s10 ⟨yk, H10, I10, r10, q10⟩ => ?_
        refine thnF (pe.run _ s10 σ8 H10 _ I10 q10) fun z2 s11 ⟨yv, H11, I11, r11, kvs, k, bb, ek, eb, hD11, hz11, nx⟩ => ?_
        subst ek
        exact d_dictSetT (X := X.blk s3 H3 scope ce fp) hu I11 hD11 hz11 eb r10 r11 fun s12 I12 => fin I12 nx
  exact codeAny_compStart_dict loop (T.self X.A 0 _ _ _ st4 loop)
/-- as a value -/
theorem pe_dcT {kx vx tg iter : Expr} {ifs : List Expr} {scope : Scope} {own : List (Str × Nat)} {pos : Pos} {wi : TI} {g : TG} {tt : TT} {tk tv : TE} (hu : X.A.units + 1 < cLine) (hc : X.calm = true) (hN : X.N.Nodup) (hi : PI X tg iter wi) (ok : BlkOk X.N X.env.scope scope own)
    (hg : ∀ (s : Shared) (H : Hp) (C : Addr) (cl : List (Str × Addr)) (fp : List Addr), PG (X.blk s H scope (compEnvC scope cl C X.env) fp) tg g) (ht : ∀ (s : Shared) (H : Hp) (C : Addr) (cl : List (Str × Addr)) (fp : List Addr), PTs (X.blk s H scope (compEnvC scope cl C X.env) fp) ifs tt)
    (hk : ∀ (s : Shared) (H : Hp) (C : Addr) (cl : List (Str × Addr)) (fp : List Addr), PE (X.blk s H scope (compEnvC scope cl C X.env) fp) kx tk)
    (he : ∀ (s : Shared) (H : Hp) (C : Addr) (cl : List (Str × Addr)) (fp : List Addr), PE (X.blk s H scope (compEnvC scope cl C X.env) fp) vx tv) (hs : ∀ x, foldedSetIterable iter X.env x = pure x := by intro _; rfl) :
    PE X (.DictComp kx vx [⟨tg, iter, ifs, 0⟩] scope pos) (tDcT wi g tt tk tv (own.map (·.2))) := by
  refine ⟨fun pins s σ H Q I h => ?_⟩
  rw [arm_eval_DictComp]
  refine dcT_core hu hc hN I hi ok hg ht hk he hs h fun D C s' m H' I' q hn f => ⟨m, hn, fun h'' sb => ?_⟩
  obtain ⟨f0, f1, f2, f3, f4, f5⟩ := f
  exact ⟨.ref D, H', I'.turned (t' := s'.toks) (fun b o hb e => (sb.2 b hb).trans e) f0 f1 f3 f4 f5, rfl, q⟩
end
end DcT
/-! ### t[::-1] of a tuple -/
namespace RevT
open PySem PySem.Spec PyProof.Rows L2
section
variable {prog : Program} {w : World} {A : Around} {E : Value → Shared → Prop} {s : Shared}
theorem places_rev (n : Nat) : Builtin.Slice.slicePlaces ((n : Int) - 1) (-1) (-1) = n := by
  unfold Builtin.Slice.slicePlaces
  rw [if_neg (by decide)]
  by_cases h : 0 < n
  · rw [if_pos (by omega)]
    show (((n : Int) - 1 - (-1) - 1) / 1 + 1).toNat = n
    rw [Int.ediv_one]
    omega
  · rw [if_neg (by omega)]
    show (0 : Int).toNat = n
    omega
theorem sliceApplied_rev {sl : Addr} {t : Tok} {n : Nat} {Q : Int × Int × Nat → Shared → Prop} (hs : s.heap.IsSliceOf sl .none .none (.int (-1) t))
    (h : Q (((n : Int) - 1), -1, n) s) : wpAny (model prog w) A (Builtin.Slice.sliceApplied (.ref sl) (pure (n : Int))) Q E s := by
  obtain ⟨os, hos, hcs, hds⟩ := id hs
  unfold Builtin.Slice.sliceApplied Builtin.Slice.sliceFields
  refine wpAny_bind (wpAny_bind (wpAny_field hos hds (x := .none) rfl (wpAny_bind (wpAny_field hos hds (x := .none) rfl (wpAny_bind (wpAny_field hos hds (x := .int (-1) t) rfl (wpAny_pure ?_)))))))
  refine wpAny_bind (slicePart_int ?_)
  show wpAny _ _ (if ((-1 : Int) == 0) = true then _ else _) _ _ s
  rw [if_neg (by decide)]
  refine wpAny_bind (slicePart_none (wpAny_bind (slicePart_none (wpAny_bind (wpAny_pure ?_)))))
  show wpAny _ _ (pure ((n : Int) - 1, (-1 : Int), Builtin.Slice.slicePlaces ((n : Int) - 1) (-1) (-1))) _ _ s
  rw [places_rev]
  exact wpAny_pure h
theorem pick_rev (xs : Array Value) : ((List.range xs.size).filterMap fun (k : Nat) => xs[((xs.size : Int) - 1 + (k : Int) * (-1)).toNat]?).toArray = xs.toList.reverse.toArray := by
  congr 1
  have e : (fun (k : Nat) => xs[((xs.size : Int) - 1 + (k : Int) * (-1)).toNat]?) = fun k => if k < xs.size then xs.toList.reverse[k]? else xs[((xs.size : Int) - 1 + (k : Int) * (-1)).toNat]? := by
    funext k
    by_cases h : k < xs.size
    · rw [if_pos h, List.getElem?_reverse (by simpa using h), Array.getElem?_toList]
      congr 1
      rw [Array.length_toList]
      omega
    · rw [if_neg h]
  rw [e]
  have go : ∀ (l : List Value) (n : Nat) (f : Nat → Option Value), n ≤ l.length → (List.range n).filterMap (fun k => if k < l.length then l[k]? else f k) = l.take n := by
    intro l n f
    induction n with
    | zero => intro _; simp
    | succ n ih =>
      intro h
      rw [List.range_succ, List.filterMap_append, ih (by omega), List.take_succ]
      congr 1
      simp [show n < l.length by omega]
  have z := go xs.toList.reverse xs.size (fun k => xs[((xs.size : Int) - 1 + (k : Int) * (-1)).toNat]?) (by simp)
  rw [List.length_reverse, Array.length_toList] at z
  rw [z, List.take_of_length_le (by simp)]
theorem getItem_tuple_rev {t sl : Addr} {items : Array Value} {tk : Tok} {Q : Value → Shared → Prop} (ht : IsTup s.heap t items) (hs : s.heap.IsSliceOf sl .none .none (.int (-1) tk))
    (h : Q (.ref s.heap.objs.size) { s with heap := s.heap.push { cls := .type "tuple", data := .seq items.toList.reverse.toArray } }) (hsz : items.size ≤ sizeLine) : wpAny (model prog w) A (getItem (.ref t) (.ref sl)) Q E s := by
  have htake : sizeOk (.seq items.toList.reverse.toArray) := by
    show items.toList.reverse.toArray.size ≤ sizeLine
    rw [List.size_toArray, List.length_reverse, Array.length_toList]
    exact hsz
  obtain ⟨os, hos, hcs, hds⟩ := id hs
  have hTs : s.TypeIs (.ref sl) "slice" := ⟨os, hos, hcs⟩
  unfold getItem
  try with_reducible refine wpAny_holding ?_
  first | refine wpAny_bind (wpAny_pure ?_) | skip
  refine wpAny_bind (wpAny_sequenceKey ht.typeIs (by decide) ?_)
  refine wpAny_bind (wpAny_callSpecial?_slot (name := Str.ofString "__getitem__") ht.typeIs PyProof.Rows.slot_tuple_getitem
    (wpAny_call_entry PyProof.Rows.slot_tuple_getitem ht.typeIs entry_tuple_getitem ?_ (args_tuple_getitem _ _)))
  show wpAny _ _ (Builtin.Tuple.tupleItemsOf (.ref t) >>= _) _ _ s
  refine wpAny_bind (tupleItemsOf_ ht ?_)
  refine wpAny_bind (wpAny_typeOf hTs ?_)
  rw [if_pos (by decide)]
  refine wpAny_bind (sliceApplied_rev hs ?_)
  show wpAny _ _ (if ((((items.size : Nat) : Int) - 1) == 0 && (-1 : Int) == 1 && items.size == items.size) = true then _ else _) _ _ s
  rw [if_neg (by rw [show ((-1 : Int) == 1) = false from by decide, Bool.and_false, Bool.false_and]; decide), pick_rev]
  first
    | exact wpAny_bind (m := Builtin.Tuple.tupleExact _) (wpAny_newObj_type (wpAny_pure ⟨_, rfl, wpAny_pure h⟩) htake)
    | exact wpAny_bind (m := Builtin.Tuple.tupleExact _) (wpAny_newObj_type (wpAny_bind (wpAny_pure (wpAny_pure ⟨_, rfl, wpAny_pure h⟩))) htake)
    | exact wpAny_bind (wpAny_bind (m := Builtin.Tuple.tupleExact _) (wpAny_newObj_type (wpAny_pure (wpAny_pure ⟨_, rfl, wpAny_pure h⟩)) htake))
    | exact wpAny_bind (wpAny_bind (m := Builtin.Tuple.tupleExact _) (wpAny_newObj_type (wpAny_pure ⟨_, rfl, wpAny_pure h⟩) htake))
end
def tRevT (K : PySem.W.Frag) (te : TE) : TE := fun σ H Q => te σ H fun x H1 => ∃ a xs, x = .ref a ∧ SqT K H1 a xs ∧ ∀ p, H1 p = none → Q (.ref p) (upd H1 p (.tup xs.reverse))
theorem pe_revT {X : Cx} {e : Expr} {te : TE} {k : Nat} {p1 p2 p3 pos : Pos} (he : PE X e te) : PE X (.Subscript e (.Slice none none (some (.UnaryOp .USub (.Constant (.int 1) k p1) p2)) p3) pos) (tRevT X.K te) := by
  refine ⟨fun pins s σ H Q I h => ?_⟩
  refine Subscript_ (thn (he.run pins s σ H _ I h) fun v s1 ⟨x, H1, I1, r1, q1⟩ => ?_)
  obtain ⟨a, xs, ex, hx, q⟩ := q1
  subst ex
  cases r1
  have hst : PO X (some (.UnaryOp .USub (.Constant (.int 1) k p1) p2)) (tPart (tUn (rU fun i => .int (-i)) (tC (.int 1)))) := po_some (pe_un un_neg pe_int)
  refine wpAny_Slice (thn (po_none.run pins s1 σ H1 (fun o H2 => o = none ∧ H2 = H1) I1 ⟨rfl, rfl⟩) fun vl s2 ⟨l, H2, I2, pl, el, e2⟩ => ?_)
  subst el e2
  refine thn (po_none.run pins s2 σ H2 (fun o H3 => o = none ∧ H3 = H2) I2 ⟨rfl, rfl⟩) fun vu s3 ⟨u, H3, I3, pu, eu, e3⟩ => ?_
  subst eu e3
  refine thn (hst.run pins s3 σ H3 (fun o H4 => o = some (-1) ∧ H4 = H3) I3 ⟨1, rfl, -1, rfl, rfl, rfl⟩) fun vs s4 ⟨o, H4, I4, ps, eo, e4⟩ => ?_
  subst eo e4
  have I5 : Inv X pins σ H4 { s4 with heap := s4.heap.push { cls := .type "slice", data := .fields #[vl, vu, vs] } } := I4.kept (t' := s4.toks) fun b ob q => Heap.get?_push_of_some _ q
  obtain ⟨its, r, ht, hz⟩ := I5.tuple hx
  have hlen := r.length
  cases pl
  cases pu
  cases ps with
  | int i tk =>
  show wpAny (model X.prog X.w) X.A (subscriptTail e (.Slice none none (some (.UnaryOp .USub (.Constant (.int 1) k p1) p2)) p3) (.ref a) (.ref s4.heap.objs.size)) (EP X pins σ Q) X.xe { s4 with heap := s4.heap.push { cls := .type "slice", data := .fields #[.none, .none, .int (-1) tk] } }
  refine tail_any (ops := [.ref a, .ref s4.heap.objs.size]) ht.typeIs (PyProof.Rows.slot_tuple_getitem.lookup) ?_ (by with_unfolding_all rfl)
  refine getItem_tuple_rev ht (Heap.IsSliceOf.new _ .none .none (.int (-1) tk)) ?_ (by rw [List.size_toArray]; omega)
  refine ⟨.ref _, _, I5.laid (t' := s4.toks) (o := .tup xs.reverse) (fun b ob q => Heap.get?_push_of_some _ q) (Nat.le_refl _) ?_, rfl, q _ (I5.hok.fresh (Nat.le_refl _))⟩
  exact ⟨by rw [List.length_reverse]; exact hz, _, r.reverse, IsTup.new _ _⟩
end RevT
/-! ### frames -/
def Imm : HO → Bool
  | .tup _ => true
  | .frz _ (.tup _) => true
  | _ => false
/-- all that stood stands, but at the addresses of A; what never changes stands anyway -/
structure Ext (A : List Addr) (H H' : Hp) : Prop where
  keep : ∀ b o, H b = some o → b ∉ A → H' b = some o
  imm : ∀ b o, H b = some o → Imm o = true → H' b = some o
theorem Ext.refl {A : List Addr} (H : Hp) : Ext A H H := ⟨fun _ _ h _ => h, fun _ _ h _ => h⟩
theorem Ext.trans {A B C : List Addr} {H H1 H2 : Hp} (e : Ext A H H1) (f : Ext B H1 H2) (hA : ∀ x ∈ A, x ∈ C) (hB : ∀ x ∈ B, (∃ o, H x = some o) → x ∈ C) : Ext C H H2 :=
  ⟨fun b o h n => f.keep b o (e.keep b o h fun z => n (hA b z)) fun z => n (hB b z ⟨o, h⟩), fun b o h i => f.imm b o (e.imm b o h i) i⟩
theorem Ext.mono {A B : List Addr} {H H1 : Hp} (e : Ext A H H1) (h : ∀ x ∈ A, x ∈ B) : Ext B H H1 := ⟨fun b o q n => e.keep b o q fun z => n (h b z), e.imm⟩
theorem Ext.new {H : Hp} {p : Addr} {o : HO} (h : H p = none) : Ext [] H (upd H p o) :=
  ⟨fun b u e _ => by rw [upd_ne (ne_of_none e h)]; exact e, fun b u e _ => by rw [upd_ne (ne_of_none e h)]; exact e⟩
theorem Ext.wr {H : Hp} {p : Addr} {o u : HO} (h : H p = some o) (n : Imm o = false) : Ext [p] H (upd H p u) :=
  ⟨fun b v e z => by rw [upd_ne (fun q => z (by rw [q]; exact List.mem_singleton.mpr rfl))]; exact e, fun b v e i => by
    rw [upd_ne (fun q => by subst q; rw [h] at e; cases e; rw [n] at i; cases i)]; exact e⟩
theorem Ext.free {A : List Addr} {H H' : Hp} {p : Addr} (e : Ext A H H') (h : H' p = none) (n : p ∉ A) : H p = none := by
  cases q : H p with
  | none => rfl
  | some o => rw [e.keep p o q n] at h; cases h
theorem Ext.snoc {A C : List Addr} {H H1 H2 : Hp} (f : Ext A H1 H2) (e : Ext C H H1) (hA : ∀ x ∈ A, (∃ o, H x = some o) → x ∈ C) : Ext C H H2 := e.trans f (fun _ h => h) hA
theorem sub0 {H : Hp} {C : List Addr} : ∀ x ∈ ([] : List Addr), (∃ o, H x = some o) → x ∈ C := fun _ h => by cases h
theorem sub1 {H : Hp} {C : List Addr} {a : Addr} (m : a ∈ C) : ∀ x ∈ [a], (∃ o, H x = some o) → x ∈ C := fun x h _ => by rw [List.mem_singleton.mp h]; exact m
theorem sub1f {H : Hp} {C : List Addr} {a : Addr} (m : H a = none) : ∀ x ∈ [a], (∃ o, H x = some o) → x ∈ C := fun x h ⟨o, e⟩ => by rw [List.mem_singleton.mp h, m] at e; cases e
theorem subC {H : Hp} {C A : List Addr} {a : Addr} (m : a ∈ C) (r : ∀ x ∈ A, (∃ o, H x = some o) → x ∈ C) : ∀ x ∈ a :: A, (∃ o, H x = some o) → x ∈ C := fun x h z => by
  rcases List.mem_cons.mp h with q | q
  · rw [q]; exact m
  · exact r x q z
theorem subCf {H : Hp} {C A : List Addr} {a : Addr} (m : H a = none) (r : ∀ x ∈ A, (∃ o, H x = some o) → x ∈ C) : ∀ x ∈ a :: A, (∃ o, H x = some o) → x ∈ C := fun x h z => by
  rcases List.mem_cons.mp h with q | q
  · obtain ⟨o, e⟩ := z
    rw [q, m] at e; cases e
  · exact r x q z
theorem nin0 {b : Addr} : b ∉ ([] : List Addr) := List.not_mem_nil
theorem nin1 {b x : Addr} (h : b ≠ x) : b ∉ [x] := fun z => h (List.mem_singleton.mp z)
theorem ninC {b x : Addr} {A : List Addr} (h : b ≠ x) (g : b ∉ A) : b ∉ (x :: A) := fun z => (List.mem_cons.mp z).elim h g
theorem Rd.ext {A : List Addr} {H H' : Hp} {a : Addr} {u : HO} (e : Ext A H H') (h : Rd H a u) (n : a ∉ A) : Rd H' a u := by
  rcases h with h | ⟨o, h⟩
  · exact .inl (e.keep _ _ h n)
  · exact .inr ⟨o, e.keep _ _ h n⟩
theorem sqT_ext {K : PySem.W.Frag} {A : List Addr} {H H' : Hp} {a : Addr} {xs : List V} (e : Ext A H H') (h : SqT K H a xs) : SqT K H' a xs := by
  rcases h with (h | ⟨o, h⟩) | h
  · exact .inl (.inl (e.imm _ _ h rfl))
  · exact .inl (.inr ⟨o, e.imm _ _ h rfl⟩)
  · exact .inr h
theorem sqL_ext {K : PySem.W.Frag} {A : List Addr} {H H' : Hp} {a : Addr} {xs : List V} (e : Ext A H H') (h : SqL K H a xs) (n : ∀ o, H a = some o → a ∉ A) : SqL K H' a xs := by
  rcases h with (h | ⟨o, h⟩) | h
  · exact .inl (.inl (e.keep _ _ h (n _ h)))
  · exact .inl (.inr ⟨o, e.keep _ _ h (n _ h)⟩)
  · exact .inr h
theorem sqT_cast {K : PySem.W.Frag} {H : Hp} {a : Addr} {xs ys : List V} (h : SqT K H a xs) (e : xs = ys) : SqT K H a ys := e ▸ h
theorem sqL_ext0 {K : PySem.W.Frag} {H H' : Hp} {a : Addr} {xs : List V} (e : Ext [] H H') (h : SqL K H a xs) : SqL K H' a xs := sqL_ext e h fun _ _ => nin0
/-- a new object o, its place any free one -/
def NewO (H : Hp) (o : HO) (R : Addr → Hp → Prop) : Prop := ∀ p H', H p = none → Ext [] H H' → H' p = some o → R p H'
theorem NewO.raw {H : Hp} {o : HO} {R : Addr → Hp → Prop} (h : NewO H o R) : ∀ p, H p = none → R p (upd H p o) := fun p hp => h p _ hp (Ext.new hp) upd_same
/-- a reading's end, weakened -/
def stA (t : TA) : TA := fun σ H Q => ∃ R : List V → Hp → Prop, t σ H R ∧ ∀ xs H', R xs H' → Q xs H'
def stE (t : TE) : TE := fun σ H Q => ∃ R : V → Hp → Prop, t σ H R ∧ ∀ x H', R x H' → Q x H'
theorem PA.star {X : Cx} {es : List Expr} {t : TA} (h : PA X es t) : PA X es (stA t) := by
  constructor
  rintro pos pn st sl hp R J ⟨R1, a, b⟩
  apply thn (h.run pos pn st sl hp R1 J a)
  rintro us s1 ⟨vs, H1, J1, rv, q⟩
  exact ⟨vs, H1, J1, rv, b _ _ q⟩
theorem PE.star {X : Cx} {e : Expr} {t : TE} (h : PE X e t) : PE X e (stE t) := by
  constructor
  rintro pn st sl hp R J ⟨R1, a, b⟩
  apply thn (h.run pn st sl hp R1 J a)
  rintro u s1 ⟨v, H1, J1, rv, q⟩
  exact ⟨v, H1, J1, rv, b _ _ q⟩
def stG (g : TG) : TG := fun v σ H Q => ∃ R : L2.St → Hp → Prop, g v σ H R ∧ ∀ a b, R a b → Q a b
def stT (t : TT) : TT := fun σ H Q => ∃ R : Bool → Hp → Prop, t σ H R ∧ ∀ a b, R a b → Q a b
theorem PG.star {X : Cx} {e : Expr} {g : TG} (h : PG X e g) : PG X e (stG g) := by
  constructor
  rintro pn st sl hp v u Q J rv ⟨R, a, b⟩
  apply thn (h.run pn st sl hp v u R J rv a)
  rintro _ s1 ⟨sl1, H1, J1, q⟩
  exact ⟨sl1, H1, J1, b _ _ q⟩
theorem PTs.star {X : Cx} {ifs : List Expr} {t : TT} (h : PTs X ifs t) : PTs X ifs (stT t) := by
  constructor
  rintro pn st sl hp Q J ⟨R, a, b⟩
  apply thn (h.run pn st sl hp R J a)
  rintro c s1 ⟨H1, J1, q⟩
  exact ⟨H1, J1, b _ _ q⟩
theorem stE.mono {t : TE} {σ : L2.St} {H : Hp} {Q R : V → Hp → Prop} (h : stE t σ H Q) (w : ∀ a b, Q a b → R a b) : stE t σ H R := let ⟨S, a, b⟩ := h; ⟨S, a, fun x y z => w _ _ (b x y z)⟩
theorem stG.mono {t : TG} {v : V} {σ : L2.St} {H : Hp} {Q R : L2.St → Hp → Prop} (h : stG t v σ H Q) (w : ∀ a b, Q a b → R a b) : stG t v σ H R := let ⟨S, a, b⟩ := h; ⟨S, a, fun x y z => w _ _ (b x y z)⟩
theorem stT.mono {t : TT} {σ : L2.St} {H : Hp} {Q R : Bool → Hp → Prop} (h : stT t σ H Q) (w : ∀ a b, Q a b → R a b) : stT t σ H R := let ⟨S, a, b⟩ := h; ⟨S, a, fun x y z => w _ _ (b x y z)⟩
/-- what a loop over J asks; what a list comprehension over J asks -/
def ForGoal (J : It) (g : TG) (tb : TS) (D : Ends) (σ : L2.St) (H : Hp) : Prop := ∃ W : Nat → Nat → L2.St → Hp → Prop, (∃ m, W 0 m σ H) ∧ ∀ i m σ H, W i m σ H →
  (J.stop i H ∧ D.nx σ H) ∨ (J.go i H ∧ ∃ N : L2.St → Hp → Prop, (∀ σ' H', N σ' H' → ∃ m', m' < m ∧ W (i + 1) m' σ' H') ∧ ∀ x H', J.yld i H x H' → g x σ H' fun σ2 H2 => tb { D with nx := N, ct := N, bk := D.nx } σ2 H2)
def LcGoal (J : It) (g : TG) (tt : TT) (te : TE) (vs : List Nat) (σ : L2.St) (H1 : Hp) (Q : VK) : Prop := ∀ D, H1 D = none → ∃ W : Nat → Nat → Hp → Prop, (∃ m, W 0 m (upd H1 D (.lst []))) ∧ ∀ i m H, W i m H →
  (J.stop i H ∧ Q (.ref D) H) ∨ (J.go i H ∧ ∃ Nx : Hp → Prop, (∀ H', Nx H' → ∃ m', m' < m ∧ W (i + 1) m' H') ∧ ∀ x H', J.yld i H x H' → g x (wipe σ vs) H' fun σ2 H2 => wipe σ2 vs = wipe σ vs ∧ tt σ2 H2 fun b H3 =>
    if b = true then te σ2 H3 fun y H4 => ∃ acc, H4 D = some (.lst acc) ∧ acc.length < sizeLine ∧ Nx (upd H4 D (.lst (acc ++ [y]))) else Nx H3)
theorem g_forW {J : It} {n : Nat} {G : Hp → Prop} {Y : Nat → Hp → V → Hp → Prop} (w : Walk J n G Y) {g : TG} {tb : TS} {D : Ends} {σ : L2.St} {H : Hp} (Pv : Nat → L2.St → Hp → Prop) (h0 : Pv 0 σ H) (hG : ∀ i σ H, i ≤ n → Pv i σ H → G H)
    (hs : ∀ i x σ H H', i < n → Pv i σ H → Y i H x H' → g x σ H' fun σ2 H2 => tb { D with nx := Pv (i + 1), ct := Pv (i + 1), bk := D.nx } σ2 H2) (hd : ∀ σ H, Pv n σ H → D.nx σ H) : ForGoal J g tb D σ H := for_it w Pv h0 hG hs hd
theorem g_lcW {J : It} {n : Nat} {G : Hp → Prop} {Y : Nat → Hp → V → Hp → Prop} (w : Walk J n G Y) {g : TG} {tt : TT} {te : TE} {vs : List Nat} {σ : L2.St} {H1 : Hp} {Q : VK} (Pv : Addr → Nat → Hp → List V → Prop)
    (h0 : ∀ D H', H1 D = none → Ext [] H1 H' → H' D = some (.lst []) → Pv D 0 H' []) (hG : ∀ D i H acc, i ≤ n → Pv D i H acc → G H)
    (hs : ∀ D i x H H' acc, i < n → Pv D i H acc → H D = some (.lst acc) → Y i H x H' → stG g x (wipe σ vs) H' fun σ2 H2 => wipe σ2 vs = wipe σ vs ∧ stT tt σ2 H2 fun b H3 =>
      if b = true then stE te σ2 H3 fun y H4 => H4 D = some (.lst acc) ∧ acc.length < sizeLine ∧ ∀ H5, Ext [D] H4 H5 → H5 D = some (.lst (acc ++ [y])) → Pv D (i + 1) H5 (acc ++ [y]) else Pv D (i + 1) H3 acc ∧ H3 D = some (.lst acc))
    (hd : ∀ D H acc, Pv D n H acc → H D = some (.lst acc) → Q (.ref D) H) : LcGoal J (stG g) (stT tt) (stE te) vs σ H1 Q := by
  intro D hD
  apply lc_it w (fun i H => ∃ acc, Pv D i H acc ∧ H D = some (.lst acc))
  · exact ⟨[], h0 D _ hD (Ext.new hD) upd_same, upd_same⟩
  · rintro i H hi ⟨acc, p, _⟩
    exact hG D i H acc hi p
  · rintro i x H H' hi ⟨acc, p, e⟩ y
    refine (hs D i x H H' acc hi p e y).mono fun σ2 H2 ⟨q1, q2⟩ => ⟨q1, q2.mono fun b H3 q3 => ?_⟩
    cases b with
    | true => exact stE.mono q3 fun z H4 ⟨a1, a2, a3⟩ => ⟨acc, a1, a2, acc ++ [z], a3 _ (Ext.wr a1 rfl) upd_same, upd_same⟩
    | false => exact ⟨acc, q3.1, q3.2⟩
  · rintro H ⟨acc, p, e⟩
    exact hd D H acc p e
theorem PE.weak {X : Cx} {e : Expr} {t t' : TE} (h : PE X e t) (w : ∀ σ H Q, t' σ H Q → t σ H Q) : PE X e t' := ⟨fun pn st sl hp R J a => h.run pn st sl hp R J (w _ _ _ a)⟩
theorem PS.weak {X : Cx} {e : Stmt} {t t' : TS} (h : PS X e t) (w : ∀ D σ H, t' D σ H → t D σ H) : PS X e t' := ⟨fun pn st sl hp R J a => h.run pn st sl hp R J (w _ _ _ a)⟩
/-- a statement that ends in J, whence the rest goes on -/
def tJoin (t u : TS) : TS := fun D σ H => ∃ J : L2.St → Hp → Prop, t { D with nx := J } σ H ∧ ∀ σ' H', J σ' H' → u D σ' H'
theorem pss_join {X : Cx} {st : Stmt} {rest : List Stmt} {t u : TS} (h1 : PS X st t) (h2 : PSs X rest u) : PSs X (st :: rest) (tJoin t u) := by
  constructor
  rintro pn s0 sl hp D J ⟨R, a, b⟩
  apply wpAny_execs_cons
  apply thn (h1.run pn s0 sl hp { D with nx := R } J a)
  intro f s1 q
  cases f with
  | next =>
    obtain ⟨sl2, hp2, J2, r⟩ := q
    exact h2.run pn s1 sl2 hp2 D J2 (b _ _ r)
  | ret v => exact q
  | brk => exact q
  | cont => exact q
/-! ### facts of the top -/
structure GF (K : PySem.W.Frag) (mg : Str → Option Value) (x : Str) (st : Stmt) (ps : List Str) (f : Addr) (fd : FuncData) : Prop where
  F : Fun K x x st f fd
  mg : mg x = some (.ref f)
  kp : PySem.W.keepIn K (.ref f) = true
  b : Binds K fd ps []
structure MF (K : PySem.W.Frag) (x q : Str) (st : Stmt) (ps : List Str) (C f : Addr) (fd : FuncData) : Prop where
  F : Fun K x q st f fd
  me : Meth K C x f
  b : Binds K fd ps []
def NA (K : PySem.W.Frag) (C : Addr) (ats : List Str) : Prop := ∀ x ∈ ats, NoAttr K C x
theorem na_of {K : PySem.W.Frag} {C : Addr} {ats : List Str} {f : Str} (h : NA K C ats) (m : f ∈ ats) : NoAttr K C f := h f m
structure CF (K : PySem.W.Frag) (mg : Str → Option Value) (x : Str) (ats : List Str) (C fi : Addr) : Prop where
  mg : mg x = some (.ref C)
  cl : Cls K C
  make : Mk K C fi
  na : NA K C ats
def GV (K : PySem.W.Frag) (mg : Str → Option Value) (x : Str) (v : V) : Prop := ∃ u, mg x = some u ∧ RelV v u
/-! ### rules that take several kinds of values -/
section
variable {X : Cx}
theorem pe_g {x : Str} {v : V} {pos : Pos} (hg : Gl X x) (h : GV X.K X.mg x v) (hd : (x == ("__debug__" : Str)) = false := by decide) : PE X (.Name x pos) (tC v) := by
  obtain ⟨u, h1, h2⟩ := h
  exact pe_glob hg h1 h2 hd
theorem OpR.or {f : Value → Value → Sem Value} {r r' : R2} (h : OpR X f r) (h' : OpR X f r') : OpR X f (fun x y H Q => r x y H Q ∨ r' x y H Q) := by
  intro pins s σ H x y v u Q I rx ry q
  rcases q with q | q
  · exact h pins s σ H x y v u Q I rx ry q
  · exact h' pins s σ H x y v u Q I rx ry q
/-- + of ints, texts, tuples, lists -/
def rAddX (K : PySem.W.Frag) : R2 := fun x y H Q => match x, y with
  | .int i, .int j => Q (.int (i + j)) H
  | .int i, .bl k => Q (.int (i + PyProof.Rows.b2i k)) H
  | .str i, .str j => i.length + j.length ≤ sizeLine ∧ Q (.str (i ++ j)) H
  | .ref a, .ref b => (∃ xs ys, SqT K H a xs ∧ SqT K H b ys ∧ xs.length + ys.length ≤ sizeLine ∧ ∀ c H', Ext [] H H' → SqT K H' c (xs ++ ys) → Q (.ref c) H') ∨
      ∃ xs ys, H a = some (.lst xs) ∧ H b = some (.lst ys) ∧ xs.length + ys.length ≤ sizeLine ∧ NewO H (.lst (xs ++ ys)) fun p H' => Q (.ref p) H'
  | _, _ => False
theorem o_add : OpR X (binaryOp .Add) (rAddX X.K) := by
  intro pins s σ H x y v u Q I rx ry h
  unfold rAddX at h
  split at h
  · exact op_add pins s σ H _ _ v u Q I rx ry ⟨_, _, rfl, rfl, h⟩
  · exact op_add_ib pins s σ H _ _ v u Q I rx ry ⟨_, _, rfl, rfl, h⟩
  · exact op_add_str pins s σ H _ _ v u Q I rx ry ⟨_, _, rfl, rfl, h.1, h.2⟩
  · rcases h with ⟨xs, ys, h1, h2, hz, q⟩ | ⟨xs, ys, h1, h2, hz, q⟩
    · refine op_catA pins s σ H _ _ v u Q I rx ry ⟨_, _, xs, ys, rfl, rfl, h1, h2, hz, fun e => ?_, fun _ e => ?_, fun _ _ p hp => ?_⟩
      · subst e; exact q _ _ (Ext.refl H) h2
      · subst e; exact q _ _ (Ext.refl H) (by rw [List.append_nil]; exact h1)
      · exact q _ _ (Ext.new hp) (SqT.of upd_same)
    · exact op_cat pins s σ H _ _ v u Q I rx ry ⟨_, _, xs, ys, rfl, rfl, h1, h2, hz, q.raw⟩
  · exact h.elim
/-- slices of tuples, lists, texts -/
def rSlX (K : PySem.W.Frag) : V → Option Int → Option Int → Hp → VK → Prop := fun x lo hi H Q => match x with
  | .ref a => (∃ xs, SqT K H a xs ∧ ∀ c H', Ext [] H H' → SqT K H' c (cutV xs lo hi) → Q (.ref c) H') ∨ ∃ xs, SqL K H a xs ∧ NewO H (.lst (cutV xs lo hi)) fun p H' => Q (.ref p) H'
  | .str z => z.length ≤ sizeLine ∧ Q (.str (cutS z lo hi)) H
  | _ => False
theorem cutV_whole {xs : List V} {lo hi : Option Int} (h : HT.sIx xs.length 0 lo = 0 ∧ HT.sIx xs.length xs.length hi = xs.length) : cutV xs lo hi = xs := by
  unfold cutV
  rw [h.1, h.2, List.drop_zero, Nat.sub_zero, List.take_length]
theorem o_sl : SlR X (rSlX X.K) := by
  intro pins s σ H x v vl vu lo hi sl Q I rx hs pl pu h
  unfold rSlX at h
  split at h
  · rcases h with ⟨xs, h1, q⟩ | ⟨xs, h1, q⟩
    · refine sl_tupA pins s σ H _ v vl vu lo hi sl Q I rx hs pl pu ⟨_, xs, rfl, h1, fun e => ?_, fun _ p hp => ?_⟩
      · exact q _ _ (Ext.refl H) (by rw [cutV_whole e]; exact h1)
      · exact q _ _ (Ext.new hp) (SqT.of upd_same)
    · exact sl_list pins s σ H _ v vl vu lo hi sl Q I rx hs pl pu ⟨_, xs, rfl, h1, q.raw⟩
  · exact sl_str pins s σ H _ v vl vu lo hi sl Q I rx hs pl pu ⟨_, rfl, h.1, h.2⟩
  · exact h.elim
theorem CMul.left {i j : Int} (h : -(2 ^ 64) < i ∧ i < 2 ^ 64) : CMul i j := .inl h
theorem CMul.right {i j : Int} (h : -(2 ^ 64) < j ∧ j < 2 ^ 64) : CMul i j := .inr h
def rMulX : R2 := fun x y H Q => match x, y with
  | .int i, .int j => CMul i j ∧ Q (.int (i * j)) H
  | _, _ => rRep x y H Q
theorem o_mul : OpR X (binaryOp .Mult) rMulX := by
  intro pins s σ H x y v u Q I rx ry h
  unfold rMulX at h
  split at h
  · exact op_mul pins s σ H _ _ v u Q I rx ry ⟨_, _, rfl, rfl, h.1, h.2⟩
  · exact op_rep pins s σ H _ _ v u Q I rx ry h
def rEqX (K : PySem.W.Frag) : R2 := fun x y H Q => rEq x y H Q ∨ rEqD K x y H Q
def rNeX (K : PySem.W.Frag) : R2 := fun x y H Q => rNe x y H Q ∨ rNeD K x y H Q
theorem o_eq (hu : X.A.units + 64 < cLine) : OpR X (compareOp .Eq) (rEqX X.K) := OpR.or op_eq (op_eqD hu)
theorem o_ne (hu : X.A.units + 64 < cLine) : OpR X (compareOp .NotEq) (rNeX X.K) := OpR.or op_ne (op_neD hu)
def rInt1 : List V → Hp → VK → Prop := fun xs H Q => match xs with
  | [.int i] => Q (.int i) H
  | [.bl k] => Q (.int (if k then 1 else 0)) H
  | _ => False
theorem o_int : CallR X (.type "int") rInt1 := by
  intro pins s σ H xs us Q I r h
  unfold rInt1 at h
  split at h
  · exact call_int1 pins s σ H _ us Q I r (.inl ⟨_, rfl, h⟩)
  · exact call_int1 pins s σ H _ us Q I r (.inr ⟨_, rfl, h⟩)
  · exact h.elim
def rMin2 : List V → Hp → VK → Prop := fun xs H Q => match xs with
  | [.int i, .int j] => Q (.int (min i j)) H
  | _ => False
def rMax2 : List V → Hp → VK → Prop := fun xs H Q => match xs with
  | [.int i, .int j] => Q (.int (max i j)) H
  | _ => False
theorem o_min (hc : X.calm = true) : CallR X (.builtin "min") rMin2 := by
  intro pins s σ H xs us Q I r h
  unfold rMin2 at h
  split at h
  · rename_i i j
    refine call_min2 hc pins s σ H _ us Q I r ⟨_, _, rfl, ?_⟩
    have e : (if j < i then j else i) = min i j := by split <;> omega
    rw [e]; exact h
  · exact h.elim
theorem o_max (hc : X.calm = true) : CallR X (.builtin "max") rMax2 := by
  intro pins s σ H xs us Q I r h
  unfold rMax2 at h
  split at h
  · rename_i i j
    refine call_max2 hc pins s σ H _ us Q I r ⟨_, _, rfl, ?_⟩
    have e : (if j > i then j else i) = max i j := by split <;> omega
    rw [e]; exact h
  · exact h.elim
def rAbs : List V → Hp → VK → Prop := fun xs H Q => match xs with
  | [.int i] => Q (.int (i.natAbs : Int)) H
  | _ => False
theorem o_abs : CallR X (.builtin "abs") rAbs := by
  intro pins s σ H xs us Q I r h
  unfold rAbs at h
  split at h
  · rename_i i
    refine call_abs pins s σ H _ us Q I r ⟨_, rfl, ?_⟩
    have e : (if i < 0 then -i else i) = (i.natAbs : Int) := by split <;> omega
    rw [e]; exact h
  · exact h.elim
def tTupX (t : TA) : TE := fun σ H Q => t σ H fun xs H1 => xs.length ≤ sizeLine ∧ NewO H1 (.tup xs) fun p H' => Q (.ref p) H'
def tLstX (t : TA) : TE := fun σ H Q => t σ H fun xs H1 => xs.length ≤ sizeLine ∧ NewO H1 (.lst xs) fun p H' => Q (.ref p) H'
theorem pe_tupX {es : List Expr} {t : TA} {k : Nat} {pos : Pos} (h : PA X es t) : PE X (.Tuple es k pos) (tTupX t) :=
  PE.weak (pe_tup (PA.star h)) fun _ _ _ q => ⟨_, q, fun _ _ ⟨l, n⟩ => ⟨l, n.raw⟩⟩
theorem pe_lstX {es : List Expr} {t : TA} {pos : Pos} (h : PA X es t) : PE X (.List es pos) (tLstX t) :=
  PE.weak (pe_lst (PA.star h)) fun _ _ _ q => ⟨_, q, fun _ _ ⟨l, n⟩ => ⟨l, n.raw⟩⟩
def rLenX (K : PySem.W.Frag) : List V → Hp → VK → Prop := fun xs H Q => match xs with
  | [.ref a] => (∃ ys, (SqL K H a ys ∨ SqT K H a ys) ∧ Q (.int ys.length) H) ∨ ∃ kvs, H a = some (.dK kvs) ∧ Q (.int kvs.length) H
  | [.str z] => z.length ≤ sizeLine ∧ Q (.int z.length) H
  | _ => False
theorem o_len : CallR X (.builtin "len") (rLenX X.K) := by
  intro pins s σ H xs us Q I r h
  unfold rLenX at h
  split at h
  · rcases h with ⟨ys, e, q⟩ | ⟨kvs, e, q⟩
    · exact call_len_seq pins s σ H _ us Q I r ⟨_, ys, rfl, e, q⟩
    · exact call_lenD pins s σ H _ us Q I r ⟨_, kvs, rfl, e, q⟩
  · exact call_len_str pins s σ H _ us Q I r ⟨_, rfl, h.1, h.2⟩
  · exact h.elim
def rListX (K : PySem.W.Frag) : List V → Hp → VK → Prop := fun xs H Q => match xs with
  | [.ref a] => ∃ ys, (SqL K H a ys ∨ SqT K H a ys) ∧ NewO H (.lst ys) fun p H' => Q (.ref p) H'
  | _ => False
theorem o_list : CallR X (.type "list") (rListX X.K) := by
  intro pins s σ H xs us Q I r h
  unfold rListX at h
  split at h
  · obtain ⟨ys, e, q⟩ := h
    exact call_list_of pins s σ H _ us Q I r ⟨_, ys, rfl, e, q.raw⟩
  · exact h.elim
def rTupX (K : PySem.W.Frag) : List V → Hp → VK → Prop := fun xs H Q => match xs with
  | [.ref a] => (∃ ys, SqL K H a ys ∧ NewO H (.tup ys) fun p H' => Q (.ref p) H') ∨ ∃ ys, SqT K H a ys ∧ Q (.ref a) H
  | _ => False
theorem o_tuple : CallR X (.type "tuple") (rTupX X.K) := by
  intro pins s σ H xs us Q I r h
  unfold rTupX at h
  split at h
  · rcases h with ⟨ys, e, q⟩ | ⟨ys, e, q⟩
    · exact call_tuple_of pins s σ H _ us Q I r ⟨_, ys, rfl, .inl ⟨e, q.raw⟩⟩
    · exact call_tuple_of pins s σ H _ us Q I r ⟨_, ys, rfl, .inr ⟨e, q⟩⟩
  · exact h.elim
theorem kkTup {K : PySem.W.Frag} {e : Expr} {n : Nat} {t : TGs} (h : X.K = K) (c : PG X e (gTup X.K n t)) : PG X e (gTup K n t) := h ▸ c
theorem kkCallR {K : PySem.W.Frag} {v : Value} {r : PySem.W.Frag → List V → Hp → VK → Prop} (h : X.K = K) (c : CallR X v (r X.K)) : CallR X v (r K) := h ▸ c
theorem kkOpR {K : PySem.W.Frag} {f : Value → Value → Sem Value} {r : PySem.W.Frag → R2} (h : X.K = K) (c : OpR X f (r X.K)) : OpR X f (r K) := h ▸ c
theorem kkIxR {K : PySem.W.Frag} {r : PySem.W.Frag → R2} (h : X.K = K) (c : IxR X (r X.K)) : IxR X (r K) := h ▸ c
theorem kkSlR {K : PySem.W.Frag} {r : PySem.W.Frag → V → Option Int → Option Int → Hp → VK → Prop} (h : X.K = K) (c : SlR X (r X.K)) : SlR X (r K) := h ▸ c
theorem iop_catT : OpR X (inplaceOp .Add) (fun _ _ _ _ => False) := fun _ _ _ _ _ _ _ _ _ _ _ _ h => h.elim
def rIAddX : R2 := fun x y H Q => match x, y with
  | .int i, .int j => Q (.int (i + j)) H
  | .str i, .str j => i.length + j.length ≤ sizeLine ∧ Q (.str (i ++ j)) H
  | _, _ => False
theorem o_iadd : PIp X .Add rIAddX := by
  intro pins s σ H x y v u Q I rx ry h
  unfold rIAddX at h
  split at h
  · exact iop_add pins s σ H _ _ v u Q I rx ry ⟨_, _, rfl, rfl, h⟩
  · exact iop_add_str pins s σ H _ _ v u Q I rx ry ⟨_, _, rfl, rfl, h.1, h.2⟩
  · exact h.elim
theorem o_inadd : InOp X .Add rIAddX := fun pins s σ H x y u v Q I rx ry h => o_iadd pins s σ H x y u v Q I rx ry h
end
/-- C(..): as tMake, the new heap by what is known of it -/
def tMakeX (C : Addr) (sp : Sp) (dvs : List V) (E : XK) (t : TA) : TE := fun σ H Q => t σ H fun vs H1 => ∀ x dx H', H1 x = none → Ext [] H1 H' → H' x = some (.ins C dx []) →
  sp (.ref x :: (vs ++ dvs)) H' (fun v H2 => v = .non ∧ Q (.ref x) H2) E
theorem Ext.made {H : Hp} {x dx C : Addr} (h1 : H x = none) (h2 : H dx = none) : Ext [] H (upd (upd H dx (.own x)) x (.ins C dx [])) :=
  ⟨fun b o e _ => by rw [upd_ne (ne_of_none e h1), upd_ne (ne_of_none e h2)]; exact e, fun b o e _ => by rw [upd_ne (ne_of_none e h1), upd_ne (ne_of_none e h2)]; exact e⟩
section
variable {X : Cx} {CX : CXT} {k : Nat} {f C : Addr} {fd : FuncData} {ps : List Str} {sp : Sp} {dvs : List V} {ds : List Value} {E : XK} {x : Str} {p pos : Pos} {e : Expr} {es : List Expr} {t : TA}
theorem pe_makeX (M : Mk X.K C f) (F : FnOk X.prog X.w X.K X.mg X.base CX k f fd ps sp) (hr : Room (k + 1) X.A) (hg : Gl X x) (hm : X.mg x = some (.ref C)) (hb : Binds X.K fd ps ds) (hd : Vals dvs ds) (hx : Passes CX X E)
    (ha : PA X (e :: es) t) (hq : (x == ("__debug__" : Str)) = false := by decide) (he : starEach (e :: es) X.env = (false, eval e X.env) :: starEach es X.env := by rfl) (hl : (backTo pos (starEach es X.env)).any (·.1) = false := by rfl) :
    PE X (.Call (.Name x p) (e :: es) [] pos) (tMakeX C sp dvs E t) := by
  constructor
  intro pn st0 sl hp R J hh
  apply wpAny_Call_Name_kw
  apply ld_glob J hg hm (hd := hq)
  apply PySem.W.callWith_K (h₀ := X.base) J.ok.mod.kin M.kp _ he hl
  apply thn (ha.run pos pn st0 sl hp _ J hh)
  rintro us s1 ⟨vs, hp1, J1, rv, q⟩
  exact ⟨J1.kIn, run_make M F hr hb hd hx J1 rv fun x dx h1 h2 _ => q x dx _ h1 (Ext.made h1 h2) upd_same⟩
theorem pe_make0X (M : Mk X.K C f) (F : FnOk X.prog X.w X.K X.mg X.base CX k f fd ps sp) (hr : Room (k + 1) X.A) (hg : Gl X x) (hm : X.mg x = some (.ref C)) (hb : Binds X.K fd ps ds) (hd : Vals dvs ds) (hx : Passes CX X E)
    (hq : (x == ("__debug__" : Str)) = false := by decide) : PE X (.Call (.Name x p) [] [] pos) (tMakeX C sp dvs E tNil) := by
  constructor
  intro pn st0 sl hp R J hh
  apply wpAny_Call_Name_kw
  apply ld_glob J hg hm (hd := hq)
  exact PySem.W.callWith_K0 J.kIn M.kp (run_make (us := []) M F hr hb hd hx J .nil fun x dx h1 h2 _ => hh x dx _ h1 (Ext.made h1 h2) upd_same)
end
/-! ### slices by numbers -/
theorem cut_mid {xs : List V} {a b : Nat} (h1 : a ≤ b) (h2 : b ≤ xs.length) : cutV xs (some (a : Int)) (some (b : Int)) = (xs.drop a).take (b - a) := by
  unfold cutV
  rw [HT.sIx_nat, HT.sIx_nat, Nat.min_eq_left h2, Nat.min_eq_left (Nat.le_trans h1 h2)]
theorem cut_to {xs : List V} {b : Nat} : cutV xs none (some (b : Int)) = xs.take b := by
  unfold cutV
  rw [HT.sIx_nat, HT.sIx_none, List.drop_zero, Nat.sub_zero]
  by_cases h : b ≤ xs.length
  · rw [Nat.min_eq_left h]
  · rw [Nat.min_eq_right (by omega), List.take_of_length_le (Nat.le_refl _), List.take_of_length_le (by omega)]
theorem cut_from {xs : List V} {a : Nat} : cutV xs (some (a : Int)) none = xs.drop a := by
  unfold cutV
  rw [HT.sIx_nat, HT.sIx_none]
  by_cases h : a ≤ xs.length
  · rw [Nat.min_eq_left h, List.take_of_length_le (by rw [List.length_drop]; exact Nat.le_refl _)]
  · rw [Nat.min_eq_right (by omega), List.drop_of_length_le (Nat.le_refl _), List.drop_of_length_le (show xs.length ≤ a by omega)]
    simp
theorem sIx_neg {n d a : Nat} (h : 0 < a) : HT.sIx n d (some (-(a : Int))) = n - a := by
  show (if (-(a : Int)) < 0 then (-(a : Int) + (n : Int)).toNat else min (-(a : Int)).toNat n) = n - a
  rw [if_pos (by omega)]
  omega
theorem cut_negTo {xs : List V} {b : Nat} (h : 0 < b) : cutV xs none (some (-(b : Int))) = xs.take (xs.length - b) := by
  unfold cutV
  rw [sIx_neg h, HT.sIx_none, List.drop_zero, Nat.sub_zero]
theorem cut_negFrom {xs : List V} {a : Nat} (h : 0 < a) : cutV xs (some (-(a : Int))) none = xs.drop (xs.length - a) := by
  unfold cutV
  rw [sIx_neg h, HT.sIx_none, List.take_of_length_le (by rw [List.length_drop]; exact Nat.le_refl _)]
theorem cut_midU {xs : List V} {a b : Nat} : cutV xs (some (a : Int)) (some (b : Int)) = (xs.take b).drop a := by
  unfold cutV
  rw [HT.sIx_nat, HT.sIx_nat, List.drop_take]
  by_cases h : a ≤ xs.length
  · rw [Nat.min_eq_left h]
    by_cases h2 : b ≤ xs.length
    · rw [Nat.min_eq_left h2]
    · rw [Nat.min_eq_right (show xs.length ≤ b by omega), List.take_of_length_le (by rw [List.length_drop]; omega), List.take_of_length_le (by rw [List.length_drop]; omega)]
  · rw [Nat.min_eq_right (show xs.length ≤ a by omega), List.drop_of_length_le (Nat.le_refl _), List.drop_of_length_le (show xs.length ≤ a by omega)]
    simp
theorem cut_toL {xs : List V} {b : Nat} : cutV xs none (some (@OfNat.ofNat Int b instOfNat)) = xs.take b := cut_to
theorem cut_fromL {xs : List V} {b : Nat} : cutV xs (some (@OfNat.ofNat Int b instOfNat)) none = xs.drop b := cut_from
theorem cut_midL {xs : List V} {a b : Nat} : cutV xs (some (@OfNat.ofNat Int a instOfNat)) (some (@OfNat.ofNat Int b instOfNat)) = (xs.take b).drop a := cut_midU
theorem cut_negToL {xs : List V} {b : Nat} (h : 0 < b) : cutV xs none (some (-(@OfNat.ofNat Int b instOfNat))) = xs.take (xs.length - b) := cut_negTo h
theorem cut_negFromL {xs : List V} {b : Nat} (h : 0 < b) : cutV xs (some (-(@OfNat.ofNat Int b instOfNat))) none = xs.drop (xs.length - b) := cut_negFrom h
/-! ### steps of a reading -/
section
variable {K : PySem.W.Frag} {σ : St} {H : Hp} {Q : VK} {D : Ends} {t u : TS} {ta tb tc te : TE} {g : TG} {v : V}
theorem g_seq (h : t { D with nx := u D } σ H) : tSeq t u D σ H := h
theorem g_next (h : D.nx σ H) : tNext D σ H := h
theorem g_asg (h : te σ H fun x H1 => g x σ H1 D.nx) : tAsg te g D σ H := h
theorem g_name {i : Nat} {R : St → Hp → Prop} (h : R (σ.set i (some v)) H) : gName i v σ H R := h
theorem g_ret (h : te σ H D.rt) : tRet te D σ H := h
theorem g_retN (h : D.rt .non H) : tRetN D σ H := h
theorem g_drop (h : te σ H fun _ H1 => D.nx σ H1) : tDrop te D σ H := h
theorem g_brk (h : D.bk σ H) : tBreak D σ H := h
theorem g_cnt (h : D.ct σ H) : tCont D σ H := h
theorem g_ifS {c : TT} (h : c σ H fun b H1 => if b = true then t D σ H1 else u D σ H1) : tIfS c t u D σ H := h
theorem g_if {c : TT} (h : c σ H fun b H1 => if b = true then ta σ H1 Q else tb σ H1 Q) : tIf c ta tb σ H Q := h
theorem g_var {i : Nat} (e : σ[i]? = some (some v)) (h : Q v H) : tVar i σ H Q := ⟨v, e, h⟩
theorem g_C (h : Q v H) : tC v σ H Q := h
theorem g_op {r : R2} (h : ta σ H fun x H1 => tb σ H1 fun y H2 => r x y H2 Q) : tOp r ta tb σ H Q := h
theorem g_un {r : V → Hp → VK → Prop} (h : ta σ H fun x H1 => r x H1 Q) : tUn r ta σ H Q := h
theorem g_neg {i : Int} (h : Q (.int (-i)) H) : rU (fun i => .int (-i)) (.int i) H Q := ⟨_, rfl, h⟩
theorem g_rI {C : Int → Int → Prop} {f : Int → Int → V} {i j : Int} (c : C i j) (h : Q (f i j) H) : rI C f (.int i) (.int j) H Q := ⟨i, j, rfl, rfl, c, h⟩
theorem g_rI0 {f : Int → Int → V} {i j : Int} (h : Q (f i j) H) : rI0 f (.int i) (.int j) H Q := ⟨i, j, rfl, rfl, h⟩
theorem g_addI {i j : Int} (h : Q (.int (i + j)) H) : rAddX K (.int i) (.int j) H Q := h
theorem g_addT {a b : Addr} {xs ys : List V} (e : SqT K H a xs) (f : SqT K H b ys) (z : xs.length + ys.length ≤ sizeLine) (h : ∀ c H', Ext [] H H' → SqT K H' c (xs ++ ys) → Q (.ref c) H') : rAddX K (.ref a) (.ref b) H Q := .inl ⟨xs, ys, e, f, z, h⟩
theorem g_addL {a b : Addr} {xs ys : List V} (e : H a = some (.lst xs)) (f : H b = some (.lst ys)) (z : xs.length + ys.length ≤ sizeLine) (h : NewO H (.lst (xs ++ ys)) fun p H' => Q (.ref p) H') : rAddX K (.ref a) (.ref b) H Q := .inr ⟨xs, ys, e, f, z, h⟩
theorem g_sl {te' : TE} {tl th : TO} {r : V → Option Int → Option Int → Hp → VK → Prop} (h : te' σ H fun x H1 => tl σ H1 fun l H2 => th σ H2 fun u H3 => r x l u H3 Q) : tSl r te' tl th σ H Q := h
theorem g_noPart {R : Option Int → Hp → Prop} (h : R none H) : tNoPart σ H R := h
theorem g_part {R : Option Int → Hp → Prop} (h : te σ H fun x H1 => ∃ i, x = .int i ∧ R (some i) H1) : tPart te σ H R := h
theorem g_part' {i : Int} {R : Int → Prop} (h : R i) : ∃ i', V.int i = .int i' ∧ R i' := ⟨i, rfl, h⟩
theorem g_slT {a : Addr} {lo hi : Option Int} {xs ys : List V} (e : SqT K H a xs) (f : cutV xs lo hi = ys) (h : ∀ c H', Ext [] H H' → SqT K H' c ys → Q (.ref c) H') : rSlX K (.ref a) lo hi H Q := .inl ⟨xs, e, by rw [f]; exact h⟩
theorem g_slL {a : Addr} {lo hi : Option Int} {xs ys : List V} (e : SqL K H a xs) (f : cutV xs lo hi = ys) (h : NewO H (.lst ys) fun p H' => Q (.ref p) H') : rSlX K (.ref a) lo hi H Q := .inr ⟨xs, e, by rw [f]; exact h⟩
theorem g_slS {z : Str} {lo hi : Option Int} (e : z.length ≤ sizeLine) (h : Q (.str (cutS z lo hi)) H) : rSlX K (.str z) lo hi H Q := ⟨e, h⟩
theorem g_addS {i j : Str} (e : i.length + j.length ≤ sizeLine) (h : Q (.str (i ++ j)) H) : rAddX K (.str i) (.str j) H Q := ⟨e, h⟩
theorem g_mulI {i j : Int} (c : CMul i j) (h : Q (.int (i * j)) H) : rMulX (.int i) (.int j) H Q := ⟨c, h⟩
theorem g_iaddI {i j : Int} (h : Q (.int (i + j)) H) : rIAddX (.int i) (.int j) H Q := h
theorem g_divW {i j : Int} (h0 : 0 < j) (h1 : j < 2 ^ 64) (h : Q (.int (i / j)) H) : rI CDivW (fun i j => .int (i / j)) (.int i) (.int j) H Q :=
  ⟨i, j, rfl, rfl, wide_div (b := 64) h0 (by omega) (by decide) (by decide), h⟩
theorem g_mod {i j : Int} (h0 : 0 < j) (h : Q (.int (i % j)) H) : rI (fun _ j => 0 < j) (fun i j => .int (i % j)) (.int i) (.int j) H Q := ⟨i, j, rfl, rfl, h0, h⟩
theorem g_eq {x y : V} (e : scal x y = true) (h : Q (.bl (decide (x = y))) H) : rEqX K x y H Q := .inl ⟨e, h⟩
theorem g_ne {x y : V} (e : scal x y = true) (h : Q (.bl (!decide (x = y))) H) : rNeX K x y H Q := .inl ⟨e, h⟩
theorem g_isN {x : V} (h : Q (.bl (decide (x = .non))) H) : (fun x y H Q => y = V.non ∧ Q (.bl (decide (x = .non))) H : R2) x .non H Q := ⟨rfl, h⟩
theorem g_isN' {R : Prop} (h : R) : (V.non = V.non ∧ R) := ⟨rfl, h⟩
theorem g_test {t : TE} {R : Bool → Hp → Prop} (h : t σ H fun x H' => ∃ k, x = .bl k ∧ R k H') : tTest t σ H R := h
theorem g_bl {k : Bool} {R : Bool → Prop} (h : R k) : ∃ k', V.bl k = .bl k' ∧ R k' := ⟨k, rfl, h⟩
theorem g_tru {x : V} {k : Bool} {R : Bool → Prop} (e : TruV K x H k) (h : R k) : ∃ k', TruV K x H k' ∧ R k' := ⟨k, e, h⟩
theorem g_truB {b : Bool} : TruV K (.bl b) H b := rfl
theorem g_and {a b : TT} {R : Bool → Hp → Prop} (h : a σ H fun c H1 => if c = true then b σ H1 R else R false H1) : tAnd a b σ H R := h
theorem g_or {a b : TT} {R : Bool → Hp → Prop} (h : a σ H fun c H1 => if c = true then R true H1 else b σ H1 R) : tOr a b σ H R := h
theorem g_not {a : TT} {R : Bool → Hp → Prop} (h : a σ H fun c H1 => R (!c) H1) : tNot a σ H R := h
theorem g_chain {r r' : R2} (h : ta σ H fun x H1 => tb σ H1 fun y H2 => r x y H2 fun z H3 => ∃ k, z = .bl k ∧ (if k = true then tc σ H3 fun w' H4 => r' y w' H4 Q else Q (.bl false) H3)) : tChain r r' ta tb tc σ H Q := h
theorem g_andV (h : ta σ H fun x H1 => ∃ c, x = .bl c ∧ if c = true then tb σ H1 Q else Q (.bl false) H1) : tAndV ta tb σ H Q := h
theorem g_orV (h : ta σ H fun x H1 => ∃ c, x = .bl c ∧ if c = true then Q (.bl true) H1 else tb σ H1 Q) : tOrV ta tb σ H Q := h
theorem g_notV (h : ta σ H fun x H1 => ∃ c, x = .bl c ∧ Q (.bl (!c)) H1) : tNotV ta σ H Q := h
theorem g_inT {x : V} {p : Addr} {xs : List V} (e : SqT K H p xs) (f : flatV x = true) (g : xs.all flatV = true) (h : Q (.bl (inV x xs)) H) : rIn K false x (.ref p) H Q := ⟨p, xs, rfl, .inr e, f, g, h⟩
theorem g_inL {x : V} {p : Addr} {xs : List V} (e : SqL K H p xs) (f : flatV x = true) (g : xs.all flatV = true) (h : Q (.bl (inV x xs)) H) : rIn K false x (.ref p) H Q := ⟨p, xs, rfl, .inl e, f, g, h⟩
theorem g_ninT {x : V} {p : Addr} {xs : List V} (e : SqT K H p xs) (f : flatV x = true) (g : xs.all flatV = true) (h : Q (.bl (!inV x xs)) H) : rIn K true x (.ref p) H Q := ⟨p, xs, rfl, .inr e, f, g, h⟩
theorem g_ninL {x : V} {p : Addr} {xs : List V} (e : SqL K H p xs) (f : flatV x = true) (g : xs.all flatV = true) (h : Q (.bl (!inV x xs)) H) : rIn K true x (.ref p) H Q := ⟨p, xs, rfl, .inl e, f, g, h⟩
theorem g_nil {R : List V → Hp → Prop} (h : R [] H) : tNil σ H R := h
theorem g_cons {tr : TA} {R : List V → Hp → Prop} (h : te σ H fun x H1 => tr σ H1 fun xs H2 => R (x :: xs) H2) : tCons te tr σ H R := h
theorem g_CB {r : List V → Hp → VK → Prop} {ta : TA} (h : ta σ H fun vs H1 => r vs H1 Q) : tCB r ta σ H Q := h
theorem g_int1 {i : Int} (h : Q (.int i) H) : rInt1 [.int i] H Q := h
theorem g_int1b {k : Bool} (h : Q (.int (if k then 1 else 0)) H) : rInt1 [.bl k] H Q := h
theorem g_min2 {i j : Int} (h : Q (.int (min i j)) H) : rMin2 [.int i, .int j] H Q := h
theorem g_max2 {i j : Int} (h : Q (.int (max i j)) H) : rMax2 [.int i, .int j] H Q := h
theorem g_abs {i : Int} (h : Q (.int (i.natAbs : Int)) H) : rAbs [.int i] H Q := h
theorem g_new {n : Nat} {o : HO} {R : Addr → Hp → Prop} (e : n ≤ sizeLine) (h : NewO H o R) : n ≤ sizeLine ∧ NewO H o R := ⟨e, h⟩
theorem g_newO {o : HO} {R : Addr → Hp → Prop} (h : ∀ p H', H p = none → Ext [] H H' → H' p = some o → R p H') : NewO H o R := h
theorem g_tup {t : TA} (h : t σ H fun xs H1 => xs.length ≤ sizeLine ∧ NewO H1 (.tup xs) fun p H' => Q (.ref p) H') : tTupX t σ H Q := h
theorem g_lst {t : TA} (h : t σ H fun xs H1 => xs.length ≤ sizeLine ∧ NewO H1 (.lst xs) fun p H' => Q (.ref p) H') : tLstX t σ H Q := h
theorem g_ixL {p : Addr} {xs : List V} {i : Int} (e : SqL K H p xs) (a : atI xs i = some v) (h : Q v H) : rIx K (.ref p) (.int i) H Q := .inl ⟨p, xs, i, v, rfl, rfl, e, a, h⟩
theorem g_ixT {p : Addr} {xs : List V} {i : Int} (e : SqT K H p xs) (a : atI xs i = some v) (h : Q v H) : rIx K (.ref p) (.int i) H Q := .inr (.inl ⟨p, xs, i, v, rfl, rfl, e, a, h⟩)
theorem g_sub {to ti : TE} {s : TSet} {R : St → Hp → Prop} (h : to σ H fun o H1 => ti σ H1 fun i H2 => s o i v H2 fun H3 => R σ H3) : gSub to ti s v σ H R := h
theorem g_setL {p : Addr} {xs ys : List V} {k : Int} {j : Nat} {R : Hp → Prop} (e : H p = some (.lst xs)) (a : ixN xs.length k = some j) (l : xs.set j v = ys) (h : ∀ H', Ext [p] H H' → H' p = some (.lst ys) → R H') : rSetL (.ref p) (.int k) v H R :=
  ⟨p, xs, k, j, rfl, rfl, e, a, by rw [l]; exact h _ (Ext.wr e rfl) upd_same⟩
theorem g_ite {c : Bool} {A B : Prop} (h1 : c = true → A) (h2 : c = false → B) : if c = true then A else B := by
  cases c with
  | true => exact h1 rfl
  | false => exact h2 rfl
theorem g_iteDT {c : Bool} {A B : Prop} (e : c = true) (h : A) : if c = true then A else B := by rw [e]; exact h
theorem g_iteDF {c : Bool} {A B : Prop} (e : c = false) (h : B) : if c = true then A else B := by rw [e]; exact h
theorem g_iteIN {i : Int} {A B : Prop} (h : B) : if decide (V.int i = V.non) = true then A else B := by rw [decide_eq_false (by intro z; cases z)]; exact h
theorem g_iteRN {a : Addr} {A B : Prop} (h : B) : if decide (V.ref a = V.non) = true then A else B := by rw [decide_eq_false (by intro z; cases z)]; exact h
theorem g_iteSN {a : Str} {A B : Prop} (h : B) : if decide (V.str a = V.non) = true then A else B := by rw [decide_eq_false (by intro z; cases z)]; exact h
theorem g_iteNIN {i : Int} {A B : Prop} (h : A) : if (!decide (V.int i = V.non)) = true then A else B := by rw [decide_eq_false (by intro z; cases z)]; exact h
theorem g_iteNRN {i : Addr} {A B : Prop} (h : A) : if (!decide (V.ref i = V.non)) = true then A else B := by rw [decide_eq_false (by intro z; cases z)]; exact h
theorem g_iteT {A B : Prop} (h : A) : if true = true then A else B := h
theorem g_iteF {A B : Prop} (h : B) : if false = true then A else B := h
theorem g_fld {f : Str} (h : ta σ H fun x H1 => ∃ a C dx fs v, x = .ref a ∧ H1 a = some (.ins C dx fs) ∧ Cls K C ∧ NoAttr K C f ∧ fs.lookup f = some v ∧ Q v H1) : tFld K ta f σ H Q := h
theorem g_fld' {f : Str} {a C dx : Addr} {fs : List (Str × V)} (e : H a = some (.ins C dx fs)) (c : Cls K C) (n : NoAttr K C f) (l : fs.lookup f = some v) (h : Q v H) :
    ∃ a' C dx fs v, V.ref a = .ref a' ∧ H a' = some (.ins C dx fs) ∧ Cls K C ∧ NoAttr K C f ∧ fs.lookup f = some v ∧ Q v H := ⟨a, C, dx, fs, v, rfl, e, c, n, l, h⟩
theorem g_sfld {tv : TE} {f : Str} (h : tv σ H fun y H1 => ta σ H1 fun x H2 => ∃ a C dx fs, x = .ref a ∧ H2 a = some (.ins C dx fs) ∧ Cls K C ∧ NoAttr K C f ∧ fs.length < 1000 ∧ D.nx σ (upd H2 a (.ins C dx (putF f y fs)))) : sFld K ta tv f D σ H := h
theorem g_sfld' {f : Str} {a C dx : Addr} {fs fs' : List (Str × V)} {R : Hp → Prop} (e : H a = some (.ins C dx fs)) (c : Cls K C) (n : NoAttr K C f) (l : fs.length < 1000) (p : putF f v fs = fs') (h : ∀ H', Ext [a] H H' → H' a = some (.ins C dx fs') → R H') :
    ∃ a' C dx fs, V.ref a = .ref a' ∧ H a' = some (.ins C dx fs) ∧ Cls K C ∧ NoAttr K C f ∧ fs.length < 1000 ∧ R (upd H a' (.ins C dx (putF f v fs))) :=
  ⟨a, C, dx, fs, rfl, e, c, n, l, by rw [p]; exact h _ (Ext.wr e rfl) upd_same⟩
theorem g_sfa {tv : TE} {f : Str} {rd : V → V → Hp → VK → Prop} (h : ta σ H fun x H1 => ∃ a C dx fs v, x = .ref a ∧ H1 a = some (.ins C dx fs) ∧ Cls K C ∧ NoAttr K C f ∧ fs.lookup f = some v ∧
  tv σ H1 fun y H2 => rd v y H2 fun z H3 => ∃ dx' fs', H3 a = some (.ins C dx' fs') ∧ fs'.length < 1000 ∧ D.nx σ (upd H3 a (.ins C dx' (putF f z fs')))) : sFldAug K ta tv rd f D σ H := h
theorem g_sfa' {f : Str} {a C dx : Addr} {fs : List (Str × V)} {R : V → Addr → Addr → Hp → Prop} (e : H a = some (.ins C dx fs)) (c : Cls K C) (n : NoAttr K C f) (l : fs.lookup f = some v) (h : R v a C H) :
    ∃ a' C dx fs v, V.ref a = .ref a' ∧ H a' = some (.ins C dx fs) ∧ Cls K C ∧ NoAttr K C f ∧ fs.lookup f = some v ∧ R v a' C H := ⟨a, C, dx, fs, v, rfl, e, c, n, l, h⟩
theorem g_sfa'' {f : Str} {a C dx : Addr} {fs fs' : List (Str × V)} {R : Hp → Prop} (e : H a = some (.ins C dx fs)) (l : fs.length < 1000) (p : putF f v fs = fs') (h : ∀ H', Ext [a] H H' → H' a = some (.ins C dx fs') → R H') :
    ∃ dx' fs', H a = some (.ins C dx' fs') ∧ fs'.length < 1000 ∧ R (upd H a (.ins C dx' (putF f v fs'))) :=
  ⟨dx, fs, e, l, by rw [p]; exact h _ (Ext.wr e rfl) upd_same⟩
theorem g_call {sp : Sp} {dvs : List V} {E : XK} {t : TA} (h : t σ H fun vs H1 => sp (vs ++ dvs) H1 Q E) : tCall sp dvs E t σ H Q := h
theorem g_meth {C : Addr} {m : Str} {sp : Sp} {dvs : List V} {E : XK} {t : TA} (h : ta σ H fun x H1 => ∃ a dx fs, x = .ref a ∧ H1 a = some (.ins C dx fs) ∧ fs.lookup m = none ∧ t σ H1 fun vs H2 => sp (x :: (vs ++ dvs)) H2 Q E) : tMeth C m sp dvs E ta t σ H Q := h
theorem g_meth' {C a dx : Addr} {m : Str} {fs : List (Str × V)} {R : Hp → Prop} (e : H a = some (.ins C dx fs)) (l : fs.lookup m = none) (h : R H) : ∃ a' dx fs, V.ref a = .ref a' ∧ H a' = some (.ins C dx fs) ∧ fs.lookup m = none ∧ R H := ⟨a, dx, fs, rfl, e, l, h⟩
theorem g_make {C : Addr} {sp : Sp} {dvs : List V} {E : XK} {t : TA} (h : t σ H fun vs H1 => ∀ x dx H', H1 x = none → Ext [] H1 H' → H' x = some (.ins C dx []) → sp (.ref x :: (vs ++ dvs)) H' (fun v H2 => v = .non ∧ Q (.ref x) H2) E) : tMakeX C sp dvs E t σ H Q := h
theorem g_appd {te : TE} {t : TA} {r : V → List V → Hp → VK → Prop} {T : String} (h : te σ H fun x H1 => tyV K T x H1 ∧ t σ H1 fun xs H2 => r x xs H2 Q) : tBM K T r te t σ H Q := h
theorem g_bm0 {te : TE} {r : V → List V → Hp → VK → Prop} {T : String} (h : te σ H fun x H1 => tyV K T x H1 ∧ r x [] H1 Q) : tBM0 K T r te σ H Q := h
theorem g_tyL {a : Addr} {xs : List V} {R : Prop} (e : SqL K H a xs) (h : R) : tyV K "list" (.ref a) H ∧ R := ⟨.inl ⟨rfl, xs, e⟩, h⟩
theorem g_append {l : Addr} {xs : List V} {y : V} (e : H l = some (.lst xs)) (z : xs.length < sizeLine) (h : ∀ H', Ext [l] H H' → H' l = some (.lst (xs ++ [y])) → Q .non H') : rAppend (.ref l) [y] H Q :=
  ⟨l, xs, y, rfl, rfl, e, z, h _ (Ext.wr e rfl) upd_same⟩
theorem g_par {i j : Nat} {ta : TA} (h : ta σ H fun vs H1 => ∃ v w, vs = [v, w] ∧ D.nx ((σ.set i (some v)).set j (some w)) H1) : tPar i j ta D σ H := h
theorem g_par' {x y : V} {R : V → V → Prop} (h : R x y) : ∃ v w, [x, y] = [v, w] ∧ R v w := ⟨x, y, rfl, h⟩
theorem g_gtup {n : Nat} {tg : TGs} {a : Addr} {xs : List V} {R : St → Hp → Prop} (e : SqT K H a xs) (l : xs.length = n) (h : tg xs σ H R) : gTup K n tg (.ref a) σ H R := ⟨a, xs, rfl, e, l, h⟩
theorem g_gcons {t1 : TG} {tr : TGs} {x : V} {xs : List V} {R : St → Hp → Prop} (h : t1 x σ H fun σ' H' => tr xs σ' H' R) : gCons t1 tr (x :: xs) σ H R := ⟨x, xs, rfl, h⟩
theorem g_gnil {R : St → Hp → Prop} (h : R σ H) : gNil [] σ H R := ⟨rfl, h⟩
theorem g_aug {i : Nat} {ti : TIp} (e : σ[i]? = some (some v)) (h : te σ H fun y H1 => ti v y H1 fun z H2 => D.nx (σ.set i (some z)) H2) : tAug i te ti D σ H := ⟨v, e, h⟩
theorem g_listL {a : Addr} {xs : List V} (e : SqL K H a xs) (h : NewO H (.lst xs) fun p H' => Q (.ref p) H') : rListX K [.ref a] H Q := ⟨xs, .inl e, h⟩
theorem g_listT {a : Addr} {xs : List V} (e : SqT K H a xs) (h : NewO H (.lst xs) fun p H' => Q (.ref p) H') : rListX K [.ref a] H Q := ⟨xs, .inr e, h⟩
theorem g_tupL {a : Addr} {xs : List V} (e : SqL K H a xs) (h : NewO H (.tup xs) fun p H' => Q (.ref p) H') : rTupX K [.ref a] H Q := .inl ⟨xs, e, h⟩
theorem g_tupT {a : Addr} {xs : List V} (e : SqT K H a xs) (h : Q (.ref a) H) : rTupX K [.ref a] H Q := .inr ⟨xs, e, h⟩
theorem g_lenL {a : Addr} {xs : List V} (e : SqL K H a xs) (h : Q (.int xs.length) H) : rLenX K [.ref a] H Q := .inl ⟨xs, .inl e, h⟩
theorem g_lenT {a : Addr} {xs : List V} (e : SqT K H a xs) (h : Q (.int xs.length) H) : rLenX K [.ref a] H Q := .inl ⟨xs, .inr e, h⟩
theorem g_lenD {a : Addr} {kvs : List (Key × V)} (e : H a = some (.dK kvs)) (h : Q (.int kvs.length) H) : rLenX K [.ref a] H Q := .inr ⟨kvs, e, h⟩
theorem g_lenS {z : Str} (e : z.length ≤ sizeLine) (h : Q (.int z.length) H) : rLenX K [.str z] H Q := ⟨e, h⟩
theorem g_truL {a : Addr} {xs : List V} {R : Bool → Prop} (e : SqL K H a xs) (h : R (!xs.isEmpty)) : ∃ k, TruV K (.ref a) H k ∧ R k := ⟨_, .inl ⟨xs, e, rfl⟩, h⟩
theorem g_truT {a : Addr} {xs : List V} {R : Bool → Prop} (e : SqT K H a xs) (h : R (!xs.isEmpty)) : ∃ k, TruV K (.ref a) H k ∧ R k := ⟨_, .inr (.inl ⟨xs, e, rfl⟩), h⟩
theorem g_truD {a : Addr} {kvs : List (Key × V)} {R : Bool → Prop} (e : H a = some (.dK kvs)) (h : R (!kvs.isEmpty)) : ∃ k, TruV K (.ref a) H k ∧ R k := ⟨_, .inr (.inr ⟨kvs, e, rfl⟩), h⟩
theorem g_truBl {b : Bool} {R : Bool → Prop} (h : R b) : ∃ k, TruV K (.bl b) H k ∧ R k := ⟨b, rfl, h⟩
theorem g_truI {i : Int} {R : Bool → Prop} (h : R (i != 0)) : ∃ k, TruV K (.int i) H k ∧ R k := ⟨_, rfl, h⟩
theorem g_truN {R : Bool → Prop} (h : R false) : ∃ k, TruV K .non H k ∧ R k := ⟨_, rfl, h⟩
theorem g_for {wi : TI} {tb : TS} (h : wi σ H fun J H1 => ForGoal J g tb D σ H1) : tFor wi g tb D σ H := h
theorem g_lc {wi : TI} {tt : TT} {vs : List Nat} (h : wi σ H fun J H1 => LcGoal J g tt te vs σ H1 Q) : tLc wi g tt te vs σ H Q := h
theorem g_stE (h : te σ H Q) : stE te σ H Q := ⟨Q, h, fun _ _ z => z⟩
theorem g_stG {R : L2.St → Hp → Prop} (h : g v σ H R) : stG g v σ H R := ⟨R, h, fun _ _ z => z⟩
theorem g_stT {tt : TT} {R : Bool → Hp → Prop} (h : tt σ H R) : stT tt σ H R := ⟨R, h, fun _ _ z => z⟩
theorem g_yes {R : Bool → Hp → Prop} (h : R true H) : tYes σ H R := h
theorem g_iList {tl : TE} {R : It → Hp → Prop} (h : tl σ H fun x H1 => ∃ a, x = .ref a ∧ (∃ xs, SqL K H1 a xs) ∧ R (Itl K a) H1) : iList K tl σ H R := h
theorem g_iTup {tl : TE} {R : It → Hp → Prop} (h : tl σ H fun x H1 => ∃ a, x = .ref a ∧ (∃ xs, SqT K H1 a xs) ∧ R (Itt K a) H1) : iTup K tl σ H R := h
theorem g_iR1 {t : TA} {R : It → Hp → Prop} (h : t σ H fun vs H1 => ∃ j : Int, vs = [.int j] ∧ -(2 ^ 62) ≤ j ∧ j < 2 ^ 62 ∧ R (Itr 0 j.toNat) H1) : iRng1 t σ H R := h
theorem g_iR2 {t : TA} {R : It → Hp → Prop} (h : t σ H fun vs H1 => ∃ i j : Int, vs = [.int i, .int j] ∧ (-(2 ^ 62) ≤ i ∧ i < 2 ^ 62 ∧ -(2 ^ 62) ≤ j ∧ j < 2 ^ 62) ∧ R (Itr i (j - i).toNat) H1) : iRng2 t σ H R := h
theorem g_iR3 {t : TA} {R : It → Hp → Prop} (h : t σ H fun vs H1 => ∃ (i j c : Int) (n : Nat), vs = [.int i, .int j, .int c] ∧ RgC i j c n ∧ R (Itc i c n) H1) : iRng3 t σ H R := h
theorem g_itLf {tb : TS} {a : Addr} {xs : List V} (e : SqL K H a xs) (h : ForGoal (Itl K a) g tb D σ H) : ∃ a', V.ref a = .ref a' ∧ (∃ xs, SqL K H a' xs) ∧ ForGoal (Itl K a') g tb D σ H := ⟨a, rfl, ⟨xs, e⟩, h⟩
theorem g_itTf {tb : TS} {a : Addr} {xs : List V} (e : SqT K H a xs) (h : ForGoal (Itt K a) g tb D σ H) : ∃ a', V.ref a = .ref a' ∧ (∃ xs, SqT K H a' xs) ∧ ForGoal (Itt K a') g tb D σ H := ⟨a, rfl, ⟨xs, e⟩, h⟩
theorem g_itLl {tt : TT} {vs : List Nat} {a : Addr} {xs : List V} (e : SqL K H a xs) (h : LcGoal (Itl K a) g tt te vs σ H Q) : ∃ a', V.ref a = .ref a' ∧ (∃ xs, SqL K H a' xs) ∧ LcGoal (Itl K a') g tt te vs σ H Q := ⟨a, rfl, ⟨xs, e⟩, h⟩
theorem g_itTl {tt : TT} {vs : List Nat} {a : Addr} {xs : List V} (e : SqT K H a xs) (h : LcGoal (Itt K a) g tt te vs σ H Q) : ∃ a', V.ref a = .ref a' ∧ (∃ xs, SqT K H a' xs) ∧ LcGoal (Itt K a') g tt te vs σ H Q := ⟨a, rfl, ⟨xs, e⟩, h⟩
theorem g_itR1f {tb : TS} {j : Int} (h1 : -(2 ^ 62) ≤ j) (h2 : j < 2 ^ 62) (h : ForGoal (Itr 0 j.toNat) g tb D σ H) : ∃ j' : Int, [V.int j] = [.int j'] ∧ -(2 ^ 62) ≤ j' ∧ j' < 2 ^ 62 ∧ ForGoal (Itr 0 j'.toNat) g tb D σ H := ⟨j, rfl, h1, h2, h⟩
theorem g_itR1l {tt : TT} {vs : List Nat} {j : Int} (h1 : -(2 ^ 62) ≤ j) (h2 : j < 2 ^ 62) (h : LcGoal (Itr 0 j.toNat) g tt te vs σ H Q) : ∃ j' : Int, [V.int j] = [.int j'] ∧ -(2 ^ 62) ≤ j' ∧ j' < 2 ^ 62 ∧ LcGoal (Itr 0 j'.toNat) g tt te vs σ H Q := ⟨j, rfl, h1, h2, h⟩
theorem g_itR2f {tb : TS} {i j : Int} (h1 : -(2 ^ 62) ≤ i ∧ i < 2 ^ 62 ∧ -(2 ^ 62) ≤ j ∧ j < 2 ^ 62) (h : ForGoal (Itr i (j - i).toNat) g tb D σ H) : ∃ i' j' : Int, [V.int i, V.int j] = [.int i', .int j'] ∧ (-(2 ^ 62) ≤ i' ∧ i' < 2 ^ 62 ∧ -(2 ^ 62) ≤ j' ∧ j' < 2 ^ 62) ∧ ForGoal (Itr i' (j' - i').toNat) g tb D σ H := ⟨i, j, rfl, h1, h⟩
theorem g_itR2l {tt : TT} {vs : List Nat} {i j : Int} (h1 : -(2 ^ 62) ≤ i ∧ i < 2 ^ 62 ∧ -(2 ^ 62) ≤ j ∧ j < 2 ^ 62) (h : LcGoal (Itr i (j - i).toNat) g tt te vs σ H Q) : ∃ i' j' : Int, [V.int i, V.int j] = [.int i', .int j'] ∧ (-(2 ^ 62) ≤ i' ∧ i' < 2 ^ 62 ∧ -(2 ^ 62) ≤ j' ∧ j' < 2 ^ 62) ∧ LcGoal (Itr i' (j' - i').toNat) g tt te vs σ H Q := ⟨i, j, rfl, h1, h⟩
theorem g_itR3f {tb : TS} {i j c : Int} {n : Nat} (r : RgC i j c n) (h : ForGoal (Itc i c n) g tb D σ H) : ∃ (i' j' c' : Int) (n' : Nat), [V.int i, V.int j, V.int c] = [.int i', .int j', .int c'] ∧ RgC i' j' c' n' ∧ ForGoal (Itc i' c' n') g tb D σ H := ⟨i, j, c, n, rfl, r, h⟩
theorem g_itR3l {tt : TT} {vs : List Nat} {i j c : Int} {n : Nat} (r : RgC i j c n) (h : LcGoal (Itc i c n) g tt te vs σ H Q) : ∃ (i' j' c' : Int) (n' : Nat), [V.int i, V.int j, V.int c] = [.int i', .int j', .int c'] ∧ RgC i' j' c' n' ∧ LcGoal (Itc i' c' n') g tt te vs σ H Q := ⟨i, j, c, n, rfl, r, h⟩
theorem g_forL {tb : TS} {a : Addr} (xs : List V) (_ : SqL K H a xs) (Pv : Nat → L2.St → Hp → Prop) (h0 : Pv 0 σ H) (hl : ∀ i σ H, i ≤ xs.length → Pv i σ H → SqL K H a xs)
    (hs : ∀ i x σ H, xs[i]? = some x → Pv i σ H → g x σ H fun σ2 H2 => tb { D with nx := Pv (i + 1), ct := Pv (i + 1), bk := D.nx } σ2 H2) (hd : ∀ σ H, Pv xs.length σ H → D.nx σ H) : ForGoal (Itl K a) g tb D σ H := for_list Pv h0 hl hs hd
theorem g_forT {tb : TS} {a : Addr} (xs : List V) (Pv : Nat → L2.St → Hp → Prop) (h0 : Pv 0 σ H) (hl : ∀ i σ H, i ≤ xs.length → Pv i σ H → SqT K H a xs)
    (hs : ∀ i x σ H, xs[i]? = some x → Pv i σ H → g x σ H fun σ2 H2 => tb { D with nx := Pv (i + 1), ct := Pv (i + 1), bk := D.nx } σ2 H2) (hd : ∀ σ H, Pv xs.length σ H → D.nx σ H) : ForGoal (Itt K a) g tb D σ H := for_tup Pv h0 hl hs hd
theorem g_forR {tb : TS} {lo : Int} {n : Nat} (Pv : Nat → L2.St → Hp → Prop) (h0 : Pv 0 σ H)
    (hs : ∀ i σ H, i < n → Pv i σ H → g (.int (lo + i)) σ H fun σ2 H2 => tb { D with nx := Pv (i + 1), ct := Pv (i + 1), bk := D.nx } σ2 H2) (hd : ∀ σ H, Pv n σ H → D.nx σ H) : ForGoal (Itr lo n) g tb D σ H := for_range Pv h0 hs hd
end
theorem lk_hd {f : Str} {v : V} {r : List (Str × V)} : List.lookup f ((f, v) :: r) = some v := by simp [List.lookup]
theorem lk_tl {f g : Str} {v : V} {r : List (Str × V)} {o : Option V} (n : (f == g) = false) (h : List.lookup f r = o) : List.lookup f ((g, v) :: r) = o := by simp only [List.lookup, n]; exact h
theorem lk_nil {f : Str} : List.lookup f ([] : List (Str × V)) = none := rfl
theorem pf_nil {f : Str} {v : V} : putF f v [] = [(f, v)] := rfl
theorem pf_hd {f : Str} {v x : V} {r : List (Str × V)} : putF f v ((f, x) :: r) = (f, v) :: r := by simp [putF]
theorem pf_tl {f g : Str} {v x : V} {r r' : List (Str × V)} (n : (f == g) = false) (h : putF f v r = r') : putF f v ((g, x) :: r) = (g, x) :: r' := by
  have e : ¬ g = f := fun q => by rw [q, beq_self_eq_true] at n; cases n
  simp only [putF, if_neg e, h]
theorem ix_at {α : Type} {xs : List α} {i : Int} {v : α} (h : 0 ≤ i) (e : xs[i.toNat]? = some v) : atI xs i = some v := by
  have z : ((i.toNat : Nat) : Int) = i := Int.toNat_of_nonneg h
  rw [← z]; exact atI_nat e
theorem lt1000 {n : Nat} (h : Nat.blt n 1000 = true := by rfl) : n < 1000 := by
  have := Nat.le_of_ble_eq_true h
  omega
theorem leLine {n : Nat} (h : Nat.ble n 1000 = true := by rfl) : n ≤ sizeLine := Nat.le_trans (Nat.le_of_ble_eq_true h) (by decide)
/-! ### the stepping tactics, under names of our own -/
local macro_rules | `(tactic| walk_at "eo mem") => `(tactic| first | with_reducible exact List.mem_cons_self | ((with_reducible apply List.mem_cons_of_mem); walk_at "eo mem"))
local macro_rules | `(tactic| walk_at "eo lk") => `(tactic| first | with_reducible exact lk_hd | with_reducible exact lk_nil | ((with_reducible apply lk_tl); (decide +kernel); (walk_at "eo lk")))
local macro_rules | `(tactic| walk_at "eo pf") => `(tactic| first | with_reducible exact pf_hd | with_reducible exact pf_nil | ((with_reducible apply pf_tl); (decide +kernel); (walk_at "eo pf")))
local macro_rules | `(tactic| walk_at "eo fact") => `(tactic| first | with_reducible assumption | ((with_reducible apply Ext.keep); (with_reducible assumption); (walk_at "eo fact"); (walk_at "eo nin")))
local macro_rules | `(tactic| walk_at "eo nin") => `(tactic| first | with_reducible exact nin0 | ((with_reducible apply nin1); walk_at "eo ne") | ((with_reducible apply ninC); (walk_at "eo ne"); (walk_at "eo nin")) | with_reducible assumption)
local macro_rules | `(tactic| walk_at "eo ne") => `(tactic| first
  | with_reducible assumption
  | ((with_reducible apply Ne.symm); with_reducible assumption)
  | walk_at "eo ne2")
local macro_rules | `(tactic| walk_at "eo ne2") => `(tactic| first
  | ((with_reducible apply ne_of_none); rotate_left 1; (with_reducible assumption); (walk_at "eo fact"))
  | ((with_reducible apply Ne.symm); (with_reducible apply ne_of_none); rotate_left 1; (with_reducible assumption); (walk_at "eo fact"))
  | ((with_reducible apply ne_of); (with_reducible assumption); (walk_at "eo fact"); ((intro z; cases z)))
  | ((with_reducible apply Ne.symm); (with_reducible apply ne_of); (with_reducible assumption); (walk_at "eo fact"); ((intro z; cases z))))
local macro_rules | `(tactic| walk_at "eo sqT") => `(tactic| first | with_reducible assumption | ((with_reducible apply SqT.of); with_reducible assumption) | ((with_reducible apply sqT_ext); (with_reducible assumption); (walk_at "eo sqT")))
local macro_rules | `(tactic| walk_at "eo sqL") => `(tactic| first | with_reducible assumption | ((with_reducible apply SqL.of); with_reducible assumption) | ((with_reducible apply sqL_ext); (with_reducible assumption); (walk_at "eo sqL"); (intro _ _; walk_at "eo nin")))
local macro_rules | `(tactic| walk_at "eo at") => `(tactic| first | rfl | assumption | (apply ix_at; (first | omega | assumption); (first | assumption | rfl)))
local macro_rules | `(tactic| walk_at "eo set") => `(tactic| first | ((try simp only [List.set_cons_succ, List.set_cons_zero, Int.reduceToNat, List.length_cons, List.length_nil]); first | done | rfl) | rfl)
local macro_rules | `(tactic| walk_at "eo ext") => `(tactic| first | with_reducible assumption | with_reducible exact Ext.refl _ | ((with_reducible apply Ext.snoc); (with_reducible assumption); (walk_at "eo ext"); (walk_at "eo sub")))
local macro_rules | `(tactic| walk_at "eo sub") => `(tactic| first | with_reducible exact sub0 | ((with_reducible apply sub1); (walk_at "eo mem")) | ((with_reducible apply sub1f); (walk_at "eo free")) | ((with_reducible apply subC); (walk_at "eo mem"); (walk_at "eo sub")) | ((with_reducible apply subCf); (walk_at "eo free"); (walk_at "eo sub")))
local macro_rules | `(tactic| walk_at "eo free") => `(tactic| first | with_reducible assumption | ((with_reducible apply Ext.free); (with_reducible assumption); (walk_at "eo free"); (walk_at "eo nin")))
local macro_rules | `(tactic| walk_at "eo cut") => `(tactic| first | ((apply Eq.trans); (first | exact cut_midL | exact cut_toL | exact cut_fromL | exact cut_negToL (by decide) | exact cut_negFromL (by decide)); ((try simp only [List.take_succ_cons, List.take_zero, List.drop_succ_cons, List.drop_zero, List.length_cons, List.length_nil, Nat.reduceAdd, Nat.reduceSub]); first | done | rfl)) | rfl)
local macro_rules | `(tactic| walk_at "eo len") => `(tactic| first | exact leLine | (rw [sizeLine_eq]; simp only [List.length_append, List.length_cons, List.length_nil, List.length_map, List.length_take]; omega))
local macro_rules | `(tactic| walk_at "eo arith") => `(tactic| first | decide | omega)
local macro_rules | `(tactic| walk_at "eo mul") => `(tactic| first | (refine CMul.left ?_; first | decide | (constructor <;> omega)) | (refine CMul.right ?_; first | decide | (constructor <;> omega)))
local macro_rules | `(tactic| walk_at "eo step") => `(tactic| first
  | ((with_reducible apply g_var); (with_unfolding_all rfl))
  | with_reducible refine g_C ?_
  | with_reducible refine g_cons ?_
  | with_reducible refine g_nil ?_
  | with_reducible refine g_op ?_
  | with_reducible refine g_asg ?_
  | with_reducible refine g_name ?_
  | with_reducible refine g_seq ?_
  | with_reducible refine g_CB ?_
  | with_reducible refine g_bl ?_
  | with_reducible refine g_test ?_
  | with_reducible refine g_rI0 ?_
  | with_reducible refine g_addI ?_
  | ((with_reducible apply g_ixT); (walk_at "eo sqT"); (walk_at "eo at"))
  | ((with_reducible apply g_ixL); (walk_at "eo sqL"); (walk_at "eo at"))
  | ((with_reducible apply g_fld'); (walk_at "eo fact"); (with_reducible assumption); ((with_reducible apply na_of); (with_reducible assumption); (walk_at "eo mem")); (walk_at "eo lk"))
  | with_reducible refine g_fld ?_
  | with_reducible refine g_ret ?_
  | with_reducible refine g_ifS ?_
  | with_reducible refine g_iteIN ?_
  | ((with_reducible apply g_iteDT); (first | with_reducible assumption | decide))
  | ((with_reducible apply g_iteDF); (first | with_reducible assumption | decide))
  | with_reducible refine g_iteT ?_
  | with_reducible refine g_iteF ?_
  | with_reducible refine g_tup ?_
  | ((with_reducible apply g_new); (exact leLine))
  | ((with_reducible refine g_newO ?_); intro _ _ _ _ _)
  | with_reducible refine g_call ?_
  | ((with_reducible apply g_eq); (rfl))
  | with_reducible refine g_and ?_
  | with_reducible refine g_or ?_
  | ((with_reducible apply g_ne); (rfl))
  | ((with_reducible apply g_mulI); (walk_at "eo mul"))
  | ((with_reducible apply g_mod); (walk_at "eo arith"))
  | ((with_reducible apply g_divW); (walk_at "eo arith"); (walk_at "eo arith"))
  | with_reducible refine g_int1 ?_
  | with_reducible refine g_next ?_
  | with_reducible refine g_retN ?_
  | with_reducible refine g_drop ?_
  | with_reducible refine g_if ?_
  | with_reducible refine g_un ?_
  | with_reducible refine g_not ?_
  | with_reducible refine g_chain ?_
  | with_reducible refine g_andV ?_
  | with_reducible refine g_orV ?_
  | with_reducible refine g_notV ?_
  | ((with_reducible apply g_inT); (walk_at "eo sqT"); rfl; rfl)
  | ((with_reducible apply g_inL); (walk_at "eo sqL"); rfl; rfl)
  | ((with_reducible apply g_ninT); (walk_at "eo sqT"); rfl; rfl)
  | ((with_reducible apply g_ninL); (walk_at "eo sqL"); rfl; rfl)
  | with_reducible refine g_lst ?_
  | with_reducible refine g_iaddI ?_
  | ((with_reducible apply g_addT); (walk_at "eo sqT"); (walk_at "eo sqT"); (walk_at "eo len"); intro _ _ _ _)
  | ((with_reducible apply g_addL); (walk_at "eo fact"); (walk_at "eo fact"); (walk_at "eo len"))
  | with_reducible refine g_sl ?_
  | with_reducible refine g_noPart ?_
  | with_reducible refine g_part ?_
  | with_reducible refine g_part' ?_
  | ((with_reducible apply g_slT); (walk_at "eo sqT"); (walk_at "eo cut"); intro _ _ _ _)
  | ((with_reducible apply g_slL); (walk_at "eo sqL"); (walk_at "eo cut"))
  | with_reducible refine g_int1b ?_
  | with_reducible refine g_min2 ?_
  | with_reducible refine g_max2 ?_
  | with_reducible refine g_abs ?_
  | with_reducible refine g_isN' ?_
  | with_reducible refine g_neg ?_
  | with_reducible refine g_sub ?_
  | ((with_reducible apply g_setL); (walk_at "eo fact"); (walk_at "eo at"); (walk_at "eo set"); intro _ _ _)
  | with_reducible refine g_sfld ?_
  | ((with_reducible apply g_sfld'); (walk_at "eo fact"); (with_reducible assumption); ((with_reducible apply na_of); (with_reducible assumption); (walk_at "eo mem")); (exact lt1000); (walk_at "eo pf"); intro _ _ _)
  | with_reducible refine g_sfa ?_
  | ((with_reducible apply g_sfa'); (walk_at "eo fact"); (with_reducible assumption); ((with_reducible apply na_of); (with_reducible assumption); (walk_at "eo mem")); (walk_at "eo lk"))
  | ((with_reducible apply g_sfa''); (walk_at "eo fact"); (exact lt1000); (walk_at "eo pf"); intro _ _ _)
  | with_reducible refine g_meth ?_
  | ((with_reducible apply g_meth'); (walk_at "eo fact"); (walk_at "eo lk"))
  | with_reducible refine g_make ?_
  | ((with_reducible apply g_listL); (walk_at "eo sqL"))
  | ((with_reducible apply g_listT); (walk_at "eo sqT"))
  | ((with_reducible apply g_tupL); (walk_at "eo sqL"))
  | ((with_reducible apply g_tupT); (walk_at "eo sqT"))
  | ((with_reducible apply g_lenL); (walk_at "eo sqL"))
  | ((with_reducible apply g_lenT); (walk_at "eo sqT"))
  | ((with_reducible apply g_lenD); (walk_at "eo fact"))
  | ((with_reducible apply g_truL); (walk_at "eo sqL"))
  | ((with_reducible apply g_truT); (walk_at "eo sqT"))
  | ((with_reducible apply g_truD); (walk_at "eo fact"))
  | with_reducible refine g_truBl ?_
  | with_reducible refine g_truI ?_
  | with_reducible refine g_truN ?_
  | with_reducible refine g_appd ?_
  | with_reducible refine g_bm0 ?_
  | ((with_reducible apply g_tyL); (walk_at "eo sqL"))
  | ((with_reducible apply g_append); (walk_at "eo fact"); (walk_at "eo arith"); intro _ _ _)
  | with_reducible refine g_par ?_
  | with_reducible refine g_par' ?_
  | with_reducible refine g_gcons ?_
  | with_reducible refine g_gnil ?_
  | ((with_reducible apply g_gtup); (walk_at "eo sqT"); (with_unfolding_all rfl))
  | ((with_reducible apply g_aug); (with_unfolding_all rfl))
  | with_reducible refine g_for ?_
  | with_reducible refine g_iList ?_
  | with_reducible refine g_iTup ?_
  | with_reducible refine g_iR1 ?_
  | with_reducible refine g_iR2 ?_
  | with_reducible refine g_iR3 ?_
  | with_reducible refine g_lc ?_
  | with_reducible refine g_stE ?_
  | with_reducible refine g_stG ?_
  | with_reducible refine g_stT ?_
  | with_reducible refine g_yes ?_
  | ((with_reducible apply g_itLf); (walk_at "eo sqL"))
  | ((with_reducible apply g_itTf); (walk_at "eo sqT"))
  | ((with_reducible apply g_itLl); (walk_at "eo sqL"))
  | ((with_reducible apply g_itTl); (walk_at "eo sqT"))
  | ((with_reducible apply g_itR1f); (walk_at "eo arith"); (walk_at "eo arith"))
  | ((with_reducible apply g_itR1l); (walk_at "eo arith"); (walk_at "eo arith"))
  | ((with_reducible apply g_itR2f); (walk_at "eo arith"))
  | ((with_reducible apply g_itR2l); (walk_at "eo arith"))
  | with_reducible refine g_iteRN ?_
  | with_reducible refine g_iteSN ?_
  | with_reducible refine g_iteNIN ?_
  | with_reducible refine g_iteNRN ?_
  | with_reducible refine g_cnt ?_
  | with_reducible refine g_brk ?_)
local macro_rules | `(tactic| walk_at "eo go") => `(tactic| repeat (walk_at "eo step"))
local macro_rules | `(tactic| walk_at "eo init") => `(tactic| (dsimp only [cxOf, Cx.nox, Cx.wish, L2.start, List.map, List.length, List.replicate, List.cons_append, List.nil_append, Nat.reduceAdd, Nat.reduceSub]))
theorem dec_t {p : Prop} [Decidable p] (h : decide p = true) : p := of_decide_eq_true h
theorem dec_f {p : Prop} [Decidable p] (h : decide p = false) : ¬ p := of_decide_eq_false h
theorem vint {i j : Int} (h : V.int i = V.int j) : i = j := V.int.inj h
theorem mem_map_int {xs : List Int} {i : Nat} {x : V} (h : (xs.map V.int)[i]? = some x) : ∃ n, xs[i]? = some n ∧ x = .int n := by
  rw [List.getElem?_map] at h
  cases e : xs[i]? with
  | none => rw [e] at h; cases h
  | some n => rw [e] at h; exact ⟨n, rfl, (Option.some.inj h).symm⟩
def top (i : Nat) : Stmt := PySem.Challenge.pw_everyoctetonce_k14_plans.main.body.getD i (.Pass ⟨0, 0, 0, 0⟩)
abbrev s_PlanError_init : Stmt := inClass (top 2) 0
abbrev s_is_number : Stmt := top 4
theorem sc_is_number : FnScope ["value", "least", "most"] ["value", "least", "most"] (defScope s_is_number) := ⟨rfl, rfl, rfl, by decide +kernel, rfl, by decide +kernel, by decide +kernel⟩
abbrev s_need : Stmt := top 11
theorem sc_need : FnScope ["is_right", "code"] ["is_right", "code"] (defScope s_need) := ⟨rfl, rfl, rfl, by decide +kernel, rfl, by decide +kernel, by decide +kernel⟩
abbrev s_copy_right : Stmt := top 12
theorem sc_copy_right : FnScope ["copy", "delay", "flips", "own"] ["copy"] (defScope s_copy_right) := ⟨rfl, rfl, rfl, by decide +kernel, rfl, by decide +kernel, by decide +kernel⟩
abbrev s_check_plan : Stmt := top 13
theorem sc_check_plan : FnScope ["topology", "plan", "fates", "edges", "crashes", "fate", "pairs", "times", "most", "a", "b", "_", "time", "is_up", "own", "node"] ["topology", "plan"] (defScope s_check_plan) := ⟨rfl, rfl, rfl, by decide +kernel, rfl, by decide +kernel, by decide +kernel⟩
abbrev s_law_begin : Stmt := top 15
theorem sc_law_begin : FnScope ["script", "seed", "cell"] ["script"] (defScope s_law_begin) := ⟨rfl, rfl, rfl, by decide +kernel, rfl, by decide +kernel, by decide +kernel⟩
abbrev s_law_take : Stmt := top 16
theorem sc_law_take : FnScope ["d", "many", "small", "digit"] ["d", "many"] (defScope s_law_take) := ⟨rfl, rfl, rfl, by decide +kernel, rfl, by decide +kernel, by decide +kernel⟩
abbrev s_law_pick : Stmt := top 17
theorem sc_law_pick : FnScope ["d", "menu"] ["d", "menu"] (defScope s_law_pick) := ⟨rfl, rfl, rfl, by decide +kernel, rfl, by decide +kernel, by decide +kernel⟩
abbrev s_law_code : Stmt := top 18
theorem sc_law_code : FnScope ["topology", "plan", "fault"] ["topology", "plan"] (defScope s_law_code) := ⟨rfl, rfl, rfl, by decide +kernel, rfl, by decide +kernel, by decide +kernel⟩
abbrev s_law : Stmt := top 19
theorem sc_law : FnScope ["script", "d", "n", "edges", "topology", "fates", "k", "times", "row", "time", "edge", "crashes", "bad_fate", "bad_edge", "bad_crash", "at", "worse", "b", "j", "one"] ["script"] (defScope s_law) := ⟨rfl, rfl, rfl, by decide +kernel, rfl, by decide +kernel, by decide +kernel⟩
structure Adr where
  f_PlanError_init : Addr
  d_PlanError_init : FuncData
  f_is_number : Addr
  d_is_number : FuncData
  f_need : Addr
  d_need : FuncData
  f_copy_right : Addr
  d_copy_right : FuncData
  f_check_plan : Addr
  d_check_plan : FuncData
  f_law_begin : Addr
  d_law_begin : FuncData
  f_law_take : Addr
  d_law_take : FuncData
  f_law_pick : Addr
  d_law_pick : FuncData
  f_law_code : Addr
  d_law_code : FuncData
  f_law : Addr
  d_law : FuncData
  c_PlanError : Addr
  cc_PlanError : Addr
  cd_PlanError : Addr
structure Txt (P : Program) (K : PySem.W.Frag) (mg : Str → Option Value) (A : Adr) : Prop where
  x_PlanError : ExcT P K mg ⟨"__init__", "PlanError.__init__", defArgs s_PlanError_init, defBody s_PlanError_init, defScope s_PlanError_init, [("__class__", A.cc_PlanError)], A.cd_PlanError⟩ A.f_PlanError_init A.cc_PlanError A.c_PlanError A.d_PlanError_init "PlanError" ["self", "code"]
  is_number : GF K mg "is_number" s_is_number ["value", "least", "most"] A.f_is_number A.d_is_number
  need : GF K mg "need" s_need ["is_right", "code"] A.f_need A.d_need
  copy_right : GF K mg "copy_right" s_copy_right ["copy"] A.f_copy_right A.d_copy_right
  check_plan : GF K mg "check_plan" s_check_plan ["topology", "plan"] A.f_check_plan A.d_check_plan
  law_begin : GF K mg "_law_begin" s_law_begin ["script"] A.f_law_begin A.d_law_begin
  law_take : GF K mg "_law_take" s_law_take ["d", "many"] A.f_law_take A.d_law_take
  law_pick : GF K mg "_law_pick" s_law_pick ["d", "menu"] A.f_law_pick A.d_law_pick
  law_code : GF K mg "_law_code" s_law_code ["topology", "plan"] A.f_law_code A.d_law_code
  law : GF K mg "law" s_law ["script"] A.f_law A.d_law
  b_super : mg "super" = none
  b_isinstance : mg "isinstance" = none
  b_int : mg "int" = none
  b_bool : mg "bool" = none
  b_len : mg "len" = none
  b_all : mg "all" = none
  b_sorted : mg "sorted" = none
  b_list : mg "list" = none
  b_abs : mg "abs" = none
  b_tuple : mg "tuple" = none
  b_range : mg "range" = none
  b_set : mg "set" = none
  g_MOST_DELAY : GV K mg "MOST_DELAY" (.int 6)
  g_MOST_FLIPS : GV K mg "MOST_FLIPS" (.int 3)
  g_PLACES : GV K mg "PLACES" (.int 4000)
  g_MOST_COPIES : GV K mg "MOST_COPIES" (.int 3)
  g_MOST_TIME : GV K mg "MOST_TIME" (.int 20000)
/-! ### the law's own draws -/
/-- d holds the script's ints (a list at s), a place, what is left of a number, a seed -/
def DSt (H : Hp) (d s : Addr) : Prop := d ≠ s ∧ ∃ (ns : List Int) (pos cur seed : Int), H d = some (.lst [.ref s, .int pos, .int cur, .int seed]) ∧ H s = some (.lst (ns.map V.int)) ∧ ns.length ≤ 63 ∧ 0 ≤ pos ∧ 0 ≤ cur
theorem DSt.ext {A : List Addr} {H H' : Hp} {d s : Addr} (e : Ext A H H') (h : DSt H d s) (n1 : d ∉ A) (n2 : s ∉ A) : DSt H' d s := by
  obtain ⟨ne, ns, pos, cur, seed, h1, h2, h3⟩ := h
  exact ⟨ne, ns, pos, cur, seed, e.keep _ _ h1 n1, e.keep _ _ h2 n2, h3⟩
def spBegin (K : PySem.W.Frag) : Sp := fun vs H Q _ => ∃ (a : Addr) (ns : List Int), vs = [.ref a] ∧ SqL K H a (ns.map V.int) ∧ ns.length ≤ 63 ∧ ∀ d s H', H d = none → H s = none → Ext [] H H' → DSt H' d s → Q (.ref d) H'
def spTake : Sp := fun vs H Q _ => ∃ (d s : Addr) (many : Int), vs = [.ref d, .int many] ∧ DSt H d s ∧ 0 < many ∧ many < 2 ^ 64 ∧ ∀ k H', 0 ≤ k → k < many → Ext [d] H H' → DSt H' d s → Q (.int k) H'
def spPick (K : PySem.W.Frag) : Sp := fun vs H Q _ => ∃ (d s m : Addr) (xs : List V), vs = [.ref d, .ref m] ∧ DSt H d s ∧ SqL K H m xs ∧ m ≠ d ∧ 0 < xs.length ∧ xs.length < 1000 ∧ ∀ v H', v ∈ xs → Ext [d] H H' → DSt H' d s → Q v H'
def spLaw (K : PySem.W.Frag) : Sp := fun vs H Q _ => ∃ (a : Addr) (ns : List Int), vs = [.ref a] ∧ SqL K H a (ns.map V.int) ∧ ns.length ≤ 63 ∧ ∀ H', Q (.bl true) H'
theorem ne_dst1 {H : Hp} {d s x : Addr} (n : H x = none) (h : DSt H d s) : d ≠ x := by
  obtain ⟨_, _, _, _, _, h1, _⟩ := h
  exact ne_of_none h1 n
theorem ne_dst2 {H : Hp} {d s x : Addr} (n : H x = none) (h : DSt H d s) : s ≠ x := by
  obtain ⟨_, _, _, _, _, _, h1, _⟩ := h
  exact ne_of_none h1 n
local macro_rules | `(tactic| walk_at "eo dst") => `(tactic| first | with_reducible assumption | ((with_reducible apply DSt.ext); (with_reducible assumption); (walk_at "eo dst"); (walk_at "eo nin"); (walk_at "eo nin")))
local macro_rules | `(tactic| walk_at "eo ne2") => `(tactic| first
  | ((with_reducible apply ne_dst1); (with_reducible assumption); (walk_at "eo dst"))
  | ((with_reducible apply ne_dst2); (with_reducible assumption); (walk_at "eo dst"))
  | ((with_reducible apply Ne.symm); (with_reducible apply ne_dst1); (with_reducible assumption); (walk_at "eo dst"))
  | ((with_reducible apply Ne.symm); (with_reducible apply ne_dst2); (with_reducible assumption); (walk_at "eo dst")))
/-! ### nested data, by what they are -/
def Shp (d : PyData) (k : Nat) : Prop := d.canLay0 = true ∧ d.depth ≤ k
def ShpAll (ds : List PyData) (k : Nat) : Prop := PyData.canLayAll0 ds = true ∧ PyData.depthAll ds ≤ k
theorem shp_int {i : Int} {k : Nat} : Shp (.int i) k := ⟨rfl, Nat.zero_le _⟩
theorem shp_non {k : Nat} : Shp .none k := ⟨rfl, Nat.zero_le _⟩
theorem shp_bl {b : Bool} {k : Nat} : Shp (.bool b) k := ⟨rfl, Nat.zero_le _⟩
theorem shp_nil {k : Nat} : ShpAll [] k := ⟨rfl, Nat.zero_le _⟩
theorem shp_cons {d : PyData} {ds : List PyData} {k : Nat} (h : Shp d k) (t : ShpAll ds k) : ShpAll (d :: ds) k := by
  refine ⟨?_, ?_⟩
  · rw [PyData.canLayAll0, h.1, t.1]; rfl
  · rw [PyData.depthAll]; exact Nat.max_le.mpr ⟨h.2, t.2⟩
theorem shp_tup {ds : List PyData} {k : Nat} (h : ShpAll ds k) : Shp (.tuple ds) (k + 1) := by
  refine ⟨?_, ?_⟩
  · rw [PyData.canLay0]; exact h.1
  · rw [PyData.depth]
    have := h.2
    omega
theorem shp_ints {k : Nat} : ∀ ns : List Int, ShpAll (ns.map PyData.int) k
  | [] => shp_nil
  | _ :: r => shp_cons shp_int (shp_ints r)
theorem shp_app {k : Nat} : ∀ {ds es : List PyData}, ShpAll ds k → ShpAll es k → ShpAll (ds ++ es) k
  | [], _, _, h => h
  | d :: ds, es, h, g => by
    have h1 := h.1
    have h2 := h.2
    rw [PyData.canLayAll0, Bool.and_eq_true] at h1
    rw [PyData.depthAll] at h2
    have h3 := Nat.max_le.mp h2
    exact shp_cons ⟨h1.1, h3.1⟩ (shp_app ⟨h1.2, h3.2⟩ g)
theorem Shp.shaped {d : PyData} {k : Nat} (h : Shp d k) (l : k ≤ 64) : SeqAt.shaped d = true := by
  unfold SeqAt.shaped
  rw [h.1, decide_eq_true (Nat.le_trans h.2 l)]
  rfl
theorem dp_ints {K : PySem.W.Frag} {H : Hp} : ∀ ns : List Int, DpAll K H (ns.map V.int) (ns.map PyData.int)
  | [] => .nil
  | n :: r => .cons (.int n) (dp_ints r)
theorem dp_app {K : PySem.W.Frag} {H : Hp} : ∀ {xs ys : List V} {ds es : List PyData}, DpAll K H xs ds → DpAll K H ys es → DpAll K H (xs ++ ys) (ds ++ es)
  | _, _, _, _, .nil, h => h
  | _, _, _, _, .cons a t, h => .cons a (dp_app t h)
section
variable {K : PySem.W.Frag} {H : Hp} {Q : VK} {x y : V} {d e : PyData} {k : Nat}
theorem g_eqD (hx : Dp K H x d) (hy : Dp K H y e) (hs : Shp d 8) (he : d = e) (h : Q (.bl true) H) : rEqX K x y H Q := by
  subst he
  refine .inr ⟨d, d, hx, hy, hs.shaped (by decide), hs.shaped (by decide), ?_⟩
  rw [SeqAt.eqv_refl d hs.1]
  exact h
theorem g_neD (hx : Dp K H x d) (hy : Dp K H y e) (hs : Shp d 8) (he : d = e) (h : Q (.bl false) H) : rNeX K x y H Q := by
  subst he
  refine .inr ⟨d, d, hx, hy, hs.shaped (by decide), hs.shaped (by decide), ?_⟩
  rw [SeqAt.eqv_refl d hs.1]
  exact h
end
local macro_rules | `(tactic| walk_at "eo dp") => `(tactic| first | with_reducible exact Dp.int _ | with_reducible exact Dp.non | with_reducible exact Dp.bl _ | with_reducible exact Dp.str _ | with_reducible assumption | ((with_reducible apply Dp.tup); (walk_at "eo sqT"); (walk_at "eo dps")))
local macro_rules | `(tactic| walk_at "eo dps") => `(tactic| first | with_reducible exact DpAll.nil | with_reducible exact dp_ints _ | ((with_reducible apply dp_app); (walk_at "eo dps"); (walk_at "eo dps")) | ((with_reducible apply DpAll.cons); (walk_at "eo dp"); (walk_at "eo dps")))
local macro_rules | `(tactic| walk_at "eo shp") => `(tactic| first | with_reducible exact shp_int | with_reducible exact shp_non | with_reducible exact shp_bl | (apply shp_tup; (walk_at "eo shps")))
local macro_rules | `(tactic| walk_at "eo shps") => `(tactic| first | with_reducible exact shp_nil | with_reducible exact shp_ints _ | ((with_reducible apply shp_app); (walk_at "eo shps"); (walk_at "eo shps")) | ((with_reducible apply shp_cons); (walk_at "eo shp"); (walk_at "eo shps")))
local macro_rules | `(tactic| walk_at "eo step") => `(tactic| first
  | ((with_reducible apply g_neD); (walk_at "eo dp"); (walk_at "eo dp"); (walk_at "eo shp"); rfl)
  | ((with_reducible apply g_eqD); (walk_at "eo dp"); (walk_at "eo dp"); (walk_at "eo shp"); rfl))
/-! ### dicts with int or text keys -/
theorem u1 {n : Nat} (h : n + 64 < cLine) : n + 1 < cLine := by omega
theorem u0 {n : Nat} (h : n + 64 < cLine) : n < cLine := by omega
section
variable {K : PySem.W.Frag} {σ : St} {H : Hp} {Q : VK} {D : Ends} {td ty tv : TE} {a : Addr} {kvs : List (Key × V)} {v : V}
theorem g_dget (h : td σ H fun x H1 => ty σ H1 fun y H2 => ∃ a v, x = .ref a ∧ DGet H2 a y (some v) ∧ Q v H2) : tDGet td ty σ H Q := h
theorem g_dgetI {i : Int} (e : H a = some (.dK kvs)) (l : valV kvs (.inl i) = some v) (h : Q v H) : ∃ a' v, V.ref a = .ref a' ∧ DGet H a' (.int i) (some v) ∧ Q v H := ⟨a, v, rfl, l ▸ DGet.k (k := .inl i) e, h⟩
theorem g_dgetS {i : Str} (e : H a = some (.dK kvs)) (l : valV kvs (.inr i) = some v) (h : Q v H) : ∃ a' v, V.ref a = .ref a' ∧ DGet H a' (.str i) (some v) ∧ Q v H := ⟨a, v, rfl, l ▸ DGet.k (k := .inr i) e, h⟩
theorem g_din (h : ty σ H fun y H1 => td σ H1 fun x H2 => ∃ a o, x = .ref a ∧ DGet H2 a y o ∧ Q (.bl o.isSome) H2) : tDIn ty td σ H Q := h
theorem g_dnin (h : ty σ H fun y H1 => td σ H1 fun x H2 => ∃ a o, x = .ref a ∧ DGet H2 a y o ∧ Q (.bl (!o.isSome)) H2) : tDNotIn ty td σ H Q := h
theorem g_dinI {i : Int} {R : Option V → Prop} (e : H a = some (.dK kvs)) (h : R (valV kvs (.inl i))) : ∃ a' o, V.ref a = .ref a' ∧ DGet H a' (.int i) o ∧ R o := ⟨a, _, rfl, DGet.k (k := .inl i) e, h⟩
theorem g_dinS {i : Str} {R : Option V → Prop} (e : H a = some (.dK kvs)) (h : R (valV kvs (.inr i))) : ∃ a' o, V.ref a = .ref a' ∧ DGet H a' (.str i) o ∧ R o := ⟨a, _, rfl, DGet.k (k := .inr i) e, h⟩
theorem g_dput (h : tv σ H fun v H1 => td σ H1 fun x H2 => ty σ H2 fun y H3 => ∃ a H4, x = .ref a ∧ DPut H3 a y v H4 ∧ D.nx σ H4) : sDPut td ty tv D σ H := h
theorem g_dputI {i : Int} {R : Hp → Prop} (e : H a = some (.dK kvs)) (l : kvs.length < 1000) (h : ∀ H', Ext [a] H H' → H' a = some (.dK (putK kvs (.inl i) v)) → R H') : ∃ a' H4, V.ref a = .ref a' ∧ DPut H a' (.int i) v H4 ∧ R H4 :=
  ⟨a, _, rfl, DPut.k (k := .inl i) e (by rw [sizeLine_eq]; omega), h _ (Ext.wr e rfl) upd_same⟩
theorem g_daug {rd : V → V → Hp → VK → Prop} (h : td σ H fun x H1 => ty σ H1 fun y H2 => ∃ a v, x = .ref a ∧ DGet H2 a y (some v) ∧ tv σ H2 fun y2 H3 => rd v y2 H3 fun z H4 => ∃ H5, DPut H4 a y z H5 ∧ D.nx σ H5) : sDAug td ty tv rd D σ H := h
theorem g_daugI {i : Int} {R : Addr → V → Prop} (e : H a = some (.dK kvs)) (l : valV kvs (.inl i) = some v) (h : R a v) : ∃ a' v, V.ref a = .ref a' ∧ DGet H a' (.int i) (some v) ∧ R a' v := ⟨a, v, rfl, l ▸ DGet.k (k := .inl i) e, h⟩
theorem g_daugI' {i : Int} {R : Hp → Prop} (e : H a = some (.dK kvs)) (l : kvs.length < 1000) (h : ∀ H', Ext [a] H H' → H' a = some (.dK (putK kvs (.inl i) v)) → R H') : ∃ H5, DPut H a (.int i) v H5 ∧ R H5 :=
  ⟨_, DPut.k (k := .inl i) e (by rw [sizeLine_eq]; omega), h _ (Ext.wr e rfl) upd_same⟩
theorem g_dnew {R : V → Hp → Prop} (h : NewO H (.dK []) fun p H' => R (.ref p) H') : tDNewK σ H R := fun p hp => h p _ hp (Ext.new hp) upd_same
end
section
variable {K : PySem.W.Frag} {σ : St} {H : Hp} {te : TE} {D : Ends}
theorem g_tB {R : Bool → Hp → Prop} (h : te σ H fun x H1 => ∃ c, x = .bl c ∧ R c H1) : tB te σ H R := h
end
local macro_rules | `(tactic| walk_at "eo kl") => `(tactic| first | with_reducible assumption | omega | exact lt1000)
local macro_rules | `(tactic| walk_at "eo step") => `(tactic| first
  | with_reducible refine g_dget ?_
  | ((with_reducible apply g_dgetI); (walk_at "eo fact"); (with_reducible assumption))
  | ((with_reducible apply g_dgetS); (walk_at "eo fact"); (with_reducible assumption))
  | with_reducible refine g_din ?_
  | with_reducible refine g_dnin ?_
  | ((with_reducible apply g_dinI); (walk_at "eo fact"))
  | ((with_reducible apply g_dinS); (walk_at "eo fact"))
  | with_reducible refine g_dput ?_
  | ((with_reducible apply g_dputI); (walk_at "eo fact"); (walk_at "eo kl"); intro _ _ _)
  | with_reducible refine g_daug ?_
  | ((with_reducible apply g_daugI); (walk_at "eo fact"); (with_reducible assumption))
  | ((with_reducible apply g_daugI'); (walk_at "eo fact"); (walk_at "eo kl"); intro _ _ _)
  | with_reducible refine g_dnew ?_
  | with_reducible refine g_tB ?_)
/-! ### loops, joins, rows of numbers -/
def asgScope (s : Stmt) : Scope := match s with
  | .Assign _ (.ListComp _ _ sc _) _ => sc
  | _ => { kind := .function, names := [], isGenerator := false, isCoroutine := false }
/-- a comprehension's scope within a def whose scope is o -/
def relS (s o : Scope) : Scope := { s with names := s.names.map fun (n, k) => if (k == .free && o.kind == .function && o.names.lookup n == some .cell) then (n, .cell) else (n, k) }
def strB (b : Bool) : Str := if b then "True" else "False"
def rReprB : List V → Hp → VK → Prop := fun xs H Q => ∃ b, xs = [.bl b] ∧ Q (.str (strB b)) H
theorem o_repr {X : Cx} : CallR X (.builtin "repr") rReprB := by
  intro pins s σ H xs us Q I r h
  obtain ⟨b, rfl, q⟩ := h
  obtain ⟨u, rfl, rb⟩ := vals1 r
  cases (show u = Value.bool b from rb)
  exact PySem.P.repr_of_bool ⟨.str (strB b), H, I.tok _, ⟨s.toks, rfl⟩, q⟩
theorem g_repr {b : Bool} {H : Hp} {Q : VK} (h : Q (.str (strB b)) H) : rReprB [.bl b] H Q := ⟨b, rfl, h⟩
section
variable {K : PySem.W.Frag} {σ : St} {H : Hp} {Q : VK} {D : Ends} {t u : TS}
theorem g_join (J : L2.St → Hp → Prop) (h : t { D with nx := J } σ H) (h2 : ∀ σ' H', J σ' H' → u D σ' H') : tJoin t u D σ H := ⟨J, h, h2⟩
theorem g_while {c : TT} (W : Nat → L2.St → Hp → Prop) (m : Nat) (h0 : W m σ H)
    (h : ∀ m σ H, W m σ H → c σ H fun b H1 => if b = true then ∃ N : L2.St → Hp → Prop, (∀ σ' H', N σ' H' → ∃ m', m' < m ∧ W m' σ' H') ∧ t { D with nx := N, ct := N, bk := D.nx } σ H1 else D.nx σ H1) : tWhile c t D σ H := ⟨W, ⟨m, h0⟩, h⟩
theorem g_loop {W : Nat → L2.St → Hp → Prop} {m : Nat} (h : t { D with nx := fun σ' H' => ∃ m', m' < m ∧ W m' σ' H', ct := fun σ' H' => ∃ m', m' < m ∧ W m' σ' H', bk := D.nx } σ H) :
    ∃ N : L2.St → Hp → Prop, (∀ σ' H', N σ' H' → ∃ m', m' < m ∧ W m' σ' H') ∧ t { D with nx := N, ct := N, bk := D.nx } σ H := ⟨_, fun _ _ z => z, h⟩
theorem g_rSub {i j : Int} (h : Q (.int (i - j)) H) : rSub (.int i) (.int j) H Q := ⟨i, j, rfl, rfl, h⟩
theorem cutI {xs : List Int} {y r : Int} (h : 0 ≤ r) : cutV (xs.map V.int ++ [.int y]) none (some r) = ((xs ++ [y]).take r.toNat).map V.int := by
  have e : r = ((r.toNat : Nat) : Int) := (Int.toNat_of_nonneg h).symm
  rw [e, cut_to, List.map_take, List.map_append]
  rfl
theorem inV_int (n : Int) : ∀ ns : List Int, inV (.int n) (ns.map V.int) = decide (n ∈ ns)
  | [] => rfl
  | a :: r => by
    show (eqV (.int a) (.int n) || inV (.int n) (r.map V.int)) = _
    rw [inV_int n r]
    show (decide (a = n) || decide (n ∈ r)) = decide (n ∈ a :: r)
    by_cases c : a = n
    · subst c; simp
    · have c' : ¬ n = a := fun e => c e.symm
      simp [c, c']
theorem flat_ints : ∀ ns : List Int, (ns.map V.int).all flatV = true
  | [] => rfl
  | _ :: r => by simp only [List.map_cons, List.all_cons, flat_ints r, flatV, Bool.and_self]
theorem g_inLI {n : Int} {p : Addr} {ns : List Int} (e : SqL K H p (ns.map V.int)) (h : Q (.bl (decide (n ∈ ns))) H) : rIn K false (.int n) (.ref p) H Q := g_inL e rfl (flat_ints ns) (by rw [inV_int]; exact h)
theorem g_ninLI {n : Int} {p : Addr} {ns : List Int} (e : SqL K H p (ns.map V.int)) (h : Q (.bl (!decide (n ∈ ns))) H) : rIn K true (.int n) (.ref p) H Q := g_ninL e rfl (flat_ints ns) (by rw [inV_int]; exact h)
theorem g_pop0 {l : Addr} {x : V} {xs : List V} (e : H l = some (.lst (x :: xs))) (h : ∀ H', Ext [l] H H' → H' l = some (.lst xs) → Q x H') : rPopAt (.ref l) [.int 0] H Q :=
  ⟨l, x :: xs, 0, 0, x, rfl, rfl, e, by decide, by decide, by simp [seqIndex?], rfl, h _ (Ext.wr e rfl) upd_same⟩
end
local macro_rules | `(tactic| walk_at "eo step") => `(tactic| first
  | ((with_reducible apply g_pop0); (walk_at "eo fact"); (intro _ _ _))
  | ((with_reducible apply g_inLI); (walk_at "eo sqL"))
  | ((with_reducible apply g_ninLI); (walk_at "eo sqL"))
  | with_reducible refine g_rSub ?_
  | with_reducible refine g_repr ?_
  | with_reducible refine g_loop ?_)
/-! ### x in a tuple of nested data -/
def rInDT (K : PySem.W.Frag) : R2 := fun x y H Q => ∃ d ds, Dp K H x d ∧ Dp K H y (.tuple ds) ∧ SeqAt.shaped d = true ∧ SeqAt.shaped (.tuple ds) = true ∧ Q (.bl (ds.any fun z => PyData.eqv z d)) H
def rNotInDT (K : PySem.W.Frag) : R2 := fun x y H Q => ∃ d ds, Dp K H x d ∧ Dp K H y (.tuple ds) ∧ SeqAt.shaped d = true ∧ SeqAt.shaped (.tuple ds) = true ∧ Q (.bl (!ds.any fun z => PyData.eqv z d)) H
theorem r65 {k : Nat} {A : Around} (r : Room k A) : A.units + 65 < cLine := by have := r.un; omega
theorem o_in_data {X : Cx} (hu : X.A.units + 65 < cLine) : OpR X (compareOp .In) (rInDT X.K) := by
  intro pins s σ H x y v u Q I rx ry h
  obtain ⟨d, ds, hd, he, sd, se, q⟩ := h
  obtain ⟨as, r1⟩ := Dp.reads I d x v hd rx
  obtain ⟨bs, r2⟩ := Dp.reads I (.tuple ds) y u he ry
  exact SeqAt.in_tuple_reads r2 r1 (SeqAt.canLay_of_shaped se) (SeqAt.canLay_of_shaped sd) (by have := SeqAt.depth_of_shaped sd; omega) ⟨.bl _, H, I, rfl, q⟩
theorem o_nin_data {X : Cx} (hu : X.A.units + 65 < cLine) : OpR X (compareOp .NotIn) (rNotInDT X.K) := by
  intro pins s σ H x y v u Q I rx ry h
  obtain ⟨d, ds, hd, he, sd, se, q⟩ := h
  obtain ⟨as, r1⟩ := Dp.reads I d x v hd rx
  obtain ⟨bs, r2⟩ := Dp.reads I (.tuple ds) y u he ry
  exact SeqAt.notIn_tuple_reads r2 r1 (SeqAt.canLay_of_shaped se) (SeqAt.canLay_of_shaped sd) (by have := SeqAt.depth_of_shaped sd; omega) ⟨.bl _, H, I, rfl, q⟩
def rInDL (K : PySem.W.Frag) : R2 := fun x y H Q => ∃ d ds, Dp K H x d ∧ Dp K H y (.list ds) ∧ SeqAt.shaped d = true ∧ SeqAt.shaped (.list ds) = true ∧ Q (.bl (ds.any fun z => PyData.eqv z d)) H
def rNotInDL (K : PySem.W.Frag) : R2 := fun x y H Q => ∃ d ds, Dp K H x d ∧ Dp K H y (.list ds) ∧ SeqAt.shaped d = true ∧ SeqAt.shaped (.list ds) = true ∧ Q (.bl (!ds.any fun z => PyData.eqv z d)) H
theorem o_in_ldata {X : Cx} (hu : X.A.units + 65 < cLine) : OpR X (compareOp .In) (rInDL X.K) := by
  intro pins s σ H x y v u Q I rx ry h
  obtain ⟨d, ds, hd, he, sd, se, q⟩ := h
  obtain ⟨as, r1⟩ := Dp.reads I d x v hd rx
  obtain ⟨bs, r2⟩ := Dp.reads I (.list ds) y u he ry
  exact SeqAt.in_list_reads r2 r1 (SeqAt.canLay_of_shaped se) (SeqAt.canLay_of_shaped sd) (by have := SeqAt.depth_of_shaped sd; omega) ⟨.bl _, H, I, rfl, q⟩
theorem o_nin_ldata {X : Cx} (hu : X.A.units + 65 < cLine) : OpR X (compareOp .NotIn) (rNotInDL X.K) := by
  intro pins s σ H x y v u Q I rx ry h
  obtain ⟨d, ds, hd, he, sd, se, q⟩ := h
  obtain ⟨as, r1⟩ := Dp.reads I d x v hd rx
  obtain ⟨bs, r2⟩ := Dp.reads I (.list ds) y u he ry
  exact SeqAt.notIn_list_reads r2 r1 (SeqAt.canLay_of_shaped se) (SeqAt.canLay_of_shaped sd) (by have := SeqAt.depth_of_shaped sd; omega) ⟨.bl _, H, I, rfl, q⟩
/-! ### an own exception with a code; numbers; dict comprehensions -/
def spXInit (C : Addr) : Sp := fun vs H Q _ => ∃ a z, vs = [.ref a, .str z] ∧ z.length ≤ 100 ∧ H a = some (exo a C none) ∧ ∀ dx, H dx = none → dx ≠ a → Q .non (upd (upd H dx (exd dx [("code", .str z)])) a (exo a C (some dx)))
def NB (v : V) : Prop := (∃ i, v = .int i) ∨ ∃ b, v = .bl b
def isnum (v : V) (lo hi : Int) : Bool := match v with
  | .int i => decide (lo ≤ i) && decide (i ≤ hi)
  | _ => false
def spNum : Sp := fun vs H Q _ => ∃ v lo hi, vs = [v, .int lo, .int hi] ∧ NB v ∧ Q (.bl (isnum v lo hi)) H
def ltV : V → V → Bool
  | .int i, .int j => decide (i < j)
  | _, _ => false
def vI : V → Int
  | .int i => i
  | _ => 0
section
variable {K : PySem.W.Frag} {H : Hp} {Q : VK}
theorem g_isiI {i : Int} {T : String} {b : Bool} (h : PySem.W.kitOne K (.type "int") (.type T) = some b) (q : Q (.bl b) H) : rIsi K [.int i, .ty T] H Q := ⟨_, _, _, _, b, rfl, .ty T, .base (.int i), h, q⟩
theorem g_isiB {i : Bool} {T : String} {b : Bool} (h : PySem.W.kitOne K (.type "bool") (.type T) = some b) (q : Q (.bl b) H) : rIsi K [.bl i, .ty T] H Q := ⟨_, _, _, _, b, rfl, .ty T, .base (.bl i), h, q⟩
end
theorem ext_mk {H : Hp} {a dx : Addr} {o1 o2 o3 o4 : HO} (ha : H a = none) (hd : H dx = none) : Ext [] H (upd (del (upd (upd (upd H a o1) dx o2) a o3) a) dx o4) := by
  have k : ∀ b o, H b = some o → upd (del (upd (upd (upd H a o1) dx o2) a o3) a) dx o4 b = some o := fun b o e => by
    have n1 := ne_of_none e ha
    have n2 := ne_of_none e hd
    rw [upd_ne n2, del_ne n1, upd_ne n1, upd_ne n2, upd_ne n1]
    exact e
  exact ⟨fun b o e _ => k b o e, fun b o e _ => k b o e⟩
theorem g_mkO {C : Addr} {z : Str} {σ : L2.St} {H : Hp} {QX : XK} (hz : z.length ≤ 100) (h : ∀ d H', Ext [] H H' → H' d = some (.xd [("code", .str z)]) → QX (.ref C) (some d) H') : tMkO C (spXInit C) [] (tCons (tC (.str z)) tNil) σ H QX := by
  refine ⟨(show 1 ≤ 1000 by decide), fun a ha => ⟨a, z, rfl, hz, upd_same, fun dx hdx ne => ⟨rfl, dx, [("code", .str z)], upd_same, by rw [upd_ne ne]; exact upd_same, ?_, ?_⟩⟩⟩
  · rw [upd_ne ne] at hdx
    exact hdx
  · rw [upd_ne ne] at hdx
    exact h dx _ (ext_mk ha hdx) upd_same
/-! ### dict comprehensions with tuple keys, by what is kept -/
def DcGoal (J : It) (g : TG) (tt : TT) (tk tv : TE) (vs : List Nat) (σ : L2.St) (H1 : Hp) (Q : VK) : Prop := ∀ D, H1 D = none → ∃ W : Nat → Nat → Hp → Prop, (∃ m, W 0 m (upd H1 D (.dT []))) ∧ ∀ i m H, W i m H →
  (J.stop i H ∧ Q (.ref D) H) ∨ (J.go i H ∧ ∃ Nx : Hp → Prop, (∀ H', Nx H' → ∃ m', m' < m ∧ W (i + 1) m' H') ∧ ∀ x H', J.yld i H x H' → g x (wipe σ vs) H' fun σ2 H2 => wipe σ2 vs = wipe σ vs ∧ tt σ2 H2 fun b H3 =>
    if b = true then tk σ2 H3 fun y H4 => tv σ2 H4 fun z H5 => ∃ kvs k b, y = .ref b ∧ H5 b = some (.tup (k.map kV)) ∧ H5 D = some (.dT kvs) ∧ kvs.length < sizeLine ∧ Nx (upd H5 D (.dT (putK kvs k z))) else Nx H3)
theorem g_dct {wi : TI} {g : TG} {tt : TT} {tk tv : TE} {vs : List Nat} {σ : L2.St} {H : Hp} {Q : VK} (h : wi σ H fun J H1 => DcGoal J g tt tk tv vs σ H1 Q) : DcT.tDcT wi g tt tk tv vs σ H Q := h
theorem g_dcW {J : It} {n : Nat} {G : Hp → Prop} {Y : Nat → Hp → V → Hp → Prop} (w : Walk J n G Y) {g : TG} {tt : TT} {tk tv : TE} {vs : List Nat} {σ : L2.St} {H1 : Hp} {Q : VK} (Pv : Addr → Nat → Hp → List (List Key × V) → Prop)
    (h0 : ∀ D H', H1 D = none → Ext [] H1 H' → H' D = some (.dT []) → Pv D 0 H' []) (hG : ∀ D i H kvs, i ≤ n → Pv D i H kvs → G H)
    (hs : ∀ D i x H H' kvs, i < n → Pv D i H kvs → H D = some (.dT kvs) → Y i H x H' → stG g x (wipe σ vs) H' fun σ2 H2 => wipe σ2 vs = wipe σ vs ∧ stT tt σ2 H2 fun b H3 =>
      if b = true then stE tk σ2 H3 fun y H4 => stE tv σ2 H4 fun z H5 => ∃ k b, y = .ref b ∧ H5 b = some (.tup (k.map kV)) ∧ H5 D = some (.dT kvs) ∧ kvs.length < sizeLine ∧ ∀ H6, Ext [D] H5 H6 → H6 D = some (.dT (putK kvs k z)) → Pv D (i + 1) H6 (putK kvs k z)
      else Pv D (i + 1) H3 kvs ∧ H3 D = some (.dT kvs))
    (hd : ∀ D H kvs, Pv D n H kvs → H D = some (.dT kvs) → Q (.ref D) H) : DcGoal J (stG g) (stT tt) (stE tk) (stE tv) vs σ H1 Q := by
  intro D hD
  refine ⟨fun i m H => m = n - i ∧ i ≤ n ∧ ∃ kvs, Pv D i H kvs ∧ H D = some (.dT kvs), ⟨n, by simp, Nat.zero_le _, [], h0 D _ hD (Ext.new hD) upd_same, upd_same⟩, ?_⟩
  rintro i m H ⟨rfl, hi, kvs, p, e⟩
  have q := hG D i H kvs hi p
  by_cases hlt : i < n
  · refine .inr ⟨w.goes i H hlt q, fun H' => ∃ kvs, Pv D (i + 1) H' kvs ∧ H' D = some (.dT kvs), fun H' p' => ⟨n - (i + 1), by omega, rfl, hlt, p'⟩, fun x H' y => ?_⟩
    refine (hs D i x H H' kvs hlt p e (w.yields i H x H' hlt q y)).mono fun σ2 H2 ⟨q1, q2⟩ => ⟨q1, q2.mono fun b H3 q3 => ?_⟩
    cases b with
    | true => exact stE.mono q3 fun z H4 q4 => stE.mono q4 fun z2 H5 ⟨k, b, a1, a2, a3, a4, a5⟩ => ⟨kvs, k, b, a1, a2, a3, a4, putK kvs k z2, a5 _ (Ext.wr a3 rfl) upd_same, upd_same⟩
    | false => exact ⟨kvs, q3.1, q3.2⟩
  · have e2 : i = n := by omega
    subst e2
    exact .inl ⟨w.stops H q, hd D H kvs p e⟩
theorem g_itLd {K : PySem.W.Frag} {H : Hp} {a : Addr} {xs : List V} {R : Addr → Prop} (e : SqL K H a xs) (h : R a) : ∃ a', V.ref a = .ref a' ∧ (∃ xs, SqL K H a' xs) ∧ R a' := ⟨a, rfl, ⟨xs, e⟩, h⟩
theorem g_callS {sp : Sp} {E : L2.St → XK} {t : TA} {σ : L2.St} {H : Hp} {Q : VK} (h : t σ H fun vs H1 => sp vs H1 Q (E σ)) : tCallS sp E t σ H Q := h
theorem num_int {v : V} {lo hi : Int} (h : NB v) (q : isnum v lo hi = true) : v = .int (vI v) ∧ lo ≤ vI v ∧ vI v ≤ hi := by
  rcases h with ⟨i, rfl⟩ | ⟨b, rfl⟩
  · have q' : (decide (lo ≤ i) && decide (i ≤ hi)) = true := q
    rw [Bool.and_eq_true, decide_eq_true_eq, decide_eq_true_eq] at q'
    exact ⟨rfl, q'.1, q'.2⟩
  · exact nomatch q
/-! ### lists of values and what they hold -/
def LR {α : Type} (R : Hp → V → α → Prop) (H : Hp) : List V → List α → Prop
  | [], [] => True
  | x :: xs, a :: l => R H x a ∧ LR R H xs l
  | _, _ => False
section
variable {α : Type} {R : Hp → V → α → Prop} {H H' : Hp}
theorem LR.get : ∀ {xs : List V} {l : List α} {i : Nat} {x : V}, LR R H xs l → xs[i]? = some x → ∃ a, l[i]? = some a ∧ R H x a
  | _ :: _, a :: _, 0, _, ⟨h, _⟩, q => ⟨a, rfl, by cases q; exact h⟩
  | _ :: _, _ :: _, i + 1, _, ⟨_, h⟩, q => LR.get (i := i) h q
  | [], [], _, _, _, q => by simp at q
  | [], _ :: _, _, _, h, _ => h.elim
  | _ :: _, [], _, _, h, _ => h.elim
theorem LR.len : ∀ {xs : List V} {l : List α}, LR R H xs l → xs.length = l.length
  | [], [], _ => rfl
  | _ :: _, _ :: _, ⟨_, h⟩ => congrArg (· + 1) (LR.len h)
  | [], _ :: _, h => h.elim
  | _ :: _, [], h => h.elim
theorem LR.imp {R' : Hp → V → α → Prop} (f : ∀ x a, R H x a → R' H' x a) : ∀ {xs : List V} {l : List α}, LR R H xs l → LR R' H' xs l
  | [], [], _ => trivial
  | _ :: _, _ :: _, ⟨h1, h⟩ => ⟨f _ _ h1, LR.imp f h⟩
  | [], _ :: _, h => h.elim
  | _ :: _, [], h => h.elim
theorem LR.app : ∀ {xs ys : List V} {l m : List α}, LR R H xs l → LR R H ys m → LR R H (xs ++ ys) (l ++ m)
  | [], _, [], _, _, h => h
  | _ :: _, _, _ :: _, _, ⟨h1, h⟩, h2 => ⟨h1, LR.app h h2⟩
  | [], _, _ :: _, _, h, _ => h.elim
  | _ :: _, _, [], _, h, _ => h.elim
theorem LR.one {x : V} {a : α} (h : R H x a) : LR R H [x] [a] := ⟨h, trivial⟩
theorem LR.snoc {x : V} {a : α} {xs : List V} {l : List α} (h : LR R H xs l) (h1 : R H x a) : LR R H (xs ++ [x]) (l ++ [a]) := h.app (LR.one h1)
theorem LR.rev : ∀ {xs : List V} {l : List α}, LR R H xs l → LR R H xs.reverse l.reverse
  | [], [], _ => trivial
  | x :: xs, a :: l, ⟨h1, h⟩ => by rw [List.reverse_cons, List.reverse_cons]; exact LR.snoc (LR.rev h) h1
  | [], _ :: _, h => h.elim
  | _ :: _, [], h => h.elim
theorem LR.take : ∀ {xs : List V} {l : List α} (n : Nat), LR R H xs l → LR R H (xs.take n) (l.take n)
  | [], [], n, _ => by rw [List.take_nil, List.take_nil]; trivial
  | _ :: _, _ :: _, 0, _ => trivial
  | _ :: _, _ :: _, n + 1, ⟨h1, h⟩ => ⟨h1, LR.take n h⟩
  | [], _ :: _, _, h => h.elim
  | _ :: _, [], _, h => h.elim
theorem LR.drop : ∀ {xs : List V} {l : List α} (n : Nat), LR R H xs l → LR R H (xs.drop n) (l.drop n)
  | [], [], n, _ => by rw [List.drop_nil, List.drop_nil]; trivial
  | _ :: _, _ :: _, 0, h => h
  | _ :: _, _ :: _, n + 1, ⟨_, h⟩ => LR.drop n h
  | [], _ :: _, _, h => h.elim
  | _ :: _, [], _, h => h.elim
end
theorem lr_map {α β : Type} {R : Hp → V → α → Prop} {R' : Hp → V → β → Prop} {H H' : Hp} {f : α → β} : ∀ {xs : List V} {l : List α}, (∀ x a, a ∈ l → R H x a → R' H' x (f a)) → LR R H xs l → LR R' H' xs (l.map f)
  | [], [], _, _ => trivial
  | _ :: _, a :: l, h, ⟨h1, h2⟩ => ⟨h _ a List.mem_cons_self h1, lr_map (fun x b hb => h x b (List.mem_cons_of_mem _ hb)) h2⟩
  | [], _ :: _, _, h => h.elim
  | _ :: _, [], _, h => h.elim
/-! ### comprehensions, told by a list of what they hold -/
section
variable {α : Type} {J : It} {n : Nat} {G : Hp → Prop} {Y : Nat → Hp → V → Hp → Prop} {g : TG} {te tk tv : TE} {vs : List Nat} {σ : L2.St} {H1 : Hp} {Q : VK} {R : Hp → V → α → Prop}
theorem g_lcR (w : Walk J n G Y) (R : Hp → V → α → Prop) (hR : ∀ {H H' : Hp} {A : List Addr} {x : V} {a : α}, Ext A H H' → R H x a → R H' x a) (L : List α) (hL : n = L.length) (hn : n ≤ 1000) (hG : ∀ H, Ext [] H1 H → G H)
    (hs : ∀ i x H H' b, L[i]? = some b → Ext [] H1 H → Y i H x H' → stG g x (wipe σ vs) H' fun σ2 H2 => wipe σ2 vs = wipe σ vs ∧ stE te σ2 H2 fun y H3 => Ext [] H H3 ∧ R H3 y b)
    (hd : ∀ D H acc, Ext [] H1 H → H1 D = none → LR R H acc L → H D = some (.lst acc) → Q (.ref D) H) : LcGoal J (stG g) (stT tYes) (stE te) vs σ H1 Q := by
  refine g_lcW w (fun D i H acc => Ext [] H1 H ∧ H1 D = none ∧ LR R H acc (L.take i)) ?_ ?_ ?_ ?_
  · intro D H' n0 e _
    exact ⟨e, n0, trivial⟩
  · rintro D i H acc _ ⟨e, _⟩
    exact hG H e
  · rintro D i x H H' acc hi ⟨e, n0, hA⟩ hD hY
    have hi' : i < L.length := by omega
    have hb : L[i]? = some L[i] := List.getElem?_eq_getElem hi'
    refine (hs i x H H' _ hb e hY).mono fun σ2 H2 ⟨q1, q2⟩ => ⟨q1, g_stT (g_yes ?_)⟩
    rw [if_pos rfl]
    refine stE.mono q2 fun y H3 ⟨e3, r3⟩ => ⟨e3.keep _ _ hD nin0, ?_, fun H5 e5 h5 => ⟨?_, n0, ?_⟩⟩
    · rw [hA.len, List.length_take, sizeLine_eq]; omega
    · exact (e.trans e3 (fun _ z => z) (fun _ z => by cases z)).trans e5 (fun _ z => z) (fun x hx ⟨o, ho⟩ => by rw [List.mem_singleton.mp hx, n0] at ho; cases ho)
    · rw [List.take_succ, hb]
      exact LR.snoc ((hA.imp fun _ _ => hR e3).imp fun _ _ => hR e5) (hR e5 r3)
  · rintro D H acc ⟨e, n0, hA⟩ hD
    rw [hL, List.take_length] at hA
    exact hd D H acc e n0 hA hD
theorem g_lcD {d sc : Addr} (w : Walk J n G Y) (R : Hp → V → α → Prop) (Good : Nat → α → Prop) (hR : ∀ {H H' : Hp} {A : List Addr} {x : V} {a : α}, Ext A H H' → R H x a → R H' x a) (hn : n ≤ 1000) (h1 : DSt H1 d sc) (hG : ∀ H, Ext [d] H1 H → G H)
    (hs : ∀ i x H H', i < n → Ext [d] H1 H → DSt H d sc → Y i H x H' → stG g x (wipe σ vs) H' fun σ2 H2 => wipe σ2 vs = wipe σ vs ∧ stE te σ2 H2 fun y H3 => Ext [d] H H3 ∧ DSt H3 d sc ∧ ∃ b, Good i b ∧ R H3 y b)
    (hd : ∀ D H acc L, Ext [d] H1 H → DSt H d sc → H1 D = none → D ≠ d → D ≠ sc → L.length = n → (∀ i b, L[i]? = some b → Good i b) → LR R H acc L → H D = some (.lst acc) → Q (.ref D) H) : LcGoal J (stG g) (stT tYes) (stE te) vs σ H1 Q := by
  refine g_lcW w (fun D i H acc => Ext [d] H1 H ∧ DSt H d sc ∧ H1 D = none ∧ D ≠ d ∧ D ≠ sc ∧ ∃ L, L.length = i ∧ (∀ i b, L[i]? = some b → Good i b) ∧ LR R H acc L) ?_ ?_ ?_ ?_
  · intro D H' n0 e _
    exact ⟨e.mono (fun _ z => by cases z), h1.ext e nin0 nin0, n0, (ne_dst1 n0 h1).symm, (ne_dst2 n0 h1).symm, [], rfl, fun i b h => by simp at h, trivial⟩
  · rintro D i H acc _ ⟨e, _⟩
    exact hG H e
  · rintro D i x H H' acc hi ⟨e, hS, n0, nd, ns, L, hL, hg, hA⟩ hD hY
    refine (hs i x H H' hi e hS hY).mono fun σ2 H2 ⟨q1, q2⟩ => ⟨q1, g_stT (g_yes ?_)⟩
    rw [if_pos rfl]
    refine stE.mono q2 fun y H3 ⟨e3, hS3, b, gb, r3⟩ => ⟨e3.keep _ _ hD (nin1 nd), ?_, fun H5 e5 h5 => ⟨?_, hS3.ext e5 (nin1 nd.symm) (nin1 ns.symm), n0, nd, ns, L ++ [b], ?_, ?_, ?_⟩⟩
    · rw [hA.len, hL, sizeLine_eq]; omega
    · exact (e.trans e3 (fun _ z => z) (fun _ z _ => z)).trans e5 (fun _ z => z) (fun x hx ⟨o, ho⟩ => by rw [List.mem_singleton.mp hx, n0] at ho; cases ho)
    · rw [List.length_append, List.length_singleton, hL]
    · intro j c hj
      by_cases q : j < L.length
      · rw [List.getElem?_append_left q] at hj
        exact hg j c hj
      · rw [List.getElem?_append_right (by omega)] at hj
        have : j - L.length = 0 := by
          have := (List.getElem?_eq_some_iff.mp hj).1
          rw [List.length_singleton] at this
          omega
        rw [this] at hj
        cases hj
        rw [show j = i by omega]
        exact gb
    · exact LR.snoc ((hA.imp fun _ _ => hR e3).imp fun _ _ => hR e5) (hR e5 r3)
  · rintro D H acc ⟨e, hS, n0, nd, ns, L, hL, hg, hA⟩ hD
    exact hd D H acc L e hS n0 nd ns hL hg hA hD
end
def IsV (_ : Hp) (x : V) (v : V) : Prop := x = v
theorem lr_v {H : Hp} : ∀ {xs L : List V}, LR IsV H xs L → xs = L
  | [], [], _ => rfl
  | _ :: _, _ :: _, ⟨h1, h⟩ => by rw [show _ = _ from h1, lr_v h]
  | [], _ :: _, h => h.elim
  | _ :: _, [], h => h.elim
/-- each once -/
def dd {α : Type} [DecidableEq α] : List α → List α → List α
  | acc, [] => acc
  | acc, p :: r => dd (if p ∈ acc then acc else acc ++ [p]) r
section
variable {α : Type} [DecidableEq α]
theorem dd_snoc : ∀ (acc l : List α) (p : α), dd acc (l ++ [p]) = if p ∈ dd acc l then dd acc l else dd acc l ++ [p]
  | _, [], _ => rfl
  | acc, q :: r, p => dd_snoc _ r p
theorem dd_nodup : ∀ (l acc : List α), acc.Nodup → (dd acc l).Nodup
  | [], _, h => h
  | p :: r, acc, h => dd_nodup r _ (by
    split
    · exact h
    · rename_i c
      rw [List.nodup_append]
      exact ⟨h, by simp, fun x hx y hy e => by rw [List.mem_singleton.mp hy] at e; exact c (e ▸ hx)⟩)
theorem dd_len : ∀ (l acc : List α), (dd acc l).length ≤ acc.length + l.length
  | [], _ => Nat.le_refl _
  | p :: r, acc => by
    refine Nat.le_trans (dd_len r _) ?_
    split
    · rw [List.length_cons]; omega
    · simp only [List.length_append, List.length_cons, List.length_nil]; omega
theorem dd_lt : ∀ (l acc : List α), ¬ (acc ++ l).Nodup → acc.Nodup → (dd acc l).length < acc.length + l.length
  | [], acc, h, h2 => absurd (by rw [List.append_nil]; exact h2) h
  | p :: r, acc, h, h2 => by
    show (dd (if p ∈ acc then acc else acc ++ [p]) r).length < _
    by_cases c : p ∈ acc
    · rw [if_pos c]
      have := dd_len r acc
      rw [List.length_cons]
      omega
    · rw [if_neg c]
      have q : (acc ++ [p]).Nodup := by
        rw [List.nodup_append]
        exact ⟨h2, by simp, fun x hx y hy e => by rw [List.mem_singleton.mp hy] at e; exact c (e ▸ hx)⟩
      have := dd_lt r (acc ++ [p]) (by rw [List.append_assoc]; exact h) q
      rw [List.length_append, List.length_singleton] at this
      rw [List.length_cons]
      omega
theorem dd_mem : ∀ (l acc : List α) (x : α), x ∈ dd acc l → x ∈ acc ∨ x ∈ l
  | [], _, _, h => .inl h
  | p :: r, acc, x, h => by
    rcases dd_mem r _ x h with c | c
    · split at c
      · exact .inl c
      · rcases List.mem_append.mp c with c | c
        · exact .inl c
        · rw [List.mem_singleton.mp c]; exact .inr List.mem_cons_self
    · exact .inr (List.mem_cons_of_mem _ c)
theorem dd_id : ∀ (l acc : List α), (acc ++ l).Nodup → dd acc l = acc ++ l
  | [], acc, _ => by rw [List.append_nil]; rfl
  | p :: r, acc, h => by
    have n : p ∉ acc := fun c => by
      rw [List.nodup_append] at h
      exact h.2.2 p c p List.mem_cons_self rfl
    show dd (if p ∈ acc then acc else acc ++ [p]) r = _
    rw [if_neg n, dd_id r (acc ++ [p]) (by rw [List.append_assoc]; exact h), List.append_assoc]
    rfl
/-- as many keys as things just if none stands twice -/
theorem dd_same (l : List α) : decide (((dd [] l).length : Int) = (l.length : Int)) = decide l.Nodup := by
  by_cases h : l.Nodup
  · rw [dd_id l [] h, decide_eq_true h]
    exact decide_eq_true rfl
  · have := dd_lt l [] h List.nodup_nil
    rw [List.length_nil] at this
    rw [decide_eq_false h, decide_eq_false (by omega)]
theorem dd_sameV (l : List α) : decide (V.int ((dd [] l).length : Int) = V.int (l.length : Int)) = decide l.Nodup := by
  rw [← dd_same, Bool.eq_iff_iff, decide_eq_true_eq, decide_eq_true_eq]
  exact ⟨fun h => V.int.inj h, fun h => congrArg V.int h⟩
variable {κ : Type} [DecidableEq κ]
def kdG (f : α → κ) (l : List α) : List (κ × V) := l.map fun p => (f p, .bl true)
theorem put_kdG {f : α → κ} (inj : ∀ a b, f a = f b → a = b) {l : List α} {p : α} : putK (kdG f l) (f p) (.bl true) = kdG f (if p ∈ l then l else l ++ [p]) := by
  by_cases h : p ∈ l
  · rw [if_pos h]
    unfold putK
    have e : ((kdG f l).any fun kv => decide (kv.1 = f p)) = true := List.any_eq_true.mpr ⟨(f p, .bl true), List.mem_map.mpr ⟨p, h, rfl⟩, by simp⟩
    rw [if_pos e]
    unfold kdG
    rw [List.map_map]
    refine List.map_congr_left fun q _ => ?_
    show (if f q = f p then (f q, V.bl true) else (f q, .bl true)) = (f q, .bl true)
    split <;> rfl
  · rw [if_neg h]
    unfold putK
    have e : ((kdG f l).any fun kv => decide (kv.1 = f p)) = false := by
      rw [Bool.eq_false_iff]
      intro z
      obtain ⟨kv, h1, h2⟩ := List.any_eq_true.mp z
      obtain ⟨q, hq, rfl⟩ := List.mem_map.mp h1
      exact h (inj _ _ (of_decide_eq_true h2) ▸ hq)
    rw [if_neg (by rw [e]; decide)]
    unfold kdG
    rw [List.map_append]
    rfl
end
section
variable {α : Type} [DecidableEq α] {J : It} {n : Nat} {G : Hp → Prop} {Y : Nat → Hp → V → Hp → Prop} {g : TG} {tk tv : TE} {vs : List Nat} {σ : L2.St} {H1 : Hp} {Q : VK}
/-- {own: True for own in ..}, keys tuples -/
theorem g_dcR (w : Walk J n G Y) (f : α → List Key) (inj : ∀ a b, f a = f b → a = b) (L : List α) (hL : n = L.length) (hn : n ≤ 1000) (hG : ∀ H, Ext [] H1 H → G H)
    (hs : ∀ i x H H' b, L[i]? = some b → Ext [] H1 H → Y i H x H' → stG g x (wipe σ vs) H' fun σ2 H2 => wipe σ2 vs = wipe σ vs ∧ stE tk σ2 H2 fun y H4 => stE tv σ2 H4 fun z H5 => z = .bl true ∧ Ext [] H H5 ∧ ∃ t, y = .ref t ∧ H5 t = some (.tup ((f b).map kV)))
    (hd : ∀ D H, Ext [] H1 H → H1 D = none → H D = some (.dT (kdG f (dd [] L))) → Q (.ref D) H) : DcGoal J (stG g) (stT tYes) (stE tk) (stE tv) vs σ H1 Q := by
  refine g_dcW w (fun D i H kvs => Ext [] H1 H ∧ H1 D = none ∧ kvs = kdG f (dd [] (L.take i))) ?_ ?_ ?_ ?_
  · intro D H' n0 e _
    exact ⟨e, n0, rfl⟩
  · rintro D i H acc _ ⟨e, _⟩
    exact hG H e
  · rintro D i x H H' kvs hi ⟨e, n0, rfl⟩ hD hY
    have hi' : i < L.length := by omega
    have hb : L[i]? = some L[i] := List.getElem?_eq_getElem hi'
    refine (hs i x H H' _ hb e hY).mono fun σ2 H2 ⟨q1, q2⟩ => ⟨q1, g_stT (g_yes ?_)⟩
    rw [if_pos rfl]
    refine stE.mono q2 fun y H4 q3 => stE.mono q3 fun z H5 ⟨ez, e5, t, ey, ht⟩ => ⟨f L[i], t, ey, ht, e5.keep _ _ hD nin0, ?_, fun H6 e6 h6 => ⟨?_, n0, ?_⟩⟩
    · unfold kdG
      rw [List.length_map]
      have := dd_len (L.take i) []
      rw [List.length_take, List.length_nil] at this
      rw [sizeLine_eq]
      omega
    · exact (e.trans e5 (fun _ z => z) (fun _ z => by cases z)).trans e6 (fun _ z => z) (fun x hx ⟨o, ho⟩ => by rw [List.mem_singleton.mp hx, n0] at ho; cases ho)
    · rw [ez, put_kdG inj, List.take_succ, hb]
      show kdG f _ = kdG f (dd [] (L.take i ++ [L[i]]))
      rw [dd_snoc]
  · rintro D H kvs ⟨e, n0, rfl⟩ hD
    rw [hL, List.take_length] at hD
    exact hd D H e n0 hD
def DcKGoal (J : It) (g : TG) (tt : TT) (tk tv : TE) (vs : List Nat) (σ : L2.St) (H1 : Hp) (Q : VK) : Prop := ∀ D, H1 D = none → ∃ W : Nat → Nat → Hp → Prop, (∃ m, W 0 m (upd H1 D (.dK []))) ∧ ∀ i m H, W i m H →
  (J.stop i H ∧ Q (.ref D) H) ∨ (J.go i H ∧ ∃ Nx : Hp → Prop, (∀ H', Nx H' → ∃ m', m' < m ∧ W (i + 1) m' H') ∧ ∀ x H', J.yld i H x H' → g x (wipe σ vs) H' fun σ2 H2 => wipe σ2 vs = wipe σ vs ∧ tt σ2 H2 fun b H3 =>
    if b = true then tk σ2 H3 fun y H4 => tv σ2 H4 fun z H5 => ∃ kvs k, y = kV k ∧ H5 D = some (.dK kvs) ∧ kvs.length < sizeLine ∧ Nx (upd H5 D (.dK (putK kvs k z))) else Nx H3)
theorem g_dck {wi : TI} {tt : TT} {H : Hp} (h : wi σ H fun J H1 => DcKGoal J g tt tk tv vs σ H1 Q) : tDc wi g tt tk tv vs σ H Q := h
/-- the same, keys numbers -/
theorem g_dcI (w : Walk J n G Y) (L : List Int) (hL : n = L.length) (hn : n ≤ 1000) (hG : ∀ H, Ext [] H1 H → G H)
    (hs : ∀ i x H H' b, L[i]? = some b → Ext [] H1 H → Y i H x H' → stG g x (wipe σ vs) H' fun σ2 H2 => wipe σ2 vs = wipe σ vs ∧ stE tk σ2 H2 fun y H4 => stE tv σ2 H4 fun z H5 => z = .bl true ∧ Ext [] H H5 ∧ y = .int b)
    (hd : ∀ D H, Ext [] H1 H → H1 D = none → H D = some (.dK (kdG (fun i : Int => (Sum.inl i : Key)) (dd [] L))) → Q (.ref D) H) :
    DcKGoal J (stG g) (stT tYes) (stE tk) (stE tv) vs σ H1 Q := by
  intro D n0
  refine ⟨fun i m H => m = n - i ∧ i ≤ n ∧ Ext [] H1 H ∧ H D = some (.dK (kdG (fun i : Int => (Sum.inl i : Key)) (dd [] (L.take i)))), ⟨n, by simp, Nat.zero_le _, Ext.new n0, upd_same⟩, ?_⟩
  rintro i m H ⟨rfl, hi, e, hD⟩
  by_cases hlt : i < n
  · refine .inr ⟨w.goes i H hlt (hG H e), fun H' => Ext [] H1 H' ∧ H' D = some (.dK (kdG (fun i : Int => (Sum.inl i : Key)) (dd [] (L.take (i + 1))))), fun H' ⟨p1, p2⟩ => ⟨n - (i + 1), by omega, rfl, hlt, p1, p2⟩, fun x H' y => ?_⟩
    have hi' : i < L.length := by omega
    have hb : L[i]? = some L[i] := List.getElem?_eq_getElem hi'
    refine (hs i x H H' _ hb e (w.yields i H x H' hlt (hG H e) y)).mono fun σ2 H2 ⟨q1, q2⟩ => ⟨q1, g_stT (g_yes ?_)⟩
    rw [if_pos rfl]
    refine stE.mono q2 fun y H4 q3 => stE.mono q3 fun z H5 ⟨ez, e5, ey⟩ => ⟨_, .inl L[i], ey, e5.keep _ _ hD nin0, ?_, ?_, ?_⟩
    · unfold kdG
      rw [List.length_map]
      have := dd_len (L.take i) []
      rw [List.length_take, List.length_nil] at this
      rw [sizeLine_eq]
      omega
    · exact (e.trans e5 (fun _ z => z) (fun _ z => by cases z)).trans (Ext.wr (e5.keep _ _ hD nin0) rfl) (fun _ z => z) (fun x hx ⟨o, ho⟩ => by rw [List.mem_singleton.mp hx, n0] at ho; cases ho)
    · rw [upd_same, ez, put_kdG (f := fun i : Int => (Sum.inl i : Key)) (fun a b h => Sum.inl.inj h), List.take_succ, hb]
      show some (HO.dK (kdG _ _)) = some (.dK (kdG _ (dd [] (L.take i ++ [L[i]]))))
      rw [dd_snoc]
  · have e2 : i = n := by omega
    subst e2
    rw [hL, List.take_length] at hD
    exact .inl ⟨w.stops H (hG H e), hd D H e n0 hD⟩
end
/-! ### lists of numbers -/
theorem sorted_uniqI : ∀ {l m : List Int}, l.Perm m → l.Pairwise (· ≤ ·) → m.Pairwise (· ≤ ·) → l = m
  | [], m, h, _, _ => by rw [h.symm.eq_nil]
  | p :: l, [], h, _, _ => by cases h.eq_nil
  | p :: l, q :: m, h, hl, hm => by
    have e : p = q := by
      have m1 : p ∈ q :: m := h.mem_iff.mp List.mem_cons_self
      have m2 : q ∈ p :: l := h.mem_iff.mpr List.mem_cons_self
      rcases List.mem_cons.mp m1 with c | c
      · exact c
      · rcases List.mem_cons.mp m2 with d | d
        · exact d.symm
        · have z1 := (List.pairwise_cons.mp hm).1 p c
          have z2 := (List.pairwise_cons.mp hl).1 q d
          omega
    subst e
    rw [sorted_uniqI (List.perm_cons p |>.mp h) (List.pairwise_cons.mp hl).2 (List.pairwise_cons.mp hm).2]
theorem sorted_eqI {l m : List Int} (h : m.Perm l) (hm : m.Pairwise (· ≤ ·)) : decide (l = m) = decide (l.Pairwise (· ≤ ·)) := by
  rw [Bool.eq_iff_iff, decide_eq_true_eq, decide_eq_true_eq]
  exact ⟨fun e => e ▸ hm, fun z => sorted_uniqI h.symm z hm⟩
theorem eqv_ints : ∀ P Y : List Int, PyData.eqvAll (P.map PyData.int) (Y.map PyData.int) = decide (P = Y)
  | [], [] => by simp [PyData.eqvAll]
  | [], _ :: _ => by simp [PyData.eqvAll]
  | _ :: _, [] => by simp [PyData.eqvAll]
  | p :: P, q :: Y => by
    simp only [List.map_cons, PyData.eqvAll]
    rw [eqv_ints P Y, Bool.eq_iff_iff]
    simp [PyData.eqv]
theorem shp_lst {ds : List PyData} {k : Nat} (h : ShpAll ds k) : Shp (.list ds) (k + 1) := by
  refine ⟨?_, ?_⟩
  · rw [PyData.canLay0]; exact h.1
  · rw [PyData.depth]
    have := h.2
    omega
theorem g_eqInts {K : PySem.W.Frag} {H : Hp} {Q : VK} {a b : Addr} {P Y : List Int} (hx : SqL K H a (P.map V.int)) (hy : SqL K H b (Y.map V.int)) (h : Q (.bl (decide (P = Y))) H) : rEqX K (.ref a) (.ref b) H Q := by
  refine .inr ⟨_, _, .lst hx (dp_ints P), .lst hy (dp_ints Y), (shp_lst (shp_ints (k := 0) P)).shaped (by decide), (shp_lst (shp_ints (k := 0) Y)).shaped (by decide), ?_⟩
  rw [PyData.eqv, eqv_ints]
  exact h
/-! ### plans, plainly -/
/-- a copy, an edge's hour, a crash -/
structure Cp where
  d : V
  f : List Int
structure Eg where
  t : V
  a : Int
  b : Int
  u : V
structure Cr where
  t : V
  n : V
structure Pl where
  fs : List (List Cp)
  es : List Eg
  cs : List Cr
section
variable (K : PySem.W.Frag)
def CpAt (H : Hp) (x : V) (c : Cp) : Prop := ∃ t fl, x = .ref t ∧ SqT K H t [c.d, .ref fl] ∧ SqT K H fl (c.f.map V.int)
def FtAt (H : Hp) (x : V) (f : List Cp) : Prop := ∃ t ys, x = .ref t ∧ SqT K H t ys ∧ LR (CpAt K) H ys f
def EgAt (H : Hp) (x : V) (e : Eg) : Prop := ∃ t, x = .ref t ∧ SqT K H t [e.t, .int e.a, .int e.b, e.u]
def CrAt (H : Hp) (x : V) (c : Cr) : Prop := ∃ t, x = .ref t ∧ H t = some (.tup [c.t, c.n])
def TgAt (H : Hp) (x : V) (p : Int × Int) : Prop := ∃ t c m, x = .ref t ∧ SqT K H t [.int p.1, .int p.2, c, m]
def PlAt (H : Hp) (p : Addr) (R : Pl) : Prop := ∃ tf te tc xs ys zs, SqT K H p [.ref tf, .ref te, .ref tc] ∧ SqT K H tf xs ∧ SqT K H te ys ∧ SqT K H tc zs ∧ LR (FtAt K) H xs R.fs ∧ LR (EgAt K) H ys R.es ∧ LR CrAt H zs R.cs
def TpAt (H : Hp) (tp : Addr) (n : Int) (ts : List (Int × Int)) : Prop := ∃ te xs, SqT K H tp [.int n, .ref te] ∧ SqT K H te xs ∧ LR (TgAt K) H xs ts
end
section
variable {K : PySem.W.Frag} {A : List Addr} {H H' : Hp} (e : Ext A H H')
include e
theorem CpAt.ext {x : V} {c : Cp} : CpAt K H x c → CpAt K H' x c := fun ⟨t, fl, h0, h1, h2⟩ => ⟨t, fl, h0, sqT_ext e h1, sqT_ext e h2⟩
theorem FtAt.ext {x : V} {c : List Cp} : FtAt K H x c → FtAt K H' x c := fun ⟨t, ys, h0, h1, h2⟩ => ⟨t, ys, h0, sqT_ext e h1, h2.imp fun _ _ => CpAt.ext e⟩
theorem EgAt.ext {x : V} {c : Eg} : EgAt K H x c → EgAt K H' x c := fun ⟨t, h0, h1⟩ => ⟨t, h0, sqT_ext e h1⟩
theorem CrAt.ext {x : V} {c : Cr} : CrAt H x c → CrAt H' x c := fun ⟨t, h0, h1⟩ => ⟨t, h0, e.imm _ _ h1 rfl⟩
theorem TgAt.ext {x : V} {c : Int × Int} : TgAt K H x c → TgAt K H' x c := fun ⟨t, c, m, h0, h1⟩ => ⟨t, c, m, h0, sqT_ext e h1⟩
theorem PlAt.ext {p : Addr} {R : Pl} : PlAt K H p R → PlAt K H' p R := fun ⟨tf, te, tc, xs, ys, zs, h1, h2, h3, h4, h5, h6, h7⟩ =>
  ⟨tf, te, tc, xs, ys, zs, sqT_ext e h1, sqT_ext e h2, sqT_ext e h3, sqT_ext e h4, h5.imp fun _ _ => FtAt.ext e, h6.imp fun _ _ => EgAt.ext e, h7.imp fun _ _ => CrAt.ext e⟩
theorem TpAt.ext {tp : Addr} {n : Int} {ts : List (Int × Int)} : TpAt K H tp n ts → TpAt K H' tp n ts := fun ⟨te, xs, h1, h2, h3⟩ => ⟨te, xs, sqT_ext e h1, sqT_ext e h2, h3.imp fun _ _ => TgAt.ext e⟩
end
def inB (i lo hi : Int) : Bool := decide (lo ≤ i) && decide (i ≤ hi)
def cpOk (c : Cp) : Bool := isnum c.d 1 6 && (decide (c.f.length ≤ 3) && (c.f.all (fun i => inB i 0 3999) && decide (c.f.Nodup)))
def ftOk (f : List Cp) : Bool := decide (f.length ≤ 3) && f.all cpOk
def egOk (ts : List (Int × Int)) (e : Eg) : Bool := decide ((e.a, e.b) ∈ ts) && isnum e.t 1 20000
def upOk (e : Eg) : Bool := match e.u with
  | .bl _ => true
  | _ => false
def crOk (m : Int) (c : Cr) : Bool := isnum c.n 0 m && isnum c.t 1 20000
def tri (e : Eg) : Int × Int × Int := (vI e.t, e.a, e.b)
def cpr (c : Cr) : Int × Int := (vI c.t, vI c.n)
def cd (p : Int × Int) : Int := p.1 * 32768 + p.2
def pck (n : Int) (ts : List (Int × Int)) (P : Pl) : Option Str :=
  if P.fs.all ftOk = false then some "fate"
  else if (P.es.all (egOk ts) && (P.es.all upOk && (decide ((P.es.map fun e => vI e.t).Pairwise (· ≤ ·)) && decide ((P.es.map tri).Nodup)))) = false then some "edge"
  else if (P.cs.all (crOk (n - 1)) && decide ((P.cs.map cpr).Pairwise fun p q => cd p < cd q)) = false then some "crash" else none
structure PlOk (P : Pl) : Prop where
  fs : ∀ f ∈ P.fs, (∀ c ∈ f, NB c.d ∧ c.f.length ≤ 50) ∧ f.length ≤ 50
  es : ∀ e ∈ P.es, NB e.t ∧ NB e.u
  cs : ∀ c ∈ P.cs, NB c.t ∧ NB c.n
  el : P.es.length ≤ 50
  cl : P.cs.length ≤ 63
  fl : P.fs.length ≤ 50
def spCopy (K : PySem.W.Frag) : Sp := fun vs H Q _ => ∃ x c, vs = [x] ∧ CpAt K H x c ∧ NB c.d ∧ c.f.length ≤ 50 ∧ ∀ H', Ext [] H H' → Q (.bl (cpOk c)) H'
def spNeed (C : Addr) : Sp := fun vs H Q E => ∃ b z, vs = [.bl b, .str z] ∧ z.length ≤ 100 ∧ (b = true → Q .non H) ∧ (b = false → ∀ d H', Ext [] H H' → H' d = some (.xd [("code", .str z)]) → E (.ref C) (some d) H')
def spPlan (K : PySem.W.Frag) (C : Addr) : Sp := fun vs H Q E => ∃ tp p n ts R, vs = [.ref tp, .ref p] ∧ (TpAt K H tp n ts ∧ 1 ≤ n ∧ n ≤ 20 ∧ ts.length ≤ 50) ∧ PlAt K H p R ∧ PlOk R ∧
  (pck n ts R = none → ∀ H', Ext [] H H' → Q .non H') ∧ ∀ z, pck n ts R = some z → ∀ d H', Ext [] H H' → H' d = some (.xd [("code", .str z)]) → E (.ref C) (some d) H'
def spCode (K : PySem.W.Frag) : Sp := fun vs H Q _ => ∃ tp p n ts R, vs = [.ref tp, .ref p] ∧ (TpAt K H tp n ts ∧ 1 ≤ n ∧ n ≤ 20 ∧ ts.length ≤ 50) ∧ PlAt K H p R ∧ PlOk R ∧ ∀ H', Ext [] H H' → Q (.str ((pck n ts R).getD "")) H'
def PrAt (H : Hp) (x : V) (p : Int × Int) : Prop := ∃ t, x = .ref t ∧ H t = some (.tup [.int p.1, .int p.2])
theorem PrAt.ext {A : List Addr} {H H' : Hp} {x : V} {p : Int × Int} (q : Ext A H H') : PrAt H x p → PrAt H' x p := fun ⟨t, h1, h2⟩ => ⟨t, h1, q.imm _ _ h2 rfl⟩
def TiAt (H : Hp) (x : V) (p : V × Int × Int) : Prop := ∃ t, x = .ref t ∧ H t = some (.tup [p.1, .int p.2.1, .int p.2.2])
theorem TiAt.ext {A : List Addr} {H H' : Hp} {x : V} {p : V × Int × Int} (q : Ext A H H') : TiAt H x p → TiAt H' x p := fun ⟨t, h1, h2⟩ => ⟨t, h1, q.imm _ _ h2 rfl⟩
def pdP (p : Int × Int) : PyData := .tuple [.int p.1, .int p.2]
theorem eqv_pd (p q : Int × Int) : PyData.eqv (pdP p) (pdP q) = decide (p = q) := by
  cases p; cases q
  unfold pdP
  simp only [PyData.eqv, PyData.eqvAll]
  rw [Bool.eq_iff_iff]
  simp
theorem eqv_pds : ∀ P Y : List (Int × Int), PyData.eqvAll (P.map pdP) (Y.map pdP) = decide (P = Y)
  | [], [] => by simp [PyData.eqvAll]
  | [], _ :: _ => by simp [PyData.eqvAll]
  | _ :: _, [] => by simp [PyData.eqvAll]
  | p :: P, q :: Y => by
    simp only [List.map_cons, PyData.eqvAll]
    rw [eqv_pd, eqv_pds P Y, Bool.eq_iff_iff]
    simp
theorem shp_pds {k : Nat} : ∀ P : List (Int × Int), ShpAll (P.map pdP) (k + 1)
  | [] => shp_nil
  | _ :: P => shp_cons (shp_tup (shp_cons shp_int (shp_cons shp_int shp_nil))) (shp_pds P)
theorem any_pd (p : Int × Int) : ∀ ps : List (Int × Int), ((ps.map pdP).any fun z => PyData.eqv z (pdP p)) = decide (p ∈ ps)
  | [] => rfl
  | q :: r => by
    rw [List.map_cons, List.any_cons, any_pd p r, eqv_pd, Bool.eq_iff_iff]
    simp only [Bool.or_eq_true, decide_eq_true_eq, List.mem_cons]
    constructor
    · rintro (h | h)
      · exact .inl h.symm
      · exact .inr h
    · rintro (h | h)
      · exact .inl h.symm
      · exact .inr h
theorem prs_dp {K : PySem.W.Frag} {H : Hp} : ∀ {ys : List V} {Y : List (Int × Int)}, LR PrAt H ys Y → DpAll K H ys (Y.map pdP)
  | [], [], _ => .nil
  | x :: ys, p :: Y, ⟨⟨t, h1, h2⟩, h⟩ => by
    subst h1
    exact .cons (.tup (SqT.of h2) (.cons (.int _) (.cons (.int _) .nil))) (prs_dp h)
  | [], _ :: _, h => h.elim
  | _ :: _, [], h => h.elim
theorem g_inPl {K : PySem.W.Frag} {H : Hp} {Q : VK} {t l : Addr} {xs : List V} {p : Int × Int} {ps : List (Int × Int)} (ht : H t = some (.tup [.int p.1, .int p.2])) (hl : H l = some (.lst xs)) (h : LR PrAt H xs ps) (q : Q (.bl (decide (p ∈ ps))) H) : rInDL K (.ref t) (.ref l) H Q := by
  refine ⟨pdP p, _, .tup (SqT.of ht) (.cons (.int _) (.cons (.int _) .nil)), .lst (SqL.of hl) (prs_dp h), (shp_tup (k := 1) (shp_cons shp_int (shp_cons shp_int shp_nil))).shaped (by decide), (shp_lst (shp_pds (k := 0) ps)).shaped (by decide), ?_⟩
  rw [any_pd]
  exact q
def egR (R : Pl) : Bool := decide ((R.es.map fun e => vI e.t).Pairwise (· ≤ ·)) && decide ((R.es.map tri).Nodup)
theorem pck_fate {n : Int} {ts : List (Int × Int)} {P : Pl} (h : P.fs.all ftOk = false) : pck n ts P = some ("fate" : Str) := by unfold pck; rw [if_pos h]
theorem pck_edge {n : Int} {ts : List (Int × Int)} {P : Pl} (hf : P.fs.all ftOk = true) (h : (P.es.all (egOk ts) && (P.es.all upOk && egR P)) = false) : pck n ts P = some ("edge" : Str) := by
  unfold egR at h
  unfold pck
  rw [if_neg (by rw [hf]; decide), if_pos h]
theorem pck_crash {n : Int} {ts : List (Int × Int)} {P : Pl} (hf : P.fs.all ftOk = true) (he : (P.es.all (egOk ts) && (P.es.all upOk && egR P)) = true) (h : (P.cs.all (crOk (n - 1)) && decide ((P.cs.map cpr).Pairwise fun p q => cd p < cd q)) = false) : pck n ts P = some ("crash" : Str) := by
  unfold egR at he
  unfold pck
  rw [if_neg (by rw [hf]; decide), if_neg (by rw [he]; decide), if_pos h]
theorem pck_none {n : Int} {ts : List (Int × Int)} {P : Pl} (hf : P.fs.all ftOk = true) (he : (P.es.all (egOk ts) && (P.es.all upOk && egR P)) = true) (h : (P.cs.all (crOk (n - 1)) && decide ((P.cs.map cpr).Pairwise fun p q => cd p < cd q)) = true) : pck n ts P = none := by
  unfold egR at he
  unfold pck
  rw [if_neg (by rw [hf]; decide), if_neg (by rw [he]; decide), if_neg (by rw [h]; decide)]
theorem pw_nodup {l : List (Int × Int)} (h : l.Pairwise fun p q => cd p < cd q) : l.Nodup := List.Pairwise.imp (fun {p q} z e => by rw [e] at z; omega) h
def Rng (p : Int × Int) : Prop := 0 ≤ p.1 ∧ p.1 < 32768 ∧ 0 ≤ p.2 ∧ p.2 < 32768
theorem cd_inj {p q : Int × Int} (hp : Rng p) (hq : Rng q) (h : cd p = cd q) : p = q := by
  unfold cd at h
  obtain ⟨a1, a2, a3, a4⟩ := hp
  obtain ⟨b1, b2, b3, b4⟩ := hq
  cases p; cases q
  simp only at *
  have : ∀ x y : Int, x = y → x = y := fun _ _ h => h
  congr 1 <;> omega
theorem sorted_uniq : ∀ {l m : List (Int × Int)}, l.Perm m → (l.Pairwise fun p q => cd p < cd q) → (m.Pairwise fun p q => cd p < cd q) → l = m
  | [], m, h, _, _ => by rw [h.symm.eq_nil]
  | p :: l, [], h, _, _ => by cases h.eq_nil
  | p :: l, q :: m, h, hl, hm => by
    have e : p = q := by
      have m1 : p ∈ q :: m := h.mem_iff.mp List.mem_cons_self
      have m2 : q ∈ p :: l := h.mem_iff.mpr List.mem_cons_self
      rcases List.mem_cons.mp m1 with c | c
      · exact c
      · rcases List.mem_cons.mp m2 with d | d
        · exact d.symm
        · have z1 := (List.pairwise_cons.mp hm).1 p c
          have z2 := (List.pairwise_cons.mp hl).1 q d
          omega
    subst e
    rw [sorted_uniq (List.perm_cons p |>.mp h) (List.pairwise_cons.mp hl).2 (List.pairwise_cons.mp hm).2]
theorem sort_same {P Y : List (Int × Int)} (hr : ∀ p ∈ P, Rng p) (hp : Y.Perm (dd [] P)) (hs : Y.Pairwise fun p q => cd p ≤ cd q) : decide (P = Y) = decide (P.Pairwise fun p q => cd p < cd q) := by
  have nd := hp.nodup_iff.mpr (dd_nodup P [] List.nodup_nil)
  have hY : Y.Pairwise fun p q => cd p < cd q := by
    refine List.Pairwise.imp_of_mem ?_ (hs.and nd)
    intro p q m1 m2 ⟨h1, h2⟩
    rcases Int.lt_or_eq_of_le h1 with c | c
    · exact c
    · have r1 := hr p ((dd_mem P [] p (hp.mem_iff.mp m1)).resolve_left (by simp))
      have r2 := hr q ((dd_mem P [] q (hp.mem_iff.mp m2)).resolve_left (by simp))
      exact absurd (cd_inj r1 r2 c) h2
  rw [Bool.eq_iff_iff, decide_eq_true_eq, decide_eq_true_eq]
  constructor
  · rintro rfl
    exact hY
  · intro hP
    have e := dd_id P [] (pw_nodup hP)
    rw [e] at hp
    exact (sorted_uniq hp hY hP).symm
theorem perm_prs {H : Hp} : ∀ {qs ys : List V}, ys.Perm qs → ∀ {L : List (Int × Int)}, LR PrAt H qs L → ∃ Y, Y.Perm L ∧ LR PrAt H ys Y := by
  intro qs ys h
  induction h with
  | nil =>
    intro L hL
    cases L with
    | nil => exact ⟨[], .refl _, trivial⟩
    | cons => exact hL.elim
  | @cons x l1 l2 _ ih =>
    intro L hL
    cases L with
    | nil => exact hL.elim
    | cons p L =>
      obtain ⟨Y, h1, h2⟩ := ih hL.2
      exact ⟨p :: Y, h1.cons p, hL.1, h2⟩
  | @swap x y l =>
    intro L hL
    match L, hL with
    | p :: q :: L, ⟨h1, h2, h3⟩ => exact ⟨q :: p :: L, .swap _ _ _, h2, h1, h3⟩
    | [_], ⟨_, h⟩ => exact h.elim
    | [], h => exact h.elim
  | trans _ _ ih1 ih2 =>
    intro L hL
    obtain ⟨Y, h1, h2⟩ := ih2 hL
    obtain ⟨Z, h3, h4⟩ := ih1 h2
    exact ⟨Z, h3.trans h1, h4⟩
def kP (p : Int × Int) : List Key := [.inl p.1, .inl p.2]
theorem kP_inj {p q : Int × Int} (h : kP p = kP q) : p = q := by
  unfold kP at h
  cases p; cases q
  simp at h
  rw [h.1, h.2]
theorem paired_prs {H : Hp} : ∀ {L : List (Int × Int)} {qs : List V}, Paired (fun (q : V) (kv : List Key × V) => ∃ t, q = .ref t ∧ H t = some (.tup (kv.1.map kV))) qs (kdG kP L) → LR PrAt H qs L
  | [], _, h => by cases h; trivial
  | p :: L, _, h => by
    cases h with
    | cons h1 h2 => exact ⟨h1, paired_prs h2⟩
theorem prs_pw {K : PySem.W.Frag} {H : Hp} : ∀ {ys : List V} {Y : List (Int × Int)}, LR PrAt H ys Y → ys.Pairwise (fun x y => ∀ n m, TupI K H x n → TupI K H y m → TS.code 32768 n ≤ TS.code 32768 m) → Y.Pairwise fun p q => cd p ≤ cd q
  | [], [], _, _ => .nil
  | x :: ys, p :: Y, ⟨h1, h2⟩, h => by
    obtain ⟨a, b⟩ := List.pairwise_cons.mp h
    refine List.pairwise_cons.mpr ⟨fun q hq => ?_, prs_pw h2 b⟩
    obtain ⟨j, hj⟩ := List.mem_iff_getElem?.mp hq
    have hj' : j < ys.length := by rw [h2.len]; exact (List.getElem?_eq_some_iff.mp hj).1
    obtain ⟨q', e1, e2⟩ := h2.get (List.getElem?_eq_getElem hj')
    rw [hj] at e1
    cases e1
    have T : ∀ {x : V} {p : Int × Int}, PrAt H x p → TupI K H x [p.1, p.2] := fun {x p} ⟨t, z1, z2⟩ => ⟨t, z1, SqT.of z2⟩
    have z := a _ (List.getElem_mem hj') _ _ (T h1) (T e2)
    have c : ∀ p : Int × Int, TS.code 32768 [p.1, p.2] = cd p := fun p => by
      show p.1 * 32768 ^ 1 + (p.2 * 32768 ^ 0 + 0) = p.1 * 32768 + p.2
      omega
    rw [c, c] at z
    exact z
  | [], _ :: _, h, _ => h.elim
  | _ :: _, [], h, _ => h.elim
theorem g_eqPrs {K : PySem.W.Frag} {H : Hp} {Q : VK} {a b : Addr} {xs ys : List V} {P Y : List (Int × Int)} (hx : SqL K H a xs) (hy : SqL K H b ys) (hP : LR PrAt H xs P) (hY : LR PrAt H ys Y) (h : Q (.bl (decide (P = Y))) H) : rEqX K (.ref a) (.ref b) H Q := by
  refine .inr ⟨_, _, .lst hx (prs_dp hP), .lst hy (prs_dp hY), (shp_lst (shp_pds (k := 0) P)).shaped (by decide), (shp_lst (shp_pds (k := 0) Y)).shaped (by decide), ?_⟩
  rw [PyData.eqv, eqv_pds]
  exact h
def CpGood (c : Cp) : Prop := cpOk c = true ∧ NB c.d ∧ c.f.length ≤ 3
def FtGood (f : List Cp) : Prop := (∀ c ∈ f, CpGood c) ∧ f.length ≤ 3
def IsI (_ : Hp) (x : V) (n : Int) : Prop := x = .int n
theorem lr_i {H : Hp} : ∀ {xs : List V} {L : List Int}, LR IsI H xs L → xs = L.map V.int
  | [], [], _ => rfl
  | _ :: _, _ :: _, ⟨h1, h⟩ => by rw [show _ = _ from h1, lr_i h]; rfl
  | [], _ :: _, h => h.elim
  | _ :: _, [], h => h.elim
theorem g_extend {H : Hp} {Q : VK} {l b : Addr} {xs zs : List V} (e : H l = some (.lst xs)) (f : H b = some (.lst zs)) (z : xs.length + zs.length ≤ sizeLine) (h : ∀ H', Ext [l] H H' → H' l = some (.lst (xs ++ zs)) → Q .non H') : rExtend (.ref l) [.ref b] H Q :=
  ⟨l, b, xs, zs, rfl, rfl, e, f, z, h _ (Ext.wr e rfl) upd_same⟩
theorem g_repT {K : PySem.W.Frag} {H : Hp} {Q : VK} {l : Addr} {xs : List V} {k : Int} (e : SqT K H l xs) (h0 : xs ≠ []) (h1 : 2 ≤ k) (h2 : k ≤ 1000) (h3 : xs.length ≤ 1000) (h : NewO H (.tup (List.replicate k.toNat xs).flatten) fun p H' => Q (.ref p) H') : rRepT K (.ref l) (.int k) H Q :=
  ⟨l, k, xs, rfl, rfl, e, h0, h1, h2, h3, h.raw⟩
/-! ### threes -/
def pdT (p : Int × Int × Int) : PyData := .tuple [.int p.1, .int p.2.1, .int p.2.2]
theorem eqv_pt (p q : Int × Int × Int) : PyData.eqv (pdT p) (pdT q) = decide (p = q) := by
  obtain ⟨a, b, c⟩ := p
  obtain ⟨a', b', c'⟩ := q
  unfold pdT
  simp only [PyData.eqv, PyData.eqvAll]
  rw [Bool.eq_iff_iff]
  simp
theorem any_pt (p : Int × Int × Int) : ∀ ps : List (Int × Int × Int), ((ps.map pdT).any fun z => PyData.eqv z (pdT p)) = decide (p ∈ ps)
  | [] => rfl
  | q :: r => by
    rw [List.map_cons, List.any_cons, any_pt p r, eqv_pt, Bool.eq_iff_iff]
    simp only [Bool.or_eq_true, decide_eq_true_eq, List.mem_cons]
    exact ⟨fun h => h.imp Eq.symm id, fun h => h.imp Eq.symm id⟩
theorem shp_pts {k : Nat} : ∀ P : List (Int × Int × Int), ShpAll (P.map pdT) (k + 1)
  | [] => shp_nil
  | _ :: P => shp_cons (shp_tup (shp_cons shp_int (shp_cons shp_int (shp_cons shp_int shp_nil)))) (shp_pts P)
def TrAt (K : PySem.W.Frag) (H : Hp) (x : V) (p : Int × Int × Int) : Prop := ∃ t, x = .ref t ∧ SqT K H t [.int p.1, .int p.2.1, .int p.2.2]
theorem TrAt.ext {K : PySem.W.Frag} {A : List Addr} {H H' : Hp} {x : V} {p : Int × Int × Int} (q : Ext A H H') : TrAt K H x p → TrAt K H' x p := fun ⟨t, h1, h2⟩ => ⟨t, h1, sqT_ext q h2⟩
theorem trs_dp {K : PySem.W.Frag} {H : Hp} : ∀ {ys : List V} {Y : List (Int × Int × Int)}, LR (TrAt K) H ys Y → DpAll K H ys (Y.map pdT)
  | [], [], _ => .nil
  | x :: ys, p :: Y, ⟨⟨t, h1, h2⟩, h⟩ => by
    subst h1
    exact .cons (.tup h2 (.cons (.int _) (.cons (.int _) (.cons (.int _) .nil)))) (trs_dp h)
  | [], _ :: _, h => h.elim
  | _ :: _, [], h => h.elim
theorem g_ninTr {K : PySem.W.Frag} {H : Hp} {Q : VK} {t l : Addr} {xs : List V} {p : Int × Int × Int} {ps : List (Int × Int × Int)} (ht : SqT K H t [.int p.1, .int p.2.1, .int p.2.2]) (hl : H l = some (.lst xs)) (h : LR (TrAt K) H xs ps) (q : Q (.bl (!decide (p ∈ ps))) H) : rNotInDL K (.ref t) (.ref l) H Q := by
  refine ⟨pdT p, _, .tup ht (.cons (.int _) (.cons (.int _) (.cons (.int _) .nil))), .lst (SqL.of hl) (trs_dp h), (shp_tup (k := 1) (shp_cons shp_int (shp_cons shp_int (shp_cons shp_int shp_nil)))).shaped (by decide), (shp_lst (shp_pts (k := 0) ps)).shaped (by decide), ?_⟩
  rw [any_pt]
  exact q
/-! ### right plans and wrong ones -/
theorem isnum_t {i lo hi : Int} (h1 : lo ≤ i) (h2 : i ≤ hi) : isnum (.int i) lo hi = true := by
  show (decide (lo ≤ i) && decide (i ≤ hi)) = true
  rw [decide_eq_true h1, decide_eq_true h2]; rfl
theorem isnum_hi {i lo hi : Int} (h : hi < i) : isnum (.int i) lo hi = false := by
  show (decide (lo ≤ i) && decide (i ≤ hi)) = false
  rw [decide_eq_false (show ¬ i ≤ hi by omega), Bool.and_false]
theorem cp_f {f : List Int} (hf : f = [] ∨ f = [3] ∨ f = [5, 3999] ∨ f = [7, 2, 0]) : (decide (f.length ≤ 3) && (f.all (fun i => inB i 0 3999) && decide (f.Nodup))) = true ∧ f.length ≤ 3 := by
  rcases hf with rfl | rfl | rfl | rfl <;> decide
theorem cp_good {c : Int} {f : List Int} (h0 : 0 ≤ c) (h1 : c < 6) (hf : f = [] ∨ f = [3] ∨ f = [5, 3999] ∨ f = [7, 2, 0]) : CpGood ⟨.int (1 + c), f⟩ := by
  refine ⟨?_, .inl ⟨_, rfl⟩, (cp_f hf).2⟩
  show (isnum (.int (1 + c)) 1 6 && _) = true
  rw [isnum_t (by omega) (by omega), Bool.true_and]
  exact (cp_f hf).1
theorem FtGood.ok {f : List Cp} (h : FtGood f) : ftOk f = true := by
  unfold ftOk
  rw [decide_eq_true h.2, Bool.true_and, List.all_eq_true]
  exact fun c hc => (h.1 c hc).1
theorem FtGood.nb {f : List Cp} (h : FtGood f) : (∀ c ∈ f, NB c.d ∧ c.f.length ≤ 50) ∧ f.length ≤ 50 :=
  ⟨fun c hc => ⟨(h.1 c hc).2.1, Nat.le_trans (h.1 c hc).2.2 (by decide)⟩, Nat.le_trans h.2 (by decide)⟩
structure RowOk (n : Int) (es : List Eg) : Prop where
  ok : ∀ e ∈ es, ∃ t b u, e = ⟨.int t, 0, b, .bl u⟩ ∧ 1 ≤ b ∧ b < n ∧ 1 ≤ t ∧ t ≤ 20000
  pw : (es.map fun e => vI e.t).Pairwise (· ≤ ·)
  nd : (es.map tri).Nodup
theorem RowOk.nil {n : Int} : RowOk n [] := ⟨fun _ h => (by cases h), .nil, .nil⟩
theorem RowOk.snoc {n : Int} {es : List Eg} {t b : Int} {u : Bool} (h : RowOk n es) (b1 : 1 ≤ b) (b2 : b < n) (t1 : 1 ≤ t) (t2 : t ≤ 20000) (hle : ∀ e ∈ es, vI e.t ≤ t) (hn : (t, 0, b) ∉ es.map tri) : RowOk n (es ++ [⟨.int t, 0, b, .bl u⟩]) := by
  refine ⟨fun e he => ?_, ?_, ?_⟩
  · rcases List.mem_append.mp he with c | c
    · exact h.ok e c
    · rw [List.mem_singleton.mp c]
      exact ⟨t, b, u, rfl, b1, b2, t1, t2⟩
  · rw [List.map_append, List.pairwise_append]
    refine ⟨h.pw, by simp, fun x hx y hy => ?_⟩
    obtain ⟨e, he, rfl⟩ := List.mem_map.mp hx
    simp only [List.map_cons, List.map_nil, List.mem_singleton] at hy
    rw [hy]
    exact hle e he
  · rw [List.map_append, List.nodup_append]
    refine ⟨h.nd, by simp, fun x hx y hy e => ?_⟩
    simp only [List.map_cons, List.map_nil, List.mem_singleton] at hy
    rw [e, hy] at hx
    exact hn hx
theorem RowOk.nb {n : Int} {es : List Eg} (h : RowOk n es) : ∀ e ∈ es, NB e.t ∧ NB e.u := fun e he => by
  obtain ⟨t, b, u, rfl, _⟩ := h.ok e he
  exact ⟨.inl ⟨_, rfl⟩, .inr ⟨_, rfl⟩⟩
structure CrsOk (n : Int) (cs : List Cr) : Prop where
  ok : ∀ c ∈ cs, ∃ t m, c = ⟨.int t, .int m⟩ ∧ 1 ≤ t ∧ t ≤ 20000 ∧ 0 ≤ m ∧ m < n
  pw : (cs.map cpr).Pairwise fun p q => cd p < cd q
theorem CrsOk.nb {n : Int} {cs : List Cr} (h : CrsOk n cs) : ∀ c ∈ cs, NB c.t ∧ NB c.n := fun c hc => by
  obtain ⟨t, m, rfl, _⟩ := h.ok c hc
  exact ⟨.inl ⟨_, rfl⟩, .inl ⟨_, rfl⟩⟩
section
variable {n : Int} {ts : List (Int × Int)} {fs : List (List Cp)} {es : List Eg} {cs : List Cr}
theorem fs_ok (hf : ∀ f ∈ fs, FtGood f) : fs.all ftOk = true := List.all_eq_true.mpr fun f h => (hf f h).ok
theorem pl_row (h : RowOk n es) (hts : ∀ b, 1 ≤ b → b < n → ((0 : Int), b) ∈ ts) : (es.all (egOk ts) && (es.all upOk && egR ⟨fs, es, cs⟩)) = true := by
  have a : es.all (egOk ts) = true := List.all_eq_true.mpr fun e he => by
    obtain ⟨t, b, u, rfl, b1, b2, t1, t2⟩ := h.ok e he
    unfold egOk
    rw [decide_eq_true (hts b b1 b2), isnum_t t1 t2]
    rfl
  have b : es.all upOk = true := List.all_eq_true.mpr fun e he => by
    obtain ⟨t, b, u, rfl, _⟩ := h.ok e he
    rfl
  rw [a, b]
  unfold egR
  rw [decide_eq_true h.pw, decide_eq_true h.nd]
  rfl
theorem pl_none (hf : ∀ f ∈ fs, FtGood f) (h : RowOk n es) (hc : CrsOk n cs) (hts : ∀ b, 1 ≤ b → b < n → ((0 : Int), b) ∈ ts) : pck n ts ⟨fs, es, cs⟩ = none := by
  refine pck_none (fs_ok hf) (pl_row h hts) ?_
  have a : cs.all (crOk (n - 1)) = true := List.all_eq_true.mpr fun c he => by
    obtain ⟨t, m, rfl, t1, t2, m1, m2⟩ := hc.ok c he
    unfold crOk
    rw [isnum_t m1 (by omega), isnum_t t1 t2]
    rfl
  show (cs.all (crOk (n - 1)) && _) = true
  rw [a, decide_eq_true hc.pw]
  rfl
theorem pl_fate {bad : List Cp} (h : ftOk bad = false) (hm : bad ∈ fs) : pck n ts ⟨fs, es, cs⟩ = some ("fate" : Str) := pck_fate (List.all_eq_false.mpr ⟨bad, hm, by rw [h]; decide⟩)
theorem pl_edge1 {e : Eg} (hf : ∀ f ∈ fs, FtGood f) (h : (egOk ts e && upOk e) = false) : pck n ts ⟨fs, [e], cs⟩ = some ("edge" : Str) := by
  refine pck_edge (fs_ok hf) ?_
  show ((egOk ts e && true) && ((upOk e && true) && _)) = false
  rw [Bool.and_true, Bool.and_true, ← Bool.and_assoc, h]
  rfl
theorem pl_edge_dup {x : Eg} (hf : ∀ f ∈ fs, FtGood f) (hx : x ∈ es) : pck n ts ⟨fs, es ++ [x], cs⟩ = some ("edge" : Str) := by
  refine pck_edge (fs_ok hf) ?_
  have q : decide (((es ++ [x]).map tri).Nodup) = false := decide_eq_false fun nd => by
    rw [List.map_append, List.nodup_append] at nd
    exact nd.2.2 _ (List.mem_map.mpr ⟨x, hx, rfl⟩) _ (List.mem_map.mpr ⟨x, List.mem_singleton.mpr rfl, rfl⟩) rfl
  unfold egR
  show ((es ++ [x]).all _ && ((es ++ [x]).all _ && (_ && decide (((es ++ [x]).map tri).Nodup)))) = false
  rw [q, Bool.and_false, Bool.and_false, Bool.and_false]
theorem pl_edge_rev {x y : Eg} {r : List Eg} (hf : ∀ f ∈ fs, FtGood f) (he : es = x :: r) (hy : y ∈ es) (h : vI x.t < vI y.t) : pck n ts ⟨fs, es.reverse, cs⟩ = some ("edge" : Str) := by
  refine pck_edge (fs_ok hf) ?_
  have q : decide ((es.reverse.map fun e => vI e.t).Pairwise (· ≤ ·)) = false := decide_eq_false fun pw => by
    subst he
    rw [List.reverse_cons, List.map_append, List.pairwise_append] at pw
    rcases List.mem_cons.mp hy with c | c
    · rw [c] at h; omega
    · have := pw.2.2 _ (List.mem_map.mpr ⟨y, List.mem_reverse.mpr c, rfl⟩) _ (List.mem_map.mpr ⟨x, List.mem_singleton.mpr rfl, rfl⟩)
      omega
  unfold egR
  show (es.reverse.all _ && (es.reverse.all _ && (decide ((es.reverse.map fun e => vI e.t).Pairwise (· ≤ ·)) && _))) = false
  rw [q, Bool.false_and, Bool.and_false, Bool.and_false]
theorem pl_crash {cs' : List Cr} (hf : ∀ f ∈ fs, FtGood f) (h : RowOk n es) (hts : ∀ b, 1 ≤ b → b < n → ((0 : Int), b) ∈ ts) (hc : (cs'.all (crOk (n - 1)) && decide ((cs'.map cpr).Pairwise fun p q => cd p < cd q)) = false) : pck n ts ⟨fs, es, cs'⟩ = some ("crash" : Str) :=
  pck_crash (fs_ok hf) (pl_row h hts) hc
theorem pl_crash1 {c : Cr} (hf : ∀ f ∈ fs, FtGood f) (h : RowOk n es) (hts : ∀ b, 1 ≤ b → b < n → ((0 : Int), b) ∈ ts) (hc : crOk (n - 1) c = false) : pck n ts ⟨fs, es, [c]⟩ = some ("crash" : Str) := by
  refine pl_crash hf h hts ?_
  show ((crOk (n - 1) c && true) && _) = false
  rw [hc]
  rfl
theorem pl_crash_rev (hf : ∀ f ∈ fs, FtGood f) (h : RowOk n es) (hts : ∀ b, 1 ≤ b → b < n → ((0 : Int), b) ∈ ts) (hc : CrsOk n cs) (h2 : 2 ≤ cs.length) : pck n ts ⟨fs, es, cs.reverse⟩ = some ("crash" : Str) := by
  refine pl_crash hf h hts ?_
  have q : decide ((cs.reverse.map cpr).Pairwise fun p q => cd p < cd q) = false := decide_eq_false fun pw => by
    have p2 := hc.pw
    match cs, h2 with
    | x :: y :: r, _ =>
      rw [List.map_cons, List.map_cons, List.pairwise_cons] at p2
      have a := p2.1 (cpr y) List.mem_cons_self
      rw [List.reverse_cons, List.reverse_cons, List.map_append, List.map_append, List.pairwise_append] at pw
      have b := pw.2.2 (cpr y) (List.mem_append_right _ (by simp)) (cpr x) (by simp)
      omega
  rw [q, Bool.and_false]
end
/-- the tuples of a set, as it wants them -/
theorem prs_ks {H : Hp} : ∀ {xs : List V} {L : List (Int × Int)}, LR PrAt H xs L → ∃ ks : List (Addr × List Int), xs = ks.map (fun p => V.ref p.1) ∧ (∀ p ∈ ks, H p.1 = some (.tup (p.2.map V.int)) ∧ ∃ q ∈ L, p.2 = [q.1, q.2]) ∧ ks.length = L.length
  | [], [], _ => ⟨[], rfl, fun _ h => (by cases h), rfl⟩
  | x :: xs, q :: L, ⟨⟨t, h1, h2⟩, h⟩ => by
    obtain ⟨ks, e1, e2, e3⟩ := prs_ks h
    refine ⟨(t, [q.1, q.2]) :: ks, by rw [h1, e1]; rfl, fun p hp => ?_, congrArg (· + 1) e3⟩
    rcases List.mem_cons.mp hp with c | c
    · rw [c]; exact ⟨h2, q, List.mem_cons_self, rfl⟩
    · obtain ⟨a, q', b1, b2⟩ := e2 p c
      exact ⟨a, q', List.mem_cons_of_mem _ b1, b2⟩
  | [], _ :: _, h => h.elim
  | _ :: _, [], h => h.elim
def crOf (p : Addr × List Int) : Cr := ⟨.int (p.2.getD 0 0), .int (p.2.getD 1 0)⟩
theorem crs_at {H : Hp} : ∀ {L : List (Addr × List Int)}, (∀ p ∈ L, H p.1 = some (.tup (p.2.map V.int)) ∧ ∃ a b, p.2 = [a, b]) → LR CrAt H (L.map fun q => V.ref q.1) (L.map crOf)
  | [], _ => trivial
  | p :: L, h => by
    obtain ⟨a, x, y, e⟩ := h p List.mem_cons_self
    refine ⟨⟨p.1, rfl, ?_⟩, crs_at fun q hq => h q (List.mem_cons_of_mem _ hq)⟩
    rw [a]
    unfold crOf
    rw [e]
    rfl
theorem crs_ok {n : Int} {L : List (Addr × List Int)} (h : ∀ p ∈ L, ∃ t m, p.2 = [t, m] ∧ 1 ≤ t ∧ t ≤ 20000 ∧ 0 ≤ m ∧ m < n) (hn : n ≤ 20) (nd : (L.map (·.2)).Nodup) (pw : L.Pairwise fun q r => TS.code 32768 q.2 ≤ TS.code 32768 r.2) : CrsOk n (L.map crOf) := by
  refine ⟨fun c hc => ?_, ?_⟩
  · obtain ⟨p, hp, rfl⟩ := List.mem_map.mp hc
    obtain ⟨t, m, e, h1⟩ := h p hp
    refine ⟨t, m, ?_, h1⟩
    unfold crOf
    rw [e]
    rfl
  · rw [List.map_map, List.pairwise_map]
    have nd' : L.Pairwise fun q r => q.2 ≠ r.2 := List.Pairwise.of_map _ (fun _ _ h => h) nd
    refine List.Pairwise.imp_of_mem ?_ (pw.and nd')
    intro p q hp hq ⟨h1, h2⟩
    obtain ⟨t, m, e, a1, a2, a3, a4⟩ := h p hp
    obtain ⟨t', m', e', b1, b2, b3, b4⟩ := h q hq
    rw [e, e'] at h1 h2
    have c : ∀ x y : Int, TS.code 32768 [x, y] = x * 32768 + y := fun x y => by
      show x * 32768 ^ 1 + (y * 32768 ^ 0 + 0) = x * 32768 + y
      omega
    rw [c, c] at h1
    show cd (cpr (crOf p)) < cd (cpr (crOf q))
    have f : ∀ (r : Addr × List Int) (x y : Int), r.2 = [x, y] → cd (cpr (crOf r)) = x * 32768 + y := fun r x y e => by
      unfold crOf cpr cd
      rw [e]
      rfl
    rw [f p t m e, f q t' m' e']
    have : t * 32768 + m ≠ t' * 32768 + m' := fun z => h2 (by
      have z1 : t = t' := by omega
      have z2 : m = m' := by omega
      rw [z1, z2])
    omega
section
variable {P : Program} {w : World} {K : PySem.W.Frag} {mg : Str → Option Value} {base : Heap}
theorem ok_PlanError_init {A : Adr} (T : Txt P K mg A) : FnOk P w K mg base (L2.CX P w) 1 A.f_PlanError_init A.d_PlanError_init ["self", "code"] (spXInit A.c_PlanError) := by
  refine Sup.fn_super (F := ⟨"__init__", "PlanError.__init__", defArgs s_PlanError_init, defBody s_PlanError_init, defScope s_PlanError_init, [("__class__", A.cc_PlanError)], A.cd_PlanError⟩) (N := ["self", "code", "__class__"]) (ps' := ["code"]) (k := 0) T.x_PlanError.S (show NdefX.NScope _ _ _ (defScope s_PlanError_init) from NdefX.nscope_by (by decide +kernel)) rfl (fun vs H Q E h => ?_) (fun Ar outer s H vs Q E hr h => ?_) (fun _ => rfl) (fun _ => rfl) (fun _ => rfl) T.x_PlanError.hfd
  · obtain ⟨a, z, rfl, _⟩ := h
    rfl
  · obtain ⟨a, z, rfl, hz, ha, k⟩ := h
    refine ⟨a, [.str z], _, fun ws H1 => ws.length ≤ 1000 ∧ H1 = H, rfl, ha, pa_cons (pe_joined (PJ.cons pe_str (PJ.cons (pe_fmt (pv 1)) PJ.nil))) pa_nil, ?_, fun ws H1 q => ⟨q.1, by rw [q.2]; exact ha, _, pss_one (ps_ost (pv 0) (pv 1)), ?_⟩⟩
    · have h1 : (Str.empty ++ ("refused: " : Str)).length + z.length ≤ sizeLine := by
        have e : (Str.empty ++ ("refused: " : Str)).length = 9 := by decide +kernel
        rw [e, sizeLine_eq]
        omega
      refine ⟨_, rfl, by decide +kernel, _, rfl, .inl ⟨z, rfl, by rw [sizeLine_eq]; omega, z, rfl, ?_, ?_⟩⟩
      · rw [Str.length_append]; exact h1
      · exact ⟨(show 1 ≤ 1000 by decide), rfl⟩
    · rw [q.2]
      exact ⟨_, rfl, _, rfl, a, A.c_PlanError, rfl, T.x_PlanError.S.T, T.x_PlanError.no_code, .inl ⟨ha, fun dx n ne => k dx n ne⟩⟩
theorem ok_is_number {A : Adr} (T : Txt P K mg A) : FnOk P w K mg base CX0 1 A.f_is_number A.d_is_number ["value", "least", "most"] spNum := by
  refine T.is_number.F.ok sc_is_number (fun vs H Q E h => ?_) (fun cdv Ar outer s H vs Q E hr h => ?_)
  · obtain ⟨v, lo, hi, rfl, _⟩ := h
    rfl
  · obtain ⟨v, lo, hi, rfl, hv, k⟩ := h
    refine ⟨_, (pss_one (ps_ret (pe_and (pe_callB (id := "isinstance") call_isi (by rfl) T.b_isinstance (by decide +kernel) (pa_cons (pv 0) (pa_cons (pe_bltn (v := .ty "int") (by rfl) T.b_int (by decide +kernel) rfl) pa_nil))) (pe_and (pe_not (pe_callB (id := "isinstance") call_isi (by rfl) T.b_isinstance (by decide +kernel) (pa_cons (pv 0) (pa_cons (pe_bltn (v := .ty "bool") (by rfl) T.b_bool (by decide +kernel) rfl) pa_nil)))) (pe_one (pe_chain op_le op_le (pv 1) (pv 0) (pv 2))))))), ?_⟩
    walk_at "eo init"
    rcases hv with ⟨i, rfl⟩ | ⟨b, rfl⟩
    · walk_at "eo go"
      refine g_isiI (b := true) (kit_ty (by decide +kernel)) ?_
      walk_at "eo go"
      refine g_isiI (b := false) (kit_ty (by decide +kernel)) ?_
      walk_at "eo go"
      refine g_ite (fun z => ?_) (fun z => ?_)
      · walk_at "eo go"
        have e : isnum (.int i) lo hi = decide (i ≤ hi) := by
          show (decide (lo ≤ i) && decide (i ≤ hi)) = _
          rw [z, Bool.true_and]
        rw [e] at k
        exact k
      · have e : isnum (.int i) lo hi = false := by
          show (decide (lo ≤ i) && decide (i ≤ hi)) = _
          rw [z, Bool.false_and]
        rw [e] at k
        exact k
    · walk_at "eo go"
      refine g_isiB (b := true) (kit_ty (by decide +kernel)) ?_
      walk_at "eo go"
      refine g_isiB (b := true) (kit_ty (by decide +kernel)) ?_
      walk_at "eo go"
      exact k
theorem ok_need {A : Adr} (T : Txt P K mg A) : FnOk P w K mg base (L2.CX P w) 3 A.f_need A.d_need ["is_right", "code"] (spNeed A.c_PlanError) := by
  refine T.need.F.okX sc_need (fun vs H Q E h => ?_) (fun cdv Ar outer s H vs Q E hr h => ?_)
  · obtain ⟨b, z, rfl, _⟩ := h
    rfl
  · obtain ⟨b, z, rfl, hz, k1, k2⟩ := h
    refine ⟨_, (pss_one (ps_if (pt_not (pt_truth (pv 0) (by intro _; rfl))) (pss_one (ps_raise rfl (takes_of rfl rfl rfl rfl) (pmk_oex T.x_PlanError.S.T T.x_PlanError.iC T.x_PlanError.tI (ok_PlanError_init T) (hr.mono (by decide)) T.x_PlanError.b .nil passL (by rfl) T.x_PlanError.mg (pa_cons (pv 1) pa_nil)))) pss_nil)), ?_⟩
    walk_at "eo init"
    walk_at "eo go"
    cases b with
    | true =>
      walk_at "eo go"
      exact k1 rfl
    | false =>
      walk_at "eo go"
      exact ⟨_, rfl, g_mkO (σ := []) hz fun d H' e hx => k2 rfl d H' e hx⟩
theorem ok_law_begin {A : Adr} (T : Txt P K mg A) : FnOk P w K mg base CX0 1 A.f_law_begin A.d_law_begin ["script"] (spBegin K) := by
  refine T.law_begin.F.ok sc_law_begin (fun vs H Q E h => ?_) (fun cdv Ar outer s H vs Q E hr h => ?_)
  · obtain ⟨a, ns, rfl, _⟩ := h
    rfl
  · obtain ⟨a, ns, rfl, hS, hlen, k⟩ := h
    refine ⟨_, (pss_cons (ps_set (i := 1) sc_law_begin.nd rfl (Or.inl rfl) pe_int)
      (pss_cons (ps_for PassesOwn.never rfl (pi_list (pv 0)) (pg_name (i := 2) sc_law_begin.nd rfl (Or.inl rfl)) (pss_one (ps_set (i := 1) sc_law_begin.nd rfl (Or.inl rfl) (pe_op op_mod (pe_op o_add (pe_op o_add (pe_op o_mul (pv 1) pe_int) (pe_op op_mod (pe_callTy (T := "int") o_int (by rfl) T.b_int (by decide +kernel) (pa_cons (pv 2) pa_nil)) pe_int)) pe_int) pe_int))))
      (pss_one (ps_ret (pe_lstX (pa_cons (pe_callTy (T := "list") o_list (by rfl) T.b_list (by decide +kernel) (pa_cons (pv 0) pa_nil)) (pa_cons pe_int (pa_cons pe_int (pa_cons (pv 1) pa_nil))))))))), ?_⟩
    walk_at "eo init"
    walk_at "eo go"
    refine g_forL (ns.map V.int) hS (fun i σ H' => ∃ (z : Int) (c : Option V), σ = [some (.ref a), some (.int z), c] ∧ H' = H) ⟨1, none, rfl, rfl⟩ (fun i σ H' _ ⟨_, _, _, e⟩ => by rw [e]; exact hS) ?_ ?_
    · rintro i x σ H' hi ⟨z, c, rfl, rfl⟩
      obtain ⟨n, _, rfl⟩ := mem_map_int hi
      walk_at "eo go"
      exact ⟨_, _, rfl, rfl⟩
    · rintro σ H' ⟨z, c, rfl, rfl⟩
      walk_at "eo go"
      rename_i s1 H1 hs1 e1 hl d1 H2 hd1 e2 hd
      have f1 : H2 s1 = some (.lst (ns.map V.int)) := by walk_at "eo fact"
      exact k d1 s1 H2 (by walk_at "eo free") hs1 (by walk_at "eo ext") ⟨(ne_of_none hl hd1).symm, ns, 0, 0, z, hd, f1, hlen, Int.le_refl _, Int.le_refl _⟩
theorem ok_law_take {A : Adr} (T : Txt P K mg A) : FnOk P w K mg base CX0 1 A.f_law_take A.d_law_take ["d", "many"] spTake := by
  refine T.law_take.F.ok sc_law_take (fun vs H Q E h => ?_) (fun cdv Ar outer s H vs Q E hr h => ?_)
  · obtain ⟨d, s, many, rfl, _⟩ := h
    rfl
  · obtain ⟨d, s, many, rfl, ⟨ne, ns, pos, cur, seed, hd, hs, hlen, hp, hc⟩, hm, hm2, k⟩ := h
    refine ⟨_, (pss_cons (ps_if (PW.pt (pw_and (pt_cmpR (o_eq hr.units) (pe_ix ix_seq (pv 0) pe_int (fun _ _ => rfl)) pe_int (nomark _)) (pw_and1 (pt_cmpR op_lt (pe_ix ix_seq (pv 0) pe_int (fun _ _ => rfl)) (pe_callB (id := "len") o_len (by rfl) T.b_len (by decide +kernel) (pa_cons (pe_ix ix_seq (pv 0) pe_int (fun _ _ => rfl)) pa_nil)) (nomark _))))) (pss_cons (ps_asg (pe_callB (id := "abs") o_abs (by rfl) T.b_abs (by decide +kernel) (pa_cons (pe_callTy (T := "int") o_int (by rfl) T.b_int (by decide +kernel) (pa_cons (pe_ix ix_seq (pe_ix ix_seq (pv 0) pe_int (fun _ _ => rfl)) (pe_ix ix_seq (pv 0) pe_int (fun _ _ => rfl)) (fun _ _ => rfl)) pa_nil)) pa_nil)) (pg_sub (pv 0) pe_int set_list))
      (pss_cons (ps_asg (pe_op o_add (pe_ix ix_seq (pv 0) pe_int (fun _ _ => rfl)) pe_int) (pg_sub (pv 0) pe_int set_list))
      (pss_one (ps_if (pt_chain op_lt op_lt pe_int (pe_ix ix_seq (pv 0) pe_int (fun _ _ => rfl)) (pv 1)) (pss_cons (ps_set (i := 2) sc_law_take.nd rfl (Or.inl rfl) (pe_ix ix_seq (pv 0) pe_int (fun _ _ => rfl)))
      (pss_cons (ps_asg pe_int (pg_sub (pv 0) pe_int set_list))
      (pss_one (ps_ret (pv 2))))) pss_nil)))) pss_nil)
      (pss_cons (ps_if (pt_cmpR op_gt (pe_ix ix_seq (pv 0) pe_int (fun _ _ => rfl)) pe_int (nomark _)) (pss_cons (ps_set (i := 3) sc_law_take.nd rfl (Or.inl rfl) (pe_op op_mod (pe_callTy (T := "int") o_int (by rfl) T.b_int (by decide +kernel) (pa_cons (pe_ix ix_seq (pv 0) pe_int (fun _ _ => rfl)) pa_nil)) (pv 1)))
      (pss_cons (ps_asg (pe_op op_fdivW (pe_callTy (T := "int") o_int (by rfl) T.b_int (by decide +kernel) (pa_cons (pe_ix ix_seq (pv 0) pe_int (fun _ _ => rfl)) pa_nil)) (pv 1)) (pg_sub (pv 0) pe_int set_list))
      (pss_one (ps_ret (pv 3))))) pss_nil)
      (pss_cons (ps_asg (pe_op op_mod (pe_callTy (T := "int") o_int (by rfl) T.b_int (by decide +kernel) (pa_cons (pe_op o_add (pe_op o_mul (pe_ix ix_seq (pv 0) pe_int (fun _ _ => rfl)) pe_int) pe_int) pa_nil)) pe_int) (pg_sub (pv 0) pe_int set_list))
      (pss_one (ps_ret (pe_op op_mod (pe_callTy (T := "int") o_int (by rfl) T.b_int (by decide +kernel) (pa_cons (pe_op op_fdivW (pe_ix ix_seq (pv 0) pe_int (fun _ _ => rfl)) pe_int) pa_nil)) (pv 1))))))), ?_⟩
    walk_at "eo init"
    have nsd : s ≠ d := ne.symm
    have leaf : ∀ (x : Int) (H1 : Hp) (pos cur seed : Int), Ext [d] H H1 → H1 d = some (.lst [.ref s, .int pos, .int cur, .int seed]) → 0 ≤ pos → 0 ≤ cur → Q (.int (x % many)) H1 := fun x H1 p c sd e h1 p1 p2 =>
      k _ _ (Int.emod_nonneg _ (by omega)) (Int.emod_lt_of_pos _ hm) e ⟨ne, ns, p, c, sd, h1, e.keep _ _ hs (nin1 nsd), hlen, p1, p2⟩
    walk_at "eo go"
    refine g_ite (fun h1 => ?_) (fun h1 => ?_)
    · have h1' := vint (dec_t h1)
      subst h1'
      walk_at "eo go"
      refine g_ite (fun h2 => ?_) (fun h2 => ?_)
      · have h2' := dec_t h2
        have hpl : pos.toNat < ns.length := by rw [List.length_map] at h2'; omega
        have ha : (ns.map V.int)[pos.toNat]? = some (.int ns[pos.toNat]) := by simp [hpl]
        walk_at "eo go"
        refine g_ite (fun h3 => ?_) (fun h3 => ?_)
        · walk_at "eo go"
          refine g_ite (fun h4 => ?_) (fun h4 => ?_)
          · have h4' := dec_t h4
            walk_at "eo go"
            rename_i e3 f3
            exact k _ _ (by omega) h4' (by walk_at "eo ext") ⟨ne, ns, _, _, _, f3, by walk_at "eo fact", hlen, by omega, by omega⟩
          · walk_at "eo go"
            rename_i H9 _ f9
            exact leaf _ _ _ _ _ (by walk_at "eo ext") f9 (by omega) (Int.ediv_nonneg (by omega) (Int.le_of_lt hm))
        · walk_at "eo go"
          rename_i H9 _ f9
          exact leaf _ _ _ _ _ (by walk_at "eo ext") f9 (by omega) (by omega)
      · walk_at "eo go"
        rename_i H9 _ f9
        exact leaf _ _ _ _ _ (by walk_at "eo ext") f9 hp hc
    · have h1' : ¬ cur = 0 := fun z => dec_f h1 (by rw [z])
      have h3 : decide (0 < cur) = true := decide_eq_true (by omega)
      walk_at "eo go"
      rename_i H9 _ f9
      exact leaf _ _ _ _ _ (by walk_at "eo ext") f9 hp (Int.ediv_nonneg hc (Int.le_of_lt hm))
theorem ok_law_pick {A : Adr} (T : Txt P K mg A) : FnOk P w K mg base CX0 2 A.f_law_pick A.d_law_pick ["d", "menu"] (spPick K) := by
  refine T.law_pick.F.ok sc_law_pick (fun vs H Q E h => ?_) (fun cdv Ar outer s H vs Q E hr h => ?_)
  · obtain ⟨d, s, m, xs, rfl, _⟩ := h
    rfl
  · obtain ⟨d, s, m, xs, rfl, hD, hm, nmd, h0, h1, k⟩ := h
    refine ⟨_, (pss_one (ps_ret (pe_ix ix_seq (pv 1) (pe_call (ok_law_take T) (hr.mono (by decide)) (by rfl) T.law_take.mg T.law_take.kp T.law_take.b .nil pass0 (pa_cons (pv 0) (pa_cons (pe_callB (id := "len") o_len (by rfl) T.b_len (by decide +kernel) (pa_cons (pv 1) pa_nil)) pa_nil))) (fun _ _ => rfl)))), ?_⟩
    walk_at "eo init"
    walk_at "eo go"
    refine ⟨d, s, _, rfl, hD, by omega, by omega, fun i H' i0 i1 e D' => ?_⟩
    have hi : i.toNat < xs.length := by omega
    have ha : xs[i.toNat]? = some xs[i.toNat] := by simp [hi]
    have hm' : SqL K H' m xs := sqL_ext e hm fun _ _ => nin1 nmd
    walk_at "eo go"
    exact k _ _ (List.getElem_mem hi) e D'
section
variable {K : PySem.W.Frag} {H : Hp} {Q : VK} {E : XK}
theorem g_take {d s : Addr} {many : Int} (hD : DSt H d s) (h0 : 0 < many) (h1 : many < 2 ^ 64) (h : ∀ k H', 0 ≤ k → k < many → Ext [d] H H' → DSt H' d s → Q (.int k) H') : spTake ([.ref d, .int many] ++ []) H Q E := ⟨d, s, many, rfl, hD, h0, h1, h⟩
theorem g_pick {d s m : Addr} {xs : List V} (hD : DSt H d s) (hm : SqL K H m xs) (ne : m ≠ d) (h0 : 0 < xs.length) (h1 : xs.length < 1000) (h : ∀ v H', v ∈ xs → Ext [d] H H' → DSt H' d s → Q v H') : spPick K ([.ref d, .ref m] ++ []) H Q E := ⟨d, s, m, xs, rfl, hD, hm, ne, h0, h1, h⟩
end
def spOct (K : PySem.W.Frag) : Sp := fun vs H Q _ => ∃ (d s : Addr) (most : Int), vs = [.ref d, .int most] ∧ DSt H d s ∧ 0 ≤ most ∧ most < 1000 ∧
  ∀ (c : Addr) (ns : List Int) (H' : Hp), Ext [d] H H' → DSt H' d s → SqT K H' c (ns.map V.int) → (∀ x ∈ ns, 0 ≤ x ∧ x ≤ 255) → (ns.length : Int) ≤ most → Q (.ref c) H'
theorem g_oct {K : PySem.W.Frag} {H : Hp} {Q : VK} {E : XK} {d s : Addr} {most : Int} (hD : DSt H d s) (h0 : 0 ≤ most) (h1 : most < 1000)
    (h : ∀ (c : Addr) (ns : List Int) (H' : Hp), Ext [d] H H' → DSt H' d s → SqT K H' c (ns.map V.int) → (∀ x ∈ ns, 0 ≤ x ∧ x ≤ 255) → (ns.length : Int) ≤ most → Q (.ref c) H') : spOct K ([.ref d, .int most] ++ []) H Q E := ⟨d, s, most, rfl, hD, h0, h1, h⟩
local macro_rules | `(tactic| walk_at "eo step") => `(tactic| first
  | ((with_reducible apply g_take); (walk_at "eo dst"); (walk_at "eo arith"); (walk_at "eo arith"); intro _ _ _ _ _ _)
  | ((with_reducible apply g_pick); (walk_at "eo dst"); (walk_at "eo sqL"); (walk_at "eo ne"); (walk_at "eo pos"); (walk_at "eo pos"); intro _ _ _ _ _)
  | ((with_reducible apply g_oct); (walk_at "eo dst"); (walk_at "eo arith"); (walk_at "eo arith"); intro _ _ _ _ _ _ _ _))
local macro_rules | `(tactic| walk_at "eo pos") => `(tactic| first | exact Nat.zero_lt_succ _ | exact lt1000)
theorem ok_copy_right {A : Adr} (T : Txt P K mg A) : FnOk P w K mg base CX0 2 A.f_copy_right A.d_copy_right ["copy"] (spCopy K) := by
  refine T.copy_right.F.ok sc_copy_right (fun vs H Q E h => ?_) (fun cdv Ar outer s H vs Q E hr h => ?_)
  · obtain ⟨x, c, rfl, _⟩ := h
    rfl
  · obtain ⟨x, c, rfl, hc, hd, hl, k⟩ := h
    refine ⟨_, (pss_cons (ps_asg (pv 0) (pg_tup (n := 2) rfl (pgs_cons (pg_name (i := 1) sc_copy_right.nd rfl (Or.inl rfl)) (pgs_cons (pg_name (i := 2) sc_copy_right.nd rfl (Or.inl rfl)) pgs_nil))))
      (pss_cons (ps_if (PW.pt (pw_or (pt_not (pt_truth (pe_call (ok_is_number T) (hr.mono (by decide)) (by rfl) T.is_number.mg T.is_number.kp T.is_number.b .nil pass0 (pa_cons (pv 1) (pa_cons pe_int (pa_cons (pe_g rfl T.g_MOST_DELAY) pa_nil)))) (by intro _; rfl))) (pw_or1 (pt_cmpR op_gt (pe_callB (id := "len") o_len (by rfl) T.b_len (by decide +kernel) (pa_cons (pv 2) pa_nil)) (pe_g rfl T.g_MOST_FLIPS) (nomark _))))) (pss_one (ps_ret pe_bl)) pss_nil)
      (pss_one (ps_ret (pe_and (pe_callB (id := "all") (cr_all rfl) (by rfl) T.b_all (by decide +kernel) (pa_cons (pe_lc (own := [("own", 3)]) (tt := stT tYes) rfl sc_copy_right.nd (pi_tup (pv 2)) (blkOk_by (own := [("own", 3)]) (N := ["copy", "delay", "flips", "own"]) (sc := defScope s_copy_right) (by decide +kernel)) (fun _ _ _ _ _ => PG.star (pg_name (i := 3) sc_copy_right.nd rfl (Or.inl rfl) (Or.inr rfl))) (fun _ _ _ _ _ => PTs.star (pts_nil)) (fun _ _ _ _ _ => PE.star (pe_call (ok_is_number T) (hr.mono (by decide)) (by rfl) T.is_number.mg T.is_number.kp T.is_number.b .nil pass0 (pa_cons (pv 3) (pa_cons pe_int (pa_cons (pe_op op_sub (pe_g rfl T.g_PLACES) pe_int) pa_nil)))))) pa_nil)) (pe_one (pe_cmpR (o_eq hr.units) (pe_callB (id := "len") o_len (by rfl) T.b_len (by decide +kernel) (pa_cons (pe_dc (own := [("own", 3)]) (tt := stT tYes) rfl sc_copy_right.nd (pi_tup (pv 2)) (blkOk_by (own := [("own", 3)]) (N := ["copy", "delay", "flips", "own"]) (sc := defScope s_copy_right) (by decide +kernel)) (fun _ _ _ _ _ => PG.star (pg_name (i := 3) sc_copy_right.nd rfl (Or.inl rfl) (Or.inr rfl))) (fun _ _ _ _ _ => PTs.star (pts_nil)) (fun _ _ _ _ _ => PE.star (pv 3)) (fun _ _ _ _ _ => PE.star pe_bl)) pa_nil)) (pe_callB (id := "len") o_len (by rfl) T.b_len (by decide +kernel) (pa_cons (pv 2) pa_nil)) (nomark _)))))))), ?_⟩
    obtain ⟨t, fl, rfl, ht, hf⟩ := hc
    walk_at "eo init"
    walk_at "eo go"
    refine ⟨c.d, 1, 6, rfl, hd, ?_⟩
    have hk : ∀ b H', cpOk c = b → Ext [] H H' → Q (.bl b) H' := fun b H' e1 e2 => by rw [← e1]; exact k H' e2
    clear k
    walk_at "eo go"
    cases h1 : isnum c.d 1 6 with
    | false =>
      walk_at "eo go"
      exact hk _ _ (by unfold cpOk; rw [h1]; rfl) (Ext.refl _)
    | true =>
      walk_at "eo go"
      refine g_ite (fun z => ?_) (fun z => ?_)
      · walk_at "eo go"
        rw [List.length_map] at z
        have z' := dec_t z
        exact hk _ _ (by unfold cpOk; rw [h1, decide_eq_false (by omega)]; rfl) (Ext.refl _)
      · rw [List.length_map] at z
        have z' := dec_f z
        have hl3 : c.f.length ≤ 3 := by omega
        walk_at "eo go"
        refine g_lcR walk_tup IsV (fun _ q => q) ((c.f.map fun i => inB i 0 3999).map V.bl) (by simp) (by simp; omega) (fun H e => sqT_ext e hf) ?_ ?_
        · rintro i x H' H2 b hb e ⟨rfl, hx⟩
          obtain ⟨n, hn, rfl⟩ := mem_map_int hx
          rw [List.getElem?_map, List.getElem?_map, hn] at hb
          cases hb
          walk_at "eo go"
          refine ⟨rfl, ?_⟩
          walk_at "eo go"
          refine ⟨.int n, 0, 3999, rfl, .inl ⟨_, rfl⟩, ?_⟩
          exact ⟨Ext.refl _, rfl⟩
        · intro D H2 acc e n0 hA hD
          have hA := lr_v hA
          subst hA
          have hf := sqT_ext e hf
          walk_at "eo go"
          refine ⟨D, _, rfl, SqL.of hD, ?_⟩
          have ea : (c.f.map fun i => inB i 0 3999).all id = c.f.all fun i => inB i 0 3999 := by rw [List.all_map]; rfl
          rw [ea]
          walk_at "eo go"
          cases h2 : c.f.all fun i => inB i 0 3999 with
          | false =>
            walk_at "eo go"
            exact hk _ _ (by unfold cpOk; rw [h1, h2, decide_eq_true hl3]; rfl) e
          | true =>
            walk_at "eo go"
            refine g_dck ?_
            walk_at "eo go"
            refine ⟨fl, rfl, ⟨_, hf⟩, ?_⟩
            refine g_dcI walk_tup c.f (by simp) (by simp; omega) (fun H3 e3 => sqT_ext e3 hf) ?_ ?_
            · rintro i x H' H3 b hb e ⟨rfl, hx⟩
              rw [List.getElem?_map, hb] at hx
              cases hx
              walk_at "eo go"
              refine ⟨rfl, ?_⟩
              walk_at "eo go"
              exact ⟨rfl, Ext.refl _, rfl⟩
            · intro D2 H3 e3 n3 hD3
              have hf := sqT_ext e3 hf
              walk_at "eo go"
              have ek : cpOk c = decide (c.f.Nodup) := by unfold cpOk; rw [h1, h2, decide_eq_true hl3]; rfl
              refine hk _ _ ?_ (e.trans e3 (fun _ z => z) (fun _ z => by cases z))
              rw [ek, ← dd_sameV]
              unfold kdG
              rw [List.length_map, List.length_map]
theorem ok_check_plan {A : Adr} (T : Txt P K mg A) : FnOk P w K mg base (L2.CX P w) 4 A.f_check_plan A.d_check_plan ["topology", "plan"] (spPlan K A.c_PlanError) := by
  refine T.check_plan.F.okX sc_check_plan (fun vs H Q E h => ?_) (fun cdv Ar outer s H vs Q E hr h => ?_)
  · obtain ⟨tp, p, n, ts, R, rfl, _⟩ := h
    rfl
  · obtain ⟨tp, p, n, ts, R, rfl, ht, hp, hw, kok, kbad⟩ := h
    refine ⟨_, (pss_cons (ps_asg (pv 1) (pg_tup (n := 3) rfl (pgs_cons (pg_name (i := 2) sc_check_plan.nd rfl (Or.inl rfl)) (pgs_cons (pg_name (i := 3) sc_check_plan.nd rfl (Or.inl rfl)) (pgs_cons (pg_name (i := 4) sc_check_plan.nd rfl (Or.inl rfl)) pgs_nil)))))
      (pss_cons (ps_for (passes_of rfl) rfl (pi_tup (pv 2)) (pg_name (i := 5) sc_check_plan.nd rfl (Or.inl rfl)) (pss_one (ps_expr (pe_callS (ok_need T) (hr.mono (by decide)) (by rfl) T.need.mg T.need.kp T.need.b (fun σ => passAt (takes_of rfl rfl rfl rfl) σ) (pa_cons (pe_and (pe_cmpR op_le (pe_callB (id := "len") o_len (by rfl) T.b_len (by decide +kernel) (pa_cons (pv 5) pa_nil)) (pe_g rfl T.g_MOST_COPIES) (nomark _)) (pe_one (pe_callB (id := "all") (cr_all rfl) (by rfl) T.b_all (by decide +kernel) (pa_cons (pe_lc (own := [("own", 14)]) (tt := stT tYes) rfl sc_check_plan.nd (pi_tup (pv 5)) (blkOk_by (own := [("own", 14)]) (N := ["topology", "plan", "fates", "edges", "crashes", "fate", "pairs", "times", "most", "a", "b", "_", "time", "is_up", "own", "node"]) (sc := defScope s_check_plan) (by decide +kernel)) (fun _ _ _ _ _ => PG.star (pg_name (i := 14) sc_check_plan.nd rfl (Or.inl rfl) (Or.inr rfl))) (fun _ _ _ _ _ => PTs.star (pts_nil)) (fun _ _ _ _ _ => PE.star (pe_call (ok_copy_right T) (hr.mono (by decide)) (by rfl) T.copy_right.mg T.copy_right.kp T.copy_right.b .nil pass0 (pa_cons (pv 14) pa_nil)))) pa_nil)))) (pa_cons pe_str pa_nil))))))
      (pss_cons (ps_set (i := 6) sc_check_plan.nd rfl (Or.inr rfl) (pe_lc (own := [("a", 9), ("b", 10), ("_", 11)]) (tt := stT tYes) rfl sc_check_plan.nd (pi_tup (pe_ix ix_seq (pv 0) pe_int (fun _ _ => rfl))) (blkOk_by (own := [("a", 9), ("b", 10), ("_", 11)]) (N := ["topology", "plan", "fates", "edges", "crashes", "fate", "pairs", "times", "most", "a", "b", "_", "time", "is_up", "own", "node"]) (sc := defScope s_check_plan) (by decide +kernel)) (fun _ _ _ _ _ => PG.star (kkTup (K := K) rfl (pg_tup (n := 4) rfl (pgs_cons (pg_name (i := 9) sc_check_plan.nd rfl (Or.inl rfl) (Or.inr rfl)) (pgs_cons (pg_name (i := 10) sc_check_plan.nd rfl (Or.inl rfl) (Or.inr rfl)) (pgs_cons (pg_name (i := 11) sc_check_plan.nd rfl (Or.inl rfl) (Or.inr rfl)) (pgs_cons (pg_name (i := 11) sc_check_plan.nd rfl (Or.inl rfl) (Or.inr rfl)) pgs_nil))))))) (fun _ _ _ _ _ => PTs.star (pts_nil)) (fun _ _ _ _ _ => PE.star (pe_tupX (pa_cons (pv 9) (pa_cons (pv 10) pa_nil))))))
      (pss_cons (ps_setLc (i := 7) (own := [("time", 12), ("a", 9), ("b", 10), ("_", 11)]) (tt := stT tYes) rfl sc_check_plan.nd rfl rfl (sw_true rfl rfl rfl (by decide +kernel)) (pi_tup (pv 3)) (blkOk_by (own := [("time", 12), ("a", 9), ("b", 10), ("_", 11)]) (N := ["topology", "plan", "fates", "edges", "crashes", "fate", "pairs", "times", "most", "a", "b", "_", "time", "is_up", "own", "node"]) (sc := defScope s_check_plan) (by decide +kernel)) (fun _ _ _ _ _ => PG.star (kkTup (K := K) rfl (pg_tup (n := 4) rfl (pgs_cons (pg_name (i := 12) sc_check_plan.nd rfl (Or.inl rfl) (Or.inr rfl)) (pgs_cons (pg_name (i := 9) sc_check_plan.nd rfl (Or.inl rfl) (Or.inr rfl)) (pgs_cons (pg_name (i := 10) sc_check_plan.nd rfl (Or.inl rfl) (Or.inr rfl)) (pgs_cons (pg_name (i := 11) sc_check_plan.nd rfl (Or.inl rfl) (Or.inr rfl)) pgs_nil))))))) (fun _ _ _ _ _ => PTs.star (pts_nil)) (fun _ _ _ _ _ => PE.star (pe_tupX (pa_cons (pv 12) (pa_cons (pv 9) (pa_cons (pv 10) pa_nil))))))
      (pss_cons (ps_expr (pe_callS (ok_need T) (hr.mono (by decide)) (by rfl) T.need.mg T.need.kp T.need.b (fun σ => passAt (takes_of rfl rfl rfl rfl) σ) (pa_cons (pe_callB (id := "all") (cr_all rfl) (by rfl) T.b_all (by decide +kernel) (pa_cons (pe_lc (own := [("time", 12), ("a", 9), ("b", 10)]) (tt := stT tYes) rfl sc_check_plan.nd (pi_list (pv 7)) (blkOk_by (own := [("time", 12), ("a", 9), ("b", 10)]) (N := ["topology", "plan", "fates", "edges", "crashes", "fate", "pairs", "times", "most", "a", "b", "_", "time", "is_up", "own", "node"]) (sc := defScope s_check_plan) (by decide +kernel)) (fun _ _ _ _ _ => PG.star (kkTup (K := K) rfl (pg_tup (n := 3) rfl (pgs_cons (pg_name (i := 12) sc_check_plan.nd rfl (Or.inl rfl) (Or.inr rfl)) (pgs_cons (pg_name (i := 9) sc_check_plan.nd rfl (Or.inl rfl) (Or.inr rfl)) (pgs_cons (pg_name (i := 10) sc_check_plan.nd rfl (Or.inl rfl) (Or.inr rfl)) pgs_nil)))))) (fun _ _ _ _ _ => PTs.star (pts_nil)) (fun _ _ _ _ _ => PE.star (pe_and (pe_cmpR (kkOpR (r := rInDL) (K := K) rfl (o_in_ldata (r65 hr))) (pe_tupX (pa_cons (pv 9) (pa_cons (pv 10) pa_nil))) (pv 6) rfl) (pe_one (pe_call (ok_is_number T) (hr.mono (by decide)) (by rfl) T.is_number.mg T.is_number.kp T.is_number.b .nil pass0 (pa_cons (pv 12) (pa_cons pe_int (pa_cons (pe_g rfl T.g_MOST_TIME) pa_nil)))))))) pa_nil)) (pa_cons pe_str pa_nil))))
      (pss_cons (ps_expr (pe_callS (ok_need T) (hr.mono (by decide)) (by rfl) T.need.mg T.need.kp T.need.b (fun σ => passAt (takes_of rfl rfl rfl rfl) σ) (pa_cons (pe_callB (id := "all") (cr_all rfl) (by rfl) T.b_all (by decide +kernel) (pa_cons (pe_lc (own := [("_", 11), ("is_up", 13)]) (tt := stT tYes) rfl sc_check_plan.nd (pi_tup (pv 3)) (blkOk_by (own := [("_", 11), ("is_up", 13)]) (N := ["topology", "plan", "fates", "edges", "crashes", "fate", "pairs", "times", "most", "a", "b", "_", "time", "is_up", "own", "node"]) (sc := defScope s_check_plan) (by decide +kernel)) (fun _ _ _ _ _ => PG.star (kkTup (K := K) rfl (pg_tup (n := 4) rfl (pgs_cons (pg_name (i := 11) sc_check_plan.nd rfl (Or.inl rfl) (Or.inr rfl)) (pgs_cons (pg_name (i := 11) sc_check_plan.nd rfl (Or.inl rfl) (Or.inr rfl)) (pgs_cons (pg_name (i := 11) sc_check_plan.nd rfl (Or.inl rfl) (Or.inr rfl)) (pgs_cons (pg_name (i := 13) sc_check_plan.nd rfl (Or.inl rfl) (Or.inr rfl)) pgs_nil))))))) (fun _ _ _ _ _ => PTs.star (pts_nil)) (fun _ _ _ _ _ => PE.star (pe_callB (id := "isinstance") (kkCallR (r := rIsi) (K := K) rfl call_isi) (by rfl) T.b_isinstance (by decide +kernel) (pa_cons (pv 13) (pa_cons (pe_bltn (v := .ty "bool") (by rfl) T.b_bool (by decide +kernel) rfl) pa_nil))))) pa_nil)) (pa_cons pe_str pa_nil))))
      (pss_cons (ps_expr (pe_callS (ok_need T) (hr.mono (by decide)) (by rfl) T.need.mg T.need.kp T.need.b (fun σ => passAt (takes_of rfl rfl rfl rfl) σ) (pa_cons (pe_cmpR (o_eq hr.units) (pe_lc (own := [("own", 14)]) (tt := stT tYes) rfl sc_check_plan.nd (pi_list (pv 7)) (blkOk_by (own := [("own", 14)]) (N := ["topology", "plan", "fates", "edges", "crashes", "fate", "pairs", "times", "most", "a", "b", "_", "time", "is_up", "own", "node"]) (sc := defScope s_check_plan) (by decide +kernel)) (fun _ _ _ _ _ => PG.star (pg_name (i := 14) sc_check_plan.nd rfl (Or.inl rfl) (Or.inr rfl))) (fun _ _ _ _ _ => PTs.star (pts_nil)) (fun _ _ _ _ _ => PE.star (pe_ix (kkIxR (r := rIx) (K := K) rfl ix_seq) (pv 14) pe_int (fun _ _ => rfl)))) (pe_callB (id := "sorted") cr_sorted (by rfl) T.b_sorted (by decide +kernel) (pa_cons (pe_lc (own := [("own", 14)]) (tt := stT tYes) rfl sc_check_plan.nd (pi_list (pv 7)) (blkOk_by (own := [("own", 14)]) (N := ["topology", "plan", "fates", "edges", "crashes", "fate", "pairs", "times", "most", "a", "b", "_", "time", "is_up", "own", "node"]) (sc := defScope s_check_plan) (by decide +kernel)) (fun _ _ _ _ _ => PG.star (pg_name (i := 14) sc_check_plan.nd rfl (Or.inl rfl) (Or.inr rfl))) (fun _ _ _ _ _ => PTs.star (pts_nil)) (fun _ _ _ _ _ => PE.star (pe_ix (kkIxR (r := rIx) (K := K) rfl ix_seq) (pv 14) pe_int (fun _ _ => rfl)))) pa_nil)) (nomark _)) (pa_cons pe_str pa_nil))))
      (pss_cons (ps_expr (pe_callS (ok_need T) (hr.mono (by decide)) (by rfl) T.need.mg T.need.kp T.need.b (fun σ => passAt (takes_of rfl rfl rfl rfl) σ) (pa_cons (pe_cmpR (o_eq hr.units) (pe_callB (id := "len") call_len_dT (by rfl) T.b_len (by decide +kernel) (pa_cons (DcT.pe_dcT (hu := u1 hr.units) (own := [("own", 14)]) (tt := stT tYes) rfl sc_check_plan.nd (pi_list (pv 7)) (blkOk_by (own := [("own", 14)]) (N := ["topology", "plan", "fates", "edges", "crashes", "fate", "pairs", "times", "most", "a", "b", "_", "time", "is_up", "own", "node"]) (sc := defScope s_check_plan) (by decide +kernel)) (fun _ _ _ _ _ => PG.star (pg_name (i := 14) sc_check_plan.nd rfl (Or.inl rfl) (Or.inr rfl))) (fun _ _ _ _ _ => PTs.star (pts_nil)) (fun _ _ _ _ _ => PE.star (pv 14)) (fun _ _ _ _ _ => PE.star pe_bl)) pa_nil)) (pe_callB (id := "len") o_len (by rfl) T.b_len (by decide +kernel) (pa_cons (pv 7) pa_nil)) (nomark _)) (pa_cons pe_str pa_nil))))
      (pss_cons (ps_set (i := 8) sc_check_plan.nd rfl (Or.inr rfl) (pe_op op_sub (pe_ix ix_seq (pv 0) pe_int (fun _ _ => rfl)) pe_int))
      (pss_cons (ps_expr (pe_callS (ok_need T) (hr.mono (by decide)) (by rfl) T.need.mg T.need.kp T.need.b (fun σ => passAt (takes_of rfl rfl rfl rfl) σ) (pa_cons (pe_callB (id := "all") (cr_all rfl) (by rfl) T.b_all (by decide +kernel) (pa_cons (pe_lc (own := [("time", 12), ("node", 15)]) (tt := stT tYes) rfl sc_check_plan.nd (pi_tup (pv 4)) (blkOk_by (own := [("time", 12), ("node", 15)]) (N := ["topology", "plan", "fates", "edges", "crashes", "fate", "pairs", "times", "most", "a", "b", "_", "time", "is_up", "own", "node"]) (sc := defScope s_check_plan) (by decide +kernel)) (fun _ _ _ _ _ => PG.star (kkTup (K := K) rfl (pg_tup (n := 2) rfl (pgs_cons (pg_name (i := 12) sc_check_plan.nd rfl (Or.inl rfl) (Or.inr rfl)) (pgs_cons (pg_name (i := 15) sc_check_plan.nd rfl (Or.inl rfl) (Or.inr rfl)) pgs_nil))))) (fun _ _ _ _ _ => PTs.star (pts_nil)) (fun _ _ _ _ _ => PE.star (pe_and (pe_call (ok_is_number T) (hr.mono (by decide)) (by rfl) T.is_number.mg T.is_number.kp T.is_number.b .nil pass0 (pa_cons (pv 15) (pa_cons pe_int (pa_cons (pv 8) pa_nil)))) (pe_one (pe_call (ok_is_number T) (hr.mono (by decide)) (by rfl) T.is_number.mg T.is_number.kp T.is_number.b .nil pass0 (pa_cons (pv 12) (pa_cons pe_int (pa_cons (pe_g rfl T.g_MOST_TIME) pa_nil)))))))) pa_nil)) (pa_cons pe_str pa_nil))))
      (pss_one (ps_expr (pe_callS (ok_need T) (hr.mono (by decide)) (by rfl) T.need.mg T.need.kp T.need.b (fun σ => passAt (takes_of rfl rfl rfl rfl) σ) (pa_cons (pe_cmpR (o_eq hr.units) (pe_callTy (T := "list") o_list (by rfl) T.b_list (by decide +kernel) (pa_cons (pv 4) pa_nil)) (pe_callB (id := "sorted") (SortT.cr_sortDT (k := 2) (B := 32768) (by decide) rfl) (by rfl) T.b_sorted (by decide +kernel) (pa_cons (DcT.pe_dcT (hu := u1 hr.units) (own := [("own", 14)]) (tt := stT tYes) rfl sc_check_plan.nd (pi_tup (pv 4)) (blkOk_by (own := [("own", 14)]) (N := ["topology", "plan", "fates", "edges", "crashes", "fate", "pairs", "times", "most", "a", "b", "_", "time", "is_up", "own", "node"]) (sc := defScope s_check_plan) (by decide +kernel)) (fun _ _ _ _ _ => PG.star (pg_name (i := 14) sc_check_plan.nd rfl (Or.inl rfl) (Or.inr rfl))) (fun _ _ _ _ _ => PTs.star (pts_nil)) (fun _ _ _ _ _ => PE.star (pv 14)) (fun _ _ _ _ _ => PE.star pe_bl)) pa_nil)) (nomark _)) (pa_cons pe_str pa_nil))))))))))))))), ?_⟩
    obtain ⟨⟨te, xs, ht1, hx, hT⟩, n1, n20, tl⟩ := ht
    obtain ⟨tf, tg, tc, fs, es, cs, hp1, hf, hg, hc, hF, hG, hC⟩ := hp
    walk_at "eo init"
    walk_at "eo go"
    have g0 : ∀ {A B C : Hp}, Ext [] A B → Ext [] B C → Ext [] A C := fun {A B C} e f => e.trans f (fun _ z => z) (fun _ z => by cases z)
    refine g_forT fs (fun i σ H' => ∃ s5, σ = [some (.ref tp), some (.ref p), some (.ref tf), some (.ref tg), some (.ref tc), s5, none, none, none, none, none, none, none, none, none, none] ∧ Ext [] H H' ∧ (R.fs.take i).all ftOk = true) ⟨_, rfl, Ext.refl _, rfl⟩ (fun i σ H' _ ⟨_, _, e, _⟩ => sqT_ext e hf) ?_ ?_
    · rintro i x σ H' hi ⟨s5, rfl, e, hall⟩
      obtain ⟨f, hf1, t, ys, rfl, ht, hL⟩ := hF.get hi
      have hfm := List.mem_of_getElem? hf1
      have ht := sqT_ext e ht
      have hL := hL.imp fun _ _ => CpAt.ext e
      obtain ⟨hfn, hfl⟩ := hw.fs f hfm
      have hyl := hL.len
      have bad : ftOk f = false → ∀ d H2, Ext [] H' H2 → H2 d = some (.xd [("code", .str "fate")]) → E (.ref A.c_PlanError) (some d) H2 := fun h d H2 e2 hx =>
        kbad _ (by unfold pck; rw [if_pos (List.all_eq_false.mpr ⟨f, hfm, by rw [h]; decide⟩)]) d H2 (g0 e e2) hx
      walk_at "eo go"
      refine g_callS ?_
      walk_at "eo go"
      refine g_ite (fun z => ?_) (fun z => ?_)
      · have z' := dec_t z
        walk_at "eo go"
        refine g_lcR walk_tup IsV (fun _ q => q) ((f.map cpOk).map V.bl) (by simp; exact hyl) (by omega) (fun H e => sqT_ext e ht) ?_ ?_
        · rintro i x H1 H2 b hb e2 ⟨rfl, hx⟩
          obtain ⟨c, hc1, hc2⟩ := hL.get hx
          rw [List.getElem?_map, List.getElem?_map, hc1] at hb
          cases hb
          obtain ⟨nb1, nb2⟩ := hfn c (List.mem_of_getElem? hc1)
          walk_at "eo go"
          refine ⟨rfl, ?_⟩
          walk_at "eo go"
          exact ⟨_, c, rfl, hc2.ext e2, nb1, nb2, fun H3 e3 => ⟨e3, rfl⟩⟩
        · intro D H2 acc e2 n0 hA hD
          have hA := lr_v hA
          subst hA
          walk_at "eo go"
          refine ⟨D, _, rfl, SqL.of hD, ?_⟩
          have ea : (f.map cpOk).all id = f.all cpOk := by rw [List.all_map]; rfl
          rw [ea]
          have ef : ftOk f = f.all cpOk := by unfold ftOk; rw [decide_eq_true (by omega), Bool.true_and]
          walk_at "eo go"
          refine ⟨_, _, rfl, by decide, fun h => ?_, fun h d H3 e3 hx => bad (by rw [ef, h]) d H3 (g0 e2 e3) hx⟩
          refine ⟨_, rfl, g0 e e2, ?_⟩
          rw [List.take_succ, hf1, List.all_append, hall]
          show (true && ([f].all ftOk)) = true
          rw [List.all_cons, ef, h]
          rfl
      · have z' := dec_f z
        walk_at "eo go"
        exact ⟨false, _, rfl, by decide, nofun, fun h d H3 e3 hx => bad (by unfold ftOk; rw [decide_eq_false (by omega)]; rfl) d H3 e3 hx⟩
    · rintro σ H' ⟨s5, rfl, e, hall⟩
      rw [hF.len, List.take_length] at hall
      have hx := sqT_ext e hx
      have hT := hT.imp fun _ _ => TgAt.ext e
      have hg := sqT_ext e hg
      have hc := sqT_ext e hc
      have hG := hG.imp fun _ _ => EgAt.ext e
      have hC := hC.imp fun _ _ => CrAt.ext e
      have ht1 := sqT_ext e ht1
      clear hF hf hp1
      walk_at "eo go"
      refine g_lcR walk_tup PrAt (fun q z => z.ext q) ts (by rw [hT.len]) (by rw [hT.len]; omega) (fun H e => sqT_ext e hx) ?_ ?_
      · rintro i x H1 H2 b hb e2 ⟨rfl, hx⟩
        obtain ⟨p, hp1, t, c, m, rfl, ht⟩ := hT.get hx
        rw [hb] at hp1
        cases hp1
        have ht := sqT_ext e2 ht
        walk_at "eo go"
        refine ⟨rfl, ?_⟩
        walk_at "eo go"
        rename_i t2 H3 n3 e3 h3
        exact ⟨e3, t2, rfl, h3⟩
      · intro Pd H1 ap e1 n1' hA hPd
        have hg := sqT_ext e1 hg
        have hG := hG.imp fun _ _ => EgAt.ext e1
        walk_at "eo go"
        refine g_lcR walk_tup TiAt (fun q z => z.ext q) (R.es.map fun e => (e.t, e.a, e.b)) (by rw [hG.len, List.length_map]) (by rw [hG.len]; have := hw.el; omega) (fun H e => sqT_ext e hg) ?_ ?_
        · rintro i x H2 H3 b hb e2 ⟨rfl, hx⟩
          obtain ⟨eg, hp1, t, rfl, ht⟩ := hG.get hx
          rw [List.getElem?_map, hp1] at hb
          cases hb
          have ht := sqT_ext e2 ht
          walk_at "eo go"
          refine ⟨rfl, ?_⟩
          walk_at "eo go"
          rename_i t2 H3 n3 e3 h3
          exact ⟨e3, t2, rfl, h3⟩
        · intro Td H2 at_ e2 n2 hB hTd
          have hPd := e2.keep _ _ hPd nin0
          have hA := hA.imp fun _ _ z => PrAt.ext e2 z
          have eH2 := g0 (g0 e e1) e2
          have hc := sqT_ext e2 (sqT_ext e1 hc)
          have hC := (hC.imp fun _ _ => CrAt.ext e1).imp fun _ _ => CrAt.ext e2
          have ht1 := sqT_ext e2 (sqT_ext e1 ht1)
          have hg := sqT_ext e2 hg
          have hG := hG.imp fun _ _ => EgAt.ext e2
          have badE : (R.es.all (egOk ts) && (R.es.all upOk && egR R)) = false → ∀ d H3, Ext [] H2 H3 → H3 d = some (.xd [("code", .str "edge")]) → E (.ref A.c_PlanError) (some d) H3 := fun h d H3 e3 hx => kbad _ (pck_edge hall h) d H3 (g0 eH2 e3) hx
          clear e e1 e2 n1' n2 hT hx
          have hBl : at_.length = R.es.length := by rw [hB.len, List.length_map]
          have hel := hw.el
          walk_at "eo go"
          refine g_callS ?_
          walk_at "eo go"
          refine g_lcR walk_list IsV (fun _ q => q) ((R.es.map (egOk ts)).map V.bl) (by simp; exact hBl) (by omega) (fun H e => SqL.of (e.keep _ _ hTd nin0)) ?_ ?_
          · rintro i x H1 H3 b hb e2 ⟨rfl, hx⟩
            obtain ⟨c, hc1, t, rfl, hc2⟩ := hB.get hx
            rw [List.getElem?_map] at hb hc1
            cases hq : R.es[i]? with
            | none => rw [hq] at hc1; cases hc1
            | some eg =>
              rw [hq] at hc1
              cases hc1
              rw [List.getElem?_map, hq] at hb
              cases hb
              have hc2 := e2.imm _ _ hc2 rfl
              have hPd := e2.keep _ _ hPd nin0
              have hA := hA.imp fun _ _ z => PrAt.ext e2 z
              walk_at "eo go"
              refine ⟨rfl, ?_⟩
              walk_at "eo go"
              rename_i t3 H4 n4 e4 h4
              refine g_inPl (p := (eg.a, eg.b)) h4 (e4.keep _ _ hPd nin0) (hA.imp fun _ _ z => PrAt.ext e4 z) ?_
              walk_at "eo go"
              cases hm : decide ((eg.a, eg.b) ∈ ts) with
              | false =>
                walk_at "eo go"
                exact ⟨e4, by unfold egOk; rw [hm]; rfl⟩
              | true =>
                walk_at "eo go"
                exact ⟨_, _, _, rfl, (hw.es eg (List.mem_of_getElem? hq)).1, e4, by unfold egOk; rw [hm]; rfl⟩
          · intro D H3 acc e3 n3 hA3 hD
            have hA3 := lr_v hA3
            subst hA3
            walk_at "eo go"
            refine ⟨D, _, rfl, SqL.of hD, ?_⟩
            rw [show (R.es.map (egOk ts)).all id = R.es.all (egOk ts) by rw [List.all_map]; rfl]
            walk_at "eo go"
            refine ⟨_, _, rfl, by decide, fun q1 => ?_, fun h d H4 e4 hx => badE (by rw [h]; rfl) d H4 (g0 e3 e4) hx⟩
            rw [q1, Bool.true_and] at badE
            have hg3 := sqT_ext e3 hg
            walk_at "eo go"
            refine g_callS ?_
            walk_at "eo go"
            have hGl := hG.len
            refine g_lcR walk_tup IsV (fun _ q => q) ((R.es.map upOk).map V.bl) (by simp; exact hGl) (by omega) (fun H e => sqT_ext e hg3) ?_ ?_
            · rintro i x H1 H4 b hb e2 ⟨rfl, hx⟩
              obtain ⟨eg, hp1, t, rfl, ht⟩ := hG.get hx
              rw [List.getElem?_map, List.getElem?_map, hp1] at hb
              cases hb
              have ht := sqT_ext e2 (sqT_ext e3 ht)
              walk_at "eo go"
              refine ⟨rfl, ?_⟩
              walk_at "eo go"
              rcases (hw.es eg (List.mem_of_getElem? hp1)).2 with ⟨u, hu⟩ | ⟨u, hu⟩
              · rw [hu]
                refine g_isiI (b := false) (kit_ty (by decide +kernel)) ?_
                exact ⟨Ext.refl _, by unfold upOk; rw [hu]; rfl⟩
              · rw [hu]
                refine g_isiB (b := true) (kit_ty (by decide +kernel)) ?_
                exact ⟨Ext.refl _, by unfold upOk; rw [hu]; rfl⟩
            · intro D2 H4 acc e4 n4 hA4 hD2
              have hA4 := lr_v hA4
              subst hA4
              walk_at "eo go"
              refine ⟨D2, _, rfl, SqL.of hD2, ?_⟩
              rw [show (R.es.map upOk).all id = R.es.all upOk by rw [List.all_map]; rfl]
              walk_at "eo go"
              have e24 := g0 e3 e4
              refine ⟨_, _, rfl, by decide, fun q2 => ?_, fun h d H5 e5 hx => badE (by rw [h]; rfl) d H5 (g0 e24 e5) hx⟩
              rw [q2, Bool.true_and] at badE
              have hTd4 := e24.keep _ _ hTd nin0
              have hB4 := hB.imp fun _ _ z => TiAt.ext e24 z
              have hc4 := sqT_ext e24 hc
              have hC4 := hC.imp fun _ _ => CrAt.ext e24
              have ht4 := sqT_ext e24 ht1
              have eH4 := g0 eH2 e24
              have badE : egR R = false → ∀ d H3, Ext [] H4 H3 → H3 d = some (.xd [("code", .str "edge")]) → E (.ref A.c_PlanError) (some d) H3 := fun h d H3 e3 hx => badE h d H3 (g0 e24 e3) hx
              have hti : ∀ e ∈ R.es, e.t = .int (vI e.t) ∧ 1 ≤ vI e.t ∧ vI e.t ≤ 20000 := fun e he => by
                have q := List.all_eq_true.mp q1 e he
                unfold egOk at q
                rw [Bool.and_eq_true] at q
                exact num_int (hw.es e he).1 q.2
              clear e3 e4 e24 hTd hB hc hC ht1 hG hg hg3 hPd hA hD hD2
              walk_at "eo go"
              refine g_callS ?_
              walk_at "eo go"
              have hBl4 := hBl
              have hti4 : ∀ (i : Nat) (x : V) (H1 H2 : Hp), Ext [] H4 H2 → at_[i]? = some x → ∃ eg t, R.es[i]? = some eg ∧ x = .ref t ∧ H2 t = some (.tup [.int (vI eg.t), .int eg.a, .int eg.b]) := fun i x H1 H2 e hx => by
                obtain ⟨c, hc1, t, rfl, hc2⟩ := hB4.get hx
                rw [List.getElem?_map] at hc1
                cases hq : R.es[i]? with
                | none => rw [hq] at hc1; cases hc1
                | some eg =>
                  rw [hq] at hc1
                  cases hc1
                  refine ⟨eg, t, rfl, rfl, ?_⟩
                  rw [← (hti eg (List.mem_of_getElem? hq)).1]
                  exact e.imm _ _ hc2 rfl
              refine g_lcR walk_list IsV (fun _ q => q) ((R.es.map fun e => vI e.t).map V.int) (by simp; exact hBl) (by omega) (fun H e => SqL.of (e.keep _ _ hTd4 nin0)) ?_ ?_
              · rintro i x H1 H5 b hb e2 ⟨rfl, hx⟩
                obtain ⟨eg, t, hq, rfl, ht⟩ := hti4 i x H1 _ e2 hx
                rw [List.getElem?_map, List.getElem?_map, hq] at hb
                cases hb
                walk_at "eo go"
                refine ⟨rfl, ?_⟩
                walk_at "eo go"
                exact ⟨Ext.refl _, rfl⟩
              · intro D3 H5 acc e5 n5 hA5 hD3
                have hA5 := lr_v hA5
                subst hA5
                have hTd5 := e5.keep _ _ hTd4 nin0
                walk_at "eo go"
                refine g_lcR walk_list IsV (fun _ q => q) ((R.es.map fun e => vI e.t).map V.int) (by simp; exact hBl) (by omega) (fun H e => SqL.of (e.keep _ _ hTd5 nin0)) ?_ ?_
                · rintro i x H1 H6 b hb e2 ⟨rfl, hx⟩
                  obtain ⟨eg, t, hq, rfl, ht⟩ := hti4 i x H1 _ (g0 e5 e2) hx
                  rw [List.getElem?_map, List.getElem?_map, hq] at hb
                  cases hb
                  walk_at "eo go"
                  refine ⟨rfl, ?_⟩
                  walk_at "eo go"
                  exact ⟨Ext.refl _, rfl⟩
                · intro D4 H6 acc e6 n6 hA6 hD4
                  have hA6 := lr_v hA6
                  subst hA6
                  have hD3 := e6.keep _ _ hD3 nin0
                  walk_at "eo go"
                  refine ⟨D4, _, rfl, SqL.of hD4, by rw [List.length_map]; omega, fun ns' p2 hperm hpw n7 => ?_⟩
                  have e7 : Ext [] H6 (upd H6 p2 (.lst (ns'.map V.int))) := Ext.new n7
                  have h7 : upd H6 p2 (.lst (ns'.map V.int)) p2 = some (.lst (ns'.map V.int)) := upd_same
                  generalize upd H6 p2 (.lst (ns'.map V.int)) = H7 at e7 h7 ⊢
                  refine g_eqInts (SqL.of (e7.keep _ _ hD3 nin0)) (SqL.of h7) ?_
                  rw [sorted_eqI hperm hpw]
                  have e47 := g0 (g0 e5 e6) e7
                  walk_at "eo go"
                  refine ⟨_, _, rfl, by decide, fun q3 => ?_, fun h d H8 e8 hx => badE (by unfold egR; rw [h]; rfl) d H8 (g0 e47 e8) hx⟩
                  have badE : decide ((R.es.map tri).Nodup) = false → ∀ d H3, Ext [] H7 H3 → H3 d = some (.xd [("code", .str "edge")]) → E (.ref A.c_PlanError) (some d) H3 := fun h d H3 e3 hx => badE (by unfold egR; rw [h, Bool.and_false]) d H3 (g0 e47 e3) hx
                  have hti7 : ∀ (i : Nat) (x : V) (H2 : Hp), Ext [] H7 H2 → at_[i]? = some x → ∃ eg t, R.es[i]? = some eg ∧ x = .ref t ∧ H2 t = some (.tup [.int (vI eg.t), .int eg.a, .int eg.b]) := fun i x H2 e hx => hti4 i x H2 H2 (g0 e47 e) hx
                  have hTd7 := e47.keep _ _ hTd4 nin0
                  have hc7 := sqT_ext e47 hc4
                  have hC7 := hC4.imp fun _ _ => CrAt.ext e47
                  have ht7 := sqT_ext e47 ht4
                  have eH7 := g0 eH4 e47
                  clear e5 e6 e7 e47 hti4 hTd4 hB4 hc4 hC4 ht4 eH4 hD3 hD4 hTd5 h7 n7 n5 n6 n3 n4
                  walk_at "eo go"
                  refine g_callS ?_
                  walk_at "eo go"
                  refine g_dct ?_
                  walk_at "eo go"
                  refine g_itLd (SqL.of hTd7) ?_
                  refine g_dcR walk_list (fun p : Int × Int × Int => [.inl p.1, .inl p.2.1, .inl p.2.2]) (fun a b h => by simp at h; exact Prod.ext h.1 (Prod.ext h.2.1 h.2.2)) (R.es.map tri) (by rw [List.length_map]; exact hBl) (by omega) (fun H e => SqL.of (e.keep _ _ hTd7 nin0)) ?_ ?_
                  · rintro i x H1 H8 b hb e2 ⟨rfl, hx⟩
                    obtain ⟨eg, t, hq, rfl, ht⟩ := hti7 i x _ e2 hx
                    rw [List.getElem?_map, hq] at hb
                    cases hb
                    walk_at "eo go"
                    refine ⟨rfl, ?_⟩
                    walk_at "eo go"
                    exact ⟨rfl, Ext.refl _, t, rfl, ht⟩
                  · intro D5 H8 e8 n8 hD5
                    have hTd8 := e8.keep _ _ hTd7 nin0
                    walk_at "eo go"
                    refine ⟨D5, _, rfl, hD5, ?_⟩
                    walk_at "eo go"
                    rw [show (kdG (fun p : Int × Int × Int => ([.inl p.1, .inl p.2.1, .inl p.2.2] : List Key)) (dd [] (R.es.map tri))).length = (dd [] (R.es.map tri)).length from List.length_map _, show at_.length = (R.es.map tri).length by rw [List.length_map]; exact hBl, dd_sameV]
                    refine ⟨_, _, rfl, by decide, fun q4 => ?_, fun h d H9 e9 hx => badE h d H9 (g0 e8 e9) hx⟩
                    have he : (R.es.all (egOk ts) && (R.es.all upOk && egR R)) = true := by
                      unfold egR
                      rw [q1, q2, q3, q4]
                      rfl
                    have badC : (R.cs.all (crOk (n - 1)) && decide ((R.cs.map cpr).Pairwise fun p q => cd p < cd q)) = false → ∀ d H3, Ext [] H8 H3 → H3 d = some (.xd [("code", .str "crash")]) → E (.ref A.c_PlanError) (some d) H3 := fun h d H3 e3 hx => kbad _ (pck_crash hall he h) d H3 (g0 (g0 eH7 e8) e3) hx
                    have hc8 := sqT_ext e8 hc7
                    have hC8 := hC7.imp fun _ _ => CrAt.ext e8
                    have ht8 := sqT_ext e8 ht7
                    have eH8 := g0 eH7 e8
                    clear badE hD5 hc7 hC7 ht7 eH7 e8 hTd7 hTd8 hti7 n8 kbad
                    have hCl := hC8.len
                    have hcl := hw.cl
                    walk_at "eo go"
                    refine g_callS ?_
                    walk_at "eo go"
                    refine g_lcR walk_tup IsV (fun _ q => q) ((R.cs.map (crOk (n - 1))).map V.bl) (by simp; exact hCl) (by omega) (fun H e => sqT_ext e hc8) ?_ ?_
                    · rintro i x H1 H9 b hb e2 ⟨rfl, hx⟩
                      obtain ⟨c, hp1, t, rfl, ht⟩ := hC8.get hx
                      rw [List.getElem?_map, List.getElem?_map, hp1] at hb
                      cases hb
                      have ht := e2.imm _ _ ht rfl
                      obtain ⟨nb1, nb2⟩ := hw.cs c (List.mem_of_getElem? hp1)
                      walk_at "eo go"
                      refine ⟨rfl, ?_⟩
                      walk_at "eo go"
                      refine ⟨c.n, 0, n - 1, rfl, nb2, ?_⟩
                      walk_at "eo go"
                      cases hm : isnum c.n 0 (n - 1) with
                      | false =>
                        walk_at "eo go"
                        exact ⟨Ext.refl _, by unfold crOk; rw [hm]; rfl⟩
                      | true =>
                        walk_at "eo go"
                        exact ⟨_, _, _, rfl, nb1, Ext.refl _, by unfold crOk; rw [hm]; rfl⟩
                    · intro D6 H9 acc e9 n9 hA9 hD6
                      have hA9 := lr_v hA9
                      subst hA9
                      walk_at "eo go"
                      refine ⟨D6, _, rfl, SqL.of hD6, ?_⟩
                      rw [show (R.cs.map (crOk (n - 1))).all id = R.cs.all (crOk (n - 1)) by rw [List.all_map]; rfl]
                      walk_at "eo go"
                      refine ⟨_, _, rfl, by decide, fun q5 => ?_, fun h d H10 e10 hx => badC (by rw [h]; rfl) d H10 (g0 e9 e10) hx⟩
                      rw [q5, Bool.true_and] at badC
                      have hc9 := sqT_ext e9 hc8
                      have hC9 := hC8.imp fun _ _ => CrAt.ext e9
                      walk_at "eo go"
                      refine g_callS ?_
                      walk_at "eo go"
                      rename_i lk H10 n10 e10 h10
                      have hcr : ∀ c ∈ R.cs, c.t = .int (vI c.t) ∧ c.n = .int (vI c.n) ∧ Rng (cpr c) := fun c hcm => by
                        have q := List.all_eq_true.mp q5 c hcm
                        unfold crOk at q
                        rw [Bool.and_eq_true] at q
                        obtain ⟨nb1, nb2⟩ := hw.cs c hcm
                        obtain ⟨a1, a2, a3⟩ := num_int nb2 q.1
                        obtain ⟨b1, b2, b3⟩ := num_int nb1 q.2
                        refine ⟨b1, a1, ?_⟩
                        unfold Rng cpr
                        dsimp only
                        omega
                      have hc10 := sqT_ext e10 hc9
                      have hP10 : LR PrAt H10 cs (R.cs.map cpr) := lr_map (fun x c hcm hx => by
                        obtain ⟨t, ht, h2⟩ := CrAt.ext e10 hx
                        rw [(hcr c hcm).1, (hcr c hcm).2.1] at h2
                        exact ⟨t, ht, h2⟩) hC9
                      have hPl := hP10.len
                      rw [List.length_map] at hPl
                      refine g_dct ?_
                      walk_at "eo go"
                      refine ⟨tc, rfl, ⟨_, hc10⟩, ?_⟩
                      refine g_dcR walk_tup kP (fun a b h => kP_inj h) (R.cs.map cpr) hP10.len (by omega) (fun H e => sqT_ext e hc10) ?_ ?_
                      · rintro i x H1 H11 b hb e2 ⟨rfl, hx⟩
                        obtain ⟨q, hq1, t, rfl, ht⟩ := hP10.get hx
                        rw [hb] at hq1
                        cases hq1
                        have ht := e2.imm _ _ ht rfl
                        walk_at "eo go"
                        refine ⟨rfl, ?_⟩
                        walk_at "eo go"
                        exact ⟨rfl, Ext.refl _, t, rfl, ht⟩
                      · intro D7 H11 e11 n11 hD7
                        have hdl := dd_len (R.cs.map cpr) []
                        rw [List.length_map, List.length_nil] at hdl
                        have hrng : ∀ p ∈ R.cs.map cpr, Rng p := fun p hp => by
                          obtain ⟨c, hcm, rfl⟩ := List.mem_map.mp hp
                          exact (hcr c hcm).2.2
                        walk_at "eo go"
                        refine ⟨D7, _, rfl, hD7, by unfold kdG; rw [List.length_map]; omega, fun kv hkv => ?_, fun qs ys p2 hpair hperm hpw hpn => ?_⟩
                        · obtain ⟨p, hp, rfl⟩ := List.mem_map.mp hkv
                          have r := hrng p ((dd_mem _ _ _ hp).resolve_left (by simp))
                          refine ⟨[p.1, p.2], rfl, rfl, fun m hm => ?_⟩
                          unfold Rng at r
                          simp only [List.mem_cons, List.not_mem_nil, or_false] at hm
                          rcases hm with rfl | rfl <;> omega
                        · have e12 : Ext [] H11 (upd H11 p2 (.lst ys)) := Ext.new hpn
                          obtain ⟨Y, hY1, hY2⟩ := perm_prs hperm (paired_prs hpair)
                          have hY3 := prs_pw hY2 hpw
                          have key := sort_same hrng hY1 hY3
                          refine g_eqPrs (SqL.of (e12.keep _ _ (e11.keep _ _ h10 nin0) nin0)) (SqL.of upd_same) ((hP10.imp fun _ _ z => PrAt.ext e11 z).imp fun _ _ z => PrAt.ext e12 z) (hY2.imp fun _ _ z => PrAt.ext e12 z) ?_
                          rw [key]
                          have eAll := g0 (g0 (g0 e9 e10) e11) e12
                          walk_at "eo go"
                          refine ⟨_, _, rfl, by decide, fun q6 => ?_, fun h d H13 e13 hx => badC h d H13 (g0 eAll e13) hx⟩
                          walk_at "eo go"
                          exact kok (pck_none hall he (by rw [q5, q6]; rfl)) _ (g0 eH8 eAll)
theorem ok_law_code {A : Adr} (T : Txt P K mg A) : FnOk P w K mg base CX0 5 A.f_law_code A.d_law_code ["topology", "plan"] (spCode K) := by
  refine T.law_code.F.ok sc_law_code (fun vs H Q E h => ?_) (fun cdv Ar outer s H vs Q E hr h => ?_)
  · obtain ⟨tp, p, n, ts, R, rfl, _⟩ := h
    rfl
  · obtain ⟨tp, p, n, ts, R, rfl, ht, hp, hw, k⟩ := h
    refine ⟨_, (pss_cons (ps_try_as (i := 2) (tb := fun W => tDrop (tCallS (spPlan K A.c_PlanError) (WE W) (tCons (tVar 0) (tCons (tVar 1) tNil)))) (ts := fun a cls d => tRet (tXf a cls d A.c_PlanError "code" (tVar 2))) (Wout := fun _ _ _ _ => False) rfl rfl sc_law_code.nd rfl rfl ⟨rfl, by decide, .inl T.x_PlanError.mg⟩ takes0 (fun W pn xe tk _ => pss_one (ps_expr (pe_callS (ok_check_plan T) (hr.mono (by decide)) (by rfl) T.check_plan.mg T.check_plan.kp T.check_plan.b (fun σ => passAt tk σ) (pa_cons (pv 0) (pa_cons (pv 1) pa_nil))))) (fun a oe cls d pn hz hf => (pss_one (ps_ret (pe_xf T.x_PlanError.xf T.x_PlanError.no_code hz hf (pv 2))))))
      (pss_one (ps_ret pe_str))), ?_⟩
    walk_at "eo init"
    refine g_seq ?_
    show tDrop _ _ _ _
    refine g_drop ?_
    refine g_callS ?_
    walk_at "eo go"
    refine ⟨tp, p, n, ts, R, rfl, ht, hp, hw, fun hc H' e => ?_, fun z hc d H' e hx => ?_⟩
    · walk_at "eo go"
      have := k H' e
      rw [hc] at this
      exact this
    · refine ⟨true, T.x_PlanError.te, fun _ a ha => ?_, fun q => Bool.noConfusion q⟩
      refine g_ret ?_
      have := k H' e
      rw [hc] at this
      exact ⟨.ref a, rfl, rfl, rfl, d, _, .str z, rfl, hx, rfl, this⟩
def Fx (K : PySem.W.Frag) (H : Hp) (tp Ft : Addr) (n : Int) (ts : List (Int × Int)) (fs : List (List Cp)) : Prop := TpAt K H tp n ts ∧ ∃ xs, SqT K H Ft xs ∧ LR (FtAt K) H xs fs
theorem Fx.ext {K : PySem.W.Frag} {A : List Addr} {H H' : Hp} {tp Ft : Addr} {n : Int} {ts : List (Int × Int)} {fs : List (List Cp)} (e : Ext A H H') : Fx K H tp Ft n ts fs → Fx K H' tp Ft n ts fs := fun ⟨h1, xs, h2, h3⟩ => ⟨h1.ext e, xs, sqT_ext e h2, h3.imp fun _ _ => FtAt.ext e⟩
section
variable {K : PySem.W.Frag}
def FsAt (K : PySem.W.Frag) (H : Hp) (t : Addr) (fs : List (List Cp)) : Prop := ∃ xs, SqT K H t xs ∧ LR (FtAt K) H xs fs
def EsAt (K : PySem.W.Frag) (H : Hp) (t : Addr) (es : List Eg) : Prop := ∃ xs, SqT K H t xs ∧ LR (EgAt K) H xs es
def CsAt (K : PySem.W.Frag) (H : Hp) (t : Addr) (cs : List Cr) : Prop := ∃ xs, SqT K H t xs ∧ LR CrAt H xs cs
structure Wo (K : PySem.W.Frag) (d sc tp Ft Rt Ct : Addr) (n : Int) (ts : List (Int × Int)) (fs : List (List Cp)) (es : List Eg) (cs : List Cr) (H : Hp) : Prop where
  D : DSt H d sc
  T : TpAt K H tp n ts
  F : FsAt K H Ft fs
  E : EsAt K H Rt es
  C : CsAt K H Ct cs
theorem FsAt.ext {A : List Addr} {H H' : Hp} {t : Addr} {fs : List (List Cp)} (e : Ext A H H') : FsAt K H t fs → FsAt K H' t fs := fun ⟨xs, h1, h2⟩ => ⟨xs, sqT_ext e h1, h2.imp fun _ _ => FtAt.ext e⟩
theorem EsAt.ext {A : List Addr} {H H' : Hp} {t : Addr} {fs : List Eg} (e : Ext A H H') : EsAt K H t fs → EsAt K H' t fs := fun ⟨xs, h1, h2⟩ => ⟨xs, sqT_ext e h1, h2.imp fun _ _ => EgAt.ext e⟩
theorem CsAt.ext {A : List Addr} {H H' : Hp} {t : Addr} {fs : List Cr} (e : Ext A H H') : CsAt K H t fs → CsAt K H' t fs := fun ⟨xs, h1, h2⟩ => ⟨xs, sqT_ext e h1, h2.imp fun _ _ => CrAt.ext e⟩
section
variable {d sc tp Ft Rt Ct : Addr} {n : Int} {ts : List (Int × Int)} {fs : List (List Cp)} {es : List Eg} {cs : List Cr} {H H' : Hp}
theorem Wo.ext0 (e : Ext [] H H') (w : Wo K d sc tp Ft Rt Ct n ts fs es cs H) : Wo K d sc tp Ft Rt Ct n ts fs es cs H' := ⟨w.D.ext e nin0 nin0, w.T.ext e, w.F.ext e, w.E.ext e, w.C.ext e⟩
theorem Wo.extd (e : Ext [d] H H') (h : DSt H' d sc) (w : Wo K d sc tp Ft Rt Ct n ts fs es cs H) : Wo K d sc tp Ft Rt Ct n ts fs es cs H' := ⟨h, w.T.ext e, w.F.ext e, w.E.ext e, w.C.ext e⟩
end
def NbF (f : List Cp) : Prop := (∀ c ∈ f, NB c.d ∧ c.f.length ≤ 50) ∧ f.length ≤ 50
theorem g_code {tp p tf te tc : Addr} {n : Int} {ts : List (Int × Int)} {fs : List (List Cp)} {es : List Eg} {cs : List Cr} {r : Option Str} {H : Hp} {Q : VK} {E : XK} (hp : SqT K H p [.ref tf, .ref te, .ref tc]) (hT : TpAt K H tp n ts) (hF : FsAt K H tf fs) (hE : EsAt K H te es) (hC : CsAt K H tc cs)
    (hr : pck n ts ⟨fs, es, cs⟩ = r) (hn : 1 ≤ n ∧ n ≤ 20 ∧ ts.length ≤ 50) (nf : ∀ f ∈ fs, NbF f) (ne : ∀ e ∈ es, NB e.t ∧ NB e.u) (nc : ∀ c ∈ cs, NB c.t ∧ NB c.n) (lf : fs.length ≤ 50) (le : es.length ≤ 50) (lc : cs.length ≤ 63)
    (k : ∀ H', Ext [] H H' → Q (.str (r.getD "")) H') : spCode K ([.ref tp, .ref p] ++ []) H Q E := by
  obtain ⟨xs, f1, f2⟩ := hF
  obtain ⟨ys, e1, e2⟩ := hE
  obtain ⟨zs, c1, c2⟩ := hC
  exact ⟨tp, p, n, ts, ⟨fs, es, cs⟩, rfl, ⟨hT, hn⟩, ⟨tf, te, tc, xs, ys, zs, hp, f1, e1, c1, f2, e2, c2⟩, ⟨nf, ne, nc, le, lc, lf⟩, fun H' e => by rw [hr]; exact k H' e⟩
end
local macro_rules | `(tactic| walk_at "eo cut") => `(tactic| first | exact cut_to | exact cut_from)
local macro_rules | `(tactic| walk_at "eo len") => `(tactic| (rw [sizeLine_eq]; simp only [List.length_append, List.length_cons, List.length_nil, List.length_map, List.length_take, List.length_drop]; omega))
theorem last_drop {es : List Eg} (h : es ≠ []) : ∃ x ∈ es, es.drop (es.length - 1) = [x] := ⟨es.getLast h, List.getLast_mem h, by
  have e := List.dropLast_concat_getLast h
  have hl : (es.dropLast).length = es.length - 1 := List.length_dropLast
  conv => lhs; rw [← e, List.length_append, hl, List.length_singleton]
  rw [List.drop_append, List.drop_of_length_le (by omega), show es.length - 1 + 1 - 1 - es.dropLast.length = 0 by omega]
  rfl⟩
theorem at_lastV {xs : List V} {v : V} (h : xs.drop (xs.length - 1) = [v]) : atI xs (-1) = some v := by
  have e := List.take_append_drop (xs.length - 1) xs
  rw [h] at e
  rw [← e]
  exact atI_last _ v
theorem isnum_lo {i lo hi : Int} (h : i < lo) : isnum (.int i) lo hi = false := by
  show (decide (lo ≤ i) && decide (i ≤ hi)) = false
  rw [decide_eq_false (show ¬ lo ≤ i by omega), Bool.false_and]
theorem pw_get : ∀ {l : List Int} {j i : Nat} {a b : Int}, l.Pairwise (· ≤ ·) → j < i → l[j]? = some a → l[i]? = some b → a ≤ b
  | x :: l, 0, i + 1, a, b, h, _, h1, h2 => by
    cases h1
    exact (List.pairwise_cons.mp h).1 b (List.mem_of_getElem? (i := i) h2)
  | x :: l, j + 1, i + 1, a, b, h, hj, h1, h2 => pw_get (List.pairwise_cons.mp h).2 (Nat.lt_of_succ_lt_succ hj) (j := j) (i := i) h1 h2
  | [], _, _, _, _, _, _, h1, _ => by simp at h1
theorem ok_law {A : Adr} (T : Txt P K mg A) : FnOk P w K mg base CX0 6 A.f_law A.d_law ["script"] (spLaw K) := by
  refine T.law.F.ok sc_law (fun vs H Q E h => ?_) (fun cdv Ar outer s H vs Q E hr h => ?_)
  · obtain ⟨a, ns, rfl, _⟩ := h
    rfl
  · obtain ⟨a, ns, rfl, hS, hlen, k⟩ := h
    refine ⟨_, (pss_cons (ps_set (i := 1) sc_law.nd rfl (Or.inr rfl) (pe_call (ok_law_begin T) (hr.mono (by decide)) (by rfl) T.law_begin.mg T.law_begin.kp T.law_begin.b .nil pass0 (pa_cons (pv 0) pa_nil)))
      (pss_cons (ps_set (i := 2) sc_law.nd rfl (Or.inr rfl) (pe_op o_add pe_int (pe_call (ok_law_take T) (hr.mono (by decide)) (by rfl) T.law_take.mg T.law_take.kp T.law_take.b .nil pass0 (pa_cons (pv 1) (pa_cons pe_int pa_nil)))))
      (pss_cons (ps_set (i := 3) sc_law.nd rfl (Or.inl rfl) (pe_callTy (T := "tuple") o_tuple (by rfl) T.b_tuple (by decide +kernel) (pa_cons (pe_lc (own := [("b", 17)]) (tt := stT tYes) rfl sc_law.nd (pi_range2 (by rfl) T.b_range (pa_cons pe_int (pa_cons (pv 2) pa_nil))) (blkOk_by (own := [("b", 17)]) (N := ["script", "d", "n", "edges", "topology", "fates", "k", "times", "row", "time", "edge", "crashes", "bad_fate", "bad_edge", "bad_crash", "at", "worse", "b", "j", "one"]) (sc := defScope s_law) (by decide +kernel)) (fun _ _ _ _ _ => PG.star (pg_name (i := 17) sc_law.nd rfl (Or.inl rfl) (Or.inr rfl))) (fun _ _ _ _ _ => PTs.star (pts_nil)) (fun _ _ _ _ _ => PE.star (pe_tupX (pa_cons pe_int (pa_cons (pv 17) (pa_cons (pe_op (kkOpR (r := rAddX) (K := K) rfl o_add) pe_int (pe_call (ok_law_take T) (hr.mono (by decide)) (by rfl) T.law_take.mg T.law_take.kp T.law_take.b .nil pass0 (pa_cons (pv 1) (pa_cons pe_int pa_nil)))) (pa_cons pe_int pa_nil))))))) pa_nil)))
      (pss_cons (ps_set (i := 4) sc_law.nd rfl (Or.inl rfl) (pe_tupX (pa_cons (pv 2) (pa_cons (pv 3) pa_nil))))
      (pss_cons (ps_set (i := 5) sc_law.nd rfl (Or.inl rfl) (pe_lstX pa_nil))
      (pss_cons (ps_for PassesOwn.never rfl (pi_range1 (by rfl) T.b_range (pa_cons (pe_call (ok_law_take T) (hr.mono (by decide)) (by rfl) T.law_take.mg T.law_take.kp T.law_take.b .nil pass0 (pa_cons (pv 1) (pa_cons pe_int pa_nil))) pa_nil)) (pg_name (i := 6) sc_law.nd rfl (Or.inl rfl)) (pss_one (ps_expr (pe_bm PySem.F.plainAttrs_list PySem.F.slot_list_append PySem.F.type_list_append mt_append (pv 5) (pa_cons (pe_callTy (T := "tuple") o_tuple (by rfl) T.b_tuple (by decide +kernel) (pa_cons (pe_lc (own := [("j", 18)]) (tt := stT tYes) rfl sc_law.nd (pi_range1 (by rfl) T.b_range (pa_cons (pe_call (ok_law_take T) (hr.mono (by decide)) (by rfl) T.law_take.mg T.law_take.kp T.law_take.b .nil pass0 (pa_cons (pv 1) (pa_cons pe_int pa_nil))) pa_nil)) (blkOk_by (own := [("j", 18)]) (N := ["script", "d", "n", "edges", "topology", "fates", "k", "times", "row", "time", "edge", "crashes", "bad_fate", "bad_edge", "bad_crash", "at", "worse", "b", "j", "one"]) (sc := defScope s_law) (by decide +kernel)) (fun _ _ _ _ _ => PG.star (pg_name (i := 18) sc_law.nd rfl (Or.inl rfl) (Or.inr rfl))) (fun _ _ _ _ _ => PTs.star (pts_nil)) (fun _ _ _ _ _ => PE.star (pe_tupX (pa_cons (pe_op (kkOpR (r := rAddX) (K := K) rfl o_add) pe_int (pe_call (ok_law_take T) (hr.mono (by decide)) (by rfl) T.law_take.mg T.law_take.kp T.law_take.b .nil pass0 (pa_cons (pv 1) (pa_cons pe_int pa_nil)))) (pa_cons (pe_call (ok_law_pick T) (hr.mono (by decide)) (by rfl) T.law_pick.mg T.law_pick.kp T.law_pick.b .nil pass0 (pa_cons (pv 1) (pa_cons (pe_lstX (pa_cons (pe_tupX pa_nil) (pa_cons (pe_tupX (pa_cons pe_int pa_nil)) (pa_cons (pe_tupX (pa_cons pe_int (pa_cons pe_int pa_nil))) (pa_cons (pe_tupX (pa_cons pe_int (pa_cons pe_int (pa_cons pe_int pa_nil)))) pa_nil))))) pa_nil))) pa_nil))))) pa_nil)) pa_nil)))))
      (pss_cons (ps_set (i := 5) sc_law.nd rfl (Or.inl rfl) (pe_callTy (T := "tuple") o_tuple (by rfl) T.b_tuple (by decide +kernel) (pa_cons (pv 5) pa_nil)))
      (pss_cons (ps_set (i := 7) sc_law.nd rfl (Or.inl rfl) (pe_callB (id := "sorted") cr_sorted (by rfl) T.b_sorted (by decide +kernel) (pa_cons (pe_lc (own := [("k", 6)]) (tt := stT tYes) rfl sc_law.nd (pi_range1 (by rfl) T.b_range (pa_cons (pe_call (ok_law_take T) (hr.mono (by decide)) (by rfl) T.law_take.mg T.law_take.kp T.law_take.b .nil pass0 (pa_cons (pv 1) (pa_cons pe_int pa_nil))) pa_nil)) (blkOk_by (own := [("k", 6)]) (N := ["script", "d", "n", "edges", "topology", "fates", "k", "times", "row", "time", "edge", "crashes", "bad_fate", "bad_edge", "bad_crash", "at", "worse", "b", "j", "one"]) (sc := defScope s_law) (by decide +kernel)) (fun _ _ _ _ _ => PG.star (pg_name (i := 6) sc_law.nd rfl (Or.inl rfl) (Or.inr rfl))) (fun _ _ _ _ _ => PTs.star (pts_nil)) (fun _ _ _ _ _ => PE.star (pe_op (kkOpR (r := rAddX) (K := K) rfl o_add) pe_int (pe_call (ok_law_take T) (hr.mono (by decide)) (by rfl) T.law_take.mg T.law_take.kp T.law_take.b .nil pass0 (pa_cons (pv 1) (pa_cons pe_int pa_nil)))))) pa_nil)))
      (pss_cons (ps_set (i := 8) sc_law.nd rfl (Or.inl rfl) (pe_lstX pa_nil))
      (pss_cons (ps_for PassesOwn.never rfl (pi_list (pv 7)) (pg_name (i := 9) sc_law.nd rfl (Or.inl rfl)) (pss_cons (ps_set (i := 10) sc_law.nd rfl (Or.inl rfl) (pe_tupX (pa_cons (pv 9) (pa_cons pe_int (pa_cons (pe_op o_add pe_int (pe_call (ok_law_take T) (hr.mono (by decide)) (by rfl) T.law_take.mg T.law_take.kp T.law_take.b .nil pass0 (pa_cons (pv 1) (pa_cons (pe_op op_sub (pv 2) pe_int) pa_nil)))) (pa_cons (pe_cmpR (o_eq hr.units) (pe_call (ok_law_take T) (hr.mono (by decide)) (by rfl) T.law_take.mg T.law_take.kp T.law_take.b .nil pass0 (pa_cons (pv 1) (pa_cons pe_int pa_nil))) pe_int (nomark _)) pa_nil))))))
      (pss_one (ps_expr (pe_bm PySem.F.plainAttrs_list PySem.F.slot_list_extend PySem.F.type_list_extend mt_extend (pv 8) (pa_cons (pe_ifExp (pt_cmpR (o_nin_ldata (r65 hr)) (pe_slice o_sl (pv 10) po_none (po_some pe_int)) (pe_lc (own := [("one", 19)]) (tt := stT tYes) rfl sc_law.nd (pi_list (pv 8)) (blkOk_by (own := [("one", 19)]) (N := ["script", "d", "n", "edges", "topology", "fates", "k", "times", "row", "time", "edge", "crashes", "bad_fate", "bad_edge", "bad_crash", "at", "worse", "b", "j", "one"]) (sc := defScope s_law) (by decide +kernel)) (fun _ _ _ _ _ => PG.star (pg_name (i := 19) sc_law.nd rfl (Or.inl rfl) (Or.inr rfl))) (fun _ _ _ _ _ => PTs.star (pts_nil)) (fun _ _ _ _ _ => PE.star (pe_slice (kkSlR (r := rSlX) (K := K) rfl o_sl) (pv 19) po_none (po_some pe_int)))) rfl) (pe_lstX (pa_cons (pv 10) pa_nil)) (pe_lstX pa_nil)) pa_nil))))))
      (pss_cons (ps_set (i := 8) sc_law.nd rfl (Or.inl rfl) (pe_callTy (T := "tuple") o_tuple (by rfl) T.b_tuple (by decide +kernel) (pa_cons (pv 8) pa_nil)))
      (pss_cons (ps_set (i := 11) sc_law.nd rfl (Or.inl rfl) (pe_callTy (T := "tuple") o_tuple (by rfl) T.b_tuple (by decide +kernel) (pa_cons (pe_callB (id := "sorted") (cr_sortedT rfl) (by rfl) T.b_sorted (by decide +kernel) (pa_cons (pe_callTy (T := "set") (cr_setOfT rfl hr.units) (by rfl) T.b_set (by decide +kernel) (pa_cons (pe_lc (own := [("k", 6)]) (tt := stT tYes) rfl sc_law.nd (pi_range1 (by rfl) T.b_range (pa_cons (pe_call (ok_law_take T) (hr.mono (by decide)) (by rfl) T.law_take.mg T.law_take.kp T.law_take.b .nil pass0 (pa_cons (pv 1) (pa_cons pe_int pa_nil))) pa_nil)) (blkOk_by (own := [("k", 6)]) (N := ["script", "d", "n", "edges", "topology", "fates", "k", "times", "row", "time", "edge", "crashes", "bad_fate", "bad_edge", "bad_crash", "at", "worse", "b", "j", "one"]) (sc := defScope s_law) (by decide +kernel)) (fun _ _ _ _ _ => PG.star (pg_name (i := 6) sc_law.nd rfl (Or.inl rfl) (Or.inr rfl))) (fun _ _ _ _ _ => PTs.star (pts_nil)) (fun _ _ _ _ _ => PE.star (pe_tupX (pa_cons (pe_op (kkOpR (r := rAddX) (K := K) rfl o_add) pe_int (pe_call (ok_law_take T) (hr.mono (by decide)) (by rfl) T.law_take.mg T.law_take.kp T.law_take.b .nil pass0 (pa_cons (pv 1) (pa_cons pe_int pa_nil)))) (pa_cons (pe_call (ok_law_take T) (hr.mono (by decide)) (by rfl) T.law_take.mg T.law_take.kp T.law_take.b .nil pass0 (pa_cons (pv 1) (pa_cons (pv 2) pa_nil))) pa_nil))))) pa_nil)) pa_nil)) pa_nil)))
      (pss_cons (ps_if (pt_cmpR (o_ne hr.units) (pe_call (ok_law_code T) (hr.mono (by decide)) (by rfl) T.law_code.mg T.law_code.kp T.law_code.b .nil pass0 (pa_cons (pv 4) (pa_cons (pe_tupX (pa_cons (pv 5) (pa_cons (pv 8) (pa_cons (pv 11) pa_nil)))) pa_nil))) pe_str (nomark _)) (pss_one (ps_ret pe_bl)) pss_nil)
      (pss_cons (ps_set (i := 12) sc_law.nd rfl (Or.inl rfl) (pe_call (ok_law_pick T) (hr.mono (by decide)) (by rfl) T.law_pick.mg T.law_pick.kp T.law_pick.b .nil pass0 (pa_cons (pv 1) (pa_cons (pe_lstX (pa_cons (pe_tupX (pa_cons (pe_tupX (pa_cons pe_int (pa_cons (pe_tupX pa_nil) pa_nil))) pa_nil)) (pa_cons (pe_tupX (pa_cons (pe_tupX (pa_cons pe_int (pa_cons (pe_tupX pa_nil) pa_nil))) pa_nil)) (pa_cons (pe_tupX (pa_cons (pe_tupX (pa_cons pe_int (pa_cons (pe_tupX (pa_cons pe_int pa_nil)) pa_nil))) pa_nil)) (pa_cons (pe_tupX (pa_cons (pe_tupX (pa_cons pe_int (pa_cons (pe_tupX (pa_cons pe_int (pa_cons pe_int pa_nil))) pa_nil))) pa_nil)) (pa_cons (pe_tupX (pa_cons (pe_tupX (pa_cons pe_int (pa_cons (pe_tupX (pa_cons pe_int (pa_cons pe_int (pa_cons pe_int (pa_cons pe_int pa_nil))))) pa_nil))) pa_nil)) (pa_cons (pe_op op_repT (pe_tupX (pa_cons (pe_tupX (pa_cons pe_int (pa_cons (pe_tupX pa_nil) pa_nil))) pa_nil)) pe_int) (pa_cons (pe_tupX (pa_cons (pe_tupX (pa_cons pe_bl (pa_cons (pe_tupX pa_nil) pa_nil))) pa_nil)) pa_nil)))))))) pa_nil))))
      (pss_cons (ps_set (i := 13) sc_law.nd rfl (Or.inl rfl) (pe_call (ok_law_pick T) (hr.mono (by decide)) (by rfl) T.law_pick.mg T.law_pick.kp T.law_pick.b .nil pass0 (pa_cons (pv 1) (pa_cons (pe_lstX (pa_cons (pe_tupX (pa_cons pe_int (pa_cons pe_int (pa_cons pe_int (pa_cons pe_bl pa_nil))))) (pa_cons (pe_tupX (pa_cons pe_int (pa_cons pe_int (pa_cons pe_int (pa_cons pe_bl pa_nil))))) (pa_cons (pe_tupX (pa_cons pe_int (pa_cons pe_int (pa_cons pe_int (pa_cons pe_bl pa_nil))))) (pa_cons (pe_tupX (pa_cons pe_int (pa_cons pe_int (pa_cons (pv 2) (pa_cons pe_bl pa_nil))))) (pa_cons (pe_tupX (pa_cons pe_int (pa_cons pe_int (pa_cons pe_int (pa_cons pe_int pa_nil))))) (pa_cons (pe_tupX (pa_cons pe_bl (pa_cons pe_int (pa_cons pe_int (pa_cons pe_bl pa_nil))))) pa_nil))))))) pa_nil))))
      (pss_cons (ps_set (i := 14) sc_law.nd rfl (Or.inl rfl) (pe_call (ok_law_pick T) (hr.mono (by decide)) (by rfl) T.law_pick.mg T.law_pick.kp T.law_pick.b .nil pass0 (pa_cons (pv 1) (pa_cons (pe_lstX (pa_cons (pe_tupX (pa_cons pe_int (pa_cons pe_int pa_nil))) (pa_cons (pe_tupX (pa_cons pe_int (pa_cons pe_int pa_nil))) (pa_cons (pe_tupX (pa_cons pe_int (pa_cons (pv 2) pa_nil))) (pa_cons (pe_tupX (pa_cons pe_int (pa_cons (pe_op op_sub pe_int pe_int) pa_nil))) (pa_cons (pe_tupX (pa_cons pe_bl (pa_cons pe_int pa_nil))) (pa_cons (pe_tupX (pa_cons pe_int (pa_cons pe_bl pa_nil))) pa_nil))))))) pa_nil))))
      (pss_cons (ps_set (i := 15) sc_law.nd rfl (Or.inl rfl) (pe_call (ok_law_take T) (hr.mono (by decide)) (by rfl) T.law_take.mg T.law_take.kp T.law_take.b .nil pass0 (pa_cons (pv 1) (pa_cons (pe_op o_add (pe_callB (id := "len") o_len (by rfl) T.b_len (by decide +kernel) (pa_cons (pv 5) pa_nil)) pe_int) pa_nil))))
      (pss_cons (ps_set (i := 16) sc_law.nd rfl (Or.inl rfl) (pe_op o_add (pe_op o_add (pe_slice o_sl (pv 5) po_none (po_some (pv 15))) (pe_tupX (pa_cons (pv 12) pa_nil))) (pe_slice o_sl (pv 5) (po_some (pv 15)) po_none)))
      (pss_cons (ps_if (PW.pt (pw_or (pt_cmpR (o_ne hr.units) (pe_call (ok_law_code T) (hr.mono (by decide)) (by rfl) T.law_code.mg T.law_code.kp T.law_code.b .nil pass0 (pa_cons (pv 4) (pa_cons (pe_tupX (pa_cons (pv 16) (pa_cons (pv 8) (pa_cons (pv 11) pa_nil)))) pa_nil))) pe_str (nomark _)) (pw_or1 (pt_cmpR (o_ne hr.units) (pe_call (ok_law_code T) (hr.mono (by decide)) (by rfl) T.law_code.mg T.law_code.kp T.law_code.b .nil pass0 (pa_cons (pv 4) (pa_cons (pe_tupX (pa_cons (pv 16) (pa_cons (pe_tupX (pa_cons (pv 13) pa_nil)) (pa_cons (pe_tupX (pa_cons (pv 14) pa_nil)) pa_nil)))) pa_nil))) pe_str (nomark _))))) (pss_one (ps_ret pe_bl)) pss_nil)
      (pss_cons (ps_if (PW.pt (pw_or (pt_cmpR (o_ne hr.units) (pe_call (ok_law_code T) (hr.mono (by decide)) (by rfl) T.law_code.mg T.law_code.kp T.law_code.b .nil pass0 (pa_cons (pv 4) (pa_cons (pe_tupX (pa_cons (pv 5) (pa_cons (pe_tupX (pa_cons (pv 13) pa_nil)) (pa_cons (pv 11) pa_nil)))) pa_nil))) pe_str (nomark _)) (pw_or1 (pt_cmpR (o_ne hr.units) (pe_call (ok_law_code T) (hr.mono (by decide)) (by rfl) T.law_code.mg T.law_code.kp T.law_code.b .nil pass0 (pa_cons (pv 4) (pa_cons (pe_tupX (pa_cons (pv 5) (pa_cons (pe_tupX (pa_cons (pv 13) pa_nil)) (pa_cons (pe_tupX (pa_cons (pv 14) pa_nil)) pa_nil)))) pa_nil))) pe_str (nomark _))))) (pss_one (ps_ret pe_bl)) pss_nil)
      (pss_join (ps_if (PW.pt (pw_and (pt_cmpR op_gt (pe_callB (id := "len") o_len (by rfl) T.b_len (by decide +kernel) (pa_cons (pv 8) pa_nil)) pe_int (nomark _)) (pw_and1 (PW.pt (pw_or (pt_cmpR (o_ne hr.units) (pe_call (ok_law_code T) (hr.mono (by decide)) (by rfl) T.law_code.mg T.law_code.kp T.law_code.b .nil pass0 (pa_cons (pv 4) (pa_cons (pe_tupX (pa_cons (pv 5) (pa_cons (pe_op o_add (pv 8) (pe_slice o_sl (pv 8) (po_some (pe_un un_neg pe_int)) po_none)) (pa_cons (pv 11) pa_nil)))) pa_nil))) pe_str (nomark _)) (pw_or1 (PW.pt (pw_and (pt_cmpR op_lt (pe_ix ix_seq (pe_ix ix_seq (pv 8) pe_int (fun _ _ => rfl)) pe_int (fun _ _ => rfl)) (pe_ix ix_seq (pe_ix ix_seq (pv 8) (pe_un un_neg pe_int) (fun _ _ => rfl)) pe_int (fun _ _ => rfl)) (nomark _)) (pw_and1 (pt_cmpR (o_ne hr.units) (pe_call (ok_law_code T) (hr.mono (by decide)) (by rfl) T.law_code.mg T.law_code.kp T.law_code.b .nil pass0 (pa_cons (pv 4) (pa_cons (pe_tupX (pa_cons (pv 5) (pa_cons (RevT.pe_revT (pv 8)) (pa_cons (pv 11) pa_nil)))) pa_nil))) pe_str (nomark _))))))))))) (pss_one (ps_ret pe_bl)) pss_nil)
      (pss_join (ps_if (PW.pt (pw_and (pt_cmpR op_gt (pe_callB (id := "len") o_len (by rfl) T.b_len (by decide +kernel) (pa_cons (pv 11) pa_nil)) pe_int (nomark _)) (pw_and1 (pt_cmpR (o_ne hr.units) (pe_call (ok_law_code T) (hr.mono (by decide)) (by rfl) T.law_code.mg T.law_code.kp T.law_code.b .nil pass0 (pa_cons (pv 4) (pa_cons (pe_tupX (pa_cons (pv 5) (pa_cons (pv 8) (pa_cons (RevT.pe_revT (pv 11)) pa_nil)))) pa_nil))) pe_str (nomark _))))) (pss_one (ps_ret pe_bl)) pss_nil)
      (pss_one (ps_ret (pe_cmpR (o_eq hr.units) (pe_call (ok_law_code T) (hr.mono (by decide)) (by rfl) T.law_code.mg T.law_code.kp T.law_code.b .nil pass0 (pa_cons (pv 4) (pa_cons (pe_tupX (pa_cons (pv 5) (pa_cons (pv 8) (pa_cons (pe_tupX (pa_cons (pv 14) pa_nil)) pa_nil)))) pa_nil))) pe_str (nomark _)))))))))))))))))))))))))), ?_⟩
    walk_at "eo init"
    walk_at "eo go"
    refine ⟨a, ns, rfl, hS, hlen, fun d sc H1 nd nsc e1 hD => ?_⟩
    walk_at "eo go"
    rename_i kn H2 k0 k1 e2 hD2
    clear e1 e2 nd nsc hS hD
    have gd : ∀ {A B C : Hp}, Ext [d] A B → Ext [d] B C → Ext [d] A C := fun {A B C} e f => e.trans f (fun _ z => z) (fun _ z _ => z)
    have gn : ∀ {A B C : Hp}, Ext [d] A B → Ext [] B C → Ext [d] A C := fun {A B C} e f => e.trans f (fun _ z => z) (fun _ z => by cases z)
    refine g_lcD walk_range (TgAt K) (fun i b => b = ((0 : Int), 1 + (i : Int))) (fun q z => TgAt.ext q z) (by omega) hD2 (fun _ _ => trivial) ?_ ?_
    · rintro i x H3 H4 hi e hD ⟨rfl, rfl⟩
      walk_at "eo go"
      refine ⟨rfl, ?_⟩
      walk_at "eo go"
      rename_i c H5 c0 c1 e5 hD5 t H6 n6 e6 h6
      exact ⟨gn e5 e6, hD5.ext e6 nin0 nin0, _, rfl, t, _, _, rfl, SqT.of h6⟩
    · intro D H3 acc ts e3 hD3 n3 ndD nsD hts hgood hT hDD
      walk_at "eo go"
      rename_i te H4 m4 e4 h4 tp H5 m5 e5 h5 Fl H6 m6 e6 h6 kf H7 f0 f1 e7 hD7
      have hT7 : TpAt K H7 tp (2 + kn) ts := ⟨te, acc, sqT_ext e7 (sqT_ext e6 (SqT.of h5)), sqT_ext e7 (sqT_ext e6 (sqT_ext e5 (SqT.of h4))), (((hT.imp fun _ _ => TgAt.ext e4).imp fun _ _ => TgAt.ext e5).imp fun _ _ => TgAt.ext e6).imp fun _ _ => TgAt.ext e7⟩
      have hD5 := (hD3.ext e4 nin0 nin0).ext e5 nin0 nin0
      have nFd : Fl ≠ d := (ne_dst1 m6 hD5).symm
      have nFs : Fl ≠ sc := (ne_dst2 m6 hD5).symm
      have hF7 := e7.keep _ _ h6 (nin1 nFd)
      clear e3 hD3 n3 ndD nsD hT hDD e4 h4 e5 h5 e6 h6 e7 m4 m5 m6 hD5 hD2
      refine g_forR (fun (i : Nat) σ H' => ∃ s6 xs fs, σ = [some (.ref a), some (.ref d), some (.int (2 + kn)), some (.ref te), some (.ref tp), some (.ref Fl), s6, none, none, none, none, none, none, none, none, none, none, none, none, none] ∧ DSt H' d sc ∧ TpAt K H' tp (2 + kn) ts ∧ H' Fl = some (.lst xs) ∧ LR (FtAt K) H' xs fs ∧ (∀ f ∈ fs, FtGood f) ∧ fs.length = i) ⟨_, [], [], rfl, hD7, hT7, hF7, trivial, fun _ h => (by cases h), rfl⟩ ?_ ?_
      · clear hD7 hT7 hF7
        rintro i σ H' hi ⟨s6, xs, fs, rfl, hD, hT, hF, hL, hgd, hfl⟩
        walk_at "eo go"
        rename_i kj H8 j0 j1 e8 hD8
        have hF8 := e8.keep _ _ hF (nin1 nFd)
        refine g_lcD walk_range (CpAt K) (fun _ c => CpGood c) (fun q z => CpAt.ext q z) (by omega) hD8 (fun _ _ => trivial) ?_ ?_
        · rintro j x H3 H4 hj e hD ⟨rfl, rfl⟩
          walk_at "eo go"
          refine ⟨rfl, ?_⟩
          walk_at "eo go"
          rename_i c G1 c0 c1 x1 hD1 p1 G2 n2 x2 b2 p2 G3 n3 x3 b3 p3 G4 n4 x4 b4 p4 G5 n5 x5 b5 pl G6 n6 x6 b6 v G7 hv x7 hD7 t G8 n8 x8 b8
          obtain ⟨fl, f, rfl, hf, hfl⟩ : ∃ fl f, v = .ref fl ∧ SqT K G8 fl (f.map V.int) ∧ (f = [] ∨ f = [3] ∨ f = [5, 3999] ∨ f = [7, 2, 0]) := by
            simp only [List.mem_cons, List.not_mem_nil, or_false] at hv
            rcases hv with rfl | rfl | rfl | rfl
            · exact ⟨_, [], rfl, (show SqT K G8 _ [] by walk_at "eo sqT"), .inl rfl⟩
            · exact ⟨_, [3], rfl, (show SqT K G8 _ [.int 3] by walk_at "eo sqT"), .inr (.inl rfl)⟩
            · exact ⟨_, [5, 3999], rfl, (show SqT K G8 _ [.int 5, .int 3999] by walk_at "eo sqT"), .inr (.inr (.inl rfl))⟩
            · exact ⟨_, [7, 2, 0], rfl, (show SqT K G8 _ [.int 7, .int 2, .int 0] by walk_at "eo sqT"), .inr (.inr (.inr rfl))⟩
          exact ⟨by walk_at "eo ext", by walk_at "eo dst", _, cp_good c0 c1 hfl, t, fl, rfl, SqT.of b8, hf⟩
        · intro D H9 acc cs e9 hD9 n9 ndD nsD hcs hgood hC hDD
          walk_at "eo go"
          rename_i p G1 m1 x1 b1
          have hF9 := x1.keep _ _ (e9.keep _ _ hF8 (nin1 nFd)) nin0
          refine g_append hF9 (by rw [hL.len, sizeLine_eq]; omega) fun G2 x2 b2 => ?_
          refine ⟨_, _, fs ++ [cs], rfl, (hD9.ext x1 nin0 nin0).ext x2 (nin1 nFd.symm) (nin1 nFs.symm), (((hT.ext e8).ext e9).ext x1).ext x2, b2, LR.snoc ((((hL.imp fun _ _ => FtAt.ext e8).imp fun _ _ => FtAt.ext e9).imp fun _ _ => FtAt.ext x1).imp fun _ _ => FtAt.ext x2) ⟨p, acc, rfl, sqT_ext x2 (SqT.of b1), (hC.imp fun _ _ => CpAt.ext x1).imp fun _ _ => CpAt.ext x2⟩, fun f hf => ?_, by rw [List.length_append, hfl]; rfl⟩
          rcases List.mem_append.mp hf with c | c
          · exact hgd f c
          · rw [List.mem_singleton.mp c]
            exact ⟨fun c hc => by obtain ⟨i, hi⟩ := List.mem_iff_getElem?.mp hc; exact hgood i c hi, by rw [hcs]; omega⟩
      · rintro σ H' ⟨s6, xs, fs, rfl, hD, hT, hF, hL, hgd, hfl⟩
        walk_at "eo go"
        rename_i Ft G1 m1 x1 b1 kt G2 t0 t1 x2 hD2
        have hX : Fx K G2 tp Ft (2 + kn) ts fs := Fx.ext x2 ⟨hT.ext x1, xs, SqT.of b1, hL.imp fun _ _ => FtAt.ext x1⟩
        clear hT hF hL hD x1 x2 b1 m1 hT7 hF7 hD7 nFd nFs
        refine g_lcD walk_range IsI (fun _ n => 1 ≤ n ∧ n ≤ 20000) (fun _ z => z) (by omega) hD2 (fun _ _ => trivial) ?_ ?_
        · rintro j x H3 H4 hj e hD ⟨rfl, rfl⟩
          walk_at "eo go"
          refine ⟨rfl, ?_⟩
          walk_at "eo go"
          rename_i c G3 c0 c1 x3 hD3
          exact ⟨x3, hD3, _, ⟨by omega, by omega⟩, rfl⟩
        · intro D3 H3 acc L e3 hD3 n3 ndD nsD hLl hgood3 hA hDD
          have hA := lr_i hA
          subst hA
          walk_at "eo go"
          refine ⟨D3, L, rfl, SqL.of hDD, by omega, fun L' p3 hperm hpw n4 => ?_⟩
          have e4 : Ext [] H3 (upd H3 p3 (.lst (L'.map V.int))) := Ext.new n4
          have h4 : upd H3 p3 (.lst (L'.map V.int)) p3 = some (.lst (L'.map V.int)) := upd_same
          generalize upd H3 p3 (.lst (L'.map V.int)) = H4 at e4 h4 ⊢
          walk_at "eo go"
          rename_i Rw H5 n5 e5 h5
          have hD4 := hD3.ext e4 nin0 nin0
          have hD5 := hD4.ext e5 nin0 nin0
          have hX5 := ((hX.ext e3).ext e4).ext e5
          have hp5 := e5.keep _ _ h4 nin0
          have np3d : p3 ≠ d := (ne_dst1 n4 hD3).symm
          have np3s : p3 ≠ sc := (ne_dst2 n4 hD3).symm
          have nRd : Rw ≠ d := (ne_dst1 n5 hD4).symm
          have nRs : Rw ≠ sc := (ne_dst2 n5 hD4).symm
          have nRp : Rw ≠ p3 := (ne_of_none h4 n5).symm
          have hLt : ∀ t ∈ L', 1 ≤ t ∧ t ≤ 20000 := fun t ht => by
            obtain ⟨i, hi⟩ := List.mem_iff_getElem?.mp (hperm.mem_iff.mp ht)
            exact hgood3 i t hi
          have hLl' : L'.length ≤ 4 := by rw [hperm.length_eq]; omega
          clear hX hD2 hD3 hD4 n3 ndD nsD hDD e3 e4 h4 e5 n4 n5
          refine g_forL (L'.map V.int) (SqL.of hp5) (fun i σ H' => ∃ s9 s10 xs es, σ = [some (.ref a), some (.ref d), some (.int (2 + kn)), some (.ref te), some (.ref tp), some (.ref Ft), s6, some (.ref p3), some (.ref Rw), s9, s10, none, none, none, none, none, none, none, none, none] ∧ DSt H' d sc ∧ Fx K H' tp Ft (2 + kn) ts fs ∧ H' p3 = some (.lst (L'.map V.int)) ∧ H' Rw = some (.lst xs) ∧ LR (EgAt K) H' xs es ∧ RowOk (2 + kn) es ∧ es.length ≤ i ∧ ∀ e ∈ es, ∃ j, j < i ∧ L'[j]? = some (vI e.t)) ⟨_, _, [], [], rfl, hD5, hX5, hp5, h5, trivial, RowOk.nil, Nat.le_refl _, fun _ h => (by cases h)⟩ (fun i σ H' _ ⟨_, _, _, _, _, _, _, h, _⟩ => SqL.of h) ?_ ?_
          · clear hD5 hX5 hp5 h5
            rintro i x σ H' hi ⟨s9, s10, xs, es, rfl, hD, hX, hP, hR, hE, hok, hel, hj⟩
            obtain ⟨t, hti, rfl⟩ := mem_map_int hi
            walk_at "eo go"
            rename_i kb G1 b0 b1 x1 hD1 ku G2 u0 u1 x2 hD2 eg G3 m3 x3 y3 c G4 x4 y4
            have e04 : Ext [d] H' G4 := by walk_at "eo ext"
            have hDg := (hD2.ext x3 nin0 nin0).ext x4 nin0 nin0
            have hRg := e04.keep _ _ hR (nin1 nRd)
            have hPg := e04.keep _ _ hP (nin1 np3d)
            have hXg := hX.ext e04
            have hEg := hE.imp fun _ _ => EgAt.ext e04
            have yg := x4.imm _ _ y3 rfl
            have hxl := hE.len
            have ht := hLt t (List.mem_of_getElem? hti)
            have hil : i < L'.length := (List.getElem?_eq_some_iff.mp hti).1
            clear hD hX hP hR hE x1 x2 x3 x4 hD1 hD2 m3 y3 e04
            refine g_lcR walk_list (TrAt K) (fun q z => z.ext q) (es.map tri) (by rw [List.length_map]; exact hxl) (by omega) (fun H e => SqL.of (e.keep _ _ hRg nin0)) ?_ ?_
            · rintro j x H1 H2 b hb e2 ⟨rfl, hx⟩
              obtain ⟨eg1, hq1, t1, rfl, ht1⟩ := hEg.get hx
              rw [List.getElem?_map, hq1] at hb
              cases hb
              have ht1 := sqT_ext e2 ht1
              obtain ⟨tt, bb, uu, rfl, _⟩ := hok.ok _ (List.mem_of_getElem? hq1)
              walk_at "eo go"
              refine ⟨rfl, ?_⟩
              walk_at "eo go"
              rename_i c2 G5 x5 y5
              exact ⟨x5, c2, rfl, y5⟩
            · intro D5 G5 acc5 x5 n5 hA5 hD5
              walk_at "eo go"
              refine g_ninTr (p := (t, 0, 1 + kb)) (sqT_ext x5 y4) hD5 hA5 ?_
              have hD6 := hDg.ext x5 nin0 nin0
              have hR6 := x5.keep _ _ hRg nin0
              have hP6 := x5.keep _ _ hPg nin0
              have hX6 := hXg.ext x5
              have hE6 := hEg.imp fun _ _ => EgAt.ext x5
              have y6 := x5.imm _ _ yg rfl
              have nDR : D5 ≠ Rw := (ne_of_none hRg n5).symm
              clear hDg hRg hPg hXg hEg yg y4 x5 n5 hA5 hD5
              refine ⟨_, rfl, ?_⟩
              cases hm : decide ((t, 0, 1 + kb) ∈ es.map tri) with
              | false =>
                have hm' := dec_f hm
                refine g_iteDT rfl ?_
                walk_at "eo go"
                rename_i l1 G6 m6 x6 y7
                refine g_extend (x6.keep _ _ hR6 nin0) y7 (by rw [hxl, sizeLine_eq]; show es.length + 1 ≤ _; omega) fun G7 x7 y8 => ?_
                have z : Ext [Rw] G5 G7 := x6.trans x7 (fun _ h => by cases h) (fun _ h _ => h)
                refine ⟨_, _, _, es ++ [⟨.int t, 0, 1 + kb, .bl (decide (V.int ku = V.int 1))⟩], rfl, hD6.ext z (nin1 nRd.symm) (nin1 nRs.symm), hX6.ext z, z.keep _ _ hP6 (nin1 nRp.symm), y8, LR.snoc (hE6.imp fun _ _ => EgAt.ext z) ⟨eg, rfl, SqT.of (z.imm _ _ y6 rfl)⟩, hok.snoc (by omega) (by omega) ht.1 ht.2 (fun e he => ?_) hm', by rw [List.length_append, List.length_singleton]; omega, fun e he => ?_⟩
                · obtain ⟨j, j1, j2⟩ := hj e he
                  exact pw_get hpw j1 j2 hti
                · rcases List.mem_append.mp he with c | c
                  · obtain ⟨j, j1, j2⟩ := hj e c
                    exact ⟨j, by omega, j2⟩
                  · rw [List.mem_singleton.mp c]
                    exact ⟨i, by omega, hti⟩
              | true =>
                refine g_iteDF rfl ?_
                walk_at "eo go"
                rename_i l1 G6 m6 x6 y7
                refine g_extend (x6.keep _ _ hR6 nin0) y7 (by rw [hxl, sizeLine_eq]; show es.length + 0 ≤ _; omega) fun G7 x7 y8 => ?_
                have z : Ext [Rw] G5 G7 := x6.trans x7 (fun _ h => by cases h) (fun _ h _ => h)
                rw [List.append_nil] at y8
                refine ⟨_, _, _, es, rfl, hD6.ext z (nin1 nRd.symm) (nin1 nRs.symm), hX6.ext z, z.keep _ _ hP6 (nin1 nRp.symm), y8, hE6.imp fun _ _ => EgAt.ext z, hok, by omega, fun e he => ?_⟩
                obtain ⟨j, j1, j2⟩ := hj e he
                exact ⟨j, by omega, j2⟩
          · clear hD5 hX5 hp5 h5
            rintro σ H' ⟨s9, s10, xs, es, rfl, hD, hX, hP, hR, hE, hok, hel, hj⟩
            have hel : es.length ≤ 4 := by rw [List.length_map] at hel; omega
            clear hj hP np3d np3s nRp hpw hperm hLt hLl' hLl hgood3 hA
            walk_at "eo go"
            rename_i Rt G1 n1 x1 y1 kc G2 c0 c1 x2 hD2
            have hX2 := (hX.ext x1).ext x2
            have hE2 := (hE.imp fun _ _ => EgAt.ext x1).imp fun _ _ => EgAt.ext x2
            have y2 := x2.imm _ _ y1 rfl
            clear hD hX hR hE x1 x2 y1 n1 nRd nRs
            refine g_lcD walk_range PrAt (fun _ p => 1 ≤ p.1 ∧ p.1 ≤ 20000 ∧ 0 ≤ p.2 ∧ p.2 < 2 + kn) (fun q z => PrAt.ext q z) (by omega) hD2 (fun _ _ => trivial) ?_ ?_
            · rintro j x H3 H4 hj e hD ⟨rfl, rfl⟩
              walk_at "eo go"
              refine ⟨rfl, ?_⟩
              walk_at "eo go"
              rename_i c G3 v0 v1 x3 hD3 c2 G4 w0 w1 x4 hD4 t G5 n5 x5 y5
              exact ⟨(x3.trans x4 (fun _ z => z) (fun _ z _ => z)).trans x5 (fun _ z => z) (fun _ z => by cases z), hD4.ext x5 nin0 nin0, (1 + c, c2), ⟨by omega, by omega, w0, w1⟩, t, rfl, y5⟩
            · intro D3 H3 acc L e3 hD3 n3 ndD nsD hLl hgood3 hA hDD
              walk_at "eo go"
              obtain ⟨ks, rfl, hks, hkl⟩ := prs_ks hA
              refine ⟨D3, ks, rfl, SqL.of hDD, fun p hp => SqT.of (hks p hp).1, by omega, fun S L1 n4 hin hall => ?_⟩
              have e4 : Ext [] H3 (upd H3 S (SetTO P w S L1)) := Ext.new n4
              have h4 : upd H3 S (SetTO P w S L1) S = some (SetTO P w S L1) := upd_same
              generalize upd H3 S (SetTO P w S L1) = H4 at e4 h4 ⊢
              walk_at "eo go"
              have hin2 : ∀ p ∈ L1, H4 p.1 = some (.tup (p.2.map V.int)) ∧ ∃ t m, p.2 = [t, m] ∧ 1 ≤ t ∧ t ≤ 20000 ∧ 0 ≤ m ∧ m < 2 + kn := fun p hp => by
                obtain ⟨a1, q, hq, a2⟩ := hks p (hin p hp)
                obtain ⟨i, hi⟩ := List.mem_iff_getElem?.mp hq
                exact ⟨e4.imm _ _ a1 rfl, q.1, q.2, a2, hgood3 i q hi⟩
              refine ⟨S, L1, 2, 32768, rfl, h4, fun p hp => SqT.of (hin2 p hp).1, by decide, fun p hp => ?_, fun L2 p5 hperm nd hlen64 hpw n5 => ?_⟩
              · obtain ⟨_, t, m, e, a1, a2, a3, a4⟩ := hin2 p hp
                rw [e]
                refine ⟨rfl, fun x hx => ?_⟩
                simp only [List.mem_cons, List.not_mem_nil, or_false] at hx
                rcases hx with rfl | rfl <;> omega
              have hD4 := hD3.ext e4 nin0 nin0
              have e34 := gn e3 e4
              have hX4 := hX2.ext e34
              have hE4 := hE2.imp fun _ _ => EgAt.ext e34
              have y4 := e34.imm _ _ y2 rfl
              clear hD2 hX2 hE2 y2 e3 hD3 n3 ndD nsD hDD hA hks hin hall n4 h4 e34 e4
              have e5 : Ext [] H4 (upd H4 p5 (.lst (L2.map fun q => V.ref q.1))) := Ext.new n5
              have h5 : upd H4 p5 (.lst (L2.map fun q => V.ref q.1)) p5 = some (.lst (L2.map fun q => V.ref q.1)) := upd_same
              generalize upd H4 p5 (.lst (L2.map fun q => V.ref q.1)) = H5 at e5 h5 ⊢
              walk_at "eo go"
              rename_i Ct G1 n6 x1 y5 pt G2 n7 x2 y6
              have hcr : CrsOk (2 + kn) (L2.map crOf) := crs_ok (fun p hp => (hin2 p (hperm.mem_iff.mp hp)).2) (by omega) nd hpw
              have hC5 : LR CrAt H5 (L2.map fun q => V.ref q.1) (L2.map crOf) := crs_at fun p hp => by
                obtain ⟨a1, t, m, a2, _⟩ := hin2 p (hperm.mem_iff.mp hp)
                exact ⟨e5.keep _ _ a1 nin0, t, m, a2⟩
              have hcl : (L2.map crOf).length ≤ 63 := by rw [List.length_map]; omega
              generalize hcs : L2.map crOf = cs at hcr hC5 hcl
              have hW : Wo K d sc tp Ft Rt Ct (2 + kn) ts fs es cs G2 := Wo.ext0 x2 ⟨(hD4.ext e5 nin0 nin0).ext x1 nin0 nin0, (hX4.1.ext e5).ext x1, FsAt.ext x1 (FsAt.ext e5 hX4.2), (EsAt.ext e5 ⟨_, SqT.of y4, hE4⟩).ext x1, ⟨_, SqT.of y5, hC5.imp fun _ _ => CrAt.ext x1⟩⟩
              have hts' : ∀ b, 1 ≤ b → b < 2 + kn → ((0 : Int), b) ∈ ts := fun b b1 b2 => by
                have hb : (b - 1).toNat < ts.length := by omega
                have := hgood _ _ (List.getElem?_eq_getElem hb)
                have e : ts[(b - 1).toNat] = (0, b) := by rw [this]; congr 1; omega
                rw [← e]
                exact List.getElem_mem hb
              have htn : ∀ p ∈ ts, p.1 = 0 ∧ p.2 < 2 + kn := fun p hp => by
                obtain ⟨i, hi⟩ := List.mem_iff_getElem?.mp hp
                have := hgood i p hi
                have hl := (List.getElem?_eq_some_iff.mp hi).1
                rw [this]
                exact ⟨rfl, by show 1 + (i : Int) < _; omega⟩
              have hn : 1 ≤ 2 + kn ∧ 2 + kn ≤ 20 ∧ ts.length ≤ 50 := ⟨by omega, by omega, by omega⟩
              have nf : ∀ f ∈ fs, NbF f := fun f hf => (hgd f hf).nb
              have lf : fs.length ≤ 6 := by omega
              have hn0 : (0 : Int) < 2 + kn - 1 := by omega
              generalize hnn : 2 + kn = n at *
              clear hnn hcs hin2 hperm nd hlen64 hpw hC5 hD4 hX4 hE4 y4 y5 x1 x2 e5 h5 n5 n6 n7 hgood hgood3 hLl hkl hts hfl
              refine g_code (SqT.of y6) hW.T hW.F hW.E hW.C (pl_none hgd hok hcr hts') hn nf hok.nb hcr.nb (by omega) (by omega) hcl fun H6 x3 => ?_
              have hW := hW.ext0 x3
              clear y6 x3
              walk_at "eo go"
              rename_i a1 A1 f1 i1 o1 a2 A2 f2 i2 o2 a3 A3 f3 i3 o3 b1 B1 g1 j1 q1 b2 B2 g2 j2 q2 b3 B3 g3 j3 q3 c1 C1 h1 k1 r1 c2 C2 h2 k2 r2 c3 C3 h3 k3 r3 d1 D1 l1 m1 s1 d2 D2 l2 m2 s2 d3 D3 l3 m3 s3 t1 T1 n1 x1 u1 t2 T2 n2 x2 u2 t3 T3 n3 x3 u3 w1 W1 y1 z1 v1 w2 W2 y2 z2 v2 w3 W3 y3 z3 v3
              refine g_repT (SqT.of v3) (by simp) (by decide) (by decide) (Nat.le_of_ble_eq_true rfl) fun w4 W4 y4 z4 v4 => ?_
              walk_at "eo go"
              rename_i aa1 AA1 ab1 ac1 ad1 aa2 AA2 ab2 ac2 ad2 aa3 AA3 ab3 ac3 ad3 al AL ab4 ac4 ad4
              have hW3 := hW.ext0 (show Ext [] H6 AA3 by walk_at "eo ext")
              have hW4 := hW3.ext0 ac4
              refine g_pick hW4.D (SqL.of ad4) (ne_dst1 ab4 hW3.D).symm (by walk_at "eo pos") (by walk_at "eo pos") fun vf F1 hvf ef hDf => ?_
              obtain ⟨bf, hbf, hbf1, hbf2⟩ : ∃ bf, FtAt K AL vf bf ∧ ftOk bf = false ∧ NbF bf := by
                have nbI : ∀ {i : Int}, NB (.int i) := .inl ⟨_, rfl⟩
                have nb1 : ∀ {v : V} {f : List Int}, NB v → f.length ≤ 50 → NbF [⟨v, f⟩] := fun h h2 => ⟨fun c hc => by rw [List.mem_singleton.mp hc]; exact ⟨h, h2⟩, show 1 ≤ 50 by decide⟩
                simp only [List.mem_cons, List.not_mem_nil, or_false] at hvf
                rcases hvf with rfl | rfl | rfl | rfl | rfl | rfl | rfl
                · exact ⟨[⟨.int 0, []⟩], ⟨_, [.ref a2], rfl, by walk_at "eo sqT", ⟨a2, a1, rfl, by walk_at "eo sqT", (show SqT K AL a1 [] by walk_at "eo sqT")⟩, trivial⟩, by decide, nb1 nbI (by decide)⟩
                · exact ⟨[⟨.int 7, []⟩], ⟨_, [.ref b2], rfl, by walk_at "eo sqT", ⟨b2, b1, rfl, by walk_at "eo sqT", (show SqT K AL b1 [] by walk_at "eo sqT")⟩, trivial⟩, by decide, nb1 nbI (by decide)⟩
                · exact ⟨[⟨.int 1, [4000]⟩], ⟨_, [.ref c2], rfl, by walk_at "eo sqT", ⟨c2, c1, rfl, by walk_at "eo sqT", (show SqT K AL c1 [.int 4000] by walk_at "eo sqT")⟩, trivial⟩, by decide, nb1 nbI (by decide)⟩
                · exact ⟨[⟨.int 1, [3, 3]⟩], ⟨_, [.ref d2], rfl, by walk_at "eo sqT", ⟨d2, d1, rfl, by walk_at "eo sqT", (show SqT K AL d1 [.int 3, .int 3] by walk_at "eo sqT")⟩, trivial⟩, by decide, nb1 nbI (by decide)⟩
                · exact ⟨[⟨.int 1, [1, 2, 3, 4]⟩], ⟨_, [.ref t2], rfl, by walk_at "eo sqT", ⟨t2, t1, rfl, by walk_at "eo sqT", (show SqT K AL t1 [.int 1, .int 2, .int 3, .int 4] by walk_at "eo sqT")⟩, trivial⟩, by decide, nb1 nbI (by decide)⟩
                · have q : CpAt K AL (.ref w2) ⟨.int 1, []⟩ := ⟨w2, w1, rfl, by walk_at "eo sqT", (show SqT K AL w1 [] by walk_at "eo sqT")⟩
                  refine ⟨List.replicate 4 ⟨.int 1, []⟩, ⟨_, [.ref w2, .ref w2, .ref w2, .ref w2], rfl, ?_, q, q, q, q, trivial⟩, by decide, fun c hc => ?_, by decide⟩
                  · have v4' : W4 w4 = some (.tup [.ref w2, .ref w2, .ref w2, .ref w2]) := v4
                    walk_at "eo sqT"
                  · rw [(List.mem_replicate.mp hc).2]
                    exact ⟨nbI, by decide⟩
                · exact ⟨[⟨.bl true, []⟩], ⟨_, [.ref aa2], rfl, by walk_at "eo sqT", ⟨aa2, aa1, rfl, by walk_at "eo sqT", (show SqT K AL aa1 [] by walk_at "eo sqT")⟩, trivial⟩, by decide, nb1 (.inr ⟨_, rfl⟩) (by decide)⟩
              have hWf := hW4.extd ef hDf
              have hbf := hbf.ext ef
              clear f1 i1 o1 f2 i2 o2 f3 i3 o3 g1 j1 q1 g2 j2 q2 g3 j3 q3 h1 k1 r1 h2 k2 r2 h3 k3 r3 l1 m1 s1 l2 m2 s2 l3 m3 s3 n1 x1 u1 n2 x2 u2 n3 x3 u3 y1 z1 v1 y2 z2 v2 y3 z3 v3 y4 z4 v4 ab1 ac1 ad1 ab2 ac2 ad2 ab3 ac3 ad3 ab4 ac4 ad4 hW3 hW4 ef hvf hDf hW
              walk_at "eo go"
              rename_i a1 A1 f1 i1 o1 a2 A2 f2 i2 o2 a3 A3 f3 i3 o3 a4 A4 f4 i4 o4 a5 A5 f5 i5 o5 a6 A6 f6 i6 o6 al AL fl il ol
              have hW3 := hWf.ext0 (show Ext [] F1 A6 by walk_at "eo ext")
              have hW4 := hW3.ext0 il
              refine g_pick hW4.D (SqL.of ol) (ne_dst1 fl hW3.D).symm (by walk_at "eo pos") (by walk_at "eo pos") fun ve F2 hve ef hDf => ?_
              obtain ⟨be, hbe, hbe1, hbe2⟩ : ∃ be, EgAt K AL ve be ∧ (egOk ts be && upOk be) = false ∧ (NB be.t ∧ NB be.u) := by
                have nbI : ∀ {i : Int}, NB (.int i) := .inl ⟨_, rfl⟩
                have nbB : ∀ {i : Bool}, NB (.bl i) := .inr ⟨_, rfl⟩
                have bd1 : ∀ {e : Eg}, isnum e.t 1 20000 = false → (egOk ts e && upOk e) = false := fun {e} h => by unfold egOk; rw [h, Bool.and_false, Bool.false_and]
                have bd2 : ∀ {e : Eg}, (e.a, e.b) ∉ ts → (egOk ts e && upOk e) = false := fun {e} h => by unfold egOk; rw [decide_eq_false h, Bool.false_and, Bool.false_and]
                have bd3 : ∀ {e : Eg}, upOk e = false → (egOk ts e && upOk e) = false := fun {e} h => by rw [h, Bool.and_false]
                simp only [List.mem_cons, List.not_mem_nil, or_false] at hve
                rcases hve with rfl | rfl | rfl | rfl | rfl | rfl
                · exact ⟨⟨.int 0, 0, 1, .bl true⟩, ⟨_, rfl, by walk_at "eo sqT"⟩, bd1 (by decide), nbI, nbB⟩
                · exact ⟨⟨.int 20001, 0, 1, .bl true⟩, ⟨_, rfl, by walk_at "eo sqT"⟩, bd1 (by decide), nbI, nbB⟩
                · exact ⟨⟨.int 5, 1, 0, .bl true⟩, ⟨_, rfl, by walk_at "eo sqT"⟩, bd2 (fun h => by have := (htn _ h).1; exact absurd this (by decide)), nbI, nbB⟩
                · exact ⟨⟨.int 5, 0, n, .bl true⟩, ⟨_, rfl, by walk_at "eo sqT"⟩, bd2 (fun h => by have := (htn _ h).2; exact absurd this (Int.lt_irrefl _)), nbI, nbB⟩
                · exact ⟨⟨.int 5, 0, 1, .int 1⟩, ⟨_, rfl, by walk_at "eo sqT"⟩, bd3 rfl, nbI, nbI⟩
                · exact ⟨⟨.bl true, 0, 1, .bl true⟩, ⟨_, rfl, by walk_at "eo sqT"⟩, bd1 rfl, nbB, nbB⟩
              have hWe := hW4.extd ef hDf
              have hbe := hbe.ext ef
              have hbf := (hbf.ext (show Ext [] F1 AL by walk_at "eo ext")).ext ef
              clear f1 i1 o1 f2 i2 o2 f3 i3 o3 f4 i4 o4 f5 i5 o5 f6 i6 o6 fl il ol hW3 hW4 ef hve hDf hWf
              walk_at "eo go"
              rename_i a1 A1 f1 i1 o1 a2 A2 f2 i2 o2 a3 A3 f3 i3 o3 a4 A4 f4 i4 o4 a5 A5 f5 i5 o5 a6 A6 f6 i6 o6 al AL fl il ol
              have hW3 := hWe.ext0 (show Ext [] F2 A6 by walk_at "eo ext")
              have hW4 := hW3.ext0 il
              refine g_pick hW4.D (SqL.of ol) (ne_dst1 fl hW3.D).symm (by walk_at "eo pos") (by walk_at "eo pos") fun vc F3 hvc ef hDf => ?_
              obtain ⟨bc, hbc, hbc1, hbc2⟩ : ∃ bc, CrAt AL vc bc ∧ crOk (n - 1) bc = false ∧ (NB bc.t ∧ NB bc.n) := by
                have nbI : ∀ {i : Int}, NB (.int i) := .inl ⟨_, rfl⟩
                have nbB : ∀ {i : Bool}, NB (.bl i) := .inr ⟨_, rfl⟩
                have bd1 : ∀ {e : Cr}, isnum e.t 1 20000 = false → crOk (n - 1) e = false := fun {e} h => by unfold crOk; rw [h, Bool.and_false]
                have bd2 : ∀ {e : Cr}, isnum e.n 0 (n - 1) = false → crOk (n - 1) e = false := fun {e} h => by unfold crOk; rw [h, Bool.false_and]
                simp only [List.mem_cons, List.not_mem_nil, or_false] at hvc
                rcases hvc with rfl | rfl | rfl | rfl | rfl | rfl
                · exact ⟨⟨.int 0, .int 0⟩, ⟨_, rfl, by walk_at "eo fact"⟩, bd1 (by decide), nbI, nbI⟩
                · exact ⟨⟨.int 20001, .int 0⟩, ⟨_, rfl, by walk_at "eo fact"⟩, bd1 (by decide), nbI, nbI⟩
                · exact ⟨⟨.int 5, .int n⟩, ⟨_, rfl, by walk_at "eo fact"⟩, bd2 (isnum_hi (by omega)), nbI, nbI⟩
                · exact ⟨⟨.int 5, .int (0 - 1)⟩, ⟨_, rfl, by walk_at "eo fact"⟩, bd2 (isnum_lo (by decide)), nbI, nbI⟩
                · exact ⟨⟨.bl true, .int 0⟩, ⟨_, rfl, by walk_at "eo fact"⟩, bd1 rfl, nbB, nbI⟩
                · exact ⟨⟨.int 5, .bl true⟩, ⟨_, rfl, by walk_at "eo fact"⟩, bd2 rfl, nbI, nbB⟩
              have hWc := hW4.extd ef hDf
              have hbc := hbc.ext ef
              have e23 : Ext [] F2 AL := by walk_at "eo ext"
              have hbf := (hbf.ext e23).ext ef
              have hbe := (hbe.ext e23).ext ef
              clear f1 i1 o1 f2 i2 o2 f3 i3 o3 f4 i4 o4 f5 i5 o5 f6 i6 o6 fl il ol hW3 hW4 ef hvc hDf hWe e23
              walk_at "eo go"
              obtain ⟨xf, hxf, hLf⟩ := hWc.F
              have hxfl : xf.length ≤ 6 := by rw [hLf.len]; exact lf
              refine g_lenT hxf ?_
              walk_at "eo go"
              refine g_take hWc.D (by omega) (by omega) fun kk G1 k0 k1 x1 hD1 => ?_
              obtain ⟨m, rfl⟩ := Int.eq_ofNat_of_zero_le k0
              have hW := hWc.extd x1 hD1
              have hbc := hbc.ext x1
              have hbe := hbe.ext x1
              have hbf := hbf.ext x1
              have hxf := sqT_ext x1 hxf
              have hLf := hLf.imp fun _ _ => FtAt.ext x1
              clear hWc x1 hD1
              walk_at "eo go"
              rename_i u1 U1 x1 y1 u2 U2 m2 x2 y2 u3 U3 x3 y3 u4 U4 x4 y4 wt U5 x5 y5 pt U6 m6 x6 y6
              have e15 : Ext [] G1 U5 := by walk_at "eo ext"
              have hFw : FsAt K U6 wt (fs.take m ++ [bf] ++ fs.drop m) := FsAt.ext x6 ⟨_, y5, by
                have a := hLf.imp fun _ _ => FtAt.ext e15
                exact ((a.take m).app (LR.one (hbf.ext e15))).app (a.drop m)⟩
              have hW := (hW.ext0 e15).ext0 x6
              have hbe := (hbe.ext e15).ext x6
              have hbc := (hbc.ext e15).ext x6
              have wm : bf ∈ fs.take m ++ [bf] ++ fs.drop m := List.mem_append_left _ (List.mem_append_right _ (List.mem_singleton.mpr rfl))
              have nw : ∀ f ∈ fs.take m ++ [bf] ++ fs.drop m, NbF f := fun f hf => by
                rcases List.mem_append.mp hf with c | c
                · rcases List.mem_append.mp c with c | c
                  · exact nf f (List.mem_of_mem_take c)
                  · rw [List.mem_singleton.mp c]; exact hbf2
                · exact nf f (List.mem_of_mem_drop c)
              have lw : (fs.take m ++ [bf] ++ fs.drop m).length ≤ 50 := by
                simp only [List.length_append, List.length_take, List.length_drop, List.length_singleton]
                omega
              have ne1 : ∀ e ∈ [be], NB e.t ∧ NB e.u := fun e he => by rw [List.mem_singleton.mp he]; exact hbe2
              have nc1 : ∀ c ∈ [bc], NB c.t ∧ NB c.n := fun e he => by rw [List.mem_singleton.mp he]; exact hbc2
              have l1 : ∀ {α : Type} {x : α}, [x].length ≤ 50 := fun {α x} => show 1 ≤ 50 by decide
              have l1' : ∀ {α : Type} {x : α}, [x].length ≤ 63 := fun {α x} => show 1 ≤ 63 by decide
              have lf : fs.length ≤ 50 := by omega
              have le : es.length ≤ 50 := by omega
              generalize fs.take m ++ [bf] ++ fs.drop m = fw at *
              clear x1 y1 m2 x2 y2 x3 y3 x4 y4 x5 y5 m6 x6 e15 hLf hxf hbf
              refine g_code (SqT.of y6) hW.T hFw hW.E hW.C (pl_fate hbf1 wm) hn nw hok.nb hcr.nb lw le hcl fun Z1 x1 => ?_
              have hW := hW.ext0 x1
              have hbe := hbe.ext x1
              have hbc := hbc.ext x1
              have hFw := hFw.ext x1
              clear x1 y6
              walk_at "eo go"
              rename_i u1 U1 m1 x1 y1 u2 U2 m2 x2 y2 pt U3 m3 x3 y3
              have q1 : SqT K U3 u1 [ve] := by walk_at "eo sqT"
              have q2 : SqT K U3 u2 [vc] := by walk_at "eo sqT"
              have e13 : Ext [] Z1 U3 := by walk_at "eo ext"
              have hW := hW.ext0 e13
              have hbe := hbe.ext e13
              have hbc := hbc.ext e13
              refine g_code (SqT.of y3) hW.T (hFw.ext e13) ⟨[ve], q1, LR.one hbe⟩ ⟨[vc], q2, LR.one hbc⟩ (pl_fate hbf1 wm) hn nw ne1 nc1 lw l1 l1' fun Z2 x4 => ?_
              have hW := hW.ext0 x4
              have hbe := hbe.ext x4
              have hbc := hbc.ext x4
              clear m1 x1 y1 m2 x2 y2 m3 x3 y3 e13 x4 hFw
              walk_at "eo go"
              rename_i u1 U1 m1 x1 y1 pt U3 m3 x3 y3
              have q1 : SqT K U3 u1 [ve] := by walk_at "eo sqT"
              have e13 : Ext [] Z2 U3 := by walk_at "eo ext"
              have hW := hW.ext0 e13
              have hbe := hbe.ext e13
              have hbc := hbc.ext e13
              refine g_code (SqT.of y3) hW.T hW.F ⟨[ve], q1, LR.one hbe⟩ hW.C (pl_edge1 hgd hbe1) hn nf ne1 hcr.nb lf l1 hcl fun Z3 x4 => ?_
              have hW := hW.ext0 x4
              have hbe := hbe.ext x4
              have hbc := hbc.ext x4
              clear m1 x1 y1 m3 x3 y3 e13 x4
              walk_at "eo go"
              rename_i u1 U1 m1 x1 y1 u2 U2 m2 x2 y2 pt U3 m3 x3 y3
              have q1 : SqT K U3 u1 [ve] := by walk_at "eo sqT"
              have q2 : SqT K U3 u2 [vc] := by walk_at "eo sqT"
              have e13 : Ext [] Z3 U3 := by walk_at "eo ext"
              have hW := hW.ext0 e13
              have hbe := hbe.ext e13
              have hbc := hbc.ext e13
              refine g_code (SqT.of y3) hW.T hW.F ⟨[ve], q1, LR.one hbe⟩ ⟨[vc], q2, LR.one hbc⟩ (pl_edge1 hgd hbe1) hn nf ne1 nc1 lf l1 l1' fun Z4 x4 => ?_
              have hW := hW.ext0 x4
              have hbc := hbc.ext x4
              clear m1 x1 y1 m2 x2 y2 m3 x3 y3 e13 x4 hbe
              walk_at "eo go"
              refine g_join (fun σ' H' => σ' = [some (.ref a), some (.ref d), some (.int n), some (.ref te), some (.ref tp), some (.ref Ft), s6, some (.ref p3), some (.ref Rt), s9, s10, some (.ref Ct), some vf, some ve, some vc, some (.int m), some (.ref wt), none, none, none] ∧ Wo K d sc tp Ft Rt Ct n ts fs es cs H' ∧ CrAt H' vc bc) ?_ ?_
              · obtain ⟨xe, hxe, hLe⟩ := hW.E
                have hel := hLe.len
                walk_at "eo go"
                refine g_ite (fun z => ?_) (fun z => ?_)
                · have z' := dec_t z
                  have hne : es ≠ [] := fun e => by rw [e, List.length_nil] at hel; omega
                  obtain ⟨el, hem, hdl⟩ := last_drop hne
                  have hLd := hLe.drop (xe.length - 1)
                  rw [show xe.length - 1 = es.length - 1 by omega, hdl] at hLd
                  rw [show es.length - 1 = xe.length - 1 by omega] at hLd
                  walk_at "eo go"
                  rename_i u1 U1 x1 y1 u2 U2 x2 y2 pt U3 m3 x3 y3
                  have q1 : SqT K U3 u2 (xe ++ xe.drop (xe.length - 1)) := by walk_at "eo sqT"
                  have e13 : Ext [] Z4 U3 := by walk_at "eo ext"
                  have hW3 := hW.ext0 e13
                  have hbc3 := hbc.ext e13
                  have hLa : LR (EgAt K) U3 (xe ++ xe.drop (xe.length - 1)) (es ++ [el]) := (hLe.app hLd).imp fun _ _ => EgAt.ext e13
                  refine g_code (SqT.of y3) hW3.T hW3.F ⟨_, q1, hLa⟩ hW3.C (pl_edge_dup hgd hem) hn nf (fun e he => ?_) hcr.nb lf (by rw [List.length_append, List.length_singleton]; omega) hcl fun Z5 x4 => ?_
                  · rcases List.mem_append.mp he with c | c
                    · exact hok.nb e c
                    · rw [List.mem_singleton.mp c]; exact hok.nb el hem
                  have hW5 := hW3.ext0 x4
                  have hbc5 := hbc3.ext x4
                  have e45 : Ext [] Z4 Z5 := e13.trans x4 (fun _ h => h) (fun _ h => by cases h)
                  have hxe5 := sqT_ext e45 hxe
                  have hLe5 := hLe.imp fun _ _ => EgAt.ext e45
                  clear x1 y1 x2 y2 m3 x3 y3 e13 hW3 hbc3 hLa x4 e45
                  obtain ⟨x0, xr, hx0⟩ : ∃ x r, xe = x :: r := by
                    cases hq : xe with
                    | nil => rw [hq, List.length_nil] at z'; omega
                    | cons x r => exact ⟨x, r, rfl⟩
                  obtain ⟨e0, er, he0⟩ : ∃ x r, es = x :: r := by
                    cases hq : es with
                    | nil => exact absurd hq hne
                    | cons x r => exact ⟨x, r, rfl⟩
                  obtain ⟨xl, hxl⟩ : ∃ x, xe.drop (xe.length - 1) = [x] := List.length_eq_one_iff.mp (by rw [hLd.len]; rfl)
                  rw [hxl] at hLd
                  have hl5 : EgAt K Z5 xl el := by
                    have q := hLe5.drop (xe.length - 1)
                    rw [hxl, show xe.length - 1 = es.length - 1 by omega, hdl] at q
                    exact q.1
                  have h05 : EgAt K Z5 x0 e0 := by
                    have q := hLe5
                    rw [hx0, he0] at q
                    exact q.1
                  obtain ⟨r0, rfl, hr0⟩ := h05
                  obtain ⟨rl, rfl, hrl⟩ := hl5
                  have hat0 : atI xe 0 = some (.ref r0) := by rw [hx0]; exact atI_nat (j := 0) rfl
                  have hatl : atI xe (-1) = some (.ref rl) := at_lastV hxl
                  obtain ⟨t0', b0', u0', he0', _⟩ := hok.ok e0 (by rw [he0]; exact List.mem_cons_self)
                  obtain ⟨tl', bl', ul', hel', _⟩ := hok.ok el hem
                  rw [he0'] at hr0
                  rw [hel'] at hrl
                  walk_at "eo go"
                  refine g_ite (fun y => ?_) (fun y => ?_)
                  · have y' := dec_t y
                    walk_at "eo go"
                    show tVar 8 _ _ _
                    walk_at "eo go"
                    refine ⟨Rt, xe, rfl, hxe5, fun r n8 => ?_⟩
                    have e8 : Ext [] Z5 (upd Z5 r (.tup xe.reverse)) := Ext.new n8
                    have h8 : upd Z5 r (.tup xe.reverse) r = some (.tup xe.reverse) := upd_same
                    generalize upd Z5 r (.tup xe.reverse) = Z8 at e8 h8 ⊢
                    walk_at "eo go"
                    rename_i pt U3 m3 x3 y3
                    have e13 : Ext [] Z5 U3 := e8.trans x3 (fun _ h => h) (fun _ h => by cases h)
                    have hW3 := hW5.ext0 e13
                    have hbc3 := hbc5.ext e13
                    have hLa := (hLe5.imp fun _ _ => EgAt.ext e13).rev
                    refine g_code (SqT.of y3) hW3.T hW3.F ⟨_, SqT.of (x3.imm _ _ h8 rfl), hLa⟩ hW3.C (pl_edge_rev hgd he0 hem (by rw [he0', hel']; exact y')) hn nf (fun e he => hok.nb e (List.mem_reverse.mp he)) hcr.nb lf (by rw [List.length_reverse]; exact le) hcl fun Z6 x4 => ?_
                    walk_at "eo go"
                    exact ⟨rfl, hW3.ext0 x4, hbc3.ext x4⟩
                  · walk_at "eo go"
                    exact ⟨rfl, hW5, hbc5⟩
                · walk_at "eo go"
                  exact ⟨rfl, hW, hbc⟩
              · clear hW hbc
                rintro σ' H' ⟨rfl, hW, hbc⟩
                refine g_join (fun σ' H' => σ' = [some (.ref a), some (.ref d), some (.int n), some (.ref te), some (.ref tp), some (.ref Ft), s6, some (.ref p3), some (.ref Rt), s9, s10, some (.ref Ct), some vf, some ve, some vc, some (.int m), some (.ref wt), none, none, none] ∧ Wo K d sc tp Ft Rt Ct n ts fs es cs H' ∧ CrAt H' vc bc) ?_ ?_
                · obtain ⟨xc, hxc, hLc⟩ := hW.C
                  have hcel := hLc.len
                  walk_at "eo go"
                  refine g_ite (fun z => ?_) (fun z => ?_)
                  · have z' := dec_t z
                    walk_at "eo go"
                    show tVar 11 _ _ _
                    walk_at "eo go"
                    refine ⟨Ct, xc, rfl, hxc, fun r n8 => ?_⟩
                    have e8 : Ext [] H' (upd H' r (.tup xc.reverse)) := Ext.new n8
                    have h8 : upd H' r (.tup xc.reverse) r = some (.tup xc.reverse) := upd_same
                    generalize upd H' r (.tup xc.reverse) = Z8 at e8 h8 ⊢
                    walk_at "eo go"
                    rename_i pt U3 m3 x3 y3
                    have e13 : Ext [] H' U3 := e8.trans x3 (fun _ h => h) (fun _ h => by cases h)
                    have hW3 := hW.ext0 e13
                    have hbc3 := hbc.ext e13
                    have hLa := (hLc.imp fun _ _ => CrAt.ext e13).rev
                    refine g_code (SqT.of y3) hW3.T hW3.F hW3.E ⟨_, SqT.of (x3.imm _ _ h8 rfl), hLa⟩ (pl_crash_rev hgd hok hts' hcr (by omega)) hn nf hok.nb (fun e he => hcr.nb e (List.mem_reverse.mp he)) lf le (by rw [List.length_reverse]; exact hcl) fun Z6 x4 => ?_
                    walk_at "eo go"
                    exact ⟨rfl, hW3.ext0 x4, hbc3.ext x4⟩
                  · walk_at "eo go"
                    exact ⟨rfl, hW, hbc⟩
                · clear hW hbc
                  rintro σ' H' ⟨rfl, hW, hbc⟩
                  walk_at "eo go"
                  rename_i u1 U1 m1 x1 y1 pt U3 m3 x3 y3
                  have q1 : SqT K U3 u1 [vc] := by walk_at "eo sqT"
                  have e13 : Ext [] H' U3 := by walk_at "eo ext"
                  have hW3 := hW.ext0 e13
                  refine g_code (SqT.of y3) hW3.T hW3.F hW3.E ⟨[vc], q1, LR.one (hbc.ext e13)⟩ (pl_crash1 hgd hok hts' hbc1) hn nf hok.nb nc1 lf le l1' fun Z6 x4 => ?_
                  walk_at "eo go"
                  exact k _
end
set_option maxHeartbeats 4000000 in
theorem all_mk {l : PySem.W.OpenLaw} {w : World} {K : PySem.W.Frag} {h : Heap} {mg : Str → Option Value} {fa : Addr} (X : K.In h) (G : h.Ns mainGlobals mg) (hfa : mg "law" = some (.ref fa))
    {od_PlanError_init an_PlanError_init : Option Addr} {sl_PlanError_init : Array (Option Value)} {oc_PlanError_init dc_PlanError_init pm_PlanError_init ct_PlanError_init : Value} {f_PlanError_init : Addr}
    {od_is_number an_is_number : Option Addr} {sl_is_number : Array (Option Value)} {oc_is_number kV_is_number dc_is_number pm_is_number cd_is_number ct_is_number : Value} {f_is_number : Addr}
    {od_need an_need : Option Addr} {sl_need : Array (Option Value)} {oc_need kV_need dc_need pm_need cd_need ct_need : Value} {f_need : Addr}
    {od_copy_right an_copy_right : Option Addr} {sl_copy_right : Array (Option Value)} {oc_copy_right kV_copy_right dc_copy_right pm_copy_right cd_copy_right ct_copy_right : Value} {f_copy_right : Addr}
    {od_check_plan an_check_plan : Option Addr} {sl_check_plan : Array (Option Value)} {oc_check_plan kV_check_plan dc_check_plan pm_check_plan cd_check_plan ct_check_plan : Value} {f_check_plan : Addr}
    {od_law_begin an_law_begin : Option Addr} {sl_law_begin : Array (Option Value)} {oc_law_begin kV_law_begin dc_law_begin pm_law_begin cd_law_begin ct_law_begin : Value} {f_law_begin : Addr}
    {od_law_take an_law_take : Option Addr} {sl_law_take : Array (Option Value)} {oc_law_take kV_law_take dc_law_take pm_law_take cd_law_take ct_law_take : Value} {f_law_take : Addr}
    {od_law_pick an_law_pick : Option Addr} {sl_law_pick : Array (Option Value)} {oc_law_pick kV_law_pick dc_law_pick pm_law_pick cd_law_pick ct_law_pick : Value} {f_law_pick : Addr}
    {od_law_code an_law_code : Option Addr} {sl_law_code : Array (Option Value)} {oc_law_code kV_law_code dc_law_code pm_law_code cd_law_code ct_law_code : Value} {f_law_code : Addr}
    {od_law an_law : Option Addr} {sl_law : Array (Option Value)} {oc_law kV_law dc_law pm_law cd_law ct_law : Value} {f_law : Addr}
    {c_PlanError : Addr}
    {cc_PlanError ca_PlanError : Addr} {nm_PlanError q_PlanError : Str} {N_PlanError : Addr} {bs_PlanError bm_PlanError sub_PlanError : List Value} {sn_PlanError : List Str} {ab_PlanError : Bool} {col_PlanError : Option Bool} {dd_PlanError : Option Addr} {m0_PlanError m1_PlanError m2_PlanError m3_PlanError m5_PlanError : Option Value}
    {ccl_PlanError : Value} {cdd_PlanError : Option Addr} {vs_PlanError : Array Value} {ccs_PlanError : Array (Option Value)} {file_PlanError : Str} {tf_PlanError : Tok} {cll_PlanError : Value} {cld_PlanError : Option Addr} {csl_PlanError : Array (Option Value)}
    {v_MOST_DELAY : Tok}
    {v_MOST_FLIPS : Tok}
    {v_PLACES : Tok}
    {v_MOST_COPIES : Tok}
    {v_MOST_TIME : Tok}
    (aC_PlanError : PySem.W.nsIn K mainGlobals "PlanError" = some (some (.ref c_PlanError)))
    (a_PlanError_init : PySem.W.findIn K (.ref c_PlanError) "__init__" = some (some (.ref f_PlanError_init)))
    (ti_PlanError_init : PySem.W.typeIn K (.ref f_PlanError_init) = some (.type "function"))
    (l_PlanError_init : K.lookup f_PlanError_init = some ⟨oc_PlanError_init, od_PlanError_init, .func (PySem.W.fnX "__init__" "PlanError.__init__" (defArgs s_PlanError_init) (defBody s_PlanError_init) (defScope s_PlanError_init) [("__class__", cc_PlanError)] .none .none dc_PlanError_init pm_PlanError_init an_PlanError_init (.ref ca_PlanError) ct_PlanError_init), sl_PlanError_init⟩)
    (k_PlanError_init : PySem.W.codeIn K (.ref ca_PlanError) "PlanError.__init__" = true)
    (co_PlanError : K.lookup ca_PlanError = some ⟨ccl_PlanError, cdd_PlanError, .fields vs_PlanError, ccs_PlanError⟩)
    (cv_PlanError : vs_PlanError[2]? = some (.str file_PlanError tf_PlanError))
    (cf_PlanError : ((l.prog.main.file : Str) == file_PlanError) = true)
    (ce_PlanError : K.lookup cc_PlanError = some ⟨cll_PlanError, cld_PlanError, .cell (some (.ref c_PlanError)), csl_PlanError⟩)
    (xl_PlanError : K.lookup c_PlanError = some (excClassObj nm_PlanError q_PlanError c_PlanError N_PlanError bs_PlanError bm_PlanError true sn_PlanError sub_PlanError ab_PlanError col_PlanError dd_PlanError m0_PlanError m1_PlanError m2_PlanError m3_PlanError m5_PlanError "ValueError.__new__"))
    (xr_PlanError : PySem.HandSPX.refsVE bm_PlanError = true)
    (sa_PlanError : PySem.W.findIn K (.ref c_PlanError) "__setattr__" = some (some (.builtin "object.__setattr__")))
    (eb_PlanError : PySem.W.subIn K (.ref c_PlanError) (.type "BaseException") = some true)
    (ty_PlanError : PySem.W.typeIn K (.ref c_PlanError) = some (.type "type"))
    (kp_PlanError : PySem.W.keepIn K (.ref c_PlanError) = true)
    (mr_PlanError : PySem.W.mroIn K c_PlanError (.ref c_PlanError) = some true)
    (tp_PlanError : (l.prog.main.scope.names.lookup ("super" : Str)).isSome = false)
    (oq_PlanError : PySem.W.nsIn K PySem.cStatics "thirdparty.any" = some none)
    (si_PlanError : PySem.W.ks_superIn K c_PlanError c_PlanError "__init__" = some (some (.builtin "ValueError.__init__")))
    (ve_PlanError : PySem.W.subIn K (.ref c_PlanError) (.type "ValueError") = some true)
    (ga_PlanError : PySem.W.findIn K (.ref c_PlanError) "__getattribute__" = some (some (.builtin "BaseException.__getattribute__")))
    (gg_PlanError : PySem.W.findIn K (.ref c_PlanError) "__getattr__" = some none)
    (hd_PlanError : PySem.W.hasDictIn K c_PlanError = true)
    (ic_PlanError : PySem.W.isClsIn K c_PlanError = true)
    (sc_PlanError : PySem.W.subIn K (.ref c_PlanError) (.ref c_PlanError) = some true)
    (n_PlanError_code : PySem.W.findIn K (.ref c_PlanError) "code" = some none)
    (a_is_number : PySem.W.nsIn K mainGlobals "is_number" = some (some (.ref f_is_number)))
    (l_is_number : K.lookup f_is_number = some ⟨oc_is_number, od_is_number, .func (PySem.W.fnOf "is_number" "is_number" (defArgs s_is_number) (defBody s_is_number) (defScope s_is_number) .none kV_is_number dc_is_number pm_is_number an_is_number cd_is_number ct_is_number), sl_is_number⟩)
    (k_is_number : PySem.W.codeIn K cd_is_number "is_number" = true)
    (p_is_number : PySem.W.keepIn K (.ref f_is_number) = true)
    (a_need : PySem.W.nsIn K mainGlobals "need" = some (some (.ref f_need)))
    (l_need : K.lookup f_need = some ⟨oc_need, od_need, .func (PySem.W.fnOf "need" "need" (defArgs s_need) (defBody s_need) (defScope s_need) .none kV_need dc_need pm_need an_need cd_need ct_need), sl_need⟩)
    (k_need : PySem.W.codeIn K cd_need "need" = true)
    (p_need : PySem.W.keepIn K (.ref f_need) = true)
    (a_copy_right : PySem.W.nsIn K mainGlobals "copy_right" = some (some (.ref f_copy_right)))
    (l_copy_right : K.lookup f_copy_right = some ⟨oc_copy_right, od_copy_right, .func (PySem.W.fnOf "copy_right" "copy_right" (defArgs s_copy_right) (defBody s_copy_right) (defScope s_copy_right) .none kV_copy_right dc_copy_right pm_copy_right an_copy_right cd_copy_right ct_copy_right), sl_copy_right⟩)
    (k_copy_right : PySem.W.codeIn K cd_copy_right "copy_right" = true)
    (p_copy_right : PySem.W.keepIn K (.ref f_copy_right) = true)
    (a_check_plan : PySem.W.nsIn K mainGlobals "check_plan" = some (some (.ref f_check_plan)))
    (l_check_plan : K.lookup f_check_plan = some ⟨oc_check_plan, od_check_plan, .func (PySem.W.fnOf "check_plan" "check_plan" (defArgs s_check_plan) (defBody s_check_plan) (defScope s_check_plan) .none kV_check_plan dc_check_plan pm_check_plan an_check_plan cd_check_plan ct_check_plan), sl_check_plan⟩)
    (k_check_plan : PySem.W.codeIn K cd_check_plan "check_plan" = true)
    (p_check_plan : PySem.W.keepIn K (.ref f_check_plan) = true)
    (a_law_begin : PySem.W.nsIn K mainGlobals "_law_begin" = some (some (.ref f_law_begin)))
    (l_law_begin : K.lookup f_law_begin = some ⟨oc_law_begin, od_law_begin, .func (PySem.W.fnOf "_law_begin" "_law_begin" (defArgs s_law_begin) (defBody s_law_begin) (defScope s_law_begin) .none kV_law_begin dc_law_begin pm_law_begin an_law_begin cd_law_begin ct_law_begin), sl_law_begin⟩)
    (k_law_begin : PySem.W.codeIn K cd_law_begin "_law_begin" = true)
    (p_law_begin : PySem.W.keepIn K (.ref f_law_begin) = true)
    (a_law_take : PySem.W.nsIn K mainGlobals "_law_take" = some (some (.ref f_law_take)))
    (l_law_take : K.lookup f_law_take = some ⟨oc_law_take, od_law_take, .func (PySem.W.fnOf "_law_take" "_law_take" (defArgs s_law_take) (defBody s_law_take) (defScope s_law_take) .none kV_law_take dc_law_take pm_law_take an_law_take cd_law_take ct_law_take), sl_law_take⟩)
    (k_law_take : PySem.W.codeIn K cd_law_take "_law_take" = true)
    (p_law_take : PySem.W.keepIn K (.ref f_law_take) = true)
    (a_law_pick : PySem.W.nsIn K mainGlobals "_law_pick" = some (some (.ref f_law_pick)))
    (l_law_pick : K.lookup f_law_pick = some ⟨oc_law_pick, od_law_pick, .func (PySem.W.fnOf "_law_pick" "_law_pick" (defArgs s_law_pick) (defBody s_law_pick) (defScope s_law_pick) .none kV_law_pick dc_law_pick pm_law_pick an_law_pick cd_law_pick ct_law_pick), sl_law_pick⟩)
    (k_law_pick : PySem.W.codeIn K cd_law_pick "_law_pick" = true)
    (p_law_pick : PySem.W.keepIn K (.ref f_law_pick) = true)
    (a_law_code : PySem.W.nsIn K mainGlobals "_law_code" = some (some (.ref f_law_code)))
    (l_law_code : K.lookup f_law_code = some ⟨oc_law_code, od_law_code, .func (PySem.W.fnOf "_law_code" "_law_code" (defArgs s_law_code) (defBody s_law_code) (defScope s_law_code) .none kV_law_code dc_law_code pm_law_code an_law_code cd_law_code ct_law_code), sl_law_code⟩)
    (k_law_code : PySem.W.codeIn K cd_law_code "_law_code" = true)
    (p_law_code : PySem.W.keepIn K (.ref f_law_code) = true)
    (a_law : PySem.W.nsIn K mainGlobals "law" = some (some (.ref f_law)))
    (l_law : K.lookup f_law = some ⟨oc_law, od_law, .func (PySem.W.fnOf "law" "law" (defArgs s_law) (defBody s_law) (defScope s_law) .none kV_law dc_law pm_law an_law cd_law ct_law), sl_law⟩)
    (k_law : PySem.W.codeIn K cd_law "law" = true)
    (p_law : PySem.W.keepIn K (.ref f_law) = true)
    (z_super : PySem.W.nsIn K mainGlobals "super" = some none)
    (z_isinstance : PySem.W.nsIn K mainGlobals "isinstance" = some none)
    (z_int : PySem.W.nsIn K mainGlobals "int" = some none)
    (z_bool : PySem.W.nsIn K mainGlobals "bool" = some none)
    (z_len : PySem.W.nsIn K mainGlobals "len" = some none)
    (z_all : PySem.W.nsIn K mainGlobals "all" = some none)
    (z_sorted : PySem.W.nsIn K mainGlobals "sorted" = some none)
    (z_list : PySem.W.nsIn K mainGlobals "list" = some none)
    (z_abs : PySem.W.nsIn K mainGlobals "abs" = some none)
    (z_tuple : PySem.W.nsIn K mainGlobals "tuple" = some none)
    (z_range : PySem.W.nsIn K mainGlobals "range" = some none)
    (z_set : PySem.W.nsIn K mainGlobals "set" = some none)
    (gv_MOST_DELAY : PySem.W.nsIn K mainGlobals "MOST_DELAY" = some (some (.int 6 v_MOST_DELAY)))
    (gv_MOST_FLIPS : PySem.W.nsIn K mainGlobals "MOST_FLIPS" = some (some (.int 3 v_MOST_FLIPS)))
    (gv_PLACES : PySem.W.nsIn K mainGlobals "PLACES" = some (some (.int 4000 v_PLACES)))
    (gv_MOST_COPIES : PySem.W.nsIn K mainGlobals "MOST_COPIES" = some (some (.int 3 v_MOST_COPIES)))
    (gv_MOST_TIME : PySem.W.nsIn K mainGlobals "MOST_TIME" = some (some (.int 20000 v_MOST_TIME))) :
    ∃ fd : FuncData, (∀ (s : Shared) (v : Value), BindsTo s fd ⟨[v], []⟩ [("script", v)]) ∧ ∀ base : Heap, K.In base → base.Ns mainGlobals mg → FnOk l.prog w K mg base CX0 6 fa fd ["script"] (spLaw K) := by
  have e := hfa.symm.trans (PySem.W.mg_of X G a_law)
  cases e
  have O_PlanError : OexC K c_PlanError := ⟨⟨nm_PlanError, q_PlanError, N_PlanError, bs_PlanError, _, sn_PlanError, sub_PlanError, ab_PlanError, col_PlanError, dd_PlanError, m0_PlanError, m1_PlanError, m2_PlanError, m3_PlanError, m5_PlanError, xl_PlanError, xr_PlanError⟩, sa_PlanError, eb_PlanError, ty_PlanError, kp_PlanError⟩
  have S_PlanError : Sup.SupTxt l.prog K mg ⟨"__init__", "PlanError.__init__", defArgs s_PlanError_init, defBody s_PlanError_init, defScope s_PlanError_init, [("__class__", cc_PlanError)], ca_PlanError⟩ f_PlanError_init cc_PlanError c_PlanError "self" :=
    { lk := ⟨_, _, _, _, _, _, _, l_PlanError_init⟩, cl := rfl, code := k_PlanError_init, cob := ⟨_, _, _, _, _, _, co_PlanError, cv_PlanError, cf_PlanError⟩, cell := ⟨_, _, _, ce_PlanError⟩, T := O_PlanError, sub := mr_PlanError, msup := PySem.W.mg_none_of X G z_super, top := tp_PlanError, opq := oq_PlanError, init := si_PlanError, ve := ve_PlanError,
      par := ⟨_, rfl, rfl⟩, ks := (show (defScope s_PlanError_init).names.lookup ("super" : Str) = _ by decide +kernel), boot := (by rfl) }
  have B_PlanError : Binds K (PySem.W.fnX "__init__" "PlanError.__init__" (defArgs s_PlanError_init) (defBody s_PlanError_init) (defScope s_PlanError_init) [("__class__", cc_PlanError)] .none .none dc_PlanError_init pm_PlanError_init an_PlanError_init (.ref ca_PlanError) ct_PlanError_init) ["self", "code"] [] := .all fun us hl => match us, hl with | [_, _], _ => rfl
  have X_PlanError : ExcT l.prog K mg ⟨"__init__", "PlanError.__init__", defArgs s_PlanError_init, defBody s_PlanError_init, defScope s_PlanError_init, [("__class__", cc_PlanError)], ca_PlanError⟩ f_PlanError_init cc_PlanError c_PlanError (PySem.W.fnX "__init__" "PlanError.__init__" (defArgs s_PlanError_init) (defBody s_PlanError_init) (defScope s_PlanError_init) [("__class__", cc_PlanError)] .none .none dc_PlanError_init pm_PlanError_init an_PlanError_init (.ref ca_PlanError) ct_PlanError_init) "PlanError" ["self", "code"] :=
    ⟨S_PlanError, PySem.W.mg_of X G aC_PlanError, a_PlanError_init, ti_PlanError_init, exm_self eb_PlanError ic_PlanError ty_PlanError sc_PlanError, ⟨ga_PlanError, gg_PlanError, eb_PlanError, hd_PlanError⟩, n_PlanError_code, B_PlanError, ⟨_, _, _, l_PlanError_init⟩⟩
  have F_is_number := fun_mk (st := s_is_number) l_is_number k_is_number p_is_number
  have b_is_number := F_is_number.binds (ps := ["value", "least", "most"]) fun _ _ _ _ _ _ us hl => match us, hl with | [_, _, _], _ => rfl
  have F_need := fun_mk (st := s_need) l_need k_need p_need
  have b_need := F_need.binds (ps := ["is_right", "code"]) fun _ _ _ _ _ _ us hl => match us, hl with | [_, _], _ => rfl
  have F_copy_right := fun_mk (st := s_copy_right) l_copy_right k_copy_right p_copy_right
  have b_copy_right := F_copy_right.binds (ps := ["copy"]) fun _ _ _ _ _ _ us hl => match us, hl with | [_], _ => rfl
  have F_check_plan := fun_mk (st := s_check_plan) l_check_plan k_check_plan p_check_plan
  have b_check_plan := F_check_plan.binds (ps := ["topology", "plan"]) fun _ _ _ _ _ _ us hl => match us, hl with | [_, _], _ => rfl
  have F_law_begin := fun_mk (st := s_law_begin) l_law_begin k_law_begin p_law_begin
  have b_law_begin := F_law_begin.binds (ps := ["script"]) fun _ _ _ _ _ _ us hl => match us, hl with | [_], _ => rfl
  have F_law_take := fun_mk (st := s_law_take) l_law_take k_law_take p_law_take
  have b_law_take := F_law_take.binds (ps := ["d", "many"]) fun _ _ _ _ _ _ us hl => match us, hl with | [_, _], _ => rfl
  have F_law_pick := fun_mk (st := s_law_pick) l_law_pick k_law_pick p_law_pick
  have b_law_pick := F_law_pick.binds (ps := ["d", "menu"]) fun _ _ _ _ _ _ us hl => match us, hl with | [_, _], _ => rfl
  have F_law_code := fun_mk (st := s_law_code) l_law_code k_law_code p_law_code
  have b_law_code := F_law_code.binds (ps := ["topology", "plan"]) fun _ _ _ _ _ _ us hl => match us, hl with | [_, _], _ => rfl
  have F_law := fun_mk (st := s_law) l_law k_law p_law
  have b_law := F_law.binds (ps := ["script"]) fun _ _ _ _ _ _ us hl => match us, hl with | [_], _ => rfl
  have T : Txt l.prog K mg ⟨f_PlanError_init, PySem.W.fnX "__init__" "PlanError.__init__" (defArgs s_PlanError_init) (defBody s_PlanError_init) (defScope s_PlanError_init) [("__class__", cc_PlanError)] .none .none dc_PlanError_init pm_PlanError_init an_PlanError_init (.ref ca_PlanError) ct_PlanError_init, f_is_number, PySem.W.fnOf "is_number" "is_number" (defArgs s_is_number) (defBody s_is_number) (defScope s_is_number) .none kV_is_number dc_is_number pm_is_number an_is_number cd_is_number ct_is_number, f_need, PySem.W.fnOf "need" "need" (defArgs s_need) (defBody s_need) (defScope s_need) .none kV_need dc_need pm_need an_need cd_need ct_need, f_copy_right, PySem.W.fnOf "copy_right" "copy_right" (defArgs s_copy_right) (defBody s_copy_right) (defScope s_copy_right) .none kV_copy_right dc_copy_right pm_copy_right an_copy_right cd_copy_right ct_copy_right, f_check_plan, PySem.W.fnOf "check_plan" "check_plan" (defArgs s_check_plan) (defBody s_check_plan) (defScope s_check_plan) .none kV_check_plan dc_check_plan pm_check_plan an_check_plan cd_check_plan ct_check_plan, f_law_begin, PySem.W.fnOf "_law_begin" "_law_begin" (defArgs s_law_begin) (defBody s_law_begin) (defScope s_law_begin) .none kV_law_begin dc_law_begin pm_law_begin an_law_begin cd_law_begin ct_law_begin, f_law_take, PySem.W.fnOf "_law_take" "_law_take" (defArgs s_law_take) (defBody s_law_take) (defScope s_law_take) .none kV_law_take dc_law_take pm_law_take an_law_take cd_law_take ct_law_take, f_law_pick, PySem.W.fnOf "_law_pick" "_law_pick" (defArgs s_law_pick) (defBody s_law_pick) (defScope s_law_pick) .none kV_law_pick dc_law_pick pm_law_pick an_law_pick cd_law_pick ct_law_pick, f_law_code, PySem.W.fnOf "_law_code" "_law_code" (defArgs s_law_code) (defBody s_law_code) (defScope s_law_code) .none kV_law_code dc_law_code pm_law_code an_law_code cd_law_code ct_law_code, fa, PySem.W.fnOf "law" "law" (defArgs s_law) (defBody s_law) (defScope s_law) .none kV_law dc_law pm_law an_law cd_law ct_law, c_PlanError, cc_PlanError, ca_PlanError⟩ := ⟨X_PlanError, ⟨F_is_number, PySem.W.mg_of X G a_is_number, p_is_number, b_is_number⟩, ⟨F_need, PySem.W.mg_of X G a_need, p_need, b_need⟩, ⟨F_copy_right, PySem.W.mg_of X G a_copy_right, p_copy_right, b_copy_right⟩, ⟨F_check_plan, PySem.W.mg_of X G a_check_plan, p_check_plan, b_check_plan⟩, ⟨F_law_begin, PySem.W.mg_of X G a_law_begin, p_law_begin, b_law_begin⟩, ⟨F_law_take, PySem.W.mg_of X G a_law_take, p_law_take, b_law_take⟩, ⟨F_law_pick, PySem.W.mg_of X G a_law_pick, p_law_pick, b_law_pick⟩, ⟨F_law_code, PySem.W.mg_of X G a_law_code, p_law_code, b_law_code⟩, ⟨F_law, PySem.W.mg_of X G a_law, p_law, b_law⟩, PySem.W.mg_none_of X G z_super, PySem.W.mg_none_of X G z_isinstance, PySem.W.mg_none_of X G z_int, PySem.W.mg_none_of X G z_bool, PySem.W.mg_none_of X G z_len, PySem.W.mg_none_of X G z_all, PySem.W.mg_none_of X G z_sorted, PySem.W.mg_none_of X G z_list, PySem.W.mg_none_of X G z_abs, PySem.W.mg_none_of X G z_tuple, PySem.W.mg_none_of X G z_range, PySem.W.mg_none_of X G z_set, ⟨_, PySem.W.mg_of X G gv_MOST_DELAY, ⟨_, rfl⟩⟩, ⟨_, PySem.W.mg_of X G gv_MOST_FLIPS, ⟨_, rfl⟩⟩, ⟨_, PySem.W.mg_of X G gv_PLACES, ⟨_, rfl⟩⟩, ⟨_, PySem.W.mg_of X G gv_MOST_COPIES, ⟨_, rfl⟩⟩, ⟨_, PySem.W.mg_of X G gv_MOST_TIME, ⟨_, rfl⟩⟩⟩
  exact ⟨_, fun s v => .of_eq rfl, fun base _ _ => ok_law T⟩
theorem walk {l : PySem.W.OpenLaw} {q : Program} {loose : List Str} {XP : (Str → Option Value) → Heap → Prop} {YP : World → Heap → Prop} {d : DefRec} {K : Params → PySem.W.Frag} (hn : l.most = some 63) (hdf : d.params.defaults = [])
    (hY : ∀ (w : World) (h : Heap), YP w h → (K w.params).In h)
    (F : ∀ (w : World) (mg : Str → Option Value) (fa : Addr) (h : Heap), (K w.params).In h → h.Ns mainGlobals mg → mg d.name = some (.ref fa) →
      ∃ fd : FuncData, (∀ (s : Shared) (u : Value), BindsTo s fd ⟨[u], []⟩ [("script", u)]) ∧ ∀ base : Heap, (K w.params).In base → base.Ns mainGlobals mg → FnOk l.prog w (K w.params) mg base CX0 6 fa fd ["script"] (spLaw (K w.params))) :
    PySem.W.WalkO q loose XP YP l.row.toRowW d [] (fun f vs => PySem.call f vs) :=
  L2.walk_of (n := 63) (k := 6) (x := "script") (CX := fun _ => CX0) (sp := fun w => spLaw (K w.params)) hn (by decide) hdf ⟨rfl, by decide, by decide⟩ hY F (fun _ _ a ns hl _ hS => ⟨a, ns, rfl, hS, hl, fun _ => rfl⟩) fun _ _ _ _ _ z => z
end Eo14
open PySem PySem.W PyProof.Rows
set_option maxRecDepth 100000 in
set_option maxHeartbeats 0 in
theorem PySem.Challenge.cw_everyoctetonce_k14_plans_holds : PySem.Challenge.rw_everyoctetonce_k14_plans.Holds := by
  w_on; o_law; k_head; (case hw => w_witness2)
  k_fill
  refine Eo14.walk (l := PySem.Challenge.rw_everyoctetonce_k14_plans) rfl rfl (fun w h Y => PySem.W.kIn_of Y) ?F
  case F =>
    intro w mg fa h KX G hmg
    refine' Eo14.all_mk KX G hmg ?aC_PlanError ?a_PlanError_init ?ti_PlanError_init ?l_PlanError_init ?k_PlanError_init ?co_PlanError ?cv_PlanError ?cf_PlanError ?ce_PlanError ?xl_PlanError ?xr_PlanError ?sa_PlanError ?eb_PlanError ?ty_PlanError ?kp_PlanError ?mr_PlanError ?tp_PlanError ?oq_PlanError ?si_PlanError ?ve_PlanError ?ga_PlanError ?gg_PlanError ?hd_PlanError ?ic_PlanError ?sc_PlanError ?n_PlanError_code ?a_is_number ?l_is_number ?k_is_number ?p_is_number ?a_need ?l_need ?k_need ?p_need ?a_copy_right ?l_copy_right ?k_copy_right ?p_copy_right ?a_check_plan ?l_check_plan ?k_check_plan ?p_check_plan ?a_law_begin ?l_law_begin ?k_law_begin ?p_law_begin ?a_law_take ?l_law_take ?k_law_take ?p_law_take ?a_law_pick ?l_law_pick ?k_law_pick ?p_law_pick ?a_law_code ?l_law_code ?k_law_code ?p_law_code ?a_law ?l_law ?k_law ?p_law ?z_super ?z_isinstance ?z_int ?z_bool ?z_len ?z_all ?z_sorted ?z_list ?z_abs ?z_tuple ?z_range ?z_set ?gv_MOST_DELAY ?gv_MOST_FLIPS ?gv_PLACES ?gv_MOST_COPIES ?gv_MOST_TIME
    (case aC_PlanError => k_is)
    (case a_PlanError_init => k_is)
    (case ti_PlanError_init => k_is)
    (case l_PlanError_init => k_is)
    (case k_PlanError_init => k_is)
    (case co_PlanError => k_is)
    (case cv_PlanError => rfl)
    (case cf_PlanError => decide +kernel)
    (case ce_PlanError => k_is)
    (case xl_PlanError => k_is)
    (case xr_PlanError => decide +kernel)
    (case sa_PlanError => k_is)
    (case eb_PlanError => k_is)
    (case ty_PlanError => k_is)
    (case kp_PlanError => k_is)
    (case mr_PlanError => first | rfl | k_is)
    (case tp_PlanError => decide +kernel)
    (case oq_PlanError => k_is)
    (case si_PlanError => first | ks_is | k_is | decide +kernel)
    (case ve_PlanError => k_is)
    (case ga_PlanError => k_is)
    (case gg_PlanError => k_is)
    (case hd_PlanError => k_is)
    (case ic_PlanError => k_is)
    (case sc_PlanError => first | rfl | k_is)
    (case n_PlanError_code => k_is)
    (case a_is_number => k_is)
    (case l_is_number => k_is)
    (case k_is_number => k_is)
    (case p_is_number => k_is)
    (case a_need => k_is)
    (case l_need => k_is)
    (case k_need => k_is)
    (case p_need => k_is)
    (case a_copy_right => k_is)
    (case l_copy_right => k_is)
    (case k_copy_right => k_is)
    (case p_copy_right => k_is)
    (case a_check_plan => k_is)
    (case l_check_plan => k_is)
    (case k_check_plan => k_is)
    (case p_check_plan => k_is)
    (case a_law_begin => k_is)
    (case l_law_begin => k_is)
    (case k_law_begin => k_is)
    (case p_law_begin => k_is)
    (case a_law_take => k_is)
    (case l_law_take => k_is)
    (case k_law_take => k_is)
    (case p_law_take => k_is)
    (case a_law_pick => k_is)
    (case l_law_pick => k_is)
    (case k_law_pick => k_is)
    (case p_law_pick => k_is)
    (case a_law_code => k_is)
    (case l_law_code => k_is)
    (case k_law_code => k_is)
    (case p_law_code => k_is)
    (case a_law => k_is)
    (case l_law => k_is)
    (case k_law => k_is)
    (case p_law => k_is)
    (case z_super => k_is)
    (case z_isinstance => k_is)
    (case z_int => k_is)
    (case z_bool => k_is)
    (case z_len => k_is)
    (case z_all => k_is)
    (case z_sorted => k_is)
    (case z_list => k_is)
    (case z_abs => k_is)
    (case z_tuple => k_is)
    (case z_range => k_is)
    (case z_set => k_is)
    (case gv_MOST_DELAY => k_is)
    (case gv_MOST_FLIPS => k_is)
    (case gv_PLACES => k_is)
    (case gv_MOST_COPIES => k_is)
    (case gv_MOST_TIME => k_is)
#print axioms PySem.Challenge.cw_everyoctetonce_k14_plans_holds

