import PyProof.Rows.All
import Wide.All
import OpenK.AllK
import Wide.FinOn
import HandS.ForMost
import HandS.Wide
import HandS.Walk
import HandS.TupAny
import HandS.Nested
import HandS.ExcInit
import HandS.ExcField
import HandS.TryOnly
import HandS.WordsExc
import HandS.FStr
import HandS.IsInst
import HandS.TupSets
import HandS.DictComp
import HandS.More
import HandS.Style
import KE.KDictSum
import KE.KExcSuper
import PySem.Challenge.RW_everyoctetonce_k05_topologies
set_option Elab.async false
set_option linter.all false
set_option maxRecDepth 100000
set_option maxHeartbeats 2000000
set_option pp.maxSteps 250
namespace Eo05
open PySem L2
/-! ### an own exception's __init__ that begins with super().__init__(e) -/
namespace Sup
open PySem PySem.W PySem.Calls PyProof.Rows L2 NdefX
variable {CX : CXT} {P : Program} {w : World} {K : PySem.W.Frag} {mg : Str → Option Value} {base : Heap} {N ps : List Str} {f cc cda C : Addr} {k : Nat} {sp : Sp}
/-- what the written part says of the def, its cell, its class -/
structure SupTxt (P : Program) (K : PySem.W.Frag) (mg : Str → Option Value) (F : NF) (f cc C : Addr) (self0 : Str) : Prop where
  lk : ∃ oc od doc pm an ct osl, K.lookup f = some ⟨oc, od, .func (PySem.W.fnX F.name F.qual F.params F.body F.scope F.cl .none .none doc pm an (.ref F.c) ct), osl⟩
  cl : F.cl = [(("__class__" : Str), cc)]
  code : codeIn K (.ref F.c) F.qual = true
  cob : ∃ ccl cdd vs ccs file tf, K.lookup F.c = some ⟨ccl, cdd, .fields vs, ccs⟩ ∧ vs[2]? = some (.str file tf) ∧ ((P.main.file : Str) == file) = true
  cell : ∃ cl cld csl, K.lookup cc = some ⟨cl, cld, .cell (some (.ref C)), csl⟩
  T : OexC K C
  sub : mroIn K C (.ref C) = some true
  msup : mg "super" = none
  top : (P.main.scope.names.lookup ("super" : Str)).isSome = false
  opq : nsIn K cStatics "thirdparty.any" = some none
  init : ks_superIn K C C "__init__" = some (some (.builtin "ValueError.__init__"))
  ve : subIn K (.ref C) (.type "ValueError") = some true
  par : ∃ ar, (F.params.posonlyargs ++ F.params.args).head? = some ar ∧ ar.arg = self0
  ks : F.scope.names.lookup ("super" : Str) = some .globalImplicit
  boot : bootBuiltins "super" = some (.type "super")
theorem fn_super {F : NF} {self0 : Str} {ps' : List Str} {p0 p1 p2 p3 p4 : Pos} {e : Expr} {rest : List Stmt} (X : SupTxt P K mg F f cc C self0) (S : NScope N (self0 :: ps') ["__class__"] F.scope)
    (hb : F.body = .Expr (.Call (.Attribute (.Call (.Name "super" p0) [] [] p1) "__init__" p2) [e] [] p3) p4 :: rest)
    (len : ∀ vs H Q E, sp vs H Q E → vs.length = (self0 :: ps').length)
    (hbody : ∀ (A : Around) (outer : List Env) (s : Shared) (H : Hp) (vs : List V) (Q : VK) (E : XK), Room k (A.deeper (envF F f s.heap.objs.size)) → sp vs H Q E →
      ∃ a vr ta R, vs = .ref a :: vr ∧ H a = some (exo a C none) ∧ PA (ncx CX P w K mg base N F f A outer s H E) [e] ta ∧ ta (startF N vs [none]) H R ∧
        ∀ ws H1, R ws H1 → ws.length ≤ 1000 ∧ H1 a = some (exo a C none) ∧ ∃ t, PSs (ncx CX P w K mg base N F f A outer s H E) rest t ∧ t { nx := fun _ H' => Q .non H', rt := Q } (startF N vs [none]) H1)
    {pl : Sem Bool} (hev : ∀ L : Addr, eval (.Call (.Attribute (.Call (.Name "super" p0) [] [] p1) "__init__" p2) [e] [] p3) (envF F f L) = (do
      let ov ← attributeBase (.Call (.Name "super" p0) [] [] p1) "__init__" (envF F f L) (eval (.Call (.Name "super" p0) [] [] p1) (envF F f L))
      standAt p2.atName
      let (g, first) ← holding [ov] (getMethod ov "__init__" pl)
      callWith p3 g first (backTo p3 (starEach [e] (envF F f L))) []))
    (hsw : ∀ L : Addr, swapsWith (.Call (.Attribute (.Call (.Name "super" p0) [] [] p1) "__init__" p2) [e] [] p3) none p4.line (envF F f L) = pure false)
    (hst : ∀ L : Addr, starEach [e] (envF F f L) = (false, eval e (envF F f L)) :: starEach [] (envF F f L))
    {fd : FuncData} (hfd : ∃ oc od osl, K.lookup f = some ⟨oc, od, .func fd, osl⟩) :
    FnOk P w K mg base CX (k + 1) f fd (self0 :: ps') sp := by
  obtain ⟨oc, od, doc, pm, an, ct, osl, lk⟩ := X.lk
  obtain ⟨_, _, _, lk2⟩ := hfd
  rw [lk] at lk2
  cases lk2
  refine ⟨len, fun A outer s H args us vs Q E hr e0 hbd r hsp => ?_⟩
  have hl := len _ _ _ _ hsp
  have KX : K.In s.heap := e0.mod.kin.keeps fun b o e => (e0.bs b o e).1
  have lim : s.heap.NoLimit := e0.mod.nolimit.keeps fun b o e => (e0.bs b o e).1
  refine ks_codeAny_call_defAt (fd := PySem.W.fnX F.name F.qual F.params F.body F.scope F.cl .none .none doc pm an (.ref F.c) ct) (body := F.body) (binds := (self0 :: ps').zip us) hr.depth (KX _ _ lk) rfl lim (PySem.W.codeRec_of KX X.code) rfl hbd S.nocell (fun x hx => S.par x.1 (List.of_mem_zip hx).1) (fun h₁ hns kp => ?_) S.co S.gen S.kind
  show _root_.PySem.wpAt _ (A.deeper (envF F f s.heap.objs.size)) (.func F.body (envF F f s.heap.objs.size)) (execs F.body (envF F f s.heap.objs.size)) _ _ _
  obtain ⟨a, vr, ta, R, rfl, ea, ha, hta, hrest⟩ := hbody A outer s H vs Q E (hr.deeper _) hsp
  obtain ⟨cl, cld, csl, hcell⟩ := X.cell
  have Cs : CellsAt F.cl ["__class__"] [none] s.heap H := by
    have one : ∀ y c, F.cl.lookup y = some c → y = "__class__" ∧ c = cc := fun y c h => by
      rw [X.cl] at h
      by_cases z : y = "__class__"
      · subst z
        simp [List.lookup] at h
        exact ⟨rfl, h.symm⟩
      · have z' : (y == ("__class__" : Str)) = false := by simp [z]
        simp [List.lookup, z'] at h
    refine ⟨rfl, fun y c h => ?_, fun x y c h1 h2 => by rw [(one x c h1).1, (one y c h2).1], fun i y h => ?_⟩
    · obtain ⟨rfl, rfl⟩ := one y c h
      exact ⟨(e0.bs _ _ (e0.mod.kin _ _ hcell)).2, _, _, KX _ _ hcell, rfl⟩
    · cases i with
      | zero =>
        simp at h
        subst h
        refine ⟨cc, by rw [X.cl]; simp [List.lookup], fun v hv => ?_⟩
        simp at hv
      | succ i => simp at h
  have I : Inv (ncx CX P w K mg base N F f A outer s H E) [] (startF N (.ref a :: vr) [none]) H { s with heap := h₁, toks := s.toks + ((self0 :: ps').zip us).length } := inv_startN S hr.hd e0 hl r Cs hns kp
  have hx : execs F.body (envF F f s.heap.objs.size) = execs (.Expr (.Call (.Attribute (.Call (.Name "super" p0) [] [] p1) "__init__" p2) [e] [] p3) p4 :: rest) (envF F f s.heap.objs.size) := by rw [hb]
  rw [hx]
  have hint : interactive (envF F f s.heap.objs.size) = false := by
    unfold interactive
    simp [S.kind]
  refine ks_wpAt_execs_cons (ks_wpAt_Expr_any (ks_wpAt_MethodCall ?_ (hev _)) hint (hsw _))
  obtain ⟨ccl, cdd, fvs, ccs, file, tf, hcode, hvs, hfile⟩ := X.cob
  obtain ⟨ar, har, hself⟩ := X.par
  obtain ⟨nm, q, Nn, bs, bm, sn, sub, ab, col, dd, k0, k1, k2, k3, k5, hC, hbm⟩ := X.T.cls
  obtain ⟨mb, hb1, hb2⟩ := I.mod.blt
  obtain ⟨t1, ho⟩ := exo_at I.hok ea
  obtain ⟨u0, hu0, ru0⟩ := r.get (i := 0) (x := .ref a) rfl
  obtain rfl : u0 = Value.ref a := ru0
  have nd : (self0 :: ps').Nodup := by
    have z := S.nd.sublist (List.take_sublist ((self0 :: ps').length + (["__class__"] : List Str).length) N)
    rw [S.pre] at z
    exact (List.nodup_append.mp z).1
  have hv0 : ((self0 :: ps').zip us).reverse.lookup self0 = some (.ref a) := zip_look nd (i := 0) rfl hu0
  have X1 : K.In h₁ := KX.keeps kp
  have hcd : ∃ cd, clsIn K C = some cd ∧ ∃ oD, h₁.get? C = some oD ∧ oD.data = .cls cd := by
    refine ⟨_, by unfold clsIn; rw [hC], _, X1 _ _ hC, rfl⟩
  obtain ⟨cd, hclsIn, oD, hD1, hD2⟩ := hcd
  have hkc : F.scope.names.lookup ("__class__" : Str) = some .free := S.frk _ List.mem_cons_self
  refine ks_wpAt_super_base (env := envF F f s.heap.objs.size) (prog := P) X.ks hkc rfl rfl (X1 _ _ lk) rfl har rfl (X1 _ _ hcode) rfl hvs hfile X.top ?_
  refine ks_loadName_global S.kind X.ks (loadGlobal_builtin (env := envF F f s.heap.objs.size) (I.mod.glob.keeps I.bk) X.msup (hb1.keeps I.bk) ((hb2 "super" (by decide)).trans X.boot) ⟨rfl, ?_⟩)
  refine wpAny_loadName_free S.kind hkc (by show F.cl.lookup _ = some cc; rw [X.cl]; simp [List.lookup]) ⟨_, X1 _ _ hcell, rfl⟩ ?_
  refine wpAny_loadName_local S.kind (by show F.scope.names.lookup ar.arg = _; rw [hself]; exact S.par _ List.mem_cons_self) hns (by rw [hself]; exact hv0) ?_
  refine ks_wpAny_isType_cls hD1 hD2 ⟨rfl, ?_⟩
  refine ks_wpAny_call_super hD1 hD2 ho rfl (fun c z => by cases z) (looks_mroIn X1 X.sub) (fun h2 e2 k2' => ?_)
  have X2 : K.In h2 := X1.keeps k2'
  have ho2 := k2' _ _ ho
  have IA : InstAt h2 a { cls := .ref C, dict := none, data := .fields #[.ref t1, .none, .none, .none, .bool false, .none] } C none := ⟨ho2, rfl, rfl, trivial⟩
  have hal : alongIn K "__init__" ((cd.mro.dropWhile (· != .ref C)).drop 1) = some (some (.builtin "ValueError.__init__")) := by
    have z := X.init
    unfold ks_superIn at z
    rw [hclsIn] at z
    exact z
  refine kxs_getMethod kxs_ValueError e2 (looks_opaque X2 X.opq) (fun A Q E s k q => wpAny_bind ((looks_clsIn X2 hclsIn) A _ E s k (wpAny_pure q))) rfl X2 hal (IA.type.andThen (looks_subIn X2 X.ve)) (ks_ne X2 IA hclsIn) (by decide) ?_
  have kk : ∀ b o, h₁.get? b = some o → (h2.push (kxs_mw "ValueError.__init__" a)).get? b = some o := fun b o z => Heap.get?_push_of_some _ (k2' b o z)
  have hu : (h2.push (kxs_mw "ValueError.__init__" a)).get? h2.objs.size = some (kxs_mw "ValueError.__init__" a) := Heap.get?_push_at rfl rfl
  have hlt : h₁.objs.size ≤ h2.objs.size := Nat.le_of_lt (Heap.lt_size e2)
  have I3a := I.kept (h' := h2.push (kxs_mw "ValueError.__init__" a)) (t' := s.toks + ((self0 :: ps').zip us).length + 1) kk
  have hloc := I.lt
  have nu : H h2.objs.size = none := I.hok.fresh hlt
  have I3 : L2.Inv (ncx CX P w K mg base N F f A outer s H E) [(h2.objs.size, kxs_mw "ValueError.__init__" a)] (startF N (V.ref a :: vr) [none]) H _ := I3a.pins_of fun p hp => by
    rw [List.mem_singleton.mp hp]
    refine ⟨hu, nu, fun z => ?_, I.nofs hlt, fun v z => by cases z⟩
    have hloc' : s.heap.objs.size < h₁.objs.size := hloc
    have z' : h2.objs.size = s.heap.objs.size := z
    omega
  rw [hst]
  refine kxs_callWith (i := "ValueError.__init__") (x := a) rfl ?_
  refine evalArgs_plain (rest := backTo p3 (starEach [] (envF F f s.heap.objs.size))) ?_
  show wpAny _ _ (spliced (backTo p3 ((false, eval e (envF F f s.heap.objs.size)) :: starEach [] (envF F f s.heap.objs.size)))) _ _ _
  rw [← hst]
  refine wpAny_mono (ha.run p3 _ _ (startF N (V.ref a :: vr) [none]) H R I3 hta) (fun vs4 s4 h4 => ?_) fun _ _ z => z
  obtain ⟨ws, H4, I4, r4, q4⟩ := h4
  have hu4 : s4.heap.get? h2.objs.size = some (kxs_mw "ValueError.__init__" a) := (I4.pin _ (List.mem_append_right _ List.mem_cons_self)).1
  refine ⟨hu4, ?_⟩
  obtain ⟨hwl, ea4, t, hrun, hq⟩ := hrest ws H4 q4
  obtain ⟨t4, ho4⟩ := exo_at I4.hok ea4
  have hz4 : vs4.length ≤ sizeLine := by
    rw [← Paired.length r4, sizeLine_eq]
    omega
  obtain ⟨g4, gens4, d4, tk4, os4⟩ := s4
  have hC4 := (I4.kIn) _ _ hC
  refine wpAny_call (codeAny_of_tree ?_)
  show wpAny _ _ (callAny (.ref h2.objs.size) ⟨[] ++ vs4, []⟩) _ _ _
  simp only [callAny]
  refine wpAny_bind (wpAny_load hu4 ?_)
  simp only [kxs_mw, show (Value.type "method-wrapper" == Value.type "method" || Value.type "method-wrapper" == Value.type "builtin_function_or_method" || Value.type "method-wrapper" == Value.type "method-wrapper") = true by decide, if_true]
  refine KFB.if_so (by decide) ?_
  refine wpAny_bind (check_bound_init PySem.F.excBase_ValueError.toExcCallFacts hC4 ho4 rfl ?_)
  refine wpAny_bind (wpAny_pure (wpAny_pure ?_))
  refine ⟨plainId_quiet PySem.F.excBase_ValueError.init.plain _, codeAny_builtin PySem.F.excBase_ValueError.initEntry ?_⟩
  refine exc_init_tree (cls := .ref C) (t0 := t4) (dv := none) (c2 := .none) (c3 := .none) (b4 := .bool false) ho4 (by simpa using hz4) (fun h6 kp6 he6 ht6 => ?_)
  have J := I4.write (t' := tk4) (x := a) (e := a) (o := exo a C none) (by rw [ea4]; exact True.intro) (.inl rfl) kp6 ⟨_, he6⟩ (exo_ok he6)
  have eu : upd H4 a (exo a C none) = H4 := by
    funext b
    by_cases hb : b = a
    · rw [hb, upd_same, ea4]
    · rw [upd_ne hb]
  rw [eu] at J
  have I5 := J.pins_of (pins' := []) (fun p hp => by cases hp)
  show _root_.PySem.wpAt _ _ _ _ _ _ _
  refine PySem.wpAt_of_wpAny (wpAny_mono (hrun.run [] _ _ H4 _ I5 hq) (fun fl s' hs => ?_) fun e s' hs => hs)
  have fin : ∀ {σ' : L2.St} {H' : Hp} {v : V} {u : Value}, L2.Inv (ncx CX P w K mg base N F f A outer s H E) [] σ' H' s' → L2.RelV v u → Q v H' → CE outer P w H s Q u s' :=
    fun {σ' H' v u} J rv q => ⟨v, H', J.os, J.bare, J.base, J.hok, rv, q⟩
  cases fl with
  | ret u =>
    obtain ⟨v, σ', H', J, rv, q⟩ := hs
    exact fin J rv q
  | next =>
    obtain ⟨σ', H', J, q⟩ := hs
    exact fin (v := V.non) (u := Value.none) J rfl q
  | brk =>
    obtain ⟨_, _, _, q⟩ := hs
    exact False.elim q
  | cont =>
    obtain ⟨_, _, _, q⟩ := hs
    exact False.elim q
end Sup
/-- an error of the class at C is what «except» of it names -/
theorem exm_self {K : PySem.W.Frag} {C : Addr} (h1 : PySem.W.subIn K (.ref C) (.type "BaseException") = some true) (h2 : PySem.W.isClsIn K C = true) (h3 : PySem.W.typeIn K (.ref C) = some (.type "type")) (h4 : PySem.W.subIn K (.ref C) (.ref C) = some true) :
    PySem.W.exmOne K (.ref C) (.ref C) = some true := by
  have e1 : (PySem.W.subIn K (.ref C) (.type "BaseException") == some true) = true := by rw [h1]; rfl
  have e2 : ((PySem.W.clsIn K C).isSome && PySem.W.typeIn K (.ref C) == some (.type "type")) = true := by
    rw [show (PySem.W.clsIn K C).isSome = true from h2, h3]
    rfl
  show (if (PySem.W.subIn K (.ref C) (.type "BaseException") == some true) = true then (if ((PySem.W.clsIn K C).isSome && PySem.W.typeIn K (.ref C) == some (.type "type")) = true then PySem.W.subIn K (.ref C) (.ref C) else none) else none) = some true
  rw [if_pos e1, if_pos e2]
  exact h4
/-- an own exception's class x (def __init__ F at f, its cell at cc), parameters ps, made by super().__init__(..) and fields -/
structure ExcT (P : Program) (K : PySem.W.Frag) (mg : Str → Option Value) (F : NdefX.NF) (f cc C : Addr) (fd : FuncData) (x : Str) (ps : List Str) : Prop where
  S : Sup.SupTxt P K mg F f cc C "self"
  mg : mg x = some (.ref C)
  iC : PySem.W.findIn K (.ref C) "__init__" = some (some (.ref f))
  tI : PySem.W.typeIn K (.ref f) = some (.type "function")
  te : PySem.W.exmOne K (.ref C) (.ref C) = some true
  xf : XfC K C
  no_code : PySem.W.findIn K (.ref C) "code" = some none
  b : Binds K fd ps []
  hfd : ∃ oc od osl, K.lookup f = some ⟨oc, od, .func fd, osl⟩
/-! ### sorted(d), d a dict whose keys are tuples of ints -/
namespace SortT
open PySem PySem.Spec PySem.W PySem.Calls PyProof.Rows L2
section
variable {prog : Program} {w : World} {A : Around} {d : Addr} {o : Obj} {es : Array DictEntry} {ep : Nat}
theorem walks_raw (hh : A.handled = none) (I d : Addr) (hne : d ≠ I) (hd : o.data = .dict es ep) :
    Walks prog w A I [I, d] [I] es.size (fun i v => ∃ en, es[i]? = some en ∧ v = en.key) (fun i h => h.IsKeyIter I d i es.size ep ∧ h.get? d = some o) where
  sub := fun b hb => by simp at hb; simp [hb]
  frame := fun _ _ _ st hk => ⟨st.1.at fun o e => hk I (by simp) o e, hk d (by simp) _ st.2⟩
  item := fun i s Q E hi st hQ => by
    refine next_key_item st.1 st.2 hd rfl (en := es[i]) (by simp [hi]) fun h' hit' hs' => ?_
    exact hQ _ h' s.toks ⟨es[i], by simp [hi], rfl⟩ ⟨hit', (hs'.2 d hne).trans st.2⟩ fun b o hb e => (hs'.2 b fun z => hb (by simp [z])).trans e
  done := fun s Q E st hQ => next_key_end hh st.1 st.2 hd rfl (Nat.le_refl _) fun h' eb => hQ h' s.toks fun b o hb e => eb b o (fun z => hb (by simp [z])) e
  self := fun _ _ _ _ st hQ => wpAny_pyIter_keyiter st.1 hQ
theorem src_raw (lo : (d == sysModules) = false) (hc : o.ExactDict) (hd : o.data = .dict es ep) : KdlSrc prog w "dict" d d es.size (fun i v => ∃ en, es[i]? = some en ∧ v = en.key) (fun h => h.get? d = some o) where
  type := fun _ hm => ⟨o, hm, hc.1⟩
  there := fun _ hm => ⟨Heap.lt_size hm, Heap.lt_size hm⟩
  keep := fun _ _ hm hk => hk d (.inl rfl) _ hm
  notList := by decide
  notTuple := by decide
  hint := fun _ _ _ _ hm hq => kdl_hint_dict ⟨o, hm, hc.1⟩ hq
  iter := fun _ s hh hm => ⟨_, _, (fun _ _ hq => iter_keys lo hm hc hd hq), walks_raw hh _ d (Nat.ne_of_lt (Heap.lt_size hm)) hd, ⟨⟨_, Heap.get?_push_size _ rfl, rfl, rfl⟩, Heap.get?_push_of_some _ hm⟩⟩
end
/-- fewer than 64 keys, tuples of k ints in [0, B): a new list of the keys' own tuples, ascending by code B -/
def rSortDT (K : PySem.W.Frag) (k : Nat) (B : Int) : List V → Hp → VK → Prop := fun vs H Q => ∃ (a : Addr) (kvs : List (List Key × V)), vs = [V.ref a] ∧ H a = some (.dT kvs) ∧ kvs.length < 64 ∧ (∀ p ∈ kvs, ∃ ns : List Int, p.1 = ns.map Sum.inl ∧ ns.length = k ∧ TS.Bd B ns) ∧
  ∀ (qs ys : List V) (p : Addr), Paired (fun (q : V) (kv : List Key × V) => ∃ t, q = .ref t ∧ H t = some (.tup (kv.1.map kV))) qs kvs → ys.Perm qs → ys.Pairwise (fun x y => ∀ n m, TupI K H x n → TupI K H y m → TS.code B n ≤ TS.code B m) → H p = none → Q (.ref p) (upd H p (.lst ys))
theorem kV_ints (ns : List Int) : (ns.map Sum.inl : List Key).map kV = ns.map V.int := by
  rw [List.map_map]; rfl
section
variable {X : Cx}
theorem cr_sortDT {k : Nat} {B : Int} (hk : 1 ≤ k) (hcalm : X.calm = true) : CallR X (.builtin "sorted") (rSortDT X.K k B) := by
  intro pins s σ H vs us Q I r q
  obtain ⟨a, kvs, rfl, hd, h64, hks, q⟩ := q
  rw [Vals.ref1 r]
  obtain ⟨z, lo, xs, rel, o, es, ep, ho, hx, hdt, he, hkeys, _⟩ := dt_of I.hok hd
  have l1 : es.size = xs.length := size_of_entries he
  have l2 : kvs.length = xs.length := Paired.length rel
  have h16 : es.size ≤ sizeLine := by rw [l1, ← l2]; exact z
  refine Calls.call_function_entry PyProof.Rows.kind_sorted PyProof.Rows.plain_sorted PyProof.Rows.entry_sorted (PyProof.Rows.args_sorted1 _) ?_
  unfold Builtin.«sorted»
  refine wpAny_bind (m := checkCount "sorted" 1 1 _) (wpAny_pure ?_)
  refine wpAny_bind (PySem.W.kdu_collect (A := X.A.in1) (src_raw lo hx hdt) (I.ok.hd hcalm) ho h16 fun h' tk acc hkp hacc => ?_)
  have hal : acc.toList.length = kvs.length := by rw [Array.length_toList, hacc.1, l1, l2]
  have I1 : Inv X pins σ H { s with heap := h', toks := tk } := I.kept hkp
  have hacc2 : acc.toList = xs.map fun x => Value.ref x.2.1 := by
    refine List.ext_getElem? fun j => ?_
    rw [List.getElem?_map]
    by_cases hj : j < xs.length
    · obtain ⟨en, e1, e2⟩ := hacc.2 j (acc.toList[j]'(by omega)) (by rw [← Array.getElem?_toList, List.getElem?_eq_getElem])
      have e3 := entry_at he j
      rw [e1, List.getElem?_eq_getElem hj] at e3
      have e4 : en = entryOfKey (tupleKind (mixKind X.prog X.w)) xs[j] := Option.some.inj e3
      rw [List.getElem?_eq_getElem (by omega), List.getElem?_eq_getElem hj, e2, e4]
      rfl
    · rw [List.getElem?_eq_none (by omega), List.getElem?_eq_none (by omega)]
      rfl
  have hall : ∀ x ∈ xs, ∃ ns : List Int, H x.2.1 = some (.tup (ns.map V.int)) ∧ ns.length = k ∧ TS.Bd B ns := by
    have go : ∀ {l : List (List Key × V)} {m : List (List Key × Addr × Value)}, KT H l m → (∀ p ∈ l, ∃ ns : List Int, p.1 = ns.map Sum.inl ∧ ns.length = k ∧ TS.Bd B ns) → ∀ x ∈ m, ∃ ns : List Int, H x.2.1 = some (.tup (ns.map V.int)) ∧ ns.length = k ∧ TS.Bd B ns := by
      intro l m r
      induction r with
      | nil => intro _ x hx; cases hx
      | @cons p q ps qs hq _ ih =>
        intro hp x hx
        rcases List.mem_cons.mp hx with e | hx
        · subst e
          obtain ⟨ns, e1, e2, e3⟩ := hp p List.mem_cons_self
          refine ⟨ns, ?_, e2, e3⟩
          rw [hq.2.1, e1, kV_ints]
        · exact ih (fun p hp' => hp p (List.mem_cons_of_mem _ hp')) x hx
    exact go rel hks
  have hpair : Paired (fun (q : V) (kv : List Key × V) => ∃ t, q = .ref t ∧ H t = some (.tup (kv.1.map kV))) (xs.map fun x => V.ref x.2.1) kvs := by
    have go : ∀ {l : List (List Key × V)} {m : List (List Key × Addr × Value)}, KT H l m → Paired (fun (q : V) (kv : List Key × V) => ∃ t, q = .ref t ∧ H t = some (.tup (kv.1.map kV))) (m.map fun x => V.ref x.2.1) l := by
      intro l m r
      induction r with
      | nil => exact .nil
      | @cons p q ps qs hq _ ih => exact .cons ⟨_, rfl, hq.2.1⟩ ih
    exact go rel
  have hT : ∀ {t : Addr} {ns : List Int}, H t = some (.tup (ns.map V.int)) → TS.TupInts h' (.ref t) ns := fun {t ns} e => tupI_raw I1 (SqT.of e)
  have hS : TS.TupsOk h' k B acc.toList := fun v hv => by
    rw [hacc2] at hv
    obtain ⟨x, hx', rfl⟩ := List.mem_map.mp hv
    obtain ⟨ns, e1, e2, e3⟩ := hall x hx'
    exact ⟨ns, hT e1, e2, e3⟩
  refine wpAny_bind (wpAny_newList ?_ (by rw [hal, sizeLine_eq]; omega))
  have hoL : (h'.push (seqObj "list" acc.toList.toArray 0)).get? h'.objs.size = some (seqObj "list" acc.toList.toArray 0) := Heap.get?_push_size _ rfl
  have keep : ∀ b o, h'.get? b = some o → o.cls = .type "tuple" → (h'.push (seqObj "list" acc.toList.toArray 0)).get? b = some o := fun b o q _ => Heap.get?_push_of_some _ q
  show wpAny _ _ _ _ _ { s with heap := h'.push (seqObj "list" acc.toList.toArray 0), toks := tk }
  refine wpAny_bind (wpAny_holding (wpAny_call_entry PyProof.Rows.slot_list_sort ⟨_, hoL, rfl⟩ PyProof.Rows.entry_list_sort
    (TS.sort_tups (s := { s with heap := h'.push (seqObj "list" acc.toList.toArray 0), toks := tk }) hoL (by rw [hal]; exact h64) hk (hS.keeps keep) (fun v => TS.code B (TS.intsOf h' v)) (fun v hv ns t => ?_) fun out a1 a2 => ⟨_, rfl, ?_⟩) (PyProof.Rows.args_list_sort _)))
  · obtain ⟨ns0, t0, _⟩ := hS v hv
    have e : ns = ns0 := t.ints.symm.trans (t0.keeps keep).ints
    rw [e]
    show TS.code B (TS.intsOf h' v) = TS.code B ns0
    rw [t0.ints]
  obtain ⟨e', he'⟩ := PyProof.Rows.sortedHeap_at (vs := acc.toList) (out := out) hoL
  have h3 : ∀ u ∈ out.toList, ∃ a, u = Value.ref a := fun u hu => by
    have hu' := a1.mem_iff.mp hu
    rw [hacc2] at hu'
    obtain ⟨x, _, rfl⟩ := List.mem_map.mp hu'
    exact ⟨_, rfl⟩
  have hbk : acc.toList.map bkV = xs.map fun x => V.ref x.2.1 := by
    rw [hacc2, List.map_map]; rfl
  have hp : (out.toList.map bkV).Perm (xs.map fun x => V.ref x.2.1) := by
    rw [← hbk]
    exact a1.map bkV
  have hlen : (out.toList.map bkV).length ≤ sizeLine := by
    rw [hp.length_eq, List.length_map, ← l2]
    exact z
  refine wpAny_pure ⟨_, rfl, .ref h'.objs.size, upd H h'.objs.size (.lst (out.toList.map bkV)), I1.laid (t' := tk) (fun b u e => ?_) (Nat.le_refl _)
    (show ObjOk X.prog X.w _ _ _ (.lst (out.toList.map bkV)) from ⟨hlen, out.toList, e', bkV_vals h3, by rw [Array.toArray_toList]; exact he'⟩), rfl, q _ _ _ hpair hp ?_ (I1.hok.fresh (Nat.le_refl _))⟩
  · have hb : b < h'.objs.size := Heap.lt_size e
    rw [PyProof.Rows.sortedHeap_old (Nat.ne_of_lt hb) (by rw [size_push']; exact Nat.lt_succ_of_lt hb)]
    exact Heap.get?_push_of_some _ e
  · rw [List.pairwise_map]
    refine List.Pairwise.imp (fun {u v} huv n m hn hm => ?_) a2
    obtain ⟨t, et, ht⟩ := hn
    obtain ⟨t', et', ht'⟩ := hm
    have eu := bkV_ref et
    have ev := bkV_ref et'
    have i1 : TS.intsOf h' u = n := by
      rw [eu]
      exact (tupI_raw I1 ht).ints
    have i2 : TS.intsOf h' v = m := by
      rw [ev]
      exact (tupI_raw I1 ht').ints
    rw [← i1, ← i2]
    exact huv
end
end SortT
/-! ### {k: v for target in iter}, keys tuples -/
namespace DcT
open PySem PySem.Spec PyProof.Rows L2
theorem d_dictSetT {X : Cx} {pins : List (Addr × Obj)} {σ : L2.St} {H : Hp} {s : Shared} {E : Value → Shared → Prop} {D b : Addr} {kvs : List (List Key × V)} {k : List Key} {v : V} {u r : Value} {Q : Unit → Shared → Prop} (hu : X.A.units + 1 < cLine) (I : Inv X pins σ H s)
    (hD : H D = some (.dT kvs)) (hz : kvs.length < sizeLine) (eb : H b = some (.tup (k.map kV))) (ry : RelV (.ref b) u) (rv : RelV v r) (h : ∀ s', Inv X pins σ (upd H D (.dT (putK kvs k v))) s' → Q () s') : wpAny (model X.prog X.w) X.A (dictSet D u r) Q E s := by
  cases (show u = Value.ref b from ry)
  obtain ⟨z, hd, xs, rel, dd⟩ := dt_of I.hok hD
  have hzv : xs.length ≤ sizeLine := by rw [← Paired.length rel]; exact z
  have hl : (putK kvs k v).length ≤ sizeLine := by have := length_putK kvs k v; omega
  refine wpAny_dictSet_heap (hsz := hzv) ((show X.A.units < cLine by omega)) (key_of I.hok eb) dd fun h' dd' hs => h _ ?_
  obtain ⟨q, es, ep, hq, h2, h3, h4, _, h5⟩ := dd'
  refine d_write I (by rw [hD]; exact True.intro) hs ⟨q, hq⟩ ⟨hl, hd, _, (rel.put k eb rv).keeps fun c ys ec => ?_, q, es, ep, hq, h2, h3, h4, h5⟩
  rw [upd_ne (ne_of ec hD (fun z => nomatch z))]
  exact ec
section
variable {X : Cx}
/-- {k: v for target in iter if ..}, keys tuples: D the new dict -/
def tDcT (wi : TI) (g : TG) (tt : TT) (tk tv : TE) (vs : List Nat) : TE := fun σ H Q => wi σ H fun J H1 => ∀ D, H1 D = none → ∃ W : Nat → Nat → Hp → Prop, (∃ m, W 0 m (upd H1 D (.dT []))) ∧ ∀ i m H, W i m H →
  (J.stop i H ∧ Q (.ref D) H) ∨ (J.go i H ∧ ∃ Nx : Hp → Prop, (∀ H', Nx H' → ∃ m', m' < m ∧ W (i + 1) m' H') ∧ ∀ x H', J.yld i H x H' → g x (wipe σ vs) H' fun σ2 H2 => wipe σ2 vs = wipe σ vs ∧ tt σ2 H2 fun b H3 =>
    if b = true then tk σ2 H3 fun y H4 => tv σ2 H4 fun z H5 => ∃ kvs k b, y = .ref b ∧ H5 b = some (.tup (k.map kV)) ∧ H5 D = some (.dT kvs) ∧ kvs.length < sizeLine ∧ Nx (upd H5 D (.dT (putK kvs k z))) else Nx H3)
theorem dcT_core {pins : List (Addr × Obj)} {s : Shared} {σ : L2.St} {H : Hp} {Q : VK} {kx vx tg iter : Expr} {ifs : List Expr} {scope : Scope} {own : List (Str × Nat)} {pos pos' : Pos} {wi : TI} {g : TG} {tt : TT} {tk tv : TE} {use : Option (Value → Sem Unit)} {Qf : Value → Shared → Prop}
    (hu : X.A.units + 1 < cLine) (hc : X.calm = true) (hN : X.N.Nodup) (I : Inv X pins σ H s) (hi : PI X tg iter wi) (ok : BlkOk X.N X.env.scope scope own)
    (hg : ∀ (s : Shared) (H : Hp) (C : Addr) (cl : List (Str × Addr)) (fp : List Addr), PG (X.blk s H scope (compEnvC scope cl C X.env) fp) tg g) (ht : ∀ (s : Shared) (H : Hp) (C : Addr) (cl : List (Str × Addr)) (fp : List Addr), PTs (X.blk s H scope (compEnvC scope cl C X.env) fp) ifs tt)
    (hk : ∀ (s : Shared) (H : Hp) (C : Addr) (cl : List (Str × Addr)) (fp : List Addr), PE (X.blk s H scope (compEnvC scope cl C X.env) fp) kx tk)
    (he : ∀ (s : Shared) (H : Hp) (C : Addr) (cl : List (Str × Addr)) (fp : List Addr), PE (X.blk s H scope (compEnvC scope cl C X.env) fp) vx tv) (hs : ∀ x, foldedSetIterable iter X.env x = pure x)
    (h : tDcT wi g tt tk tv (own.map (·.2)) σ H Q)
    (hRR : ∀ D C s' m H', Inv X pins σ H' s' → Q (.ref D) H' → s'.heap.Ns C m → FpOk X pins H' C → compPost (model X.prog X.w) X.A X.xe use Qf (.ref D) C (.ok .next) s') :
    wpAny (model X.prog X.w) X.A (comprehension (.DictComp kx vx [⟨tg, iter, ifs, 0⟩] scope pos) scope X.env pos' newDict false (eval iter X.env) use) Qf X.xe s := by
  have hfree : ∀ y ∈ scope.names, y.2 = .free → ∃ c, X.env.cells.lookup y.1 = some c := fun y hy e => by
    rcases ok.free y hy e with k | k
    · exact I.ok.has _ (.inl k)
    · exact I.ok.has _ (.inr k)
  refine wpAny_comprehension_free (use := use) rfl hs (closure_ok hfree) ok.kind (fun y hy e => by rw [ok.uniq y hy, e])
    (thn (hi.run pins s σ H _ I h) fun xv s1 hx => thn hx fun itv s2 h2 => ?_)
  obtain ⟨it, fp, tn, J, H2, e, I2, T, st2, f2, q⟩ := h2
  subst e
  refine wpAny_newObj_type (newEnv_comp ?_)
  generalize hD : s2.heap.objs.size = D
  have hDn : H2 D = none := I2.hok.fresh (Nat.le_of_eq hD)
  obtain ⟨W, ⟨m0, w0⟩, turn⟩ := q D hDn
  -- the new list
  generalize hs3 : ({ s2 with heap := s2.heap.push { cls := .type "dict", data := .dict #[] } } : Shared) = s3
  have I3 : Inv X pins σ (upd H2 D (.dT [])) s3 := by
    rw [← hs3]
    refine I2.laid (t' := s2.toks) (fun b o e => Heap.get?_push_of_some _ e) (Nat.le_of_eq hD) ?_
    rw [← hD]
    exact dt_empty s2.heap I2.big
  have h3 : s3.heap = s2.heap.push { cls := .type "dict", data := .dict #[] } := by rw [← hs3]
  have sz : ∀ b ∈ fp, b < s2.heap.objs.size := fun b hb => by
    obtain ⟨o, e, _⟩ := T.obj _ _ st2 b hb
    exact Heap.lt_size e
  have f3 : ∀ b ∈ fp, FpOk X pins (upd H2 D (.dT [])) b ∧ b < s3.heap.objs.size := fun b hb => by
    have hlt := sz b hb
    refine ⟨⟨?_, (f2 b hb).2⟩, by rw [h3, Heap.size_push]; exact Nat.lt_succ_of_lt hlt⟩
    rw [upd_ne (by rw [← hD]; exact Nat.ne_of_lt hlt)]
    exact (f2 b hb).1
  have st3 : tn 0 s3.heap := T.keep _ _ _ st2 fun b _ o e => by rw [h3]; exact Heap.get?_push_of_some _ e
  have I4 := block_start I3 ok hN f3
  have pg := hg s3 (upd H2 D (.dT [])) s3.heap.objs.size (cellsFrom (s3.heap.objs.size + 1) scope.names (cloFrom X.env.cells scope.names [])) fp
  have pt := ht s3 (upd H2 D (.dT [])) s3.heap.objs.size (cellsFrom (s3.heap.objs.size + 1) scope.names (cloFrom X.env.cells scope.names [])) fp
  have pk := hk s3 (upd H2 D (.dT [])) s3.heap.objs.size (cellsFrom (s3.heap.objs.size + 1) scope.names (cloFrom X.env.cells scope.names [])) fp
  have pe := he s3 (upd H2 D (.dT [])) s3.heap.objs.size (cellsFrom (s3.heap.objs.size + 1) scope.names (cloFrom X.env.cells scope.names [])) fp
  show codeAny _ _ (.compStart (.DictComp kx vx [⟨tg, iter, ifs, 0⟩] scope pos) 0 (.ref it) (.ref D) (compEnvC scope (cellsFrom (s3.heap.objs.size + 1) scope.names (cloFrom X.env.cells scope.names [])) s3.heap.objs.size X.env)) (compPost (model X.prog X.w) X.A X.xe use Qf (.ref D) s3.heap.objs.size) { s3 with heap := pushCells (s3.heap.push { cls := .type "dict", data := .dict #[] }) scope.names }
  have nfp : ∀ b ∈ fp, (upd H2 D (.dT [])) b = none := fun b hb => (f3 b hb).1.1
  generalize hce : compEnvC scope (cellsFrom (s3.heap.objs.size + 1) scope.names (cloFrom X.env.cells scope.names [])) s3.heap.objs.size X.env = ce at I4 pg pt pk pe ⊢
  have cL : ce.locals = s3.heap.objs.size := by subst hce; rfl
  generalize hH3 : upd H2 D (.dT []) = H3 at I3 I4 pg pt pk pe w0 nfp f3
  generalize hs4 : ({ s3 with heap := pushCells (s3.heap.push { cls := .type "dict", data := .dict #[] }) scope.names } : Shared) = s4 at I4 ⊢
  have st4 : tn 0 s4.heap := T.keep _ _ _ st3 fun b _ o e => by rw [← hs4]; exact pushCells_keeps _ _ _ _ (Heap.get?_push_of_some _ e)
  have stat : ∀ {σ' : L2.St} {H' : Hp} {s' : Shared}, Inv (X.blk s3 H3 scope ce fp) [] σ' H' s' → (∀ b ∈ fp, H' b = none) → ∀ b ∈ fp, FpOk (X.blk s3 H3 scope ce fp) [] H' b := fun {σ' H' s'} I' hn b hb =>
    ⟨hn b hb, (I'.ok.exf b hb).1, I'.ok.exfs b hb, .inl hb, fun x c e => (I'.ok.exf b hb).2 x c e, fun p hp => absurd (show p ∈ ([] : List (Addr × Obj)) ++ [] from hp) (by simp)⟩
  have loop : codeAny (model X.prog X.w) X.A (.compLoop (.DictComp kx vx [⟨tg, iter, ifs, 0⟩] scope pos) 0 (.ref it) (.ref D) ce) (compPost (model X.prog X.w) X.A X.xe use Qf (.ref D) s3.heap.objs.size) s4 := by
    refine compLoop_anyD (fun n s' => ∃ i H', Inv (X.blk s3 H3 scope ce fp) [] (wipe σ (own.map (·.2))) H' s' ∧ tn i s'.heap ∧ (∀ b ∈ fp, H' b = none) ∧ W i n H') ?_ m0 ⟨0, H3, I4, st4, nfp, w0⟩
    rintro n s5 ⟨i, H5, I5, st5, n5, w5⟩
    rcases turn i n H5 w5 with ⟨stop, qq⟩ | ⟨go, Nx, hNx, step⟩
    · have td := T.done (X.blk s3 H3 scope ce fp) rfl rfl rfl hc i [] s5 _ H5 (fun _ _ => False) I5 (stat I5 n5) st5 stop
      refine thnF td fun r s6 ⟨hr, I6⟩ => ?_
      subst hr
      -- back in the def's context
      have I7 : Inv X pins σ H5 s6 := I3.call' (ch := fp) I6.os I6.base I6.hok I6.bare fun b hb => ⟨(f3 b hb).1.2.2.2.1, (f3 b hb).1.2.1, (f3 b hb).1.2.2.2.2.1, (f3 b hb).1.2.2.2.2.2⟩
      have nC : H5 s3.heap.objs.size = none := by
        have z : H5 ce.locals = none := I6.free
        rw [cL] at z
        exact z
      obtain ⟨m, hn, _⟩ := I6.loc
      have hn : s6.heap.Ns ce.locals m := hn
      rw [cL] at hn
      exact hRR D s3.heap.objs.size s6 m H5 I7 qq hn (I3.fpOk (Nat.le_refl _) nC)
    · have ti := T.item (X.blk s3 H3 scope ce fp) rfl rfl rfl hc i [] s5 _ H5 (fun _ _ => False) I5 (stat I5 n5) st5 go
      refine thnF ti fun r s6 ⟨u, hr, h6⟩ => ?_
      subst hr
      refine thnF h6 fun _ s7 ⟨x, H7, I7, r7, y7, st7, n7⟩ => ?_
      have I7' := I7.pinned (stat I7 n7) (T.obj _ _ st7)
      refine thnF (pg.run _ s7 _ H7 x u _ I7' r7 (step x H7 y7)) fun _ s8 ⟨σ8, H8, I8, hw8, q8⟩ => ?_
      refine thnF (pt.run _ s8 σ8 H8 _ I8 q8) fun b s9 ⟨H9, I9, q9⟩ => ?_
      -- the turn's end
      have fin : ∀ {s' : Shared} {H' : Hp}, Inv (X.blk s3 H3 scope ce fp) ([] ++ pinsAt fp s7.heap) σ8 H' s' → Nx H' → ∃ m, m < n ∧ ∃ i H', Inv (X.blk s3 H3 scope ce fp) [] (wipe σ (own.map (·.2))) H' s' ∧ tn i s'.heap ∧ (∀ b ∈ fp, H' b = none) ∧ W i m H' := fun {s' H'} I' nx => by
        obtain ⟨m', hm, w'⟩ := hNx H' nx
        have pin' : ∀ b ∈ fp, ∀ o, s7.heap.get? b = some o → s'.heap.get? b = some o ∧ H' b = none := fun b hb o e =>
          let z := I'.pin (b, o) (List.mem_append_right _ (List.mem_append_right _ (mem_pinsAt hb e)))
          ⟨z.1, z.2.1⟩
        have hl : (wipe σ (own.map (·.2))).length = σ8.length := by rw [← hw8, wipe_length]
        refine ⟨m', hm, i + 1, H', (I'.unpinned (pins := [])).weak hl (fun j v e => ?_), T.keep _ _ _ st7 fun b hb o e => (pin' b hb o e).1, fun b hb => ?_, w'⟩
        · rw [← hw8] at e
          exact (wipe_some e).1
        · obtain ⟨o, e, _⟩ := T.obj _ _ st7 b hb
          exact (pin' b hb o e).2
      cases b with
      | false =>
        simp only [Bool.false_eq_true, if_false] at q9 ⊢
        exact fin I9 q9
      | true =>
        simp only [if_true] at q9 ⊢
        refine thnF (pk.run _ s9 σ8 H9 _ I9 q9) fun z s10 ⟨yk, H10, I10, r10, q10⟩ => ?_
        refine thnF (pe.run _ s10 σ8 H10 _ I10 q10) fun z2 s11 ⟨yv, H11, I11, r11, kvs, k, bb, ek, eb, hD11, hz11, nx⟩ => ?_
        subst ek
        exact d_dictSetT (X := X.blk s3 H3 scope ce fp) hu I11 hD11 hz11 eb r10 r11 fun s12 I12 => fin I12 nx
  exact codeAny_compStart_dict loop (T.self X.A 0 _ _ _ st4 loop)
/-- as a value -/
theorem pe_dcT {kx vx tg iter : Expr} {ifs : List Expr} {scope : Scope} {own : List (Str × Nat)} {pos : Pos} {wi : TI} {g : TG} {tt : TT} {tk tv : TE} (hu : X.A.units + 1 < cLine) (hc : X.calm = true) (hN : X.N.Nodup) (hi : PI X tg iter wi) (ok : BlkOk X.N X.env.scope scope own)
    (hg : ∀ (s : Shared) (H : Hp) (C : Addr) (cl : List (Str × Addr)) (fp : List Addr), PG (X.blk s H scope (compEnvC scope cl C X.env) fp) tg g) (ht : ∀ (s : Shared) (H : Hp) (C : Addr) (cl : List (Str × Addr)) (fp : List Addr), PTs (X.blk s H scope (compEnvC scope cl C X.env) fp) ifs tt)
    (hk : ∀ (s : Shared) (H : Hp) (C : Addr) (cl : List (Str × Addr)) (fp : List Addr), PE (X.blk s H scope (compEnvC scope cl C X.env) fp) kx tk)
    (he : ∀ (s : Shared) (H : Hp) (C : Addr) (cl : List (Str × Addr)) (fp : List Addr), PE (X.blk s H scope (compEnvC scope cl C X.env) fp) vx tv) (hs : ∀ x, foldedSetIterable iter X.env x = pure x := by intro _; rfl) :
    PE X (.DictComp kx vx [⟨tg, iter, ifs, 0⟩] scope pos) (tDcT wi g tt tk tv (own.map (·.2))) := by
  refine ⟨fun pins s σ H Q I h => ?_⟩
  rw [arm_eval_DictComp]
  refine dcT_core hu hc hN I hi ok hg ht hk he hs h fun D C s' m H' I' q hn f => ⟨m, hn, fun h'' sb => ?_⟩
  obtain ⟨f0, f1, f2, f3, f4, f5⟩ := f
  exact ⟨.ref D, H', I'.turned (t' := s'.toks) (fun b o hb e => (sb.2 b hb).trans e) f0 f1 f3 f4 f5, rfl, q⟩
end
end DcT
/-! ### t[::-1] of a tuple -/
namespace RevT
open PySem PySem.Spec PyProof.Rows L2
section
variable {prog : Program} {w : World} {A : Around} {E : Value → Shared → Prop} {s : Shared}
theorem places_rev (n : Nat) : Builtin.Slice.slicePlaces ((n : Int) - 1) (-1) (-1) = n := by
  unfold Builtin.Slice.slicePlaces
  rw [if_neg (by decide)]
  by_cases h : 0 < n
  · rw [if_pos (by omega)]
    show (((n : Int) - 1 - (-1) - 1) / 1 + 1).toNat = n
    rw [Int.ediv_one]
    omega
  · rw [if_neg (by omega)]
    show (0 : Int).toNat = n
    omega
theorem sliceApplied_rev {sl : Addr} {t : Tok} {n : Nat} {Q : Int × Int × Nat → Shared → Prop} (hs : s.heap.IsSliceOf sl .none .none (.int (-1) t))
    (h : Q (((n : Int) - 1), -1, n) s) : wpAny (model prog w) A (Builtin.Slice.sliceApplied (.ref sl) (pure (n : Int))) Q E s := by
  obtain ⟨os, hos, hcs, hds⟩ := id hs
  unfold Builtin.Slice.sliceApplied Builtin.Slice.sliceFields
  refine wpAny_bind (wpAny_bind (wpAny_field hos hds (x := .none) rfl (wpAny_bind (wpAny_field hos hds (x := .none) rfl (wpAny_bind (wpAny_field hos hds (x := .int (-1) t) rfl (wpAny_pure ?_)))))))
  refine wpAny_bind (slicePart_int ?_)
  show wpAny _ _ (if ((-1 : Int) == 0) = true then _ else _) _ _ s
  rw [if_neg (by decide)]
  refine wpAny_bind (slicePart_none (wpAny_bind (slicePart_none (wpAny_bind (wpAny_pure ?_)))))
  show wpAny _ _ (pure ((n : Int) - 1, (-1 : Int), Builtin.Slice.slicePlaces ((n : Int) - 1) (-1) (-1))) _ _ s
  rw [places_rev]
  exact wpAny_pure h
theorem pick_rev (xs : Array Value) : ((List.range xs.size).filterMap fun (k : Nat) => xs[((xs.size : Int) - 1 + (k : Int) * (-1)).toNat]?).toArray = xs.toList.reverse.toArray := by
  congr 1
  have e : (fun (k : Nat) => xs[((xs.size : Int) - 1 + (k : Int) * (-1)).toNat]?) = fun k => if k < xs.size then xs.toList.reverse[k]? else xs[((xs.size : Int) - 1 + (k : Int) * (-1)).toNat]? := by
    funext k
    by_cases h : k < xs.size
    · rw [if_pos h, List.getElem?_reverse (by simpa using h), Array.getElem?_toList]
      congr 1
      rw [Array.length_toList]
      omega
    · rw [if_neg h]
  rw [e]
  have go : ∀ (l : List Value) (n : Nat) (f : Nat → Option Value), n ≤ l.length → (List.range n).filterMap (fun k => if k < l.length then l[k]? else f k) = l.take n := by
    intro l n f
    induction n with
    | zero => intro _; simp
    | succ n ih =>
      intro h
      rw [List.range_succ, List.filterMap_append, ih (by omega), List.take_succ]
      congr 1
      simp [show n < l.length by omega]
  have z := go xs.toList.reverse xs.size (fun k => xs[((xs.size : Int) - 1 + (k : Int) * (-1)).toNat]?) (by simp)
  rw [List.length_reverse, Array.length_toList] at z
  rw [z, List.take_of_length_le (by simp)]
theorem getItem_tuple_rev {t sl : Addr} {items : Array Value} {tk : Tok} {Q : Value → Shared → Prop} (ht : IsTup s.heap t items) (hs : s.heap.IsSliceOf sl .none .none (.int (-1) tk))
    (h : Q (.ref s.heap.objs.size) { s with heap := s.heap.push { cls := .type "tuple", data := .seq items.toList.reverse.toArray } }) (hsz : items.size ≤ sizeLine) : wpAny (model prog w) A (getItem (.ref t) (.ref sl)) Q E s := by
  have htake : sizeOk (.seq items.toList.reverse.toArray) := by
    show items.toList.reverse.toArray.size ≤ sizeLine
    rw [List.size_toArray, List.length_reverse, Array.length_toList]
    exact hsz
  obtain ⟨os, hos, hcs, hds⟩ := id hs
  have hTs : s.TypeIs (.ref sl) "slice" := ⟨os, hos, hcs⟩
  unfold getItem
  try with_reducible refine wpAny_holding ?_
  first | refine wpAny_bind (wpAny_pure ?_) | skip
  refine wpAny_bind (wpAny_sequenceKey ht.typeIs (by decide) ?_)
  refine wpAny_bind (wpAny_callSpecial?_slot (name := Str.ofString "__getitem__") ht.typeIs PyProof.Rows.slot_tuple_getitem
    (wpAny_call_entry PyProof.Rows.slot_tuple_getitem ht.typeIs entry_tuple_getitem ?_ (args_tuple_getitem _ _)))
  show wpAny _ _ (Builtin.Tuple.tupleItemsOf (.ref t) >>= _) _ _ s
  refine wpAny_bind (tupleItemsOf_ ht ?_)
  refine wpAny_bind (wpAny_typeOf hTs ?_)
  rw [if_pos (by decide)]
  refine wpAny_bind (sliceApplied_rev hs ?_)
  show wpAny _ _ (if ((((items.size : Nat) : Int) - 1) == 0 && (-1 : Int) == 1 && items.size == items.size) = true then _ else _) _ _ s
  rw [if_neg (by rw [show ((-1 : Int) == 1) = false from by decide, Bool.and_false, Bool.false_and]; decide), pick_rev]
  first
    | exact wpAny_bind (m := Builtin.Tuple.tupleExact _) (wpAny_newObj_type (wpAny_pure ⟨_, rfl, wpAny_pure h⟩) htake)
    | exact wpAny_bind (m := Builtin.Tuple.tupleExact _) (wpAny_newObj_type (wpAny_bind (wpAny_pure (wpAny_pure ⟨_, rfl, wpAny_pure h⟩))) htake)
    | exact wpAny_bind (wpAny_bind (m := Builtin.Tuple.tupleExact _) (wpAny_newObj_type (wpAny_pure (wpAny_pure ⟨_, rfl, wpAny_pure h⟩)) htake))
    | exact wpAny_bind (wpAny_bind (m := Builtin.Tuple.tupleExact _) (wpAny_newObj_type (wpAny_pure ⟨_, rfl, wpAny_pure h⟩) htake))
end
def tRevT (K : PySem.W.Frag) (te : TE) : TE := fun σ H Q => te σ H fun x H1 => ∃ a xs, x = .ref a ∧ SqT K H1 a xs ∧ ∀ p, H1 p = none → Q (.ref p) (upd H1 p (.tup xs.reverse))
theorem pe_revT {X : Cx} {e : Expr} {te : TE} {k : Nat} {p1 p2 p3 pos : Pos} (he : PE X e te) : PE X (.Subscript e (.Slice none none (some (.UnaryOp .USub (.Constant (.int 1) k p1) p2)) p3) pos) (tRevT X.K te) := by
  refine ⟨fun pins s σ H Q I h => ?_⟩
  refine Subscript_ (thn (he.run pins s σ H _ I h) fun v s1 ⟨x, H1, I1, r1, q1⟩ => ?_)
  obtain ⟨a, xs, ex, hx, q⟩ := q1
  subst ex
  cases r1
  have hst : PO X (some (.UnaryOp .USub (.Constant (.int 1) k p1) p2)) (tPart (tUn (rU fun i => .int (-i)) (tC (.int 1)))) := po_some (pe_un un_neg pe_int)
  refine wpAny_Slice (thn (po_none.run pins s1 σ H1 (fun o H2 => o = none ∧ H2 = H1) I1 ⟨rfl, rfl⟩) fun vl s2 ⟨l, H2, I2, pl, el, e2⟩ => ?_)
  subst el e2
  refine thn (po_none.run pins s2 σ H2 (fun o H3 => o = none ∧ H3 = H2) I2 ⟨rfl, rfl⟩) fun vu s3 ⟨u, H3, I3, pu, eu, e3⟩ => ?_
  subst eu e3
  refine thn (hst.run pins s3 σ H3 (fun o H4 => o = some (-1) ∧ H4 = H3) I3 ⟨1, rfl, -1, rfl, rfl, rfl⟩) fun vs s4 ⟨o, H4, I4, ps, eo, e4⟩ => ?_
  subst eo e4
  have I5 : Inv X pins σ H4 { s4 with heap := s4.heap.push { cls := .type "slice", data := .fields #[vl, vu, vs] } } := I4.kept (t' := s4.toks) fun b ob q => Heap.get?_push_of_some _ q
  obtain ⟨its, r, ht, hz⟩ := I5.tuple hx
  have hlen := r.length
  cases pl
  cases pu
  cases ps with
  | int i tk =>
  show wpAny (model X.prog X.w) X.A (subscriptTail e (.Slice none none (some (.UnaryOp .USub (.Constant (.int 1) k p1) p2)) p3) (.ref a) (.ref s4.heap.objs.size)) (EP X pins σ Q) X.xe { s4 with heap := s4.heap.push { cls := .type "slice", data := .fields #[.none, .none, .int (-1) tk] } }
  refine tail_any (ops := [.ref a, .ref s4.heap.objs.size]) ht.typeIs (PyProof.Rows.slot_tuple_getitem.lookup) ?_ (by with_unfolding_all rfl)
  refine getItem_tuple_rev ht (Heap.IsSliceOf.new _ .none .none (.int (-1) tk)) ?_ (by rw [List.size_toArray]; omega)
  refine ⟨.ref _, _, I5.laid (t' := s4.toks) (o := .tup xs.reverse) (fun b ob q => Heap.get?_push_of_some _ q) (Nat.le_refl _) ?_, rfl, q _ (I5.hok.fresh (Nat.le_refl _))⟩
  exact ⟨by rw [List.length_reverse]; exact hz, _, r.reverse, IsTup.new _ _⟩
end RevT
/-! ### frames -/
def Imm : HO → Bool
  | .tup _ => true
  | .frz _ (.tup _) => true
  | _ => false
/-- all that stood stands, but at the addresses of A; what never changes stands anyway -/
structure Ext (A : List Addr) (H H' : Hp) : Prop where
  keep : ∀ b o, H b = some o → b ∉ A → H' b = some o
  imm : ∀ b o, H b = some o → Imm o = true → H' b = some o
theorem Ext.refl {A : List Addr} (H : Hp) : Ext A H H := ⟨fun _ _ h _ => h, fun _ _ h _ => h⟩
theorem Ext.trans {A B C : List Addr} {H H1 H2 : Hp} (e : Ext A H H1) (f : Ext B H1 H2) (hA : ∀ x ∈ A, x ∈ C) (hB : ∀ x ∈ B, (∃ o, H x = some o) → x ∈ C) : Ext C H H2 :=
  ⟨fun b o h n => f.keep b o (e.keep b o h fun z => n (hA b z)) fun z => n (hB b z ⟨o, h⟩), fun b o h i => f.imm b o (e.imm b o h i) i⟩
theorem Ext.mono {A B : List Addr} {H H1 : Hp} (e : Ext A H H1) (h : ∀ x ∈ A, x ∈ B) : Ext B H H1 := ⟨fun b o q n => e.keep b o q fun z => n (h b z), e.imm⟩
theorem Ext.new {H : Hp} {p : Addr} {o : HO} (h : H p = none) : Ext [] H (upd H p o) :=
  ⟨fun b u e _ => by rw [upd_ne (ne_of_none e h)]; exact e, fun b u e _ => by rw [upd_ne (ne_of_none e h)]; exact e⟩
theorem Ext.wr {H : Hp} {p : Addr} {o u : HO} (h : H p = some o) (n : Imm o = false) : Ext [p] H (upd H p u) :=
  ⟨fun b v e z => by rw [upd_ne (fun q => z (by rw [q]; exact List.mem_singleton.mpr rfl))]; exact e, fun b v e i => by
    rw [upd_ne (fun q => by subst q; rw [h] at e; cases e; rw [n] at i; cases i)]; exact e⟩
theorem Ext.free {A : List Addr} {H H' : Hp} {p : Addr} (e : Ext A H H') (h : H' p = none) (n : p ∉ A) : H p = none := by
  cases q : H p with
  | none => rfl
  | some o => rw [e.keep p o q n] at h; cases h
theorem Ext.snoc {A C : List Addr} {H H1 H2 : Hp} (f : Ext A H1 H2) (e : Ext C H H1) (hA : ∀ x ∈ A, (∃ o, H x = some o) → x ∈ C) : Ext C H H2 := e.trans f (fun _ h => h) hA
theorem sub0 {H : Hp} {C : List Addr} : ∀ x ∈ ([] : List Addr), (∃ o, H x = some o) → x ∈ C := fun _ h => by cases h
theorem sub1 {H : Hp} {C : List Addr} {a : Addr} (m : a ∈ C) : ∀ x ∈ [a], (∃ o, H x = some o) → x ∈ C := fun x h _ => by rw [List.mem_singleton.mp h]; exact m
theorem sub1f {H : Hp} {C : List Addr} {a : Addr} (m : H a = none) : ∀ x ∈ [a], (∃ o, H x = some o) → x ∈ C := fun x h ⟨o, e⟩ => by rw [List.mem_singleton.mp h, m] at e; cases e
theorem subC {H : Hp} {C A : List Addr} {a : Addr} (m : a ∈ C) (r : ∀ x ∈ A, (∃ o, H x = some o) → x ∈ C) : ∀ x ∈ a :: A, (∃ o, H x = some o) → x ∈ C := fun x h z => by
  rcases List.mem_cons.mp h with q | q
  · rw [q]; exact m
  · exact r x q z
theorem subCf {H : Hp} {C A : List Addr} {a : Addr} (m : H a = none) (r : ∀ x ∈ A, (∃ o, H x = some o) → x ∈ C) : ∀ x ∈ a :: A, (∃ o, H x = some o) → x ∈ C := fun x h z => by
  rcases List.mem_cons.mp h with q | q
  · obtain ⟨o, e⟩ := z
    rw [q, m] at e; cases e
  · exact r x q z
theorem nin0 {b : Addr} : b ∉ ([] : List Addr) := List.not_mem_nil
theorem nin1 {b x : Addr} (h : b ≠ x) : b ∉ [x] := fun z => h (List.mem_singleton.mp z)
theorem ninC {b x : Addr} {A : List Addr} (h : b ≠ x) (g : b ∉ A) : b ∉ (x :: A) := fun z => (List.mem_cons.mp z).elim h g
theorem Rd.ext {A : List Addr} {H H' : Hp} {a : Addr} {u : HO} (e : Ext A H H') (h : Rd H a u) (n : a ∉ A) : Rd H' a u := by
  rcases h with h | ⟨o, h⟩
  · exact .inl (e.keep _ _ h n)
  · exact .inr ⟨o, e.keep _ _ h n⟩
theorem sqT_ext {K : PySem.W.Frag} {A : List Addr} {H H' : Hp} {a : Addr} {xs : List V} (e : Ext A H H') (h : SqT K H a xs) : SqT K H' a xs := by
  rcases h with (h | ⟨o, h⟩) | h
  · exact .inl (.inl (e.imm _ _ h rfl))
  · exact .inl (.inr ⟨o, e.imm _ _ h rfl⟩)
  · exact .inr h
theorem sqL_ext {K : PySem.W.Frag} {A : List Addr} {H H' : Hp} {a : Addr} {xs : List V} (e : Ext A H H') (h : SqL K H a xs) (n : ∀ o, H a = some o → a ∉ A) : SqL K H' a xs := by
  rcases h with (h | ⟨o, h⟩) | h
  · exact .inl (.inl (e.keep _ _ h (n _ h)))
  · exact .inl (.inr ⟨o, e.keep _ _ h (n _ h)⟩)
  · exact .inr h
theorem sqT_cast {K : PySem.W.Frag} {H : Hp} {a : Addr} {xs ys : List V} (h : SqT K H a xs) (e : xs = ys) : SqT K H a ys := e ▸ h
theorem sqL_ext0 {K : PySem.W.Frag} {H H' : Hp} {a : Addr} {xs : List V} (e : Ext [] H H') (h : SqL K H a xs) : SqL K H' a xs := sqL_ext e h fun _ _ => nin0
/-- a new object o, its place any free one -/
def NewO (H : Hp) (o : HO) (R : Addr → Hp → Prop) : Prop := ∀ p H', H p = none → Ext [] H H' → H' p = some o → R p H'
theorem NewO.raw {H : Hp} {o : HO} {R : Addr → Hp → Prop} (h : NewO H o R) : ∀ p, H p = none → R p (upd H p o) := fun p hp => h p _ hp (Ext.new hp) upd_same
/-- a reading's end, weakened -/
def stA (t : TA) : TA := fun σ H Q => ∃ R : List V → Hp → Prop, t σ H R ∧ ∀ xs H', R xs H' → Q xs H'
def stE (t : TE) : TE := fun σ H Q => ∃ R : V → Hp → Prop, t σ H R ∧ ∀ x H', R x H' → Q x H'
theorem PA.star {X : Cx} {es : List Expr} {t : TA} (h : PA X es t) : PA X es (stA t) := by
  constructor
  rintro pos pn st sl hp R J ⟨R1, a, b⟩
  apply thn (h.run pos pn st sl hp R1 J a)
  rintro us s1 ⟨vs, H1, J1, rv, q⟩
  exact ⟨vs, H1, J1, rv, b _ _ q⟩
theorem PE.star {X : Cx} {e : Expr} {t : TE} (h : PE X e t) : PE X e (stE t) := by
  constructor
  rintro pn st sl hp R J ⟨R1, a, b⟩
  apply thn (h.run pn st sl hp R1 J a)
  rintro u s1 ⟨v, H1, J1, rv, q⟩
  exact ⟨v, H1, J1, rv, b _ _ q⟩
def stG (g : TG) : TG := fun v σ H Q => ∃ R : L2.St → Hp → Prop, g v σ H R ∧ ∀ a b, R a b → Q a b
def stT (t : TT) : TT := fun σ H Q => ∃ R : Bool → Hp → Prop, t σ H R ∧ ∀ a b, R a b → Q a b
theorem PG.star {X : Cx} {e : Expr} {g : TG} (h : PG X e g) : PG X e (stG g) := by
  constructor
  rintro pn st sl hp v u Q J rv ⟨R, a, b⟩
  apply thn (h.run pn st sl hp v u R J rv a)
  rintro _ s1 ⟨sl1, H1, J1, q⟩
  exact ⟨sl1, H1, J1, b _ _ q⟩
theorem PTs.star {X : Cx} {ifs : List Expr} {t : TT} (h : PTs X ifs t) : PTs X ifs (stT t) := by
  constructor
  rintro pn st sl hp Q J ⟨R, a, b⟩
  apply thn (h.run pn st sl hp R J a)
  rintro c s1 ⟨H1, J1, q⟩
  exact ⟨H1, J1, b _ _ q⟩
theorem stE.mono {t : TE} {σ : L2.St} {H : Hp} {Q R : V → Hp → Prop} (h : stE t σ H Q) (w : ∀ a b, Q a b → R a b) : stE t σ H R := let ⟨S, a, b⟩ := h; ⟨S, a, fun x y z => w _ _ (b x y z)⟩
theorem stG.mono {t : TG} {v : V} {σ : L2.St} {H : Hp} {Q R : L2.St → Hp → Prop} (h : stG t v σ H Q) (w : ∀ a b, Q a b → R a b) : stG t v σ H R := let ⟨S, a, b⟩ := h; ⟨S, a, fun x y z => w _ _ (b x y z)⟩
theorem stT.mono {t : TT} {σ : L2.St} {H : Hp} {Q R : Bool → Hp → Prop} (h : stT t σ H Q) (w : ∀ a b, Q a b → R a b) : stT t σ H R := let ⟨S, a, b⟩ := h; ⟨S, a, fun x y z => w _ _ (b x y z)⟩
/-- what a loop over J asks; what a list comprehension over J asks -/
def ForGoal (J : It) (g : TG) (tb : TS) (D : Ends) (σ : L2.St) (H : Hp) : Prop := ∃ W : Nat → Nat → L2.St → Hp → Prop, (∃ m, W 0 m σ H) ∧ ∀ i m σ H, W i m σ H →
  (J.stop i H ∧ D.nx σ H) ∨ (J.go i H ∧ ∃ N : L2.St → Hp → Prop, (∀ σ' H', N σ' H' → ∃ m', m' < m ∧ W (i + 1) m' σ' H') ∧ ∀ x H', J.yld i H x H' → g x σ H' fun σ2 H2 => tb { D with nx := N, ct := N, bk := D.nx } σ2 H2)
def LcGoal (J : It) (g : TG) (tt : TT) (te : TE) (vs : List Nat) (σ : L2.St) (H1 : Hp) (Q : VK) : Prop := ∀ D, H1 D = none → ∃ W : Nat → Nat → Hp → Prop, (∃ m, W 0 m (upd H1 D (.lst []))) ∧ ∀ i m H, W i m H →
  (J.stop i H ∧ Q (.ref D) H) ∨ (J.go i H ∧ ∃ Nx : Hp → Prop, (∀ H', Nx H' → ∃ m', m' < m ∧ W (i + 1) m' H') ∧ ∀ x H', J.yld i H x H' → g x (wipe σ vs) H' fun σ2 H2 => wipe σ2 vs = wipe σ vs ∧ tt σ2 H2 fun b H3 =>
    if b = true then te σ2 H3 fun y H4 => ∃ acc, H4 D = some (.lst acc) ∧ acc.length < sizeLine ∧ Nx (upd H4 D (.lst (acc ++ [y]))) else Nx H3)
theorem g_forW {J : It} {n : Nat} {G : Hp → Prop} {Y : Nat → Hp → V → Hp → Prop} (w : Walk J n G Y) {g : TG} {tb : TS} {D : Ends} {σ : L2.St} {H : Hp} (Pv : Nat → L2.St → Hp → Prop) (h0 : Pv 0 σ H) (hG : ∀ i σ H, i ≤ n → Pv i σ H → G H)
    (hs : ∀ i x σ H H', i < n → Pv i σ H → Y i H x H' → g x σ H' fun σ2 H2 => tb { D with nx := Pv (i + 1), ct := Pv (i + 1), bk := D.nx } σ2 H2) (hd : ∀ σ H, Pv n σ H → D.nx σ H) : ForGoal J g tb D σ H := for_it w Pv h0 hG hs hd
theorem g_lcW {J : It} {n : Nat} {G : Hp → Prop} {Y : Nat → Hp → V → Hp → Prop} (w : Walk J n G Y) {g : TG} {tt : TT} {te : TE} {vs : List Nat} {σ : L2.St} {H1 : Hp} {Q : VK} (Pv : Addr → Nat → Hp → List V → Prop)
    (h0 : ∀ D H', H1 D = none → Ext [] H1 H' → H' D = some (.lst []) → Pv D 0 H' []) (hG : ∀ D i H acc, i ≤ n → Pv D i H acc → G H)
    (hs : ∀ D i x H H' acc, i < n → Pv D i H acc → H D = some (.lst acc) → Y i H x H' → stG g x (wipe σ vs) H' fun σ2 H2 => wipe σ2 vs = wipe σ vs ∧ stT tt σ2 H2 fun b H3 =>
      if b = true then stE te σ2 H3 fun y H4 => H4 D = some (.lst acc) ∧ acc.length < sizeLine ∧ ∀ H5, Ext [D] H4 H5 → H5 D = some (.lst (acc ++ [y])) → Pv D (i + 1) H5 (acc ++ [y]) else Pv D (i + 1) H3 acc ∧ H3 D = some (.lst acc))
    (hd : ∀ D H acc, Pv D n H acc → H D = some (.lst acc) → Q (.ref D) H) : LcGoal J (stG g) (stT tt) (stE te) vs σ H1 Q := by
  intro D hD
  apply lc_it w (fun i H => ∃ acc, Pv D i H acc ∧ H D = some (.lst acc))
  · exact ⟨[], h0 D _ hD (Ext.new hD) upd_same, upd_same⟩
  · rintro i H hi ⟨acc, p, _⟩
    exact hG D i H acc hi p
  · rintro i x H H' hi ⟨acc, p, e⟩ y
    refine (hs D i x H H' acc hi p e y).mono fun σ2 H2 ⟨q1, q2⟩ => ⟨q1, q2.mono fun b H3 q3 => ?_⟩
    cases b with
    | true => exact stE.mono q3 fun z H4 ⟨a1, a2, a3⟩ => ⟨acc, a1, a2, acc ++ [z], a3 _ (Ext.wr a1 rfl) upd_same, upd_same⟩
    | false => exact ⟨acc, q3.1, q3.2⟩
  · rintro H ⟨acc, p, e⟩
    exact hd D H acc p e
theorem PE.weak {X : Cx} {e : Expr} {t t' : TE} (h : PE X e t) (w : ∀ σ H Q, t' σ H Q → t σ H Q) : PE X e t' := ⟨fun pn st sl hp R J a => h.run pn st sl hp R J (w _ _ _ a)⟩
theorem PS.weak {X : Cx} {e : Stmt} {t t' : TS} (h : PS X e t) (w : ∀ D σ H, t' D σ H → t D σ H) : PS X e t' := ⟨fun pn st sl hp R J a => h.run pn st sl hp R J (w _ _ _ a)⟩
/-- a statement that ends in J, whence the rest goes on -/
def tJoin (t u : TS) : TS := fun D σ H => ∃ J : L2.St → Hp → Prop, t { D with nx := J } σ H ∧ ∀ σ' H', J σ' H' → u D σ' H'
theorem pss_join {X : Cx} {st : Stmt} {rest : List Stmt} {t u : TS} (h1 : PS X st t) (h2 : PSs X rest u) : PSs X (st :: rest) (tJoin t u) := by
  constructor
  rintro pn s0 sl hp D J ⟨R, a, b⟩
  apply wpAny_execs_cons
  apply thn (h1.run pn s0 sl hp { D with nx := R } J a)
  intro f s1 q
  cases f with
  | next =>
    obtain ⟨sl2, hp2, J2, r⟩ := q
    exact h2.run pn s1 sl2 hp2 D J2 (b _ _ r)
  | ret v => exact q
  | brk => exact q
  | cont => exact q
/-! ### facts of the top -/
structure GF (K : PySem.W.Frag) (mg : Str → Option Value) (x : Str) (st : Stmt) (ps : List Str) (f : Addr) (fd : FuncData) : Prop where
  F : Fun K x x st f fd
  mg : mg x = some (.ref f)
  kp : PySem.W.keepIn K (.ref f) = true
  b : Binds K fd ps []
structure MF (K : PySem.W.Frag) (x q : Str) (st : Stmt) (ps : List Str) (C f : Addr) (fd : FuncData) : Prop where
  F : Fun K x q st f fd
  me : Meth K C x f
  b : Binds K fd ps []
def NA (K : PySem.W.Frag) (C : Addr) (ats : List Str) : Prop := ∀ x ∈ ats, NoAttr K C x
theorem na_of {K : PySem.W.Frag} {C : Addr} {ats : List Str} {f : Str} (h : NA K C ats) (m : f ∈ ats) : NoAttr K C f := h f m
structure CF (K : PySem.W.Frag) (mg : Str → Option Value) (x : Str) (ats : List Str) (C fi : Addr) : Prop where
  mg : mg x = some (.ref C)
  cl : Cls K C
  make : Mk K C fi
  na : NA K C ats
def GV (K : PySem.W.Frag) (mg : Str → Option Value) (x : Str) (v : V) : Prop := ∃ u, mg x = some u ∧ RelV v u
/-! ### rules that take several kinds of values -/
section
variable {X : Cx}
theorem pe_g {x : Str} {v : V} {pos : Pos} (hg : Gl X x) (h : GV X.K X.mg x v) (hd : (x == ("__debug__" : Str)) = false := by decide) : PE X (.Name x pos) (tC v) := by
  obtain ⟨u, h1, h2⟩ := h
  exact pe_glob hg h1 h2 hd
theorem OpR.or {f : Value → Value → Sem Value} {r r' : R2} (h : OpR X f r) (h' : OpR X f r') : OpR X f (fun x y H Q => r x y H Q ∨ r' x y H Q) := by
  intro pins s σ H x y v u Q I rx ry q
  rcases q with q | q
  · exact h pins s σ H x y v u Q I rx ry q
  · exact h' pins s σ H x y v u Q I rx ry q
/-- + of ints, texts, tuples, lists -/
def rAddX (K : PySem.W.Frag) : R2 := fun x y H Q => match x, y with
  | .int i, .int j => Q (.int (i + j)) H
  | .int i, .bl k => Q (.int (i + PyProof.Rows.b2i k)) H
  | .str i, .str j => i.length + j.length ≤ sizeLine ∧ Q (.str (i ++ j)) H
  | .ref a, .ref b => (∃ xs ys, SqT K H a xs ∧ SqT K H b ys ∧ xs.length + ys.length ≤ sizeLine ∧ ∀ c H', Ext [] H H' → SqT K H' c (xs ++ ys) → Q (.ref c) H') ∨
      ∃ xs ys, H a = some (.lst xs) ∧ H b = some (.lst ys) ∧ xs.length + ys.length ≤ sizeLine ∧ NewO H (.lst (xs ++ ys)) fun p H' => Q (.ref p) H'
  | _, _ => False
theorem o_add : OpR X (binaryOp .Add) (rAddX X.K) := by
  intro pins s σ H x y v u Q I rx ry h
  unfold rAddX at h
  split at h
  · exact op_add pins s σ H _ _ v u Q I rx ry ⟨_, _, rfl, rfl, h⟩
  · exact op_add_ib pins s σ H _ _ v u Q I rx ry ⟨_, _, rfl, rfl, h⟩
  · exact op_add_str pins s σ H _ _ v u Q I rx ry ⟨_, _, rfl, rfl, h.1, h.2⟩
  · rcases h with ⟨xs, ys, h1, h2, hz, q⟩ | ⟨xs, ys, h1, h2, hz, q⟩
    · refine op_catA pins s σ H _ _ v u Q I rx ry ⟨_, _, xs, ys, rfl, rfl, h1, h2, hz, fun e => ?_, fun _ e => ?_, fun _ _ p hp => ?_⟩
      · subst e; exact q _ _ (Ext.refl H) h2
      · subst e; exact q _ _ (Ext.refl H) (by rw [List.append_nil]; exact h1)
      · exact q _ _ (Ext.new hp) (SqT.of upd_same)
    · exact op_cat pins s σ H _ _ v u Q I rx ry ⟨_, _, xs, ys, rfl, rfl, h1, h2, hz, q.raw⟩
  · exact h.elim
/-- slices of tuples, lists, texts -/
def rSlX (K : PySem.W.Frag) : V → Option Int → Option Int → Hp → VK → Prop := fun x lo hi H Q => match x with
  | .ref a => (∃ xs, SqT K H a xs ∧ ∀ c H', Ext [] H H' → SqT K H' c (cutV xs lo hi) → Q (.ref c) H') ∨ ∃ xs, SqL K H a xs ∧ NewO H (.lst (cutV xs lo hi)) fun p H' => Q (.ref p) H'
  | .str z => z.length ≤ sizeLine ∧ Q (.str (cutS z lo hi)) H
  | _ => False
theorem cutV_whole {xs : List V} {lo hi : Option Int} (h : HT.sIx xs.length 0 lo = 0 ∧ HT.sIx xs.length xs.length hi = xs.length) : cutV xs lo hi = xs := by
  unfold cutV
  rw [h.1, h.2, List.drop_zero, Nat.sub_zero, List.take_length]
theorem o_sl : SlR X (rSlX X.K) := by
  intro pins s σ H x v vl vu lo hi sl Q I rx hs pl pu h
  unfold rSlX at h
  split at h
  · rcases h with ⟨xs, h1, q⟩ | ⟨xs, h1, q⟩
    · refine sl_tupA pins s σ H _ v vl vu lo hi sl Q I rx hs pl pu ⟨_, xs, rfl, h1, fun e => ?_, fun _ p hp => ?_⟩
      · exact q _ _ (Ext.refl H) (by rw [cutV_whole e]; exact h1)
      · exact q _ _ (Ext.new hp) (SqT.of upd_same)
    · exact sl_list pins s σ H _ v vl vu lo hi sl Q I rx hs pl pu ⟨_, xs, rfl, h1, q.raw⟩
  · exact sl_str pins s σ H _ v vl vu lo hi sl Q I rx hs pl pu ⟨_, rfl, h.1, h.2⟩
  · exact h.elim
theorem CMul.left {i j : Int} (h : -(2 ^ 64) < i ∧ i < 2 ^ 64) : CMul i j := .inl h
theorem CMul.right {i j : Int} (h : -(2 ^ 64) < j ∧ j < 2 ^ 64) : CMul i j := .inr h
def rMulX : R2 := fun x y H Q => match x, y with
  | .int i, .int j => CMul i j ∧ Q (.int (i * j)) H
  | _, _ => rRep x y H Q
theorem o_mul : OpR X (binaryOp .Mult) rMulX := by
  intro pins s σ H x y v u Q I rx ry h
  unfold rMulX at h
  split at h
  · exact op_mul pins s σ H _ _ v u Q I rx ry ⟨_, _, rfl, rfl, h.1, h.2⟩
  · exact op_rep pins s σ H _ _ v u Q I rx ry h
def rEqX (K : PySem.W.Frag) : R2 := fun x y H Q => rEq x y H Q ∨ rEqD K x y H Q
def rNeX (K : PySem.W.Frag) : R2 := fun x y H Q => rNe x y H Q ∨ rNeD K x y H Q
theorem o_eq (hu : X.A.units + 64 < cLine) : OpR X (compareOp .Eq) (rEqX X.K) := OpR.or op_eq (op_eqD hu)
theorem o_ne (hu : X.A.units + 64 < cLine) : OpR X (compareOp .NotEq) (rNeX X.K) := OpR.or op_ne (op_neD hu)
def rInt1 : List V → Hp → VK → Prop := fun xs H Q => match xs with
  | [.int i] => Q (.int i) H
  | [.bl k] => Q (.int (if k then 1 else 0)) H
  | _ => False
theorem o_int : CallR X (.type "int") rInt1 := by
  intro pins s σ H xs us Q I r h
  unfold rInt1 at h
  split at h
  · exact call_int1 pins s σ H _ us Q I r (.inl ⟨_, rfl, h⟩)
  · exact call_int1 pins s σ H _ us Q I r (.inr ⟨_, rfl, h⟩)
  · exact h.elim
def rMin2 : List V → Hp → VK → Prop := fun xs H Q => match xs with
  | [.int i, .int j] => Q (.int (min i j)) H
  | _ => False
def rMax2 : List V → Hp → VK → Prop := fun xs H Q => match xs with
  | [.int i, .int j] => Q (.int (max i j)) H
  | _ => False
theorem o_min (hc : X.calm = true) : CallR X (.builtin "min") rMin2 := by
  intro pins s σ H xs us Q I r h
  unfold rMin2 at h
  split at h
  · rename_i i j
    refine call_min2 hc pins s σ H _ us Q I r ⟨_, _, rfl, ?_⟩
    have e : (if j < i then j else i) = min i j := by split <;> omega
    rw [e]; exact h
  · exact h.elim
theorem o_max (hc : X.calm = true) : CallR X (.builtin "max") rMax2 := by
  intro pins s σ H xs us Q I r h
  unfold rMax2 at h
  split at h
  · rename_i i j
    refine call_max2 hc pins s σ H _ us Q I r ⟨_, _, rfl, ?_⟩
    have e : (if j > i then j else i) = max i j := by split <;> omega
    rw [e]; exact h
  · exact h.elim
def rAbs : List V → Hp → VK → Prop := fun xs H Q => match xs with
  | [.int i] => Q (.int (i.natAbs : Int)) H
  | _ => False
theorem o_abs : CallR X (.builtin "abs") rAbs := by
  intro pins s σ H xs us Q I r h
  unfold rAbs at h
  split at h
  · rename_i i
    refine call_abs pins s σ H _ us Q I r ⟨_, rfl, ?_⟩
    have e : (if i < 0 then -i else i) = (i.natAbs : Int) := by split <;> omega
    rw [e]; exact h
  · exact h.elim
def tTupX (t : TA) : TE := fun σ H Q => t σ H fun xs H1 => xs.length ≤ sizeLine ∧ NewO H1 (.tup xs) fun p H' => Q (.ref p) H'
def tLstX (t : TA) : TE := fun σ H Q => t σ H fun xs H1 => xs.length ≤ sizeLine ∧ NewO H1 (.lst xs) fun p H' => Q (.ref p) H'
theorem pe_tupX {es : List Expr} {t : TA} {k : Nat} {pos : Pos} (h : PA X es t) : PE X (.Tuple es k pos) (tTupX t) :=
  PE.weak (pe_tup (PA.star h)) fun _ _ _ q => ⟨_, q, fun _ _ ⟨l, n⟩ => ⟨l, n.raw⟩⟩
theorem pe_lstX {es : List Expr} {t : TA} {pos : Pos} (h : PA X es t) : PE X (.List es pos) (tLstX t) :=
  PE.weak (pe_lst (PA.star h)) fun _ _ _ q => ⟨_, q, fun _ _ ⟨l, n⟩ => ⟨l, n.raw⟩⟩
def rLenX (K : PySem.W.Frag) : List V → Hp → VK → Prop := fun xs H Q => match xs with
  | [.ref a] => (∃ ys, (SqL K H a ys ∨ SqT K H a ys) ∧ Q (.int ys.length) H) ∨ ∃ kvs, H a = some (.dK kvs) ∧ Q (.int kvs.length) H
  | [.str z] => z.length ≤ sizeLine ∧ Q (.int z.length) H
  | _ => False
theorem o_len : CallR X (.builtin "len") (rLenX X.K) := by
  intro pins s σ H xs us Q I r h
  unfold rLenX at h
  split at h
  · rcases h with ⟨ys, e, q⟩ | ⟨kvs, e, q⟩
    · exact call_len_seq pins s σ H _ us Q I r ⟨_, ys, rfl, e, q⟩
    · exact call_lenD pins s σ H _ us Q I r ⟨_, kvs, rfl, e, q⟩
  · exact call_len_str pins s σ H _ us Q I r ⟨_, rfl, h.1, h.2⟩
  · exact h.elim
def rListX (K : PySem.W.Frag) : List V → Hp → VK → Prop := fun xs H Q => match xs with
  | [.ref a] => ∃ ys, (SqL K H a ys ∨ SqT K H a ys) ∧ NewO H (.lst ys) fun p H' => Q (.ref p) H'
  | _ => False
theorem o_list : CallR X (.type "list") (rListX X.K) := by
  intro pins s σ H xs us Q I r h
  unfold rListX at h
  split at h
  · obtain ⟨ys, e, q⟩ := h
    exact call_list_of pins s σ H _ us Q I r ⟨_, ys, rfl, e, q.raw⟩
  · exact h.elim
def rTupX (K : PySem.W.Frag) : List V → Hp → VK → Prop := fun xs H Q => match xs with
  | [.ref a] => (∃ ys, SqL K H a ys ∧ NewO H (.tup ys) fun p H' => Q (.ref p) H') ∨ ∃ ys, SqT K H a ys ∧ Q (.ref a) H
  | _ => False
theorem o_tuple : CallR X (.type "tuple") (rTupX X.K) := by
  intro pins s σ H xs us Q I r h
  unfold rTupX at h
  split at h
  · rcases h with ⟨ys, e, q⟩ | ⟨ys, e, q⟩
    · exact call_tuple_of pins s σ H _ us Q I r ⟨_, ys, rfl, .inl ⟨e, q.raw⟩⟩
    · exact call_tuple_of pins s σ H _ us Q I r ⟨_, ys, rfl, .inr ⟨e, q⟩⟩
  · exact h.elim
theorem kkTup {K : PySem.W.Frag} {e : Expr} {n : Nat} {t : TGs} (h : X.K = K) (c : PG X e (gTup X.K n t)) : PG X e (gTup K n t) := h ▸ c
theorem kkCallR {K : PySem.W.Frag} {v : Value} {r : PySem.W.Frag → List V → Hp → VK → Prop} (h : X.K = K) (c : CallR X v (r X.K)) : CallR X v (r K) := h ▸ c
theorem kkOpR {K : PySem.W.Frag} {f : Value → Value → Sem Value} {r : PySem.W.Frag → R2} (h : X.K = K) (c : OpR X f (r X.K)) : OpR X f (r K) := h ▸ c
theorem kkIxR {K : PySem.W.Frag} {r : PySem.W.Frag → R2} (h : X.K = K) (c : IxR X (r X.K)) : IxR X (r K) := h ▸ c
theorem kkSlR {K : PySem.W.Frag} {r : PySem.W.Frag → V → Option Int → Option Int → Hp → VK → Prop} (h : X.K = K) (c : SlR X (r X.K)) : SlR X (r K) := h ▸ c
theorem iop_catT : OpR X (inplaceOp .Add) (fun _ _ _ _ => False) := fun _ _ _ _ _ _ _ _ _ _ _ _ h => h.elim
def rIAddX : R2 := fun x y H Q => match x, y with
  | .int i, .int j => Q (.int (i + j)) H
  | .str i, .str j => i.length + j.length ≤ sizeLine ∧ Q (.str (i ++ j)) H
  | _, _ => False
theorem o_iadd : PIp X .Add rIAddX := by
  intro pins s σ H x y v u Q I rx ry h
  unfold rIAddX at h
  split at h
  · exact iop_add pins s σ H _ _ v u Q I rx ry ⟨_, _, rfl, rfl, h⟩
  · exact iop_add_str pins s σ H _ _ v u Q I rx ry ⟨_, _, rfl, rfl, h.1, h.2⟩
  · exact h.elim
theorem o_inadd : InOp X .Add rIAddX := fun pins s σ H x y u v Q I rx ry h => o_iadd pins s σ H x y u v Q I rx ry h
end
/-- C(..): as tMake, the new heap by what is known of it -/
def tMakeX (C : Addr) (sp : Sp) (dvs : List V) (E : XK) (t : TA) : TE := fun σ H Q => t σ H fun vs H1 => ∀ x dx H', H1 x = none → Ext [] H1 H' → H' x = some (.ins C dx []) →
  sp (.ref x :: (vs ++ dvs)) H' (fun v H2 => v = .non ∧ Q (.ref x) H2) E
theorem Ext.made {H : Hp} {x dx C : Addr} (h1 : H x = none) (h2 : H dx = none) : Ext [] H (upd (upd H dx (.own x)) x (.ins C dx [])) :=
  ⟨fun b o e _ => by rw [upd_ne (ne_of_none e h1), upd_ne (ne_of_none e h2)]; exact e, fun b o e _ => by rw [upd_ne (ne_of_none e h1), upd_ne (ne_of_none e h2)]; exact e⟩
section
variable {X : Cx} {CX : CXT} {k : Nat} {f C : Addr} {fd : FuncData} {ps : List Str} {sp : Sp} {dvs : List V} {ds : List Value} {E : XK} {x : Str} {p pos : Pos} {e : Expr} {es : List Expr} {t : TA}
theorem pe_makeX (M : Mk X.K C f) (F : FnOk X.prog X.w X.K X.mg X.base CX k f fd ps sp) (hr : Room (k + 1) X.A) (hg : Gl X x) (hm : X.mg x = some (.ref C)) (hb : Binds X.K fd ps ds) (hd : Vals dvs ds) (hx : Passes CX X E)
    (ha : PA X (e :: es) t) (hq : (x == ("__debug__" : Str)) = false := by decide) (he : starEach (e :: es) X.env = (false, eval e X.env) :: starEach es X.env := by rfl) (hl : (backTo pos (starEach es X.env)).any (·.1) = false := by rfl) :
    PE X (.Call (.Name x p) (e :: es) [] pos) (tMakeX C sp dvs E t) := by
  constructor
  intro pn st0 sl hp R J hh
  apply wpAny_Call_Name_kw
  apply ld_glob J hg hm (hd := hq)
  apply PySem.W.callWith_K (h₀ := X.base) J.ok.mod.kin M.kp _ he hl
  apply thn (ha.run pos pn st0 sl hp _ J hh)
  rintro us s1 ⟨vs, hp1, J1, rv, q⟩
  exact ⟨J1.kIn, run_make M F hr hb hd hx J1 rv fun x dx h1 h2 _ => q x dx _ h1 (Ext.made h1 h2) upd_same⟩
theorem pe_make0X (M : Mk X.K C f) (F : FnOk X.prog X.w X.K X.mg X.base CX k f fd ps sp) (hr : Room (k + 1) X.A) (hg : Gl X x) (hm : X.mg x = some (.ref C)) (hb : Binds X.K fd ps ds) (hd : Vals dvs ds) (hx : Passes CX X E)
    (hq : (x == ("__debug__" : Str)) = false := by decide) : PE X (.Call (.Name x p) [] [] pos) (tMakeX C sp dvs E tNil) := by
  constructor
  intro pn st0 sl hp R J hh
  apply wpAny_Call_Name_kw
  apply ld_glob J hg hm (hd := hq)
  exact PySem.W.callWith_K0 J.kIn M.kp (run_make (us := []) M F hr hb hd hx J .nil fun x dx h1 h2 _ => hh x dx _ h1 (Ext.made h1 h2) upd_same)
end
/-! ### slices by numbers -/
theorem cut_mid {xs : List V} {a b : Nat} (h1 : a ≤ b) (h2 : b ≤ xs.length) : cutV xs (some (a : Int)) (some (b : Int)) = (xs.drop a).take (b - a) := by
  unfold cutV
  rw [HT.sIx_nat, HT.sIx_nat, Nat.min_eq_left h2, Nat.min_eq_left (Nat.le_trans h1 h2)]
theorem cut_to {xs : List V} {b : Nat} : cutV xs none (some (b : Int)) = xs.take b := by
  unfold cutV
  rw [HT.sIx_nat, HT.sIx_none, List.drop_zero, Nat.sub_zero]
  by_cases h : b ≤ xs.length
  · rw [Nat.min_eq_left h]
  · rw [Nat.min_eq_right (by omega), List.take_of_length_le (Nat.le_refl _), List.take_of_length_le (by omega)]
theorem cut_from {xs : List V} {a : Nat} : cutV xs (some (a : Int)) none = xs.drop a := by
  unfold cutV
  rw [HT.sIx_nat, HT.sIx_none]
  by_cases h : a ≤ xs.length
  · rw [Nat.min_eq_left h, List.take_of_length_le (by rw [List.length_drop]; exact Nat.le_refl _)]
  · rw [Nat.min_eq_right (by omega), List.drop_of_length_le (Nat.le_refl _), List.drop_of_length_le (show xs.length ≤ a by omega)]
    simp
theorem sIx_neg {n d a : Nat} (h : 0 < a) : HT.sIx n d (some (-(a : Int))) = n - a := by
  show (if (-(a : Int)) < 0 then (-(a : Int) + (n : Int)).toNat else min (-(a : Int)).toNat n) = n - a
  rw [if_pos (by omega)]
  omega
theorem cut_negTo {xs : List V} {b : Nat} (h : 0 < b) : cutV xs none (some (-(b : Int))) = xs.take (xs.length - b) := by
  unfold cutV
  rw [sIx_neg h, HT.sIx_none, List.drop_zero, Nat.sub_zero]
theorem cut_negFrom {xs : List V} {a : Nat} (h : 0 < a) : cutV xs (some (-(a : Int))) none = xs.drop (xs.length - a) := by
  unfold cutV
  rw [sIx_neg h, HT.sIx_none, List.take_of_length_le (by rw [List.length_drop]; exact Nat.le_refl _)]
theorem cut_midU {xs : List V} {a b : Nat} : cutV xs (some (a : Int)) (some (b : Int)) = (xs.take b).drop a := by
  unfold cutV
  rw [HT.sIx_nat, HT.sIx_nat, List.drop_take]
  by_cases h : a ≤ xs.length
  · rw [Nat.min_eq_left h]
    by_cases h2 : b ≤ xs.length
    · rw [Nat.min_eq_left h2]
    · rw [Nat.min_eq_right (show xs.length ≤ b by omega), List.take_of_length_le (by rw [List.length_drop]; omega), List.take_of_length_le (by rw [List.length_drop]; omega)]
  · rw [Nat.min_eq_right (show xs.length ≤ a by omega), List.drop_of_length_le (Nat.le_refl _), List.drop_of_length_le (show xs.length ≤ a by omega)]
    simp
theorem cut_toL {xs : List V} {b : Nat} : cutV xs none (some (@OfNat.ofNat Int b instOfNat)) = xs.take b := cut_to
theorem cut_fromL {xs : List V} {b : Nat} : cutV xs (some (@OfNat.ofNat Int b instOfNat)) none = xs.drop b := cut_from
theorem cut_midL {xs : List V} {a b : Nat} : cutV xs (some (@OfNat.ofNat Int a instOfNat)) (some (@OfNat.ofNat Int b instOfNat)) = (xs.take b).drop a := cut_midU
theorem cut_negToL {xs : List V} {b : Nat} (h : 0 < b) : cutV xs none (some (-(@OfNat.ofNat Int b instOfNat))) = xs.take (xs.length - b) := cut_negTo h
theorem cut_negFromL {xs : List V} {b : Nat} (h : 0 < b) : cutV xs (some (-(@OfNat.ofNat Int b instOfNat))) none = xs.drop (xs.length - b) := cut_negFrom h
/-! ### steps of a reading -/
section
variable {K : PySem.W.Frag} {σ : St} {H : Hp} {Q : VK} {D : Ends} {t u : TS} {ta tb tc te : TE} {g : TG} {v : V}
theorem g_seq (h : t { D with nx := u D } σ H) : tSeq t u D σ H := h
theorem g_next (h : D.nx σ H) : tNext D σ H := h
theorem g_asg (h : te σ H fun x H1 => g x σ H1 D.nx) : tAsg te g D σ H := h
theorem g_name {i : Nat} {R : St → Hp → Prop} (h : R (σ.set i (some v)) H) : gName i v σ H R := h
theorem g_ret (h : te σ H D.rt) : tRet te D σ H := h
theorem g_retN (h : D.rt .non H) : tRetN D σ H := h
theorem g_drop (h : te σ H fun _ H1 => D.nx σ H1) : tDrop te D σ H := h
theorem g_brk (h : D.bk σ H) : tBreak D σ H := h
theorem g_cnt (h : D.ct σ H) : tCont D σ H := h
theorem g_ifS {c : TT} (h : c σ H fun b H1 => if b = true then t D σ H1 else u D σ H1) : tIfS c t u D σ H := h
theorem g_if {c : TT} (h : c σ H fun b H1 => if b = true then ta σ H1 Q else tb σ H1 Q) : tIf c ta tb σ H Q := h
theorem g_var {i : Nat} (e : σ[i]? = some (some v)) (h : Q v H) : tVar i σ H Q := ⟨v, e, h⟩
theorem g_C (h : Q v H) : tC v σ H Q := h
theorem g_op {r : R2} (h : ta σ H fun x H1 => tb σ H1 fun y H2 => r x y H2 Q) : tOp r ta tb σ H Q := h
theorem g_un {r : V → Hp → VK → Prop} (h : ta σ H fun x H1 => r x H1 Q) : tUn r ta σ H Q := h
theorem g_neg {i : Int} (h : Q (.int (-i)) H) : rU (fun i => .int (-i)) (.int i) H Q := ⟨_, rfl, h⟩
theorem g_rI {C : Int → Int → Prop} {f : Int → Int → V} {i j : Int} (c : C i j) (h : Q (f i j) H) : rI C f (.int i) (.int j) H Q := ⟨i, j, rfl, rfl, c, h⟩
theorem g_rI0 {f : Int → Int → V} {i j : Int} (h : Q (f i j) H) : rI0 f (.int i) (.int j) H Q := ⟨i, j, rfl, rfl, h⟩
theorem g_addI {i j : Int} (h : Q (.int (i + j)) H) : rAddX K (.int i) (.int j) H Q := h
theorem g_addT {a b : Addr} {xs ys : List V} (e : SqT K H a xs) (f : SqT K H b ys) (z : xs.length + ys.length ≤ sizeLine) (h : ∀ c H', Ext [] H H' → SqT K H' c (xs ++ ys) → Q (.ref c) H') : rAddX K (.ref a) (.ref b) H Q := .inl ⟨xs, ys, e, f, z, h⟩
theorem g_addL {a b : Addr} {xs ys : List V} (e : H a = some (.lst xs)) (f : H b = some (.lst ys)) (z : xs.length + ys.length ≤ sizeLine) (h : NewO H (.lst (xs ++ ys)) fun p H' => Q (.ref p) H') : rAddX K (.ref a) (.ref b) H Q := .inr ⟨xs, ys, e, f, z, h⟩
theorem g_sl {te' : TE} {tl th : TO} {r : V → Option Int → Option Int → Hp → VK → Prop} (h : te' σ H fun x H1 => tl σ H1 fun l H2 => th σ H2 fun u H3 => r x l u H3 Q) : tSl r te' tl th σ H Q := h
theorem g_noPart {R : Option Int → Hp → Prop} (h : R none H) : tNoPart σ H R := h
theorem g_part {R : Option Int → Hp → Prop} (h : te σ H fun x H1 => ∃ i, x = .int i ∧ R (some i) H1) : tPart te σ H R := h
theorem g_part' {i : Int} {R : Int → Prop} (h : R i) : ∃ i', V.int i = .int i' ∧ R i' := ⟨i, rfl, h⟩
theorem g_slT {a : Addr} {lo hi : Option Int} {xs ys : List V} (e : SqT K H a xs) (f : cutV xs lo hi = ys) (h : ∀ c H', Ext [] H H' → SqT K H' c ys → Q (.ref c) H') : rSlX K (.ref a) lo hi H Q := .inl ⟨xs, e, by rw [f]; exact h⟩
theorem g_slL {a : Addr} {lo hi : Option Int} {xs ys : List V} (e : SqL K H a xs) (f : cutV xs lo hi = ys) (h : NewO H (.lst ys) fun p H' => Q (.ref p) H') : rSlX K (.ref a) lo hi H Q := .inr ⟨xs, e, by rw [f]; exact h⟩
theorem g_slS {z : Str} {lo hi : Option Int} (e : z.length ≤ sizeLine) (h : Q (.str (cutS z lo hi)) H) : rSlX K (.str z) lo hi H Q := ⟨e, h⟩
theorem g_addS {i j : Str} (e : i.length + j.length ≤ sizeLine) (h : Q (.str (i ++ j)) H) : rAddX K (.str i) (.str j) H Q := ⟨e, h⟩
theorem g_mulI {i j : Int} (c : CMul i j) (h : Q (.int (i * j)) H) : rMulX (.int i) (.int j) H Q := ⟨c, h⟩
theorem g_iaddI {i j : Int} (h : Q (.int (i + j)) H) : rIAddX (.int i) (.int j) H Q := h
theorem g_divW {i j : Int} (h0 : 0 < j) (h1 : j < 2 ^ 64) (h : Q (.int (i / j)) H) : rI CDivW (fun i j => .int (i / j)) (.int i) (.int j) H Q :=
  ⟨i, j, rfl, rfl, wide_div (b := 64) h0 (by omega) (by decide) (by decide), h⟩
theorem g_mod {i j : Int} (h0 : 0 < j) (h : Q (.int (i % j)) H) : rI (fun _ j => 0 < j) (fun i j => .int (i % j)) (.int i) (.int j) H Q := ⟨i, j, rfl, rfl, h0, h⟩
theorem g_eq {x y : V} (e : scal x y = true) (h : Q (.bl (decide (x = y))) H) : rEqX K x y H Q := .inl ⟨e, h⟩
theorem g_ne {x y : V} (e : scal x y = true) (h : Q (.bl (!decide (x = y))) H) : rNeX K x y H Q := .inl ⟨e, h⟩
theorem g_isN {x : V} (h : Q (.bl (decide (x = .non))) H) : (fun x y H Q => y = V.non ∧ Q (.bl (decide (x = .non))) H : R2) x .non H Q := ⟨rfl, h⟩
theorem g_isN' {R : Prop} (h : R) : (V.non = V.non ∧ R) := ⟨rfl, h⟩
theorem g_test {t : TE} {R : Bool → Hp → Prop} (h : t σ H fun x H' => ∃ k, x = .bl k ∧ R k H') : tTest t σ H R := h
theorem g_bl {k : Bool} {R : Bool → Prop} (h : R k) : ∃ k', V.bl k = .bl k' ∧ R k' := ⟨k, rfl, h⟩
theorem g_tru {x : V} {k : Bool} {R : Bool → Prop} (e : TruV K x H k) (h : R k) : ∃ k', TruV K x H k' ∧ R k' := ⟨k, e, h⟩
theorem g_truB {b : Bool} : TruV K (.bl b) H b := rfl
theorem g_and {a b : TT} {R : Bool → Hp → Prop} (h : a σ H fun c H1 => if c = true then b σ H1 R else R false H1) : tAnd a b σ H R := h
theorem g_or {a b : TT} {R : Bool → Hp → Prop} (h : a σ H fun c H1 => if c = true then R true H1 else b σ H1 R) : tOr a b σ H R := h
theorem g_not {a : TT} {R : Bool → Hp → Prop} (h : a σ H fun c H1 => R (!c) H1) : tNot a σ H R := h
theorem g_chain {r r' : R2} (h : ta σ H fun x H1 => tb σ H1 fun y H2 => r x y H2 fun z H3 => ∃ k, z = .bl k ∧ (if k = true then tc σ H3 fun w' H4 => r' y w' H4 Q else Q (.bl false) H3)) : tChain r r' ta tb tc σ H Q := h
theorem g_andV (h : ta σ H fun x H1 => ∃ c, x = .bl c ∧ if c = true then tb σ H1 Q else Q (.bl false) H1) : tAndV ta tb σ H Q := h
theorem g_orV (h : ta σ H fun x H1 => ∃ c, x = .bl c ∧ if c = true then Q (.bl true) H1 else tb σ H1 Q) : tOrV ta tb σ H Q := h
theorem g_notV (h : ta σ H fun x H1 => ∃ c, x = .bl c ∧ Q (.bl (!c)) H1) : tNotV ta σ H Q := h
theorem g_inT {x : V} {p : Addr} {xs : List V} (e : SqT K H p xs) (f : flatV x = true) (g : xs.all flatV = true) (h : Q (.bl (inV x xs)) H) : rIn K false x (.ref p) H Q := ⟨p, xs, rfl, .inr e, f, g, h⟩
theorem g_inL {x : V} {p : Addr} {xs : List V} (e : SqL K H p xs) (f : flatV x = true) (g : xs.all flatV = true) (h : Q (.bl (inV x xs)) H) : rIn K false x (.ref p) H Q := ⟨p, xs, rfl, .inl e, f, g, h⟩
theorem g_ninT {x : V} {p : Addr} {xs : List V} (e : SqT K H p xs) (f : flatV x = true) (g : xs.all flatV = true) (h : Q (.bl (!inV x xs)) H) : rIn K true x (.ref p) H Q := ⟨p, xs, rfl, .inr e, f, g, h⟩
theorem g_ninL {x : V} {p : Addr} {xs : List V} (e : SqL K H p xs) (f : flatV x = true) (g : xs.all flatV = true) (h : Q (.bl (!inV x xs)) H) : rIn K true x (.ref p) H Q := ⟨p, xs, rfl, .inl e, f, g, h⟩
theorem g_nil {R : List V → Hp → Prop} (h : R [] H) : tNil σ H R := h
theorem g_cons {tr : TA} {R : List V → Hp → Prop} (h : te σ H fun x H1 => tr σ H1 fun xs H2 => R (x :: xs) H2) : tCons te tr σ H R := h
theorem g_CB {r : List V → Hp → VK → Prop} {ta : TA} (h : ta σ H fun vs H1 => r vs H1 Q) : tCB r ta σ H Q := h
theorem g_int1 {i : Int} (h : Q (.int i) H) : rInt1 [.int i] H Q := h
theorem g_int1b {k : Bool} (h : Q (.int (if k then 1 else 0)) H) : rInt1 [.bl k] H Q := h
theorem g_min2 {i j : Int} (h : Q (.int (min i j)) H) : rMin2 [.int i, .int j] H Q := h
theorem g_max2 {i j : Int} (h : Q (.int (max i j)) H) : rMax2 [.int i, .int j] H Q := h
theorem g_abs {i : Int} (h : Q (.int (i.natAbs : Int)) H) : rAbs [.int i] H Q := h
theorem g_new {n : Nat} {o : HO} {R : Addr → Hp → Prop} (e : n ≤ sizeLine) (h : NewO H o R) : n ≤ sizeLine ∧ NewO H o R := ⟨e, h⟩
theorem g_newO {o : HO} {R : Addr → Hp → Prop} (h : ∀ p H', H p = none → Ext [] H H' → H' p = some o → R p H') : NewO H o R := h
theorem g_tup {t : TA} (h : t σ H fun xs H1 => xs.length ≤ sizeLine ∧ NewO H1 (.tup xs) fun p H' => Q (.ref p) H') : tTupX t σ H Q := h
theorem g_lst {t : TA} (h : t σ H fun xs H1 => xs.length ≤ sizeLine ∧ NewO H1 (.lst xs) fun p H' => Q (.ref p) H') : tLstX t σ H Q := h
theorem g_ixL {p : Addr} {xs : List V} {i : Int} (e : SqL K H p xs) (a : atI xs i = some v) (h : Q v H) : rIx K (.ref p) (.int i) H Q := .inl ⟨p, xs, i, v, rfl, rfl, e, a, h⟩
theorem g_ixT {p : Addr} {xs : List V} {i : Int} (e : SqT K H p xs) (a : atI xs i = some v) (h : Q v H) : rIx K (.ref p) (.int i) H Q := .inr (.inl ⟨p, xs, i, v, rfl, rfl, e, a, h⟩)
theorem g_sub {to ti : TE} {s : TSet} {R : St → Hp → Prop} (h : to σ H fun o H1 => ti σ H1 fun i H2 => s o i v H2 fun H3 => R σ H3) : gSub to ti s v σ H R := h
theorem g_setL {p : Addr} {xs ys : List V} {k : Int} {j : Nat} {R : Hp → Prop} (e : H p = some (.lst xs)) (a : ixN xs.length k = some j) (l : xs.set j v = ys) (h : ∀ H', Ext [p] H H' → H' p = some (.lst ys) → R H') : rSetL (.ref p) (.int k) v H R :=
  ⟨p, xs, k, j, rfl, rfl, e, a, by rw [l]; exact h _ (Ext.wr e rfl) upd_same⟩
theorem g_ite {c : Bool} {A B : Prop} (h1 : c = true → A) (h2 : c = false → B) : if c = true then A else B := by
  cases c with
  | true => exact h1 rfl
  | false => exact h2 rfl
theorem g_iteDT {c : Bool} {A B : Prop} (e : c = true) (h : A) : if c = true then A else B := by rw [e]; exact h
theorem g_iteDF {c : Bool} {A B : Prop} (e : c = false) (h : B) : if c = true then A else B := by rw [e]; exact h
theorem g_iteIN {i : Int} {A B : Prop} (h : B) : if decide (V.int i = V.non) = true then A else B := by rw [decide_eq_false (by intro z; cases z)]; exact h
theorem g_iteRN {a : Addr} {A B : Prop} (h : B) : if decide (V.ref a = V.non) = true then A else B := by rw [decide_eq_false (by intro z; cases z)]; exact h
theorem g_iteSN {a : Str} {A B : Prop} (h : B) : if decide (V.str a = V.non) = true then A else B := by rw [decide_eq_false (by intro z; cases z)]; exact h
theorem g_iteNIN {i : Int} {A B : Prop} (h : A) : if (!decide (V.int i = V.non)) = true then A else B := by rw [decide_eq_false (by intro z; cases z)]; exact h
theorem g_iteNRN {i : Addr} {A B : Prop} (h : A) : if (!decide (V.ref i = V.non)) = true then A else B := by rw [decide_eq_false (by intro z; cases z)]; exact h
theorem g_iteT {A B : Prop} (h : A) : if true = true then A else B := h
theorem g_iteF {A B : Prop} (h : B) : if false = true then A else B := h
theorem g_fld {f : Str} (h : ta σ H fun x H1 => ∃ a C dx fs v, x = .ref a ∧ H1 a = some (.ins C dx fs) ∧ Cls K C ∧ NoAttr K C f ∧ fs.lookup f = some v ∧ Q v H1) : tFld K ta f σ H Q := h
theorem g_fld' {f : Str} {a C dx : Addr} {fs : List (Str × V)} (e : H a = some (.ins C dx fs)) (c : Cls K C) (n : NoAttr K C f) (l : fs.lookup f = some v) (h : Q v H) :
    ∃ a' C dx fs v, V.ref a = .ref a' ∧ H a' = some (.ins C dx fs) ∧ Cls K C ∧ NoAttr K C f ∧ fs.lookup f = some v ∧ Q v H := ⟨a, C, dx, fs, v, rfl, e, c, n, l, h⟩
theorem g_sfld {tv : TE} {f : Str} (h : tv σ H fun y H1 => ta σ H1 fun x H2 => ∃ a C dx fs, x = .ref a ∧ H2 a = some (.ins C dx fs) ∧ Cls K C ∧ NoAttr K C f ∧ fs.length < 1000 ∧ D.nx σ (upd H2 a (.ins C dx (putF f y fs)))) : sFld K ta tv f D σ H := h
theorem g_sfld' {f : Str} {a C dx : Addr} {fs fs' : List (Str × V)} {R : Hp → Prop} (e : H a = some (.ins C dx fs)) (c : Cls K C) (n : NoAttr K C f) (l : fs.length < 1000) (p : putF f v fs = fs') (h : ∀ H', Ext [a] H H' → H' a = some (.ins C dx fs') → R H') :
    ∃ a' C dx fs, V.ref a = .ref a' ∧ H a' = some (.ins C dx fs) ∧ Cls K C ∧ NoAttr K C f ∧ fs.length < 1000 ∧ R (upd H a' (.ins C dx (putF f v fs))) :=
  ⟨a, C, dx, fs, rfl, e, c, n, l, by rw [p]; exact h _ (Ext.wr e rfl) upd_same⟩
theorem g_sfa {tv : TE} {f : Str} {rd : V → V → Hp → VK → Prop} (h : ta σ H fun x H1 => ∃ a C dx fs v, x = .ref a ∧ H1 a = some (.ins C dx fs) ∧ Cls K C ∧ NoAttr K C f ∧ fs.lookup f = some v ∧
  tv σ H1 fun y H2 => rd v y H2 fun z H3 => ∃ dx' fs', H3 a = some (.ins C dx' fs') ∧ fs'.length < 1000 ∧ D.nx σ (upd H3 a (.ins C dx' (putF f z fs')))) : sFldAug K ta tv rd f D σ H := h
theorem g_sfa' {f : Str} {a C dx : Addr} {fs : List (Str × V)} {R : V → Addr → Addr → Hp → Prop} (e : H a = some (.ins C dx fs)) (c : Cls K C) (n : NoAttr K C f) (l : fs.lookup f = some v) (h : R v a C H) :
    ∃ a' C dx fs v, V.ref a = .ref a' ∧ H a' = some (.ins C dx fs) ∧ Cls K C ∧ NoAttr K C f ∧ fs.lookup f = some v ∧ R v a' C H := ⟨a, C, dx, fs, v, rfl, e, c, n, l, h⟩
theorem g_sfa'' {f : Str} {a C dx : Addr} {fs fs' : List (Str × V)} {R : Hp → Prop} (e : H a = some (.ins C dx fs)) (l : fs.length < 1000) (p : putF f v fs = fs') (h : ∀ H', Ext [a] H H' → H' a = some (.ins C dx fs') → R H') :
    ∃ dx' fs', H a = some (.ins C dx' fs') ∧ fs'.length < 1000 ∧ R (upd H a (.ins C dx' (putF f v fs'))) :=
  ⟨dx, fs, e, l, by rw [p]; exact h _ (Ext.wr e rfl) upd_same⟩
theorem g_call {sp : Sp} {dvs : List V} {E : XK} {t : TA} (h : t σ H fun vs H1 => sp (vs ++ dvs) H1 Q E) : tCall sp dvs E t σ H Q := h
theorem g_meth {C : Addr} {m : Str} {sp : Sp} {dvs : List V} {E : XK} {t : TA} (h : ta σ H fun x H1 => ∃ a dx fs, x = .ref a ∧ H1 a = some (.ins C dx fs) ∧ fs.lookup m = none ∧ t σ H1 fun vs H2 => sp (x :: (vs ++ dvs)) H2 Q E) : tMeth C m sp dvs E ta t σ H Q := h
theorem g_meth' {C a dx : Addr} {m : Str} {fs : List (Str × V)} {R : Hp → Prop} (e : H a = some (.ins C dx fs)) (l : fs.lookup m = none) (h : R H) : ∃ a' dx fs, V.ref a = .ref a' ∧ H a' = some (.ins C dx fs) ∧ fs.lookup m = none ∧ R H := ⟨a, dx, fs, rfl, e, l, h⟩
theorem g_make {C : Addr} {sp : Sp} {dvs : List V} {E : XK} {t : TA} (h : t σ H fun vs H1 => ∀ x dx H', H1 x = none → Ext [] H1 H' → H' x = some (.ins C dx []) → sp (.ref x :: (vs ++ dvs)) H' (fun v H2 => v = .non ∧ Q (.ref x) H2) E) : tMakeX C sp dvs E t σ H Q := h
theorem g_appd {te : TE} {t : TA} {r : V → List V → Hp → VK → Prop} {T : String} (h : te σ H fun x H1 => tyV K T x H1 ∧ t σ H1 fun xs H2 => r x xs H2 Q) : tBM K T r te t σ H Q := h
theorem g_bm0 {te : TE} {r : V → List V → Hp → VK → Prop} {T : String} (h : te σ H fun x H1 => tyV K T x H1 ∧ r x [] H1 Q) : tBM0 K T r te σ H Q := h
theorem g_tyL {a : Addr} {xs : List V} {R : Prop} (e : SqL K H a xs) (h : R) : tyV K "list" (.ref a) H ∧ R := ⟨.inl ⟨rfl, xs, e⟩, h⟩
theorem g_append {l : Addr} {xs : List V} {y : V} (e : H l = some (.lst xs)) (z : xs.length < sizeLine) (h : ∀ H', Ext [l] H H' → H' l = some (.lst (xs ++ [y])) → Q .non H') : rAppend (.ref l) [y] H Q :=
  ⟨l, xs, y, rfl, rfl, e, z, h _ (Ext.wr e rfl) upd_same⟩
theorem g_par {i j : Nat} {ta : TA} (h : ta σ H fun vs H1 => ∃ v w, vs = [v, w] ∧ D.nx ((σ.set i (some v)).set j (some w)) H1) : tPar i j ta D σ H := h
theorem g_par' {x y : V} {R : V → V → Prop} (h : R x y) : ∃ v w, [x, y] = [v, w] ∧ R v w := ⟨x, y, rfl, h⟩
theorem g_gtup {n : Nat} {tg : TGs} {a : Addr} {xs : List V} {R : St → Hp → Prop} (e : SqT K H a xs) (l : xs.length = n) (h : tg xs σ H R) : gTup K n tg (.ref a) σ H R := ⟨a, xs, rfl, e, l, h⟩
theorem g_gcons {t1 : TG} {tr : TGs} {x : V} {xs : List V} {R : St → Hp → Prop} (h : t1 x σ H fun σ' H' => tr xs σ' H' R) : gCons t1 tr (x :: xs) σ H R := ⟨x, xs, rfl, h⟩
theorem g_gnil {R : St → Hp → Prop} (h : R σ H) : gNil [] σ H R := ⟨rfl, h⟩
theorem g_aug {i : Nat} {ti : TIp} (e : σ[i]? = some (some v)) (h : te σ H fun y H1 => ti v y H1 fun z H2 => D.nx (σ.set i (some z)) H2) : tAug i te ti D σ H := ⟨v, e, h⟩
theorem g_listL {a : Addr} {xs : List V} (e : SqL K H a xs) (h : NewO H (.lst xs) fun p H' => Q (.ref p) H') : rListX K [.ref a] H Q := ⟨xs, .inl e, h⟩
theorem g_listT {a : Addr} {xs : List V} (e : SqT K H a xs) (h : NewO H (.lst xs) fun p H' => Q (.ref p) H') : rListX K [.ref a] H Q := ⟨xs, .inr e, h⟩
theorem g_tupL {a : Addr} {xs : List V} (e : SqL K H a xs) (h : NewO H (.tup xs) fun p H' => Q (.ref p) H') : rTupX K [.ref a] H Q := .inl ⟨xs, e, h⟩
theorem g_tupT {a : Addr} {xs : List V} (e : SqT K H a xs) (h : Q (.ref a) H) : rTupX K [.ref a] H Q := .inr ⟨xs, e, h⟩
theorem g_lenL {a : Addr} {xs : List V} (e : SqL K H a xs) (h : Q (.int xs.length) H) : rLenX K [.ref a] H Q := .inl ⟨xs, .inl e, h⟩
theorem g_lenT {a : Addr} {xs : List V} (e : SqT K H a xs) (h : Q (.int xs.length) H) : rLenX K [.ref a] H Q := .inl ⟨xs, .inr e, h⟩
theorem g_lenD {a : Addr} {kvs : List (Key × V)} (e : H a = some (.dK kvs)) (h : Q (.int kvs.length) H) : rLenX K [.ref a] H Q := .inr ⟨kvs, e, h⟩
theorem g_lenS {z : Str} (e : z.length ≤ sizeLine) (h : Q (.int z.length) H) : rLenX K [.str z] H Q := ⟨e, h⟩
theorem g_truL {a : Addr} {xs : List V} {R : Bool → Prop} (e : SqL K H a xs) (h : R (!xs.isEmpty)) : ∃ k, TruV K (.ref a) H k ∧ R k := ⟨_, .inl ⟨xs, e, rfl⟩, h⟩
theorem g_truT {a : Addr} {xs : List V} {R : Bool → Prop} (e : SqT K H a xs) (h : R (!xs.isEmpty)) : ∃ k, TruV K (.ref a) H k ∧ R k := ⟨_, .inr (.inl ⟨xs, e, rfl⟩), h⟩
theorem g_truD {a : Addr} {kvs : List (Key × V)} {R : Bool → Prop} (e : H a = some (.dK kvs)) (h : R (!kvs.isEmpty)) : ∃ k, TruV K (.ref a) H k ∧ R k := ⟨_, .inr (.inr ⟨kvs, e, rfl⟩), h⟩
theorem g_truBl {b : Bool} {R : Bool → Prop} (h : R b) : ∃ k, TruV K (.bl b) H k ∧ R k := ⟨b, rfl, h⟩
theorem g_truI {i : Int} {R : Bool → Prop} (h : R (i != 0)) : ∃ k, TruV K (.int i) H k ∧ R k := ⟨_, rfl, h⟩
theorem g_truN {R : Bool → Prop} (h : R false) : ∃ k, TruV K .non H k ∧ R k := ⟨_, rfl, h⟩
theorem g_for {wi : TI} {tb : TS} (h : wi σ H fun J H1 => ForGoal J g tb D σ H1) : tFor wi g tb D σ H := h
theorem g_lc {wi : TI} {tt : TT} {vs : List Nat} (h : wi σ H fun J H1 => LcGoal J g tt te vs σ H1 Q) : tLc wi g tt te vs σ H Q := h
theorem g_stE (h : te σ H Q) : stE te σ H Q := ⟨Q, h, fun _ _ z => z⟩
theorem g_stG {R : L2.St → Hp → Prop} (h : g v σ H R) : stG g v σ H R := ⟨R, h, fun _ _ z => z⟩
theorem g_stT {tt : TT} {R : Bool → Hp → Prop} (h : tt σ H R) : stT tt σ H R := ⟨R, h, fun _ _ z => z⟩
theorem g_yes {R : Bool → Hp → Prop} (h : R true H) : tYes σ H R := h
theorem g_iList {tl : TE} {R : It → Hp → Prop} (h : tl σ H fun x H1 => ∃ a, x = .ref a ∧ (∃ xs, SqL K H1 a xs) ∧ R (Itl K a) H1) : iList K tl σ H R := h
theorem g_iTup {tl : TE} {R : It → Hp → Prop} (h : tl σ H fun x H1 => ∃ a, x = .ref a ∧ (∃ xs, SqT K H1 a xs) ∧ R (Itt K a) H1) : iTup K tl σ H R := h
theorem g_iR1 {t : TA} {R : It → Hp → Prop} (h : t σ H fun vs H1 => ∃ j : Int, vs = [.int j] ∧ -(2 ^ 62) ≤ j ∧ j < 2 ^ 62 ∧ R (Itr 0 j.toNat) H1) : iRng1 t σ H R := h
theorem g_iR2 {t : TA} {R : It → Hp → Prop} (h : t σ H fun vs H1 => ∃ i j : Int, vs = [.int i, .int j] ∧ (-(2 ^ 62) ≤ i ∧ i < 2 ^ 62 ∧ -(2 ^ 62) ≤ j ∧ j < 2 ^ 62) ∧ R (Itr i (j - i).toNat) H1) : iRng2 t σ H R := h
theorem g_iR3 {t : TA} {R : It → Hp → Prop} (h : t σ H fun vs H1 => ∃ (i j c : Int) (n : Nat), vs = [.int i, .int j, .int c] ∧ RgC i j c n ∧ R (Itc i c n) H1) : iRng3 t σ H R := h
theorem g_itLf {tb : TS} {a : Addr} {xs : List V} (e : SqL K H a xs) (h : ForGoal (Itl K a) g tb D σ H) : ∃ a', V.ref a = .ref a' ∧ (∃ xs, SqL K H a' xs) ∧ ForGoal (Itl K a') g tb D σ H := ⟨a, rfl, ⟨xs, e⟩, h⟩
theorem g_itTf {tb : TS} {a : Addr} {xs : List V} (e : SqT K H a xs) (h : ForGoal (Itt K a) g tb D σ H) : ∃ a', V.ref a = .ref a' ∧ (∃ xs, SqT K H a' xs) ∧ ForGoal (Itt K a') g tb D σ H := ⟨a, rfl, ⟨xs, e⟩, h⟩
theorem g_itLl {tt : TT} {vs : List Nat} {a : Addr} {xs : List V} (e : SqL K H a xs) (h : LcGoal (Itl K a) g tt te vs σ H Q) : ∃ a', V.ref a = .ref a' ∧ (∃ xs, SqL K H a' xs) ∧ LcGoal (Itl K a') g tt te vs σ H Q := ⟨a, rfl, ⟨xs, e⟩, h⟩
theorem g_itTl {tt : TT} {vs : List Nat} {a : Addr} {xs : List V} (e : SqT K H a xs) (h : LcGoal (Itt K a) g tt te vs σ H Q) : ∃ a', V.ref a = .ref a' ∧ (∃ xs, SqT K H a' xs) ∧ LcGoal (Itt K a') g tt te vs σ H Q := ⟨a, rfl, ⟨xs, e⟩, h⟩
theorem g_itR1f {tb : TS} {j : Int} (h1 : -(2 ^ 62) ≤ j) (h2 : j < 2 ^ 62) (h : ForGoal (Itr 0 j.toNat) g tb D σ H) : ∃ j' : Int, [V.int j] = [.int j'] ∧ -(2 ^ 62) ≤ j' ∧ j' < 2 ^ 62 ∧ ForGoal (Itr 0 j'.toNat) g tb D σ H := ⟨j, rfl, h1, h2, h⟩
theorem g_itR1l {tt : TT} {vs : List Nat} {j : Int} (h1 : -(2 ^ 62) ≤ j) (h2 : j < 2 ^ 62) (h : LcGoal (Itr 0 j.toNat) g tt te vs σ H Q) : ∃ j' : Int, [V.int j] = [.int j'] ∧ -(2 ^ 62) ≤ j' ∧ j' < 2 ^ 62 ∧ LcGoal (Itr 0 j'.toNat) g tt te vs σ H Q := ⟨j, rfl, h1, h2, h⟩
theorem g_itR2f {tb : TS} {i j : Int} (h1 : -(2 ^ 62) ≤ i ∧ i < 2 ^ 62 ∧ -(2 ^ 62) ≤ j ∧ j < 2 ^ 62) (h : ForGoal (Itr i (j - i).toNat) g tb D σ H) : ∃ i' j' : Int, [V.int i, V.int j] = [.int i', .int j'] ∧ (-(2 ^ 62) ≤ i' ∧ i' < 2 ^ 62 ∧ -(2 ^ 62) ≤ j' ∧ j' < 2 ^ 62) ∧ ForGoal (Itr i' (j' - i').toNat) g tb D σ H := ⟨i, j, rfl, h1, h⟩
theorem g_itR2l {tt : TT} {vs : List Nat} {i j : Int} (h1 : -(2 ^ 62) ≤ i ∧ i < 2 ^ 62 ∧ -(2 ^ 62) ≤ j ∧ j < 2 ^ 62) (h : LcGoal (Itr i (j - i).toNat) g tt te vs σ H Q) : ∃ i' j' : Int, [V.int i, V.int j] = [.int i', .int j'] ∧ (-(2 ^ 62) ≤ i' ∧ i' < 2 ^ 62 ∧ -(2 ^ 62) ≤ j' ∧ j' < 2 ^ 62) ∧ LcGoal (Itr i' (j' - i').toNat) g tt te vs σ H Q := ⟨i, j, rfl, h1, h⟩
theorem g_itR3f {tb : TS} {i j c : Int} {n : Nat} (r : RgC i j c n) (h : ForGoal (Itc i c n) g tb D σ H) : ∃ (i' j' c' : Int) (n' : Nat), [V.int i, V.int j, V.int c] = [.int i', .int j', .int c'] ∧ RgC i' j' c' n' ∧ ForGoal (Itc i' c' n') g tb D σ H := ⟨i, j, c, n, rfl, r, h⟩
theorem g_itR3l {tt : TT} {vs : List Nat} {i j c : Int} {n : Nat} (r : RgC i j c n) (h : LcGoal (Itc i c n) g tt te vs σ H Q) : ∃ (i' j' c' : Int) (n' : Nat), [V.int i, V.int j, V.int c] = [.int i', .int j', .int c'] ∧ RgC i' j' c' n' ∧ LcGoal (Itc i' c' n') g tt te vs σ H Q := ⟨i, j, c, n, rfl, r, h⟩
theorem g_forL {tb : TS} {a : Addr} (xs : List V) (_ : SqL K H a xs) (Pv : Nat → L2.St → Hp → Prop) (h0 : Pv 0 σ H) (hl : ∀ i σ H, i ≤ xs.length → Pv i σ H → SqL K H a xs)
    (hs : ∀ i x σ H, xs[i]? = some x → Pv i σ H → g x σ H fun σ2 H2 => tb { D with nx := Pv (i + 1), ct := Pv (i + 1), bk := D.nx } σ2 H2) (hd : ∀ σ H, Pv xs.length σ H → D.nx σ H) : ForGoal (Itl K a) g tb D σ H := for_list Pv h0 hl hs hd
theorem g_forT {tb : TS} {a : Addr} (xs : List V) (Pv : Nat → L2.St → Hp → Prop) (h0 : Pv 0 σ H) (hl : ∀ i σ H, i ≤ xs.length → Pv i σ H → SqT K H a xs)
    (hs : ∀ i x σ H, xs[i]? = some x → Pv i σ H → g x σ H fun σ2 H2 => tb { D with nx := Pv (i + 1), ct := Pv (i + 1), bk := D.nx } σ2 H2) (hd : ∀ σ H, Pv xs.length σ H → D.nx σ H) : ForGoal (Itt K a) g tb D σ H := for_tup Pv h0 hl hs hd
theorem g_forR {tb : TS} {lo : Int} {n : Nat} (Pv : Nat → L2.St → Hp → Prop) (h0 : Pv 0 σ H)
    (hs : ∀ i σ H, i < n → Pv i σ H → g (.int (lo + i)) σ H fun σ2 H2 => tb { D with nx := Pv (i + 1), ct := Pv (i + 1), bk := D.nx } σ2 H2) (hd : ∀ σ H, Pv n σ H → D.nx σ H) : ForGoal (Itr lo n) g tb D σ H := for_range Pv h0 hs hd
end
theorem lk_hd {f : Str} {v : V} {r : List (Str × V)} : List.lookup f ((f, v) :: r) = some v := by simp [List.lookup]
theorem lk_tl {f g : Str} {v : V} {r : List (Str × V)} {o : Option V} (n : (f == g) = false) (h : List.lookup f r = o) : List.lookup f ((g, v) :: r) = o := by simp only [List.lookup, n]; exact h
theorem lk_nil {f : Str} : List.lookup f ([] : List (Str × V)) = none := rfl
theorem pf_nil {f : Str} {v : V} : putF f v [] = [(f, v)] := rfl
theorem pf_hd {f : Str} {v x : V} {r : List (Str × V)} : putF f v ((f, x) :: r) = (f, v) :: r := by simp [putF]
theorem pf_tl {f g : Str} {v x : V} {r r' : List (Str × V)} (n : (f == g) = false) (h : putF f v r = r') : putF f v ((g, x) :: r) = (g, x) :: r' := by
  have e : ¬ g = f := fun q => by rw [q, beq_self_eq_true] at n; cases n
  simp only [putF, if_neg e, h]
theorem ix_at {α : Type} {xs : List α} {i : Int} {v : α} (h : 0 ≤ i) (e : xs[i.toNat]? = some v) : atI xs i = some v := by
  have z : ((i.toNat : Nat) : Int) = i := Int.toNat_of_nonneg h
  rw [← z]; exact atI_nat e
theorem lt1000 {n : Nat} (h : Nat.blt n 1000 = true := by rfl) : n < 1000 := by
  have := Nat.le_of_ble_eq_true h
  omega
theorem leLine {n : Nat} (h : Nat.ble n 1000 = true := by rfl) : n ≤ sizeLine := Nat.le_trans (Nat.le_of_ble_eq_true h) (by decide)
/-! ### the stepping tactics, under names of our own -/
local macro_rules | `(tactic| walk_at "eo mem") => `(tactic| first | with_reducible exact List.mem_cons_self | ((with_reducible apply List.mem_cons_of_mem); walk_at "eo mem"))
local macro_rules | `(tactic| walk_at "eo lk") => `(tactic| first | with_reducible exact lk_hd | with_reducible exact lk_nil | ((with_reducible apply lk_tl); (decide +kernel); (walk_at "eo lk")))
local macro_rules | `(tactic| walk_at "eo pf") => `(tactic| first | with_reducible exact pf_hd | with_reducible exact pf_nil | ((with_reducible apply pf_tl); (decide +kernel); (walk_at "eo pf")))
local macro_rules | `(tactic| walk_at "eo fact") => `(tactic| first | with_reducible assumption | ((with_reducible apply Ext.keep); (with_reducible assumption); (walk_at "eo fact"); (walk_at "eo nin")))
local macro_rules | `(tactic| walk_at "eo nin") => `(tactic| first | with_reducible exact nin0 | ((with_reducible apply nin1); walk_at "eo ne") | ((with_reducible apply ninC); (walk_at "eo ne"); (walk_at "eo nin")) | with_reducible assumption)
local macro_rules | `(tactic| walk_at "eo ne") => `(tactic| first
  | with_reducible assumption
  | ((with_reducible apply Ne.symm); with_reducible assumption)
  | walk_at "eo ne2")
local macro_rules | `(tactic| walk_at "eo ne2") => `(tactic| first
  | ((with_reducible apply ne_of_none); rotate_left 1; (with_reducible assumption); (walk_at "eo fact"))
  | ((with_reducible apply Ne.symm); (with_reducible apply ne_of_none); rotate_left 1; (with_reducible assumption); (walk_at "eo fact"))
  | ((with_reducible apply ne_of); (with_reducible assumption); (walk_at "eo fact"); ((intro z; cases z)))
  | ((with_reducible apply Ne.symm); (with_reducible apply ne_of); (with_reducible assumption); (walk_at "eo fact"); ((intro z; cases z))))
local macro_rules | `(tactic| walk_at "eo sqT") => `(tactic| first | with_reducible assumption | ((with_reducible apply SqT.of); with_reducible assumption) | ((with_reducible apply sqT_ext); (with_reducible assumption); (walk_at "eo sqT")))
local macro_rules | `(tactic| walk_at "eo sqL") => `(tactic| first | with_reducible assumption | ((with_reducible apply SqL.of); with_reducible assumption) | ((with_reducible apply sqL_ext); (with_reducible assumption); (walk_at "eo sqL"); (intro _ _; walk_at "eo nin")))
local macro_rules | `(tactic| walk_at "eo at") => `(tactic| first | rfl | assumption | (apply ix_at; (first | omega | assumption); (first | assumption | rfl)))
local macro_rules | `(tactic| walk_at "eo set") => `(tactic| first | ((try simp only [List.set_cons_succ, List.set_cons_zero, Int.reduceToNat, List.length_cons, List.length_nil]); first | done | rfl) | rfl)
local macro_rules | `(tactic| walk_at "eo ext") => `(tactic| first | with_reducible assumption | with_reducible exact Ext.refl _ | ((with_reducible apply Ext.snoc); (with_reducible assumption); (walk_at "eo ext"); (walk_at "eo sub")))
local macro_rules | `(tactic| walk_at "eo sub") => `(tactic| first | with_reducible exact sub0 | ((with_reducible apply sub1); (walk_at "eo mem")) | ((with_reducible apply sub1f); (walk_at "eo free")) | ((with_reducible apply subC); (walk_at "eo mem"); (walk_at "eo sub")) | ((with_reducible apply subCf); (walk_at "eo free"); (walk_at "eo sub")))
local macro_rules | `(tactic| walk_at "eo free") => `(tactic| first | with_reducible assumption | ((with_reducible apply Ext.free); (with_reducible assumption); (walk_at "eo free"); (walk_at "eo nin")))
local macro_rules | `(tactic| walk_at "eo cut") => `(tactic| first | ((apply Eq.trans); (first | exact cut_midL | exact cut_toL | exact cut_fromL | exact cut_negToL (by decide) | exact cut_negFromL (by decide)); ((try simp only [List.take_succ_cons, List.take_zero, List.drop_succ_cons, List.drop_zero, List.length_cons, List.length_nil, Nat.reduceAdd, Nat.reduceSub]); first | done | rfl)) | rfl)
local macro_rules | `(tactic| walk_at "eo len") => `(tactic| first | exact leLine | (rw [sizeLine_eq]; simp only [List.length_append, List.length_cons, List.length_nil, List.length_map, List.length_take]; omega))
local macro_rules | `(tactic| walk_at "eo arith") => `(tactic| first | decide | omega)
local macro_rules | `(tactic| walk_at "eo mul") => `(tactic| first | (refine CMul.left ?_; first | decide | (constructor <;> omega)) | (refine CMul.right ?_; first | decide | (constructor <;> omega)))
local macro_rules | `(tactic| walk_at "eo step") => `(tactic| first
  | ((with_reducible apply g_var); (with_unfolding_all rfl))
  | with_reducible refine g_C ?_
  | with_reducible refine g_cons ?_
  | with_reducible refine g_nil ?_
  | with_reducible refine g_op ?_
  | with_reducible refine g_asg ?_
  | with_reducible refine g_name ?_
  | with_reducible refine g_seq ?_
  | with_reducible refine g_CB ?_
  | with_reducible refine g_bl ?_
  | with_reducible refine g_test ?_
  | with_reducible refine g_rI0 ?_
  | with_reducible refine g_addI ?_
  | ((with_reducible apply g_ixT); (walk_at "eo sqT"); (walk_at "eo at"))
  | ((with_reducible apply g_ixL); (walk_at "eo sqL"); (walk_at "eo at"))
  | ((with_reducible apply g_fld'); (walk_at "eo fact"); (with_reducible assumption); ((with_reducible apply na_of); (with_reducible assumption); (walk_at "eo mem")); (walk_at "eo lk"))
  | with_reducible refine g_fld ?_
  | with_reducible refine g_ret ?_
  | with_reducible refine g_ifS ?_
  | with_reducible refine g_iteIN ?_
  | ((with_reducible apply g_iteDT); (first | with_reducible assumption | decide))
  | ((with_reducible apply g_iteDF); (first | with_reducible assumption | decide))
  | with_reducible refine g_iteT ?_
  | with_reducible refine g_iteF ?_
  | with_reducible refine g_tup ?_
  | ((with_reducible apply g_new); (exact leLine))
  | ((with_reducible refine g_newO ?_); intro _ _ _ _ _)
  | with_reducible refine g_call ?_
  | ((with_reducible apply g_eq); (rfl))
  | with_reducible refine g_and ?_
  | with_reducible refine g_or ?_
  | ((with_reducible apply g_ne); (rfl))
  | ((with_reducible apply g_mulI); (walk_at "eo mul"))
  | ((with_reducible apply g_mod); (walk_at "eo arith"))
  | ((with_reducible apply g_divW); (walk_at "eo arith"); (walk_at "eo arith"))
  | with_reducible refine g_int1 ?_
  | with_reducible refine g_next ?_
  | with_reducible refine g_retN ?_
  | with_reducible refine g_drop ?_
  | with_reducible refine g_if ?_
  | with_reducible refine g_un ?_
  | with_reducible refine g_not ?_
  | with_reducible refine g_chain ?_
  | with_reducible refine g_andV ?_
  | with_reducible refine g_orV ?_
  | with_reducible refine g_notV ?_
  | ((with_reducible apply g_inT); (walk_at "eo sqT"); rfl; rfl)
  | ((with_reducible apply g_inL); (walk_at "eo sqL"); rfl; rfl)
  | ((with_reducible apply g_ninT); (walk_at "eo sqT"); rfl; rfl)
  | ((with_reducible apply g_ninL); (walk_at "eo sqL"); rfl; rfl)
  | with_reducible refine g_lst ?_
  | with_reducible refine g_iaddI ?_
  | ((with_reducible apply g_addT); (walk_at "eo sqT"); (walk_at "eo sqT"); (walk_at "eo len"); intro _ _ _ _)
  | ((with_reducible apply g_addL); (walk_at "eo fact"); (walk_at "eo fact"); (walk_at "eo len"))
  | with_reducible refine g_sl ?_
  | with_reducible refine g_noPart ?_
  | with_reducible refine g_part ?_
  | with_reducible refine g_part' ?_
  | ((with_reducible apply g_slT); (walk_at "eo sqT"); (walk_at "eo cut"); intro _ _ _ _)
  | ((with_reducible apply g_slL); (walk_at "eo sqL"); (walk_at "eo cut"))
  | with_reducible refine g_int1b ?_
  | with_reducible refine g_min2 ?_
  | with_reducible refine g_max2 ?_
  | with_reducible refine g_abs ?_
  | with_reducible refine g_isN' ?_
  | with_reducible refine g_neg ?_
  | with_reducible refine g_sub ?_
  | ((with_reducible apply g_setL); (walk_at "eo fact"); (walk_at "eo at"); (walk_at "eo set"); intro _ _ _)
  | with_reducible refine g_sfld ?_
  | ((with_reducible apply g_sfld'); (walk_at "eo fact"); (with_reducible assumption); ((with_reducible apply na_of); (with_reducible assumption); (walk_at "eo mem")); (exact lt1000); (walk_at "eo pf"); intro _ _ _)
  | with_reducible refine g_sfa ?_
  | ((with_reducible apply g_sfa'); (walk_at "eo fact"); (with_reducible assumption); ((with_reducible apply na_of); (with_reducible assumption); (walk_at "eo mem")); (walk_at "eo lk"))
  | ((with_reducible apply g_sfa''); (walk_at "eo fact"); (exact lt1000); (walk_at "eo pf"); intro _ _ _)
  | with_reducible refine g_meth ?_
  | ((with_reducible apply g_meth'); (walk_at "eo fact"); (walk_at "eo lk"))
  | with_reducible refine g_make ?_
  | ((with_reducible apply g_listL); (walk_at "eo sqL"))
  | ((with_reducible apply g_listT); (walk_at "eo sqT"))
  | ((with_reducible apply g_tupL); (walk_at "eo sqL"))
  | ((with_reducible apply g_tupT); (walk_at "eo sqT"))
  | ((with_reducible apply g_lenL); (walk_at "eo sqL"))
  | ((with_reducible apply g_lenT); (walk_at "eo sqT"))
  | ((with_reducible apply g_lenD); (walk_at "eo fact"))
  | ((with_reducible apply g_truL); (walk_at "eo sqL"))
  | ((with_reducible apply g_truT); (walk_at "eo sqT"))
  | ((with_reducible apply g_truD); (walk_at "eo fact"))
  | with_reducible refine g_truBl ?_
  | with_reducible refine g_truI ?_
  | with_reducible refine g_truN ?_
  | with_reducible refine g_appd ?_
  | with_reducible refine g_bm0 ?_
  | ((with_reducible apply g_tyL); (walk_at "eo sqL"))
  | ((with_reducible apply g_append); (walk_at "eo fact"); (walk_at "eo arith"); intro _ _ _)
  | with_reducible refine g_par ?_
  | with_reducible refine g_par' ?_
  | with_reducible refine g_gcons ?_
  | with_reducible refine g_gnil ?_
  | ((with_reducible apply g_gtup); (walk_at "eo sqT"); (with_unfolding_all rfl))
  | ((with_reducible apply g_aug); (with_unfolding_all rfl))
  | with_reducible refine g_for ?_
  | with_reducible refine g_iList ?_
  | with_reducible refine g_iTup ?_
  | with_reducible refine g_iR1 ?_
  | with_reducible refine g_iR2 ?_
  | with_reducible refine g_iR3 ?_
  | with_reducible refine g_lc ?_
  | with_reducible refine g_stE ?_
  | with_reducible refine g_stG ?_
  | with_reducible refine g_stT ?_
  | with_reducible refine g_yes ?_
  | ((with_reducible apply g_itLf); (walk_at "eo sqL"))
  | ((with_reducible apply g_itTf); (walk_at "eo sqT"))
  | ((with_reducible apply g_itLl); (walk_at "eo sqL"))
  | ((with_reducible apply g_itTl); (walk_at "eo sqT"))
  | ((with_reducible apply g_itR1f); (walk_at "eo arith"); (walk_at "eo arith"))
  | ((with_reducible apply g_itR1l); (walk_at "eo arith"); (walk_at "eo arith"))
  | ((with_reducible apply g_itR2f); (walk_at "eo arith"))
  | ((with_reducible apply g_itR2l); (walk_at "eo arith"))
  | with_reducible refine g_iteRN ?_
  | with_reducible refine g_iteSN ?_
  | with_reducible refine g_iteNIN ?_
  | with_reducible refine g_iteNRN ?_
  | with_reducible refine g_cnt ?_
  | with_reducible refine g_brk ?_)
local macro_rules | `(tactic| walk_at "eo go") => `(tactic| repeat (walk_at "eo step"))
local macro_rules | `(tactic| walk_at "eo init") => `(tactic| (dsimp only [cxOf, Cx.nox, Cx.wish, L2.start, List.map, List.length, List.replicate, List.cons_append, List.nil_append, Nat.reduceAdd, Nat.reduceSub]))
theorem dec_t {p : Prop} [Decidable p] (h : decide p = true) : p := of_decide_eq_true h
theorem dec_f {p : Prop} [Decidable p] (h : decide p = false) : ¬ p := of_decide_eq_false h
theorem vint {i j : Int} (h : V.int i = V.int j) : i = j := V.int.inj h
theorem mem_map_int {xs : List Int} {i : Nat} {x : V} (h : (xs.map V.int)[i]? = some x) : ∃ n, xs[i]? = some n ∧ x = .int n := by
  rw [List.getElem?_map] at h
  cases e : xs[i]? with
  | none => rw [e] at h; cases h
  | some n => rw [e] at h; exact ⟨n, rfl, (Option.some.inj h).symm⟩
theorem o_sorted {X : Cx} (hcalm : X.calm = true) : CallR X (.builtin "sorted") (SortT.rSortDT X.K 2 100) := SortT.cr_sortDT (by decide) hcalm
def top (i : Nat) : Stmt := PySem.Challenge.pw_everyoctetonce_k05_topologies.main.body.getD i (.Pass ⟨0, 0, 0, 0⟩)
abbrev s_InputError_init : Stmt := inClass (top 2) 0
abbrev s_is_number : Stmt := top 4
theorem sc_is_number : FnScope ["value", "least", "most"] ["value", "least", "most"] (defScope s_is_number) := ⟨rfl, rfl, rfl, by decide +kernel, rfl, by decide +kernel, by decide +kernel⟩
abbrev s_check_topology : Stmt := top 10
theorem sc_check_topology : FnScope ["topology", "n", "edges", "a", "b", "cost", "most", "is_pair", "pairs", "_", "pair"] ["topology"] (defScope s_check_topology) := ⟨rfl, rfl, rfl, by decide +kernel, rfl, by decide +kernel, by decide +kernel⟩
abbrev s_neighbours_of : Stmt := top 11
theorem sc_neighbours_of : FnScope ["topology", "node", "found", "a", "b", "cost", "_"] ["topology", "node"] (defScope s_neighbours_of) := ⟨rfl, rfl, rfl, by decide +kernel, rfl, by decide +kernel, by decide +kernel⟩
abbrev s_most_on : Stmt := top 12
theorem sc_most_on : FnScope ["topology", "one", "other", "pair", "a", "b", "_", "most"] ["topology", "one", "other"] (defScope s_most_on) := ⟨rfl, rfl, rfl, by decide +kernel, rfl, by decide +kernel, by decide +kernel⟩
abbrev s_least_costs : Stmt := top 13
theorem sc_least_costs : FnScope ["topology", "node", "down", "n", "edges", "found", "_", "a", "b", "cost", "one", "other", "own"] ["topology", "node", "down"] (defScope s_least_costs) := ⟨rfl, rfl, rfl, by decide +kernel, rfl, by decide +kernel, by decide +kernel⟩
abbrev s_law_begin : Stmt := top 15
theorem sc_law_begin : FnScope ["script", "seed", "cell"] ["script"] (defScope s_law_begin) := ⟨rfl, rfl, rfl, by decide +kernel, rfl, by decide +kernel, by decide +kernel⟩
abbrev s_law_take : Stmt := top 16
theorem sc_law_take : FnScope ["d", "many", "small", "digit"] ["d", "many"] (defScope s_law_take) := ⟨rfl, rfl, rfl, by decide +kernel, rfl, by decide +kernel, by decide +kernel⟩
abbrev s_law_pick : Stmt := top 17
theorem sc_law_pick : FnScope ["d", "menu"] ["d", "menu"] (defScope s_law_pick) := ⟨rfl, rfl, rfl, by decide +kernel, rfl, by decide +kernel, by decide +kernel⟩
abbrev s_law_topology : Stmt := top 18
theorem sc_law_topology : FnScope ["d", "n", "edges", "a", "b"] ["d"] (defScope s_law_topology) := ⟨rfl, rfl, rfl, by decide +kernel, rfl, by decide +kernel, by decide +kernel⟩
abbrev s_law_code : Stmt := top 19
theorem sc_law_code : FnScope ["topology", "fault"] ["topology"] (defScope s_law_code) := ⟨rfl, rfl, rfl, by decide +kernel, rfl, by decide +kernel, by decide +kernel⟩
abbrev s_law : Stmt := top 20
theorem sc_law : FnScope ["script", "d", "topology", "n", "edges", "down", "node", "due", "a", "b", "cost", "most", "costs", "turn", "one", "other", "menu", "bad", "edge"] ["script"] (defScope s_law) := ⟨rfl, rfl, rfl, by decide +kernel, rfl, by decide +kernel, by decide +kernel⟩
structure Adr where
  f_InputError_init : Addr
  d_InputError_init : FuncData
  f_is_number : Addr
  d_is_number : FuncData
  f_check_topology : Addr
  d_check_topology : FuncData
  f_neighbours_of : Addr
  d_neighbours_of : FuncData
  f_most_on : Addr
  d_most_on : FuncData
  f_least_costs : Addr
  d_least_costs : FuncData
  f_law_begin : Addr
  d_law_begin : FuncData
  f_law_take : Addr
  d_law_take : FuncData
  f_law_pick : Addr
  d_law_pick : FuncData
  f_law_topology : Addr
  d_law_topology : FuncData
  f_law_code : Addr
  d_law_code : FuncData
  f_law : Addr
  d_law : FuncData
  c_InputError : Addr
  cc_InputError : Addr
  cd_InputError : Addr
structure Txt (P : Program) (K : PySem.W.Frag) (mg : Str → Option Value) (A : Adr) : Prop where
  x_InputError : ExcT P K mg ⟨"__init__", "InputError.__init__", defArgs s_InputError_init, defBody s_InputError_init, defScope s_InputError_init, [("__class__", A.cc_InputError)], A.cd_InputError⟩ A.f_InputError_init A.cc_InputError A.c_InputError A.d_InputError_init "InputError" ["self", "code"]
  is_number : GF K mg "is_number" s_is_number ["value", "least", "most"] A.f_is_number A.d_is_number
  check_topology : GF K mg "check_topology" s_check_topology ["topology"] A.f_check_topology A.d_check_topology
  neighbours_of : GF K mg "neighbours_of" s_neighbours_of ["topology", "node"] A.f_neighbours_of A.d_neighbours_of
  most_on : GF K mg "most_on" s_most_on ["topology", "one", "other"] A.f_most_on A.d_most_on
  least_costs : GF K mg "least_costs" s_least_costs ["topology", "node", "down"] A.f_least_costs A.d_least_costs
  law_begin : GF K mg "_law_begin" s_law_begin ["script"] A.f_law_begin A.d_law_begin
  law_take : GF K mg "_law_take" s_law_take ["d", "many"] A.f_law_take A.d_law_take
  law_pick : GF K mg "_law_pick" s_law_pick ["d", "menu"] A.f_law_pick A.d_law_pick
  law_topology : GF K mg "_law_topology" s_law_topology ["d"] A.f_law_topology A.d_law_topology
  law_code : GF K mg "_law_code" s_law_code ["topology"] A.f_law_code A.d_law_code
  law : GF K mg "law" s_law ["script"] A.f_law A.d_law
  b_super : mg "super" = none
  b_isinstance : mg "isinstance" = none
  b_int : mg "int" = none
  b_bool : mg "bool" = none
  b_sorted : mg "sorted" = none
  b_min : mg "min" = none
  b_max : mg "max" = none
  b_range : mg "range" = none
  b_tuple : mg "tuple" = none
  b_list : mg "list" = none
  b_len : mg "len" = none
  b_abs : mg "abs" = none
  g_MOST_NODES : GV K mg "MOST_NODES" (.int 8)
  g_MOST_COST : GV K mg "MOST_COST" (.int 7)
  g_LEAST_BODY : GV K mg "LEAST_BODY" (.int 16)
  g_MOST_BODY : GV K mg "MOST_BODY" (.int 512)
/-! ### the law's own draws -/
/-- d holds the script's ints (a list at s), a place, what is left of a number, a seed -/
def DSt (H : Hp) (d s : Addr) : Prop := d ≠ s ∧ ∃ (ns : List Int) (pos cur seed : Int), H d = some (.lst [.ref s, .int pos, .int cur, .int seed]) ∧ H s = some (.lst (ns.map V.int)) ∧ ns.length ≤ 63 ∧ 0 ≤ pos ∧ 0 ≤ cur
theorem DSt.ext {A : List Addr} {H H' : Hp} {d s : Addr} (e : Ext A H H') (h : DSt H d s) (n1 : d ∉ A) (n2 : s ∉ A) : DSt H' d s := by
  obtain ⟨ne, ns, pos, cur, seed, h1, h2, h3⟩ := h
  exact ⟨ne, ns, pos, cur, seed, e.keep _ _ h1 n1, e.keep _ _ h2 n2, h3⟩
def spBegin (K : PySem.W.Frag) : Sp := fun vs H Q _ => ∃ (a : Addr) (ns : List Int), vs = [.ref a] ∧ SqL K H a (ns.map V.int) ∧ ns.length ≤ 63 ∧ ∀ d s H', H d = none → H s = none → Ext [] H H' → DSt H' d s → Q (.ref d) H'
def spTake : Sp := fun vs H Q _ => ∃ (d s : Addr) (many : Int), vs = [.ref d, .int many] ∧ DSt H d s ∧ 0 < many ∧ many < 2 ^ 64 ∧ ∀ k H', 0 ≤ k → k < many → Ext [d] H H' → DSt H' d s → Q (.int k) H'
def spPick (K : PySem.W.Frag) : Sp := fun vs H Q _ => ∃ (d s m : Addr) (xs : List V), vs = [.ref d, .ref m] ∧ DSt H d s ∧ SqL K H m xs ∧ m ≠ d ∧ 0 < xs.length ∧ xs.length < 1000 ∧ ∀ v H', v ∈ xs → Ext [d] H H' → DSt H' d s → Q v H'
def spLaw (K : PySem.W.Frag) : Sp := fun vs H Q _ => ∃ (a : Addr) (ns : List Int), vs = [.ref a] ∧ SqL K H a (ns.map V.int) ∧ ns.length ≤ 63 ∧ ∀ H', Q (.bl true) H'
theorem ne_dst1 {H : Hp} {d s x : Addr} (n : H x = none) (h : DSt H d s) : d ≠ x := by
  obtain ⟨_, _, _, _, _, h1, _⟩ := h
  exact ne_of_none h1 n
theorem ne_dst2 {H : Hp} {d s x : Addr} (n : H x = none) (h : DSt H d s) : s ≠ x := by
  obtain ⟨_, _, _, _, _, _, h1, _⟩ := h
  exact ne_of_none h1 n
local macro_rules | `(tactic| walk_at "eo dst") => `(tactic| first | with_reducible assumption | ((with_reducible apply DSt.ext); (with_reducible assumption); (walk_at "eo dst"); (walk_at "eo nin"); (walk_at "eo nin")))
local macro_rules | `(tactic| walk_at "eo ne2") => `(tactic| first
  | ((with_reducible apply ne_dst1); (with_reducible assumption); (walk_at "eo dst"))
  | ((with_reducible apply ne_dst2); (with_reducible assumption); (walk_at "eo dst"))
  | ((with_reducible apply Ne.symm); (with_reducible apply ne_dst1); (with_reducible assumption); (walk_at "eo dst"))
  | ((with_reducible apply Ne.symm); (with_reducible apply ne_dst2); (with_reducible assumption); (walk_at "eo dst")))
/-! ### nested data, by what they are -/
def Shp (d : PyData) (k : Nat) : Prop := d.canLay0 = true ∧ d.depth ≤ k
def ShpAll (ds : List PyData) (k : Nat) : Prop := PyData.canLayAll0 ds = true ∧ PyData.depthAll ds ≤ k
theorem shp_int {i : Int} {k : Nat} : Shp (.int i) k := ⟨rfl, Nat.zero_le _⟩
theorem shp_non {k : Nat} : Shp .none k := ⟨rfl, Nat.zero_le _⟩
theorem shp_bl {b : Bool} {k : Nat} : Shp (.bool b) k := ⟨rfl, Nat.zero_le _⟩
theorem shp_nil {k : Nat} : ShpAll [] k := ⟨rfl, Nat.zero_le _⟩
theorem shp_cons {d : PyData} {ds : List PyData} {k : Nat} (h : Shp d k) (t : ShpAll ds k) : ShpAll (d :: ds) k := by
  refine ⟨?_, ?_⟩
  · rw [PyData.canLayAll0, h.1, t.1]; rfl
  · rw [PyData.depthAll]; exact Nat.max_le.mpr ⟨h.2, t.2⟩
theorem shp_tup {ds : List PyData} {k : Nat} (h : ShpAll ds k) : Shp (.tuple ds) (k + 1) := by
  refine ⟨?_, ?_⟩
  · rw [PyData.canLay0]; exact h.1
  · rw [PyData.depth]
    have := h.2
    omega
theorem shp_ints {k : Nat} : ∀ ns : List Int, ShpAll (ns.map PyData.int) k
  | [] => shp_nil
  | _ :: r => shp_cons shp_int (shp_ints r)
theorem shp_app {k : Nat} : ∀ {ds es : List PyData}, ShpAll ds k → ShpAll es k → ShpAll (ds ++ es) k
  | [], _, _, h => h
  | d :: ds, es, h, g => by
    have h1 := h.1
    have h2 := h.2
    rw [PyData.canLayAll0, Bool.and_eq_true] at h1
    rw [PyData.depthAll] at h2
    have h3 := Nat.max_le.mp h2
    exact shp_cons ⟨h1.1, h3.1⟩ (shp_app ⟨h1.2, h3.2⟩ g)
theorem Shp.shaped {d : PyData} {k : Nat} (h : Shp d k) (l : k ≤ 64) : SeqAt.shaped d = true := by
  unfold SeqAt.shaped
  rw [h.1, decide_eq_true (Nat.le_trans h.2 l)]
  rfl
theorem dp_ints {K : PySem.W.Frag} {H : Hp} : ∀ ns : List Int, DpAll K H (ns.map V.int) (ns.map PyData.int)
  | [] => .nil
  | n :: r => .cons (.int n) (dp_ints r)
theorem dp_app {K : PySem.W.Frag} {H : Hp} : ∀ {xs ys : List V} {ds es : List PyData}, DpAll K H xs ds → DpAll K H ys es → DpAll K H (xs ++ ys) (ds ++ es)
  | _, _, _, _, .nil, h => h
  | _, _, _, _, .cons a t, h => .cons a (dp_app t h)
section
variable {K : PySem.W.Frag} {H : Hp} {Q : VK} {x y : V} {d e : PyData} {k : Nat}
theorem g_eqD (hx : Dp K H x d) (hy : Dp K H y e) (hs : Shp d 8) (he : d = e) (h : Q (.bl true) H) : rEqX K x y H Q := by
  subst he
  refine .inr ⟨d, d, hx, hy, hs.shaped (by decide), hs.shaped (by decide), ?_⟩
  rw [SeqAt.eqv_refl d hs.1]
  exact h
theorem g_neD (hx : Dp K H x d) (hy : Dp K H y e) (hs : Shp d 8) (he : d = e) (h : Q (.bl false) H) : rNeX K x y H Q := by
  subst he
  refine .inr ⟨d, d, hx, hy, hs.shaped (by decide), hs.shaped (by decide), ?_⟩
  rw [SeqAt.eqv_refl d hs.1]
  exact h
end
local macro_rules | `(tactic| walk_at "eo dp") => `(tactic| first | with_reducible exact Dp.int _ | with_reducible exact Dp.non | with_reducible exact Dp.bl _ | with_reducible exact Dp.str _ | with_reducible assumption | ((with_reducible apply Dp.tup); (walk_at "eo sqT"); (walk_at "eo dps")))
local macro_rules | `(tactic| walk_at "eo dps") => `(tactic| first | with_reducible exact DpAll.nil | with_reducible exact dp_ints _ | ((with_reducible apply dp_app); (walk_at "eo dps"); (walk_at "eo dps")) | ((with_reducible apply DpAll.cons); (walk_at "eo dp"); (walk_at "eo dps")))
local macro_rules | `(tactic| walk_at "eo shp") => `(tactic| first | with_reducible exact shp_int | with_reducible exact shp_non | with_reducible exact shp_bl | (apply shp_tup; (walk_at "eo shps")))
local macro_rules | `(tactic| walk_at "eo shps") => `(tactic| first | with_reducible exact shp_nil | with_reducible exact shp_ints _ | ((with_reducible apply shp_app); (walk_at "eo shps"); (walk_at "eo shps")) | ((with_reducible apply shp_cons); (walk_at "eo shp"); (walk_at "eo shps")))
local macro_rules | `(tactic| walk_at "eo step") => `(tactic| first
  | ((with_reducible apply g_neD); (walk_at "eo dp"); (walk_at "eo dp"); (walk_at "eo shp"); rfl)
  | ((with_reducible apply g_eqD); (walk_at "eo dp"); (walk_at "eo dp"); (walk_at "eo shp"); rfl))
/-! ### dicts with int or text keys -/
theorem u1 {n : Nat} (h : n + 64 < cLine) : n + 1 < cLine := by omega
theorem u0 {n : Nat} (h : n + 64 < cLine) : n < cLine := by omega
section
variable {K : PySem.W.Frag} {σ : St} {H : Hp} {Q : VK} {D : Ends} {td ty tv : TE} {a : Addr} {kvs : List (Key × V)} {v : V}
theorem g_dget (h : td σ H fun x H1 => ty σ H1 fun y H2 => ∃ a v, x = .ref a ∧ DGet H2 a y (some v) ∧ Q v H2) : tDGet td ty σ H Q := h
theorem g_dgetI {i : Int} (e : H a = some (.dK kvs)) (l : valV kvs (.inl i) = some v) (h : Q v H) : ∃ a' v, V.ref a = .ref a' ∧ DGet H a' (.int i) (some v) ∧ Q v H := ⟨a, v, rfl, l ▸ DGet.k (k := .inl i) e, h⟩
theorem g_dgetS {i : Str} (e : H a = some (.dK kvs)) (l : valV kvs (.inr i) = some v) (h : Q v H) : ∃ a' v, V.ref a = .ref a' ∧ DGet H a' (.str i) (some v) ∧ Q v H := ⟨a, v, rfl, l ▸ DGet.k (k := .inr i) e, h⟩
theorem g_din (h : ty σ H fun y H1 => td σ H1 fun x H2 => ∃ a o, x = .ref a ∧ DGet H2 a y o ∧ Q (.bl o.isSome) H2) : tDIn ty td σ H Q := h
theorem g_dnin (h : ty σ H fun y H1 => td σ H1 fun x H2 => ∃ a o, x = .ref a ∧ DGet H2 a y o ∧ Q (.bl (!o.isSome)) H2) : tDNotIn ty td σ H Q := h
theorem g_dinI {i : Int} {R : Option V → Prop} (e : H a = some (.dK kvs)) (h : R (valV kvs (.inl i))) : ∃ a' o, V.ref a = .ref a' ∧ DGet H a' (.int i) o ∧ R o := ⟨a, _, rfl, DGet.k (k := .inl i) e, h⟩
theorem g_dinS {i : Str} {R : Option V → Prop} (e : H a = some (.dK kvs)) (h : R (valV kvs (.inr i))) : ∃ a' o, V.ref a = .ref a' ∧ DGet H a' (.str i) o ∧ R o := ⟨a, _, rfl, DGet.k (k := .inr i) e, h⟩
theorem g_dput (h : tv σ H fun v H1 => td σ H1 fun x H2 => ty σ H2 fun y H3 => ∃ a H4, x = .ref a ∧ DPut H3 a y v H4 ∧ D.nx σ H4) : sDPut td ty tv D σ H := h
theorem g_dputI {i : Int} {R : Hp → Prop} (e : H a = some (.dK kvs)) (l : kvs.length < 1000) (h : ∀ H', Ext [a] H H' → H' a = some (.dK (putK kvs (.inl i) v)) → R H') : ∃ a' H4, V.ref a = .ref a' ∧ DPut H a' (.int i) v H4 ∧ R H4 :=
  ⟨a, _, rfl, DPut.k (k := .inl i) e (by rw [sizeLine_eq]; omega), h _ (Ext.wr e rfl) upd_same⟩
theorem g_daug {rd : V → V → Hp → VK → Prop} (h : td σ H fun x H1 => ty σ H1 fun y H2 => ∃ a v, x = .ref a ∧ DGet H2 a y (some v) ∧ tv σ H2 fun y2 H3 => rd v y2 H3 fun z H4 => ∃ H5, DPut H4 a y z H5 ∧ D.nx σ H5) : sDAug td ty tv rd D σ H := h
theorem g_daugI {i : Int} {R : Addr → V → Prop} (e : H a = some (.dK kvs)) (l : valV kvs (.inl i) = some v) (h : R a v) : ∃ a' v, V.ref a = .ref a' ∧ DGet H a' (.int i) (some v) ∧ R a' v := ⟨a, v, rfl, l ▸ DGet.k (k := .inl i) e, h⟩
theorem g_daugI' {i : Int} {R : Hp → Prop} (e : H a = some (.dK kvs)) (l : kvs.length < 1000) (h : ∀ H', Ext [a] H H' → H' a = some (.dK (putK kvs (.inl i) v)) → R H') : ∃ H5, DPut H a (.int i) v H5 ∧ R H5 :=
  ⟨_, DPut.k (k := .inl i) e (by rw [sizeLine_eq]; omega), h _ (Ext.wr e rfl) upd_same⟩
theorem g_dnew {R : V → Hp → Prop} (h : NewO H (.dK []) fun p H' => R (.ref p) H') : tDNewK σ H R := fun p hp => h p _ hp (Ext.new hp) upd_same
end
section
variable {K : PySem.W.Frag} {σ : St} {H : Hp} {te : TE} {D : Ends}
theorem g_tB {R : Bool → Hp → Prop} (h : te σ H fun x H1 => ∃ c, x = .bl c ∧ R c H1) : tB te σ H R := h
end
local macro_rules | `(tactic| walk_at "eo kl") => `(tactic| first | with_reducible assumption | omega | exact lt1000)
local macro_rules | `(tactic| walk_at "eo step") => `(tactic| first
  | with_reducible refine g_dget ?_
  | ((with_reducible apply g_dgetI); (walk_at "eo fact"); (with_reducible assumption))
  | ((with_reducible apply g_dgetS); (walk_at "eo fact"); (with_reducible assumption))
  | with_reducible refine g_din ?_
  | with_reducible refine g_dnin ?_
  | ((with_reducible apply g_dinI); (walk_at "eo fact"))
  | ((with_reducible apply g_dinS); (walk_at "eo fact"))
  | with_reducible refine g_dput ?_
  | ((with_reducible apply g_dputI); (walk_at "eo fact"); (walk_at "eo kl"); intro _ _ _)
  | with_reducible refine g_daug ?_
  | ((with_reducible apply g_daugI); (walk_at "eo fact"); (with_reducible assumption))
  | ((with_reducible apply g_daugI'); (walk_at "eo fact"); (walk_at "eo kl"); intro _ _ _)
  | with_reducible refine g_dnew ?_
  | with_reducible refine g_tB ?_)
/-! ### loops, joins, rows of numbers -/
def asgScope (s : Stmt) : Scope := match s with
  | .Assign _ (.ListComp _ _ sc _) _ => sc
  | _ => { kind := .function, names := [], isGenerator := false, isCoroutine := false }
/-- a comprehension's scope within a def whose scope is o -/
def relS (s o : Scope) : Scope := { s with names := s.names.map fun (n, k) => if (k == .free && o.kind == .function && o.names.lookup n == some .cell) then (n, .cell) else (n, k) }
def strB (b : Bool) : Str := if b then "True" else "False"
def rReprB : List V → Hp → VK → Prop := fun xs H Q => ∃ b, xs = [.bl b] ∧ Q (.str (strB b)) H
theorem o_repr {X : Cx} : CallR X (.builtin "repr") rReprB := by
  intro pins s σ H xs us Q I r h
  obtain ⟨b, rfl, q⟩ := h
  obtain ⟨u, rfl, rb⟩ := vals1 r
  cases (show u = Value.bool b from rb)
  exact PySem.P.repr_of_bool ⟨.str (strB b), H, I.tok _, ⟨s.toks, rfl⟩, q⟩
theorem g_repr {b : Bool} {H : Hp} {Q : VK} (h : Q (.str (strB b)) H) : rReprB [.bl b] H Q := ⟨b, rfl, h⟩
section
variable {K : PySem.W.Frag} {σ : St} {H : Hp} {Q : VK} {D : Ends} {t u : TS}
theorem g_join (J : L2.St → Hp → Prop) (h : t { D with nx := J } σ H) (h2 : ∀ σ' H', J σ' H' → u D σ' H') : tJoin t u D σ H := ⟨J, h, h2⟩
theorem g_while {c : TT} (W : Nat → L2.St → Hp → Prop) (m : Nat) (h0 : W m σ H)
    (h : ∀ m σ H, W m σ H → c σ H fun b H1 => if b = true then ∃ N : L2.St → Hp → Prop, (∀ σ' H', N σ' H' → ∃ m', m' < m ∧ W m' σ' H') ∧ t { D with nx := N, ct := N, bk := D.nx } σ H1 else D.nx σ H1) : tWhile c t D σ H := ⟨W, ⟨m, h0⟩, h⟩
theorem g_loop {W : Nat → L2.St → Hp → Prop} {m : Nat} (h : t { D with nx := fun σ' H' => ∃ m', m' < m ∧ W m' σ' H', ct := fun σ' H' => ∃ m', m' < m ∧ W m' σ' H', bk := D.nx } σ H) :
    ∃ N : L2.St → Hp → Prop, (∀ σ' H', N σ' H' → ∃ m', m' < m ∧ W m' σ' H') ∧ t { D with nx := N, ct := N, bk := D.nx } σ H := ⟨_, fun _ _ z => z, h⟩
theorem g_rSub {i j : Int} (h : Q (.int (i - j)) H) : rSub (.int i) (.int j) H Q := ⟨i, j, rfl, rfl, h⟩
theorem cutI {xs : List Int} {y r : Int} (h : 0 ≤ r) : cutV (xs.map V.int ++ [.int y]) none (some r) = ((xs ++ [y]).take r.toNat).map V.int := by
  have e : r = ((r.toNat : Nat) : Int) := (Int.toNat_of_nonneg h).symm
  rw [e, cut_to, List.map_take, List.map_append]
  rfl
theorem inV_int (n : Int) : ∀ ns : List Int, inV (.int n) (ns.map V.int) = decide (n ∈ ns)
  | [] => rfl
  | a :: r => by
    show (eqV (.int a) (.int n) || inV (.int n) (r.map V.int)) = _
    rw [inV_int n r]
    show (decide (a = n) || decide (n ∈ r)) = decide (n ∈ a :: r)
    by_cases c : a = n
    · subst c; simp
    · have c' : ¬ n = a := fun e => c e.symm
      simp [c, c']
theorem flat_ints : ∀ ns : List Int, (ns.map V.int).all flatV = true
  | [] => rfl
  | _ :: r => by simp only [List.map_cons, List.all_cons, flat_ints r, flatV, Bool.and_self]
theorem g_inLI {n : Int} {p : Addr} {ns : List Int} (e : SqL K H p (ns.map V.int)) (h : Q (.bl (decide (n ∈ ns))) H) : rIn K false (.int n) (.ref p) H Q := g_inL e rfl (flat_ints ns) (by rw [inV_int]; exact h)
theorem g_ninLI {n : Int} {p : Addr} {ns : List Int} (e : SqL K H p (ns.map V.int)) (h : Q (.bl (!decide (n ∈ ns))) H) : rIn K true (.int n) (.ref p) H Q := g_ninL e rfl (flat_ints ns) (by rw [inV_int]; exact h)
theorem g_pop0 {l : Addr} {x : V} {xs : List V} (e : H l = some (.lst (x :: xs))) (h : ∀ H', Ext [l] H H' → H' l = some (.lst xs) → Q x H') : rPopAt (.ref l) [.int 0] H Q :=
  ⟨l, x :: xs, 0, 0, x, rfl, rfl, e, by decide, by decide, by simp [seqIndex?], rfl, h _ (Ext.wr e rfl) upd_same⟩
end
local macro_rules | `(tactic| walk_at "eo step") => `(tactic| first
  | ((with_reducible apply g_pop0); (walk_at "eo fact"); (intro _ _ _))
  | ((with_reducible apply g_inLI); (walk_at "eo sqL"))
  | ((with_reducible apply g_ninLI); (walk_at "eo sqL"))
  | with_reducible refine g_rSub ?_
  | with_reducible refine g_repr ?_
  | with_reducible refine g_loop ?_)
/-! ### x in a tuple of nested data -/
def rInDT (K : PySem.W.Frag) : R2 := fun x y H Q => ∃ d ds, Dp K H x d ∧ Dp K H y (.tuple ds) ∧ SeqAt.shaped d = true ∧ SeqAt.shaped (.tuple ds) = true ∧ Q (.bl (ds.any fun z => PyData.eqv z d)) H
def rNotInDT (K : PySem.W.Frag) : R2 := fun x y H Q => ∃ d ds, Dp K H x d ∧ Dp K H y (.tuple ds) ∧ SeqAt.shaped d = true ∧ SeqAt.shaped (.tuple ds) = true ∧ Q (.bl (!ds.any fun z => PyData.eqv z d)) H
theorem r65 {k : Nat} {A : Around} (r : Room k A) : A.units + 65 < cLine := by have := r.un; omega
theorem o_in_data {X : Cx} (hu : X.A.units + 65 < cLine) : OpR X (compareOp .In) (rInDT X.K) := by
  intro pins s σ H x y v u Q I rx ry h
  obtain ⟨d, ds, hd, he, sd, se, q⟩ := h
  obtain ⟨as, r1⟩ := Dp.reads I d x v hd rx
  obtain ⟨bs, r2⟩ := Dp.reads I (.tuple ds) y u he ry
  exact SeqAt.in_tuple_reads r2 r1 (SeqAt.canLay_of_shaped se) (SeqAt.canLay_of_shaped sd) (by have := SeqAt.depth_of_shaped sd; omega) ⟨.bl _, H, I, rfl, q⟩
theorem o_nin_data {X : Cx} (hu : X.A.units + 65 < cLine) : OpR X (compareOp .NotIn) (rNotInDT X.K) := by
  intro pins s σ H x y v u Q I rx ry h
  obtain ⟨d, ds, hd, he, sd, se, q⟩ := h
  obtain ⟨as, r1⟩ := Dp.reads I d x v hd rx
  obtain ⟨bs, r2⟩ := Dp.reads I (.tuple ds) y u he ry
  exact SeqAt.notIn_tuple_reads r2 r1 (SeqAt.canLay_of_shaped se) (SeqAt.canLay_of_shaped sd) (by have := SeqAt.depth_of_shaped sd; omega) ⟨.bl _, H, I, rfl, q⟩
/-! ### topologies, plainly -/
def spXInit (C : Addr) : Sp := fun vs H Q _ => ∃ a z, vs = [.ref a, .str z] ∧ z.length ≤ 100 ∧ H a = some (exo a C none) ∧ ∀ dx, H dx = none → dx ≠ a → Q .non (upd (upd H dx (exd dx [("code", .str z)])) a (exo a C (some dx)))
def NB (v : V) : Prop := (∃ i, v = .int i) ∨ ∃ b, v = .bl b
def isnum (v : V) (lo hi : Int) : Bool := match v with
  | .int i => decide (lo ≤ i) && decide (i ≤ hi)
  | _ => false
def spNum : Sp := fun vs H Q _ => ∃ v lo hi, vs = [v, .int lo, .int hi] ∧ NB v ∧ Q (.bl (isnum v lo hi)) H
structure Ed where
  a : V
  b : V
  c : V
  m : V
def EdAt (K : PySem.W.Frag) (H : Hp) (x : V) (e : Ed) : Prop := ∃ t, x = .ref t ∧ SqT K H t [e.a, e.b, e.c, e.m]
def EdsAt (K : PySem.W.Frag) (H : Hp) : List V → List Ed → Prop
  | [], [] => True
  | x :: xs, e :: es => EdAt K H x e ∧ EdsAt K H xs es
  | _, _ => False
def Ed.nb (e : Ed) : Prop := NB e.a ∧ NB e.b ∧ NB e.c ∧ NB e.m
def ltV : V → V → Bool
  | .int i, .int j => decide (i < j)
  | _, _ => false
def edOk (n : Int) (e : Ed) : Bool := (isnum e.a 0 (n - 1) && (isnum e.b 0 (n - 1) && ltV e.a e.b)) && (isnum e.c 1 7 && isnum e.m 16 512)
def vI : V → Int
  | .int i => i
  | _ => 0
def Ed.pr (e : Ed) : Int × Int := (vI e.a, vI e.b)
/-- pairs one behind the other, each greater -/
def inc : List (Int × Int) → Bool
  | p :: q :: r => decide (p.1 * 100 + p.2 < q.1 * 100 + q.2) && inc (q :: r)
  | _ => true
def chk (nv : V) (es : List Ed) : Option Str :=
  if isnum nv 1 8 = false then some "nodes" else if es.all (edOk (vI nv)) = false then some "edge" else if inc (es.map Ed.pr) = false then some "order" else none
def spCheck (K : PySem.W.Frag) (C : Addr) : Sp := fun vs H Q E => ∃ tp te nv xs es, vs = [.ref tp] ∧ SqT K H tp [nv, .ref te] ∧ SqT K H te xs ∧ EdsAt K H xs es ∧ NB nv ∧ (∀ e ∈ es, e.nb) ∧ es.length < 60 ∧
  (chk nv es = none → ∀ H', Ext [] H H' → Q .non H') ∧ ∀ z, chk nv es = some z → ∀ d H', Ext [] H H' → H' d = some (.xd [("code", .str z)]) → E (.ref C) (some d) H'
section
variable {K : PySem.W.Frag} {H : Hp} {Q : VK}
theorem g_isiI {i : Int} {T : String} {b : Bool} (h : PySem.W.kitOne K (.type "int") (.type T) = some b) (q : Q (.bl b) H) : rIsi K [.int i, .ty T] H Q := ⟨_, _, _, _, b, rfl, .ty T, .base (.int i), h, q⟩
theorem g_isiB {i : Bool} {T : String} {b : Bool} (h : PySem.W.kitOne K (.type "bool") (.type T) = some b) (q : Q (.bl b) H) : rIsi K [.bl i, .ty T] H Q := ⟨_, _, _, _, b, rfl, .ty T, .base (.bl i), h, q⟩
end
theorem ext_mk {H : Hp} {a dx : Addr} {o1 o2 o3 o4 : HO} (ha : H a = none) (hd : H dx = none) : Ext [] H (upd (del (upd (upd (upd H a o1) dx o2) a o3) a) dx o4) := by
  have k : ∀ b o, H b = some o → upd (del (upd (upd (upd H a o1) dx o2) a o3) a) dx o4 b = some o := fun b o e => by
    have n1 := ne_of_none e ha
    have n2 := ne_of_none e hd
    rw [upd_ne n2, del_ne n1, upd_ne n1, upd_ne n2, upd_ne n1]
    exact e
  exact ⟨fun b o e _ => k b o e, fun b o e _ => k b o e⟩
theorem g_mkO {C : Addr} {z : Str} {σ : L2.St} {H : Hp} {QX : XK} (hz : z.length ≤ 100) (h : ∀ d H', Ext [] H H' → H' d = some (.xd [("code", .str z)]) → QX (.ref C) (some d) H') : tMkO C (spXInit C) [] (tCons (tC (.str z)) tNil) σ H QX := by
  refine ⟨(show 1 ≤ 1000 by decide), fun a ha => ⟨a, z, rfl, hz, upd_same, fun dx hdx ne => ⟨rfl, dx, [("code", .str z)], upd_same, by rw [upd_ne ne]; exact upd_same, ?_, ?_⟩⟩⟩
  · rw [upd_ne ne] at hdx
    exact hdx
  · rw [upd_ne ne] at hdx
    exact h dx _ (ext_mk ha hdx) upd_same
theorem EdsAt.get {K : PySem.W.Frag} {H : Hp} : ∀ {xs : List V} {es : List Ed} {i : Nat} {x : V}, EdsAt K H xs es → xs[i]? = some x → ∃ e, es[i]? = some e ∧ EdAt K H x e
  | _ :: _, e :: _, 0, _, ⟨h, _⟩, q => ⟨e, rfl, by cases q; exact h⟩
  | _ :: _, _ :: _, i + 1, _, ⟨_, h⟩, q => EdsAt.get (i := i) h q
  | [], [], _, _, _, q => by simp at q
  | [], _ :: _, _, _, h, _ => h.elim
  | _ :: _, [], _, _, h, _ => h.elim
theorem EdsAt.len {K : PySem.W.Frag} {H : Hp} : ∀ {xs : List V} {es : List Ed}, EdsAt K H xs es → xs.length = es.length
  | [], [], _ => rfl
  | _ :: _, _ :: _, ⟨_, h⟩ => congrArg (· + 1) (EdsAt.len h)
  | [], _ :: _, h => h.elim
  | _ :: _, [], h => h.elim
theorem EdAt.ext {K : PySem.W.Frag} {A : List Addr} {H H' : Hp} {x : V} {e : Ed} (q : Ext A H H') : EdAt K H x e → EdAt K H' x e := fun ⟨t, h1, h2⟩ => ⟨t, h1, sqT_ext q h2⟩
theorem EdsAt.ext {K : PySem.W.Frag} {A : List Addr} {H H' : Hp} (q : Ext A H H') : ∀ {xs : List V} {es : List Ed}, EdsAt K H xs es → EdsAt K H' xs es
  | [], [], _ => trivial
  | _ :: _, _ :: _, ⟨h1, h⟩ => ⟨h1.ext q, EdsAt.ext q h⟩
  | [], _ :: _, h => h.elim
  | _ :: _, [], h => h.elim
/-! ### dict comprehensions with tuple keys, by what is kept -/
def DcGoal (J : It) (g : TG) (tt : TT) (tk tv : TE) (vs : List Nat) (σ : L2.St) (H1 : Hp) (Q : VK) : Prop := ∀ D, H1 D = none → ∃ W : Nat → Nat → Hp → Prop, (∃ m, W 0 m (upd H1 D (.dT []))) ∧ ∀ i m H, W i m H →
  (J.stop i H ∧ Q (.ref D) H) ∨ (J.go i H ∧ ∃ Nx : Hp → Prop, (∀ H', Nx H' → ∃ m', m' < m ∧ W (i + 1) m' H') ∧ ∀ x H', J.yld i H x H' → g x (wipe σ vs) H' fun σ2 H2 => wipe σ2 vs = wipe σ vs ∧ tt σ2 H2 fun b H3 =>
    if b = true then tk σ2 H3 fun y H4 => tv σ2 H4 fun z H5 => ∃ kvs k b, y = .ref b ∧ H5 b = some (.tup (k.map kV)) ∧ H5 D = some (.dT kvs) ∧ kvs.length < sizeLine ∧ Nx (upd H5 D (.dT (putK kvs k z))) else Nx H3)
theorem g_dct {wi : TI} {g : TG} {tt : TT} {tk tv : TE} {vs : List Nat} {σ : L2.St} {H : Hp} {Q : VK} (h : wi σ H fun J H1 => DcGoal J g tt tk tv vs σ H1 Q) : DcT.tDcT wi g tt tk tv vs σ H Q := h
theorem g_dcW {J : It} {n : Nat} {G : Hp → Prop} {Y : Nat → Hp → V → Hp → Prop} (w : Walk J n G Y) {g : TG} {tt : TT} {tk tv : TE} {vs : List Nat} {σ : L2.St} {H1 : Hp} {Q : VK} (Pv : Addr → Nat → Hp → List (List Key × V) → Prop)
    (h0 : ∀ D H', H1 D = none → Ext [] H1 H' → H' D = some (.dT []) → Pv D 0 H' []) (hG : ∀ D i H kvs, i ≤ n → Pv D i H kvs → G H)
    (hs : ∀ D i x H H' kvs, i < n → Pv D i H kvs → H D = some (.dT kvs) → Y i H x H' → stG g x (wipe σ vs) H' fun σ2 H2 => wipe σ2 vs = wipe σ vs ∧ stT tt σ2 H2 fun b H3 =>
      if b = true then stE tk σ2 H3 fun y H4 => stE tv σ2 H4 fun z H5 => ∃ k b, y = .ref b ∧ H5 b = some (.tup (k.map kV)) ∧ H5 D = some (.dT kvs) ∧ kvs.length < sizeLine ∧ ∀ H6, Ext [D] H5 H6 → H6 D = some (.dT (putK kvs k z)) → Pv D (i + 1) H6 (putK kvs k z)
      else Pv D (i + 1) H3 kvs ∧ H3 D = some (.dT kvs))
    (hd : ∀ D H kvs, Pv D n H kvs → H D = some (.dT kvs) → Q (.ref D) H) : DcGoal J (stG g) (stT tt) (stE tk) (stE tv) vs σ H1 Q := by
  intro D hD
  refine ⟨fun i m H => m = n - i ∧ i ≤ n ∧ ∃ kvs, Pv D i H kvs ∧ H D = some (.dT kvs), ⟨n, by simp, Nat.zero_le _, [], h0 D _ hD (Ext.new hD) upd_same, upd_same⟩, ?_⟩
  rintro i m H ⟨rfl, hi, kvs, p, e⟩
  have q := hG D i H kvs hi p
  by_cases hlt : i < n
  · refine .inr ⟨w.goes i H hlt q, fun H' => ∃ kvs, Pv D (i + 1) H' kvs ∧ H' D = some (.dT kvs), fun H' p' => ⟨n - (i + 1), by omega, rfl, hlt, p'⟩, fun x H' y => ?_⟩
    refine (hs D i x H H' kvs hlt p e (w.yields i H x H' hlt q y)).mono fun σ2 H2 ⟨q1, q2⟩ => ⟨q1, q2.mono fun b H3 q3 => ?_⟩
    cases b with
    | true => exact stE.mono q3 fun z H4 q4 => stE.mono q4 fun z2 H5 ⟨k, b, a1, a2, a3, a4, a5⟩ => ⟨kvs, k, b, a1, a2, a3, a4, putK kvs k z2, a5 _ (Ext.wr a3 rfl) upd_same, upd_same⟩
    | false => exact ⟨kvs, q3.1, q3.2⟩
  · have e2 : i = n := by omega
    subst e2
    exact .inl ⟨w.stops H q, hd D H kvs p e⟩
def PrAt (H : Hp) (x : V) (p : Int × Int) : Prop := ∃ t, x = .ref t ∧ H t = some (.tup [.int p.1, .int p.2])
def PrsAt (H : Hp) : List V → List (Int × Int) → Prop
  | [], [] => True
  | x :: xs, p :: ps => PrAt H x p ∧ PrsAt H xs ps
  | _, _ => False
theorem PrAt.ext {A : List Addr} {H H' : Hp} {x : V} {p : Int × Int} (q : Ext A H H') : PrAt H x p → PrAt H' x p := fun ⟨t, h1, h2⟩ => ⟨t, h1, q.imm _ _ h2 rfl⟩
theorem PrsAt.ext {A : List Addr} {H H' : Hp} (q : Ext A H H') : ∀ {xs : List V} {ps : List (Int × Int)}, PrsAt H xs ps → PrsAt H' xs ps
  | [], [], _ => trivial
  | _ :: _, _ :: _, ⟨h1, h⟩ => ⟨h1.ext q, PrsAt.ext q h⟩
  | [], _ :: _, h => h.elim
  | _ :: _, [], h => h.elim
theorem PrsAt.len {H : Hp} : ∀ {xs : List V} {ps : List (Int × Int)}, PrsAt H xs ps → xs.length = ps.length
  | [], [], _ => rfl
  | _ :: _, _ :: _, ⟨_, h⟩ => congrArg (· + 1) (PrsAt.len h)
  | [], _ :: _, h => h.elim
  | _ :: _, [], h => h.elim
theorem PrsAt.get {H : Hp} : ∀ {xs : List V} {ps : List (Int × Int)} {i : Nat} {x : V}, PrsAt H xs ps → xs[i]? = some x → ∃ p, ps[i]? = some p ∧ PrAt H x p
  | _ :: _, p :: _, 0, _, ⟨h, _⟩, q => ⟨p, rfl, by cases q; exact h⟩
  | _ :: _, _ :: _, i + 1, _, ⟨_, h⟩, q => PrsAt.get (i := i) h q
  | [], [], _, _, _, q => by simp at q
  | [], _ :: _, _, _, h, _ => h.elim
  | _ :: _, [], _, _, h, _ => h.elim
theorem PrsAt.snoc {H : Hp} {x : V} {p : Int × Int} (h : PrAt H x p) : ∀ {xs : List V} {ps : List (Int × Int)}, PrsAt H xs ps → PrsAt H (xs ++ [x]) (ps ++ [p])
  | [], [], _ => ⟨h, trivial⟩
  | _ :: _, _ :: _, ⟨h1, r⟩ => ⟨h1, PrsAt.snoc h r⟩
  | [], _ :: _, r => r.elim
  | _ :: _, [], r => r.elim
/-- the pairs, each once -/
def dd : List (Int × Int) → List (Int × Int) → List (Int × Int)
  | acc, [] => acc
  | acc, p :: r => dd (if p ∈ acc then acc else acc ++ [p]) r
def kP (p : Int × Int) : List Key := [.inl p.1, .inl p.2]
theorem kP_inj {p q : Int × Int} (h : kP p = kP q) : p = q := by
  unfold kP at h
  cases p; cases q
  simp at h
  rw [h.1, h.2]
def kd (l : List (Int × Int)) : List (List Key × V) := l.map fun p => (kP p, .bl true)
theorem put_kd {l : List (Int × Int)} {p : Int × Int} : putK (kd l) (kP p) (.bl true) = kd (if p ∈ l then l else l ++ [p]) := by
  by_cases h : p ∈ l
  · rw [if_pos h]
    unfold putK
    have e : ((kd l).any fun kv => decide (kv.1 = kP p)) = true := List.any_eq_true.mpr ⟨(kP p, .bl true), List.mem_map.mpr ⟨p, h, rfl⟩, by simp⟩
    rw [if_pos e]
    unfold kd
    rw [List.map_map]
    refine List.map_congr_left fun q _ => ?_
    show (if kP q = kP p then (kP q, V.bl true) else (kP q, .bl true)) = (kP q, .bl true)
    split <;> rfl
  · rw [if_neg h]
    unfold putK
    have e : ((kd l).any fun kv => decide (kv.1 = kP p)) = false := by
      rw [Bool.eq_false_iff]
      intro z
      obtain ⟨kv, h1, h2⟩ := List.any_eq_true.mp z
      obtain ⟨q, hq, rfl⟩ := List.mem_map.mp h1
      exact h (kP_inj (of_decide_eq_true h2) ▸ hq)
    rw [if_neg (by rw [e]; decide)]
    unfold kd
    rw [List.map_append]
    rfl
theorem dd_snoc : ∀ (acc l : List (Int × Int)) (p : Int × Int), dd acc (l ++ [p]) = if p ∈ dd acc l then dd acc l else dd acc l ++ [p]
  | _, [], _ => rfl
  | acc, q :: r, p => dd_snoc _ r p
theorem dd_nodup : ∀ (l acc : List (Int × Int)), acc.Nodup → (dd acc l).Nodup
  | [], _, h => h
  | p :: r, acc, h => dd_nodup r _ (by
    split
    · exact h
    · rename_i c
      rw [List.nodup_append]
      exact ⟨h, by simp, fun x hx y hy e => by rw [List.mem_singleton.mp hy] at e; exact c (e ▸ hx)⟩)
theorem dd_len : ∀ (l acc : List (Int × Int)), (dd acc l).length ≤ acc.length + l.length
  | [], _ => Nat.le_refl _
  | p :: r, acc => by
    refine Nat.le_trans (dd_len r _) ?_
    split
    · rw [List.length_cons]; omega
    · simp only [List.length_append, List.length_cons, List.length_nil]; omega
theorem dd_mem : ∀ (l acc : List (Int × Int)) (x : Int × Int), x ∈ dd acc l → x ∈ acc ∨ x ∈ l
  | [], _, _, h => .inl h
  | p :: r, acc, x, h => by
    rcases dd_mem r _ x h with c | c
    · split at c
      · exact .inl c
      · rcases List.mem_append.mp c with c | c
        · exact .inl c
        · rw [List.mem_singleton.mp c]; exact .inr List.mem_cons_self
    · exact .inr (List.mem_cons_of_mem _ c)
theorem dd_id : ∀ (l acc : List (Int × Int)), (acc ++ l).Nodup → dd acc l = acc ++ l
  | [], acc, _ => by rw [List.append_nil]; rfl
  | p :: r, acc, h => by
    have n : p ∉ acc := fun c => by
      rw [List.nodup_append] at h
      exact h.2.2 p c p List.mem_cons_self rfl
    show dd (if p ∈ acc then acc else acc ++ [p]) r = _
    rw [if_neg n, dd_id r (acc ++ [p]) (by rw [List.append_assoc]; exact h), List.append_assoc]
    rfl
def cd (p : Int × Int) : Int := p.1 * 100 + p.2
theorem inc_pw : ∀ {l : List (Int × Int)}, inc l = true ↔ l.Pairwise fun p q => cd p < cd q
  | [] => by simp [inc]
  | [p] => by simp [inc]
  | p :: q :: r => by
    have ih := inc_pw (l := q :: r)
    unfold inc
    rw [Bool.and_eq_true, decide_eq_true_eq, ih]
    constructor
    · rintro ⟨h1, h2⟩
      refine List.pairwise_cons.mpr ⟨fun x hx => ?_, h2⟩
      rcases List.mem_cons.mp hx with c | c
      · rw [c]; exact h1
      · have h3 := (List.pairwise_cons.mp h2).1 x c
        unfold cd at h3 ⊢
        omega
    · intro h
      obtain ⟨h1, h2⟩ := List.pairwise_cons.mp h
      exact ⟨h1 q List.mem_cons_self, h2⟩
theorem pw_nodup {l : List (Int × Int)} (h : l.Pairwise fun p q => cd p < cd q) : l.Nodup := List.Pairwise.imp (fun {p q} z e => by rw [e] at z; omega) h
def Rng (p : Int × Int) : Prop := 0 ≤ p.1 ∧ p.1 < 100 ∧ 0 ≤ p.2 ∧ p.2 < 100
theorem cd_inj {p q : Int × Int} (hp : Rng p) (hq : Rng q) (h : cd p = cd q) : p = q := by
  unfold cd at h
  obtain ⟨a1, a2, a3, a4⟩ := hp
  obtain ⟨b1, b2, b3, b4⟩ := hq
  cases p; cases q
  simp only at *
  have : ∀ x y : Int, x = y → x = y := fun _ _ h => h
  congr 1 <;> omega
theorem sorted_uniq : ∀ {l m : List (Int × Int)}, l.Perm m → (l.Pairwise fun p q => cd p < cd q) → (m.Pairwise fun p q => cd p < cd q) → l = m
  | [], m, h, _, _ => by rw [h.symm.eq_nil]
  | p :: l, [], h, _, _ => by cases h.eq_nil
  | p :: l, q :: m, h, hl, hm => by
    have e : p = q := by
      have m1 : p ∈ q :: m := h.mem_iff.mp List.mem_cons_self
      have m2 : q ∈ p :: l := h.mem_iff.mpr List.mem_cons_self
      rcases List.mem_cons.mp m1 with c | c
      · exact c
      · rcases List.mem_cons.mp m2 with d | d
        · exact d.symm
        · have z1 := (List.pairwise_cons.mp hm).1 p c
          have z2 := (List.pairwise_cons.mp hl).1 q d
          omega
    subst e
    rw [sorted_uniq (List.perm_cons p |>.mp h) (List.pairwise_cons.mp hl).2 (List.pairwise_cons.mp hm).2]
/-- the sorted, each once, is the same just if they rise -/
theorem sort_same {P Y : List (Int × Int)} (hr : ∀ p ∈ P, Rng p) (hp : Y.Perm (dd [] P)) (hs : Y.Pairwise fun p q => cd p ≤ cd q) : P = Y ↔ inc P = true := by
  have nd := hp.nodup_iff.mpr (dd_nodup P [] List.nodup_nil)
  have hY : Y.Pairwise fun p q => cd p < cd q := by
    refine List.Pairwise.imp_of_mem ?_ (hs.and nd)
    intro p q m1 m2 ⟨h1, h2⟩
    rcases Int.lt_or_eq_of_le h1 with c | c
    · exact c
    · have r1 := hr p ((dd_mem P [] p (hp.mem_iff.mp m1)).resolve_left (by simp))
      have r2 := hr q ((dd_mem P [] q (hp.mem_iff.mp m2)).resolve_left (by simp))
      exact absurd (cd_inj r1 r2 c) h2
  constructor
  · rintro rfl
    exact inc_pw.mpr hY
  · intro h
    have hP := inc_pw.mp h
    have e := dd_id P [] (pw_nodup hP)
    rw [e] at hp
    exact (sorted_uniq hp hY hP).symm
theorem perm_prs {H : Hp} : ∀ {qs ys : List V}, ys.Perm qs → ∀ {L : List (Int × Int)}, PrsAt H qs L → ∃ Y, Y.Perm L ∧ PrsAt H ys Y := by
  intro qs ys h
  induction h with
  | nil =>
    intro L hL
    cases L with
    | nil => exact ⟨[], .refl _, trivial⟩
    | cons => exact hL.elim
  | @cons x l1 l2 _ ih =>
    intro L hL
    cases L with
    | nil => exact hL.elim
    | cons p L =>
      obtain ⟨Y, h1, h2⟩ := ih hL.2
      exact ⟨p :: Y, h1.cons p, hL.1, h2⟩
  | @swap x y l =>
    intro L hL
    match L, hL with
    | p :: q :: L, ⟨h1, h2, h3⟩ => exact ⟨q :: p :: L, .swap _ _ _, h2, h1, h3⟩
    | [_], ⟨_, h⟩ => exact h.elim
    | [], h => exact h.elim
  | trans _ _ ih1 ih2 =>
    intro L hL
    obtain ⟨Y, h1, h2⟩ := ih2 hL
    obtain ⟨Z, h3, h4⟩ := ih1 h2
    exact ⟨Z, h3.trans h1, h4⟩
theorem paired_prs {H : Hp} : ∀ {L : List (Int × Int)} {qs : List V}, Paired (fun (q : V) (kv : List Key × V) => ∃ t, q = .ref t ∧ H t = some (.tup (kv.1.map kV))) qs (kd L) → PrsAt H qs L
  | [], _, h => by cases h; trivial
  | p :: L, _, h => by
    cases h with
    | cons h1 h2 => exact ⟨h1, paired_prs h2⟩
theorem prs_pw {K : PySem.W.Frag} {H : Hp} : ∀ {ys : List V} {Y : List (Int × Int)}, PrsAt H ys Y → ys.Pairwise (fun x y => ∀ n m, TupI K H x n → TupI K H y m → TS.code 100 n ≤ TS.code 100 m) → Y.Pairwise fun p q => cd p ≤ cd q
  | [], [], _, _ => .nil
  | x :: ys, p :: Y, ⟨h1, h2⟩, h => by
    obtain ⟨a, b⟩ := List.pairwise_cons.mp h
    refine List.pairwise_cons.mpr ⟨fun q hq => ?_, prs_pw h2 b⟩
    obtain ⟨j, hj⟩ := List.mem_iff_getElem?.mp hq
    have hj' : j < ys.length := by rw [h2.len]; exact (List.getElem?_eq_some_iff.mp hj).1
    obtain ⟨q', e1, e2⟩ := h2.get (List.getElem?_eq_getElem hj')
    rw [hj] at e1
    cases e1
    have T : ∀ {x : V} {p : Int × Int}, PrAt H x p → TupI K H x [p.1, p.2] := fun {x p} ⟨t, z1, z2⟩ => ⟨t, z1, SqT.of z2⟩
    have z := a _ (List.getElem_mem hj') _ _ (T h1) (T e2)
    have c : ∀ p : Int × Int, TS.code 100 [p.1, p.2] = cd p := fun p => by
      show p.1 * 100 ^ 1 + (p.2 * 100 ^ 0 + 0) = p.1 * 100 + p.2
      omega
    rw [c, c] at z
    exact z
  | [], _ :: _, h, _ => h.elim
  | _ :: _, [], h, _ => h.elim
def pdP (p : Int × Int) : PyData := .tuple [.int p.1, .int p.2]
theorem eqv_pd (p q : Int × Int) : PyData.eqv (pdP p) (pdP q) = decide (p = q) := by
  cases p; cases q
  unfold pdP
  simp only [PyData.eqv, PyData.eqvAll]
  rw [Bool.eq_iff_iff]
  simp
theorem eqv_pds : ∀ P Y : List (Int × Int), PyData.eqvAll (P.map pdP) (Y.map pdP) = decide (P = Y)
  | [], [] => by simp [PyData.eqvAll]
  | [], _ :: _ => by simp [PyData.eqvAll]
  | _ :: _, [] => by simp [PyData.eqvAll]
  | p :: P, q :: Y => by
    simp only [List.map_cons, PyData.eqvAll]
    rw [eqv_pd, eqv_pds P Y, Bool.eq_iff_iff]
    simp
theorem shp_pds {k : Nat} : ∀ P : List (Int × Int), ShpAll (P.map pdP) (k + 1)
  | [] => shp_nil
  | _ :: P => shp_cons (shp_tup (shp_cons shp_int (shp_cons shp_int shp_nil))) (shp_pds P)
theorem shp_lst {ds : List PyData} {k : Nat} (h : ShpAll ds k) : Shp (.list ds) (k + 1) := by
  refine ⟨?_, ?_⟩
  · rw [PyData.canLay0]; exact h.1
  · rw [PyData.depth]
    have := h.2
    omega
theorem prs_dp {K : PySem.W.Frag} {H : Hp} : ∀ {ys : List V} {Y : List (Int × Int)}, PrsAt H ys Y → DpAll K H ys (Y.map pdP)
  | [], [], _ => .nil
  | x :: ys, p :: Y, ⟨⟨t, h1, h2⟩, h⟩ => by
    subst h1
    exact .cons (.tup (SqT.of h2) (.cons (.int _) (.cons (.int _) .nil))) (prs_dp h)
  | [], _ :: _, h => h.elim
  | _ :: _, [], h => h.elim
theorem g_nePrs {K : PySem.W.Frag} {H : Hp} {Q : VK} {a b : Addr} {xs ys : List V} {P Y : List (Int × Int)} (hx : SqL K H a xs) (hy : SqL K H b ys) (hP : PrsAt H xs P) (hY : PrsAt H ys Y) (h : Q (.bl (!decide (P = Y))) H) : rNeX K (.ref a) (.ref b) H Q := by
  refine .inr ⟨_, _, .lst hx (prs_dp hP), .lst hy (prs_dp hY), (shp_lst (shp_pds (k := 0) P)).shaped (by decide), (shp_lst (shp_pds (k := 0) Y)).shaped (by decide), ?_⟩
  rw [PyData.eqv, eqv_pds]
  exact h
theorem g_itLd {K : PySem.W.Frag} {H : Hp} {a : Addr} {xs : List V} {R : Addr → Prop} (e : SqL K H a xs) (h : R a) : ∃ a', V.ref a = .ref a' ∧ (∃ xs, SqL K H a' xs) ∧ R a' := ⟨a, rfl, ⟨xs, e⟩, h⟩
/-! ### right topologies -/
structure Dg where
  a : Int
  b : Int
  c : Int
  m : Int
def Dg.ed (d : Dg) : Ed := ⟨.int d.a, .int d.b, .int d.c, .int d.m⟩
def Dg.pr (d : Dg) : Int × Int := (d.a, d.b)
structure WFT (n : Int) (ds : List Dg) : Prop where
  n1 : 1 ≤ n
  n8 : n ≤ 8
  ok : ∀ d ∈ ds, 0 ≤ d.a ∧ d.a < d.b ∧ d.b < n ∧ 1 ≤ d.c ∧ d.c ≤ 7 ∧ 16 ≤ d.m ∧ d.m ≤ 512
  inc : inc (ds.map Dg.pr) = true
  len : ds.length ≤ 56
def TopAt (K : PySem.W.Frag) (H : Hp) (tp te : Addr) (n : Int) (ds : List Dg) : Prop := SqT K H tp [.int n, .ref te] ∧ ∃ xs, SqT K H te xs ∧ EdsAt K H xs (ds.map Dg.ed)
theorem TopAt.ext {K : PySem.W.Frag} {A : List Addr} {H H' : Hp} {tp te : Addr} {n : Int} {ds : List Dg} (e : Ext A H H') (h : TopAt K H tp te n ds) : TopAt K H' tp te n ds := ⟨sqT_ext e h.1, let ⟨xs, a, b⟩ := h.2; ⟨xs, sqT_ext e a, b.ext e⟩⟩
/-- the dict of a node's neighbours -/
def nbK (v : Int) : List Dg → List (Key × V) → List (Key × V)
  | [], kv => kv
  | d :: r, kv => nbK v r (if v = d.a ∨ v = d.b then putK kv (.inl (if v = d.a then d.b else d.a)) (.int d.c) else kv)
def spNb (K : PySem.W.Frag) : Sp := fun vs H Q _ => ∃ tp te n ds v, vs = [.ref tp, .int v] ∧ TopAt K H tp te n ds ∧ ds.length ≤ 56 ∧ ∀ D H', Ext [] H H' → H D = none → H' D = some (.dK (nbK v ds [])) → Q (.ref D) H'
def mo : List Dg → Int → Int → Int
  | [], _, _ => 0
  | d :: r, p, q => if d.a = p ∧ d.b = q then d.m else mo r p q
def spMost (K : PySem.W.Frag) : Sp := fun vs H Q _ => ∃ tp te n ds x y, vs = [.ref tp, .int x, .int y] ∧ TopAt K H tp te n ds ∧ ∀ H', Ext [] H H' → Q (.int (mo ds (min x y) (max x y))) H'
/-- one edge's way, from x to y -/
def rl (g : Int → Option Int) (x y c : Int) : Int → Option Int := match g x with
  | none => g
  | some v => fun k => if k = y then some (match g y with | none => v + c | some w => min (v + c) w) else g k
def rd (dn : Int × Int → Bool) (g : Int → Option Int) (d : Dg) : Int → Option Int := if dn d.pr = true then g else rl (rl g d.a d.b d.c) d.b d.a d.c
def rnds (dn : Int × Int → Bool) (ds : List Dg) : Nat → (Int → Option Int) → Int → Option Int
  | 0, g => g
  | k + 1, g => ds.foldl (rd dn) (rnds dn ds k g)
def g0 (v : Int) : Int → Option Int := fun k => if k = v then some 0 else none
def ov : Option Int → V
  | none => .non
  | some x => .int x
def PrsS (K : PySem.W.Frag) (H : Hp) : List V → List (Int × Int) → Prop
  | [], [] => True
  | x :: xs, p :: ps => (∃ t, x = .ref t ∧ SqT K H t [.int p.1, .int p.2]) ∧ PrsS K H xs ps
  | _, _ => False
theorem PrsS.ext {K : PySem.W.Frag} {A : List Addr} {H H' : Hp} (q : Ext A H H') : ∀ {xs : List V} {ps : List (Int × Int)}, PrsS K H xs ps → PrsS K H' xs ps
  | [], [], _ => trivial
  | _ :: _, _ :: _, ⟨⟨t, h1, h2⟩, h⟩ => ⟨⟨t, h1, sqT_ext q h2⟩, PrsS.ext q h⟩
  | [], _ :: _, h => h.elim
  | _ :: _, [], h => h.elim
theorem PrsS.dp {K : PySem.W.Frag} {H : Hp} : ∀ {ys : List V} {Y : List (Int × Int)}, PrsS K H ys Y → DpAll K H ys (Y.map pdP)
  | [], [], _ => .nil
  | x :: ys, p :: Y, ⟨⟨t, h1, h2⟩, h⟩ => by
    subst h1
    exact .cons (.tup h2 (.cons (.int _) (.cons (.int _) .nil))) (PrsS.dp h)
  | [], _ :: _, h => h.elim
  | _ :: _, [], h => h.elim
theorem PrsS.len {K : PySem.W.Frag} {H : Hp} : ∀ {xs : List V} {ps : List (Int × Int)}, PrsS K H xs ps → xs.length = ps.length
  | [], [], _ => rfl
  | _ :: _, _ :: _, ⟨_, h⟩ => congrArg (· + 1) (PrsS.len h)
  | [], _ :: _, h => h.elim
  | _ :: _, [], h => h.elim
theorem PrsS.snoc {K : PySem.W.Frag} {H : Hp} {x : V} {p : Int × Int} (h : ∃ t, x = .ref t ∧ SqT K H t [.int p.1, .int p.2]) : ∀ {xs : List V} {ps : List (Int × Int)}, PrsS K H xs ps → PrsS K H (xs ++ [x]) (ps ++ [p])
  | [], [], _ => ⟨h, trivial⟩
  | _ :: _, _ :: _, ⟨h1, r⟩ => ⟨h1, PrsS.snoc h r⟩
  | [], _ :: _, r => r.elim
  | _ :: _, [], r => r.elim
def DnAt (K : PySem.W.Frag) (H : Hp) (dn : Addr) (ps : List (Int × Int)) : Prop := ∃ xs, SqT K H dn xs ∧ PrsS K H xs ps
theorem any_pd (p : Int × Int) : ∀ ps : List (Int × Int), ((ps.map pdP).any fun z => PyData.eqv z (pdP p)) = decide (p ∈ ps)
  | [] => rfl
  | q :: r => by
    rw [List.map_cons, List.any_cons, any_pd p r, eqv_pd, Bool.eq_iff_iff]
    simp only [Bool.or_eq_true, decide_eq_true_eq, List.mem_cons]
    constructor
    · rintro (h | h)
      · exact .inl h.symm
      · exact .inr h
    · rintro (h | h)
      · exact .inl h.symm
      · exact .inr h
theorem g_inDn {K : PySem.W.Frag} {H : Hp} {Q : VK} {t dn : Addr} {p : Int × Int} {ps : List (Int × Int)} (ht : SqT K H t [.int p.1, .int p.2]) (h : DnAt K H dn ps) (q : Q (.bl (decide (p ∈ ps))) H) : rInDT K (.ref t) (.ref dn) H Q := by
  obtain ⟨xs, h1, h2⟩ := h
  refine ⟨pdP p, _, .tup ht (.cons (.int _) (.cons (.int _) .nil)), .tup h1 h2.dp, (shp_tup (k := 1) (shp_cons shp_int (shp_cons shp_int shp_nil))).shaped (by decide), (shp_tup (shp_pds (k := 0) ps)).shaped (by decide), ?_⟩
  rw [any_pd]
  exact q
theorem g_ninDn {K : PySem.W.Frag} {H : Hp} {Q : VK} {t dn : Addr} {p : Int × Int} {ps : List (Int × Int)} (ht : SqT K H t [.int p.1, .int p.2]) (h : DnAt K H dn ps) (q : Q (.bl (!decide (p ∈ ps))) H) : rNotInDT K (.ref t) (.ref dn) H Q := by
  obtain ⟨xs, h1, h2⟩ := h
  refine ⟨pdP p, _, .tup ht (.cons (.int _) (.cons (.int _) .nil)), .tup h1 h2.dp, (shp_tup (k := 1) (shp_cons shp_int (shp_cons shp_int shp_nil))).shaped (by decide), (shp_tup (shp_pds (k := 0) ps)).shaped (by decide), ?_⟩
  rw [any_pd]
  exact q
theorem g_eqPr {K : PySem.W.Frag} {H : Hp} {Q : VK} {t u : Addr} {p r : Int × Int} (ht : SqT K H t [.int p.1, .int p.2]) (hu : SqT K H u [.int r.1, .int r.2]) (q : Q (.bl (decide (p = r))) H) : rEqX K (.ref t) (.ref u) H Q := by
  refine .inr ⟨pdP p, pdP r, .tup ht (.cons (.int _) (.cons (.int _) .nil)), .tup hu (.cons (.int _) (.cons (.int _) .nil)), (shp_tup (k := 1) (shp_cons shp_int (shp_cons shp_int shp_nil))).shaped (by decide), (shp_tup (k := 1) (shp_cons shp_int (shp_cons shp_int shp_nil))).shaped (by decide), ?_⟩
  rw [eqv_pd]
  exact q
def spLeast (K : PySem.W.Frag) : Sp := fun vs H Q _ => ∃ tp te n ds v dn ps, vs = [.ref tp, .int v, .ref dn] ∧ TopAt K H tp te n ds ∧ WFT n ds ∧ 0 ≤ v ∧ v < n ∧ DnAt K H dn ps ∧ ∀ c H', Ext [] H H' → SqT K H' c ((List.range n.toNat).map fun i : Nat => ov (rnds (fun p => decide (p ∈ ps)) ds n.toNat (g0 v) (i : Int))) → Q (.ref c) H'
def spTopo (K : PySem.W.Frag) : Sp := fun vs H Q _ => ∃ d s, vs = [.ref d] ∧ DSt H d s ∧ ∀ tp te n ds H', Ext [d] H H' → DSt H' d s → TopAt K H' tp te n ds → WFT n ds → Q (.ref tp) H'
def spCode (K : PySem.W.Frag) : Sp := fun vs H Q _ => ∃ tp te nv xs es, vs = [.ref tp] ∧ SqT K H tp [nv, .ref te] ∧ SqT K H te xs ∧ EdsAt K H xs es ∧ NB nv ∧ (∀ e ∈ es, e.nb) ∧ es.length < 60 ∧ ∀ H', Ext [] H H' → Q (.str ((chk nv es).getD "")) H'
theorem g_callS {sp : Sp} {E : L2.St → XK} {t : TA} {σ : L2.St} {H : Hp} {Q : VK} (h : t σ H fun vs H1 => sp vs H1 Q (E σ)) : tCallS sp E t σ H Q := h
theorem top_get {K : PySem.W.Frag} {H : Hp} {xs : List V} {ds : List Dg} {i : Nat} {x : V} (hE : EdsAt K H xs (ds.map Dg.ed)) (hx : xs[i]? = some x) : ∃ d, ds[i]? = some d ∧ ∃ t, x = .ref t ∧ SqT K H t [.int d.a, .int d.b, .int d.c, .int d.m] := by
  obtain ⟨e, he, t, h1, h2⟩ := hE.get hx
  rw [List.getElem?_map] at he
  cases hd : ds[i]? with
  | none => rw [hd] at he; cases he
  | some d => rw [hd] at he; cases he; exact ⟨d, rfl, t, h1, h2⟩
theorem drop_at {α : Type} {ds : List α} {i : Nat} {d : α} (h : ds[i]? = some d) : ds.drop i = d :: ds.drop (i + 1) := by
  obtain ⟨hi, rfl⟩ := List.getElem?_eq_some_iff.mp h
  exact List.drop_eq_getElem_cons hi
theorem inV2 {v a b : Int} : inV (.int v) [.int a, .int b] = decide (v = a ∨ v = b) := by
  have e : inV (.int v) [.int a, .int b] = decide (v ∈ [a, b]) := inV_int v [a, b]
  rw [e]
  simp
theorem nbK_cons {v : Int} {d : Dg} {r : List Dg} {kv : List (Key × V)} : nbK v (d :: r) kv = nbK v r (if v = d.a ∨ v = d.b then putK kv (.inl (if v = d.a then d.b else d.a)) (.int d.c) else kv) := rfl
theorem mo_cons {d : Dg} {r : List Dg} {p q : Int} : mo (d :: r) p q = if d.a = p ∧ d.b = q then d.m else mo r p q := rfl
/-! ### costs -/
def FD (kv : List (Key × V)) (g : Int → Option Int) : Prop := ∀ k : Int, valV kv (.inl k) = (g k).map V.int
theorem fd_put {kv : List (Key × V)} {g : Int → Option Int} {y z : Int} (h : FD kv g) : FD (putK kv (.inl y) (.int z)) (fun k => if k = y then some z else g k) := fun k => by
  show valV (putK kv (.inl y) (.int z)) (.inl k) = (if k = y then some z else g k).map V.int
  rw [valV_put]
  by_cases c : k = y
  · subst c
    rw [if_pos rfl, if_pos rfl]
    rfl
  · rw [if_neg (fun e => c (Sum.inl.inj e)), if_neg c]
    exact h k
theorem fd_eq {kv : List (Key × V)} {g g' : Int → Option Int} (h : FD kv g) (e : ∀ k, g k = g' k) : FD kv g' := fun k => by rw [← e]; exact h k
def sq (g : Int → Option Int) (a b c : Int) (j : Nat) : Int → Option Int := if j = 0 then g else if j = 1 then rl g a b c else rl (rl g a b c) b a c
theorem rnds_succ {dn : Int × Int → Bool} {ds : List Dg} {k : Nat} {g : Int → Option Int} : rnds dn ds (k + 1) g = ds.foldl (rd dn) (rnds dn ds k g) := rfl
theorem foldl_take {α β : Type} {f : β → α → β} {x : β} {l : List α} {j : Nat} {d : α} (h : l[j]? = some d) : (l.take (j + 1)).foldl f x = f ((l.take j).foldl f x) d := by
  rw [List.take_succ, h, List.foldl_append]
  rfl
theorem g_disp {trs : List (TE × TE)} {σ : L2.St} {H : Hp} {Q : VK} (h : ∀ p, H p = none → tPairs trs σ (upd H p (.dK [])) fun ps H2 => H2 p = some (.dK []) ∧ ∃ kvs : List (Key × V), ps = kvs.map (fun kv => (kV kv.1, kv.2)) ∧ kvs.length ≤ 15 ∧ Q (.ref p) (upd H2 p (.dK (mergeK [] kvs)))) : tDisp trs σ H Q := h
theorem upd2 {H : Hp} {p : Addr} {o u : HO} : upd (upd H p o) p u = upd H p u := by
  funext b
  by_cases c : b = p
  · rw [c, upd_same, upd_same]
  · rw [upd_ne c, upd_ne c, upd_ne c]
theorem g_disp1 {tk tv : TE} {σ : L2.St} {H : Hp} {Q : VK} {k z : Int} (h1 : ∀ H Q, Q (.int k) H → tk σ H Q) (h2 : ∀ H Q, Q (.int z) H → tv σ H Q) (h : ∀ p H', H p = none → Ext [] H H' → H' p = some (.dK [(.inl k, .int z)]) → Q (.ref p) H') : tDisp [(tk, tv)] σ H Q := by
  refine fun p hp => h1 _ _ (h2 _ _ ⟨upd_same, [(.inl k, .int z)], rfl, (show 1 ≤ 15 by decide), ?_⟩)
  rw [upd2]
  exact h p _ hp (Ext.new hp) upd_same
theorem g_dget2 {σ : L2.St} {H : Hp} {Q : VK} {td ty tx : TE} (h : td σ H fun x H1 => ∃ a, x = .ref a ∧ IsD H1 a ∧ ty σ H1 fun y H2 => tx σ H2 fun z H3 => ∃ o, DGet H3 a y o ∧ Q (o.getD z) H3) : tDGet2 td ty tx σ H Q := h
theorem g_dget2I {H : Hp} {a : Addr} {kv : List (Key × V)} {i : Int} {R : Option V → Prop} (e : H a = some (.dK kv)) (h : R (valV kv (.inl i))) : ∃ o, DGet H a (.int i) o ∧ R o := ⟨_, DGet.k (k := .inl i) e, h⟩
theorem EdsAt.snoc {K : PySem.W.Frag} {H : Hp} {x : V} {e : Ed} (h : EdAt K H x e) : ∀ {xs : List V} {es : List Ed}, EdsAt K H xs es → EdsAt K H (xs ++ [x]) (es ++ [e])
  | [], [], _ => ⟨h, trivial⟩
  | _ :: _, _ :: _, ⟨h1, r⟩ => ⟨h1, EdsAt.snoc h r⟩
  | [], _ :: _, r => r.elim
  | _ :: _, [], r => r.elim
section
variable {P : Program} {w : World} {K : PySem.W.Frag} {mg : Str → Option Value} {base : Heap}
theorem ok_InputError_init {A : Adr} (T : Txt P K mg A) : FnOk P w K mg base (L2.CX P w) 1 A.f_InputError_init A.d_InputError_init ["self", "code"] (spXInit A.c_InputError) := by
  refine Sup.fn_super (F := ⟨"__init__", "InputError.__init__", defArgs s_InputError_init, defBody s_InputError_init, defScope s_InputError_init, [("__class__", A.cc_InputError)], A.cd_InputError⟩) (N := ["self", "code", "__class__"]) (ps' := ["code"]) (k := 0) T.x_InputError.S (show NdefX.NScope _ _ _ (defScope s_InputError_init) from NdefX.nscope_by (by decide +kernel)) rfl (fun vs H Q E h => ?_) (fun Ar outer s H vs Q E hr h => ?_) (fun _ => rfl) (fun _ => rfl) (fun _ => rfl) T.x_InputError.hfd
  · obtain ⟨a, z, rfl, _⟩ := h
    rfl
  · obtain ⟨a, z, rfl, hz, ha, k⟩ := h
    refine ⟨a, [.str z], _, fun ws H1 => ws.length ≤ 1000 ∧ H1 = H, rfl, ha, pa_cons (pe_joined (PJ.cons pe_str (PJ.cons (pe_fmt (pv 1)) PJ.nil))) pa_nil, ?_, fun ws H1 q => ⟨q.1, by rw [q.2]; exact ha, _, pss_one (ps_ost (pv 0) (pv 1)), ?_⟩⟩
    · have h1 : (Str.empty ++ ("refused: " : Str)).length + z.length ≤ sizeLine := by
        have e : (Str.empty ++ ("refused: " : Str)).length = 9 := by decide +kernel
        rw [e, sizeLine_eq]
        omega
      refine ⟨_, rfl, by decide +kernel, _, rfl, .inl ⟨z, rfl, by rw [sizeLine_eq]; omega, z, rfl, ?_, ?_⟩⟩
      · rw [Str.length_append]; exact h1
      · exact ⟨(show 1 ≤ 1000 by decide), rfl⟩
    · rw [q.2]
      exact ⟨_, rfl, _, rfl, a, A.c_InputError, rfl, T.x_InputError.S.T, T.x_InputError.no_code, .inl ⟨ha, fun dx n ne => k dx n ne⟩⟩
theorem ok_is_number {A : Adr} (T : Txt P K mg A) : FnOk P w K mg base CX0 1 A.f_is_number A.d_is_number ["value", "least", "most"] spNum := by
  refine T.is_number.F.ok sc_is_number (fun vs H Q E h => ?_) (fun cdv Ar outer s H vs Q E hr h => ?_)
  · obtain ⟨v, lo, hi, rfl, _⟩ := h
    rfl
  · obtain ⟨v, lo, hi, rfl, hv, k⟩ := h
    refine ⟨_, (pss_one (ps_ret (pe_and (pe_callB (id := "isinstance") call_isi (by rfl) T.b_isinstance (by decide +kernel) (pa_cons (pv 0) (pa_cons (pe_bltn (v := .ty "int") (by rfl) T.b_int (by decide +kernel) rfl) pa_nil))) (pe_and (pe_not (pe_callB (id := "isinstance") call_isi (by rfl) T.b_isinstance (by decide +kernel) (pa_cons (pv 0) (pa_cons (pe_bltn (v := .ty "bool") (by rfl) T.b_bool (by decide +kernel) rfl) pa_nil)))) (pe_one (pe_chain op_le op_le (pv 1) (pv 0) (pv 2))))))), ?_⟩
    walk_at "eo init"
    rcases hv with ⟨i, rfl⟩ | ⟨b, rfl⟩
    · walk_at "eo go"
      refine g_isiI (b := true) (kit_ty (by decide +kernel)) ?_
      walk_at "eo go"
      refine g_isiI (b := false) (kit_ty (by decide +kernel)) ?_
      walk_at "eo go"
      refine g_ite (fun z => ?_) (fun z => ?_)
      · walk_at "eo go"
        have e : isnum (.int i) lo hi = decide (i ≤ hi) := by
          show (decide (lo ≤ i) && decide (i ≤ hi)) = _
          rw [z, Bool.true_and]
        rw [e] at k
        exact k
      · have e : isnum (.int i) lo hi = false := by
          show (decide (lo ≤ i) && decide (i ≤ hi)) = _
          rw [z, Bool.false_and]
        rw [e] at k
        exact k
    · walk_at "eo go"
      refine g_isiB (b := true) (kit_ty (by decide +kernel)) ?_
      walk_at "eo go"
      refine g_isiB (b := true) (kit_ty (by decide +kernel)) ?_
      walk_at "eo go"
      exact k
theorem ok_check_topology {A : Adr} (T : Txt P K mg A) : FnOk P w K mg base (L2.CX P w) 3 A.f_check_topology A.d_check_topology ["topology"] (spCheck K A.c_InputError) := by
  refine T.check_topology.F.okX sc_check_topology (fun vs H Q E h => ?_) (fun cdv Ar outer s H vs Q E hr h => ?_)
  · obtain ⟨tp, te, nv, xs, es, rfl, _⟩ := h
    rfl
  · obtain ⟨tp, te, nv, xs, es, rfl, h1, h2, hE, hn, hnb, hlen, kok, kbad⟩ := h
    refine ⟨_, (pss_cons (ps_asg (pv 0) (pg_tup (n := 2) rfl (pgs_cons (pg_name (i := 1) sc_check_topology.nd rfl (Or.inl rfl)) (pgs_cons (pg_name (i := 2) sc_check_topology.nd rfl (Or.inl rfl)) pgs_nil))))
      (pss_cons (ps_if (pt_not (pt_truth (pe_call (ok_is_number T) (hr.mono (by decide)) (by rfl) T.is_number.mg T.is_number.kp T.is_number.b .nil pass0 (pa_cons (pv 1) (pa_cons pe_int (pa_cons (pe_g rfl T.g_MOST_NODES) pa_nil)))) (by intro _; rfl))) (pss_one (ps_raise rfl (takes_of rfl rfl rfl rfl) (pmk_oex T.x_InputError.S.T T.x_InputError.iC T.x_InputError.tI (ok_InputError_init T) (hr.mono (by decide)) T.x_InputError.b .nil passL (by rfl) T.x_InputError.mg (pa_cons pe_str pa_nil)))) pss_nil)
      (pss_cons (ps_for (passes_of rfl) rfl (pi_tup (pv 2)) (pg_tup (n := 4) rfl (pgs_cons (pg_name (i := 3) sc_check_topology.nd rfl (Or.inl rfl)) (pgs_cons (pg_name (i := 4) sc_check_topology.nd rfl (Or.inl rfl)) (pgs_cons (pg_name (i := 5) sc_check_topology.nd rfl (Or.inl rfl)) (pgs_cons (pg_name (i := 6) sc_check_topology.nd rfl (Or.inl rfl)) pgs_nil))))) (pss_join (ps_set (i := 7) sc_check_topology.nd rfl (Or.inl rfl) (pe_and (pe_call (ok_is_number T) (hr.mono (by decide)) (by rfl) T.is_number.mg T.is_number.kp T.is_number.b .nil pass0 (pa_cons (pv 3) (pa_cons pe_int (pa_cons (pe_op op_sub (pv 1) pe_int) pa_nil)))) (pe_and (pe_call (ok_is_number T) (hr.mono (by decide)) (by rfl) T.is_number.mg T.is_number.kp T.is_number.b .nil pass0 (pa_cons (pv 4) (pa_cons pe_int (pa_cons (pe_op op_sub (pv 1) pe_int) pa_nil)))) (pe_one (pe_cmpR op_lt (pv 3) (pv 4) (nomark _))))))
      (pss_one (ps_if (pt_not (PW.pt (pw_and (pt_truth (pv 7) (by intro _; rfl)) (pw_and (pt_truth (pe_call (ok_is_number T) (hr.mono (by decide)) (by rfl) T.is_number.mg T.is_number.kp T.is_number.b .nil pass0 (pa_cons (pv 5) (pa_cons pe_int (pa_cons (pe_g rfl T.g_MOST_COST) pa_nil)))) (by intro _; rfl)) (pw_and1 (pt_truth (pe_call (ok_is_number T) (hr.mono (by decide)) (by rfl) T.is_number.mg T.is_number.kp T.is_number.b .nil pass0 (pa_cons (pv 6) (pa_cons (pe_g rfl T.g_LEAST_BODY) (pa_cons (pe_g rfl T.g_MOST_BODY) pa_nil)))) (by intro _; rfl))))))) (pss_one (ps_raise rfl (takes_of rfl rfl rfl rfl) (pmk_oex T.x_InputError.S.T T.x_InputError.iC T.x_InputError.tI (ok_InputError_init T) (hr.mono (by decide)) T.x_InputError.b .nil passL (by rfl) T.x_InputError.mg (pa_cons pe_str pa_nil)))) pss_nil))))
      (pss_cons (ps_setLc (i := 8) (own := [("a", 3), ("b", 4), ("_", 9)]) (tt := stT tYes) rfl sc_check_topology.nd rfl rfl (sw_true rfl rfl rfl (by decide +kernel)) (pi_tup (pv 2)) (blkOk_by (own := [("a", 3), ("b", 4), ("_", 9)]) (N := ["topology", "n", "edges", "a", "b", "cost", "most", "is_pair", "pairs", "_", "pair"]) (sc := defScope s_check_topology) (by decide +kernel)) (fun _ _ _ _ _ => PG.star (kkTup (K := K) rfl (pg_tup (n := 4) rfl (pgs_cons (pg_name (i := 3) sc_check_topology.nd rfl (Or.inl rfl) (Or.inr rfl)) (pgs_cons (pg_name (i := 4) sc_check_topology.nd rfl (Or.inl rfl) (Or.inr rfl)) (pgs_cons (pg_name (i := 9) sc_check_topology.nd rfl (Or.inl rfl) (Or.inr rfl)) (pgs_cons (pg_name (i := 9) sc_check_topology.nd rfl (Or.inl rfl) (Or.inr rfl)) pgs_nil))))))) (fun _ _ _ _ _ => PTs.star (pts_nil)) (fun _ _ _ _ _ => PE.star (pe_tupX (pa_cons (pv 3) (pa_cons (pv 4) pa_nil)))))
      (pss_one (ps_if (pt_cmpR (o_ne hr.units) (pv 8) (pe_callB (id := "sorted") (o_sorted rfl) (by rfl) T.b_sorted (by decide +kernel) (pa_cons (DcT.pe_dcT (hu := u1 hr.units) (own := [("pair", 10)]) (tt := stT tYes) rfl sc_check_topology.nd (pi_list (pv 8)) (blkOk_by (own := [("pair", 10)]) (N := ["topology", "n", "edges", "a", "b", "cost", "most", "is_pair", "pairs", "_", "pair"]) (sc := defScope s_check_topology) (by decide +kernel)) (fun _ _ _ _ _ => PG.star (pg_name (i := 10) sc_check_topology.nd rfl (Or.inl rfl) (Or.inr rfl))) (fun _ _ _ _ _ => PTs.star (pts_nil)) (fun _ _ _ _ _ => PE.star (pv 10)) (fun _ _ _ _ _ => PE.star pe_bl)) pa_nil)) (nomark _)) (pss_one (ps_raise rfl (takes_of rfl rfl rfl rfl) (pmk_oex T.x_InputError.S.T T.x_InputError.iC T.x_InputError.tI (ok_InputError_init T) (hr.mono (by decide)) T.x_InputError.b .nil passL (by rfl) T.x_InputError.mg (pa_cons pe_str pa_nil)))) pss_nil)))))), ?_⟩
    walk_at "eo init"
    walk_at "eo go"
    refine ⟨nv, 1, 8, rfl, hn, ?_⟩
    walk_at "eo go"
    cases hnum : isnum nv 1 8 with
    | false =>
      refine g_iteDT rfl ?_
      refine g_mkO (by decide +kernel) fun d H' e hx => kbad _ (by unfold chk; rw [if_pos hnum]) d H' e hx
    | true =>
      refine g_iteDF rfl ?_
      obtain ⟨nn, rfl⟩ : ∃ n, nv = .int n := by
        rcases hn with h | ⟨b, rfl⟩
        · exact h
        · cases hnum
      have hn8 : 1 ≤ nn ∧ nn ≤ 8 := by
        unfold isnum at hnum
        rw [Bool.and_eq_true] at hnum
        exact ⟨dec_t hnum.1, dec_t hnum.2⟩
      walk_at "eo go"
      refine g_forT xs (fun i σ H' => ∃ s3 s4 s5 s6 s7, σ = [some (.ref tp), some (.int nn), some (.ref te), s3, s4, s5, s6, s7, none, none, none] ∧ H' = H ∧ ∀ j, j < i → ∀ e, es[j]? = some e → edOk nn e = true) ⟨_, _, _, _, _, rfl, rfl, fun j h => (by omega)⟩ (fun i σ H' _ ⟨_, _, _, _, _, _, e, _⟩ => by rw [e]; exact h2) ?_ ?_
      · rintro i x σ H' hx ⟨s3, s4, s5, s6, s7, rfl, rfl, hok⟩
        obtain ⟨e, he, t, rfl, ht⟩ := hE.get hx
        have hem : e ∈ es := List.mem_of_getElem? he
        obtain ⟨na, nb, nc, nm⟩ := hnb e hem
        walk_at "eo go"
        refine g_join (fun σ2 H2 => σ2 = [some (.ref tp), some (.int nn), some (.ref te), some e.a, some e.b, some e.c, some e.m, some (.bl (isnum e.a 0 (nn - 1) && (isnum e.b 0 (nn - 1) && ltV e.a e.b))), none, none, none] ∧ H2 = H') ?_ ?_
        · walk_at "eo go"
          refine ⟨e.a, 0, nn - 1, rfl, na, ?_⟩
          walk_at "eo go"
          cases hA : isnum e.a 0 (nn - 1) with
          | false =>
            walk_at "eo go"
            exact ⟨rfl, rfl⟩
          | true =>
            walk_at "eo go"
            refine ⟨e.b, 0, nn - 1, rfl, nb, ?_⟩
            walk_at "eo go"
            cases hB : isnum e.b 0 (nn - 1) with
            | false =>
              walk_at "eo go"
              exact ⟨rfl, rfl⟩
            | true =>
              walk_at "eo go"
              obtain ⟨ai, ha⟩ : ∃ i, e.a = .int i := na.resolve_right fun ⟨b, h⟩ => by rw [h] at hA; cases hA
              obtain ⟨bi, hb⟩ : ∃ i, e.b = .int i := nb.resolve_right fun ⟨b, h⟩ => by rw [h] at hB; cases hB
              rw [ha, hb]
              walk_at "eo go"
              exact ⟨rfl, rfl⟩
        · rintro σ2 H2 ⟨rfl, rfl⟩
          have raise : edOk nn e = false → chk (.int nn) es = some ("edge" : Str) := fun h => by
            unfold chk
            rw [hnum, if_neg (by decide), if_pos (List.all_eq_false.mpr ⟨e, hem, by show ¬ edOk nn e = true; rw [h]; decide⟩)]
          walk_at "eo go"
          cases hP : (isnum e.a 0 (nn - 1) && (isnum e.b 0 (nn - 1) && ltV e.a e.b)) with
          | false =>
            refine g_iteDF rfl ?_
            walk_at "eo go"
            exact g_mkO (by decide +kernel) fun d H' q hx => kbad _ (raise (by unfold edOk; rw [hP]; rfl)) d H' q hx
          | true =>
            refine g_iteDT rfl ?_
            walk_at "eo go"
            refine ⟨e.c, 1, 7, rfl, nc, ?_⟩
            walk_at "eo go"
            cases hC : isnum e.c 1 7 with
            | false =>
              walk_at "eo go"
              exact g_mkO (by decide +kernel) fun d H' q hx => kbad _ (raise (by unfold edOk; rw [hP, hC]; rfl)) d H' q hx
            | true =>
              walk_at "eo go"
              refine ⟨e.m, 16, 512, rfl, nm, ?_⟩
              walk_at "eo go"
              cases hM : isnum e.m 16 512 with
              | false =>
                walk_at "eo go"
                exact g_mkO (by decide +kernel) fun d H' q hx => kbad _ (raise (by unfold edOk; rw [hP, hC, hM]; rfl)) d H' q hx
              | true =>
                walk_at "eo go"
                refine ⟨_, _, _, _, _, rfl, rfl, fun j hj e' he' => ?_⟩
                rcases Nat.lt_or_eq_of_le (Nat.le_of_lt_succ hj) with c | c
                · exact hok j c e' he'
                · subst c
                  rw [he] at he'
                  cases he'
                  unfold edOk
                  rw [hP, hC, hM]
                  rfl
      · rintro σ H' ⟨s3, s4, s5, s6, s7, rfl, rfl, hok⟩
        have hall : es.all (edOk nn) = true := List.all_eq_true.mpr fun e he => by
          obtain ⟨j, hj⟩ := List.mem_iff_getElem?.mp he
          exact hok j (by rw [hE.len]; exact (List.getElem?_eq_some_iff.mp hj).1) e hj
        have hprs : ∀ e ∈ es, ∃ a b : Int, e.a = .int a ∧ e.b = .int b ∧ 0 ≤ a ∧ a < 8 ∧ 0 ≤ b ∧ b < 8 := fun e he => by
          have z := List.all_eq_true.mp hall e he
          unfold edOk at z
          simp only [Bool.and_eq_true] at z
          obtain ⟨⟨hA, hB, _⟩, _⟩ := z
          obtain ⟨na, nb, _, _⟩ := hnb e he
          obtain ⟨ai, ha⟩ : ∃ i, e.a = .int i := na.resolve_right fun ⟨b, h⟩ => by rw [h] at hA; cases hA
          obtain ⟨bi, hb⟩ : ∃ i, e.b = .int i := nb.resolve_right fun ⟨b, h⟩ => by rw [h] at hB; cases hB
          rw [ha] at hA
          rw [hb] at hB
          unfold isnum at hA hB
          simp only [Bool.and_eq_true, decide_eq_true_eq] at hA hB
          exact ⟨ai, bi, ha, hb, by omega, by omega, by omega, by omega⟩
        walk_at "eo go"
        refine g_lcW (walk_tup (xs := xs)) (fun Dd i H2 acc => Ext [] H' H2 ∧ H' Dd = none ∧ PrsAt H2 acc ((es.take i).map Ed.pr)) ?_ ?_ ?_ ?_
        · intro Dd H2 n e h
          exact ⟨e, n, trivial⟩
        · rintro Dd i H2 acc hi ⟨e, n, _⟩
          exact sqT_ext e h2
        · rintro Dd i x H1 H2 acc hi ⟨e, n, hp⟩ hd ⟨rfl, hx⟩
          obtain ⟨ed, he, t, rfl, ht⟩ := hE.get hx
          obtain ⟨a, b, ha, hb, _⟩ := hprs ed (List.mem_of_getElem? he)
          have ht2 := sqT_ext e ht
          rw [ha, hb] at ht2
          walk_at "eo go"
          refine ⟨rfl, ?_⟩
          walk_at "eo go"
          rename_i tq Hq nq eq hq
          have hal : acc.length ≤ 60 := by rw [hp.len, List.length_map, List.length_take]; omega
          refine ⟨eq.keep _ _ hd nin0, by rw [sizeLine_eq]; omega, fun H5 e5 h5 => ⟨?_, n, ?_⟩⟩
          · exact (e.trans eq (fun _ z => z) (fun _ z => by cases z)).trans e5 (fun _ z => z) (fun x hx ⟨o, ho⟩ => by rw [List.mem_singleton.mp hx, n] at ho; cases ho)
          · have ep : Ed.pr ed = (a, b) := by unfold Ed.pr; rw [ha, hb]; rfl
            rw [List.take_succ, he, List.map_append]
            refine ((hp.ext eq).ext e5).snoc ?_
            rw [ep]
            exact ⟨tq, rfl, e5.imm _ _ hq rfl⟩
        · rintro Dd H2 acc ⟨e, n, hp⟩ hd
          rw [hE.len, List.take_length] at hp
          have hal : acc.length = es.length := by rw [hp.len, List.length_map]
          walk_at "eo go"
          refine g_dct ?_
          walk_at "eo go"
          refine g_itLd (SqL.of hd) ?_
          refine g_dcW (walk_list (xs := acc)) (fun D i H3 kvs => Ext [] H2 H3 ∧ H2 D = none ∧ kvs = kd (dd [] ((es.map Ed.pr).take i))) ?_ ?_ ?_ ?_
          · intro D H3 n e h
            exact ⟨e, n, rfl⟩
          · rintro D i H3 kvs hi ⟨e, n, _⟩
            exact SqL.of (e.keep _ _ hd nin0)
          · rintro D i x H1 H3 kvs hi ⟨e3, n3, rfl⟩ hD ⟨rfl, hx⟩
            obtain ⟨p, hp1, t, rfl, ht⟩ := hp.get hx
            have hlk : (kd (dd [] ((es.map Ed.pr).take i))).length < sizeLine := by
              unfold kd
              rw [List.length_map]
              have := dd_len ((es.map Ed.pr).take i) []
              rw [List.length_take, List.length_map] at this
              rw [sizeLine_eq]
              simp only [List.length_nil] at this
              omega
            walk_at "eo go"
            refine ⟨rfl, ?_⟩
            walk_at "eo go"
            refine ⟨kP p, t, rfl, e3.imm _ _ ht rfl, hD, hlk, fun H6 e6 h6 => ⟨?_, n3, ?_⟩⟩
            · exact e3.trans e6 (fun _ z => z) (fun x hx ⟨o, ho⟩ => by rw [List.mem_singleton.mp hx, n3] at ho; cases ho)
            · rw [put_kd, List.take_succ, hp1]
              show kd _ = kd (dd [] ((es.map Ed.pr).take i ++ [p]))
              rw [dd_snoc]
          · rintro D H3 kvs ⟨e3, n3, rfl⟩ hD
            have hP : (es.map Ed.pr).take acc.length = es.map Ed.pr := by rw [hal, ← List.length_map (as := es) Ed.pr, List.take_length]
            rw [hP] at hD
            have hdl := dd_len (es.map Ed.pr) []
            rw [List.length_map] at hdl
            simp only [List.length_nil] at hdl
            have hrng : ∀ p ∈ es.map Ed.pr, Rng p := fun p hp => by
              obtain ⟨e, he, rfl⟩ := List.mem_map.mp hp
              obtain ⟨a, b, ha, hb, h⟩ := hprs e he
              unfold Ed.pr Rng
              rw [ha, hb]
              show 0 ≤ a ∧ a < 100 ∧ 0 ≤ b ∧ b < 100
              omega
            walk_at "eo go"
            refine ⟨D, kd (dd [] (es.map Ed.pr)), rfl, hD, by unfold kd; rw [List.length_map]; omega, fun kv hkv => ?_, fun qs ys p hpair hperm hpw hpn => ?_⟩
            · obtain ⟨p, hp, rfl⟩ := List.mem_map.mp hkv
              have r := hrng p ((dd_mem _ _ _ hp).resolve_left (by simp))
              refine ⟨[p.1, p.2], rfl, rfl, fun m hm => ?_⟩
              unfold Rng at r
              simp only [List.mem_cons, List.not_mem_nil, or_false] at hm
              rcases hm with rfl | rfl <;> omega
            · have e4 : Ext [] H3 (upd H3 p (.lst ys)) := Ext.new hpn
              obtain ⟨Y, hY1, hY2⟩ := perm_prs hperm (paired_prs hpair)
              have hY3 := prs_pw hY2 hpw
              have key := sort_same hrng hY1 hY3
              refine g_nePrs (SqL.of (e4.keep _ _ (e3.keep _ _ hd nin0) nin0)) (SqL.of upd_same) ((hp.ext e3).ext e4) (hY2.ext e4) ?_
              have eAll : Ext [] H' (upd H3 p (.lst ys)) := (e.trans e3 (fun _ z => z) (fun _ z => by cases z)).trans e4 (fun _ z => z) (fun _ z => by cases z)
              walk_at "eo go"
              cases hinc : inc (es.map Ed.pr) with
              | true =>
                have hPY := key.mpr hinc
                refine g_iteDF (by rw [decide_eq_true hPY]; rfl) ?_
                walk_at "eo go"
                exact kok (by unfold chk; rw [hnum, if_neg (by decide), show vI (.int nn) = nn from rfl, hall, if_neg (by decide), hinc, if_neg (by decide)]) _ eAll
              | false =>
                have hPY : ¬ es.map Ed.pr = Y := fun c => by have z := key.mp c; rw [hinc] at z; cases z
                refine g_iteDT (by rw [decide_eq_false hPY]; rfl) ?_
                refine g_mkO (by decide +kernel) fun d H' q hx => kbad _ (by unfold chk; rw [hnum, if_neg (by decide), show vI (.int nn) = nn from rfl, hall, if_neg (by decide), hinc, if_pos rfl]) d H' (eAll.trans q (fun _ z => z) (fun _ z => by cases z)) hx
theorem ok_law_begin {A : Adr} (T : Txt P K mg A) : FnOk P w K mg base CX0 1 A.f_law_begin A.d_law_begin ["script"] (spBegin K) := by
  refine T.law_begin.F.ok sc_law_begin (fun vs H Q E h => ?_) (fun cdv Ar outer s H vs Q E hr h => ?_)
  · obtain ⟨a, ns, rfl, _⟩ := h
    rfl
  · obtain ⟨a, ns, rfl, hS, hlen, k⟩ := h
    refine ⟨_, (pss_cons (ps_set (i := 1) sc_law_begin.nd rfl (Or.inl rfl) pe_int)
      (pss_cons (ps_for PassesOwn.never rfl (pi_list (pv 0)) (pg_name (i := 2) sc_law_begin.nd rfl (Or.inl rfl)) (pss_one (ps_set (i := 1) sc_law_begin.nd rfl (Or.inl rfl) (pe_op op_mod (pe_op o_add (pe_op o_add (pe_op o_mul (pv 1) pe_int) (pe_op op_mod (pe_callTy (T := "int") o_int (by rfl) T.b_int (by decide +kernel) (pa_cons (pv 2) pa_nil)) pe_int)) pe_int) pe_int))))
      (pss_one (ps_ret (pe_lstX (pa_cons (pe_callTy (T := "list") o_list (by rfl) T.b_list (by decide +kernel) (pa_cons (pv 0) pa_nil)) (pa_cons pe_int (pa_cons pe_int (pa_cons (pv 1) pa_nil))))))))), ?_⟩
    walk_at "eo init"
    walk_at "eo go"
    refine g_forL (ns.map V.int) hS (fun i σ H' => ∃ (z : Int) (c : Option V), σ = [some (.ref a), some (.int z), c] ∧ H' = H) ⟨1, none, rfl, rfl⟩ (fun i σ H' _ ⟨_, _, _, e⟩ => by rw [e]; exact hS) ?_ ?_
    · rintro i x σ H' hi ⟨z, c, rfl, rfl⟩
      obtain ⟨n, _, rfl⟩ := mem_map_int hi
      walk_at "eo go"
      exact ⟨_, _, rfl, rfl⟩
    · rintro σ H' ⟨z, c, rfl, rfl⟩
      walk_at "eo go"
      rename_i s1 H1 hs1 e1 hl d1 H2 hd1 e2 hd
      have f1 : H2 s1 = some (.lst (ns.map V.int)) := by walk_at "eo fact"
      exact k d1 s1 H2 (by walk_at "eo free") hs1 (by walk_at "eo ext") ⟨(ne_of_none hl hd1).symm, ns, 0, 0, z, hd, f1, hlen, Int.le_refl _, Int.le_refl _⟩
theorem ok_law_take {A : Adr} (T : Txt P K mg A) : FnOk P w K mg base CX0 1 A.f_law_take A.d_law_take ["d", "many"] spTake := by
  refine T.law_take.F.ok sc_law_take (fun vs H Q E h => ?_) (fun cdv Ar outer s H vs Q E hr h => ?_)
  · obtain ⟨d, s, many, rfl, _⟩ := h
    rfl
  · obtain ⟨d, s, many, rfl, ⟨ne, ns, pos, cur, seed, hd, hs, hlen, hp, hc⟩, hm, hm2, k⟩ := h
    refine ⟨_, (pss_cons (ps_if (PW.pt (pw_and (pt_cmpR (o_eq hr.units) (pe_ix ix_seq (pv 0) pe_int (fun _ _ => rfl)) pe_int (nomark _)) (pw_and1 (pt_cmpR op_lt (pe_ix ix_seq (pv 0) pe_int (fun _ _ => rfl)) (pe_callB (id := "len") o_len (by rfl) T.b_len (by decide +kernel) (pa_cons (pe_ix ix_seq (pv 0) pe_int (fun _ _ => rfl)) pa_nil)) (nomark _))))) (pss_cons (ps_asg (pe_callB (id := "abs") o_abs (by rfl) T.b_abs (by decide +kernel) (pa_cons (pe_callTy (T := "int") o_int (by rfl) T.b_int (by decide +kernel) (pa_cons (pe_ix ix_seq (pe_ix ix_seq (pv 0) pe_int (fun _ _ => rfl)) (pe_ix ix_seq (pv 0) pe_int (fun _ _ => rfl)) (fun _ _ => rfl)) pa_nil)) pa_nil)) (pg_sub (pv 0) pe_int set_list))
      (pss_cons (ps_asg (pe_op o_add (pe_ix ix_seq (pv 0) pe_int (fun _ _ => rfl)) pe_int) (pg_sub (pv 0) pe_int set_list))
      (pss_one (ps_if (pt_chain op_lt op_lt pe_int (pe_ix ix_seq (pv 0) pe_int (fun _ _ => rfl)) (pv 1)) (pss_cons (ps_set (i := 2) sc_law_take.nd rfl (Or.inl rfl) (pe_ix ix_seq (pv 0) pe_int (fun _ _ => rfl)))
      (pss_cons (ps_asg pe_int (pg_sub (pv 0) pe_int set_list))
      (pss_one (ps_ret (pv 2))))) pss_nil)))) pss_nil)
      (pss_cons (ps_if (pt_cmpR op_gt (pe_ix ix_seq (pv 0) pe_int (fun _ _ => rfl)) pe_int (nomark _)) (pss_cons (ps_set (i := 3) sc_law_take.nd rfl (Or.inl rfl) (pe_op op_mod (pe_callTy (T := "int") o_int (by rfl) T.b_int (by decide +kernel) (pa_cons (pe_ix ix_seq (pv 0) pe_int (fun _ _ => rfl)) pa_nil)) (pv 1)))
      (pss_cons (ps_asg (pe_op op_fdivW (pe_callTy (T := "int") o_int (by rfl) T.b_int (by decide +kernel) (pa_cons (pe_ix ix_seq (pv 0) pe_int (fun _ _ => rfl)) pa_nil)) (pv 1)) (pg_sub (pv 0) pe_int set_list))
      (pss_one (ps_ret (pv 3))))) pss_nil)
      (pss_cons (ps_asg (pe_op op_mod (pe_callTy (T := "int") o_int (by rfl) T.b_int (by decide +kernel) (pa_cons (pe_op o_add (pe_op o_mul (pe_ix ix_seq (pv 0) pe_int (fun _ _ => rfl)) pe_int) pe_int) pa_nil)) pe_int) (pg_sub (pv 0) pe_int set_list))
      (pss_one (ps_ret (pe_op op_mod (pe_callTy (T := "int") o_int (by rfl) T.b_int (by decide +kernel) (pa_cons (pe_op op_fdivW (pe_ix ix_seq (pv 0) pe_int (fun _ _ => rfl)) pe_int) pa_nil)) (pv 1))))))), ?_⟩
    walk_at "eo init"
    have nsd : s ≠ d := ne.symm
    have leaf : ∀ (x : Int) (H1 : Hp) (pos cur seed : Int), Ext [d] H H1 → H1 d = some (.lst [.ref s, .int pos, .int cur, .int seed]) → 0 ≤ pos → 0 ≤ cur → Q (.int (x % many)) H1 := fun x H1 p c sd e h1 p1 p2 =>
      k _ _ (Int.emod_nonneg _ (by omega)) (Int.emod_lt_of_pos _ hm) e ⟨ne, ns, p, c, sd, h1, e.keep _ _ hs (nin1 nsd), hlen, p1, p2⟩
    walk_at "eo go"
    refine g_ite (fun h1 => ?_) (fun h1 => ?_)
    · have h1' := vint (dec_t h1)
      subst h1'
      walk_at "eo go"
      refine g_ite (fun h2 => ?_) (fun h2 => ?_)
      · have h2' := dec_t h2
        have hpl : pos.toNat < ns.length := by rw [List.length_map] at h2'; omega
        have ha : (ns.map V.int)[pos.toNat]? = some (.int ns[pos.toNat]) := by simp [hpl]
        walk_at "eo go"
        refine g_ite (fun h3 => ?_) (fun h3 => ?_)
        · walk_at "eo go"
          refine g_ite (fun h4 => ?_) (fun h4 => ?_)
          · have h4' := dec_t h4
            walk_at "eo go"
            rename_i e3 f3
            exact k _ _ (by omega) h4' (by walk_at "eo ext") ⟨ne, ns, _, _, _, f3, by walk_at "eo fact", hlen, by omega, by omega⟩
          · walk_at "eo go"
            rename_i H9 _ f9
            exact leaf _ _ _ _ _ (by walk_at "eo ext") f9 (by omega) (Int.ediv_nonneg (by omega) (Int.le_of_lt hm))
        · walk_at "eo go"
          rename_i H9 _ f9
          exact leaf _ _ _ _ _ (by walk_at "eo ext") f9 (by omega) (by omega)
      · walk_at "eo go"
        rename_i H9 _ f9
        exact leaf _ _ _ _ _ (by walk_at "eo ext") f9 hp hc
    · have h1' : ¬ cur = 0 := fun z => dec_f h1 (by rw [z])
      have h3 : decide (0 < cur) = true := decide_eq_true (by omega)
      walk_at "eo go"
      rename_i H9 _ f9
      exact leaf _ _ _ _ _ (by walk_at "eo ext") f9 hp (Int.ediv_nonneg hc (Int.le_of_lt hm))
theorem ok_law_pick {A : Adr} (T : Txt P K mg A) : FnOk P w K mg base CX0 2 A.f_law_pick A.d_law_pick ["d", "menu"] (spPick K) := by
  refine T.law_pick.F.ok sc_law_pick (fun vs H Q E h => ?_) (fun cdv Ar outer s H vs Q E hr h => ?_)
  · obtain ⟨d, s, m, xs, rfl, _⟩ := h
    rfl
  · obtain ⟨d, s, m, xs, rfl, hD, hm, nmd, h0, h1, k⟩ := h
    refine ⟨_, (pss_one (ps_ret (pe_ix ix_seq (pv 1) (pe_call (ok_law_take T) (hr.mono (by decide)) (by rfl) T.law_take.mg T.law_take.kp T.law_take.b .nil pass0 (pa_cons (pv 0) (pa_cons (pe_callB (id := "len") o_len (by rfl) T.b_len (by decide +kernel) (pa_cons (pv 1) pa_nil)) pa_nil))) (fun _ _ => rfl)))), ?_⟩
    walk_at "eo init"
    walk_at "eo go"
    refine ⟨d, s, _, rfl, hD, by omega, by omega, fun i H' i0 i1 e D' => ?_⟩
    have hi : i.toNat < xs.length := by omega
    have ha : xs[i.toNat]? = some xs[i.toNat] := by simp [hi]
    have hm' : SqL K H' m xs := sqL_ext e hm fun _ _ => nin1 nmd
    walk_at "eo go"
    exact k _ _ (List.getElem_mem hi) e D'
section
variable {K : PySem.W.Frag} {H : Hp} {Q : VK} {E : XK}
theorem g_take {d s : Addr} {many : Int} (hD : DSt H d s) (h0 : 0 < many) (h1 : many < 2 ^ 64) (h : ∀ k H', 0 ≤ k → k < many → Ext [d] H H' → DSt H' d s → Q (.int k) H') : spTake ([.ref d, .int many] ++ []) H Q E := ⟨d, s, many, rfl, hD, h0, h1, h⟩
theorem g_pick {d s m : Addr} {xs : List V} (hD : DSt H d s) (hm : SqL K H m xs) (ne : m ≠ d) (h0 : 0 < xs.length) (h1 : xs.length < 1000) (h : ∀ v H', v ∈ xs → Ext [d] H H' → DSt H' d s → Q v H') : spPick K ([.ref d, .ref m] ++ []) H Q E := ⟨d, s, m, xs, rfl, hD, hm, ne, h0, h1, h⟩
end
def spOct (K : PySem.W.Frag) : Sp := fun vs H Q _ => ∃ (d s : Addr) (most : Int), vs = [.ref d, .int most] ∧ DSt H d s ∧ 0 ≤ most ∧ most < 1000 ∧
  ∀ (c : Addr) (ns : List Int) (H' : Hp), Ext [d] H H' → DSt H' d s → SqT K H' c (ns.map V.int) → (∀ x ∈ ns, 0 ≤ x ∧ x ≤ 255) → (ns.length : Int) ≤ most → Q (.ref c) H'
theorem g_oct {K : PySem.W.Frag} {H : Hp} {Q : VK} {E : XK} {d s : Addr} {most : Int} (hD : DSt H d s) (h0 : 0 ≤ most) (h1 : most < 1000)
    (h : ∀ (c : Addr) (ns : List Int) (H' : Hp), Ext [d] H H' → DSt H' d s → SqT K H' c (ns.map V.int) → (∀ x ∈ ns, 0 ≤ x ∧ x ≤ 255) → (ns.length : Int) ≤ most → Q (.ref c) H') : spOct K ([.ref d, .int most] ++ []) H Q E := ⟨d, s, most, rfl, hD, h0, h1, h⟩
local macro_rules | `(tactic| walk_at "eo step") => `(tactic| first
  | ((with_reducible apply g_take); (walk_at "eo dst"); (walk_at "eo arith"); (walk_at "eo arith"); intro _ _ _ _ _ _)
  | ((with_reducible apply g_pick); (walk_at "eo dst"); (walk_at "eo sqL"); (walk_at "eo ne"); (walk_at "eo pos"); (walk_at "eo pos"); intro _ _ _ _ _)
  | ((with_reducible apply g_oct); (walk_at "eo dst"); (walk_at "eo arith"); (walk_at "eo arith"); intro _ _ _ _ _ _ _ _))
local macro_rules | `(tactic| walk_at "eo pos") => `(tactic| first | exact Nat.zero_lt_succ _ | exact lt1000)
theorem ok_neighbours_of {A : Adr} (T : Txt P K mg A) : FnOk P w K mg base CX0 1 A.f_neighbours_of A.d_neighbours_of ["topology", "node"] (spNb K) := by
  refine T.neighbours_of.F.ok sc_neighbours_of (fun vs H Q E h => ?_) (fun cdv Ar outer s H vs Q E hr h => ?_)
  · obtain ⟨tp, te, n, ds, v, rfl, _⟩ := h
    rfl
  · obtain ⟨tp, te, n, ds, v, rfl, ⟨ht, xs, hx, hE⟩, hl, k⟩ := h
    refine ⟨_, (pss_cons (ps_set (i := 2) sc_neighbours_of.nd rfl (Or.inl rfl) pe_dnewK)
      (pss_cons (ps_for PassesOwn.never rfl (pi_tup (pe_ix ix_seq (pv 0) pe_int (fun _ _ => rfl))) (pg_tup (n := 4) rfl (pgs_cons (pg_name (i := 3) sc_neighbours_of.nd rfl (Or.inl rfl)) (pgs_cons (pg_name (i := 4) sc_neighbours_of.nd rfl (Or.inl rfl)) (pgs_cons (pg_name (i := 5) sc_neighbours_of.nd rfl (Or.inl rfl)) (pgs_cons (pg_name (i := 6) sc_neighbours_of.nd rfl (Or.inl rfl)) pgs_nil))))) (pss_one (ps_if (pt_cmpR op_in_seq (pv 1) (pe_tupX (pa_cons (pv 3) (pa_cons (pv 4) pa_nil))) rfl) (pss_one (ps_dput (u1 hr.units) (pv 2) (pe_ifExp (pt_cmpR (o_eq hr.units) (pv 1) (pv 3) (nomark _)) (pv 4) (pv 3)) (pv 5) rfl)) pss_nil)))
      (pss_one (ps_ret (pv 2))))), ?_⟩
    have hxl : xs.length = ds.length := by rw [hE.len, List.length_map]
    walk_at "eo init"
    walk_at "eo go"
    rename_i D H1 n1 e1 h1
    refine g_forT xs (fun i σ H' => ∃ s3 s4 s5 s6 kv, σ = [some (.ref tp), some (.int v), some (.ref D), s3, s4, s5, s6] ∧ Ext [] H H' ∧ H' D = some (.dK kv) ∧ kv.length ≤ i ∧ nbK v (ds.drop i) kv = nbK v ds []) ⟨_, _, _, _, [], rfl, e1, h1, Nat.le_refl _, by rw [List.drop_zero]⟩ (fun i σ H' _ ⟨_, _, _, _, _, _, e, _⟩ => sqT_ext e hx) ?_ ?_
    · rintro i x σ H' hi ⟨s3, s4, s5, s6, kv, rfl, e, hD, hk, hn⟩
      obtain ⟨d, hd, t, rfl, hd4⟩ := top_get hE hi
      have hd4 := sqT_ext e hd4
      have hi' : i < xs.length := (List.getElem?_eq_some_iff.mp hi).1
      rw [drop_at hd] at hn
      rw [nbK_cons] at hn
      have hkl : kv.length < 1000 := by omega
      walk_at "eo go"
      rename_i tq H2 n2 e2 h2
      rw [inV2]
      refine g_ite (fun z => ?_) (fun z => ?_)
      · rw [if_pos (dec_t z)] at hn
        have hD2 := e2.keep _ _ hD nin0
        walk_at "eo go"
        by_cases c : v = d.a
        · rw [if_pos c] at hn
          refine g_iteDT (decide_eq_true (congrArg V.int c)) ?_
          walk_at "eo go"
          rename_i H3 e3 h3
          refine ⟨_, _, _, _, _, rfl, (e.trans e2 (fun _ z => z) (fun _ z => by cases z)).trans e3 (fun _ z => z) (fun x hx ⟨o, ho⟩ => by rw [List.mem_singleton.mp hx, n1] at ho; cases ho), h3, Nat.le_trans (length_putK _ _ _) (by omega), hn⟩
        · rw [if_neg c] at hn
          refine g_iteDF (decide_eq_false (fun y => c (vint y))) ?_
          walk_at "eo go"
          rename_i H3 e3 h3
          refine ⟨_, _, _, _, _, rfl, (e.trans e2 (fun _ z => z) (fun _ z => by cases z)).trans e3 (fun _ z => z) (fun x hx ⟨o, ho⟩ => by rw [List.mem_singleton.mp hx, n1] at ho; cases ho), h3, Nat.le_trans (length_putK _ _ _) (by omega), hn⟩
      · rw [if_neg (dec_f z)] at hn
        walk_at "eo go"
        exact ⟨_, _, _, _, kv, rfl, e.trans e2 (fun _ z => z) (fun _ z => by cases z), e2.keep _ _ hD nin0, by omega, hn⟩
    · rintro σ H' ⟨s3, s4, s5, s6, kv, rfl, e, hD, hk, hn⟩
      rw [hxl, List.drop_length] at hn
      walk_at "eo go"
      refine k D H' e n1 ?_
      rw [← hn]
      exact hD
theorem ok_most_on {A : Adr} (T : Txt P K mg A) : FnOk P w K mg base CX0 1 A.f_most_on A.d_most_on ["topology", "one", "other"] (spMost K) := by
  refine T.most_on.F.ok sc_most_on (fun vs H Q E h => ?_) (fun cdv Ar outer s H vs Q E hr h => ?_)
  · obtain ⟨tp, te, n, ds, x, y, rfl, _⟩ := h
    rfl
  · obtain ⟨tp, te, n, ds, x, y, rfl, ⟨ht, xs, hx, hE⟩, k⟩ := h
    refine ⟨_, (pss_cons (ps_set (i := 3) sc_most_on.nd rfl (Or.inl rfl) (pe_tupX (pa_cons (pe_callB (id := "min") (o_min rfl) (by rfl) T.b_min (by decide +kernel) (pa_cons (pv 1) (pa_cons (pv 2) pa_nil))) (pa_cons (pe_callB (id := "max") (o_max rfl) (by rfl) T.b_max (by decide +kernel) (pa_cons (pv 1) (pa_cons (pv 2) pa_nil))) pa_nil))))
      (pss_cons (ps_for PassesOwn.never rfl (pi_tup (pe_ix ix_seq (pv 0) pe_int (fun _ _ => rfl))) (pg_tup (n := 4) rfl (pgs_cons (pg_name (i := 4) sc_most_on.nd rfl (Or.inl rfl)) (pgs_cons (pg_name (i := 5) sc_most_on.nd rfl (Or.inl rfl)) (pgs_cons (pg_name (i := 6) sc_most_on.nd rfl (Or.inl rfl)) (pgs_cons (pg_name (i := 7) sc_most_on.nd rfl (Or.inl rfl)) pgs_nil))))) (pss_one (ps_if (pt_cmpR (o_eq hr.units) (pe_tupX (pa_cons (pv 4) (pa_cons (pv 5) pa_nil))) (pv 3) (nomark _)) (pss_one (ps_ret (pv 7))) pss_nil)))
      (pss_one (ps_ret pe_int)))), ?_⟩
    have hxl : xs.length = ds.length := by rw [hE.len, List.length_map]
    walk_at "eo init"
    walk_at "eo go"
    rename_i pr H1 n1 e1 h1
    refine g_forT xs (fun i σ H' => ∃ s4 s5 s6 s7, σ = [some (.ref tp), some (.int x), some (.int y), some (.ref pr), s4, s5, s6, s7] ∧ Ext [] H H' ∧ H' pr = some (.tup [.int (min x y), .int (max x y)]) ∧ mo (ds.drop i) (min x y) (max x y) = mo ds (min x y) (max x y)) ⟨_, _, _, _, rfl, e1, h1, by rw [List.drop_zero]⟩ (fun i σ H' _ ⟨_, _, _, _, _, e, _⟩ => sqT_ext e hx) ?_ ?_
    · rintro i x' σ H' hi ⟨s4, s5, s6, s7, rfl, e, hp, hn⟩
      obtain ⟨d, hd, t, rfl, hd4⟩ := top_get hE hi
      have hd4 := sqT_ext e hd4
      rw [drop_at hd] at hn
      rw [mo_cons] at hn
      walk_at "eo go"
      rename_i tq H2 n2 e2 h2
      refine g_eqPr (p := (d.a, d.b)) (r := (min x y, max x y)) (SqT.of h2) (SqT.of (e2.imm _ _ hp rfl)) ?_
      walk_at "eo go"
      refine g_ite (fun z => ?_) (fun z => ?_)
      · have z' := dec_t z
        have z1 : d.a = min x y := congrArg Prod.fst z'
        have z2 : d.b = max x y := congrArg Prod.snd z'
        rw [if_pos ⟨z1, z2⟩] at hn
        walk_at "eo go"
        have := k H2 (e.trans e2 (fun _ z => z) (fun _ z => by cases z))
        rw [← hn] at this
        exact this
      · have z' := dec_f z
        rw [if_neg (fun q => z' (Prod.ext q.1 q.2))] at hn
        walk_at "eo go"
        exact ⟨_, _, _, _, rfl, e.trans e2 (fun _ z => z) (fun _ z => by cases z), e2.imm _ _ hp rfl, hn⟩
    · rintro σ H' ⟨s4, s5, s6, s7, rfl, e, hp, hn⟩
      rw [hxl, List.drop_length] at hn
      walk_at "eo go"
      have := k H' e
      rw [← hn] at this
      exact this
theorem ok_least_costs {A : Adr} (T : Txt P K mg A) : FnOk P w K mg base CX0 1 A.f_least_costs A.d_least_costs ["topology", "node", "down"] (spLeast K) := by
  refine T.least_costs.F.ok sc_least_costs (fun vs H Q E h => ?_) (fun cdv Ar outer s H vs Q E hr h => ?_)
  · obtain ⟨tp, te, n, ds, v, dn, ps, rfl, _⟩ := h
    rfl
  · obtain ⟨tp, te, n, ds, v, dn, ps, rfl, ⟨ht, xs, hx, hE⟩, W, v0, v1, ⟨dx, hd1, hd2⟩, k⟩ := h
    refine ⟨_, (pss_cons (ps_asg (pv 0) (pg_tup (n := 2) rfl (pgs_cons (pg_name (i := 3) sc_least_costs.nd rfl (Or.inl rfl)) (pgs_cons (pg_name (i := 4) sc_least_costs.nd rfl (Or.inl rfl)) pgs_nil))))
      (pss_cons (ps_set (i := 5) sc_least_costs.nd rfl (Or.inr rfl) (pe_disp (pps_cons (pv 1) pe_int pps_nil) (by rfl) (by rfl) (fun z => by cases z) (by decide)))
      (pss_cons (ps_for PassesOwn.never rfl (pi_range1 (by rfl) T.b_range (pa_cons (pv 3) pa_nil)) (pg_name (i := 6) sc_least_costs.nd rfl (Or.inl rfl)) (pss_one (ps_for PassesOwn.never rfl (pi_tup (pv 4)) (pg_tup (n := 4) rfl (pgs_cons (pg_name (i := 7) sc_least_costs.nd rfl (Or.inl rfl)) (pgs_cons (pg_name (i := 8) sc_least_costs.nd rfl (Or.inl rfl)) (pgs_cons (pg_name (i := 9) sc_least_costs.nd rfl (Or.inl rfl)) (pgs_cons (pg_name (i := 6) sc_least_costs.nd rfl (Or.inl rfl)) pgs_nil))))) (pss_cons (ps_if (pt_cmpR (o_in_data (r65 hr)) (pe_tupX (pa_cons (pv 7) (pa_cons (pv 8) pa_nil))) (pv 2) rfl) (pss_one ps_continue) pss_nil)
      (pss_one (ps_for PassesOwn.never rfl (pi_tup (pe_tupX (pa_cons (pe_tupX (pa_cons (pv 7) (pa_cons (pv 8) pa_nil))) (pa_cons (pe_tupX (pa_cons (pv 8) (pa_cons (pv 7) pa_nil))) pa_nil)))) (pg_tup (n := 2) rfl (pgs_cons (pg_name (i := 10) sc_least_costs.nd rfl (Or.inl rfl)) (pgs_cons (pg_name (i := 11) sc_least_costs.nd rfl (Or.inl rfl)) pgs_nil))) (pss_one (ps_if (PW.pt (pw_and (pt_cmp (pc_din (u1 hr.units) (pv 10) (pv 5))) (pw_and1 (pt_cmpR op_lt (pe_op o_add (pe_dget (u1 hr.units) (pv 5) (pv 10) (fun _ _ => rfl)) (pv 9)) (pe_dget2 (u1 hr.units) (pv 5) (pv 11) (pe_op o_add (pe_op o_add (pe_dget (u1 hr.units) (pv 5) (pv 10) (fun _ _ => rfl)) (pv 9)) pe_int) ⟨rfl, rfl, rfl, rfl⟩) (nomark _))))) (pss_one (ps_dput (u1 hr.units) (pv 5) (pv 11) (pe_op o_add (pe_dget (u1 hr.units) (pv 5) (pv 10) (fun _ _ => rfl)) (pv 9)) rfl)) pss_nil))))))))
      (pss_one (ps_ret (pe_callTy (T := "tuple") o_tuple (by rfl) T.b_tuple (by decide +kernel) (pa_cons (pe_lc (own := [("own", 12)]) (tt := stT tYes) rfl sc_least_costs.nd (pi_range1 (by rfl) T.b_range (pa_cons (pv 3) pa_nil)) (blkOk_by (own := [("own", 12)]) (N := ["topology", "node", "down", "n", "edges", "found", "_", "a", "b", "cost", "one", "other", "own"]) (sc := defScope s_least_costs) (by decide +kernel)) (fun _ _ _ _ _ => PG.star (pg_name (i := 12) sc_least_costs.nd rfl (Or.inl rfl) (Or.inr rfl))) (fun _ _ _ _ _ => PTs.star (pts_nil)) (fun _ _ _ _ _ => PE.star (pe_dget2 (u1 hr.units) (pv 5) (pv 12) pe_non ⟨rfl, rfl, rfl, rfl⟩))) pa_nil))))))), ?_⟩
    have hxl : xs.length = ds.length := by rw [hE.len, List.length_map]
    have hn1 := W.n1
    have hn8 := W.n8
    have hl56 := W.len
    walk_at "eo init"
    walk_at "eo go"
    refine g_disp1 (k := v) (z := 0) (fun H Q q => ⟨_, rfl, q⟩) (fun H Q q => q) fun D H1 n1 e1 h1 => ?_
    walk_at "eo go"
    have grow : ∀ {H' H2 : Hp}, Ext [] H H' → Ext [D] H' H2 → Ext [] H H2 := fun {H' H2} e f => e.trans f (fun _ z => z) (fun x hx ⟨o, ho⟩ => by rw [List.mem_singleton.mp hx, n1] at ho; cases ho)
    have grow0 : ∀ {H' H2 : Hp}, Ext [] H H' → Ext [] H' H2 → Ext [] H H2 := fun {H' H2} e f => e.trans f (fun _ z => z) (fun _ z => by cases z)
    refine g_forR (fun i σ H' => ∃ s6 s7 s8 s9 s10 s11 kv, σ = [some (.ref tp), some (.int v), some (.ref dn), some (.int n), some (.ref te), some (.ref D), s6, s7, s8, s9, s10, s11, none] ∧ Ext [] H H' ∧ H' D = some (.dK kv) ∧ FD kv (rnds (fun p => decide (p ∈ ps)) ds i (g0 v)) ∧ kv.length ≤ 1 + i * 120) ⟨_, _, _, _, _, _, _, rfl, e1, h1, fun k => ?_, (show 1 ≤ 1 by decide)⟩ ?_ ?_
    · show valV [(Sum.inl v, V.int 0)] (.inl k) = (g0 v k).map V.int
      unfold g0
      by_cases c : k = v
      · subst c; rw [valV_pos rfl, if_pos rfl]; rfl
      · rw [valV_neg (fun e => c (Sum.inl.inj e).symm), if_neg c]; rfl
    · rintro i σ H' hi ⟨s6, s7, s8, s9, s10, s11, kv, rfl, e, hD, hf, hk⟩
      have i8 : i < 8 := by omega
      have hx' := sqT_ext e hx
      walk_at "eo go"
      refine g_forT xs (fun j σ H' => ∃ s6 s7 s8 s9 s10 s11 kv, σ = [some (.ref tp), some (.int v), some (.ref dn), some (.int n), some (.ref te), some (.ref D), s6, s7, s8, s9, s10, s11, none] ∧ Ext [] H H' ∧ H' D = some (.dK kv) ∧ FD kv ((ds.take j).foldl (rd fun p => decide (p ∈ ps)) (rnds (fun p => decide (p ∈ ps)) ds i (g0 v))) ∧ kv.length ≤ 1 + i * 120 + 2 * j) ⟨_, _, _, _, _, _, kv, rfl, e, hD, hf, hk⟩ (fun j σ H' _ ⟨_, _, _, _, _, _, _, _, e, _⟩ => sqT_ext e hx) ?_ ?_
      · clear hD hf hk e hx'
        rintro j x σ H' hj ⟨s6, s7, s8, s9, s10, s11, kv, rfl, e, hD, hf, hk⟩
        obtain ⟨d, hd, t, rfl, hd4⟩ := top_get hE hj
        have hd4 := sqT_ext e hd4
        have hj' : j < xs.length := (List.getElem?_eq_some_iff.mp hj).1
        rw [foldl_take hd]
        generalize hG : (ds.take j).foldl (rd fun p => decide (p ∈ ps)) (rnds (fun p => decide (p ∈ ps)) ds i (g0 v)) = G at hf
        walk_at "eo go"
        rename_i tq H2 n2 e2 h2
        refine g_inDn (p := d.pr) (SqT.of h2) ⟨dx, sqT_ext e2 (sqT_ext e hd1), (hd2.ext e).ext e2⟩ ?_
        have hD2 := e2.keep _ _ hD nin0
        walk_at "eo go"
        cases hdn : decide (d.pr ∈ ps) with
        | true =>
          refine g_iteDT rfl ?_
          walk_at "eo go"
          refine ⟨_, _, _, _, _, _, kv, rfl, grow0 e e2, hD2, ?_, by omega⟩
          unfold rd
          rw [if_pos hdn]
          exact hf
        | false =>
          refine g_iteDF rfl ?_
          walk_at "eo go"
          rename_i t1 H3 n3 e3 h3 t2 H4 n4 e4 h4 t3 H5 n5 e5 h5
          have hrd : rd (fun p => decide (p ∈ ps)) G d = rl (rl G d.a d.b d.c) d.b d.a d.c := by
            unfold rd
            rw [if_neg (show ¬ decide (d.pr ∈ ps) = true by rw [hdn]; decide)]
          rw [hrd]
          refine g_forT [.ref t1, .ref t2] (fun l σ H' => ∃ s10 s11 kv, σ = [some (.ref tp), some (.int v), some (.ref dn), some (.int n), some (.ref te), some (.ref D), some (.int d.m), some (.int d.a), some (.int d.b), some (.int d.c), s10, s11, none] ∧ Ext [] H H' ∧ H' D = some (.dK kv) ∧ H' t1 = some (.tup [.int d.a, .int d.b]) ∧ H' t2 = some (.tup [.int d.b, .int d.a]) ∧ H' t3 = some (.tup [.ref t1, .ref t2]) ∧ FD kv (sq G d.a d.b d.c l) ∧ kv.length ≤ 1 + i * 120 + 2 * j + l)
            ⟨_, _, kv, rfl, grow0 (grow0 (grow0 (grow0 e e2) e3) e4) e5, e5.keep _ _ (e4.keep _ _ (e3.keep _ _ hD2 nin0) nin0) nin0, e5.imm _ _ (e4.imm _ _ h3 rfl) rfl, e5.imm _ _ h4 rfl, h5, hf, hk⟩ (fun l σ H' _ ⟨_, _, _, _, _, _, _, _, h, _⟩ => SqT.of h) ?_ ?_
          · rintro l x σ H' hl ⟨s10, s11, kv, rfl, e, hD, ht1, ht2, ht3, hf, hk⟩
            have hl2 : l < 2 := (List.getElem?_eq_some_iff.mp hl).1
            obtain ⟨p, q, tt, rfl, htt, hsq⟩ : ∃ (p q : Int) (tt : Addr), x = .ref tt ∧ H' tt = some (.tup [.int p, .int q]) ∧ sq G d.a d.b d.c (l + 1) = rl (sq G d.a d.b d.c l) p q d.c := by
              match l, hl with
              | 0, hl => cases hl; exact ⟨d.a, d.b, t1, rfl, ht1, rfl⟩
              | 1, hl => cases hl; exact ⟨d.b, d.a, t2, rfl, ht2, rfl⟩
              | l + 2, _ => omega
            rw [hsq]
            generalize sq G d.a d.b d.c l = G2 at hf
            have hkl : kv.length < 1000 := by omega
            walk_at "eo go"
            unfold rl
            have hp := hf p
            have hq := hf q
            cases hgp : G2 p with
            | none =>
              rw [hgp] at hp
              try refine g_iteDF (by rw [hp]; rfl) ?_
              walk_at "eo go"
              exact ⟨_, _, kv, rfl, e, hD, ht1, ht2, ht3, hf, by omega⟩
            | some vp =>
              rw [hgp] at hp
              have hp' : valV kv (.inl p) = some (.int vp) := hp
              refine g_iteDT (by rw [hp]; rfl) ?_
              walk_at "eo go"
              refine g_dget2 ?_
              walk_at "eo go"
              refine ⟨D, rfl, .inl ⟨kv, .inl hD⟩, ?_⟩
              walk_at "eo go"
              refine g_dget2I hD ?_
              rw [hq]
              cases hgq : G2 q with
              | none =>
                show rI0 _ (.int (vp + d.c)) (.int (vp + d.c + 1)) _ _
                walk_at "eo go"
                refine g_iteDT (decide_eq_true (by omega)) ?_
                walk_at "eo go"
                rename_i H6 e6 h6
                refine ⟨_, _, _, rfl, grow e e6, h6, e6.imm _ _ ht1 rfl, e6.imm _ _ ht2 rfl, e6.imm _ _ ht3 rfl, fd_eq (fd_put hf) (fun k => ?_), Nat.le_trans (length_putK _ _ _) (by omega)⟩
                rfl
              | some wq =>
                show rI0 _ (.int (vp + d.c)) (.int wq) _ _
                walk_at "eo go"
                refine g_ite (fun z => ?_) (fun z => ?_)
                · have z' := dec_t z
                  walk_at "eo go"
                  rename_i H6 e6 h6
                  refine ⟨_, _, _, rfl, grow e e6, h6, e6.imm _ _ ht1 rfl, e6.imm _ _ ht2 rfl, e6.imm _ _ ht3 rfl, fd_eq (fd_put hf) (fun k => ?_), Nat.le_trans (length_putK _ _ _) (by omega)⟩
                  show (if k = q then some (vp + d.c) else G2 k) = (if k = q then some (min (vp + d.c) wq) else G2 k)
                  rw [show min (vp + d.c) wq = vp + d.c by omega]
                · have z' := dec_f z
                  walk_at "eo go"
                  refine ⟨_, _, kv, rfl, e, hD, ht1, ht2, ht3, fd_eq hf (fun k => ?_), by omega⟩
                  show G2 k = (if k = q then some (min (vp + d.c) wq) else G2 k)
                  by_cases c : k = q
                  · rw [if_pos c, c, hgq, show min (vp + d.c) wq = wq by omega]
                  · rw [if_neg c]
          · rintro σ H' ⟨s10, s11, kv, rfl, e, hD, ht1, ht2, ht3, hf, hk⟩
            exact ⟨_, _, _, _, _, _, kv, rfl, e, hD, hf, by simp only [List.length_cons, List.length_nil] at hk; omega⟩
      · rintro σ H' ⟨s6, s7, s8, s9, s10, s11, kv, rfl, e, hD, hf, hk⟩
        rw [hxl, List.take_length] at hf
        exact ⟨_, _, _, _, _, _, kv, rfl, e, hD, hf, by omega⟩
    · rintro σ H' ⟨s6, s7, s8, s9, s10, s11, kv, rfl, e, hD, hf, hk⟩
      walk_at "eo go"
      refine g_lcW walk_range (fun Dd i H2 acc => Ext [] H' H2 ∧ H' Dd = none ∧ acc = (List.range i).map fun k : Nat => ov (rnds (fun p => decide (p ∈ ps)) ds n.toNat (g0 v) (k : Int))) ?_ ?_ ?_ ?_
      · intro Dd H2 n e h
        exact ⟨e, n, rfl⟩
      · intros
        trivial
      · rintro Dd i x H1 H2 acc hi ⟨e3, n3, rfl⟩ hd ⟨rfl, rfl⟩
        have hD3 := e3.keep _ _ hD nin0
        walk_at "eo go"
        refine ⟨rfl, ?_⟩
        walk_at "eo go"
        refine g_dget2 ?_
        walk_at "eo go"
        refine ⟨D, rfl, .inl ⟨kv, .inl hD3⟩, ?_⟩
        walk_at "eo go"
        refine g_dget2I hD3 ?_
        rw [hf]
        refine ⟨hd, by rw [List.length_map, List.length_range, sizeLine_eq]; omega, fun H5 e5 h5 => ⟨?_, n3, ?_⟩⟩
        · exact e3.trans e5 (fun _ z => z) (fun x hx ⟨o, ho⟩ => by rw [List.mem_singleton.mp hx, n3] at ho; cases ho)
        · rw [List.range_succ, List.map_append, show (0 + (i : Int)) = (i : Int) by omega]
          congr 1
          show [_] = [ov _]
          cases rnds (fun p => decide (p ∈ ps)) ds n.toNat (g0 v) (i : Int) <;> rfl
      · rintro Dd H2 acc ⟨e3, n3, rfl⟩ hd
        walk_at "eo go"
        rename_i cc H3 n4 e4 h4
        exact k cc H3 (grow0 (grow0 e e3) e4) (SqT.of h4)
theorem ok_law_code {A : Adr} (T : Txt P K mg A) : FnOk P w K mg base CX0 4 A.f_law_code A.d_law_code ["topology"] (spCode K) := by
  refine T.law_code.F.ok sc_law_code (fun vs H Q E h => ?_) (fun cdv Ar outer s H vs Q E hr h => ?_)
  · obtain ⟨tp, te, nv, xs, es, rfl, _⟩ := h
    rfl
  · obtain ⟨tp, te, nv, xs, es, rfl, h1, h2, hE, hn, hnb, hlen, k⟩ := h
    refine ⟨_, (pss_cons (ps_try_as (i := 1) (tb := fun W => tDrop (tCallS (spCheck K A.c_InputError) (WE W) (tCons (tVar 0) tNil))) (ts := fun a cls d => tRet (tXf a cls d A.c_InputError "code" (tVar 1))) (Wout := fun _ _ _ _ => False) rfl rfl sc_law_code.nd rfl rfl ⟨rfl, by decide, .inl T.x_InputError.mg⟩ takes0 (fun W pn xe tk _ => pss_one (ps_expr (pe_callS (ok_check_topology T) (hr.mono (by decide)) (by rfl) T.check_topology.mg T.check_topology.kp T.check_topology.b (fun σ => passAt tk σ) (pa_cons (pv 0) pa_nil)))) (fun a oe cls d pn hz hf => (pss_one (ps_ret (pe_xf T.x_InputError.xf T.x_InputError.no_code hz hf (pv 1))))))
      (pss_one (ps_ret pe_str))), ?_⟩
    walk_at "eo init"
    refine g_seq ?_
    show tDrop _ _ _ _
    refine g_drop ?_
    refine g_callS ?_
    walk_at "eo go"
    refine ⟨tp, te, nv, xs, es, rfl, h1, h2, hE, hn, hnb, hlen, fun hc H' e => ?_, fun z hc d H' e hx => ?_⟩
    · walk_at "eo go"
      have := k H' e
      rw [hc] at this
      exact this
    · refine ⟨true, T.x_InputError.te, fun _ a ha => ?_, fun q => Bool.noConfusion q⟩
      refine g_ret ?_
      have := k H' e
      rw [hc] at this
      exact ⟨.ref a, rfl, rfl, rfl, d, _, .str z, rfl, hx, rfl, this⟩

theorem ok_law_topology {A : Adr} (T : Txt P K mg A) : FnOk P w K mg base CX0 3 A.f_law_topology A.d_law_topology ["d"] (spTopo K) := by
  refine T.law_topology.F.ok sc_law_topology (fun vs H Q E h => ?_) (fun cdv Ar outer s H vs Q E hr h => ?_)
  · obtain ⟨d, s, rfl, _⟩ := h
    rfl
  · obtain ⟨d, sc, rfl, hD, k⟩ := h
    refine ⟨_, (pss_cons (ps_set (i := 1) sc_law_topology.nd rfl (Or.inl rfl) (pe_op o_add pe_int (pe_call (ok_law_take T) (hr.mono (by decide)) (by rfl) T.law_take.mg T.law_take.kp T.law_take.b .nil pass0 (pa_cons (pv 0) (pa_cons pe_int pa_nil)))))
      (pss_cons (ps_set (i := 2) sc_law_topology.nd rfl (Or.inl rfl) (pe_lstX pa_nil))
      (pss_cons (ps_for PassesOwn.never rfl (pi_range1 (by rfl) T.b_range (pa_cons (pv 1) pa_nil)) (pg_name (i := 3) sc_law_topology.nd rfl (Or.inl rfl)) (pss_one (ps_for PassesOwn.never rfl (pi_range2 (by rfl) T.b_range (pa_cons (pe_op o_add (pv 3) pe_int) (pa_cons (pv 1) pa_nil))) (pg_name (i := 4) sc_law_topology.nd rfl (Or.inl rfl)) (pss_one (ps_if (pt_cmpR op_gt (pe_call (ok_law_take T) (hr.mono (by decide)) (by rfl) T.law_take.mg T.law_take.kp T.law_take.b .nil pass0 (pa_cons (pv 0) (pa_cons pe_int pa_nil))) pe_int (nomark _)) (pss_one (ps_expr (pe_bm PySem.F.plainAttrs_list PySem.F.slot_list_append PySem.F.type_list_append mt_append (pv 2) (pa_cons (pe_tupX (pa_cons (pv 3) (pa_cons (pv 4) (pa_cons (pe_op o_add pe_int (pe_call (ok_law_take T) (hr.mono (by decide)) (by rfl) T.law_take.mg T.law_take.kp T.law_take.b .nil pass0 (pa_cons (pv 0) (pa_cons pe_int pa_nil)))) (pa_cons (pe_call (ok_law_pick T) (hr.mono (by decide)) (by rfl) T.law_pick.mg T.law_pick.kp T.law_pick.b .nil pass0 (pa_cons (pv 0) (pa_cons (pe_lstX (pa_cons pe_int (pa_cons pe_int (pa_cons pe_int (pa_cons pe_int pa_nil))))) pa_nil))) pa_nil))))) pa_nil)))) pss_nil)))))
      (pss_one (ps_ret (pe_tupX (pa_cons (pv 1) (pa_cons (pe_callTy (T := "tuple") o_tuple (by rfl) T.b_tuple (by decide +kernel) (pa_cons (pv 2) pa_nil)) pa_nil)))))))), ?_⟩
    walk_at "eo init"
    walk_at "eo go"
    rename_i kn H1 k0 k1 e1 hD1 El H2 n2 e2 h2
    have hD2 := hD1.ext e2 nin0 nin0
    have nEd : El ≠ d := (ne_dst1 n2 hD1).symm
    have nEs : El ≠ sc := (ne_dst2 n2 hD1).symm
    have nH : H El = none := e1.free n2 (nin1 nEd)
    have g1 : ∀ {H' H3 : Hp}, Ext [d] H H' → Ext [El] H' H3 → Ext [d] H H3 := fun {H' H3} e f => e.trans f (fun _ z => z) (fun x hx ⟨o, ho⟩ => by rw [List.mem_singleton.mp hx, nH] at ho; cases ho)
    have g2 : ∀ {H' H3 : Hp}, Ext [d] H H' → Ext [d] H' H3 → Ext [d] H H3 := fun {H' H3} e f => e.trans f (fun _ z => z) (fun x hx _ => hx)
    have g3 : ∀ {H' H3 : Hp}, Ext [d] H H' → Ext [] H' H3 → Ext [d] H H3 := fun {H' H3} e f => e.trans f (fun _ z => z) (fun _ z => by cases z)
    refine g_forR (fun (i : Nat) σ H' => ∃ s3 s4 xs, ∃ ds : List Dg, σ = [some (.ref d), some (.int (1 + kn)), some (.ref El), s3, s4] ∧ Ext [d] H H' ∧ DSt H' d sc ∧ H' El = some (.lst xs) ∧ EdsAt K H' xs (ds.map Dg.ed) ∧ (∀ d ∈ ds, 0 ≤ d.a ∧ d.a < d.b ∧ d.b < 1 + kn ∧ 1 ≤ d.c ∧ d.c ≤ 7 ∧ 16 ≤ d.m ∧ d.m ≤ 512) ∧ (ds.map Dg.pr).Pairwise (fun p q => cd p < cd q) ∧ (∀ d ∈ ds, d.a < (i : Int)) ∧ ds.length ≤ 7 * i) ⟨_, _, [], [], rfl, g3 e1 e2, hD2, h2, trivial, fun _ h => (by cases h), .nil, fun _ h => (by cases h), Nat.le_refl _⟩ ?_ ?_
    · clear hD hD1 hD2 e1 e2 h2
      rintro i σ H' hi ⟨s3, s4, xs, ds, rfl, e, hD, hE, hA, ok, pw, lt, len⟩
      have i8 : (i : Int) < 1 + kn := by omega
      walk_at "eo go"
      refine g_forR (fun (j : Nat) σ H' => ∃ s4 xs, ∃ ds : List Dg, σ = [some (.ref d), some (.int (1 + kn)), some (.ref El), some (.int (0 + i)), s4] ∧ Ext [d] H H' ∧ DSt H' d sc ∧ H' El = some (.lst xs) ∧ EdsAt K H' xs (ds.map Dg.ed) ∧ (∀ d ∈ ds, 0 ≤ d.a ∧ d.a < d.b ∧ d.b < 1 + kn ∧ 1 ≤ d.c ∧ d.c ≤ 7 ∧ 16 ≤ d.m ∧ d.m ≤ 512) ∧ (ds.map Dg.pr).Pairwise (fun p q => cd p < cd q) ∧ (∀ d ∈ ds, d.a < (i : Int) ∨ (d.a = (i : Int) ∧ d.b < (i : Int) + 1 + (j : Int))) ∧ ds.length ≤ 7 * i + j) ⟨_, xs, ds, rfl, e, hD, hE, hA, ok, pw, fun d hd => .inl (lt d hd), len⟩ ?_ ?_
      · clear hD hE hA ok pw lt len e
        rintro j σ H' hj ⟨s4, xs, ds, rfl, e, hD, hE, hA, ok, pw, lt, len⟩
        have hjn : (i : Int) + 1 + j < 1 + kn := by omega
        walk_at "eo go"
        rename_i t3 H3 t0 t1 e3 hD3
        have hE3 := e3.keep _ _ hE (nin1 nEd)
        have hA3 := hA.ext e3
        have e3' := g2 e e3
        have hxl : xs.length = ds.length := by rw [hA.len, List.length_map]
        have hxz : xs.length < sizeLine := by rw [sizeLine_eq]; omega
        refine g_ite (fun z => ?_) (fun z => ?_)
        · walk_at "eo go"
          rename_i kc H4 c0 c1 e4 hD4 ml H5 nm e5 hm v H6 hv e6 hD6 tq H7 n7 e7 h7 H8 e8 h8
          obtain ⟨m, rfl, m0, m1⟩ : ∃ m : Int, v = .int m ∧ 16 ≤ m ∧ m ≤ 512 := by
            simp only [List.mem_cons, List.not_mem_nil, or_false] at hv
            rcases hv with rfl | rfl | rfl | rfl
            · exact ⟨16, rfl, by decide, by decide⟩
            · exact ⟨17, rfl, by decide, by decide⟩
            · exact ⟨40, rfl, by decide, by decide⟩
            · exact ⟨512, rfl, by decide, by decide⟩
          have hd : ∀ d' ∈ ds ++ [(⟨0 + i, (i : Int) + 1 + j, 1 + kc, m⟩ : Dg)], d' ∈ ds ∨ d' = ⟨0 + i, (i : Int) + 1 + j, 1 + kc, m⟩ := fun d' h => (List.mem_append.mp h).imp id List.mem_singleton.mp
          have eI : (0 + (i : Int)) + 1 + (j : Int) = (i : Int) + 1 + j := by omega
          rw [eI] at h7
          refine ⟨_, _, ds ++ [⟨0 + i, (i : Int) + 1 + j, 1 + kc, m⟩], rfl, g1 (g3 (g2 (g3 (g2 e3' e4) e5) e6) e7) e8, (hD6.ext e7 nin0 nin0).ext e8 (nin1 nEd.symm) (nin1 nEs.symm), h8, ?_, fun d' h => ?_, ?_, fun d' h => ?_, ?_⟩
          · rw [List.map_append]
            have hA8 := ((((hA3.ext e4).ext e5).ext e6).ext e7).ext e8
            refine EdsAt.snoc ⟨tq, rfl, SqT.of (e8.imm _ _ h7 rfl)⟩ hA8
          · rcases hd d' h with c | c
            · exact ok d' c
            · rw [c]
              dsimp only
              omega
          · rw [List.map_append, List.pairwise_append]
            refine ⟨pw, by simp, fun p hp q hq => ?_⟩
            obtain ⟨d', hd', rfl⟩ := List.mem_map.mp hp
            rw [List.map_cons, List.map_nil, List.mem_singleton] at hq
            rw [hq]
            have o := ok d' hd'
            have l := lt d' hd'
            unfold Dg.pr cd
            dsimp only
            omega
          · rcases hd d' h with c | c
            · have l := lt d' c
              omega
            · rw [c]
              dsimp only
              omega
          · rw [List.length_append, List.length_singleton]
            omega
        · walk_at "eo go"
          exact ⟨_, xs, ds, rfl, e3', hD3, hE3, hA3, ok, pw, fun d hd => (lt d hd).imp id fun q => ⟨q.1, by omega⟩, by omega⟩
      · rintro σ H' ⟨s4, xs, ds, rfl, e, hD, hE, hA, ok, pw, lt, len⟩
        refine ⟨_, _, xs, ds, rfl, e, hD, hE, hA, ok, pw, fun d hd => ?_, by omega⟩
        rcases lt d hd with c | c <;> omega
    · rintro σ H' ⟨s3, s4, xs, ds, rfl, e, hD, hE, hA, ok, pw, lt, len⟩
      walk_at "eo go"
      rename_i te H3 n3 e3 h3 tp H4 n4 e4 h4
      exact k tp te (1 + kn) ds H4 (g3 (g3 e e3) e4) ((hD.ext e3 nin0 nin0).ext e4 nin0 nin0) ⟨SqT.of h4, xs, SqT.of (e4.imm _ _ h3 rfl), (hA.ext e3).ext e4⟩ ⟨by omega, by omega, ok, inc_pw.mpr pw, by omega⟩
theorem Ext.nil {O : List Addr} {H H1 H2 : Hp} (e : Ext O H H1) (f : Ext [] H1 H2) : Ext O H H2 := e.trans f (fun _ z => z) (fun x hx _ => by cases hx)
theorem ed_nb (d : Dg) : d.ed.nb := ⟨.inl ⟨_, rfl⟩, .inl ⟨_, rfl⟩, .inl ⟨_, rfl⟩, .inl ⟨_, rfl⟩⟩
theorem ed_prs (ds : List Dg) : (ds.map Dg.ed).map Ed.pr = ds.map Dg.pr := by
  rw [List.map_map]
  exact List.map_congr_left fun _ _ => rfl
theorem edOk_ed {n : Int} {ds : List Dg} (h : WFT n ds) {d : Dg} (hd : d ∈ ds) : edOk n d.ed = true := by
  have o := h.ok d hd
  unfold edOk Dg.ed isnum ltV
  simp only [Bool.and_eq_true, decide_eq_true_eq]
  omega
theorem all_ed {n : Int} {ds : List Dg} (h : WFT n ds) : (ds.map Dg.ed).all (edOk n) = true := List.all_eq_true.mpr fun e he => by
  obtain ⟨d, hd, rfl⟩ := List.mem_map.mp he
  exact edOk_ed h hd
theorem num_ok {n : Int} (h1 : 1 ≤ n) (h8 : n ≤ 8) : isnum (.int n) 1 8 = true := by
  show (decide (1 ≤ n) && decide (n ≤ 8)) = true
  rw [decide_eq_true h1, decide_eq_true h8]
  rfl
theorem chk_ok {n : Int} {ds : List Dg} (h : WFT n ds) : chk (.int n) (ds.map Dg.ed) = none := by
  unfold chk
  rw [if_neg (by rw [num_ok h.n1 h.n8]; decide), if_neg (by show ¬ (ds.map Dg.ed).all (edOk n) = false; rw [all_ed h]; decide), if_neg (by rw [ed_prs, h.inc]; decide)]
theorem mo_mem : ∀ {ds : List Dg} {d : Dg}, (ds.map Dg.pr).Nodup → d ∈ ds → mo ds d.a d.b = d.m
  | e :: r, d, nd, h => by
    rw [mo_cons]
    rcases List.mem_cons.mp h with c | c
    · rw [← c, if_pos ⟨rfl, rfl⟩]
    · rw [List.map_cons, List.nodup_cons] at nd
      rw [if_neg (fun z => nd.1 (List.mem_map.mpr ⟨d, c, by unfold Dg.pr; rw [z.1, z.2]⟩))]
      exact mo_mem nd.2 c
theorem wft_mo {n : Int} {ds : List Dg} (h : WFT n ds) {d : Dg} (hd : d ∈ ds) : mo ds (min d.a d.b) (max d.a d.b) = d.m ∧ mo ds (min d.b d.a) (max d.b d.a) = d.m := by
  have o := h.ok d hd
  have z := mo_mem (pw_nodup (inc_pw.mp h.inc)) hd
  rw [show min d.a d.b = d.a by omega, show max d.a d.b = d.b by omega, show min d.b d.a = d.a by omega, show max d.b d.a = d.b by omega]
  exact ⟨z, z⟩
theorem mem_putK {kv : List (Key × V)} {k : Key} {v : V} {p : Key × V} (h : p ∈ putK kv k v) : p ∈ kv ∨ p.2 = v := by
  unfold putK at h
  split at h
  · obtain ⟨q, hq, e⟩ := List.mem_map.mp h
    split at e
    · exact .inr (by rw [← e])
    · exact .inl (e ▸ hq)
  · rcases List.mem_append.mp h with c | c
    · exact .inl c
    · exact .inr (by rw [List.mem_singleton.mp c])
def NK (kv : List (Key × V)) : Prop := (kv.map Prod.fst).Nodup
theorem nk_put {kv : List (Key × V)} {k : Key} {v : V} (h : NK kv) : NK (putK kv k v) := by
  unfold NK putK at *
  split
  · rename_i c
    have e : (kv.map fun q => if q.1 = k then (q.1, v) else q).map Prod.fst = kv.map Prod.fst := by
      rw [List.map_map]
      refine List.map_congr_left fun q _ => ?_
      show (if q.1 = k then (q.1, v) else q).1 = q.1
      split <;> rfl
    rw [e]
    exact h
  · rename_i c
    rw [List.map_append, List.nodup_append]
    refine ⟨h, by simp, fun x hx y hy e => c ?_⟩
    obtain ⟨q, hq, rfl⟩ := List.mem_map.mp hx
    simp only [List.map_cons, List.map_nil, List.mem_singleton] at hy
    exact List.any_eq_true.mpr ⟨q, hq, decide_eq_true (e.trans hy)⟩
theorem nk_val : ∀ {kv : List (Key × V)}, NK kv → ∀ p ∈ kv, valV kv p.1 = some p.2
  | q :: r, h, p, hp => by
    unfold NK at h
    rw [List.map_cons, List.nodup_cons] at h
    rcases List.mem_cons.mp hp with c | c
    · rw [c]; exact valV_pos rfl
    · have ne : q.1 ≠ p.1 := fun z => h.1 (List.mem_map.mpr ⟨p, c, z.symm⟩)
      obtain ⟨qk, qv⟩ := q
      rw [valV_neg ne]
      exact nk_val (kv := r) h.2 p c
theorem nbK_nk : ∀ {v : Int} {ds : List Dg} {kv : List (Key × V)}, NK kv → (∀ p ∈ kv, ∃ i : Int, p.2 = .int i) → NK (nbK v ds kv) ∧ ∀ p ∈ nbK v ds kv, ∃ i : Int, p.2 = .int i
  | _, [], _, h, h2 => ⟨h, h2⟩
  | v, d :: r, kv, h, h2 => by
    rw [nbK_cons]
    split
    · refine nbK_nk (nk_put h) fun p hp => ?_
      rcases mem_putK hp with c | c
      · exact h2 p c
      · exact ⟨_, c⟩
    · exact nbK_nk h h2
theorem g_repL {H : Hp} {Q : VK} {p : Addr} {v : V} {k : Int} (e : H p = some (.lst [v])) (k0 : 0 ≤ k) (k1 : k ≤ 100) (h : ∀ q H', H q = none → Ext [] H H' → H' q = some (.lst (List.replicate k.toNat v)) → Q (.ref q) H') : rMulX (.ref p) (.int k) H Q := by
  refine ⟨p, k, [v], rfl, rfl, e, by omega, by omega, by rw [sizeLine_eq, List.length_singleton]; omega, fun q hq => ?_⟩
  have ef : (List.replicate k.toNat [v]).flatten = List.replicate k.toNat v := by
    generalize k.toNat = m
    induction m with
    | zero => rfl
    | succ m ih => rw [List.replicate_succ, List.flatten_cons, ih, List.replicate_succ]; rfl
  rw [ef]
  exact h q _ hq (Ext.new hq) upd_same
def cL (n : Int) (g : Int → Option Int) : List V := (List.range n.toNat).map fun i : Nat => ov (g (i : Int))
theorem cL_len {n : Int} {g : Int → Option Int} : (cL n g).length = n.toNat := by unfold cL; rw [List.length_map, List.length_range]
theorem cL_rep {n : Int} : List.replicate n.toNat V.non = cL n fun _ => none := by
  unfold cL
  show _ = (List.range n.toNat).map fun _ => V.non
  rw [List.map_const', List.length_range]
theorem cL_get {n k : Int} {g : Int → Option Int} (h0 : 0 ≤ k) (h1 : k < n) : (cL n g)[k.toNat]? = some (ov (g k)) := by
  unfold cL
  rw [List.getElem?_map, List.getElem?_range (by omega)]
  show some (ov (g ((k.toNat : Nat) : Int))) = _
  rw [Int.toNat_of_nonneg h0]
theorem cL_set {n k : Int} {g : Int → Option Int} {x : Option Int} (h0 : 0 ≤ k) (h1 : k < n) : (cL n g).set k.toNat (ov x) = cL n fun j => if j = k then x else g j := by
  refine List.ext_getElem? fun i => ?_
  unfold cL
  rw [List.getElem?_set, List.length_map, List.length_range]
  by_cases c : i < n.toNat
  · rw [List.getElem?_map, List.getElem?_map, List.getElem?_range c]
    by_cases e : k.toNat = i
    · rw [if_pos e, if_pos (by omega)]
      show _ = some (ov (if (i : Int) = k then x else g (i : Int)))
      rw [if_pos (by omega)]
    · rw [if_neg e]
      show _ = some (ov (if (i : Int) = k then x else g (i : Int)))
      rw [if_neg (by omega)]
      rfl
  · rw [if_neg (by omega), List.getElem?_eq_none (by rw [List.length_map, List.length_range]; omega), List.getElem?_eq_none (by rw [List.length_map, List.length_range]; omega)]
theorem cL_eq {n : Int} {g g' : Int → Option Int} (h : ∀ k, g k = g' k) : cL n g = cL n g' := by rw [show g = g' from funext h]
theorem g_setC {n k : Int} {p : Addr} {g : Int → Option Int} {x : Option Int} {H : Hp} {R : Hp → Prop} (e : H p = some (.lst (cL n g))) (h0 : 0 ≤ k) (h1 : k < n) (h : ∀ H', Ext [p] H H' → H' p = some (.lst (cL n fun j => if j = k then x else g j)) → R H') : rSetL (.ref p) (.int k) (ov x) H R := by
  refine g_setL (j := k.toNat) e ?_ (cL_set h0 h1) h
  rw [cL_len]
  unfold ixN
  rw [if_pos h0, if_pos (by omega)]
theorem g_ixC {K : PySem.W.Frag} {n k : Int} {p : Addr} {g : Int → Option Int} {H : Hp} {Q : VK} (e : H p = some (.lst (cL n g))) (h0 : 0 ≤ k) (h1 : k < n) (h : Q (ov (g k)) H) : rIx K (.ref p) (.int k) H Q := g_ixL (SqL.of e) (ix_at h0 (cL_get h0 h1)) h
def pdO : Option Int → PyData
  | none => .none
  | some x => .int x
theorem dp_ov {K : PySem.W.Frag} {H : Hp} : ∀ o : Option Int, Dp K H (ov o) (pdO o)
  | none => .non
  | some x => .int x
theorem shp_ov {k : Nat} : ∀ o : Option Int, Shp (pdO o) k
  | none => shp_non
  | some _ => shp_int
theorem dp_cL {K : PySem.W.Frag} {H : Hp} {g : Int → Option Int} : ∀ l : List Nat, DpAll K H (l.map fun i : Nat => ov (g (i : Int))) (l.map fun i : Nat => pdO (g (i : Int)))
  | [] => .nil
  | _ :: r => .cons (dp_ov _) (dp_cL r)
theorem shp_cL {g : Int → Option Int} {k : Nat} : ∀ l : List Nat, ShpAll (l.map fun i : Nat => pdO (g (i : Int))) k
  | [] => shp_nil
  | _ :: r => shp_cons (shp_ov _) (shp_cL r)
theorem g_neC {K : PySem.W.Frag} {H : Hp} {Q : VK} {a b : Addr} {n : Int} {g : Int → Option Int} (ha : SqT K H a (cL n g)) (hb : SqT K H b (cL n g)) (h : Q (.bl false) H) : rNeX K (.ref a) (.ref b) H Q :=
  g_neD (.tup ha (dp_cL _)) (.tup hb (dp_cL _)) (shp_tup (k := 7) (shp_cL _)) rfl h
theorem DnAt.ext {K : PySem.W.Frag} {A : List Addr} {H H' : Hp} {dn : Addr} {ps : List (Int × Int)} (e : Ext A H H') (h : DnAt K H dn ps) : DnAt K H' dn ps := let ⟨x, a, b⟩ := h; ⟨x, sqT_ext e a, b.ext e⟩
theorem chk_nodes {v : V} {es : List Ed} (h : isnum v 1 8 = false) : chk v es = some ("nodes" : Str) := by unfold chk; rw [if_pos h]
theorem chk_edge {n : Int} {e : Ed} {es : List Ed} (h1 : 1 ≤ n) (h8 : n ≤ 8) (h : edOk n e = false) : chk (.int n) (e :: es) = some ("edge" : Str) := by
  unfold chk
  rw [if_neg (by rw [num_ok h1 h8]; decide), if_pos (by show (e :: es).all (edOk n) = false; rw [List.all_cons, h]; rfl)]
theorem chk_order {n : Int} {ds es : List Dg} (h : WFT n ds) (hs : ∀ d ∈ es, d ∈ ds) (hi : inc (es.map Dg.pr) = false) : chk (.int n) (es.map Dg.ed) = some ("order" : Str) := by
  unfold chk
  have ha : (es.map Dg.ed).all (edOk n) = true := List.all_eq_true.mpr fun e he => by
    obtain ⟨d, hd, rfl⟩ := List.mem_map.mp he
    exact edOk_ed h (hs d hd)
  rw [if_neg (by rw [num_ok h.n1 h.n8]; decide), if_neg (by show ¬ (es.map Dg.ed).all (edOk n) = false; rw [ha]; decide), if_pos (by rw [ed_prs, hi])]
theorem inc_rev {l : List (Int × Int)} (h : inc l = true) (h2 : 2 ≤ l.length) : inc l.reverse = false := by
  match l, h, h2 with
  | p :: q :: r, h, _ =>
    rw [Bool.eq_false_iff]
    intro z
    have z := List.pairwise_reverse.mp (inc_pw.mp z)
    have a := (List.pairwise_cons.mp z).1 q List.mem_cons_self
    have b := (List.pairwise_cons.mp (inc_pw.mp h)).1 q List.mem_cons_self
    omega
  | [], _, h => exact absurd h (by decide)
  | [_], _, h => exact absurd h (by simp)
theorem inc_dup {p : Int × Int} {r : List (Int × Int)} : inc (p :: p :: r) = false := by
  unfold inc
  rw [decide_eq_false (by omega)]
  rfl
theorem edsAt_rev {K : PySem.W.Frag} {H : Hp} : ∀ {xs : List V} {es : List Ed}, EdsAt K H xs es → EdsAt K H xs.reverse es.reverse
  | [], [], _ => trivial
  | x :: xs, e :: es, ⟨h1, h⟩ => by rw [List.reverse_cons, List.reverse_cons]; exact EdsAt.snoc h1 (edsAt_rev h)
  | [], _ :: _, h => h.elim
  | _ :: _, [], h => h.elim
/-! rows that are no edges -/
theorem bad1 {n : Int} : edOk n ⟨.int 0, .int 0, .int 1, .int 16⟩ = false := by
  unfold edOk isnum ltV
  simp <;> omega
theorem bad2 {n : Int} : edOk n ⟨.int 0, .int n, .int 1, .int 16⟩ = false := by
  unfold edOk isnum ltV
  simp <;> omega
theorem bad3 {n : Int} : edOk n ⟨.int 1, .int 0, .int 1, .int 16⟩ = false := by
  unfold edOk isnum ltV
  simp <;> omega
theorem bad4 {n : Int} : edOk n ⟨.int 0, .int (n - 1), .int 0, .int 16⟩ = false := by
  unfold edOk isnum ltV
  simp <;> omega
theorem bad5 {n : Int} : edOk n ⟨.int 0, .int (n - 1), .int 8, .int 16⟩ = false := by
  unfold edOk isnum ltV
  simp <;> omega
theorem bad6 {n : Int} : edOk n ⟨.int 0, .int (n - 1), .int 1, .int 15⟩ = false := by
  unfold edOk isnum ltV
  simp <;> omega
theorem bad7 {n : Int} : edOk n ⟨.int 0, .int (n - 1), .int 1, .int 513⟩ = false := by
  unfold edOk isnum ltV
  simp <;> omega
theorem bad8 {n : Int} : edOk n ⟨.int 0, .int (n - 1), .bl true, .int 16⟩ = false := by
  unfold edOk isnum ltV
  simp
theorem bad9 {n : Int} : edOk n ⟨.bl false, .int (n - 1), .int 1, .int 16⟩ = false := by
  unfold edOk isnum ltV
  simp
theorem ok_law {A : Adr} (T : Txt P K mg A) : FnOk P w K mg base CX0 5 A.f_law A.d_law ["script"] (spLaw K) := by
  refine T.law.F.ok sc_law (fun vs H Q E h => ?_) (fun cdv Ar outer s H vs Q E hr h => ?_)
  · obtain ⟨a, ns, rfl, _⟩ := h
    rfl
  · obtain ⟨a, ns, rfl, hS, hlen, k⟩ := h
    refine ⟨_, (pss_cons (ps_set (i := 1) sc_law.nd rfl (Or.inr rfl) (pe_call (ok_law_begin T) (hr.mono (by decide)) (by rfl) T.law_begin.mg T.law_begin.kp T.law_begin.b .nil pass0 (pa_cons (pv 0) pa_nil)))
      (pss_cons (ps_set (i := 2) sc_law.nd rfl (Or.inl rfl) (pe_call (ok_law_topology T) (hr.mono (by decide)) (by rfl) T.law_topology.mg T.law_topology.kp T.law_topology.b .nil pass0 (pa_cons (pv 1) pa_nil)))
      (pss_cons (ps_asg (pv 2) (pg_tup (n := 2) rfl (pgs_cons (pg_name (i := 3) sc_law.nd rfl (Or.inl rfl)) (pgs_cons (pg_name (i := 4) sc_law.nd rfl (Or.inl rfl)) pgs_nil))))
      (pss_cons (ps_if (pt_cmpR (o_ne hr.units) (pe_call (ok_law_code T) (hr.mono (by decide)) (by rfl) T.law_code.mg T.law_code.kp T.law_code.b .nil pass0 (pa_cons (pv 2) pa_nil)) pe_str (nomark _)) (pss_one (ps_ret pe_bl)) pss_nil)
      (pss_cons (ps_set (i := 5) sc_law.nd rfl (Or.inl rfl) (pe_callTy (T := "tuple") o_tuple (by rfl) T.b_tuple (by decide +kernel) (pa_cons (pe_lc (own := [("edge", 18)]) rfl sc_law.nd (pi_tup (pv 4)) (blkOk_by (own := [("edge", 18)]) (N := ["script", "d", "topology", "n", "edges", "down", "node", "due", "a", "b", "cost", "most", "costs", "turn", "one", "other", "menu", "bad", "edge"]) (sc := defScope s_law) (by decide +kernel)) (fun _ _ _ _ _ => PG.star (pg_name (i := 18) sc_law.nd rfl (Or.inl rfl) (Or.inr rfl))) (fun _ _ _ _ _ => PTs.star ((pts_one (pt_cmpR (kkOpR (r := rEqX) (K := K) rfl (o_eq hr.units)) (pe_call (ok_law_take T) (hr.mono (by decide)) (by rfl) T.law_take.mg T.law_take.kp T.law_take.b .nil pass0 (pa_cons (pv 1) (pa_cons pe_int pa_nil))) pe_int (nomark _))))) (fun _ _ _ _ _ => PE.star (pe_slice (kkSlR (r := rSlX) (K := K) rfl o_sl) (pv 18) po_none (po_some pe_int)))) pa_nil)))
      (pss_cons (ps_for PassesOwn.never rfl (pi_range1 (by rfl) T.b_range (pa_cons (pv 3) pa_nil)) (pg_name (i := 6) sc_law.nd rfl (Or.inl rfl)) (pss_cons (ps_set (i := 7) sc_law.nd rfl (Or.inl rfl) pe_dnewK)
      (pss_cons (ps_for PassesOwn.never rfl (pi_tup (pv 4)) (pg_tup (n := 4) rfl (pgs_cons (pg_name (i := 8) sc_law.nd rfl (Or.inl rfl)) (pgs_cons (pg_name (i := 9) sc_law.nd rfl (Or.inl rfl)) (pgs_cons (pg_name (i := 10) sc_law.nd rfl (Or.inl rfl)) (pgs_cons (pg_name (i := 11) sc_law.nd rfl (Or.inl rfl)) pgs_nil))))) (pss_one (ps_if (pt_cmpR op_in_seq (pv 6) (pe_tupX (pa_cons (pv 8) (pa_cons (pv 9) pa_nil))) rfl) (pss_cons (ps_dput (u1 hr.units) (pv 7) (pe_ifExp (pt_cmpR (o_eq hr.units) (pv 6) (pv 8) (nomark _)) (pv 9) (pv 8)) (pv 10) rfl)
      (pss_one (ps_if (PW.pt (pw_or (pt_cmpR (o_ne hr.units) (pe_call (ok_most_on T) (hr.mono (by decide)) (by rfl) T.most_on.mg T.most_on.kp T.most_on.b .nil pass0 (pa_cons (pv 2) (pa_cons (pv 8) (pa_cons (pv 9) pa_nil)))) (pv 11) (nomark _)) (pw_or1 (pt_cmpR (o_ne hr.units) (pe_call (ok_most_on T) (hr.mono (by decide)) (by rfl) T.most_on.mg T.most_on.kp T.most_on.b .nil pass0 (pa_cons (pv 2) (pa_cons (pv 9) (pa_cons (pv 8) pa_nil)))) (pv 11) (nomark _))))) (pss_one (ps_ret pe_bl)) pss_nil))) pss_nil)))
      (pss_cons (ps_if (pt_cmpR (op_ne_dictA (u0 hr.units)) (pe_call (ok_neighbours_of T) (hr.mono (by decide)) (by rfl) T.neighbours_of.mg T.neighbours_of.kp T.neighbours_of.b .nil pass0 (pa_cons (pv 2) (pa_cons (pv 6) pa_nil))) (pv 7) (nomark _)) (pss_one (ps_ret pe_bl)) pss_nil)
      (pss_cons (ps_set (i := 12) sc_law.nd rfl (Or.inl rfl) (pe_op o_mul (pe_lstX (pa_cons pe_non pa_nil)) (pv 3)))
      (pss_cons (ps_asg pe_int (pg_sub (pv 12) (pv 6) set_list))
      (pss_cons (ps_for PassesOwn.never rfl (pi_range1 (by rfl) T.b_range (pa_cons (pv 3) pa_nil)) (pg_name (i := 13) sc_law.nd rfl (Or.inl rfl)) (pss_one (ps_for PassesOwn.never rfl (pi_tup (pv 4)) (pg_tup (n := 4) rfl (pgs_cons (pg_name (i := 8) sc_law.nd rfl (Or.inl rfl)) (pgs_cons (pg_name (i := 9) sc_law.nd rfl (Or.inl rfl)) (pgs_cons (pg_name (i := 10) sc_law.nd rfl (Or.inl rfl)) (pgs_cons (pg_name (i := 11) sc_law.nd rfl (Or.inl rfl)) pgs_nil))))) (pss_one (ps_for PassesOwn.never rfl (pi_tup (pe_tupX (pa_cons (pe_tupX (pa_cons (pv 8) (pa_cons (pv 9) pa_nil))) (pa_cons (pe_tupX (pa_cons (pv 9) (pa_cons (pv 8) pa_nil))) pa_nil)))) (pg_tup (n := 2) rfl (pgs_cons (pg_name (i := 14) sc_law.nd rfl (Or.inl rfl)) (pgs_cons (pg_name (i := 15) sc_law.nd rfl (Or.inl rfl)) pgs_nil))) (pss_one (ps_if (PW.pt (pw_and (pt_cmpR (o_nin_data (r65 hr)) (pe_tupX (pa_cons (pv 8) (pa_cons (pv 9) pa_nil))) (pv 5) rfl) (pw_and1 (pt_cmpR op_notN (pe_ix ix_seq (pv 12) (pv 14) (fun _ _ => rfl)) pe_non (nomark _))))) (pss_one (ps_asg (pe_callB (id := "min") (o_min rfl) (by rfl) T.b_min (by decide +kernel) (pa_cons (pe_op o_add (pe_ix ix_seq (pv 12) (pv 14) (fun _ _ => rfl)) (pv 10)) (pa_cons (pe_ifExp (pt_cmpR op_isN (pe_ix ix_seq (pv 12) (pv 15) (fun _ _ => rfl)) pe_non (nomark _)) (pe_op o_add (pe_ix ix_seq (pv 12) (pv 14) (fun _ _ => rfl)) (pv 10)) (pe_ix ix_seq (pv 12) (pv 15) (fun _ _ => rfl))) pa_nil))) (pg_sub (pv 12) (pv 15) set_list))) pss_nil)))))))
      (pss_one (ps_if (pt_cmpR (o_ne hr.units) (pe_call (ok_least_costs T) (hr.mono (by decide)) (by rfl) T.least_costs.mg T.least_costs.kp T.least_costs.b .nil pass0 (pa_cons (pv 2) (pa_cons (pv 6) (pa_cons (pv 5) pa_nil)))) (pe_callTy (T := "tuple") o_tuple (by rfl) T.b_tuple (by decide +kernel) (pa_cons (pv 12) pa_nil)) (nomark _)) (pss_one (ps_ret pe_bl)) pss_nil)))))))))
      (pss_cons (ps_set (i := 16) sc_law.nd rfl (Or.inl rfl) (pe_call (ok_law_take T) (hr.mono (by decide)) (by rfl) T.law_take.mg T.law_take.kp T.law_take.b .nil pass0 (pa_cons (pv 1) (pa_cons pe_int pa_nil))))
      (pss_cons (ps_if (pt_cmpR op_lt (pv 16) pe_int (nomark _)) (pss_one (ps_ret (pe_cmpR (o_eq hr.units) (pe_call (ok_law_code T) (hr.mono (by decide)) (by rfl) T.law_code.mg T.law_code.kp T.law_code.b .nil pass0 (pa_cons (pe_tupX (pa_cons (pe_call (ok_law_pick T) (hr.mono (by decide)) (by rfl) T.law_pick.mg T.law_pick.kp T.law_pick.b .nil pass0 (pa_cons (pv 1) (pa_cons (pe_lstX (pa_cons pe_int (pa_cons pe_int (pa_cons pe_int (pa_cons pe_bl pa_nil))))) pa_nil))) (pa_cons (pv 4) pa_nil))) pa_nil)) pe_str (nomark _)))) pss_nil)
      (pss_cons (ps_set (i := 17) sc_law.nd rfl (Or.inl rfl) (pe_call (ok_law_pick T) (hr.mono (by decide)) (by rfl) T.law_pick.mg T.law_pick.kp T.law_pick.b .nil pass0 (pa_cons (pv 1) (pa_cons (pe_lstX (pa_cons (pe_tupX (pa_cons pe_int (pa_cons pe_int (pa_cons pe_int (pa_cons pe_int pa_nil))))) (pa_cons (pe_tupX (pa_cons pe_int (pa_cons (pv 3) (pa_cons pe_int (pa_cons pe_int pa_nil))))) (pa_cons (pe_tupX (pa_cons pe_int (pa_cons pe_int (pa_cons pe_int (pa_cons pe_int pa_nil))))) (pa_cons (pe_tupX (pa_cons pe_int (pa_cons (pe_op op_sub (pv 3) pe_int) (pa_cons pe_int (pa_cons pe_int pa_nil))))) (pa_cons (pe_tupX (pa_cons pe_int (pa_cons (pe_op op_sub (pv 3) pe_int) (pa_cons pe_int (pa_cons pe_int pa_nil))))) (pa_cons (pe_tupX (pa_cons pe_int (pa_cons (pe_op op_sub (pv 3) pe_int) (pa_cons pe_int (pa_cons pe_int pa_nil))))) (pa_cons (pe_tupX (pa_cons pe_int (pa_cons (pe_op op_sub (pv 3) pe_int) (pa_cons pe_int (pa_cons pe_int pa_nil))))) (pa_cons (pe_tupX (pa_cons pe_int (pa_cons (pe_op op_sub (pv 3) pe_int) (pa_cons pe_bl (pa_cons pe_int pa_nil))))) (pa_cons (pe_tupX (pa_cons pe_bl (pa_cons (pe_op op_sub (pv 3) pe_int) (pa_cons pe_int (pa_cons pe_int pa_nil))))) pa_nil)))))))))) pa_nil))))
      (pss_cons (ps_if (pt_cmpR op_lt (pv 16) pe_int (nomark _)) (pss_one (ps_ret (pe_cmpR (o_eq hr.units) (pe_call (ok_law_code T) (hr.mono (by decide)) (by rfl) T.law_code.mg T.law_code.kp T.law_code.b .nil pass0 (pa_cons (pe_tupX (pa_cons (pv 3) (pa_cons (pe_op o_add (pe_tupX (pa_cons (pv 17) pa_nil)) (pv 4)) pa_nil))) pa_nil)) pe_str (nomark _)))) pss_nil)
      (pss_cons (ps_if (pt_cmpR op_lt (pe_callB (id := "len") o_len (by rfl) T.b_len (by decide +kernel) (pa_cons (pv 4) pa_nil)) pe_int (nomark _)) (pss_one (ps_ret pe_bl)) pss_nil)
      (pss_one (ps_ret (pe_and (pe_cmpR (o_eq hr.units) (pe_call (ok_law_code T) (hr.mono (by decide)) (by rfl) T.law_code.mg T.law_code.kp T.law_code.b .nil pass0 (pa_cons (pe_tupX (pa_cons (pv 3) (pa_cons (RevT.pe_revT (pv 4)) pa_nil))) pa_nil)) pe_str (nomark _)) (pe_one (pe_cmpR (o_eq hr.units) (pe_call (ok_law_code T) (hr.mono (by decide)) (by rfl) T.law_code.mg T.law_code.kp T.law_code.b .nil pass0 (pa_cons (pe_tupX (pa_cons (pv 3) (pa_cons (pe_op o_add (pe_slice o_sl (pv 4) po_none (po_some pe_int)) (pv 4)) pa_nil))) pa_nil)) pe_str (nomark _))))))))))))))))), ?_⟩
    walk_at "eo init"
    walk_at "eo go"
    refine ⟨a, ns, rfl, hS, hlen, fun d sc H1 nd nsc e1 hD => ?_⟩
    walk_at "eo go"
    refine ⟨d, sc, rfl, hD, fun tp te n ds H2 e2 hD2 hT hW => ?_⟩
    obtain ⟨hT1, xs, hx, hE⟩ := hT
    clear e1 nd nsc hS hD
    walk_at "eo go"
    refine ⟨tp, te, .int n, xs, ds.map Dg.ed, rfl, hT1, hx, hE, .inl ⟨n, rfl⟩, fun e he => ?_, by rw [List.length_map]; exact Nat.lt_of_le_of_lt hW.len (by decide), fun H3 e3 => ?_⟩
    · obtain ⟨d, _, rfl⟩ := List.mem_map.mp he
      exact ed_nb d
    rw [chk_ok hW]
    walk_at "eo go"
    have hD3 := hD2.ext e3 nin0 nin0
    have hT3 := TopAt.ext e3 ⟨hT1, xs, hx, hE⟩
    have hx3 := sqT_ext e3 hx
    have hE3 := hE.ext e3
    clear hT1 hx hE hD2 e2 e3
    refine g_lcW (walk_tup (xs := xs)) (fun Dd i H' acc => Ext [d] H3 H' ∧ H3 Dd = none ∧ DSt H' d sc ∧ Dd ≠ d ∧ Dd ≠ sc ∧ ∃ ps : List (Int × Int), ps.length ≤ i ∧ PrsS K H' acc ps) ?_ ?_ ?_ ?_
    · intro Dd H' n0 e h
      exact ⟨e.mono (fun _ z => by cases z), n0, hD3.ext e nin0 nin0, (ne_dst1 n0 hD3).symm, (ne_dst2 n0 hD3).symm, [], Nat.le_refl _, trivial⟩
    · rintro Dd i H' acc hi ⟨e, n0, _⟩
      exact sqT_ext e hx3
    · rintro Dd i x H1 H' acc hi ⟨e, n0, hD, nd, ns, ps, hpl, hps⟩ hd ⟨rfl, hx⟩
      obtain ⟨dg, hdg, t, rfl, ht⟩ := top_get hE3 hx
      have ht1 := sqT_ext e ht
      walk_at "eo go"
      refine ⟨rfl, ?_⟩
      walk_at "eo go"
      rename_i kq H4 k0 k1 e4 hD4
      have e34 := e.trans e4 (fun _ z => z) (fun _ z _ => z)
      have hd4 := e4.keep _ _ hd (nin1 nd)
      refine g_ite (fun z => ?_) (fun z => ?_)
      · walk_at "eo go"
        rename_i t5 H5 e5 h5
        have hl : acc.length < sizeLine := by
          rw [hps.len, sizeLine_eq]
          have := hW.len
          have := hpl
          have : xs.length = ds.length := by rw [hE3.len, List.length_map]
          omega
        refine ⟨e5.keep _ _ hd4 nin0, hl, fun H6 e6 h6 => ⟨(e34.nil e5).trans e6 (fun _ z => z) (fun x hx ⟨o, ho⟩ => by rw [List.mem_singleton.mp hx, n0] at ho; cases ho), n0, (hD4.ext e5 nin0 nin0).ext e6 (nin1 nd.symm) (nin1 ns.symm), nd, ns, ps ++ [dg.pr], ?_, PrsS.snoc ⟨t5, rfl, sqT_ext e6 h5⟩ (((hps.ext e4).ext e5).ext e6)⟩⟩
        rw [List.length_append, List.length_singleton]
        omega
      · exact ⟨⟨e34, n0, hD4, nd, ns, ps, by omega, hps.ext e4⟩, hd4⟩
    · rintro Dd H' acc ⟨e, n0, hD, nd, ns, ps, hpl, hps⟩ hd
      have hn1 := hW.n1
      have hn8 := hW.n8
      walk_at "eo go"
      rename_i dn H5 n5 e5 h5
      have hD5 := hD.ext e5 nin0 nin0
      have hT5 := (hT3.ext e).ext e5
      have hx5 := sqT_ext e5 (sqT_ext e hx3)
      have hE5 := (hE3.ext e).ext e5
      have hN5 : DnAt K H5 dn ps := ⟨acc, SqT.of h5, hps.ext e5⟩
      have hxl : xs.length = ds.length := by rw [hE5.len, List.length_map]
      have hdl := hW.len
      clear hd hps e e5 hD hD3 hT3 hx3 hE3 n0 nd ns n5 h5 hpl
      have grow0 : ∀ {H' H2 : Hp}, Ext [] H5 H' → Ext [] H' H2 → Ext [] H5 H2 := fun {H' H2} e f => e.trans f (fun _ z => z) (fun _ z => by cases z)
      have grow : ∀ {H' H2 : Hp} {D : Addr}, H5 D = none → Ext [] H5 H' → Ext [D] H' H2 → Ext [] H5 H2 := fun {H' H2 D} n1 e f => e.trans f (fun _ z => z) (fun x hx ⟨o, ho⟩ => by rw [List.mem_singleton.mp hx, n1] at ho; cases ho)
      walk_at "eo go"
      refine g_forR (fun (i : Nat) σ H' => ∃ s6 s7 s8 s9 s10 s11 s12 s13 s14 s15, σ = [some (.ref a), some (.ref d), some (.ref tp), some (.int n), some (.ref te), some (.ref dn), s6, s7, s8, s9, s10, s11, s12, s13, s14, s15, none, none, none] ∧ Ext [] H5 H') ⟨_, _, _, _, _, _, _, _, _, _, rfl, Ext.refl _⟩ ?_ ?_
      · rintro i σ H' hi ⟨s6, s7, s8, s9, s10, s11, s12, s13, s14, s15, rfl, e⟩
        obtain ⟨v, hv⟩ : ∃ v : Int, v = 0 + (i : Int) := ⟨_, rfl⟩
        have v0 : 0 ≤ v := by omega
        have vn : v < n := by omega
        rw [← hv]
        clear hv
        walk_at "eo go"
        rename_i D H6 n6 e6 h6
        have nD := e.free n6 nin0
        refine g_forT xs (fun j σ H' => ∃ s8 s9 s10 s11 kv, σ = [some (.ref a), some (.ref d), some (.ref tp), some (.int n), some (.ref te), some (.ref dn), some (.int v), some (.ref D), s8, s9, s10, s11, s12, s13, s14, s15, none, none, none] ∧ Ext [] H5 H' ∧ H' D = some (.dK kv) ∧ kv.length ≤ j ∧ nbK v (ds.drop j) kv = nbK v ds []) ⟨_, _, _, _, [], rfl, grow0 e e6, h6, Nat.le_refl _, by rw [List.drop_zero]⟩ (fun j σ H' _ ⟨_, _, _, _, _, _, e, _⟩ => sqT_ext e hx5) ?_ ?_
        · clear h6 e6 n6 e
          rintro j x σ H' hj ⟨s8, s9, s10, s11, kv, rfl, e, hD, hk, hn⟩
          obtain ⟨dg, hd, t, rfl, hd4⟩ := top_get hE5 hj
          have hd4 := sqT_ext e hd4
          have hj' : j < xs.length := (List.getElem?_eq_some_iff.mp hj).1
          rw [drop_at hd] at hn
          rw [nbK_cons] at hn
          have hkl : kv.length < 1000 := by omega
          walk_at "eo go"
          rename_i tq H7 n7 e7 h7
          rw [inV2]
          refine g_ite (fun z => ?_) (fun z => ?_)
          · rw [if_pos (dec_t z)] at hn
            have hD7 := e7.keep _ _ hD nin0
            obtain ⟨m1, m2⟩ := wft_mo hW (List.mem_of_getElem? hd)
            walk_at "eo go"
            by_cases c : v = dg.a
            · rw [if_pos c] at hn
              refine g_iteDT (decide_eq_true (congrArg V.int c)) ?_
              walk_at "eo go"
              rename_i H8 e8 h8
              have e58 := grow nD (grow0 e e7) e8
              refine ⟨tp, te, n, ds, dg.a, dg.b, rfl, hT5.ext e58, fun H9 e9 => ?_⟩
              rw [m1]
              have e59 := grow0 e58 e9
              walk_at "eo go"
              refine ⟨tp, te, n, ds, dg.b, dg.a, rfl, hT5.ext e59, fun H10 e10 => ?_⟩
              rw [m2]
              walk_at "eo go"
              exact ⟨_, _, _, _, _, rfl, grow0 e59 e10, e10.keep _ _ (e9.keep _ _ h8 nin0) nin0, Nat.le_trans (length_putK _ _ _) (by omega), hn⟩
            · rw [if_neg c] at hn
              refine g_iteDF (decide_eq_false (fun y => c (vint y))) ?_
              walk_at "eo go"
              rename_i H8 e8 h8
              have e58 := grow nD (grow0 e e7) e8
              refine ⟨tp, te, n, ds, dg.a, dg.b, rfl, hT5.ext e58, fun H9 e9 => ?_⟩
              rw [m1]
              have e59 := grow0 e58 e9
              walk_at "eo go"
              refine ⟨tp, te, n, ds, dg.b, dg.a, rfl, hT5.ext e59, fun H10 e10 => ?_⟩
              rw [m2]
              walk_at "eo go"
              exact ⟨_, _, _, _, _, rfl, grow0 e59 e10, e10.keep _ _ (e9.keep _ _ h8 nin0) nin0, Nat.le_trans (length_putK _ _ _) (by omega), hn⟩
          · rw [if_neg (dec_f z)] at hn
            walk_at "eo go"
            exact ⟨_, _, _, _, kv, rfl, grow0 e e7, e7.keep _ _ hD nin0, by omega, hn⟩
        · rintro σ H' ⟨s8, s9, s10, s11, kv, rfl, e, hD, hk, hn⟩
          rw [hxl, List.drop_length] at hn
          replace hn : kv = nbK v ds [] := hn
          subst hn
          walk_at "eo go"
          refine ⟨tp, te, n, ds, v, rfl, hT5.ext e, by omega, fun D2 H7 e7 n7 h7 => ?_⟩
          walk_at "eo go"
          obtain ⟨nk1, nk2⟩ := nbK_nk (v := v) (ds := ds) (kv := []) List.nodup_nil (fun p h => by cases h)
          refine ⟨D2, D, _, _, rfl, rfl, h7, e7.keep _ _ hD nin0, rfl, fun p hp => ⟨nk_val nk1 p hp, by obtain ⟨i, hi⟩ := nk2 p hp; rw [hi]; rfl⟩, ?_⟩
          have e57 := grow0 e e7
          clear hD hk nk1 nk2 h7 n7 e7 e
          walk_at "eo go"
          rename_i l1 H8 n8 e8 h8
          refine g_repL h8 (by omega) (by omega) fun C H9 n9 e9 h9 => ?_
          have nC : H5 C = none := e57.free (e8.free n9 nin0) nin0
          have e59 := grow0 (grow0 e57 e8) e9
          rw [cL_rep] at h9
          clear e57 e8 e9 n8 h8 n9
          walk_at "eo go"
          refine g_setC (x := some 0) h9 v0 vn fun H10 e10 h10 => ?_
          have e510 := grow nC e59 e10
          clear e59 e10 h9
          walk_at "eo go"
          refine g_forR (fun (i : Nat) σ H' => ∃ s8 s9 s10 s11 s13 s14 s15, σ = [some (.ref a), some (.ref d), some (.ref tp), some (.int n), some (.ref te), some (.ref dn), some (.int v), some (.ref D), s8, s9, s10, s11, some (.ref C), s13, s14, s15, none, none, none] ∧ Ext [] H5 H' ∧ H' C = some (.lst (cL n (rnds (fun p => decide (p ∈ ps)) ds i (g0 v))))) ⟨_, _, _, _, _, _, _, rfl, e510, h10⟩ ?_ ?_
          · clear e510 h10
            rintro i σ H' hi ⟨s8, s9, s10, s11, s13, s14, s15, rfl, e, hC⟩
            walk_at "eo go"
            refine g_forT xs (fun j σ H' => ∃ s8 s9 s10 s11 s14 s15, σ = [some (.ref a), some (.ref d), some (.ref tp), some (.int n), some (.ref te), some (.ref dn), some (.int v), some (.ref D), s8, s9, s10, s11, some (.ref C), some (.int (0 + i)), s14, s15, none, none, none] ∧ Ext [] H5 H' ∧ H' C = some (.lst (cL n ((ds.take j).foldl (rd fun p => decide (p ∈ ps)) (rnds (fun p => decide (p ∈ ps)) ds i (g0 v)))))) ⟨_, _, _, _, _, _, rfl, e, hC⟩ (fun j σ H' _ ⟨_, _, _, _, _, _, _, e, _⟩ => sqT_ext e hx5) ?_ ?_
            · clear hC e
              rintro j x σ H' hj ⟨s8, s9, s10, s11, s14, s15, rfl, e, hC⟩
              obtain ⟨dg, hd, t, rfl, hd4⟩ := top_get hE5 hj
              have hd4 := sqT_ext e hd4
              have o := hW.ok dg (List.mem_of_getElem? hd)
              rw [foldl_take hd]
              generalize hG : (ds.take j).foldl (rd fun p => decide (p ∈ ps)) (rnds (fun p => decide (p ∈ ps)) ds i (g0 v)) = G at hC
              walk_at "eo go"
              rename_i t1 H11 n11 e11 h11 t2 H12 n12 e12 h12 t3 H13 n13 e13 h13
              refine g_forT [.ref t1, .ref t2] (fun l σ H' => ∃ s14 s15, σ = [some (.ref a), some (.ref d), some (.ref tp), some (.int n), some (.ref te), some (.ref dn), some (.int v), some (.ref D), some (.int dg.a), some (.int dg.b), some (.int dg.c), some (.int dg.m), some (.ref C), some (.int (0 + i)), s14, s15, none, none, none] ∧ Ext [] H5 H' ∧ H' C = some (.lst (cL n (if decide (dg.pr ∈ ps) = true then G else sq G dg.a dg.b dg.c l))) ∧ H' t1 = some (.tup [.int dg.a, .int dg.b]) ∧ H' t2 = some (.tup [.int dg.b, .int dg.a]) ∧ H' t3 = some (.tup [.ref t1, .ref t2]))
                ⟨_, _, rfl, grow0 (grow0 (grow0 e e11) e12) e13, ?_, e13.imm _ _ (e12.imm _ _ h11 rfl) rfl, e13.imm _ _ h12 rfl, h13⟩ (fun l σ H' _ ⟨_, _, _, _, _, _, _, h⟩ => SqT.of h) ?_ ?_
              · have hC13 := e13.keep _ _ (e12.keep _ _ (e11.keep _ _ hC nin0) nin0) nin0
                rw [hC13]
                congr 3
                split <;> rfl
              · clear hC e e11 e12 e13 h11 h12 h13 n11 n12 n13
                rintro l x σ H' hl ⟨s14, s15, rfl, e, hC, ht1, ht2, ht3⟩
                have hl2 : l < 2 := (List.getElem?_eq_some_iff.mp hl).1
                obtain ⟨p, q, tt, rfl, htt, hsq, p0, p1, q0, q1⟩ : ∃ (p q : Int) (tt : Addr), x = .ref tt ∧ H' tt = some (.tup [.int p, .int q]) ∧ sq G dg.a dg.b dg.c (l + 1) = rl (sq G dg.a dg.b dg.c l) p q dg.c ∧ 0 ≤ p ∧ p < n ∧ 0 ≤ q ∧ q < n := by
                  match l, hl with
                  | 0, hl => cases hl; exact ⟨dg.a, dg.b, t1, rfl, ht1, rfl, by omega, by omega, by omega, by omega⟩
                  | 1, hl => cases hl; exact ⟨dg.b, dg.a, t2, rfl, ht2, rfl, by omega, by omega, by omega, by omega⟩
                  | l + 2, _ => omega
                rw [hsq]
                generalize sq G dg.a dg.b dg.c l = G2 at hC
                walk_at "eo go"
                rename_i tq H14 n14 e14 h14
                have e514 := grow0 e e14
                refine g_ninDn (p := dg.pr) (SqT.of h14) (hN5.ext e514) ?_
                cases hdn : decide (dg.pr ∈ ps) with
                | true =>
                  rw [hdn, if_pos rfl] at hC
                  walk_at "eo go"
                  exact ⟨_, _, rfl, e514, e14.keep _ _ hC nin0, e14.imm _ _ ht1 rfl, e14.imm _ _ ht2 rfl, e14.imm _ _ ht3 rfl⟩
                | false =>
                  rw [hdn, if_neg (by decide)] at hC
                  have hC14 := e14.keep _ _ hC nin0
                  have ht1 := e14.imm _ _ ht1 rfl
                  have ht2 := e14.imm _ _ ht2 rfl
                  have ht3 := e14.imm _ _ ht3 rfl
                  clear hC e e14 h14
                  rw [if_neg (by decide)]
                  walk_at "eo go"
                  refine g_ixC hC14 p0 p1 ?_
                  unfold rl
                  cases hgp : G2 p with
                  | none =>
                    walk_at "eo go"
                    exact ⟨_, _, rfl, e514, hC14, ht1, ht2, ht3⟩
                  | some vp =>
                    walk_at "eo go"
                    refine g_iteDT rfl ?_
                    walk_at "eo go"
                    refine g_ixC hC14 p0 p1 ?_
                    rw [hgp]
                    dsimp only [ov]
                    walk_at "eo go"
                    refine g_ixC hC14 q0 q1 ?_
                    cases hgq : G2 q with
                    | none =>
                      walk_at "eo go"
                      refine g_ixC hC14 p0 p1 ?_
                      rw [hgp]
                      dsimp only [ov]
                      walk_at "eo go"
                      rw [show min (vp + dg.c) (vp + dg.c) = vp + dg.c by omega]
                      refine g_setC (x := some (vp + dg.c)) hC14 q0 q1 fun H15 e15 h15 => ?_
                      exact ⟨_, _, rfl, grow nC e514 e15, h15, e15.imm _ _ ht1 rfl, e15.imm _ _ ht2 rfl, e15.imm _ _ ht3 rfl⟩
                    | some wq =>
                      walk_at "eo go"
                      refine g_iteDF rfl ?_
                      walk_at "eo go"
                      refine g_ixC hC14 q0 q1 ?_
                      rw [hgq]
                      dsimp only [ov]
                      walk_at "eo go"
                      refine g_setC (x := some (min (vp + dg.c) wq)) hC14 q0 q1 fun H15 e15 h15 => ?_
                      exact ⟨_, _, rfl, grow nC e514 e15, h15, e15.imm _ _ ht1 rfl, e15.imm _ _ ht2 rfl, e15.imm _ _ ht3 rfl⟩
              · rintro σ H' ⟨s14, s15, rfl, e, hC, ht1, ht2, ht3⟩
                refine ⟨_, _, _, _, _, _, rfl, e, ?_⟩
                rw [hC]
                congr 3
            · rintro σ H' ⟨s8, s9, s10, s11, s14, s15, rfl, e, hC⟩
              rw [hxl, List.take_length] at hC
              exact ⟨_, _, _, _, _, _, _, rfl, e, hC⟩
          · rintro σ H' ⟨s8, s9, s10, s11, s13, s14, s15, rfl, e, hC⟩
            walk_at "eo go"
            refine ⟨tp, te, n, ds, v, dn, ps, rfl, hT5.ext e, hW, v0, vn, hN5.ext e, fun c H7 e7 h7 => ?_⟩
            have hC7 := e7.keep _ _ hC nin0
            have e57 := grow0 e e7
            clear hC e e7
            walk_at "eo go"
            rename_i c2 H8 n8 e8 h8
            refine g_neC (sqT_ext e8 h7) (SqT.of h8) ?_
            walk_at "eo go"
            exact ⟨_, _, _, _, _, _, _, _, _, _, rfl, grow0 e57 e8⟩
      · rintro σ H' ⟨s6, s7, s8, s9, s10, s11, s12, s13, s14, s15, rfl, e⟩
        have hD := hD5.ext e nin0 nin0
        have hT := hT5.ext e
        have hx := sqT_ext e hx5
        have hE := hE5.ext e
        clear hD5 hT5 hx5 hE5 hN5 grow grow0 e
        walk_at "eo go"
        rename_i mn H6 m0 m1 e6 hD6
        have hT6 := hT.ext e6
        have hx6 := sqT_ext e6 hx
        have hE6 := hE.ext e6
        clear hD hT hx hE e6
        have cat : ∀ {A B C : Hp}, Ext [] A B → Ext [d] B C → Ext [d] A C := fun {A B C} e f => e.trans f (fun _ z => by cases z) (fun _ z _ => z)
        refine g_ite (fun z => ?_) (fun z => ?_)
        · walk_at "eo go"
          rename_i l1 H7 n7 e7 h7 v H8 hv e8 hD8 p1 H9 n9 e9 h9
          obtain ⟨nbv, hbad⟩ : NB v ∧ isnum v 1 8 = false := by
            simp only [List.mem_cons, List.not_mem_nil, or_false] at hv
            rcases hv with rfl | rfl | rfl | rfl
            · exact ⟨.inl ⟨_, rfl⟩, by decide⟩
            · exact ⟨.inl ⟨_, rfl⟩, by decide⟩
            · exact ⟨.inl ⟨_, rfl⟩, by decide⟩
            · exact ⟨.inr ⟨_, rfl⟩, by decide⟩
          refine ⟨p1, te, v, xs, ds.map Dg.ed, rfl, SqT.of h9, sqT_ext e9 (sqT_ext e8 (sqT_ext e7 hx6)), ((hE6.ext e7).ext e8).ext e9, nbv, fun e he => ?_, by rw [List.length_map]; omega, fun H10 e10 => ?_⟩
          · obtain ⟨d, _, rfl⟩ := List.mem_map.mp he
            exact ed_nb d
          rw [chk_nodes hbad]
          dsimp only [Option.getD_some]
          walk_at "eo go"
          rw [decide_eq_true rfl]
          exact k _
        · walk_at "eo go"
          rename_i t1 G1 nt1 f1 b1 t2 G2 nt2 f2 b2 t3 G3 nt3 f3 b3 t4 G4 nt4 f4 b4 t5 G5 nt5 f5 b5 t6 G6 nt6 f6 b6 t7 G7 nt7 f7 b7 t8 G8 nt8 f8 b8 t9 G9 nt9 f9 b9 tl G10 nl f10 bl v H7 hv f11 hD7
          have x10 := cat f10 f11
          have x9 := cat f9 x10
          have x8 := cat f8 x9
          have x7 := cat f7 x8
          have x6 := cat f6 x7
          have x5 := cat f5 x6
          have x4 := cat f4 x5
          have x3 := cat f3 x4
          have x2 := cat f2 x3
          obtain ⟨e, hv1, hv2, hv3⟩ : ∃ e, EdAt K H7 v e ∧ e.nb ∧ edOk n e = false := by
            have nbI : ∀ {i : Int}, NB (.int i) := .inl ⟨_, rfl⟩
            have nbB : ∀ {i : Bool}, NB (.bl i) := .inr ⟨_, rfl⟩
            have nb4 : ∀ {a b c e : Int}, (⟨.int a, .int b, .int c, .int e⟩ : Ed).nb := ⟨nbI, nbI, nbI, nbI⟩
            simp only [List.mem_cons, List.not_mem_nil, or_false] at hv
            rcases hv with rfl | rfl | rfl | rfl | rfl | rfl | rfl | rfl | rfl
            · exact ⟨⟨.int 0, .int 0, .int 1, .int 16⟩, ⟨t1, rfl, SqT.of (x2.imm _ _ b1 rfl)⟩, nb4, bad1⟩
            · exact ⟨⟨.int 0, .int n, .int 1, .int 16⟩, ⟨t2, rfl, SqT.of (x3.imm _ _ b2 rfl)⟩, nb4, bad2⟩
            · exact ⟨⟨.int 1, .int 0, .int 1, .int 16⟩, ⟨t3, rfl, SqT.of (x4.imm _ _ b3 rfl)⟩, nb4, bad3⟩
            · exact ⟨⟨.int 0, .int (n - 1), .int 0, .int 16⟩, ⟨t4, rfl, SqT.of (x5.imm _ _ b4 rfl)⟩, nb4, bad4⟩
            · exact ⟨⟨.int 0, .int (n - 1), .int 8, .int 16⟩, ⟨t5, rfl, SqT.of (x6.imm _ _ b5 rfl)⟩, nb4, bad5⟩
            · exact ⟨⟨.int 0, .int (n - 1), .int 1, .int 15⟩, ⟨t6, rfl, SqT.of (x7.imm _ _ b6 rfl)⟩, nb4, bad6⟩
            · exact ⟨⟨.int 0, .int (n - 1), .int 1, .int 513⟩, ⟨t7, rfl, SqT.of (x8.imm _ _ b7 rfl)⟩, nb4, bad7⟩
            · exact ⟨⟨.int 0, .int (n - 1), .bl true, .int 16⟩, ⟨t8, rfl, SqT.of (x9.imm _ _ b8 rfl)⟩, ⟨nbI, nbI, nbB, nbI⟩, bad8⟩
            · exact ⟨⟨.bl false, .int (n - 1), .int 1, .int 16⟩, ⟨t9, rfl, SqT.of (x10.imm _ _ b9 rfl)⟩, ⟨nbB, nbI, nbI, nbI⟩, bad9⟩
          have x1 := cat f1 x2
          have hx7 := sqT_ext x1 hx6
          have hE7 := hE6.ext x1
          clear b1 b2 b3 b4 b5 b6 b7 b8 b9 f1 f2 f3 f4 f5 f6 f7 f8 f9 f10 f11 x1 x2 x3 x4 x5 x6 x7 x8 x9 x10 nt1 nt2 nt3 nt4 nt5 nt6 nt7 nt8 nt9 nl bl hv
          clear hT6 hx6 hE6 hD6
          refine g_ite (fun z => ?_) (fun z => ?_)
          · walk_at "eo go"
            rename_i t1 H8 n8 e8 h8 c H9 e9 h9 p H10 n10 e10 h10
            refine ⟨p, c, .int n, v :: xs, e :: ds.map Dg.ed, rfl, SqT.of h10, sqT_ext e10 h9, ⟨((hv1.ext e8).ext e9).ext e10, ((hE7.ext e8).ext e9).ext e10⟩, .inl ⟨n, rfl⟩, fun e' he => ?_, by rw [List.length_cons, List.length_map]; omega, fun H11 e11 => ?_⟩
            · rcases List.mem_cons.mp he with c | c
              · rw [c]; exact hv2
              · obtain ⟨d, _, rfl⟩ := List.mem_map.mp c
                exact ed_nb d
            rw [chk_edge hn1 hn8 hv3]
            dsimp only [Option.getD_some]
            walk_at "eo go"
            rw [decide_eq_true rfl]
            exact k _
          · walk_at "eo go"
            refine g_ite (fun z => ?_) (fun z => ?_)
            · walk_at "eo go"
              exact k _
            · have hl2 : 2 ≤ ds.length := by
                have := dec_f z
                omega
              walk_at "eo go"
              show tVar 4 _ _ _
              walk_at "eo go"
              refine ⟨te, xs, rfl, hx7, fun r n8 => ?_⟩
              have e8 : Ext [] H7 (upd H7 r (.tup xs.reverse)) := Ext.new n8
              have h8 : upd H7 r (.tup xs.reverse) r = some (.tup xs.reverse) := upd_same
              generalize upd H7 r (.tup xs.reverse) = H8 at e8 h8 ⊢
              walk_at "eo go"
              rename_i p H9 n9 e9 h9
              have hxs : xs.reverse.length = xs.length := List.length_reverse
              have hrv : ds.reverse.map Dg.ed = (ds.map Dg.ed).reverse := List.map_reverse
              refine ⟨p, r, .int n, xs.reverse, ds.reverse.map Dg.ed, rfl, SqT.of h9, SqT.of (e9.imm _ _ h8 rfl), ?_, .inl ⟨n, rfl⟩, fun e' he => ?_, by rw [List.length_map, List.length_reverse]; omega, fun H10 e10 => ?_⟩
              · rw [hrv]
                exact edsAt_rev ((hE7.ext e8).ext e9)
              · obtain ⟨d, _, rfl⟩ := List.mem_map.mp he
                exact ed_nb d
              rw [chk_order hW (fun d hd => List.mem_reverse.mp hd) (by rw [List.map_reverse]; exact inc_rev hW.inc (by rw [List.length_map]; exact hl2))]
              dsimp only [Option.getD_some]
              walk_at "eo go"
              rename_i c1 H11 e11 h11 c2 H12 e12 h12 p2 H13 n13 e13 h13
              have hE13 := ((((((hE7.ext e8).ext e9).ext e10).ext e11).ext e12).ext e13)
              obtain ⟨ds0, d0, hds⟩ : ∃ r d, ds = d :: r := by
                cases ds with
                | nil => exact absurd hl2 (by decide)
                | cons d r => exact ⟨r, d, rfl⟩
              obtain ⟨xs0, x0, hxs0⟩ : ∃ r x, xs = x :: r := by
                cases xs with
                | nil => rw [hds] at hxl; cases hxl
                | cons x r => exact ⟨r, x, rfl⟩
              rw [hxs0] at h12
              have hE0 : EdAt K H13 x0 d0.ed := by
                rw [hxs0, hds] at hE13
                exact hE13.1
              refine ⟨p2, c2, .int n, x0 :: xs, (d0 :: ds).map Dg.ed, rfl, SqT.of h13, ?_, ⟨hE0, hE13⟩, .inl ⟨n, rfl⟩, fun e' he => ?_, by rw [List.length_map, List.length_cons]; omega, fun H14 e14 => ?_⟩
              · have q := sqT_ext e13 h12
                rw [show x0 :: xs = List.take 1 (x0 :: xs0) ++ (x0 :: xs0) by rw [hxs0]; rfl]
                exact q
              · obtain ⟨d, _, rfl⟩ := List.mem_map.mp he
                exact ed_nb d
              rw [chk_order hW (fun d hd => by
                rcases List.mem_cons.mp hd with c | c
                · rw [c, hds]; exact List.mem_cons_self
                · exact c) (by rw [hds]; exact inc_dup)]
              dsimp only [Option.getD_some]
              walk_at "eo go"
              exact k _
end
set_option maxHeartbeats 4000000 in
theorem all_mk {l : PySem.W.OpenLaw} {w : World} {K : PySem.W.Frag} {h : Heap} {mg : Str → Option Value} {fa : Addr} (X : K.In h) (G : h.Ns mainGlobals mg) (hfa : mg "law" = some (.ref fa))
    {od_InputError_init an_InputError_init : Option Addr} {sl_InputError_init : Array (Option Value)} {oc_InputError_init dc_InputError_init pm_InputError_init ct_InputError_init : Value} {f_InputError_init : Addr}
    {od_is_number an_is_number : Option Addr} {sl_is_number : Array (Option Value)} {oc_is_number kV_is_number dc_is_number pm_is_number cd_is_number ct_is_number : Value} {f_is_number : Addr}
    {od_check_topology an_check_topology : Option Addr} {sl_check_topology : Array (Option Value)} {oc_check_topology kV_check_topology dc_check_topology pm_check_topology cd_check_topology ct_check_topology : Value} {f_check_topology : Addr}
    {od_neighbours_of an_neighbours_of : Option Addr} {sl_neighbours_of : Array (Option Value)} {oc_neighbours_of kV_neighbours_of dc_neighbours_of pm_neighbours_of cd_neighbours_of ct_neighbours_of : Value} {f_neighbours_of : Addr}
    {od_most_on an_most_on : Option Addr} {sl_most_on : Array (Option Value)} {oc_most_on kV_most_on dc_most_on pm_most_on cd_most_on ct_most_on : Value} {f_most_on : Addr}
    {od_least_costs an_least_costs : Option Addr} {sl_least_costs : Array (Option Value)} {oc_least_costs kV_least_costs dc_least_costs pm_least_costs cd_least_costs ct_least_costs : Value} {f_least_costs : Addr}
    {od_law_begin an_law_begin : Option Addr} {sl_law_begin : Array (Option Value)} {oc_law_begin kV_law_begin dc_law_begin pm_law_begin cd_law_begin ct_law_begin : Value} {f_law_begin : Addr}
    {od_law_take an_law_take : Option Addr} {sl_law_take : Array (Option Value)} {oc_law_take kV_law_take dc_law_take pm_law_take cd_law_take ct_law_take : Value} {f_law_take : Addr}
    {od_law_pick an_law_pick : Option Addr} {sl_law_pick : Array (Option Value)} {oc_law_pick kV_law_pick dc_law_pick pm_law_pick cd_law_pick ct_law_pick : Value} {f_law_pick : Addr}
    {od_law_topology an_law_topology : Option Addr} {sl_law_topology : Array (Option Value)} {oc_law_topology kV_law_topology dc_law_topology pm_law_topology cd_law_topology ct_law_topology : Value} {f_law_topology : Addr}
    {od_law_code an_law_code : Option Addr} {sl_law_code : Array (Option Value)} {oc_law_code kV_law_code dc_law_code pm_law_code cd_law_code ct_law_code : Value} {f_law_code : Addr}
    {od_law an_law : Option Addr} {sl_law : Array (Option Value)} {oc_law kV_law dc_law pm_law cd_law ct_law : Value} {f_law : Addr}
    {c_InputError : Addr}
    {cc_InputError ca_InputError : Addr} {nm_InputError q_InputError : Str} {N_InputError : Addr} {bs_InputError bm_InputError sub_InputError : List Value} {sn_InputError : List Str} {ab_InputError : Bool} {col_InputError : Option Bool} {dd_InputError : Option Addr} {m0_InputError m1_InputError m2_InputError m3_InputError m5_InputError : Option Value}
    {ccl_InputError : Value} {cdd_InputError : Option Addr} {vs_InputError : Array Value} {ccs_InputError : Array (Option Value)} {file_InputError : Str} {tf_InputError : Tok} {cll_InputError : Value} {cld_InputError : Option Addr} {csl_InputError : Array (Option Value)}
    {v_MOST_NODES : Tok}
    {v_MOST_COST : Tok}
    {v_LEAST_BODY : Tok}
    {v_MOST_BODY : Tok}
    (aC_InputError : PySem.W.nsIn K mainGlobals "InputError" = some (some (.ref c_InputError)))
    (a_InputError_init : PySem.W.findIn K (.ref c_InputError) "__init__" = some (some (.ref f_InputError_init)))
    (ti_InputError_init : PySem.W.typeIn K (.ref f_InputError_init) = some (.type "function"))
    (l_InputError_init : K.lookup f_InputError_init = some ⟨oc_InputError_init, od_InputError_init, .func (PySem.W.fnX "__init__" "InputError.__init__" (defArgs s_InputError_init) (defBody s_InputError_init) (defScope s_InputError_init) [("__class__", cc_InputError)] .none .none dc_InputError_init pm_InputError_init an_InputError_init (.ref ca_InputError) ct_InputError_init), sl_InputError_init⟩)
    (k_InputError_init : PySem.W.codeIn K (.ref ca_InputError) "InputError.__init__" = true)
    (co_InputError : K.lookup ca_InputError = some ⟨ccl_InputError, cdd_InputError, .fields vs_InputError, ccs_InputError⟩)
    (cv_InputError : vs_InputError[2]? = some (.str file_InputError tf_InputError))
    (cf_InputError : ((l.prog.main.file : Str) == file_InputError) = true)
    (ce_InputError : K.lookup cc_InputError = some ⟨cll_InputError, cld_InputError, .cell (some (.ref c_InputError)), csl_InputError⟩)
    (xl_InputError : K.lookup c_InputError = some (excClassObj nm_InputError q_InputError c_InputError N_InputError bs_InputError bm_InputError true sn_InputError sub_InputError ab_InputError col_InputError dd_InputError m0_InputError m1_InputError m2_InputError m3_InputError m5_InputError "ValueError.__new__"))
    (xr_InputError : PySem.HandSPX.refsVE bm_InputError = true)
    (sa_InputError : PySem.W.findIn K (.ref c_InputError) "__setattr__" = some (some (.builtin "object.__setattr__")))
    (eb_InputError : PySem.W.subIn K (.ref c_InputError) (.type "BaseException") = some true)
    (ty_InputError : PySem.W.typeIn K (.ref c_InputError) = some (.type "type"))
    (kp_InputError : PySem.W.keepIn K (.ref c_InputError) = true)
    (mr_InputError : PySem.W.mroIn K c_InputError (.ref c_InputError) = some true)
    (tp_InputError : (l.prog.main.scope.names.lookup ("super" : Str)).isSome = false)
    (oq_InputError : PySem.W.nsIn K PySem.cStatics "thirdparty.any" = some none)
    (si_InputError : PySem.W.ks_superIn K c_InputError c_InputError "__init__" = some (some (.builtin "ValueError.__init__")))
    (ve_InputError : PySem.W.subIn K (.ref c_InputError) (.type "ValueError") = some true)
    (ga_InputError : PySem.W.findIn K (.ref c_InputError) "__getattribute__" = some (some (.builtin "BaseException.__getattribute__")))
    (gg_InputError : PySem.W.findIn K (.ref c_InputError) "__getattr__" = some none)
    (hd_InputError : PySem.W.hasDictIn K c_InputError = true)
    (ic_InputError : PySem.W.isClsIn K c_InputError = true)
    (sc_InputError : PySem.W.subIn K (.ref c_InputError) (.ref c_InputError) = some true)
    (n_InputError_code : PySem.W.findIn K (.ref c_InputError) "code" = some none)
    (a_is_number : PySem.W.nsIn K mainGlobals "is_number" = some (some (.ref f_is_number)))
    (l_is_number : K.lookup f_is_number = some ⟨oc_is_number, od_is_number, .func (PySem.W.fnOf "is_number" "is_number" (defArgs s_is_number) (defBody s_is_number) (defScope s_is_number) .none kV_is_number dc_is_number pm_is_number an_is_number cd_is_number ct_is_number), sl_is_number⟩)
    (k_is_number : PySem.W.codeIn K cd_is_number "is_number" = true)
    (p_is_number : PySem.W.keepIn K (.ref f_is_number) = true)
    (a_check_topology : PySem.W.nsIn K mainGlobals "check_topology" = some (some (.ref f_check_topology)))
    (l_check_topology : K.lookup f_check_topology = some ⟨oc_check_topology, od_check_topology, .func (PySem.W.fnOf "check_topology" "check_topology" (defArgs s_check_topology) (defBody s_check_topology) (defScope s_check_topology) .none kV_check_topology dc_check_topology pm_check_topology an_check_topology cd_check_topology ct_check_topology), sl_check_topology⟩)
    (k_check_topology : PySem.W.codeIn K cd_check_topology "check_topology" = true)
    (p_check_topology : PySem.W.keepIn K (.ref f_check_topology) = true)
    (a_neighbours_of : PySem.W.nsIn K mainGlobals "neighbours_of" = some (some (.ref f_neighbours_of)))
    (l_neighbours_of : K.lookup f_neighbours_of = some ⟨oc_neighbours_of, od_neighbours_of, .func (PySem.W.fnOf "neighbours_of" "neighbours_of" (defArgs s_neighbours_of) (defBody s_neighbours_of) (defScope s_neighbours_of) .none kV_neighbours_of dc_neighbours_of pm_neighbours_of an_neighbours_of cd_neighbours_of ct_neighbours_of), sl_neighbours_of⟩)
    (k_neighbours_of : PySem.W.codeIn K cd_neighbours_of "neighbours_of" = true)
    (p_neighbours_of : PySem.W.keepIn K (.ref f_neighbours_of) = true)
    (a_most_on : PySem.W.nsIn K mainGlobals "most_on" = some (some (.ref f_most_on)))
    (l_most_on : K.lookup f_most_on = some ⟨oc_most_on, od_most_on, .func (PySem.W.fnOf "most_on" "most_on" (defArgs s_most_on) (defBody s_most_on) (defScope s_most_on) .none kV_most_on dc_most_on pm_most_on an_most_on cd_most_on ct_most_on), sl_most_on⟩)
    (k_most_on : PySem.W.codeIn K cd_most_on "most_on" = true)
    (p_most_on : PySem.W.keepIn K (.ref f_most_on) = true)
    (a_least_costs : PySem.W.nsIn K mainGlobals "least_costs" = some (some (.ref f_least_costs)))
    (l_least_costs : K.lookup f_least_costs = some ⟨oc_least_costs, od_least_costs, .func (PySem.W.fnOf "least_costs" "least_costs" (defArgs s_least_costs) (defBody s_least_costs) (defScope s_least_costs) .none kV_least_costs dc_least_costs pm_least_costs an_least_costs cd_least_costs ct_least_costs), sl_least_costs⟩)
    (k_least_costs : PySem.W.codeIn K cd_least_costs "least_costs" = true)
    (p_least_costs : PySem.W.keepIn K (.ref f_least_costs) = true)
    (a_law_begin : PySem.W.nsIn K mainGlobals "_law_begin" = some (some (.ref f_law_begin)))
    (l_law_begin : K.lookup f_law_begin = some ⟨oc_law_begin, od_law_begin, .func (PySem.W.fnOf "_law_begin" "_law_begin" (defArgs s_law_begin) (defBody s_law_begin) (defScope s_law_begin) .none kV_law_begin dc_law_begin pm_law_begin an_law_begin cd_law_begin ct_law_begin), sl_law_begin⟩)
    (k_law_begin : PySem.W.codeIn K cd_law_begin "_law_begin" = true)
    (p_law_begin : PySem.W.keepIn K (.ref f_law_begin) = true)
    (a_law_take : PySem.W.nsIn K mainGlobals "_law_take" = some (some (.ref f_law_take)))
    (l_law_take : K.lookup f_law_take = some ⟨oc_law_take, od_law_take, .func (PySem.W.fnOf "_law_take" "_law_take" (defArgs s_law_take) (defBody s_law_take) (defScope s_law_take) .none kV_law_take dc_law_take pm_law_take an_law_take cd_law_take ct_law_take), sl_law_take⟩)
    (k_law_take : PySem.W.codeIn K cd_law_take "_law_take" = true)
    (p_law_take : PySem.W.keepIn K (.ref f_law_take) = true)
    (a_law_pick : PySem.W.nsIn K mainGlobals "_law_pick" = some (some (.ref f_law_pick)))
    (l_law_pick : K.lookup f_law_pick = some ⟨oc_law_pick, od_law_pick, .func (PySem.W.fnOf "_law_pick" "_law_pick" (defArgs s_law_pick) (defBody s_law_pick) (defScope s_law_pick) .none kV_law_pick dc_law_pick pm_law_pick an_law_pick cd_law_pick ct_law_pick), sl_law_pick⟩)
    (k_law_pick : PySem.W.codeIn K cd_law_pick "_law_pick" = true)
    (p_law_pick : PySem.W.keepIn K (.ref f_law_pick) = true)
    (a_law_topology : PySem.W.nsIn K mainGlobals "_law_topology" = some (some (.ref f_law_topology)))
    (l_law_topology : K.lookup f_law_topology = some ⟨oc_law_topology, od_law_topology, .func (PySem.W.fnOf "_law_topology" "_law_topology" (defArgs s_law_topology) (defBody s_law_topology) (defScope s_law_topology) .none kV_law_topology dc_law_topology pm_law_topology an_law_topology cd_law_topology ct_law_topology), sl_law_topology⟩)
    (k_law_topology : PySem.W.codeIn K cd_law_topology "_law_topology" = true)
    (p_law_topology : PySem.W.keepIn K (.ref f_law_topology) = true)
    (a_law_code : PySem.W.nsIn K mainGlobals "_law_code" = some (some (.ref f_law_code)))
    (l_law_code : K.lookup f_law_code = some ⟨oc_law_code, od_law_code, .func (PySem.W.fnOf "_law_code" "_law_code" (defArgs s_law_code) (defBody s_law_code) (defScope s_law_code) .none kV_law_code dc_law_code pm_law_code an_law_code cd_law_code ct_law_code), sl_law_code⟩)
    (k_law_code : PySem.W.codeIn K cd_law_code "_law_code" = true)
    (p_law_code : PySem.W.keepIn K (.ref f_law_code) = true)
    (a_law : PySem.W.nsIn K mainGlobals "law" = some (some (.ref f_law)))
    (l_law : K.lookup f_law = some ⟨oc_law, od_law, .func (PySem.W.fnOf "law" "law" (defArgs s_law) (defBody s_law) (defScope s_law) .none kV_law dc_law pm_law an_law cd_law ct_law), sl_law⟩)
    (k_law : PySem.W.codeIn K cd_law "law" = true)
    (p_law : PySem.W.keepIn K (.ref f_law) = true)
    (z_super : PySem.W.nsIn K mainGlobals "super" = some none)
    (z_isinstance : PySem.W.nsIn K mainGlobals "isinstance" = some none)
    (z_int : PySem.W.nsIn K mainGlobals "int" = some none)
    (z_bool : PySem.W.nsIn K mainGlobals "bool" = some none)
    (z_sorted : PySem.W.nsIn K mainGlobals "sorted" = some none)
    (z_min : PySem.W.nsIn K mainGlobals "min" = some none)
    (z_max : PySem.W.nsIn K mainGlobals "max" = some none)
    (z_range : PySem.W.nsIn K mainGlobals "range" = some none)
    (z_tuple : PySem.W.nsIn K mainGlobals "tuple" = some none)
    (z_list : PySem.W.nsIn K mainGlobals "list" = some none)
    (z_len : PySem.W.nsIn K mainGlobals "len" = some none)
    (z_abs : PySem.W.nsIn K mainGlobals "abs" = some none)
    (gv_MOST_NODES : PySem.W.nsIn K mainGlobals "MOST_NODES" = some (some (.int 8 v_MOST_NODES)))
    (gv_MOST_COST : PySem.W.nsIn K mainGlobals "MOST_COST" = some (some (.int 7 v_MOST_COST)))
    (gv_LEAST_BODY : PySem.W.nsIn K mainGlobals "LEAST_BODY" = some (some (.int 16 v_LEAST_BODY)))
    (gv_MOST_BODY : PySem.W.nsIn K mainGlobals "MOST_BODY" = some (some (.int 512 v_MOST_BODY))) :
    ∃ fd : FuncData, (∀ (s : Shared) (v : Value), BindsTo s fd ⟨[v], []⟩ [("script", v)]) ∧ ∀ base : Heap, K.In base → base.Ns mainGlobals mg → FnOk l.prog w K mg base CX0 5 fa fd ["script"] (spLaw K) := by
  have e := hfa.symm.trans (PySem.W.mg_of X G a_law)
  cases e
  have O_InputError : OexC K c_InputError := ⟨⟨nm_InputError, q_InputError, N_InputError, bs_InputError, _, sn_InputError, sub_InputError, ab_InputError, col_InputError, dd_InputError, m0_InputError, m1_InputError, m2_InputError, m3_InputError, m5_InputError, xl_InputError, xr_InputError⟩, sa_InputError, eb_InputError, ty_InputError, kp_InputError⟩
  have S_InputError : Sup.SupTxt l.prog K mg ⟨"__init__", "InputError.__init__", defArgs s_InputError_init, defBody s_InputError_init, defScope s_InputError_init, [("__class__", cc_InputError)], ca_InputError⟩ f_InputError_init cc_InputError c_InputError "self" :=
    { lk := ⟨_, _, _, _, _, _, _, l_InputError_init⟩, cl := rfl, code := k_InputError_init, cob := ⟨_, _, _, _, _, _, co_InputError, cv_InputError, cf_InputError⟩, cell := ⟨_, _, _, ce_InputError⟩, T := O_InputError, sub := mr_InputError, msup := PySem.W.mg_none_of X G z_super, top := tp_InputError, opq := oq_InputError, init := si_InputError, ve := ve_InputError,
      par := ⟨_, rfl, rfl⟩, ks := (show (defScope s_InputError_init).names.lookup ("super" : Str) = _ by decide +kernel), boot := (by rfl) }
  have B_InputError : Binds K (PySem.W.fnX "__init__" "InputError.__init__" (defArgs s_InputError_init) (defBody s_InputError_init) (defScope s_InputError_init) [("__class__", cc_InputError)] .none .none dc_InputError_init pm_InputError_init an_InputError_init (.ref ca_InputError) ct_InputError_init) ["self", "code"] [] := .all fun us hl => match us, hl with | [_, _], _ => rfl
  have X_InputError : ExcT l.prog K mg ⟨"__init__", "InputError.__init__", defArgs s_InputError_init, defBody s_InputError_init, defScope s_InputError_init, [("__class__", cc_InputError)], ca_InputError⟩ f_InputError_init cc_InputError c_InputError (PySem.W.fnX "__init__" "InputError.__init__" (defArgs s_InputError_init) (defBody s_InputError_init) (defScope s_InputError_init) [("__class__", cc_InputError)] .none .none dc_InputError_init pm_InputError_init an_InputError_init (.ref ca_InputError) ct_InputError_init) "InputError" ["self", "code"] :=
    ⟨S_InputError, PySem.W.mg_of X G aC_InputError, a_InputError_init, ti_InputError_init, exm_self eb_InputError ic_InputError ty_InputError sc_InputError, ⟨ga_InputError, gg_InputError, eb_InputError, hd_InputError⟩, n_InputError_code, B_InputError, ⟨_, _, _, l_InputError_init⟩⟩
  have F_is_number := fun_mk (st := s_is_number) l_is_number k_is_number p_is_number
  have b_is_number := F_is_number.binds (ps := ["value", "least", "most"]) fun _ _ _ _ _ _ us hl => match us, hl with | [_, _, _], _ => rfl
  have F_check_topology := fun_mk (st := s_check_topology) l_check_topology k_check_topology p_check_topology
  have b_check_topology := F_check_topology.binds (ps := ["topology"]) fun _ _ _ _ _ _ us hl => match us, hl with | [_], _ => rfl
  have F_neighbours_of := fun_mk (st := s_neighbours_of) l_neighbours_of k_neighbours_of p_neighbours_of
  have b_neighbours_of := F_neighbours_of.binds (ps := ["topology", "node"]) fun _ _ _ _ _ _ us hl => match us, hl with | [_, _], _ => rfl
  have F_most_on := fun_mk (st := s_most_on) l_most_on k_most_on p_most_on
  have b_most_on := F_most_on.binds (ps := ["topology", "one", "other"]) fun _ _ _ _ _ _ us hl => match us, hl with | [_, _, _], _ => rfl
  have F_least_costs := fun_mk (st := s_least_costs) l_least_costs k_least_costs p_least_costs
  have b_least_costs := F_least_costs.binds (ps := ["topology", "node", "down"]) fun _ _ _ _ _ _ us hl => match us, hl with | [_, _, _], _ => rfl
  have F_law_begin := fun_mk (st := s_law_begin) l_law_begin k_law_begin p_law_begin
  have b_law_begin := F_law_begin.binds (ps := ["script"]) fun _ _ _ _ _ _ us hl => match us, hl with | [_], _ => rfl
  have F_law_take := fun_mk (st := s_law_take) l_law_take k_law_take p_law_take
  have b_law_take := F_law_take.binds (ps := ["d", "many"]) fun _ _ _ _ _ _ us hl => match us, hl with | [_, _], _ => rfl
  have F_law_pick := fun_mk (st := s_law_pick) l_law_pick k_law_pick p_law_pick
  have b_law_pick := F_law_pick.binds (ps := ["d", "menu"]) fun _ _ _ _ _ _ us hl => match us, hl with | [_, _], _ => rfl
  have F_law_topology := fun_mk (st := s_law_topology) l_law_topology k_law_topology p_law_topology
  have b_law_topology := F_law_topology.binds (ps := ["d"]) fun _ _ _ _ _ _ us hl => match us, hl with | [_], _ => rfl
  have F_law_code := fun_mk (st := s_law_code) l_law_code k_law_code p_law_code
  have b_law_code := F_law_code.binds (ps := ["topology"]) fun _ _ _ _ _ _ us hl => match us, hl with | [_], _ => rfl
  have F_law := fun_mk (st := s_law) l_law k_law p_law
  have b_law := F_law.binds (ps := ["script"]) fun _ _ _ _ _ _ us hl => match us, hl with | [_], _ => rfl
  have T : Txt l.prog K mg ⟨f_InputError_init, PySem.W.fnX "__init__" "InputError.__init__" (defArgs s_InputError_init) (defBody s_InputError_init) (defScope s_InputError_init) [("__class__", cc_InputError)] .none .none dc_InputError_init pm_InputError_init an_InputError_init (.ref ca_InputError) ct_InputError_init, f_is_number, PySem.W.fnOf "is_number" "is_number" (defArgs s_is_number) (defBody s_is_number) (defScope s_is_number) .none kV_is_number dc_is_number pm_is_number an_is_number cd_is_number ct_is_number, f_check_topology, PySem.W.fnOf "check_topology" "check_topology" (defArgs s_check_topology) (defBody s_check_topology) (defScope s_check_topology) .none kV_check_topology dc_check_topology pm_check_topology an_check_topology cd_check_topology ct_check_topology, f_neighbours_of, PySem.W.fnOf "neighbours_of" "neighbours_of" (defArgs s_neighbours_of) (defBody s_neighbours_of) (defScope s_neighbours_of) .none kV_neighbours_of dc_neighbours_of pm_neighbours_of an_neighbours_of cd_neighbours_of ct_neighbours_of, f_most_on, PySem.W.fnOf "most_on" "most_on" (defArgs s_most_on) (defBody s_most_on) (defScope s_most_on) .none kV_most_on dc_most_on pm_most_on an_most_on cd_most_on ct_most_on, f_least_costs, PySem.W.fnOf "least_costs" "least_costs" (defArgs s_least_costs) (defBody s_least_costs) (defScope s_least_costs) .none kV_least_costs dc_least_costs pm_least_costs an_least_costs cd_least_costs ct_least_costs, f_law_begin, PySem.W.fnOf "_law_begin" "_law_begin" (defArgs s_law_begin) (defBody s_law_begin) (defScope s_law_begin) .none kV_law_begin dc_law_begin pm_law_begin an_law_begin cd_law_begin ct_law_begin, f_law_take, PySem.W.fnOf "_law_take" "_law_take" (defArgs s_law_take) (defBody s_law_take) (defScope s_law_take) .none kV_law_take dc_law_take pm_law_take an_law_take cd_law_take ct_law_take, f_law_pick, PySem.W.fnOf "_law_pick" "_law_pick" (defArgs s_law_pick) (defBody s_law_pick) (defScope s_law_pick) .none kV_law_pick dc_law_pick pm_law_pick an_law_pick cd_law_pick ct_law_pick, f_law_topology, PySem.W.fnOf "_law_topology" "_law_topology" (defArgs s_law_topology) (defBody s_law_topology) (defScope s_law_topology) .none kV_law_topology dc_law_topology pm_law_topology an_law_topology cd_law_topology ct_law_topology, f_law_code, PySem.W.fnOf "_law_code" "_law_code" (defArgs s_law_code) (defBody s_law_code) (defScope s_law_code) .none kV_law_code dc_law_code pm_law_code an_law_code cd_law_code ct_law_code, fa, PySem.W.fnOf "law" "law" (defArgs s_law) (defBody s_law) (defScope s_law) .none kV_law dc_law pm_law an_law cd_law ct_law, c_InputError, cc_InputError, ca_InputError⟩ := ⟨X_InputError, ⟨F_is_number, PySem.W.mg_of X G a_is_number, p_is_number, b_is_number⟩, ⟨F_check_topology, PySem.W.mg_of X G a_check_topology, p_check_topology, b_check_topology⟩, ⟨F_neighbours_of, PySem.W.mg_of X G a_neighbours_of, p_neighbours_of, b_neighbours_of⟩, ⟨F_most_on, PySem.W.mg_of X G a_most_on, p_most_on, b_most_on⟩, ⟨F_least_costs, PySem.W.mg_of X G a_least_costs, p_least_costs, b_least_costs⟩, ⟨F_law_begin, PySem.W.mg_of X G a_law_begin, p_law_begin, b_law_begin⟩, ⟨F_law_take, PySem.W.mg_of X G a_law_take, p_law_take, b_law_take⟩, ⟨F_law_pick, PySem.W.mg_of X G a_law_pick, p_law_pick, b_law_pick⟩, ⟨F_law_topology, PySem.W.mg_of X G a_law_topology, p_law_topology, b_law_topology⟩, ⟨F_law_code, PySem.W.mg_of X G a_law_code, p_law_code, b_law_code⟩, ⟨F_law, PySem.W.mg_of X G a_law, p_law, b_law⟩, PySem.W.mg_none_of X G z_super, PySem.W.mg_none_of X G z_isinstance, PySem.W.mg_none_of X G z_int, PySem.W.mg_none_of X G z_bool, PySem.W.mg_none_of X G z_sorted, PySem.W.mg_none_of X G z_min, PySem.W.mg_none_of X G z_max, PySem.W.mg_none_of X G z_range, PySem.W.mg_none_of X G z_tuple, PySem.W.mg_none_of X G z_list, PySem.W.mg_none_of X G z_len, PySem.W.mg_none_of X G z_abs, ⟨_, PySem.W.mg_of X G gv_MOST_NODES, ⟨_, rfl⟩⟩, ⟨_, PySem.W.mg_of X G gv_MOST_COST, ⟨_, rfl⟩⟩, ⟨_, PySem.W.mg_of X G gv_LEAST_BODY, ⟨_, rfl⟩⟩, ⟨_, PySem.W.mg_of X G gv_MOST_BODY, ⟨_, rfl⟩⟩⟩
  exact ⟨_, fun s v => .of_eq rfl, fun base _ _ => ok_law T⟩
theorem walk {l : PySem.W.OpenLaw} {q : Program} {loose : List Str} {XP : (Str → Option Value) → Heap → Prop} {YP : World → Heap → Prop} {d : DefRec} {K : Params → PySem.W.Frag} (hn : l.most = some 63) (hdf : d.params.defaults = [])
    (hY : ∀ (w : World) (h : Heap), YP w h → (K w.params).In h)
    (F : ∀ (w : World) (mg : Str → Option Value) (fa : Addr) (h : Heap), (K w.params).In h → h.Ns mainGlobals mg → mg d.name = some (.ref fa) →
      ∃ fd : FuncData, (∀ (s : Shared) (u : Value), BindsTo s fd ⟨[u], []⟩ [("script", u)]) ∧ ∀ base : Heap, (K w.params).In base → base.Ns mainGlobals mg → FnOk l.prog w (K w.params) mg base CX0 5 fa fd ["script"] (spLaw (K w.params))) :
    PySem.W.WalkO q loose XP YP l.row.toRowW d [] (fun f vs => PySem.call f vs) :=
  L2.walk_of (n := 63) (k := 5) (x := "script") (CX := fun _ => CX0) (sp := fun w => spLaw (K w.params)) hn (by decide) hdf ⟨rfl, by decide, by decide⟩ hY F (fun _ _ a ns hl _ hS => ⟨a, ns, rfl, hS, hl, fun _ => rfl⟩) fun _ _ _ _ _ z => z
end Eo05
open PySem PySem.W PyProof.Rows
set_option maxRecDepth 100000 in
set_option maxHeartbeats 0 in
theorem PySem.Challenge.cw_everyoctetonce_k05_topologies_holds : PySem.Challenge.rw_everyoctetonce_k05_topologies.Holds := by
  w_on; o_law; k_head; (case hw => w_witness2)
  k_fill
  refine Eo05.walk (l := PySem.Challenge.rw_everyoctetonce_k05_topologies) rfl rfl (fun w h Y => PySem.W.kIn_of Y) ?F
  case F =>
    intro w mg fa h KX G hmg
    refine' Eo05.all_mk KX G hmg ?aC_InputError ?a_InputError_init ?ti_InputError_init ?l_InputError_init ?k_InputError_init ?co_InputError ?cv_InputError ?cf_InputError ?ce_InputError ?xl_InputError ?xr_InputError ?sa_InputError ?eb_InputError ?ty_InputError ?kp_InputError ?mr_InputError ?tp_InputError ?oq_InputError ?si_InputError ?ve_InputError ?ga_InputError ?gg_InputError ?hd_InputError ?ic_InputError ?sc_InputError ?n_InputError_code ?a_is_number ?l_is_number ?k_is_number ?p_is_number ?a_check_topology ?l_check_topology ?k_check_topology ?p_check_topology ?a_neighbours_of ?l_neighbours_of ?k_neighbours_of ?p_neighbours_of ?a_most_on ?l_most_on ?k_most_on ?p_most_on ?a_least_costs ?l_least_costs ?k_least_costs ?p_least_costs ?a_law_begin ?l_law_begin ?k_law_begin ?p_law_begin ?a_law_take ?l_law_take ?k_law_take ?p_law_take ?a_law_pick ?l_law_pick ?k_law_pick ?p_law_pick ?a_law_topology ?l_law_topology ?k_law_topology ?p_law_topology ?a_law_code ?l_law_code ?k_law_code ?p_law_code ?a_law ?l_law ?k_law ?p_law ?z_super ?z_isinstance ?z_int ?z_bool ?z_sorted ?z_min ?z_max ?z_range ?z_tuple ?z_list ?z_len ?z_abs ?gv_MOST_NODES ?gv_MOST_COST ?gv_LEAST_BODY ?gv_MOST_BODY
    (case aC_InputError => k_is)
    (case a_InputError_init => k_is)
    (case ti_InputError_init => k_is)
    (case l_InputError_init => k_is)
    (case k_InputError_init => k_is)
    (case co_InputError => k_is)
    (case cv_InputError => rfl)
    (case cf_InputError => decide +kernel)
    (case ce_InputError => k_is)
    (case xl_InputError => k_is)
    (case xr_InputError => decide +kernel)
    (case sa_InputError => k_is)
    (case eb_InputError => k_is)
    (case ty_InputError => k_is)
    (case kp_InputError => k_is)
    (case mr_InputError => first | rfl | k_is)
    (case tp_InputError => decide +kernel)
    (case oq_InputError => k_is)
    (case si_InputError => first | ks_is | k_is | decide +kernel)
    (case ve_InputError => k_is)
    (case ga_InputError => k_is)
    (case gg_InputError => k_is)
    (case hd_InputError => k_is)
    (case ic_InputError => k_is)
    (case sc_InputError => first | rfl | k_is)
    (case n_InputError_code => k_is)
    (case a_is_number => k_is)
    (case l_is_number => k_is)
    (case k_is_number => k_is)
    (case p_is_number => k_is)
    (case a_check_topology => k_is)
    (case l_check_topology => k_is)
    (case k_check_topology => k_is)
    (case p_check_topology => k_is)
    (case a_neighbours_of => k_is)
    (case l_neighbours_of => k_is)
    (case k_neighbours_of => k_is)
    (case p_neighbours_of => k_is)
    (case a_most_on => k_is)
    (case l_most_on => k_is)
    (case k_most_on => k_is)
    (case p_most_on => k_is)
    (case a_least_costs => k_is)
    (case l_least_costs => k_is)
    (case k_least_costs => k_is)
    (case p_least_costs => k_is)
    (case a_law_begin => k_is)
    (case l_law_begin => k_is)
    (case k_law_begin => k_is)
    (case p_law_begin => k_is)
    (case a_law_take => k_is)
    (case l_law_take => k_is)
    (case k_law_take => k_is)
    (case p_law_take => k_is)
    (case a_law_pick => k_is)
    (case l_law_pick => k_is)
    (case k_law_pick => k_is)
    (case p_law_pick => k_is)
    (case a_law_topology => k_is)
    (case l_law_topology => k_is)
    (case k_law_topology => k_is)
    (case p_law_topology => k_is)
    (case a_law_code => k_is)
    (case l_law_code => k_is)
    (case k_law_code => k_is)
    (case p_law_code => k_is)
    (case a_law => k_is)
    (case l_law => k_is)
    (case k_law => k_is)
    (case p_law => k_is)
    (case z_super => k_is)
    (case z_isinstance => k_is)
    (case z_int => k_is)
    (case z_bool => k_is)
    (case z_sorted => k_is)
    (case z_min => k_is)
    (case z_max => k_is)
    (case z_range => k_is)
    (case z_tuple => k_is)
    (case z_list => k_is)
    (case z_len => k_is)
    (case z_abs => k_is)
    (case gv_MOST_NODES => k_is)
    (case gv_MOST_COST => k_is)
    (case gv_LEAST_BODY => k_is)
    (case gv_MOST_BODY => k_is)
#print axioms PySem.Challenge.cw_everyoctetonce_k05_topologies_holds

