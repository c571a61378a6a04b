import PyProof.Rows.All
import Wide.All
import OpenK.AllK
import Wide.FinOn
import HandS.ForMost
import HandS.Wide
import HandS.Walk
import HandS.TupAny
import HandS.Nested
import HandS.Codes
import HandS.ExcInit
import HandS.ExcField
import HandS.TryOnly
import HandS.WordsExc
import HandS.FStr
import HandS.IsInst
import HandS.More
import HandS.Style
import HandS.Star
import HandS.Zip
import HandS.TupMul
import KE.KDictSum
import KE.KExcSuper
import KE.KIndexOf
import KE.KDictZip
import KE.GoesMore
import PyProof.StrOps2
import PySem.Challenge.RW_everyoctetonce_k24_rules
set_option Elab.async false
set_option linter.all false
set_option maxRecDepth 100000
set_option maxHeartbeats 2000000
set_option pp.maxSteps 250
namespace Eo24
open PySem L2
/-! ### an own exception's __init__ that begins with super().__init__(e) -/
namespace Sup
open PySem PySem.W PySem.Calls PyProof.Rows L2 NdefX
variable {CX : CXT} {P : Program} {w : World} {K : PySem.W.Frag} {mg : Str → Option Value} {base : Heap} {N ps : List Str} {f cc cda C : Addr} {k : Nat} {sp : Sp}
/-- what the written part says of the def, its cell, its class -/
structure SupTxt (P : Program) (K : PySem.W.Frag) (mg : Str → Option Value) (F : NF) (f cc C : Addr) (self0 : Str) : Prop where
  lk : ∃ oc od doc pm an ct osl, K.lookup f = some ⟨oc, od, .func (PySem.W.fnX F.name F.qual F.params F.body F.scope F.cl .none .none doc pm an (.ref F.c) ct), osl⟩
  cl : F.cl = [(("__class__" : Str), cc)]
  code : codeIn K (.ref F.c) F.qual = true
  cob : ∃ ccl cdd vs ccs file tf, K.lookup F.c = some ⟨ccl, cdd, .fields vs, ccs⟩ ∧ vs[2]? = some (.str file tf) ∧ ((P.main.file : Str) == file) = true
  cell : ∃ cl cld csl, K.lookup cc = some ⟨cl, cld, .cell (some (.ref C)), csl⟩
  T : OexC K C
  sub : mroIn K C (.ref C) = some true
  msup : mg "super" = none
  top : (P.main.scope.names.lookup ("super" : Str)).isSome = false
  opq : nsIn K cStatics "thirdparty.any" = some none
  init : ks_superIn K C C "__init__" = some (some (.builtin "ValueError.__init__"))
  ve : subIn K (.ref C) (.type "ValueError") = some true
  par : ∃ ar, (F.params.posonlyargs ++ F.params.args).head? = some ar ∧ ar.arg = self0
  ks : F.scope.names.lookup ("super" : Str) = some .globalImplicit
  boot : bootBuiltins "super" = some (.type "super")
theorem fn_super {F : NF} {self0 : Str} {ps' : List Str} {p0 p1 p2 p3 p4 : Pos} {e : Expr} {rest : List Stmt} (X : SupTxt P K mg F f cc C self0) (S : NScope N (self0 :: ps') ["__class__"] F.scope)
    (hb : F.body = .Expr (.Call (.Attribute (.Call (.Name "super" p0) [] [] p1) "__init__" p2) [e] [] p3) p4 :: rest)
    (len : ∀ vs H Q E, sp vs H Q E → vs.length = (self0 :: ps').length)
    (hbody : ∀ (A : Around) (outer : List Env) (s : Shared) (H : Hp) (vs : List V) (Q : VK) (E : XK), Room k (A.deeper (envF F f s.heap.objs.size)) → sp vs H Q E →
      ∃ a vr ta R, vs = .ref a :: vr ∧ H a = some (exo a C none) ∧ PA (ncx CX P w K mg base N F f A outer s H E) [e] ta ∧ ta (startF N vs [none]) H R ∧
        ∀ ws H1, R ws H1 → ws.length ≤ 1000 ∧ H1 a = some (exo a C none) ∧ ∃ t, PSs (ncx CX P w K mg base N F f A outer s H E) rest t ∧ t { nx := fun _ H' => Q .non H', rt := Q } (startF N vs [none]) H1)
    {pl : Sem Bool} (hev : ∀ L : Addr, eval (.Call (.Attribute (.Call (.Name "super" p0) [] [] p1) "__init__" p2) [e] [] p3) (envF F f L) = (do
      let ov ← attributeBase (.Call (.Name "super" p0) [] [] p1) "__init__" (envF F f L) (eval (.Call (.Name "super" p0) [] [] p1) (envF F f L))
      standAt p2.atName
      let (g, first) ← holding [ov] (getMethod ov "__init__" pl)
      callWith p3 g first (backTo p3 (starEach [e] (envF F f L))) []))
    (hsw : ∀ L : Addr, swapsWith (.Call (.Attribute (.Call (.Name "super" p0) [] [] p1) "__init__" p2) [e] [] p3) none p4.line (envF F f L) = pure false)
    (hst : ∀ L : Addr, starEach [e] (envF F f L) = (false, eval e (envF F f L)) :: starEach [] (envF F f L))
    {fd : FuncData} (hfd : ∃ oc od osl, K.lookup f = some ⟨oc, od, .func fd, osl⟩) :
    FnOk P w K mg base CX (k + 1) f fd (self0 :: ps') sp := by
  obtain ⟨oc, od, doc, pm, an, ct, osl, lk⟩ := X.lk
  obtain ⟨_, _, _, lk2⟩ := hfd
  rw [lk] at lk2
  cases lk2
  refine ⟨len, fun A outer s H args us vs Q E hr e0 hbd r hsp => ?_⟩
  have hl := len _ _ _ _ hsp
  have KX : K.In s.heap := e0.mod.kin.keeps fun b o e => (e0.bs b o e).1
  have lim : s.heap.NoLimit := e0.mod.nolimit.keeps fun b o e => (e0.bs b o e).1
  refine ks_codeAny_call_defAt (fd := PySem.W.fnX F.name F.qual F.params F.body F.scope F.cl .none .none doc pm an (.ref F.c) ct) (body := F.body) (binds := (self0 :: ps').zip us) hr.depth (KX _ _ lk) rfl lim (PySem.W.codeRec_of KX X.code) rfl hbd S.nocell (fun x hx => S.par x.1 (List.of_mem_zip hx).1) (fun h₁ hns kp => ?_) S.co S.gen S.kind
  show _root_.PySem.wpAt _ (A.deeper (envF F f s.heap.objs.size)) (.func F.body (envF F f s.heap.objs.size)) (execs F.body (envF F f s.heap.objs.size)) _ _ _
  obtain ⟨a, vr, ta, R, rfl, ea, ha, hta, hrest⟩ := hbody A outer s H vs Q E (hr.deeper _) hsp
  obtain ⟨cl, cld, csl, hcell⟩ := X.cell
  have Cs : CellsAt F.cl ["__class__"] [none] s.heap H := by
    have one : ∀ y c, F.cl.lookup y = some c → y = "__class__" ∧ c = cc := fun y c h => by
      rw [X.cl] at h
      by_cases z : y = "__class__"
      · subst z
        simp [List.lookup] at h
        exact ⟨rfl, h.symm⟩
      · have z' : (y == ("__class__" : Str)) = false := by simp [z]
        simp [List.lookup, z'] at h
    refine ⟨rfl, fun y c h => ?_, fun x y c h1 h2 => by rw [(one x c h1).1, (one y c h2).1], fun i y h => ?_⟩
    · obtain ⟨rfl, rfl⟩ := one y c h
      exact ⟨(e0.bs _ _ (e0.mod.kin _ _ hcell)).2, _, _, KX _ _ hcell, rfl⟩
    · cases i with
      | zero =>
        simp at h
        subst h
        refine ⟨cc, by rw [X.cl]; simp [List.lookup], fun v hv => ?_⟩
        simp at hv
      | succ i => simp at h
  have I : Inv (ncx CX P w K mg base N F f A outer s H E) [] (startF N (.ref a :: vr) [none]) H { s with heap := h₁, toks := s.toks + ((self0 :: ps').zip us).length } := inv_startN S hr.hd e0 hl r Cs hns kp
  have hx : execs F.body (envF F f s.heap.objs.size) = execs (.Expr (.Call (.Attribute (.Call (.Name "super" p0) [] [] p1) "__init__" p2) [e] [] p3) p4 :: rest) (envF F f s.heap.objs.size) := by rw [hb]
  rw [hx]
  have hint : interactive (envF F f s.heap.objs.size) = false := by
    unfold interactive
    simp [S.kind]
  refine ks_wpAt_execs_cons (ks_wpAt_Expr_any (ks_wpAt_MethodCall ?_ (hev _)) hint (hsw _))
  obtain ⟨ccl, cdd, fvs, ccs, file, tf, hcode, hvs, hfile⟩ := X.cob
  obtain ⟨ar, har, hself⟩ := X.par
  obtain ⟨nm, q, Nn, bs, bm, sn, sub, ab, col, dd, k0, k1, k2, k3, k5, hC, hbm⟩ := X.T.cls
  obtain ⟨mb, hb1, hb2⟩ := I.mod.blt
  obtain ⟨t1, ho⟩ := exo_at I.hok ea
  obtain ⟨u0, hu0, ru0⟩ := r.get (i := 0) (x := .ref a) rfl
  obtain rfl : u0 = Value.ref a := ru0
  have nd : (self0 :: ps').Nodup := by
    have z := S.nd.sublist (List.take_sublist ((self0 :: ps').length + (["__class__"] : List Str).length) N)
    rw [S.pre] at z
    exact (List.nodup_append.mp z).1
  have hv0 : ((self0 :: ps').zip us).reverse.lookup self0 = some (.ref a) := zip_look nd (i := 0) rfl hu0
  have X1 : K.In h₁ := KX.keeps kp
  have hcd : ∃ cd, clsIn K C = some cd ∧ ∃ oD, h₁.get? C = some oD ∧ oD.data = .cls cd := by
    refine ⟨_, by unfold clsIn; rw [hC], _, X1 _ _ hC, rfl⟩
  obtain ⟨cd, hclsIn, oD, hD1, hD2⟩ := hcd
  have hkc : F.scope.names.lookup ("__class__" : Str) = some .free := S.frk _ List.mem_cons_self
  refine ks_wpAt_super_base (env := envF F f s.heap.objs.size) (prog := P) X.ks hkc rfl rfl (X1 _ _ lk) rfl har rfl (X1 _ _ hcode) rfl hvs hfile X.top ?_
  refine ks_loadName_global S.kind X.ks (loadGlobal_builtin (env := envF F f s.heap.objs.size) (I.mod.glob.keeps I.bk) X.msup (hb1.keeps I.bk) ((hb2 "super" (by decide)).trans X.boot) ⟨rfl, ?_⟩)
  refine wpAny_loadName_free S.kind hkc (by show F.cl.lookup _ = some cc; rw [X.cl]; simp [List.lookup]) ⟨_, X1 _ _ hcell, rfl⟩ ?_
  refine wpAny_loadName_local S.kind (by show F.scope.names.lookup ar.arg = _; rw [hself]; exact S.par _ List.mem_cons_self) hns (by rw [hself]; exact hv0) ?_
  refine ks_wpAny_isType_cls hD1 hD2 ⟨rfl, ?_⟩
  refine ks_wpAny_call_super hD1 hD2 ho rfl (fun c z => by cases z) (looks_mroIn X1 X.sub) (fun h2 e2 k2' => ?_)
  have X2 : K.In h2 := X1.keeps k2'
  have ho2 := k2' _ _ ho
  have IA : InstAt h2 a { cls := .ref C, dict := none, data := .fields #[.ref t1, .none, .none, .none, .bool false, .none] } C none := ⟨ho2, rfl, rfl, trivial⟩
  have hal : alongIn K "__init__" ((cd.mro.dropWhile (· != .ref C)).drop 1) = some (some (.builtin "ValueError.__init__")) := by
    have z := X.init
    unfold ks_superIn at z
    rw [hclsIn] at z
    exact z
  refine kxs_getMethod kxs_ValueError e2 (looks_opaque X2 X.opq) (fun A Q E s k q => wpAny_bind ((looks_clsIn X2 hclsIn) A _ E s k (wpAny_pure q))) rfl X2 hal (IA.type.andThen (looks_subIn X2 X.ve)) (ks_ne X2 IA hclsIn) (by decide) ?_
  have kk : ∀ b o, h₁.get? b = some o → (h2.push (kxs_mw "ValueError.__init__" a)).get? b = some o := fun b o z => Heap.get?_push_of_some _ (k2' b o z)
  have hu : (h2.push (kxs_mw "ValueError.__init__" a)).get? h2.objs.size = some (kxs_mw "ValueError.__init__" a) := Heap.get?_push_at rfl rfl
  have hlt : h₁.objs.size ≤ h2.objs.size := Nat.le_of_lt (Heap.lt_size e2)
  have I3a := I.kept (h' := h2.push (kxs_mw "ValueError.__init__" a)) (t' := s.toks + ((self0 :: ps').zip us).length + 1) kk
  have hloc := I.lt
  have nu : H h2.objs.size = none := I.hok.fresh hlt
  have I3 : L2.Inv (ncx CX P w K mg base N F f A outer s H E) [(h2.objs.size, kxs_mw "ValueError.__init__" a)] (startF N (V.ref a :: vr) [none]) H _ := I3a.pins_of fun p hp => by
    rw [List.mem_singleton.mp hp]
    refine ⟨hu, nu, fun z => ?_, I.nofs hlt, fun v z => by cases z⟩
    have hloc' : s.heap.objs.size < h₁.objs.size := hloc
    have z' : h2.objs.size = s.heap.objs.size := z
    omega
  rw [hst]
  refine kxs_callWith (i := "ValueError.__init__") (x := a) rfl ?_
  refine evalArgs_plain (rest := backTo p3 (starEach [] (envF F f s.heap.objs.size))) ?_
  show wpAny _ _ (spliced (backTo p3 ((false, eval e (envF F f s.heap.objs.size)) :: starEach [] (envF F f s.heap.objs.size)))) _ _ _
  rw [← hst]
  refine wpAny_mono (ha.run p3 _ _ (startF N (V.ref a :: vr) [none]) H R I3 hta) (fun vs4 s4 h4 => ?_) fun _ _ z => z
  obtain ⟨ws, H4, I4, r4, q4⟩ := h4
  have hu4 : s4.heap.get? h2.objs.size = some (kxs_mw "ValueError.__init__" a) := (I4.pin _ (List.mem_append_right _ List.mem_cons_self)).1
  refine ⟨hu4, ?_⟩
  obtain ⟨hwl, ea4, t, hrun, hq⟩ := hrest ws H4 q4
  obtain ⟨t4, ho4⟩ := exo_at I4.hok ea4
  have hz4 : vs4.length ≤ sizeLine := by
    rw [← Paired.length r4, sizeLine_eq]
    omega
  obtain ⟨g4, gens4, d4, tk4, os4⟩ := s4
  have hC4 := (I4.kIn) _ _ hC
  refine wpAny_call (codeAny_of_tree ?_)
  show wpAny _ _ (callAny (.ref h2.objs.size) ⟨[] ++ vs4, []⟩) _ _ _
  simp only [callAny]
  refine wpAny_bind (wpAny_load hu4 ?_)
  simp only [kxs_mw, show (Value.type "method-wrapper" == Value.type "method" || Value.type "method-wrapper" == Value.type "builtin_function_or_method" || Value.type "method-wrapper" == Value.type "method-wrapper") = true by decide, if_true]
  refine KFB.if_so (by decide) ?_
  refine wpAny_bind (check_bound_init PySem.F.excBase_ValueError.toExcCallFacts hC4 ho4 rfl ?_)
  refine wpAny_bind (wpAny_pure (wpAny_pure ?_))
  refine ⟨plainId_quiet PySem.F.excBase_ValueError.init.plain _, codeAny_builtin PySem.F.excBase_ValueError.initEntry ?_⟩
  refine exc_init_tree (cls := .ref C) (t0 := t4) (dv := none) (c2 := .none) (c3 := .none) (b4 := .bool false) ho4 (by simpa using hz4) (fun h6 kp6 he6 ht6 => ?_)
  have J := I4.write (t' := tk4) (x := a) (e := a) (o := exo a C none) (by rw [ea4]; exact True.intro) (.inl rfl) kp6 ⟨_, he6⟩ (exo_ok he6)
  have eu : upd H4 a (exo a C none) = H4 := by
    funext b
    by_cases hb : b = a
    · rw [hb, upd_same, ea4]
    · rw [upd_ne hb]
  rw [eu] at J
  have I5 := J.pins_of (pins' := []) (fun p hp => by cases hp)
  show _root_.PySem.wpAt _ _ _ _ _ _ _
  refine PySem.wpAt_of_wpAny (wpAny_mono (hrun.run [] _ _ H4 _ I5 hq) (fun fl s' hs => ?_) fun e s' hs => hs)
  have fin : ∀ {σ' : L2.St} {H' : Hp} {v : V} {u : Value}, L2.Inv (ncx CX P w K mg base N F f A outer s H E) [] σ' H' s' → L2.RelV v u → Q v H' → CE outer P w H s Q u s' :=
    fun {σ' H' v u} J rv q => ⟨v, H', J.os, J.bare, J.base, J.hok, rv, q⟩
  cases fl with
  | ret u =>
    obtain ⟨v, σ', H', J, rv, q⟩ := hs
    exact fin J rv q
  | next =>
    obtain ⟨σ', H', J, q⟩ := hs
    exact fin (v := V.non) (u := Value.none) J rfl q
  | brk =>
    obtain ⟨_, _, _, q⟩ := hs
    exact False.elim q
  | cont =>
    obtain ⟨_, _, _, q⟩ := hs
    exact False.elim q
end Sup
/-- an error of the class at C is what «except» of it names -/
theorem exm_self {K : PySem.W.Frag} {C : Addr} (h1 : PySem.W.subIn K (.ref C) (.type "BaseException") = some true) (h2 : PySem.W.isClsIn K C = true) (h3 : PySem.W.typeIn K (.ref C) = some (.type "type")) (h4 : PySem.W.subIn K (.ref C) (.ref C) = some true) :
    PySem.W.exmOne K (.ref C) (.ref C) = some true := by
  have e1 : (PySem.W.subIn K (.ref C) (.type "BaseException") == some true) = true := by rw [h1]; rfl
  have e2 : ((PySem.W.clsIn K C).isSome && PySem.W.typeIn K (.ref C) == some (.type "type")) = true := by
    rw [show (PySem.W.clsIn K C).isSome = true from h2, h3]
    rfl
  show (if (PySem.W.subIn K (.ref C) (.type "BaseException") == some true) = true then (if ((PySem.W.clsIn K C).isSome && PySem.W.typeIn K (.ref C) == some (.type "type")) = true then PySem.W.subIn K (.ref C) (.ref C) else none) else none) = some true
  rw [if_pos e1, if_pos e2]
  exact h4
/-- an own exception's class x (def __init__ F at f, its cell at cc), parameters ps, made by super().__init__(..) and fields -/
structure ExcT (P : Program) (K : PySem.W.Frag) (mg : Str → Option Value) (F : NdefX.NF) (f cc C : Addr) (fd : FuncData) (x : Str) (ps : List Str) : Prop where
  S : Sup.SupTxt P K mg F f cc C "self"
  mg : mg x = some (.ref C)
  iC : PySem.W.findIn K (.ref C) "__init__" = some (some (.ref f))
  tI : PySem.W.typeIn K (.ref f) = some (.type "function")
  te : PySem.W.exmOne K (.ref C) (.ref C) = some true
  xf : XfC K C
  no_code : PySem.W.findIn K (.ref C) "code" = some none
  b : Binds K fd ps []
  hfd : ∃ oc od osl, K.lookup f = some ⟨oc, od, .func fd, osl⟩
/-! ### frames -/
def Imm : HO → Bool
  | .tup _ => true
  | .frz _ (.tup _) => true
  | _ => false
/-- all that stood stands, but at the addresses of A; what never changes stands anyway -/
structure Ext (A : List Addr) (H H' : Hp) : Prop where
  keep : ∀ b o, H b = some o → b ∉ A → H' b = some o
  imm : ∀ b o, H b = some o → Imm o = true → H' b = some o
theorem Ext.refl {A : List Addr} (H : Hp) : Ext A H H := ⟨fun _ _ h _ => h, fun _ _ h _ => h⟩
theorem Ext.trans {A B C : List Addr} {H H1 H2 : Hp} (e : Ext A H H1) (f : Ext B H1 H2) (hA : ∀ x ∈ A, x ∈ C) (hB : ∀ x ∈ B, (∃ o, H x = some o) → x ∈ C) : Ext C H H2 :=
  ⟨fun b o h n => f.keep b o (e.keep b o h fun z => n (hA b z)) fun z => n (hB b z ⟨o, h⟩), fun b o h i => f.imm b o (e.imm b o h i) i⟩
theorem Ext.mono {A B : List Addr} {H H1 : Hp} (e : Ext A H H1) (h : ∀ x ∈ A, x ∈ B) : Ext B H H1 := ⟨fun b o q n => e.keep b o q fun z => n (h b z), e.imm⟩
theorem Ext.new {H : Hp} {p : Addr} {o : HO} (h : H p = none) : Ext [] H (upd H p o) :=
  ⟨fun b u e _ => by rw [upd_ne (ne_of_none e h)]; exact e, fun b u e _ => by rw [upd_ne (ne_of_none e h)]; exact e⟩
theorem Ext.wr {H : Hp} {p : Addr} {o u : HO} (h : H p = some o) (n : Imm o = false) : Ext [p] H (upd H p u) :=
  ⟨fun b v e z => by rw [upd_ne (fun q => z (by rw [q]; exact List.mem_singleton.mpr rfl))]; exact e, fun b v e i => by
    rw [upd_ne (fun q => by subst q; rw [h] at e; cases e; rw [n] at i; cases i)]; exact e⟩
theorem Ext.free {A : List Addr} {H H' : Hp} {p : Addr} (e : Ext A H H') (h : H' p = none) (n : p ∉ A) : H p = none := by
  cases q : H p with
  | none => rfl
  | some o => rw [e.keep p o q n] at h; cases h
theorem Ext.snoc {A C : List Addr} {H H1 H2 : Hp} (f : Ext A H1 H2) (e : Ext C H H1) (hA : ∀ x ∈ A, (∃ o, H x = some o) → x ∈ C) : Ext C H H2 := e.trans f (fun _ h => h) hA
theorem sub0 {H : Hp} {C : List Addr} : ∀ x ∈ ([] : List Addr), (∃ o, H x = some o) → x ∈ C := fun _ h => by cases h
theorem sub1 {H : Hp} {C : List Addr} {a : Addr} (m : a ∈ C) : ∀ x ∈ [a], (∃ o, H x = some o) → x ∈ C := fun x h _ => by rw [List.mem_singleton.mp h]; exact m
theorem sub1f {H : Hp} {C : List Addr} {a : Addr} (m : H a = none) : ∀ x ∈ [a], (∃ o, H x = some o) → x ∈ C := fun x h ⟨o, e⟩ => by rw [List.mem_singleton.mp h, m] at e; cases e
theorem subC {H : Hp} {C A : List Addr} {a : Addr} (m : a ∈ C) (r : ∀ x ∈ A, (∃ o, H x = some o) → x ∈ C) : ∀ x ∈ a :: A, (∃ o, H x = some o) → x ∈ C := fun x h z => by
  rcases List.mem_cons.mp h with q | q
  · rw [q]; exact m
  · exact r x q z
theorem subCf {H : Hp} {C A : List Addr} {a : Addr} (m : H a = none) (r : ∀ x ∈ A, (∃ o, H x = some o) → x ∈ C) : ∀ x ∈ a :: A, (∃ o, H x = some o) → x ∈ C := fun x h z => by
  rcases List.mem_cons.mp h with q | q
  · obtain ⟨o, e⟩ := z
    rw [q, m] at e; cases e
  · exact r x q z
theorem nin0 {b : Addr} : b ∉ ([] : List Addr) := List.not_mem_nil
theorem nin1 {b x : Addr} (h : b ≠ x) : b ∉ [x] := fun z => h (List.mem_singleton.mp z)
theorem ninC {b x : Addr} {A : List Addr} (h : b ≠ x) (g : b ∉ A) : b ∉ (x :: A) := fun z => (List.mem_cons.mp z).elim h g
theorem Rd.ext {A : List Addr} {H H' : Hp} {a : Addr} {u : HO} (e : Ext A H H') (h : Rd H a u) (n : a ∉ A) : Rd H' a u := by
  rcases h with h | ⟨o, h⟩
  · exact .inl (e.keep _ _ h n)
  · exact .inr ⟨o, e.keep _ _ h n⟩
theorem sqT_ext {K : PySem.W.Frag} {A : List Addr} {H H' : Hp} {a : Addr} {xs : List V} (e : Ext A H H') (h : SqT K H a xs) : SqT K H' a xs := by
  rcases h with (h | ⟨o, h⟩) | h
  · exact .inl (.inl (e.imm _ _ h rfl))
  · exact .inl (.inr ⟨o, e.imm _ _ h rfl⟩)
  · exact .inr h
theorem sqL_ext {K : PySem.W.Frag} {A : List Addr} {H H' : Hp} {a : Addr} {xs : List V} (e : Ext A H H') (h : SqL K H a xs) (n : ∀ o, H a = some o → a ∉ A) : SqL K H' a xs := by
  rcases h with (h | ⟨o, h⟩) | h
  · exact .inl (.inl (e.keep _ _ h (n _ h)))
  · exact .inl (.inr ⟨o, e.keep _ _ h (n _ h)⟩)
  · exact .inr h
theorem sqT_cast {K : PySem.W.Frag} {H : Hp} {a : Addr} {xs ys : List V} (h : SqT K H a xs) (e : xs = ys) : SqT K H a ys := e ▸ h
theorem sqL_ext0 {K : PySem.W.Frag} {H H' : Hp} {a : Addr} {xs : List V} (e : Ext [] H H') (h : SqL K H a xs) : SqL K H' a xs := sqL_ext e h fun _ _ => nin0
/-- a new object o, its place any free one -/
def NewO (H : Hp) (o : HO) (R : Addr → Hp → Prop) : Prop := ∀ p H', H p = none → Ext [] H H' → H' p = some o → R p H'
theorem NewO.raw {H : Hp} {o : HO} {R : Addr → Hp → Prop} (h : NewO H o R) : ∀ p, H p = none → R p (upd H p o) := fun p hp => h p _ hp (Ext.new hp) upd_same
/-- a reading's end, weakened -/
def stA (t : TA) : TA := fun σ H Q => ∃ R : List V → Hp → Prop, t σ H R ∧ ∀ xs H', R xs H' → Q xs H'
def stE (t : TE) : TE := fun σ H Q => ∃ R : V → Hp → Prop, t σ H R ∧ ∀ x H', R x H' → Q x H'
theorem PA.star {X : Cx} {es : List Expr} {t : TA} (h : PA X es t) : PA X es (stA t) := by
  constructor
  rintro pos pn st sl hp R J ⟨R1, a, b⟩
  apply thn (h.run pos pn st sl hp R1 J a)
  rintro us s1 ⟨vs, H1, J1, rv, q⟩
  exact ⟨vs, H1, J1, rv, b _ _ q⟩
theorem PE.star {X : Cx} {e : Expr} {t : TE} (h : PE X e t) : PE X e (stE t) := by
  constructor
  rintro pn st sl hp R J ⟨R1, a, b⟩
  apply thn (h.run pn st sl hp R1 J a)
  rintro u s1 ⟨v, H1, J1, rv, q⟩
  exact ⟨v, H1, J1, rv, b _ _ q⟩
def stG (g : TG) : TG := fun v σ H Q => ∃ R : L2.St → Hp → Prop, g v σ H R ∧ ∀ a b, R a b → Q a b
def stT (t : TT) : TT := fun σ H Q => ∃ R : Bool → Hp → Prop, t σ H R ∧ ∀ a b, R a b → Q a b
theorem PG.star {X : Cx} {e : Expr} {g : TG} (h : PG X e g) : PG X e (stG g) := by
  constructor
  rintro pn st sl hp v u Q J rv ⟨R, a, b⟩
  apply thn (h.run pn st sl hp v u R J rv a)
  rintro _ s1 ⟨sl1, H1, J1, q⟩
  exact ⟨sl1, H1, J1, b _ _ q⟩
theorem PTs.star {X : Cx} {ifs : List Expr} {t : TT} (h : PTs X ifs t) : PTs X ifs (stT t) := by
  constructor
  rintro pn st sl hp Q J ⟨R, a, b⟩
  apply thn (h.run pn st sl hp R J a)
  rintro c s1 ⟨H1, J1, q⟩
  exact ⟨H1, J1, b _ _ q⟩
theorem stE.mono {t : TE} {σ : L2.St} {H : Hp} {Q R : V → Hp → Prop} (h : stE t σ H Q) (w : ∀ a b, Q a b → R a b) : stE t σ H R := let ⟨S, a, b⟩ := h; ⟨S, a, fun x y z => w _ _ (b x y z)⟩
theorem stG.mono {t : TG} {v : V} {σ : L2.St} {H : Hp} {Q R : L2.St → Hp → Prop} (h : stG t v σ H Q) (w : ∀ a b, Q a b → R a b) : stG t v σ H R := let ⟨S, a, b⟩ := h; ⟨S, a, fun x y z => w _ _ (b x y z)⟩
theorem stT.mono {t : TT} {σ : L2.St} {H : Hp} {Q R : Bool → Hp → Prop} (h : stT t σ H Q) (w : ∀ a b, Q a b → R a b) : stT t σ H R := let ⟨S, a, b⟩ := h; ⟨S, a, fun x y z => w _ _ (b x y z)⟩
/-- what a loop over J asks; what a list comprehension over J asks -/
def ForGoal (J : It) (g : TG) (tb : TS) (D : Ends) (σ : L2.St) (H : Hp) : Prop := ∃ W : Nat → Nat → L2.St → Hp → Prop, (∃ m, W 0 m σ H) ∧ ∀ i m σ H, W i m σ H →
  (J.stop i H ∧ D.nx σ H) ∨ (J.go i H ∧ ∃ N : L2.St → Hp → Prop, (∀ σ' H', N σ' H' → ∃ m', m' < m ∧ W (i + 1) m' σ' H') ∧ ∀ x H', J.yld i H x H' → g x σ H' fun σ2 H2 => tb { D with nx := N, ct := N, bk := D.nx } σ2 H2)
def LcGoal (J : It) (g : TG) (tt : TT) (te : TE) (vs : List Nat) (σ : L2.St) (H1 : Hp) (Q : VK) : Prop := ∀ D, H1 D = none → ∃ W : Nat → Nat → Hp → Prop, (∃ m, W 0 m (upd H1 D (.lst []))) ∧ ∀ i m H, W i m H →
  (J.stop i H ∧ Q (.ref D) H) ∨ (J.go i H ∧ ∃ Nx : Hp → Prop, (∀ H', Nx H' → ∃ m', m' < m ∧ W (i + 1) m' H') ∧ ∀ x H', J.yld i H x H' → g x (wipe σ vs) H' fun σ2 H2 => wipe σ2 vs = wipe σ vs ∧ tt σ2 H2 fun b H3 =>
    if b = true then te σ2 H3 fun y H4 => ∃ acc, H4 D = some (.lst acc) ∧ acc.length < sizeLine ∧ Nx (upd H4 D (.lst (acc ++ [y]))) else Nx H3)
theorem g_forW {J : It} {n : Nat} {G : Hp → Prop} {Y : Nat → Hp → V → Hp → Prop} (w : Walk J n G Y) {g : TG} {tb : TS} {D : Ends} {σ : L2.St} {H : Hp} (Pv : Nat → L2.St → Hp → Prop) (h0 : Pv 0 σ H) (hG : ∀ i σ H, i ≤ n → Pv i σ H → G H)
    (hs : ∀ i x σ H H', i < n → Pv i σ H → Y i H x H' → g x σ H' fun σ2 H2 => tb { D with nx := Pv (i + 1), ct := Pv (i + 1), bk := D.nx } σ2 H2) (hd : ∀ σ H, Pv n σ H → D.nx σ H) : ForGoal J g tb D σ H := for_it w Pv h0 hG hs hd
theorem g_lcW {J : It} {n : Nat} {G : Hp → Prop} {Y : Nat → Hp → V → Hp → Prop} (w : Walk J n G Y) {g : TG} {tt : TT} {te : TE} {vs : List Nat} {σ : L2.St} {H1 : Hp} {Q : VK} (Pv : Addr → Nat → Hp → List V → Prop)
    (h0 : ∀ D H', H1 D = none → Ext [] H1 H' → H' D = some (.lst []) → Pv D 0 H' []) (hG : ∀ D i H acc, i ≤ n → Pv D i H acc → G H)
    (hs : ∀ D i x H H' acc, i < n → Pv D i H acc → H D = some (.lst acc) → Y i H x H' → stG g x (wipe σ vs) H' fun σ2 H2 => wipe σ2 vs = wipe σ vs ∧ stT tt σ2 H2 fun b H3 =>
      if b = true then stE te σ2 H3 fun y H4 => H4 D = some (.lst acc) ∧ acc.length < sizeLine ∧ ∀ H5, Ext [D] H4 H5 → H5 D = some (.lst (acc ++ [y])) → Pv D (i + 1) H5 (acc ++ [y]) else Pv D (i + 1) H3 acc ∧ H3 D = some (.lst acc))
    (hd : ∀ D H acc, Pv D n H acc → H D = some (.lst acc) → Q (.ref D) H) : LcGoal J (stG g) (stT tt) (stE te) vs σ H1 Q := by
  intro D hD
  apply lc_it w (fun i H => ∃ acc, Pv D i H acc ∧ H D = some (.lst acc))
  · exact ⟨[], h0 D _ hD (Ext.new hD) upd_same, upd_same⟩
  · rintro i H hi ⟨acc, p, _⟩
    exact hG D i H acc hi p
  · rintro i x H H' hi ⟨acc, p, e⟩ y
    refine (hs D i x H H' acc hi p e y).mono fun σ2 H2 ⟨q1, q2⟩ => ⟨q1, q2.mono fun b H3 q3 => ?_⟩
    cases b with
    | true => exact stE.mono q3 fun z H4 ⟨a1, a2, a3⟩ => ⟨acc, a1, a2, acc ++ [z], a3 _ (Ext.wr a1 rfl) upd_same, upd_same⟩
    | false => exact ⟨acc, q3.1, q3.2⟩
  · rintro H ⟨acc, p, e⟩
    exact hd D H acc p e
theorem PE.weak {X : Cx} {e : Expr} {t t' : TE} (h : PE X e t) (w : ∀ σ H Q, t' σ H Q → t σ H Q) : PE X e t' := ⟨fun pn st sl hp R J a => h.run pn st sl hp R J (w _ _ _ a)⟩
theorem PS.weak {X : Cx} {e : Stmt} {t t' : TS} (h : PS X e t) (w : ∀ D σ H, t' D σ H → t D σ H) : PS X e t' := ⟨fun pn st sl hp R J a => h.run pn st sl hp R J (w _ _ _ a)⟩
/-- a statement that ends in J, whence the rest goes on -/
def tJoin (t u : TS) : TS := fun D σ H => ∃ J : L2.St → Hp → Prop, t { D with nx := J } σ H ∧ ∀ σ' H', J σ' H' → u D σ' H'
theorem pss_join {X : Cx} {st : Stmt} {rest : List Stmt} {t u : TS} (h1 : PS X st t) (h2 : PSs X rest u) : PSs X (st :: rest) (tJoin t u) := by
  constructor
  rintro pn s0 sl hp D J ⟨R, a, b⟩
  apply wpAny_execs_cons
  apply thn (h1.run pn s0 sl hp { D with nx := R } J a)
  intro f s1 q
  cases f with
  | next =>
    obtain ⟨sl2, hp2, J2, r⟩ := q
    exact h2.run pn s1 sl2 hp2 D J2 (b _ _ r)
  | ret v => exact q
  | brk => exact q
  | cont => exact q
/-! ### facts of the top -/
structure GF (K : PySem.W.Frag) (mg : Str → Option Value) (x : Str) (st : Stmt) (ps : List Str) (f : Addr) (fd : FuncData) : Prop where
  F : Fun K x x st f fd
  mg : mg x = some (.ref f)
  kp : PySem.W.keepIn K (.ref f) = true
  b : Binds K fd ps []
structure MF (K : PySem.W.Frag) (x q : Str) (st : Stmt) (ps : List Str) (C f : Addr) (fd : FuncData) : Prop where
  F : Fun K x q st f fd
  me : Meth K C x f
  b : Binds K fd ps []
def NA (K : PySem.W.Frag) (C : Addr) (ats : List Str) : Prop := ∀ x ∈ ats, NoAttr K C x
theorem na_of {K : PySem.W.Frag} {C : Addr} {ats : List Str} {f : Str} (h : NA K C ats) (m : f ∈ ats) : NoAttr K C f := h f m
structure CF (K : PySem.W.Frag) (mg : Str → Option Value) (x : Str) (ats : List Str) (C fi : Addr) : Prop where
  mg : mg x = some (.ref C)
  cl : Cls K C
  make : Mk K C fi
  na : NA K C ats
def GV (K : PySem.W.Frag) (mg : Str → Option Value) (x : Str) (v : V) : Prop := ∃ u, mg x = some u ∧ RelV v u
/-! ### rules that take several kinds of values -/
section
variable {X : Cx}
theorem pe_g {x : Str} {v : V} {pos : Pos} (hg : Gl X x) (h : GV X.K X.mg x v) (hd : (x == ("__debug__" : Str)) = false := by decide) : PE X (.Name x pos) (tC v) := by
  obtain ⟨u, h1, h2⟩ := h
  exact pe_glob hg h1 h2 hd
theorem OpR.or {f : Value → Value → Sem Value} {r r' : R2} (h : OpR X f r) (h' : OpR X f r') : OpR X f (fun x y H Q => r x y H Q ∨ r' x y H Q) := by
  intro pins s σ H x y v u Q I rx ry q
  rcases q with q | q
  · exact h pins s σ H x y v u Q I rx ry q
  · exact h' pins s σ H x y v u Q I rx ry q
/-- + of ints, texts, tuples, lists -/
def rAddX (K : PySem.W.Frag) : R2 := fun x y H Q => match x, y with
  | .int i, .int j => Q (.int (i + j)) H
  | .int i, .bl k => Q (.int (i + PyProof.Rows.b2i k)) H
  | .str i, .str j => i.length + j.length ≤ sizeLine ∧ Q (.str (i ++ j)) H
  | .ref a, .ref b => (∃ xs ys, SqT K H a xs ∧ SqT K H b ys ∧ xs.length + ys.length ≤ sizeLine ∧ ∀ c H', Ext [] H H' → SqT K H' c (xs ++ ys) → Q (.ref c) H') ∨
      ∃ xs ys, H a = some (.lst xs) ∧ H b = some (.lst ys) ∧ xs.length + ys.length ≤ sizeLine ∧ NewO H (.lst (xs ++ ys)) fun p H' => Q (.ref p) H'
  | _, _ => False
theorem o_add : OpR X (binaryOp .Add) (rAddX X.K) := by
  intro pins s σ H x y v u Q I rx ry h
  unfold rAddX at h
  split at h
  · exact op_add pins s σ H _ _ v u Q I rx ry ⟨_, _, rfl, rfl, h⟩
  · exact op_add_ib pins s σ H _ _ v u Q I rx ry ⟨_, _, rfl, rfl, h⟩
  · exact op_add_str pins s σ H _ _ v u Q I rx ry ⟨_, _, rfl, rfl, h.1, h.2⟩
  · rcases h with ⟨xs, ys, h1, h2, hz, q⟩ | ⟨xs, ys, h1, h2, hz, q⟩
    · refine op_catA pins s σ H _ _ v u Q I rx ry ⟨_, _, xs, ys, rfl, rfl, h1, h2, hz, fun e => ?_, fun _ e => ?_, fun _ _ p hp => ?_⟩
      · subst e; exact q _ _ (Ext.refl H) h2
      · subst e; exact q _ _ (Ext.refl H) (by rw [List.append_nil]; exact h1)
      · exact q _ _ (Ext.new hp) (SqT.of upd_same)
    · exact op_cat pins s σ H _ _ v u Q I rx ry ⟨_, _, xs, ys, rfl, rfl, h1, h2, hz, q.raw⟩
  · exact h.elim
/-- slices of tuples, lists, texts -/
def rSlX (K : PySem.W.Frag) : V → Option Int → Option Int → Hp → VK → Prop := fun x lo hi H Q => match x with
  | .ref a => (∃ xs, SqT K H a xs ∧ ∀ c H', Ext [] H H' → SqT K H' c (cutV xs lo hi) → Q (.ref c) H') ∨ ∃ xs, SqL K H a xs ∧ NewO H (.lst (cutV xs lo hi)) fun p H' => Q (.ref p) H'
  | .str z => z.length ≤ sizeLine ∧ Q (.str (cutS z lo hi)) H
  | _ => False
theorem cutV_whole {xs : List V} {lo hi : Option Int} (h : HT.sIx xs.length 0 lo = 0 ∧ HT.sIx xs.length xs.length hi = xs.length) : cutV xs lo hi = xs := by
  unfold cutV
  rw [h.1, h.2, List.drop_zero, Nat.sub_zero, List.take_length]
theorem o_sl : SlR X (rSlX X.K) := by
  intro pins s σ H x v vl vu lo hi sl Q I rx hs pl pu h
  unfold rSlX at h
  split at h
  · rcases h with ⟨xs, h1, q⟩ | ⟨xs, h1, q⟩
    · refine sl_tupA pins s σ H _ v vl vu lo hi sl Q I rx hs pl pu ⟨_, xs, rfl, h1, fun e => ?_, fun _ p hp => ?_⟩
      · exact q _ _ (Ext.refl H) (by rw [cutV_whole e]; exact h1)
      · exact q _ _ (Ext.new hp) (SqT.of upd_same)
    · exact sl_list pins s σ H _ v vl vu lo hi sl Q I rx hs pl pu ⟨_, xs, rfl, h1, q.raw⟩
  · exact sl_str pins s σ H _ v vl vu lo hi sl Q I rx hs pl pu ⟨_, rfl, h.1, h.2⟩
  · exact h.elim
theorem CMul.left {i j : Int} (h : -(2 ^ 64) < i ∧ i < 2 ^ 64) : CMul i j := .inl h
theorem CMul.right {i j : Int} (h : -(2 ^ 64) < j ∧ j < 2 ^ 64) : CMul i j := .inr h
def rMulX : R2 := fun x y H Q => match x, y with
  | .int i, .int j => CMul i j ∧ Q (.int (i * j)) H
  | _, _ => rRep x y H Q
theorem o_mul : OpR X (binaryOp .Mult) rMulX := by
  intro pins s σ H x y v u Q I rx ry h
  unfold rMulX at h
  split at h
  · exact op_mul pins s σ H _ _ v u Q I rx ry ⟨_, _, rfl, rfl, h.1, h.2⟩
  · exact op_rep pins s σ H _ _ v u Q I rx ry h
def rEqX (K : PySem.W.Frag) : R2 := fun x y H Q => rEq x y H Q ∨ rEqD K x y H Q
def rNeX (K : PySem.W.Frag) : R2 := fun x y H Q => rNe x y H Q ∨ rNeD K x y H Q
theorem o_eq (hu : X.A.units + 64 < cLine) : OpR X (compareOp .Eq) (rEqX X.K) := OpR.or op_eq (op_eqD hu)
theorem o_ne (hu : X.A.units + 64 < cLine) : OpR X (compareOp .NotEq) (rNeX X.K) := OpR.or op_ne (op_neD hu)
def rInt1 : List V → Hp → VK → Prop := fun xs H Q => match xs with
  | [.int i] => Q (.int i) H
  | [.bl k] => Q (.int (if k then 1 else 0)) H
  | _ => False
theorem o_int : CallR X (.type "int") rInt1 := by
  intro pins s σ H xs us Q I r h
  unfold rInt1 at h
  split at h
  · exact call_int1 pins s σ H _ us Q I r (.inl ⟨_, rfl, h⟩)
  · exact call_int1 pins s σ H _ us Q I r (.inr ⟨_, rfl, h⟩)
  · exact h.elim
def rMin2 : List V → Hp → VK → Prop := fun xs H Q => match xs with
  | [.int i, .int j] => Q (.int (min i j)) H
  | _ => False
def rMax2 : List V → Hp → VK → Prop := fun xs H Q => match xs with
  | [.int i, .int j] => Q (.int (max i j)) H
  | _ => False
theorem o_min (hc : X.calm = true) : CallR X (.builtin "min") rMin2 := by
  intro pins s σ H xs us Q I r h
  unfold rMin2 at h
  split at h
  · rename_i i j
    refine call_min2 hc pins s σ H _ us Q I r ⟨_, _, rfl, ?_⟩
    have e : (if j < i then j else i) = min i j := by split <;> omega
    rw [e]; exact h
  · exact h.elim
theorem o_max (hc : X.calm = true) : CallR X (.builtin "max") rMax2 := by
  intro pins s σ H xs us Q I r h
  unfold rMax2 at h
  split at h
  · rename_i i j
    refine call_max2 hc pins s σ H _ us Q I r ⟨_, _, rfl, ?_⟩
    have e : (if j > i then j else i) = max i j := by split <;> omega
    rw [e]; exact h
  · exact h.elim
def rAbs : List V → Hp → VK → Prop := fun xs H Q => match xs with
  | [.int i] => Q (.int (i.natAbs : Int)) H
  | _ => False
theorem o_abs : CallR X (.builtin "abs") rAbs := by
  intro pins s σ H xs us Q I r h
  unfold rAbs at h
  split at h
  · rename_i i
    refine call_abs pins s σ H _ us Q I r ⟨_, rfl, ?_⟩
    have e : (if i < 0 then -i else i) = (i.natAbs : Int) := by split <;> omega
    rw [e]; exact h
  · exact h.elim
def tTupX (t : TA) : TE := fun σ H Q => t σ H fun xs H1 => xs.length ≤ sizeLine ∧ NewO H1 (.tup xs) fun p H' => Q (.ref p) H'
def tLstX (t : TA) : TE := fun σ H Q => t σ H fun xs H1 => xs.length ≤ sizeLine ∧ NewO H1 (.lst xs) fun p H' => Q (.ref p) H'
theorem pe_tupX {es : List Expr} {t : TA} {k : Nat} {pos : Pos} (h : PA X es t) : PE X (.Tuple es k pos) (tTupX t) :=
  PE.weak (pe_tup (PA.star h)) fun _ _ _ q => ⟨_, q, fun _ _ ⟨l, n⟩ => ⟨l, n.raw⟩⟩
theorem pe_lstX {es : List Expr} {t : TA} {pos : Pos} (h : PA X es t) : PE X (.List es pos) (tLstX t) :=
  PE.weak (pe_lst (PA.star h)) fun _ _ _ q => ⟨_, q, fun _ _ ⟨l, n⟩ => ⟨l, n.raw⟩⟩
def rLenX (K : PySem.W.Frag) : List V → Hp → VK → Prop := fun xs H Q => match xs with
  | [.ref a] => (∃ ys, (SqL K H a ys ∨ SqT K H a ys) ∧ Q (.int ys.length) H) ∨ ∃ kvs, H a = some (.dK kvs) ∧ Q (.int kvs.length) H
  | [.str z] => z.length ≤ sizeLine ∧ Q (.int z.length) H
  | _ => False
theorem o_len : CallR X (.builtin "len") (rLenX X.K) := by
  intro pins s σ H xs us Q I r h
  unfold rLenX at h
  split at h
  · rcases h with ⟨ys, e, q⟩ | ⟨kvs, e, q⟩
    · exact call_len_seq pins s σ H _ us Q I r ⟨_, ys, rfl, e, q⟩
    · exact call_lenD pins s σ H _ us Q I r ⟨_, kvs, rfl, e, q⟩
  · exact call_len_str pins s σ H _ us Q I r ⟨_, rfl, h.1, h.2⟩
  · exact h.elim
def rListX (K : PySem.W.Frag) : List V → Hp → VK → Prop := fun xs H Q => match xs with
  | [.ref a] => ∃ ys, (SqL K H a ys ∨ SqT K H a ys) ∧ NewO H (.lst ys) fun p H' => Q (.ref p) H'
  | _ => False
theorem o_list : CallR X (.type "list") (rListX X.K) := by
  intro pins s σ H xs us Q I r h
  unfold rListX at h
  split at h
  · obtain ⟨ys, e, q⟩ := h
    exact call_list_of pins s σ H _ us Q I r ⟨_, ys, rfl, e, q.raw⟩
  · exact h.elim
def rTupX (K : PySem.W.Frag) : List V → Hp → VK → Prop := fun xs H Q => match xs with
  | [.ref a] => (∃ ys, SqL K H a ys ∧ NewO H (.tup ys) fun p H' => Q (.ref p) H') ∨ ∃ ys, SqT K H a ys ∧ Q (.ref a) H
  | _ => False
theorem o_tuple : CallR X (.type "tuple") (rTupX X.K) := by
  intro pins s σ H xs us Q I r h
  unfold rTupX at h
  split at h
  · rcases h with ⟨ys, e, q⟩ | ⟨ys, e, q⟩
    · exact call_tuple_of pins s σ H _ us Q I r ⟨_, ys, rfl, .inl ⟨e, q.raw⟩⟩
    · exact call_tuple_of pins s σ H _ us Q I r ⟨_, ys, rfl, .inr ⟨e, q⟩⟩
  · exact h.elim
theorem kkTup {K : PySem.W.Frag} {e : Expr} {n : Nat} {t : TGs} (h : X.K = K) (c : PG X e (gTup X.K n t)) : PG X e (gTup K n t) := h ▸ c
theorem kkCallR {K : PySem.W.Frag} {v : Value} {r : PySem.W.Frag → List V → Hp → VK → Prop} (h : X.K = K) (c : CallR X v (r X.K)) : CallR X v (r K) := h ▸ c
theorem kkOpR {K : PySem.W.Frag} {f : Value → Value → Sem Value} {r : PySem.W.Frag → R2} (h : X.K = K) (c : OpR X f (r X.K)) : OpR X f (r K) := h ▸ c
theorem kkIxR {K : PySem.W.Frag} {r : PySem.W.Frag → R2} (h : X.K = K) (c : IxR X (r X.K)) : IxR X (r K) := h ▸ c
theorem kkSlR {K : PySem.W.Frag} {r : PySem.W.Frag → V → Option Int → Option Int → Hp → VK → Prop} (h : X.K = K) (c : SlR X (r X.K)) : SlR X (r K) := h ▸ c
theorem iop_catT : OpR X (inplaceOp .Add) (fun _ _ _ _ => False) := fun _ _ _ _ _ _ _ _ _ _ _ _ h => h.elim
def rIAddX : R2 := fun x y H Q => match x, y with
  | .int i, .int j => Q (.int (i + j)) H
  | .str i, .str j => i.length + j.length ≤ sizeLine ∧ Q (.str (i ++ j)) H
  | _, _ => False
theorem o_iadd : PIp X .Add rIAddX := by
  intro pins s σ H x y v u Q I rx ry h
  unfold rIAddX at h
  split at h
  · exact iop_add pins s σ H _ _ v u Q I rx ry ⟨_, _, rfl, rfl, h⟩
  · exact iop_add_str pins s σ H _ _ v u Q I rx ry ⟨_, _, rfl, rfl, h.1, h.2⟩
  · exact h.elim
theorem o_inadd : InOp X .Add rIAddX := fun pins s σ H x y u v Q I rx ry h => o_iadd pins s σ H x y u v Q I rx ry h
end
/-- C(..): as tMake, the new heap by what is known of it -/
def tMakeX (C : Addr) (sp : Sp) (dvs : List V) (E : XK) (t : TA) : TE := fun σ H Q => t σ H fun vs H1 => ∀ x dx H', H1 x = none → Ext [] H1 H' → H' x = some (.ins C dx []) →
  sp (.ref x :: (vs ++ dvs)) H' (fun v H2 => v = .non ∧ Q (.ref x) H2) E
theorem Ext.made {H : Hp} {x dx C : Addr} (h1 : H x = none) (h2 : H dx = none) : Ext [] H (upd (upd H dx (.own x)) x (.ins C dx [])) :=
  ⟨fun b o e _ => by rw [upd_ne (ne_of_none e h1), upd_ne (ne_of_none e h2)]; exact e, fun b o e _ => by rw [upd_ne (ne_of_none e h1), upd_ne (ne_of_none e h2)]; exact e⟩
section
variable {X : Cx} {CX : CXT} {k : Nat} {f C : Addr} {fd : FuncData} {ps : List Str} {sp : Sp} {dvs : List V} {ds : List Value} {E : XK} {x : Str} {p pos : Pos} {e : Expr} {es : List Expr} {t : TA}
theorem pe_makeX (M : Mk X.K C f) (F : FnOk X.prog X.w X.K X.mg X.base CX k f fd ps sp) (hr : Room (k + 1) X.A) (hg : Gl X x) (hm : X.mg x = some (.ref C)) (hb : Binds X.K fd ps ds) (hd : Vals dvs ds) (hx : Passes CX X E)
    (ha : PA X (e :: es) t) (hq : (x == ("__debug__" : Str)) = false := by decide) (he : starEach (e :: es) X.env = (false, eval e X.env) :: starEach es X.env := by rfl) (hl : (backTo pos (starEach es X.env)).any (·.1) = false := by rfl) :
    PE X (.Call (.Name x p) (e :: es) [] pos) (tMakeX C sp dvs E t) := by
  constructor
  intro pn st0 sl hp R J hh
  apply wpAny_Call_Name_kw
  apply ld_glob J hg hm (hd := hq)
  apply PySem.W.callWith_K (h₀ := X.base) J.ok.mod.kin M.kp _ he hl
  apply thn (ha.run pos pn st0 sl hp _ J hh)
  rintro us s1 ⟨vs, hp1, J1, rv, q⟩
  exact ⟨J1.kIn, run_make M F hr hb hd hx J1 rv fun x dx h1 h2 _ => q x dx _ h1 (Ext.made h1 h2) upd_same⟩
theorem pe_make0X (M : Mk X.K C f) (F : FnOk X.prog X.w X.K X.mg X.base CX k f fd ps sp) (hr : Room (k + 1) X.A) (hg : Gl X x) (hm : X.mg x = some (.ref C)) (hb : Binds X.K fd ps ds) (hd : Vals dvs ds) (hx : Passes CX X E)
    (hq : (x == ("__debug__" : Str)) = false := by decide) : PE X (.Call (.Name x p) [] [] pos) (tMakeX C sp dvs E tNil) := by
  constructor
  intro pn st0 sl hp R J hh
  apply wpAny_Call_Name_kw
  apply ld_glob J hg hm (hd := hq)
  exact PySem.W.callWith_K0 J.kIn M.kp (run_make (us := []) M F hr hb hd hx J .nil fun x dx h1 h2 _ => hh x dx _ h1 (Ext.made h1 h2) upd_same)
end
/-! ### slices by numbers -/
theorem cut_mid {xs : List V} {a b : Nat} (h1 : a ≤ b) (h2 : b ≤ xs.length) : cutV xs (some (a : Int)) (some (b : Int)) = (xs.drop a).take (b - a) := by
  unfold cutV
  rw [HT.sIx_nat, HT.sIx_nat, Nat.min_eq_left h2, Nat.min_eq_left (Nat.le_trans h1 h2)]
theorem cut_to {xs : List V} {b : Nat} : cutV xs none (some (b : Int)) = xs.take b := by
  unfold cutV
  rw [HT.sIx_nat, HT.sIx_none, List.drop_zero, Nat.sub_zero]
  by_cases h : b ≤ xs.length
  · rw [Nat.min_eq_left h]
  · rw [Nat.min_eq_right (by omega), List.take_of_length_le (Nat.le_refl _), List.take_of_length_le (by omega)]
theorem cut_from {xs : List V} {a : Nat} : cutV xs (some (a : Int)) none = xs.drop a := by
  unfold cutV
  rw [HT.sIx_nat, HT.sIx_none]
  by_cases h : a ≤ xs.length
  · rw [Nat.min_eq_left h, List.take_of_length_le (by rw [List.length_drop]; exact Nat.le_refl _)]
  · rw [Nat.min_eq_right (by omega), List.drop_of_length_le (Nat.le_refl _), List.drop_of_length_le (show xs.length ≤ a by omega)]
    simp
theorem sIx_neg {n d a : Nat} (h : 0 < a) : HT.sIx n d (some (-(a : Int))) = n - a := by
  show (if (-(a : Int)) < 0 then (-(a : Int) + (n : Int)).toNat else min (-(a : Int)).toNat n) = n - a
  rw [if_pos (by omega)]
  omega
theorem cut_negTo {xs : List V} {b : Nat} (h : 0 < b) : cutV xs none (some (-(b : Int))) = xs.take (xs.length - b) := by
  unfold cutV
  rw [sIx_neg h, HT.sIx_none, List.drop_zero, Nat.sub_zero]
theorem cut_negFrom {xs : List V} {a : Nat} (h : 0 < a) : cutV xs (some (-(a : Int))) none = xs.drop (xs.length - a) := by
  unfold cutV
  rw [sIx_neg h, HT.sIx_none, List.take_of_length_le (by rw [List.length_drop]; exact Nat.le_refl _)]
theorem cut_midU {xs : List V} {a b : Nat} : cutV xs (some (a : Int)) (some (b : Int)) = (xs.take b).drop a := by
  unfold cutV
  rw [HT.sIx_nat, HT.sIx_nat, List.drop_take]
  by_cases h : a ≤ xs.length
  · rw [Nat.min_eq_left h]
    by_cases h2 : b ≤ xs.length
    · rw [Nat.min_eq_left h2]
    · rw [Nat.min_eq_right (show xs.length ≤ b by omega), List.take_of_length_le (by rw [List.length_drop]; omega), List.take_of_length_le (by rw [List.length_drop]; omega)]
  · rw [Nat.min_eq_right (show xs.length ≤ a by omega), List.drop_of_length_le (Nat.le_refl _), List.drop_of_length_le (show xs.length ≤ a by omega)]
    simp
theorem cut_toL {xs : List V} {b : Nat} : cutV xs none (some (@OfNat.ofNat Int b instOfNat)) = xs.take b := cut_to
theorem cut_fromL {xs : List V} {b : Nat} : cutV xs (some (@OfNat.ofNat Int b instOfNat)) none = xs.drop b := cut_from
theorem cut_midL {xs : List V} {a b : Nat} : cutV xs (some (@OfNat.ofNat Int a instOfNat)) (some (@OfNat.ofNat Int b instOfNat)) = (xs.take b).drop a := cut_midU
theorem cut_negToL {xs : List V} {b : Nat} (h : 0 < b) : cutV xs none (some (-(@OfNat.ofNat Int b instOfNat))) = xs.take (xs.length - b) := cut_negTo h
theorem cut_negFromL {xs : List V} {b : Nat} (h : 0 < b) : cutV xs (some (-(@OfNat.ofNat Int b instOfNat))) none = xs.drop (xs.length - b) := cut_negFrom h
/-! ### steps of a reading -/
section
variable {K : PySem.W.Frag} {σ : St} {H : Hp} {Q : VK} {D : Ends} {t u : TS} {ta tb tc te : TE} {g : TG} {v : V}
theorem g_seq (h : t { D with nx := u D } σ H) : tSeq t u D σ H := h
theorem g_next (h : D.nx σ H) : tNext D σ H := h
theorem g_asg (h : te σ H fun x H1 => g x σ H1 D.nx) : tAsg te g D σ H := h
theorem g_name {i : Nat} {R : St → Hp → Prop} (h : R (σ.set i (some v)) H) : gName i v σ H R := h
theorem g_ret (h : te σ H D.rt) : tRet te D σ H := h
theorem g_retN (h : D.rt .non H) : tRetN D σ H := h
theorem g_drop (h : te σ H fun _ H1 => D.nx σ H1) : tDrop te D σ H := h
theorem g_brk (h : D.bk σ H) : tBreak D σ H := h
theorem g_cnt (h : D.ct σ H) : tCont D σ H := h
theorem g_ifS {c : TT} (h : c σ H fun b H1 => if b = true then t D σ H1 else u D σ H1) : tIfS c t u D σ H := h
theorem g_if {c : TT} (h : c σ H fun b H1 => if b = true then ta σ H1 Q else tb σ H1 Q) : tIf c ta tb σ H Q := h
theorem g_var {i : Nat} (e : σ[i]? = some (some v)) (h : Q v H) : tVar i σ H Q := ⟨v, e, h⟩
theorem g_C (h : Q v H) : tC v σ H Q := h
theorem g_op {r : R2} (h : ta σ H fun x H1 => tb σ H1 fun y H2 => r x y H2 Q) : tOp r ta tb σ H Q := h
theorem g_un {r : V → Hp → VK → Prop} (h : ta σ H fun x H1 => r x H1 Q) : tUn r ta σ H Q := h
theorem g_neg {i : Int} (h : Q (.int (-i)) H) : rU (fun i => .int (-i)) (.int i) H Q := ⟨_, rfl, h⟩
theorem g_rI {C : Int → Int → Prop} {f : Int → Int → V} {i j : Int} (c : C i j) (h : Q (f i j) H) : rI C f (.int i) (.int j) H Q := ⟨i, j, rfl, rfl, c, h⟩
theorem g_rI0 {f : Int → Int → V} {i j : Int} (h : Q (f i j) H) : rI0 f (.int i) (.int j) H Q := ⟨i, j, rfl, rfl, h⟩
theorem g_addI {i j : Int} (h : Q (.int (i + j)) H) : rAddX K (.int i) (.int j) H Q := h
theorem g_addT {a b : Addr} {xs ys : List V} (e : SqT K H a xs) (f : SqT K H b ys) (z : xs.length + ys.length ≤ sizeLine) (h : ∀ c H', Ext [] H H' → SqT K H' c (xs ++ ys) → Q (.ref c) H') : rAddX K (.ref a) (.ref b) H Q := .inl ⟨xs, ys, e, f, z, h⟩
theorem g_addL {a b : Addr} {xs ys : List V} (e : H a = some (.lst xs)) (f : H b = some (.lst ys)) (z : xs.length + ys.length ≤ sizeLine) (h : NewO H (.lst (xs ++ ys)) fun p H' => Q (.ref p) H') : rAddX K (.ref a) (.ref b) H Q := .inr ⟨xs, ys, e, f, z, h⟩
theorem g_sl {te' : TE} {tl th : TO} {r : V → Option Int → Option Int → Hp → VK → Prop} (h : te' σ H fun x H1 => tl σ H1 fun l H2 => th σ H2 fun u H3 => r x l u H3 Q) : tSl r te' tl th σ H Q := h
theorem g_noPart {R : Option Int → Hp → Prop} (h : R none H) : tNoPart σ H R := h
theorem g_part {R : Option Int → Hp → Prop} (h : te σ H fun x H1 => ∃ i, x = .int i ∧ R (some i) H1) : tPart te σ H R := h
theorem g_part' {i : Int} {R : Int → Prop} (h : R i) : ∃ i', V.int i = .int i' ∧ R i' := ⟨i, rfl, h⟩
theorem g_slT {a : Addr} {lo hi : Option Int} {xs ys : List V} (e : SqT K H a xs) (f : cutV xs lo hi = ys) (h : ∀ c H', Ext [] H H' → SqT K H' c ys → Q (.ref c) H') : rSlX K (.ref a) lo hi H Q := .inl ⟨xs, e, by rw [f]; exact h⟩
theorem g_slL {a : Addr} {lo hi : Option Int} {xs ys : List V} (e : SqL K H a xs) (f : cutV xs lo hi = ys) (h : NewO H (.lst ys) fun p H' => Q (.ref p) H') : rSlX K (.ref a) lo hi H Q := .inr ⟨xs, e, by rw [f]; exact h⟩
theorem g_slS {z : Str} {lo hi : Option Int} (e : z.length ≤ sizeLine) (h : Q (.str (cutS z lo hi)) H) : rSlX K (.str z) lo hi H Q := ⟨e, h⟩
theorem g_addS {i j : Str} (e : i.length + j.length ≤ sizeLine) (h : Q (.str (i ++ j)) H) : rAddX K (.str i) (.str j) H Q := ⟨e, h⟩
theorem g_mulI {i j : Int} (c : CMul i j) (h : Q (.int (i * j)) H) : rMulX (.int i) (.int j) H Q := ⟨c, h⟩
theorem g_iaddI {i j : Int} (h : Q (.int (i + j)) H) : rIAddX (.int i) (.int j) H Q := h
theorem g_divW {i j : Int} (h0 : 0 < j) (h1 : j < 2 ^ 64) (h : Q (.int (i / j)) H) : rI CDivW (fun i j => .int (i / j)) (.int i) (.int j) H Q :=
  ⟨i, j, rfl, rfl, wide_div (b := 64) h0 (by omega) (by decide) (by decide), h⟩
theorem g_mod {i j : Int} (h0 : 0 < j) (h : Q (.int (i % j)) H) : rI (fun _ j => 0 < j) (fun i j => .int (i % j)) (.int i) (.int j) H Q := ⟨i, j, rfl, rfl, h0, h⟩
theorem g_eq {x y : V} (e : scal x y = true) (h : Q (.bl (decide (x = y))) H) : rEqX K x y H Q := .inl ⟨e, h⟩
theorem g_ne {x y : V} (e : scal x y = true) (h : Q (.bl (!decide (x = y))) H) : rNeX K x y H Q := .inl ⟨e, h⟩
theorem g_isN {x : V} (h : Q (.bl (decide (x = .non))) H) : (fun x y H Q => y = V.non ∧ Q (.bl (decide (x = .non))) H : R2) x .non H Q := ⟨rfl, h⟩
theorem g_isN' {R : Prop} (h : R) : (V.non = V.non ∧ R) := ⟨rfl, h⟩
theorem g_test {t : TE} {R : Bool → Hp → Prop} (h : t σ H fun x H' => ∃ k, x = .bl k ∧ R k H') : tTest t σ H R := h
theorem g_bl {k : Bool} {R : Bool → Prop} (h : R k) : ∃ k', V.bl k = .bl k' ∧ R k' := ⟨k, rfl, h⟩
theorem g_tru {x : V} {k : Bool} {R : Bool → Prop} (e : TruV K x H k) (h : R k) : ∃ k', TruV K x H k' ∧ R k' := ⟨k, e, h⟩
theorem g_truB {b : Bool} : TruV K (.bl b) H b := rfl
theorem g_and {a b : TT} {R : Bool → Hp → Prop} (h : a σ H fun c H1 => if c = true then b σ H1 R else R false H1) : tAnd a b σ H R := h
theorem g_or {a b : TT} {R : Bool → Hp → Prop} (h : a σ H fun c H1 => if c = true then R true H1 else b σ H1 R) : tOr a b σ H R := h
theorem g_not {a : TT} {R : Bool → Hp → Prop} (h : a σ H fun c H1 => R (!c) H1) : tNot a σ H R := h
theorem g_chain {r r' : R2} (h : ta σ H fun x H1 => tb σ H1 fun y H2 => r x y H2 fun z H3 => ∃ k, z = .bl k ∧ (if k = true then tc σ H3 fun w' H4 => r' y w' H4 Q else Q (.bl false) H3)) : tChain r r' ta tb tc σ H Q := h
theorem g_andV (h : ta σ H fun x H1 => ∃ c, x = .bl c ∧ if c = true then tb σ H1 Q else Q (.bl false) H1) : tAndV ta tb σ H Q := h
theorem g_orV (h : ta σ H fun x H1 => ∃ c, x = .bl c ∧ if c = true then Q (.bl true) H1 else tb σ H1 Q) : tOrV ta tb σ H Q := h
theorem g_notV (h : ta σ H fun x H1 => ∃ c, x = .bl c ∧ Q (.bl (!c)) H1) : tNotV ta σ H Q := h
theorem g_inT {x : V} {p : Addr} {xs : List V} (e : SqT K H p xs) (f : flatV x = true) (g : xs.all flatV = true) (h : Q (.bl (inV x xs)) H) : rIn K false x (.ref p) H Q := ⟨p, xs, rfl, .inr e, f, g, h⟩
theorem g_inL {x : V} {p : Addr} {xs : List V} (e : SqL K H p xs) (f : flatV x = true) (g : xs.all flatV = true) (h : Q (.bl (inV x xs)) H) : rIn K false x (.ref p) H Q := ⟨p, xs, rfl, .inl e, f, g, h⟩
theorem g_ninT {x : V} {p : Addr} {xs : List V} (e : SqT K H p xs) (f : flatV x = true) (g : xs.all flatV = true) (h : Q (.bl (!inV x xs)) H) : rIn K true x (.ref p) H Q := ⟨p, xs, rfl, .inr e, f, g, h⟩
theorem g_ninL {x : V} {p : Addr} {xs : List V} (e : SqL K H p xs) (f : flatV x = true) (g : xs.all flatV = true) (h : Q (.bl (!inV x xs)) H) : rIn K true x (.ref p) H Q := ⟨p, xs, rfl, .inl e, f, g, h⟩
theorem g_nil {R : List V → Hp → Prop} (h : R [] H) : tNil σ H R := h
theorem g_cons {tr : TA} {R : List V → Hp → Prop} (h : te σ H fun x H1 => tr σ H1 fun xs H2 => R (x :: xs) H2) : tCons te tr σ H R := h
theorem g_CB {r : List V → Hp → VK → Prop} {ta : TA} (h : ta σ H fun vs H1 => r vs H1 Q) : tCB r ta σ H Q := h
theorem g_int1 {i : Int} (h : Q (.int i) H) : rInt1 [.int i] H Q := h
theorem g_int1b {k : Bool} (h : Q (.int (if k then 1 else 0)) H) : rInt1 [.bl k] H Q := h
theorem g_min2 {i j : Int} (h : Q (.int (min i j)) H) : rMin2 [.int i, .int j] H Q := h
theorem g_max2 {i j : Int} (h : Q (.int (max i j)) H) : rMax2 [.int i, .int j] H Q := h
theorem g_abs {i : Int} (h : Q (.int (i.natAbs : Int)) H) : rAbs [.int i] H Q := h
theorem g_new {n : Nat} {o : HO} {R : Addr → Hp → Prop} (e : n ≤ sizeLine) (h : NewO H o R) : n ≤ sizeLine ∧ NewO H o R := ⟨e, h⟩
theorem g_newO {o : HO} {R : Addr → Hp → Prop} (h : ∀ p H', H p = none → Ext [] H H' → H' p = some o → R p H') : NewO H o R := h
theorem g_tup {t : TA} (h : t σ H fun xs H1 => xs.length ≤ sizeLine ∧ NewO H1 (.tup xs) fun p H' => Q (.ref p) H') : tTupX t σ H Q := h
theorem g_lst {t : TA} (h : t σ H fun xs H1 => xs.length ≤ sizeLine ∧ NewO H1 (.lst xs) fun p H' => Q (.ref p) H') : tLstX t σ H Q := h
theorem g_ixL {p : Addr} {xs : List V} {i : Int} (e : SqL K H p xs) (a : atI xs i = some v) (h : Q v H) : rIx K (.ref p) (.int i) H Q := .inl ⟨p, xs, i, v, rfl, rfl, e, a, h⟩
theorem g_ixT {p : Addr} {xs : List V} {i : Int} (e : SqT K H p xs) (a : atI xs i = some v) (h : Q v H) : rIx K (.ref p) (.int i) H Q := .inr (.inl ⟨p, xs, i, v, rfl, rfl, e, a, h⟩)
theorem g_sub {to ti : TE} {s : TSet} {R : St → Hp → Prop} (h : to σ H fun o H1 => ti σ H1 fun i H2 => s o i v H2 fun H3 => R σ H3) : gSub to ti s v σ H R := h
theorem g_setL {p : Addr} {xs ys : List V} {k : Int} {j : Nat} {R : Hp → Prop} (e : H p = some (.lst xs)) (a : ixN xs.length k = some j) (l : xs.set j v = ys) (h : ∀ H', Ext [p] H H' → H' p = some (.lst ys) → R H') : rSetL (.ref p) (.int k) v H R :=
  ⟨p, xs, k, j, rfl, rfl, e, a, by rw [l]; exact h _ (Ext.wr e rfl) upd_same⟩
theorem g_ite {c : Bool} {A B : Prop} (h1 : c = true → A) (h2 : c = false → B) : if c = true then A else B := by
  cases c with
  | true => exact h1 rfl
  | false => exact h2 rfl
theorem g_iteDT {c : Bool} {A B : Prop} (e : c = true) (h : A) : if c = true then A else B := by rw [e]; exact h
theorem g_iteDF {c : Bool} {A B : Prop} (e : c = false) (h : B) : if c = true then A else B := by rw [e]; exact h
theorem g_iteIN {i : Int} {A B : Prop} (h : B) : if decide (V.int i = V.non) = true then A else B := by rw [decide_eq_false (by intro z; cases z)]; exact h
theorem g_iteRN {a : Addr} {A B : Prop} (h : B) : if decide (V.ref a = V.non) = true then A else B := by rw [decide_eq_false (by intro z; cases z)]; exact h
theorem g_iteSN {a : Str} {A B : Prop} (h : B) : if decide (V.str a = V.non) = true then A else B := by rw [decide_eq_false (by intro z; cases z)]; exact h
theorem g_iteNIN {i : Int} {A B : Prop} (h : A) : if (!decide (V.int i = V.non)) = true then A else B := by rw [decide_eq_false (by intro z; cases z)]; exact h
theorem g_iteNRN {i : Addr} {A B : Prop} (h : A) : if (!decide (V.ref i = V.non)) = true then A else B := by rw [decide_eq_false (by intro z; cases z)]; exact h
theorem g_iteT {A B : Prop} (h : A) : if true = true then A else B := h
theorem g_iteF {A B : Prop} (h : B) : if false = true then A else B := h
theorem g_fld {f : Str} (h : ta σ H fun x H1 => ∃ a C dx fs v, x = .ref a ∧ H1 a = some (.ins C dx fs) ∧ Cls K C ∧ NoAttr K C f ∧ fs.lookup f = some v ∧ Q v H1) : tFld K ta f σ H Q := h
theorem g_fld' {f : Str} {a C dx : Addr} {fs : List (Str × V)} (e : H a = some (.ins C dx fs)) (c : Cls K C) (n : NoAttr K C f) (l : fs.lookup f = some v) (h : Q v H) :
    ∃ a' C dx fs v, V.ref a = .ref a' ∧ H a' = some (.ins C dx fs) ∧ Cls K C ∧ NoAttr K C f ∧ fs.lookup f = some v ∧ Q v H := ⟨a, C, dx, fs, v, rfl, e, c, n, l, h⟩
theorem g_sfld {tv : TE} {f : Str} (h : tv σ H fun y H1 => ta σ H1 fun x H2 => ∃ a C dx fs, x = .ref a ∧ H2 a = some (.ins C dx fs) ∧ Cls K C ∧ NoAttr K C f ∧ fs.length < 1000 ∧ D.nx σ (upd H2 a (.ins C dx (putF f y fs)))) : sFld K ta tv f D σ H := h
theorem g_sfld' {f : Str} {a C dx : Addr} {fs fs' : List (Str × V)} {R : Hp → Prop} (e : H a = some (.ins C dx fs)) (c : Cls K C) (n : NoAttr K C f) (l : fs.length < 1000) (p : putF f v fs = fs') (h : ∀ H', Ext [a] H H' → H' a = some (.ins C dx fs') → R H') :
    ∃ a' C dx fs, V.ref a = .ref a' ∧ H a' = some (.ins C dx fs) ∧ Cls K C ∧ NoAttr K C f ∧ fs.length < 1000 ∧ R (upd H a' (.ins C dx (putF f v fs))) :=
  ⟨a, C, dx, fs, rfl, e, c, n, l, by rw [p]; exact h _ (Ext.wr e rfl) upd_same⟩
theorem g_sfa {tv : TE} {f : Str} {rd : V → V → Hp → VK → Prop} (h : ta σ H fun x H1 => ∃ a C dx fs v, x = .ref a ∧ H1 a = some (.ins C dx fs) ∧ Cls K C ∧ NoAttr K C f ∧ fs.lookup f = some v ∧
  tv σ H1 fun y H2 => rd v y H2 fun z H3 => ∃ dx' fs', H3 a = some (.ins C dx' fs') ∧ fs'.length < 1000 ∧ D.nx σ (upd H3 a (.ins C dx' (putF f z fs')))) : sFldAug K ta tv rd f D σ H := h
theorem g_sfa' {f : Str} {a C dx : Addr} {fs : List (Str × V)} {R : V → Addr → Addr → Hp → Prop} (e : H a = some (.ins C dx fs)) (c : Cls K C) (n : NoAttr K C f) (l : fs.lookup f = some v) (h : R v a C H) :
    ∃ a' C dx fs v, V.ref a = .ref a' ∧ H a' = some (.ins C dx fs) ∧ Cls K C ∧ NoAttr K C f ∧ fs.lookup f = some v ∧ R v a' C H := ⟨a, C, dx, fs, v, rfl, e, c, n, l, h⟩
theorem g_sfa'' {f : Str} {a C dx : Addr} {fs fs' : List (Str × V)} {R : Hp → Prop} (e : H a = some (.ins C dx fs)) (l : fs.length < 1000) (p : putF f v fs = fs') (h : ∀ H', Ext [a] H H' → H' a = some (.ins C dx fs') → R H') :
    ∃ dx' fs', H a = some (.ins C dx' fs') ∧ fs'.length < 1000 ∧ R (upd H a (.ins C dx' (putF f v fs'))) :=
  ⟨dx, fs, e, l, by rw [p]; exact h _ (Ext.wr e rfl) upd_same⟩
theorem g_call {sp : Sp} {dvs : List V} {E : XK} {t : TA} (h : t σ H fun vs H1 => sp (vs ++ dvs) H1 Q E) : tCall sp dvs E t σ H Q := h
theorem g_meth {C : Addr} {m : Str} {sp : Sp} {dvs : List V} {E : XK} {t : TA} (h : ta σ H fun x H1 => ∃ a dx fs, x = .ref a ∧ H1 a = some (.ins C dx fs) ∧ fs.lookup m = none ∧ t σ H1 fun vs H2 => sp (x :: (vs ++ dvs)) H2 Q E) : tMeth C m sp dvs E ta t σ H Q := h
theorem g_meth' {C a dx : Addr} {m : Str} {fs : List (Str × V)} {R : Hp → Prop} (e : H a = some (.ins C dx fs)) (l : fs.lookup m = none) (h : R H) : ∃ a' dx fs, V.ref a = .ref a' ∧ H a' = some (.ins C dx fs) ∧ fs.lookup m = none ∧ R H := ⟨a, dx, fs, rfl, e, l, h⟩
theorem g_make {C : Addr} {sp : Sp} {dvs : List V} {E : XK} {t : TA} (h : t σ H fun vs H1 => ∀ x dx H', H1 x = none → Ext [] H1 H' → H' x = some (.ins C dx []) → sp (.ref x :: (vs ++ dvs)) H' (fun v H2 => v = .non ∧ Q (.ref x) H2) E) : tMakeX C sp dvs E t σ H Q := h
theorem g_appd {te : TE} {t : TA} {r : V → List V → Hp → VK → Prop} {T : String} (h : te σ H fun x H1 => tyV K T x H1 ∧ t σ H1 fun xs H2 => r x xs H2 Q) : tBM K T r te t σ H Q := h
theorem g_bm0 {te : TE} {r : V → List V → Hp → VK → Prop} {T : String} (h : te σ H fun x H1 => tyV K T x H1 ∧ r x [] H1 Q) : tBM0 K T r te σ H Q := h
theorem g_tyL {a : Addr} {xs : List V} {R : Prop} (e : SqL K H a xs) (h : R) : tyV K "list" (.ref a) H ∧ R := ⟨.inl ⟨rfl, xs, e⟩, h⟩
theorem g_append {l : Addr} {xs : List V} {y : V} (e : H l = some (.lst xs)) (z : xs.length < sizeLine) (h : ∀ H', Ext [l] H H' → H' l = some (.lst (xs ++ [y])) → Q .non H') : rAppend (.ref l) [y] H Q :=
  ⟨l, xs, y, rfl, rfl, e, z, h _ (Ext.wr e rfl) upd_same⟩
theorem g_par {i j : Nat} {ta : TA} (h : ta σ H fun vs H1 => ∃ v w, vs = [v, w] ∧ D.nx ((σ.set i (some v)).set j (some w)) H1) : tPar i j ta D σ H := h
theorem g_par' {x y : V} {R : V → V → Prop} (h : R x y) : ∃ v w, [x, y] = [v, w] ∧ R v w := ⟨x, y, rfl, h⟩
theorem g_gtup {n : Nat} {tg : TGs} {a : Addr} {xs : List V} {R : St → Hp → Prop} (e : SqT K H a xs) (l : xs.length = n) (h : tg xs σ H R) : gTup K n tg (.ref a) σ H R := ⟨a, xs, rfl, e, l, h⟩
theorem g_gcons {t1 : TG} {tr : TGs} {x : V} {xs : List V} {R : St → Hp → Prop} (h : t1 x σ H fun σ' H' => tr xs σ' H' R) : gCons t1 tr (x :: xs) σ H R := ⟨x, xs, rfl, h⟩
theorem g_gnil {R : St → Hp → Prop} (h : R σ H) : gNil [] σ H R := ⟨rfl, h⟩
theorem g_aug {i : Nat} {ti : TIp} (e : σ[i]? = some (some v)) (h : te σ H fun y H1 => ti v y H1 fun z H2 => D.nx (σ.set i (some z)) H2) : tAug i te ti D σ H := ⟨v, e, h⟩
theorem g_listL {a : Addr} {xs : List V} (e : SqL K H a xs) (h : NewO H (.lst xs) fun p H' => Q (.ref p) H') : rListX K [.ref a] H Q := ⟨xs, .inl e, h⟩
theorem g_listT {a : Addr} {xs : List V} (e : SqT K H a xs) (h : NewO H (.lst xs) fun p H' => Q (.ref p) H') : rListX K [.ref a] H Q := ⟨xs, .inr e, h⟩
theorem g_tupL {a : Addr} {xs : List V} (e : SqL K H a xs) (h : NewO H (.tup xs) fun p H' => Q (.ref p) H') : rTupX K [.ref a] H Q := .inl ⟨xs, e, h⟩
theorem g_tupT {a : Addr} {xs : List V} (e : SqT K H a xs) (h : Q (.ref a) H) : rTupX K [.ref a] H Q := .inr ⟨xs, e, h⟩
theorem g_lenL {a : Addr} {xs : List V} (e : SqL K H a xs) (h : Q (.int xs.length) H) : rLenX K [.ref a] H Q := .inl ⟨xs, .inl e, h⟩
theorem g_lenT {a : Addr} {xs : List V} (e : SqT K H a xs) (h : Q (.int xs.length) H) : rLenX K [.ref a] H Q := .inl ⟨xs, .inr e, h⟩
theorem g_lenD {a : Addr} {kvs : List (Key × V)} (e : H a = some (.dK kvs)) (h : Q (.int kvs.length) H) : rLenX K [.ref a] H Q := .inr ⟨kvs, e, h⟩
theorem g_lenS {z : Str} (e : z.length ≤ sizeLine) (h : Q (.int z.length) H) : rLenX K [.str z] H Q := ⟨e, h⟩
theorem g_truL {a : Addr} {xs : List V} {R : Bool → Prop} (e : SqL K H a xs) (h : R (!xs.isEmpty)) : ∃ k, TruV K (.ref a) H k ∧ R k := ⟨_, .inl ⟨xs, e, rfl⟩, h⟩
theorem g_truT {a : Addr} {xs : List V} {R : Bool → Prop} (e : SqT K H a xs) (h : R (!xs.isEmpty)) : ∃ k, TruV K (.ref a) H k ∧ R k := ⟨_, .inr (.inl ⟨xs, e, rfl⟩), h⟩
theorem g_truD {a : Addr} {kvs : List (Key × V)} {R : Bool → Prop} (e : H a = some (.dK kvs)) (h : R (!kvs.isEmpty)) : ∃ k, TruV K (.ref a) H k ∧ R k := ⟨_, .inr (.inr ⟨kvs, e, rfl⟩), h⟩
theorem g_truBl {b : Bool} {R : Bool → Prop} (h : R b) : ∃ k, TruV K (.bl b) H k ∧ R k := ⟨b, rfl, h⟩
theorem g_truI {i : Int} {R : Bool → Prop} (h : R (i != 0)) : ∃ k, TruV K (.int i) H k ∧ R k := ⟨_, rfl, h⟩
theorem g_truN {R : Bool → Prop} (h : R false) : ∃ k, TruV K .non H k ∧ R k := ⟨_, rfl, h⟩
theorem g_for {wi : TI} {tb : TS} (h : wi σ H fun J H1 => ForGoal J g tb D σ H1) : tFor wi g tb D σ H := h
theorem g_lc {wi : TI} {tt : TT} {vs : List Nat} (h : wi σ H fun J H1 => LcGoal J g tt te vs σ H1 Q) : tLc wi g tt te vs σ H Q := h
theorem g_stE (h : te σ H Q) : stE te σ H Q := ⟨Q, h, fun _ _ z => z⟩
theorem g_stG {R : L2.St → Hp → Prop} (h : g v σ H R) : stG g v σ H R := ⟨R, h, fun _ _ z => z⟩
theorem g_stT {tt : TT} {R : Bool → Hp → Prop} (h : tt σ H R) : stT tt σ H R := ⟨R, h, fun _ _ z => z⟩
theorem g_yes {R : Bool → Hp → Prop} (h : R true H) : tYes σ H R := h
theorem g_iList {tl : TE} {R : It → Hp → Prop} (h : tl σ H fun x H1 => ∃ a, x = .ref a ∧ (∃ xs, SqL K H1 a xs) ∧ R (Itl K a) H1) : iList K tl σ H R := h
theorem g_iTup {tl : TE} {R : It → Hp → Prop} (h : tl σ H fun x H1 => ∃ a, x = .ref a ∧ (∃ xs, SqT K H1 a xs) ∧ R (Itt K a) H1) : iTup K tl σ H R := h
theorem g_iR1 {t : TA} {R : It → Hp → Prop} (h : t σ H fun vs H1 => ∃ j : Int, vs = [.int j] ∧ -(2 ^ 62) ≤ j ∧ j < 2 ^ 62 ∧ R (Itr 0 j.toNat) H1) : iRng1 t σ H R := h
theorem g_iR2 {t : TA} {R : It → Hp → Prop} (h : t σ H fun vs H1 => ∃ i j : Int, vs = [.int i, .int j] ∧ (-(2 ^ 62) ≤ i ∧ i < 2 ^ 62 ∧ -(2 ^ 62) ≤ j ∧ j < 2 ^ 62) ∧ R (Itr i (j - i).toNat) H1) : iRng2 t σ H R := h
theorem g_iR3 {t : TA} {R : It → Hp → Prop} (h : t σ H fun vs H1 => ∃ (i j c : Int) (n : Nat), vs = [.int i, .int j, .int c] ∧ RgC i j c n ∧ R (Itc i c n) H1) : iRng3 t σ H R := h
theorem g_itLf {tb : TS} {a : Addr} {xs : List V} (e : SqL K H a xs) (h : ForGoal (Itl K a) g tb D σ H) : ∃ a', V.ref a = .ref a' ∧ (∃ xs, SqL K H a' xs) ∧ ForGoal (Itl K a') g tb D σ H := ⟨a, rfl, ⟨xs, e⟩, h⟩
theorem g_itTf {tb : TS} {a : Addr} {xs : List V} (e : SqT K H a xs) (h : ForGoal (Itt K a) g tb D σ H) : ∃ a', V.ref a = .ref a' ∧ (∃ xs, SqT K H a' xs) ∧ ForGoal (Itt K a') g tb D σ H := ⟨a, rfl, ⟨xs, e⟩, h⟩
theorem g_itLl {tt : TT} {vs : List Nat} {a : Addr} {xs : List V} (e : SqL K H a xs) (h : LcGoal (Itl K a) g tt te vs σ H Q) : ∃ a', V.ref a = .ref a' ∧ (∃ xs, SqL K H a' xs) ∧ LcGoal (Itl K a') g tt te vs σ H Q := ⟨a, rfl, ⟨xs, e⟩, h⟩
theorem g_itTl {tt : TT} {vs : List Nat} {a : Addr} {xs : List V} (e : SqT K H a xs) (h : LcGoal (Itt K a) g tt te vs σ H Q) : ∃ a', V.ref a = .ref a' ∧ (∃ xs, SqT K H a' xs) ∧ LcGoal (Itt K a') g tt te vs σ H Q := ⟨a, rfl, ⟨xs, e⟩, h⟩
theorem g_itR1f {tb : TS} {j : Int} (h1 : -(2 ^ 62) ≤ j) (h2 : j < 2 ^ 62) (h : ForGoal (Itr 0 j.toNat) g tb D σ H) : ∃ j' : Int, [V.int j] = [.int j'] ∧ -(2 ^ 62) ≤ j' ∧ j' < 2 ^ 62 ∧ ForGoal (Itr 0 j'.toNat) g tb D σ H := ⟨j, rfl, h1, h2, h⟩
theorem g_itR1l {tt : TT} {vs : List Nat} {j : Int} (h1 : -(2 ^ 62) ≤ j) (h2 : j < 2 ^ 62) (h : LcGoal (Itr 0 j.toNat) g tt te vs σ H Q) : ∃ j' : Int, [V.int j] = [.int j'] ∧ -(2 ^ 62) ≤ j' ∧ j' < 2 ^ 62 ∧ LcGoal (Itr 0 j'.toNat) g tt te vs σ H Q := ⟨j, rfl, h1, h2, h⟩
theorem g_itR2f {tb : TS} {i j : Int} (h1 : -(2 ^ 62) ≤ i ∧ i < 2 ^ 62 ∧ -(2 ^ 62) ≤ j ∧ j < 2 ^ 62) (h : ForGoal (Itr i (j - i).toNat) g tb D σ H) : ∃ i' j' : Int, [V.int i, V.int j] = [.int i', .int j'] ∧ (-(2 ^ 62) ≤ i' ∧ i' < 2 ^ 62 ∧ -(2 ^ 62) ≤ j' ∧ j' < 2 ^ 62) ∧ ForGoal (Itr i' (j' - i').toNat) g tb D σ H := ⟨i, j, rfl, h1, h⟩
theorem g_itR2l {tt : TT} {vs : List Nat} {i j : Int} (h1 : -(2 ^ 62) ≤ i ∧ i < 2 ^ 62 ∧ -(2 ^ 62) ≤ j ∧ j < 2 ^ 62) (h : LcGoal (Itr i (j - i).toNat) g tt te vs σ H Q) : ∃ i' j' : Int, [V.int i, V.int j] = [.int i', .int j'] ∧ (-(2 ^ 62) ≤ i' ∧ i' < 2 ^ 62 ∧ -(2 ^ 62) ≤ j' ∧ j' < 2 ^ 62) ∧ LcGoal (Itr i' (j' - i').toNat) g tt te vs σ H Q := ⟨i, j, rfl, h1, h⟩
theorem g_itR3f {tb : TS} {i j c : Int} {n : Nat} (r : RgC i j c n) (h : ForGoal (Itc i c n) g tb D σ H) : ∃ (i' j' c' : Int) (n' : Nat), [V.int i, V.int j, V.int c] = [.int i', .int j', .int c'] ∧ RgC i' j' c' n' ∧ ForGoal (Itc i' c' n') g tb D σ H := ⟨i, j, c, n, rfl, r, h⟩
theorem g_itR3l {tt : TT} {vs : List Nat} {i j c : Int} {n : Nat} (r : RgC i j c n) (h : LcGoal (Itc i c n) g tt te vs σ H Q) : ∃ (i' j' c' : Int) (n' : Nat), [V.int i, V.int j, V.int c] = [.int i', .int j', .int c'] ∧ RgC i' j' c' n' ∧ LcGoal (Itc i' c' n') g tt te vs σ H Q := ⟨i, j, c, n, rfl, r, h⟩
theorem g_forL {tb : TS} {a : Addr} (xs : List V) (_ : SqL K H a xs) (Pv : Nat → L2.St → Hp → Prop) (h0 : Pv 0 σ H) (hl : ∀ i σ H, i ≤ xs.length → Pv i σ H → SqL K H a xs)
    (hs : ∀ i x σ H, xs[i]? = some x → Pv i σ H → g x σ H fun σ2 H2 => tb { D with nx := Pv (i + 1), ct := Pv (i + 1), bk := D.nx } σ2 H2) (hd : ∀ σ H, Pv xs.length σ H → D.nx σ H) : ForGoal (Itl K a) g tb D σ H := for_list Pv h0 hl hs hd
theorem g_forT {tb : TS} {a : Addr} (xs : List V) (Pv : Nat → L2.St → Hp → Prop) (h0 : Pv 0 σ H) (hl : ∀ i σ H, i ≤ xs.length → Pv i σ H → SqT K H a xs)
    (hs : ∀ i x σ H, xs[i]? = some x → Pv i σ H → g x σ H fun σ2 H2 => tb { D with nx := Pv (i + 1), ct := Pv (i + 1), bk := D.nx } σ2 H2) (hd : ∀ σ H, Pv xs.length σ H → D.nx σ H) : ForGoal (Itt K a) g tb D σ H := for_tup Pv h0 hl hs hd
theorem g_forR {tb : TS} {lo : Int} {n : Nat} (Pv : Nat → L2.St → Hp → Prop) (h0 : Pv 0 σ H)
    (hs : ∀ i σ H, i < n → Pv i σ H → g (.int (lo + i)) σ H fun σ2 H2 => tb { D with nx := Pv (i + 1), ct := Pv (i + 1), bk := D.nx } σ2 H2) (hd : ∀ σ H, Pv n σ H → D.nx σ H) : ForGoal (Itr lo n) g tb D σ H := for_range Pv h0 hs hd
end
theorem lk_hd {f : Str} {v : V} {r : List (Str × V)} : List.lookup f ((f, v) :: r) = some v := by simp [List.lookup]
theorem lk_tl {f g : Str} {v : V} {r : List (Str × V)} {o : Option V} (n : (f == g) = false) (h : List.lookup f r = o) : List.lookup f ((g, v) :: r) = o := by simp only [List.lookup, n]; exact h
theorem lk_nil {f : Str} : List.lookup f ([] : List (Str × V)) = none := rfl
theorem pf_nil {f : Str} {v : V} : putF f v [] = [(f, v)] := rfl
theorem pf_hd {f : Str} {v x : V} {r : List (Str × V)} : putF f v ((f, x) :: r) = (f, v) :: r := by simp [putF]
theorem pf_tl {f g : Str} {v x : V} {r r' : List (Str × V)} (n : (f == g) = false) (h : putF f v r = r') : putF f v ((g, x) :: r) = (g, x) :: r' := by
  have e : ¬ g = f := fun q => by rw [q, beq_self_eq_true] at n; cases n
  simp only [putF, if_neg e, h]
theorem ix_at {α : Type} {xs : List α} {i : Int} {v : α} (h : 0 ≤ i) (e : xs[i.toNat]? = some v) : atI xs i = some v := by
  have z : ((i.toNat : Nat) : Int) = i := Int.toNat_of_nonneg h
  rw [← z]; exact atI_nat e
theorem lt1000 {n : Nat} (h : Nat.blt n 1000 = true := by rfl) : n < 1000 := by
  have := Nat.le_of_ble_eq_true h
  omega
theorem leLine {n : Nat} (h : Nat.ble n 1000 = true := by rfl) : n ≤ sizeLine := Nat.le_trans (Nat.le_of_ble_eq_true h) (by decide)
/-! ### the stepping tactics, under names of our own -/
local macro_rules | `(tactic| walk_at "eo mem") => `(tactic| first | with_reducible exact List.mem_cons_self | ((with_reducible apply List.mem_cons_of_mem); walk_at "eo mem"))
local macro_rules | `(tactic| walk_at "eo lk") => `(tactic| first | with_reducible exact lk_hd | with_reducible exact lk_nil | ((with_reducible apply lk_tl); (decide +kernel); (walk_at "eo lk")))
local macro_rules | `(tactic| walk_at "eo pf") => `(tactic| first | with_reducible exact pf_hd | with_reducible exact pf_nil | ((with_reducible apply pf_tl); (decide +kernel); (walk_at "eo pf")))
local macro_rules | `(tactic| walk_at "eo fact") => `(tactic| first | with_reducible assumption | ((with_reducible apply Ext.keep); (with_reducible assumption); (walk_at "eo fact"); (walk_at "eo nin")))
local macro_rules | `(tactic| walk_at "eo nin") => `(tactic| first | with_reducible exact nin0 | ((with_reducible apply nin1); walk_at "eo ne") | ((with_reducible apply ninC); (walk_at "eo ne"); (walk_at "eo nin")) | with_reducible assumption)
local macro_rules | `(tactic| walk_at "eo ne") => `(tactic| first
  | with_reducible assumption
  | ((with_reducible apply Ne.symm); with_reducible assumption)
  | walk_at "eo ne2")
local macro_rules | `(tactic| walk_at "eo ne2") => `(tactic| first
  | ((with_reducible apply ne_of_none); rotate_left 1; (with_reducible assumption); (walk_at "eo fact"))
  | ((with_reducible apply Ne.symm); (with_reducible apply ne_of_none); rotate_left 1; (with_reducible assumption); (walk_at "eo fact"))
  | ((with_reducible apply ne_of); (with_reducible assumption); (walk_at "eo fact"); ((intro z; cases z)))
  | ((with_reducible apply Ne.symm); (with_reducible apply ne_of); (with_reducible assumption); (walk_at "eo fact"); ((intro z; cases z))))
local macro_rules | `(tactic| walk_at "eo sqT") => `(tactic| first | with_reducible assumption | ((with_reducible apply SqT.of); with_reducible assumption) | ((with_reducible apply sqT_ext); (with_reducible assumption); (walk_at "eo sqT")))
local macro_rules | `(tactic| walk_at "eo sqL") => `(tactic| first | with_reducible assumption | ((with_reducible apply SqL.of); with_reducible assumption) | ((with_reducible apply sqL_ext); (with_reducible assumption); (walk_at "eo sqL"); (intro _ _; walk_at "eo nin")))
local macro_rules | `(tactic| walk_at "eo at") => `(tactic| first | rfl | assumption | (apply ix_at; (first | omega | assumption); (first | assumption | rfl)))
local macro_rules | `(tactic| walk_at "eo set") => `(tactic| first | ((try simp only [List.set_cons_succ, List.set_cons_zero, Int.reduceToNat, List.length_cons, List.length_nil]); first | done | rfl) | rfl)
local macro_rules | `(tactic| walk_at "eo ext") => `(tactic| first | with_reducible assumption | with_reducible exact Ext.refl _ | ((with_reducible apply Ext.snoc); (with_reducible assumption); (walk_at "eo ext"); (walk_at "eo sub")))
local macro_rules | `(tactic| walk_at "eo sub") => `(tactic| first | with_reducible exact sub0 | ((with_reducible apply sub1); (walk_at "eo mem")) | ((with_reducible apply sub1f); (walk_at "eo free")) | ((with_reducible apply subC); (walk_at "eo mem"); (walk_at "eo sub")) | ((with_reducible apply subCf); (walk_at "eo free"); (walk_at "eo sub")))
local macro_rules | `(tactic| walk_at "eo free") => `(tactic| first | with_reducible assumption | ((with_reducible apply Ext.free); (with_reducible assumption); (walk_at "eo free"); (walk_at "eo nin")))
local macro_rules | `(tactic| walk_at "eo cut") => `(tactic| first | ((apply Eq.trans); (first | exact cut_midL | exact cut_toL | exact cut_fromL | exact cut_negToL (by decide) | exact cut_negFromL (by decide)); ((try simp only [List.take_succ_cons, List.take_zero, List.drop_succ_cons, List.drop_zero, List.length_cons, List.length_nil, Nat.reduceAdd, Nat.reduceSub]); first | done | rfl)) | rfl)
local macro_rules | `(tactic| walk_at "eo len") => `(tactic| first | exact leLine | (rw [sizeLine_eq]; simp only [List.length_append, List.length_cons, List.length_nil, List.length_map, List.length_take]; omega))
local macro_rules | `(tactic| walk_at "eo arith") => `(tactic| first | decide | omega)
local macro_rules | `(tactic| walk_at "eo mul") => `(tactic| first | (refine CMul.left ?_; first | decide | (constructor <;> omega)) | (refine CMul.right ?_; first | decide | (constructor <;> omega)))
local macro_rules | `(tactic| walk_at "eo step") => `(tactic| first
  | ((with_reducible apply g_var); (with_unfolding_all rfl))
  | with_reducible refine g_C ?_
  | with_reducible refine g_cons ?_
  | with_reducible refine g_nil ?_
  | with_reducible refine g_op ?_
  | with_reducible refine g_asg ?_
  | with_reducible refine g_name ?_
  | with_reducible refine g_seq ?_
  | with_reducible refine g_CB ?_
  | with_reducible refine g_bl ?_
  | with_reducible refine g_test ?_
  | with_reducible refine g_rI0 ?_
  | with_reducible refine g_addI ?_
  | ((with_reducible apply g_ixT); (walk_at "eo sqT"); (walk_at "eo at"))
  | ((with_reducible apply g_ixL); (walk_at "eo sqL"); (walk_at "eo at"))
  | ((with_reducible apply g_fld'); (walk_at "eo fact"); (with_reducible assumption); ((with_reducible apply na_of); (with_reducible assumption); (walk_at "eo mem")); (walk_at "eo lk"))
  | with_reducible refine g_fld ?_
  | with_reducible refine g_ret ?_
  | with_reducible refine g_ifS ?_
  | with_reducible refine g_iteIN ?_
  | ((with_reducible apply g_iteDT); (first | with_reducible assumption | decide))
  | ((with_reducible apply g_iteDF); (first | with_reducible assumption | decide))
  | with_reducible refine g_iteT ?_
  | with_reducible refine g_iteF ?_
  | with_reducible refine g_tup ?_
  | ((with_reducible apply g_new); (exact leLine))
  | ((with_reducible refine g_newO ?_); intro _ _ _ _ _)
  | with_reducible refine g_call ?_
  | ((with_reducible apply g_eq); (rfl))
  | with_reducible refine g_and ?_
  | with_reducible refine g_or ?_
  | ((with_reducible apply g_ne); (rfl))
  | ((with_reducible apply g_mulI); (walk_at "eo mul"))
  | ((with_reducible apply g_mod); (walk_at "eo arith"))
  | ((with_reducible apply g_divW); (walk_at "eo arith"); (walk_at "eo arith"))
  | with_reducible refine g_int1 ?_
  | with_reducible refine g_next ?_
  | with_reducible refine g_retN ?_
  | with_reducible refine g_drop ?_
  | with_reducible refine g_if ?_
  | with_reducible refine g_un ?_
  | with_reducible refine g_not ?_
  | with_reducible refine g_chain ?_
  | with_reducible refine g_andV ?_
  | with_reducible refine g_orV ?_
  | with_reducible refine g_notV ?_
  | ((with_reducible apply g_inT); (walk_at "eo sqT"); rfl; rfl)
  | ((with_reducible apply g_inL); (walk_at "eo sqL"); rfl; rfl)
  | ((with_reducible apply g_ninT); (walk_at "eo sqT"); rfl; rfl)
  | ((with_reducible apply g_ninL); (walk_at "eo sqL"); rfl; rfl)
  | with_reducible refine g_lst ?_
  | with_reducible refine g_iaddI ?_
  | ((with_reducible apply g_addT); (walk_at "eo sqT"); (walk_at "eo sqT"); (walk_at "eo len"); intro _ _ _ _)
  | ((with_reducible apply g_addL); (walk_at "eo fact"); (walk_at "eo fact"); (walk_at "eo len"))
  | with_reducible refine g_sl ?_
  | with_reducible refine g_noPart ?_
  | with_reducible refine g_part ?_
  | with_reducible refine g_part' ?_
  | ((with_reducible apply g_slT); (walk_at "eo sqT"); (walk_at "eo cut"); intro _ _ _ _)
  | ((with_reducible apply g_slL); (walk_at "eo sqL"); (walk_at "eo cut"))
  | with_reducible refine g_int1b ?_
  | with_reducible refine g_min2 ?_
  | with_reducible refine g_max2 ?_
  | with_reducible refine g_abs ?_
  | with_reducible refine g_isN' ?_
  | with_reducible refine g_neg ?_
  | with_reducible refine g_sub ?_
  | ((with_reducible apply g_setL); (walk_at "eo fact"); (walk_at "eo at"); (walk_at "eo set"); intro _ _ _)
  | with_reducible refine g_sfld ?_
  | ((with_reducible apply g_sfld'); (walk_at "eo fact"); (with_reducible assumption); ((with_reducible apply na_of); (with_reducible assumption); (walk_at "eo mem")); (exact lt1000); (walk_at "eo pf"); intro _ _ _)
  | with_reducible refine g_sfa ?_
  | ((with_reducible apply g_sfa'); (walk_at "eo fact"); (with_reducible assumption); ((with_reducible apply na_of); (with_reducible assumption); (walk_at "eo mem")); (walk_at "eo lk"))
  | ((with_reducible apply g_sfa''); (walk_at "eo fact"); (exact lt1000); (walk_at "eo pf"); intro _ _ _)
  | with_reducible refine g_meth ?_
  | ((with_reducible apply g_meth'); (walk_at "eo fact"); (walk_at "eo lk"))
  | with_reducible refine g_make ?_
  | ((with_reducible apply g_listL); (walk_at "eo sqL"))
  | ((with_reducible apply g_listT); (walk_at "eo sqT"))
  | ((with_reducible apply g_tupL); (walk_at "eo sqL"))
  | ((with_reducible apply g_tupT); (walk_at "eo sqT"))
  | ((with_reducible apply g_lenL); (walk_at "eo sqL"))
  | ((with_reducible apply g_lenT); (walk_at "eo sqT"))
  | ((with_reducible apply g_lenD); (walk_at "eo fact"))
  | ((with_reducible apply g_truL); (walk_at "eo sqL"))
  | ((with_reducible apply g_truT); (walk_at "eo sqT"))
  | ((with_reducible apply g_truD); (walk_at "eo fact"))
  | with_reducible refine g_truBl ?_
  | with_reducible refine g_truI ?_
  | with_reducible refine g_truN ?_
  | with_reducible refine g_appd ?_
  | with_reducible refine g_bm0 ?_
  | ((with_reducible apply g_tyL); (walk_at "eo sqL"))
  | ((with_reducible apply g_append); (walk_at "eo fact"); (walk_at "eo arith"); intro _ _ _)
  | with_reducible refine g_par ?_
  | with_reducible refine g_par' ?_
  | with_reducible refine g_gcons ?_
  | with_reducible refine g_gnil ?_
  | ((with_reducible apply g_gtup); (walk_at "eo sqT"); (with_unfolding_all rfl))
  | ((with_reducible apply g_aug); (with_unfolding_all rfl))
  | with_reducible refine g_for ?_
  | with_reducible refine g_iList ?_
  | with_reducible refine g_iTup ?_
  | with_reducible refine g_iR1 ?_
  | with_reducible refine g_iR2 ?_
  | with_reducible refine g_iR3 ?_
  | with_reducible refine g_lc ?_
  | with_reducible refine g_stE ?_
  | with_reducible refine g_stG ?_
  | with_reducible refine g_stT ?_
  | with_reducible refine g_yes ?_
  | ((with_reducible apply g_itLf); (walk_at "eo sqL"))
  | ((with_reducible apply g_itTf); (walk_at "eo sqT"))
  | ((with_reducible apply g_itLl); (walk_at "eo sqL"))
  | ((with_reducible apply g_itTl); (walk_at "eo sqT"))
  | ((with_reducible apply g_itR1f); (walk_at "eo arith"); (walk_at "eo arith"))
  | ((with_reducible apply g_itR1l); (walk_at "eo arith"); (walk_at "eo arith"))
  | ((with_reducible apply g_itR2f); (walk_at "eo arith"))
  | ((with_reducible apply g_itR2l); (walk_at "eo arith"))
  | with_reducible refine g_iteRN ?_
  | with_reducible refine g_iteSN ?_
  | with_reducible refine g_iteNIN ?_
  | with_reducible refine g_iteNRN ?_
  | with_reducible refine g_cnt ?_
  | with_reducible refine g_brk ?_)
local macro_rules | `(tactic| walk_at "eo go") => `(tactic| repeat (walk_at "eo step"))
local macro_rules | `(tactic| walk_at "eo init") => `(tactic| (dsimp only [cxOf, Cx.nox, Cx.wish, L2.start, List.map, List.length, List.replicate, List.cons_append, List.nil_append, Nat.reduceAdd, Nat.reduceSub]))
theorem dec_t {p : Prop} [Decidable p] (h : decide p = true) : p := of_decide_eq_true h
theorem dec_f {p : Prop} [Decidable p] (h : decide p = false) : ¬ p := of_decide_eq_false h
theorem vint {i j : Int} (h : V.int i = V.int j) : i = j := V.int.inj h
theorem mem_map_int {xs : List Int} {i : Nat} {x : V} (h : (xs.map V.int)[i]? = some x) : ∃ n, xs[i]? = some n ∧ x = .int n := by
  rw [List.getElem?_map] at h
  cases e : xs[i]? with
  | none => rw [e] at h; cases h
  | some n => rw [e] at h; exact ⟨n, rfl, (Option.some.inj h).symm⟩
/-! ### dict(zip(t, u)), t, u tuples, t of texts -/
namespace ZD
open PySem PySem.Calls RZ
section
variable {prog : Program} {w : World} {A : Around} {E : Value → Shared → Prop} {s : Shared}
theorem zd_item {z TI TO T i1 i2 l1 l2 : Addr} {f : Bool} {oT : Obj} {k1 k2 : Nat} {xs ys : Array Value} {x y : Value} {Q : Value → Shared → Prop} (D : ZipApart z TI TO i1 i2 l1 l2)
    (hz : IsZipHeld s.heap z TI TO T f) (hT : s.heap.get? T = some oT) (hTI : IsPair s.heap TI (.ref i1) (.ref i2))
    (h1 : s.heap.IsTupleIter i1 l1 k1) (h2 : s.heap.IsTupleIter i2 l2 k2) (hl1 : s.heap.IsTuple l1 xs) (hl2 : s.heap.IsTuple l2 ys) (hx : xs[k1]? = some x) (hy : ys[k2]? = some y)
    (hQ : ∀ h', IsZipHeld h' z TI TO T true → h'.IsTupleIter i1 l1 (k1 + 1) → h'.IsTupleIter i2 l2 (k2 + 1) → IsPair h' s.heap.objs.size x y → h'.objs.size = s.heap.objs.size + 1 →
      (∀ c o, c ≠ z → c ≠ i1 → c ≠ i2 → s.heap.get? c = some o → h'.get? c = some o) → Q (.ref s.heap.objs.size) { s with heap := h' }) :
    wpAny (model prog w) A (Builtin.«zip.__next__» ⟨[.ref z], []⟩) (fun fin s' => ∃ v, fin = .done (.ret v) ∧ Q v s') E s := by
  show wpAny _ _ (field (.ref z) 2 >>= _) _ _ _
  refine wpAny_bind (wpAny_field hz rfl (x := .bool false) rfl ?_)
  show wpAny _ _ (field (.ref z) 3 >>= _) _ _ _
  refine wpAny_bind (wpAny_field hz rfl (x := .ref TI) rfl ?_)
  refine wpAny_bind (wpAny_seqItems hTI rfl ?_)
  show wpAny _ _ (Builtin.SmallTypes.ownedTupleIsFree (.ref z) >>= _) _ _ _
  refine wpAny_bind (wpAny_tupleHeld_zip hz hT fun h₁ hz₁ hs₁ => ?_)
  simp only [Bool.false_eq_true, if_false]
  refine wpAny_bind ?_
  rw [← Array.forIn_toList]
  simp only [List.forIn_cons, List.forIn_nil]
  refine wpAny_bind (wpAny_bind (wpAny_holding ?_))
  show wpAny _ _ (Builtin.SmallTypes.nextOf (.ref i1) >>= _) _ _ _
  refine wpAny_bind (wpAny_nextOf_tuple_item (s := { s with heap := h₁ }) (h1.extBut hs₁.extBut D.i1z) (hl1.extBut hs₁.extBut D.l1z) hx fun h₂ h1₂ hs₂ => wpAny_pure ?_)
  refine wpAny_pure ?_
  refine wpAny_bind (wpAny_bind (wpAny_holding ?_))
  show wpAny _ _ (Builtin.SmallTypes.nextOf (.ref i2) >>= _) _ _ _
  refine wpAny_bind (wpAny_nextOf_tuple_item (s := { s with heap := h₂ }) ((h2.extBut hs₁.extBut D.i2z).extBut hs₂.extBut D.i12.symm) ((hl2.extBut hs₁.extBut D.l2z).extBut hs₂.extBut D.l2i1) hy fun h₃ h2₃ hs₃ => wpAny_pure ?_)
  refine wpAny_pure (wpAny_pure ?_)
  show wpAny _ _ (newTuple [x, y] >>= _) _ _ _
  refine wpAny_bind (wpAny_newTuple ?_)
  have hsz : h₃.objs.size = s.heap.objs.size := by rw [hs₃.1, hs₂.1, hs₁.1]
  have hz₃ : IsZipHeld h₃ z TI TO T true := hs₃.extBut _ _ D.i2z.symm (hs₂.extBut _ _ D.i1z.symm hz₁)
  have hk : ∀ c o, c ≠ z → c ≠ i1 → c ≠ i2 → s.heap.get? c = some o → h₃.get? c = some o := fun c o c1 c2 c3 e => hs₃.extBut _ _ c3 (hs₂.extBut _ _ c2 (hs₁.extBut _ _ c1 e))
  have h1₃ : h₃.IsTupleIter i1 l1 (k1 + 1) := h1₂.extBut hs₃.extBut D.i12
  refine wpAny_pure ⟨_, rfl, ?_⟩
  show Q (.ref h₃.objs.size) _
  have hp : IsPair (h₃.push { cls := .type "tuple", data := .seq #[x, y] }) h₃.objs.size x y := Heap.get?_push_size _ rfl
  have hz4 : (h₃.push { cls := .type "tuple", data := .seq #[x, y] }).objs.size = h₃.objs.size + 1 := Heap.size_push ..
  rw [hsz] at hp hz4 ⊢
  exact hQ _ (Heap.get?_push_of_some _ hz₃) (h1₃.at fun o e => Heap.get?_push_of_some _ e) (h2₃.at fun o e => Heap.get?_push_of_some _ e) hp hz4 fun c o c1 c2 c3 e => Heap.get?_push_of_some _ (hk c o c1 c2 c3 e)

theorem zd_end {z TI TO T i1 i2 l1 l2 : Addr} {f : Bool} {oT : Obj} {k1 k2 : Nat} {xs ys : Array Value} {Q : Fin → Shared → Prop} (hh : A.handled = none) (D : ZipApart z TI TO i1 i2 l1 l2)
    (hz : IsZipHeld s.heap z TI TO T f) (hT : s.heap.get? T = some oT) (hTI : IsPair s.heap TI (.ref i1) (.ref i2))
    (h1 : s.heap.IsTupleIter i1 l1 k1) (h2 : s.heap.IsTupleIter i2 l2 k2) (hl1 : s.heap.IsTuple l1 xs) (hl2 : s.heap.IsTuple l2 ys) (hend : xs[k1]? = none ∨ ys[k2]? = none)
    (hE : ∀ h' e, (∀ c o, c ≠ z → c ≠ i1 → c ≠ i2 → s.heap.get? c = some o → h'.get? c = some o) → (∃ o, h'.get? e = some o ∧ o.cls = .type "StopIteration") → E (.ref e) { s with heap := h' }) :
    wpAny (model prog w) A (Builtin.«zip.__next__» ⟨[.ref z], []⟩) Q E s := by
  show wpAny _ _ (field (.ref z) 2 >>= _) _ _ _
  refine wpAny_bind (wpAny_field hz rfl (x := .bool false) rfl ?_)
  show wpAny _ _ (field (.ref z) 3 >>= _) _ _ _
  refine wpAny_bind (wpAny_field hz rfl (x := .ref TI) rfl ?_)
  refine wpAny_bind (wpAny_seqItems hTI rfl ?_)
  show wpAny _ _ (Builtin.SmallTypes.ownedTupleIsFree (.ref z) >>= _) _ _ _
  refine wpAny_bind (wpAny_tupleHeld_zip hz hT fun h₁ hz₁ hs₁ => ?_)
  simp only [Bool.false_eq_true, if_false]
  refine wpAny_bind ?_
  rw [← Array.forIn_toList]
  simp only [List.forIn_cons, List.forIn_nil]
  refine wpAny_bind (wpAny_bind (wpAny_holding ?_))
  show wpAny _ _ (Builtin.SmallTypes.nextOf (.ref i1) >>= _) _ _ _
  cases hx : xs[k1]? with
  | none =>
    refine wpAny_bind (wpAny_nextOf_tuple_end (s := { s with heap := h₁ }) hh (h1.extBut hs₁.extBut D.i1z) (hl1.extBut hs₁.extBut D.l1z) hx fun h₂ e hs₂ he => ?_)
    exact hE h₂ e (fun c o c1 c2 _ x => hs₂ _ _ c2 (hs₁.extBut _ _ c1 x)) he
  | some x =>
    have hy : ys[k2]? = none := by rcases hend with h | h; rw [hx] at h; cases h; exact h
    refine wpAny_bind (wpAny_nextOf_tuple_item (s := { s with heap := h₁ }) (h1.extBut hs₁.extBut D.i1z) (hl1.extBut hs₁.extBut D.l1z) hx fun h₂ h1₂ hs₂ => wpAny_pure ?_)
    refine wpAny_pure ?_
    refine wpAny_bind (wpAny_bind (wpAny_holding ?_))
    show wpAny _ _ (Builtin.SmallTypes.nextOf (.ref i2) >>= _) _ _ _
    refine wpAny_bind (wpAny_nextOf_tuple_end (s := { s with heap := h₂ }) hh ((h2.extBut hs₁.extBut D.i2z).extBut hs₂.extBut D.i12.symm) ((hl2.extBut hs₁.extBut D.l2z).extBut hs₂.extBut D.l2i1) hy fun h₃ e hs₃ he => ?_)
    exact hE h₃ e (fun c o c1 c2 c3 x => hs₃ _ _ c3 (hs₂.extBut _ _ c2 (hs₁.extBut _ _ c1 x))) he

theorem zd_next {z TI TO T i1 i2 l1 l2 : Addr} {f : Bool} {oT : Obj} {k1 k2 : Nat} {xs ys : Array Value} {x y : Value} {Q : Option Value → Shared → Prop} (D : ZipApart z TI TO i1 i2 l1 l2)
    (hz : IsZipHeld s.heap z TI TO T f) (hT : s.heap.get? T = some oT) (hTI : IsPair s.heap TI (.ref i1) (.ref i2))
    (h1 : s.heap.IsTupleIter i1 l1 k1) (h2 : s.heap.IsTupleIter i2 l2 k2) (hl1 : s.heap.IsTuple l1 xs) (hl2 : s.heap.IsTuple l2 ys) (hx : xs[k1]? = some x) (hy : ys[k2]? = some y)
    (hQ : ∀ h', IsZipHeld h' z TI TO T true → h'.IsTupleIter i1 l1 (k1 + 1) → h'.IsTupleIter i2 l2 (k2 + 1) → IsPair h' s.heap.objs.size x y → h'.objs.size = s.heap.objs.size + 1 →
      (∀ c o, c ≠ z → c ≠ i1 → c ≠ i2 → s.heap.get? c = some o → h'.get? c = some o) → Q (some (.ref s.heap.objs.size)) { s with heap := h' }) :
    wpAny (model prog w) A (pyNext (.ref z)) Q E s := by
  have hTy : s.TypeIs (.ref z) "zip" := ⟨_, hz, rfl⟩
  unfold pyNext
  exact wpAny_bind (wpAny_attempt (wpAny_callSpecial?_slot (name := Str.ofString "__next__") hTy F.slot_zip_next
    (wpAny_call_entry F.slot_zip_next hTy F.entry_zip_next
      (zd_item D hz hT hTI h1 h2 hl1 hl2 hx hy fun h' a1 a3 a4 a5 a6 a7 => wpAny_pure (hQ h' a1 a3 a4 a5 a6 a7)) (F.args_zip_next_1 _))))
theorem zd_stop {z TI TO T i1 i2 l1 l2 : Addr} {f : Bool} {oT : Obj} {k1 k2 : Nat} {xs ys : Array Value} {Q : Option Value → Shared → Prop} (hh : A.handled = none) (D : ZipApart z TI TO i1 i2 l1 l2)
    (hz : IsZipHeld s.heap z TI TO T f) (hT : s.heap.get? T = some oT) (hTI : IsPair s.heap TI (.ref i1) (.ref i2))
    (h1 : s.heap.IsTupleIter i1 l1 k1) (h2 : s.heap.IsTupleIter i2 l2 k2) (hl1 : s.heap.IsTuple l1 xs) (hl2 : s.heap.IsTuple l2 ys) (hend : xs[k1]? = none ∨ ys[k2]? = none)
    (hQ : ∀ h', (∀ c o, c ≠ z → c ≠ i1 → c ≠ i2 → s.heap.get? c = some o → h'.get? c = some o) → Q none { s with heap := h' }) : wpAny (model prog w) A (pyNext (.ref z)) Q E s := by
  have hTy : s.TypeIs (.ref z) "zip" := ⟨_, hz, rfl⟩
  unfold pyNext
  refine wpAny_bind (wpAny_attempt (wpAny_callSpecial?_slot (name := Str.ofString "__next__") hTy F.slot_zip_next
    (wpAny_call_entry F.slot_zip_next hTy F.entry_zip_next (zd_end hh D hz hT hTI h1 h2 hl1 hl2 hend fun h' e hk he => ?_) (F.args_zip_next_1 _))))
  obtain ⟨o, ho, hc⟩ := he
  refine wpAny_bind (wpAny_isInstance (T := "StopIteration") (b := true) ⟨o, ho, hc⟩ isSubtype_stop ?_)
  exact wpAny_pure (hQ _ hk)

end
section
variable {prog : Program} {w : World}
theorem zd_arg (z TI TO i1 i2 l1 l2 : Addr) (D : ZipApart z TI TO i1 i2 l1 l2) (xs ys : Array Value) :
    PairArg prog w "zip" z [z, TI, TO, i1, i2, l1, l2] [z, TO, i1, i2] (min xs.size ys.size) (fun i k v => xs[i]? = some k ∧ ys[i]? = some v)
      (fun h => IsZip h z TI TO .none ∧ IsPair h TI (.ref i1) (.ref i2) ∧ (∃ a b, IsPair h TO a b) ∧ h.IsTupleIter i1 l1 0 ∧ h.IsTupleIter i2 l2 0 ∧ h.IsTuple l1 xs ∧ h.IsTuple l2 ys) where
  type := fun s ok => ⟨_, ok.1, rfl⟩
  notDict := by decide
  keep := fun h h' ok hk => by
    obtain ⟨hz, hTI, ⟨a, b, hTO⟩, h1, h2, hl1, hl2⟩ := ok
    exact ⟨hk _ _ hz, hk _ _ hTI, ⟨a, b, hk _ _ hTO⟩, h1.at fun o e => hk _ o e, h2.at fun o e => hk _ o e, hl1.at fun o e => hk _ o e, hl2.at fun o e => hk _ o e⟩
  there := fun h ok b hb => by
    obtain ⟨hz, hTI, ⟨a, c, hTO⟩, ⟨o1, h1, _⟩, ⟨o2, h2, _⟩, ⟨o3, hl1, _⟩, ⟨o4, hl2, _⟩⟩ := ok
    simp only [List.mem_cons, List.not_mem_nil, or_false] at hb
    rcases hb with rfl | rfl | rfl | rfl | rfl | rfl | rfl
    all_goals first | exact ⟨_, hz⟩ | exact ⟨_, hTI⟩ | exact ⟨_, hTO⟩ | exact ⟨_, h1⟩ | exact ⟨_, h2⟩ | exact ⟨_, hl1⟩ | exact ⟨_, hl2⟩
  sub := fun b hb => by simp at hb ⊢; rcases hb with rfl | rfl | rfl | rfl <;> simp
  noKeys := fun A s Q E hA ok h => getAttrOr_miss_zip ok.1 rfl rfl rfl zip_no_keys (by decide +kernel) hA h
  iter := fun A s d Q E hA ok hd hdf h => by
    obtain ⟨hz, hTI, ⟨a, b, hTO⟩, h1, h2, hl1, hl2⟩ := ok
    simp only [List.mem_cons, List.not_mem_nil, or_false, not_or] at hdf
    obtain ⟨dz, dTI, dTO, di1, di2, dl1, dl2⟩ := hdf
    refine wpAny_pyIter_zip hz (h z [z, TO, i1, i2] (fun i h => IsPair h TI (.ref i1) (.ref i2) ∧ h.IsTupleIter i1 l1 i ∧ h.IsTupleIter i2 l2 i ∧ h.IsTuple l1 xs ∧ h.IsTuple l2 ys ∧
      ((IsZip h z TI TO .none ∧ ∃ a b, IsPair h TO a b) ∨ ∃ T f oT, IsZipHeld h z TI TO T f ∧ h.get? T = some oT ∧ T ≠ z ∧ T ≠ i1 ∧ T ≠ i2 ∧ T ≠ d)) s.heap s.toks ?_
      ⟨hTI, h1, h2, hl1, hl2, .inl ⟨hz, a, b, hTO⟩⟩ (fun _ _ e => e) fun b hb => .inl hb)
    exact {
      off := fun hm => by
        simp only [List.mem_cons, List.not_mem_nil, or_false] at hm
        rcases hm with e | e | e | e
        · exact dz e
        · exact dTO e
        · exact di1 e
        · exact di2 e
      frame := fun i h₁ h₂ st hk => by
        obtain ⟨hTI, h1, h2, hl1, hl2, hz⟩ := st
        refine ⟨hk _ _ (Ne.symm dTI) hTI, h1.at fun o e => hk _ o (Ne.symm di1) e, h2.at fun o e => hk _ o (Ne.symm di2) e, hl1.at fun o e => hk _ o (Ne.symm dl1) e, hl2.at fun o e => hk _ o (Ne.symm dl2) e, ?_⟩
        rcases hz with ⟨hz, a, b, hTO⟩ | ⟨T, f, oT, hz, hT, r1, r2, r3, r4⟩
        · exact .inl ⟨hk _ _ (Ne.symm dz) hz, a, b, hk _ _ (Ne.symm dTO) hTO⟩
        · exact .inr ⟨T, f, oT, hk _ _ (Ne.symm dz) hz, hk _ _ r4 hT, r1, r2, r3, r4⟩
      item := fun i s₁ Q₁ E₁ hi st hds hQ => by
        obtain ⟨hTI, h1, h2, hl1, hl2, hz⟩ := st
        have hix : i < xs.size := Nat.lt_of_lt_of_le hi (Nat.min_le_left ..)
        have hiy : i < ys.size := Nat.lt_of_lt_of_le hi (Nat.min_le_right ..)
        have ex := Array.getElem?_eq_getElem hix
        have ey := Array.getElem?_eq_getElem hiy
        have lt : ∀ {c o}, s₁.heap.get? c = some o → s₁.heap.objs.size ≠ c := fun e => Nat.ne_of_gt (Heap.lt_size e)
        have n1 : s₁.heap.objs.size ≠ i1 := let ⟨_, e, _⟩ := h1; lt e
        have n2 : s₁.heap.objs.size ≠ i2 := let ⟨_, e, _⟩ := h2; lt e
        rcases hz with ⟨hz, a, b, hTO⟩ | ⟨T, f, oT, hz, hT, r1, r2, r3, r4⟩
        · refine pyNext_zipT_item D hz hTI hTO h1 h2 hl1 hl2 ex ey fun h' a1 a2 a3 a4 a5 a6 hk => ?_
          exact hQ s₁.heap.objs.size _ _ h' s₁.toks ⟨ex, ey⟩ (.inl ⟨_, a5, rfl, _, rfl⟩)
            ⟨hk _ _ D.TIz D.TITO D.TIi1 D.TIi2 hTI, a3, a4, hl1.at fun o e => hk _ o D.l1z D.l1TO D.l1i1 D.l1i2 e, hl2.at fun o e => hk _ o D.l2z D.l2TO D.l2i1 D.l2i2 e,
              .inr ⟨s₁.heap.objs.size, false, _, a1, a5, lt hz, n1, n2, Nat.ne_of_gt hds⟩⟩
            fun c o hc e => hk c o (fun x => hc (by simp [x])) (fun x => hc (by simp [x])) (fun x => hc (by simp [x])) (fun x => hc (by simp [x])) e
        · refine zd_next D hz hT hTI h1 h2 hl1 hl2 ex ey fun h' a1 a3 a4 a5 a6 hk => ?_
          exact hQ s₁.heap.objs.size _ _ h' s₁.toks ⟨ex, ey⟩ (.inl ⟨_, a5, rfl, _, rfl⟩)
            ⟨hk _ _ D.TIz D.TIi1 D.TIi2 hTI, a3, a4, hl1.at fun o e => hk _ o D.l1z D.l1i1 D.l1i2 e, hl2.at fun o e => hk _ o D.l2z D.l2i1 D.l2i2 e,
              .inr ⟨T, true, oT, a1, hk _ _ r1 r2 r3 hT, r1, r2, r3, r4⟩⟩
            fun c o hc e => hk c o (fun x => hc (by simp [x])) (fun x => hc (by simp [x])) (fun x => hc (by simp [x])) e
      done := fun s₁ Q₁ E₁ st hQ => by
        obtain ⟨hTI, h1, h2, hl1, hl2, hz⟩ := st
        have hend : xs[min xs.size ys.size]? = none ∨ ys[min xs.size ys.size]? = none := by
          rcases Nat.le_total xs.size ys.size with h | h
          · exact .inl (Array.getElem?_eq_none (by rw [Nat.min_eq_left h]; exact Nat.le_refl _))
          · exact .inr (Array.getElem?_eq_none (by rw [Nat.min_eq_right h]; exact Nat.le_refl _))
        rcases hz with ⟨hz, a, b, hTO⟩ | ⟨T, f, oT, hz, hT, r1, r2, r3, r4⟩
        · exact pyNext_zipT_end hA D hz hTI hTO h1 h2 hl1 hl2 hend fun h' hk => hQ h' s₁.toks fun c o hc e => hk c o (fun x => hc (by simp [x])) (fun x => hc (by simp [x])) (fun x => hc (by simp [x])) (fun x => hc (by simp [x])) e
        · exact zd_stop hA D hz hT hTI h1 h2 hl1 hl2 hend fun h' hk => hQ h' s₁.toks fun c o hc e => hk c o (fun x => hc (by simp [x])) (fun x => hc (by simp [x])) (fun x => hc (by simp [x])) e }
end
end ZD
def tDictZip (K : PySem.W.Frag) (ta : TA) : TE := fun σ H Q => ta σ H fun vs H1 => ∃ (a b : Addr) (ks : List Str) (xs : List V), vs = [.ref a, .ref b] ∧ SqT K H1 a (ks.map V.str) ∧ SqT K H1 b xs ∧ ks.length = xs.length ∧
  NewO H1 (.dK (mergeK [] ((ks.map Sum.inr).zip xs))) fun p H' => Q (.ref p) H'
theorem zip_vals {prog : Program} {w : World} : ∀ {ks : List Str} {xs : List V} {us vs : List Value}, Vals (ks.map V.str) us → Vals xs vs → ks.length = xs.length → ∃ prs : List (Key × Value), KV ((ks.map Sum.inr).zip xs) prs ∧ prs.length = ks.length ∧ ∀ (i : Nat) (k v : Value), us[i]? = some k → vs[i]? = some v → ∃ q, prs[i]? = some (q, v) ∧ (mixKind prog w).is q k = true
  | [], [], _, _, .nil, .nil, _ => ⟨[], .nil, rfl, fun i k v h => by simp at h⟩
  | k :: ks, x :: xs, u :: us, v :: vs, .cons ru r1, .cons rv r2, hl => by
    obtain ⟨prs, h1, h2, h3⟩ := zip_vals (prog := prog) (w := w) r1 r2 (Nat.succ.inj hl)
    refine ⟨(Sum.inr k, v) :: prs, .cons ⟨rfl, rv⟩ h1, congrArg (· + 1) h2, fun i a b ha hb => ?_⟩
    cases i with
    | zero =>
      cases ha
      cases hb
      obtain ⟨t, rfl⟩ := ru
      refine ⟨Sum.inr k, rfl, ?_⟩
      show keyIs (Sum.inr k) (.str k t) = true
      simp [keyIs, Value.isStrOf]
    | succ i => exact h3 i a b ha hb
theorem pe_dictZip {X : Cx} {e e2 : Expr} {ta : TA} {p p2 pos pos2 : Pos} (hc : X.calm = true) (hg1 : Gl X "dict") (hm1 : X.mg "dict" = none) (hg2 : Gl X "zip") (hm2 : X.mg "zip" = none) (ha : PA X [e, e2] ta)
    (hs : starEach [e, e2] X.env = (false, eval e X.env) :: starEach [e2] X.env := by rfl) (hpl : (backTo pos2 (starEach [e2] X.env)).any (·.1) = false := by rfl)
    (hs1 : starEach [.Call (.Name "zip" p2) [e, e2] [] pos2] X.env = (false, eval (.Call (.Name "zip" p2) [e, e2] [] pos2) X.env) :: starEach [] X.env := by rfl) :
    PE X (.Call (.Name "dict" p) [.Call (.Name "zip" p2) [e, e2] [] pos2] [] pos) (tDictZip X.K ta) := by
  refine ⟨fun pins s σ H Q I h => ?_⟩
  refine wpAny_Call_Name_kw (ld_blt I hg1 hm1 PyProof.Rows.boot_dict ?_)
  refine PyProof.Rows.callWith_type1 ?_ hs1 (by rfl)
  rw [hs1]
  refine Calls.spliced_cons ?_
  refine wpAny_Call_Name_kw (ld_blt I hg2 hm2 PyProof.Rows.boot_zip ?_)
  refine PyProof.Rows.callWith_type1 (thn (ha.run pos2 pins s σ H _ I h) fun us s1 hh => ?_) hs hpl
  obtain ⟨vs, H1, I1, r1, a, b, ks, xs, rfl, hqx, hqy, hl, q⟩ := hh
  cases r1 with
  | cons ra rr =>
    cases rr with
    | cons rb rr =>
      cases rr
      cases ra
      cases rb
      obtain ⟨its, rv, p1, z1⟩ := I1.tuple hqx
      obtain ⟨its2, rv2, p3, z2⟩ := I1.tuple hqy
      refine RZ.call_zipT (show s1.heap.IsTuple a its.toArray from p1) (show s1.heap.IsTuple b its2.toArray from p3) fun h' hz hTI hTO h1 h2 hsz hk => ?_
      have I2 : Inv X pins σ H1 { s1 with heap := h' } := I1.kept (t' := s1.toks) hk
      refine Calls.spliced_nil ?_
      obtain ⟨o1, ho1, _⟩ := id p1
      obtain ⟨o2, ho2, _⟩ := id p3
      obtain ⟨prs, kv, pl, ph⟩ := zip_vals (prog := X.prog) (w := X.w) rv rv2 hl
      have l1 : its.length = ks.length := by rw [← rv.length, List.length_map]
      have l2 : its2.length = ks.length := by rw [← rv2.length, hl]
      have hmin : min its.toArray.size its2.toArray.size = ks.length := by rw [List.size_toArray, List.size_toArray, l1, l2, Nat.min_self]
      have P := ZD.zd_arg (prog := X.prog) (w := X.w) (s1.heap.objs.size + 4) (s1.heap.objs.size + 2) (s1.heap.objs.size + 3) s1.heap.objs.size (s1.heap.objs.size + 1) a b (PySem.W.ktu_apart s1.heap.objs.size a b (Heap.lt_size ho1) (Heap.lt_size ho2)) its.toArray its2.toArray
      refine PySem.call_dict_pairs (knd := mixKind X.prog X.w) (kvs := prs) P (I2.ok.hd hc) ⟨hz, hTI, ⟨_, _, hTO⟩, h1, h2, Heap.IsTuple.at (show s1.heap.IsTuple a its.toArray from p1) fun o e => hk _ o e, Heap.IsTuple.at (show s1.heap.IsTuple b its2.toArray from p3) fun o e => hk _ o e⟩ ⟨by rw [hmin, pl], fun i key v hr => ph i key v (by simpa using hr.1) (by simpa using hr.2)⟩ (by rw [hmin, ← List.length_map (f := V.str)]; exact z1) fun h2' tk hd' k => ?_
      have hle : s1.heap.objs.size ≤ h'.objs.size := by rw [hsz]; omega
      have k' : ∀ c o, s1.heap.get? c = some o → h2'.get? c = some o := fun c o e => k c o (fun z => by
        have := Heap.lt_size e
        simp only [List.mem_cons, List.not_mem_nil, or_false] at z
        rcases z with rfl | rfl | rfl | rfl
        · exact Nat.not_lt_of_le (Nat.le_add_right _ _) this
        · exact Nat.not_lt_of_le (Nat.le_add_right _ _) this
        · exact Nat.lt_irrefl _ this
        · exact Nat.not_lt_of_le (Nat.le_add_right _ _) this) (hk c o e)
      have hm : (h'.objs.size == sysModules) = false := beq_eq_false_iff_ne.mpr (Nat.ne_of_gt (Nat.lt_of_lt_of_le I1.big hle))
      have hlen : (mergeK [] ((ks.map Sum.inr).zip xs)).length ≤ sizeLine := by
        refine Nat.le_trans (length_mergeK _ []) ?_
        rw [List.length_map] at z1
        rw [List.length_nil, Nat.zero_add, List.length_zip, List.length_map]
        omega
      exact ⟨.ref h'.objs.size, upd H1 h'.objs.size (.dK (mergeK [] ((ks.map Sum.inr).zip xs))), I1.laid (t' := tk) k' hle (show ObjOk X.prog X.w _ _ _ (.dK (mergeK [] ((ks.map Sum.inr).zip xs))) from ⟨hlen, hm, merged [] prs, KV.merge kv .nil, hd'⟩), rfl, q.raw _ (I1.hok.fresh hle)⟩
/-! ### f(*t) -/
def tStar1 (K : PySem.W.Frag) (sp : Sp) (E : XK) (te : TE) : TE := fun σ H Q => te σ H fun y H1 => ∃ a xs, y = V.ref a ∧ (SqT K H1 a xs ∨ SqL K H1 a xs) ∧ sp xs H1 Q E
theorem pe_star1 {X : Cx} {K : PySem.W.Frag} {CX : CXT} {k : Nat} {f : Addr} {sp : Sp} {E : XK} {x : Str} {e : Expr} {te : TE} {p sp_ pos : Pos} (hK : X.K = K) (F : FnR X.prog X.w X.K X.mg X.base CX k f sp) (hr : Room k X.A) (hk : PySem.W.keepIn X.K (.ref f) = true) (hg : Gl X x) (hm : X.mg x = some (.ref f)) (hx : Passes CX X E) (he : PE X e te)
    (hd : (x == ("__debug__" : Str)) = false := by decide) (hst : starEach [.Starred e sp_] X.env = [(true, eval e X.env)] := by rfl) :
    PE X (.Call (.Name x p) [.Starred e sp_] [] pos) (tStar1 K sp E te) := hK ▸ StX.pe_callS1 F hr hk hg hm hx he hd hst
theorem kkMtR {X : Cx} {K : PySem.W.Frag} {i : String} {r : PySem.W.Frag → V → List V → Hp → VK → Prop} (h : X.K = K) (c : MtR X i (r X.K)) : MtR X i (r K) := h ▸ c
theorem kkTupI {X : Cx} {K : PySem.W.Frag} {tg l : Expr} {tl : TE} (h : X.K = K) (hl : PE X l tl) : PI X tg l (iTup K tl) := h ▸ pi_tup hl
theorem kkListI {X : Cx} {K : PySem.W.Frag} {tg l : Expr} {tl : TE} (h : X.K = K) (hl : PE X l tl) : PI X tg l (iList K tl) := h ▸ pi_list hl
/-! ### rules that the library has not: t.index(text), t += u, a sign times n, methods that may raise -/
def rTIndexS (K : PySem.W.Frag) : V → List V → Hp → VK → Prop := fun x xs H Q => ∃ (a : Addr) (ys : List Str) (k : Str), x = V.ref a ∧ xs = [.str k] ∧ SqT K H a (ys.map V.str) ∧ k ∈ ys ∧ Q (.int (ys.idxOf k : Nat)) H
theorem mt_tindexS {X : Cx} : MtR X "tuple.index" (rTIndexS X.K) := by
  intro pins s σ H x xs v us Q I rx rxs h
  obtain ⟨a, ys, k, rfl, rfl, hs, hk, q⟩ := h
  cases rx
  obtain ⟨u, rfl, ru⟩ := rxs.one
  obtain ⟨t, rfl⟩ := ru
  obtain ⟨its, rv, hl, _⟩ := I.tuple hs
  exact SeqAt.tuple_index_strs hl (strs_of_vals rv) hk ⟨.int _, H, I.tok _, ⟨_, rfl⟩, q⟩
def rLIndexS (K : PySem.W.Frag) : V → List V → Hp → VK → Prop := fun x xs H Q => ∃ (a : Addr) (ys : List Str) (k : Str), x = V.ref a ∧ xs = [.str k] ∧ SqL K H a (ys.map V.str) ∧ k ∈ ys ∧ Q (.int (ys.idxOf k : Nat)) H
theorem mt_lindexS {X : Cx} : MtR X "list.index" (rLIndexS X.K) := by
  intro pins s σ H x xs v us Q I rx rxs h
  obtain ⟨a, ys, k, rfl, rfl, hs, hk, q⟩ := h
  cases rx
  obtain ⟨u, rfl, ru⟩ := rxs.one
  obtain ⟨t, rfl⟩ := ru
  obtain ⟨its, rv, hl, hz⟩ := I.list hs
  have hz' : ys.length ≤ sizeLine := by rw [List.length_map] at hz; exact hz
  exact SeqAt.list_index_strs hl.isList (strs_of_vals rv) hz' hk ⟨.int _, H, I.tok _, ⟨_, rfl⟩, q⟩
theorem noI_tuple_add : typeLookup (.type "tuple") (dunderI "add") = pure none := by rw [typeLookup_type, builtinLookup_eq_fast]; kernel_rfl
open PyProof.Rows in
theorem icat_tup {prog : Program} {w : World} {A : Around} {E : Value → Shared → Prop} {s : Shared} {t b : Addr} {vs ws : List Value} {Q : Value → Shared → Prop} (ht : PyProof.Rows.IsTup s.heap t vs.toArray) (hb : PyProof.Rows.IsTup s.heap b ws.toArray) (hv : vs ≠ [])
    (hw : ws ≠ []) (h2 : Q (.ref s.heap.objs.size) { s with heap := s.heap.push { cls := .type "tuple", data := .seq (vs ++ ws).toArray } })
    (hsz : vs.length + ws.length ≤ sizeLine) : wpAny (model prog w) A (inplaceOp .Add (.ref t) (.ref b)) Q E s := by
  obtain ⟨⟨cls, dd, data, sl⟩, ho, hc, n, hd⟩ := id ht
  obtain ⟨⟨cls2, dd2, data2, sl2⟩, ho2, hc2, n2, hd2⟩ := id hb
  simp only at hc hd hc2 hd2
  subst hc hd hc2 hd2
  have e : vs.toArray ++ ws.toArray = (vs ++ ws).toArray := by simp
  refine wpAny_inplaceOp_concat ⟨_, ho, rfl⟩ ⟨_, ho2, rfl⟩ noI_tuple_add noFill_tuple_add seq_tuple_add (call_meets PySem.F.slot_tuple_add ⟨_, ho, rfl⟩ PySem.F.entry_tuple_add (PySem.F.args_tuple_add_2 _ _)
    (tuple_addW2 t b vs.toArray ws.toArray n n2 dd dd2 sl sl2 (by simpa using hv) (by simpa using hw) (by rw [List.size_toArray, List.size_toArray]; exact hsz)) ⟨ho, ho2, ?_⟩)
  rw [e]
  exact h2
def rICatT (K : PySem.W.Frag) : R2 := fun x y H Q => ∃ a b xs ys, x = V.ref a ∧ y = V.ref b ∧ SqT K H a xs ∧ SqT K H b ys ∧ xs ≠ [] ∧ ys ≠ [] ∧ xs.length + ys.length ≤ sizeLine ∧ NewO H (.tup (xs ++ ys)) fun p H' => Q (.ref p) H'
theorem o_icatT {X : Cx} : PIp X .Add (rICatT X.K) := by
  intro pins s σ H x y v u Q I rx ry h
  obtain ⟨a, b, xs, ys, rfl, rfl, ha, hb, hx, hy, hz, q⟩ := h
  cases rx
  cases ry
  obtain ⟨its, r1, p1, _⟩ := I.tuple ha
  obtain ⟨its2, r2, p2, _⟩ := I.tuple hb
  refine icat_tup p1 p2 (fun z => hx (r1.nil_iff.mp z)) (fun z => hy (r2.nil_iff.mp z)) ?_ (by rw [← r1.length, ← r2.length]; exact hz)
  refine ⟨.ref s.heap.objs.size, _, I.laid (t' := s.toks) (o := .tup (xs ++ ys)) (fun b ob q => Heap.get?_push_of_some _ q) (Nat.le_refl _) ?_, rfl, q.raw _ (I.hok.fresh (Nat.le_refl _))⟩
  exact ⟨by rw [List.length_append]; exact hz, _, r1.append r2, PyProof.Rows.IsTup.new _ _⟩
theorem g_icatT {K : PySem.W.Frag} {H : Hp} {Q : VK} {a b : Addr} {xs ys : List V} (h1 : SqT K H a xs) (h2 : SqT K H b ys) (n1 : xs ≠ []) (n2 : ys ≠ []) (z : xs.length + ys.length ≤ sizeLine) (h : NewO H (.tup (xs ++ ys)) fun p H' => Q (.ref p) H') : rICatT K (.ref a) (.ref b) H Q :=
  ⟨a, b, xs, ys, rfl, rfl, h1, h2, n1, n2, z, h⟩
/-- a sign times n -/
def rMulSign : R2 := fun x y H Q => ∃ (c : Nat) (n : Int), x = .str ⟨#[c]⟩ ∧ y = .int n ∧ 0 ≤ n ∧ n ≤ 1000 ∧ Q (.str ⟨(List.replicate n.toNat c).toArray⟩) H
theorem foldl_sign (c : Nat) : ∀ (m : Nat) (l : Array Nat), (List.replicate m (#[c] : Array Nat)).foldl (· ++ ·) l = l ++ (List.replicate m c).toArray
  | 0, l => by simp
  | m + 1, l => by
    rw [List.replicate_succ, List.foldl_cons, foldl_sign c m, List.replicate_succ]
    apply Array.toList_inj.mp
    simp
theorem op_mulSign {X : Cx} : OpR X (binaryOp .Mult) rMulSign := by
  intro pins s σ H x y v u Q I rx ry h
  obtain ⟨c, n, rfl, rfl, h0, h1, q⟩ := h
  obtain ⟨t, rfl⟩ := rx
  obtain ⟨t', rfl⟩ := ry
  have hl : Str.length (⟨#[c]⟩ : Str) = 1 := rfl
  refine PySem.P.mul_str ?_ (fun a b => ?_) (fun a b => ?_) ?_
  · rw [decide_eq_false (by omega), decide_eq_false (by omega)]; rfl
  · rw [hl]
    have : (1 : Int) ≤ (2 ^ 63 - 1) / n := by
      rw [Int.le_ediv_iff_mul_le (by omega)]
      omega
    omega
  · rw [hl, Nat.one_mul]
    exact decide_eq_false (by rw [show ¬ (n.toNat > sizeLine) ↔ n.toNat ≤ sizeLine from Nat.not_lt, sizeLine_eq]; omega)
  · by_cases c1 : n < 1
    · rw [if_pos c1]
      have : n = 0 := by omega
      subst this
      exact ⟨by decide, .str _, H, I.tok _, ⟨_, rfl⟩, q⟩
    · rw [if_neg c1]
      by_cases c2 : n = 1
      · subst c2
        exact ⟨.str _, H, I, ⟨_, rfl⟩, q⟩
      · rw [if_neg (by rw [hl]; simp; exact c2)]
        have e : (List.replicate n.toNat (#[c] : Array Nat)).foldl (· ++ ·) #[] = (List.replicate n.toNat c).toArray := by rw [foldl_sign]; simp
        show (Made.str ⟨(List.replicate n.toNat (#[c] : Array Nat)).foldl (· ++ ·) #[]⟩).post _ _
        rw [e]
        exact ⟨by rw [sizeLine_eq]; simp [Str.length]; omega, .str _, H, I.tok _, ⟨_, rfl⟩, q⟩
theorem g_mulSign {H : Hp} {Q : VK} {c : Nat} {n : Int} (h0 : 0 ≤ n) (h1 : n ≤ 1000) (h : Q (.str ⟨(List.replicate n.toNat c).toArray⟩) H) : rMulSign (.str ⟨#[c]⟩) (.int n) H Q := ⟨c, n, rfl, rfl, h0, h1, h⟩
/-! a method that may raise -/
section
variable {X : Cx} {CX : CXT} {k : Nat} {f C : Addr} {fd : FuncData} {ps : List Str} {sp : Sp} {E : L2.St → XK} {m : Str} {pos apos : Pos} {e o : Expr} {es : List Expr} {ta : TE} {t : TA}
def tMethS (C : Addr) (m : Str) (sp : Sp) (E : L2.St → XK) (ta : TE) (t : TA) : TE := fun σ H Q => ta σ H fun x H1 => ∃ a dx fs, x = .ref a ∧ H1 a = some (.ins C dx fs) ∧ fs.lookup m = none ∧ t σ H1 fun vs H2 => sp (x :: vs) H2 Q (E σ)
theorem pe_methE {pl : Sem Bool} (he : PE X o ta) (c : Cls X.K C) (hm : Meth X.K C m f) (F : FnOk X.prog X.w X.K X.mg X.base CX k f fd ps sp) (hr : Room k X.A) (hb : Binds X.K fd ps []) (hx : ∀ σ, PassesAt CX X σ (E σ)) (ha : PA X (e :: es) t)
    (hst : starEach (e :: es) X.env = (false, eval e X.env) :: starEach es X.env := by rfl) (hpl : (backTo pos (starEach es X.env)).any (·.1) = false := by rfl)
    (ht : eval (.Call (.Attribute o m apos) (e :: es) [] pos) X.env = (do
      let ov ← eval o X.env
      standAt apos.atName
      let (f, first) ← holding [ov] (getMethod ov m pl)
      callWith pos f first (backTo pos (starEach (e :: es) X.env)) (backToKw pos (keywordEach [] X.env))) := by rfl) :
    PE X (.Call (.Attribute o m apos) (e :: es) [] pos) (tMethS C m sp E ta t) := by
  refine ⟨fun pins s σ H Q I h => ?_⟩
  refine PySem.W.methodCall_KW (pl := pl) (thn (he.run pins s σ H _ I h) fun u s1 ⟨x, H1, I1, rx, a, dx, fs, ex, ea, l, q⟩ => ?_) ht
  subst ex
  obtain rfl : u = Value.ref a := rx
  refine getmeth_ok I1 ea c hm l ?_
  refine PySem.W.callWith_K (first := [.ref a]) (h₀ := X.base) I.ok.mod.kin hm.kp (thn (ha.run pos pins s1 σ H1 _ I1 q) fun us s2 ⟨vs, H2, I2, r, q2⟩ => ⟨I2.kIn, ?_⟩) hst hpl
  exact run_fnS (us := .ref a :: us) (vs := .ref a :: vs) F hr hb (hx σ) I2 (.cons rfl r) q2
theorem pe_meth0E {pl : Sem Bool} (he : PE X o ta) (c : Cls X.K C) (hm : Meth X.K C m f) (F : FnOk X.prog X.w X.K X.mg X.base CX k f fd ps sp) (hr : Room k X.A) (hb : Binds X.K fd ps []) (hx : ∀ σ, PassesAt CX X σ (E σ))
    (ht : eval (.Call (.Attribute o m apos) [] [] pos) X.env = (do
      let ov ← eval o X.env
      standAt apos.atName
      let (f, first) ← holding [ov] (getMethod ov m pl)
      callWith pos f first (backTo pos (starEach [] X.env)) (backToKw pos (keywordEach [] X.env))) := by rfl) :
    PE X (.Call (.Attribute o m apos) [] [] pos) (tMethS C m sp E ta tNil) := by
  refine ⟨fun pins s σ H Q I h => ?_⟩
  refine PySem.W.methodCall_KW (pl := pl) (thn (he.run pins s σ H _ I h) fun u s1 ⟨x, H1, I1, rx, a, dx, fs, ex, ea, l, q⟩ => ?_) ht
  subst ex
  obtain rfl : u = Value.ref a := rx
  refine getmeth_ok I1 ea c hm l ?_
  exact PySem.W.callWith_K0 (first := [.ref a]) I1.kIn hm.kp (run_fnS (us := [.ref a]) (vs := [.ref a]) F hr hb (hx σ) I1 (.cons rfl .nil) q)
end
section
variable {K : PySem.W.Frag} {σ : L2.St} {H : Hp} {Q : VK} {ta : TE} {t : TA}
theorem g_methS {C : Addr} {m : Str} {sp : Sp} {E : L2.St → XK} (h : ta σ H fun x H1 => ∃ a dx fs, x = .ref a ∧ H1 a = some (.ins C dx fs) ∧ fs.lookup m = none ∧ t σ H1 fun vs H2 => sp (x :: vs) H2 Q (E σ)) : tMethS C m sp E ta t σ H Q := h
end
theorem g_callS {sp : Sp} {E : L2.St → XK} {t : TA} {σ : L2.St} {H : Hp} {Q : VK} (h : t σ H fun vs H1 => sp vs H1 Q (E σ)) : tCallS sp E t σ H Q := h
/-! ### lists of values and what they hold -/
def LR {α : Type} (R : Hp → V → α → Prop) (H : Hp) : List V → List α → Prop
  | [], [] => True
  | x :: xs, a :: l => R H x a ∧ LR R H xs l
  | _, _ => False
section
variable {α : Type} {R : Hp → V → α → Prop} {H H' : Hp}
theorem LR.get : ∀ {xs : List V} {l : List α} {i : Nat} {x : V}, LR R H xs l → xs[i]? = some x → ∃ a, l[i]? = some a ∧ R H x a
  | _ :: _, a :: _, 0, _, ⟨h, _⟩, q => ⟨a, rfl, by cases q; exact h⟩
  | _ :: _, _ :: _, i + 1, _, ⟨_, h⟩, q => LR.get (i := i) h q
  | [], [], _, _, _, q => by simp at q
  | [], _ :: _, _, _, h, _ => h.elim
  | _ :: _, [], _, _, h, _ => h.elim
theorem LR.len : ∀ {xs : List V} {l : List α}, LR R H xs l → xs.length = l.length
  | [], [], _ => rfl
  | _ :: _, _ :: _, ⟨_, h⟩ => congrArg (· + 1) (LR.len h)
  | [], _ :: _, h => h.elim
  | _ :: _, [], h => h.elim
theorem LR.imp {R' : Hp → V → α → Prop} (f : ∀ x a, R H x a → R' H' x a) : ∀ {xs : List V} {l : List α}, LR R H xs l → LR R' H' xs l
  | [], [], _ => trivial
  | _ :: _, _ :: _, ⟨h1, h⟩ => ⟨f _ _ h1, LR.imp f h⟩
  | [], _ :: _, h => h.elim
  | _ :: _, [], h => h.elim
theorem LR.app : ∀ {xs ys : List V} {l m : List α}, LR R H xs l → LR R H ys m → LR R H (xs ++ ys) (l ++ m)
  | [], _, [], _, _, h => h
  | _ :: _, _, _ :: _, _, ⟨h1, h⟩, h2 => ⟨h1, LR.app h h2⟩
  | [], _, _ :: _, _, h, _ => h.elim
  | _ :: _, _, [], _, h, _ => h.elim
theorem LR.one {x : V} {a : α} (h : R H x a) : LR R H [x] [a] := ⟨h, trivial⟩
theorem LR.snoc {x : V} {a : α} {xs : List V} {l : List α} (h : LR R H xs l) (h1 : R H x a) : LR R H (xs ++ [x]) (l ++ [a]) := h.app (LR.one h1)
theorem LR.rev : ∀ {xs : List V} {l : List α}, LR R H xs l → LR R H xs.reverse l.reverse
  | [], [], _ => trivial
  | x :: xs, a :: l, ⟨h1, h⟩ => by rw [List.reverse_cons, List.reverse_cons]; exact LR.snoc (LR.rev h) h1
  | [], _ :: _, h => h.elim
  | _ :: _, [], h => h.elim
theorem LR.take : ∀ {xs : List V} {l : List α} (n : Nat), LR R H xs l → LR R H (xs.take n) (l.take n)
  | [], [], n, _ => by rw [List.take_nil, List.take_nil]; trivial
  | _ :: _, _ :: _, 0, _ => trivial
  | _ :: _, _ :: _, n + 1, ⟨h1, h⟩ => ⟨h1, LR.take n h⟩
  | [], _ :: _, _, h => h.elim
  | _ :: _, [], _, h => h.elim
theorem LR.drop : ∀ {xs : List V} {l : List α} (n : Nat), LR R H xs l → LR R H (xs.drop n) (l.drop n)
  | [], [], n, _ => by rw [List.drop_nil, List.drop_nil]; trivial
  | _ :: _, _ :: _, 0, h => h
  | _ :: _, _ :: _, n + 1, ⟨_, h⟩ => LR.drop n h
  | [], _ :: _, _, h => h.elim
  | _ :: _, [], _, h => h.elim
end
theorem lr_map {α β : Type} {R : Hp → V → α → Prop} {R' : Hp → V → β → Prop} {H H' : Hp} {f : α → β} : ∀ {xs : List V} {l : List α}, (∀ x a, a ∈ l → R H x a → R' H' x (f a)) → LR R H xs l → LR R' H' xs (l.map f)
  | [], [], _, _ => trivial
  | _ :: _, a :: l, h, ⟨h1, h2⟩ => ⟨h _ a List.mem_cons_self h1, lr_map (fun x b hb => h x b (List.mem_cons_of_mem _ hb)) h2⟩
  | [], _ :: _, _, h => h.elim
  | _ :: _, [], _, h => h.elim
/-! ### sums of octets -/
def sumI (ns : List Int) : Nat → Int
  | 0 => 0
  | i + 1 => let t := sumI ns i + ((ns[2 * i]?).getD 0 * 256 + (ns[2 * i + 1]?).getD 0); if t ≥ 65536 then t - 65536 + 1 else t
def sm (ns : List Int) : Int := 65535 - sumI ns ((ns.length + 1) / 2)
theorem rg2 {n : Nat} (h : n < 128) : RgC 0 (n : Int) 2 ((n + 1) / 2) := by
  have all : ∀ m : Fin 128, ((2 : Int) ≠ 0 ∧ (2 : Int).natAbs < 1073741824 ∧ Builtin.Range.small 0 ((m.val : Nat) : Int) 2 = true ∧ Builtin.Range.rangeSize 0 ((m.val : Nat) : Int) 2 = (((m.val + 1) / 2 : Nat))) := by decide +kernel
  exact all ⟨n, h⟩
theorem at_int {ns : List Int} {j : Int} (h0 : 0 ≤ j) (h1 : j < ns.length) : atI (ns.map V.int) j = some (.int ((ns[j.toNat]?).getD 0)) := by
  refine ix_at h0 ?_
  rw [List.getElem?_map, List.getElem?_eq_getElem (show j.toNat < ns.length by omega)]
  rfl
/-! ### octets: what they compute -/
def num (ns : List Int) : Int := ns.foldl (fun f o => f * 256 + o) 0
def nearestI (w k s : Int) : Int := k + (w - k) % s - (if (w - k) % s ≥ s / 2 then s else 0)
abbrev TI (K : PySem.W.Frag) (H : Hp) (a : Addr) (ns : List Int) : Prop := SqT K H a (ns.map V.int)
def spTwo (K : PySem.W.Frag) : Sp := fun vs H Q _ => ∃ n, vs = [.int n] ∧ ∀ c H', Ext [] H H' → SqT K H' c [.int (n / 256), .int (n % 256)] → Q (.ref c) H'
def spFour (K : PySem.W.Frag) : Sp := fun vs H Q _ => ∃ n, vs = [.int n] ∧ ∀ c H', Ext [] H H' → SqT K H' c [.int (n / 65536 / 256), .int (n / 65536 % 256), .int (n % 65536 / 256), .int (n % 65536 % 256)] → Q (.ref c) H'
def spNum (K : PySem.W.Frag) : Sp := fun vs H Q _ => ∃ (a : Addr) (xs : List V) (ns : List Int), vs = [.ref a] ∧ SqT K H a xs ∧ xs = ns.map V.int ∧ Q (.int (num ns)) H
def spNearest : Sp := fun vs H Q _ => ∃ w k s, vs = [.int w, .int k, .int s] ∧ 0 < s ∧ s < 2 ^ 64 ∧ Q (.int (nearestI w k s)) H
section
variable {K : PySem.W.Frag} {H : Hp} {Q : VK} {E : XK}
theorem g_two {n : Int} (h : ∀ c H', Ext [] H H' → SqT K H' c [.int (n / 256), .int (n % 256)] → Q (.ref c) H') : spTwo K ([.int n] ++ []) H Q E := ⟨n, rfl, h⟩
theorem g_four {n : Int} (h : ∀ c H', Ext [] H H' → SqT K H' c [.int (n / 65536 / 256), .int (n / 65536 % 256), .int (n % 65536 / 256), .int (n % 65536 % 256)] → Q (.ref c) H') : spFour K ([.int n] ++ []) H Q E := ⟨n, rfl, h⟩
theorem g_nearest {w k s : Int} (h0 : 0 < s) (h1 : s < 2 ^ 64) (h : Q (.int (nearestI w k s)) H) : spNearest ([.int w, .int k, .int s] ++ []) H Q E := ⟨w, k, s, rfl, h0, h1, h⟩
end
local macro_rules | `(tactic| walk_at "eo step") => `(tactic| first
  | ((with_reducible refine g_two ?_); intro _ _ _ _)
  | ((with_reducible refine g_four ?_); intro _ _ _ _)
  | ((with_reducible apply g_nearest); (walk_at "eo arith"); (walk_at "eo arith")))
/-! ### octets of packets, plainly -/
def psum (ns : List Int) : Nat → Int
  | 0 => 0
  | i + 1 => psum ns i + ((ns[2 * i]?).getD 0 * 256 + (ns[2 * i + 1]?).getD 0)
theorem sumI_mod (ns : List Int) : ∀ i, ∃ k : Int, psum ns i = sumI ns i + 65535 * k
  | 0 => ⟨0, rfl⟩
  | i + 1 => by
    obtain ⟨k, h⟩ := sumI_mod ns i
    unfold psum sumI
    dsimp only
    split
    · exact ⟨k + 1, by omega⟩
    · exact ⟨k, by omega⟩
theorem set_get (ns : List Int) (p q : Nat) (v : Int) (hp : p < ns.length) : ((ns.set p v)[q]?).getD 0 = if p = q then v else (ns[q]?).getD 0 := by
  rw [List.getElem?_set]
  by_cases c : p = q
  · rw [if_pos c, if_pos c, if_pos (c ▸ hp)]; rfl
  · rw [if_neg c, if_neg c]
theorem psum_set (ns : List Int) (p : Nat) (v : Int) (hp : p < ns.length) : ∀ i, psum (ns.set p v) i = psum ns i + (if p / 2 < i then (v - (ns[p]?).getD 0) * (if p % 2 = 0 then 256 else 1) else 0)
  | 0 => by simp [psum]
  | i + 1 => by
    unfold psum
    rw [psum_set ns p v hp i, set_get ns p _ v hp, set_get ns p _ v hp]
    by_cases c : p = 2 * i
    · subst c
      rw [if_pos rfl, if_neg (by omega), if_neg (by omega), if_pos (by omega), if_pos (by omega)]
      omega
    · rw [if_neg c]
      by_cases d : p = 2 * i + 1
      · subst d
        rw [if_pos rfl, if_neg (by omega), if_pos (by omega), if_neg (by omega)]
        omega
      · rw [if_neg d]
        by_cases e : p / 2 < i
        · rw [if_pos e, if_pos (show p / 2 < i + 1 by omega)]
          omega
        · rw [if_neg e, if_neg (show ¬ p / 2 < i + 1 by omega)]
          omega
def Oct (ns : List Int) : Prop := ∀ x ∈ ns, 0 ≤ x ∧ x ≤ 255
theorem Oct.get {ns : List Int} (h : Oct ns) (i : Nat) : 0 ≤ (ns[i]?).getD 0 ∧ (ns[i]?).getD 0 ≤ 255 := by
  cases e : ns[i]? with
  | none => exact ⟨by decide, by decide⟩
  | some x => exact h x (List.mem_of_getElem? e)
theorem sm_set {ns : List Int} {p : Nat} {v : Int} (hp : p < ns.length) (ho : Oct ns) (v0 : 0 ≤ v) (v1 : v ≤ 255) (ne : v ≠ (ns[p]?).getD 0) : sm (ns.set p v) ≠ sm ns := by
  unfold sm
  rw [List.length_set]
  obtain ⟨k1, h1⟩ := sumI_mod ns ((ns.length + 1) / 2)
  obtain ⟨k2, h2⟩ := sumI_mod (ns.set p v) ((ns.length + 1) / 2)
  rw [psum_set ns p v hp, if_pos (by omega)] at h2
  have g := ho.get p
  generalize (ns[p]?).getD 0 = o at *
  intro e
  split at h2 <;> omega
theorem sumI_rng {ns : List Int} (ho : Oct ns) : ∀ i, 0 ≤ sumI ns i ∧ sumI ns i ≤ 65535
  | 0 => ⟨Int.le_refl 0, show (0 : Int) ≤ 65535 by decide⟩
  | i + 1 => by
    have h := sumI_rng ho i
    have a := ho.get (2 * i)
    have b := ho.get (2 * i + 1)
    unfold sumI
    dsimp only
    split <;> omega
theorem sm_rng {ns : List Int} (ho : Oct ns) : 0 ≤ sm ns ∧ sm ns ≤ 65535 := by
  have := sumI_rng ho ((ns.length + 1) / 2)
  unfold sm
  omega
structure Pk where
  s : Int
  g : Int
  k : Nat
  l : Int
  n : Int
  p : Int
  m : Bool
  b : List Int
structure PkOk (q : Pk) : Prop where
  s : 0 ≤ q.s ∧ q.s ≤ 255
  g : 0 ≤ q.g ∧ q.g ≤ 255
  k : q.k < 4
  l : 0 ≤ q.l ∧ q.l ≤ 255
  n : 0 ≤ q.n ∧ q.n ≤ 65535
  p : 0 ≤ q.p ∧ q.p ≤ 65535
  b : Oct q.b
  bl : q.b.length ≤ 512
def hd (p : Pk) : List Int := [p.s, p.g, p.k, p.l, p.n / 256, p.n % 256, p.p / 256, p.p % 256, (if p.m then 1 else 0), (p.b.length : Int) / 256, (p.b.length : Int) % 256]
def pkd (p : Pk) : List Int := hd p ++ ([sm (hd p) / 256, sm (hd p) % 256] ++ p.b)
def unp (ns : List Int) : Option Pk :=
  if ns.length < 13 then none
  else if num ((ns.take 13).drop 11) ≠ sm (ns.take 11) ∨ num (((ns.take 11).take 11).drop 9) ≠ ((ns.drop 13).length : Int) then none
  else if (4 : Int) ≤ ((ns.take 11)[2]?).getD 0 ∨ (1 : Int) < ((ns.take 11)[8]?).getD 0 ∨ 512 < (ns.drop 13).length then none
  else some ⟨((ns.take 11)[0]?).getD 0, ((ns.take 11)[1]?).getD 0, (((ns.take 11)[2]?).getD 0).toNat, ((ns.take 11)[3]?).getD 0, num (((ns.take 11).take 6).drop 4), num (((ns.take 11).take 8).drop 6), decide (((ns.take 11)[8]?).getD 0 = 1), ns.drop 13⟩
theorem num2 (a b : Int) : num [a, b] = a * 256 + b := by
  show (0 * 256 + a) * 256 + b = a * 256 + b
  omega
theorem hd_oct {p : Pk} (h : PkOk p) : Oct (hd p) := by
  have := h.s
  have := h.g
  have := h.k
  have := h.l
  have := h.n
  have := h.p
  have := h.bl
  intro x hx
  unfold hd at hx
  simp only [List.mem_cons, List.not_mem_nil, or_false] at hx
  rcases hx with rfl | rfl | rfl | rfl | rfl | rfl | rfl | rfl | rfl | rfl | rfl
  · omega
  · omega
  · omega
  · omega
  · omega
  · omega
  · omega
  · omega
  · split <;> decide
  · omega
  · omega
theorem pkd_len {p : Pk} : (pkd p).length = 13 + p.b.length := by
  unfold pkd hd
  simp only [List.length_append, List.length_cons, List.length_nil]
  omega
theorem pkd_oct {p : Pk} (h : PkOk p) : Oct (pkd p) := by
  have r := sm_rng (hd_oct h)
  intro x hx
  unfold pkd at hx
  rcases List.mem_append.mp hx with c | c
  · exact hd_oct h x c
  · rcases List.mem_append.mp c with c | c
    · simp only [List.mem_cons, List.not_mem_nil, or_false] at c
      rcases c with rfl | rfl
      · omega
      · omega
    · exact h.b x c
/-- what is read of a head, its sum, a body -/
theorem unp_of {h : List Int} {a b : Int} {bd : List Int} (hl : h.length = 11) : unp (h ++ ([a, b] ++ bd)) =
    if a * 256 + b ≠ sm h ∨ num (h.drop 9) ≠ (bd.length : Int) then none
    else if (4 : Int) ≤ (h[2]?).getD 0 ∨ (1 : Int) < (h[8]?).getD 0 ∨ 512 < bd.length then none
    else some ⟨(h[0]?).getD 0, (h[1]?).getD 0, ((h[2]?).getD 0).toNat, (h[3]?).getD 0, num ((h.take 6).drop 4), num ((h.take 8).drop 6), decide ((h[8]?).getD 0 = 1), bd⟩ := by
  have e1 : (h ++ ([a, b] ++ bd)).take 11 = h := by rw [List.take_append_of_le_length (by omega), List.take_of_length_le (by omega)]
  have e2 : (h ++ ([a, b] ++ bd)).drop 13 = bd := by
    rw [List.drop_append, List.drop_of_length_le (by omega), hl]
    rfl
  have e3 : ((h ++ ([a, b] ++ bd)).take 13).drop 11 = [a, b] := by
    rw [List.drop_take, List.drop_append, List.drop_of_length_le (by omega), hl]
    rfl
  have e4 : h.take 11 = h := List.take_of_length_le (by omega)
  unfold unp
  rw [e1, e2, e3, e4, num2, if_neg (by simp only [List.length_append, List.length_cons, List.length_nil]; omega)]
theorem unp_pkd {p : Pk} (h : PkOk p) : unp (pkd p) = some p := by
  have r := sm_rng (hd_oct h)
  have h1 := h.k
  have h2 := h.n
  have h3 := h.p
  have h4 := h.bl
  unfold pkd
  rw [unp_of rfl]
  rw [if_neg, if_neg]
  · obtain ⟨s, g, k, l, n, pl, m, b⟩ := p
    simp only [hd, List.getElem?_cons_zero, List.getElem?_cons_succ, Option.getD_some, List.take_succ_cons, List.take_zero, List.drop_succ_cons, List.drop_zero, num2, Int.toNat_natCast]
    congr 2
    · omega
    · omega
    · cases m <;> rfl
  · simp only [hd, List.getElem?_cons_zero, List.getElem?_cons_succ, Option.getD_some, List.drop_succ_cons, List.drop_zero]
    rintro (c | c | c)
    · omega
    · split at c <;> omega
    · omega
  · rintro (c | c)
    · omega
    · simp only [hd, List.drop_succ_cons, List.drop_zero, num2] at c
      omega
theorem unp_cut {p : Pk} (h : PkOk p) {at_ : Nat} (ha : at_ < (pkd p).length) : unp ((pkd p).take at_) = none := by
  rw [pkd_len] at ha
  have h4 := h.bl
  by_cases c : at_ < 13
  · unfold unp
    rw [if_pos (by rw [List.length_take, pkd_len]; omega)]
  · have e : (pkd p).take at_ = hd p ++ ([sm (hd p) / 256, sm (hd p) % 256] ++ p.b.take (at_ - 13)) := by
      unfold pkd
      rw [List.take_append, List.take_append, List.take_of_length_le (show (hd p).length ≤ at_ by show 11 ≤ at_; omega), List.take_of_length_le (show ([sm (hd p) / 256, sm (hd p) % 256] : List Int).length ≤ at_ - (hd p).length by show 2 ≤ at_ - 11; omega)]
      rfl
    rw [e, unp_of rfl, if_pos]
    refine .inr ?_
    simp only [hd, List.drop_succ_cons, List.drop_zero, num2, List.length_take]
    omega
theorem unp_more {p : Pk} (h : PkOk p) {x : Int} : unp (pkd p ++ [x]) = none := by
  have h4 := h.bl
  have e : pkd p ++ [x] = hd p ++ ([sm (hd p) / 256, sm (hd p) % 256] ++ (p.b ++ [x])) := by
    unfold pkd
    rw [List.append_assoc, List.append_assoc]
  rw [e, unp_of rfl, if_pos]
  refine .inr ?_
  simp only [hd, List.drop_succ_cons, List.drop_zero, num2, List.length_append, List.length_singleton]
  omega
theorem set_app_l {h t : List Int} {i : Nat} {x : Int} (hi : i < h.length) : (h ++ t).set i x = h.set i x ++ t := List.set_append_left i x hi
theorem set_app_r {h t : List Int} {i : Nat} {x : Int} (hi : h.length ≤ i) : (h ++ t).set i x = h ++ t.set (i - h.length) x := List.set_append_right i x hi
theorem unp_bent {p : Pk} (h : PkOk p) {i : Nat} {x : Int} (hi : i < (pkd p).length) (x0 : 0 ≤ x) (x1 : x ≤ 255) (ne : x ≠ ((pkd p)[i]?).getD 0) :
    unp ((pkd p).set i x) = if i < 13 then none else some { p with b := ((pkd p).set i x).drop 13 } := by
  have r := sm_rng (hd_oct h)
  by_cases c : i < 11
  · rw [if_pos (by omega)]
    have ne' : x ≠ ((hd p)[i]?).getD 0 := by
      unfold pkd at ne
      rw [List.getElem?_append_left (show i < (hd p).length from c)] at ne
      exact ne
    have q := sm_set (show i < (hd p).length from c) (hd_oct h) x0 x1 ne'
    unfold pkd
    rw [set_app_l (show i < (hd p).length from c), unp_of (by rw [List.length_set]; rfl), if_pos]
    refine .inl ?_
    omega
  · by_cases d : i < 13
    · rw [if_pos d]
      have e : (pkd p).set i x = hd p ++ ((([sm (hd p) / 256, sm (hd p) % 256] : List Int).set (i - 11) x) ++ p.b) := by
        unfold pkd
        rw [set_app_r (show (hd p).length ≤ i by show 11 ≤ i; omega)]
        show hd p ++ ([sm (hd p) / 256, sm (hd p) % 256] ++ p.b).set (i - 11) x = _
        rw [set_app_l (by show i - 11 < 2; omega)]
      have ne' : x ≠ ((([sm (hd p) / 256, sm (hd p) % 256] : List Int))[i - 11]?).getD 0 := by
        unfold pkd at ne
        rw [List.getElem?_append_right (show (hd p).length ≤ i by show 11 ≤ i; omega)] at ne
        rw [List.getElem?_append_left (show i - (hd p).length < 2 by show i - 11 < 2; omega)] at ne
        exact ne
      rw [e]
      have : i = 11 ∨ i = 12 := by omega
      rcases this with rfl | rfl
      · have ne'' : x ≠ sm (hd p) / 256 := ne'
        show unp (hd p ++ ([x, sm (hd p) % 256] ++ p.b)) = none
        rw [unp_of rfl, if_pos]
        exact .inl (by omega)
      · have ne'' : x ≠ sm (hd p) % 256 := ne'
        show unp (hd p ++ ([sm (hd p) / 256, x] ++ p.b)) = none
        rw [unp_of rfl, if_pos]
        exact .inl (by omega)
    · rw [if_neg d]
      have hl := pkd_len (p := p)
      have e : (pkd p).set i x = hd p ++ ([sm (hd p) / 256, sm (hd p) % 256] ++ p.b.set (i - 13) x) := by
        unfold pkd
        rw [set_app_r (show (hd p).length ≤ i by show 11 ≤ i; omega)]
        show hd p ++ ([sm (hd p) / 256, sm (hd p) % 256] ++ p.b).set (i - 11) x = _
        rw [set_app_r (show 2 ≤ i - 11 by omega)]
        show hd p ++ ([sm (hd p) / 256, sm (hd p) % 256] ++ p.b.set (i - 11 - 2) x) = _
        rw [show i - 11 - 2 = i - 13 by omega]
      have ok' : PkOk { p with b := p.b.set (i - 13) x } := ⟨h.s, h.g, h.k, h.l, h.n, h.p, fun y hy => by
        rcases List.mem_or_eq_of_mem_set hy with c | c
        · exact h.b y c
        · rw [c]; exact ⟨x0, x1⟩, by rw [List.length_set]; exact h.bl⟩
      have hh : hd { p with b := p.b.set (i - 13) x } = hd p := by unfold hd; rw [List.length_set]
      have u := unp_pkd ok'
      unfold pkd at u
      rw [hh] at u
      rw [e, u]
      have e2 : (hd p ++ ([sm (hd p) / 256, sm (hd p) % 256] ++ p.b.set (i - 13) x)).drop 13 = p.b.set (i - 13) x := by
        rw [List.drop_append, List.drop_of_length_le (show (hd p).length ≤ 13 by show 11 ≤ 13; decide)]
        rfl
      rw [e2]
theorem unp_ge {ns : List Int} (h : ¬ ns.length < 13) : unp ns = if num ((ns.take 13).drop 11) ≠ sm (ns.take 11) ∨ num (((ns.take 11).take 11).drop 9) ≠ ((ns.drop 13).length : Int) then none
  else if (4 : Int) ≤ ((ns.take 11)[2]?).getD 0 ∨ (1 : Int) < ((ns.take 11)[8]?).getD 0 ∨ 512 < (ns.drop 13).length then none
  else some ⟨((ns.take 11)[0]?).getD 0, ((ns.take 11)[1]?).getD 0, (((ns.take 11)[2]?).getD 0).toNat, ((ns.take 11)[3]?).getD 0, num (((ns.take 11).take 6).drop 4), num (((ns.take 11).take 8).drop 6), decide (((ns.take 11)[8]?).getD 0 = 1), ns.drop 13⟩ := by
  unfold unp
  rw [if_neg h]
/-! ### words of texts, plainly -/
def toks (l : List Nat) : List (List Nat) := (TL.spl [32] 0 [] l).filter fun w => decide (w ≠ [])
def Wd (w : List Nat) : Prop := w ≠ [] ∧ 32 ∉ w
theorem toks_nil : toks [] = [] := rfl
theorem toks_app {p r : List Nat} (h : 32 ∉ p) : toks (p ++ 32 :: r) = (if p = [] then [] else [p]) ++ toks r := by
  unfold toks
  rw [show p ++ 32 :: r = p ++ ([32] ++ r) from rfl, TL.spl_part1 h, List.nil_append, List.filter_cons]
  by_cases c : p = []
  · rw [if_pos c, c]; rfl
  · rw [if_neg c, if_pos (decide_eq_true c)]; rfl
theorem toks_last {p : List Nat} (h : 32 ∉ p) : toks p = if p = [] then [] else [p] := by
  unfold toks
  rw [TL.spl_last1 h, List.nil_append, List.filter_cons]
  by_cases c : p = []
  · rw [if_pos c, c]; rfl
  · rw [if_neg c, if_pos (decide_eq_true c)]; rfl
theorem toks_sp (r : List Nat) : toks (32 :: r) = toks r := by
  have := toks_app (p := []) (r := r) (by simp)
  rw [if_pos rfl] at this
  exact this
theorem toks_sps (r : List Nat) : ∀ k, toks (List.replicate k 32 ++ r) = toks r
  | 0 => rfl
  | k + 1 => by
    show toks (32 :: (List.replicate k 32 ++ r)) = _
    rw [toks_sp, toks_sps r k]
theorem toks_cons {w r : List Nat} (h : Wd w) : toks (w ++ 32 :: r) = w :: toks r := by
  rw [toks_app h.2, if_neg h.1]; rfl
/-- words, with one or more spaces between, some behind -/
theorem toks_join : ∀ (ws : List (List Nat)) (j k : Nat), (∀ w ∈ ws, Wd w) → toks (TL.joinL (List.replicate (j + 1) 32) ws ++ List.replicate k 32) = ws
  | [], j, k, _ => by
    have := toks_sps [] k
    rw [List.append_nil] at this
    exact this
  | [w], j, k, h => by
    have hw := h w List.mem_cons_self
    cases k with
    | zero =>
      show toks (w ++ []) = _
      rw [List.append_nil, toks_last hw.2, if_neg hw.1]
    | succ k =>
      show toks (w ++ 32 :: List.replicate k 32) = _
      rw [toks_cons hw]
      have := toks_sps [] k
      rw [List.append_nil] at this
      rw [this]
      rfl
  | w :: v :: r, j, k, h => by
    have hw := h w List.mem_cons_self
    show toks (w ++ ((32 :: List.replicate j 32) ++ TL.joinL (List.replicate (j + 1) 32) (v :: r)) ++ List.replicate k 32) = _
    rw [List.append_assoc, List.append_assoc]
    show toks (w ++ 32 :: (List.replicate j 32 ++ (TL.joinL (List.replicate (j + 1) 32) (v :: r) ++ List.replicate k 32))) = _
    rw [toks_cons hw, toks_sps, toks_join (v :: r) j k fun x hx => h x (List.mem_cons_of_mem _ hx)]
theorem toks_join1 {ws : List (List Nat)} (h : ∀ w ∈ ws, Wd w) : toks (TL.joinL [32] ws) = ws := by
  have := toks_join ws 0 0 h
  simpa using this
theorem join_snoc {S w : List Nat} : ∀ {ws : List (List Nat)}, ws ≠ [] → TL.joinL S (ws ++ [w]) = TL.joinL S ws ++ (S ++ w)
  | [], h => absurd rfl h
  | [v], _ => rfl
  | v :: u :: r, _ => by
    show v ++ (S ++ TL.joinL S ((u :: r) ++ [w])) = v ++ (S ++ TL.joinL S (u :: r)) ++ (S ++ w)
    rw [join_snoc (by simp), List.append_assoc, List.append_assoc]
theorem join_cons {S v : List Nat} {ws : List (List Nat)} (h : ws ≠ []) : TL.joinL S (v :: ws) = v ++ (S ++ TL.joinL S ws) := by
  cases ws with
  | nil => exact absurd rfl h
  | cons u r => rfl
/-! ### numbers in texts -/
def isDig (c : Nat) : Bool := decide (48 ≤ c) && decide (c ≤ 57)
def numW (w : List Nat) (most : Int) : Option Int :=
  if w = [] ∨ w.all isDig = false ∨ (1 < w.length ∧ w.head? = some 48) then none
  else if 5 < w.length ∨ ((NumText.digitsVal w : Nat) : Int) > most then none else some (NumText.digitsVal w)
theorem numL_all (n : Nat) : (TL.numL n).all isDig = true := List.all_eq_true.mpr fun c hc => by
  have := TL.numL_digits n c hc
  unfold isDig
  rw [decide_eq_true this.1, decide_eq_true this.2]; rfl
theorem numL_head : ∀ n : Nat, 0 < n → (TL.numL n).head? ≠ some 48
  | n, h => by
    by_cases c : n < 10
    · rw [TL.numL_lt c]
      intro e
      have := Option.some.inj e
      omega
    · have ih := numL_head (n / 10) (by omega)
      rw [TL.numL_step (by omega)]
      cases e : TL.numL (n / 10) with
      | nil => exact absurd e (TL.numL_ne _)
      | cons a r =>
        rw [e] at ih
        exact ih
  termination_by n => n
  decreasing_by omega
theorem numL_lead (n : Nat) : ¬ (1 < (TL.numL n).length ∧ (TL.numL n).head? = some 48) := by
  rintro ⟨h1, h2⟩
  cases n with
  | zero => rw [TL.numL_lt (by decide)] at h1; exact absurd h1 (by decide)
  | succ n => exact numL_head (n + 1) (by omega) h2
theorem numW_num {n : Nat} {most : Int} (h : (n : Int) ≤ most) (h5 : n < 100000) : numW (TL.numL n) most = some (n : Int) := by
  unfold numW
  rw [if_neg, if_neg, TL.numL_val]
  · have := TL.numL_len (k := 5) (by decide) (show n < 10 ^ 5 by omega)
    rw [TL.numL_val]
    omega
  · rintro (c | c | c)
    · exact TL.numL_ne n c
    · rw [numL_all] at c; cases c
    · exact numL_lead n c
theorem numW_none {w : List Nat} {most : Int} (h : w.all isDig = false) : numW w most = none := by
  unfold numW
  rw [if_pos (.inr (.inl h))]
theorem numW_nil {most : Int} : numW [] most = none := by
  unfold numW
  rw [if_pos (.inl rfl)]
theorem numW_zero {w : List Nat} {most : Int} (h : w ≠ []) : numW (48 :: w) most = none := by
  unfold numW
  have := List.length_pos_iff.mpr h
  rw [if_pos (.inr (.inr ⟨by rw [List.length_cons]; omega, rfl⟩))]
theorem numW_hi {n : Nat} {most : Int} (h : most < (n : Int)) : numW (TL.numL n) most = none := by
  unfold numW
  by_cases c : TL.numL n = [] ∨ (TL.numL n).all isDig = false ∨ (1 < (TL.numL n).length ∧ (TL.numL n).head? = some 48)
  · rw [if_pos c]
  · rw [if_neg c, if_pos (.inr (by rw [TL.numL_val]; exact h))]
/-! ### packets in words -/
def kW : Nat → List Nat
  | 0 => [100, 97, 116, 97]
  | 1 => [114, 111, 117, 116, 101]
  | 2 => [112, 114, 111, 98, 101]
  | _ => [116, 101, 108, 108]
def lifeW : List Nat := [108, 105, 102, 101]
def numberW : List Nat := [110, 117, 109, 98, 101, 114]
def placeW : List Nat := [112, 108, 97, 99, 101]
def moreW : List Nat := [109, 111, 114, 101]
def kindOf (w : List Nat) : Option Nat := if w = kW 0 then some 0 else if w = kW 1 then some 1 else if w = kW 2 then some 2 else if w = kW 3 then some 3 else none
def gw (ws : List (List Nat)) (i : Nat) : List Nat := (ws[i]?).getD []
def bodyL : List (List Nat) → Nat → List Int → List Int ⊕ Nat
  | [], _, acc => .inl acc
  | w :: r, i, acc => if acc.length = 512 then .inr i else match numW w 255 with
    | none => .inr i
    | some v => bodyL r (i + 1) (acc ++ [v])
def pBody (ws : List (List Nat)) (k : Nat) (s g l n p : Int) (m : Bool) (j : Nat) : Pk ⊕ Nat :=
  if gw ws j ≠ [58] then .inr j else match bodyL (ws.drop (j + 1)) (j + 1) [] with
    | .inr i => .inr i
    | .inl b => .inl ⟨s, g, k, l, n, p, m, b⟩
def pars (ws : List (List Nat)) : Pk ⊕ Nat :=
  match kindOf (gw ws 0) with
  | none => .inr 0
  | some k => match numW (gw ws 1) 255 with
    | none => .inr 1
    | some s => if gw ws 2 ≠ [62] then .inr 2 else match numW (gw ws 3) 255 with
      | none => .inr 3
      | some g => if gw ws 4 ≠ lifeW then .inr 4 else match numW (gw ws 5) 255 with
        | none => .inr 5
        | some l => if gw ws 6 ≠ numberW then .inr 6 else match numW (gw ws 7) 65535 with
          | none => .inr 7
          | some n => if gw ws 8 ≠ placeW then .inr 8 else match numW (gw ws 9) 65535 with
            | none => .inr 9
            | some p => if gw ws 10 = moreW then pBody ws k s g l n p true 11 else pBody ws k s g l n p false 10
def nw (i : Int) : List Nat := TL.numL i.toNat
def wsF (p : Pk) : List (List Nat) := [kW p.k, nw p.s, [62], nw p.g, lifeW, nw p.l, numberW, nw p.n, placeW, nw p.p]
def wsM (p : Pk) : List (List Nat) := if p.m then [moreW] else []
def wsO (p : Pk) : List (List Nat) := wsF p ++ (wsM p ++ ([58] :: p.b.map nw))
theorem kind_kW {k : Nat} (h : k < 4) : kindOf (kW k) = some k := by
  match k, h with
  | 0, _ => decide
  | 1, _ => decide
  | 2, _ => decide
  | 3, _ => decide
theorem nw_num {i most : Int} (h0 : 0 ≤ i) (h1 : i ≤ most) (h2 : i ≤ 65535) : numW (nw i) most = some i := by
  have e : ((i.toNat : Nat) : Int) = i := Int.toNat_of_nonneg h0
  have := numW_num (n := i.toNat) (most := most) (by omega) (by omega)
  rw [e] at this
  exact this
theorem bodyL_cons {w : List Nat} {r : List (List Nat)} {i : Nat} {acc : List Int} : bodyL (w :: r) i acc = if acc.length = 512 then .inr i else match numW w 255 with
    | none => .inr i
    | some v => bodyL r (i + 1) (acc ++ [v]) := rfl
theorem body_ok {r : List (List Nat)} : ∀ (b acc : List Int) (i : Nat), (∀ x ∈ b, 0 ≤ x ∧ x ≤ 255) → acc.length + b.length ≤ 512 → bodyL (b.map nw ++ r) i acc = bodyL r (i + b.length) (acc ++ b)
  | [], acc, i, _, _ => by rw [List.append_nil]; rfl
  | x :: b, acc, i, h, hl => by
    have hx := h x List.mem_cons_self
    rw [List.length_cons] at hl
    show bodyL (nw x :: (b.map nw ++ r)) i acc = _
    rw [bodyL_cons, if_neg (show ¬ acc.length = 512 by omega), nw_num hx.1 hx.2 (Int.le_trans hx.2 (by decide))]
    dsimp only
    rw [body_ok b (acc ++ [x]) (i + 1) (fun y hy => h y (List.mem_cons_of_mem _ hy)) (by rw [List.length_append, List.length_singleton]; omega), List.append_assoc, List.length_cons, show i + 1 + b.length = i + (b.length + 1) by omega]
    rfl
theorem body_bad {r : List (List Nat)} {w : List Nat} {b acc : List Int} {i : Nat} (h : ∀ x ∈ b, 0 ≤ x ∧ x ≤ 255) (hl : acc.length + b.length ≤ 512) (hw : numW w 255 = none) : bodyL (b.map nw ++ (w :: r)) i acc = .inr (i + b.length) := by
  rw [body_ok b acc i h hl, bodyL_cons]
  split
  · rfl
  · rw [hw]

theorem body_all {b : List Int} {i : Nat} (h : ∀ x ∈ b, 0 ≤ x ∧ x ≤ 255) (hl : b.length ≤ 512) : bodyL (b.map nw) i [] = .inl b := by
  have := body_ok (r := []) b [] i h (by rw [List.length_nil]; omega)
  rw [List.append_nil, List.nil_append] at this
  rw [this]
  rfl
theorem nw_dig (i : Int) : (nw i).all isDig = true := numL_all _
theorem nw_ne (i : Int) : nw i ≠ [] := TL.numL_ne _
theorem nw_free (i : Int) {c : Nat} (h : c < 48 ∨ 57 < c) : c ∉ nw i := TL.numL_free h
theorem nw_wd (i : Int) : Wd (nw i) := ⟨nw_ne i, nw_free i (by omega)⟩
theorem nw_not {i : Int} {w : List Nat} (h : w.all isDig = false) : nw i ≠ w := fun e => by
  have := nw_dig i
  rw [e, h] at this
  cases this
theorem kW_wd (k : Nat) : Wd (kW k) := by
  match k with
  | 0 => exact ⟨by decide, by decide⟩
  | 1 => exact ⟨by decide, by decide⟩
  | 2 => exact ⟨by decide, by decide⟩
  | _ + 3 => exact (show Wd (kW 3) from ⟨by decide, by decide⟩)
theorem kW_nd (k : Nat) : (kW k).all isDig = false := by
  match k with
  | 0 => decide
  | 1 => decide
  | 2 => decide
  | _ + 3 => exact (show (kW 3).all isDig = false by decide)
theorem kW_nc (k : Nat) : kW k ≠ [58] := by
  match k with
  | 0 => decide
  | 1 => decide
  | 2 => decide
  | _ + 3 => exact (show kW 3 ≠ [58] by decide)
theorem wsO_wd (p : Pk) : ∀ w ∈ wsO p, Wd w := by
  intro w hw
  unfold wsO wsF at hw
  rcases List.mem_append.mp hw with c | c
  · simp only [List.mem_cons, List.not_mem_nil, or_false] at c
    rcases c with rfl | rfl | rfl | rfl | rfl | rfl | rfl | rfl | rfl | rfl
    · exact kW_wd _
    · exact nw_wd _
    · exact ⟨by decide, by decide⟩
    · exact nw_wd _
    · exact ⟨by decide, by decide⟩
    · exact nw_wd _
    · exact ⟨by decide, by decide⟩
    · exact nw_wd _
    · exact ⟨by decide, by decide⟩
    · exact nw_wd _
  · rcases List.mem_append.mp c with c | c
    · unfold wsM at c
      split at c
      · rw [List.mem_singleton.mp c]; exact ⟨by decide, by decide⟩
      · cases c
    · rcases List.mem_cons.mp c with c | c
      · rw [c]; exact ⟨by decide, by decide⟩
      · obtain ⟨i, _, rfl⟩ := List.mem_map.mp c
        exact nw_wd i
theorem wsO_ne (p : Pk) : wsO p ≠ [] := by
  unfold wsO wsF
  simp
/-- up to the tenth word -/
theorem pars_head {p : Pk} (h : PkOk p) (r : List (List Nat)) : pars (wsF p ++ r) = if gw (wsF p ++ r) 10 = moreW then pBody (wsF p ++ r) p.k p.s p.g p.l p.n p.p true 11 else pBody (wsF p ++ r) p.k p.s p.g p.l p.n p.p false 10 := by
  unfold pars
  have e0 : gw (wsF p ++ r) 0 = kW p.k := rfl
  have e1 : gw (wsF p ++ r) 1 = nw p.s := rfl
  have e2 : gw (wsF p ++ r) 2 = [62] := rfl
  have e3 : gw (wsF p ++ r) 3 = nw p.g := rfl
  have e4 : gw (wsF p ++ r) 4 = lifeW := rfl
  have e5 : gw (wsF p ++ r) 5 = nw p.l := rfl
  have e6 : gw (wsF p ++ r) 6 = numberW := rfl
  have e7 : gw (wsF p ++ r) 7 = nw p.n := rfl
  have e8 : gw (wsF p ++ r) 8 = placeW := rfl
  have e9 : gw (wsF p ++ r) 9 = nw p.p := rfl
  rw [e0, e1, e2, e3, e4, e5, e6, e7, e8, e9, kind_kW h.k, nw_num h.s.1 h.s.2 (by have := h.s.2; omega), nw_num h.g.1 h.g.2 (by have := h.g.2; omega), nw_num h.l.1 h.l.2 (by have := h.l.2; omega), nw_num h.n.1 h.n.2 h.n.2, nw_num h.p.1 h.p.2 h.p.2]
  dsimp only
  rw [if_neg (by simp), if_neg (by simp), if_neg (by simp), if_neg (by simp)]
theorem pBody_more {p : Pk} {r : List (List Nat)} {k : Nat} {s g l n q : Int} : pBody (wsF p ++ (moreW :: [58] :: r)) k s g l n q true 11 = match bodyL r 12 [] with
    | .inr i => .inr i
    | .inl b => .inl ⟨s, g, k, l, n, q, true, b⟩ := by
  unfold pBody
  rw [if_neg (by show ¬ (([58] : List Nat) ≠ [58]); simp)]
  rfl
theorem pBody_less {p : Pk} {r : List (List Nat)} {k : Nat} {s g l n q : Int} : pBody (wsF p ++ ([58] :: r)) k s g l n q false 10 = match bodyL r 11 [] with
    | .inr i => .inr i
    | .inl b => .inl ⟨s, g, k, l, n, q, false, b⟩ := by
  unfold pBody
  rw [if_neg (by show ¬ (([58] : List Nat) ≠ [58]); simp)]
  rfl
def j0 (p : Pk) : Nat := if p.m then 11 else 10
/-- a body of any words behind a right head -/
theorem pars_body {p : Pk} (h : PkOk p) (r : List (List Nat)) : pars (wsF p ++ (wsM p ++ ([58] :: r))) = match bodyL r (j0 p + 1) [] with
    | .inr i => .inr i
    | .inl b => .inl { p with b := b } := by
  rw [pars_head h]
  obtain ⟨s, g, k, l, n, q, m, b⟩ := p
  cases m with
  | true =>
    refine (if_pos (show moreW = moreW from rfl)).trans ?_
    exact pBody_more
  | false =>
    refine (if_neg (show ¬ (([58] : List Nat) = moreW) by decide)).trans ?_
    exact pBody_less
theorem pars_ok {p : Pk} (h : PkOk p) : pars (wsO p) = .inl p := by
  unfold wsO
  rw [pars_body h, body_all h.b h.bl]
theorem j0_len (p : Pk) : (wsF p ++ wsM p).length = j0 p := by
  unfold wsM j0
  cases p.m <;> rfl
theorem wsO_len (p : Pk) : (wsO p).length = j0 p + 1 + p.b.length := by
  unfold wsO
  rw [← List.append_assoc, List.length_append, j0_len, List.length_cons, List.length_map]
  omega
theorem pars_end {p : Pk} (h : PkOk p) : pars (wsO p ++ [TL.numL 256]) = .inr (wsO p).length := by
  have e : wsO p ++ [TL.numL 256] = wsF p ++ (wsM p ++ ([58] :: (p.b.map nw ++ [TL.numL 256]))) := by
    unfold wsO
    simp only [List.append_assoc, List.cons_append]
  rw [e, pars_body h, body_bad h.b (by rw [List.length_nil]; have := h.bl; omega) (numW_hi (by decide)), wsO_len]
theorem pars_wire {w : List Nat} {r : List (List Nat)} (h : kindOf w = none) : pars (w :: r) = .inr 0 := by
  unfold pars
  rw [show gw (w :: r) 0 = w from rfl, h]
theorem spl_len : ∀ (l acc : List Nat), (TL.spl [32] 0 acc l).length ≤ l.length + 1
  | [], acc => by rw [TL.spl_nil]; exact Nat.le_refl _
  | c :: r, acc => by
    cases h : TL.pre [32] (c :: r) with
    | true =>
      rw [TL.spl_hit h]
      have := spl_len r []
      rw [List.length_cons, List.length_cons]
      exact Nat.succ_le_succ this
    | false =>
      rw [TL.spl_miss h]
      exact Nat.le_succ_of_le (spl_len r _)
theorem spl_le (l : List Nat) : (TL.spl [32] 0 [] l).length ≤ l.length + 1 := spl_len l []
theorem spl_wd : ∀ (l acc : List Nat) {w : List Nat}, w ∈ TL.spl [32] 0 acc l → w.length ≤ acc.length + l.length
  | [], acc, w, h => by
    rw [TL.spl_nil] at h
    rw [List.mem_singleton.mp h]
    exact Nat.le_add_right _ _
  | c :: r, acc, w, h => by
    cases hp : TL.pre [32] (c :: r) with
    | true =>
      rw [TL.spl_hit hp] at h
      rcases List.mem_cons.mp h with e | e
      · rw [e]; exact Nat.le_add_right _ _
      · have := spl_wd r [] (show w ∈ TL.spl [32] 0 [] r from e)
        rw [List.length_nil] at this
        rw [List.length_cons]
        omega
    | false =>
      rw [TL.spl_miss hp] at h
      have := spl_wd r (acc ++ [c]) h
      rw [List.length_append, List.length_singleton] at this
      rw [List.length_cons]
      omega
theorem spl_word {l w : List Nat} (h : w ∈ TL.spl [32] 0 [] l) : w.length ≤ l.length := by
  have := spl_wd l [] h
  rw [List.length_nil] at this
  omega
theorem toks_len {l w : List Nat} (h : w ∈ toks l) : w.length ≤ l.length := spl_word (List.mem_filter.mp h).1
theorem toks_ne {l w : List Nat} (h : w ∈ toks l) : w ≠ [] := of_decide_eq_true (List.mem_filter.mp h).2
theorem toks_many (l : List Nat) : (toks l).length ≤ l.length + 1 := Nat.le_trans (List.length_filter_le _ _) (spl_le l)
theorem sum_le {n : Nat} : ∀ {ws : List (List Nat)}, (∀ w ∈ ws, w.length ≤ n) → (ws.map List.length).sum ≤ n * ws.length
  | [], _ => Nat.zero_le _
  | w :: r, h => by
    rw [List.map_cons, List.sum_cons, List.length_cons, Nat.mul_succ]
    have := h w List.mem_cons_self
    have := sum_le (ws := r) fun v hv => h v (List.mem_cons_of_mem _ hv)
    omega
theorem nw_len {i : Int} (h : i ≤ 65535) : (nw i).length ≤ 6 := by
  have := TL.numL_len (k := 5) (by decide) (show i.toNat < 10 ^ 5 by omega)
  unfold nw
  omega
theorem wsO_small {p : Pk} (h : PkOk p) : ∀ w ∈ wsO p, w.length ≤ 6 := by
  have := h.s
  have := h.g
  have := h.l
  have := h.n
  have := h.p
  intro w hw
  unfold wsO wsF at hw
  rcases List.mem_append.mp hw with c | c
  · simp only [List.mem_cons, List.not_mem_nil, or_false] at c
    rcases c with rfl | rfl | rfl | rfl | rfl | rfl | rfl | rfl | rfl | rfl
    · match p.k, h.k with
      | 0, _ => decide
      | 1, _ => decide
      | 2, _ => decide
      | 3, _ => decide
    · exact nw_len (by omega)
    · decide
    · exact nw_len (by omega)
    · decide
    · exact nw_len (by omega)
    · decide
    · exact nw_len (by omega)
    · decide
    · exact nw_len (by omega)
  · rcases List.mem_append.mp c with c | c
    · unfold wsM at c
      split at c
      · rw [List.mem_singleton.mp c]; decide
      · cases c
    · rcases List.mem_cons.mp c with c | c
      · rw [c]; decide
      · obtain ⟨i, hi, rfl⟩ := List.mem_map.mp c
        have := h.b i hi
        exact nw_len (by omega)
theorem wsO_many {p : Pk} (h : PkOk p) : (wsO p).length ≤ 600 := by
  rw [wsO_len]
  have := h.bl
  unfold j0
  split <;> omega
/-- each with a space ahead -/
def jf (ws : List (List Nat)) : List Nat := (ws.map fun w => 32 :: w).flatten
theorem join_jf : ∀ (w : List Nat) (r : List (List Nat)), TL.joinL [32] (w :: r) = w ++ jf r
  | w, [] => by
    show w = w ++ []
    rw [List.append_nil]
  | w, v :: r => by
    show w ++ ([32] ++ TL.joinL [32] (v :: r)) = w ++ ((32 :: v) ++ jf r)
    rw [join_jf v r]
    rfl
theorem join0 : ∀ ws : List (List Nat), TL.joinL [] ws = ws.flatten
  | [] => rfl
  | [w] => by
    show w = w ++ []
    rw [List.append_nil]
  | w :: v :: r => by
    show w ++ ([] ++ TL.joinL [] (v :: r)) = w ++ (v :: r).flatten
    rw [join0 (v :: r)]
    rfl
theorem txt_eq (p : Pk) : TL.joinL [32] (wsO p) = kW p.k ++ [32] ++ nw p.s ++ [32, 62, 32] ++ nw p.g ++ (32 :: lifeW ++ [32]) ++ nw p.l ++ (32 :: numberW ++ [32]) ++ nw p.n ++ (32 :: placeW ++ [32]) ++ nw p.p ++ (if p.m = true then 32 :: moreW else []) ++ [32, 58] ++ TL.joinL [] (p.b.map fun x => 32 :: nw x) := by
  unfold wsO wsF wsM
  show TL.joinL [32] (kW p.k :: _) = _
  rw [join_jf, join0]
  cases p.m with
  | true => simp [jf, List.map_map, Function.comp_def]
  | false => simp [jf, List.map_map, Function.comp_def]
/-! ### rules, plainly -/
def fW : Nat → List Nat
  | 0 => [115, 111, 117, 114, 99, 101]
  | 1 => [103, 111, 97, 108]
  | 2 => [107, 105, 110, 100]
  | 3 => [108, 105, 102, 101]
  | 4 => [108, 101, 110, 103, 116, 104]
  | 5 => [102, 114, 111, 109]
  | _ => [116, 111]
def takeW : List Nat := [116, 97, 107, 101]
def dropW : List Nat := [100, 114, 111, 112]
def fieldsW : List (List Nat) := [fW 0, fW 1, fW 2, fW 3, fW 4, fW 5, fW 6]
def actsW : List (List Nat) := [takeW, dropW]
def signsW : List (List Nat) := [[61], [60], [62]]
def kindsW : List (List Nat) := [kW 0, kW 1, kW 2, kW 3]
def isnum (v : V) (lo hi : Int) : Bool := match v with
  | .int i => decide (lo ≤ i) && decide (i ≤ hi)
  | _ => false
def vI : V → Int
  | .int i => i
  | _ => 0
structure Tg where
  f : List Nat
  s : List Nat
  n : V
structure Rg where
  a : List Nat
  ts : List Tg
def tOk (t : Tg) : Bool := decide (t.f ∈ fieldsW) && (decide (t.s ∈ signsW) && isnum t.n 0 512)
def rOk (r : Rg) : Bool := decide (r.a ∈ actsW) && (decide (r.ts.length ≤ 4) && r.ts.all tOk)
def chk (rs : List Rg) : Bool := decide (rs.length ≤ 8) && rs.all rOk
def fv (p : Pk) (f : List Nat) : Int :=
  if f = fW 0 then p.s else if f = fW 1 then p.g else if f = fW 2 then (p.k : Int) else if f = fW 3 then p.l else if f = fW 4 then (p.b.length : Int)
  else if p.k = 0 ∧ 1 < p.b.length then (if f = fW 5 then (p.b[0]?).getD 0 else (p.b[1]?).getD 0) else 0
def hold (p : Pk) (t : Tg) : Bool := if t.s = [61] then decide (fv p t.f = vI t.n) else if t.s = [60] then decide (fv p t.f < vI t.n) else decide (vI t.n < fv p t.f)
def rHold (p : Pk) (r : Rg) : Bool := r.ts.all (hold p)
def decI (rs : List Rg) (p : Pk) : Nat := rs.findIdx (rHold p)
def decF (rs : List Rg) (p : Pk) : List Nat := match rs[decI rs p]? with
  | some r => r.a
  | none => dropW
/-- a number's word -/
def nwT (f : List Nat) (i : Int) : List Nat := if f = fW 2 ∧ i < 4 then kW i.toNat else nw i
def tW (t : Tg) : List (List Nat) := [t.f, t.s, nwT t.f (vI t.n)]
def rowW (r : Rg) : List (List Nat) := r.a :: r.ts.flatMap tW
def numIn (f w : List Nat) : Option Int :=
  if f = fW 2 ∧ w ∈ kindsW then some ((kindsW.idxOf w : Nat) : Int)
  else if w = [] ∨ 3 < w.length ∨ w.all isDig = false then none
  else if TL.numL (NumText.digitsVal w) = w then some ((NumText.digitsVal w : Nat) : Int) else none
def trip : List (List Nat) → List Tg → Option (List Tg)
  | f :: s :: w :: r, acc => if f ∈ fieldsW ∧ s ∈ signsW then (match numIn f w with
      | some n => trip r (acc ++ [⟨f, s, .int n⟩])
      | none => none) else none
  | _, acc => some acc
def ruleOf : List (List Nat) → Option Rg
  | [] => none
  | a :: ws => if a ∈ actsW ∧ ws.length % 3 = 0 then (trip ws []).map fun ts => ⟨a, ts⟩ else none
def linesT (l : List Nat) : List (List Nat) := TL.spl [10] 0 [] l
def prs : List (List Nat) → Nat → List Rg → List Rg ⊕ Nat
  | [], _, acc => .inl acc
  | w :: r, i, acc => if toks w = [] then prs r (i + 1) acc else match ruleOf (toks w) with
    | some g => prs r (i + 1) (acc ++ [g])
    | none => .inr i
/-! numbers -/
theorem isnum_int {i lo hi : Int} : isnum (.int i) lo hi = true ↔ lo ≤ i ∧ i ≤ hi := by
  show (decide (lo ≤ i) && decide (i ≤ hi)) = true ↔ _
  rw [Bool.and_eq_true, decide_eq_true_eq, decide_eq_true_eq]
theorem isnum_v {v : V} {lo hi : Int} (h : isnum v lo hi = true) : ∃ i, v = .int i ∧ lo ≤ i ∧ i ≤ hi := by
  cases v with
  | int i => exact ⟨i, rfl, isnum_int.mp h⟩
  | _ => exact nomatch h
theorem tOk_int {t : Tg} (h : tOk t = true) : t.f ∈ fieldsW ∧ t.s ∈ signsW ∧ ∃ i, t.n = .int i ∧ 0 ≤ i ∧ i ≤ 512 := by
  unfold tOk at h
  rw [Bool.and_eq_true, Bool.and_eq_true, decide_eq_true_eq, decide_eq_true_eq] at h
  exact ⟨h.1, h.2.1, isnum_v h.2.2⟩
theorem dig_len1 {n : Nat} (h : n ≤ 512) : (TL.numL n).length ≤ 3 := TL.numL_len (k := 3) (by decide) (by omega)
theorem num_kind (n : Nat) : TL.numL n ∉ kindsW := by
  intro h
  have a := numL_all n
  unfold kindsW at h
  simp only [List.mem_cons, List.not_mem_nil, or_false] at h
  rcases h with e | e | e | e
  all_goals (rw [e] at a; exact absurd a (by decide))
theorem numIn_num {f : List Nat} {n : Nat} (h : n ≤ 512) : numIn f (TL.numL n) = some (n : Int) := by
  unfold numIn
  rw [if_neg (fun c => num_kind n c.2), if_neg, if_pos (by rw [TL.numL_val]), TL.numL_val]
  rintro (c | c | c)
  · exact TL.numL_ne n c
  · have := dig_len1 h
    omega
  · rw [numL_all] at c; cases c
theorem numIn_nwT {f : List Nat} {i : Int} (h0 : 0 ≤ i) (h1 : i ≤ 512) : numIn f (nwT f i) = some i := by
  unfold nwT
  by_cases c : f = fW 2 ∧ i < 4
  · rw [if_pos c]
    unfold numIn
    have : i = 0 ∨ i = 1 ∨ i = 2 ∨ i = 3 := by omega
    rcases this with rfl | rfl | rfl | rfl
    all_goals (rw [if_pos (And.intro c.1 (by decide))]; rfl)
  · rw [if_neg c]
    have := numIn_num (f := f) (n := i.toNat) (by omega)
    rw [Int.toNat_of_nonneg h0] at this
    exact this
theorem trip_ok : ∀ (ts acc : List Tg), ts.all tOk = true → trip (ts.flatMap tW) acc = some (acc ++ ts)
  | [], acc, _ => by rw [List.append_nil]; rfl
  | t :: ts, acc, h => by
    rw [List.all_cons, Bool.and_eq_true] at h
    obtain ⟨h1, h2, i, h3, h4, h5⟩ := tOk_int h.1
    show trip (t.f :: t.s :: nwT t.f (vI t.n) :: ts.flatMap tW) acc = _
    unfold trip
    rw [if_pos ⟨h1, h2⟩, h3]
    show (match numIn t.f (nwT t.f i) with
      | some n => trip (ts.flatMap tW) (acc ++ [(⟨t.f, t.s, .int n⟩ : Tg)])
      | none => none) = _
    rw [numIn_nwT h4 h5]
    show trip (ts.flatMap tW) (acc ++ [(⟨t.f, t.s, .int i⟩ : Tg)]) = _
    rw [trip_ok ts _ h.2, ← h3, List.append_assoc]
    rfl
theorem flat_len (ts : List Tg) : (ts.flatMap tW).length = 3 * ts.length := by
  induction ts with
  | nil => rfl
  | cons t ts ih =>
    rw [List.flatMap_cons, List.length_append, ih, List.length_cons]
    show 3 + 3 * ts.length = _
    omega
theorem ruleOf_ok {r : Rg} (h : rOk r = true) : ruleOf (rowW r) = some r := by
  unfold rOk at h
  rw [Bool.and_eq_true, Bool.and_eq_true, decide_eq_true_eq] at h
  show (if r.a ∈ actsW ∧ (r.ts.flatMap tW).length % 3 = 0 then (trip (r.ts.flatMap tW) []).map fun ts => (⟨r.a, ts⟩ : Rg) else none) = _
  rw [if_pos ⟨h.1, by rw [flat_len]; omega⟩, trip_ok _ _ h.2.2]
  rfl
def badsW : List (List Nat) := [[113], [48, 48, 55], [49, 48, 48, 48], [33], takeW]
theorem bad_num {w : List Nat} (h : w ∈ badsW) (f : List Nat) : numIn f w = none := by
  unfold badsW at h
  simp only [List.mem_cons, List.not_mem_nil, or_false] at h
  unfold numIn
  rcases h with rfl | rfl | rfl | rfl | rfl
  all_goals rw [if_neg (fun c => absurd c.2 (by decide +kernel))]
  · rw [if_pos (by decide +kernel)]
  · rw [if_neg (by decide +kernel), if_neg]
    rw [show NumText.digitsVal [48, 48, 55] = 7 by decide +kernel, TL.numL_lt (by decide)]
    decide
  · rw [if_pos (by decide +kernel)]
  · rw [if_pos (by decide +kernel)]
  · rw [if_pos (by decide +kernel)]
theorem bad_not {w : List Nat} (h : w ∈ badsW) : w ∉ fieldsW ∧ w ∉ signsW := by
  unfold badsW at h
  simp only [List.mem_cons, List.not_mem_nil, or_false] at h
  rcases h with rfl | rfl | rfl | rfl | rfl <;> decide +kernel
theorem trip_bad {x : List Nat} (hx : x ∈ badsW) : ∀ (ws : List (List Nat)) (acc : List Tg), ws.length % 3 = 0 → x ∈ ws → trip ws acc = none
  | [], _, _, h => by cases h
  | [_], _, h, _ => absurd h (by simp)
  | [_, _], _, h, _ => absurd h (by simp)
  | f :: s :: w :: r, acc, hl, h => by
    unfold trip
    by_cases c : f ∈ fieldsW ∧ s ∈ signsW
    · rw [if_pos c]
      have b := bad_not hx
      have : x = w ∨ x ∈ r := by
        rcases List.mem_cons.mp h with e | h
        · exact absurd (e ▸ c.1) b.1
        · rcases List.mem_cons.mp h with e | h
          · exact absurd (e ▸ c.2) b.2
          · exact List.mem_cons.mp h
      rcases this with rfl | h
      · rw [bad_num hx]
      · cases numIn f w with
        | none => rfl
        | some n => exact trip_bad hx r _ (by simp only [List.length_cons] at hl; omega) h
    · rw [if_neg c]
theorem ruleOf_bent {r : Rg} {k : Nat} {x : List Nat} (hk : k < (rowW r).length) (hx : x ∈ badsW) (h0 : ¬ (k = 0 ∧ x = takeW)) : ruleOf ((rowW r).take k ++ [x] ++ (rowW r).drop (k + 1)) = none := by
  cases k with
  | zero =>
    show ruleOf (x :: r.ts.flatMap tW) = none
    show (if x ∈ actsW ∧ _ then _ else none) = none
    rw [if_neg]
    rintro ⟨c, _⟩
    unfold badsW at hx
    simp only [List.mem_cons, List.not_mem_nil, or_false] at hx
    rcases hx with rfl | rfl | rfl | rfl | rfl
    · exact absurd c (by decide)
    · exact absurd c (by decide)
    · exact absurd c (by decide)
    · exact absurd c (by decide)
    · exact h0 ⟨rfl, rfl⟩
  | succ k =>
    show ruleOf (r.a :: ((r.ts.flatMap tW).take k ++ [x] ++ (r.ts.flatMap tW).drop (k + 1))) = none
    have hk' : k < (r.ts.flatMap tW).length := by
      have : (rowW r).length = (r.ts.flatMap tW).length + 1 := rfl
      omega
    show (if r.a ∈ actsW ∧ _ then _ else none) = none
    by_cases c : r.a ∈ actsW ∧ ((r.ts.flatMap tW).take k ++ [x] ++ (r.ts.flatMap tW).drop (k + 1)).length % 3 = 0
    · rw [if_pos c, trip_bad hx _ _ c.2 (by simp)]
      rfl
    · rw [if_neg c]
/-! lines -/
theorem lines_app {p r : List Nat} (h : 10 ∉ p) : linesT (p ++ 10 :: r) = p :: linesT r := by
  unfold linesT
  rw [show p ++ 10 :: r = p ++ ([10] ++ r) from rfl, TL.spl_part1 h, List.nil_append]
theorem lines_last {p : List Nat} (h : 10 ∉ p) : linesT p = [p] := by
  unfold linesT
  rw [TL.spl_last1 h, List.nil_append]
def rowsT (ws : List (List (List Nat))) : List Nat := (ws.map fun w => TL.joinL [32] w ++ [10]).flatten
theorem join_free {c : Nat} {S : List Nat} (hS : c ∉ S) : ∀ {ws : List (List Nat)}, (∀ w ∈ ws, c ∉ w) → c ∉ TL.joinL S ws
  | [], _ => by simp [TL.joinL]
  | [w], h => h w List.mem_cons_self
  | w :: v :: r, h => by
    show c ∉ w ++ (S ++ TL.joinL S (v :: r))
    intro z
    rcases List.mem_append.mp z with z | z
    · exact h w List.mem_cons_self z
    · rcases List.mem_append.mp z with z | z
      · exact hS z
      · exact join_free hS (fun x hx => h x (List.mem_cons_of_mem _ hx)) z
/-- words without a space or an end of line -/
def Wl (w : List Nat) : Prop := Wd w ∧ 10 ∉ w
theorem lines_rows : ∀ ws : List (List (List Nat)), (∀ r ∈ ws, ∀ w ∈ r, Wl w) → linesT (rowsT ws) = ws.map (TL.joinL [32]) ++ [[]]
  | [], _ => rfl
  | r :: ws, h => by
    show linesT ((TL.joinL [32] r ++ [10]) ++ rowsT ws) = _
    rw [List.append_assoc]
    show linesT (TL.joinL [32] r ++ 10 :: rowsT ws) = _
    rw [lines_app (join_free (by decide) fun w hw => (h r List.mem_cons_self w hw).2), lines_rows ws fun x hx => h x (List.mem_cons_of_mem _ hx)]
    rfl
theorem prs_cons {w : List Nat} {r : List (List Nat)} {i : Nat} {acc : List Rg} : prs (w :: r) i acc = if toks w = [] then prs r (i + 1) acc else match ruleOf (toks w) with
    | some g => prs r (i + 1) (acc ++ [g])
    | none => .inr i := rfl
theorem prs_rows : ∀ (rs : List Rg) (t : List (List Nat)) (i : Nat) (acc : List Rg), (∀ r ∈ rs, rOk r = true) → (∀ r ∈ rs, ∀ w ∈ rowW r, Wl w) → prs (rs.map (fun r => TL.joinL [32] (rowW r)) ++ t) i acc = prs t (i + rs.length) (acc ++ rs)
  | [], t, i, acc, _, _ => by rw [List.append_nil]; rfl
  | r :: rs, t, i, acc, h, hw => by
    show prs (TL.joinL [32] (rowW r) :: (rs.map (fun r => TL.joinL [32] (rowW r)) ++ t)) i acc = _
    have e : toks (TL.joinL [32] (rowW r)) = rowW r := toks_join1 fun w q => (hw r List.mem_cons_self w q).1
    rw [prs_cons, e, if_neg (by exact List.cons_ne_nil _ _), ruleOf_ok (h r List.mem_cons_self)]
    show prs _ (i + 1) (acc ++ [r]) = _
    rw [prs_rows rs t (i + 1) _ (fun x hx => h x (List.mem_cons_of_mem _ hx)) fun x hx => hw x (List.mem_cons_of_mem _ hx), List.append_assoc, List.length_cons]
    rw [show i + 1 + rs.length = i + (rs.length + 1) by omega]
    rfl
theorem prs_skip : ∀ (ls : List (List Nat)) (i : Nat) (acc rs : List Rg), (ls.map toks).filter (fun w => decide (w ≠ [])) = rs.map rowW → (∀ r ∈ rs, rOk r = true) → prs ls i acc = .inl (acc ++ rs)
  | [], i, acc, rs, h, _ => by
    have : rs = [] := by
      cases rs with
      | nil => rfl
      | cons a b => cases h
    subst this
    rw [List.append_nil]
    rfl
  | l :: ls, i, acc, rs, h, hr => by
    unfold prs
    rw [List.map_cons, List.filter_cons] at h
    by_cases c : toks l = []
    · rw [if_pos c]
      rw [if_neg (by simp [c])] at h
      exact prs_skip ls _ _ _ h hr
    · rw [if_neg c]
      rw [if_pos (by simp [c])] at h
      cases rs with
      | nil => cases h
      | cons r rs =>
        rw [List.map_cons] at h
        obtain ⟨h1, h2⟩ := List.cons.inj h
        rw [h1, ruleOf_ok (hr r List.mem_cons_self)]
        show prs ls (i + 1) (acc ++ [r]) = _
        rw [prs_skip ls _ _ rs h2 fun x hx => hr x (List.mem_cons_of_mem _ hx), List.append_assoc]
        rfl
/-- a wide row -/
def wideR (k m : Nat) (ws : List (List Nat)) : List Nat := List.replicate k 32 ++ TL.joinL [32, 32] ws ++ List.replicate m 10
theorem wide_toks {k : Nat} {ws : List (List Nat)} (h : ∀ w ∈ ws, Wl w) : toks (List.replicate k 32 ++ TL.joinL [32, 32] ws) = ws := by
  rw [toks_sps]
  have := toks_join ws 1 0 fun w hw => (h w hw).1
  simpa using this
theorem wide_free {k : Nat} {ws : List (List Nat)} (h : ∀ w ∈ ws, Wl w) : 10 ∉ List.replicate k 32 ++ TL.joinL [32, 32] ws := by
  intro z
  rcases List.mem_append.mp z with z | z
  · exact absurd (List.eq_of_mem_replicate z) (by decide)
  · exact join_free (by decide) (fun w hw => (h w hw).2) z
theorem ends_lines (r : List Nat) : ∀ m : Nat, ((linesT (List.replicate m 10 ++ r)).map toks).filter (fun w => decide (w ≠ [])) = ((linesT r).map toks).filter (fun w => decide (w ≠ []))
  | 0 => rfl
  | m + 1 => by
    show ((linesT ([] ++ 10 :: (List.replicate m 10 ++ r))).map toks).filter _ = _
    rw [lines_app (by simp), List.map_cons, List.filter_cons, if_neg (by simp [toks_nil]), ends_lines r m]
theorem wide_lines : ∀ (L : List (Nat × Nat × List (List Nat))), (∀ x ∈ L, x.2.2 ≠ [] ∧ ∀ w ∈ x.2.2, Wl w) → ((linesT (TL.joinL [10] (L.map fun x => wideR x.1 x.2.1 x.2.2))).map toks).filter (fun w => decide (w ≠ [])) = L.map fun x => x.2.2
  | [], _ => rfl
  | [(k, m, ws)], h => by
    have hw := (h _ List.mem_cons_self).2
    have hn := (h _ List.mem_cons_self).1
    show ((linesT (List.replicate k 32 ++ TL.joinL [32, 32] ws ++ List.replicate m 10)).map toks).filter _ = [ws]
    cases m with
    | zero =>
      rw [List.replicate_zero, List.append_nil, lines_last (wide_free hw), List.map_singleton, wide_toks hw, List.filter_cons, if_pos (decide_eq_true hn)]
      rfl
    | succ m =>
      show ((linesT (List.replicate k 32 ++ TL.joinL [32, 32] ws ++ 10 :: List.replicate m 10)).map toks).filter _ = [ws]
      have e := ends_lines [] m
      rw [List.append_nil] at e
      rw [lines_app (wide_free hw), List.map_cons, wide_toks hw, List.filter_cons, if_pos (decide_eq_true hn), e]
      rfl
  | (k, m, ws) :: y :: L, h => by
    have hw := (h _ List.mem_cons_self).2
    have hn := (h _ List.mem_cons_self).1
    have ih := wide_lines (y :: L) fun x hx => h x (List.mem_cons_of_mem _ hx)
    show ((linesT (List.replicate k 32 ++ TL.joinL [32, 32] ws ++ List.replicate m 10 ++ (10 :: TL.joinL [10] ((y :: L).map fun x => wideR x.1 x.2.1 x.2.2)))).map toks).filter _ = ws :: (y :: L).map fun x => x.2.2
    have e : List.replicate m 10 ++ (10 :: TL.joinL [10] ((y :: L).map fun x => wideR x.1 x.2.1 x.2.2)) = 10 :: (List.replicate m 10 ++ TL.joinL [10] ((y :: L).map fun x => wideR x.1 x.2.1 x.2.2)) := by
      have : ∀ (m : Nat) (r : List Nat), List.replicate m 10 ++ (10 :: r) = 10 :: (List.replicate m 10 ++ r) := by
        intro m r
        induction m with
        | zero => rfl
        | succ m ih => show 10 :: (List.replicate m 10 ++ 10 :: r) = _; rw [ih]; rfl
      exact this _ _
    rw [List.append_assoc, e, lines_app (wide_free hw), List.map_cons, wide_toks hw, List.filter_cons, if_pos (decide_eq_true hn), ends_lines, ih]
theorem jf_flat (f : Tg → List (List Nat)) (hf : ∀ t, f t ≠ []) : ∀ ts : List Tg, jf (ts.map fun t => TL.joinL [32] (f t)) = jf (ts.flatMap f)
  | [] => rfl
  | t :: ts => by
    have ih := jf_flat f hf ts
    have a : ∀ x y : List (List Nat), jf (x ++ y) = jf x ++ jf y := fun x y => by simp [jf]
    rw [List.flatMap_cons, a, ← ih]
    show (32 :: TL.joinL [32] (f t)) ++ jf _ = _
    congr 1
    cases e : f t with
    | nil => exact absurd e (hf t)
    | cons w r => rw [join_jf]; simp [jf]
/-- a row's text, told test by test -/
theorem row_eq (r : Rg) : TL.joinL [32] (r.a :: r.ts.map fun t => TL.joinL [32] (tW t)) = TL.joinL [32] (rowW r) := by
  unfold rowW
  rw [join_jf, join_jf, jf_flat tW (fun t => by unfold tW; simp)]
theorem nwT_all {f : List Nat} {i : Int} (h : i ≤ 512) : Wl (nwT f i) ∧ (nwT f i).length ≤ 6 := by
  unfold nwT
  split
  · generalize i.toNat = k
    match k with
    | 0 => exact ⟨⟨⟨by decide, by decide⟩, by decide⟩, by decide⟩
    | 1 => exact ⟨⟨⟨by decide, by decide⟩, by decide⟩, by decide⟩
    | 2 => exact ⟨⟨⟨by decide, by decide⟩, by decide⟩, by decide⟩
    | _ + 3 => exact (show Wl (kW 3) ∧ (kW 3).length ≤ 6 from ⟨⟨⟨by decide, by decide⟩, by decide⟩, by decide⟩)
  · exact ⟨⟨nw_wd i, nw_free i (by omega)⟩, Nat.le_trans (nw_len (by omega)) (by decide)⟩
theorem fields_all : ∀ f ∈ fieldsW, Wl f ∧ f.length ≤ 6 := by
  intro f h
  unfold fieldsW at h
  simp only [List.mem_cons, List.not_mem_nil, or_false] at h
  rcases h with rfl | rfl | rfl | rfl | rfl | rfl | rfl
  all_goals exact ⟨⟨⟨by decide, by decide⟩, by decide⟩, by decide⟩
theorem signs_all : ∀ f ∈ signsW, Wl f ∧ f.length ≤ 6 := by
  intro f h
  unfold signsW at h
  simp only [List.mem_cons, List.not_mem_nil, or_false] at h
  rcases h with rfl | rfl | rfl
  all_goals exact ⟨⟨⟨by decide, by decide⟩, by decide⟩, by decide⟩
theorem acts_all : ∀ f ∈ actsW, Wl f ∧ f.length ≤ 6 := by
  intro f h
  unfold actsW at h
  simp only [List.mem_cons, List.not_mem_nil, or_false] at h
  rcases h with rfl | rfl
  all_goals exact ⟨⟨⟨by decide, by decide⟩, by decide⟩, by decide⟩
theorem bads_all : ∀ f ∈ badsW, Wl f ∧ f.length ≤ 6 := by
  intro f h
  unfold badsW at h
  simp only [List.mem_cons, List.not_mem_nil, or_false] at h
  rcases h with rfl | rfl | rfl | rfl | rfl
  all_goals exact ⟨⟨⟨by decide, by decide⟩, by decide⟩, by decide⟩
theorem rOk_of {r : Rg} (h : rOk r = true) : r.a ∈ actsW ∧ r.ts.length ≤ 4 ∧ r.ts.all tOk = true := by
  unfold rOk at h
  rw [Bool.and_eq_true, Bool.and_eq_true, decide_eq_true_eq, decide_eq_true_eq] at h
  exact h
theorem tW_all {t : Tg} (h : tOk t = true) : ∀ w ∈ tW t, Wl w ∧ w.length ≤ 6 := by
  obtain ⟨h1, h2, i, h3, h4, h5⟩ := tOk_int h
  intro w hw
  unfold tW at hw
  rw [h3] at hw
  simp only [List.mem_cons, List.not_mem_nil, or_false] at hw
  rcases hw with rfl | rfl | rfl
  · exact fields_all _ h1
  · exact signs_all _ h2
  · exact nwT_all h5
theorem rowW_all {r : Rg} (h : rOk r = true) : ∀ w ∈ rowW r, Wl w ∧ w.length ≤ 6 := by
  obtain ⟨h1, _, h3⟩ := rOk_of h
  intro w hw
  rcases List.mem_cons.mp hw with rfl | hw
  · exact acts_all _ h1
  · obtain ⟨t, ht, hw⟩ := List.mem_flatMap.mp hw
    exact tW_all (List.all_eq_true.mp h3 t ht) w hw
theorem rowW_len {r : Rg} (h : rOk r = true) : (rowW r).length ≤ 13 := by
  have := (rOk_of h).2.1
  show (r.ts.flatMap tW).length + 1 ≤ 13
  rw [flat_len]
  omega
theorem chk_all {rs : List Rg} (h : chk rs = true) : rs.length ≤ 8 ∧ ∀ r ∈ rs, rOk r = true := by
  unfold chk at h
  rw [Bool.and_eq_true, decide_eq_true_eq] at h
  exact ⟨h.1, List.all_eq_true.mp h.2⟩
theorem prs_text {rs : List Rg} (h : ∀ r ∈ rs, rOk r = true) : prs (linesT (rowsT (rs.map rowW))) 0 [] = .inl rs := by
  have hw : ∀ r ∈ rs, ∀ w ∈ rowW r, Wl w := fun r hr w hx => (rowW_all (h r hr) w hx).1
  rw [lines_rows _ (fun x hx => by
    obtain ⟨r, hr, rfl⟩ := List.mem_map.mp hx
    exact hw r hr), List.map_map]
  show prs (rs.map (fun r => TL.joinL [32] (rowW r)) ++ [[]]) 0 [] = _
  rw [prs_rows rs [[]] 0 [] h hw]
  rfl
theorem prs_bent {rs : List Rg} {at_ : Nat} {ws : List (List Nat)} (h : ∀ r ∈ rs, rOk r = true) (ha : at_ < rs.length) (hw : ∀ w ∈ ws, Wl w) (hn : ws ≠ []) (hb : ruleOf ws = none) :
    prs (linesT (rowsT ((rs.map rowW).take at_ ++ [ws] ++ (rs.map rowW).drop (at_ + 1)))) 0 [] = .inr at_ := by
  have hl : ∀ r ∈ rs, ∀ w ∈ rowW r, Wl w := fun r hr w hx => (rowW_all (h r hr) w hx).1
  have hm : ∀ x ∈ rs.map rowW, ∀ w ∈ x, Wl w := fun x hx => by
    obtain ⟨r, hr, rfl⟩ := List.mem_map.mp hx
    exact hl r hr
  rw [lines_rows _ (fun x hx => by
    rcases List.mem_append.mp hx with c | c
    · rcases List.mem_append.mp c with c | c
      · exact hm x (List.mem_of_mem_take c)
      · rw [List.mem_singleton.mp c]; exact hw
    · exact hm x (List.mem_of_mem_drop c)), List.map_append, List.map_append, ← List.map_take, List.map_map, List.append_assoc, List.append_assoc]
  show prs ((rs.take at_).map (fun r => TL.joinL [32] (rowW r)) ++ _) 0 [] = _
  rw [prs_rows (rs.take at_) _ 0 [] (fun r hr => h r (List.mem_of_mem_take hr)) fun r hr => hl r (List.mem_of_mem_take hr)]
  show prs (TL.joinL [32] ws :: _) _ _ = _
  rw [prs_cons, toks_join1 fun w hx => (hw w hx).1, if_neg hn, hb]
  show Sum.inr (0 + (rs.take at_).length) = _
  rw [List.length_take, Nat.zero_add, Nat.min_eq_left (Nat.le_of_lt ha)]
theorem prs_wide {L : List (Nat × Nat × List (List Nat))} {rs : List Rg} (h : ∀ r ∈ rs, rOk r = true) (hL : (L.map fun x => x.2.2) = rs.map rowW) : prs (linesT (TL.joinL [10] (L.map fun x => wideR x.1 x.2.1 x.2.2))) 0 [] = .inl rs := by
  have := prs_skip (linesT (TL.joinL [10] (L.map fun x => wideR x.1 x.2.1 x.2.2))) 0 [] rs (by
    rw [wide_lines L fun x hx => ?_, hL]
    have hm : x.2.2 ∈ rs.map rowW := hL ▸ List.mem_map.mpr ⟨x, hx, rfl⟩
    obtain ⟨r, hr, e⟩ := List.mem_map.mp hm
    rw [← e]
    exact ⟨List.cons_ne_nil _ _, fun w hw => (rowW_all (h r hr) w hw).1⟩) h
  rw [this]
  rfl
theorem chk_bad {rs : List Rg} {r : Rg} (hm : r ∈ rs) (h : rOk r = false) : chk rs = false := by
  cases c : chk rs with
  | false => rfl
  | true => rw [(chk_all c).2 r hm] at h; cases h
theorem rOk_act {r : Rg} (h : decide (r.a ∈ actsW) = false) : rOk r = false := by unfold rOk; rw [h]; rfl
theorem rOk_len {r : Rg} (h : ¬ r.ts.length ≤ 4) : rOk r = false := by unfold rOk; rw [decide_eq_false h, Bool.false_and, Bool.and_false]
theorem rOk_all {r : Rg} (h1 : decide (r.a ∈ actsW) = true) (h2 : r.ts.length ≤ 4) : rOk r = r.ts.all tOk := by unfold rOk; rw [h1, decide_eq_true h2]; rfl
theorem all_snoc {α : Type} {p : α → Bool} {l : List α} {i : Nat} {a : α} (h : l[i]? = some a) (h1 : (l.take i).all p = true) (h2 : p a = true) : (l.take (i + 1)).all p = true := by
  rw [List.take_succ, h, List.all_append, h1]
  simp [h2]
theorem hold_eq {p : Pk} {t : Tg} (h : t.s = [61]) : hold p t = decide (fv p t.f = vI t.n) := by unfold hold; rw [if_pos h]
theorem hold_lt {p : Pk} {t : Tg} (h1 : t.s ≠ [61]) (h : t.s = [60]) : hold p t = decide (fv p t.f < vI t.n) := by unfold hold; rw [if_neg h1, if_pos h]
theorem hold_gt {p : Pk} {t : Tg} (h1 : t.s ≠ [61]) (h : t.s ≠ [60]) : hold p t = decide (vI t.n < fv p t.f) := by unfold hold; rw [if_neg h1, if_neg h]
theorem dec_hit {p : Pk} : ∀ {rs : List Rg} {i : Nat} {r : Rg}, (rs.take i).all (fun r => !rHold p r) = true → rs[i]? = some r → rHold p r = true → decI rs p = i
  | [], _, _, _, h, _ => by simp at h
  | r0 :: rs, 0, r, _, h, h2 => by
    cases h
    unfold decI
    rw [List.findIdx_cons, h2]
    rfl
  | r0 :: rs, i + 1, r, h, h1, h2 => by
    rw [List.take_succ_cons, List.all_cons, Bool.and_eq_true] at h
    have ih := dec_hit (rs := rs) h.2 h1 h2
    unfold decI at ih ⊢
    rw [List.findIdx_cons]
    have : rHold p r0 = false := by
      have := h.1
      revert this
      cases rHold p r0 <;> simp
    rw [this, ih]
    rfl
theorem dec_end {p : Pk} : ∀ {rs : List Rg}, rs.all (fun r => !rHold p r) = true → decI rs p = rs.length
  | [], _ => rfl
  | r0 :: rs, h => by
    rw [List.all_cons, Bool.and_eq_true] at h
    have ih := dec_end (rs := rs) h.2
    unfold decI at ih ⊢
    rw [List.findIdx_cons]
    have : rHold p r0 = false := by
      have := h.1
      revert this
      cases rHold p r0 <;> simp
    rw [this, ih]
    rfl
theorem decF_hit {p : Pk} {rs : List Rg} {i : Nat} {r : Rg} (h : (rs.take i).all (fun r => !rHold p r) = true) (h1 : rs[i]? = some r) (h2 : rHold p r = true) : decF rs p = r.a := by
  unfold decF
  rw [dec_hit h h1 h2, h1]
theorem decF_end {p : Pk} {rs : List Rg} (h : rs.all (fun r => !rHold p r) = true) : decF rs p = dropW := by
  unfold decF
  rw [dec_end h, List.getElem?_eq_none (Nat.le_refl _)]
theorem numIn_kind {f w : List Nat} (h : f = fW 2 ∧ w ∈ kindsW) : numIn f w = some ((kindsW.idxOf w : Nat) : Int) := by unfold numIn; rw [if_pos h]
theorem numIn_no {f w : List Nat} (h : ¬ (f = fW 2 ∧ w ∈ kindsW)) (h2 : w = [] ∨ 3 < w.length ∨ w.all isDig = false) : numIn f w = none := by unfold numIn; rw [if_neg h, if_pos h2]
theorem numIn_val {f w : List Nat} (h : ¬ (f = fW 2 ∧ w ∈ kindsW)) (h2 : ¬ (w = [] ∨ 3 < w.length ∨ w.all isDig = false)) : numIn f w = if TL.numL (NumText.digitsVal w) = w then some ((NumText.digitsVal w : Nat) : Int) else none := by unfold numIn; rw [if_neg h, if_neg h2]
theorem digs_small {w : List Nat} (h : w.all isDig = true) (hl : w.length ≤ 3) : NumText.digitsVal w < 1000 := by
  match w, hl with
  | [], _ => exact (by decide : NumText.digitsVal [] < 1000)
  | [a], _ =>
    have ha := List.all_eq_true.mp h a (by simp)
    unfold isDig at ha
    rw [Bool.and_eq_true, decide_eq_true_eq, decide_eq_true_eq] at ha
    show 0 * 10 + (a - 48) < 1000
    omega
  | [a, b], _ =>
    have ha := List.all_eq_true.mp h a (by simp)
    have hb := List.all_eq_true.mp h b (by simp)
    unfold isDig at ha hb
    rw [Bool.and_eq_true, decide_eq_true_eq, decide_eq_true_eq] at ha hb
    show (0 * 10 + (a - 48)) * 10 + (b - 48) < 1000
    omega
  | [a, b, c], _ =>
    have ha := List.all_eq_true.mp h a (by simp)
    have hb := List.all_eq_true.mp h b (by simp)
    have hc := List.all_eq_true.mp h c (by simp)
    unfold isDig at ha hb hc
    rw [Bool.and_eq_true, decide_eq_true_eq, decide_eq_true_eq] at ha hb hc
    show ((0 * 10 + (a - 48)) * 10 + (b - 48)) * 10 + (c - 48) < 1000
    omega
  | _ :: _ :: _ :: _ :: _, hl => exact absurd hl (by simp)
theorem rowW_ne (r : Rg) : rowW r ≠ [] := List.cons_ne_nil _ _
theorem joins_small {r : Rg} (h : rOk r = true) : (r.a :: r.ts.map fun t => TL.joinL [32] (tW t)).length ≤ 5 ∧ ∀ w ∈ (r.a :: r.ts.map fun t => TL.joinL [32] (tW t)), w.length ≤ 24 := by
  obtain ⟨h1, h2, h3⟩ := rOk_of h
  refine ⟨by rw [List.length_cons, List.length_map]; omega, fun w hw => ?_⟩
  rcases List.mem_cons.mp hw with rfl | hw
  · exact Nat.le_trans (acts_all _ h1).2 (by decide)
  · obtain ⟨t, ht, rfl⟩ := List.mem_map.mp hw
    have a := tW_all (List.all_eq_true.mp h3 t ht)
    have a1 := (a t.f (by simp [tW])).2
    have a2 := (a t.s (by simp [tW])).2
    have a3 := (a (nwT t.f (vI t.n)) (by simp [tW])).2
    show (t.f ++ ([32] ++ (t.s ++ ([32] ++ nwT t.f (vI t.n))))).length ≤ 24
    simp only [List.length_append, List.length_cons, List.length_nil]
    omega
theorem trip_step {f s w : List Nat} {r : List (List Nat)} {acc : List Tg} : trip (f :: s :: w :: r) acc = if f ∈ fieldsW ∧ s ∈ signsW then (match numIn f w with
      | some n => trip r (acc ++ [⟨f, s, .int n⟩])
      | none => none) else none := rfl
theorem drop3 {wr : List (List Nat)} {i m : Nat} (h : wr.length = 3 * m) (hi : i < m) : ∃ f s w, wr.drop (3 * i) = f :: s :: w :: wr.drop (3 * (i + 1)) := by
  refine ⟨wr[3 * i]'(by omega), wr[3 * i + 1]'(by omega), wr[3 * i + 2]'(by omega), ?_⟩
  rw [List.drop_eq_getElem_cons (by omega), List.drop_eq_getElem_cons (by omega), List.drop_eq_getElem_cons (by omega)]
  rfl
theorem spl10_len : ∀ (l acc : List Nat), (TL.spl [10] 0 acc l).length ≤ l.length + 1
  | [], acc => by rw [TL.spl_nil]; exact Nat.le_refl _
  | c :: r, acc => by
    cases h : TL.pre [10] (c :: r) with
    | true =>
      rw [TL.spl_hit h]
      have := spl10_len r []
      rw [List.length_cons, List.length_cons]
      exact Nat.succ_le_succ this
    | false =>
      rw [TL.spl_miss h]
      exact Nat.le_succ_of_le (spl10_len r _)
theorem spl10_le (l : List Nat) : (TL.spl [10] 0 [] l).length ≤ l.length + 1 := spl10_len l []
theorem spl10_wd : ∀ (l acc : List Nat) {w : List Nat}, w ∈ TL.spl [10] 0 acc l → w.length ≤ acc.length + l.length
  | [], acc, w, h => by
    rw [TL.spl_nil] at h
    rw [List.mem_singleton.mp h]
    exact Nat.le_add_right _ _
  | c :: r, acc, w, h => by
    cases hp : TL.pre [10] (c :: r) with
    | true =>
      rw [TL.spl_hit hp] at h
      rcases List.mem_cons.mp h with e | e
      · rw [e]; exact Nat.le_add_right _ _
      · have := spl10_wd r [] (show w ∈ TL.spl [10] 0 [] r from e)
        rw [List.length_nil] at this
        rw [List.length_cons]
        omega
    | false =>
      rw [TL.spl_miss hp] at h
      have := spl10_wd r (acc ++ [c]) h
      rw [List.length_append, List.length_singleton] at this
      rw [List.length_cons]
      omega
theorem spl10_word {l w : List Nat} (h : w ∈ TL.spl [10] 0 [] l) : w.length ≤ l.length := by
  have := spl10_wd l [] h
  rw [List.length_nil] at this
  omega
theorem prs_at {rows : List (List Nat)} {i : Nat} {row : List Nat} {acc : List Rg} (h : rows[i]? = some row) : prs (rows.drop i) i acc = if toks row = [] then prs (rows.drop (i + 1)) (i + 1) acc else match ruleOf (toks row) with
    | some g => prs (rows.drop (i + 1)) (i + 1) (acc ++ [g])
    | none => .inr i := by
  have hi := (List.getElem?_eq_some_iff.mp h).1
  rw [List.drop_eq_getElem_cons hi, (List.getElem?_eq_some_iff.mp h).2, prs_cons]
theorem rowsT_len : ∀ {ws : List (List (List Nat))}, (∀ r ∈ ws, (∀ w ∈ r, w.length ≤ 6) ∧ r.length ≤ 13) → (rowsT ws).length ≤ 105 * ws.length
  | [], _ => Nat.le_refl _
  | r :: ws, h => by
    have ih := rowsT_len (ws := ws) fun x hx => h x (List.mem_cons_of_mem _ hx)
    show ((TL.joinL [32] r ++ [10]) ++ rowsT ws).length ≤ 105 * (ws.length + 1)
    have h1 : ∀ S : List Nat, ∀ ws : List (List Nat), (TL.joinL S ws).length ≤ (ws.map List.length).sum + ws.length * S.length := by
      intro S ws
      induction ws with
      | nil => exact Nat.zero_le _
      | cons w r ih =>
        cases r with
        | nil => show w.length ≤ (w.length + 0) + _; omega
        | cons v r =>
          show (w ++ (S ++ TL.joinL S (v :: r))).length ≤ (w.length + ((v :: r).map List.length).sum) + ((v :: r).length + 1) * S.length
          rw [List.length_append, List.length_append, Nat.succ_mul]
          omega
    have a := h r List.mem_cons_self
    have b := h1 [32] r
    have c := sum_le a.1
    rw [List.length_append, List.length_append, List.length_singleton]
    rw [List.length_singleton] at b
    omega
/-- an own exception with two fields -/
structure ExcT2 (P : Program) (K : PySem.W.Frag) (mg : Str → Option Value) (F : NdefX.NF) (f cc C : Addr) (fd : FuncData) (x : Str) (ps : List Str) : Prop extends ExcT P K mg F f cc C fd x ps where
  no_at : PySem.W.findIn K (.ref C) "at" = some none
def top (i : Nat) : Stmt := PySem.Challenge.pw_everyoctetonce_k24_rules.main.body.getD i (.Pass ⟨0, 0, 0, 0⟩)
abbrev s_InputError_init : Stmt := inClass (top 2) 0
abbrev s_TextError_init : Stmt := inClass (top 3) 0
abbrev s_is_number : Stmt := top 5
theorem sc_is_number : FnScope ["value", "least", "most"] ["value", "least", "most"] (defScope s_is_number) := ⟨rfl, rfl, rfl, by decide +kernel, rfl, by decide +kernel, by decide +kernel⟩
abbrev s_is_test : Stmt := top 14
theorem sc_is_test : FnScope ["field", "sign", "number"] ["field", "sign", "number"] (defScope s_is_test) := ⟨rfl, rfl, rfl, by decide +kernel, rfl, by decide +kernel, by decide +kernel⟩
abbrev s_check_rules : Stmt := top 15
theorem sc_check_rules : FnScope ["rules", "action", "tests", "test"] ["rules"] (defScope s_check_rules) := ⟨rfl, rfl, rfl, by decide +kernel, rfl, by decide +kernel, by decide +kernel⟩
abbrev s_fields_of : Stmt := top 16
theorem sc_fields_of : FnScope ["packet", "source", "goal", "kind", "life", "_", "body", "ports"] ["packet"] (defScope s_fields_of) := ⟨rfl, rfl, rfl, by decide +kernel, rfl, by decide +kernel, by decide +kernel⟩
abbrev s_holds : Stmt := top 17
theorem sc_holds : FnScope ["fields", "test", "field", "sign", "number", "own"] ["fields", "test"] (defScope s_holds) := ⟨rfl, rfl, rfl, by decide +kernel, rfl, by decide +kernel, by decide +kernel⟩
abbrev s_decide : Stmt := top 18
theorem sc_decide : FnScope ["rules", "packet", "fields", "action", "tests", "test"] ["rules", "packet"] (defScope s_decide) := ⟨rfl, rfl, rfl, by decide +kernel, rfl, by decide +kernel, by decide +kernel⟩
abbrev s_format_test : Stmt := top 22
theorem sc_format_test : FnScope ["test", "field", "sign", "number", "is_named"] ["test"] (defScope s_format_test) := ⟨rfl, rfl, rfl, by decide +kernel, rfl, by decide +kernel, by decide +kernel⟩
abbrev s_format_rules : Stmt := top 23
theorem sc_format_rules : FnScope ["rules", "action", "tests", "test"] ["rules"] (defScope s_format_rules) := ⟨rfl, rfl, rfl, by decide +kernel, rfl, by decide +kernel, by decide +kernel⟩
abbrev s_number_in : Stmt := top 24
theorem sc_number_in : FnScope ["field", "word", "sign"] ["field", "word"] (defScope s_number_in) := ⟨rfl, rfl, rfl, by decide +kernel, rfl, by decide +kernel, by decide +kernel⟩
abbrev s_rule_of : Stmt := top 25
theorem sc_rule_of : FnScope ["words", "tests", "at", "field", "sign", "word"] ["words"] (defScope s_rule_of) := ⟨rfl, rfl, rfl, by decide +kernel, rfl, by decide +kernel, by decide +kernel⟩
abbrev s_parse_rules : Stmt := top 26
theorem sc_parse_rules : FnScope ["text", "found", "line", "row", "words", "rule", "word"] ["text"] (defScope s_parse_rules) := ⟨rfl, rfl, rfl, by decide +kernel, rfl, by decide +kernel, by decide +kernel⟩
abbrev s_law_begin : Stmt := top 28
theorem sc_law_begin : FnScope ["script", "seed", "cell"] ["script"] (defScope s_law_begin) := ⟨rfl, rfl, rfl, by decide +kernel, rfl, by decide +kernel, by decide +kernel⟩
abbrev s_law_take : Stmt := top 29
theorem sc_law_take : FnScope ["d", "many", "small", "digit"] ["d", "many"] (defScope s_law_take) := ⟨rfl, rfl, rfl, by decide +kernel, rfl, by decide +kernel, by decide +kernel⟩
abbrev s_law_pick : Stmt := top 30
theorem sc_law_pick : FnScope ["d", "menu"] ["d", "menu"] (defScope s_law_pick) := ⟨rfl, rfl, rfl, by decide +kernel, rfl, by decide +kernel, by decide +kernel⟩
abbrev s_law_octets : Stmt := top 31
theorem sc_law_octets : FnScope ["d", "most", "k"] ["d", "most"] (defScope s_law_octets) := ⟨rfl, rfl, rfl, by decide +kernel, rfl, by decide +kernel, by decide +kernel⟩
abbrev s_law_test : Stmt := top 32
theorem sc_law_test : FnScope ["d", "fields", "field", "most"] ["d", "fields"] (defScope s_law_test) := ⟨rfl, rfl, rfl, by decide +kernel, rfl, by decide +kernel, by decide +kernel⟩
abbrev s_law_rules : Stmt := top 33
theorem sc_law_rules : FnScope ["d", "fields", "most", "found", "k", "tests", "j"] ["d", "fields", "most"] (defScope s_law_rules) := ⟨rfl, rfl, rfl, by decide +kernel, rfl, by decide +kernel, by decide +kernel⟩
abbrev s_law_numbers : Stmt := top 34
theorem sc_law_numbers : FnScope ["packet", "ports", "kind"] ["packet"] (defScope s_law_numbers) := ⟨rfl, rfl, rfl, by decide +kernel, rfl, by decide +kernel, by decide +kernel⟩
abbrev s_law_holds : Stmt := top 35
theorem sc_law_holds : FnScope ["numbers", "test", "own"] ["numbers", "test"] (defScope s_law_holds) := ⟨rfl, rfl, rfl, by decide +kernel, rfl, by decide +kernel, by decide +kernel⟩
abbrev s_law_decider : Stmt := top 36
theorem sc_law_decider : FnScope ["rules", "packet", "numbers", "k", "test"] ["rules", "packet"] (defScope s_law_decider) := ⟨rfl, rfl, rfl, by decide +kernel, rfl, by decide +kernel, by decide +kernel⟩
abbrev s_law_action : Stmt := top 37
theorem sc_law_action : FnScope ["rules", "packet", "place"] ["rules", "packet"] (defScope s_law_action) := ⟨rfl, rfl, rfl, by decide +kernel, rfl, by decide +kernel, by decide +kernel⟩
abbrev s_law_code : Stmt := top 38
theorem sc_law_code : FnScope ["rules", "fault"] ["rules"] (defScope s_law_code) := ⟨rfl, rfl, rfl, by decide +kernel, rfl, by decide +kernel, by decide +kernel⟩
abbrev s_law_read : Stmt := top 39
theorem sc_law_read : FnScope ["text", "fault"] ["text"] (defScope s_law_read) := ⟨rfl, rfl, rfl, by decide +kernel, rfl, by decide +kernel, by decide +kernel⟩
abbrev s_law : Stmt := top 40
theorem sc_law : FnScope ["script", "d", "every", "rules", "k", "kind", "packet", "lines", "action", "tests", "words", "field", "sign", "number", "text", "wide", "at", "place", "bent", "one", "bad", "row"] ["script"] (defScope s_law) := ⟨rfl, rfl, rfl, by decide +kernel, rfl, by decide +kernel, by decide +kernel⟩
structure Adr where
  f_InputError_init : Addr
  d_InputError_init : FuncData
  f_TextError_init : Addr
  d_TextError_init : FuncData
  f_is_number : Addr
  d_is_number : FuncData
  f_is_test : Addr
  d_is_test : FuncData
  f_check_rules : Addr
  d_check_rules : FuncData
  f_fields_of : Addr
  d_fields_of : FuncData
  f_holds : Addr
  d_holds : FuncData
  f_decide : Addr
  d_decide : FuncData
  f_format_test : Addr
  d_format_test : FuncData
  f_format_rules : Addr
  d_format_rules : FuncData
  f_number_in : Addr
  d_number_in : FuncData
  f_rule_of : Addr
  d_rule_of : FuncData
  f_parse_rules : Addr
  d_parse_rules : FuncData
  f_law_begin : Addr
  d_law_begin : FuncData
  f_law_take : Addr
  d_law_take : FuncData
  f_law_pick : Addr
  d_law_pick : FuncData
  f_law_octets : Addr
  d_law_octets : FuncData
  f_law_test : Addr
  d_law_test : FuncData
  f_law_rules : Addr
  d_law_rules : FuncData
  f_law_numbers : Addr
  d_law_numbers : FuncData
  f_law_holds : Addr
  d_law_holds : FuncData
  f_law_decider : Addr
  d_law_decider : FuncData
  f_law_action : Addr
  d_law_action : FuncData
  f_law_code : Addr
  d_law_code : FuncData
  f_law_read : Addr
  d_law_read : FuncData
  f_law : Addr
  d_law : FuncData
  c_InputError : Addr
  c_TextError : Addr
  cc_InputError : Addr
  cd_InputError : Addr
  cc_TextError : Addr
  cd_TextError : Addr
  g_FIELDS : Addr
  g_SIGNS : Addr
  g_ACTIONS : Addr
  g_KINDS : Addr
structure Txt (P : Program) (K : PySem.W.Frag) (mg : Str → Option Value) (A : Adr) : Prop where
  x_InputError : ExcT P K mg ⟨"__init__", "InputError.__init__", defArgs s_InputError_init, defBody s_InputError_init, defScope s_InputError_init, [("__class__", A.cc_InputError)], A.cd_InputError⟩ A.f_InputError_init A.cc_InputError A.c_InputError A.d_InputError_init "InputError" ["self", "code"]
  x_TextError : ExcT2 P K mg ⟨"__init__", "TextError.__init__", defArgs s_TextError_init, defBody s_TextError_init, defScope s_TextError_init, [("__class__", A.cc_TextError)], A.cd_TextError⟩ A.f_TextError_init A.cc_TextError A.c_TextError A.d_TextError_init "TextError" ["self", "code", "at"]
  is_number : GF K mg "is_number" s_is_number ["value", "least", "most"] A.f_is_number A.d_is_number
  is_test : GF K mg "is_test" s_is_test ["field", "sign", "number"] A.f_is_test A.d_is_test
  check_rules : GF K mg "check_rules" s_check_rules ["rules"] A.f_check_rules A.d_check_rules
  fields_of : GF K mg "fields_of" s_fields_of ["packet"] A.f_fields_of A.d_fields_of
  holds : GF K mg "holds" s_holds ["fields", "test"] A.f_holds A.d_holds
  decide : GF K mg "decide" s_decide ["rules", "packet"] A.f_decide A.d_decide
  format_test : GF K mg "format_test" s_format_test ["test"] A.f_format_test A.d_format_test
  format_rules : GF K mg "format_rules" s_format_rules ["rules"] A.f_format_rules A.d_format_rules
  number_in : GF K mg "number_in" s_number_in ["field", "word"] A.f_number_in A.d_number_in
  rule_of : GF K mg "rule_of" s_rule_of ["words"] A.f_rule_of A.d_rule_of
  parse_rules : GF K mg "parse_rules" s_parse_rules ["text"] A.f_parse_rules A.d_parse_rules
  law_begin : GF K mg "_law_begin" s_law_begin ["script"] A.f_law_begin A.d_law_begin
  law_take : GF K mg "_law_take" s_law_take ["d", "many"] A.f_law_take A.d_law_take
  law_pick : GF K mg "_law_pick" s_law_pick ["d", "menu"] A.f_law_pick A.d_law_pick
  law_octets : GF K mg "_law_octets" s_law_octets ["d", "most"] A.f_law_octets A.d_law_octets
  law_test : GF K mg "_law_test" s_law_test ["d", "fields"] A.f_law_test A.d_law_test
  law_rules : GF K mg "_law_rules" s_law_rules ["d", "fields", "most"] A.f_law_rules A.d_law_rules
  law_numbers : GF K mg "_law_numbers" s_law_numbers ["packet"] A.f_law_numbers A.d_law_numbers
  law_holds : GF K mg "_law_holds" s_law_holds ["numbers", "test"] A.f_law_holds A.d_law_holds
  law_decider : GF K mg "_law_decider" s_law_decider ["rules", "packet"] A.f_law_decider A.d_law_decider
  law_action : GF K mg "_law_action" s_law_action ["rules", "packet"] A.f_law_action A.d_law_action
  law_code : GF K mg "_law_code" s_law_code ["rules"] A.f_law_code A.d_law_code
  law_read : GF K mg "_law_read" s_law_read ["text"] A.f_law_read A.d_law_read
  law : GF K mg "law" s_law ["script"] A.f_law A.d_law
  b_super : mg "super" = none
  b_isinstance : mg "isinstance" = none
  b_int : mg "int" = none
  b_bool : mg "bool" = none
  b_len : mg "len" = none
  b_all : mg "all" = none
  b_tuple : mg "tuple" = none
  b_dict : mg "dict" = none
  b_zip : mg "zip" = none
  b_str : mg "str" = none
  b_range : mg "range" = none
  b_enumerate : mg "enumerate" = none
  b_list : mg "list" = none
  b_abs : mg "abs" = none
  g_FIELDS : GV K mg "FIELDS" (.ref A.g_FIELDS)
  t_FIELDS : ∀ H, SqT K H A.g_FIELDS [(.str "source"), (.str "goal"), (.str "kind"), (.str "life"), (.str "length"), (.str "from"), (.str "to")]
  y_FIELDS : ∃ o, K.lookup A.g_FIELDS = some o ∧ o.cls = .type "tuple" ∧ o.dict = none
  g_SIGNS : GV K mg "SIGNS" (.ref A.g_SIGNS)
  t_SIGNS : ∀ H, SqT K H A.g_SIGNS [(.str "="), (.str "<"), (.str ">")]
  y_SIGNS : ∃ o, K.lookup A.g_SIGNS = some o ∧ o.cls = .type "tuple" ∧ o.dict = none
  g_MOST_NUMBER : GV K mg "MOST_NUMBER" (.int 512)
  g_MOST_RULES : GV K mg "MOST_RULES" (.int 8)
  g_ACTIONS : GV K mg "ACTIONS" (.ref A.g_ACTIONS)
  t_ACTIONS : ∀ H, SqT K H A.g_ACTIONS [(.str "take"), (.str "drop")]
  y_ACTIONS : ∃ o, K.lookup A.g_ACTIONS = some o ∧ o.cls = .type "tuple" ∧ o.dict = none
  g_MOST_TESTS : GV K mg "MOST_TESTS" (.int 4)
  g_KINDS : GV K mg "KINDS" (.ref A.g_KINDS)
  t_KINDS : ∀ H, SqT K H A.g_KINDS [(.str "data"), (.str "route"), (.str "probe"), (.str "tell")]
  y_KINDS : ∃ o, K.lookup A.g_KINDS = some o ∧ o.cls = .type "tuple" ∧ o.dict = none
  g_MOST_DIGITS : GV K mg "MOST_DIGITS" (.int 3)
  g_DIGITS : GV K mg "DIGITS" (.str "0123456789")
/-! ### the law's own draws -/
/-- d holds the script's ints (a list at s), a place, what is left of a number, a seed -/
def DSt (H : Hp) (d s : Addr) : Prop := d ≠ s ∧ ∃ (ns : List Int) (pos cur seed : Int), H d = some (.lst [.ref s, .int pos, .int cur, .int seed]) ∧ H s = some (.lst (ns.map V.int)) ∧ ns.length ≤ 63 ∧ 0 ≤ pos ∧ 0 ≤ cur
theorem DSt.ext {A : List Addr} {H H' : Hp} {d s : Addr} (e : Ext A H H') (h : DSt H d s) (n1 : d ∉ A) (n2 : s ∉ A) : DSt H' d s := by
  obtain ⟨ne, ns, pos, cur, seed, h1, h2, h3⟩ := h
  exact ⟨ne, ns, pos, cur, seed, e.keep _ _ h1 n1, e.keep _ _ h2 n2, h3⟩
def spBegin (K : PySem.W.Frag) : Sp := fun vs H Q _ => ∃ (a : Addr) (ns : List Int), vs = [.ref a] ∧ SqL K H a (ns.map V.int) ∧ ns.length ≤ 63 ∧ ∀ d s H', H d = none → H s = none → Ext [] H H' → DSt H' d s → Q (.ref d) H'
def spTake : Sp := fun vs H Q _ => ∃ (d s : Addr) (many : Int), vs = [.ref d, .int many] ∧ DSt H d s ∧ 0 < many ∧ many < 2 ^ 64 ∧ ∀ k H', 0 ≤ k → k < many → Ext [d] H H' → DSt H' d s → Q (.int k) H'
def spPick (K : PySem.W.Frag) : Sp := fun vs H Q _ => ∃ (d s m : Addr) (xs : List V), vs = [.ref d, .ref m] ∧ DSt H d s ∧ SqL K H m xs ∧ m ≠ d ∧ 0 < xs.length ∧ xs.length < 1000 ∧ ∀ v H', v ∈ xs → Ext [d] H H' → DSt H' d s → Q v H'
def spLaw (K : PySem.W.Frag) : Sp := fun vs H Q _ => ∃ (a : Addr) (ns : List Int), vs = [.ref a] ∧ SqL K H a (ns.map V.int) ∧ ns.length ≤ 63 ∧ ∀ H', Q (.bl true) H'
theorem ne_dst1 {H : Hp} {d s x : Addr} (n : H x = none) (h : DSt H d s) : d ≠ x := by
  obtain ⟨_, _, _, _, _, h1, _⟩ := h
  exact ne_of_none h1 n
theorem ne_dst2 {H : Hp} {d s x : Addr} (n : H x = none) (h : DSt H d s) : s ≠ x := by
  obtain ⟨_, _, _, _, _, _, h1, _⟩ := h
  exact ne_of_none h1 n
local macro_rules | `(tactic| walk_at "eo dst") => `(tactic| first | with_reducible assumption | ((with_reducible apply DSt.ext); (with_reducible assumption); (walk_at "eo dst"); (walk_at "eo nin"); (walk_at "eo nin")))
local macro_rules | `(tactic| walk_at "eo ne2") => `(tactic| first
  | ((with_reducible apply ne_dst1); (with_reducible assumption); (walk_at "eo dst"))
  | ((with_reducible apply ne_dst2); (with_reducible assumption); (walk_at "eo dst"))
  | ((with_reducible apply Ne.symm); (with_reducible apply ne_dst1); (with_reducible assumption); (walk_at "eo dst"))
  | ((with_reducible apply Ne.symm); (with_reducible apply ne_dst2); (with_reducible assumption); (walk_at "eo dst")))
/-! ### nested data, by what they are -/
def Shp (d : PyData) (k : Nat) : Prop := d.canLay0 = true ∧ d.depth ≤ k
def ShpAll (ds : List PyData) (k : Nat) : Prop := PyData.canLayAll0 ds = true ∧ PyData.depthAll ds ≤ k
theorem shp_int {i : Int} {k : Nat} : Shp (.int i) k := ⟨rfl, Nat.zero_le _⟩
theorem shp_non {k : Nat} : Shp .none k := ⟨rfl, Nat.zero_le _⟩
theorem shp_bl {b : Bool} {k : Nat} : Shp (.bool b) k := ⟨rfl, Nat.zero_le _⟩
theorem shp_nil {k : Nat} : ShpAll [] k := ⟨rfl, Nat.zero_le _⟩
theorem shp_cons {d : PyData} {ds : List PyData} {k : Nat} (h : Shp d k) (t : ShpAll ds k) : ShpAll (d :: ds) k := by
  refine ⟨?_, ?_⟩
  · rw [PyData.canLayAll0, h.1, t.1]; rfl
  · rw [PyData.depthAll]; exact Nat.max_le.mpr ⟨h.2, t.2⟩
theorem shp_tup {ds : List PyData} {k : Nat} (h : ShpAll ds k) : Shp (.tuple ds) (k + 1) := by
  refine ⟨?_, ?_⟩
  · rw [PyData.canLay0]; exact h.1
  · rw [PyData.depth]
    have := h.2
    omega
theorem shp_ints {k : Nat} : ∀ ns : List Int, ShpAll (ns.map PyData.int) k
  | [] => shp_nil
  | _ :: r => shp_cons shp_int (shp_ints r)
theorem shp_app {k : Nat} : ∀ {ds es : List PyData}, ShpAll ds k → ShpAll es k → ShpAll (ds ++ es) k
  | [], _, _, h => h
  | d :: ds, es, h, g => by
    have h1 := h.1
    have h2 := h.2
    rw [PyData.canLayAll0, Bool.and_eq_true] at h1
    rw [PyData.depthAll] at h2
    have h3 := Nat.max_le.mp h2
    exact shp_cons ⟨h1.1, h3.1⟩ (shp_app ⟨h1.2, h3.2⟩ g)
theorem Shp.shaped {d : PyData} {k : Nat} (h : Shp d k) (l : k ≤ 64) : SeqAt.shaped d = true := by
  unfold SeqAt.shaped
  rw [h.1, decide_eq_true (Nat.le_trans h.2 l)]
  rfl
theorem dp_ints {K : PySem.W.Frag} {H : Hp} : ∀ ns : List Int, DpAll K H (ns.map V.int) (ns.map PyData.int)
  | [] => .nil
  | n :: r => .cons (.int n) (dp_ints r)
theorem dp_app {K : PySem.W.Frag} {H : Hp} : ∀ {xs ys : List V} {ds es : List PyData}, DpAll K H xs ds → DpAll K H ys es → DpAll K H (xs ++ ys) (ds ++ es)
  | _, _, _, _, .nil, h => h
  | _, _, _, _, .cons a t, h => .cons a (dp_app t h)
section
variable {K : PySem.W.Frag} {H : Hp} {Q : VK} {x y : V} {d e : PyData} {k : Nat}
theorem g_eqD (hx : Dp K H x d) (hy : Dp K H y e) (hs : Shp d 8) (he : d = e) (h : Q (.bl true) H) : rEqX K x y H Q := by
  subst he
  refine .inr ⟨d, d, hx, hy, hs.shaped (by decide), hs.shaped (by decide), ?_⟩
  rw [SeqAt.eqv_refl d hs.1]
  exact h
theorem g_neD (hx : Dp K H x d) (hy : Dp K H y e) (hs : Shp d 8) (he : d = e) (h : Q (.bl false) H) : rNeX K x y H Q := by
  subst he
  refine .inr ⟨d, d, hx, hy, hs.shaped (by decide), hs.shaped (by decide), ?_⟩
  rw [SeqAt.eqv_refl d hs.1]
  exact h
end
local macro_rules | `(tactic| walk_at "eo dp") => `(tactic| first | with_reducible exact Dp.int _ | with_reducible exact Dp.non | with_reducible exact Dp.bl _ | with_reducible exact Dp.str _ | with_reducible assumption | ((with_reducible apply Dp.tup); (walk_at "eo sqT"); (walk_at "eo dps")))
local macro_rules | `(tactic| walk_at "eo dps") => `(tactic| first | with_reducible exact DpAll.nil | with_reducible exact dp_ints _ | ((with_reducible apply dp_app); (walk_at "eo dps"); (walk_at "eo dps")) | ((with_reducible apply DpAll.cons); (walk_at "eo dp"); (walk_at "eo dps")))
local macro_rules | `(tactic| walk_at "eo shp") => `(tactic| first | with_reducible exact shp_int | with_reducible exact shp_non | with_reducible exact shp_bl | (apply shp_tup; (walk_at "eo shps")))
local macro_rules | `(tactic| walk_at "eo shps") => `(tactic| first | with_reducible exact shp_nil | with_reducible exact shp_ints _ | ((with_reducible apply shp_app); (walk_at "eo shps"); (walk_at "eo shps")) | ((with_reducible apply shp_cons); (walk_at "eo shp"); (walk_at "eo shps")))
local macro_rules | `(tactic| walk_at "eo step") => `(tactic| first
  | ((with_reducible apply g_neD); (walk_at "eo dp"); (walk_at "eo dp"); (walk_at "eo shp"); rfl)
  | ((with_reducible apply g_eqD); (walk_at "eo dp"); (walk_at "eo dp"); (walk_at "eo shp"); rfl))
/-! ### dicts with int or text keys -/
theorem u1 {n : Nat} (h : n + 64 < cLine) : n + 1 < cLine := by omega
theorem u0 {n : Nat} (h : n + 64 < cLine) : n < cLine := by omega
section
variable {K : PySem.W.Frag} {σ : St} {H : Hp} {Q : VK} {D : Ends} {td ty tv : TE} {a : Addr} {kvs : List (Key × V)} {v : V}
theorem g_dget (h : td σ H fun x H1 => ty σ H1 fun y H2 => ∃ a v, x = .ref a ∧ DGet H2 a y (some v) ∧ Q v H2) : tDGet td ty σ H Q := h
theorem g_dgetI {i : Int} (e : H a = some (.dK kvs)) (l : valV kvs (.inl i) = some v) (h : Q v H) : ∃ a' v, V.ref a = .ref a' ∧ DGet H a' (.int i) (some v) ∧ Q v H := ⟨a, v, rfl, l ▸ DGet.k (k := .inl i) e, h⟩
theorem g_dgetS {i : Str} (e : H a = some (.dK kvs)) (l : valV kvs (.inr i) = some v) (h : Q v H) : ∃ a' v, V.ref a = .ref a' ∧ DGet H a' (.str i) (some v) ∧ Q v H := ⟨a, v, rfl, l ▸ DGet.k (k := .inr i) e, h⟩
theorem g_din (h : ty σ H fun y H1 => td σ H1 fun x H2 => ∃ a o, x = .ref a ∧ DGet H2 a y o ∧ Q (.bl o.isSome) H2) : tDIn ty td σ H Q := h
theorem g_dnin (h : ty σ H fun y H1 => td σ H1 fun x H2 => ∃ a o, x = .ref a ∧ DGet H2 a y o ∧ Q (.bl (!o.isSome)) H2) : tDNotIn ty td σ H Q := h
theorem g_dinI {i : Int} {R : Option V → Prop} (e : H a = some (.dK kvs)) (h : R (valV kvs (.inl i))) : ∃ a' o, V.ref a = .ref a' ∧ DGet H a' (.int i) o ∧ R o := ⟨a, _, rfl, DGet.k (k := .inl i) e, h⟩
theorem g_dinS {i : Str} {R : Option V → Prop} (e : H a = some (.dK kvs)) (h : R (valV kvs (.inr i))) : ∃ a' o, V.ref a = .ref a' ∧ DGet H a' (.str i) o ∧ R o := ⟨a, _, rfl, DGet.k (k := .inr i) e, h⟩
theorem g_dput (h : tv σ H fun v H1 => td σ H1 fun x H2 => ty σ H2 fun y H3 => ∃ a H4, x = .ref a ∧ DPut H3 a y v H4 ∧ D.nx σ H4) : sDPut td ty tv D σ H := h
theorem g_dputI {i : Int} {R : Hp → Prop} (e : H a = some (.dK kvs)) (l : kvs.length < 1000) (h : ∀ H', Ext [a] H H' → H' a = some (.dK (putK kvs (.inl i) v)) → R H') : ∃ a' H4, V.ref a = .ref a' ∧ DPut H a' (.int i) v H4 ∧ R H4 :=
  ⟨a, _, rfl, DPut.k (k := .inl i) e (by rw [sizeLine_eq]; omega), h _ (Ext.wr e rfl) upd_same⟩
theorem g_daug {rd : V → V → Hp → VK → Prop} (h : td σ H fun x H1 => ty σ H1 fun y H2 => ∃ a v, x = .ref a ∧ DGet H2 a y (some v) ∧ tv σ H2 fun y2 H3 => rd v y2 H3 fun z H4 => ∃ H5, DPut H4 a y z H5 ∧ D.nx σ H5) : sDAug td ty tv rd D σ H := h
theorem g_daugI {i : Int} {R : Addr → V → Prop} (e : H a = some (.dK kvs)) (l : valV kvs (.inl i) = some v) (h : R a v) : ∃ a' v, V.ref a = .ref a' ∧ DGet H a' (.int i) (some v) ∧ R a' v := ⟨a, v, rfl, l ▸ DGet.k (k := .inl i) e, h⟩
theorem g_daugI' {i : Int} {R : Hp → Prop} (e : H a = some (.dK kvs)) (l : kvs.length < 1000) (h : ∀ H', Ext [a] H H' → H' a = some (.dK (putK kvs (.inl i) v)) → R H') : ∃ H5, DPut H a (.int i) v H5 ∧ R H5 :=
  ⟨_, DPut.k (k := .inl i) e (by rw [sizeLine_eq]; omega), h _ (Ext.wr e rfl) upd_same⟩
theorem g_dnew {R : V → Hp → Prop} (h : NewO H (.dK []) fun p H' => R (.ref p) H') : tDNewK σ H R := fun p hp => h p _ hp (Ext.new hp) upd_same
end
section
variable {K : PySem.W.Frag} {σ : St} {H : Hp} {te : TE} {D : Ends}
theorem g_tB {R : Bool → Hp → Prop} (h : te σ H fun x H1 => ∃ c, x = .bl c ∧ R c H1) : tB te σ H R := h
end
local macro_rules | `(tactic| walk_at "eo kl") => `(tactic| first | with_reducible assumption | omega | exact lt1000)
local macro_rules | `(tactic| walk_at "eo step") => `(tactic| first
  | with_reducible refine g_dget ?_
  | ((with_reducible apply g_dgetI); (walk_at "eo fact"); (with_reducible assumption))
  | ((with_reducible apply g_dgetS); (walk_at "eo fact"); (with_reducible assumption))
  | with_reducible refine g_din ?_
  | with_reducible refine g_dnin ?_
  | ((with_reducible apply g_dinI); (walk_at "eo fact"))
  | ((with_reducible apply g_dinS); (walk_at "eo fact"))
  | with_reducible refine g_dput ?_
  | ((with_reducible apply g_dputI); (walk_at "eo fact"); (walk_at "eo kl"); intro _ _ _)
  | with_reducible refine g_daug ?_
  | ((with_reducible apply g_daugI); (walk_at "eo fact"); (with_reducible assumption))
  | ((with_reducible apply g_daugI'); (walk_at "eo fact"); (walk_at "eo kl"); intro _ _ _)
  | with_reducible refine g_dnew ?_
  | with_reducible refine g_tB ?_)
/-! ### loops, joins, rows of numbers -/
def asgScope (s : Stmt) : Scope := match s with
  | .Assign _ (.ListComp _ _ sc _) _ => sc
  | .Return (some (.Call _ [.ListComp _ _ sc _] _ _)) _ => sc
  | _ => { kind := .function, names := [], isGenerator := false, isCoroutine := false }
/-- a comprehension's scope within a def whose scope is o -/
def relS (s o : Scope) : Scope := { s with names := s.names.map fun (n, k) => if (k == .free && o.kind == .function && o.names.lookup n == some .cell) then (n, .cell) else (n, k) }
def strB (b : Bool) : Str := if b then "True" else "False"
def rReprB : List V → Hp → VK → Prop := fun xs H Q => ∃ b, xs = [.bl b] ∧ Q (.str (strB b)) H
theorem o_repr {X : Cx} : CallR X (.builtin "repr") rReprB := by
  intro pins s σ H xs us Q I r h
  obtain ⟨b, rfl, q⟩ := h
  obtain ⟨u, rfl, rb⟩ := vals1 r
  cases (show u = Value.bool b from rb)
  exact PySem.P.repr_of_bool ⟨.str (strB b), H, I.tok _, ⟨s.toks, rfl⟩, q⟩
theorem g_repr {b : Bool} {H : Hp} {Q : VK} (h : Q (.str (strB b)) H) : rReprB [.bl b] H Q := ⟨b, rfl, h⟩
section
variable {K : PySem.W.Frag} {σ : St} {H : Hp} {Q : VK} {D : Ends} {t u : TS}
theorem g_join (J : L2.St → Hp → Prop) (h : t { D with nx := J } σ H) (h2 : ∀ σ' H', J σ' H' → u D σ' H') : tJoin t u D σ H := ⟨J, h, h2⟩
theorem g_while {c : TT} (W : Nat → L2.St → Hp → Prop) (m : Nat) (h0 : W m σ H)
    (h : ∀ m σ H, W m σ H → c σ H fun b H1 => if b = true then ∃ N : L2.St → Hp → Prop, (∀ σ' H', N σ' H' → ∃ m', m' < m ∧ W m' σ' H') ∧ t { D with nx := N, ct := N, bk := D.nx } σ H1 else D.nx σ H1) : tWhile c t D σ H := ⟨W, ⟨m, h0⟩, h⟩
theorem g_loop {W : Nat → L2.St → Hp → Prop} {m : Nat} (h : t { D with nx := fun σ' H' => ∃ m', m' < m ∧ W m' σ' H', ct := fun σ' H' => ∃ m', m' < m ∧ W m' σ' H', bk := D.nx } σ H) :
    ∃ N : L2.St → Hp → Prop, (∀ σ' H', N σ' H' → ∃ m', m' < m ∧ W m' σ' H') ∧ t { D with nx := N, ct := N, bk := D.nx } σ H := ⟨_, fun _ _ z => z, h⟩
theorem g_rSub {i j : Int} (h : Q (.int (i - j)) H) : rSub (.int i) (.int j) H Q := ⟨i, j, rfl, rfl, h⟩
theorem cutI {xs : List Int} {y r : Int} (h : 0 ≤ r) : cutV (xs.map V.int ++ [.int y]) none (some r) = ((xs ++ [y]).take r.toNat).map V.int := by
  have e : r = ((r.toNat : Nat) : Int) := (Int.toNat_of_nonneg h).symm
  rw [e, cut_to, List.map_take, List.map_append]
  rfl
theorem inV_int (n : Int) : ∀ ns : List Int, inV (.int n) (ns.map V.int) = decide (n ∈ ns)
  | [] => rfl
  | a :: r => by
    show (eqV (.int a) (.int n) || inV (.int n) (r.map V.int)) = _
    rw [inV_int n r]
    show (decide (a = n) || decide (n ∈ r)) = decide (n ∈ a :: r)
    by_cases c : a = n
    · subst c; simp
    · have c' : ¬ n = a := fun e => c e.symm
      simp [c, c']
theorem flat_ints : ∀ ns : List Int, (ns.map V.int).all flatV = true
  | [] => rfl
  | _ :: r => by simp only [List.map_cons, List.all_cons, flat_ints r, flatV, Bool.and_self]
theorem g_inLI {n : Int} {p : Addr} {ns : List Int} (e : SqL K H p (ns.map V.int)) (h : Q (.bl (decide (n ∈ ns))) H) : rIn K false (.int n) (.ref p) H Q := g_inL e rfl (flat_ints ns) (by rw [inV_int]; exact h)
theorem g_ninLI {n : Int} {p : Addr} {ns : List Int} (e : SqL K H p (ns.map V.int)) (h : Q (.bl (!decide (n ∈ ns))) H) : rIn K true (.int n) (.ref p) H Q := g_ninL e rfl (flat_ints ns) (by rw [inV_int]; exact h)
theorem g_pop0 {l : Addr} {x : V} {xs : List V} (e : H l = some (.lst (x :: xs))) (h : ∀ H', Ext [l] H H' → H' l = some (.lst xs) → Q x H') : rPopAt (.ref l) [.int 0] H Q :=
  ⟨l, x :: xs, 0, 0, x, rfl, rfl, e, by decide, by decide, by simp [seqIndex?], rfl, h _ (Ext.wr e rfl) upd_same⟩
end
local macro_rules | `(tactic| walk_at "eo step") => `(tactic| first
  | ((with_reducible apply g_pop0); (walk_at "eo fact"); (intro _ _ _))
  | ((with_reducible apply g_inLI); (walk_at "eo sqL"))
  | ((with_reducible apply g_ninLI); (walk_at "eo sqL"))
  | with_reducible refine g_rSub ?_
  | with_reducible refine g_repr ?_
  | with_reducible refine g_loop ?_)
/-! ### comprehensions, told by a list of what they hold -/
section
variable {α : Type} {J : It} {n : Nat} {G : Hp → Prop} {Y : Nat → Hp → V → Hp → Prop} {g : TG} {te tk tv : TE} {vs : List Nat} {σ : L2.St} {H1 : Hp} {Q : VK} {R : Hp → V → α → Prop}
theorem g_lcR (w : Walk J n G Y) (R : Hp → V → α → Prop) (hR : ∀ {H H' : Hp} {A : List Addr} {x : V} {a : α}, Ext A H H' → R H x a → R H' x a) (L : List α) (hL : n = L.length) (hn : n ≤ 1000) (hG : ∀ H, Ext [] H1 H → G H)
    (hs : ∀ i x H H' b, L[i]? = some b → Ext [] H1 H → Y i H x H' → stG g x (wipe σ vs) H' fun σ2 H2 => wipe σ2 vs = wipe σ vs ∧ stE te σ2 H2 fun y H3 => Ext [] H H3 ∧ R H3 y b)
    (hd : ∀ D H acc, Ext [] H1 H → H1 D = none → LR R H acc L → H D = some (.lst acc) → Q (.ref D) H) : LcGoal J (stG g) (stT tYes) (stE te) vs σ H1 Q := by
  refine g_lcW w (fun D i H acc => Ext [] H1 H ∧ H1 D = none ∧ LR R H acc (L.take i)) ?_ ?_ ?_ ?_
  · intro D H' n0 e _
    exact ⟨e, n0, trivial⟩
  · rintro D i H acc _ ⟨e, _⟩
    exact hG H e
  · rintro D i x H H' acc hi ⟨e, n0, hA⟩ hD hY
    have hi' : i < L.length := by omega
    have hb : L[i]? = some L[i] := List.getElem?_eq_getElem hi'
    refine (hs i x H H' _ hb e hY).mono fun σ2 H2 ⟨q1, q2⟩ => ⟨q1, g_stT (g_yes ?_)⟩
    rw [if_pos rfl]
    refine stE.mono q2 fun y H3 ⟨e3, r3⟩ => ⟨e3.keep _ _ hD nin0, ?_, fun H5 e5 h5 => ⟨?_, n0, ?_⟩⟩
    · rw [hA.len, List.length_take, sizeLine_eq]; omega
    · exact (e.trans e3 (fun _ z => z) (fun _ z => by cases z)).trans e5 (fun _ z => z) (fun x hx ⟨o, ho⟩ => by rw [List.mem_singleton.mp hx, n0] at ho; cases ho)
    · rw [List.take_succ, hb]
      exact LR.snoc ((hA.imp fun _ _ => hR e3).imp fun _ _ => hR e5) (hR e5 r3)
  · rintro D H acc ⟨e, n0, hA⟩ hD
    rw [hL, List.take_length] at hA
    exact hd D H acc e n0 hA hD
theorem g_lcD {d sc : Addr} (w : Walk J n G Y) (R : Hp → V → α → Prop) (Good : Nat → α → Prop) (hR : ∀ {H H' : Hp} {A : List Addr} {x : V} {a : α}, Ext A H H' → R H x a → R H' x a) (hn : n ≤ 1000) (h1 : DSt H1 d sc) (hG : ∀ H, Ext [d] H1 H → G H)
    (hs : ∀ i x H H', i < n → Ext [d] H1 H → DSt H d sc → Y i H x H' → stG g x (wipe σ vs) H' fun σ2 H2 => wipe σ2 vs = wipe σ vs ∧ stE te σ2 H2 fun y H3 => Ext [d] H H3 ∧ DSt H3 d sc ∧ ∃ b, Good i b ∧ R H3 y b)
    (hd : ∀ D H acc L, Ext [d] H1 H → DSt H d sc → H1 D = none → D ≠ d → D ≠ sc → L.length = n → (∀ i b, L[i]? = some b → Good i b) → LR R H acc L → H D = some (.lst acc) → Q (.ref D) H) : LcGoal J (stG g) (stT tYes) (stE te) vs σ H1 Q := by
  refine g_lcW w (fun D i H acc => Ext [d] H1 H ∧ DSt H d sc ∧ H1 D = none ∧ D ≠ d ∧ D ≠ sc ∧ ∃ L, L.length = i ∧ (∀ i b, L[i]? = some b → Good i b) ∧ LR R H acc L) ?_ ?_ ?_ ?_
  · intro D H' n0 e _
    exact ⟨e.mono (fun _ z => by cases z), h1.ext e nin0 nin0, n0, (ne_dst1 n0 h1).symm, (ne_dst2 n0 h1).symm, [], rfl, fun i b h => by simp at h, trivial⟩
  · rintro D i H acc _ ⟨e, _⟩
    exact hG H e
  · rintro D i x H H' acc hi ⟨e, hS, n0, nd, ns, L, hL, hg, hA⟩ hD hY
    refine (hs i x H H' hi e hS hY).mono fun σ2 H2 ⟨q1, q2⟩ => ⟨q1, g_stT (g_yes ?_)⟩
    rw [if_pos rfl]
    refine stE.mono q2 fun y H3 ⟨e3, hS3, b, gb, r3⟩ => ⟨e3.keep _ _ hD (nin1 nd), ?_, fun H5 e5 h5 => ⟨?_, hS3.ext e5 (nin1 nd.symm) (nin1 ns.symm), n0, nd, ns, L ++ [b], ?_, ?_, ?_⟩⟩
    · rw [hA.len, hL, sizeLine_eq]; omega
    · exact (e.trans e3 (fun _ z => z) (fun _ z _ => z)).trans e5 (fun _ z => z) (fun x hx ⟨o, ho⟩ => by rw [List.mem_singleton.mp hx, n0] at ho; cases ho)
    · rw [List.length_append, List.length_singleton, hL]
    · intro j c hj
      by_cases q : j < L.length
      · rw [List.getElem?_append_left q] at hj
        exact hg j c hj
      · rw [List.getElem?_append_right (by omega)] at hj
        have : j - L.length = 0 := by
          have := (List.getElem?_eq_some_iff.mp hj).1
          rw [List.length_singleton] at this
          omega
        rw [this] at hj
        cases hj
        rw [show j = i by omega]
        exact gb
    · exact LR.snoc ((hA.imp fun _ _ => hR e3).imp fun _ _ => hR e5) (hR e5 r3)
  · rintro D H acc ⟨e, hS, n0, nd, ns, L, hL, hg, hA⟩ hD
    exact hd D H acc L e hS n0 nd ns hL hg hA hD
end
def IsV (_ : Hp) (x : V) (v : V) : Prop := x = v
theorem lr_v {H : Hp} : ∀ {xs L : List V}, LR IsV H xs L → xs = L
  | [], [], _ => rfl
  | _ :: _, _ :: _, ⟨h1, h⟩ => by rw [show _ = _ from h1, lr_v h]
  | [], _ :: _, h => h.elim
  | _ :: _, [], h => h.elim
def IsI (_ : Hp) (x : V) (n : Int) : Prop := x = .int n
theorem lr_i {H : Hp} : ∀ {xs : List V} {L : List Int}, LR IsI H xs L → xs = L.map V.int
  | [], [], _ => rfl
  | _ :: _, _ :: _, ⟨h1, h⟩ => by rw [show _ = _ from h1, lr_i h]; rfl
  | [], _ :: _, h => h.elim
  | _ :: _, [], h => h.elim
/-! ### texts and packets on the heap -/
abbrev Sx (l : List Nat) : Str := ⟨l.toArray⟩
abbrev WS (w : List Nat) : V := .str (Sx w)
abbrev kS (k : Nat) : V := WS (kW k)
/-- what a packet's tuple holds -/
def pkV (p : Pk) (b : Addr) : List V := [.int p.s, .int p.g, kS p.k, .int p.l, .int p.n, .int p.p, .bl p.m, .ref b]
def PkAt (K : PySem.W.Frag) (H : Hp) (t : Addr) (p : Pk) : Prop := ∃ b, SqT K H t (pkV p b) ∧ SqT K H b (p.b.map V.int)
theorem PkAt.ext {K : PySem.W.Frag} {A : List Addr} {H H' : Hp} {t : Addr} {p : Pk} (e : Ext A H H') : PkAt K H t p → PkAt K H' t p := fun ⟨b, h1, h2⟩ => ⟨b, sqT_ext e h1, sqT_ext e h2⟩
def RdAt (C : Addr) (H : Hp) (r : Addr) (ws : List (List Nat)) (i : Nat) : Prop := ∃ dx W, H r = some (.ins C dx [("words", .ref W), ("at", .int i)]) ∧ H W = some (.lst (ws.map WS))
theorem RdAt.ext {C r : Addr} {A : List Addr} {H H' : Hp} {ws : List (List Nat)} {i : Nat} (e : Ext A H H') (h : RdAt C H r ws i) (n : ∀ x ∈ A, H x = none) : RdAt C H' r ws i := by
  obtain ⟨dx, W, h1, h2⟩ := h
  exact ⟨dx, W, e.keep _ _ h1 fun z => (by rw [n _ z] at h1; cases h1), e.keep _ _ h2 fun z => (by rw [n _ z] at h2; cases h2)⟩
def spSum (K : PySem.W.Frag) : Sp := fun vs H Q _ => ∃ (a : Addr) (ns : List Int), vs = [.ref a] ∧ SqT K H a (ns.map V.int) ∧ ns.length < 128 ∧ Q (.int (sm ns)) H
def spPacked (K : PySem.W.Frag) : Sp := fun vs H Q _ => ∃ (a : Addr) (p : Pk), vs = [.ref a] ∧ PkAt K H a p ∧ p.k < 4 ∧ p.b.length ≤ 512 ∧ ∀ c H', Ext [] H H' → SqT K H' c ((pkd p).map V.int) → Q (.ref c) H'
def spUnpacked (K : PySem.W.Frag) : Sp := fun vs H Q _ => ∃ (a : Addr) (ns : List Int), vs = [.ref a] ∧ SqT K H a (ns.map V.int) ∧ Oct ns ∧ ns.length ≤ 1000 ∧ (unp ns = none → ∀ H', Ext [] H H' → Q .non H') ∧ ∀ p, unp ns = some p → ∀ c H', Ext [] H H' → PkAt K H' c p → Q (.ref c) H'
/-- the text of a packet -/
def txt (p : Pk) : List Nat := TL.joinL [32] (wsO p)
def spFormat (K : PySem.W.Frag) : Sp := fun vs H Q _ => ∃ (a : Addr) (p : Pk), vs = [.ref a] ∧ PkAt K H a p ∧ PkOk p ∧ ∀ H', Ext [] H H' → Q (.str (Sx (txt p))) H'
def exA (C : Addr) (i : Nat) (A : List Addr) (H : Hp) (E : XK) : Prop := ∀ d H', Ext A H H' → H' d = some (.xd [("at", .int i), ("code", .str "form")]) → E (.ref C) (some d) H'
def spRInit (C : Addr) : Sp := fun vs H Q _ => ∃ (r dx : Addr) (l : List Nat), vs = [.ref r, .str (Sx l)] ∧ H r = some (.ins C dx []) ∧ l.length ≤ 100000 ∧ ∀ H', Ext [r] H H' → RdAt C H' r (toks l) 0 → Q .non H'
def spHead (C : Addr) : Sp := fun vs H Q _ => ∃ (r : Addr) (ws : List (List Nat)) (i : Nat), vs = [.ref r] ∧ RdAt C H r ws i ∧ Q (WS (gw ws i)) H
def spFail (C X : Addr) : Sp := fun vs H _ E => ∃ (r : Addr) (ws : List (List Nat)) (i : Nat), vs = [.ref r] ∧ RdAt C H r ws i ∧ (i : Int) < 1000000 ∧ exA X i [] H E
def spNeed (C X : Addr) : Sp := fun vs H Q E => ∃ (r : Addr) (ws : List (List Nat)) (i : Nat) (w : List Nat), vs = [.ref r, WS w] ∧ RdAt C H r ws i ∧ i < 900000 ∧ (gw ws i = w → ∀ H', Ext [r] H H' → RdAt C H' r ws (i + 1) → Q .non H') ∧ (gw ws i ≠ w → exA X i [r] H E)
def spNumber (C X : Addr) : Sp := fun vs H Q E => ∃ (r : Addr) (ws : List (List Nat)) (i : Nat) (most : Int), vs = [.ref r, .int most] ∧ RdAt C H r ws i ∧ i < 900000 ∧ (∀ w ∈ ws, w.length ≤ 100000) ∧ (∀ v, numW (gw ws i) most = some v → ∀ H', Ext [r] H H' → RdAt C H' r ws (i + 1) → Q (.int v) H') ∧ (numW (gw ws i) most = none → exA X i [r] H E)
def spNamed (C X : Addr) : Sp := fun vs H Q E => ∃ (r : Addr) (ws : List (List Nat)) (i : Nat) (w : List Nat) (most : Int), vs = [.ref r, WS w, .int most] ∧ RdAt C H r ws i ∧ i < 800000 ∧ (∀ w ∈ ws, w.length ≤ 100000) ∧ (gw ws i ≠ w → exA X i [r] H E) ∧ (gw ws i = w → (numW (gw ws (i + 1)) most = none → exA X (i + 1) [r] H E) ∧ ∀ v, numW (gw ws (i + 1)) most = some v → ∀ H', Ext [r] H H' → RdAt C H' r ws (i + 2) → Q (.int v) H')
def spParse (K : PySem.W.Frag) (X : Addr) : Sp := fun vs H Q E => ∃ (l : List Nat), vs = [.str (Sx l)] ∧ l.length ≤ 100000 ∧ (∀ i, pars (toks l) = .inr i → exA X i [] H E) ∧ ∀ p, pars (toks l) = .inl p → ∀ c H', Ext [] H H' → PkAt K H' c p → Q (.ref c) H'
def spRead (K : PySem.W.Frag) : Sp := fun vs H Q _ => ∃ (l : List Nat), vs = [.str (Sx l)] ∧ l.length ≤ 100000 ∧ (∀ i : Nat, pars (toks l) = .inr i → ∀ c H', Ext [] H H' → SqT K H' c [.str "form", .int i] → Q (.ref c) H') ∧ ∀ p, pars (toks l) = .inl p → ∀ c H', Ext [] H H' → PkAt K H' c p → Q (.ref c) H'
def spPacket (K : PySem.W.Frag) : Sp := fun vs H Q _ => ∃ (d s : Addr), vs = [.ref d] ∧ DSt H d s ∧ ∀ c p H', Ext [d] H H' → DSt H' d s → PkAt K H' c p → PkOk p → p.b.length ≤ 24 → Q (.ref c) H'
def spXInit2 (C : Addr) : Sp := fun vs H Q _ => ∃ a z i, vs = [.ref a, .str z, .int i] ∧ z.length ≤ 100 ∧ 0 ≤ i ∧ i < 1000000 ∧ H a = some (exo a C none) ∧ ∀ dx, H dx = none → dx ≠ a → Q .non (upd (upd (upd H dx (exd dx [("code", .str z)])) a (exo a C (some dx))) dx (exd dx [("at", .int i), ("code", .str z)]))
/-! ### steps over texts -/
theorem kk_truth {X : Cx} {K : PySem.W.Frag} {a : Expr} {ta : TE} (h : X.K = K) (ha : PE X a ta) (he : ∀ whole, isTrue a X.env whole = (do let v ← whole; standAt a.pos; holding [v] (truthy v))) :
    PT X a (fun σ H Q => ta σ H fun x H' => ∃ k, TruV K x H' k ∧ Q k H') := h ▸ pt_truth ha he
section
variable {K : PySem.W.Frag} {σ : L2.St} {H : Hp} {Q : VK}
theorem ws_inj {a b : List Nat} : WS a = WS b ↔ a = b := ⟨fun h => by
  unfold WS at h
  exact SX.S_inj (V.str.inj h), fun h => h ▸ rfl⟩
theorem sx_len (l : List Nat) : (Sx l).length = l.length := by simp [Sx, Str.length]
theorem sx_cat (a b : List Nat) : Sx a ++ Sx b = Sx (a ++ b) := SX.S_cat a b
theorem map_ws (ws : List (List Nat)) : (ws.map Sx).map V.str = ws.map WS := by rw [List.map_map]; rfl
theorem g_truS {z : Str} {R : Bool → Prop} (e : z.length ≤ sizeLine) (h : R ((z.length : Int) != 0)) : ∃ k, TruV K (.str z) H k ∧ R k := ⟨_, ⟨e, rfl⟩, h⟩
theorem g_ixS {z : Str} {i : Int} {c : Nat} (e : z.length ≤ sizeLine) (a : atI z.cps.toList i = some c) (h : Q (.str ⟨#[c]⟩) H) : rIx K (.str z) (.int i) H Q := .inr (.inr ⟨z, i, c, rfl, rfl, e, a, h⟩)
theorem g_iStr {te : TE} {R : It → Hp → Prop} (h : te σ H fun v H1 => ∃ x, v = .str x ∧ R (Its x) H1) : iStr te σ H R := h
theorem g_itSl {g : TG} {te : TE} {tt : TT} {vs : List Nat} {z : Str} (h : LcGoal (Its z) g tt te vs σ H Q) : ∃ x, V.str z = .str x ∧ LcGoal (Its x) g tt te vs σ H Q := ⟨z, rfl, h⟩
theorem g_itSf {g : TG} {tb : TS} {D : Ends} {z : Str} (h : ForGoal (Its z) g tb D σ H) : ∃ x, V.str z = .str x ∧ ForGoal (Its x) g tb D σ H := ⟨z, rfl, h⟩
theorem g_m1 {r : V → List V → Hp → VK → Prop} {to te : TE} (h : to σ H fun x H1 => (∃ a, x = .str a) ∧ te σ H1 fun y H2 => r x [y] H2 Q) : tM1 r to te σ H Q := h
theorem g_isS {a : Str} {R : Prop} (h : R) : (∃ a', V.str a = .str a') ∧ R := ⟨⟨a, rfl⟩, h⟩
theorem nw_str {i : Int} (h : 0 ≤ i) : (toString i : Str) = Sx (nw i) := by
  have e : ((i.toNat : Nat) : Int) = i := Int.toNat_of_nonneg h
  have := SX.num_S i.toNat
  rw [e] at this
  exact this
theorem log_small {n : Nat} (h : n < 2 ^ 64) : n.log2 < 1920 := by
  by_cases c : n = 0
  · subst c; decide
  · exact Nat.lt_of_lt_of_le ((Nat.log2_lt c).mpr h) (by decide)
def rStrI : List V → Hp → VK → Prop := fun xs H Q => match xs with
  | [.int i] => 0 ≤ i ∧ i < 1000000 ∧ Q (.str (Sx (nw i))) H
  | _ => False
theorem o_strI {X : Cx} : CallR X (.type "str") rStrI := by
  intro pins s σ H xs us Q I r h
  unfold rStrI at h
  split at h
  · obtain ⟨h0, h1, q⟩ := h
    exact call_str_int pins s σ H _ us Q I r ⟨_, rfl, log_small (by omega), by rw [nw_str h0]; exact q⟩
  · exact h.elim
theorem g_strI {i : Int} (h0 : 0 ≤ i) (h1 : i < 1000000) (h : Q (.str (Sx (nw i))) H) : rStrI [.int i] H Q := ⟨h0, h1, h⟩
theorem g_split {l : List Nat} {b : Str} (hb : b = Sx [32]) (hl : l.length ≤ 1000000) (h : NewO H (.lst ((TL.spl [32] 0 [] l).map WS)) fun p H' => Q (.ref p) H') :
    ∃ a b', V.str (Sx l) = .str a ∧ [V.str b] = [.str b'] ∧ (b'.length == 0) = false ∧ a.length + 2 ≤ sizeLine ∧ rNewStrs (Txt.split a b') H Q := by
  subst hb
  refine ⟨_, _, rfl, rfl, by decide, by rw [sx_len, sizeLine_eq]; omega, fun p hp => ?_⟩
  have e : Txt.split (Sx l) (Sx [32]) = (TL.spl [32] 0 [] l).map Sx := SX.split_S (by decide) (by decide)
  rw [e, map_ws]
  exact h.raw p hp
def rJoinW (K : PySem.W.Frag) : V → List V → Hp → VK → Prop := fun x xs H Q => match x, xs with
  | .str b, [.ref p] => ∃ (sep : List Nat) (ws : List (List Nat)), b = Sx sep ∧ (SqL K H p (ws.map WS) ∨ SqT K H p (ws.map WS)) ∧ (ws.map List.length).sum + ws.length * sep.length ≤ 16777216 ∧ Q (.str (Sx (TL.joinL sep ws))) H
  | _, _ => False
theorem mt_joinW {X : Cx} : MtR X "str.join" (rJoinW X.K) := by
  intro pins s σ H x xs v us Q I rx rs h
  unfold rJoinW at h
  split at h
  · rename_i b p
    obtain ⟨sep, ws, rfl, hp, hz, q⟩ := h
    refine mt_join pins s σ H _ _ v us Q I rx rs ⟨_, p, ws.map Sx, rfl, rfl, by rw [map_ws]; exact hp, ?_, ?_⟩
    · rw [sx_len, List.length_map, List.map_map, show (fun x : Str => x.length) ∘ Sx = List.length from funext sx_len]
      exact hz
    · have e : Txt.join (Sx sep) (ws.map Sx) = Sx (TL.joinL sep ws) := SX.join_S sep ws
      rw [e]
      exact q
  · exact h.elim
theorem g_joinW {p : Addr} {b : Str} {sep : List Nat} {ws : List (List Nat)} (hb : b = Sx sep) (hp : SqL K H p (ws.map WS) ∨ SqT K H p (ws.map WS)) (hz : (ws.map List.length).sum + ws.length * sep.length ≤ 16777216) (h : Q (.str (Sx (TL.joinL sep ws))) H) :
    rJoinW K (.str b) [.ref p] H Q := ⟨sep, ws, hb, hp, hz, h⟩
theorem eqV_ws (a b : List Nat) : eqV (WS a) (WS b) = decide (a = b) := by
  show decide (Sx a = Sx b) = decide (a = b)
  rw [Bool.eq_iff_iff, decide_eq_true_eq, decide_eq_true_eq]
  exact ⟨SX.S_inj, fun h => h ▸ rfl⟩
theorem inV_ws (w : List Nat) : ∀ ws : List (List Nat), inV (WS w) (ws.map WS) = decide (w ∈ ws)
  | [] => rfl
  | v :: r => by
    show (eqV (WS v) (WS w) || inV (WS w) (r.map WS)) = _
    rw [inV_ws w r, eqV_ws, Bool.eq_iff_iff]
    simp only [Bool.or_eq_true, decide_eq_true_eq, List.mem_cons]
    exact ⟨fun h => h.imp Eq.symm id, fun h => h.imp Eq.symm id⟩
theorem dec_ws {a b : List Nat} : decide (WS a = WS b) = decide (a = b) := by
  rw [Bool.eq_iff_iff, decide_eq_true_eq, decide_eq_true_eq]
  exact ws_inj
theorem shp_str {z : Str} {k : Nat} (h : PyData.strOk z = true) : Shp (.str z) k := ⟨by simp only [PyData.canLay0]; exact h, Nat.zero_le _⟩
end
/-- a comprehension that makes nothing new but its list -/
theorem g_lcP {J : It} {n : Nat} {G : Hp → Prop} {Y : Nat → Hp → V → Hp → Prop} {g : TG} {tt : TT} {te : TE} {vs : List Nat} {σ : L2.St} {H1 : Hp} {Q : VK} (w : Walk J n G Y) (F : Nat → List V) (h0 : F 0 = []) (hn : n ≤ 1000000) (hl : ∀ i, (F i).length ≤ i) (hG : ∀ H, Ext [] H1 H → G H)
    (hs : ∀ i x H H', i < n → Ext [] H1 H → Y i H x H' → stG g x (wipe σ vs) H' fun σ2 H2 => wipe σ2 vs = wipe σ vs ∧ stT tt σ2 H2 fun b H3 => if b = true then stE te σ2 H3 fun y H4 => H4 = H ∧ F (i + 1) = F i ++ [y] else H3 = H ∧ F (i + 1) = F i)
    (hd : ∀ D H, Ext [] H1 H → H1 D = none → H D = some (.lst (F n)) → Q (.ref D) H) : LcGoal J (stG g) (stT tt) (stE te) vs σ H1 Q := by
  refine g_lcW w (fun D i H acc => Ext [] H1 H ∧ H1 D = none ∧ acc = F i) ?_ ?_ ?_ ?_
  · intro D H' n0 e _
    exact ⟨e, n0, h0.symm⟩
  · rintro D i H acc _ ⟨e, _⟩
    exact hG H e
  · rintro D i x H H' acc hi ⟨e, n0, rfl⟩ hD hY
    refine (hs i x H H' hi e hY).mono fun σ2 H2 ⟨q1, q2⟩ => ⟨q1, q2.mono fun b H3 q3 => ?_⟩
    cases b with
    | true =>
      rw [if_pos rfl] at q3 ⊢
      refine stE.mono q3 fun y H4 ⟨e4, e5⟩ => ?_
      subst e4
      refine ⟨hD, ?_, fun H5 x5 h5 => ⟨e.trans x5 (fun _ z => z) (fun x hx ⟨o, ho⟩ => by rw [List.mem_singleton.mp hx, n0] at ho; cases ho), n0, e5.symm⟩⟩
      have := hl i
      rw [sizeLine_eq]; omega
    | false =>
      rw [if_neg (by decide)] at q3 ⊢
      obtain ⟨e4, e5⟩ := q3
      subst e4
      exact ⟨⟨e, n0, e5.symm⟩, hD⟩
  · rintro D H acc ⟨e, n0, rfl⟩ hD
    exact hd D H e n0 hD
theorem ext_mk2 {H : Hp} {a dx : Addr} {o1 o2 o3 o4 o5 : HO} (ha : H a = none) (hd : H dx = none) : Ext [] H (upd (del (upd (upd (upd (upd H a o1) dx o2) a o3) dx o4) a) dx o5) := by
  have k : ∀ b o, H b = some o → upd (del (upd (upd (upd (upd H a o1) dx o2) a o3) dx o4) a) dx o5 b = some o := fun b o e => by
    have n1 := ne_of_none e ha
    have n2 := ne_of_none e hd
    rw [upd_ne n2, del_ne n1, upd_ne n2, upd_ne n1, upd_ne n2, upd_ne n1]
    exact e
  exact ⟨fun b o e _ => k b o e, fun b o e _ => k b o e⟩
theorem g_mk2 {C : Addr} {z : Str} {i : Int} {ta : TA} {σ : L2.St} {H : Hp} {QX : XK} (hz : z.length ≤ 100) (i0 : 0 ≤ i) (i1 : i < 1000000) (hta : ∀ R : List V → Hp → Prop, R [.str z, .int i] H → ta σ H R)
    (h : ∀ d H', Ext [] H H' → H' d = some (.xd [("at", .int i), ("code", .str z)]) → QX (.ref C) (some d) H') : tMkO C (spXInit2 C) [] ta σ H QX := by
  refine hta _ ⟨(show 2 ≤ 1000 by decide), fun a ha => ⟨a, z, i, rfl, hz, i0, i1, upd_same, fun dx hdx ne => ⟨rfl, dx, [("at", .int i), ("code", .str z)], by rw [upd_ne ne.symm]; exact upd_same, upd_same, ?_, ?_⟩⟩⟩
  · rw [upd_ne ne] at hdx
    exact hdx
  · rw [upd_ne ne] at hdx
    exact h dx _ (ext_mk2 ha hdx) upd_same
theorem gw_get {ws : List (List Nat)} {i : Nat} (h : i < ws.length) : atI (ws.map WS) (i : Int) = some (WS (gw ws i)) := by
  refine atI_nat ?_
  rw [List.getElem?_map]
  unfold gw
  rw [List.getElem?_eq_getElem h]
  rfl
theorem gw_out {ws : List (List Nat)} {i : Nat} (h : ws.length ≤ i) : gw ws i = [] := by
  unfold gw
  rw [List.getElem?_eq_none h]
  rfl
theorem gw_len {ws : List (List Nat)} {n : Nat} (h : ∀ w ∈ ws, w.length ≤ n) (i : Nat) : (gw ws i).length ≤ n := by
  unfold gw
  cases e : ws[i]? with
  | none => exact Nat.zero_le _
  | some w => exact h w (List.mem_of_getElem? e)
local macro_rules | `(tactic| walk_at "eo shp") => `(tactic| (with_reducible apply shp_str; walk_at "eo slen"))
local macro_rules | `(tactic| walk_at "eo slen") => `(tactic| first | with_reducible assumption | decide +kernel)
local macro_rules | `(tactic| walk_at "eo step") => `(tactic| first
  | with_reducible refine g_m1 ?_
  | with_reducible refine g_isS ?_
  | with_reducible refine g_iStr ?_
  | with_reducible refine g_itSl ?_
  | with_reducible refine g_itSf ?_
  | with_reducible refine g_methS ?_)
local macro_rules | `(tactic| walk_at "eo sxl") => `(tactic| (rw [sx_len, sizeLine_eq]; omega))
local macro_rules | `(tactic| walk_at "eo step") => `(tactic| first
  | ((with_reducible apply g_lenS); (walk_at "eo sxl"))
  | ((with_reducible apply g_strI); (walk_at "eo arith"); (walk_at "eo arith")))
def digs : List Nat := [48, 49, 50, 51, 52, 53, 54, 55, 56, 57]
theorem dig_mem (c : Nat) : decide (c ∈ digs) = isDig c := by
  unfold isDig
  rw [Bool.eq_iff_iff, Bool.and_eq_true, decide_eq_true_eq, decide_eq_true_eq, decide_eq_true_eq]
  unfold digs
  simp only [List.mem_cons, List.not_mem_nil, or_false]
  omega
theorem digs_lit : ("0123456789" : Str).cps.toList = digs := by decide +kernel
theorem g_inSign {c : Nat} {z : Str} {l : List Nat} {H : Hp} {Q : VK} (hz : z.cps.toList = l) (h : Q (.bl (decide (c ∈ l))) H) : ∃ (c' : Nat) (z' : Str), V.str ⟨#[c]⟩ = .str ⟨#[c']⟩ ∧ V.str z = .str z' ∧ Q (.bl (decide (c' ∈ z'.cps.toList))) H := ⟨c, z, rfl, rfl, by rw [hz]; exact h⟩
theorem int_sx {w : List Nat} (h : w.all isDig = true) (hne : w ≠ []) (hl : w.length ≤ 4300) : intText? (Sx w) = some ((NumText.digitsVal w : Nat) : Int) := SX.int_S h hne hl
theorem flat_ws : ∀ ws : List (List Nat), (ws.map WS).all flatV = true
  | [] => rfl
  | _ :: r => by rw [List.map_cons, List.all_cons, flat_ws r]; rfl
def kinds : List (List Nat) := [kW 0, kW 1, kW 2, kW 3]
theorem kinds_lit : ([.str "data", .str "route", .str "probe", .str "tell"] : List V) = kinds.map WS := by
  have e0 : ("data" : Str) = Sx (kW 0) := by decide +kernel
  have e1 : ("route" : Str) = Sx (kW 1) := by decide +kernel
  have e2 : ("probe" : Str) = Sx (kW 2) := by decide +kernel
  have e3 : ("tell" : Str) = Sx (kW 3) := by decide +kernel
  rw [e0, e1, e2, e3]
  rfl
theorem kind_none {w : List Nat} (h : w ∉ kinds) : kindOf w = none := by
  unfold kindOf
  unfold kinds at h
  simp only [List.mem_cons, List.not_mem_nil, or_false, not_or] at h
  rw [if_neg h.1, if_neg h.2.1, if_neg h.2.2.1, if_neg h.2.2.2]
theorem kind_some {w : List Nat} (h : w ∈ kinds) : ∃ k, kindOf w = some k ∧ w = kW k ∧ k < 4 := by
  unfold kinds at h
  simp only [List.mem_cons, List.not_mem_nil, or_false] at h
  rcases h with rfl | rfl | rfl | rfl
  · exact ⟨0, by decide, rfl, by decide⟩
  · exact ⟨1, by decide, rfl, by decide⟩
  · exact ⟨2, by decide, rfl, by decide⟩
  · exact ⟨3, by decide, rfl, by decide⟩
theorem drop_gw {ws : List (List Nat)} {i : Nat} (h : i < ws.length) : ws.drop i = gw ws i :: ws.drop (i + 1) := by
  unfold gw
  rw [List.drop_eq_getElem_cons h, List.getElem?_eq_getElem h]
  rfl
theorem kS_idx {k : Nat} (h : k < 4) : (kinds.map Sx).idxOf (Sx (kW k)) = k := by
  match k, h with
  | 0, _ => decide +kernel
  | 1, _ => decide +kernel
  | 2, _ => decide +kernel
  | 3, _ => decide +kernel
theorem kS_mem {k : Nat} (h : k < 4) : Sx (kW k) ∈ kinds.map Sx := by
  match k, h with
  | 0, _ => decide +kernel
  | 1, _ => decide +kernel
  | 2, _ => decide +kernel
  | 3, _ => decide +kernel
theorem g_idxT {K : PySem.W.Frag} {H : Hp} {Q : VK} {a : Addr} {k : Nat} (hs : SqT K H a (kinds.map WS)) (h : k < 4) (q : Q (.int k) H) : rTIndexS K (.ref a) [kS k] H Q :=
  ⟨a, kinds.map Sx, Sx (kW k), rfl, rfl, by rw [map_ws]; exact hs, kS_mem h, by rw [kS_idx h]; exact q⟩
theorem g_idxL {K : PySem.W.Frag} {H : Hp} {Q : VK} {a : Addr} {k : Nat} (hs : SqL K H a (kinds.map WS)) (h : k < 4) (q : Q (.int k) H) : rLIndexS K (.ref a) [kS k] H Q :=
  ⟨a, kinds.map Sx, Sx (kW k), rfl, rfl, by rw [map_ws]; exact hs, kS_mem h, by rw [kS_idx h]; exact q⟩
theorem g_ifC {b : Bool} {i j : Int} {σ : L2.St} {H : Hp} {R : VK} (h : R (.int (if b = true then i else j)) H) : if b = true then tC (.int i) σ H R else tC (.int j) σ H R := by
  cases b <;> exact h
theorem pkd_map (p : Pk) : (pkd p).map V.int = (hd p).map V.int ++ [.int (sm (hd p) / 256), .int (sm (hd p) % 256)] ++ p.b.map V.int := by
  unfold pkd
  rw [List.map_append, List.map_append, List.append_assoc]
  rfl
local macro_rules | `(tactic| walk_at "eo cut") => `(tactic| first | exact cut_to | exact cut_from | exact cut_midU)
local macro_rules | `(tactic| walk_at "eo len") => `(tactic| (rw [sizeLine_eq]; simp only [List.length_append, List.length_cons, List.length_nil, List.length_map, List.length_take, List.length_drop]; omega))
theorem at_kinds {i : Int} (h0 : 0 ≤ i) (h1 : i < 4) : atI (kinds.map WS) i = some (kS i.toNat) := by
  have : i = 0 ∨ i = 1 ∨ i = 2 ∨ i = 3 := by omega
  rcases this with rfl | rfl | rfl | rfl <;> rfl
theorem g_ifL {b : Bool} {x : V} {σ : L2.St} {H : Hp} {R : VK} (h : ∀ D H', H D = none → Ext [] H H' → H' D = some (.lst (if b = true then [x] else [])) → R (.ref D) H') : if b = true then tLstX (tCons (tC x) tNil) σ H R else tLstX tNil σ H R := by
  cases b with
  | true => exact ⟨(show 1 ≤ sizeLine by decide), h⟩
  | false => exact ⟨(show 0 ≤ sizeLine by decide), h⟩
theorem dec_int {i j : Int} : decide (V.int i = V.int j) = decide (i = j) := by
  rw [Bool.eq_iff_iff, decide_eq_true_eq, decide_eq_true_eq]
  exact ⟨vint, fun h => h ▸ rfl⟩
theorem wsF_lit (p : Pk) : ([kS p.k, .str (Sx (nw p.s)), .str ">", .str (Sx (nw p.g)), .str "life", .str (Sx (nw p.l)), .str "number", .str (Sx (nw p.n)), .str "place", .str (Sx (nw p.p))] : List V) = (wsF p).map WS := by
  have e0 : (">" : Str) = Sx [62] := by decide +kernel
  have e1 : ("life" : Str) = Sx lifeW := by decide +kernel
  have e2 : ("number" : Str) = Sx numberW := by decide +kernel
  have e3 : ("place" : Str) = Sx placeW := by decide +kernel
  rw [e0, e1, e2, e3]
  rfl
theorem wsM_lit (p : Pk) : (if p.m = true then [.str "more"] else [] : List V) = (wsM p).map WS := by
  have e0 : ("more" : Str) = Sx moreW := by decide +kernel
  rw [e0]
  unfold wsM
  cases p.m <;> rfl
theorem colon_lit : ([.str ":"] : List V) = ([[58]] : List (List Nat)).map WS := by
  have e0 : (":" : Str) = Sx [58] := by decide +kernel
  rw [e0]
  rfl
theorem g_extend {H : Hp} {Q : VK} {l b : Addr} {xs zs : List V} (e : H l = some (.lst xs)) (f : H b = some (.lst zs)) (z : xs.length + zs.length ≤ sizeLine) (h : ∀ H', Ext [l] H H' → H' l = some (.lst (xs ++ zs)) → Q .non H') : rExtend (.ref l) [.ref b] H Q :=
  ⟨l, b, xs, zs, rfl, rfl, e, f, z, h _ (Ext.wr e rfl) upd_same⟩
theorem g_ifStr {b : Bool} {x y : Str} {σ : L2.St} {H : Hp} {R : VK} (h : R (.str (if b = true then x else y)) H) : if b = true then tC (.str x) σ H R else tC (.str y) σ H R := by
  cases b <;> exact h
theorem g_addSx {K : PySem.W.Frag} {H : Hp} {Q : VK} {a : List Nat} {b : Str} (z : a.length + b.cps.toList.length ≤ sizeLine) (h : Q (.str (Sx (a ++ b.cps.toList))) H) : rAddX K (.str (Sx a)) (.str b) H Q := by
  have e : Sx a ++ b = Sx (a ++ b.cps.toList) := by
    conv => lhs; rw [show b = Sx b.cps.toList from (SX.S_tl b).symm]
    exact sx_cat _ _
  refine g_addS ?_ (by rw [e]; exact h)
  rw [sx_len, TL.len_tl]
  exact z
theorem sx_tl (a : List Nat) : (Sx a).cps.toList = a := rfl
local macro_rules | `(tactic| walk_at "eo alen") => `(tactic| (rw [sizeLine_eq]; (try simp only [List.length_append, List.length_cons, List.length_nil, List.length_replicate, sx_tl]); omega))
local macro_rules | `(tactic| walk_at "eo step") => `(tactic| first
  | ((with_reducible apply g_addSx); (walk_at "eo alen")))
theorem kW_len (k : Nat) : (kW k).length ≤ 5 := by
  match k with
  | 0 => decide
  | 1 => decide
  | 2 => decide
  | _ + 3 => exact (show (kW 3).length ≤ 5 by decide)
theorem cut_from1 {xs : List V} {m : Nat} : cutV xs (some ((m : Int) + 1)) none = xs.drop (m + 1) := cut_from (a := m + 1)
local macro_rules | `(tactic| walk_at "eo cut") => `(tactic| exact cut_from1)
theorem kS_ok (k : Nat) : PyData.strOk (Sx (kW k)) = true := by
  match k with
  | 0 => decide +kernel
  | 1 => decide +kernel
  | 2 => decide +kernel
  | _ + 3 => exact (show PyData.strOk (Sx (kW 3)) = true by decide +kernel)
theorem join_len (S : List Nat) : ∀ ws : List (List Nat), (TL.joinL S ws).length ≤ (ws.map List.length).sum + ws.length * S.length
  | [] => Nat.zero_le _
  | [w] => by
    show w.length ≤ (w.length + 0) + _
    omega
  | w :: v :: r => by
    have ih := join_len S (v :: r)
    show (w ++ (S ++ TL.joinL S (v :: r))).length ≤ (w.length + ((v :: r).map List.length).sum) + ((v :: r).length + 1) * S.length
    rw [List.length_append, List.length_append, Nat.succ_mul]
    omega
theorem join_small {S : List Nat} {ws : List (List Nat)} {n m : Nat} (h : ∀ w ∈ ws, w.length ≤ n) (hm : ws.length ≤ m) (hS : S.length ≤ 2) : (TL.joinL S ws).length ≤ n * m + m * 2 := by
  have h1 := join_len S ws
  have h2 := sum_le h
  have h3 : n * ws.length ≤ n * m := Nat.mul_le_mul (Nat.le_refl n) hm
  have h4 : ws.length * S.length ≤ m * 2 := Nat.mul_le_mul hm hS
  omega
theorem put_map (ws : List (List Nat)) (k : Nat) (x : List Nat) : (ws.map WS).take k ++ [WS x] ++ (ws.map WS).drop (k + 1) = (ws.take k ++ [x] ++ ws.drop (k + 1)).map WS := by
  rw [List.map_append, List.map_append, List.map_take, List.map_drop]
  rfl
theorem set_map (ns : List Int) (k : Nat) (x : Int) (h : k < ns.length) : (ns.map V.int).take k ++ [.int x] ++ (ns.map V.int).drop (k + 1) = (ns.set k x).map V.int := by
  rw [List.set_eq_take_append_cons_drop, if_pos h, List.map_append, List.map_cons, List.map_take, List.map_drop, List.append_assoc]
  rfl
theorem txt_len {p : Pk} (h : PkOk p) : (txt p).length ≤ 4800 := Nat.le_trans (join_small (wsO_small h) (wsO_many h) (by decide)) (by decide)
theorem txt_toks (p : Pk) : toks (txt p) = wsO p := toks_join1 (wsO_wd p)
theorem txt_spl (p : Pk) : TL.spl [32] 0 [] (txt p) = wsO p := TL.spl_join (wsO_ne p) fun w hw => (wsO_wd p w hw).2
theorem toks_wide (p : Pk) (n : Nat) : toks ([32] ++ TL.joinL [32, 32] (wsO p) ++ List.replicate n 32) = wsO p := by
  show toks (32 :: (TL.joinL (List.replicate 2 32) (wsO p) ++ List.replicate n 32)) = _
  rw [toks_sp, toks_join (wsO p) 1 n (wsO_wd p)]
theorem dec_refl {x : V} : decide (x = x) = true := decide_eq_true rfl
section
variable {ws : List (List Nat)} {k : Nat} {x : List Nat}
theorem put_all {R : List Nat → Prop} (h : ∀ w ∈ ws, R w) (hx : R x) : ∀ w ∈ ws.take k ++ [x] ++ ws.drop (k + 1), R w := fun w hw => by
  rcases List.mem_append.mp hw with c | c
  · rcases List.mem_append.mp c with c | c
    · exact h w (List.mem_of_mem_take c)
    · rw [List.mem_singleton.mp c]; exact hx
  · exact h w (List.mem_of_mem_drop c)
theorem put_len : (ws.take k ++ [x] ++ ws.drop (k + 1)).length ≤ ws.length + 1 := by
  simp only [List.length_append, List.length_take, List.length_drop, List.length_singleton]
  omega
/-- words joined, read again -/
theorem g_readW {K : PySem.W.Frag} {H : Hp} {Q : VK} {E : XK} {ws : List (List Nat)} {i : Nat} (hw : ∀ w ∈ ws, Wd w) (hn : ∀ w ∈ ws, w.length ≤ 7) (hl : ws.length ≤ 700) (hp : pars ws = .inr i) (h : ∀ c H', Ext [] H H' → SqT K H' c [.str "form", .int i] → Q (.ref c) H') :
    spRead K ([.str (Sx (TL.joinL [32] ws))] ++ []) H Q E := by
  have ht := toks_join1 hw
  refine ⟨_, rfl, Nat.le_trans (join_small hn hl (by decide)) (by decide), fun j hj c H' e hc => ?_, fun p hq => by (rw [ht, hp] at hq; cases hq)⟩
  rw [ht, hp] at hj
  obtain rfl := Sum.inr.inj hj
  exact h c H' e hc
theorem g_joinR {K : PySem.W.Frag} {H : Hp} {Q : VK} {p : Addr} {ws : List (List Nat)} (hp : H p = some (.lst (ws.map WS))) (hn : ∀ w ∈ ws, w.length ≤ 7) (hl : ws.length ≤ 700) (h : Q (.str (Sx (TL.joinL [32] ws))) H) : rJoinW K (.str (Sx [32])) [.ref p] H Q :=
  g_joinW (sep := [32]) rfl (.inl (SqL.of hp)) (by
    have := sum_le hn
    show _ + _ * 1 ≤ _
    omega) h
end
theorem form_ok : PyData.strOk ("form" : Str) = true := by decide +kernel
theorem idx_sx (w : List Nat) : ∀ ws : List (List Nat), (ws.map Sx).idxOf (Sx w) = ws.idxOf w
  | [] => rfl
  | v :: r => by
    rw [List.map_cons, List.idxOf_cons, List.idxOf_cons, idx_sx w r]
    have e : (Sx v == Sx w) = (v == w) := SX.S_beq v w
    rw [e]
theorem g_idxW {K : PySem.W.Frag} {H : Hp} {Q : VK} {a : Addr} {ws : List (List Nat)} {w : List Nat} (hs : H a = some (.lst (ws.map WS))) (h : w ∈ ws) (q : Q (.int (ws.idxOf w)) H) : rLIndexS K (.ref a) [.str (Sx w)] H Q :=
  ⟨a, ws.map Sx, Sx w, rfl, rfl, by rw [map_ws]; exact SqL.of hs, List.mem_map.mpr ⟨w, h, rfl⟩, by rw [idx_sx]; exact q⟩
theorem colon_mem (p : Pk) : [58] ∈ wsO p := by
  unfold wsO
  exact List.mem_append_right _ (List.mem_append_right _ List.mem_cons_self)
/-! ### rules on the heap -/
def NB (v : V) : Prop := (∃ i, v = .int i) ∨ ∃ b, v = .bl b
def TgAt (K : PySem.W.Frag) (H : Hp) (x : V) (t : Tg) : Prop := ∃ q, x = .ref q ∧ SqT K H q [WS t.f, WS t.s, t.n] ∧ NB t.n
def RgAt (K : PySem.W.Frag) (H : Hp) (x : V) (r : Rg) : Prop := ∃ q u xs, x = .ref q ∧ SqT K H q [WS r.a, .ref u] ∧ SqT K H u xs ∧ LR (TgAt K) H xs r.ts ∧ r.ts.length ≤ 1000
def RsAt (K : PySem.W.Frag) (H : Hp) (p : Addr) (rs : List Rg) : Prop := ∃ xs, SqT K H p xs ∧ LR (RgAt K) H xs rs ∧ rs.length ≤ 1000
theorem TgAt.ext {K : PySem.W.Frag} {A : List Addr} {H H' : Hp} {x : V} {t : Tg} (e : Ext A H H') : TgAt K H x t → TgAt K H' x t := fun ⟨q, e1, h, n⟩ => ⟨q, e1, sqT_ext e h, n⟩
theorem RgAt.ext {K : PySem.W.Frag} {A : List Addr} {H H' : Hp} {x : V} {r : Rg} (e : Ext A H H') : RgAt K H x r → RgAt K H' x r := fun ⟨q, u, xs, e1, h1, h2, h3, h4⟩ => ⟨q, u, xs, e1, sqT_ext e h1, sqT_ext e h2, h3.imp fun _ _ => TgAt.ext e, h4⟩
theorem RsAt.ext {K : PySem.W.Frag} {A : List Addr} {H H' : Hp} {p : Addr} {rs : List Rg} (e : Ext A H H') : RsAt K H p rs → RsAt K H' p rs := fun ⟨xs, h1, h2, h3⟩ => ⟨xs, sqT_ext e h1, h2.imp fun _ _ => RgAt.ext e, h3⟩
theorem LR.at {α : Type} {R : Hp → V → α → Prop} {H : Hp} : ∀ {xs : List V} {l : List α} {i : Nat} {a : α}, LR R H xs l → l[i]? = some a → ∃ x, xs[i]? = some x ∧ R H x a
  | x :: _, _ :: _, 0, _, ⟨h, _⟩, q => ⟨x, rfl, by cases q; exact h⟩
  | _ :: _, _ :: _, i + 1, _, ⟨_, h⟩, q => LR.at (i := i) h q
  | [], [], _, _, _, q => by simp at q
  | [], _ :: _, _, _, h, _ => h.elim
  | _ :: _, [], _, _, h, _ => h.elim
def fldV (p : Pk) : List V := fieldsW.map fun f => .int (fv p f)
def fldK (p : Pk) : List (Key × V) := fieldsW.map fun f => (.inr (Sx f), .int (fv p f))
theorem fld_get {p : Pk} {f : List Nat} (h : f ∈ fieldsW) : valV (fldK p) (.inr (Sx f)) = some (.int (fv p f)) := by
  unfold fieldsW at h
  simp only [List.mem_cons, List.not_mem_nil, or_false] at h
  rcases h with rfl | rfl | rfl | rfl | rfl | rfl | rfl <;> rfl
theorem fields_lit : ([.str "source", .str "goal", .str "kind", .str "life", .str "length", .str "from", .str "to"] : List V) = fieldsW.map WS := by
  have e0 : ("source" : Str) = Sx (fW 0) := by decide +kernel
  have e1 : ("goal" : Str) = Sx (fW 1) := by decide +kernel
  have e2 : ("kind" : Str) = Sx (fW 2) := by decide +kernel
  have e3 : ("life" : Str) = Sx (fW 3) := by decide +kernel
  have e4 : ("length" : Str) = Sx (fW 4) := by decide +kernel
  have e5 : ("from" : Str) = Sx (fW 5) := by decide +kernel
  have e6 : ("to" : Str) = Sx (fW 6) := by decide +kernel
  rw [e0, e1, e2, e3, e4, e5, e6]
  rfl
theorem acts_lit : ([.str "take", .str "drop"] : List V) = actsW.map WS := by
  have e0 : ("take" : Str) = Sx takeW := by decide +kernel
  have e1 : ("drop" : Str) = Sx dropW := by decide +kernel
  rw [e0, e1]
  rfl
theorem signs_lit : ([.str "=", .str "<", .str ">"] : List V) = signsW.map WS := by
  have e0 : ("=" : Str) = Sx [61] := by decide +kernel
  have e1 : ("<" : Str) = Sx [60] := by decide +kernel
  have e2 : (">" : Str) = Sx [62] := by decide +kernel
  rw [e0, e1, e2]
  rfl
def spXInit (C : Addr) : Sp := fun vs H Q _ => ∃ a z, vs = [.ref a, .str z] ∧ z.length ≤ 100 ∧ H a = some (exo a C none) ∧ ∀ dx, H dx = none → dx ≠ a → Q .non (upd (upd H dx (exd dx [("code", .str z)])) a (exo a C (some dx)))
def spIsN : Sp := fun vs H Q _ => ∃ v lo hi, vs = [v, .int lo, .int hi] ∧ NB v ∧ Q (.bl (isnum v lo hi)) H
def spIsT : Sp := fun vs H Q _ => ∃ f s n, vs = [WS f, WS s, n] ∧ NB n ∧ Q (.bl (tOk ⟨f, s, n⟩)) H
def exR (C : Addr) (H : Hp) (E : XK) : Prop := ∀ d H', Ext [] H H' → H' d = some (.xd [("code", .str "rule")]) → E (.ref C) (some d) H'
def spCheck (K : PySem.W.Frag) (C : Addr) : Sp := fun vs H Q E => ∃ (p : Addr) (rs : List Rg), vs = [.ref p] ∧ RsAt K H p rs ∧ (chk rs = true → ∀ H', Ext [] H H' → Q .non H') ∧ (chk rs = false → exR C H E)
def spFields (K : PySem.W.Frag) : Sp := fun vs H Q _ => ∃ (a : Addr) (p : Pk), vs = [.ref a] ∧ PkAt K H a p ∧ p.k < 4 ∧ p.b.length ≤ 512 ∧ ∀ c H', Ext [] H H' → H c = none → H' c = some (.dK (fldK p)) → Q (.ref c) H'
def spHolds (K : PySem.W.Frag) : Sp := fun vs H Q _ => ∃ (a : Addr) (x : V) (p : Pk) (t : Tg), vs = [.ref a, x] ∧ H a = some (.dK (fldK p)) ∧ TgAt K H x t ∧ tOk t = true ∧ Q (.bl (hold p t)) H
def spDecide (K : PySem.W.Frag) : Sp := fun vs H Q _ => ∃ (a c : Addr) (rs : List Rg) (p : Pk), vs = [.ref a, .ref c] ∧ RsAt K H a rs ∧ chk rs = true ∧ PkAt K H c p ∧ p.k < 4 ∧ p.b.length ≤ 512 ∧ ∀ H', Ext [] H H' → Q (WS (decF rs p)) H'
def spDecider (K : PySem.W.Frag) : Sp := fun vs H Q _ => ∃ (a c : Addr) (rs : List Rg) (p : Pk), vs = [.ref a, .ref c] ∧ RsAt K H a rs ∧ chk rs = true ∧ PkAt K H c p ∧ p.k < 4 ∧ p.b.length ≤ 512 ∧ ∀ H', Ext [] H H' → Q (.int (decI rs p : Nat)) H'
def spFTest (K : PySem.W.Frag) : Sp := fun vs H Q _ => ∃ (x : V) (t : Tg), vs = [x] ∧ TgAt K H x t ∧ tOk t = true ∧ Q (WS (TL.joinL [32] (tW t))) H
def spFRules (K : PySem.W.Frag) : Sp := fun vs H Q _ => ∃ (a : Addr) (rs : List Rg), vs = [.ref a] ∧ RsAt K H a rs ∧ chk rs = true ∧ ∀ H', Ext [] H H' → Q (WS (rowsT (rs.map rowW))) H'
def optI : Option Int → V
  | some i => .int i
  | none => .non
def spNumIn (K : PySem.W.Frag) : Sp := fun vs H Q _ => ∃ f w, vs = [WS f, WS w] ∧ w.length ≤ 100000 ∧ ∀ H', Ext [] H H' → Q (optI (numIn f w)) H'
def spRuleOf (K : PySem.W.Frag) : Sp := fun vs H Q _ => ∃ (a : Addr) (ws : List (List Nat)), vs = [.ref a] ∧ SqL K H a (ws.map WS) ∧ ws ≠ [] ∧ ws.length ≤ 1100 ∧ (∀ w ∈ ws, w.length ≤ 100000) ∧ (ruleOf ws = none → ∀ H', Ext [] H H' → Q .non H') ∧ ∀ r, ruleOf ws = some r → ∀ x H', Ext [] H H' → RgAt K H' (.ref x) r → Q (.ref x) H'
def spRParse (K : PySem.W.Frag) (X : Addr) : Sp := fun vs H Q E => ∃ (l : List Nat), vs = [.str (Sx l)] ∧ l.length ≤ 1000 ∧ (∀ i, prs (linesT l) 0 [] = .inr i → exA X i [] H E) ∧ ∀ rs, prs (linesT l) 0 [] = .inl rs → chk rs = true ∧ ∀ c H', Ext [] H H' → RsAt K H' c rs → Q (.ref c) H'
def spRRead (K : PySem.W.Frag) : Sp := fun vs H Q _ => ∃ (l : List Nat), vs = [.str (Sx l)] ∧ l.length ≤ 1000 ∧ (∀ i : Nat, prs (linesT l) 0 [] = .inr i → ∀ c H', Ext [] H H' → SqT K H' c [.str "form", .int i] → Q (.ref c) H') ∧ ∀ rs, prs (linesT l) 0 [] = .inl rs → chk rs = true ∧ ∀ c H', Ext [] H H' → RsAt K H' c rs → Q (.ref c) H'
def spCode (K : PySem.W.Frag) : Sp := fun vs H Q _ => ∃ (p : Addr) (rs : List Rg), vs = [.ref p] ∧ RsAt K H p rs ∧ ∀ H', Ext [] H H' → Q (.str (if chk rs = true then "" else "rule")) H'
def spTest (K : PySem.W.Frag) : Sp := fun vs H Q _ => ∃ (d s f : Addr), vs = [.ref d, .ref f] ∧ DSt H d s ∧ f ≠ d ∧ SqL K H f (fieldsW.map WS) ∧ ∀ c t H', Ext [d] H H' → DSt H' d s → TgAt K H' (.ref c) t → tOk t = true → Q (.ref c) H'
def spRules (K : PySem.W.Frag) : Sp := fun vs H Q _ => ∃ (d s f : Addr) (most : Int), vs = [.ref d, .ref f, .int most] ∧ DSt H d s ∧ f ≠ d ∧ SqL K H f (fieldsW.map WS) ∧ 0 ≤ most ∧ most ≤ 8 ∧ ∀ c rs H', Ext [d] H H' → DSt H' d s → RsAt K H' c rs → chk rs = true → (rs.length : Int) ≤ most → Q (.ref c) H'
section
variable {K : PySem.W.Frag} {H : Hp} {Q : VK}
theorem g_isiI {i : Int} {T : String} {b : Bool} (h : PySem.W.kitOne K (.type "int") (.type T) = some b) (q : Q (.bl b) H) : rIsi K [.int i, .ty T] H Q := ⟨_, _, _, _, b, rfl, .ty T, .base (.int i), h, q⟩
theorem g_isiB {i : Bool} {T : String} {b : Bool} (h : PySem.W.kitOne K (.type "bool") (.type T) = some b) (q : Q (.bl b) H) : rIsi K [.bl i, .ty T] H Q := ⟨_, _, _, _, b, rfl, .ty T, .base (.bl i), h, q⟩
theorem g_inTW {w : List Nat} {p : Addr} {ws : List (List Nat)} (e : SqT K H p (ws.map WS)) (h : Q (.bl (decide (w ∈ ws))) H) : rIn K false (WS w) (.ref p) H Q := g_inT e rfl (flat_ws ws) (by rw [inV_ws]; exact h)
theorem g_ninTW {w : List Nat} {p : Addr} {ws : List (List Nat)} (e : SqT K H p (ws.map WS)) (h : Q (.bl (!decide (w ∈ ws))) H) : rIn K true (WS w) (.ref p) H Q := g_ninT e rfl (flat_ws ws) (by rw [inV_ws]; exact h)
end
theorem ext_mk {H : Hp} {a dx : Addr} {o1 o2 o3 o4 : HO} (ha : H a = none) (hd : H dx = none) : Ext [] H (upd (del (upd (upd (upd H a o1) dx o2) a o3) a) dx o4) := by
  have k : ∀ b o, H b = some o → upd (del (upd (upd (upd H a o1) dx o2) a o3) a) dx o4 b = some o := fun b o e => by
    have n1 := ne_of_none e ha
    have n2 := ne_of_none e hd
    rw [upd_ne n2, del_ne n1, upd_ne n1, upd_ne n2, upd_ne n1]
    exact e
  exact ⟨fun b o e _ => k b o e, fun b o e _ => k b o e⟩
theorem g_mkO {C : Addr} {z : Str} {σ : L2.St} {H : Hp} {QX : XK} (hz : z.length ≤ 100) (h : ∀ d H', Ext [] H H' → H' d = some (.xd [("code", .str z)]) → QX (.ref C) (some d) H') : tMkO C (spXInit C) [] (tCons (tC (.str z)) tNil) σ H QX := by
  refine ⟨(show 1 ≤ 1000 by decide), fun a ha => ⟨a, z, rfl, hz, upd_same, fun dx hdx ne => ⟨rfl, dx, [("code", .str z)], upd_same, by rw [upd_ne ne]; exact upd_same, ?_, ?_⟩⟩⟩
  · rw [upd_ne ne] at hdx
    exact hdx
  · rw [upd_ne ne] at hdx
    exact h dx _ (ext_mk ha hdx) upd_same
theorem ext0 {A B C : Hp} (e : Ext [] A B) (f : Ext [] B C) : Ext [] A C := e.trans f (fun _ z => z) (fun _ z => by cases z)
theorem g_star1 {K : PySem.W.Frag} {sp : Sp} {E : XK} {te : TE} {σ : L2.St} {H : Hp} {Q : VK} (h : te σ H fun y H1 => ∃ a xs, y = V.ref a ∧ (SqT K H1 a xs ∨ SqL K H1 a xs) ∧ sp xs H1 Q E) : tStar1 K sp E te σ H Q := h
theorem g_dictZip {K : PySem.W.Frag} {ta : TA} {σ : L2.St} {H : Hp} {Q : VK} (h : ta σ H fun vs H1 => ∃ (a b : Addr) (ks : List Str) (xs : List V), vs = [.ref a, .ref b] ∧ SqT K H1 a (ks.map V.str) ∧ SqT K H1 b xs ∧ ks.length = xs.length ∧
  NewO H1 (.dK (mergeK [] ((ks.map Sum.inr).zip xs))) fun p H' => Q (.ref p) H') : tDictZip K ta σ H Q := h
theorem merge_fld (p : Pk) : mergeK [] (((fieldsW.map Sx).map Sum.inr).zip (fldV p)) = fldK p := rfl
theorem g_idxTW {K : PySem.W.Frag} {H : Hp} {Q : VK} {a : Addr} {ws : List (List Nat)} {w : List Nat} (hs : SqT K H a (ws.map WS)) (h : w ∈ ws) (q : Q (.int (ws.idxOf w : Nat)) H) : rTIndexS K (.ref a) [WS w] H Q :=
  ⟨a, ws.map Sx, Sx w, rfl, rfl, by rw [map_ws]; exact hs, List.mem_map.mpr ⟨w, h, rfl⟩, by rw [idx_sx]; exact q⟩
theorem rg3 {m : Nat} (h : m < 400) : RgC 1 ((3 * m + 1 : Nat) : Int) 3 m := by
  have all : ∀ m : Fin 400, ((3 : Int) ≠ 0 ∧ (3 : Int).natAbs < 1073741824 ∧ Builtin.Range.small 1 ((3 * m.val + 1 : Nat) : Int) 3 = true ∧ Builtin.Range.rangeSize 1 ((3 * m.val + 1 : Nat) : Int) 3 = ((m.val : Nat))) := by decide +kernel
  exact all ⟨m, h⟩
theorem g_gLst {K : PySem.W.Frag} {n : Nat} {t : TGs} {a : Addr} {xs : List V} {σ : L2.St} {H : Hp} {Q : L2.St → Hp → Prop} (hs : SqL K H a xs) (hl : xs.length = n) (h : t xs σ H Q) : gLst K n t (.ref a) σ H Q := ⟨a, xs, rfl, hs, hl, h⟩
theorem cut_mid3 {xs : List V} {m : Nat} : cutV xs (some (m : Int)) (some ((m : Int) + 3)) = (xs.take (m + 3)).drop m := cut_midU (b := m + 3)
local macro_rules | `(tactic| walk_at "eo cut") => `(tactic| exact cut_mid3)
theorem take3 {wa f s w : List Nat} {wr : List (List Nat)} {i : Nat} (h : wr.drop (3 * i) = f :: s :: w :: wr.drop (3 * (i + 1))) : (((wa :: wr).map WS).take (3 * i + 1 + 3)).drop (3 * i + 1) = [WS f, WS s, WS w] := by
  rw [List.drop_take, ← List.map_drop, List.drop_succ_cons, h, show 3 * i + 1 + 3 - (3 * i + 1) = 3 by omega]
  rfl
theorem g_split10 {H : Hp} {Q : VK} {l : List Nat} {b : Str} (hb : b = Sx [10]) (hl : l.length ≤ 1000000) (h : NewO H (.lst ((linesT l).map WS)) fun p H' => Q (.ref p) H') :
    ∃ a b', V.str (Sx l) = .str a ∧ [V.str b] = [.str b'] ∧ (b'.length == 0) = false ∧ a.length + 2 ≤ sizeLine ∧ rNewStrs (Txt.split a b') H Q := by
  subst hb
  refine ⟨_, _, rfl, rfl, by decide, by rw [sx_len, sizeLine_eq]; omega, fun p hp => ?_⟩
  have e : Txt.split (Sx l) (Sx [10]) = (linesT l).map Sx := SX.split_S (by decide) (by decide)
  rw [e, map_ws]
  exact h.raw p hp
theorem g_iEnum {K : PySem.W.Frag} {ta : TA} {σ : L2.St} {H : Hp} {R : It → Hp → Prop} (h : ta σ H fun vs H1 => ∃ a xs, vs = [.ref a] ∧ SqL K H1 a xs ∧ R (Ite K a) H1) : iEnum K ta σ H R := h
theorem optI_none {o : Option Int} : optI o = .non ↔ o = none := by cases o <;> simp [optI]
theorem g_pr {tk tv : TE} {r : List (TE × TE)} {σ : L2.St} {H : Hp} {Q : List (V × V) → Hp → Prop} (h : tk σ H fun x H1 => tv σ H1 fun y H2 => tPairs r σ H2 fun ps H3 => Q ((x, y) :: ps) H3) : tPairs ((tk, tv) :: r) σ H Q := h
theorem g_pr0 {σ : L2.St} {H : Hp} {Q : List (V × V) → Hp → Prop} (h : Q [] H) : tPairs [] σ H Q := h
local macro_rules | `(tactic| walk_at "eo step") => `(tactic| first | with_reducible refine g_pr ?_ | with_reducible refine g_pr0 ?_)
theorem g_disp {trs : List (TE × TE)} {σ : L2.St} {H : Hp} {Q : VK} (h : ∀ D H1, H D = none → Ext [] H H1 → H1 D = some (.dK []) → tPairs trs σ H1 fun ps H2 => H2 D = some (.dK []) ∧ ∃ kvs : List (Key × V), ps = kvs.map (fun kv => (kV kv.1, kv.2)) ∧ kvs.length ≤ 15 ∧ Q (.ref D) (upd H2 D (.dK (mergeK [] kvs)))) : tDisp trs σ H Q := fun D hD => h D _ hD (Ext.new hD) upd_same
theorem fld_merge (p : Pk) : mergeK [] (fldK p) = fldK p := rfl
theorem sign4 {v : V} (h : v ∈ [WS [61], WS [61], WS [60], WS [62]]) : ∃ s, s ∈ signsW ∧ v = WS s := by
  simp only [List.mem_cons, List.not_mem_nil, or_false] at h
  rcases h with rfl | rfl | rfl | rfl
  · exact ⟨_, by decide, rfl⟩
  · exact ⟨_, by decide, rfl⟩
  · exact ⟨_, by decide, rfl⟩
  · exact ⟨_, by decide, rfl⟩
theorem sign3 {v : V} (h : v ∈ [WS [61], WS [60], WS [62]]) : ∃ s, s ∈ signsW ∧ v = WS s := sign4 (List.mem_cons_of_mem _ h)
theorem tOk_mk {f s : List Nat} {n : Int} (hf : f ∈ fieldsW) (hs : s ∈ signsW) (h0 : 0 ≤ n) (h1 : n ≤ 512) : tOk ⟨f, s, .int n⟩ = true := by
  unfold tOk
  dsimp only
  rw [decide_eq_true hf, decide_eq_true hs, isnum_int.mpr ⟨h0, h1⟩]
  rfl
theorem act2 {v : V} (h : v ∈ [WS takeW, WS dropW]) : ∃ s, s ∈ actsW ∧ v = WS s := by
  simp only [List.mem_cons, List.not_mem_nil, or_false] at h
  rcases h with rfl | rfl
  · exact ⟨_, by decide, rfl⟩
  · exact ⟨_, by decide, rfl⟩
theorem rOk_mk {a : List Nat} {ts : List Tg} (ha : a ∈ actsW) (hl : ts.length ≤ 4) (h : ts.all tOk = true) : rOk ⟨a, ts⟩ = true := by
  unfold rOk
  dsimp only
  rw [decide_eq_true ha, decide_eq_true hl, h]
  rfl
/-! data of rules, to be compared -/
def dTg (t : Tg) : PyData := .tuple [.str (Sx t.f), .str (Sx t.s), .int (vI t.n)]
def dRg (r : Rg) : PyData := .tuple [.str (Sx r.a), .tuple (r.ts.map dTg)]
def dRs (rs : List Rg) : PyData := .tuple (rs.map dRg)
theorem fields_ok : ∀ f ∈ fieldsW, PyData.strOk (Sx f) = true := by
  intro f h
  unfold fieldsW at h
  simp only [List.mem_cons, List.not_mem_nil, or_false] at h
  rcases h with rfl | rfl | rfl | rfl | rfl | rfl | rfl <;> decide +kernel
theorem signs_ok : ∀ f ∈ signsW, PyData.strOk (Sx f) = true := by
  intro f h
  unfold signsW at h
  simp only [List.mem_cons, List.not_mem_nil, or_false] at h
  rcases h with rfl | rfl | rfl <;> decide +kernel
theorem acts_ok : ∀ f ∈ actsW, PyData.strOk (Sx f) = true := by
  intro f h
  unfold actsW at h
  simp only [List.mem_cons, List.not_mem_nil, or_false] at h
  rcases h with rfl | rfl <;> decide +kernel
theorem dp_ws {K : PySem.W.Frag} {H : Hp} : ∀ ws : List (List Nat), DpAll K H (ws.map WS) (ws.map fun w => PyData.str (Sx w))
  | [] => .nil
  | w :: r => .cons (.str _) (dp_ws r)
theorem shp_ws {k : Nat} : ∀ {ws : List (List Nat)}, (∀ w ∈ ws, PyData.strOk (Sx w) = true) → ShpAll (ws.map fun w => PyData.str (Sx w)) k
  | [], _ => shp_nil
  | w :: r, h => shp_cons (shp_str (h w List.mem_cons_self)) (shp_ws fun x hx => h x (List.mem_cons_of_mem _ hx))
theorem dp_tg {K : PySem.W.Frag} {H : Hp} {x : V} {t : Tg} (h : TgAt K H x t) (hk : tOk t = true) : Dp K H x (dTg t) := by
  obtain ⟨q, rfl, hq, _⟩ := h
  obtain ⟨_, _, i, hi, _⟩ := tOk_int hk
  unfold dTg
  rw [hi] at hq ⊢
  exact .tup hq (.cons (.str _) (.cons (.str _) (.cons (.int _) .nil)))
theorem shp_tg {k : Nat} {t : Tg} (hk : tOk t = true) : Shp (dTg t) (k + 1) := by
  obtain ⟨h1, h2, i, hi, _⟩ := tOk_int hk
  exact shp_tup (shp_cons (shp_str (fields_ok _ h1)) (shp_cons (shp_str (signs_ok _ h2)) (shp_cons shp_int shp_nil)))
theorem dp_tgs {K : PySem.W.Frag} {H : Hp} : ∀ {xs : List V} {ts : List Tg}, LR (TgAt K) H xs ts → ts.all tOk = true → DpAll K H xs (ts.map dTg)
  | [], [], _, _ => .nil
  | _ :: _, _ :: _, ⟨h1, h⟩, hk => by
    rw [List.all_cons, Bool.and_eq_true] at hk
    exact .cons (dp_tg h1 hk.1) (dp_tgs h hk.2)
  | [], _ :: _, h, _ => h.elim
  | _ :: _, [], h, _ => h.elim
theorem shp_tgs {k : Nat} : ∀ {ts : List Tg}, ts.all tOk = true → ShpAll (ts.map dTg) (k + 1)
  | [], _ => shp_nil
  | _ :: _, hk => by
    rw [List.all_cons, Bool.and_eq_true] at hk
    exact shp_cons (shp_tg hk.1) (shp_tgs hk.2)
theorem dp_rg {K : PySem.W.Frag} {H : Hp} {x : V} {r : Rg} (h : RgAt K H x r) (hk : rOk r = true) : Dp K H x (dRg r) := by
  obtain ⟨q, u, ys, rfl, hq, hu, hY, _⟩ := h
  exact .tup hq (.cons (.str _) (.cons (.tup hu (dp_tgs hY (rOk_of hk).2.2)) .nil))
theorem shp_rg {k : Nat} {r : Rg} (hk : rOk r = true) : Shp (dRg r) (k + 3) := shp_tup (shp_cons (shp_str (acts_ok _ (rOk_of hk).1)) (shp_cons (shp_tup (shp_tgs (rOk_of hk).2.2)) shp_nil))
theorem dp_rgs {K : PySem.W.Frag} {H : Hp} : ∀ {xs : List V} {rs : List Rg}, LR (RgAt K) H xs rs → (∀ r ∈ rs, rOk r = true) → DpAll K H xs (rs.map dRg)
  | [], [], _, _ => .nil
  | _ :: _, r :: _, ⟨h1, h⟩, hk => .cons (dp_rg h1 (hk r List.mem_cons_self)) (dp_rgs h fun x hx => hk x (List.mem_cons_of_mem _ hx))
  | [], _ :: _, h, _ => h.elim
  | _ :: _, [], h, _ => h.elim
theorem shp_rgs {k : Nat} : ∀ {rs : List Rg}, (∀ r ∈ rs, rOk r = true) → ShpAll (rs.map dRg) (k + 3)
  | [], _ => shp_nil
  | r :: _, hk => shp_cons (shp_rg (hk r List.mem_cons_self)) (shp_rgs fun x hx => hk x (List.mem_cons_of_mem _ hx))
theorem dp_rs {K : PySem.W.Frag} {H : Hp} {p : Addr} {rs : List Rg} (h : RsAt K H p rs) (hk : ∀ r ∈ rs, rOk r = true) : Dp K H (.ref p) (dRs rs) := by
  obtain ⟨xs, h1, h2, _⟩ := h
  exact .tup h1 (dp_rgs h2 hk)
theorem shp_rs {rs : List Rg} (hk : ∀ r ∈ rs, rOk r = true) : Shp (dRs rs) 8 := shp_tup (k := 7) (shp_rgs (k := 4) hk)
theorem g_neRs {K : PySem.W.Frag} {H : Hp} {Q : VK} {p q : Addr} {rs : List Rg} (hp : RsAt K H p rs) (hq : RsAt K H q rs) (hk : ∀ r ∈ rs, rOk r = true) (h : Q (.bl false) H) : rNeX K (.ref p) (.ref q) H Q := g_neD (dp_rs hp hk) (dp_rs hq hk) (shp_rs hk) rfl h
theorem kind5 {v : V} (h : v ∈ [.str "data", .str "data", .str "route", .str "probe", .str "tell"]) : ∃ k, k < 4 ∧ v = kS k := by
  have e0 : ("data" : Str) = Sx (kW 0) := by decide +kernel
  have e1 : ("route" : Str) = Sx (kW 1) := by decide +kernel
  have e2 : ("probe" : Str) = Sx (kW 2) := by decide +kernel
  have e3 : ("tell" : Str) = Sx (kW 3) := by decide +kernel
  rw [e0, e1, e2, e3] at h
  simp only [List.mem_cons, List.not_mem_nil, or_false] at h
  rcases h with rfl | rfl | rfl | rfl | rfl
  · exact ⟨0, by decide, rfl⟩
  · exact ⟨0, by decide, rfl⟩
  · exact ⟨1, by decide, rfl⟩
  · exact ⟨2, by decide, rfl⟩
  · exact ⟨3, by decide, rfl⟩
/-- a list of words that none of S is -/
def WsAt (S : List Addr) (H : Hp) (x : V) (ws : List (List Nat)) : Prop := ∃ q, x = .ref q ∧ q ∉ S ∧ H q = some (.lst (ws.map WS))
theorem WsAt.ext {S A : List Addr} {H H' : Hp} {x : V} {ws : List (List Nat)} (hA : ∀ y ∈ A, y ∈ S) (e : Ext A H H') : WsAt S H x ws → WsAt S H' x ws := fun ⟨q, e1, n, h⟩ => ⟨q, e1, n, e.keep _ _ h fun z => n (hA _ z)⟩
theorem WsAt.ext1 {S : List Addr} {W : Addr} {H H' : Hp} {x : V} {ws : List (List Nat)} (e : Ext [W] H H') (hW : W ∈ S) : WsAt S H x ws → WsAt S H' x ws := WsAt.ext (fun y hy => by rw [List.mem_singleton.mp hy]; exact hW) e
theorem WsAt.ext0 {S : List Addr} {H H' : Hp} {x : V} {ws : List (List Nat)} (e : Ext [] H H') : WsAt S H x ws → WsAt S H' x ws := WsAt.ext (fun y hy => by cases hy) e
/-- one that was not there when the rest was -/
theorem WsAt.extF {S : List Addr} {W : Addr} {H0 H H' : Hp} {x : V} {ws : List (List Nat)} (n : H0 W = none) (e0 : WsAt S H0 x ws) (e : Ext [W] H H') : WsAt S H x ws → WsAt S H' x ws := fun ⟨q, e1, nS, h⟩ => ⟨q, e1, nS, e.keep _ _ h fun z => by
  obtain ⟨q', e1', _, h'⟩ := e0
  rw [e1] at e1'
  obtain rfl : q = q' := V.ref.inj e1'
  rw [List.mem_singleton.mp z, n] at h'
  cases h'⟩
theorem WsAt.more {S : List Addr} {W : Addr} {H : Hp} {x : V} {ws : List (List Nat)} (n : H W = none) : WsAt S H x ws → WsAt (W :: S) H x ws := fun ⟨q, e1, nS, h⟩ => ⟨q, e1, fun z => (List.mem_cons.mp z).elim (fun e => by rw [e, n] at h; cases h) nS, h⟩
theorem WsAt.less {S : List Addr} {W : Addr} {H : Hp} {x : V} {ws : List (List Nat)} : WsAt (W :: S) H x ws → WsAt S H x ws := fun ⟨q, e1, nS, h⟩ => ⟨q, e1, fun z => nS (List.mem_cons_of_mem _ z), h⟩
theorem lr_wide {H : Hp} : ∀ {xs : List V} {L : List (Nat × Nat × List (List Nat))}, LR (fun _ x b => x = WS (wideR b.1 b.2.1 b.2.2)) H xs L → xs = (L.map fun b => wideR b.1 b.2.1 b.2.2).map WS
  | [], [], _ => rfl
  | _ :: _, _ :: _, ⟨h1, h⟩ => by rw [show _ = _ from h1, lr_wide h]; rfl
  | [], _ :: _, h => h.elim
  | _ :: _, [], h => h.elim
theorem bads_lit : ([.str "q", .str "007", .str "1000", .str "!", .str "take"] : List V) = badsW.map WS := by
  have e0 : ("q" : Str) = Sx [113] := by decide +kernel
  have e1 : ("007" : Str) = Sx [48, 48, 55] := by decide +kernel
  have e2 : ("1000" : Str) = Sx [49, 48, 48, 48] := by decide +kernel
  have e3 : ("!" : Str) = Sx [33] := by decide +kernel
  have e4 : ("take" : Str) = Sx takeW := by decide +kernel
  rw [e0, e1, e2, e3, e4]
  rfl
def portW : List Nat := [112, 111, 114, 116]
def passW : List Nat := [112, 97, 115, 115]
def tF (f s : List Nat) (n : V) : Tg := ⟨f, s, n⟩
/-- the tests that are none -/
def badT : List (List Tg) := [[tF portW [61] (.int 1)], [tF (fW 5) [33] (.int 1)], [tF (fW 5) [61] (.int 513)], [tF (fW 5) [61] (.bl true)], List.replicate 5 (tF (fW 5) [61] (.int 1))]
def badR : List Rg := ⟨passW, []⟩ :: badT.map fun ts => ⟨takeW, ts⟩
theorem badR_no : ∀ r ∈ badR, chk [r] = false := by
  intro r h
  unfold badR badT at h
  simp only [List.map_cons, List.map_nil, List.mem_cons, List.not_mem_nil, or_false] at h
  rcases h with rfl | rfl | rfl | rfl | rfl | rfl <;> decide +kernel
theorem many_no : chk (List.replicate 9 ⟨takeW, []⟩) = false := by decide +kernel
theorem many_yes : chk (List.replicate 8 ⟨takeW, []⟩) = true := by decide +kernel
theorem LR.mem {α : Type} {R : Hp → V → α → Prop} {H : Hp} {x : V} : ∀ {xs : List V} {l : List α}, LR R H xs l → x ∈ xs → ∃ a ∈ l, R H x a
  | y :: _, b :: _, ⟨h1, h⟩, hx => by
    rcases List.mem_cons.mp hx with rfl | hx
    · exact ⟨b, List.mem_cons_self, h1⟩
    · obtain ⟨a, ha, r⟩ := LR.mem h hx
      exact ⟨a, List.mem_cons_of_mem _ ha, r⟩
  | [], _, _, hx => by cases hx
  | _ :: _, [], h, _ => h.elim
theorem LR.repl {α : Type} {R : Hp → V → α → Prop} {H : Hp} {x : V} {a : α} (h : R H x a) : ∀ n : Nat, LR R H (List.replicate n x) (List.replicate n a)
  | 0 => trivial
  | n + 1 => ⟨h, LR.repl h n⟩
theorem rep1 {x : V} (n : Nat) : (List.replicate n [x]).flatten = List.replicate n x := by
  induction n with
  | zero => rfl
  | succ n ih => rw [List.replicate_succ, List.flatten_cons, ih]; rfl
def TsAt (K : PySem.W.Frag) (H : Hp) (x : V) (ts : List Tg) : Prop := ∃ u ys, x = .ref u ∧ SqT K H u ys ∧ LR (TgAt K) H ys ts
theorem TsAt.ext {K : PySem.W.Frag} {A : List Addr} {H H' : Hp} {x : V} {ts : List Tg} (e : Ext A H H') : TsAt K H x ts → TsAt K H' x ts := fun ⟨u, ys, e1, h, hl⟩ => ⟨u, ys, e1, sqT_ext e h, hl.imp fun _ _ => TgAt.ext e⟩
theorem g_repT {K : PySem.W.Frag} {H : Hp} {Q : VK} {l : Addr} {k : Int} {xs : List V} (h : SqT K H l xs) (n : xs ≠ []) (k2 : 2 ≤ k) (k3 : k ≤ 1000) (hl : xs.length ≤ 1000) (q : NewO H (.tup (List.replicate k.toNat xs).flatten) fun p H' => Q (.ref p) H') : rRepT K (.ref l) (.int k) H Q :=
  ⟨l, k, xs, rfl, rfl, h, n, k2, k3, hl, fun p hp => q.raw p hp⟩
section
variable {P : Program} {w : World} {K : PySem.W.Frag} {mg : Str → Option Value} {base : Heap}
theorem ok_law_begin {A : Adr} (T : Txt P K mg A) : FnOk P w K mg base CX0 1 A.f_law_begin A.d_law_begin ["script"] (spBegin K) := by
  refine T.law_begin.F.ok sc_law_begin (fun vs H Q E h => ?_) (fun cdv Ar outer s H vs Q E hr h => ?_)
  · obtain ⟨a, ns, rfl, _⟩ := h
    rfl
  · obtain ⟨a, ns, rfl, hS, hlen, k⟩ := h
    refine ⟨_, (pss_cons (ps_set (i := 1) sc_law_begin.nd rfl (Or.inl rfl) pe_int)
      (pss_cons (ps_for PassesOwn.never rfl (pi_list (pv 0)) (pg_name (i := 2) sc_law_begin.nd rfl (Or.inl rfl)) (pss_one (ps_set (i := 1) sc_law_begin.nd rfl (Or.inl rfl) (pe_op op_mod (pe_op o_add (pe_op o_add (pe_op o_mul (pv 1) pe_int) (pe_op op_mod (pe_callTy (T := "int") o_int (by rfl) T.b_int (by decide +kernel) (pa_cons (pv 2) pa_nil)) pe_int)) pe_int) pe_int))))
      (pss_one (ps_ret (pe_lstX (pa_cons (pe_callTy (T := "list") o_list (by rfl) T.b_list (by decide +kernel) (pa_cons (pv 0) pa_nil)) (pa_cons pe_int (pa_cons pe_int (pa_cons (pv 1) pa_nil))))))))), ?_⟩
    walk_at "eo init"
    walk_at "eo go"
    refine g_forL (ns.map V.int) hS (fun i σ H' => ∃ (z : Int) (c : Option V), σ = [some (.ref a), some (.int z), c] ∧ H' = H) ⟨1, none, rfl, rfl⟩ (fun i σ H' _ ⟨_, _, _, e⟩ => by rw [e]; exact hS) ?_ ?_
    · rintro i x σ H' hi ⟨z, c, rfl, rfl⟩
      obtain ⟨n, _, rfl⟩ := mem_map_int hi
      walk_at "eo go"
      exact ⟨_, _, rfl, rfl⟩
    · rintro σ H' ⟨z, c, rfl, rfl⟩
      walk_at "eo go"
      rename_i s1 H1 hs1 e1 hl d1 H2 hd1 e2 hd
      have f1 : H2 s1 = some (.lst (ns.map V.int)) := by walk_at "eo fact"
      exact k d1 s1 H2 (by walk_at "eo free") hs1 (by walk_at "eo ext") ⟨(ne_of_none hl hd1).symm, ns, 0, 0, z, hd, f1, hlen, Int.le_refl _, Int.le_refl _⟩
theorem ok_law_take {A : Adr} (T : Txt P K mg A) : FnOk P w K mg base CX0 1 A.f_law_take A.d_law_take ["d", "many"] spTake := by
  refine T.law_take.F.ok sc_law_take (fun vs H Q E h => ?_) (fun cdv Ar outer s H vs Q E hr h => ?_)
  · obtain ⟨d, s, many, rfl, _⟩ := h
    rfl
  · obtain ⟨d, s, many, rfl, ⟨ne, ns, pos, cur, seed, hd, hs, hlen, hp, hc⟩, hm, hm2, k⟩ := h
    refine ⟨_, (pss_cons (ps_if (PW.pt (pw_and (pt_cmpR (o_eq hr.units) (pe_ix ix_seq (pv 0) pe_int (fun _ _ => rfl)) pe_int (nomark _)) (pw_and1 (pt_cmpR op_lt (pe_ix ix_seq (pv 0) pe_int (fun _ _ => rfl)) (pe_callB (id := "len") o_len (by rfl) T.b_len (by decide +kernel) (pa_cons (pe_ix ix_seq (pv 0) pe_int (fun _ _ => rfl)) pa_nil)) (nomark _))))) (pss_cons (ps_asg (pe_callB (id := "abs") o_abs (by rfl) T.b_abs (by decide +kernel) (pa_cons (pe_callTy (T := "int") o_int (by rfl) T.b_int (by decide +kernel) (pa_cons (pe_ix ix_seq (pe_ix ix_seq (pv 0) pe_int (fun _ _ => rfl)) (pe_ix ix_seq (pv 0) pe_int (fun _ _ => rfl)) (fun _ _ => rfl)) pa_nil)) pa_nil)) (pg_sub (pv 0) pe_int set_list))
      (pss_cons (ps_asg (pe_op o_add (pe_ix ix_seq (pv 0) pe_int (fun _ _ => rfl)) pe_int) (pg_sub (pv 0) pe_int set_list))
      (pss_one (ps_if (pt_chain op_lt op_lt pe_int (pe_ix ix_seq (pv 0) pe_int (fun _ _ => rfl)) (pv 1)) (pss_cons (ps_set (i := 2) sc_law_take.nd rfl (Or.inl rfl) (pe_ix ix_seq (pv 0) pe_int (fun _ _ => rfl)))
      (pss_cons (ps_asg pe_int (pg_sub (pv 0) pe_int set_list))
      (pss_one (ps_ret (pv 2))))) pss_nil)))) pss_nil)
      (pss_cons (ps_if (pt_cmpR op_gt (pe_ix ix_seq (pv 0) pe_int (fun _ _ => rfl)) pe_int (nomark _)) (pss_cons (ps_set (i := 3) sc_law_take.nd rfl (Or.inl rfl) (pe_op op_mod (pe_callTy (T := "int") o_int (by rfl) T.b_int (by decide +kernel) (pa_cons (pe_ix ix_seq (pv 0) pe_int (fun _ _ => rfl)) pa_nil)) (pv 1)))
      (pss_cons (ps_asg (pe_op op_fdivW (pe_callTy (T := "int") o_int (by rfl) T.b_int (by decide +kernel) (pa_cons (pe_ix ix_seq (pv 0) pe_int (fun _ _ => rfl)) pa_nil)) (pv 1)) (pg_sub (pv 0) pe_int set_list))
      (pss_one (ps_ret (pv 3))))) pss_nil)
      (pss_cons (ps_asg (pe_op op_mod (pe_callTy (T := "int") o_int (by rfl) T.b_int (by decide +kernel) (pa_cons (pe_op o_add (pe_op o_mul (pe_ix ix_seq (pv 0) pe_int (fun _ _ => rfl)) pe_int) pe_int) pa_nil)) pe_int) (pg_sub (pv 0) pe_int set_list))
      (pss_one (ps_ret (pe_op op_mod (pe_callTy (T := "int") o_int (by rfl) T.b_int (by decide +kernel) (pa_cons (pe_op op_fdivW (pe_ix ix_seq (pv 0) pe_int (fun _ _ => rfl)) pe_int) pa_nil)) (pv 1))))))), ?_⟩
    walk_at "eo init"
    have nsd : s ≠ d := ne.symm
    have leaf : ∀ (x : Int) (H1 : Hp) (pos cur seed : Int), Ext [d] H H1 → H1 d = some (.lst [.ref s, .int pos, .int cur, .int seed]) → 0 ≤ pos → 0 ≤ cur → Q (.int (x % many)) H1 := fun x H1 p c sd e h1 p1 p2 =>
      k _ _ (Int.emod_nonneg _ (by omega)) (Int.emod_lt_of_pos _ hm) e ⟨ne, ns, p, c, sd, h1, e.keep _ _ hs (nin1 nsd), hlen, p1, p2⟩
    walk_at "eo go"
    refine g_ite (fun h1 => ?_) (fun h1 => ?_)
    · have h1' := vint (dec_t h1)
      subst h1'
      walk_at "eo go"
      refine g_ite (fun h2 => ?_) (fun h2 => ?_)
      · have h2' := dec_t h2
        have hpl : pos.toNat < ns.length := by rw [List.length_map] at h2'; omega
        have ha : (ns.map V.int)[pos.toNat]? = some (.int ns[pos.toNat]) := by simp [hpl]
        walk_at "eo go"
        refine g_ite (fun h3 => ?_) (fun h3 => ?_)
        · walk_at "eo go"
          refine g_ite (fun h4 => ?_) (fun h4 => ?_)
          · have h4' := dec_t h4
            walk_at "eo go"
            rename_i e3 f3
            exact k _ _ (by omega) h4' (by walk_at "eo ext") ⟨ne, ns, _, _, _, f3, by walk_at "eo fact", hlen, by omega, by omega⟩
          · walk_at "eo go"
            rename_i H9 _ f9
            exact leaf _ _ _ _ _ (by walk_at "eo ext") f9 (by omega) (Int.ediv_nonneg (by omega) (Int.le_of_lt hm))
        · walk_at "eo go"
          rename_i H9 _ f9
          exact leaf _ _ _ _ _ (by walk_at "eo ext") f9 (by omega) (by omega)
      · walk_at "eo go"
        rename_i H9 _ f9
        exact leaf _ _ _ _ _ (by walk_at "eo ext") f9 hp hc
    · have h1' : ¬ cur = 0 := fun z => dec_f h1 (by rw [z])
      have h3 : decide (0 < cur) = true := decide_eq_true (by omega)
      walk_at "eo go"
      rename_i H9 _ f9
      exact leaf _ _ _ _ _ (by walk_at "eo ext") f9 hp (Int.ediv_nonneg hc (Int.le_of_lt hm))
theorem ok_law_pick {A : Adr} (T : Txt P K mg A) : FnOk P w K mg base CX0 2 A.f_law_pick A.d_law_pick ["d", "menu"] (spPick K) := by
  refine T.law_pick.F.ok sc_law_pick (fun vs H Q E h => ?_) (fun cdv Ar outer s H vs Q E hr h => ?_)
  · obtain ⟨d, s, m, xs, rfl, _⟩ := h
    rfl
  · obtain ⟨d, s, m, xs, rfl, hD, hm, nmd, h0, h1, k⟩ := h
    refine ⟨_, (pss_one (ps_ret (pe_ix ix_seq (pv 1) (pe_call (ok_law_take T) (hr.mono (by decide)) (by rfl) T.law_take.mg T.law_take.kp T.law_take.b .nil pass0 (pa_cons (pv 0) (pa_cons (pe_callB (id := "len") o_len (by rfl) T.b_len (by decide +kernel) (pa_cons (pv 1) pa_nil)) pa_nil))) (fun _ _ => rfl)))), ?_⟩
    walk_at "eo init"
    walk_at "eo go"
    refine ⟨d, s, _, rfl, hD, by omega, by omega, fun i H' i0 i1 e D' => ?_⟩
    have hi : i.toNat < xs.length := by omega
    have ha : xs[i.toNat]? = some xs[i.toNat] := by simp [hi]
    have hm' : SqL K H' m xs := sqL_ext e hm fun _ _ => nin1 nmd
    walk_at "eo go"
    exact k _ _ (List.getElem_mem hi) e D'
end
section
variable {K : PySem.W.Frag} {H : Hp} {Q : VK} {E : XK}
theorem g_take {d s : Addr} {many : Int} (hD : DSt H d s) (h0 : 0 < many) (h1 : many < 2 ^ 64) (h : ∀ k H', 0 ≤ k → k < many → Ext [d] H H' → DSt H' d s → Q (.int k) H') : spTake ([.ref d, .int many] ++ []) H Q E := ⟨d, s, many, rfl, hD, h0, h1, h⟩
theorem g_pick {d s m : Addr} {xs : List V} (hD : DSt H d s) (hm : SqL K H m xs) (ne : m ≠ d) (h0 : 0 < xs.length) (h1 : xs.length < 1000) (h : ∀ v H', v ∈ xs → Ext [d] H H' → DSt H' d s → Q v H') : spPick K ([.ref d, .ref m] ++ []) H Q E := ⟨d, s, m, xs, rfl, hD, hm, ne, h0, h1, h⟩
end
def spOct (K : PySem.W.Frag) : Sp := fun vs H Q _ => ∃ (d s : Addr) (most : Int), vs = [.ref d, .int most] ∧ DSt H d s ∧ 0 ≤ most ∧ most < 1000 ∧
  ∀ (c : Addr) (ns : List Int) (H' : Hp), Ext [d] H H' → DSt H' d s → SqT K H' c (ns.map V.int) → (∀ x ∈ ns, 0 ≤ x ∧ x ≤ 255) → (ns.length : Int) ≤ most → Q (.ref c) H'
theorem g_oct {K : PySem.W.Frag} {H : Hp} {Q : VK} {E : XK} {d s : Addr} {most : Int} (hD : DSt H d s) (h0 : 0 ≤ most) (h1 : most < 1000)
    (h : ∀ (c : Addr) (ns : List Int) (H' : Hp), Ext [d] H H' → DSt H' d s → SqT K H' c (ns.map V.int) → (∀ x ∈ ns, 0 ≤ x ∧ x ≤ 255) → (ns.length : Int) ≤ most → Q (.ref c) H') : spOct K ([.ref d, .int most] ++ []) H Q E := ⟨d, s, most, rfl, hD, h0, h1, h⟩
local macro_rules | `(tactic| walk_at "eo step") => `(tactic| first
  | ((with_reducible apply g_take); (walk_at "eo dst"); (walk_at "eo arith"); (walk_at "eo arith"); intro _ _ _ _ _ _)
  | ((with_reducible apply g_pick); (walk_at "eo dst"); (walk_at "eo sqL"); (walk_at "eo ne"); (walk_at "eo pos"); (walk_at "eo pos"); intro _ _ _ _ _)
  | ((with_reducible apply g_oct); (walk_at "eo dst"); (walk_at "eo arith"); (walk_at "eo arith"); intro _ _ _ _ _ _ _ _))
local macro_rules | `(tactic| walk_at "eo pos") => `(tactic| first | exact Nat.zero_lt_succ _ | exact lt1000)
section
variable {P : Program} {w : World} {K : PySem.W.Frag} {mg : Str → Option Value} {base : Heap}
theorem ok_law_octets {A : Adr} (T : Txt P K mg A) : FnOk P w K mg base CX0 3 A.f_law_octets A.d_law_octets ["d", "most"] (spOct K) := by
  refine T.law_octets.F.ok sc_law_octets (fun vs H Q E h => ?_) (fun cdv Ar outer s H vs Q E hr h => ?_)
  · obtain ⟨d, s, m, rfl, _⟩ := h
    rfl
  · obtain ⟨d, s, m, rfl, hD, m0, m1, k⟩ := h
    refine ⟨_, (pss_one (ps_ret (pe_callTy (T := "tuple") o_tuple (by rfl) T.b_tuple (by decide +kernel) (pa_cons (pe_lc (own := [("k", 2)]) (tt := stT tYes) rfl sc_law_octets.nd (pi_range1 (by rfl) T.b_range (pa_cons (pe_call (ok_law_take T) (hr.mono (by decide)) (by rfl) T.law_take.mg T.law_take.kp T.law_take.b .nil pass0 (pa_cons (pv 0) (pa_cons (pe_op o_add (pv 1) pe_int) pa_nil))) pa_nil)) (blkOk_by (own := [("k", 2)]) (N := ["d", "most", "k"]) (sc := defScope s_law_octets) (by decide +kernel)) (fun _ _ _ _ _ => PG.star (pg_name (i := 2) sc_law_octets.nd rfl (Or.inl rfl) (Or.inr rfl))) (fun _ _ _ _ _ => PTs.star (pts_nil)) (fun _ _ _ _ _ => PE.star (pe_call (ok_law_pick T) (hr.mono (by decide)) (by rfl) T.law_pick.mg T.law_pick.kp T.law_pick.b .nil pass0 (pa_cons (pv 0) (pa_cons (pe_lstX (pa_cons (pe_call (ok_law_take T) (hr.mono (by decide)) (by rfl) T.law_take.mg T.law_take.kp T.law_take.b .nil pass0 (pa_cons (pv 0) (pa_cons pe_int pa_nil))) (pa_cons pe_int (pa_cons pe_int (pa_cons pe_int pa_nil))))) pa_nil))))) pa_nil)))), ?_⟩
    walk_at "eo init"
    walk_at "eo go"
    rename_i n H1 n0 n1 e1 hD1
    refine g_lcW walk_range (fun D i H2 acc => Ext [d] H H2 ∧ DSt H2 d s ∧ d ≠ D ∧ s ≠ D ∧ H D = none ∧ acc.length = i ∧ ∃ ns : List Int, acc = ns.map V.int ∧ ∀ x ∈ ns, 0 ≤ x ∧ x ≤ 255) ?_ (fun _ _ _ _ _ _ => trivial) ?_ ?_
    · intro D H2 hD0 e2 h2
      have nD : d ≠ D := ne_dst1 hD0 hD1
      have nD2 : s ≠ D := ne_dst2 hD0 hD1
      have nD3 : H D = none := e1.free hD0 (nin1 nD.symm)
      exact ⟨by walk_at "eo ext", by walk_at "eo dst", nD, nD2, nD3, rfl, [], rfl, fun _ h => by cases h⟩
    · rintro D i x H2 H3 acc hi ⟨e2, hD2, nD, nD2, fD, la, ns, rfl, hb⟩ hl ⟨rfl, rfl⟩
      walk_at "eo go"
      refine ⟨rfl, ?_⟩
      walk_at "eo go"
      rename_i t H4 t0 t1 e4 hD4 p H5 np e5 hp v H6 hv e6 hD6
      obtain ⟨z, rfl, z0, z1⟩ : ∃ z : Int, v = .int z ∧ 0 ≤ z ∧ z ≤ 255 := by
        simp only [List.mem_cons, List.not_mem_nil, or_false] at hv
        rcases hv with rfl | rfl | rfl | rfl
        · exact ⟨_, rfl, t0, by omega⟩
        · exact ⟨_, rfl, by decide, by decide⟩
        · exact ⟨_, rfl, by decide, by decide⟩
        · exact ⟨_, rfl, by decide, by decide⟩
      have h4 : H4 D = some (.lst (ns.map V.int)) := by walk_at "eo fact"
      have h5 : H5 D = some (.lst (ns.map V.int)) := by walk_at "eo fact"
      have h6 : H6 D = some (.lst (ns.map V.int)) := by walk_at "eo fact"
      refine ⟨h6, ?_, fun H7 e7 h7 => ⟨?_, DSt.ext e7 hD6 (nin1 nD) (nin1 nD2), nD, nD2, fD, by rw [List.length_append, la]; rfl, ns ++ [z], by rw [List.map_append]; rfl, ?_⟩⟩
      · rw [la, sizeLine_eq]; omega
      · walk_at "eo ext"
      · intro x hx
        rcases List.mem_append.mp hx with hx | hx
        · exact hb x hx
        · rw [List.mem_singleton.mp hx]; exact ⟨z0, z1⟩
    · rintro D H2 acc ⟨e2, hD2, nD, nD2, fD, la, ns, rfl, hb⟩ hl
      walk_at "eo go"
      rename_i c H3 nc e3 hc
      refine k _ ns _ (by walk_at "eo ext") (by walk_at "eo dst") (SqT.of hc) hb ?_
      rw [List.length_map] at la
      omega
end
section
variable {P : Program} {w : World} {K : PySem.W.Frag} {mg : Str → Option Value} {base : Heap}
theorem ok_InputError_init {A : Adr} (T : Txt P K mg A) : FnOk P w K mg base (L2.CX P w) 1 A.f_InputError_init A.d_InputError_init ["self", "code"] (spXInit A.c_InputError) := by
  refine Sup.fn_super (F := ⟨"__init__", "InputError.__init__", defArgs s_InputError_init, defBody s_InputError_init, defScope s_InputError_init, [("__class__", A.cc_InputError)], A.cd_InputError⟩) (N := ["self", "code", "__class__"]) (ps' := ["code"]) (k := 0) T.x_InputError.S (show NdefX.NScope _ _ _ (defScope s_InputError_init) from NdefX.nscope_by (by decide +kernel)) rfl (fun vs H Q E h => ?_) (fun Ar outer s H vs Q E hr h => ?_) (fun _ => rfl) (fun _ => rfl) (fun _ => rfl) T.x_InputError.hfd
  · obtain ⟨a, z, rfl, _⟩ := h
    rfl
  · obtain ⟨a, z, rfl, hz, ha, k⟩ := h
    refine ⟨a, [.str z], _, fun ws H1 => ws.length ≤ 1000 ∧ H1 = H, rfl, ha, pa_cons (pe_joined (PJ.cons pe_str (PJ.cons (pe_fmt (pv 1)) PJ.nil))) pa_nil, ?_, fun ws H1 q => ⟨q.1, by rw [q.2]; exact ha, _, pss_one (ps_ost (pv 0) (pv 1)), ?_⟩⟩
    · have h1 : (Str.empty ++ ("refused: " : Str)).length + z.length ≤ sizeLine := by
        have e : (Str.empty ++ ("refused: " : Str)).length = 9 := by decide +kernel
        rw [e, sizeLine_eq]
        omega
      refine ⟨_, rfl, by decide +kernel, _, rfl, .inl ⟨z, rfl, by rw [sizeLine_eq]; omega, z, rfl, ?_, ?_⟩⟩
      · rw [Str.length_append]; exact h1
      · exact ⟨(show 1 ≤ 1000 by decide), rfl⟩
    · rw [q.2]
      exact ⟨_, rfl, _, rfl, a, A.c_InputError, rfl, T.x_InputError.S.T, T.x_InputError.no_code, .inl ⟨ha, fun dx n ne => k dx n ne⟩⟩
theorem ok_TextError_init {A : Adr} (T : Txt P K mg A) : FnOk P w K mg base (L2.CX P w) 1 A.f_TextError_init A.d_TextError_init ["self", "code", "at"] (spXInit2 A.c_TextError) := by
  refine Sup.fn_super (F := ⟨"__init__", "TextError.__init__", defArgs s_TextError_init, defBody s_TextError_init, defScope s_TextError_init, [("__class__", A.cc_TextError)], A.cd_TextError⟩) (N := ["self", "code", "at", "__class__"]) (ps' := ["code", "at"]) (k := 0) T.x_TextError.S (show NdefX.NScope _ _ _ (defScope s_TextError_init) from NdefX.nscope_by (by decide +kernel)) rfl (fun vs H Q E h => ?_) (fun Ar outer s H vs Q E hr h => ?_) (fun _ => rfl) (fun _ => rfl) (fun _ => rfl) T.x_TextError.hfd
  · obtain ⟨a, z, i, rfl, _⟩ := h
    rfl
  · obtain ⟨a, z, i, rfl, hz, i0, i1, ha, k⟩ := h
    refine ⟨a, [.str z, .int i], _, fun ws H1 => ws.length ≤ 1000 ∧ H1 = H, rfl, ha, pa_cons (pe_joined (PJ.cons pe_str (PJ.cons (pe_fmt (pv 1)) (PJ.cons pe_str (PJ.cons (pe_fmt (pv 2)) PJ.nil))))) pa_nil, ?_, fun ws H1 q => ⟨q.1, by rw [q.2]; exact ha, _, pss_cons (ps_ost (pv 0) (pv 1)) (pss_one (ps_ost (pv 0) (pv 2))), ?_⟩⟩
    · have e1 : (Str.empty ++ ("refused: " : Str)).length = 9 := by decide +kernel
      have e2 : (", " : Str).length = 2 := by decide +kernel
      have e3 : (toString i : Str).length ≤ 7 := by
        rw [nw_str i0, sx_len]
        exact TL.numL_len (by decide) (show i.toNat < 10 ^ 7 by omega)
      refine ⟨_, rfl, by rw [e1, sizeLine_eq]; omega, _, rfl, .inl ⟨z, rfl, by rw [sizeLine_eq]; omega, z, rfl, ?_, _, rfl, ?_, _, rfl, .inr ⟨i, rfl, log_small (by omega), _, rfl, ?_, ?_⟩⟩⟩
      · rw [Str.length_append, e1, sizeLine_eq]; omega
      · rw [Str.length_append, Str.length_append, e1, e2, sizeLine_eq]; omega
      · rw [Str.length_append, Str.length_append, Str.length_append, e1, e2, sizeLine_eq]; omega
      · exact ⟨(show 1 ≤ 1000 by decide), rfl⟩
    · rw [q.2]
      refine ⟨_, rfl, _, rfl, a, A.c_TextError, rfl, T.x_TextError.S.T, T.x_TextError.no_code, .inl ⟨ha, fun dx n ne => ?_⟩⟩
      exact ⟨_, rfl, _, rfl, a, A.c_TextError, rfl, T.x_TextError.S.T, T.x_TextError.no_at, .inr ⟨dx, [("code", .str z)], upd_same, by rw [upd_ne ne]; exact upd_same, (show 1 ≤ 900 by decide), k dx n ne⟩⟩
theorem ok_is_number {A : Adr} (T : Txt P K mg A) : FnOk P w K mg base CX0 1 A.f_is_number A.d_is_number ["value", "least", "most"] spIsN := by
  refine T.is_number.F.ok sc_is_number (fun vs H Q E h => ?_) (fun cdv Ar outer s H vs Q E hr h => ?_)
  · obtain ⟨v, lo, hi, rfl, _⟩ := h
    rfl
  · obtain ⟨v, lo, hi, rfl, hv, k⟩ := h
    refine ⟨_, (pss_one (ps_ret (pe_and (pe_callB (id := "isinstance") call_isi (by rfl) T.b_isinstance (by decide +kernel) (pa_cons (pv 0) (pa_cons (pe_bltn (v := .ty "int") (by rfl) T.b_int (by decide +kernel) rfl) pa_nil))) (pe_and (pe_not (pe_callB (id := "isinstance") call_isi (by rfl) T.b_isinstance (by decide +kernel) (pa_cons (pv 0) (pa_cons (pe_bltn (v := .ty "bool") (by rfl) T.b_bool (by decide +kernel) rfl) pa_nil)))) (pe_one (pe_chain op_le op_le (pv 1) (pv 0) (pv 2))))))), ?_⟩
    walk_at "eo init"
    rcases hv with ⟨i, rfl⟩ | ⟨b, rfl⟩
    · walk_at "eo go"
      refine g_isiI (b := true) (kit_ty (by decide +kernel)) ?_
      walk_at "eo go"
      refine g_isiI (b := false) (kit_ty (by decide +kernel)) ?_
      walk_at "eo go"
      refine g_ite (fun z => ?_) (fun z => ?_)
      · walk_at "eo go"
        have e : isnum (.int i) lo hi = decide (i ≤ hi) := by
          show (decide (lo ≤ i) && decide (i ≤ hi)) = _
          rw [z, Bool.true_and]
        rw [e] at k
        exact k
      · have e : isnum (.int i) lo hi = false := by
          show (decide (lo ≤ i) && decide (i ≤ hi)) = _
          rw [z, Bool.false_and]
        rw [e] at k
        exact k
    · walk_at "eo go"
      refine g_isiB (b := true) (kit_ty (by decide +kernel)) ?_
      walk_at "eo go"
      refine g_isiB (b := true) (kit_ty (by decide +kernel)) ?_
      walk_at "eo go"
      exact k
theorem ok_is_test {A : Adr} (T : Txt P K mg A) : FnOk P w K mg base CX0 2 A.f_is_test A.d_is_test ["field", "sign", "number"] spIsT := by
  refine T.is_test.F.ok sc_is_test (fun vs H Q E h => ?_) (fun cdv Ar outer s H vs Q E hr h => ?_)
  · obtain ⟨f, sg, n, rfl, _⟩ := h
    rfl
  · obtain ⟨f, sg, n, rfl, hn, k⟩ := h
    have hF : ∀ H, SqT K H A.g_FIELDS (fieldsW.map WS) := fun H => fields_lit ▸ T.t_FIELDS H
    have hS : ∀ H, SqT K H A.g_SIGNS (signsW.map WS) := fun H => signs_lit ▸ T.t_SIGNS H
    refine ⟨_, (pss_one (ps_ret (pe_and (pe_cmpR op_in_seq (pv 0) (pe_g rfl T.g_FIELDS) rfl) (pe_and (pe_cmpR op_in_seq (pv 1) (pe_g rfl T.g_SIGNS) rfl) (pe_one (pe_call (ok_is_number T) (hr.mono (by decide)) (by rfl) T.is_number.mg T.is_number.kp T.is_number.b .nil pass0 (pa_cons (pv 2) (pa_cons pe_int (pa_cons (pe_g rfl T.g_MOST_NUMBER) pa_nil))))))))), ?_⟩
    walk_at "eo init"
    walk_at "eo go"
    refine g_inTW (hF _) ?_
    walk_at "eo go"
    cases c1 : decide (f ∈ fieldsW) with
    | false =>
      walk_at "eo go"
      rw [show tOk ⟨f, sg, n⟩ = false by unfold tOk; dsimp only; rw [c1]; rfl] at k
      exact k
    | true =>
      walk_at "eo go"
      refine g_inTW (hS _) ?_
      walk_at "eo go"
      cases c2 : decide (sg ∈ signsW) with
      | false =>
        walk_at "eo go"
        rw [show tOk ⟨f, sg, n⟩ = false by unfold tOk; dsimp only; rw [c1, c2]; rfl] at k
        exact k
      | true =>
        walk_at "eo go"
        rw [show tOk ⟨f, sg, n⟩ = isnum n 0 512 by unfold tOk; dsimp only; rw [c1, c2]; rfl] at k
        exact ⟨n, 0, 512, rfl, hn, k⟩
theorem ok_check_rules {A : Adr} (T : Txt P K mg A) : FnOk P w K mg base (L2.CX P w) 3 A.f_check_rules A.d_check_rules ["rules"] (spCheck K A.c_InputError) := by
  refine T.check_rules.F.okX sc_check_rules (fun vs H Q E h => ?_) (fun cdv Ar outer s H vs Q E hr h => ?_)
  · obtain ⟨p, rs, rfl, _⟩ := h
    rfl
  · obtain ⟨p, rs, rfl, ⟨xs, hx, hX, hlen⟩, k1, k2⟩ := h
    have hA : ∀ H, SqT K H A.g_ACTIONS (actsW.map WS) := fun H => acts_lit ▸ T.t_ACTIONS H
    have hxl := hX.len
    refine ⟨_, (pss_cons (ps_if (pt_cmpR op_gt (pe_callB (id := "len") o_len (by rfl) T.b_len (by decide +kernel) (pa_cons (pv 0) pa_nil)) (pe_g rfl T.g_MOST_RULES) (nomark _)) (pss_one (ps_raise rfl (takes_of rfl rfl rfl rfl) (pmk_oex T.x_InputError.S.T T.x_InputError.iC T.x_InputError.tI (ok_InputError_init T) (hr.mono (by decide)) T.x_InputError.b .nil passL (by rfl) T.x_InputError.mg (pa_cons pe_str pa_nil)))) pss_nil)
      (pss_one (ps_for (passes_of rfl) rfl (pi_tup (pv 0)) (pg_tup (n := 2) rfl (pgs_cons (pg_name (i := 1) sc_check_rules.nd rfl (Or.inl rfl)) (pgs_cons (pg_name (i := 2) sc_check_rules.nd rfl (Or.inl rfl)) pgs_nil))) (pss_one (ps_if (PW.pt (pw_or (pt_cmpR op_notIn_seq (pv 1) (pe_g rfl T.g_ACTIONS) rfl) (pw_or (pt_cmpR op_gt (pe_callB (id := "len") o_len (by rfl) T.b_len (by decide +kernel) (pa_cons (pv 2) pa_nil)) (pe_g rfl T.g_MOST_TESTS) (nomark _)) (pw_or1 (pt_not (pt_truth (pe_callB (id := "all") (cr_all rfl) (by rfl) T.b_all (by decide +kernel) (pa_cons (pe_lc (own := [("test", 3)]) (tt := stT tYes) rfl sc_check_rules.nd (pi_tup (pv 2)) (blkOk_by (own := [("test", 3)]) (N := ["rules", "action", "tests", "test"]) (sc := defScope s_check_rules) (by decide +kernel)) (fun _ _ _ _ _ => PG.star (pg_name (i := 3) sc_check_rules.nd rfl (Or.inl rfl) (Or.inr rfl))) (fun _ _ _ _ _ => PTs.star (pts_nil)) (fun _ _ _ _ _ => PE.star (pe_star1 (K := K) rfl ((ok_is_test T).raw T.is_test.b .nil) (hr.mono (by decide)) T.is_test.kp (by rfl) T.is_test.mg pass0 (pv 3)))) pa_nil)) (by intro _; rfl))))))) (pss_one (ps_raise rfl (takes_of rfl rfl rfl rfl) (pmk_oex T.x_InputError.S.T T.x_InputError.iC T.x_InputError.tI (ok_InputError_init T) (hr.mono (by decide)) T.x_InputError.b .nil passL (by rfl) T.x_InputError.mg (pa_cons pe_str pa_nil)))) pss_nil))))), ?_⟩
    walk_at "eo init"
    walk_at "eo go"
    rw [hxl]
    refine g_ite (fun z => ?_) (fun z => ?_)
    · walk_at "eo go"
      have z' := dec_t z
      exact g_mkO (by decide +kernel) fun d H' e' hx => k2 (by unfold chk; rw [decide_eq_false (by omega)]; rfl) d H' e' hx
    · have z' := dec_f z
      walk_at "eo go"
      refine g_forT xs (fun i σ H' => Ext [] H H' ∧ (rs.take i).all rOk = true ∧ ∃ s1 s2, σ = [some (.ref p), s1, s2, none]) ⟨Ext.refl _, rfl, none, none, rfl⟩ (fun i σ H' _ ⟨e, _⟩ => sqT_ext e hx) ?_ ?_
      · rintro i x σ H' hi ⟨e, hall, s1, s2, rfl⟩
        obtain ⟨r, hr0, q, u, ys, rfl, hq, hu, hY, hyl⟩ := (hX.imp fun _ _ => RgAt.ext e).get hi
        have hrm : r ∈ rs := List.mem_of_getElem? hr0
        walk_at "eo go"
        refine g_ninTW (hA _) ?_
        walk_at "eo go"
        cases c1 : decide (r.a ∈ actsW) with
        | false =>
          walk_at "eo go"
          exact g_mkO (by decide +kernel) fun d H' e' hx => k2 (chk_bad hrm (rOk_act c1)) d H' (ext0 e e') hx
        | true =>
          walk_at "eo go"
          rw [hY.len]
          refine g_ite (fun z => ?_) (fun z => ?_)
          · have z' := dec_t z
            walk_at "eo go"
            exact g_mkO (by decide +kernel) fun d H' e' hx => k2 (chk_bad hrm (rOk_len (by omega))) d H' (ext0 e e') hx
          · have z' := dec_f z
            have hl4 : r.ts.length ≤ 4 := by omega
            walk_at "eo go"
            refine g_lcR walk_tup IsV (fun _ q => q) ((r.ts.map tOk).map V.bl) (by rw [List.length_map, List.length_map, hY.len]) (by rw [hY.len]; exact hyl) (fun H e => sqT_ext e hu) ?_ ?_
            · rintro j x H2 H3 b hb e2 ⟨rfl, hx⟩
              obtain ⟨t, ht0, q2, rfl, hq2, hn⟩ := (hY.imp fun _ _ => TgAt.ext e2).get hx
              rw [List.getElem?_map, List.getElem?_map, ht0] at hb
              cases hb
              walk_at "eo go"
              refine ⟨rfl, ?_⟩
              refine g_stE (g_star1 ?_)
              walk_at "eo go"
              exact ⟨q2, _, rfl, .inl hq2, _, _, _, rfl, hn, Ext.refl _, rfl⟩
            · intro D H2 acc e2 n0 hA2 hD
              have hA2 := lr_v hA2
              subst hA2
              walk_at "eo go"
              refine ⟨D, _, rfl, SqL.of hD, ?_⟩
              rw [show ((r.ts.map tOk)).all id = r.ts.all tOk by rw [List.all_map]; rfl]
              cases c3 : r.ts.all tOk with
              | false =>
                walk_at "eo go"
                exact g_mkO (by decide +kernel) fun d H' e' hx => k2 (chk_bad hrm (by rw [rOk_all c1 hl4]; exact c3)) d H' (ext0 (ext0 e e2) e') hx
              | true =>
                walk_at "eo go"
                exact ⟨ext0 e e2, all_snoc hr0 hall (by rw [rOk_all c1 hl4]; exact c3), _, _, rfl⟩
      · rintro σ H' ⟨e, hall, s1, s2, rfl⟩
        rw [hxl, List.take_length] at hall
        exact k1 (by unfold chk; rw [decide_eq_true (by omega), hall]; rfl) _ e
theorem ok_fields_of {A : Adr} (T : Txt P K mg A) : FnOk P w K mg base CX0 1 A.f_fields_of A.d_fields_of ["packet"] (spFields K) := by
  refine T.fields_of.F.ok sc_fields_of (fun vs H Q E h => ?_) (fun cdv Ar outer s H vs Q E hr h => ?_)
  · obtain ⟨a, p, rfl, _⟩ := h
    rfl
  · obtain ⟨a, p, rfl, ⟨b, ha, hb⟩, hk, hbl, k⟩ := h
    have hK : ∀ H, SqT K H A.g_KINDS (kinds.map WS) := fun H => kinds_lit ▸ T.t_KINDS H
    have hF : ∀ H, SqT K H A.g_FIELDS (fieldsW.map WS) := fun H => fields_lit ▸ T.t_FIELDS H
    dsimp only [pkV] at ha
    refine ⟨_, (pss_cons (ps_asg (pv 0) (pg_tup (n := 8) rfl (pgs_cons (pg_name (i := 1) sc_fields_of.nd rfl (Or.inl rfl)) (pgs_cons (pg_name (i := 2) sc_fields_of.nd rfl (Or.inl rfl)) (pgs_cons (pg_name (i := 3) sc_fields_of.nd rfl (Or.inl rfl)) (pgs_cons (pg_name (i := 4) sc_fields_of.nd rfl (Or.inl rfl)) (pgs_cons (pg_name (i := 5) sc_fields_of.nd rfl (Or.inl rfl)) (pgs_cons (pg_name (i := 5) sc_fields_of.nd rfl (Or.inl rfl)) (pgs_cons (pg_name (i := 5) sc_fields_of.nd rfl (Or.inl rfl)) (pgs_cons (pg_name (i := 6) sc_fields_of.nd rfl (Or.inl rfl)) pgs_nil))))))))))
      (pss_join (ps_set (i := 7) sc_fields_of.nd rfl (Or.inl rfl) (pe_ifExp (PW.pt (pw_and (pt_cmpR (o_eq hr.units) (pv 3) pe_str (nomark _)) (pw_and1 (pt_cmpR op_gt (pe_callB (id := "len") o_len (by rfl) T.b_len (by decide +kernel) (pa_cons (pv 6) pa_nil)) pe_int (nomark _))))) (pe_callTy (T := "tuple") o_tuple (by rfl) T.b_tuple (by decide +kernel) (pa_cons (pe_slice o_sl (pv 6) po_none (po_some pe_int)) pa_nil)) (pe_tupX (pa_cons pe_int (pa_cons pe_int pa_nil)))))
      (pss_one (ps_ret (pe_dictZip rfl (by rfl) T.b_dict (by rfl) T.b_zip (pa_cons (pe_g rfl T.g_FIELDS) (pa_cons (pe_op o_add (pe_tupX (pa_cons (pv 1) (pa_cons (pv 2) (pa_cons (pe_bm PySem.F.plainAttrs_tuple PySem.F.slot_tuple_index PySem.F.type_tuple_index mt_tindexS (pe_g rfl T.g_KINDS) (pa_cons (pv 3) pa_nil)) (pa_cons (pv 4) (pa_cons (pe_callB (id := "len") o_len (by rfl) T.b_len (by decide +kernel) (pa_cons (pv 6) pa_nil)) pa_nil)))))) (pv 7)) pa_nil))))))), ?_⟩
    have Ld : ("data" : Str) = Sx (kW 0) := by decide +kernel
    rw [Ld]
    walk_at "eo init"
    walk_at "eo go"
    refine g_join (fun σ' H' => ∃ c, σ' = [some (.ref a), some (.int p.s), some (.int p.g), some (kS p.k), some (.int p.l), some (.bl p.m), some (.ref b), some (.ref c)] ∧ Ext [] H H' ∧ SqT K H' c [.int (fv p (fW 5)), .int (fv p (fW 6))]) ?_ ?_
    · walk_at "eo go"
      rw [show V.str (Sx (kW 0)) = WS (kW 0) from rfl, dec_ws]
      by_cases c : p.k = 0 ∧ 1 < p.b.length
      · refine g_iteDT (by rw [c.1]; rfl) ?_
        walk_at "eo go"
        rw [List.length_map]
        refine g_iteDT (decide_eq_true (by omega)) ?_
        walk_at "eo go"
        rename_i c1 H1 e1 h1
        have e5 : fv p (fW 5) = (p.b[0]?).getD 0 := by
          show (if p.k = 0 ∧ 1 < p.b.length then _ else _) = _
          rw [if_pos c]; rfl
        have e6 : fv p (fW 6) = (p.b[1]?).getD 0 := by
          show (if p.k = 0 ∧ 1 < p.b.length then _ else _) = _
          rw [if_pos c]; rfl
        refine ⟨_, rfl, e1, ?_⟩
        rw [e5, e6]
        have : List.take 2 (p.b.map V.int) = [.int ((p.b[0]?).getD 0), .int ((p.b[1]?).getD 0)] := by
          match hb : p.b, c.2 with
          | x :: y :: r, _ => rfl
        rw [← this]
        exact h1
      · have e5 : fv p (fW 5) = 0 := by
          show (if p.k = 0 ∧ 1 < p.b.length then _ else _) = _
          rw [if_neg c]
        have e6 : fv p (fW 6) = 0 := by
          show (if p.k = 0 ∧ 1 < p.b.length then _ else _) = _
          rw [if_neg c]
        rw [e5, e6]
        by_cases c2 : p.k = 0
        · refine g_iteDT (by rw [c2]; rfl) ?_
          walk_at "eo go"
          rw [List.length_map]
          refine g_iteDF (decide_eq_false (by omega)) ?_
          walk_at "eo go"
          rename_i c1 H1 n1 e1 h1
          exact ⟨_, rfl, e1, SqT.of h1⟩
        · refine g_iteDF (by
            rw [decide_eq_false]
            intro z
            have h1 := kind_kW hk
            rw [z] at h1
            exact c2 (Option.some.inj h1).symm) ?_
          walk_at "eo go"
          rename_i c1 H1 n1 e1 h1
          exact ⟨_, rfl, e1, SqT.of h1⟩
    · rintro σ' H' ⟨c, rfl, e, hc⟩
      have ha := sqT_ext e ha
      have hb := sqT_ext e hb
      walk_at "eo go"
      refine g_dictZip ?_
      walk_at "eo go"
      refine ⟨.inr (.inl ⟨rfl, T.y_KINDS⟩), ?_⟩
      walk_at "eo go"
      refine g_idxT (hK _) hk ?_
      walk_at "eo go"
      rename_i t1 H1 n1 x1 y1 c2 H2 x2 h2
      rw [List.length_map] at h2
      refine ⟨_, _, fieldsW.map Sx, fldV p, rfl, map_ws _ ▸ hF _, h2, rfl, ?_⟩
      rw [merge_fld]
      have X2 := ext0 e (ext0 x1 x2)
      walk_at "eo go"
      rename_i D H3 n3 x3 h3
      exact k D H3 (ext0 X2 x3) (X2.free n3 nin0) h3
theorem ok_holds {A : Adr} (T : Txt P K mg A) : FnOk P w K mg base CX0 1 A.f_holds A.d_holds ["fields", "test"] (spHolds K) := by
  refine T.holds.F.ok sc_holds (fun vs H Q E h => ?_) (fun cdv Ar outer s H vs Q E hr h => ?_)
  · obtain ⟨a, x, p, t, rfl, _⟩ := h
    rfl
  · obtain ⟨a, x, p, t, rfl, ha, ⟨q, rfl, hq, _⟩, hok, k⟩ := h
    obtain ⟨h1, h2, n, hn, h3, h4⟩ := tOk_int hok
    rw [hn] at hq
    have hg := fld_get (p := p) h1
    have L1 : ("=" : Str) = Sx [61] := by decide +kernel
    have L2 : ("<" : Str) = Sx [60] := by decide +kernel
    refine ⟨_, (pss_cons (ps_asg (pv 1) (pg_tup (n := 3) rfl (pgs_cons (pg_name (i := 2) sc_holds.nd rfl (Or.inl rfl)) (pgs_cons (pg_name (i := 3) sc_holds.nd rfl (Or.inl rfl)) (pgs_cons (pg_name (i := 4) sc_holds.nd rfl (Or.inl rfl)) pgs_nil)))))
      (pss_cons (ps_set (i := 5) sc_holds.nd rfl (Or.inl rfl) (pe_dget (u1 hr.units) (pv 0) (pv 2) (fun _ _ => rfl)))
      (pss_cons (ps_if (pt_cmpR (o_eq hr.units) (pv 3) pe_str (nomark _)) (pss_one (ps_ret (pe_cmpR (o_eq hr.units) (pv 5) (pv 4) (nomark _)))) pss_nil)
      (pss_one (ps_ret (pe_ifExp (pt_cmpR (o_eq hr.units) (pv 3) pe_str (nomark _)) (pe_cmpR op_lt (pv 5) (pv 4) (nomark _)) (pe_cmpR op_gt (pv 5) (pv 4) (nomark _)))))))), ?_⟩
    rw [L1, L2]
    walk_at "eo init"
    walk_at "eo go"
    rw [show V.str (Sx [61]) = WS [61] from rfl, dec_ws]
    by_cases c1 : t.s = [61]
    · refine g_iteDT (decide_eq_true c1) ?_
      rw [hold_eq c1, hn] at k
      walk_at "eo go"
      rw [dec_int]
      exact k
    · refine g_iteDF (decide_eq_false c1) ?_
      walk_at "eo go"
      rw [show V.str (Sx [60]) = WS [60] from rfl, dec_ws]
      by_cases c2 : t.s = [60]
      · refine g_iteDT (decide_eq_true c2) ?_
        rw [hold_lt c1 c2, hn] at k
        walk_at "eo go"
        exact k
      · refine g_iteDF (decide_eq_false c2) ?_
        rw [hold_gt c1 c2, hn] at k
        walk_at "eo go"
        exact k
theorem ok_decide {A : Adr} (T : Txt P K mg A) : FnOk P w K mg base CX0 2 A.f_decide A.d_decide ["rules", "packet"] (spDecide K) := by
  refine T.decide.F.ok sc_decide (fun vs H Q E h => ?_) (fun cdv Ar outer s H vs Q E hr h => ?_)
  · obtain ⟨a, c, rs, p, rfl, _⟩ := h
    rfl
  · obtain ⟨a, c, rs, p, rfl, ⟨xs, hx, hX, hlen⟩, hc, hP, hk, hb, k⟩ := h
    have hxl := hX.len
    obtain ⟨_, hok⟩ := chk_all hc
    have Ld : ("drop" : Str) = Sx dropW := by decide +kernel
    refine ⟨_, (pss_cons (ps_set (i := 2) sc_decide.nd rfl (Or.inr rfl) (pe_call (ok_fields_of T) (hr.mono (by decide)) (by rfl) T.fields_of.mg T.fields_of.kp T.fields_of.b .nil pass0 (pa_cons (pv 1) pa_nil)))
      (pss_cons (ps_for PassesOwn.never rfl (pi_tup (pv 0)) (pg_tup (n := 2) rfl (pgs_cons (pg_name (i := 3) sc_decide.nd rfl (Or.inl rfl)) (pgs_cons (pg_name (i := 4) sc_decide.nd rfl (Or.inl rfl)) pgs_nil))) (pss_one (ps_if (pt_truth (pe_callB (id := "all") (cr_all rfl) (by rfl) T.b_all (by decide +kernel) (pa_cons (pe_lc (own := [("test", 5)]) (tt := stT tYes) rfl sc_decide.nd (pi_tup (pv 4)) (blkOk_by (own := [("test", 5)]) (N := ["rules", "packet", "fields", "action", "tests", "test"]) (sc := defScope s_decide) (by decide +kernel)) (fun _ _ _ _ _ => PG.star (pg_name (i := 5) sc_decide.nd rfl (Or.inl rfl) (Or.inr rfl))) (fun _ _ _ _ _ => PTs.star (pts_nil)) (fun _ _ _ _ _ => PE.star (pe_call (ok_holds T) (hr.mono (by decide)) (by rfl) T.holds.mg T.holds.kp T.holds.b .nil pass0 (pa_cons (pv 2) (pa_cons (pv 5) pa_nil))))) pa_nil)) (by intro _; rfl)) (pss_one (ps_ret (pv 3))) pss_nil)))
      (pss_one (ps_ret pe_str)))), ?_⟩
    rw [Ld]
    walk_at "eo init"
    walk_at "eo go"
    refine ⟨c, p, rfl, hP, hk, hb, fun D H0 e0 n0 hD0 => ?_⟩
    walk_at "eo go"
    refine g_forT xs (fun i σ H' => Ext [] H H' ∧ H' D = some (.dK (fldK p)) ∧ (rs.take i).all (fun r => !rHold p r) = true ∧ ∃ s1 s2, σ = [some (.ref a), some (.ref c), some (.ref D), s1, s2, none]) ⟨e0, hD0, rfl, none, none, rfl⟩ (fun i σ H' _ ⟨e, _⟩ => sqT_ext e hx) ?_ ?_
    · rintro i x σ H' hi ⟨e, hD, hall, s1, s2, rfl⟩
      obtain ⟨r, hr0, q, u, ys, rfl, hq, hu, hY, hyl⟩ := (hX.imp fun _ _ => RgAt.ext e).get hi
      have hrok := rOk_of (hok r (List.mem_of_getElem? hr0))
      walk_at "eo go"
      refine g_lcR walk_tup IsV (fun _ q => q) ((r.ts.map (hold p)).map V.bl) (by rw [List.length_map, List.length_map, hY.len]) (by rw [hY.len]; exact hyl) (fun H e => sqT_ext e hu) ?_ ?_
      · rintro j x H2 H3 b hb e2 ⟨rfl, hx⟩
        obtain ⟨t, ht0, ht⟩ := (hY.imp fun _ _ => TgAt.ext e2).get hx
        rw [List.getElem?_map, List.getElem?_map, ht0] at hb
        cases hb
        walk_at "eo go"
        refine ⟨rfl, ?_⟩
        walk_at "eo go"
        exact ⟨D, _, p, t, rfl, e2.keep _ _ hD nin0, ht, List.all_eq_true.mp hrok.2.2 t (List.mem_of_getElem? ht0), Ext.refl _, rfl⟩
      · intro D2 H2 acc e2 n2 hA2 hD2
        have hA2 := lr_v hA2
        subst hA2
        walk_at "eo go"
        refine ⟨D2, _, rfl, SqL.of hD2, ?_⟩
        rw [show ((r.ts.map (hold p))).all id = rHold p r by rw [List.all_map]; rfl]
        cases c3 : rHold p r with
        | false =>
          walk_at "eo go"
          exact ⟨ext0 e e2, e2.keep _ _ hD nin0, all_snoc hr0 hall (by rw [c3]; rfl), _, _, rfl⟩
        | true =>
          walk_at "eo go"
          have k := k H2 (ext0 e e2)
          rw [decF_hit hall hr0 c3] at k
          exact k
    · rintro σ H' ⟨e, hD, hall, s1, s2, rfl⟩
      rw [hxl, List.take_length] at hall
      have k := k H' e
      rw [decF_end hall] at k
      walk_at "eo go"
      exact k
theorem ok_format_test {A : Adr} (T : Txt P K mg A) : FnOk P w K mg base CX0 1 A.f_format_test A.d_format_test ["test"] (spFTest K) := by
  refine T.format_test.F.ok sc_format_test (fun vs H Q E h => ?_) (fun cdv Ar outer s H vs Q E hr h => ?_)
  · obtain ⟨x, t, rfl, _⟩ := h
    rfl
  · obtain ⟨x, t, rfl, ⟨q, rfl, hq, _⟩, hok, k⟩ := h
    obtain ⟨h1, h2, n, hn, h3, h4⟩ := tOk_int hok
    have hK : ∀ H, SqT K H A.g_KINDS (kinds.map WS) := fun H => kinds_lit ▸ T.t_KINDS H
    have hf := (fields_all _ h1).2
    have hs := (signs_all _ h2).2
    rw [hn] at hq
    have L1 : ("kind" : Str) = Sx (fW 2) := by decide +kernel
    have L2 : (" " : Str) = Sx [32] := by decide +kernel
    have kk : ∀ w, nwT t.f n = w → Q (WS (t.f ++ [32] ++ t.s ++ [32] ++ w)) H := fun w hw => by
      have : TL.joinL [32] (tW t) = t.f ++ [32] ++ t.s ++ [32] ++ w := by
        rw [← hw]
        show t.f ++ ([32] ++ (t.s ++ ([32] ++ nwT t.f (vI t.n)))) = _
        rw [hn]
        simp only [List.append_assoc]
        rfl
      rw [← this]
      exact k
    clear k
    have hnw : (nw n).length ≤ 6 := nw_len (by omega)
    have hK0 := hK H
    refine ⟨_, (pss_cons (ps_asg (pv 0) (pg_tup (n := 3) rfl (pgs_cons (pg_name (i := 1) sc_format_test.nd rfl (Or.inl rfl)) (pgs_cons (pg_name (i := 2) sc_format_test.nd rfl (Or.inl rfl)) (pgs_cons (pg_name (i := 3) sc_format_test.nd rfl (Or.inl rfl)) pgs_nil)))))
      (pss_cons (ps_set (i := 4) sc_format_test.nd rfl (Or.inl rfl) (pe_and (pe_cmpR (o_eq hr.units) (pv 1) pe_str (nomark _)) (pe_one (pe_cmpR op_lt (pv 3) (pe_callB (id := "len") o_len (by rfl) T.b_len (by decide +kernel) (pa_cons (pe_g rfl T.g_KINDS) pa_nil)) (nomark _)))))
      (pss_one (ps_ret (pe_op o_add (pe_op o_add (pe_op o_add (pe_op o_add (pv 1) pe_str) (pv 2)) pe_str) (pe_ifExp (pt_truth (pv 4) (by intro _; rfl)) (pe_ix ix_seq (pe_g rfl T.g_KINDS) (pv 3) (fun _ _ => rfl)) (pe_callTy (T := "str") o_strI (by rfl) T.b_str (by decide +kernel) (pa_cons (pv 3) pa_nil)))))))), ?_⟩
    rw [L1, L2]
    walk_at "eo init"
    walk_at "eo go"
    rw [show V.str (Sx (fW 2)) = WS (fW 2) from rfl, dec_ws]
    by_cases c1 : t.f = fW 2
    · refine g_iteDT (decide_eq_true c1) ?_
      walk_at "eo go"
      refine g_ite (fun z => ?_) (fun z => ?_)
      · have z' : n < 4 := dec_t z
        have ha := at_kinds h3 z'
        have hkl := kW_len n.toNat
        walk_at "eo go"
        exact kk _ (by unfold nwT; rw [if_pos ⟨c1, z'⟩])
      · have z' : ¬ n < 4 := dec_f z
        walk_at "eo go"
        exact kk _ (by unfold nwT; rw [if_neg fun c => z' c.2])
    · refine g_iteDF (decide_eq_false c1) ?_
      walk_at "eo go"
      exact kk _ (by unfold nwT; rw [if_neg fun c => c1 c.1])
theorem ok_format_rules {A : Adr} (T : Txt P K mg A) : FnOk P w K mg base CX0 2 A.f_format_rules A.d_format_rules ["rules"] (spFRules K) := by
  refine T.format_rules.F.ok sc_format_rules (fun vs H Q E h => ?_) (fun cdv Ar outer s H vs Q E hr h => ?_)
  · obtain ⟨a, rs, rfl, _⟩ := h
    rfl
  · obtain ⟨a, rs, rfl, ⟨xs, hx, hX, hlen⟩, hc, k⟩ := h
    have hxl := hX.len
    obtain ⟨_, hok⟩ := chk_all hc
    have L0 : ("" : Str) = Sx [] := by decide +kernel
    have L1 : (" " : Str) = Sx [32] := by decide +kernel
    have L2 : ("\n" : Str) = Sx [10] := by decide +kernel
    refine ⟨_, (pss_one (ps_ret (pe_m1 PySem.F.slot_str_join PySem.F.type_str_join mt_joinW pe_str (pe_lc (own := [("action", 1), ("tests", 2)]) (tt := stT tYes) rfl sc_format_rules.nd (pi_tup (pv 0)) (blkOk_by (own := [("action", 1), ("tests", 2)]) (N := ["rules", "action", "tests", "test"]) (sc := defScope s_format_rules) (by decide +kernel)) (fun _ _ _ _ _ => PG.star (kkTup (K := K) rfl (pg_tup (n := 2) rfl (pgs_cons (pg_name (i := 1) sc_format_rules.nd rfl (Or.inl rfl) (Or.inr rfl)) (pgs_cons (pg_name (i := 2) sc_format_rules.nd rfl (Or.inl rfl) (Or.inr rfl)) pgs_nil))))) (fun _ _ _ _ _ => PTs.star (pts_nil)) (fun _ _ _ _ _ => PE.star (pe_op (kkOpR (r := rAddX) (K := K) rfl o_add) (pe_m1 PySem.F.slot_str_join PySem.F.type_str_join (kkMtR (r := rJoinW) (K := K) rfl mt_joinW) pe_str (pe_op (kkOpR (r := rAddX) (K := K) rfl o_add) (pe_lstX (pa_cons (pv 1) pa_nil)) (pe_lc (own := [("test", 3)]) (tt := stT tYes) rfl sc_format_rules.nd (kkTupI (K := K) rfl (pv 2)) (blkOk_by (own := [("test", 3)]) (N := ["rules", "action", "tests", "test"]) (sc := relS (asgScope ((defBody s_format_rules).getD 0 (.Pass ⟨0, 0, 0, 0⟩))) (defScope s_format_rules)) (by decide +kernel)) (fun _ _ _ _ _ => PG.star (pg_name (i := 3) sc_format_rules.nd rfl (Or.inl rfl) (Or.inr rfl))) (fun _ _ _ _ _ => PTs.star (pts_nil)) (fun _ _ _ _ _ => PE.star (pe_call (ok_format_test T) (hr.mono (by decide)) (by rfl) T.format_test.mg T.format_test.kp T.format_test.b .nil pass0 (pa_cons (pv 3) pa_nil)))))) pe_str)))))), ?_⟩
    rw [L0, L1, L2]
    walk_at "eo init"
    walk_at "eo go"
    refine g_lcR walk_tup IsV (fun _ q => q) ((rs.map fun r => TL.joinL [32] (rowW r) ++ [10]).map WS) (by rw [List.length_map, List.length_map, hxl]) (by rw [hxl]; exact hlen) (fun H e => sqT_ext e hx) ?_ ?_
    · rintro i x H1 H2 b hb e1 ⟨rfl, hi⟩
      obtain ⟨r, hr0, q, u, ys, rfl, hq, hu, hY, hyl⟩ := (hX.imp fun _ _ => RgAt.ext e1).get hi
      have hro := hok r (List.mem_of_getElem? hr0)
      obtain ⟨h1, h2, h3⟩ := rOk_of hro
      rw [List.getElem?_map, List.getElem?_map, hr0] at hb
      cases hb
      walk_at "eo go"
      refine ⟨rfl, ?_⟩
      walk_at "eo go"
      rename_i l1 H3 n3 e3 h3'
      have hu3 := sqT_ext e3 hu
      refine g_lcR walk_tup IsV (fun _ q => q) ((r.ts.map fun t => TL.joinL [32] (tW t)).map WS) (by rw [List.length_map, List.length_map, hY.len]) (by rw [hY.len]; exact hyl) (fun H e => sqT_ext e hu3) ?_ ?_
      · rintro j x H4 H5 b hb e4 ⟨rfl, hj⟩
        obtain ⟨t, ht0, ht⟩ := (hY.imp fun _ _ h => TgAt.ext (A := []) (ext0 e3 e4) h).get hj
        rw [List.getElem?_map, List.getElem?_map, ht0] at hb
        cases hb
        walk_at "eo go"
        refine ⟨rfl, ?_⟩
        walk_at "eo go"
        exact ⟨_, t, rfl, ht, List.all_eq_true.mp h3 t (List.mem_of_getElem? ht0), Ext.refl _, rfl⟩
      · intro D4 H4 acc e4 n4 hA4 hD4
        have hA4 := lr_v hA4
        subst hA4
        have h34 := e4.keep _ _ h3' nin0
        walk_at "eo go"
        rename_i l2 H5 n5 e5 h5
        have js := joins_small hro
        have hsum := sum_le js.2
        refine g_joinW (sep := [32]) (ws := r.a :: r.ts.map fun t => TL.joinL [32] (tW t)) rfl (.inl (SqL.of h5)) (by show _ + _ * 1 ≤ _; omega) ?_
        rw [row_eq]
        have hjs := join_small (S := [32]) (n := 6) (m := 13) (fun w hw => (rowW_all hro w hw).2) (rowW_len hro) (by decide)
        walk_at "eo go"
        exact ⟨ext0 e3 (ext0 e4 e5), rfl⟩
    · intro D H2 acc e2 n2 hA2 hD2
      have hA2 := lr_v hA2
      subst hA2
      have hsm : ∀ w ∈ rs.map (fun r => TL.joinL [32] (rowW r) ++ [10]), w.length ≤ 105 := fun w hw => by
        obtain ⟨r, hr, rfl⟩ := List.mem_map.mp hw
        have := join_small (S := [32]) (n := 6) (m := 13) (fun w hw => (rowW_all (hok r hr) w hw).2) (rowW_len (hok r hr)) (by decide)
        rw [List.length_append, List.length_singleton]
        omega
      have hsum := sum_le hsm
      rw [List.length_map] at hsum
      refine g_joinW (sep := []) rfl (.inl (SqL.of hD2)) (by rw [List.length_map]; show _ + _ * 0 ≤ _; omega) ?_
      have k := k H2 e2
      rw [join0]
      unfold rowsT at k
      rw [List.map_map] at k
      exact k
theorem ok_number_in {A : Adr} (T : Txt P K mg A) : FnOk P w K mg base CX0 1 A.f_number_in A.d_number_in ["field", "word"] (spNumIn K) := by
  refine T.number_in.F.ok sc_number_in (fun vs H Q E h => ?_) (fun cdv Ar outer s H vs Q E hr h => ?_)
  · obtain ⟨f, wd, rfl, _⟩ := h
    rfl
  · obtain ⟨f, wd, rfl, hl, k⟩ := h
    have hK : ∀ H, SqT K H A.g_KINDS (kindsW.map WS) := fun H => kinds_lit ▸ T.t_KINDS H
    have L1 : ("kind" : Str) = Sx (fW 2) := by decide +kernel
    refine ⟨_, (pss_join (ps_if (PW.pt (pw_and (pt_cmpR (o_eq hr.units) (pv 0) pe_str (nomark _)) (pw_and1 (pt_cmpR op_in_seq (pv 1) (pe_g rfl T.g_KINDS) rfl)))) (pss_one (ps_ret (pe_bm PySem.F.plainAttrs_tuple PySem.F.slot_tuple_index PySem.F.type_tuple_index mt_tindexS (pe_g rfl T.g_KINDS) (pa_cons (pv 1) pa_nil)))) pss_nil)
      (pss_cons (ps_if (PW.pt (pw_or (pt_not (pt_chain op_le op_le pe_int (pe_callB (id := "len") o_len (by rfl) T.b_len (by decide +kernel) (pa_cons (pv 1) pa_nil)) (pe_g rfl T.g_MOST_DIGITS))) (pw_or1 (pt_not (pt_truth (pe_callB (id := "all") (cr_all rfl) (by rfl) T.b_all (by decide +kernel) (pa_cons (pe_lc (own := [("sign", 2)]) (tt := stT tYes) rfl sc_number_in.nd (pi_str (pv 1)) (blkOk_by (own := [("sign", 2)]) (N := ["field", "word", "sign"]) (sc := defScope s_number_in) (by decide +kernel)) (fun _ _ _ _ _ => PG.star (pg_name (i := 2) sc_number_in.nd rfl (Or.inl rfl) (Or.inr rfl))) (fun _ _ _ _ _ => PTs.star (pts_nil)) (fun _ _ _ _ _ => PE.star (pe_cmpR op_in_sign (pv 2) (pe_g rfl T.g_DIGITS) rfl))) pa_nil)) (by intro _; rfl)))))) (pss_one (ps_ret pe_non)) pss_nil)
      (pss_one (ps_ret (pe_ifExp (pt_cmpR (o_eq hr.units) (pe_callTy (T := "str") o_strI (by rfl) T.b_str (by decide +kernel) (pa_cons (pe_callTy (T := "int") call_int_str (by rfl) T.b_int (by decide +kernel) (pa_cons (pv 1) pa_nil)) pa_nil)) (pv 1) (nomark _)) (pe_callTy (T := "int") call_int_str (by rfl) T.b_int (by decide +kernel) (pa_cons (pv 1) pa_nil)) pe_non))))), ?_⟩
    rw [L1]
    walk_at "eo init"
    walk_at "eo go"
    refine g_join (fun σ' H' => σ' = [some (WS f), some (WS wd), none] ∧ H' = H ∧ ¬ (f = fW 2 ∧ wd ∈ kindsW)) ?_ ?_
    · walk_at "eo go"
      rw [show V.str (Sx (fW 2)) = WS (fW 2) from rfl, dec_ws]
      by_cases c1 : f = fW 2
      · refine g_iteDT (decide_eq_true c1) ?_
        walk_at "eo go"
        refine g_inTW (hK _) ?_
        walk_at "eo go"
        by_cases c2 : wd ∈ kindsW
        · rw [decide_eq_true c2]
          walk_at "eo go"
          refine ⟨.inr (.inl ⟨rfl, T.y_KINDS⟩), ?_⟩
          walk_at "eo go"
          refine g_idxTW (hK _) c2 ?_
          have k := k H (Ext.refl _)
          rw [numIn_kind ⟨c1, c2⟩] at k
          exact k
        · rw [decide_eq_false c2]
          walk_at "eo go"
          exact ⟨rfl, rfl, fun c => c2 c.2⟩
      · refine g_iteDF (decide_eq_false c1) ?_
        walk_at "eo go"
        exact ⟨rfl, rfl, fun c => c1 c.1⟩
    · rintro σ' H' ⟨rfl, rfl, hnk⟩
      walk_at "eo go"
      rw [sx_len]
      have bad : ∀ H2, Ext [] H' H2 → wd = [] ∨ 3 < wd.length ∨ wd.all isDig = false → Q .non H2 := fun H2 e2 h => by
        have k := k H2 e2
        rw [numIn_no hnk h] at k
        exact k
      by_cases c1 : 1 ≤ wd.length
      · refine g_iteDT (decide_eq_true (by omega)) ?_
        walk_at "eo go"
        by_cases c2 : wd.length ≤ 3
        · refine g_iteDF (by rw [decide_eq_true (by omega)]; rfl) ?_
          walk_at "eo go"
          have c0 : wd ≠ [] := fun e => by rw [e] at c1; exact absurd c1 (by decide)
          refine g_lcP (walk_str (z := Sx wd)) (fun i => ((wd.take i).map isDig).map V.bl) rfl (show wd.length ≤ _ by omega) (fun i => by rw [List.length_map, List.length_map, List.length_take]; omega) (fun _ _ => trivial) ?_ ?_
          · rintro i x H1 H2 hi e ⟨rfl, c, hc, rfl⟩
            have hc' : wd[i]? = some c := by
              have := hc
              rw [List.getElem?_toArray] at this
              exact this
            walk_at "eo go"
            refine ⟨rfl, ?_⟩
            walk_at "eo go"
            refine ⟨c, _, rfl, rfl, ?_⟩
            rw [digs_lit, dig_mem, List.take_succ, hc', List.map_append, List.map_append]
            exact ⟨rfl, rfl⟩
          · intro D H1 e1 n1 hD
            rw [show (Sx wd).cps.size = wd.length by simp [Sx], List.take_length] at hD
            walk_at "eo go"
            refine ⟨D, wd.map isDig, rfl, SqL.of hD, ?_⟩
            rw [show (wd.map isDig).all id = wd.all isDig by rw [List.all_map]; rfl]
            cases hd : wd.all isDig with
            | false =>
              walk_at "eo go"
              exact bad H1 e1 (.inr (.inr hd))
            | true =>
              walk_at "eo go"
              have hin := int_sx hd c0 (by omega)
              have hsm := digs_small hd c2
              have k := k H1 e1
              rw [numIn_val hnk (by rintro (h | h | h); exact c0 h; omega; rw [hd] at h; cases h)] at k
              refine ⟨_, _, rfl, hin, by rw [sx_len]; omega, ?_⟩
              walk_at "eo go"
              rw [show V.str (Sx (nw ↑(NumText.digitsVal wd))) = WS (TL.numL (NumText.digitsVal wd)) from rfl, dec_ws]
              by_cases c5 : TL.numL (NumText.digitsVal wd) = wd
              · rw [if_pos c5] at k
                refine g_iteDT (decide_eq_true c5) ?_
                walk_at "eo go"
                exact ⟨_, _, rfl, hin, by rw [sx_len]; omega, k⟩
              · rw [if_neg c5] at k
                refine g_iteDF (decide_eq_false c5) ?_
                walk_at "eo go"
                exact k
        · refine g_iteDT (by rw [decide_eq_false (by omega)]; rfl) ?_
          walk_at "eo go"
          exact bad _ (Ext.refl _) (.inr (.inl (by omega)))
      · refine g_iteDF (decide_eq_false (by omega)) ?_
        walk_at "eo go"
        exact bad _ (Ext.refl _) (.inl (List.length_eq_zero_iff.mp (by omega)))
theorem ok_rule_of {A : Adr} (T : Txt P K mg A) : FnOk P w K mg base CX0 2 A.f_rule_of A.d_rule_of ["words"] (spRuleOf K) := by
  refine T.rule_of.F.ok sc_rule_of (fun vs H Q E h => ?_) (fun cdv Ar outer s H vs Q E hr h => ?_)
  · obtain ⟨a, ws, rfl, _⟩ := h
    rfl
  · obtain ⟨a, ws, rfl, ha, hne, hmany, hlen, k1, k2⟩ := h
    have hA : ∀ H, SqT K H A.g_ACTIONS (actsW.map WS) := fun H => acts_lit ▸ T.t_ACTIONS H
    have hF : ∀ H, SqT K H A.g_FIELDS (fieldsW.map WS) := fun H => fields_lit ▸ T.t_FIELDS H
    have hS : ∀ H, SqT K H A.g_SIGNS (signsW.map WS) := fun H => signs_lit ▸ T.t_SIGNS H
    obtain ⟨wa, wr, rfl⟩ : ∃ wa wr, ws = wa :: wr := by
      cases ws with
      | nil => exact absurd rfl hne
      | cons x y => exact ⟨x, y, rfl⟩
    refine ⟨_, (pss_cons (ps_if (PW.pt (pw_or (pt_cmpR op_notIn_seq (pe_ix ix_seq (pv 0) pe_int (fun _ _ => rfl)) (pe_g rfl T.g_ACTIONS) rfl) (pw_or1 (pt_cmpR (o_ne hr.units) (pe_op op_mod (pe_callB (id := "len") o_len (by rfl) T.b_len (by decide +kernel) (pa_cons (pv 0) pa_nil)) pe_int) pe_int (nomark _))))) (pss_one (ps_ret pe_non)) pss_nil)
      (pss_cons (ps_set (i := 1) sc_rule_of.nd rfl (Or.inl rfl) (pe_lstX pa_nil))
      (pss_cons (ps_for PassesOwn.never rfl (pi_range3 (by rfl) T.b_range (pa_cons pe_int (pa_cons (pe_callB (id := "len") o_len (by rfl) T.b_len (by decide +kernel) (pa_cons (pv 0) pa_nil)) (pa_cons pe_int pa_nil)))) (pg_name (i := 2) sc_rule_of.nd rfl (Or.inl rfl)) (pss_cons (ps_asg (pe_slice o_sl (pv 0) (po_some (pv 2)) (po_some (pe_op o_add (pv 2) pe_int))) (pg_lst (n := 3) rfl (pgs_cons (pg_name (i := 3) sc_rule_of.nd rfl (Or.inl rfl)) (pgs_cons (pg_name (i := 4) sc_rule_of.nd rfl (Or.inl rfl)) (pgs_cons (pg_name (i := 5) sc_rule_of.nd rfl (Or.inl rfl)) pgs_nil)))))
      (pss_cons (ps_if (PW.pt (pw_or (pt_cmpR op_notIn_seq (pv 3) (pe_g rfl T.g_FIELDS) rfl) (pw_or (pt_cmpR op_notIn_seq (pv 4) (pe_g rfl T.g_SIGNS) rfl) (pw_or1 (pt_cmpR op_isN (pe_call (ok_number_in T) (hr.mono (by decide)) (by rfl) T.number_in.mg T.number_in.kp T.number_in.b .nil pass0 (pa_cons (pv 3) (pa_cons (pv 5) pa_nil))) pe_non (nomark _)))))) (pss_one (ps_ret pe_non)) pss_nil)
      (pss_one (ps_expr (pe_bm PySem.F.plainAttrs_list PySem.F.slot_list_append PySem.F.type_list_append mt_append (pv 1) (pa_cons (pe_tupX (pa_cons (pv 3) (pa_cons (pv 4) (pa_cons (pe_call (ok_number_in T) (hr.mono (by decide)) (by rfl) T.number_in.mg T.number_in.kp T.number_in.b .nil pass0 (pa_cons (pv 3) (pa_cons (pv 5) pa_nil))) pa_nil)))) pa_nil)))))))
      (pss_one (ps_ret (pe_tupX (pa_cons (pe_ix ix_seq (pv 0) pe_int (fun _ _ => rfl)) (pa_cons (pe_callTy (T := "tuple") o_tuple (by rfl) T.b_tuple (by decide +kernel) (pa_cons (pv 1) pa_nil)) pa_nil)))))))), ?_⟩
    walk_at "eo init"
    walk_at "eo go"
    refine g_ninTW (hA _) ?_
    walk_at "eo go"
    by_cases c1 : wa ∈ actsW
    · rw [decide_eq_true c1]
      walk_at "eo go"
      by_cases c2 : wr.length % 3 = 0
      · refine g_iteDF (by
          rw [List.length_map, List.length_cons]
          rw [dec_int, decide_eq_true (by omega)]; rfl) ?_
        have hro : ruleOf (wa :: wr) = (trip wr []).map fun ts => ⟨wa, ts⟩ := by
          show (if wa ∈ actsW ∧ wr.length % 3 = 0 then _ else none) = _
          rw [if_pos ⟨c1, c2⟩]
        obtain ⟨m, hm⟩ : ∃ m, wr.length = 3 * m := ⟨wr.length / 3, by omega⟩
        have hm4 : m < 400 := by rw [List.length_cons] at hmany; omega
        walk_at "eo go"
        rename_i T0 H0 n0 e0 h0
        rw [List.length_map, List.length_cons, hm]
        refine g_itR3f (rg3 hm4) ?_
        refine g_forW walk_rangeC (fun i σ H' => Ext [] H H' ∧ ∃ acc L s2 s3 s4 s5, σ = [some (.ref a), some (.ref T0), s2, s3, s4, s5] ∧ H' T0 = some (.lst acc) ∧ LR (TgAt K) H' acc L ∧ L.length = i ∧ trip (wr.drop (3 * i)) L = trip wr []) ⟨e0, [], [], none, none, none, none, rfl, h0, trivial, rfl, rfl⟩ (fun _ _ _ _ _ => trivial) ?_ ?_
        · rintro i x σ H1 H2 hi ⟨e1, acc, L, s2, s3, s4, s5, rfl, hT, hL, hLl, htr⟩ ⟨rfl, rfl⟩
          obtain ⟨f, sg, w, hw⟩ := drop3 hm hi
          have ha1 := sqL_ext e1 ha (fun _ _ => nin0)
          rw [hw, trip_step] at htr
          have eI : (1 : Int) + (i : Nat) * 3 = ((3 * i + 1 : Nat) : Int) := by omega
          show gName 2 (.int (1 + (i : Nat) * 3)) _ _ _
          rw [eI]
          walk_at "eo go"
          rename_i b1 H3 n3 e3 h3
          rw [take3 hw] at h3
          have hlw : w.length ≤ 100000 := hlen w (List.mem_cons_of_mem _ (List.mem_of_mem_drop (show w ∈ wr.drop (3 * i) by rw [hw]; simp)))
          have X3 := ext0 e1 e3
          have hT3 := e3.keep _ _ hT nin0
          have hL3 := hL.imp fun _ _ h => TgAt.ext e3 h
          refine g_gLst (SqL.of h3) rfl ?_
          walk_at "eo go"
          refine g_ninTW (hF _) ?_
          walk_at "eo go"
          by_cases d1 : f ∈ fieldsW
          · rw [decide_eq_true d1]
            walk_at "eo go"
            refine g_ninTW (hS _) ?_
            walk_at "eo go"
            by_cases d2 : sg ∈ signsW
            · rw [decide_eq_true d2]
              rw [if_pos ⟨d1, d2⟩] at htr
              walk_at "eo go"
              refine ⟨f, w, rfl, hlw, fun H4 e4 => ?_⟩
              cases hn : numIn f w with
              | none =>
                rw [hn] at htr
                walk_at "eo go"
                exact k1 (by rw [hro, ← htr]; rfl) _ (ext0 X3 e4)
              | some n =>
                rw [hn] at htr
                walk_at "eo go"
                refine g_iteDF rfl ?_
                walk_at "eo go"
                refine ⟨f, w, rfl, hlw, fun H5 e5 => ?_⟩
                rw [hn]
                show (fun x H1 => tNil _ H1 _) (V.int n) H5
                have hT5 := e5.keep _ _ (e4.keep _ _ hT3 nin0) nin0
                have hL5 := hL3.imp fun _ _ h => TgAt.ext (A := []) (ext0 e4 e5) h
                have X5 := ext0 X3 (ext0 e4 e5)
                clear e4 e5 e3 e1 X3 hT hT3 hL hL3 h3 n3
                walk_at "eo go"
                rename_i u6 H6 n6 e6 h6
                have hT6 := e6.keep _ _ hT5 nin0
                have hal : acc.length ≤ 400 := by rw [hL5.len]; omega
                refine g_append hT6 (by rw [sizeLine_eq]; omega) fun H7 e7 h7 => ?_
                have X7 : Ext [] H H7 := (ext0 X5 e6).trans e7 (fun _ z => z) fun x hx ⟨o, ho⟩ => by rw [List.mem_singleton.mp hx, n0] at ho; cases ho
                have n6T : u6 ≠ T0 := (ne_of_none hT5 n6).symm
                exact ⟨X7, _, _, _, _, _, _, rfl, h7, LR.snoc ((hL5.imp fun _ _ h => TgAt.ext e6 h).imp fun _ _ h => TgAt.ext e7 h) ⟨u6, rfl, SqT.of (e7.keep _ _ h6 (nin1 n6T)), .inl ⟨n, rfl⟩⟩, by rw [List.length_append, List.length_singleton, hLl], htr⟩
            · rw [decide_eq_false d2]
              rw [if_neg fun c => d2 c.2] at htr
              walk_at "eo go"
              exact k1 (by rw [hro, ← htr]; rfl) _ X3
          · rw [decide_eq_false d1]
            rw [if_neg fun c => d1 c.1] at htr
            walk_at "eo go"
            exact k1 (by rw [hro, ← htr]; rfl) _ X3
        · rintro σ H1 ⟨e1, acc, L, s2, s3, s4, s5, rfl, hT, hL, hLl, htr⟩
          rw [← hm, List.drop_length] at htr
          have htr : some L = trip wr [] := htr
          rw [← htr] at hro
          have ha1 := sqL_ext e1 ha (fun _ _ => nin0)
          walk_at "eo go"
          rename_i u1 H2 n2 e2 h2 u2 H3 n3 e3 h3
          exact k2 ⟨wa, L⟩ hro u2 H3 (ext0 e1 (ext0 e2 e3)) ⟨u2, u1, acc, rfl, SqT.of h3, SqT.of (e3.keep _ _ h2 nin0), hL.imp fun _ _ h => TgAt.ext (A := []) (ext0 e2 e3) h, (by show L.length ≤ 1000; omega)⟩
      · refine g_iteDT (by
          rw [List.length_map, List.length_cons]
          rw [dec_int, decide_eq_false (by omega)]; rfl) ?_
        walk_at "eo go"
        exact k1 (by show (if wa ∈ actsW ∧ wr.length % 3 = 0 then _ else none) = none; rw [if_neg fun c => c2 c.2]) _ (Ext.refl _)
    · rw [decide_eq_false c1]
      walk_at "eo go"
      exact k1 (by show (if wa ∈ actsW ∧ wr.length % 3 = 0 then _ else none) = none; rw [if_neg fun c => c1 c.1]) _ (Ext.refl _)
theorem ok_law_code {A : Adr} (T : Txt P K mg A) : FnOk P w K mg base CX0 4 A.f_law_code A.d_law_code ["rules"] (spCode K) := by
  refine T.law_code.F.ok sc_law_code (fun vs H Q E h => ?_) (fun cdv Ar outer s H vs Q E hr h => ?_)
  · obtain ⟨p, rs, rfl, _⟩ := h
    rfl
  · obtain ⟨p, rs, rfl, hR, k⟩ := h
    refine ⟨_, (pss_cons (ps_try_as (i := 1) (tb := fun W => tDrop (tCallS (spCheck K A.c_InputError) (WE W) (tCons (tVar 0) tNil))) (ts := fun a cls d => tRet (tXf a cls d A.c_InputError "code" (tVar 1))) (Wout := fun _ _ _ _ => False) rfl rfl sc_law_code.nd rfl rfl ⟨rfl, by decide, .inl T.x_InputError.mg⟩ takes0 (fun W pn xe tk _ => pss_one (ps_expr (pe_callS (ok_check_rules T) (hr.mono (by decide)) (by rfl) T.check_rules.mg T.check_rules.kp T.check_rules.b (fun σ => passAt tk σ) (pa_cons (pv 0) pa_nil)))) (fun a oe cls d pn hz hf => (pss_one (ps_ret (pe_xf T.x_InputError.xf T.x_InputError.no_code hz hf (pv 1))))))
      (pss_one (ps_ret pe_str))), ?_⟩
    walk_at "eo init"
    refine g_seq ?_
    show tDrop _ _ _ _
    refine g_drop ?_
    refine g_callS ?_
    walk_at "eo go"
    refine ⟨p, rs, rfl, hR, fun hc H' e => ?_, fun hc d H' e hx => ?_⟩
    · walk_at "eo go"
      have := k H' e
      rw [hc] at this
      exact this
    · refine ⟨true, T.x_InputError.te, fun _ a ha => ?_, fun q => Bool.noConfusion q⟩
      refine g_ret ?_
      have := k H' e
      rw [hc] at this
      exact ⟨.ref a, rfl, rfl, rfl, d, _, .str "rule", rfl, hx, rfl, this⟩
theorem ok_parse_rules {A : Adr} (T : Txt P K mg A) : FnOk P w K mg base (L2.CX P w) 4 A.f_parse_rules A.d_parse_rules ["text"] (spRParse K A.c_TextError) := by
  refine T.parse_rules.F.okX sc_parse_rules (fun vs H Q E h => ?_) (fun cdv Ar outer s H vs Q E hr h => ?_)
  · obtain ⟨l, rfl, _⟩ := h
    rfl
  · obtain ⟨l, rfl, hl, k1, k2⟩ := h
    refine ⟨_, (pss_cons (ps_set (i := 1) sc_parse_rules.nd rfl (Or.inl rfl) (pe_lstX pa_nil))
      (pss_cons (ps_for (passes_of rfl) rfl (pi_enum (by rfl) T.b_enumerate (pa_cons (pe_split (pv 0) pe_str) pa_nil)) (pg_tup (n := 2) rfl (pgs_cons (pg_name (i := 2) sc_parse_rules.nd rfl (Or.inl rfl)) (pgs_cons (pg_name (i := 3) sc_parse_rules.nd rfl (Or.inl rfl)) pgs_nil))) (pss_cons (ps_setLc (i := 4) (own := [("word", 6)]) rfl sc_parse_rules.nd rfl rfl (sw_true rfl rfl rfl (by decide +kernel)) (pi_list (pe_split (pv 3) pe_str)) (blkOk_by (own := [("word", 6)]) (N := ["text", "found", "line", "row", "words", "rule", "word"]) (sc := defScope s_parse_rules) (by decide +kernel)) (fun _ _ _ _ _ => PG.star (pg_name (i := 6) sc_parse_rules.nd rfl (Or.inl rfl) (Or.inr rfl))) (fun _ _ _ _ _ => PTs.star ((pts_one (kk_truth (K := K) rfl (pv 6) (by intro _; rfl))))) (fun _ _ _ _ _ => PE.star (pv 6)))
      (pss_cons (ps_if (pt_not (pt_truth (pv 4) (by intro _; rfl))) (pss_one ps_continue) pss_nil)
      (pss_cons (ps_set (i := 5) sc_parse_rules.nd rfl (Or.inl rfl) (pe_call (ok_rule_of T) (hr.mono (by decide)) (by rfl) T.rule_of.mg T.rule_of.kp T.rule_of.b .nil pass0 (pa_cons (pv 4) pa_nil)))
      (pss_cons (ps_if (pt_cmpR op_isN (pv 5) pe_non (nomark _)) (pss_one (ps_raise rfl (takes_of rfl rfl rfl rfl) (pmk_oex T.x_TextError.S.T T.x_TextError.iC T.x_TextError.tI (ok_TextError_init T) (hr.mono (by decide)) T.x_TextError.b .nil passL (by rfl) T.x_TextError.mg (pa_cons pe_str (pa_cons (pv 2) pa_nil))))) pss_nil)
      (pss_one (ps_expr (pe_bm PySem.F.plainAttrs_list PySem.F.slot_list_append PySem.F.type_list_append mt_append (pv 1) (pa_cons (pv 5) pa_nil)))))))))
      (pss_cons (ps_expr (pe_callS (ok_check_rules T) (hr.mono (by decide)) (by rfl) T.check_rules.mg T.check_rules.kp T.check_rules.b (fun σ => passAt (takes_of rfl rfl rfl rfl) σ) (pa_cons (pe_callTy (T := "tuple") o_tuple (by rfl) T.b_tuple (by decide +kernel) (pa_cons (pv 1) pa_nil)) pa_nil)))
      (pss_one (ps_ret (pe_callTy (T := "tuple") o_tuple (by rfl) T.b_tuple (by decide +kernel) (pa_cons (pv 1) pa_nil))))))), ?_⟩
    walk_at "eo init"
    walk_at "eo go"
    rename_i F H0 n0 e0 h0
    refine g_iEnum ?_
    walk_at "eo go"
    refine g_split10 (by decide +kernel) (by omega) ?_
    walk_at "eo go"
    rename_i a1 H1 n1 e1 h1
    have hF1 := e1.keep _ _ h0 nin0
    have X1 := ext0 e0 e1
    have hrl := spl10_le l
    have L1 : (" " : Str) = Sx [32] := by decide +kernel
    refine ⟨a1, _, rfl, SqL.of h1, ?_⟩
    have nF : H F = none := n0
    have hrows : ∀ r ∈ linesT l, r.length ≤ 1000 := fun r hr => Nat.le_trans (spl10_word hr) hl
    have hrl : (linesT l).length ≤ 1001 := by show (TL.spl [10] 0 [] l).length ≤ _; omega
    generalize linesT l = rows at *
    rw [L1]
    refine g_forW walk_enum (fun i σ H' => Ext [] H H' ∧ H' a1 = some (.lst (rows.map WS)) ∧ ∃ acc L s2 s3 s4 s5, σ = [some (.str (Sx l)), some (.ref F), s2, s3, s4, s5, none] ∧ H' F = some (.lst acc) ∧ LR (RgAt K) H' acc L ∧ L.length ≤ i ∧ prs (rows.drop i) i L = prs rows 0 []) ⟨X1, h1, [], [], none, none, none, none, rfl, hF1, trivial, Nat.le_refl _, rfl⟩ (fun _ _ _ _ h => SqL.of h.2.1) ?_ ?_
    · rintro i x σ H2 H3 hi ⟨X2, h2, acc, L, s2, s3, s4, s5, rfl, hF, hL, hLl, hp⟩ ⟨T2, x, y, rfl, n3, rfl, hx, hy⟩
      cases hx
      have hy : (rows.map WS)[i]? = some y := hy
      rw [List.getElem?_map] at hy
      cases hrow : rows[i]? with
      | none => rw [hrow] at hy; cases hy
      | some row =>
        rw [hrow] at hy
        cases hy
        rw [prs_at hrow] at hp
        have e3 : Ext [] H2 (upd H2 T2 (.tup [.int (i : Nat), WS row])) := Ext.new n3
        have h3 : (upd H2 T2 (.tup [.int (i : Nat), WS row])) T2 = some (.tup [.int (i : Nat), WS row]) := upd_same
        generalize upd H2 T2 (.tup [.int (i : Nat), WS row]) = H3 at *
        have X3 := ext0 X2 e3
        have hF3 := e3.keep _ _ hF nin0
        have h23 := e3.keep _ _ h2 nin0
        have hL3 := hL.imp fun _ _ h => RgAt.ext e3 h
        have hrl := hrows row (List.mem_of_getElem? hrow)
        walk_at "eo go"
        refine g_split rfl (by omega) ?_
        walk_at "eo go"
        rename_i p4 H4 n4 e4 h4
        have hsl := spl_le row
        refine g_lcP (walk_list (xs := (TL.spl [32] 0 [] row).map WS)) (fun i => (((TL.spl [32] 0 [] row).take i).filter fun w => decide (w ≠ [])).map WS) rfl (by rw [List.length_map]; omega) (fun i => by
          rw [List.length_map]
          exact Nat.le_trans (List.length_filter_le _ _) (by rw [List.length_take]; omega)) (fun H e => SqL.of (e.keep _ _ h4 nin0)) ?_ ?_
        · rintro i x H' H2 hi e ⟨rfl, hx⟩
          rw [List.getElem?_map] at hx
          cases hw : (TL.spl [32] 0 [] row)[i]? with
          | none => rw [hw] at hx; cases hx
          | some v =>
            rw [hw] at hx
            cases hx
            walk_at "eo go"
            refine ⟨rfl, ?_⟩
            walk_at "eo go"
            have hv := spl_word (List.mem_of_getElem? hw)
            refine g_truS (by rw [sx_len, sizeLine_eq]; omega) ?_
            rw [List.take_succ, hw]
            by_cases c : v = []
            · subst c
              refine g_iteDF rfl ?_
              refine ⟨rfl, ?_⟩
              rw [List.filter_append]
              show ((_ ++ List.filter (fun w => decide (w ≠ [])) [[]]).map WS) = _
              rw [show List.filter (fun w : List Nat => decide (w ≠ [])) [[]] = [] from rfl, List.append_nil]
            · have hl0 := List.length_pos_iff.mpr c
              refine g_iteDT (by rw [sx_len]; exact bne_iff_ne.mpr (by omega)) ?_
              walk_at "eo go"
              refine ⟨rfl, ?_⟩
              rw [List.filter_append, List.map_append]
              show _ ++ List.map WS (List.filter (fun w => decide (w ≠ [])) [v]) = _
              rw [List.filter_cons, if_pos (decide_eq_true c)]
              rfl
        · intro D H5 e5 n5 hD
          rw [List.length_map, List.take_length] at hD
          have hD : H5 D = some (.lst ((toks row).map WS)) := hD
          have htl : ∀ w ∈ toks row, w.length ≤ 1000 := fun w hw => Nat.le_trans (toks_len hw) hrl
          have htm : (toks row).length ≤ 1001 := Nat.le_trans (toks_many row) (by omega)
          have X5 := ext0 X3 (ext0 e4 e5)
          have hF5 := e5.keep _ _ (e4.keep _ _ hF3 nin0) nin0
          have h25 := e5.keep _ _ (e4.keep _ _ h23 nin0) nin0
          have hL5 := hL3.imp fun _ _ h => RgAt.ext (A := []) (ext0 e4 e5) h
          clear hL hL3 hF hF3 h2 h23 e3 e4 e5 X3 X2 h3 h4 n4 n5 hsl
          generalize toks row = ws at *
          walk_at "eo go"
          by_cases c0 : ws = []
          · subst c0
            rw [if_pos rfl] at hp
            refine g_iteDT rfl ?_
            walk_at "eo go"
            exact ⟨X5, h25, acc, L, _, _, _, _, rfl, hF5, hL5, by omega, hp⟩
          · rw [if_neg c0] at hp
            refine g_iteDF (by cases ws with
              | nil => exact absurd rfl c0
              | cons x y => rfl) ?_
            walk_at "eo go"
            refine ⟨D, ws, rfl, SqL.of hD, c0, by omega, fun w hw => Nat.le_trans (htl w hw) (by decide), fun hn H6 e6 => ?_, fun g hg x H6 e6 hx => ?_⟩
            · rw [hn] at hp
              have hp : Sum.inr i = prs rows 0 [] := hp
              have X6 := ext0 X5 e6
              have hi' : (i : Int) < 1000000 := by rw [List.length_map] at hi; omega
              walk_at "eo go"
              refine g_mk2 (z := "form") (i := i) (by decide +kernel) (by omega) hi' (fun R hR => ?_) fun d H' e hx => k1 i hp.symm d H' (ext0 X6 e) hx
              walk_at "eo go"
              exact hR
            · rw [hg] at hp
              have hF6 := e6.keep _ _ hF5 nin0
              have h26 := e6.keep _ _ h25 nin0
              have hL6 := hL5.imp fun _ _ h => RgAt.ext e6 h
              have X6 := ext0 X5 e6
              have hal : acc.length ≤ 1001 := by rw [hL6.len, ← List.length_map (f := WS) (as := rows)] at *; omega
              walk_at "eo go"
              refine g_append hF6 (by rw [sizeLine_eq]; omega) fun H7 e7 h7 => ?_
              have X7 : Ext [] H H7 := X6.trans e7 (fun _ z => z) fun x hx ⟨o, ho⟩ => by rw [List.mem_singleton.mp hx, n0] at ho; cases ho
              have n1F : a1 ≠ F := ne_of_none h0 n1 |>.symm
              exact ⟨X7, e7.keep _ _ h26 (nin1 n1F), _, _, _, _, _, _, rfl, h7, LR.snoc (hL6.imp fun _ _ h => RgAt.ext e7 h) (hx.ext e7), by rw [List.length_append, List.length_singleton]; omega, hp⟩
    · rintro σ H2 ⟨X2, h2, acc, L, s2, s3, s4, s5, rfl, hF, hL, hLl, hp⟩
      rw [List.length_map, List.drop_length] at hp
      have hp : Sum.inl L = prs rows 0 [] := hp
      obtain ⟨hc, k2⟩ := k2 L hp.symm
      walk_at "eo go"
      refine g_callS ?_
      walk_at "eo go"
      rename_i u1 H3 n3 e3 h3
      have hR : RsAt K H3 u1 L := ⟨acc, SqT.of h3, hL.imp fun _ _ h => RgAt.ext e3 h, by have := (chk_all hc).1; omega⟩
      have hF3 := e3.keep _ _ hF nin0
      refine ⟨u1, L, rfl, hR, fun _ H4 e4 => ?_, fun h => by rw [hc] at h; cases h⟩
      have hF4 := e4.keep _ _ hF3 nin0
      walk_at "eo go"
      rename_i u2 H5 n5 e5 h5
      exact k2 u2 H5 (ext0 X2 (ext0 e3 (ext0 e4 e5))) ⟨acc, SqT.of h5, hL.imp fun _ _ h => RgAt.ext (A := []) (ext0 e3 (ext0 e4 e5)) h, by have := (chk_all hc).1; omega⟩
theorem ok_law_read {A : Adr} (T : Txt P K mg A) : FnOk P w K mg base CX0 5 A.f_law_read A.d_law_read ["text"] (spRRead K) := by
  refine T.law_read.F.ok sc_law_read (fun vs H Q E h => ?_) (fun cdv Ar outer s H vs Q E hr h => ?_)
  · obtain ⟨l, rfl, _⟩ := h
    rfl
  · obtain ⟨l, rfl, hl, k1, k2⟩ := h
    refine ⟨_, (pss_one (ps_try_as (i := 1) (tb := fun W => tRet (tCallS (spRParse K A.c_TextError) (WE W) (tCons (tVar 0) tNil))) (ts := fun a cls d => tRet (tTupX (tCons (tXf a cls d A.c_TextError "code" (tVar 1)) (tCons (tXf a cls d A.c_TextError "at" (tVar 1)) tNil)))) (Wout := fun _ _ _ _ => False) rfl rfl sc_law_read.nd rfl rfl ⟨rfl, by decide, .inl T.x_TextError.mg⟩ takes0 (fun W pn xe tk _ => pss_one (ps_ret (pe_callS (ok_parse_rules T) (hr.mono (by decide)) (by rfl) T.parse_rules.mg T.parse_rules.kp T.parse_rules.b (fun σ => passAt tk σ) (pa_cons (pv 0) pa_nil)))) (fun a oe cls d pn hz hf => (pss_one (ps_ret (pe_tupX (pa_cons (pe_xf T.x_TextError.xf T.x_TextError.no_code hz hf (pv 1)) (pa_cons (pe_xf T.x_TextError.xf T.x_TextError.no_at hz hf (pv 1)) pa_nil)))))))), ?_⟩
    walk_at "eo init"
    show tRet _ _ _ _
    refine g_ret ?_
    refine g_callS ?_
    walk_at "eo go"
    refine ⟨l, rfl, hl, fun i hi d H' e hx => ?_, fun rs hp => k2 rs hp⟩
    refine ⟨true, T.x_TextError.te, fun _ a ha => ?_, fun q => Bool.noConfusion q⟩
    refine g_ret ?_
    refine g_tup ?_
    refine g_cons ?_
    refine ⟨.ref a, rfl, rfl, rfl, d, _, .str "form", rfl, hx, rfl, ?_⟩
    refine g_cons ?_
    refine ⟨.ref a, rfl, rfl, rfl, d, _, .int i, rfl, hx, rfl, ?_⟩
    walk_at "eo go"
    rename_i c H1 n1 e1 h1
    exact k1 i hi c H1 (e.trans e1 (fun _ z => z) (fun _ z => by cases z)) (SqT.of h1)
theorem ok_law_holds {A : Adr} (T : Txt P K mg A) : FnOk P w K mg base CX0 1 A.f_law_holds A.d_law_holds ["numbers", "test"] (spHolds K) := by
  refine T.law_holds.F.ok sc_law_holds (fun vs H Q E h => ?_) (fun cdv Ar outer s H vs Q E hr h => ?_)
  · obtain ⟨a, x, p, t, rfl, _⟩ := h
    rfl
  · obtain ⟨a, x, p, t, rfl, ha, ⟨q, rfl, hq, _⟩, hok, k⟩ := h
    obtain ⟨h1, h2, n, hn, h3, h4⟩ := tOk_int hok
    rw [hn] at hq
    have hg := fld_get (p := p) h1
    have L1 : ("=" : Str) = Sx [61] := by decide +kernel
    have L2 : ("<" : Str) = Sx [60] := by decide +kernel
    refine ⟨_, (pss_cons (ps_set (i := 2) sc_law_holds.nd rfl (Or.inl rfl) (pe_dget (u1 hr.units) (pv 0) (pe_ix ix_seq (pv 1) pe_int (fun _ _ => rfl)) (fun _ _ => rfl)))
      (pss_one (ps_ret (pe_ifExp (pt_cmpR (o_eq hr.units) (pe_ix ix_seq (pv 1) pe_int (fun _ _ => rfl)) pe_str (nomark _)) (pe_cmpR (o_eq hr.units) (pv 2) (pe_ix ix_seq (pv 1) pe_int (fun _ _ => rfl)) (nomark _)) (pe_ifExp (pt_cmpR (o_eq hr.units) (pe_ix ix_seq (pv 1) pe_int (fun _ _ => rfl)) pe_str (nomark _)) (pe_cmpR op_lt (pv 2) (pe_ix ix_seq (pv 1) pe_int (fun _ _ => rfl)) (nomark _)) (pe_cmpR op_gt (pv 2) (pe_ix ix_seq (pv 1) pe_int (fun _ _ => rfl)) (nomark _))))))), ?_⟩
    rw [L1, L2]
    walk_at "eo init"
    walk_at "eo go"
    rw [show V.str (Sx [61]) = WS [61] from rfl, dec_ws]
    by_cases c1 : t.s = [61]
    · refine g_iteDT (decide_eq_true c1) ?_
      rw [hold_eq c1, hn] at k
      walk_at "eo go"
      rw [dec_int]
      exact k
    · refine g_iteDF (decide_eq_false c1) ?_
      walk_at "eo go"
      rw [show V.str (Sx [60]) = WS [60] from rfl, dec_ws]
      by_cases c2 : t.s = [60]
      · refine g_iteDT (decide_eq_true c2) ?_
        rw [hold_lt c1 c2, hn] at k
        walk_at "eo go"
        exact k
      · refine g_iteDF (decide_eq_false c2) ?_
        rw [hold_gt c1 c2, hn] at k
        walk_at "eo go"
        exact k
theorem ok_law_numbers {A : Adr} (T : Txt P K mg A) : FnOk P w K mg base CX0 1 A.f_law_numbers A.d_law_numbers ["packet"] (spFields K) := by
  refine T.law_numbers.F.ok sc_law_numbers (fun vs H Q E h => ?_) (fun cdv Ar outer s H vs Q E hr h => ?_)
  · obtain ⟨a, p, rfl, _⟩ := h
    rfl
  · obtain ⟨a, p, rfl, ⟨b, ha, hb⟩, hk, hbl, k⟩ := h
    dsimp only [pkV] at ha
    refine ⟨_, (pss_join (ps_set (i := 1) sc_law_numbers.nd rfl (Or.inl rfl) (pe_ifExp (PW.pt (pw_and (pt_cmpR (o_eq hr.units) (pe_ix ix_seq (pv 0) pe_int (fun _ _ => rfl)) pe_str (nomark _)) (pw_and1 (pt_cmpR op_gt (pe_callB (id := "len") o_len (by rfl) T.b_len (by decide +kernel) (pa_cons (pe_ix ix_seq (pv 0) pe_int (fun _ _ => rfl)) pa_nil)) pe_int (nomark _))))) (pe_slice o_sl (pe_ix ix_seq (pv 0) pe_int (fun _ _ => rfl)) po_none (po_some pe_int)) (pe_tupX (pa_cons pe_int (pa_cons pe_int pa_nil)))))
      (pss_cons (ps_set (i := 2) sc_law_numbers.nd rfl (Or.inl rfl) (pe_bm PySem.F.plainAttrs_list PySem.F.slot_list_index PySem.F.type_list_index mt_lindexS (pe_lstX (pa_cons pe_str (pa_cons pe_str (pa_cons pe_str (pa_cons pe_str pa_nil))))) (pa_cons (pe_ix ix_seq (pv 0) pe_int (fun _ _ => rfl)) pa_nil)))
      (pss_one (ps_ret (pe_disp (pps_cons pe_str (pe_ix ix_seq (pv 0) pe_int (fun _ _ => rfl)) (pps_cons pe_str (pe_ix ix_seq (pv 0) pe_int (fun _ _ => rfl)) (pps_cons pe_str (pv 2) (pps_cons pe_str (pe_ix ix_seq (pv 0) pe_int (fun _ _ => rfl)) (pps_cons pe_str (pe_callB (id := "len") o_len (by rfl) T.b_len (by decide +kernel) (pa_cons (pe_ix ix_seq (pv 0) pe_int (fun _ _ => rfl)) pa_nil)) (pps_cons pe_str (pe_ix ix_seq (pv 1) pe_int (fun _ _ => rfl)) (pps_cons pe_str (pe_ix ix_seq (pv 1) pe_int (fun _ _ => rfl)) pps_nil))))))) (by rfl) (by rfl) (fun z => by cases z) (by decide)))))), ?_⟩
    have Ld : ("data" : Str) = Sx (kW 0) := by decide +kernel
    walk_at "eo init"
    rw [Ld]
    walk_at "eo go"
    refine g_join (fun σ' H' => ∃ c, σ' = [some (.ref a), some (.ref c), none] ∧ Ext [] H H' ∧ SqT K H' c [.int (fv p (fW 5)), .int (fv p (fW 6))]) ?_ ?_
    · walk_at "eo go"
      rw [show V.str (Sx (kW 0)) = WS (kW 0) from rfl, dec_ws]
      by_cases c : p.k = 0 ∧ 1 < p.b.length
      · refine g_iteDT (by rw [c.1]; rfl) ?_
        walk_at "eo go"
        rw [List.length_map]
        refine g_iteDT (decide_eq_true (by omega)) ?_
        walk_at "eo go"
        rename_i c1 H1 e1 h1
        have e5 : fv p (fW 5) = (p.b[0]?).getD 0 := by
          show (if p.k = 0 ∧ 1 < p.b.length then _ else _) = _
          rw [if_pos c]; rfl
        have e6 : fv p (fW 6) = (p.b[1]?).getD 0 := by
          show (if p.k = 0 ∧ 1 < p.b.length then _ else _) = _
          rw [if_pos c]; rfl
        refine ⟨_, rfl, e1, ?_⟩
        rw [e5, e6]
        have : List.take 2 (p.b.map V.int) = [.int ((p.b[0]?).getD 0), .int ((p.b[1]?).getD 0)] := by
          match hb : p.b, c.2 with
          | x :: y :: r, _ => rfl
        rw [← this]
        exact h1
      · have e5 : fv p (fW 5) = 0 := by
          show (if p.k = 0 ∧ 1 < p.b.length then _ else _) = _
          rw [if_neg c]
        have e6 : fv p (fW 6) = 0 := by
          show (if p.k = 0 ∧ 1 < p.b.length then _ else _) = _
          rw [if_neg c]
        rw [e5, e6]
        by_cases c2 : p.k = 0
        · refine g_iteDT (by rw [c2]; rfl) ?_
          walk_at "eo go"
          rw [List.length_map]
          refine g_iteDF (decide_eq_false (by omega)) ?_
          walk_at "eo go"
          rename_i c1 H1 n1 e1 h1
          exact ⟨_, rfl, e1, SqT.of h1⟩
        · refine g_iteDF (by
            rw [decide_eq_false]
            intro z
            have h1 := kind_kW hk
            rw [z] at h1
            exact c2 (Option.some.inj h1).symm) ?_
          walk_at "eo go"
          rename_i c1 H1 n1 e1 h1
          exact ⟨_, rfl, e1, SqT.of h1⟩
    · rintro σ' H' ⟨c, rfl, e, hc⟩
      have ha := sqT_ext e ha
      have hb := sqT_ext e hb
      rw [← Ld]
      walk_at "eo go"
      rename_i l1 H1 n1 e1 h1
      rw [kinds_lit] at h1
      refine g_idxL (SqL.of h1) hk ?_
      have X1 := ext0 e e1
      have ha := sqT_ext e1 ha
      have hb := sqT_ext e1 hb
      have hc := sqT_ext e1 hc
      clear e e1 n1 h1
      have e0 : ("source" : Str) = Sx (fW 0) := by decide +kernel
      have e1 : ("goal" : Str) = Sx (fW 1) := by decide +kernel
      have e2 : ("kind" : Str) = Sx (fW 2) := by decide +kernel
      have e3 : ("life" : Str) = Sx (fW 3) := by decide +kernel
      have e4 : ("length" : Str) = Sx (fW 4) := by decide +kernel
      have e5 : ("from" : Str) = Sx (fW 5) := by decide +kernel
      have e6 : ("to" : Str) = Sx (fW 6) := by decide +kernel
      rw [e0, e1, e2, e3, e4, e5, e6]
      walk_at "eo go"
      refine g_disp fun D H2 n2 x2 hD => ?_
      have ha := sqT_ext x2 ha
      have hb := sqT_ext x2 hb
      have hc := sqT_ext x2 hc
      walk_at "eo go"
      refine ⟨hD, fldK p, ?_, (show 7 ≤ 15 by decide), ?_⟩
      · rw [List.length_map]
        rfl
      · rw [fld_merge]
        refine k D _ (ext0 X1 ?_) (X1.free n2 nin0) upd_same
        exact x2.trans (Ext.wr hD rfl) (fun _ z => z) fun x hx ⟨o, ho⟩ => by rw [List.mem_singleton.mp hx, n2] at ho; cases ho
theorem ok_law_decider {A : Adr} (T : Txt P K mg A) : FnOk P w K mg base CX0 2 A.f_law_decider A.d_law_decider ["rules", "packet"] (spDecider K) := by
  refine T.law_decider.F.ok sc_law_decider (fun vs H Q E h => ?_) (fun cdv Ar outer s H vs Q E hr h => ?_)
  · obtain ⟨a, c, rs, p, rfl, _⟩ := h
    rfl
  · obtain ⟨a, c, rs, p, rfl, ⟨xs, hx, hX, hlen⟩, hc, hP, hk, hb, k⟩ := h
    have hxl := hX.len
    obtain ⟨h8, hok⟩ := chk_all hc
    refine ⟨_, (pss_cons (ps_set (i := 2) sc_law_decider.nd rfl (Or.inr rfl) (pe_call (ok_law_numbers T) (hr.mono (by decide)) (by rfl) T.law_numbers.mg T.law_numbers.kp T.law_numbers.b .nil pass0 (pa_cons (pv 1) pa_nil)))
      (pss_cons (ps_for PassesOwn.never rfl (pi_range1 (by rfl) T.b_range (pa_cons (pe_callB (id := "len") o_len (by rfl) T.b_len (by decide +kernel) (pa_cons (pv 0) pa_nil)) pa_nil)) (pg_name (i := 3) sc_law_decider.nd rfl (Or.inl rfl)) (pss_one (ps_if (pt_truth (pe_callB (id := "all") (cr_all rfl) (by rfl) T.b_all (by decide +kernel) (pa_cons (pe_lc (own := [("test", 4)]) (tt := stT tYes) rfl sc_law_decider.nd (pi_tup (pe_ix ix_seq (pe_ix ix_seq (pv 0) (pv 3) (fun _ _ => rfl)) pe_int (fun _ _ => rfl))) (blkOk_by (own := [("test", 4)]) (N := ["rules", "packet", "numbers", "k", "test"]) (sc := defScope s_law_decider) (by decide +kernel)) (fun _ _ _ _ _ => PG.star (pg_name (i := 4) sc_law_decider.nd rfl (Or.inl rfl) (Or.inr rfl))) (fun _ _ _ _ _ => PTs.star (pts_nil)) (fun _ _ _ _ _ => PE.star (pe_call (ok_law_holds T) (hr.mono (by decide)) (by rfl) T.law_holds.mg T.law_holds.kp T.law_holds.b .nil pass0 (pa_cons (pv 2) (pa_cons (pv 4) pa_nil))))) pa_nil)) (by intro _; rfl)) (pss_one (ps_ret (pv 3))) pss_nil)))
      (pss_one (ps_ret (pe_callB (id := "len") o_len (by rfl) T.b_len (by decide +kernel) (pa_cons (pv 0) pa_nil)))))), ?_⟩
    walk_at "eo init"
    walk_at "eo go"
    refine ⟨c, p, rfl, hP, hk, hb, fun D H0 e0 n0 hD0 => ?_⟩
    have hx0 := sqT_ext e0 hx
    walk_at "eo go"
    refine g_forW walk_range (fun i σ H' => Ext [] H H' ∧ H' D = some (.dK (fldK p)) ∧ (rs.take i).all (fun r => !rHold p r) = true ∧ ∃ s1, σ = [some (.ref a), some (.ref c), some (.ref D), s1, none]) ⟨e0, hD0, rfl, none, rfl⟩ (fun _ _ _ _ _ => trivial) ?_ ?_
    · rintro i x σ H1 H2 hi ⟨e, hD, hall, s1, rfl⟩ ⟨rfl, rfl⟩
      have hi' : i < rs.length := by rw [hxl] at hi; omega
      obtain ⟨r, hr0⟩ : ∃ r, rs[i]? = some r := ⟨rs[i], List.getElem?_eq_getElem hi'⟩
      obtain ⟨x, hx0, q, u, ys, rfl, hq, hu, hY, hyl⟩ := (hX.imp fun _ _ => RgAt.ext e).at hr0
      have hrok := rOk_of (hok r (List.mem_of_getElem? hr0))
      have hx1 := sqT_ext e hx
      have hat : atI xs (0 + (i : Nat)) = some (.ref q) := by rw [Int.zero_add]; exact atI_nat hx0
      walk_at "eo go"
      refine g_lcR walk_tup IsV (fun _ q => q) ((r.ts.map (hold p)).map V.bl) (by rw [List.length_map, List.length_map, hY.len]) (by rw [hY.len]; exact hyl) (fun H e => sqT_ext e hu) ?_ ?_
      · rintro j x H3 H4 b hb e2 ⟨rfl, hx⟩
        obtain ⟨t, ht0, ht⟩ := (hY.imp fun _ _ => TgAt.ext e2).get hx
        rw [List.getElem?_map, List.getElem?_map, ht0] at hb
        cases hb
        walk_at "eo go"
        refine ⟨rfl, ?_⟩
        walk_at "eo go"
        exact ⟨D, _, p, t, rfl, e2.keep _ _ hD nin0, ht, List.all_eq_true.mp hrok.2.2 t (List.mem_of_getElem? ht0), Ext.refl _, rfl⟩
      · intro D2 H3 acc e2 n2 hA2 hD2
        have hA2 := lr_v hA2
        subst hA2
        walk_at "eo go"
        refine ⟨D2, _, rfl, SqL.of hD2, ?_⟩
        rw [show ((r.ts.map (hold p))).all id = rHold p r by rw [List.all_map]; rfl]
        cases c3 : rHold p r with
        | false =>
          walk_at "eo go"
          exact ⟨ext0 e e2, e2.keep _ _ hD nin0, all_snoc hr0 hall (by rw [c3]; rfl), _, rfl⟩
        | true =>
          walk_at "eo go"
          have k := k H3 (ext0 e e2)
          rw [dec_hit hall hr0 c3] at k
          show Q (.int (0 + (i : Nat))) H3
          rw [Int.zero_add]
          exact k
    · rintro σ H1 ⟨e, hD, hall, s1, rfl⟩
      have : rs.take ((xs.length : Int)).toNat = rs := by rw [hxl]; exact List.take_length
      rw [this] at hall
      have k := k H1 e
      rw [dec_end hall] at k
      have hx1 := sqT_ext e hx
      walk_at "eo go"
      rw [hxl]
      exact k
theorem ok_law_action {A : Adr} (T : Txt P K mg A) : FnOk P w K mg base CX0 3 A.f_law_action A.d_law_action ["rules", "packet"] (spDecide K) := by
  refine T.law_action.F.ok sc_law_action (fun vs H Q E h => ?_) (fun cdv Ar outer s H vs Q E hr h => ?_)
  · obtain ⟨a, c, rs, p, rfl, _⟩ := h
    rfl
  · obtain ⟨a, c, rs, p, rfl, hR, hc, hP, hk, hb, k⟩ := h
    refine ⟨_, (pss_cons (ps_set (i := 2) sc_law_action.nd rfl (Or.inl rfl) (pe_call (ok_law_decider T) (hr.mono (by decide)) (by rfl) T.law_decider.mg T.law_decider.kp T.law_decider.b .nil pass0 (pa_cons (pv 0) (pa_cons (pv 1) pa_nil))))
      (pss_one (ps_ret (pe_ifExp (pt_cmpR op_lt (pv 2) (pe_callB (id := "len") o_len (by rfl) T.b_len (by decide +kernel) (pa_cons (pv 0) pa_nil)) (nomark _)) (pe_ix ix_seq (pe_ix ix_seq (pv 0) (pv 2) (fun _ _ => rfl)) pe_int (fun _ _ => rfl)) pe_str)))), ?_⟩
    have Ld : ("drop" : Str) = Sx dropW := by decide +kernel
    rw [Ld]
    walk_at "eo init"
    walk_at "eo go"
    refine ⟨a, c, rs, p, rfl, hR, hc, hP, hk, hb, fun H1 e1 => ?_⟩
    have hR1 := hR.ext e1
    obtain ⟨xs, hx, hX, hlen⟩ := hR1
    have hxl := hX.len
    walk_at "eo go"
    by_cases c1 : decI rs p < rs.length
    · refine g_iteDT (decide_eq_true (by omega)) ?_
      obtain ⟨r, hr0⟩ : ∃ r, rs[decI rs p]? = some r := ⟨_, List.getElem?_eq_getElem c1⟩
      obtain ⟨x, hx0, q, u, ys, rfl, hq, hu, hY, hyl⟩ := hX.at hr0
      have hat : atI xs (decI rs p : Nat) = some (.ref q) := atI_nat hx0
      walk_at "eo go"
      have k := k H1 e1
      unfold decF at k
      rw [hr0] at k
      exact k
    · refine g_iteDF (decide_eq_false (by omega)) ?_
      walk_at "eo go"
      have k := k H1 e1
      unfold decF at k
      rw [List.getElem?_eq_none (by omega)] at k
      exact k
theorem ok_law_test {A : Adr} (T : Txt P K mg A) : FnOk P w K mg base CX0 3 A.f_law_test A.d_law_test ["d", "fields"] (spTest K) := by
  refine T.law_test.F.ok sc_law_test (fun vs H Q E h => ?_) (fun cdv Ar outer s H vs Q E hr h => ?_)
  · obtain ⟨d, sc, f, rfl, _⟩ := h
    rfl
  · obtain ⟨d, sc, f, rfl, hD, nfd, hf, k⟩ := h
    refine ⟨_, (pss_cons (ps_set (i := 2) sc_law_test.nd rfl (Or.inl rfl) (pe_call (ok_law_pick T) (hr.mono (by decide)) (by rfl) T.law_pick.mg T.law_pick.kp T.law_pick.b .nil pass0 (pa_cons (pv 0) (pa_cons (pv 1) pa_nil))))
      (pss_cons (ps_if (pt_cmpR (o_eq hr.units) (pv 2) pe_str (nomark _)) (pss_one (ps_ret (pe_tupX (pa_cons (pv 2) (pa_cons (pe_call (ok_law_pick T) (hr.mono (by decide)) (by rfl) T.law_pick.mg T.law_pick.kp T.law_pick.b .nil pass0 (pa_cons (pv 0) (pa_cons (pe_lstX (pa_cons pe_str (pa_cons pe_str (pa_cons pe_str (pa_cons pe_str pa_nil))))) pa_nil))) (pa_cons (pe_call (ok_law_take T) (hr.mono (by decide)) (by rfl) T.law_take.mg T.law_take.kp T.law_take.b .nil pass0 (pa_cons (pv 0) (pa_cons pe_int pa_nil))) pa_nil)))))) pss_nil)
      (pss_cons (ps_set (i := 3) sc_law_test.nd rfl (Or.inl rfl) (pe_ifExp (pt_cmpR (o_eq hr.units) (pv 2) pe_str (nomark _)) pe_int pe_int))
      (pss_one (ps_ret (pe_tupX (pa_cons (pv 2) (pa_cons (pe_call (ok_law_pick T) (hr.mono (by decide)) (by rfl) T.law_pick.mg T.law_pick.kp T.law_pick.b .nil pass0 (pa_cons (pv 0) (pa_cons (pe_lstX (pa_cons pe_str (pa_cons pe_str (pa_cons pe_str pa_nil)))) pa_nil))) (pa_cons (pe_call (ok_law_pick T) (hr.mono (by decide)) (by rfl) T.law_pick.mg T.law_pick.kp T.law_pick.b .nil pass0 (pa_cons (pv 0) (pa_cons (pe_lstX (pa_cons (pe_call (ok_law_take T) (hr.mono (by decide)) (by rfl) T.law_take.mg T.law_take.kp T.law_take.b .nil pass0 (pa_cons (pv 0) (pa_cons pe_int pa_nil))) (pa_cons (pe_op op_sub (pv 3) (pe_call (ok_law_take T) (hr.mono (by decide)) (by rfl) T.law_take.mg T.law_take.kp T.law_take.b .nil pass0 (pa_cons (pv 0) (pa_cons pe_int pa_nil)))) (pa_cons (pe_call (ok_law_take T) (hr.mono (by decide)) (by rfl) T.law_take.mg T.law_take.kp T.law_take.b .nil pass0 (pa_cons (pv 0) (pa_cons (pe_op o_add (pv 3) pe_int) pa_nil))) pa_nil)))) pa_nil))) pa_nil))))))))), ?_⟩
    have Lk : ("kind" : Str) = Sx (fW 2) := by decide +kernel
    have Ll : ("length" : Str) = Sx (fW 4) := by decide +kernel
    have S0 : ("=" : Str) = Sx [61] := by decide +kernel
    have S1 : ("<" : Str) = Sx [60] := by decide +kernel
    have S2 : (">" : Str) = Sx [62] := by decide +kernel
    rw [Lk, Ll, S0, S1, S2]
    walk_at "eo init"
    walk_at "eo go"
    rename_i v H1 hv e1 hD1
    obtain ⟨fw, hfw, rfl⟩ := List.mem_map.mp hv
    have hf1 := sqL_ext e1 hf (fun _ _ => nin1 nfd)
    walk_at "eo go"
    rw [show V.str (Sx (fW 2)) = WS (fW 2) from rfl, dec_ws]
    by_cases c1 : fw = fW 2
    · refine g_iteDT (decide_eq_true c1) ?_
      walk_at "eo go"
      rename_i p3 H3 n3 e3 h3 v4 H4 hv4 e4 hD4 k5 H5 k50 k51 e5 hD5 p6 H6 n6 e6 h6
      obtain ⟨sg, hs, rfl⟩ := sign4 hv4
      exact k p6 ⟨fw, sg, .int k5⟩ H6 (by walk_at "eo ext") (by walk_at "eo dst") ⟨p6, rfl, SqT.of h6, .inl ⟨k5, rfl⟩⟩ (tOk_mk hfw hs k50 (by omega))
    · refine g_iteDF (decide_eq_false c1) ?_
      walk_at "eo go"
      rw [show V.str (Sx (fW 4)) = WS (fW 4) from rfl, dec_ws]
      refine g_ifC ?_
      have hm : (255 : Int) ≤ (if decide (fw = fW 4) = true then 512 else 255) ∧ (if decide (fw = fW 4) = true then (512 : Int) else 255) ≤ 512 := by split <;> decide
      generalize (if decide (fw = fW 4) = true then (512 : Int) else 255) = most at *
      walk_at "eo go"
      rename_i p3 H3 n3 e3 h3 v4 H4 hv4 e4 hD4 k5 H5 k50 k51 e5 hD5 k6 H6 k60 k61 e6 hD6 k7 H7 k70 k71 e7 hD7 p8 H8 n8 e8 h8 v9 H9 hv9 e9 hD9 p10 H10 n10 e10 h10
      obtain ⟨sg, hs, rfl⟩ := sign3 hv4
      obtain ⟨z, rfl, z0, z1⟩ : ∃ z : Int, v9 = .int z ∧ 0 ≤ z ∧ z ≤ 512 := by
        simp only [List.mem_cons, List.not_mem_nil, or_false] at hv9
        rcases hv9 with rfl | rfl | rfl
        · exact ⟨_, rfl, k50, by omega⟩
        · exact ⟨_, rfl, by omega, by omega⟩
        · exact ⟨_, rfl, by omega, by omega⟩
      exact k p10 ⟨fw, sg, .int z⟩ H10 (by walk_at "eo ext") (by walk_at "eo dst") ⟨p10, rfl, SqT.of h10, .inl ⟨z, rfl⟩⟩ (tOk_mk hfw hs z0 z1)
end
section
variable {P : Program} {w : World} {K : PySem.W.Frag} {mg : Str → Option Value} {base : Heap}
theorem ok_law_rules {A : Adr} (T : Txt P K mg A) : FnOk P w K mg base CX0 4 A.f_law_rules A.d_law_rules ["d", "fields", "most"] (spRules K) := by
  refine T.law_rules.F.ok sc_law_rules (fun vs H Q E h => ?_) (fun cdv Ar outer s H vs Q E hr h => ?_)
  · obtain ⟨d, sc, f, most, rfl, _⟩ := h
    rfl
  · obtain ⟨d, sc, f, most, rfl, hD, nfd, hf, m0, m8, k⟩ := h
    have La : ("take" : Str) = Sx takeW := by decide +kernel
    have Lb : ("drop" : Str) = Sx dropW := by decide +kernel
    refine ⟨_, (pss_cons (ps_set (i := 3) sc_law_rules.nd rfl (Or.inl rfl) (pe_lstX pa_nil))
      (pss_cons (ps_for PassesOwn.never rfl (pi_range1 (by rfl) T.b_range (pa_cons (pe_call (ok_law_take T) (hr.mono (by decide)) (by rfl) T.law_take.mg T.law_take.kp T.law_take.b .nil pass0 (pa_cons (pv 0) (pa_cons (pe_op o_add (pv 2) pe_int) pa_nil))) pa_nil)) (pg_name (i := 4) sc_law_rules.nd rfl (Or.inl rfl)) (pss_cons (ps_set (i := 5) sc_law_rules.nd rfl (Or.inl rfl) (pe_callTy (T := "tuple") o_tuple (by rfl) T.b_tuple (by decide +kernel) (pa_cons (pe_lc (own := [("j", 6)]) (tt := stT tYes) rfl sc_law_rules.nd (pi_range1 (by rfl) T.b_range (pa_cons (pe_call (ok_law_take T) (hr.mono (by decide)) (by rfl) T.law_take.mg T.law_take.kp T.law_take.b .nil pass0 (pa_cons (pv 0) (pa_cons pe_int pa_nil))) pa_nil)) (blkOk_by (own := [("j", 6)]) (N := ["d", "fields", "most", "found", "k", "tests", "j"]) (sc := defScope s_law_rules) (by decide +kernel)) (fun _ _ _ _ _ => PG.star (pg_name (i := 6) sc_law_rules.nd rfl (Or.inl rfl) (Or.inr rfl))) (fun _ _ _ _ _ => PTs.star (pts_nil)) (fun _ _ _ _ _ => PE.star (pe_call (ok_law_test T) (hr.mono (by decide)) (by rfl) T.law_test.mg T.law_test.kp T.law_test.b .nil pass0 (pa_cons (pv 0) (pa_cons (pv 1) pa_nil))))) pa_nil)))
      (pss_one (ps_expr (pe_bm PySem.F.plainAttrs_list PySem.F.slot_list_append PySem.F.type_list_append mt_append (pv 3) (pa_cons (pe_tupX (pa_cons (pe_call (ok_law_pick T) (hr.mono (by decide)) (by rfl) T.law_pick.mg T.law_pick.kp T.law_pick.b .nil pass0 (pa_cons (pv 0) (pa_cons (pe_lstX (pa_cons pe_str (pa_cons pe_str pa_nil))) pa_nil))) (pa_cons (pv 5) pa_nil))) pa_nil))))))
      (pss_one (ps_ret (pe_callTy (T := "tuple") o_tuple (by rfl) T.b_tuple (by decide +kernel) (pa_cons (pv 3) pa_nil)))))), ?_⟩
    rw [La, Lb]
    walk_at "eo init"
    walk_at "eo go"
    rename_i F H1 n1 e1 h1 k0 H2 k00 k01 e2 hD2
    have nFd : F ≠ d := (ne_dst1 n1 hD).symm
    have nFs : F ≠ sc := (ne_dst2 n1 hD).symm
    have h2 := e2.keep _ _ h1 (nin1 nFd)
    have X2 : Ext [d] H H2 := by walk_at "eo ext"
    clear e1 e2 h1
    refine g_forR (fun i σ H' => Ext [d] H H' ∧ DSt H' d sc ∧ ∃ acc L s4 s5, σ = [some (.ref d), some (.ref f), some (.int most), some (.ref F), s4, s5, none] ∧ H' F = some (.lst acc) ∧ LR (RgAt K) H' acc L ∧ L.length = i ∧ L.all rOk = true) ⟨X2, hD2, [], [], none, none, rfl, h2, trivial, rfl, rfl⟩ ?_ ?_
    · rintro i σ H3 hi ⟨X3, hD3, acc, L, s4, s5, rfl, hF, hL, hLl, hall⟩
      walk_at "eo go"
      rename_i k1 H4 k10 k11 e4 hD4
      have hF4 := e4.keep _ _ hF (nin1 nFd)
      refine g_lcD (d := d) (sc := sc) walk_range (TgAt K) (fun _ t => tOk t = true) TgAt.ext (by omega) hD4 (fun _ _ => trivial) ?_ ?_
      · rintro j x H5 H6 hj e5 hD5 ⟨rfl, rfl⟩
        have X5 : Ext [d] H H6 := by walk_at "eo ext"
        walk_at "eo go"
        refine ⟨rfl, ?_⟩
        walk_at "eo go"
        exact ⟨d, sc, f, rfl, hD5, nfd, sqL_ext X5 hf (fun _ _ => nin1 nfd), fun c t H7 e7 hD7 ht hok => ⟨e7, hD7, t, hok, ht⟩⟩
      · intro D H5 ys ts e5 hD5 n5 nDd nDs htl hgood hT hD5'
        have hok : ts.all tOk = true := List.all_eq_true.mpr fun t ht => by
          obtain ⟨j, hj⟩ := List.mem_iff_getElem?.mp ht
          exact hgood j t hj
        have hF5 := e5.keep _ _ hF4 (nin1 nFd)
        have X5 : Ext [d] H H5 := by walk_at "eo ext"
        have hL5 := (hL.imp fun _ _ h => RgAt.ext e4 h).imp fun _ _ h => RgAt.ext e5 h
        clear e4 e5 X3 X2 hF hF4 hL hD4 hD3
        walk_at "eo go"
        rename_i p6 H6 n6 e6 h6 p7 H7 n7 e7 h7 v8 H8 hv8 e8 hD8 p9 H9 n9 e9 h9
        obtain ⟨act, hact, rfl⟩ := act2 hv8
        have hF8 := e8.keep _ _ (e7.keep _ _ (e6.keep _ _ hF5 nin0) nin0) (nin1 nFd)
        have hF9 := e9.keep _ _ hF8 nin0
        have hal : acc.length ≤ 8 := by rw [hL5.len]; omega
        have X9 : Ext [d] H H9 := by walk_at "eo ext"
        have n6F : p6 ≠ F := (ne_of_none hF5 n6).symm
        have n9F : p9 ≠ F := (ne_of_none hF8 n9).symm
        have n6d : p6 ≠ d := (ne_dst1 n6 hD5).symm
        have h6' := e9.keep _ _ (e8.keep _ _ (e7.keep _ _ h6 nin0) (nin1 n6d)) nin0
        have hL9 := (((hL5.imp fun _ _ h => RgAt.ext e6 h).imp fun _ _ h => RgAt.ext e7 h).imp fun _ _ h => RgAt.ext e8 h).imp fun _ _ h => RgAt.ext e9 h
        have hT9 := (((hT.imp fun _ _ h => TgAt.ext e6 h).imp fun _ _ h => TgAt.ext e7 h).imp fun _ _ h => TgAt.ext e8 h).imp fun _ _ h => TgAt.ext e9 h
        have hts : ts.length ≤ 4 := by omega
        refine g_append hF9 (by rw [sizeLine_eq]; omega) fun H10 e10 h10 => ?_
        have X10 : Ext [d] H H10 := X9.trans e10 (fun _ z => z) fun x hx ⟨o, ho⟩ => by rw [List.mem_singleton.mp hx, n1] at ho; cases ho
        refine ⟨X10, (hD8.ext e9 nin0 nin0).ext e10 (nin1 nFd.symm) (nin1 nFs.symm), _, _, _, _, rfl, h10, LR.snoc (hL9.imp fun _ _ h => RgAt.ext e10 h) (a := ⟨act, ts⟩) ⟨p9, p6, ys, rfl, SqT.of (e10.keep _ _ h9 (nin1 n9F)), SqT.of (e10.keep _ _ h6' (nin1 n6F)), hT9.imp fun _ _ h => TgAt.ext e10 h, (show ts.length ≤ 1000 by omega)⟩, by rw [List.length_append, List.length_singleton, hLl], ?_⟩
        rw [List.all_append, hall]
        show (true && (rOk ⟨act, ts⟩ && true)) = true
        rw [rOk_mk hact hts hok]
        rfl
    · rintro σ H3 ⟨X3, hD3, acc, L, s4, s5, rfl, hF, hL, hLl, hall⟩
      walk_at "eo go"
      rename_i c H4 n4 e4 h4
      have h8 : L.length ≤ 8 := by omega
      exact k c L H4 (by walk_at "eo ext") (by walk_at "eo dst") ⟨acc, SqT.of h4, hL.imp fun _ _ h => RgAt.ext e4 h, by omega⟩ (by unfold chk; rw [decide_eq_true h8, hall]; rfl) (by omega)
theorem ok_law {A : Adr} (T : Txt P K mg A) : FnOk P w K mg base CX0 6 A.f_law A.d_law ["script"] (spLaw K) := by
  refine T.law.F.ok sc_law (fun vs H Q E h => ?_) (fun cdv Ar outer s H vs Q E hr h => ?_)
  · obtain ⟨a, ns, rfl, _⟩ := h
    rfl
  · obtain ⟨a, ns, rfl, hS, hlen, k⟩ := h
    refine ⟨_, (pss_cons (ps_set (i := 1) sc_law.nd rfl (Or.inr rfl) (pe_call (ok_law_begin T) (hr.mono (by decide)) (by rfl) T.law_begin.mg T.law_begin.kp T.law_begin.b .nil pass0 (pa_cons (pv 0) pa_nil)))
      (pss_cons (ps_set (i := 2) sc_law.nd rfl (Or.inl rfl) (pe_lstX (pa_cons pe_str (pa_cons pe_str (pa_cons pe_str (pa_cons pe_str (pa_cons pe_str (pa_cons pe_str (pa_cons pe_str pa_nil)))))))))
      (pss_cons (ps_set (i := 3) sc_law.nd rfl (Or.inl rfl) (pe_call (ok_law_rules T) (hr.mono (by decide)) (by rfl) T.law_rules.mg T.law_rules.kp T.law_rules.b .nil pass0 (pa_cons (pv 1) (pa_cons (pv 2) (pa_cons pe_int pa_nil)))))
      (pss_cons (ps_if (PW.pt (pw_or (pt_cmpR (o_ne hr.units) (pe_g rfl T.g_FIELDS) (pe_callTy (T := "tuple") o_tuple (by rfl) T.b_tuple (by decide +kernel) (pa_cons (pv 2) pa_nil)) (nomark _)) (pw_or1 (pt_cmpR (o_ne hr.units) (pe_call (ok_law_code T) (hr.mono (by decide)) (by rfl) T.law_code.mg T.law_code.kp T.law_code.b .nil pass0 (pa_cons (pv 3) pa_nil)) pe_str (nomark _))))) (pss_one (ps_ret pe_bl)) pss_nil)
      (pss_cons (ps_for PassesOwn.never rfl (pi_range1 (by rfl) T.b_range (pa_cons pe_int pa_nil)) (pg_name (i := 4) sc_law.nd rfl (Or.inl rfl)) (pss_cons (ps_set (i := 5) sc_law.nd rfl (Or.inl rfl) (pe_call (ok_law_pick T) (hr.mono (by decide)) (by rfl) T.law_pick.mg T.law_pick.kp T.law_pick.b .nil pass0 (pa_cons (pv 1) (pa_cons (pe_lstX (pa_cons pe_str (pa_cons pe_str (pa_cons pe_str (pa_cons pe_str (pa_cons pe_str pa_nil)))))) pa_nil))))
      (pss_cons (ps_set (i := 6) sc_law.nd rfl (Or.inl rfl) (pe_tupX (pa_cons (pe_call (ok_law_take T) (hr.mono (by decide)) (by rfl) T.law_take.mg T.law_take.kp T.law_take.b .nil pass0 (pa_cons (pv 1) (pa_cons pe_int pa_nil))) (pa_cons (pe_call (ok_law_take T) (hr.mono (by decide)) (by rfl) T.law_take.mg T.law_take.kp T.law_take.b .nil pass0 (pa_cons (pv 1) (pa_cons pe_int pa_nil))) (pa_cons (pv 5) (pa_cons (pe_call (ok_law_take T) (hr.mono (by decide)) (by rfl) T.law_take.mg T.law_take.kp T.law_take.b .nil pass0 (pa_cons (pv 1) (pa_cons pe_int pa_nil))) (pa_cons (pe_call (ok_law_take T) (hr.mono (by decide)) (by rfl) T.law_take.mg T.law_take.kp T.law_take.b .nil pass0 (pa_cons (pv 1) (pa_cons pe_int pa_nil))) (pa_cons pe_int (pa_cons pe_bl (pa_cons (pe_call (ok_law_octets T) (hr.mono (by decide)) (by rfl) T.law_octets.mg T.law_octets.kp T.law_octets.b .nil pass0 (pa_cons (pv 1) (pa_cons pe_int pa_nil))) pa_nil))))))))))
      (pss_one (ps_if (pt_cmpR (o_ne hr.units) (pe_call (ok_decide T) (hr.mono (by decide)) (by rfl) T.decide.mg T.decide.kp T.decide.b .nil pass0 (pa_cons (pv 3) (pa_cons (pv 6) pa_nil))) (pe_call (ok_law_action T) (hr.mono (by decide)) (by rfl) T.law_action.mg T.law_action.kp T.law_action.b .nil pass0 (pa_cons (pv 3) (pa_cons (pv 6) pa_nil))) (nomark _)) (pss_one (ps_ret pe_bl)) pss_nil)))))
      (pss_cons (ps_set (i := 7) sc_law.nd rfl (Or.inl rfl) (pe_lstX pa_nil))
      (pss_cons (ps_for PassesOwn.never rfl (pi_tup (pv 3)) (pg_tup (n := 2) rfl (pgs_cons (pg_name (i := 8) sc_law.nd rfl (Or.inl rfl)) (pgs_cons (pg_name (i := 9) sc_law.nd rfl (Or.inl rfl)) pgs_nil))) (pss_cons (ps_set (i := 10) sc_law.nd rfl (Or.inl rfl) (pe_lstX (pa_cons (pv 8) pa_nil)))
      (pss_cons (ps_for PassesOwn.never rfl (pi_tup (pv 9)) (pg_tup (n := 3) rfl (pgs_cons (pg_name (i := 11) sc_law.nd rfl (Or.inl rfl)) (pgs_cons (pg_name (i := 12) sc_law.nd rfl (Or.inl rfl)) (pgs_cons (pg_name (i := 13) sc_law.nd rfl (Or.inl rfl)) pgs_nil)))) (pss_one (ps_expr (pe_bm PySem.F.plainAttrs_list PySem.F.slot_list_extend PySem.F.type_list_extend mt_extend (pv 10) (pa_cons (pe_lstX (pa_cons (pv 11) (pa_cons (pv 12) (pa_cons (pe_ifExp (PW.pt (pw_and (pt_cmpR (o_eq hr.units) (pv 11) pe_str (nomark _)) (pw_and1 (pt_cmpR op_lt (pv 13) pe_int (nomark _))))) (pe_ix ix_seq (pe_lstX (pa_cons pe_str (pa_cons pe_str (pa_cons pe_str (pa_cons pe_str pa_nil))))) (pv 13) (fun _ _ => rfl)) (pe_callTy (T := "str") o_strI (by rfl) T.b_str (by decide +kernel) (pa_cons (pv 13) pa_nil))) pa_nil)))) pa_nil)))))
      (pss_one (ps_expr (pe_bm PySem.F.plainAttrs_list PySem.F.slot_list_append PySem.F.type_list_append mt_append (pv 7) (pa_cons (pv 10) pa_nil)))))))
      (pss_cons (ps_set (i := 14) sc_law.nd rfl (Or.inl rfl) (pe_m1 PySem.F.slot_str_join PySem.F.type_str_join mt_joinW pe_str (pe_lc (own := [("words", 10)]) (tt := stT tYes) rfl sc_law.nd (pi_list (pv 7)) (blkOk_by (own := [("words", 10)]) (N := ["script", "d", "every", "rules", "k", "kind", "packet", "lines", "action", "tests", "words", "field", "sign", "number", "text", "wide", "at", "place", "bent", "one", "bad", "row"]) (sc := defScope s_law) (by decide +kernel)) (fun _ _ _ _ _ => PG.star (pg_name (i := 10) sc_law.nd rfl (Or.inl rfl) (Or.inr rfl))) (fun _ _ _ _ _ => PTs.star (pts_nil)) (fun _ _ _ _ _ => PE.star (pe_op (kkOpR (r := rAddX) (K := K) rfl o_add) (pe_m1 PySem.F.slot_str_join PySem.F.type_str_join (kkMtR (r := rJoinW) (K := K) rfl mt_joinW) pe_str (pv 10)) pe_str)))))
      (pss_cons (ps_if (PW.pt (pw_or (pt_cmpR (o_ne hr.units) (pe_call (ok_format_rules T) (hr.mono (by decide)) (by rfl) T.format_rules.mg T.format_rules.kp T.format_rules.b .nil pass0 (pa_cons (pv 3) pa_nil)) (pv 14) (nomark _)) (pw_or1 (pt_cmpR (o_ne hr.units) (pe_call (ok_law_read T) (hr.mono (by decide)) (by rfl) T.law_read.mg T.law_read.kp T.law_read.b .nil pass0 (pa_cons (pv 14) pa_nil)) (pv 3) (nomark _))))) (pss_one (ps_ret pe_bl)) pss_nil)
      (pss_cons (ps_set (i := 15) sc_law.nd rfl (Or.inl rfl) (pe_m1 PySem.F.slot_str_join PySem.F.type_str_join mt_joinW pe_str (pe_lc (own := [("words", 10)]) (tt := stT tYes) rfl sc_law.nd (pi_list (pv 7)) (blkOk_by (own := [("words", 10)]) (N := ["script", "d", "every", "rules", "k", "kind", "packet", "lines", "action", "tests", "words", "field", "sign", "number", "text", "wide", "at", "place", "bent", "one", "bad", "row"]) (sc := defScope s_law) (by decide +kernel)) (fun _ _ _ _ _ => PG.star (pg_name (i := 10) sc_law.nd rfl (Or.inl rfl) (Or.inr rfl))) (fun _ _ _ _ _ => PTs.star (pts_nil)) (fun _ _ _ _ _ => PE.star (pe_op (kkOpR (r := rAddX) (K := K) rfl o_add) (pe_op (kkOpR (r := rAddX) (K := K) rfl o_add) (pe_op op_mulSign pe_str (pe_call (ok_law_take T) (hr.mono (by decide)) (by rfl) T.law_take.mg T.law_take.kp T.law_take.b .nil pass0 (pa_cons (pv 1) (pa_cons pe_int pa_nil)))) (pe_m1 PySem.F.slot_str_join PySem.F.type_str_join (kkMtR (r := rJoinW) (K := K) rfl mt_joinW) pe_str (pv 10))) (pe_op op_mulSign pe_str (pe_call (ok_law_take T) (hr.mono (by decide)) (by rfl) T.law_take.mg T.law_take.kp T.law_take.b .nil pass0 (pa_cons (pv 1) (pa_cons pe_int pa_nil)))))))))
      (pss_cons (ps_if (pt_cmpR (o_ne hr.units) (pe_call (ok_law_read T) (hr.mono (by decide)) (by rfl) T.law_read.mg T.law_read.kp T.law_read.b .nil pass0 (pa_cons (pv 15) pa_nil)) (pv 3) (nomark _)) (pss_one (ps_ret pe_bl)) pss_nil)
      (pss_join (ps_if (pt_cmpR op_gt (pe_callB (id := "len") o_len (by rfl) T.b_len (by decide +kernel) (pa_cons (pv 3) pa_nil)) pe_int (nomark _)) (pss_cons (ps_set (i := 16) sc_law.nd rfl (Or.inl rfl) (pe_call (ok_law_take T) (hr.mono (by decide)) (by rfl) T.law_take.mg T.law_take.kp T.law_take.b .nil pass0 (pa_cons (pv 1) (pa_cons (pe_callB (id := "len") o_len (by rfl) T.b_len (by decide +kernel) (pa_cons (pv 7) pa_nil)) pa_nil))))
      (pss_cons (ps_set (i := 17) sc_law.nd rfl (Or.inl rfl) (pe_call (ok_law_take T) (hr.mono (by decide)) (by rfl) T.law_take.mg T.law_take.kp T.law_take.b .nil pass0 (pa_cons (pv 1) (pa_cons (pe_callB (id := "len") o_len (by rfl) T.b_len (by decide +kernel) (pa_cons (pe_ix ix_seq (pv 7) (pv 16) (fun _ _ => rfl)) pa_nil)) pa_nil))))
      (pss_cons (ps_set (i := 10) sc_law.nd rfl (Or.inl rfl) (pe_op o_add (pe_op o_add (pe_slice o_sl (pe_ix ix_seq (pv 7) (pv 16) (fun _ _ => rfl)) po_none (po_some (pv 17))) (pe_lstX (pa_cons (pe_call (ok_law_pick T) (hr.mono (by decide)) (by rfl) T.law_pick.mg T.law_pick.kp T.law_pick.b .nil pass0 (pa_cons (pv 1) (pa_cons (pe_lstX (pa_cons pe_str (pa_cons pe_str (pa_cons pe_str (pa_cons pe_str (pa_cons pe_str pa_nil)))))) pa_nil))) pa_nil))) (pe_slice o_sl (pe_ix ix_seq (pv 7) (pv 16) (fun _ _ => rfl)) (po_some (pe_op o_add (pv 17) pe_int)) po_none)))
      (pss_cons (ps_set (i := 18) sc_law.nd rfl (Or.inl rfl) (pe_op o_add (pe_op o_add (pe_slice o_sl (pv 7) po_none (po_some (pv 16))) (pe_lstX (pa_cons (pv 10) pa_nil))) (pe_slice o_sl (pv 7) (po_some (pe_op o_add (pv 16) pe_int)) po_none)))
      (pss_one (ps_if (PW.pt (pw_and (pt_cmpR (o_ne hr.units) (pe_ix ix_seq (pv 10) (pv 17) (fun _ _ => rfl)) (pe_ix ix_seq (pe_ix ix_seq (pv 7) (pv 16) (fun _ _ => rfl)) (pv 17) (fun _ _ => rfl)) (nomark _)) (pw_and1 (pt_not (PW.pt (pw_and (pt_cmpR (o_eq hr.units) (pv 17) pe_int (nomark _)) (pw_and1 (pt_cmpR (o_eq hr.units) (pe_ix ix_seq (pv 10) pe_int (fun _ _ => rfl)) pe_str (nomark _))))))))) (pss_one (ps_if (pt_cmpR (o_ne hr.units) (pe_call (ok_law_read T) (hr.mono (by decide)) (by rfl) T.law_read.mg T.law_read.kp T.law_read.b .nil pass0 (pa_cons (pe_m1 PySem.F.slot_str_join PySem.F.type_str_join mt_joinW pe_str (pe_lc (own := [("row", 21)]) (tt := stT tYes) rfl sc_law.nd (pi_list (pv 18)) (blkOk_by (own := [("row", 21)]) (N := ["script", "d", "every", "rules", "k", "kind", "packet", "lines", "action", "tests", "words", "field", "sign", "number", "text", "wide", "at", "place", "bent", "one", "bad", "row"]) (sc := defScope s_law) (by decide +kernel)) (fun _ _ _ _ _ => PG.star (pg_name (i := 21) sc_law.nd rfl (Or.inl rfl) (Or.inr rfl))) (fun _ _ _ _ _ => PTs.star (pts_nil)) (fun _ _ _ _ _ => PE.star (pe_op (kkOpR (r := rAddX) (K := K) rfl o_add) (pe_m1 PySem.F.slot_str_join PySem.F.type_str_join (kkMtR (r := rJoinW) (K := K) rfl mt_joinW) pe_str (pv 21)) pe_str)))) pa_nil)) (pe_tupX (pa_cons pe_str (pa_cons (pv 16) pa_nil))) (nomark _)) (pss_one (ps_ret pe_bl)) pss_nil)) pss_nil)))))) pss_nil)
      (pss_cons (ps_set (i := 19) sc_law.nd rfl (Or.inl rfl) (pe_tupX (pa_cons pe_str (pa_cons pe_str (pa_cons pe_int pa_nil)))))
      (pss_cons (ps_set (i := 9) sc_law.nd rfl (Or.inl rfl) (pe_lstX (pa_cons (pe_tupX (pa_cons (pe_tupX (pa_cons pe_str (pa_cons pe_str (pa_cons pe_int pa_nil)))) pa_nil)) (pa_cons (pe_tupX (pa_cons (pe_tupX (pa_cons pe_str (pa_cons pe_str (pa_cons pe_int pa_nil)))) pa_nil)) (pa_cons (pe_tupX (pa_cons (pe_tupX (pa_cons pe_str (pa_cons pe_str (pa_cons pe_int pa_nil)))) pa_nil)) (pa_cons (pe_tupX (pa_cons (pe_tupX (pa_cons pe_str (pa_cons pe_str (pa_cons pe_bl pa_nil)))) pa_nil)) (pa_cons (pe_op op_repT (pe_tupX (pa_cons (pv 19) pa_nil)) pe_int) pa_nil)))))))
      (pss_cons (ps_set (i := 20) sc_law.nd rfl (Or.inl rfl) (pe_call (ok_law_pick T) (hr.mono (by decide)) (by rfl) T.law_pick.mg T.law_pick.kp T.law_pick.b .nil pass0 (pa_cons (pv 1) (pa_cons (pe_op o_add (pe_lstX (pa_cons (pe_tupX (pa_cons pe_str (pa_cons (pe_tupX pa_nil) pa_nil))) pa_nil)) (pe_lc (own := [("row", 21)]) (tt := stT tYes) rfl sc_law.nd (pi_list (pv 9)) (blkOk_by (own := [("row", 21)]) (N := ["script", "d", "every", "rules", "k", "kind", "packet", "lines", "action", "tests", "words", "field", "sign", "number", "text", "wide", "at", "place", "bent", "one", "bad", "row"]) (sc := defScope s_law) (by decide +kernel)) (fun _ _ _ _ _ => PG.star (pg_name (i := 21) sc_law.nd rfl (Or.inl rfl) (Or.inr rfl))) (fun _ _ _ _ _ => PTs.star (pts_nil)) (fun _ _ _ _ _ => PE.star (pe_tupX (pa_cons pe_str (pa_cons (pv 21) pa_nil)))))) pa_nil))))
      (pss_one (ps_ret (pe_and (pe_cmpR (o_eq hr.units) (pe_call (ok_law_code T) (hr.mono (by decide)) (by rfl) T.law_code.mg T.law_code.kp T.law_code.b .nil pass0 (pa_cons (pe_tupX (pa_cons (pv 20) pa_nil)) pa_nil)) pe_str (nomark _)) (pe_and (pe_cmpR (o_eq hr.units) (pe_call (ok_law_code T) (hr.mono (by decide)) (by rfl) T.law_code.mg T.law_code.kp T.law_code.b .nil pass0 (pa_cons (pe_op op_repT (pe_tupX (pa_cons (pe_tupX (pa_cons pe_str (pa_cons (pe_tupX pa_nil) pa_nil))) pa_nil)) pe_int) pa_nil)) pe_str (nomark _)) (pe_one (pe_cmpR (o_eq hr.units) (pe_call (ok_law_code T) (hr.mono (by decide)) (by rfl) T.law_code.mg T.law_code.kp T.law_code.b .nil pass0 (pa_cons (pe_op op_repT (pe_tupX (pa_cons (pe_tupX (pa_cons pe_str (pa_cons (pe_tupX pa_nil) pa_nil))) pa_nil)) pe_int) pa_nil)) pe_str (nomark _)))))))))))))))))))))), ?_⟩
    have hFl : ∀ H, SqT K H A.g_FIELDS [.str "source", .str "goal", .str "kind", .str "life", .str "length", .str "from", .str "to"] := fun H => T.t_FIELDS H
    walk_at "eo init"
    walk_at "eo go"
    refine ⟨a, ns, rfl, hS, hlen, fun d sc H1 nd nsc e1 hD => ?_⟩
    clear e1 nd nsc hS
    walk_at "eo go"
    rename_i ev H2 n2 e2 h2
    rw [fields_lit] at h2
    have hD2 := hD.ext e2 nin0 nin0
    have nev : ev ≠ d := (ne_dst1 n2 hD).symm
    refine ⟨d, sc, ev, 5, rfl, hD2, nev, SqL.of h2, by decide, by decide, fun rp rs H3 e3 hD3 hR hc hl5 => ?_⟩
    have h3 := e3.keep _ _ h2 (nin1 nev)
    clear hD hD2 e2 e3 h2 n2
    obtain ⟨h8, hok⟩ := chk_all hc
    have hFl3 := hFl H3
    walk_at "eo go"
    rename_i p4 H4 n4 e4 h4
    refine g_neD (Dp.tup (fields_lit ▸ hFl H4) (dp_ws _)) (Dp.tup (SqT.of h4) (dp_ws _)) (shp_tup (shp_ws fields_ok)) rfl ?_
    have hR := hR.ext e4
    have hD := hD3.ext e4 nin0 nin0
    have L0 : ("" : Str) = Sx [] := by decide +kernel
    clear h4 n4 e4 hD3 h3 hFl3 hFl
    walk_at "eo go"
    refine ⟨rp, rs, rfl, hR, fun H5 e5 => ?_⟩
    rw [hc]
    have hR := hR.ext e5
    have hD := hD.ext e5 nin0 nin0
    clear e5
    walk_at "eo go"
    clear nev
    have gd : ∀ {A B C : Hp}, Ext [d] A B → Ext [d] B C → Ext [d] A C := fun {A B C} e f => e.trans f (fun _ z => z) (fun _ z _ => z)
    have gn : ∀ {A B C : Hp}, Ext [d] A B → Ext [] B C → Ext [d] A C := fun {A B C} e f => e.trans f (fun _ z => z) (fun _ z => by cases z)
    refine g_forR (fun i σ H' => RsAt K H' rp rs ∧ DSt H' d sc ∧ ∃ s4 s5 s6, σ = [some (.ref a), some (.ref d), some (.ref ev), some (.ref rp), s4, s5, s6, none, none, none, none, none, none, none, none, none, none, none, none, none, none, none]) ⟨hR, hD, none, none, none, rfl⟩ ?_ ?_
    · rintro i σ H6 hi ⟨hR, hD, s4, s5, s6, rfl⟩
      walk_at "eo go"
      rename_i p1 J1 m1 e1 f1 v2 J2 hv e2 hD2 t3 J3 _ _ e3 hD3 t4 J4 _ _ e4 hD4 t5 J5 _ _ e5 hD5 t6 J6 _ _ e6 hD6 oc ns7 J7 e7 hD7 hO hO1 hO2 p8 J8 m8 e8 f8
      obtain ⟨kk, hkk, rfl⟩ := kind5 hv
      have X2 : Ext [d] H6 J2 := by walk_at "eo ext"
      have hR := hR.ext X2
      clear e1 e2 f1 m1 X2 hv hD
      have X8 : Ext [d] J2 J8 := by walk_at "eo ext"
      have hR := hR.ext X8
      have hD := hD7.ext e8 nin0 nin0
      have hP : PkAt K J8 p8 ⟨t3, t4, kk, t5, t6, 0, false, ns7⟩ := ⟨oc, SqT.of f8, sqT_ext e8 hO⟩
      have hbl : ns7.length ≤ 512 := by omega
      clear e3 e4 e5 e6 e7 e8 X8 hD2 hD3 hD4 hD5 hD6 hD7 hO f8 m8
      walk_at "eo go"
      refine ⟨rp, p8, rs, _, rfl, hR, hc, hP, hkk, hbl, fun J9 e9 => ?_⟩
      have hR := hR.ext e9
      have hD := hD.ext e9 nin0 nin0
      have hP := hP.ext e9
      clear e9
      walk_at "eo go"
      refine ⟨rp, p8, rs, _, rfl, hR, hc, hP, hkk, hbl, fun J10 e10 => ?_⟩
      have hR := hR.ext e10
      have hD := hD.ext e10 nin0 nin0
      clear e10 hP
      walk_at "eo go"
      refine g_iteDF (by rw [dec_refl]; rfl) ?_
      walk_at "eo go"
      exact ⟨hR, hD, _, _, _, rfl⟩
    · clear hR hD
      rintro σ H6 ⟨hR, hD, s4, s5, s6, rfl⟩
      obtain ⟨xs, hx, hX, hxn⟩ := id hR
      have hxl := hX.len
      walk_at "eo go"
      rename_i F H7 n7 e7 h7
      have nFd : F ≠ d := (ne_dst1 n7 hD).symm
      have nFs : F ≠ sc := (ne_dst2 n7 hD).symm
      have hx := sqT_ext e7 hx
      have hX := hX.imp fun _ _ h => RgAt.ext e7 h
      have hD := hD.ext e7 nin0 nin0
      clear e7 n7 hR
      refine g_forT xs (fun i σ H' => SqT K H' rp xs ∧ LR (RgAt K) H' xs rs ∧ DSt H' d sc ∧ ∃ acc s8 s9 s10 s11 s12 s13, σ = [some (.ref a), some (.ref d), some (.ref ev), some (.ref rp), s4, s5, s6, some (.ref F), s8, s9, s10, s11, s12, s13, none, none, none, none, none, none, none, none] ∧ H' F = some (.lst acc) ∧ LR (WsAt [F, d]) H' acc ((rs.take i).map rowW)) ⟨hx, hX, hD, [], none, none, none, none, none, none, rfl, h7, trivial⟩ (fun _ _ _ _ h => h.1) ?_ ?_
      · clear hx hX hD h7
        rintro i x σ H8 hi ⟨hx, hX, hD, acc, s8, s9, s10, s11, s12, s13, rfl, hF, hW⟩
        obtain ⟨r, hr0, q, u, ys, rfl, hq, hu, hY, hyl⟩ := hX.get hi
        have hro := hok r (List.mem_of_getElem? hr0)
        obtain ⟨_, hr4, hts⟩ := rOk_of hro
        walk_at "eo go"
        rename_i W H9 n9 e9 h9
        have nWF : W ≠ F := (ne_of_none hF n9).symm
        have nWd : W ≠ d := (ne_dst1 n9 hD).symm
        have nWs : W ≠ sc := (ne_dst2 n9 hD).symm
        have hx := sqT_ext e9 hx
        have hX := hX.imp fun _ _ h => RgAt.ext e9 h
        have hD := hD.ext e9 nin0 nin0
        have hu := sqT_ext e9 hu
        have hY := hY.imp fun _ _ h => TgAt.ext e9 h
        have hF := e9.keep _ _ hF nin0
        have hW9 := (hW.imp fun _ _ h => WsAt.more n9 h).imp fun _ _ h => WsAt.ext0 e9 h
        refine g_forT ys (fun j σ H' => SqT K H' rp xs ∧ LR (RgAt K) H' xs rs ∧ DSt H' d sc ∧ SqT K H' u ys ∧ LR (TgAt K) H' ys r.ts ∧ H' F = some (.lst acc) ∧ LR (WsAt [W, F, d]) H' acc ((rs.take i).map rowW) ∧ H' W = some (.lst ((r.a :: (r.ts.take j).flatMap tW).map WS)) ∧ ∃ s11 s12 s13, σ = [some (.ref a), some (.ref d), some (.ref ev), some (.ref rp), s4, s5, s6, some (.ref F), some (WS r.a), some (.ref u), some (.ref W), s11, s12, s13, none, none, none, none, none, none, none, none]) ⟨hx, hX, hD, hu, hY, hF, hW9, h9, _, _, _, rfl⟩ (fun _ _ _ _ h => h.2.2.2.1) ?_ ?_
        · clear hx hX hD hu hY hF hW9 e9
          rintro j x σ H10 hj ⟨hx, hX, hD, hu, hY, hF, hW9, h9, s11, s12, s13, rfl⟩
          obtain ⟨t, ht0, q2, rfl, hq2, _⟩ := hY.get hj
          have hto := List.all_eq_true.mp hts t (List.mem_of_getElem? ht0)
          obtain ⟨_, _, n, hn, hn0, hn1⟩ := tOk_int hto
          rw [hn] at hq2
          have Lk : ("kind" : Str) = Sx (fW 2) := by decide +kernel
          have htk : tW t = [t.f, t.s, nwT t.f n] := by unfold tW; rw [hn]; rfl
          have hflat : (r.ts.take (j + 1)).flatMap tW = (r.ts.take j).flatMap tW ++ [t.f, t.s, nwT t.f n] := by rw [List.take_succ, ht0, List.flatMap_append, ← htk]; simp
          have fin : ∀ (H11 : Hp) (p : Addr) (w' : List Nat), Ext [] H10 H11 → w' = nwT t.f n → H11 p = some (.lst [WS t.f, WS t.s, WS w']) → ∀ (Qz : VK), (∀ H12, Ext [W] H11 H12 → H12 W = some (.lst ((r.a :: (r.ts.take (j + 1)).flatMap tW).map WS)) → Qz .non H12) → rExtend (.ref W) [.ref p] H11 Qz := by
            rintro H11 p w' e11 rfl hp Qz q
            refine g_extend (e11.keep _ _ h9 nin0) hp ?_ fun H12 e12 h12 => q H12 e12 ?_
            · have : ((r.ts.take j).flatMap tW).length ≤ 12 := by rw [flat_len, List.length_take]; omega
              rw [List.length_map, List.length_cons, sizeLine_eq]
              simp only [List.length_cons, List.length_nil]
              omega
            · rw [h12, hflat, ← List.cons_append, List.map_append]
              rfl
          have post : ∀ (H11 H12 : Hp), Ext [] H10 H11 → Ext [W] H11 H12 → SqT K H12 rp xs ∧ LR (RgAt K) H12 xs rs ∧ DSt H12 d sc ∧ SqT K H12 u ys ∧ LR (TgAt K) H12 ys r.ts ∧ H12 F = some (.lst acc) ∧ LR (WsAt [W, F, d]) H12 acc ((rs.take i).map rowW) := fun H11 H12 e11 e12 =>
            ⟨sqT_ext e12 (sqT_ext e11 hx), (hX.imp fun _ _ h => RgAt.ext e11 h).imp fun _ _ h => RgAt.ext e12 h, (hD.ext e11 nin0 nin0).ext e12 (nin1 nWd.symm) (nin1 nWs.symm), sqT_ext e12 (sqT_ext e11 hu), (hY.imp fun _ _ h => TgAt.ext e11 h).imp fun _ _ h => TgAt.ext e12 h, e12.keep _ _ (e11.keep _ _ hF nin0) (nin1 nWF.symm), (hW9.imp fun _ _ h => WsAt.ext0 e11 h).imp fun _ _ h => WsAt.ext1 e12 (by simp) h⟩
          rw [Lk]
          clear hX hY hW9 hu hx
          walk_at "eo go"
          rw [show V.str (Sx (fW 2)) = WS (fW 2) from rfl, dec_ws]
          by_cases c1 : t.f = fW 2
          · refine g_iteDT (decide_eq_true c1) ?_
            walk_at "eo go"
            refine g_ite (fun z => ?_) (fun z => ?_)
            · have z' : n < 4 := dec_t z
              have hat := at_kinds hn0 z'
              walk_at "eo go"
              rename_i p1 H11 m1 e1 f1 p2 H12 m2 e2 f2
              refine fin H12 p2 (kW n.toNat) (ext0 e1 e2) (by unfold nwT; rw [if_pos ⟨c1, z'⟩]) f2 _ fun H13 e13 h13 => ?_
              obtain ⟨a1, a2, a3, a4, a5, a6, a7⟩ := post H12 H13 (ext0 e1 e2) e13
              exact ⟨a1, a2, a3, a4, a5, a6, a7, h13, _, _, _, rfl⟩
            · have z' : ¬ n < 4 := dec_f z
              walk_at "eo go"
              rename_i p2 H12 m2 e2 f2
              refine fin H12 p2 (nw n) e2 (by unfold nwT; rw [if_neg fun c => z' c.2]) f2 _ fun H13 e13 h13 => ?_
              obtain ⟨a1, a2, a3, a4, a5, a6, a7⟩ := post H12 H13 e2 e13
              exact ⟨a1, a2, a3, a4, a5, a6, a7, h13, _, _, _, rfl⟩
          · refine g_iteDF (decide_eq_false c1) ?_
            walk_at "eo go"
            rename_i p2 H12 m2 e2 f2
            refine fin H12 p2 (nw n) e2 (by unfold nwT; rw [if_neg fun c => c1 c.1]) f2 _ fun H13 e13 h13 => ?_
            obtain ⟨a1, a2, a3, a4, a5, a6, a7⟩ := post H12 H13 e2 e13
            exact ⟨a1, a2, a3, a4, a5, a6, a7, h13, _, _, _, rfl⟩
        · clear hx hX hD hu hY hF hW9 e9
          rintro σ H10 ⟨hx, hX, hD, hu, hY, hF, hW9, h9, s11, s12, s13, rfl⟩
          rw [hY.len, List.take_length] at h9
          have hal : acc.length ≤ 8 := by rw [hW9.len, List.length_map, List.length_take]; omega
          walk_at "eo go"
          refine g_append hF (by rw [sizeLine_eq]; omega) fun H11 e11 h11 => ?_
          have hrow : (rs.take (i + 1)).map rowW = (rs.take i).map rowW ++ [rowW r] := by rw [List.take_succ, hr0, List.map_append]; rfl
          refine ⟨sqT_ext e11 hx, hX.imp fun _ _ h => RgAt.ext e11 h, hD.ext e11 (nin1 nFd.symm) (nin1 nFs.symm), _, _, _, _, _, _, _, rfl, h11, ?_⟩
          rw [hrow]
          exact LR.snoc ((hW9.imp fun _ _ h => WsAt.less h).imp fun _ _ h => WsAt.ext1 e11 (by simp) h) ⟨W, rfl, (by simp [nWF, nWd]), e11.keep _ _ h9 (nin1 nWF)⟩
      · clear hx hX hD h7
        rintro σ H8 ⟨hx, hX, hD, acc, s8, s9, s10, s11, s12, s13, rfl, hF, hW⟩
        rw [hxl, List.take_length] at hW
        have L1 : (" " : Str) = Sx [32] := by decide +kernel
        have L2 : ("\n" : Str) = Sx [10] := by decide +kernel
        have L3 : ("  " : Str) = Sx [32, 32] := by decide +kernel
        have hwl : acc.length = rs.length := by rw [hW.len, List.length_map]
        have hrw : ∀ r ∈ rs.map rowW, (∀ w ∈ r, w.length ≤ 6) ∧ r.length ≤ 13 := fun r hr => by
          obtain ⟨g, hg, rfl⟩ := List.mem_map.mp hr
          exact ⟨fun w hw => (rowW_all (hok g hg) w hw).2, rowW_len (hok g hg)⟩
        have htl := rowsT_len hrw
        rw [List.length_map] at htl
        rw [L0, L1, L2, L3]
        walk_at "eo go"
        refine g_lcR walk_list IsV (fun _ q => q) (((rs.map rowW).map fun w => TL.joinL [32] w ++ [10]).map WS) (by rw [List.length_map, List.length_map, List.length_map, hwl]) (by omega) (fun H e => SqL.of (e.keep _ _ hF nin0)) ?_ ?_
        · rintro i x H9 H10 b hb e9 ⟨rfl, hi⟩
          obtain ⟨ws, hr0, q, rfl, _, hq⟩ := (hW.imp fun _ _ => WsAt.ext0 e9).get hi
          rw [List.getElem?_map, List.getElem?_map, hr0] at hb
          cases hb
          obtain ⟨w6, w13⟩ := hrw ws (List.mem_of_getElem? hr0)
          have hsum := sum_le w6
          have hjs := join_small (S := [32]) w6 w13 (by decide)
          walk_at "eo go"
          refine ⟨rfl, ?_⟩
          walk_at "eo go"
          refine g_joinW (sep := [32]) rfl (.inl (SqL.of hq)) (by show _ + _ * 1 ≤ _; omega) ?_
          walk_at "eo go"
          exact ⟨Ext.refl _, rfl⟩
        · intro D H9 ac2 e9 n9 hA hD9
          have hA := lr_v hA
          subst hA
          have hsm : ∀ w ∈ (rs.map rowW).map (fun w => TL.joinL [32] w ++ [10]), w.length ≤ 105 := fun w hw => by
            obtain ⟨ws, hr, rfl⟩ := List.mem_map.mp hw
            have := join_small (S := [32]) (hrw ws hr).1 (hrw ws hr).2 (by decide)
            rw [List.length_append, List.length_singleton]
            omega
          have hsum := sum_le hsm
          rw [List.length_map, List.length_map] at hsum
          refine g_joinW (sep := []) rfl (.inl (SqL.of hD9)) (by rw [List.length_map, List.length_map]; show _ + _ * 0 ≤ _; omega) ?_
          rw [join0]
          show gName 14 (WS (rowsT (rs.map rowW))) _ _ _
          have hR : RsAt K H9 rp rs := ⟨xs, sqT_ext e9 hx, hX.imp fun _ _ h => RgAt.ext e9 h, by omega⟩
          have hD := hD.ext e9 nin0 nin0
          have hF := e9.keep _ _ hF nin0
          have hW := hW.imp fun _ _ => WsAt.ext0 e9
          clear hx hX hD9 e9 hsum hsm n9
          walk_at "eo go"
          refine ⟨rp, rs, rfl, hR, hc, fun H10 e10 => ?_⟩
          have hR := hR.ext e10
          have hD := hD.ext e10 nin0 nin0
          have hF := e10.keep _ _ hF nin0
          have hW := hW.imp fun _ _ => WsAt.ext0 e10
          clear e10
          walk_at "eo go"
          refine g_iteDF (by rw [dec_refl]; rfl) ?_
          walk_at "eo go"
          refine ⟨_, rfl, by omega, fun i hi => by (rw [prs_text hok] at hi; cases hi), fun rs' h' => ?_⟩
          rw [prs_text hok] at h'
          obtain rfl := Sum.inl.inj h'
          refine ⟨hc, fun c2 H11 e11 hR2 => ?_⟩
          have hR := hR.ext e11
          have hD := hD.ext e11 nin0 nin0
          have hF := e11.keep _ _ hF nin0
          have hW := hW.imp fun _ _ => WsAt.ext0 e11
          clear e11
          walk_at "eo go"
          refine g_neRs hR2 hR hok ?_
          walk_at "eo go"
          refine g_lcD (d := d) (sc := sc) walk_list (fun _ x (b : Nat × Nat × List (List Nat)) => x = WS (wideR b.1 b.2.1 b.2.2)) (fun i b => (rs.map rowW)[i]? = some b.2.2 ∧ b.1 ≤ 2 ∧ b.2.1 ≤ 1) (fun _ h => h) (by omega) hD (fun H e => SqL.of (e.keep _ _ hF (nin1 nFd))) ?_ ?_
          · rintro i x H12 H13 hi e12 hD12 ⟨rfl, hi⟩
            obtain ⟨ws, hr0, q, rfl, nq, hq⟩ := (hW.imp fun _ _ => WsAt.ext1 e12 (by simp)).get hi
            obtain ⟨w6, w13⟩ := hrw ws (List.mem_of_getElem? hr0)
            have hsum := sum_le w6
            have hjs := join_small (S := [32, 32]) w6 w13 (by decide)
            walk_at "eo go"
            refine ⟨rfl, ?_⟩
            walk_at "eo go"
            rename_i k1 H14 a1 b1 e14 hD14
            have nqd : q ≠ d := fun e => nq (by simp [e])
            have hq14 := e14.keep _ _ hq (nin1 nqd)
            refine g_mulSign a1 (by omega) ?_
            walk_at "eo go"
            refine g_joinW (sep := [32, 32]) rfl (.inl (SqL.of hq14)) (by show _ + _ * 2 ≤ _; omega) ?_
            walk_at "eo go"
            rename_i k2 H15 a2 b2 e15 hD15
            refine g_mulSign a2 (by omega) ?_
            walk_at "eo go"
            exact ⟨by walk_at "eo ext", hD15, (k1.toNat, k2.toNat, ws), ⟨hr0, (show k1.toNat ≤ 2 by omega), (show k2.toNat ≤ 1 by omega)⟩, rfl⟩
          · intro D H12 ac3 L e12 hD12 n12 nDd nDs hLl hgood hA3 hD3
            have hA3 := lr_wide hA3
            subst hA3
            have hLr : (L.map fun x => x.2.2) = rs.map rowW := by
              refine List.ext_getElem? fun i => ?_
              rw [List.getElem?_map]
              cases hL : L[i]? with
              | none =>
                have h1 := List.getElem?_eq_none_iff.mp hL
                rw [List.getElem?_eq_none (by rw [List.length_map]; omega)]
                rfl
              | some b => rw [(hgood i b hL).1]; rfl
            have hwide : ∀ w ∈ L.map (fun b => wideR b.1 b.2.1 b.2.2), w.length ≤ 107 := fun w hw => by
              obtain ⟨b, hb, rfl⟩ := List.mem_map.mp hw
              obtain ⟨i, hi⟩ := List.mem_iff_getElem?.mp hb
              obtain ⟨g1, g2, g3⟩ := hgood i b hi
              obtain ⟨w6, w13⟩ := hrw b.2.2 (List.mem_of_getElem? g1)
              have hjs := join_small (S := [32, 32]) w6 w13 (by decide)
              unfold wideR
              rw [List.length_append, List.length_append, List.length_replicate, List.length_replicate]
              omega
            have hL5 : (L.map (fun b => wideR b.1 b.2.1 b.2.2)).length ≤ 5 := by rw [List.length_map]; omega
            have hws := sum_le hwide
            have hwj := join_small (S := [10]) hwide hL5 (by decide)
            refine g_joinW (sep := [10]) rfl (.inl (SqL.of hD3)) (by show _ + _ * 1 ≤ _; omega) ?_
            have hR := hR.ext e12
            have hF := e12.keep _ _ hF (nin1 nFd)
            have hW := hW.imp fun _ _ => WsAt.ext1 e12 (by simp)
            have hD := hD12
            clear e12 hD12 n12 nDd nDs hD3 hws hgood
            walk_at "eo go"
            refine ⟨_, rfl, by omega, fun i hi => by (rw [prs_wide hok hLr] at hi; cases hi), fun rs' h' => ?_⟩
            rw [prs_wide hok hLr] at h'
            obtain rfl := Sum.inl.inj h'
            refine ⟨hc, fun c3 H13 e13 hR3 => ?_⟩
            have hR := hR.ext e13
            have hD := hD.ext e13 nin0 nin0
            have hF := e13.keep _ _ hF nin0
            have hW := hW.imp fun _ _ => WsAt.ext0 e13
            clear e13
            walk_at "eo go"
            refine g_neRs hR3 hR hok ?_
            walk_at "eo go"
            refine g_join (fun σ' H' => ∃ s10 s16 s17 s18, σ' = [some (.ref a), some (.ref d), some (.ref ev), some (.ref rp), s4, s5, s6, some (.ref F), s8, s9, s10, s11, s12, s13, some (WS (rowsT (rs.map rowW))), some (WS (TL.joinL [10] (L.map fun b => wideR b.1 b.2.1 b.2.2))), s16, s17, s18, none, none, none] ∧ DSt H' d sc) ?_ ?_
            · clear hA hA3 hR2 hR3 h' hwide hLl hLr hL5 hwj htl
              obtain ⟨xs1, hx1, hX1, _⟩ := id hR
              have hxl1 := hX1.len
              have hR3' := hR
              clear hX hx hxl hX1 hR
              walk_at "eo go"
              refine g_ite (fun z => ?_) (fun z => ?_)
              · have hpos : 0 < rs.length := by have := dec_t z; omega
                clear hx1 z
                walk_at "eo go"
                rename_i at_ H14 at0 at1 e14 hD14
                obtain ⟨m, rfl⟩ : ∃ m : Nat, at_ = (m : Int) := ⟨at_.toNat, by omega⟩
                have hm : m < rs.length := by omega
                obtain ⟨r, hr0⟩ : ∃ r, rs[m]? = some r := ⟨_, List.getElem?_eq_getElem hm⟩
                have hro := hok r (List.mem_of_getElem? hr0)
                have hF := e14.keep _ _ hF (nin1 nFd)
                have hW := hW.imp fun _ _ => WsAt.ext1 e14 (by simp)
                clear e14
                obtain ⟨x, hx0, q, rfl, nq, hq⟩ := id (hW.at (show (rs.map rowW)[m]? = some (rowW r) by rw [List.getElem?_map, hr0]; rfl))
                have nqd : q ≠ d := fun e => nq (by simp [e])
                have hat := atI_nat hx0
                have hrl := rowW_len hro
                have hra := rowW_all hro
                have hrp : 0 < (rowW r).length := Nat.succ_pos _
                walk_at "eo go"
                rw [List.length_map]
                walk_at "eo go"
                rename_i pl_ H15 pl0 pl1 e15 hD15 l1 H16 n16 e16 h16 lm H17 n17 e17 h17 v18 H18 hv18 e18 hD18 l2 H19 n19 e19 h19
                obtain ⟨k', rfl⟩ : ∃ k' : Nat, pl_ = (k' : Int) := ⟨pl_.toNat, by omega⟩
                have hk' : k' < (rowW r).length := by omega
                have n1d : l1 ≠ d := (ne_dst1 n16 hD15).symm
                rw [bads_lit] at hv18
                obtain ⟨bw, hbw, rfl⟩ := List.mem_map.mp hv18
                have h16 := e19.keep _ _ (e18.keep _ _ (e17.keep _ _ h16 nin0) (nin1 n1d)) nin0
                have hF := e19.keep _ _ (e18.keep _ _ (e17.keep _ _ (e16.keep _ _ (e15.keep _ _ hF (nin1 nFd)) nin0) nin0) (nin1 nFd)) nin0
                have hq := e19.keep _ _ (e18.keep _ _ (e17.keep _ _ (e16.keep _ _ (e15.keep _ _ hq (nin1 nqd)) nin0) nin0) (nin1 nqd)) nin0
                have hW := ((((hW.imp fun _ _ => WsAt.ext1 e15 (by simp)).imp fun _ _ => WsAt.ext0 e16).imp fun _ _ => WsAt.ext0 e17).imp fun _ _ => WsAt.ext1 e18 (by simp)).imp fun _ _ => WsAt.ext0 e19
                have hD := hD18.ext e19 nin0 nin0
                rw [cut_to] at h16
                clear e15 hD14 hD15 e16 e17 e18 e19 n16 n17 n19 h17 hv18 hD18
                walk_at "eo go"
                rename_i l3 K1 n1 e1 f1 l4 K2 n2 e2 f2 w K3 n3 e3 f3 b1 K4 n4 e4 f4 b2 K5 n5 e5 f5 b3 K6 n6 e6 f6 b4 K7 n7 e7 f7 bt K8 n8 e8 f8
                rw [put_map] at f3
                generalize hwn : (rowW r).take k' ++ [bw] ++ (rowW r).drop (k' + 1) = wn at f3
                have X3 : Ext [] H19 K3 := ext0 (ext0 e1 e2) e3
                have X8 : Ext [] K3 K8 := ext0 (ext0 (ext0 (ext0 e4 e5) e6) e7) e8
                have hq := X8.keep _ _ (X3.keep _ _ hq nin0) nin0
                have hF := X8.keep _ _ (X3.keep _ _ hF nin0) nin0
                have hw8 := X8.keep _ _ f3 nin0
                have hD := (hD.ext X3 nin0 nin0).ext X8 nin0 nin0
                have hW8 := (hW.imp fun _ _ => WsAt.ext0 X3).imp fun _ _ => WsAt.ext0 X8
                have nwF : w ≠ F := (ne_of_none ((ext0 e1 e2).keep _ _ ‹H19 F = _› nin0) n3).symm
                have nwd : w ≠ d := (ne_dst1 n3 (‹DSt H19 d sc›.ext (ext0 e1 e2) nin0 nin0)).symm
                have hWb : LR (WsAt [F, d]) K8 (acc.take m ++ [.ref w] ++ acc.drop (m + 1)) ((rs.map rowW).take m ++ [wn] ++ (rs.map rowW).drop (m + 1)) := ((hW8.take m).app (LR.one ⟨w, rfl, by simp [nwF, nwd], hw8⟩)).app (hW8.drop (m + 1))
                clear X3 X8 e1 e2 e3 e4 e5 e6 e7 e8 f1 f2 f3 f4 f5 f6 f7 n1 n2 n3 n4 n5 n6 n7 n8 hW hW8
                have hwl : wn.length = (rowW r).length := by
                  rw [← hwn, List.length_append, List.length_append, List.length_take, List.length_drop, List.length_singleton]
                  omega
                have hw_at : atI (wn.map WS) (k' : Int) = some (WS bw) := by
                  refine atI_nat ?_
                  rw [← hwn, List.map_append, List.map_append, List.getElem?_append_left (by simp; omega), List.getElem?_append_right (by simp; omega)]
                  simp [Nat.min_eq_left (Nat.le_of_lt hk')]
                obtain ⟨ow, how⟩ : ∃ ow, (rowW r)[k']? = some ow := ⟨_, List.getElem?_eq_getElem hk'⟩
                have hr_at : atI ((rowW r).map WS) (k' : Int) = some (WS ow) := atI_nat (by rw [List.getElem?_map, how]; rfl)
                have La : ("take" : Str) = Sx takeW := by decide +kernel
                have hwd : ∀ w ∈ wn, Wl w ∧ w.length ≤ 6 := by
                  rw [← hwn]
                  exact put_all (R := fun w => Wl w ∧ w.length ≤ 6) hra (bads_all _ hbw)
                have hbt : ∀ x ∈ (rs.map rowW).take m ++ [wn] ++ (rs.map rowW).drop (m + 1), (∀ w ∈ x, w.length ≤ 6) ∧ x.length ≤ 13 := fun x hx => by
                  rcases List.mem_append.mp hx with c | c
                  · rcases List.mem_append.mp c with c | c
                    · exact hrw x (List.mem_of_mem_take c)
                    · rw [List.mem_singleton.mp c]
                      exact ⟨fun w hw => (hwd w hw).2, by omega⟩
                  · exact hrw x (List.mem_of_mem_drop c)
                have hbl : (acc.take m ++ [V.ref w] ++ acc.drop (m + 1)).length = ((rs.map rowW).take m ++ [wn] ++ (rs.map rowW).drop (m + 1)).length := hWb.len
                have hb5 : ((rs.map rowW).take m ++ [wn] ++ (rs.map rowW).drop (m + 1)).length ≤ 6 := by
                  rw [List.length_append, List.length_append, List.length_take, List.length_drop, List.length_singleton, List.length_map]
                  omega
                have htl := rowsT_len hbt
                rw [La]
                walk_at "eo go"
                rw [dec_ws]
                by_cases c : bw = ow
                · refine g_iteDF (by rw [decide_eq_true c]; rfl) ?_
                  walk_at "eo go"
                  exact ⟨_, _, _, _, rfl, hD⟩
                · refine g_iteDT (by rw [decide_eq_false c]; rfl) ?_
                  walk_at "eo go"
                  have hc3 : (k' = 0 ∧ bw = takeW) ∨ (k' = 0 ∧ bw ≠ takeW) ∨ k' ≠ 0 := by
                    by_cases c1 : k' = 0
                    · by_cases c2 : bw = takeW
                      · exact .inl ⟨c1, c2⟩
                      · exact .inr (.inl ⟨c1, c2⟩)
                    · exact .inr (.inr c1)
                  have hw0 : k' = 0 → atI (wn.map WS) 0 = some (WS bw) := fun e => by rw [e] at hw_at; exact hw_at
                  rcases hc3 with ⟨c1, c2⟩ | ⟨c1, c2⟩ | c1
                  · have hw0 := hw0 c1
                    refine g_iteDT (decide_eq_true (by rw [c1]; rfl)) ?_
                    walk_at "eo go"
                    rw [show V.str (Sx takeW) = WS takeW from rfl, dec_ws]
                    refine g_iteDF (by rw [decide_eq_true c2]; rfl) ?_
                    walk_at "eo go"
                    exact ⟨_, _, _, _, rfl, hD⟩
                  · have hb : ¬ (k' = 0 ∧ bw = takeW) := fun z => c2 z.2
                    have hw0 := hw0 c1
                    refine g_iteDT (decide_eq_true (by rw [c1]; rfl)) ?_
                    walk_at "eo go"
                    rw [show V.str (Sx takeW) = WS takeW from rfl, dec_ws]
                    refine g_iteDT (by rw [decide_eq_false c2]; rfl) ?_
                    walk_at "eo go"
                    have hpb := prs_bent hok hm (fun w hw => (hwd w hw).1) (fun z => by rw [z] at hwl; simp at hwl; omega) (show ruleOf wn = none by rw [← hwn]; exact ruleOf_bent hk' hbw hb)
                    generalize hrr : (rs.map rowW).take m ++ [wn] ++ (rs.map rowW).drop (m + 1) = rr at hpb hWb hbt hbl hb5 htl
                    generalize hbb : acc.take m ++ [V.ref w] ++ acc.drop (m + 1) = bb at hWb hbl f8
                    refine g_lcR walk_list IsV (fun _ q => q) ((rr.map fun w => TL.joinL [32] w ++ [10]).map WS) (by rw [List.length_map, List.length_map]; exact hbl) (by omega) (fun H e => SqL.of (e.keep _ _ f8 nin0)) ?_ ?_
                    · rintro i x K9 K10 b hb e9 ⟨rfl, hi⟩
                      obtain ⟨ws, hr0, q, rfl, _, hq⟩ := (hWb.imp fun _ _ => WsAt.ext0 e9).get hi
                      rw [List.getElem?_map, List.getElem?_map, hr0] at hb
                      cases hb
                      obtain ⟨w6, w13⟩ := hbt ws (List.mem_of_getElem? hr0)
                      have hsum := sum_le w6
                      have hjs := join_small (S := [32]) w6 w13 (by decide)
                      walk_at "eo go"
                      refine ⟨rfl, ?_⟩
                      walk_at "eo go"
                      refine g_joinW (sep := [32]) rfl (.inl (SqL.of hq)) (by show _ + _ * 1 ≤ _; omega) ?_
                      walk_at "eo go"
                      exact ⟨Ext.refl _, rfl⟩
                    · intro D K9 ac2 e9 n9 hA hD9
                      have hA := lr_v hA
                      subst hA
                      have hsm : ∀ w ∈ rr.map (fun w => TL.joinL [32] w ++ [10]), w.length ≤ 105 := fun w hw => by
                        obtain ⟨ws, hr, rfl⟩ := List.mem_map.mp hw
                        have := join_small (S := [32]) (hbt ws hr).1 (hbt ws hr).2 (by decide)
                        rw [List.length_append, List.length_singleton]
                        omega
                      have hsum := sum_le hsm
                      rw [List.length_map] at hsum
                      refine g_joinW (sep := []) rfl (.inl (SqL.of hD9)) (by rw [List.length_map]; show _ + _ * 0 ≤ _; omega) ?_
                      rw [join0]
                      have hD := hD.ext e9 nin0 nin0
                      clear hD9 e9 hsum hsm n9 f8
                      walk_at "eo go"
                      refine ⟨rowsT rr, rfl, by omega, fun i hi c9 K10 e10 h10 => ?_, fun rs' h' => by rw [hpb] at h'; cases h'⟩
                      rw [hpb] at hi
                      obtain rfl := Sum.inr.inj hi
                      have hD := hD.ext e10 nin0 nin0
                      have fo := form_ok
                      clear e10
                      walk_at "eo go"
                      rename_i c11 K11 n11 e11 h11
                      exact ⟨_, _, _, _, rfl, hD.ext e11 nin0 nin0⟩
                  · have hb : ¬ (k' = 0 ∧ bw = takeW) := fun z => c1 z.1
                    refine g_iteDF (decide_eq_false (fun z => c1 (by have := V.int.inj z; omega))) ?_
                    walk_at "eo go"
                    have hpb := prs_bent hok hm (fun w hw => (hwd w hw).1) (fun z => by rw [z] at hwl; simp at hwl; omega) (show ruleOf wn = none by rw [← hwn]; exact ruleOf_bent hk' hbw hb)
                    generalize hrr : (rs.map rowW).take m ++ [wn] ++ (rs.map rowW).drop (m + 1) = rr at hpb hWb hbt hbl hb5 htl
                    generalize hbb : acc.take m ++ [V.ref w] ++ acc.drop (m + 1) = bb at hWb hbl f8
                    refine g_lcR walk_list IsV (fun _ q => q) ((rr.map fun w => TL.joinL [32] w ++ [10]).map WS) (by rw [List.length_map, List.length_map]; exact hbl) (by omega) (fun H e => SqL.of (e.keep _ _ f8 nin0)) ?_ ?_
                    · rintro i x K9 K10 b hb e9 ⟨rfl, hi⟩
                      obtain ⟨ws, hr0, q, rfl, _, hq⟩ := (hWb.imp fun _ _ => WsAt.ext0 e9).get hi
                      rw [List.getElem?_map, List.getElem?_map, hr0] at hb
                      cases hb
                      obtain ⟨w6, w13⟩ := hbt ws (List.mem_of_getElem? hr0)
                      have hsum := sum_le w6
                      have hjs := join_small (S := [32]) w6 w13 (by decide)
                      walk_at "eo go"
                      refine ⟨rfl, ?_⟩
                      walk_at "eo go"
                      refine g_joinW (sep := [32]) rfl (.inl (SqL.of hq)) (by show _ + _ * 1 ≤ _; omega) ?_
                      walk_at "eo go"
                      exact ⟨Ext.refl _, rfl⟩
                    · intro D K9 ac2 e9 n9 hA hD9
                      have hA := lr_v hA
                      subst hA
                      have hsm : ∀ w ∈ rr.map (fun w => TL.joinL [32] w ++ [10]), w.length ≤ 105 := fun w hw => by
                        obtain ⟨ws, hr, rfl⟩ := List.mem_map.mp hw
                        have := join_small (S := [32]) (hbt ws hr).1 (hbt ws hr).2 (by decide)
                        rw [List.length_append, List.length_singleton]
                        omega
                      have hsum := sum_le hsm
                      rw [List.length_map] at hsum
                      refine g_joinW (sep := []) rfl (.inl (SqL.of hD9)) (by rw [List.length_map]; show _ + _ * 0 ≤ _; omega) ?_
                      rw [join0]
                      have hD := hD.ext e9 nin0 nin0
                      clear hD9 e9 hsum hsm n9 f8
                      walk_at "eo go"
                      refine ⟨rowsT rr, rfl, by omega, fun i hi c9 K10 e10 h10 => ?_, fun rs' h' => by rw [hpb] at h'; cases h'⟩
                      rw [hpb] at hi
                      obtain rfl := Sum.inr.inj hi
                      have hD := hD.ext e10 nin0 nin0
                      have fo := form_ok
                      clear e10
                      walk_at "eo go"
                      rename_i c11 K11 n11 e11 h11
                      exact ⟨_, _, _, _, rfl, hD.ext e11 nin0 nin0⟩
              · walk_at "eo go"
                exact ⟨_, _, _, _, rfl, hD⟩
            · rintro σ' H' ⟨s10, s16, s17, s18, rfl, hD⟩
              have Lp : ("pass" : Str) = Sx passW := by decide +kernel
              have La : ("take" : Str) = Sx takeW := by decide +kernel
              have Lr : ("port" : Str) = Sx portW := by decide +kernel
              have Lf : ("from" : Str) = Sx (fW 5) := by decide +kernel
              have Le : ("=" : Str) = Sx [61] := by decide +kernel
              have Lx : ("!" : Str) = Sx [33] := by decide +kernel
              rw [Lp, La, Lr, Lf, Le, Lx]
              clear hA hA3 hR2 hR3 h' hwide hLl hLr hL5 hwj htl hX hx hxl hR hF hW
              walk_at "eo go"
              rename_i p9 J9 n9 e9 h9 p8 J8 n8 e8 h8 p7 J7 n7 e7 h7 p6 J6 n6 e6 h6 p5 J5 n5 e5 h5 p4 J4 n4 e4 h4 p3 J3 n3 e3 h3 p2 J2 n2 e2 h2 p1 J1 n1 e1 h1 p0 J0 n0 e0 h0
              have X9 : Ext [] J9 J0 := ext0 (ext0 (ext0 (ext0 (ext0 (ext0 (ext0 (ext0 e8 e7) e6) e5) e4) e3) e2) e1) e0
              have h9 := X9.keep _ _ h9 nin0
              have h8 := (ext0 (ext0 (ext0 (ext0 (ext0 (ext0 (ext0 e7 e6) e5) e4) e3) e2) e1) e0).keep _ _ h8 nin0
              have h7 := (ext0 (ext0 (ext0 (ext0 (ext0 (ext0 e6 e5) e4) e3) e2) e1) e0).keep _ _ h7 nin0
              have h6 := (ext0 (ext0 (ext0 (ext0 (ext0 e5 e4) e3) e2) e1) e0).keep _ _ h6 nin0
              have h5 := (ext0 (ext0 (ext0 (ext0 e4 e3) e2) e1) e0).keep _ _ h5 nin0
              have h4 := (ext0 (ext0 (ext0 e3 e2) e1) e0).keep _ _ h4 nin0
              have h3 := (ext0 (ext0 e2 e1) e0).keep _ _ h3 nin0
              have h2 := (ext0 e1 e0).keep _ _ h2 nin0
              have h1 := e0.keep _ _ h1 nin0
              have hD := hD.ext (ext0 e9 X9) nin0 nin0
              clear X9 e0 e1 e2 e3 e4 e5 e6 e7 e8 e9 n0 n1 n2 n3 n4 n5 n6 n7 n8 n9
              have t9 : TgAt K J0 (.ref p9) (tF (fW 5) [61] (.int 1)) := ⟨p9, rfl, SqT.of h9, .inl ⟨1, rfl⟩⟩
              have t8 : TgAt K J0 (.ref p8) (tF portW [61] (.int 1)) := ⟨p8, rfl, SqT.of h8, .inl ⟨1, rfl⟩⟩
              have t6 : TgAt K J0 (.ref p6) (tF (fW 5) [33] (.int 1)) := ⟨p6, rfl, SqT.of h6, .inl ⟨1, rfl⟩⟩
              have t4 : TgAt K J0 (.ref p4) (tF (fW 5) [61] (.int 513)) := ⟨p4, rfl, SqT.of h4, .inl ⟨513, rfl⟩⟩
              have t2 : TgAt K J0 (.ref p2) (tF (fW 5) [61] (.bl true)) := ⟨p2, rfl, SqT.of h2, .inr ⟨true, rfl⟩⟩
              refine g_repT (SqT.of h0) (by simp) (by decide) (by decide) (by simp) ?_
              rw [rep1]
              walk_at "eo go"
              rename_i pt J10 n10 e10 h10 T J11 n11 e11 h11 q0 J12 n12 e12 h12 q1 J13 n13 e13 h13 q2 J14 n14 e14 h14
              have X : Ext [] J0 J14 := ext0 (ext0 (ext0 (ext0 e10 e11) e12) e13) e14
              have X10 : Ext [] J10 J14 := ext0 (ext0 (ext0 e11 e12) e13) e14
              have hT : LR (TsAt K) J14 [.ref p7, .ref p5, .ref p3, .ref p1, .ref pt] badT :=
                ⟨⟨p7, _, rfl, sqT_ext X (SqT.of h7), LR.one (TgAt.ext X t8)⟩, ⟨p5, _, rfl, sqT_ext X (SqT.of h5), LR.one (TgAt.ext X t6)⟩,
                  ⟨p3, _, rfl, sqT_ext X (SqT.of h3), LR.one (TgAt.ext X t4)⟩, ⟨p1, _, rfl, sqT_ext X (SqT.of h1), LR.one (TgAt.ext X t2)⟩,
                  ⟨pt, _, rfl, sqT_ext X10 (SqT.of h10), LR.repl (TgAt.ext X t9) 5⟩, trivial⟩
              have hTl := (ext0 (ext0 e12 e13) e14).keep _ _ h11 nin0
              have hD := hD.ext X nin0 nin0
              have hP : RgAt K J14 (.ref q1) ⟨passW, []⟩ := ⟨q1, q0, [], rfl, sqT_ext e14 (SqT.of h13), sqT_ext (ext0 e13 e14) (SqT.of h12), trivial, Nat.zero_le _⟩
              clear X X10 e10 e11 e12 e13 e14 n10 n11 n12 n13 h10 h11 h12 h13 t9 t8 t6 t4 t2 h0 h1 h2 h3 h4 h5 h6 h7 h8 h9
              refine g_lcR walk_list (RgAt K) (fun e h => RgAt.ext e h) (badT.map fun ts => ⟨takeW, ts⟩) rfl (by simp) (fun H e => SqL.of (e.keep _ _ hTl nin0)) ?_ ?_
              · rintro i x K9 K10 b hb e9 ⟨rfl, hi⟩
                obtain ⟨ts, hr0, u, ys, rfl, hu, hY⟩ := (hT.imp fun _ _ => TsAt.ext e9).get hi
                rw [List.getElem?_map, hr0] at hb
                cases hb
                have hl5 : ∀ ts ∈ badT, ts.length ≤ 5 := by decide
                have := hl5 ts (List.mem_of_getElem? hr0)
                walk_at "eo go"
                refine ⟨rfl, ?_⟩
                walk_at "eo go"
                rename_i pp K11 n11 e11 h11
                exact ⟨e11, pp, u, ys, rfl, SqT.of h11, sqT_ext e11 hu, hY.imp fun _ _ => TgAt.ext e11, by show ts.length ≤ _; omega⟩
              · intro D K9 ac2 e9 n9 hA hD9
                have hD := hD.ext e9 nin0 nin0
                have h14 := e9.keep _ _ h14 nin0
                have hP := RgAt.ext e9 hP
                have hAl := hA.len
                have hAll : ac2.length = 5 := by rw [hAl]; rfl
                clear hT hTl e9 n9
                walk_at "eo go"
                rename_i pl K10 n10 e10 h10
                have hAll2 : LR (RgAt K) K10 ([.ref q1] ++ ac2) badR := (LR.one (RgAt.ext e10 hP)).app (hA.imp fun _ _ => RgAt.ext e10)
                have npd : pl ≠ d := (ne_dst1 n10 hD).symm
                refine ⟨d, sc, pl, _, rfl, hD.ext e10 nin0 nin0, SqL.of h10, npd, by simp, by rw [List.length_append, hAll, List.length_singleton]; decide, fun v K11 hv e11 hD11 => ?_⟩
                obtain ⟨r, hr, hv⟩ := hAll2.mem hv
                have hbad := badR_no r hr
                have hv := RgAt.ext e11 hv
                clear hAll2 e11 h10 n10 e10 hA hP h14 hD
                walk_at "eo go"
                rename_i bp K12 n12 e12 h12
                refine ⟨bp, [r], rfl, ⟨_, SqT.of h12, LR.one (RgAt.ext e12 hv), by simp⟩, fun K13 e13 => ?_⟩
                rw [hbad]
                walk_at "eo go"
                rename_i r1 M1 a1 b1 c1 r2 M2 a2 b2 c2 r3 M3 a3 b3 c3
                refine g_repT (SqT.of c3) (by simp) (by decide) (by decide) (by simp) ?_
                rw [rep1]
                walk_at "eo go"
                rename_i r4 M4 a4 b4 c4
                have hrow : RgAt K M4 (.ref r2) ⟨takeW, []⟩ := ⟨r2, r1, [], rfl, sqT_ext (ext0 b3 b4) (SqT.of c2), sqT_ext (ext0 (ext0 b2 b3) b4) (SqT.of c1), trivial, Nat.zero_le _⟩
                refine ⟨r4, List.replicate 9 ⟨takeW, []⟩, rfl, ⟨_, SqT.of c4, LR.repl hrow 9, by simp⟩, fun M5 b5 => ?_⟩
                rw [many_no]
                clear hrow a1 a2 a3 a4 b1 b2 b3 b4 b5 c1 c2 c3 c4
                walk_at "eo go"
                rename_i r1 M1 a1 b1 c1 r2 M2 a2 b2 c2 r3 M3 a3 b3 c3
                refine g_repT (SqT.of c3) (by simp) (by decide) (by decide) (by simp) ?_
                rw [rep1]
                walk_at "eo go"
                rename_i r4 M4 a4 b4 c4
                have hrow : RgAt K M4 (.ref r2) ⟨takeW, []⟩ := ⟨r2, r1, [], rfl, sqT_ext (ext0 b3 b4) (SqT.of c2), sqT_ext (ext0 (ext0 b2 b3) b4) (SqT.of c1), trivial, Nat.zero_le _⟩
                refine ⟨r4, List.replicate 8 ⟨takeW, []⟩, rfl, ⟨_, SqT.of c4, LR.repl hrow 8, by simp⟩, fun M5 b5 => ?_⟩
                rw [many_yes, if_pos rfl, L0]
                clear hrow a1 a2 a3 a4 b1 b2 b3 b4 b5 c1 c2 c3 c4
                walk_at "eo go"
                exact k _
end
set_option maxHeartbeats 4000000 in
theorem all_mk {l : PySem.W.OpenLaw} {w : World} {K : PySem.W.Frag} {h : Heap} {mg : Str → Option Value} {fa : Addr} (X : K.In h) (G : h.Ns mainGlobals mg) (hfa : mg "law" = some (.ref fa))
    {od_InputError_init an_InputError_init : Option Addr} {sl_InputError_init : Array (Option Value)} {oc_InputError_init dc_InputError_init pm_InputError_init ct_InputError_init : Value} {f_InputError_init : Addr}
    {od_TextError_init an_TextError_init : Option Addr} {sl_TextError_init : Array (Option Value)} {oc_TextError_init dc_TextError_init pm_TextError_init ct_TextError_init : Value} {f_TextError_init : Addr}
    {od_is_number an_is_number : Option Addr} {sl_is_number : Array (Option Value)} {oc_is_number kV_is_number dc_is_number pm_is_number cd_is_number ct_is_number : Value} {f_is_number : Addr}
    {od_is_test an_is_test : Option Addr} {sl_is_test : Array (Option Value)} {oc_is_test kV_is_test dc_is_test pm_is_test cd_is_test ct_is_test : Value} {f_is_test : Addr}
    {od_check_rules an_check_rules : Option Addr} {sl_check_rules : Array (Option Value)} {oc_check_rules kV_check_rules dc_check_rules pm_check_rules cd_check_rules ct_check_rules : Value} {f_check_rules : Addr}
    {od_fields_of an_fields_of : Option Addr} {sl_fields_of : Array (Option Value)} {oc_fields_of kV_fields_of dc_fields_of pm_fields_of cd_fields_of ct_fields_of : Value} {f_fields_of : Addr}
    {od_holds an_holds : Option Addr} {sl_holds : Array (Option Value)} {oc_holds kV_holds dc_holds pm_holds cd_holds ct_holds : Value} {f_holds : Addr}
    {od_decide an_decide : Option Addr} {sl_decide : Array (Option Value)} {oc_decide kV_decide dc_decide pm_decide cd_decide ct_decide : Value} {f_decide : Addr}
    {od_format_test an_format_test : Option Addr} {sl_format_test : Array (Option Value)} {oc_format_test kV_format_test dc_format_test pm_format_test cd_format_test ct_format_test : Value} {f_format_test : Addr}
    {od_format_rules an_format_rules : Option Addr} {sl_format_rules : Array (Option Value)} {oc_format_rules kV_format_rules dc_format_rules pm_format_rules cd_format_rules ct_format_rules : Value} {f_format_rules : Addr}
    {od_number_in an_number_in : Option Addr} {sl_number_in : Array (Option Value)} {oc_number_in kV_number_in dc_number_in pm_number_in cd_number_in ct_number_in : Value} {f_number_in : Addr}
    {od_rule_of an_rule_of : Option Addr} {sl_rule_of : Array (Option Value)} {oc_rule_of kV_rule_of dc_rule_of pm_rule_of cd_rule_of ct_rule_of : Value} {f_rule_of : Addr}
    {od_parse_rules an_parse_rules : Option Addr} {sl_parse_rules : Array (Option Value)} {oc_parse_rules kV_parse_rules dc_parse_rules pm_parse_rules cd_parse_rules ct_parse_rules : Value} {f_parse_rules : Addr}
    {od_law_begin an_law_begin : Option Addr} {sl_law_begin : Array (Option Value)} {oc_law_begin kV_law_begin dc_law_begin pm_law_begin cd_law_begin ct_law_begin : Value} {f_law_begin : Addr}
    {od_law_take an_law_take : Option Addr} {sl_law_take : Array (Option Value)} {oc_law_take kV_law_take dc_law_take pm_law_take cd_law_take ct_law_take : Value} {f_law_take : Addr}
    {od_law_pick an_law_pick : Option Addr} {sl_law_pick : Array (Option Value)} {oc_law_pick kV_law_pick dc_law_pick pm_law_pick cd_law_pick ct_law_pick : Value} {f_law_pick : Addr}
    {od_law_octets an_law_octets : Option Addr} {sl_law_octets : Array (Option Value)} {oc_law_octets kV_law_octets dc_law_octets pm_law_octets cd_law_octets ct_law_octets : Value} {f_law_octets : Addr}
    {od_law_test an_law_test : Option Addr} {sl_law_test : Array (Option Value)} {oc_law_test kV_law_test dc_law_test pm_law_test cd_law_test ct_law_test : Value} {f_law_test : Addr}
    {od_law_rules an_law_rules : Option Addr} {sl_law_rules : Array (Option Value)} {oc_law_rules kV_law_rules dc_law_rules pm_law_rules cd_law_rules ct_law_rules : Value} {f_law_rules : Addr}
    {od_law_numbers an_law_numbers : Option Addr} {sl_law_numbers : Array (Option Value)} {oc_law_numbers kV_law_numbers dc_law_numbers pm_law_numbers cd_law_numbers ct_law_numbers : Value} {f_law_numbers : Addr}
    {od_law_holds an_law_holds : Option Addr} {sl_law_holds : Array (Option Value)} {oc_law_holds kV_law_holds dc_law_holds pm_law_holds cd_law_holds ct_law_holds : Value} {f_law_holds : Addr}
    {od_law_decider an_law_decider : Option Addr} {sl_law_decider : Array (Option Value)} {oc_law_decider kV_law_decider dc_law_decider pm_law_decider cd_law_decider ct_law_decider : Value} {f_law_decider : Addr}
    {od_law_action an_law_action : Option Addr} {sl_law_action : Array (Option Value)} {oc_law_action kV_law_action dc_law_action pm_law_action cd_law_action ct_law_action : Value} {f_law_action : Addr}
    {od_law_code an_law_code : Option Addr} {sl_law_code : Array (Option Value)} {oc_law_code kV_law_code dc_law_code pm_law_code cd_law_code ct_law_code : Value} {f_law_code : Addr}
    {od_law_read an_law_read : Option Addr} {sl_law_read : Array (Option Value)} {oc_law_read kV_law_read dc_law_read pm_law_read cd_law_read ct_law_read : Value} {f_law_read : Addr}
    {od_law an_law : Option Addr} {sl_law : Array (Option Value)} {oc_law kV_law dc_law pm_law cd_law ct_law : Value} {f_law : Addr}
    {c_InputError : Addr}
    {c_TextError : Addr}
    {cc_InputError ca_InputError : Addr} {nm_InputError q_InputError : Str} {N_InputError : Addr} {bs_InputError bm_InputError sub_InputError : List Value} {sn_InputError : List Str} {ab_InputError : Bool} {col_InputError : Option Bool} {dd_InputError : Option Addr} {m0_InputError m1_InputError m2_InputError m3_InputError m5_InputError : Option Value}
    {ccl_InputError : Value} {cdd_InputError : Option Addr} {vs_InputError : Array Value} {ccs_InputError : Array (Option Value)} {file_InputError : Str} {tf_InputError : Tok} {cll_InputError : Value} {cld_InputError : Option Addr} {csl_InputError : Array (Option Value)}
    {cc_TextError ca_TextError : Addr} {nm_TextError q_TextError : Str} {N_TextError : Addr} {bs_TextError bm_TextError sub_TextError : List Value} {sn_TextError : List Str} {ab_TextError : Bool} {col_TextError : Option Bool} {dd_TextError : Option Addr} {m0_TextError m1_TextError m2_TextError m3_TextError m5_TextError : Option Value}
    {ccl_TextError : Value} {cdd_TextError : Option Addr} {vs_TextError : Array Value} {ccs_TextError : Array (Option Value)} {file_TextError : Str} {tf_TextError : Tok} {cll_TextError : Value} {cld_TextError : Option Addr} {csl_TextError : Array (Option Value)}
    {ga_FIELDS : Addr} {o_FIELDS : Value} {its_FIELDS : Array Value} {n_FIELDS : Nat} {sl_FIELDS : Array (Option Value)}
    {ga_SIGNS : Addr} {o_SIGNS : Value} {its_SIGNS : Array Value} {n_SIGNS : Nat} {sl_SIGNS : Array (Option Value)}
    {v_MOST_NUMBER : Tok}
    {v_MOST_RULES : Tok}
    {ga_ACTIONS : Addr} {o_ACTIONS : Value} {its_ACTIONS : Array Value} {n_ACTIONS : Nat} {sl_ACTIONS : Array (Option Value)}
    {v_MOST_TESTS : Tok}
    {ga_KINDS : Addr} {o_KINDS : Value} {its_KINDS : Array Value} {n_KINDS : Nat} {sl_KINDS : Array (Option Value)}
    {v_MOST_DIGITS : Tok}
    {v_DIGITS : Tok}
    (aC_InputError : PySem.W.nsIn K mainGlobals "InputError" = some (some (.ref c_InputError)))
    (aC_TextError : PySem.W.nsIn K mainGlobals "TextError" = some (some (.ref c_TextError)))
    (a_InputError_init : PySem.W.findIn K (.ref c_InputError) "__init__" = some (some (.ref f_InputError_init)))
    (ti_InputError_init : PySem.W.typeIn K (.ref f_InputError_init) = some (.type "function"))
    (l_InputError_init : K.lookup f_InputError_init = some ⟨oc_InputError_init, od_InputError_init, .func (PySem.W.fnX "__init__" "InputError.__init__" (defArgs s_InputError_init) (defBody s_InputError_init) (defScope s_InputError_init) [("__class__", cc_InputError)] .none .none dc_InputError_init pm_InputError_init an_InputError_init (.ref ca_InputError) ct_InputError_init), sl_InputError_init⟩)
    (k_InputError_init : PySem.W.codeIn K (.ref ca_InputError) "InputError.__init__" = true)
    (co_InputError : K.lookup ca_InputError = some ⟨ccl_InputError, cdd_InputError, .fields vs_InputError, ccs_InputError⟩)
    (cv_InputError : vs_InputError[2]? = some (.str file_InputError tf_InputError))
    (cf_InputError : ((l.prog.main.file : Str) == file_InputError) = true)
    (ce_InputError : K.lookup cc_InputError = some ⟨cll_InputError, cld_InputError, .cell (some (.ref c_InputError)), csl_InputError⟩)
    (xl_InputError : K.lookup c_InputError = some (excClassObj nm_InputError q_InputError c_InputError N_InputError bs_InputError bm_InputError true sn_InputError sub_InputError ab_InputError col_InputError dd_InputError m0_InputError m1_InputError m2_InputError m3_InputError m5_InputError "ValueError.__new__"))
    (xr_InputError : PySem.HandSPX.refsVE bm_InputError = true)
    (sa_InputError : PySem.W.findIn K (.ref c_InputError) "__setattr__" = some (some (.builtin "object.__setattr__")))
    (eb_InputError : PySem.W.subIn K (.ref c_InputError) (.type "BaseException") = some true)
    (ty_InputError : PySem.W.typeIn K (.ref c_InputError) = some (.type "type"))
    (kp_InputError : PySem.W.keepIn K (.ref c_InputError) = true)
    (mr_InputError : PySem.W.mroIn K c_InputError (.ref c_InputError) = some true)
    (tp_InputError : (l.prog.main.scope.names.lookup ("super" : Str)).isSome = false)
    (oq_InputError : PySem.W.nsIn K PySem.cStatics "thirdparty.any" = some none)
    (si_InputError : PySem.W.ks_superIn K c_InputError c_InputError "__init__" = some (some (.builtin "ValueError.__init__")))
    (ve_InputError : PySem.W.subIn K (.ref c_InputError) (.type "ValueError") = some true)
    (ga_InputError : PySem.W.findIn K (.ref c_InputError) "__getattribute__" = some (some (.builtin "BaseException.__getattribute__")))
    (gg_InputError : PySem.W.findIn K (.ref c_InputError) "__getattr__" = some none)
    (hd_InputError : PySem.W.hasDictIn K c_InputError = true)
    (ic_InputError : PySem.W.isClsIn K c_InputError = true)
    (sc_InputError : PySem.W.subIn K (.ref c_InputError) (.ref c_InputError) = some true)
    (n_InputError_code : PySem.W.findIn K (.ref c_InputError) "code" = some none)
    (a_TextError_init : PySem.W.findIn K (.ref c_TextError) "__init__" = some (some (.ref f_TextError_init)))
    (ti_TextError_init : PySem.W.typeIn K (.ref f_TextError_init) = some (.type "function"))
    (l_TextError_init : K.lookup f_TextError_init = some ⟨oc_TextError_init, od_TextError_init, .func (PySem.W.fnX "__init__" "TextError.__init__" (defArgs s_TextError_init) (defBody s_TextError_init) (defScope s_TextError_init) [("__class__", cc_TextError)] .none .none dc_TextError_init pm_TextError_init an_TextError_init (.ref ca_TextError) ct_TextError_init), sl_TextError_init⟩)
    (k_TextError_init : PySem.W.codeIn K (.ref ca_TextError) "TextError.__init__" = true)
    (co_TextError : K.lookup ca_TextError = some ⟨ccl_TextError, cdd_TextError, .fields vs_TextError, ccs_TextError⟩)
    (cv_TextError : vs_TextError[2]? = some (.str file_TextError tf_TextError))
    (cf_TextError : ((l.prog.main.file : Str) == file_TextError) = true)
    (ce_TextError : K.lookup cc_TextError = some ⟨cll_TextError, cld_TextError, .cell (some (.ref c_TextError)), csl_TextError⟩)
    (xl_TextError : K.lookup c_TextError = some (excClassObj nm_TextError q_TextError c_TextError N_TextError bs_TextError bm_TextError true sn_TextError sub_TextError ab_TextError col_TextError dd_TextError m0_TextError m1_TextError m2_TextError m3_TextError m5_TextError "ValueError.__new__"))
    (xr_TextError : PySem.HandSPX.refsVE bm_TextError = true)
    (sa_TextError : PySem.W.findIn K (.ref c_TextError) "__setattr__" = some (some (.builtin "object.__setattr__")))
    (eb_TextError : PySem.W.subIn K (.ref c_TextError) (.type "BaseException") = some true)
    (ty_TextError : PySem.W.typeIn K (.ref c_TextError) = some (.type "type"))
    (kp_TextError : PySem.W.keepIn K (.ref c_TextError) = true)
    (mr_TextError : PySem.W.mroIn K c_TextError (.ref c_TextError) = some true)
    (tp_TextError : (l.prog.main.scope.names.lookup ("super" : Str)).isSome = false)
    (oq_TextError : PySem.W.nsIn K PySem.cStatics "thirdparty.any" = some none)
    (si_TextError : PySem.W.ks_superIn K c_TextError c_TextError "__init__" = some (some (.builtin "ValueError.__init__")))
    (ve_TextError : PySem.W.subIn K (.ref c_TextError) (.type "ValueError") = some true)
    (ga_TextError : PySem.W.findIn K (.ref c_TextError) "__getattribute__" = some (some (.builtin "BaseException.__getattribute__")))
    (gg_TextError : PySem.W.findIn K (.ref c_TextError) "__getattr__" = some none)
    (hd_TextError : PySem.W.hasDictIn K c_TextError = true)
    (ic_TextError : PySem.W.isClsIn K c_TextError = true)
    (sc_TextError : PySem.W.subIn K (.ref c_TextError) (.ref c_TextError) = some true)
    (n_TextError_code : PySem.W.findIn K (.ref c_TextError) "code" = some none)
    (n_TextError_at : PySem.W.findIn K (.ref c_TextError) "at" = some none)
    (a_is_number : PySem.W.nsIn K mainGlobals "is_number" = some (some (.ref f_is_number)))
    (l_is_number : K.lookup f_is_number = some ⟨oc_is_number, od_is_number, .func (PySem.W.fnOf "is_number" "is_number" (defArgs s_is_number) (defBody s_is_number) (defScope s_is_number) .none kV_is_number dc_is_number pm_is_number an_is_number cd_is_number ct_is_number), sl_is_number⟩)
    (k_is_number : PySem.W.codeIn K cd_is_number "is_number" = true)
    (p_is_number : PySem.W.keepIn K (.ref f_is_number) = true)
    (a_is_test : PySem.W.nsIn K mainGlobals "is_test" = some (some (.ref f_is_test)))
    (l_is_test : K.lookup f_is_test = some ⟨oc_is_test, od_is_test, .func (PySem.W.fnOf "is_test" "is_test" (defArgs s_is_test) (defBody s_is_test) (defScope s_is_test) .none kV_is_test dc_is_test pm_is_test an_is_test cd_is_test ct_is_test), sl_is_test⟩)
    (k_is_test : PySem.W.codeIn K cd_is_test "is_test" = true)
    (p_is_test : PySem.W.keepIn K (.ref f_is_test) = true)
    (a_check_rules : PySem.W.nsIn K mainGlobals "check_rules" = some (some (.ref f_check_rules)))
    (l_check_rules : K.lookup f_check_rules = some ⟨oc_check_rules, od_check_rules, .func (PySem.W.fnOf "check_rules" "check_rules" (defArgs s_check_rules) (defBody s_check_rules) (defScope s_check_rules) .none kV_check_rules dc_check_rules pm_check_rules an_check_rules cd_check_rules ct_check_rules), sl_check_rules⟩)
    (k_check_rules : PySem.W.codeIn K cd_check_rules "check_rules" = true)
    (p_check_rules : PySem.W.keepIn K (.ref f_check_rules) = true)
    (a_fields_of : PySem.W.nsIn K mainGlobals "fields_of" = some (some (.ref f_fields_of)))
    (l_fields_of : K.lookup f_fields_of = some ⟨oc_fields_of, od_fields_of, .func (PySem.W.fnOf "fields_of" "fields_of" (defArgs s_fields_of) (defBody s_fields_of) (defScope s_fields_of) .none kV_fields_of dc_fields_of pm_fields_of an_fields_of cd_fields_of ct_fields_of), sl_fields_of⟩)
    (k_fields_of : PySem.W.codeIn K cd_fields_of "fields_of" = true)
    (p_fields_of : PySem.W.keepIn K (.ref f_fields_of) = true)
    (a_holds : PySem.W.nsIn K mainGlobals "holds" = some (some (.ref f_holds)))
    (l_holds : K.lookup f_holds = some ⟨oc_holds, od_holds, .func (PySem.W.fnOf "holds" "holds" (defArgs s_holds) (defBody s_holds) (defScope s_holds) .none kV_holds dc_holds pm_holds an_holds cd_holds ct_holds), sl_holds⟩)
    (k_holds : PySem.W.codeIn K cd_holds "holds" = true)
    (p_holds : PySem.W.keepIn K (.ref f_holds) = true)
    (a_decide : PySem.W.nsIn K mainGlobals "decide" = some (some (.ref f_decide)))
    (l_decide : K.lookup f_decide = some ⟨oc_decide, od_decide, .func (PySem.W.fnOf "decide" "decide" (defArgs s_decide) (defBody s_decide) (defScope s_decide) .none kV_decide dc_decide pm_decide an_decide cd_decide ct_decide), sl_decide⟩)
    (k_decide : PySem.W.codeIn K cd_decide "decide" = true)
    (p_decide : PySem.W.keepIn K (.ref f_decide) = true)
    (a_format_test : PySem.W.nsIn K mainGlobals "format_test" = some (some (.ref f_format_test)))
    (l_format_test : K.lookup f_format_test = some ⟨oc_format_test, od_format_test, .func (PySem.W.fnOf "format_test" "format_test" (defArgs s_format_test) (defBody s_format_test) (defScope s_format_test) .none kV_format_test dc_format_test pm_format_test an_format_test cd_format_test ct_format_test), sl_format_test⟩)
    (k_format_test : PySem.W.codeIn K cd_format_test "format_test" = true)
    (p_format_test : PySem.W.keepIn K (.ref f_format_test) = true)
    (a_format_rules : PySem.W.nsIn K mainGlobals "format_rules" = some (some (.ref f_format_rules)))
    (l_format_rules : K.lookup f_format_rules = some ⟨oc_format_rules, od_format_rules, .func (PySem.W.fnOf "format_rules" "format_rules" (defArgs s_format_rules) (defBody s_format_rules) (defScope s_format_rules) .none kV_format_rules dc_format_rules pm_format_rules an_format_rules cd_format_rules ct_format_rules), sl_format_rules⟩)
    (k_format_rules : PySem.W.codeIn K cd_format_rules "format_rules" = true)
    (p_format_rules : PySem.W.keepIn K (.ref f_format_rules) = true)
    (a_number_in : PySem.W.nsIn K mainGlobals "number_in" = some (some (.ref f_number_in)))
    (l_number_in : K.lookup f_number_in = some ⟨oc_number_in, od_number_in, .func (PySem.W.fnOf "number_in" "number_in" (defArgs s_number_in) (defBody s_number_in) (defScope s_number_in) .none kV_number_in dc_number_in pm_number_in an_number_in cd_number_in ct_number_in), sl_number_in⟩)
    (k_number_in : PySem.W.codeIn K cd_number_in "number_in" = true)
    (p_number_in : PySem.W.keepIn K (.ref f_number_in) = true)
    (a_rule_of : PySem.W.nsIn K mainGlobals "rule_of" = some (some (.ref f_rule_of)))
    (l_rule_of : K.lookup f_rule_of = some ⟨oc_rule_of, od_rule_of, .func (PySem.W.fnOf "rule_of" "rule_of" (defArgs s_rule_of) (defBody s_rule_of) (defScope s_rule_of) .none kV_rule_of dc_rule_of pm_rule_of an_rule_of cd_rule_of ct_rule_of), sl_rule_of⟩)
    (k_rule_of : PySem.W.codeIn K cd_rule_of "rule_of" = true)
    (p_rule_of : PySem.W.keepIn K (.ref f_rule_of) = true)
    (a_parse_rules : PySem.W.nsIn K mainGlobals "parse_rules" = some (some (.ref f_parse_rules)))
    (l_parse_rules : K.lookup f_parse_rules = some ⟨oc_parse_rules, od_parse_rules, .func (PySem.W.fnOf "parse_rules" "parse_rules" (defArgs s_parse_rules) (defBody s_parse_rules) (defScope s_parse_rules) .none kV_parse_rules dc_parse_rules pm_parse_rules an_parse_rules cd_parse_rules ct_parse_rules), sl_parse_rules⟩)
    (k_parse_rules : PySem.W.codeIn K cd_parse_rules "parse_rules" = true)
    (p_parse_rules : PySem.W.keepIn K (.ref f_parse_rules) = true)
    (a_law_begin : PySem.W.nsIn K mainGlobals "_law_begin" = some (some (.ref f_law_begin)))
    (l_law_begin : K.lookup f_law_begin = some ⟨oc_law_begin, od_law_begin, .func (PySem.W.fnOf "_law_begin" "_law_begin" (defArgs s_law_begin) (defBody s_law_begin) (defScope s_law_begin) .none kV_law_begin dc_law_begin pm_law_begin an_law_begin cd_law_begin ct_law_begin), sl_law_begin⟩)
    (k_law_begin : PySem.W.codeIn K cd_law_begin "_law_begin" = true)
    (p_law_begin : PySem.W.keepIn K (.ref f_law_begin) = true)
    (a_law_take : PySem.W.nsIn K mainGlobals "_law_take" = some (some (.ref f_law_take)))
    (l_law_take : K.lookup f_law_take = some ⟨oc_law_take, od_law_take, .func (PySem.W.fnOf "_law_take" "_law_take" (defArgs s_law_take) (defBody s_law_take) (defScope s_law_take) .none kV_law_take dc_law_take pm_law_take an_law_take cd_law_take ct_law_take), sl_law_take⟩)
    (k_law_take : PySem.W.codeIn K cd_law_take "_law_take" = true)
    (p_law_take : PySem.W.keepIn K (.ref f_law_take) = true)
    (a_law_pick : PySem.W.nsIn K mainGlobals "_law_pick" = some (some (.ref f_law_pick)))
    (l_law_pick : K.lookup f_law_pick = some ⟨oc_law_pick, od_law_pick, .func (PySem.W.fnOf "_law_pick" "_law_pick" (defArgs s_law_pick) (defBody s_law_pick) (defScope s_law_pick) .none kV_law_pick dc_law_pick pm_law_pick an_law_pick cd_law_pick ct_law_pick), sl_law_pick⟩)
    (k_law_pick : PySem.W.codeIn K cd_law_pick "_law_pick" = true)
    (p_law_pick : PySem.W.keepIn K (.ref f_law_pick) = true)
    (a_law_octets : PySem.W.nsIn K mainGlobals "_law_octets" = some (some (.ref f_law_octets)))
    (l_law_octets : K.lookup f_law_octets = some ⟨oc_law_octets, od_law_octets, .func (PySem.W.fnOf "_law_octets" "_law_octets" (defArgs s_law_octets) (defBody s_law_octets) (defScope s_law_octets) .none kV_law_octets dc_law_octets pm_law_octets an_law_octets cd_law_octets ct_law_octets), sl_law_octets⟩)
    (k_law_octets : PySem.W.codeIn K cd_law_octets "_law_octets" = true)
    (p_law_octets : PySem.W.keepIn K (.ref f_law_octets) = true)
    (a_law_test : PySem.W.nsIn K mainGlobals "_law_test" = some (some (.ref f_law_test)))
    (l_law_test : K.lookup f_law_test = some ⟨oc_law_test, od_law_test, .func (PySem.W.fnOf "_law_test" "_law_test" (defArgs s_law_test) (defBody s_law_test) (defScope s_law_test) .none kV_law_test dc_law_test pm_law_test an_law_test cd_law_test ct_law_test), sl_law_test⟩)
    (k_law_test : PySem.W.codeIn K cd_law_test "_law_test" = true)
    (p_law_test : PySem.W.keepIn K (.ref f_law_test) = true)
    (a_law_rules : PySem.W.nsIn K mainGlobals "_law_rules" = some (some (.ref f_law_rules)))
    (l_law_rules : K.lookup f_law_rules = some ⟨oc_law_rules, od_law_rules, .func (PySem.W.fnOf "_law_rules" "_law_rules" (defArgs s_law_rules) (defBody s_law_rules) (defScope s_law_rules) .none kV_law_rules dc_law_rules pm_law_rules an_law_rules cd_law_rules ct_law_rules), sl_law_rules⟩)
    (k_law_rules : PySem.W.codeIn K cd_law_rules "_law_rules" = true)
    (p_law_rules : PySem.W.keepIn K (.ref f_law_rules) = true)
    (a_law_numbers : PySem.W.nsIn K mainGlobals "_law_numbers" = some (some (.ref f_law_numbers)))
    (l_law_numbers : K.lookup f_law_numbers = some ⟨oc_law_numbers, od_law_numbers, .func (PySem.W.fnOf "_law_numbers" "_law_numbers" (defArgs s_law_numbers) (defBody s_law_numbers) (defScope s_law_numbers) .none kV_law_numbers dc_law_numbers pm_law_numbers an_law_numbers cd_law_numbers ct_law_numbers), sl_law_numbers⟩)
    (k_law_numbers : PySem.W.codeIn K cd_law_numbers "_law_numbers" = true)
    (p_law_numbers : PySem.W.keepIn K (.ref f_law_numbers) = true)
    (a_law_holds : PySem.W.nsIn K mainGlobals "_law_holds" = some (some (.ref f_law_holds)))
    (l_law_holds : K.lookup f_law_holds = some ⟨oc_law_holds, od_law_holds, .func (PySem.W.fnOf "_law_holds" "_law_holds" (defArgs s_law_holds) (defBody s_law_holds) (defScope s_law_holds) .none kV_law_holds dc_law_holds pm_law_holds an_law_holds cd_law_holds ct_law_holds), sl_law_holds⟩)
    (k_law_holds : PySem.W.codeIn K cd_law_holds "_law_holds" = true)
    (p_law_holds : PySem.W.keepIn K (.ref f_law_holds) = true)
    (a_law_decider : PySem.W.nsIn K mainGlobals "_law_decider" = some (some (.ref f_law_decider)))
    (l_law_decider : K.lookup f_law_decider = some ⟨oc_law_decider, od_law_decider, .func (PySem.W.fnOf "_law_decider" "_law_decider" (defArgs s_law_decider) (defBody s_law_decider) (defScope s_law_decider) .none kV_law_decider dc_law_decider pm_law_decider an_law_decider cd_law_decider ct_law_decider), sl_law_decider⟩)
    (k_law_decider : PySem.W.codeIn K cd_law_decider "_law_decider" = true)
    (p_law_decider : PySem.W.keepIn K (.ref f_law_decider) = true)
    (a_law_action : PySem.W.nsIn K mainGlobals "_law_action" = some (some (.ref f_law_action)))
    (l_law_action : K.lookup f_law_action = some ⟨oc_law_action, od_law_action, .func (PySem.W.fnOf "_law_action" "_law_action" (defArgs s_law_action) (defBody s_law_action) (defScope s_law_action) .none kV_law_action dc_law_action pm_law_action an_law_action cd_law_action ct_law_action), sl_law_action⟩)
    (k_law_action : PySem.W.codeIn K cd_law_action "_law_action" = true)
    (p_law_action : PySem.W.keepIn K (.ref f_law_action) = true)
    (a_law_code : PySem.W.nsIn K mainGlobals "_law_code" = some (some (.ref f_law_code)))
    (l_law_code : K.lookup f_law_code = some ⟨oc_law_code, od_law_code, .func (PySem.W.fnOf "_law_code" "_law_code" (defArgs s_law_code) (defBody s_law_code) (defScope s_law_code) .none kV_law_code dc_law_code pm_law_code an_law_code cd_law_code ct_law_code), sl_law_code⟩)
    (k_law_code : PySem.W.codeIn K cd_law_code "_law_code" = true)
    (p_law_code : PySem.W.keepIn K (.ref f_law_code) = true)
    (a_law_read : PySem.W.nsIn K mainGlobals "_law_read" = some (some (.ref f_law_read)))
    (l_law_read : K.lookup f_law_read = some ⟨oc_law_read, od_law_read, .func (PySem.W.fnOf "_law_read" "_law_read" (defArgs s_law_read) (defBody s_law_read) (defScope s_law_read) .none kV_law_read dc_law_read pm_law_read an_law_read cd_law_read ct_law_read), sl_law_read⟩)
    (k_law_read : PySem.W.codeIn K cd_law_read "_law_read" = true)
    (p_law_read : PySem.W.keepIn K (.ref f_law_read) = true)
    (a_law : PySem.W.nsIn K mainGlobals "law" = some (some (.ref f_law)))
    (l_law : K.lookup f_law = some ⟨oc_law, od_law, .func (PySem.W.fnOf "law" "law" (defArgs s_law) (defBody s_law) (defScope s_law) .none kV_law dc_law pm_law an_law cd_law ct_law), sl_law⟩)
    (k_law : PySem.W.codeIn K cd_law "law" = true)
    (p_law : PySem.W.keepIn K (.ref f_law) = true)
    (z_super : PySem.W.nsIn K mainGlobals "super" = some none)
    (z_isinstance : PySem.W.nsIn K mainGlobals "isinstance" = some none)
    (z_int : PySem.W.nsIn K mainGlobals "int" = some none)
    (z_bool : PySem.W.nsIn K mainGlobals "bool" = some none)
    (z_len : PySem.W.nsIn K mainGlobals "len" = some none)
    (z_all : PySem.W.nsIn K mainGlobals "all" = some none)
    (z_tuple : PySem.W.nsIn K mainGlobals "tuple" = some none)
    (z_dict : PySem.W.nsIn K mainGlobals "dict" = some none)
    (z_zip : PySem.W.nsIn K mainGlobals "zip" = some none)
    (z_str : PySem.W.nsIn K mainGlobals "str" = some none)
    (z_range : PySem.W.nsIn K mainGlobals "range" = some none)
    (z_enumerate : PySem.W.nsIn K mainGlobals "enumerate" = some none)
    (z_list : PySem.W.nsIn K mainGlobals "list" = some none)
    (z_abs : PySem.W.nsIn K mainGlobals "abs" = some none)
    (gv_FIELDS : PySem.W.nsIn K mainGlobals "FIELDS" = some (some (.ref ga_FIELDS)))
    (gl_FIELDS : K.lookup ga_FIELDS = some ⟨o_FIELDS, none, .seq its_FIELDS n_FIELDS, sl_FIELDS⟩)
    (gk_FIELDS : o_FIELDS = .type "tuple")
    (gz_FIELDS : its_FIELDS.size ≤ sizeLine)
    (gw_FIELDS : L2.Vals [(.str "source"), (.str "goal"), (.str "kind"), (.str "life"), (.str "length"), (.str "from"), (.str "to")] its_FIELDS.toList)
    (gv_SIGNS : PySem.W.nsIn K mainGlobals "SIGNS" = some (some (.ref ga_SIGNS)))
    (gl_SIGNS : K.lookup ga_SIGNS = some ⟨o_SIGNS, none, .seq its_SIGNS n_SIGNS, sl_SIGNS⟩)
    (gk_SIGNS : o_SIGNS = .type "tuple")
    (gz_SIGNS : its_SIGNS.size ≤ sizeLine)
    (gw_SIGNS : L2.Vals [(.str "="), (.str "<"), (.str ">")] its_SIGNS.toList)
    (gv_MOST_NUMBER : PySem.W.nsIn K mainGlobals "MOST_NUMBER" = some (some (.int 512 v_MOST_NUMBER)))
    (gv_MOST_RULES : PySem.W.nsIn K mainGlobals "MOST_RULES" = some (some (.int 8 v_MOST_RULES)))
    (gv_ACTIONS : PySem.W.nsIn K mainGlobals "ACTIONS" = some (some (.ref ga_ACTIONS)))
    (gl_ACTIONS : K.lookup ga_ACTIONS = some ⟨o_ACTIONS, none, .seq its_ACTIONS n_ACTIONS, sl_ACTIONS⟩)
    (gk_ACTIONS : o_ACTIONS = .type "tuple")
    (gz_ACTIONS : its_ACTIONS.size ≤ sizeLine)
    (gw_ACTIONS : L2.Vals [(.str "take"), (.str "drop")] its_ACTIONS.toList)
    (gv_MOST_TESTS : PySem.W.nsIn K mainGlobals "MOST_TESTS" = some (some (.int 4 v_MOST_TESTS)))
    (gv_KINDS : PySem.W.nsIn K mainGlobals "KINDS" = some (some (.ref ga_KINDS)))
    (gl_KINDS : K.lookup ga_KINDS = some ⟨o_KINDS, none, .seq its_KINDS n_KINDS, sl_KINDS⟩)
    (gk_KINDS : o_KINDS = .type "tuple")
    (gz_KINDS : its_KINDS.size ≤ sizeLine)
    (gw_KINDS : L2.Vals [(.str "data"), (.str "route"), (.str "probe"), (.str "tell")] its_KINDS.toList)
    (gv_MOST_DIGITS : PySem.W.nsIn K mainGlobals "MOST_DIGITS" = some (some (.int 3 v_MOST_DIGITS)))
    (gv_DIGITS : PySem.W.nsIn K mainGlobals "DIGITS" = some (some (.str "0123456789" v_DIGITS))) :
    ∃ fd : FuncData, (∀ (s : Shared) (v : Value), BindsTo s fd ⟨[v], []⟩ [("script", v)]) ∧ ∀ base : Heap, K.In base → base.Ns mainGlobals mg → FnOk l.prog w K mg base CX0 6 fa fd ["script"] (spLaw K) := by
  have e := hfa.symm.trans (PySem.W.mg_of X G a_law)
  cases e
  have O_InputError : OexC K c_InputError := ⟨⟨nm_InputError, q_InputError, N_InputError, bs_InputError, _, sn_InputError, sub_InputError, ab_InputError, col_InputError, dd_InputError, m0_InputError, m1_InputError, m2_InputError, m3_InputError, m5_InputError, xl_InputError, xr_InputError⟩, sa_InputError, eb_InputError, ty_InputError, kp_InputError⟩
  have S_InputError : Sup.SupTxt l.prog K mg ⟨"__init__", "InputError.__init__", defArgs s_InputError_init, defBody s_InputError_init, defScope s_InputError_init, [("__class__", cc_InputError)], ca_InputError⟩ f_InputError_init cc_InputError c_InputError "self" :=
    { lk := ⟨_, _, _, _, _, _, _, l_InputError_init⟩, cl := rfl, code := k_InputError_init, cob := ⟨_, _, _, _, _, _, co_InputError, cv_InputError, cf_InputError⟩, cell := ⟨_, _, _, ce_InputError⟩, T := O_InputError, sub := mr_InputError, msup := PySem.W.mg_none_of X G z_super, top := tp_InputError, opq := oq_InputError, init := si_InputError, ve := ve_InputError,
      par := ⟨_, rfl, rfl⟩, ks := (show (defScope s_InputError_init).names.lookup ("super" : Str) = _ by decide +kernel), boot := (by rfl) }
  have B_InputError : Binds K (PySem.W.fnX "__init__" "InputError.__init__" (defArgs s_InputError_init) (defBody s_InputError_init) (defScope s_InputError_init) [("__class__", cc_InputError)] .none .none dc_InputError_init pm_InputError_init an_InputError_init (.ref ca_InputError) ct_InputError_init) ["self", "code"] [] := .all fun us hl => match us, hl with | [_, _], _ => rfl
  have X_InputError : ExcT l.prog K mg ⟨"__init__", "InputError.__init__", defArgs s_InputError_init, defBody s_InputError_init, defScope s_InputError_init, [("__class__", cc_InputError)], ca_InputError⟩ f_InputError_init cc_InputError c_InputError (PySem.W.fnX "__init__" "InputError.__init__" (defArgs s_InputError_init) (defBody s_InputError_init) (defScope s_InputError_init) [("__class__", cc_InputError)] .none .none dc_InputError_init pm_InputError_init an_InputError_init (.ref ca_InputError) ct_InputError_init) "InputError" ["self", "code"] :=
    ⟨S_InputError, PySem.W.mg_of X G aC_InputError, a_InputError_init, ti_InputError_init, exm_self eb_InputError ic_InputError ty_InputError sc_InputError, ⟨ga_InputError, gg_InputError, eb_InputError, hd_InputError⟩, n_InputError_code, B_InputError, ⟨_, _, _, l_InputError_init⟩⟩
  have O_TextError : OexC K c_TextError := ⟨⟨nm_TextError, q_TextError, N_TextError, bs_TextError, _, sn_TextError, sub_TextError, ab_TextError, col_TextError, dd_TextError, m0_TextError, m1_TextError, m2_TextError, m3_TextError, m5_TextError, xl_TextError, xr_TextError⟩, sa_TextError, eb_TextError, ty_TextError, kp_TextError⟩
  have S_TextError : Sup.SupTxt l.prog K mg ⟨"__init__", "TextError.__init__", defArgs s_TextError_init, defBody s_TextError_init, defScope s_TextError_init, [("__class__", cc_TextError)], ca_TextError⟩ f_TextError_init cc_TextError c_TextError "self" :=
    { lk := ⟨_, _, _, _, _, _, _, l_TextError_init⟩, cl := rfl, code := k_TextError_init, cob := ⟨_, _, _, _, _, _, co_TextError, cv_TextError, cf_TextError⟩, cell := ⟨_, _, _, ce_TextError⟩, T := O_TextError, sub := mr_TextError, msup := PySem.W.mg_none_of X G z_super, top := tp_TextError, opq := oq_TextError, init := si_TextError, ve := ve_TextError,
      par := ⟨_, rfl, rfl⟩, ks := (show (defScope s_TextError_init).names.lookup ("super" : Str) = _ by decide +kernel), boot := (by rfl) }
  have B_TextError : Binds K (PySem.W.fnX "__init__" "TextError.__init__" (defArgs s_TextError_init) (defBody s_TextError_init) (defScope s_TextError_init) [("__class__", cc_TextError)] .none .none dc_TextError_init pm_TextError_init an_TextError_init (.ref ca_TextError) ct_TextError_init) ["self", "code", "at"] [] := .all fun us hl => match us, hl with | [_, _, _], _ => rfl
  have X_TextError : ExcT2 l.prog K mg ⟨"__init__", "TextError.__init__", defArgs s_TextError_init, defBody s_TextError_init, defScope s_TextError_init, [("__class__", cc_TextError)], ca_TextError⟩ f_TextError_init cc_TextError c_TextError (PySem.W.fnX "__init__" "TextError.__init__" (defArgs s_TextError_init) (defBody s_TextError_init) (defScope s_TextError_init) [("__class__", cc_TextError)] .none .none dc_TextError_init pm_TextError_init an_TextError_init (.ref ca_TextError) ct_TextError_init) "TextError" ["self", "code", "at"] :=
    ⟨⟨S_TextError, PySem.W.mg_of X G aC_TextError, a_TextError_init, ti_TextError_init, exm_self eb_TextError ic_TextError ty_TextError sc_TextError, ⟨ga_TextError, gg_TextError, eb_TextError, hd_TextError⟩, n_TextError_code, B_TextError, ⟨_, _, _, l_TextError_init⟩⟩, n_TextError_at⟩
  have F_is_number := fun_mk (st := s_is_number) l_is_number k_is_number p_is_number
  have b_is_number := F_is_number.binds (ps := ["value", "least", "most"]) fun _ _ _ _ _ _ us hl => match us, hl with | [_, _, _], _ => rfl
  have F_is_test := fun_mk (st := s_is_test) l_is_test k_is_test p_is_test
  have b_is_test := F_is_test.binds (ps := ["field", "sign", "number"]) fun _ _ _ _ _ _ us hl => match us, hl with | [_, _, _], _ => rfl
  have F_check_rules := fun_mk (st := s_check_rules) l_check_rules k_check_rules p_check_rules
  have b_check_rules := F_check_rules.binds (ps := ["rules"]) fun _ _ _ _ _ _ us hl => match us, hl with | [_], _ => rfl
  have F_fields_of := fun_mk (st := s_fields_of) l_fields_of k_fields_of p_fields_of
  have b_fields_of := F_fields_of.binds (ps := ["packet"]) fun _ _ _ _ _ _ us hl => match us, hl with | [_], _ => rfl
  have F_holds := fun_mk (st := s_holds) l_holds k_holds p_holds
  have b_holds := F_holds.binds (ps := ["fields", "test"]) fun _ _ _ _ _ _ us hl => match us, hl with | [_, _], _ => rfl
  have F_decide := fun_mk (st := s_decide) l_decide k_decide p_decide
  have b_decide := F_decide.binds (ps := ["rules", "packet"]) fun _ _ _ _ _ _ us hl => match us, hl with | [_, _], _ => rfl
  have F_format_test := fun_mk (st := s_format_test) l_format_test k_format_test p_format_test
  have b_format_test := F_format_test.binds (ps := ["test"]) fun _ _ _ _ _ _ us hl => match us, hl with | [_], _ => rfl
  have F_format_rules := fun_mk (st := s_format_rules) l_format_rules k_format_rules p_format_rules
  have b_format_rules := F_format_rules.binds (ps := ["rules"]) fun _ _ _ _ _ _ us hl => match us, hl with | [_], _ => rfl
  have F_number_in := fun_mk (st := s_number_in) l_number_in k_number_in p_number_in
  have b_number_in := F_number_in.binds (ps := ["field", "word"]) fun _ _ _ _ _ _ us hl => match us, hl with | [_, _], _ => rfl
  have F_rule_of := fun_mk (st := s_rule_of) l_rule_of k_rule_of p_rule_of
  have b_rule_of := F_rule_of.binds (ps := ["words"]) fun _ _ _ _ _ _ us hl => match us, hl with | [_], _ => rfl
  have F_parse_rules := fun_mk (st := s_parse_rules) l_parse_rules k_parse_rules p_parse_rules
  have b_parse_rules := F_parse_rules.binds (ps := ["text"]) fun _ _ _ _ _ _ us hl => match us, hl with | [_], _ => rfl
  have F_law_begin := fun_mk (st := s_law_begin) l_law_begin k_law_begin p_law_begin
  have b_law_begin := F_law_begin.binds (ps := ["script"]) fun _ _ _ _ _ _ us hl => match us, hl with | [_], _ => rfl
  have F_law_take := fun_mk (st := s_law_take) l_law_take k_law_take p_law_take
  have b_law_take := F_law_take.binds (ps := ["d", "many"]) fun _ _ _ _ _ _ us hl => match us, hl with | [_, _], _ => rfl
  have F_law_pick := fun_mk (st := s_law_pick) l_law_pick k_law_pick p_law_pick
  have b_law_pick := F_law_pick.binds (ps := ["d", "menu"]) fun _ _ _ _ _ _ us hl => match us, hl with | [_, _], _ => rfl
  have F_law_octets := fun_mk (st := s_law_octets) l_law_octets k_law_octets p_law_octets
  have b_law_octets := F_law_octets.binds (ps := ["d", "most"]) fun _ _ _ _ _ _ us hl => match us, hl with | [_, _], _ => rfl
  have F_law_test := fun_mk (st := s_law_test) l_law_test k_law_test p_law_test
  have b_law_test := F_law_test.binds (ps := ["d", "fields"]) fun _ _ _ _ _ _ us hl => match us, hl with | [_, _], _ => rfl
  have F_law_rules := fun_mk (st := s_law_rules) l_law_rules k_law_rules p_law_rules
  have b_law_rules := F_law_rules.binds (ps := ["d", "fields", "most"]) fun _ _ _ _ _ _ us hl => match us, hl with | [_, _, _], _ => rfl
  have F_law_numbers := fun_mk (st := s_law_numbers) l_law_numbers k_law_numbers p_law_numbers
  have b_law_numbers := F_law_numbers.binds (ps := ["packet"]) fun _ _ _ _ _ _ us hl => match us, hl with | [_], _ => rfl
  have F_law_holds := fun_mk (st := s_law_holds) l_law_holds k_law_holds p_law_holds
  have b_law_holds := F_law_holds.binds (ps := ["numbers", "test"]) fun _ _ _ _ _ _ us hl => match us, hl with | [_, _], _ => rfl
  have F_law_decider := fun_mk (st := s_law_decider) l_law_decider k_law_decider p_law_decider
  have b_law_decider := F_law_decider.binds (ps := ["rules", "packet"]) fun _ _ _ _ _ _ us hl => match us, hl with | [_, _], _ => rfl
  have F_law_action := fun_mk (st := s_law_action) l_law_action k_law_action p_law_action
  have b_law_action := F_law_action.binds (ps := ["rules", "packet"]) fun _ _ _ _ _ _ us hl => match us, hl with | [_, _], _ => rfl
  have F_law_code := fun_mk (st := s_law_code) l_law_code k_law_code p_law_code
  have b_law_code := F_law_code.binds (ps := ["rules"]) fun _ _ _ _ _ _ us hl => match us, hl with | [_], _ => rfl
  have F_law_read := fun_mk (st := s_law_read) l_law_read k_law_read p_law_read
  have b_law_read := F_law_read.binds (ps := ["text"]) fun _ _ _ _ _ _ us hl => match us, hl with | [_], _ => rfl
  have F_law := fun_mk (st := s_law) l_law k_law p_law
  have b_law := F_law.binds (ps := ["script"]) fun _ _ _ _ _ _ us hl => match us, hl with | [_], _ => rfl
  have T : Txt l.prog K mg ⟨f_InputError_init, PySem.W.fnX "__init__" "InputError.__init__" (defArgs s_InputError_init) (defBody s_InputError_init) (defScope s_InputError_init) [("__class__", cc_InputError)] .none .none dc_InputError_init pm_InputError_init an_InputError_init (.ref ca_InputError) ct_InputError_init, f_TextError_init, PySem.W.fnX "__init__" "TextError.__init__" (defArgs s_TextError_init) (defBody s_TextError_init) (defScope s_TextError_init) [("__class__", cc_TextError)] .none .none dc_TextError_init pm_TextError_init an_TextError_init (.ref ca_TextError) ct_TextError_init, f_is_number, PySem.W.fnOf "is_number" "is_number" (defArgs s_is_number) (defBody s_is_number) (defScope s_is_number) .none kV_is_number dc_is_number pm_is_number an_is_number cd_is_number ct_is_number, f_is_test, PySem.W.fnOf "is_test" "is_test" (defArgs s_is_test) (defBody s_is_test) (defScope s_is_test) .none kV_is_test dc_is_test pm_is_test an_is_test cd_is_test ct_is_test, f_check_rules, PySem.W.fnOf "check_rules" "check_rules" (defArgs s_check_rules) (defBody s_check_rules) (defScope s_check_rules) .none kV_check_rules dc_check_rules pm_check_rules an_check_rules cd_check_rules ct_check_rules, f_fields_of, PySem.W.fnOf "fields_of" "fields_of" (defArgs s_fields_of) (defBody s_fields_of) (defScope s_fields_of) .none kV_fields_of dc_fields_of pm_fields_of an_fields_of cd_fields_of ct_fields_of, f_holds, PySem.W.fnOf "holds" "holds" (defArgs s_holds) (defBody s_holds) (defScope s_holds) .none kV_holds dc_holds pm_holds an_holds cd_holds ct_holds, f_decide, PySem.W.fnOf "decide" "decide" (defArgs s_decide) (defBody s_decide) (defScope s_decide) .none kV_decide dc_decide pm_decide an_decide cd_decide ct_decide, f_format_test, PySem.W.fnOf "format_test" "format_test" (defArgs s_format_test) (defBody s_format_test) (defScope s_format_test) .none kV_format_test dc_format_test pm_format_test an_format_test cd_format_test ct_format_test, f_format_rules, PySem.W.fnOf "format_rules" "format_rules" (defArgs s_format_rules) (defBody s_format_rules) (defScope s_format_rules) .none kV_format_rules dc_format_rules pm_format_rules an_format_rules cd_format_rules ct_format_rules, f_number_in, PySem.W.fnOf "number_in" "number_in" (defArgs s_number_in) (defBody s_number_in) (defScope s_number_in) .none kV_number_in dc_number_in pm_number_in an_number_in cd_number_in ct_number_in, f_rule_of, PySem.W.fnOf "rule_of" "rule_of" (defArgs s_rule_of) (defBody s_rule_of) (defScope s_rule_of) .none kV_rule_of dc_rule_of pm_rule_of an_rule_of cd_rule_of ct_rule_of, f_parse_rules, PySem.W.fnOf "parse_rules" "parse_rules" (defArgs s_parse_rules) (defBody s_parse_rules) (defScope s_parse_rules) .none kV_parse_rules dc_parse_rules pm_parse_rules an_parse_rules cd_parse_rules ct_parse_rules, f_law_begin, PySem.W.fnOf "_law_begin" "_law_begin" (defArgs s_law_begin) (defBody s_law_begin) (defScope s_law_begin) .none kV_law_begin dc_law_begin pm_law_begin an_law_begin cd_law_begin ct_law_begin, f_law_take, PySem.W.fnOf "_law_take" "_law_take" (defArgs s_law_take) (defBody s_law_take) (defScope s_law_take) .none kV_law_take dc_law_take pm_law_take an_law_take cd_law_take ct_law_take, f_law_pick, PySem.W.fnOf "_law_pick" "_law_pick" (defArgs s_law_pick) (defBody s_law_pick) (defScope s_law_pick) .none kV_law_pick dc_law_pick pm_law_pick an_law_pick cd_law_pick ct_law_pick, f_law_octets, PySem.W.fnOf "_law_octets" "_law_octets" (defArgs s_law_octets) (defBody s_law_octets) (defScope s_law_octets) .none kV_law_octets dc_law_octets pm_law_octets an_law_octets cd_law_octets ct_law_octets, f_law_test, PySem.W.fnOf "_law_test" "_law_test" (defArgs s_law_test) (defBody s_law_test) (defScope s_law_test) .none kV_law_test dc_law_test pm_law_test an_law_test cd_law_test ct_law_test, f_law_rules, PySem.W.fnOf "_law_rules" "_law_rules" (defArgs s_law_rules) (defBody s_law_rules) (defScope s_law_rules) .none kV_law_rules dc_law_rules pm_law_rules an_law_rules cd_law_rules ct_law_rules, f_law_numbers, PySem.W.fnOf "_law_numbers" "_law_numbers" (defArgs s_law_numbers) (defBody s_law_numbers) (defScope s_law_numbers) .none kV_law_numbers dc_law_numbers pm_law_numbers an_law_numbers cd_law_numbers ct_law_numbers, f_law_holds, PySem.W.fnOf "_law_holds" "_law_holds" (defArgs s_law_holds) (defBody s_law_holds) (defScope s_law_holds) .none kV_law_holds dc_law_holds pm_law_holds an_law_holds cd_law_holds ct_law_holds, f_law_decider, PySem.W.fnOf "_law_decider" "_law_decider" (defArgs s_law_decider) (defBody s_law_decider) (defScope s_law_decider) .none kV_law_decider dc_law_decider pm_law_decider an_law_decider cd_law_decider ct_law_decider, f_law_action, PySem.W.fnOf "_law_action" "_law_action" (defArgs s_law_action) (defBody s_law_action) (defScope s_law_action) .none kV_law_action dc_law_action pm_law_action an_law_action cd_law_action ct_law_action, f_law_code, PySem.W.fnOf "_law_code" "_law_code" (defArgs s_law_code) (defBody s_law_code) (defScope s_law_code) .none kV_law_code dc_law_code pm_law_code an_law_code cd_law_code ct_law_code, f_law_read, PySem.W.fnOf "_law_read" "_law_read" (defArgs s_law_read) (defBody s_law_read) (defScope s_law_read) .none kV_law_read dc_law_read pm_law_read an_law_read cd_law_read ct_law_read, fa, PySem.W.fnOf "law" "law" (defArgs s_law) (defBody s_law) (defScope s_law) .none kV_law dc_law pm_law an_law cd_law ct_law, c_InputError, c_TextError, cc_InputError, ca_InputError, cc_TextError, ca_TextError, ga_FIELDS, ga_SIGNS, ga_ACTIONS, ga_KINDS⟩ := ⟨X_InputError, X_TextError, ⟨F_is_number, PySem.W.mg_of X G a_is_number, p_is_number, b_is_number⟩, ⟨F_is_test, PySem.W.mg_of X G a_is_test, p_is_test, b_is_test⟩, ⟨F_check_rules, PySem.W.mg_of X G a_check_rules, p_check_rules, b_check_rules⟩, ⟨F_fields_of, PySem.W.mg_of X G a_fields_of, p_fields_of, b_fields_of⟩, ⟨F_holds, PySem.W.mg_of X G a_holds, p_holds, b_holds⟩, ⟨F_decide, PySem.W.mg_of X G a_decide, p_decide, b_decide⟩, ⟨F_format_test, PySem.W.mg_of X G a_format_test, p_format_test, b_format_test⟩, ⟨F_format_rules, PySem.W.mg_of X G a_format_rules, p_format_rules, b_format_rules⟩, ⟨F_number_in, PySem.W.mg_of X G a_number_in, p_number_in, b_number_in⟩, ⟨F_rule_of, PySem.W.mg_of X G a_rule_of, p_rule_of, b_rule_of⟩, ⟨F_parse_rules, PySem.W.mg_of X G a_parse_rules, p_parse_rules, b_parse_rules⟩, ⟨F_law_begin, PySem.W.mg_of X G a_law_begin, p_law_begin, b_law_begin⟩, ⟨F_law_take, PySem.W.mg_of X G a_law_take, p_law_take, b_law_take⟩, ⟨F_law_pick, PySem.W.mg_of X G a_law_pick, p_law_pick, b_law_pick⟩, ⟨F_law_octets, PySem.W.mg_of X G a_law_octets, p_law_octets, b_law_octets⟩, ⟨F_law_test, PySem.W.mg_of X G a_law_test, p_law_test, b_law_test⟩, ⟨F_law_rules, PySem.W.mg_of X G a_law_rules, p_law_rules, b_law_rules⟩, ⟨F_law_numbers, PySem.W.mg_of X G a_law_numbers, p_law_numbers, b_law_numbers⟩, ⟨F_law_holds, PySem.W.mg_of X G a_law_holds, p_law_holds, b_law_holds⟩, ⟨F_law_decider, PySem.W.mg_of X G a_law_decider, p_law_decider, b_law_decider⟩, ⟨F_law_action, PySem.W.mg_of X G a_law_action, p_law_action, b_law_action⟩, ⟨F_law_code, PySem.W.mg_of X G a_law_code, p_law_code, b_law_code⟩, ⟨F_law_read, PySem.W.mg_of X G a_law_read, p_law_read, b_law_read⟩, ⟨F_law, PySem.W.mg_of X G a_law, p_law, b_law⟩, PySem.W.mg_none_of X G z_super, PySem.W.mg_none_of X G z_isinstance, PySem.W.mg_none_of X G z_int, PySem.W.mg_none_of X G z_bool, PySem.W.mg_none_of X G z_len, PySem.W.mg_none_of X G z_all, PySem.W.mg_none_of X G z_tuple, PySem.W.mg_none_of X G z_dict, PySem.W.mg_none_of X G z_zip, PySem.W.mg_none_of X G z_str, PySem.W.mg_none_of X G z_range, PySem.W.mg_none_of X G z_enumerate, PySem.W.mg_none_of X G z_list, PySem.W.mg_none_of X G z_abs, ⟨_, PySem.W.mg_of X G gv_FIELDS, rfl⟩, fun _ => .inr ⟨_, _, _, gl_FIELDS, gk_FIELDS, rfl, gz_FIELDS, gw_FIELDS⟩, ⟨_, gl_FIELDS, gk_FIELDS, rfl⟩, ⟨_, PySem.W.mg_of X G gv_SIGNS, rfl⟩, fun _ => .inr ⟨_, _, _, gl_SIGNS, gk_SIGNS, rfl, gz_SIGNS, gw_SIGNS⟩, ⟨_, gl_SIGNS, gk_SIGNS, rfl⟩, ⟨_, PySem.W.mg_of X G gv_MOST_NUMBER, ⟨_, rfl⟩⟩, ⟨_, PySem.W.mg_of X G gv_MOST_RULES, ⟨_, rfl⟩⟩, ⟨_, PySem.W.mg_of X G gv_ACTIONS, rfl⟩, fun _ => .inr ⟨_, _, _, gl_ACTIONS, gk_ACTIONS, rfl, gz_ACTIONS, gw_ACTIONS⟩, ⟨_, gl_ACTIONS, gk_ACTIONS, rfl⟩, ⟨_, PySem.W.mg_of X G gv_MOST_TESTS, ⟨_, rfl⟩⟩, ⟨_, PySem.W.mg_of X G gv_KINDS, rfl⟩, fun _ => .inr ⟨_, _, _, gl_KINDS, gk_KINDS, rfl, gz_KINDS, gw_KINDS⟩, ⟨_, gl_KINDS, gk_KINDS, rfl⟩, ⟨_, PySem.W.mg_of X G gv_MOST_DIGITS, ⟨_, rfl⟩⟩, ⟨_, PySem.W.mg_of X G gv_DIGITS, ⟨_, rfl⟩⟩⟩
  exact ⟨_, fun s v => .of_eq rfl, fun base _ _ => ok_law T⟩
theorem walk {l : PySem.W.OpenLaw} {q : Program} {loose : List Str} {XP : (Str → Option Value) → Heap → Prop} {YP : World → Heap → Prop} {d : DefRec} {K : Params → PySem.W.Frag} (hn : l.most = some 63) (hdf : d.params.defaults = [])
    (hY : ∀ (w : World) (h : Heap), YP w h → (K w.params).In h)
    (F : ∀ (w : World) (mg : Str → Option Value) (fa : Addr) (h : Heap), (K w.params).In h → h.Ns mainGlobals mg → mg d.name = some (.ref fa) →
      ∃ fd : FuncData, (∀ (s : Shared) (u : Value), BindsTo s fd ⟨[u], []⟩ [("script", u)]) ∧ ∀ base : Heap, (K w.params).In base → base.Ns mainGlobals mg → FnOk l.prog w (K w.params) mg base CX0 6 fa fd ["script"] (spLaw (K w.params))) :
    PySem.W.WalkO q loose XP YP l.row.toRowW d [] (fun f vs => PySem.call f vs) :=
  L2.walk_of (n := 63) (k := 6) (x := "script") (CX := fun _ => CX0) (sp := fun w => spLaw (K w.params)) hn (by decide) hdf ⟨rfl, by decide, by decide⟩ hY F (fun _ _ a ns hl _ hS => ⟨a, ns, rfl, hS, hl, fun _ => rfl⟩) fun _ _ _ _ _ z => z
end Eo24
open PySem PySem.W PyProof.Rows
set_option maxRecDepth 100000 in
set_option maxHeartbeats 0 in
theorem PySem.Challenge.cw_everyoctetonce_k24_rules_holds : PySem.Challenge.rw_everyoctetonce_k24_rules.Holds := by
  w_on; o_law; k_head; (case hw => w_witness2)
  k_fill
  refine Eo24.walk (l := PySem.Challenge.rw_everyoctetonce_k24_rules) rfl rfl (fun w h Y => PySem.W.kIn_of Y) ?F
  case F =>
    intro w mg fa h KX G hmg
    refine' Eo24.all_mk KX G hmg ?aC_InputError ?aC_TextError ?a_InputError_init ?ti_InputError_init ?l_InputError_init ?k_InputError_init ?co_InputError ?cv_InputError ?cf_InputError ?ce_InputError ?xl_InputError ?xr_InputError ?sa_InputError ?eb_InputError ?ty_InputError ?kp_InputError ?mr_InputError ?tp_InputError ?oq_InputError ?si_InputError ?ve_InputError ?ga_InputError ?gg_InputError ?hd_InputError ?ic_InputError ?sc_InputError ?n_InputError_code ?a_TextError_init ?ti_TextError_init ?l_TextError_init ?k_TextError_init ?co_TextError ?cv_TextError ?cf_TextError ?ce_TextError ?xl_TextError ?xr_TextError ?sa_TextError ?eb_TextError ?ty_TextError ?kp_TextError ?mr_TextError ?tp_TextError ?oq_TextError ?si_TextError ?ve_TextError ?ga_TextError ?gg_TextError ?hd_TextError ?ic_TextError ?sc_TextError ?n_TextError_code ?n_TextError_at ?a_is_number ?l_is_number ?k_is_number ?p_is_number ?a_is_test ?l_is_test ?k_is_test ?p_is_test ?a_check_rules ?l_check_rules ?k_check_rules ?p_check_rules ?a_fields_of ?l_fields_of ?k_fields_of ?p_fields_of ?a_holds ?l_holds ?k_holds ?p_holds ?a_decide ?l_decide ?k_decide ?p_decide ?a_format_test ?l_format_test ?k_format_test ?p_format_test ?a_format_rules ?l_format_rules ?k_format_rules ?p_format_rules ?a_number_in ?l_number_in ?k_number_in ?p_number_in ?a_rule_of ?l_rule_of ?k_rule_of ?p_rule_of ?a_parse_rules ?l_parse_rules ?k_parse_rules ?p_parse_rules ?a_law_begin ?l_law_begin ?k_law_begin ?p_law_begin ?a_law_take ?l_law_take ?k_law_take ?p_law_take ?a_law_pick ?l_law_pick ?k_law_pick ?p_law_pick ?a_law_octets ?l_law_octets ?k_law_octets ?p_law_octets ?a_law_test ?l_law_test ?k_law_test ?p_law_test ?a_law_rules ?l_law_rules ?k_law_rules ?p_law_rules ?a_law_numbers ?l_law_numbers ?k_law_numbers ?p_law_numbers ?a_law_holds ?l_law_holds ?k_law_holds ?p_law_holds ?a_law_decider ?l_law_decider ?k_law_decider ?p_law_decider ?a_law_action ?l_law_action ?k_law_action ?p_law_action ?a_law_code ?l_law_code ?k_law_code ?p_law_code ?a_law_read ?l_law_read ?k_law_read ?p_law_read ?a_law ?l_law ?k_law ?p_law ?z_super ?z_isinstance ?z_int ?z_bool ?z_len ?z_all ?z_tuple ?z_dict ?z_zip ?z_str ?z_range ?z_enumerate ?z_list ?z_abs ?gv_FIELDS ?gl_FIELDS ?gk_FIELDS ?gz_FIELDS ?gw_FIELDS ?gv_SIGNS ?gl_SIGNS ?gk_SIGNS ?gz_SIGNS ?gw_SIGNS ?gv_MOST_NUMBER ?gv_MOST_RULES ?gv_ACTIONS ?gl_ACTIONS ?gk_ACTIONS ?gz_ACTIONS ?gw_ACTIONS ?gv_MOST_TESTS ?gv_KINDS ?gl_KINDS ?gk_KINDS ?gz_KINDS ?gw_KINDS ?gv_MOST_DIGITS ?gv_DIGITS
    (case aC_InputError => k_is)
    (case aC_TextError => k_is)
    (case a_InputError_init => k_is)
    (case ti_InputError_init => k_is)
    (case l_InputError_init => k_is)
    (case k_InputError_init => k_is)
    (case co_InputError => k_is)
    (case cv_InputError => rfl)
    (case cf_InputError => decide +kernel)
    (case ce_InputError => k_is)
    (case xl_InputError => k_is)
    (case xr_InputError => decide +kernel)
    (case sa_InputError => k_is)
    (case eb_InputError => k_is)
    (case ty_InputError => k_is)
    (case kp_InputError => k_is)
    (case mr_InputError => first | rfl | k_is)
    (case tp_InputError => decide +kernel)
    (case oq_InputError => k_is)
    (case si_InputError => first | ks_is | k_is | decide +kernel)
    (case ve_InputError => k_is)
    (case ga_InputError => k_is)
    (case gg_InputError => k_is)
    (case hd_InputError => k_is)
    (case ic_InputError => k_is)
    (case sc_InputError => first | rfl | k_is)
    (case n_InputError_code => k_is)
    (case a_TextError_init => k_is)
    (case ti_TextError_init => k_is)
    (case l_TextError_init => k_is)
    (case k_TextError_init => k_is)
    (case co_TextError => k_is)
    (case cv_TextError => rfl)
    (case cf_TextError => decide +kernel)
    (case ce_TextError => k_is)
    (case xl_TextError => k_is)
    (case xr_TextError => decide +kernel)
    (case sa_TextError => k_is)
    (case eb_TextError => k_is)
    (case ty_TextError => k_is)
    (case kp_TextError => k_is)
    (case mr_TextError => first | rfl | k_is)
    (case tp_TextError => decide +kernel)
    (case oq_TextError => k_is)
    (case si_TextError => first | ks_is | k_is | decide +kernel)
    (case ve_TextError => k_is)
    (case ga_TextError => k_is)
    (case gg_TextError => k_is)
    (case hd_TextError => k_is)
    (case ic_TextError => k_is)
    (case sc_TextError => first | rfl | k_is)
    (case n_TextError_code => k_is)
    (case n_TextError_at => k_is)
    (case a_is_number => k_is)
    (case l_is_number => k_is)
    (case k_is_number => k_is)
    (case p_is_number => k_is)
    (case a_is_test => k_is)
    (case l_is_test => k_is)
    (case k_is_test => k_is)
    (case p_is_test => k_is)
    (case a_check_rules => k_is)
    (case l_check_rules => k_is)
    (case k_check_rules => k_is)
    (case p_check_rules => k_is)
    (case a_fields_of => k_is)
    (case l_fields_of => k_is)
    (case k_fields_of => k_is)
    (case p_fields_of => k_is)
    (case a_holds => k_is)
    (case l_holds => k_is)
    (case k_holds => k_is)
    (case p_holds => k_is)
    (case a_decide => k_is)
    (case l_decide => k_is)
    (case k_decide => k_is)
    (case p_decide => k_is)
    (case a_format_test => k_is)
    (case l_format_test => k_is)
    (case k_format_test => k_is)
    (case p_format_test => k_is)
    (case a_format_rules => k_is)
    (case l_format_rules => k_is)
    (case k_format_rules => k_is)
    (case p_format_rules => k_is)
    (case a_number_in => k_is)
    (case l_number_in => k_is)
    (case k_number_in => k_is)
    (case p_number_in => k_is)
    (case a_rule_of => k_is)
    (case l_rule_of => k_is)
    (case k_rule_of => k_is)
    (case p_rule_of => k_is)
    (case a_parse_rules => k_is)
    (case l_parse_rules => k_is)
    (case k_parse_rules => k_is)
    (case p_parse_rules => k_is)
    (case a_law_begin => k_is)
    (case l_law_begin => k_is)
    (case k_law_begin => k_is)
    (case p_law_begin => k_is)
    (case a_law_take => k_is)
    (case l_law_take => k_is)
    (case k_law_take => k_is)
    (case p_law_take => k_is)
    (case a_law_pick => k_is)
    (case l_law_pick => k_is)
    (case k_law_pick => k_is)
    (case p_law_pick => k_is)
    (case a_law_octets => k_is)
    (case l_law_octets => k_is)
    (case k_law_octets => k_is)
    (case p_law_octets => k_is)
    (case a_law_test => k_is)
    (case l_law_test => k_is)
    (case k_law_test => k_is)
    (case p_law_test => k_is)
    (case a_law_rules => k_is)
    (case l_law_rules => k_is)
    (case k_law_rules => k_is)
    (case p_law_rules => k_is)
    (case a_law_numbers => k_is)
    (case l_law_numbers => k_is)
    (case k_law_numbers => k_is)
    (case p_law_numbers => k_is)
    (case a_law_holds => k_is)
    (case l_law_holds => k_is)
    (case k_law_holds => k_is)
    (case p_law_holds => k_is)
    (case a_law_decider => k_is)
    (case l_law_decider => k_is)
    (case k_law_decider => k_is)
    (case p_law_decider => k_is)
    (case a_law_action => k_is)
    (case l_law_action => k_is)
    (case k_law_action => k_is)
    (case p_law_action => k_is)
    (case a_law_code => k_is)
    (case l_law_code => k_is)
    (case k_law_code => k_is)
    (case p_law_code => k_is)
    (case a_law_read => k_is)
    (case l_law_read => k_is)
    (case k_law_read => k_is)
    (case p_law_read => k_is)
    (case a_law => k_is)
    (case l_law => k_is)
    (case k_law => k_is)
    (case p_law => k_is)
    (case z_super => k_is)
    (case z_isinstance => k_is)
    (case z_int => k_is)
    (case z_bool => k_is)
    (case z_len => k_is)
    (case z_all => k_is)
    (case z_tuple => k_is)
    (case z_dict => k_is)
    (case z_zip => k_is)
    (case z_str => k_is)
    (case z_range => k_is)
    (case z_enumerate => k_is)
    (case z_list => k_is)
    (case z_abs => k_is)
    (case gv_FIELDS => k_is)
    (case gl_FIELDS => k_is)
    (case gk_FIELDS => rfl)
    (case gz_FIELDS => rw [sizeLine_eq]; decide +kernel)
    (case gw_FIELDS => exact (.cons ⟨_, rfl⟩ (.cons ⟨_, rfl⟩ (.cons ⟨_, rfl⟩ (.cons ⟨_, rfl⟩ (.cons ⟨_, rfl⟩ (.cons ⟨_, rfl⟩ (.cons ⟨_, rfl⟩ .nil))))))))
    (case gv_SIGNS => k_is)
    (case gl_SIGNS => k_is)
    (case gk_SIGNS => rfl)
    (case gz_SIGNS => rw [sizeLine_eq]; decide +kernel)
    (case gw_SIGNS => exact (.cons ⟨_, rfl⟩ (.cons ⟨_, rfl⟩ (.cons ⟨_, rfl⟩ .nil))))
    (case gv_MOST_NUMBER => k_is)
    (case gv_MOST_RULES => k_is)
    (case gv_ACTIONS => k_is)
    (case gl_ACTIONS => k_is)
    (case gk_ACTIONS => rfl)
    (case gz_ACTIONS => rw [sizeLine_eq]; decide +kernel)
    (case gw_ACTIONS => exact (.cons ⟨_, rfl⟩ (.cons ⟨_, rfl⟩ .nil)))
    (case gv_MOST_TESTS => k_is)
    (case gv_KINDS => k_is)
    (case gl_KINDS => k_is)
    (case gk_KINDS => rfl)
    (case gz_KINDS => rw [sizeLine_eq]; decide +kernel)
    (case gw_KINDS => exact (.cons ⟨_, rfl⟩ (.cons ⟨_, rfl⟩ (.cons ⟨_, rfl⟩ (.cons ⟨_, rfl⟩ .nil)))))
    (case gv_MOST_DIGITS => k_is)
    (case gv_DIGITS => k_is)
#print axioms PySem.Challenge.cw_everyoctetonce_k24_rules_holds

