import PyProof.Rows.All
import Wide.All
import OpenK.AllK
import Wide.FinOn
import HandS.ForMost
import HandS.Wide
import HandS.Walk
import HandS.TupAny
import HandS.Nested
import HandS.Codes
import HandS.ExcInit
import HandS.ExcField
import HandS.TryOnly
import HandS.WordsExc
import HandS.FStr
import HandS.IsInst
import HandS.More
import HandS.Style
import KE.KDictSum
import KE.KExcSuper
import KE.KIndexOf
import PyProof.StrOps2
import PySem.Challenge.RW_everyoctetonce_k03_packets
set_option Elab.async false
set_option linter.all false
set_option maxRecDepth 100000
set_option maxHeartbeats 2000000
set_option pp.maxSteps 250
namespace Eo03
open PySem L2
/-! ### an own exception's __init__ that begins with super().__init__(e) -/
namespace Sup
open PySem PySem.W PySem.Calls PyProof.Rows L2 NdefX
variable {CX : CXT} {P : Program} {w : World} {K : PySem.W.Frag} {mg : Str → Option Value} {base : Heap} {N ps : List Str} {f cc cda C : Addr} {k : Nat} {sp : Sp}
/-- what the written part says of the def, its cell, its class -/
structure SupTxt (P : Program) (K : PySem.W.Frag) (mg : Str → Option Value) (F : NF) (f cc C : Addr) (self0 : Str) : Prop where
  lk : ∃ oc od doc pm an ct osl, K.lookup f = some ⟨oc, od, .func (PySem.W.fnX F.name F.qual F.params F.body F.scope F.cl .none .none doc pm an (.ref F.c) ct), osl⟩
  cl : F.cl = [(("__class__" : Str), cc)]
  code : codeIn K (.ref F.c) F.qual = true
  cob : ∃ ccl cdd vs ccs file tf, K.lookup F.c = some ⟨ccl, cdd, .fields vs, ccs⟩ ∧ vs[2]? = some (.str file tf) ∧ ((P.main.file : Str) == file) = true
  cell : ∃ cl cld csl, K.lookup cc = some ⟨cl, cld, .cell (some (.ref C)), csl⟩
  T : OexC K C
  sub : mroIn K C (.ref C) = some true
  msup : mg "super" = none
  top : (P.main.scope.names.lookup ("super" : Str)).isSome = false
  opq : nsIn K cStatics "thirdparty.any" = some none
  init : ks_superIn K C C "__init__" = some (some (.builtin "ValueError.__init__"))
  ve : subIn K (.ref C) (.type "ValueError") = some true
  par : ∃ ar, (F.params.posonlyargs ++ F.params.args).head? = some ar ∧ ar.arg = self0
  ks : F.scope.names.lookup ("super" : Str) = some .globalImplicit
  boot : bootBuiltins "super" = some (.type "super")
theorem fn_super {F : NF} {self0 : Str} {ps' : List Str} {p0 p1 p2 p3 p4 : Pos} {e : Expr} {rest : List Stmt} (X : SupTxt P K mg F f cc C self0) (S : NScope N (self0 :: ps') ["__class__"] F.scope)
    (hb : F.body = .Expr (.Call (.Attribute (.Call (.Name "super" p0) [] [] p1) "__init__" p2) [e] [] p3) p4 :: rest)
    (len : ∀ vs H Q E, sp vs H Q E → vs.length = (self0 :: ps').length)
    (hbody : ∀ (A : Around) (outer : List Env) (s : Shared) (H : Hp) (vs : List V) (Q : VK) (E : XK), Room k (A.deeper (envF F f s.heap.objs.size)) → sp vs H Q E →
      ∃ a vr ta R, vs = .ref a :: vr ∧ H a = some (exo a C none) ∧ PA (ncx CX P w K mg base N F f A outer s H E) [e] ta ∧ ta (startF N vs [none]) H R ∧
        ∀ ws H1, R ws H1 → ws.length ≤ 1000 ∧ H1 a = some (exo a C none) ∧ ∃ t, PSs (ncx CX P w K mg base N F f A outer s H E) rest t ∧ t { nx := fun _ H' => Q .non H', rt := Q } (startF N vs [none]) H1)
    {pl : Sem Bool} (hev : ∀ L : Addr, eval (.Call (.Attribute (.Call (.Name "super" p0) [] [] p1) "__init__" p2) [e] [] p3) (envF F f L) = (do
      let ov ← attributeBase (.Call (.Name "super" p0) [] [] p1) "__init__" (envF F f L) (eval (.Call (.Name "super" p0) [] [] p1) (envF F f L))
      standAt p2.atName
      let (g, first) ← holding [ov] (getMethod ov "__init__" pl)
      callWith p3 g first (backTo p3 (starEach [e] (envF F f L))) []))
    (hsw : ∀ L : Addr, swapsWith (.Call (.Attribute (.Call (.Name "super" p0) [] [] p1) "__init__" p2) [e] [] p3) none p4.line (envF F f L) = pure false)
    (hst : ∀ L : Addr, starEach [e] (envF F f L) = (false, eval e (envF F f L)) :: starEach [] (envF F f L))
    {fd : FuncData} (hfd : ∃ oc od osl, K.lookup f = some ⟨oc, od, .func fd, osl⟩) :
    FnOk P w K mg base CX (k + 1) f fd (self0 :: ps') sp := by
  obtain ⟨oc, od, doc, pm, an, ct, osl, lk⟩ := X.lk
  obtain ⟨_, _, _, lk2⟩ := hfd
  rw [lk] at lk2
  cases lk2
  refine ⟨len, fun A outer s H args us vs Q E hr e0 hbd r hsp => ?_⟩
  have hl := len _ _ _ _ hsp
  have KX : K.In s.heap := e0.mod.kin.keeps fun b o e => (e0.bs b o e).1
  have lim : s.heap.NoLimit := e0.mod.nolimit.keeps fun b o e => (e0.bs b o e).1
  refine ks_codeAny_call_defAt (fd := PySem.W.fnX F.name F.qual F.params F.body F.scope F.cl .none .none doc pm an (.ref F.c) ct) (body := F.body) (binds := (self0 :: ps').zip us) hr.depth (KX _ _ lk) rfl lim (PySem.W.codeRec_of KX X.code) rfl hbd S.nocell (fun x hx => S.par x.1 (List.of_mem_zip hx).1) (fun h₁ hns kp => ?_) S.co S.gen S.kind
  show _root_.PySem.wpAt _ (A.deeper (envF F f s.heap.objs.size)) (.func F.body (envF F f s.heap.objs.size)) (execs F.body (envF F f s.heap.objs.size)) _ _ _
  obtain ⟨a, vr, ta, R, rfl, ea, ha, hta, hrest⟩ := hbody A outer s H vs Q E (hr.deeper _) hsp
  obtain ⟨cl, cld, csl, hcell⟩ := X.cell
  have Cs : CellsAt F.cl ["__class__"] [none] s.heap H := by
    have one : ∀ y c, F.cl.lookup y = some c → y = "__class__" ∧ c = cc := fun y c h => by
      rw [X.cl] at h
      by_cases z : y = "__class__"
      · subst z
        simp [List.lookup] at h
        exact ⟨rfl, h.symm⟩
      · have z' : (y == ("__class__" : Str)) = false := by simp [z]
        simp [List.lookup, z'] at h
    refine ⟨rfl, fun y c h => ?_, fun x y c h1 h2 => by rw [(one x c h1).1, (one y c h2).1], fun i y h => ?_⟩
    · obtain ⟨rfl, rfl⟩ := one y c h
      exact ⟨(e0.bs _ _ (e0.mod.kin _ _ hcell)).2, _, _, KX _ _ hcell, rfl⟩
    · cases i with
      | zero =>
        simp at h
        subst h
        refine ⟨cc, by rw [X.cl]; simp [List.lookup], fun v hv => ?_⟩
        simp at hv
      | succ i => simp at h
  have I : Inv (ncx CX P w K mg base N F f A outer s H E) [] (startF N (.ref a :: vr) [none]) H { s with heap := h₁, toks := s.toks + ((self0 :: ps').zip us).length } := inv_startN S hr.hd e0 hl r Cs hns kp
  have hx : execs F.body (envF F f s.heap.objs.size) = execs (.Expr (.Call (.Attribute (.Call (.Name "super" p0) [] [] p1) "__init__" p2) [e] [] p3) p4 :: rest) (envF F f s.heap.objs.size) := by rw [hb]
  rw [hx]
  have hint : interactive (envF F f s.heap.objs.size) = false := by
    unfold interactive
    simp [S.kind]
  refine ks_wpAt_execs_cons (ks_wpAt_Expr_any (ks_wpAt_MethodCall ?_ (hev _)) hint (hsw _))
  obtain ⟨ccl, cdd, fvs, ccs, file, tf, hcode, hvs, hfile⟩ := X.cob
  obtain ⟨ar, har, hself⟩ := X.par
  obtain ⟨nm, q, Nn, bs, bm, sn, sub, ab, col, dd, k0, k1, k2, k3, k5, hC, hbm⟩ := X.T.cls
  obtain ⟨mb, hb1, hb2⟩ := I.mod.blt
  obtain ⟨t1, ho⟩ := exo_at I.hok ea
  obtain ⟨u0, hu0, ru0⟩ := r.get (i := 0) (x := .ref a) rfl
  obtain rfl : u0 = Value.ref a := ru0
  have nd : (self0 :: ps').Nodup := by
    have z := S.nd.sublist (List.take_sublist ((self0 :: ps').length + (["__class__"] : List Str).length) N)
    rw [S.pre] at z
    exact (List.nodup_append.mp z).1
  have hv0 : ((self0 :: ps').zip us).reverse.lookup self0 = some (.ref a) := zip_look nd (i := 0) rfl hu0
  have X1 : K.In h₁ := KX.keeps kp
  have hcd : ∃ cd, clsIn K C = some cd ∧ ∃ oD, h₁.get? C = some oD ∧ oD.data = .cls cd := by
    refine ⟨_, by unfold clsIn; rw [hC], _, X1 _ _ hC, rfl⟩
  obtain ⟨cd, hclsIn, oD, hD1, hD2⟩ := hcd
  have hkc : F.scope.names.lookup ("__class__" : Str) = some .free := S.frk _ List.mem_cons_self
  refine ks_wpAt_super_base (env := envF F f s.heap.objs.size) (prog := P) X.ks hkc rfl rfl (X1 _ _ lk) rfl har rfl (X1 _ _ hcode) rfl hvs hfile X.top ?_
  refine ks_loadName_global S.kind X.ks (loadGlobal_builtin (env := envF F f s.heap.objs.size) (I.mod.glob.keeps I.bk) X.msup (hb1.keeps I.bk) ((hb2 "super" (by decide)).trans X.boot) ⟨rfl, ?_⟩)
  refine wpAny_loadName_free S.kind hkc (by show F.cl.lookup _ = some cc; rw [X.cl]; simp [List.lookup]) ⟨_, X1 _ _ hcell, rfl⟩ ?_
  refine wpAny_loadName_local S.kind (by show F.scope.names.lookup ar.arg = _; rw [hself]; exact S.par _ List.mem_cons_self) hns (by rw [hself]; exact hv0) ?_
  refine ks_wpAny_isType_cls hD1 hD2 ⟨rfl, ?_⟩
  refine ks_wpAny_call_super hD1 hD2 ho rfl (fun c z => by cases z) (looks_mroIn X1 X.sub) (fun h2 e2 k2' => ?_)
  have X2 : K.In h2 := X1.keeps k2'
  have ho2 := k2' _ _ ho
  have IA : InstAt h2 a { cls := .ref C, dict := none, data := .fields #[.ref t1, .none, .none, .none, .bool false, .none] } C none := ⟨ho2, rfl, rfl, trivial⟩
  have hal : alongIn K "__init__" ((cd.mro.dropWhile (· != .ref C)).drop 1) = some (some (.builtin "ValueError.__init__")) := by
    have z := X.init
    unfold ks_superIn at z
    rw [hclsIn] at z
    exact z
  refine kxs_getMethod kxs_ValueError e2 (looks_opaque X2 X.opq) (fun A Q E s k q => wpAny_bind ((looks_clsIn X2 hclsIn) A _ E s k (wpAny_pure q))) rfl X2 hal (IA.type.andThen (looks_subIn X2 X.ve)) (ks_ne X2 IA hclsIn) (by decide) ?_
  have kk : ∀ b o, h₁.get? b = some o → (h2.push (kxs_mw "ValueError.__init__" a)).get? b = some o := fun b o z => Heap.get?_push_of_some _ (k2' b o z)
  have hu : (h2.push (kxs_mw "ValueError.__init__" a)).get? h2.objs.size = some (kxs_mw "ValueError.__init__" a) := Heap.get?_push_at rfl rfl
  have hlt : h₁.objs.size ≤ h2.objs.size := Nat.le_of_lt (Heap.lt_size e2)
  have I3a := I.kept (h' := h2.push (kxs_mw "ValueError.__init__" a)) (t' := s.toks + ((self0 :: ps').zip us).length + 1) kk
  have hloc := I.lt
  have nu : H h2.objs.size = none := I.hok.fresh hlt
  have I3 : L2.Inv (ncx CX P w K mg base N F f A outer s H E) [(h2.objs.size, kxs_mw "ValueError.__init__" a)] (startF N (V.ref a :: vr) [none]) H _ := I3a.pins_of fun p hp => by
    rw [List.mem_singleton.mp hp]
    refine ⟨hu, nu, fun z => ?_, I.nofs hlt, fun v z => by cases z⟩
    have hloc' : s.heap.objs.size < h₁.objs.size := hloc
    have z' : h2.objs.size = s.heap.objs.size := z
    omega
  rw [hst]
  refine kxs_callWith (i := "ValueError.__init__") (x := a) rfl ?_
  refine evalArgs_plain (rest := backTo p3 (starEach [] (envF F f s.heap.objs.size))) ?_
  show wpAny _ _ (spliced (backTo p3 ((false, eval e (envF F f s.heap.objs.size)) :: starEach [] (envF F f s.heap.objs.size)))) _ _ _
  rw [← hst]
  refine wpAny_mono (ha.run p3 _ _ (startF N (V.ref a :: vr) [none]) H R I3 hta) (fun vs4 s4 h4 => ?_) fun _ _ z => z
  obtain ⟨ws, H4, I4, r4, q4⟩ := h4
  have hu4 : s4.heap.get? h2.objs.size = some (kxs_mw "ValueError.__init__" a) := (I4.pin _ (List.mem_append_right _ List.mem_cons_self)).1
  refine ⟨hu4, ?_⟩
  obtain ⟨hwl, ea4, t, hrun, hq⟩ := hrest ws H4 q4
  obtain ⟨t4, ho4⟩ := exo_at I4.hok ea4
  have hz4 : vs4.length ≤ sizeLine := by
    rw [← Paired.length r4, sizeLine_eq]
    omega
  obtain ⟨g4, gens4, d4, tk4, os4⟩ := s4
  have hC4 := (I4.kIn) _ _ hC
  refine wpAny_call (codeAny_of_tree ?_)
  show wpAny _ _ (callAny (.ref h2.objs.size) ⟨[] ++ vs4, []⟩) _ _ _
  simp only [callAny]
  refine wpAny_bind (wpAny_load hu4 ?_)
  simp only [kxs_mw, show (Value.type "method-wrapper" == Value.type "method" || Value.type "method-wrapper" == Value.type "builtin_function_or_method" || Value.type "method-wrapper" == Value.type "method-wrapper") = true by decide, if_true]
  refine KFB.if_so (by decide) ?_
  refine wpAny_bind (check_bound_init PySem.F.excBase_ValueError.toExcCallFacts hC4 ho4 rfl ?_)
  refine wpAny_bind (wpAny_pure (wpAny_pure ?_))
  refine ⟨plainId_quiet PySem.F.excBase_ValueError.init.plain _, codeAny_builtin PySem.F.excBase_ValueError.initEntry ?_⟩
  refine exc_init_tree (cls := .ref C) (t0 := t4) (dv := none) (c2 := .none) (c3 := .none) (b4 := .bool false) ho4 (by simpa using hz4) (fun h6 kp6 he6 ht6 => ?_)
  have J := I4.write (t' := tk4) (x := a) (e := a) (o := exo a C none) (by rw [ea4]; exact True.intro) (.inl rfl) kp6 ⟨_, he6⟩ (exo_ok he6)
  have eu : upd H4 a (exo a C none) = H4 := by
    funext b
    by_cases hb : b = a
    · rw [hb, upd_same, ea4]
    · rw [upd_ne hb]
  rw [eu] at J
  have I5 := J.pins_of (pins' := []) (fun p hp => by cases hp)
  show _root_.PySem.wpAt _ _ _ _ _ _ _
  refine PySem.wpAt_of_wpAny (wpAny_mono (hrun.run [] _ _ H4 _ I5 hq) (fun fl s' hs => ?_) fun e s' hs => hs)
  have fin : ∀ {σ' : L2.St} {H' : Hp} {v : V} {u : Value}, L2.Inv (ncx CX P w K mg base N F f A outer s H E) [] σ' H' s' → L2.RelV v u → Q v H' → CE outer P w H s Q u s' :=
    fun {σ' H' v u} J rv q => ⟨v, H', J.os, J.bare, J.base, J.hok, rv, q⟩
  cases fl with
  | ret u =>
    obtain ⟨v, σ', H', J, rv, q⟩ := hs
    exact fin J rv q
  | next =>
    obtain ⟨σ', H', J, q⟩ := hs
    exact fin (v := V.non) (u := Value.none) J rfl q
  | brk =>
    obtain ⟨_, _, _, q⟩ := hs
    exact False.elim q
  | cont =>
    obtain ⟨_, _, _, q⟩ := hs
    exact False.elim q
end Sup
/-- an error of the class at C is what «except» of it names -/
theorem exm_self {K : PySem.W.Frag} {C : Addr} (h1 : PySem.W.subIn K (.ref C) (.type "BaseException") = some true) (h2 : PySem.W.isClsIn K C = true) (h3 : PySem.W.typeIn K (.ref C) = some (.type "type")) (h4 : PySem.W.subIn K (.ref C) (.ref C) = some true) :
    PySem.W.exmOne K (.ref C) (.ref C) = some true := by
  have e1 : (PySem.W.subIn K (.ref C) (.type "BaseException") == some true) = true := by rw [h1]; rfl
  have e2 : ((PySem.W.clsIn K C).isSome && PySem.W.typeIn K (.ref C) == some (.type "type")) = true := by
    rw [show (PySem.W.clsIn K C).isSome = true from h2, h3]
    rfl
  show (if (PySem.W.subIn K (.ref C) (.type "BaseException") == some true) = true then (if ((PySem.W.clsIn K C).isSome && PySem.W.typeIn K (.ref C) == some (.type "type")) = true then PySem.W.subIn K (.ref C) (.ref C) else none) else none) = some true
  rw [if_pos e1, if_pos e2]
  exact h4
/-- an own exception's class x (def __init__ F at f, its cell at cc), parameters ps, made by super().__init__(..) and fields -/
structure ExcT (P : Program) (K : PySem.W.Frag) (mg : Str → Option Value) (F : NdefX.NF) (f cc C : Addr) (fd : FuncData) (x : Str) (ps : List Str) : Prop where
  S : Sup.SupTxt P K mg F f cc C "self"
  mg : mg x = some (.ref C)
  iC : PySem.W.findIn K (.ref C) "__init__" = some (some (.ref f))
  tI : PySem.W.typeIn K (.ref f) = some (.type "function")
  te : PySem.W.exmOne K (.ref C) (.ref C) = some true
  xf : XfC K C
  no_code : PySem.W.findIn K (.ref C) "code" = some none
  b : Binds K fd ps []
  hfd : ∃ oc od osl, K.lookup f = some ⟨oc, od, .func fd, osl⟩
/-! ### frames -/
def Imm : HO → Bool
  | .tup _ => true
  | .frz _ (.tup _) => true
  | _ => false
/-- all that stood stands, but at the addresses of A; what never changes stands anyway -/
structure Ext (A : List Addr) (H H' : Hp) : Prop where
  keep : ∀ b o, H b = some o → b ∉ A → H' b = some o
  imm : ∀ b o, H b = some o → Imm o = true → H' b = some o
theorem Ext.refl {A : List Addr} (H : Hp) : Ext A H H := ⟨fun _ _ h _ => h, fun _ _ h _ => h⟩
theorem Ext.trans {A B C : List Addr} {H H1 H2 : Hp} (e : Ext A H H1) (f : Ext B H1 H2) (hA : ∀ x ∈ A, x ∈ C) (hB : ∀ x ∈ B, (∃ o, H x = some o) → x ∈ C) : Ext C H H2 :=
  ⟨fun b o h n => f.keep b o (e.keep b o h fun z => n (hA b z)) fun z => n (hB b z ⟨o, h⟩), fun b o h i => f.imm b o (e.imm b o h i) i⟩
theorem Ext.mono {A B : List Addr} {H H1 : Hp} (e : Ext A H H1) (h : ∀ x ∈ A, x ∈ B) : Ext B H H1 := ⟨fun b o q n => e.keep b o q fun z => n (h b z), e.imm⟩
theorem Ext.new {H : Hp} {p : Addr} {o : HO} (h : H p = none) : Ext [] H (upd H p o) :=
  ⟨fun b u e _ => by rw [upd_ne (ne_of_none e h)]; exact e, fun b u e _ => by rw [upd_ne (ne_of_none e h)]; exact e⟩
theorem Ext.wr {H : Hp} {p : Addr} {o u : HO} (h : H p = some o) (n : Imm o = false) : Ext [p] H (upd H p u) :=
  ⟨fun b v e z => by rw [upd_ne (fun q => z (by rw [q]; exact List.mem_singleton.mpr rfl))]; exact e, fun b v e i => by
    rw [upd_ne (fun q => by subst q; rw [h] at e; cases e; rw [n] at i; cases i)]; exact e⟩
theorem Ext.free {A : List Addr} {H H' : Hp} {p : Addr} (e : Ext A H H') (h : H' p = none) (n : p ∉ A) : H p = none := by
  cases q : H p with
  | none => rfl
  | some o => rw [e.keep p o q n] at h; cases h
theorem Ext.snoc {A C : List Addr} {H H1 H2 : Hp} (f : Ext A H1 H2) (e : Ext C H H1) (hA : ∀ x ∈ A, (∃ o, H x = some o) → x ∈ C) : Ext C H H2 := e.trans f (fun _ h => h) hA
theorem sub0 {H : Hp} {C : List Addr} : ∀ x ∈ ([] : List Addr), (∃ o, H x = some o) → x ∈ C := fun _ h => by cases h
theorem sub1 {H : Hp} {C : List Addr} {a : Addr} (m : a ∈ C) : ∀ x ∈ [a], (∃ o, H x = some o) → x ∈ C := fun x h _ => by rw [List.mem_singleton.mp h]; exact m
theorem sub1f {H : Hp} {C : List Addr} {a : Addr} (m : H a = none) : ∀ x ∈ [a], (∃ o, H x = some o) → x ∈ C := fun x h ⟨o, e⟩ => by rw [List.mem_singleton.mp h, m] at e; cases e
theorem subC {H : Hp} {C A : List Addr} {a : Addr} (m : a ∈ C) (r : ∀ x ∈ A, (∃ o, H x = some o) → x ∈ C) : ∀ x ∈ a :: A, (∃ o, H x = some o) → x ∈ C := fun x h z => by
  rcases List.mem_cons.mp h with q | q
  · rw [q]; exact m
  · exact r x q z
theorem subCf {H : Hp} {C A : List Addr} {a : Addr} (m : H a = none) (r : ∀ x ∈ A, (∃ o, H x = some o) → x ∈ C) : ∀ x ∈ a :: A, (∃ o, H x = some o) → x ∈ C := fun x h z => by
  rcases List.mem_cons.mp h with q | q
  · obtain ⟨o, e⟩ := z
    rw [q, m] at e; cases e
  · exact r x q z
theorem nin0 {b : Addr} : b ∉ ([] : List Addr) := List.not_mem_nil
theorem nin1 {b x : Addr} (h : b ≠ x) : b ∉ [x] := fun z => h (List.mem_singleton.mp z)
theorem ninC {b x : Addr} {A : List Addr} (h : b ≠ x) (g : b ∉ A) : b ∉ (x :: A) := fun z => (List.mem_cons.mp z).elim h g
theorem Rd.ext {A : List Addr} {H H' : Hp} {a : Addr} {u : HO} (e : Ext A H H') (h : Rd H a u) (n : a ∉ A) : Rd H' a u := by
  rcases h with h | ⟨o, h⟩
  · exact .inl (e.keep _ _ h n)
  · exact .inr ⟨o, e.keep _ _ h n⟩
theorem sqT_ext {K : PySem.W.Frag} {A : List Addr} {H H' : Hp} {a : Addr} {xs : List V} (e : Ext A H H') (h : SqT K H a xs) : SqT K H' a xs := by
  rcases h with (h | ⟨o, h⟩) | h
  · exact .inl (.inl (e.imm _ _ h rfl))
  · exact .inl (.inr ⟨o, e.imm _ _ h rfl⟩)
  · exact .inr h
theorem sqL_ext {K : PySem.W.Frag} {A : List Addr} {H H' : Hp} {a : Addr} {xs : List V} (e : Ext A H H') (h : SqL K H a xs) (n : ∀ o, H a = some o → a ∉ A) : SqL K H' a xs := by
  rcases h with (h | ⟨o, h⟩) | h
  · exact .inl (.inl (e.keep _ _ h (n _ h)))
  · exact .inl (.inr ⟨o, e.keep _ _ h (n _ h)⟩)
  · exact .inr h
theorem sqT_cast {K : PySem.W.Frag} {H : Hp} {a : Addr} {xs ys : List V} (h : SqT K H a xs) (e : xs = ys) : SqT K H a ys := e ▸ h
theorem sqL_ext0 {K : PySem.W.Frag} {H H' : Hp} {a : Addr} {xs : List V} (e : Ext [] H H') (h : SqL K H a xs) : SqL K H' a xs := sqL_ext e h fun _ _ => nin0
/-- a new object o, its place any free one -/
def NewO (H : Hp) (o : HO) (R : Addr → Hp → Prop) : Prop := ∀ p H', H p = none → Ext [] H H' → H' p = some o → R p H'
theorem NewO.raw {H : Hp} {o : HO} {R : Addr → Hp → Prop} (h : NewO H o R) : ∀ p, H p = none → R p (upd H p o) := fun p hp => h p _ hp (Ext.new hp) upd_same
/-- a reading's end, weakened -/
def stA (t : TA) : TA := fun σ H Q => ∃ R : List V → Hp → Prop, t σ H R ∧ ∀ xs H', R xs H' → Q xs H'
def stE (t : TE) : TE := fun σ H Q => ∃ R : V → Hp → Prop, t σ H R ∧ ∀ x H', R x H' → Q x H'
theorem PA.star {X : Cx} {es : List Expr} {t : TA} (h : PA X es t) : PA X es (stA t) := by
  constructor
  rintro pos pn st sl hp R J ⟨R1, a, b⟩
  apply thn (h.run pos pn st sl hp R1 J a)
  rintro us s1 ⟨vs, H1, J1, rv, q⟩
  exact ⟨vs, H1, J1, rv, b _ _ q⟩
theorem PE.star {X : Cx} {e : Expr} {t : TE} (h : PE X e t) : PE X e (stE t) := by
  constructor
  rintro pn st sl hp R J ⟨R1, a, b⟩
  apply thn (h.run pn st sl hp R1 J a)
  rintro u s1 ⟨v, H1, J1, rv, q⟩
  exact ⟨v, H1, J1, rv, b _ _ q⟩
def stG (g : TG) : TG := fun v σ H Q => ∃ R : L2.St → Hp → Prop, g v σ H R ∧ ∀ a b, R a b → Q a b
def stT (t : TT) : TT := fun σ H Q => ∃ R : Bool → Hp → Prop, t σ H R ∧ ∀ a b, R a b → Q a b
theorem PG.star {X : Cx} {e : Expr} {g : TG} (h : PG X e g) : PG X e (stG g) := by
  constructor
  rintro pn st sl hp v u Q J rv ⟨R, a, b⟩
  apply thn (h.run pn st sl hp v u R J rv a)
  rintro _ s1 ⟨sl1, H1, J1, q⟩
  exact ⟨sl1, H1, J1, b _ _ q⟩
theorem PTs.star {X : Cx} {ifs : List Expr} {t : TT} (h : PTs X ifs t) : PTs X ifs (stT t) := by
  constructor
  rintro pn st sl hp Q J ⟨R, a, b⟩
  apply thn (h.run pn st sl hp R J a)
  rintro c s1 ⟨H1, J1, q⟩
  exact ⟨H1, J1, b _ _ q⟩
theorem stE.mono {t : TE} {σ : L2.St} {H : Hp} {Q R : V → Hp → Prop} (h : stE t σ H Q) (w : ∀ a b, Q a b → R a b) : stE t σ H R := let ⟨S, a, b⟩ := h; ⟨S, a, fun x y z => w _ _ (b x y z)⟩
theorem stG.mono {t : TG} {v : V} {σ : L2.St} {H : Hp} {Q R : L2.St → Hp → Prop} (h : stG t v σ H Q) (w : ∀ a b, Q a b → R a b) : stG t v σ H R := let ⟨S, a, b⟩ := h; ⟨S, a, fun x y z => w _ _ (b x y z)⟩
theorem stT.mono {t : TT} {σ : L2.St} {H : Hp} {Q R : Bool → Hp → Prop} (h : stT t σ H Q) (w : ∀ a b, Q a b → R a b) : stT t σ H R := let ⟨S, a, b⟩ := h; ⟨S, a, fun x y z => w _ _ (b x y z)⟩
/-- what a loop over J asks; what a list comprehension over J asks -/
def ForGoal (J : It) (g : TG) (tb : TS) (D : Ends) (σ : L2.St) (H : Hp) : Prop := ∃ W : Nat → Nat → L2.St → Hp → Prop, (∃ m, W 0 m σ H) ∧ ∀ i m σ H, W i m σ H →
  (J.stop i H ∧ D.nx σ H) ∨ (J.go i H ∧ ∃ N : L2.St → Hp → Prop, (∀ σ' H', N σ' H' → ∃ m', m' < m ∧ W (i + 1) m' σ' H') ∧ ∀ x H', J.yld i H x H' → g x σ H' fun σ2 H2 => tb { D with nx := N, ct := N, bk := D.nx } σ2 H2)
def LcGoal (J : It) (g : TG) (tt : TT) (te : TE) (vs : List Nat) (σ : L2.St) (H1 : Hp) (Q : VK) : Prop := ∀ D, H1 D = none → ∃ W : Nat → Nat → Hp → Prop, (∃ m, W 0 m (upd H1 D (.lst []))) ∧ ∀ i m H, W i m H →
  (J.stop i H ∧ Q (.ref D) H) ∨ (J.go i H ∧ ∃ Nx : Hp → Prop, (∀ H', Nx H' → ∃ m', m' < m ∧ W (i + 1) m' H') ∧ ∀ x H', J.yld i H x H' → g x (wipe σ vs) H' fun σ2 H2 => wipe σ2 vs = wipe σ vs ∧ tt σ2 H2 fun b H3 =>
    if b = true then te σ2 H3 fun y H4 => ∃ acc, H4 D = some (.lst acc) ∧ acc.length < sizeLine ∧ Nx (upd H4 D (.lst (acc ++ [y]))) else Nx H3)
theorem g_forW {J : It} {n : Nat} {G : Hp → Prop} {Y : Nat → Hp → V → Hp → Prop} (w : Walk J n G Y) {g : TG} {tb : TS} {D : Ends} {σ : L2.St} {H : Hp} (Pv : Nat → L2.St → Hp → Prop) (h0 : Pv 0 σ H) (hG : ∀ i σ H, i ≤ n → Pv i σ H → G H)
    (hs : ∀ i x σ H H', i < n → Pv i σ H → Y i H x H' → g x σ H' fun σ2 H2 => tb { D with nx := Pv (i + 1), ct := Pv (i + 1), bk := D.nx } σ2 H2) (hd : ∀ σ H, Pv n σ H → D.nx σ H) : ForGoal J g tb D σ H := for_it w Pv h0 hG hs hd
theorem g_lcW {J : It} {n : Nat} {G : Hp → Prop} {Y : Nat → Hp → V → Hp → Prop} (w : Walk J n G Y) {g : TG} {tt : TT} {te : TE} {vs : List Nat} {σ : L2.St} {H1 : Hp} {Q : VK} (Pv : Addr → Nat → Hp → List V → Prop)
    (h0 : ∀ D H', H1 D = none → Ext [] H1 H' → H' D = some (.lst []) → Pv D 0 H' []) (hG : ∀ D i H acc, i ≤ n → Pv D i H acc → G H)
    (hs : ∀ D i x H H' acc, i < n → Pv D i H acc → H D = some (.lst acc) → Y i H x H' → stG g x (wipe σ vs) H' fun σ2 H2 => wipe σ2 vs = wipe σ vs ∧ stT tt σ2 H2 fun b H3 =>
      if b = true then stE te σ2 H3 fun y H4 => H4 D = some (.lst acc) ∧ acc.length < sizeLine ∧ ∀ H5, Ext [D] H4 H5 → H5 D = some (.lst (acc ++ [y])) → Pv D (i + 1) H5 (acc ++ [y]) else Pv D (i + 1) H3 acc ∧ H3 D = some (.lst acc))
    (hd : ∀ D H acc, Pv D n H acc → H D = some (.lst acc) → Q (.ref D) H) : LcGoal J (stG g) (stT tt) (stE te) vs σ H1 Q := by
  intro D hD
  apply lc_it w (fun i H => ∃ acc, Pv D i H acc ∧ H D = some (.lst acc))
  · exact ⟨[], h0 D _ hD (Ext.new hD) upd_same, upd_same⟩
  · rintro i H hi ⟨acc, p, _⟩
    exact hG D i H acc hi p
  · rintro i x H H' hi ⟨acc, p, e⟩ y
    refine (hs D i x H H' acc hi p e y).mono fun σ2 H2 ⟨q1, q2⟩ => ⟨q1, q2.mono fun b H3 q3 => ?_⟩
    cases b with
    | true => exact stE.mono q3 fun z H4 ⟨a1, a2, a3⟩ => ⟨acc, a1, a2, acc ++ [z], a3 _ (Ext.wr a1 rfl) upd_same, upd_same⟩
    | false => exact ⟨acc, q3.1, q3.2⟩
  · rintro H ⟨acc, p, e⟩
    exact hd D H acc p e
theorem PE.weak {X : Cx} {e : Expr} {t t' : TE} (h : PE X e t) (w : ∀ σ H Q, t' σ H Q → t σ H Q) : PE X e t' := ⟨fun pn st sl hp R J a => h.run pn st sl hp R J (w _ _ _ a)⟩
theorem PS.weak {X : Cx} {e : Stmt} {t t' : TS} (h : PS X e t) (w : ∀ D σ H, t' D σ H → t D σ H) : PS X e t' := ⟨fun pn st sl hp R J a => h.run pn st sl hp R J (w _ _ _ a)⟩
/-- a statement that ends in J, whence the rest goes on -/
def tJoin (t u : TS) : TS := fun D σ H => ∃ J : L2.St → Hp → Prop, t { D with nx := J } σ H ∧ ∀ σ' H', J σ' H' → u D σ' H'
theorem pss_join {X : Cx} {st : Stmt} {rest : List Stmt} {t u : TS} (h1 : PS X st t) (h2 : PSs X rest u) : PSs X (st :: rest) (tJoin t u) := by
  constructor
  rintro pn s0 sl hp D J ⟨R, a, b⟩
  apply wpAny_execs_cons
  apply thn (h1.run pn s0 sl hp { D with nx := R } J a)
  intro f s1 q
  cases f with
  | next =>
    obtain ⟨sl2, hp2, J2, r⟩ := q
    exact h2.run pn s1 sl2 hp2 D J2 (b _ _ r)
  | ret v => exact q
  | brk => exact q
  | cont => exact q
/-! ### facts of the top -/
structure GF (K : PySem.W.Frag) (mg : Str → Option Value) (x : Str) (st : Stmt) (ps : List Str) (f : Addr) (fd : FuncData) : Prop where
  F : Fun K x x st f fd
  mg : mg x = some (.ref f)
  kp : PySem.W.keepIn K (.ref f) = true
  b : Binds K fd ps []
structure MF (K : PySem.W.Frag) (x q : Str) (st : Stmt) (ps : List Str) (C f : Addr) (fd : FuncData) : Prop where
  F : Fun K x q st f fd
  me : Meth K C x f
  b : Binds K fd ps []
def NA (K : PySem.W.Frag) (C : Addr) (ats : List Str) : Prop := ∀ x ∈ ats, NoAttr K C x
theorem na_of {K : PySem.W.Frag} {C : Addr} {ats : List Str} {f : Str} (h : NA K C ats) (m : f ∈ ats) : NoAttr K C f := h f m
structure CF (K : PySem.W.Frag) (mg : Str → Option Value) (x : Str) (ats : List Str) (C fi : Addr) : Prop where
  mg : mg x = some (.ref C)
  cl : Cls K C
  make : Mk K C fi
  na : NA K C ats
def GV (K : PySem.W.Frag) (mg : Str → Option Value) (x : Str) (v : V) : Prop := ∃ u, mg x = some u ∧ RelV v u
/-! ### rules that take several kinds of values -/
section
variable {X : Cx}
theorem pe_g {x : Str} {v : V} {pos : Pos} (hg : Gl X x) (h : GV X.K X.mg x v) (hd : (x == ("__debug__" : Str)) = false := by decide) : PE X (.Name x pos) (tC v) := by
  obtain ⟨u, h1, h2⟩ := h
  exact pe_glob hg h1 h2 hd
theorem OpR.or {f : Value → Value → Sem Value} {r r' : R2} (h : OpR X f r) (h' : OpR X f r') : OpR X f (fun x y H Q => r x y H Q ∨ r' x y H Q) := by
  intro pins s σ H x y v u Q I rx ry q
  rcases q with q | q
  · exact h pins s σ H x y v u Q I rx ry q
  · exact h' pins s σ H x y v u Q I rx ry q
/-- + of ints, texts, tuples, lists -/
def rAddX (K : PySem.W.Frag) : R2 := fun x y H Q => match x, y with
  | .int i, .int j => Q (.int (i + j)) H
  | .int i, .bl k => Q (.int (i + PyProof.Rows.b2i k)) H
  | .str i, .str j => i.length + j.length ≤ sizeLine ∧ Q (.str (i ++ j)) H
  | .ref a, .ref b => (∃ xs ys, SqT K H a xs ∧ SqT K H b ys ∧ xs.length + ys.length ≤ sizeLine ∧ ∀ c H', Ext [] H H' → SqT K H' c (xs ++ ys) → Q (.ref c) H') ∨
      ∃ xs ys, H a = some (.lst xs) ∧ H b = some (.lst ys) ∧ xs.length + ys.length ≤ sizeLine ∧ NewO H (.lst (xs ++ ys)) fun p H' => Q (.ref p) H'
  | _, _ => False
theorem o_add : OpR X (binaryOp .Add) (rAddX X.K) := by
  intro pins s σ H x y v u Q I rx ry h
  unfold rAddX at h
  split at h
  · exact op_add pins s σ H _ _ v u Q I rx ry ⟨_, _, rfl, rfl, h⟩
  · exact op_add_ib pins s σ H _ _ v u Q I rx ry ⟨_, _, rfl, rfl, h⟩
  · exact op_add_str pins s σ H _ _ v u Q I rx ry ⟨_, _, rfl, rfl, h.1, h.2⟩
  · rcases h with ⟨xs, ys, h1, h2, hz, q⟩ | ⟨xs, ys, h1, h2, hz, q⟩
    · refine op_catA pins s σ H _ _ v u Q I rx ry ⟨_, _, xs, ys, rfl, rfl, h1, h2, hz, fun e => ?_, fun _ e => ?_, fun _ _ p hp => ?_⟩
      · subst e; exact q _ _ (Ext.refl H) h2
      · subst e; exact q _ _ (Ext.refl H) (by rw [List.append_nil]; exact h1)
      · exact q _ _ (Ext.new hp) (SqT.of upd_same)
    · exact op_cat pins s σ H _ _ v u Q I rx ry ⟨_, _, xs, ys, rfl, rfl, h1, h2, hz, q.raw⟩
  · exact h.elim
/-- slices of tuples, lists, texts -/
def rSlX (K : PySem.W.Frag) : V → Option Int → Option Int → Hp → VK → Prop := fun x lo hi H Q => match x with
  | .ref a => (∃ xs, SqT K H a xs ∧ ∀ c H', Ext [] H H' → SqT K H' c (cutV xs lo hi) → Q (.ref c) H') ∨ ∃ xs, SqL K H a xs ∧ NewO H (.lst (cutV xs lo hi)) fun p H' => Q (.ref p) H'
  | .str z => z.length ≤ sizeLine ∧ Q (.str (cutS z lo hi)) H
  | _ => False
theorem cutV_whole {xs : List V} {lo hi : Option Int} (h : HT.sIx xs.length 0 lo = 0 ∧ HT.sIx xs.length xs.length hi = xs.length) : cutV xs lo hi = xs := by
  unfold cutV
  rw [h.1, h.2, List.drop_zero, Nat.sub_zero, List.take_length]
theorem o_sl : SlR X (rSlX X.K) := by
  intro pins s σ H x v vl vu lo hi sl Q I rx hs pl pu h
  unfold rSlX at h
  split at h
  · rcases h with ⟨xs, h1, q⟩ | ⟨xs, h1, q⟩
    · refine sl_tupA pins s σ H _ v vl vu lo hi sl Q I rx hs pl pu ⟨_, xs, rfl, h1, fun e => ?_, fun _ p hp => ?_⟩
      · exact q _ _ (Ext.refl H) (by rw [cutV_whole e]; exact h1)
      · exact q _ _ (Ext.new hp) (SqT.of upd_same)
    · exact sl_list pins s σ H _ v vl vu lo hi sl Q I rx hs pl pu ⟨_, xs, rfl, h1, q.raw⟩
  · exact sl_str pins s σ H _ v vl vu lo hi sl Q I rx hs pl pu ⟨_, rfl, h.1, h.2⟩
  · exact h.elim
theorem CMul.left {i j : Int} (h : -(2 ^ 64) < i ∧ i < 2 ^ 64) : CMul i j := .inl h
theorem CMul.right {i j : Int} (h : -(2 ^ 64) < j ∧ j < 2 ^ 64) : CMul i j := .inr h
def rMulX : R2 := fun x y H Q => match x, y with
  | .int i, .int j => CMul i j ∧ Q (.int (i * j)) H
  | _, _ => rRep x y H Q
theorem o_mul : OpR X (binaryOp .Mult) rMulX := by
  intro pins s σ H x y v u Q I rx ry h
  unfold rMulX at h
  split at h
  · exact op_mul pins s σ H _ _ v u Q I rx ry ⟨_, _, rfl, rfl, h.1, h.2⟩
  · exact op_rep pins s σ H _ _ v u Q I rx ry h
def rEqX (K : PySem.W.Frag) : R2 := fun x y H Q => rEq x y H Q ∨ rEqD K x y H Q
def rNeX (K : PySem.W.Frag) : R2 := fun x y H Q => rNe x y H Q ∨ rNeD K x y H Q
theorem o_eq (hu : X.A.units + 64 < cLine) : OpR X (compareOp .Eq) (rEqX X.K) := OpR.or op_eq (op_eqD hu)
theorem o_ne (hu : X.A.units + 64 < cLine) : OpR X (compareOp .NotEq) (rNeX X.K) := OpR.or op_ne (op_neD hu)
def rInt1 : List V → Hp → VK → Prop := fun xs H Q => match xs with
  | [.int i] => Q (.int i) H
  | [.bl k] => Q (.int (if k then 1 else 0)) H
  | _ => False
theorem o_int : CallR X (.type "int") rInt1 := by
  intro pins s σ H xs us Q I r h
  unfold rInt1 at h
  split at h
  · exact call_int1 pins s σ H _ us Q I r (.inl ⟨_, rfl, h⟩)
  · exact call_int1 pins s σ H _ us Q I r (.inr ⟨_, rfl, h⟩)
  · exact h.elim
def rMin2 : List V → Hp → VK → Prop := fun xs H Q => match xs with
  | [.int i, .int j] => Q (.int (min i j)) H
  | _ => False
def rMax2 : List V → Hp → VK → Prop := fun xs H Q => match xs with
  | [.int i, .int j] => Q (.int (max i j)) H
  | _ => False
theorem o_min (hc : X.calm = true) : CallR X (.builtin "min") rMin2 := by
  intro pins s σ H xs us Q I r h
  unfold rMin2 at h
  split at h
  · rename_i i j
    refine call_min2 hc pins s σ H _ us Q I r ⟨_, _, rfl, ?_⟩
    have e : (if j < i then j else i) = min i j := by split <;> omega
    rw [e]; exact h
  · exact h.elim
theorem o_max (hc : X.calm = true) : CallR X (.builtin "max") rMax2 := by
  intro pins s σ H xs us Q I r h
  unfold rMax2 at h
  split at h
  · rename_i i j
    refine call_max2 hc pins s σ H _ us Q I r ⟨_, _, rfl, ?_⟩
    have e : (if j > i then j else i) = max i j := by split <;> omega
    rw [e]; exact h
  · exact h.elim
def rAbs : List V → Hp → VK → Prop := fun xs H Q => match xs with
  | [.int i] => Q (.int (i.natAbs : Int)) H
  | _ => False
theorem o_abs : CallR X (.builtin "abs") rAbs := by
  intro pins s σ H xs us Q I r h
  unfold rAbs at h
  split at h
  · rename_i i
    refine call_abs pins s σ H _ us Q I r ⟨_, rfl, ?_⟩
    have e : (if i < 0 then -i else i) = (i.natAbs : Int) := by split <;> omega
    rw [e]; exact h
  · exact h.elim
def tTupX (t : TA) : TE := fun σ H Q => t σ H fun xs H1 => xs.length ≤ sizeLine ∧ NewO H1 (.tup xs) fun p H' => Q (.ref p) H'
def tLstX (t : TA) : TE := fun σ H Q => t σ H fun xs H1 => xs.length ≤ sizeLine ∧ NewO H1 (.lst xs) fun p H' => Q (.ref p) H'
theorem pe_tupX {es : List Expr} {t : TA} {k : Nat} {pos : Pos} (h : PA X es t) : PE X (.Tuple es k pos) (tTupX t) :=
  PE.weak (pe_tup (PA.star h)) fun _ _ _ q => ⟨_, q, fun _ _ ⟨l, n⟩ => ⟨l, n.raw⟩⟩
theorem pe_lstX {es : List Expr} {t : TA} {pos : Pos} (h : PA X es t) : PE X (.List es pos) (tLstX t) :=
  PE.weak (pe_lst (PA.star h)) fun _ _ _ q => ⟨_, q, fun _ _ ⟨l, n⟩ => ⟨l, n.raw⟩⟩
def rLenX (K : PySem.W.Frag) : List V → Hp → VK → Prop := fun xs H Q => match xs with
  | [.ref a] => (∃ ys, (SqL K H a ys ∨ SqT K H a ys) ∧ Q (.int ys.length) H) ∨ ∃ kvs, H a = some (.dK kvs) ∧ Q (.int kvs.length) H
  | [.str z] => z.length ≤ sizeLine ∧ Q (.int z.length) H
  | _ => False
theorem o_len : CallR X (.builtin "len") (rLenX X.K) := by
  intro pins s σ H xs us Q I r h
  unfold rLenX at h
  split at h
  · rcases h with ⟨ys, e, q⟩ | ⟨kvs, e, q⟩
    · exact call_len_seq pins s σ H _ us Q I r ⟨_, ys, rfl, e, q⟩
    · exact call_lenD pins s σ H _ us Q I r ⟨_, kvs, rfl, e, q⟩
  · exact call_len_str pins s σ H _ us Q I r ⟨_, rfl, h.1, h.2⟩
  · exact h.elim
def rListX (K : PySem.W.Frag) : List V → Hp → VK → Prop := fun xs H Q => match xs with
  | [.ref a] => ∃ ys, (SqL K H a ys ∨ SqT K H a ys) ∧ NewO H (.lst ys) fun p H' => Q (.ref p) H'
  | _ => False
theorem o_list : CallR X (.type "list") (rListX X.K) := by
  intro pins s σ H xs us Q I r h
  unfold rListX at h
  split at h
  · obtain ⟨ys, e, q⟩ := h
    exact call_list_of pins s σ H _ us Q I r ⟨_, ys, rfl, e, q.raw⟩
  · exact h.elim
def rTupX (K : PySem.W.Frag) : List V → Hp → VK → Prop := fun xs H Q => match xs with
  | [.ref a] => (∃ ys, SqL K H a ys ∧ NewO H (.tup ys) fun p H' => Q (.ref p) H') ∨ ∃ ys, SqT K H a ys ∧ Q (.ref a) H
  | _ => False
theorem o_tuple : CallR X (.type "tuple") (rTupX X.K) := by
  intro pins s σ H xs us Q I r h
  unfold rTupX at h
  split at h
  · rcases h with ⟨ys, e, q⟩ | ⟨ys, e, q⟩
    · exact call_tuple_of pins s σ H _ us Q I r ⟨_, ys, rfl, .inl ⟨e, q.raw⟩⟩
    · exact call_tuple_of pins s σ H _ us Q I r ⟨_, ys, rfl, .inr ⟨e, q⟩⟩
  · exact h.elim
theorem kkTup {K : PySem.W.Frag} {e : Expr} {n : Nat} {t : TGs} (h : X.K = K) (c : PG X e (gTup X.K n t)) : PG X e (gTup K n t) := h ▸ c
theorem kkCallR {K : PySem.W.Frag} {v : Value} {r : PySem.W.Frag → List V → Hp → VK → Prop} (h : X.K = K) (c : CallR X v (r X.K)) : CallR X v (r K) := h ▸ c
theorem kkOpR {K : PySem.W.Frag} {f : Value → Value → Sem Value} {r : PySem.W.Frag → R2} (h : X.K = K) (c : OpR X f (r X.K)) : OpR X f (r K) := h ▸ c
theorem kkIxR {K : PySem.W.Frag} {r : PySem.W.Frag → R2} (h : X.K = K) (c : IxR X (r X.K)) : IxR X (r K) := h ▸ c
theorem kkSlR {K : PySem.W.Frag} {r : PySem.W.Frag → V → Option Int → Option Int → Hp → VK → Prop} (h : X.K = K) (c : SlR X (r X.K)) : SlR X (r K) := h ▸ c
theorem iop_catT : OpR X (inplaceOp .Add) (fun _ _ _ _ => False) := fun _ _ _ _ _ _ _ _ _ _ _ _ h => h.elim
def rIAddX : R2 := fun x y H Q => match x, y with
  | .int i, .int j => Q (.int (i + j)) H
  | .str i, .str j => i.length + j.length ≤ sizeLine ∧ Q (.str (i ++ j)) H
  | _, _ => False
theorem o_iadd : PIp X .Add rIAddX := by
  intro pins s σ H x y v u Q I rx ry h
  unfold rIAddX at h
  split at h
  · exact iop_add pins s σ H _ _ v u Q I rx ry ⟨_, _, rfl, rfl, h⟩
  · exact iop_add_str pins s σ H _ _ v u Q I rx ry ⟨_, _, rfl, rfl, h.1, h.2⟩
  · exact h.elim
theorem o_inadd : InOp X .Add rIAddX := fun pins s σ H x y u v Q I rx ry h => o_iadd pins s σ H x y u v Q I rx ry h
end
/-- C(..): as tMake, the new heap by what is known of it -/
def tMakeX (C : Addr) (sp : Sp) (dvs : List V) (E : XK) (t : TA) : TE := fun σ H Q => t σ H fun vs H1 => ∀ x dx H', H1 x = none → Ext [] H1 H' → H' x = some (.ins C dx []) →
  sp (.ref x :: (vs ++ dvs)) H' (fun v H2 => v = .non ∧ Q (.ref x) H2) E
theorem Ext.made {H : Hp} {x dx C : Addr} (h1 : H x = none) (h2 : H dx = none) : Ext [] H (upd (upd H dx (.own x)) x (.ins C dx [])) :=
  ⟨fun b o e _ => by rw [upd_ne (ne_of_none e h1), upd_ne (ne_of_none e h2)]; exact e, fun b o e _ => by rw [upd_ne (ne_of_none e h1), upd_ne (ne_of_none e h2)]; exact e⟩
section
variable {X : Cx} {CX : CXT} {k : Nat} {f C : Addr} {fd : FuncData} {ps : List Str} {sp : Sp} {dvs : List V} {ds : List Value} {E : XK} {x : Str} {p pos : Pos} {e : Expr} {es : List Expr} {t : TA}
theorem pe_makeX (M : Mk X.K C f) (F : FnOk X.prog X.w X.K X.mg X.base CX k f fd ps sp) (hr : Room (k + 1) X.A) (hg : Gl X x) (hm : X.mg x = some (.ref C)) (hb : Binds X.K fd ps ds) (hd : Vals dvs ds) (hx : Passes CX X E)
    (ha : PA X (e :: es) t) (hq : (x == ("__debug__" : Str)) = false := by decide) (he : starEach (e :: es) X.env = (false, eval e X.env) :: starEach es X.env := by rfl) (hl : (backTo pos (starEach es X.env)).any (·.1) = false := by rfl) :
    PE X (.Call (.Name x p) (e :: es) [] pos) (tMakeX C sp dvs E t) := by
  constructor
  intro pn st0 sl hp R J hh
  apply wpAny_Call_Name_kw
  apply ld_glob J hg hm (hd := hq)
  apply PySem.W.callWith_K (h₀ := X.base) J.ok.mod.kin M.kp _ he hl
  apply thn (ha.run pos pn st0 sl hp _ J hh)
  rintro us s1 ⟨vs, hp1, J1, rv, q⟩
  exact ⟨J1.kIn, run_make M F hr hb hd hx J1 rv fun x dx h1 h2 _ => q x dx _ h1 (Ext.made h1 h2) upd_same⟩
theorem pe_make0X (M : Mk X.K C f) (F : FnOk X.prog X.w X.K X.mg X.base CX k f fd ps sp) (hr : Room (k + 1) X.A) (hg : Gl X x) (hm : X.mg x = some (.ref C)) (hb : Binds X.K fd ps ds) (hd : Vals dvs ds) (hx : Passes CX X E)
    (hq : (x == ("__debug__" : Str)) = false := by decide) : PE X (.Call (.Name x p) [] [] pos) (tMakeX C sp dvs E tNil) := by
  constructor
  intro pn st0 sl hp R J hh
  apply wpAny_Call_Name_kw
  apply ld_glob J hg hm (hd := hq)
  exact PySem.W.callWith_K0 J.kIn M.kp (run_make (us := []) M F hr hb hd hx J .nil fun x dx h1 h2 _ => hh x dx _ h1 (Ext.made h1 h2) upd_same)
end
/-! ### slices by numbers -/
theorem cut_mid {xs : List V} {a b : Nat} (h1 : a ≤ b) (h2 : b ≤ xs.length) : cutV xs (some (a : Int)) (some (b : Int)) = (xs.drop a).take (b - a) := by
  unfold cutV
  rw [HT.sIx_nat, HT.sIx_nat, Nat.min_eq_left h2, Nat.min_eq_left (Nat.le_trans h1 h2)]
theorem cut_to {xs : List V} {b : Nat} : cutV xs none (some (b : Int)) = xs.take b := by
  unfold cutV
  rw [HT.sIx_nat, HT.sIx_none, List.drop_zero, Nat.sub_zero]
  by_cases h : b ≤ xs.length
  · rw [Nat.min_eq_left h]
  · rw [Nat.min_eq_right (by omega), List.take_of_length_le (Nat.le_refl _), List.take_of_length_le (by omega)]
theorem cut_from {xs : List V} {a : Nat} : cutV xs (some (a : Int)) none = xs.drop a := by
  unfold cutV
  rw [HT.sIx_nat, HT.sIx_none]
  by_cases h : a ≤ xs.length
  · rw [Nat.min_eq_left h, List.take_of_length_le (by rw [List.length_drop]; exact Nat.le_refl _)]
  · rw [Nat.min_eq_right (by omega), List.drop_of_length_le (Nat.le_refl _), List.drop_of_length_le (show xs.length ≤ a by omega)]
    simp
theorem sIx_neg {n d a : Nat} (h : 0 < a) : HT.sIx n d (some (-(a : Int))) = n - a := by
  show (if (-(a : Int)) < 0 then (-(a : Int) + (n : Int)).toNat else min (-(a : Int)).toNat n) = n - a
  rw [if_pos (by omega)]
  omega
theorem cut_negTo {xs : List V} {b : Nat} (h : 0 < b) : cutV xs none (some (-(b : Int))) = xs.take (xs.length - b) := by
  unfold cutV
  rw [sIx_neg h, HT.sIx_none, List.drop_zero, Nat.sub_zero]
theorem cut_negFrom {xs : List V} {a : Nat} (h : 0 < a) : cutV xs (some (-(a : Int))) none = xs.drop (xs.length - a) := by
  unfold cutV
  rw [sIx_neg h, HT.sIx_none, List.take_of_length_le (by rw [List.length_drop]; exact Nat.le_refl _)]
theorem cut_midU {xs : List V} {a b : Nat} : cutV xs (some (a : Int)) (some (b : Int)) = (xs.take b).drop a := by
  unfold cutV
  rw [HT.sIx_nat, HT.sIx_nat, List.drop_take]
  by_cases h : a ≤ xs.length
  · rw [Nat.min_eq_left h]
    by_cases h2 : b ≤ xs.length
    · rw [Nat.min_eq_left h2]
    · rw [Nat.min_eq_right (show xs.length ≤ b by omega), List.take_of_length_le (by rw [List.length_drop]; omega), List.take_of_length_le (by rw [List.length_drop]; omega)]
  · rw [Nat.min_eq_right (show xs.length ≤ a by omega), List.drop_of_length_le (Nat.le_refl _), List.drop_of_length_le (show xs.length ≤ a by omega)]
    simp
theorem cut_toL {xs : List V} {b : Nat} : cutV xs none (some (@OfNat.ofNat Int b instOfNat)) = xs.take b := cut_to
theorem cut_fromL {xs : List V} {b : Nat} : cutV xs (some (@OfNat.ofNat Int b instOfNat)) none = xs.drop b := cut_from
theorem cut_midL {xs : List V} {a b : Nat} : cutV xs (some (@OfNat.ofNat Int a instOfNat)) (some (@OfNat.ofNat Int b instOfNat)) = (xs.take b).drop a := cut_midU
theorem cut_negToL {xs : List V} {b : Nat} (h : 0 < b) : cutV xs none (some (-(@OfNat.ofNat Int b instOfNat))) = xs.take (xs.length - b) := cut_negTo h
theorem cut_negFromL {xs : List V} {b : Nat} (h : 0 < b) : cutV xs (some (-(@OfNat.ofNat Int b instOfNat))) none = xs.drop (xs.length - b) := cut_negFrom h
/-! ### steps of a reading -/
section
variable {K : PySem.W.Frag} {σ : St} {H : Hp} {Q : VK} {D : Ends} {t u : TS} {ta tb tc te : TE} {g : TG} {v : V}
theorem g_seq (h : t { D with nx := u D } σ H) : tSeq t u D σ H := h
theorem g_next (h : D.nx σ H) : tNext D σ H := h
theorem g_asg (h : te σ H fun x H1 => g x σ H1 D.nx) : tAsg te g D σ H := h
theorem g_name {i : Nat} {R : St → Hp → Prop} (h : R (σ.set i (some v)) H) : gName i v σ H R := h
theorem g_ret (h : te σ H D.rt) : tRet te D σ H := h
theorem g_retN (h : D.rt .non H) : tRetN D σ H := h
theorem g_drop (h : te σ H fun _ H1 => D.nx σ H1) : tDrop te D σ H := h
theorem g_brk (h : D.bk σ H) : tBreak D σ H := h
theorem g_cnt (h : D.ct σ H) : tCont D σ H := h
theorem g_ifS {c : TT} (h : c σ H fun b H1 => if b = true then t D σ H1 else u D σ H1) : tIfS c t u D σ H := h
theorem g_if {c : TT} (h : c σ H fun b H1 => if b = true then ta σ H1 Q else tb σ H1 Q) : tIf c ta tb σ H Q := h
theorem g_var {i : Nat} (e : σ[i]? = some (some v)) (h : Q v H) : tVar i σ H Q := ⟨v, e, h⟩
theorem g_C (h : Q v H) : tC v σ H Q := h
theorem g_op {r : R2} (h : ta σ H fun x H1 => tb σ H1 fun y H2 => r x y H2 Q) : tOp r ta tb σ H Q := h
theorem g_un {r : V → Hp → VK → Prop} (h : ta σ H fun x H1 => r x H1 Q) : tUn r ta σ H Q := h
theorem g_neg {i : Int} (h : Q (.int (-i)) H) : rU (fun i => .int (-i)) (.int i) H Q := ⟨_, rfl, h⟩
theorem g_rI {C : Int → Int → Prop} {f : Int → Int → V} {i j : Int} (c : C i j) (h : Q (f i j) H) : rI C f (.int i) (.int j) H Q := ⟨i, j, rfl, rfl, c, h⟩
theorem g_rI0 {f : Int → Int → V} {i j : Int} (h : Q (f i j) H) : rI0 f (.int i) (.int j) H Q := ⟨i, j, rfl, rfl, h⟩
theorem g_addI {i j : Int} (h : Q (.int (i + j)) H) : rAddX K (.int i) (.int j) H Q := h
theorem g_addT {a b : Addr} {xs ys : List V} (e : SqT K H a xs) (f : SqT K H b ys) (z : xs.length + ys.length ≤ sizeLine) (h : ∀ c H', Ext [] H H' → SqT K H' c (xs ++ ys) → Q (.ref c) H') : rAddX K (.ref a) (.ref b) H Q := .inl ⟨xs, ys, e, f, z, h⟩
theorem g_addL {a b : Addr} {xs ys : List V} (e : H a = some (.lst xs)) (f : H b = some (.lst ys)) (z : xs.length + ys.length ≤ sizeLine) (h : NewO H (.lst (xs ++ ys)) fun p H' => Q (.ref p) H') : rAddX K (.ref a) (.ref b) H Q := .inr ⟨xs, ys, e, f, z, h⟩
theorem g_sl {te' : TE} {tl th : TO} {r : V → Option Int → Option Int → Hp → VK → Prop} (h : te' σ H fun x H1 => tl σ H1 fun l H2 => th σ H2 fun u H3 => r x l u H3 Q) : tSl r te' tl th σ H Q := h
theorem g_noPart {R : Option Int → Hp → Prop} (h : R none H) : tNoPart σ H R := h
theorem g_part {R : Option Int → Hp → Prop} (h : te σ H fun x H1 => ∃ i, x = .int i ∧ R (some i) H1) : tPart te σ H R := h
theorem g_part' {i : Int} {R : Int → Prop} (h : R i) : ∃ i', V.int i = .int i' ∧ R i' := ⟨i, rfl, h⟩
theorem g_slT {a : Addr} {lo hi : Option Int} {xs ys : List V} (e : SqT K H a xs) (f : cutV xs lo hi = ys) (h : ∀ c H', Ext [] H H' → SqT K H' c ys → Q (.ref c) H') : rSlX K (.ref a) lo hi H Q := .inl ⟨xs, e, by rw [f]; exact h⟩
theorem g_slL {a : Addr} {lo hi : Option Int} {xs ys : List V} (e : SqL K H a xs) (f : cutV xs lo hi = ys) (h : NewO H (.lst ys) fun p H' => Q (.ref p) H') : rSlX K (.ref a) lo hi H Q := .inr ⟨xs, e, by rw [f]; exact h⟩
theorem g_slS {z : Str} {lo hi : Option Int} (e : z.length ≤ sizeLine) (h : Q (.str (cutS z lo hi)) H) : rSlX K (.str z) lo hi H Q := ⟨e, h⟩
theorem g_addS {i j : Str} (e : i.length + j.length ≤ sizeLine) (h : Q (.str (i ++ j)) H) : rAddX K (.str i) (.str j) H Q := ⟨e, h⟩
theorem g_mulI {i j : Int} (c : CMul i j) (h : Q (.int (i * j)) H) : rMulX (.int i) (.int j) H Q := ⟨c, h⟩
theorem g_iaddI {i j : Int} (h : Q (.int (i + j)) H) : rIAddX (.int i) (.int j) H Q := h
theorem g_divW {i j : Int} (h0 : 0 < j) (h1 : j < 2 ^ 64) (h : Q (.int (i / j)) H) : rI CDivW (fun i j => .int (i / j)) (.int i) (.int j) H Q :=
  ⟨i, j, rfl, rfl, wide_div (b := 64) h0 (by omega) (by decide) (by decide), h⟩
theorem g_mod {i j : Int} (h0 : 0 < j) (h : Q (.int (i % j)) H) : rI (fun _ j => 0 < j) (fun i j => .int (i % j)) (.int i) (.int j) H Q := ⟨i, j, rfl, rfl, h0, h⟩
theorem g_eq {x y : V} (e : scal x y = true) (h : Q (.bl (decide (x = y))) H) : rEqX K x y H Q := .inl ⟨e, h⟩
theorem g_ne {x y : V} (e : scal x y = true) (h : Q (.bl (!decide (x = y))) H) : rNeX K x y H Q := .inl ⟨e, h⟩
theorem g_isN {x : V} (h : Q (.bl (decide (x = .non))) H) : (fun x y H Q => y = V.non ∧ Q (.bl (decide (x = .non))) H : R2) x .non H Q := ⟨rfl, h⟩
theorem g_isN' {R : Prop} (h : R) : (V.non = V.non ∧ R) := ⟨rfl, h⟩
theorem g_test {t : TE} {R : Bool → Hp → Prop} (h : t σ H fun x H' => ∃ k, x = .bl k ∧ R k H') : tTest t σ H R := h
theorem g_bl {k : Bool} {R : Bool → Prop} (h : R k) : ∃ k', V.bl k = .bl k' ∧ R k' := ⟨k, rfl, h⟩
theorem g_tru {x : V} {k : Bool} {R : Bool → Prop} (e : TruV K x H k) (h : R k) : ∃ k', TruV K x H k' ∧ R k' := ⟨k, e, h⟩
theorem g_truB {b : Bool} : TruV K (.bl b) H b := rfl
theorem g_and {a b : TT} {R : Bool → Hp → Prop} (h : a σ H fun c H1 => if c = true then b σ H1 R else R false H1) : tAnd a b σ H R := h
theorem g_or {a b : TT} {R : Bool → Hp → Prop} (h : a σ H fun c H1 => if c = true then R true H1 else b σ H1 R) : tOr a b σ H R := h
theorem g_not {a : TT} {R : Bool → Hp → Prop} (h : a σ H fun c H1 => R (!c) H1) : tNot a σ H R := h
theorem g_chain {r r' : R2} (h : ta σ H fun x H1 => tb σ H1 fun y H2 => r x y H2 fun z H3 => ∃ k, z = .bl k ∧ (if k = true then tc σ H3 fun w' H4 => r' y w' H4 Q else Q (.bl false) H3)) : tChain r r' ta tb tc σ H Q := h
theorem g_andV (h : ta σ H fun x H1 => ∃ c, x = .bl c ∧ if c = true then tb σ H1 Q else Q (.bl false) H1) : tAndV ta tb σ H Q := h
theorem g_orV (h : ta σ H fun x H1 => ∃ c, x = .bl c ∧ if c = true then Q (.bl true) H1 else tb σ H1 Q) : tOrV ta tb σ H Q := h
theorem g_notV (h : ta σ H fun x H1 => ∃ c, x = .bl c ∧ Q (.bl (!c)) H1) : tNotV ta σ H Q := h
theorem g_inT {x : V} {p : Addr} {xs : List V} (e : SqT K H p xs) (f : flatV x = true) (g : xs.all flatV = true) (h : Q (.bl (inV x xs)) H) : rIn K false x (.ref p) H Q := ⟨p, xs, rfl, .inr e, f, g, h⟩
theorem g_inL {x : V} {p : Addr} {xs : List V} (e : SqL K H p xs) (f : flatV x = true) (g : xs.all flatV = true) (h : Q (.bl (inV x xs)) H) : rIn K false x (.ref p) H Q := ⟨p, xs, rfl, .inl e, f, g, h⟩
theorem g_ninT {x : V} {p : Addr} {xs : List V} (e : SqT K H p xs) (f : flatV x = true) (g : xs.all flatV = true) (h : Q (.bl (!inV x xs)) H) : rIn K true x (.ref p) H Q := ⟨p, xs, rfl, .inr e, f, g, h⟩
theorem g_ninL {x : V} {p : Addr} {xs : List V} (e : SqL K H p xs) (f : flatV x = true) (g : xs.all flatV = true) (h : Q (.bl (!inV x xs)) H) : rIn K true x (.ref p) H Q := ⟨p, xs, rfl, .inl e, f, g, h⟩
theorem g_nil {R : List V → Hp → Prop} (h : R [] H) : tNil σ H R := h
theorem g_cons {tr : TA} {R : List V → Hp → Prop} (h : te σ H fun x H1 => tr σ H1 fun xs H2 => R (x :: xs) H2) : tCons te tr σ H R := h
theorem g_CB {r : List V → Hp → VK → Prop} {ta : TA} (h : ta σ H fun vs H1 => r vs H1 Q) : tCB r ta σ H Q := h
theorem g_int1 {i : Int} (h : Q (.int i) H) : rInt1 [.int i] H Q := h
theorem g_int1b {k : Bool} (h : Q (.int (if k then 1 else 0)) H) : rInt1 [.bl k] H Q := h
theorem g_min2 {i j : Int} (h : Q (.int (min i j)) H) : rMin2 [.int i, .int j] H Q := h
theorem g_max2 {i j : Int} (h : Q (.int (max i j)) H) : rMax2 [.int i, .int j] H Q := h
theorem g_abs {i : Int} (h : Q (.int (i.natAbs : Int)) H) : rAbs [.int i] H Q := h
theorem g_new {n : Nat} {o : HO} {R : Addr → Hp → Prop} (e : n ≤ sizeLine) (h : NewO H o R) : n ≤ sizeLine ∧ NewO H o R := ⟨e, h⟩
theorem g_newO {o : HO} {R : Addr → Hp → Prop} (h : ∀ p H', H p = none → Ext [] H H' → H' p = some o → R p H') : NewO H o R := h
theorem g_tup {t : TA} (h : t σ H fun xs H1 => xs.length ≤ sizeLine ∧ NewO H1 (.tup xs) fun p H' => Q (.ref p) H') : tTupX t σ H Q := h
theorem g_lst {t : TA} (h : t σ H fun xs H1 => xs.length ≤ sizeLine ∧ NewO H1 (.lst xs) fun p H' => Q (.ref p) H') : tLstX t σ H Q := h
theorem g_ixL {p : Addr} {xs : List V} {i : Int} (e : SqL K H p xs) (a : atI xs i = some v) (h : Q v H) : rIx K (.ref p) (.int i) H Q := .inl ⟨p, xs, i, v, rfl, rfl, e, a, h⟩
theorem g_ixT {p : Addr} {xs : List V} {i : Int} (e : SqT K H p xs) (a : atI xs i = some v) (h : Q v H) : rIx K (.ref p) (.int i) H Q := .inr (.inl ⟨p, xs, i, v, rfl, rfl, e, a, h⟩)
theorem g_sub {to ti : TE} {s : TSet} {R : St → Hp → Prop} (h : to σ H fun o H1 => ti σ H1 fun i H2 => s o i v H2 fun H3 => R σ H3) : gSub to ti s v σ H R := h
theorem g_setL {p : Addr} {xs ys : List V} {k : Int} {j : Nat} {R : Hp → Prop} (e : H p = some (.lst xs)) (a : ixN xs.length k = some j) (l : xs.set j v = ys) (h : ∀ H', Ext [p] H H' → H' p = some (.lst ys) → R H') : rSetL (.ref p) (.int k) v H R :=
  ⟨p, xs, k, j, rfl, rfl, e, a, by rw [l]; exact h _ (Ext.wr e rfl) upd_same⟩
theorem g_ite {c : Bool} {A B : Prop} (h1 : c = true → A) (h2 : c = false → B) : if c = true then A else B := by
  cases c with
  | true => exact h1 rfl
  | false => exact h2 rfl
theorem g_iteDT {c : Bool} {A B : Prop} (e : c = true) (h : A) : if c = true then A else B := by rw [e]; exact h
theorem g_iteDF {c : Bool} {A B : Prop} (e : c = false) (h : B) : if c = true then A else B := by rw [e]; exact h
theorem g_iteIN {i : Int} {A B : Prop} (h : B) : if decide (V.int i = V.non) = true then A else B := by rw [decide_eq_false (by intro z; cases z)]; exact h
theorem g_iteRN {a : Addr} {A B : Prop} (h : B) : if decide (V.ref a = V.non) = true then A else B := by rw [decide_eq_false (by intro z; cases z)]; exact h
theorem g_iteSN {a : Str} {A B : Prop} (h : B) : if decide (V.str a = V.non) = true then A else B := by rw [decide_eq_false (by intro z; cases z)]; exact h
theorem g_iteNIN {i : Int} {A B : Prop} (h : A) : if (!decide (V.int i = V.non)) = true then A else B := by rw [decide_eq_false (by intro z; cases z)]; exact h
theorem g_iteNRN {i : Addr} {A B : Prop} (h : A) : if (!decide (V.ref i = V.non)) = true then A else B := by rw [decide_eq_false (by intro z; cases z)]; exact h
theorem g_iteT {A B : Prop} (h : A) : if true = true then A else B := h
theorem g_iteF {A B : Prop} (h : B) : if false = true then A else B := h
theorem g_fld {f : Str} (h : ta σ H fun x H1 => ∃ a C dx fs v, x = .ref a ∧ H1 a = some (.ins C dx fs) ∧ Cls K C ∧ NoAttr K C f ∧ fs.lookup f = some v ∧ Q v H1) : tFld K ta f σ H Q := h
theorem g_fld' {f : Str} {a C dx : Addr} {fs : List (Str × V)} (e : H a = some (.ins C dx fs)) (c : Cls K C) (n : NoAttr K C f) (l : fs.lookup f = some v) (h : Q v H) :
    ∃ a' C dx fs v, V.ref a = .ref a' ∧ H a' = some (.ins C dx fs) ∧ Cls K C ∧ NoAttr K C f ∧ fs.lookup f = some v ∧ Q v H := ⟨a, C, dx, fs, v, rfl, e, c, n, l, h⟩
theorem g_sfld {tv : TE} {f : Str} (h : tv σ H fun y H1 => ta σ H1 fun x H2 => ∃ a C dx fs, x = .ref a ∧ H2 a = some (.ins C dx fs) ∧ Cls K C ∧ NoAttr K C f ∧ fs.length < 1000 ∧ D.nx σ (upd H2 a (.ins C dx (putF f y fs)))) : sFld K ta tv f D σ H := h
theorem g_sfld' {f : Str} {a C dx : Addr} {fs fs' : List (Str × V)} {R : Hp → Prop} (e : H a = some (.ins C dx fs)) (c : Cls K C) (n : NoAttr K C f) (l : fs.length < 1000) (p : putF f v fs = fs') (h : ∀ H', Ext [a] H H' → H' a = some (.ins C dx fs') → R H') :
    ∃ a' C dx fs, V.ref a = .ref a' ∧ H a' = some (.ins C dx fs) ∧ Cls K C ∧ NoAttr K C f ∧ fs.length < 1000 ∧ R (upd H a' (.ins C dx (putF f v fs))) :=
  ⟨a, C, dx, fs, rfl, e, c, n, l, by rw [p]; exact h _ (Ext.wr e rfl) upd_same⟩
theorem g_sfa {tv : TE} {f : Str} {rd : V → V → Hp → VK → Prop} (h : ta σ H fun x H1 => ∃ a C dx fs v, x = .ref a ∧ H1 a = some (.ins C dx fs) ∧ Cls K C ∧ NoAttr K C f ∧ fs.lookup f = some v ∧
  tv σ H1 fun y H2 => rd v y H2 fun z H3 => ∃ dx' fs', H3 a = some (.ins C dx' fs') ∧ fs'.length < 1000 ∧ D.nx σ (upd H3 a (.ins C dx' (putF f z fs')))) : sFldAug K ta tv rd f D σ H := h
theorem g_sfa' {f : Str} {a C dx : Addr} {fs : List (Str × V)} {R : V → Addr → Addr → Hp → Prop} (e : H a = some (.ins C dx fs)) (c : Cls K C) (n : NoAttr K C f) (l : fs.lookup f = some v) (h : R v a C H) :
    ∃ a' C dx fs v, V.ref a = .ref a' ∧ H a' = some (.ins C dx fs) ∧ Cls K C ∧ NoAttr K C f ∧ fs.lookup f = some v ∧ R v a' C H := ⟨a, C, dx, fs, v, rfl, e, c, n, l, h⟩
theorem g_sfa'' {f : Str} {a C dx : Addr} {fs fs' : List (Str × V)} {R : Hp → Prop} (e : H a = some (.ins C dx fs)) (l : fs.length < 1000) (p : putF f v fs = fs') (h : ∀ H', Ext [a] H H' → H' a = some (.ins C dx fs') → R H') :
    ∃ dx' fs', H a = some (.ins C dx' fs') ∧ fs'.length < 1000 ∧ R (upd H a (.ins C dx' (putF f v fs'))) :=
  ⟨dx, fs, e, l, by rw [p]; exact h _ (Ext.wr e rfl) upd_same⟩
theorem g_call {sp : Sp} {dvs : List V} {E : XK} {t : TA} (h : t σ H fun vs H1 => sp (vs ++ dvs) H1 Q E) : tCall sp dvs E t σ H Q := h
theorem g_meth {C : Addr} {m : Str} {sp : Sp} {dvs : List V} {E : XK} {t : TA} (h : ta σ H fun x H1 => ∃ a dx fs, x = .ref a ∧ H1 a = some (.ins C dx fs) ∧ fs.lookup m = none ∧ t σ H1 fun vs H2 => sp (x :: (vs ++ dvs)) H2 Q E) : tMeth C m sp dvs E ta t σ H Q := h
theorem g_meth' {C a dx : Addr} {m : Str} {fs : List (Str × V)} {R : Hp → Prop} (e : H a = some (.ins C dx fs)) (l : fs.lookup m = none) (h : R H) : ∃ a' dx fs, V.ref a = .ref a' ∧ H a' = some (.ins C dx fs) ∧ fs.lookup m = none ∧ R H := ⟨a, dx, fs, rfl, e, l, h⟩
theorem g_make {C : Addr} {sp : Sp} {dvs : List V} {E : XK} {t : TA} (h : t σ H fun vs H1 => ∀ x dx H', H1 x = none → Ext [] H1 H' → H' x = some (.ins C dx []) → sp (.ref x :: (vs ++ dvs)) H' (fun v H2 => v = .non ∧ Q (.ref x) H2) E) : tMakeX C sp dvs E t σ H Q := h
theorem g_appd {te : TE} {t : TA} {r : V → List V → Hp → VK → Prop} {T : String} (h : te σ H fun x H1 => tyV K T x H1 ∧ t σ H1 fun xs H2 => r x xs H2 Q) : tBM K T r te t σ H Q := h
theorem g_bm0 {te : TE} {r : V → List V → Hp → VK → Prop} {T : String} (h : te σ H fun x H1 => tyV K T x H1 ∧ r x [] H1 Q) : tBM0 K T r te σ H Q := h
theorem g_tyL {a : Addr} {xs : List V} {R : Prop} (e : SqL K H a xs) (h : R) : tyV K "list" (.ref a) H ∧ R := ⟨.inl ⟨rfl, xs, e⟩, h⟩
theorem g_append {l : Addr} {xs : List V} {y : V} (e : H l = some (.lst xs)) (z : xs.length < sizeLine) (h : ∀ H', Ext [l] H H' → H' l = some (.lst (xs ++ [y])) → Q .non H') : rAppend (.ref l) [y] H Q :=
  ⟨l, xs, y, rfl, rfl, e, z, h _ (Ext.wr e rfl) upd_same⟩
theorem g_par {i j : Nat} {ta : TA} (h : ta σ H fun vs H1 => ∃ v w, vs = [v, w] ∧ D.nx ((σ.set i (some v)).set j (some w)) H1) : tPar i j ta D σ H := h
theorem g_par' {x y : V} {R : V → V → Prop} (h : R x y) : ∃ v w, [x, y] = [v, w] ∧ R v w := ⟨x, y, rfl, h⟩
theorem g_gtup {n : Nat} {tg : TGs} {a : Addr} {xs : List V} {R : St → Hp → Prop} (e : SqT K H a xs) (l : xs.length = n) (h : tg xs σ H R) : gTup K n tg (.ref a) σ H R := ⟨a, xs, rfl, e, l, h⟩
theorem g_gcons {t1 : TG} {tr : TGs} {x : V} {xs : List V} {R : St → Hp → Prop} (h : t1 x σ H fun σ' H' => tr xs σ' H' R) : gCons t1 tr (x :: xs) σ H R := ⟨x, xs, rfl, h⟩
theorem g_gnil {R : St → Hp → Prop} (h : R σ H) : gNil [] σ H R := ⟨rfl, h⟩
theorem g_aug {i : Nat} {ti : TIp} (e : σ[i]? = some (some v)) (h : te σ H fun y H1 => ti v y H1 fun z H2 => D.nx (σ.set i (some z)) H2) : tAug i te ti D σ H := ⟨v, e, h⟩
theorem g_listL {a : Addr} {xs : List V} (e : SqL K H a xs) (h : NewO H (.lst xs) fun p H' => Q (.ref p) H') : rListX K [.ref a] H Q := ⟨xs, .inl e, h⟩
theorem g_listT {a : Addr} {xs : List V} (e : SqT K H a xs) (h : NewO H (.lst xs) fun p H' => Q (.ref p) H') : rListX K [.ref a] H Q := ⟨xs, .inr e, h⟩
theorem g_tupL {a : Addr} {xs : List V} (e : SqL K H a xs) (h : NewO H (.tup xs) fun p H' => Q (.ref p) H') : rTupX K [.ref a] H Q := .inl ⟨xs, e, h⟩
theorem g_tupT {a : Addr} {xs : List V} (e : SqT K H a xs) (h : Q (.ref a) H) : rTupX K [.ref a] H Q := .inr ⟨xs, e, h⟩
theorem g_lenL {a : Addr} {xs : List V} (e : SqL K H a xs) (h : Q (.int xs.length) H) : rLenX K [.ref a] H Q := .inl ⟨xs, .inl e, h⟩
theorem g_lenT {a : Addr} {xs : List V} (e : SqT K H a xs) (h : Q (.int xs.length) H) : rLenX K [.ref a] H Q := .inl ⟨xs, .inr e, h⟩
theorem g_lenD {a : Addr} {kvs : List (Key × V)} (e : H a = some (.dK kvs)) (h : Q (.int kvs.length) H) : rLenX K [.ref a] H Q := .inr ⟨kvs, e, h⟩
theorem g_lenS {z : Str} (e : z.length ≤ sizeLine) (h : Q (.int z.length) H) : rLenX K [.str z] H Q := ⟨e, h⟩
theorem g_truL {a : Addr} {xs : List V} {R : Bool → Prop} (e : SqL K H a xs) (h : R (!xs.isEmpty)) : ∃ k, TruV K (.ref a) H k ∧ R k := ⟨_, .inl ⟨xs, e, rfl⟩, h⟩
theorem g_truT {a : Addr} {xs : List V} {R : Bool → Prop} (e : SqT K H a xs) (h : R (!xs.isEmpty)) : ∃ k, TruV K (.ref a) H k ∧ R k := ⟨_, .inr (.inl ⟨xs, e, rfl⟩), h⟩
theorem g_truD {a : Addr} {kvs : List (Key × V)} {R : Bool → Prop} (e : H a = some (.dK kvs)) (h : R (!kvs.isEmpty)) : ∃ k, TruV K (.ref a) H k ∧ R k := ⟨_, .inr (.inr ⟨kvs, e, rfl⟩), h⟩
theorem g_truBl {b : Bool} {R : Bool → Prop} (h : R b) : ∃ k, TruV K (.bl b) H k ∧ R k := ⟨b, rfl, h⟩
theorem g_truI {i : Int} {R : Bool → Prop} (h : R (i != 0)) : ∃ k, TruV K (.int i) H k ∧ R k := ⟨_, rfl, h⟩
theorem g_truN {R : Bool → Prop} (h : R false) : ∃ k, TruV K .non H k ∧ R k := ⟨_, rfl, h⟩
theorem g_for {wi : TI} {tb : TS} (h : wi σ H fun J H1 => ForGoal J g tb D σ H1) : tFor wi g tb D σ H := h
theorem g_lc {wi : TI} {tt : TT} {vs : List Nat} (h : wi σ H fun J H1 => LcGoal J g tt te vs σ H1 Q) : tLc wi g tt te vs σ H Q := h
theorem g_stE (h : te σ H Q) : stE te σ H Q := ⟨Q, h, fun _ _ z => z⟩
theorem g_stG {R : L2.St → Hp → Prop} (h : g v σ H R) : stG g v σ H R := ⟨R, h, fun _ _ z => z⟩
theorem g_stT {tt : TT} {R : Bool → Hp → Prop} (h : tt σ H R) : stT tt σ H R := ⟨R, h, fun _ _ z => z⟩
theorem g_yes {R : Bool → Hp → Prop} (h : R true H) : tYes σ H R := h
theorem g_iList {tl : TE} {R : It → Hp → Prop} (h : tl σ H fun x H1 => ∃ a, x = .ref a ∧ (∃ xs, SqL K H1 a xs) ∧ R (Itl K a) H1) : iList K tl σ H R := h
theorem g_iTup {tl : TE} {R : It → Hp → Prop} (h : tl σ H fun x H1 => ∃ a, x = .ref a ∧ (∃ xs, SqT K H1 a xs) ∧ R (Itt K a) H1) : iTup K tl σ H R := h
theorem g_iR1 {t : TA} {R : It → Hp → Prop} (h : t σ H fun vs H1 => ∃ j : Int, vs = [.int j] ∧ -(2 ^ 62) ≤ j ∧ j < 2 ^ 62 ∧ R (Itr 0 j.toNat) H1) : iRng1 t σ H R := h
theorem g_iR2 {t : TA} {R : It → Hp → Prop} (h : t σ H fun vs H1 => ∃ i j : Int, vs = [.int i, .int j] ∧ (-(2 ^ 62) ≤ i ∧ i < 2 ^ 62 ∧ -(2 ^ 62) ≤ j ∧ j < 2 ^ 62) ∧ R (Itr i (j - i).toNat) H1) : iRng2 t σ H R := h
theorem g_iR3 {t : TA} {R : It → Hp → Prop} (h : t σ H fun vs H1 => ∃ (i j c : Int) (n : Nat), vs = [.int i, .int j, .int c] ∧ RgC i j c n ∧ R (Itc i c n) H1) : iRng3 t σ H R := h
theorem g_itLf {tb : TS} {a : Addr} {xs : List V} (e : SqL K H a xs) (h : ForGoal (Itl K a) g tb D σ H) : ∃ a', V.ref a = .ref a' ∧ (∃ xs, SqL K H a' xs) ∧ ForGoal (Itl K a') g tb D σ H := ⟨a, rfl, ⟨xs, e⟩, h⟩
theorem g_itTf {tb : TS} {a : Addr} {xs : List V} (e : SqT K H a xs) (h : ForGoal (Itt K a) g tb D σ H) : ∃ a', V.ref a = .ref a' ∧ (∃ xs, SqT K H a' xs) ∧ ForGoal (Itt K a') g tb D σ H := ⟨a, rfl, ⟨xs, e⟩, h⟩
theorem g_itLl {tt : TT} {vs : List Nat} {a : Addr} {xs : List V} (e : SqL K H a xs) (h : LcGoal (Itl K a) g tt te vs σ H Q) : ∃ a', V.ref a = .ref a' ∧ (∃ xs, SqL K H a' xs) ∧ LcGoal (Itl K a') g tt te vs σ H Q := ⟨a, rfl, ⟨xs, e⟩, h⟩
theorem g_itTl {tt : TT} {vs : List Nat} {a : Addr} {xs : List V} (e : SqT K H a xs) (h : LcGoal (Itt K a) g tt te vs σ H Q) : ∃ a', V.ref a = .ref a' ∧ (∃ xs, SqT K H a' xs) ∧ LcGoal (Itt K a') g tt te vs σ H Q := ⟨a, rfl, ⟨xs, e⟩, h⟩
theorem g_itR1f {tb : TS} {j : Int} (h1 : -(2 ^ 62) ≤ j) (h2 : j < 2 ^ 62) (h : ForGoal (Itr 0 j.toNat) g tb D σ H) : ∃ j' : Int, [V.int j] = [.int j'] ∧ -(2 ^ 62) ≤ j' ∧ j' < 2 ^ 62 ∧ ForGoal (Itr 0 j'.toNat) g tb D σ H := ⟨j, rfl, h1, h2, h⟩
theorem g_itR1l {tt : TT} {vs : List Nat} {j : Int} (h1 : -(2 ^ 62) ≤ j) (h2 : j < 2 ^ 62) (h : LcGoal (Itr 0 j.toNat) g tt te vs σ H Q) : ∃ j' : Int, [V.int j] = [.int j'] ∧ -(2 ^ 62) ≤ j' ∧ j' < 2 ^ 62 ∧ LcGoal (Itr 0 j'.toNat) g tt te vs σ H Q := ⟨j, rfl, h1, h2, h⟩
theorem g_itR2f {tb : TS} {i j : Int} (h1 : -(2 ^ 62) ≤ i ∧ i < 2 ^ 62 ∧ -(2 ^ 62) ≤ j ∧ j < 2 ^ 62) (h : ForGoal (Itr i (j - i).toNat) g tb D σ H) : ∃ i' j' : Int, [V.int i, V.int j] = [.int i', .int j'] ∧ (-(2 ^ 62) ≤ i' ∧ i' < 2 ^ 62 ∧ -(2 ^ 62) ≤ j' ∧ j' < 2 ^ 62) ∧ ForGoal (Itr i' (j' - i').toNat) g tb D σ H := ⟨i, j, rfl, h1, h⟩
theorem g_itR2l {tt : TT} {vs : List Nat} {i j : Int} (h1 : -(2 ^ 62) ≤ i ∧ i < 2 ^ 62 ∧ -(2 ^ 62) ≤ j ∧ j < 2 ^ 62) (h : LcGoal (Itr i (j - i).toNat) g tt te vs σ H Q) : ∃ i' j' : Int, [V.int i, V.int j] = [.int i', .int j'] ∧ (-(2 ^ 62) ≤ i' ∧ i' < 2 ^ 62 ∧ -(2 ^ 62) ≤ j' ∧ j' < 2 ^ 62) ∧ LcGoal (Itr i' (j' - i').toNat) g tt te vs σ H Q := ⟨i, j, rfl, h1, h⟩
theorem g_itR3f {tb : TS} {i j c : Int} {n : Nat} (r : RgC i j c n) (h : ForGoal (Itc i c n) g tb D σ H) : ∃ (i' j' c' : Int) (n' : Nat), [V.int i, V.int j, V.int c] = [.int i', .int j', .int c'] ∧ RgC i' j' c' n' ∧ ForGoal (Itc i' c' n') g tb D σ H := ⟨i, j, c, n, rfl, r, h⟩
theorem g_itR3l {tt : TT} {vs : List Nat} {i j c : Int} {n : Nat} (r : RgC i j c n) (h : LcGoal (Itc i c n) g tt te vs σ H Q) : ∃ (i' j' c' : Int) (n' : Nat), [V.int i, V.int j, V.int c] = [.int i', .int j', .int c'] ∧ RgC i' j' c' n' ∧ LcGoal (Itc i' c' n') g tt te vs σ H Q := ⟨i, j, c, n, rfl, r, h⟩
theorem g_forL {tb : TS} {a : Addr} (xs : List V) (_ : SqL K H a xs) (Pv : Nat → L2.St → Hp → Prop) (h0 : Pv 0 σ H) (hl : ∀ i σ H, i ≤ xs.length → Pv i σ H → SqL K H a xs)
    (hs : ∀ i x σ H, xs[i]? = some x → Pv i σ H → g x σ H fun σ2 H2 => tb { D with nx := Pv (i + 1), ct := Pv (i + 1), bk := D.nx } σ2 H2) (hd : ∀ σ H, Pv xs.length σ H → D.nx σ H) : ForGoal (Itl K a) g tb D σ H := for_list Pv h0 hl hs hd
theorem g_forT {tb : TS} {a : Addr} (xs : List V) (Pv : Nat → L2.St → Hp → Prop) (h0 : Pv 0 σ H) (hl : ∀ i σ H, i ≤ xs.length → Pv i σ H → SqT K H a xs)
    (hs : ∀ i x σ H, xs[i]? = some x → Pv i σ H → g x σ H fun σ2 H2 => tb { D with nx := Pv (i + 1), ct := Pv (i + 1), bk := D.nx } σ2 H2) (hd : ∀ σ H, Pv xs.length σ H → D.nx σ H) : ForGoal (Itt K a) g tb D σ H := for_tup Pv h0 hl hs hd
theorem g_forR {tb : TS} {lo : Int} {n : Nat} (Pv : Nat → L2.St → Hp → Prop) (h0 : Pv 0 σ H)
    (hs : ∀ i σ H, i < n → Pv i σ H → g (.int (lo + i)) σ H fun σ2 H2 => tb { D with nx := Pv (i + 1), ct := Pv (i + 1), bk := D.nx } σ2 H2) (hd : ∀ σ H, Pv n σ H → D.nx σ H) : ForGoal (Itr lo n) g tb D σ H := for_range Pv h0 hs hd
end
theorem lk_hd {f : Str} {v : V} {r : List (Str × V)} : List.lookup f ((f, v) :: r) = some v := by simp [List.lookup]
theorem lk_tl {f g : Str} {v : V} {r : List (Str × V)} {o : Option V} (n : (f == g) = false) (h : List.lookup f r = o) : List.lookup f ((g, v) :: r) = o := by simp only [List.lookup, n]; exact h
theorem lk_nil {f : Str} : List.lookup f ([] : List (Str × V)) = none := rfl
theorem pf_nil {f : Str} {v : V} : putF f v [] = [(f, v)] := rfl
theorem pf_hd {f : Str} {v x : V} {r : List (Str × V)} : putF f v ((f, x) :: r) = (f, v) :: r := by simp [putF]
theorem pf_tl {f g : Str} {v x : V} {r r' : List (Str × V)} (n : (f == g) = false) (h : putF f v r = r') : putF f v ((g, x) :: r) = (g, x) :: r' := by
  have e : ¬ g = f := fun q => by rw [q, beq_self_eq_true] at n; cases n
  simp only [putF, if_neg e, h]
theorem ix_at {α : Type} {xs : List α} {i : Int} {v : α} (h : 0 ≤ i) (e : xs[i.toNat]? = some v) : atI xs i = some v := by
  have z : ((i.toNat : Nat) : Int) = i := Int.toNat_of_nonneg h
  rw [← z]; exact atI_nat e
theorem lt1000 {n : Nat} (h : Nat.blt n 1000 = true := by rfl) : n < 1000 := by
  have := Nat.le_of_ble_eq_true h
  omega
theorem leLine {n : Nat} (h : Nat.ble n 1000 = true := by rfl) : n ≤ sizeLine := Nat.le_trans (Nat.le_of_ble_eq_true h) (by decide)
/-! ### the stepping tactics, under names of our own -/
local macro_rules | `(tactic| walk_at "eo mem") => `(tactic| first | with_reducible exact List.mem_cons_self | ((with_reducible apply List.mem_cons_of_mem); walk_at "eo mem"))
local macro_rules | `(tactic| walk_at "eo lk") => `(tactic| first | with_reducible exact lk_hd | with_reducible exact lk_nil | ((with_reducible apply lk_tl); (decide +kernel); (walk_at "eo lk")))
local macro_rules | `(tactic| walk_at "eo pf") => `(tactic| first | with_reducible exact pf_hd | with_reducible exact pf_nil | ((with_reducible apply pf_tl); (decide +kernel); (walk_at "eo pf")))
local macro_rules | `(tactic| walk_at "eo fact") => `(tactic| first | with_reducible assumption | ((with_reducible apply Ext.keep); (with_reducible assumption); (walk_at "eo fact"); (walk_at "eo nin")))
local macro_rules | `(tactic| walk_at "eo nin") => `(tactic| first | with_reducible exact nin0 | ((with_reducible apply nin1); walk_at "eo ne") | ((with_reducible apply ninC); (walk_at "eo ne"); (walk_at "eo nin")) | with_reducible assumption)
local macro_rules | `(tactic| walk_at "eo ne") => `(tactic| first
  | with_reducible assumption
  | ((with_reducible apply Ne.symm); with_reducible assumption)
  | walk_at "eo ne2")
local macro_rules | `(tactic| walk_at "eo ne2") => `(tactic| first
  | ((with_reducible apply ne_of_none); rotate_left 1; (with_reducible assumption); (walk_at "eo fact"))
  | ((with_reducible apply Ne.symm); (with_reducible apply ne_of_none); rotate_left 1; (with_reducible assumption); (walk_at "eo fact"))
  | ((with_reducible apply ne_of); (with_reducible assumption); (walk_at "eo fact"); ((intro z; cases z)))
  | ((with_reducible apply Ne.symm); (with_reducible apply ne_of); (with_reducible assumption); (walk_at "eo fact"); ((intro z; cases z))))
local macro_rules | `(tactic| walk_at "eo sqT") => `(tactic| first | with_reducible assumption | ((with_reducible apply SqT.of); with_reducible assumption) | ((with_reducible apply sqT_ext); (with_reducible assumption); (walk_at "eo sqT")))
local macro_rules | `(tactic| walk_at "eo sqL") => `(tactic| first | with_reducible assumption | ((with_reducible apply SqL.of); with_reducible assumption) | ((with_reducible apply sqL_ext); (with_reducible assumption); (walk_at "eo sqL"); (intro _ _; walk_at "eo nin")))
local macro_rules | `(tactic| walk_at "eo at") => `(tactic| first | rfl | assumption | (apply ix_at; (first | omega | assumption); (first | assumption | rfl)))
local macro_rules | `(tactic| walk_at "eo set") => `(tactic| first | ((try simp only [List.set_cons_succ, List.set_cons_zero, Int.reduceToNat, List.length_cons, List.length_nil]); first | done | rfl) | rfl)
local macro_rules | `(tactic| walk_at "eo ext") => `(tactic| first | with_reducible assumption | with_reducible exact Ext.refl _ | ((with_reducible apply Ext.snoc); (with_reducible assumption); (walk_at "eo ext"); (walk_at "eo sub")))
local macro_rules | `(tactic| walk_at "eo sub") => `(tactic| first | with_reducible exact sub0 | ((with_reducible apply sub1); (walk_at "eo mem")) | ((with_reducible apply sub1f); (walk_at "eo free")) | ((with_reducible apply subC); (walk_at "eo mem"); (walk_at "eo sub")) | ((with_reducible apply subCf); (walk_at "eo free"); (walk_at "eo sub")))
local macro_rules | `(tactic| walk_at "eo free") => `(tactic| first | with_reducible assumption | ((with_reducible apply Ext.free); (with_reducible assumption); (walk_at "eo free"); (walk_at "eo nin")))
local macro_rules | `(tactic| walk_at "eo cut") => `(tactic| first | ((apply Eq.trans); (first | exact cut_midL | exact cut_toL | exact cut_fromL | exact cut_negToL (by decide) | exact cut_negFromL (by decide)); ((try simp only [List.take_succ_cons, List.take_zero, List.drop_succ_cons, List.drop_zero, List.length_cons, List.length_nil, Nat.reduceAdd, Nat.reduceSub]); first | done | rfl)) | rfl)
local macro_rules | `(tactic| walk_at "eo len") => `(tactic| first | exact leLine | (rw [sizeLine_eq]; simp only [List.length_append, List.length_cons, List.length_nil, List.length_map, List.length_take]; omega))
local macro_rules | `(tactic| walk_at "eo arith") => `(tactic| first | decide | omega)
local macro_rules | `(tactic| walk_at "eo mul") => `(tactic| first | (refine CMul.left ?_; first | decide | (constructor <;> omega)) | (refine CMul.right ?_; first | decide | (constructor <;> omega)))
local macro_rules | `(tactic| walk_at "eo step") => `(tactic| first
  | ((with_reducible apply g_var); (with_unfolding_all rfl))
  | with_reducible refine g_C ?_
  | with_reducible refine g_cons ?_
  | with_reducible refine g_nil ?_
  | with_reducible refine g_op ?_
  | with_reducible refine g_asg ?_
  | with_reducible refine g_name ?_
  | with_reducible refine g_seq ?_
  | with_reducible refine g_CB ?_
  | with_reducible refine g_bl ?_
  | with_reducible refine g_test ?_
  | with_reducible refine g_rI0 ?_
  | with_reducible refine g_addI ?_
  | ((with_reducible apply g_ixT); (walk_at "eo sqT"); (walk_at "eo at"))
  | ((with_reducible apply g_ixL); (walk_at "eo sqL"); (walk_at "eo at"))
  | ((with_reducible apply g_fld'); (walk_at "eo fact"); (with_reducible assumption); ((with_reducible apply na_of); (with_reducible assumption); (walk_at "eo mem")); (walk_at "eo lk"))
  | with_reducible refine g_fld ?_
  | with_reducible refine g_ret ?_
  | with_reducible refine g_ifS ?_
  | with_reducible refine g_iteIN ?_
  | ((with_reducible apply g_iteDT); (first | with_reducible assumption | decide))
  | ((with_reducible apply g_iteDF); (first | with_reducible assumption | decide))
  | with_reducible refine g_iteT ?_
  | with_reducible refine g_iteF ?_
  | with_reducible refine g_tup ?_
  | ((with_reducible apply g_new); (exact leLine))
  | ((with_reducible refine g_newO ?_); intro _ _ _ _ _)
  | with_reducible refine g_call ?_
  | ((with_reducible apply g_eq); (rfl))
  | with_reducible refine g_and ?_
  | with_reducible refine g_or ?_
  | ((with_reducible apply g_ne); (rfl))
  | ((with_reducible apply g_mulI); (walk_at "eo mul"))
  | ((with_reducible apply g_mod); (walk_at "eo arith"))
  | ((with_reducible apply g_divW); (walk_at "eo arith"); (walk_at "eo arith"))
  | with_reducible refine g_int1 ?_
  | with_reducible refine g_next ?_
  | with_reducible refine g_retN ?_
  | with_reducible refine g_drop ?_
  | with_reducible refine g_if ?_
  | with_reducible refine g_un ?_
  | with_reducible refine g_not ?_
  | with_reducible refine g_chain ?_
  | with_reducible refine g_andV ?_
  | with_reducible refine g_orV ?_
  | with_reducible refine g_notV ?_
  | ((with_reducible apply g_inT); (walk_at "eo sqT"); rfl; rfl)
  | ((with_reducible apply g_inL); (walk_at "eo sqL"); rfl; rfl)
  | ((with_reducible apply g_ninT); (walk_at "eo sqT"); rfl; rfl)
  | ((with_reducible apply g_ninL); (walk_at "eo sqL"); rfl; rfl)
  | with_reducible refine g_lst ?_
  | with_reducible refine g_iaddI ?_
  | ((with_reducible apply g_addT); (walk_at "eo sqT"); (walk_at "eo sqT"); (walk_at "eo len"); intro _ _ _ _)
  | ((with_reducible apply g_addL); (walk_at "eo fact"); (walk_at "eo fact"); (walk_at "eo len"))
  | with_reducible refine g_sl ?_
  | with_reducible refine g_noPart ?_
  | with_reducible refine g_part ?_
  | with_reducible refine g_part' ?_
  | ((with_reducible apply g_slT); (walk_at "eo sqT"); (walk_at "eo cut"); intro _ _ _ _)
  | ((with_reducible apply g_slL); (walk_at "eo sqL"); (walk_at "eo cut"))
  | with_reducible refine g_int1b ?_
  | with_reducible refine g_min2 ?_
  | with_reducible refine g_max2 ?_
  | with_reducible refine g_abs ?_
  | with_reducible refine g_isN' ?_
  | with_reducible refine g_neg ?_
  | with_reducible refine g_sub ?_
  | ((with_reducible apply g_setL); (walk_at "eo fact"); (walk_at "eo at"); (walk_at "eo set"); intro _ _ _)
  | with_reducible refine g_sfld ?_
  | ((with_reducible apply g_sfld'); (walk_at "eo fact"); (with_reducible assumption); ((with_reducible apply na_of); (with_reducible assumption); (walk_at "eo mem")); (exact lt1000); (walk_at "eo pf"); intro _ _ _)
  | with_reducible refine g_sfa ?_
  | ((with_reducible apply g_sfa'); (walk_at "eo fact"); (with_reducible assumption); ((with_reducible apply na_of); (with_reducible assumption); (walk_at "eo mem")); (walk_at "eo lk"))
  | ((with_reducible apply g_sfa''); (walk_at "eo fact"); (exact lt1000); (walk_at "eo pf"); intro _ _ _)
  | with_reducible refine g_meth ?_
  | ((with_reducible apply g_meth'); (walk_at "eo fact"); (walk_at "eo lk"))
  | with_reducible refine g_make ?_
  | ((with_reducible apply g_listL); (walk_at "eo sqL"))
  | ((with_reducible apply g_listT); (walk_at "eo sqT"))
  | ((with_reducible apply g_tupL); (walk_at "eo sqL"))
  | ((with_reducible apply g_tupT); (walk_at "eo sqT"))
  | ((with_reducible apply g_lenL); (walk_at "eo sqL"))
  | ((with_reducible apply g_lenT); (walk_at "eo sqT"))
  | ((with_reducible apply g_lenD); (walk_at "eo fact"))
  | ((with_reducible apply g_truL); (walk_at "eo sqL"))
  | ((with_reducible apply g_truT); (walk_at "eo sqT"))
  | ((with_reducible apply g_truD); (walk_at "eo fact"))
  | with_reducible refine g_truBl ?_
  | with_reducible refine g_truI ?_
  | with_reducible refine g_truN ?_
  | with_reducible refine g_appd ?_
  | with_reducible refine g_bm0 ?_
  | ((with_reducible apply g_tyL); (walk_at "eo sqL"))
  | ((with_reducible apply g_append); (walk_at "eo fact"); (walk_at "eo arith"); intro _ _ _)
  | with_reducible refine g_par ?_
  | with_reducible refine g_par' ?_
  | with_reducible refine g_gcons ?_
  | with_reducible refine g_gnil ?_
  | ((with_reducible apply g_gtup); (walk_at "eo sqT"); (with_unfolding_all rfl))
  | ((with_reducible apply g_aug); (with_unfolding_all rfl))
  | with_reducible refine g_for ?_
  | with_reducible refine g_iList ?_
  | with_reducible refine g_iTup ?_
  | with_reducible refine g_iR1 ?_
  | with_reducible refine g_iR2 ?_
  | with_reducible refine g_iR3 ?_
  | with_reducible refine g_lc ?_
  | with_reducible refine g_stE ?_
  | with_reducible refine g_stG ?_
  | with_reducible refine g_stT ?_
  | with_reducible refine g_yes ?_
  | ((with_reducible apply g_itLf); (walk_at "eo sqL"))
  | ((with_reducible apply g_itTf); (walk_at "eo sqT"))
  | ((with_reducible apply g_itLl); (walk_at "eo sqL"))
  | ((with_reducible apply g_itTl); (walk_at "eo sqT"))
  | ((with_reducible apply g_itR1f); (walk_at "eo arith"); (walk_at "eo arith"))
  | ((with_reducible apply g_itR1l); (walk_at "eo arith"); (walk_at "eo arith"))
  | ((with_reducible apply g_itR2f); (walk_at "eo arith"))
  | ((with_reducible apply g_itR2l); (walk_at "eo arith"))
  | with_reducible refine g_iteRN ?_
  | with_reducible refine g_iteSN ?_
  | with_reducible refine g_iteNIN ?_
  | with_reducible refine g_iteNRN ?_
  | with_reducible refine g_cnt ?_
  | with_reducible refine g_brk ?_)
local macro_rules | `(tactic| walk_at "eo go") => `(tactic| repeat (walk_at "eo step"))
local macro_rules | `(tactic| walk_at "eo init") => `(tactic| (dsimp only [cxOf, Cx.nox, Cx.wish, L2.start, List.map, List.length, List.replicate, List.cons_append, List.nil_append, Nat.reduceAdd, Nat.reduceSub]))
theorem dec_t {p : Prop} [Decidable p] (h : decide p = true) : p := of_decide_eq_true h
theorem dec_f {p : Prop} [Decidable p] (h : decide p = false) : ¬ p := of_decide_eq_false h
theorem vint {i j : Int} (h : V.int i = V.int j) : i = j := V.int.inj h
theorem mem_map_int {xs : List Int} {i : Nat} {x : V} (h : (xs.map V.int)[i]? = some x) : ∃ n, xs[i]? = some n ∧ x = .int n := by
  rw [List.getElem?_map] at h
  cases e : xs[i]? with
  | none => rw [e] at h; cases h
  | some n => rw [e] at h; exact ⟨n, rfl, (Option.some.inj h).symm⟩
/-! ### rules that the library has not: t.index(text), t += u, a sign times n, methods that may raise -/
def rTIndexS (K : PySem.W.Frag) : V → List V → Hp → VK → Prop := fun x xs H Q => ∃ (a : Addr) (ys : List Str) (k : Str), x = V.ref a ∧ xs = [.str k] ∧ SqT K H a (ys.map V.str) ∧ k ∈ ys ∧ Q (.int (ys.idxOf k : Nat)) H
theorem mt_tindexS {X : Cx} : MtR X "tuple.index" (rTIndexS X.K) := by
  intro pins s σ H x xs v us Q I rx rxs h
  obtain ⟨a, ys, k, rfl, rfl, hs, hk, q⟩ := h
  cases rx
  obtain ⟨u, rfl, ru⟩ := rxs.one
  obtain ⟨t, rfl⟩ := ru
  obtain ⟨its, rv, hl, _⟩ := I.tuple hs
  exact SeqAt.tuple_index_strs hl (strs_of_vals rv) hk ⟨.int _, H, I.tok _, ⟨_, rfl⟩, q⟩
def rLIndexS (K : PySem.W.Frag) : V → List V → Hp → VK → Prop := fun x xs H Q => ∃ (a : Addr) (ys : List Str) (k : Str), x = V.ref a ∧ xs = [.str k] ∧ SqL K H a (ys.map V.str) ∧ k ∈ ys ∧ Q (.int (ys.idxOf k : Nat)) H
theorem mt_lindexS {X : Cx} : MtR X "list.index" (rLIndexS X.K) := by
  intro pins s σ H x xs v us Q I rx rxs h
  obtain ⟨a, ys, k, rfl, rfl, hs, hk, q⟩ := h
  cases rx
  obtain ⟨u, rfl, ru⟩ := rxs.one
  obtain ⟨t, rfl⟩ := ru
  obtain ⟨its, rv, hl, hz⟩ := I.list hs
  have hz' : ys.length ≤ sizeLine := by rw [List.length_map] at hz; exact hz
  exact SeqAt.list_index_strs hl.isList (strs_of_vals rv) hz' hk ⟨.int _, H, I.tok _, ⟨_, rfl⟩, q⟩
theorem noI_tuple_add : typeLookup (.type "tuple") (dunderI "add") = pure none := by rw [typeLookup_type, builtinLookup_eq_fast]; kernel_rfl
open PyProof.Rows in
theorem icat_tup {prog : Program} {w : World} {A : Around} {E : Value → Shared → Prop} {s : Shared} {t b : Addr} {vs ws : List Value} {Q : Value → Shared → Prop} (ht : PyProof.Rows.IsTup s.heap t vs.toArray) (hb : PyProof.Rows.IsTup s.heap b ws.toArray) (hv : vs ≠ [])
    (hw : ws ≠ []) (h2 : Q (.ref s.heap.objs.size) { s with heap := s.heap.push { cls := .type "tuple", data := .seq (vs ++ ws).toArray } })
    (hsz : vs.length + ws.length ≤ sizeLine) : wpAny (model prog w) A (inplaceOp .Add (.ref t) (.ref b)) Q E s := by
  obtain ⟨⟨cls, dd, data, sl⟩, ho, hc, n, hd⟩ := id ht
  obtain ⟨⟨cls2, dd2, data2, sl2⟩, ho2, hc2, n2, hd2⟩ := id hb
  simp only at hc hd hc2 hd2
  subst hc hd hc2 hd2
  have e : vs.toArray ++ ws.toArray = (vs ++ ws).toArray := by simp
  refine wpAny_inplaceOp_concat ⟨_, ho, rfl⟩ ⟨_, ho2, rfl⟩ noI_tuple_add noFill_tuple_add seq_tuple_add (call_meets PySem.F.slot_tuple_add ⟨_, ho, rfl⟩ PySem.F.entry_tuple_add (PySem.F.args_tuple_add_2 _ _)
    (tuple_addW2 t b vs.toArray ws.toArray n n2 dd dd2 sl sl2 (by simpa using hv) (by simpa using hw) (by rw [List.size_toArray, List.size_toArray]; exact hsz)) ⟨ho, ho2, ?_⟩)
  rw [e]
  exact h2
def rICatT (K : PySem.W.Frag) : R2 := fun x y H Q => ∃ a b xs ys, x = V.ref a ∧ y = V.ref b ∧ SqT K H a xs ∧ SqT K H b ys ∧ xs ≠ [] ∧ ys ≠ [] ∧ xs.length + ys.length ≤ sizeLine ∧ NewO H (.tup (xs ++ ys)) fun p H' => Q (.ref p) H'
theorem o_icatT {X : Cx} : PIp X .Add (rICatT X.K) := by
  intro pins s σ H x y v u Q I rx ry h
  obtain ⟨a, b, xs, ys, rfl, rfl, ha, hb, hx, hy, hz, q⟩ := h
  cases rx
  cases ry
  obtain ⟨its, r1, p1, _⟩ := I.tuple ha
  obtain ⟨its2, r2, p2, _⟩ := I.tuple hb
  refine icat_tup p1 p2 (fun z => hx (r1.nil_iff.mp z)) (fun z => hy (r2.nil_iff.mp z)) ?_ (by rw [← r1.length, ← r2.length]; exact hz)
  refine ⟨.ref s.heap.objs.size, _, I.laid (t' := s.toks) (o := .tup (xs ++ ys)) (fun b ob q => Heap.get?_push_of_some _ q) (Nat.le_refl _) ?_, rfl, q.raw _ (I.hok.fresh (Nat.le_refl _))⟩
  exact ⟨by rw [List.length_append]; exact hz, _, r1.append r2, PyProof.Rows.IsTup.new _ _⟩
theorem g_icatT {K : PySem.W.Frag} {H : Hp} {Q : VK} {a b : Addr} {xs ys : List V} (h1 : SqT K H a xs) (h2 : SqT K H b ys) (n1 : xs ≠ []) (n2 : ys ≠ []) (z : xs.length + ys.length ≤ sizeLine) (h : NewO H (.tup (xs ++ ys)) fun p H' => Q (.ref p) H') : rICatT K (.ref a) (.ref b) H Q :=
  ⟨a, b, xs, ys, rfl, rfl, h1, h2, n1, n2, z, h⟩
/-- a sign times n -/
def rMulSign : R2 := fun x y H Q => ∃ (c : Nat) (n : Int), x = .str ⟨#[c]⟩ ∧ y = .int n ∧ 0 ≤ n ∧ n ≤ 1000 ∧ Q (.str ⟨(List.replicate n.toNat c).toArray⟩) H
theorem foldl_sign (c : Nat) : ∀ (m : Nat) (l : Array Nat), (List.replicate m (#[c] : Array Nat)).foldl (· ++ ·) l = l ++ (List.replicate m c).toArray
  | 0, l => by simp
  | m + 1, l => by
    rw [List.replicate_succ, List.foldl_cons, foldl_sign c m, List.replicate_succ]
    apply Array.toList_inj.mp
    simp
theorem op_mulSign {X : Cx} : OpR X (binaryOp .Mult) rMulSign := by
  intro pins s σ H x y v u Q I rx ry h
  obtain ⟨c, n, rfl, rfl, h0, h1, q⟩ := h
  obtain ⟨t, rfl⟩ := rx
  obtain ⟨t', rfl⟩ := ry
  have hl : Str.length (⟨#[c]⟩ : Str) = 1 := rfl
  refine PySem.P.mul_str ?_ (fun a b => ?_) (fun a b => ?_) ?_
  · rw [decide_eq_false (by omega), decide_eq_false (by omega)]; rfl
  · rw [hl]
    have : (1 : Int) ≤ (2 ^ 63 - 1) / n := by
      rw [Int.le_ediv_iff_mul_le (by omega)]
      omega
    omega
  · rw [hl, Nat.one_mul]
    exact decide_eq_false (by rw [show ¬ (n.toNat > sizeLine) ↔ n.toNat ≤ sizeLine from Nat.not_lt, sizeLine_eq]; omega)
  · by_cases c1 : n < 1
    · rw [if_pos c1]
      have : n = 0 := by omega
      subst this
      exact ⟨by decide, .str _, H, I.tok _, ⟨_, rfl⟩, q⟩
    · rw [if_neg c1]
      by_cases c2 : n = 1
      · subst c2
        exact ⟨.str _, H, I, ⟨_, rfl⟩, q⟩
      · rw [if_neg (by rw [hl]; simp; exact c2)]
        have e : (List.replicate n.toNat (#[c] : Array Nat)).foldl (· ++ ·) #[] = (List.replicate n.toNat c).toArray := by rw [foldl_sign]; simp
        show (Made.str ⟨(List.replicate n.toNat (#[c] : Array Nat)).foldl (· ++ ·) #[]⟩).post _ _
        rw [e]
        exact ⟨by rw [sizeLine_eq]; simp [Str.length]; omega, .str _, H, I.tok _, ⟨_, rfl⟩, q⟩
theorem g_mulSign {H : Hp} {Q : VK} {c : Nat} {n : Int} (h0 : 0 ≤ n) (h1 : n ≤ 1000) (h : Q (.str ⟨(List.replicate n.toNat c).toArray⟩) H) : rMulSign (.str ⟨#[c]⟩) (.int n) H Q := ⟨c, n, rfl, rfl, h0, h1, h⟩
/-! a method that may raise -/
section
variable {X : Cx} {CX : CXT} {k : Nat} {f C : Addr} {fd : FuncData} {ps : List Str} {sp : Sp} {E : L2.St → XK} {m : Str} {pos apos : Pos} {e o : Expr} {es : List Expr} {ta : TE} {t : TA}
def tMethS (C : Addr) (m : Str) (sp : Sp) (E : L2.St → XK) (ta : TE) (t : TA) : TE := fun σ H Q => ta σ H fun x H1 => ∃ a dx fs, x = .ref a ∧ H1 a = some (.ins C dx fs) ∧ fs.lookup m = none ∧ t σ H1 fun vs H2 => sp (x :: vs) H2 Q (E σ)
theorem pe_methE {pl : Sem Bool} (he : PE X o ta) (c : Cls X.K C) (hm : Meth X.K C m f) (F : FnOk X.prog X.w X.K X.mg X.base CX k f fd ps sp) (hr : Room k X.A) (hb : Binds X.K fd ps []) (hx : ∀ σ, PassesAt CX X σ (E σ)) (ha : PA X (e :: es) t)
    (hst : starEach (e :: es) X.env = (false, eval e X.env) :: starEach es X.env := by rfl) (hpl : (backTo pos (starEach es X.env)).any (·.1) = false := by rfl)
    (ht : eval (.Call (.Attribute o m apos) (e :: es) [] pos) X.env = (do
      let ov ← eval o X.env
      standAt apos.atName
      let (f, first) ← holding [ov] (getMethod ov m pl)
      callWith pos f first (backTo pos (starEach (e :: es) X.env)) (backToKw pos (keywordEach [] X.env))) := by rfl) :
    PE X (.Call (.Attribute o m apos) (e :: es) [] pos) (tMethS C m sp E ta t) := by
  refine ⟨fun pins s σ H Q I h => ?_⟩
  refine PySem.W.methodCall_KW (pl := pl) (thn (he.run pins s σ H _ I h) fun u s1 ⟨x, H1, I1, rx, a, dx, fs, ex, ea, l, q⟩ => ?_) ht
  subst ex
  obtain rfl : u = Value.ref a := rx
  refine getmeth_ok I1 ea c hm l ?_
  refine PySem.W.callWith_K (first := [.ref a]) (h₀ := X.base) I.ok.mod.kin hm.kp (thn (ha.run pos pins s1 σ H1 _ I1 q) fun us s2 ⟨vs, H2, I2, r, q2⟩ => ⟨I2.kIn, ?_⟩) hst hpl
  exact run_fnS (us := .ref a :: us) (vs := .ref a :: vs) F hr hb (hx σ) I2 (.cons rfl r) q2
theorem pe_meth0E {pl : Sem Bool} (he : PE X o ta) (c : Cls X.K C) (hm : Meth X.K C m f) (F : FnOk X.prog X.w X.K X.mg X.base CX k f fd ps sp) (hr : Room k X.A) (hb : Binds X.K fd ps []) (hx : ∀ σ, PassesAt CX X σ (E σ))
    (ht : eval (.Call (.Attribute o m apos) [] [] pos) X.env = (do
      let ov ← eval o X.env
      standAt apos.atName
      let (f, first) ← holding [ov] (getMethod ov m pl)
      callWith pos f first (backTo pos (starEach [] X.env)) (backToKw pos (keywordEach [] X.env))) := by rfl) :
    PE X (.Call (.Attribute o m apos) [] [] pos) (tMethS C m sp E ta tNil) := by
  refine ⟨fun pins s σ H Q I h => ?_⟩
  refine PySem.W.methodCall_KW (pl := pl) (thn (he.run pins s σ H _ I h) fun u s1 ⟨x, H1, I1, rx, a, dx, fs, ex, ea, l, q⟩ => ?_) ht
  subst ex
  obtain rfl : u = Value.ref a := rx
  refine getmeth_ok I1 ea c hm l ?_
  exact PySem.W.callWith_K0 (first := [.ref a]) I1.kIn hm.kp (run_fnS (us := [.ref a]) (vs := [.ref a]) F hr hb (hx σ) I1 (.cons rfl .nil) q)
end
section
variable {K : PySem.W.Frag} {σ : L2.St} {H : Hp} {Q : VK} {ta : TE} {t : TA}
theorem g_methS {C : Addr} {m : Str} {sp : Sp} {E : L2.St → XK} (h : ta σ H fun x H1 => ∃ a dx fs, x = .ref a ∧ H1 a = some (.ins C dx fs) ∧ fs.lookup m = none ∧ t σ H1 fun vs H2 => sp (x :: vs) H2 Q (E σ)) : tMethS C m sp E ta t σ H Q := h
end
theorem g_callS {sp : Sp} {E : L2.St → XK} {t : TA} {σ : L2.St} {H : Hp} {Q : VK} (h : t σ H fun vs H1 => sp vs H1 Q (E σ)) : tCallS sp E t σ H Q := h
/-! ### lists of values and what they hold -/
def LR {α : Type} (R : Hp → V → α → Prop) (H : Hp) : List V → List α → Prop
  | [], [] => True
  | x :: xs, a :: l => R H x a ∧ LR R H xs l
  | _, _ => False
section
variable {α : Type} {R : Hp → V → α → Prop} {H H' : Hp}
theorem LR.get : ∀ {xs : List V} {l : List α} {i : Nat} {x : V}, LR R H xs l → xs[i]? = some x → ∃ a, l[i]? = some a ∧ R H x a
  | _ :: _, a :: _, 0, _, ⟨h, _⟩, q => ⟨a, rfl, by cases q; exact h⟩
  | _ :: _, _ :: _, i + 1, _, ⟨_, h⟩, q => LR.get (i := i) h q
  | [], [], _, _, _, q => by simp at q
  | [], _ :: _, _, _, h, _ => h.elim
  | _ :: _, [], _, _, h, _ => h.elim
theorem LR.len : ∀ {xs : List V} {l : List α}, LR R H xs l → xs.length = l.length
  | [], [], _ => rfl
  | _ :: _, _ :: _, ⟨_, h⟩ => congrArg (· + 1) (LR.len h)
  | [], _ :: _, h => h.elim
  | _ :: _, [], h => h.elim
theorem LR.imp {R' : Hp → V → α → Prop} (f : ∀ x a, R H x a → R' H' x a) : ∀ {xs : List V} {l : List α}, LR R H xs l → LR R' H' xs l
  | [], [], _ => trivial
  | _ :: _, _ :: _, ⟨h1, h⟩ => ⟨f _ _ h1, LR.imp f h⟩
  | [], _ :: _, h => h.elim
  | _ :: _, [], h => h.elim
theorem LR.app : ∀ {xs ys : List V} {l m : List α}, LR R H xs l → LR R H ys m → LR R H (xs ++ ys) (l ++ m)
  | [], _, [], _, _, h => h
  | _ :: _, _, _ :: _, _, ⟨h1, h⟩, h2 => ⟨h1, LR.app h h2⟩
  | [], _, _ :: _, _, h, _ => h.elim
  | _ :: _, _, [], _, h, _ => h.elim
theorem LR.one {x : V} {a : α} (h : R H x a) : LR R H [x] [a] := ⟨h, trivial⟩
theorem LR.snoc {x : V} {a : α} {xs : List V} {l : List α} (h : LR R H xs l) (h1 : R H x a) : LR R H (xs ++ [x]) (l ++ [a]) := h.app (LR.one h1)
theorem LR.rev : ∀ {xs : List V} {l : List α}, LR R H xs l → LR R H xs.reverse l.reverse
  | [], [], _ => trivial
  | x :: xs, a :: l, ⟨h1, h⟩ => by rw [List.reverse_cons, List.reverse_cons]; exact LR.snoc (LR.rev h) h1
  | [], _ :: _, h => h.elim
  | _ :: _, [], h => h.elim
theorem LR.take : ∀ {xs : List V} {l : List α} (n : Nat), LR R H xs l → LR R H (xs.take n) (l.take n)
  | [], [], n, _ => by rw [List.take_nil, List.take_nil]; trivial
  | _ :: _, _ :: _, 0, _ => trivial
  | _ :: _, _ :: _, n + 1, ⟨h1, h⟩ => ⟨h1, LR.take n h⟩
  | [], _ :: _, _, h => h.elim
  | _ :: _, [], _, h => h.elim
theorem LR.drop : ∀ {xs : List V} {l : List α} (n : Nat), LR R H xs l → LR R H (xs.drop n) (l.drop n)
  | [], [], n, _ => by rw [List.drop_nil, List.drop_nil]; trivial
  | _ :: _, _ :: _, 0, h => h
  | _ :: _, _ :: _, n + 1, ⟨_, h⟩ => LR.drop n h
  | [], _ :: _, _, h => h.elim
  | _ :: _, [], _, h => h.elim
end
theorem lr_map {α β : Type} {R : Hp → V → α → Prop} {R' : Hp → V → β → Prop} {H H' : Hp} {f : α → β} : ∀ {xs : List V} {l : List α}, (∀ x a, a ∈ l → R H x a → R' H' x (f a)) → LR R H xs l → LR R' H' xs (l.map f)
  | [], [], _, _ => trivial
  | _ :: _, a :: l, h, ⟨h1, h2⟩ => ⟨h _ a List.mem_cons_self h1, lr_map (fun x b hb => h x b (List.mem_cons_of_mem _ hb)) h2⟩
  | [], _ :: _, _, h => h.elim
  | _ :: _, [], _, h => h.elim
/-! ### sums of octets -/
def sumI (ns : List Int) : Nat → Int
  | 0 => 0
  | i + 1 => let t := sumI ns i + ((ns[2 * i]?).getD 0 * 256 + (ns[2 * i + 1]?).getD 0); if t ≥ 65536 then t - 65536 + 1 else t
def sm (ns : List Int) : Int := 65535 - sumI ns ((ns.length + 1) / 2)
theorem rg2 {n : Nat} (h : n < 128) : RgC 0 (n : Int) 2 ((n + 1) / 2) := by
  have all : ∀ m : Fin 128, ((2 : Int) ≠ 0 ∧ (2 : Int).natAbs < 1073741824 ∧ Builtin.Range.small 0 ((m.val : Nat) : Int) 2 = true ∧ Builtin.Range.rangeSize 0 ((m.val : Nat) : Int) 2 = (((m.val + 1) / 2 : Nat))) := by decide +kernel
  exact all ⟨n, h⟩
theorem at_int {ns : List Int} {j : Int} (h0 : 0 ≤ j) (h1 : j < ns.length) : atI (ns.map V.int) j = some (.int ((ns[j.toNat]?).getD 0)) := by
  refine ix_at h0 ?_
  rw [List.getElem?_map, List.getElem?_eq_getElem (show j.toNat < ns.length by omega)]
  rfl
/-! ### octets: what they compute -/
def num (ns : List Int) : Int := ns.foldl (fun f o => f * 256 + o) 0
def nearestI (w k s : Int) : Int := k + (w - k) % s - (if (w - k) % s ≥ s / 2 then s else 0)
abbrev TI (K : PySem.W.Frag) (H : Hp) (a : Addr) (ns : List Int) : Prop := SqT K H a (ns.map V.int)
def spTwo (K : PySem.W.Frag) : Sp := fun vs H Q _ => ∃ n, vs = [.int n] ∧ ∀ c H', Ext [] H H' → SqT K H' c [.int (n / 256), .int (n % 256)] → Q (.ref c) H'
def spFour (K : PySem.W.Frag) : Sp := fun vs H Q _ => ∃ n, vs = [.int n] ∧ ∀ c H', Ext [] H H' → SqT K H' c [.int (n / 65536 / 256), .int (n / 65536 % 256), .int (n % 65536 / 256), .int (n % 65536 % 256)] → Q (.ref c) H'
def spNum (K : PySem.W.Frag) : Sp := fun vs H Q _ => ∃ (a : Addr) (xs : List V) (ns : List Int), vs = [.ref a] ∧ SqT K H a xs ∧ xs = ns.map V.int ∧ Q (.int (num ns)) H
def spNearest : Sp := fun vs H Q _ => ∃ w k s, vs = [.int w, .int k, .int s] ∧ 0 < s ∧ s < 2 ^ 64 ∧ Q (.int (nearestI w k s)) H
section
variable {K : PySem.W.Frag} {H : Hp} {Q : VK} {E : XK}
theorem g_two {n : Int} (h : ∀ c H', Ext [] H H' → SqT K H' c [.int (n / 256), .int (n % 256)] → Q (.ref c) H') : spTwo K ([.int n] ++ []) H Q E := ⟨n, rfl, h⟩
theorem g_four {n : Int} (h : ∀ c H', Ext [] H H' → SqT K H' c [.int (n / 65536 / 256), .int (n / 65536 % 256), .int (n % 65536 / 256), .int (n % 65536 % 256)] → Q (.ref c) H') : spFour K ([.int n] ++ []) H Q E := ⟨n, rfl, h⟩
theorem g_nearest {w k s : Int} (h0 : 0 < s) (h1 : s < 2 ^ 64) (h : Q (.int (nearestI w k s)) H) : spNearest ([.int w, .int k, .int s] ++ []) H Q E := ⟨w, k, s, rfl, h0, h1, h⟩
end
local macro_rules | `(tactic| walk_at "eo step") => `(tactic| first
  | ((with_reducible refine g_two ?_); intro _ _ _ _)
  | ((with_reducible refine g_four ?_); intro _ _ _ _)
  | ((with_reducible apply g_nearest); (walk_at "eo arith"); (walk_at "eo arith")))
/-! ### octets of packets, plainly -/
def psum (ns : List Int) : Nat → Int
  | 0 => 0
  | i + 1 => psum ns i + ((ns[2 * i]?).getD 0 * 256 + (ns[2 * i + 1]?).getD 0)
theorem sumI_mod (ns : List Int) : ∀ i, ∃ k : Int, psum ns i = sumI ns i + 65535 * k
  | 0 => ⟨0, rfl⟩
  | i + 1 => by
    obtain ⟨k, h⟩ := sumI_mod ns i
    unfold psum sumI
    dsimp only
    split
    · exact ⟨k + 1, by omega⟩
    · exact ⟨k, by omega⟩
theorem set_get (ns : List Int) (p q : Nat) (v : Int) (hp : p < ns.length) : ((ns.set p v)[q]?).getD 0 = if p = q then v else (ns[q]?).getD 0 := by
  rw [List.getElem?_set]
  by_cases c : p = q
  · rw [if_pos c, if_pos c, if_pos (c ▸ hp)]; rfl
  · rw [if_neg c, if_neg c]
theorem psum_set (ns : List Int) (p : Nat) (v : Int) (hp : p < ns.length) : ∀ i, psum (ns.set p v) i = psum ns i + (if p / 2 < i then (v - (ns[p]?).getD 0) * (if p % 2 = 0 then 256 else 1) else 0)
  | 0 => by simp [psum]
  | i + 1 => by
    unfold psum
    rw [psum_set ns p v hp i, set_get ns p _ v hp, set_get ns p _ v hp]
    by_cases c : p = 2 * i
    · subst c
      rw [if_pos rfl, if_neg (by omega), if_neg (by omega), if_pos (by omega), if_pos (by omega)]
      omega
    · rw [if_neg c]
      by_cases d : p = 2 * i + 1
      · subst d
        rw [if_pos rfl, if_neg (by omega), if_pos (by omega), if_neg (by omega)]
        omega
      · rw [if_neg d]
        by_cases e : p / 2 < i
        · rw [if_pos e, if_pos (show p / 2 < i + 1 by omega)]
          omega
        · rw [if_neg e, if_neg (show ¬ p / 2 < i + 1 by omega)]
          omega
def Oct (ns : List Int) : Prop := ∀ x ∈ ns, 0 ≤ x ∧ x ≤ 255
theorem Oct.get {ns : List Int} (h : Oct ns) (i : Nat) : 0 ≤ (ns[i]?).getD 0 ∧ (ns[i]?).getD 0 ≤ 255 := by
  cases e : ns[i]? with
  | none => exact ⟨by decide, by decide⟩
  | some x => exact h x (List.mem_of_getElem? e)
theorem sm_set {ns : List Int} {p : Nat} {v : Int} (hp : p < ns.length) (ho : Oct ns) (v0 : 0 ≤ v) (v1 : v ≤ 255) (ne : v ≠ (ns[p]?).getD 0) : sm (ns.set p v) ≠ sm ns := by
  unfold sm
  rw [List.length_set]
  obtain ⟨k1, h1⟩ := sumI_mod ns ((ns.length + 1) / 2)
  obtain ⟨k2, h2⟩ := sumI_mod (ns.set p v) ((ns.length + 1) / 2)
  rw [psum_set ns p v hp, if_pos (by omega)] at h2
  have g := ho.get p
  generalize (ns[p]?).getD 0 = o at *
  intro e
  split at h2 <;> omega
theorem sumI_rng {ns : List Int} (ho : Oct ns) : ∀ i, 0 ≤ sumI ns i ∧ sumI ns i ≤ 65535
  | 0 => ⟨Int.le_refl 0, show (0 : Int) ≤ 65535 by decide⟩
  | i + 1 => by
    have h := sumI_rng ho i
    have a := ho.get (2 * i)
    have b := ho.get (2 * i + 1)
    unfold sumI
    dsimp only
    split <;> omega
theorem sm_rng {ns : List Int} (ho : Oct ns) : 0 ≤ sm ns ∧ sm ns ≤ 65535 := by
  have := sumI_rng ho ((ns.length + 1) / 2)
  unfold sm
  omega
structure Pk where
  s : Int
  g : Int
  k : Nat
  l : Int
  n : Int
  p : Int
  m : Bool
  b : List Int
structure PkOk (q : Pk) : Prop where
  s : 0 ≤ q.s ∧ q.s ≤ 255
  g : 0 ≤ q.g ∧ q.g ≤ 255
  k : q.k < 4
  l : 0 ≤ q.l ∧ q.l ≤ 255
  n : 0 ≤ q.n ∧ q.n ≤ 65535
  p : 0 ≤ q.p ∧ q.p ≤ 65535
  b : Oct q.b
  bl : q.b.length ≤ 512
def hd (p : Pk) : List Int := [p.s, p.g, p.k, p.l, p.n / 256, p.n % 256, p.p / 256, p.p % 256, (if p.m then 1 else 0), (p.b.length : Int) / 256, (p.b.length : Int) % 256]
def pkd (p : Pk) : List Int := hd p ++ ([sm (hd p) / 256, sm (hd p) % 256] ++ p.b)
def unp (ns : List Int) : Option Pk :=
  if ns.length < 13 then none
  else if num ((ns.take 13).drop 11) ≠ sm (ns.take 11) ∨ num (((ns.take 11).take 11).drop 9) ≠ ((ns.drop 13).length : Int) then none
  else if (4 : Int) ≤ ((ns.take 11)[2]?).getD 0 ∨ (1 : Int) < ((ns.take 11)[8]?).getD 0 ∨ 512 < (ns.drop 13).length then none
  else some ⟨((ns.take 11)[0]?).getD 0, ((ns.take 11)[1]?).getD 0, (((ns.take 11)[2]?).getD 0).toNat, ((ns.take 11)[3]?).getD 0, num (((ns.take 11).take 6).drop 4), num (((ns.take 11).take 8).drop 6), decide (((ns.take 11)[8]?).getD 0 = 1), ns.drop 13⟩
theorem num2 (a b : Int) : num [a, b] = a * 256 + b := by
  show (0 * 256 + a) * 256 + b = a * 256 + b
  omega
theorem hd_oct {p : Pk} (h : PkOk p) : Oct (hd p) := by
  have := h.s
  have := h.g
  have := h.k
  have := h.l
  have := h.n
  have := h.p
  have := h.bl
  intro x hx
  unfold hd at hx
  simp only [List.mem_cons, List.not_mem_nil, or_false] at hx
  rcases hx with rfl | rfl | rfl | rfl | rfl | rfl | rfl | rfl | rfl | rfl | rfl
  · omega
  · omega
  · omega
  · omega
  · omega
  · omega
  · omega
  · omega
  · split <;> decide
  · omega
  · omega
theorem pkd_len {p : Pk} : (pkd p).length = 13 + p.b.length := by
  unfold pkd hd
  simp only [List.length_append, List.length_cons, List.length_nil]
  omega
theorem pkd_oct {p : Pk} (h : PkOk p) : Oct (pkd p) := by
  have r := sm_rng (hd_oct h)
  intro x hx
  unfold pkd at hx
  rcases List.mem_append.mp hx with c | c
  · exact hd_oct h x c
  · rcases List.mem_append.mp c with c | c
    · simp only [List.mem_cons, List.not_mem_nil, or_false] at c
      rcases c with rfl | rfl
      · omega
      · omega
    · exact h.b x c
/-- what is read of a head, its sum, a body -/
theorem unp_of {h : List Int} {a b : Int} {bd : List Int} (hl : h.length = 11) : unp (h ++ ([a, b] ++ bd)) =
    if a * 256 + b ≠ sm h ∨ num (h.drop 9) ≠ (bd.length : Int) then none
    else if (4 : Int) ≤ (h[2]?).getD 0 ∨ (1 : Int) < (h[8]?).getD 0 ∨ 512 < bd.length then none
    else some ⟨(h[0]?).getD 0, (h[1]?).getD 0, ((h[2]?).getD 0).toNat, (h[3]?).getD 0, num ((h.take 6).drop 4), num ((h.take 8).drop 6), decide ((h[8]?).getD 0 = 1), bd⟩ := by
  have e1 : (h ++ ([a, b] ++ bd)).take 11 = h := by rw [List.take_append_of_le_length (by omega), List.take_of_length_le (by omega)]
  have e2 : (h ++ ([a, b] ++ bd)).drop 13 = bd := by
    rw [List.drop_append, List.drop_of_length_le (by omega), hl]
    rfl
  have e3 : ((h ++ ([a, b] ++ bd)).take 13).drop 11 = [a, b] := by
    rw [List.drop_take, List.drop_append, List.drop_of_length_le (by omega), hl]
    rfl
  have e4 : h.take 11 = h := List.take_of_length_le (by omega)
  unfold unp
  rw [e1, e2, e3, e4, num2, if_neg (by simp only [List.length_append, List.length_cons, List.length_nil]; omega)]
theorem unp_pkd {p : Pk} (h : PkOk p) : unp (pkd p) = some p := by
  have r := sm_rng (hd_oct h)
  have h1 := h.k
  have h2 := h.n
  have h3 := h.p
  have h4 := h.bl
  unfold pkd
  rw [unp_of rfl]
  rw [if_neg, if_neg]
  · obtain ⟨s, g, k, l, n, pl, m, b⟩ := p
    simp only [hd, List.getElem?_cons_zero, List.getElem?_cons_succ, Option.getD_some, List.take_succ_cons, List.take_zero, List.drop_succ_cons, List.drop_zero, num2, Int.toNat_natCast]
    congr 2
    · omega
    · omega
    · cases m <;> rfl
  · simp only [hd, List.getElem?_cons_zero, List.getElem?_cons_succ, Option.getD_some, List.drop_succ_cons, List.drop_zero]
    rintro (c | c | c)
    · omega
    · split at c <;> omega
    · omega
  · rintro (c | c)
    · omega
    · simp only [hd, List.drop_succ_cons, List.drop_zero, num2] at c
      omega
theorem unp_cut {p : Pk} (h : PkOk p) {at_ : Nat} (ha : at_ < (pkd p).length) : unp ((pkd p).take at_) = none := by
  rw [pkd_len] at ha
  have h4 := h.bl
  by_cases c : at_ < 13
  · unfold unp
    rw [if_pos (by rw [List.length_take, pkd_len]; omega)]
  · have e : (pkd p).take at_ = hd p ++ ([sm (hd p) / 256, sm (hd p) % 256] ++ p.b.take (at_ - 13)) := by
      unfold pkd
      rw [List.take_append, List.take_append, List.take_of_length_le (show (hd p).length ≤ at_ by show 11 ≤ at_; omega), List.take_of_length_le (show ([sm (hd p) / 256, sm (hd p) % 256] : List Int).length ≤ at_ - (hd p).length by show 2 ≤ at_ - 11; omega)]
      rfl
    rw [e, unp_of rfl, if_pos]
    refine .inr ?_
    simp only [hd, List.drop_succ_cons, List.drop_zero, num2, List.length_take]
    omega
theorem unp_more {p : Pk} (h : PkOk p) {x : Int} : unp (pkd p ++ [x]) = none := by
  have h4 := h.bl
  have e : pkd p ++ [x] = hd p ++ ([sm (hd p) / 256, sm (hd p) % 256] ++ (p.b ++ [x])) := by
    unfold pkd
    rw [List.append_assoc, List.append_assoc]
  rw [e, unp_of rfl, if_pos]
  refine .inr ?_
  simp only [hd, List.drop_succ_cons, List.drop_zero, num2, List.length_append, List.length_singleton]
  omega
theorem set_app_l {h t : List Int} {i : Nat} {x : Int} (hi : i < h.length) : (h ++ t).set i x = h.set i x ++ t := List.set_append_left i x hi
theorem set_app_r {h t : List Int} {i : Nat} {x : Int} (hi : h.length ≤ i) : (h ++ t).set i x = h ++ t.set (i - h.length) x := List.set_append_right i x hi
theorem unp_bent {p : Pk} (h : PkOk p) {i : Nat} {x : Int} (hi : i < (pkd p).length) (x0 : 0 ≤ x) (x1 : x ≤ 255) (ne : x ≠ ((pkd p)[i]?).getD 0) :
    unp ((pkd p).set i x) = if i < 13 then none else some { p with b := ((pkd p).set i x).drop 13 } := by
  have r := sm_rng (hd_oct h)
  by_cases c : i < 11
  · rw [if_pos (by omega)]
    have ne' : x ≠ ((hd p)[i]?).getD 0 := by
      unfold pkd at ne
      rw [List.getElem?_append_left (show i < (hd p).length from c)] at ne
      exact ne
    have q := sm_set (show i < (hd p).length from c) (hd_oct h) x0 x1 ne'
    unfold pkd
    rw [set_app_l (show i < (hd p).length from c), unp_of (by rw [List.length_set]; rfl), if_pos]
    refine .inl ?_
    omega
  · by_cases d : i < 13
    · rw [if_pos d]
      have e : (pkd p).set i x = hd p ++ ((([sm (hd p) / 256, sm (hd p) % 256] : List Int).set (i - 11) x) ++ p.b) := by
        unfold pkd
        rw [set_app_r (show (hd p).length ≤ i by show 11 ≤ i; omega)]
        show hd p ++ ([sm (hd p) / 256, sm (hd p) % 256] ++ p.b).set (i - 11) x = _
        rw [set_app_l (by show i - 11 < 2; omega)]
      have ne' : x ≠ ((([sm (hd p) / 256, sm (hd p) % 256] : List Int))[i - 11]?).getD 0 := by
        unfold pkd at ne
        rw [List.getElem?_append_right (show (hd p).length ≤ i by show 11 ≤ i; omega)] at ne
        rw [List.getElem?_append_left (show i - (hd p).length < 2 by show i - 11 < 2; omega)] at ne
        exact ne
      rw [e]
      have : i = 11 ∨ i = 12 := by omega
      rcases this with rfl | rfl
      · have ne'' : x ≠ sm (hd p) / 256 := ne'
        show unp (hd p ++ ([x, sm (hd p) % 256] ++ p.b)) = none
        rw [unp_of rfl, if_pos]
        exact .inl (by omega)
      · have ne'' : x ≠ sm (hd p) % 256 := ne'
        show unp (hd p ++ ([sm (hd p) / 256, x] ++ p.b)) = none
        rw [unp_of rfl, if_pos]
        exact .inl (by omega)
    · rw [if_neg d]
      have hl := pkd_len (p := p)
      have e : (pkd p).set i x = hd p ++ ([sm (hd p) / 256, sm (hd p) % 256] ++ p.b.set (i - 13) x) := by
        unfold pkd
        rw [set_app_r (show (hd p).length ≤ i by show 11 ≤ i; omega)]
        show hd p ++ ([sm (hd p) / 256, sm (hd p) % 256] ++ p.b).set (i - 11) x = _
        rw [set_app_r (show 2 ≤ i - 11 by omega)]
        show hd p ++ ([sm (hd p) / 256, sm (hd p) % 256] ++ p.b.set (i - 11 - 2) x) = _
        rw [show i - 11 - 2 = i - 13 by omega]
      have ok' : PkOk { p with b := p.b.set (i - 13) x } := ⟨h.s, h.g, h.k, h.l, h.n, h.p, fun y hy => by
        rcases List.mem_or_eq_of_mem_set hy with c | c
        · exact h.b y c
        · rw [c]; exact ⟨x0, x1⟩, by rw [List.length_set]; exact h.bl⟩
      have hh : hd { p with b := p.b.set (i - 13) x } = hd p := by unfold hd; rw [List.length_set]
      have u := unp_pkd ok'
      unfold pkd at u
      rw [hh] at u
      rw [e, u]
      have e2 : (hd p ++ ([sm (hd p) / 256, sm (hd p) % 256] ++ p.b.set (i - 13) x)).drop 13 = p.b.set (i - 13) x := by
        rw [List.drop_append, List.drop_of_length_le (show (hd p).length ≤ 13 by show 11 ≤ 13; decide)]
        rfl
      rw [e2]
theorem unp_ge {ns : List Int} (h : ¬ ns.length < 13) : unp ns = if num ((ns.take 13).drop 11) ≠ sm (ns.take 11) ∨ num (((ns.take 11).take 11).drop 9) ≠ ((ns.drop 13).length : Int) then none
  else if (4 : Int) ≤ ((ns.take 11)[2]?).getD 0 ∨ (1 : Int) < ((ns.take 11)[8]?).getD 0 ∨ 512 < (ns.drop 13).length then none
  else some ⟨((ns.take 11)[0]?).getD 0, ((ns.take 11)[1]?).getD 0, (((ns.take 11)[2]?).getD 0).toNat, ((ns.take 11)[3]?).getD 0, num (((ns.take 11).take 6).drop 4), num (((ns.take 11).take 8).drop 6), decide (((ns.take 11)[8]?).getD 0 = 1), ns.drop 13⟩ := by
  unfold unp
  rw [if_neg h]
/-! ### words of texts, plainly -/
def toks (l : List Nat) : List (List Nat) := (TL.spl [32] 0 [] l).filter fun w => decide (w ≠ [])
def Wd (w : List Nat) : Prop := w ≠ [] ∧ 32 ∉ w
theorem toks_nil : toks [] = [] := rfl
theorem toks_app {p r : List Nat} (h : 32 ∉ p) : toks (p ++ 32 :: r) = (if p = [] then [] else [p]) ++ toks r := by
  unfold toks
  rw [show p ++ 32 :: r = p ++ ([32] ++ r) from rfl, TL.spl_part1 h, List.nil_append, List.filter_cons]
  by_cases c : p = []
  · rw [if_pos c, c]; rfl
  · rw [if_neg c, if_pos (decide_eq_true c)]; rfl
theorem toks_last {p : List Nat} (h : 32 ∉ p) : toks p = if p = [] then [] else [p] := by
  unfold toks
  rw [TL.spl_last1 h, List.nil_append, List.filter_cons]
  by_cases c : p = []
  · rw [if_pos c, c]; rfl
  · rw [if_neg c, if_pos (decide_eq_true c)]; rfl
theorem toks_sp (r : List Nat) : toks (32 :: r) = toks r := by
  have := toks_app (p := []) (r := r) (by simp)
  rw [if_pos rfl] at this
  exact this
theorem toks_sps (r : List Nat) : ∀ k, toks (List.replicate k 32 ++ r) = toks r
  | 0 => rfl
  | k + 1 => by
    show toks (32 :: (List.replicate k 32 ++ r)) = _
    rw [toks_sp, toks_sps r k]
theorem toks_cons {w r : List Nat} (h : Wd w) : toks (w ++ 32 :: r) = w :: toks r := by
  rw [toks_app h.2, if_neg h.1]; rfl
/-- words, with one or more spaces between, some behind -/
theorem toks_join : ∀ (ws : List (List Nat)) (j k : Nat), (∀ w ∈ ws, Wd w) → toks (TL.joinL (List.replicate (j + 1) 32) ws ++ List.replicate k 32) = ws
  | [], j, k, _ => by
    have := toks_sps [] k
    rw [List.append_nil] at this
    exact this
  | [w], j, k, h => by
    have hw := h w List.mem_cons_self
    cases k with
    | zero =>
      show toks (w ++ []) = _
      rw [List.append_nil, toks_last hw.2, if_neg hw.1]
    | succ k =>
      show toks (w ++ 32 :: List.replicate k 32) = _
      rw [toks_cons hw]
      have := toks_sps [] k
      rw [List.append_nil] at this
      rw [this]
      rfl
  | w :: v :: r, j, k, h => by
    have hw := h w List.mem_cons_self
    show toks (w ++ ((32 :: List.replicate j 32) ++ TL.joinL (List.replicate (j + 1) 32) (v :: r)) ++ List.replicate k 32) = _
    rw [List.append_assoc, List.append_assoc]
    show toks (w ++ 32 :: (List.replicate j 32 ++ (TL.joinL (List.replicate (j + 1) 32) (v :: r) ++ List.replicate k 32))) = _
    rw [toks_cons hw, toks_sps, toks_join (v :: r) j k fun x hx => h x (List.mem_cons_of_mem _ hx)]
theorem toks_join1 {ws : List (List Nat)} (h : ∀ w ∈ ws, Wd w) : toks (TL.joinL [32] ws) = ws := by
  have := toks_join ws 0 0 h
  simpa using this
theorem join_snoc {S w : List Nat} : ∀ {ws : List (List Nat)}, ws ≠ [] → TL.joinL S (ws ++ [w]) = TL.joinL S ws ++ (S ++ w)
  | [], h => absurd rfl h
  | [v], _ => rfl
  | v :: u :: r, _ => by
    show v ++ (S ++ TL.joinL S ((u :: r) ++ [w])) = v ++ (S ++ TL.joinL S (u :: r)) ++ (S ++ w)
    rw [join_snoc (by simp), List.append_assoc, List.append_assoc]
theorem join_cons {S v : List Nat} {ws : List (List Nat)} (h : ws ≠ []) : TL.joinL S (v :: ws) = v ++ (S ++ TL.joinL S ws) := by
  cases ws with
  | nil => exact absurd rfl h
  | cons u r => rfl
/-! ### numbers in texts -/
def isDig (c : Nat) : Bool := decide (48 ≤ c) && decide (c ≤ 57)
def numW (w : List Nat) (most : Int) : Option Int :=
  if w = [] ∨ w.all isDig = false ∨ (1 < w.length ∧ w.head? = some 48) then none
  else if 5 < w.length ∨ ((NumText.digitsVal w : Nat) : Int) > most then none else some (NumText.digitsVal w)
theorem numL_all (n : Nat) : (TL.numL n).all isDig = true := List.all_eq_true.mpr fun c hc => by
  have := TL.numL_digits n c hc
  unfold isDig
  rw [decide_eq_true this.1, decide_eq_true this.2]; rfl
theorem numL_head : ∀ n : Nat, 0 < n → (TL.numL n).head? ≠ some 48
  | n, h => by
    by_cases c : n < 10
    · rw [TL.numL_lt c]
      intro e
      have := Option.some.inj e
      omega
    · have ih := numL_head (n / 10) (by omega)
      rw [TL.numL_step (by omega)]
      cases e : TL.numL (n / 10) with
      | nil => exact absurd e (TL.numL_ne _)
      | cons a r =>
        rw [e] at ih
        exact ih
  termination_by n => n
  decreasing_by omega
theorem numL_lead (n : Nat) : ¬ (1 < (TL.numL n).length ∧ (TL.numL n).head? = some 48) := by
  rintro ⟨h1, h2⟩
  cases n with
  | zero => rw [TL.numL_lt (by decide)] at h1; exact absurd h1 (by decide)
  | succ n => exact numL_head (n + 1) (by omega) h2
theorem numW_num {n : Nat} {most : Int} (h : (n : Int) ≤ most) (h5 : n < 100000) : numW (TL.numL n) most = some (n : Int) := by
  unfold numW
  rw [if_neg, if_neg, TL.numL_val]
  · have := TL.numL_len (k := 5) (by decide) (show n < 10 ^ 5 by omega)
    rw [TL.numL_val]
    omega
  · rintro (c | c | c)
    · exact TL.numL_ne n c
    · rw [numL_all] at c; cases c
    · exact numL_lead n c
theorem numW_none {w : List Nat} {most : Int} (h : w.all isDig = false) : numW w most = none := by
  unfold numW
  rw [if_pos (.inr (.inl h))]
theorem numW_nil {most : Int} : numW [] most = none := by
  unfold numW
  rw [if_pos (.inl rfl)]
theorem numW_zero {w : List Nat} {most : Int} (h : w ≠ []) : numW (48 :: w) most = none := by
  unfold numW
  have := List.length_pos_iff.mpr h
  rw [if_pos (.inr (.inr ⟨by rw [List.length_cons]; omega, rfl⟩))]
theorem numW_hi {n : Nat} {most : Int} (h : most < (n : Int)) : numW (TL.numL n) most = none := by
  unfold numW
  by_cases c : TL.numL n = [] ∨ (TL.numL n).all isDig = false ∨ (1 < (TL.numL n).length ∧ (TL.numL n).head? = some 48)
  · rw [if_pos c]
  · rw [if_neg c, if_pos (.inr (by rw [TL.numL_val]; exact h))]
/-! ### packets in words -/
def kW : Nat → List Nat
  | 0 => [100, 97, 116, 97]
  | 1 => [114, 111, 117, 116, 101]
  | 2 => [112, 114, 111, 98, 101]
  | _ => [116, 101, 108, 108]
def lifeW : List Nat := [108, 105, 102, 101]
def numberW : List Nat := [110, 117, 109, 98, 101, 114]
def placeW : List Nat := [112, 108, 97, 99, 101]
def moreW : List Nat := [109, 111, 114, 101]
def kindOf (w : List Nat) : Option Nat := if w = kW 0 then some 0 else if w = kW 1 then some 1 else if w = kW 2 then some 2 else if w = kW 3 then some 3 else none
def gw (ws : List (List Nat)) (i : Nat) : List Nat := (ws[i]?).getD []
def bodyL : List (List Nat) → Nat → List Int → List Int ⊕ Nat
  | [], _, acc => .inl acc
  | w :: r, i, acc => if acc.length = 512 then .inr i else match numW w 255 with
    | none => .inr i
    | some v => bodyL r (i + 1) (acc ++ [v])
def pBody (ws : List (List Nat)) (k : Nat) (s g l n p : Int) (m : Bool) (j : Nat) : Pk ⊕ Nat :=
  if gw ws j ≠ [58] then .inr j else match bodyL (ws.drop (j + 1)) (j + 1) [] with
    | .inr i => .inr i
    | .inl b => .inl ⟨s, g, k, l, n, p, m, b⟩
def pars (ws : List (List Nat)) : Pk ⊕ Nat :=
  match kindOf (gw ws 0) with
  | none => .inr 0
  | some k => match numW (gw ws 1) 255 with
    | none => .inr 1
    | some s => if gw ws 2 ≠ [62] then .inr 2 else match numW (gw ws 3) 255 with
      | none => .inr 3
      | some g => if gw ws 4 ≠ lifeW then .inr 4 else match numW (gw ws 5) 255 with
        | none => .inr 5
        | some l => if gw ws 6 ≠ numberW then .inr 6 else match numW (gw ws 7) 65535 with
          | none => .inr 7
          | some n => if gw ws 8 ≠ placeW then .inr 8 else match numW (gw ws 9) 65535 with
            | none => .inr 9
            | some p => if gw ws 10 = moreW then pBody ws k s g l n p true 11 else pBody ws k s g l n p false 10
def nw (i : Int) : List Nat := TL.numL i.toNat
def wsF (p : Pk) : List (List Nat) := [kW p.k, nw p.s, [62], nw p.g, lifeW, nw p.l, numberW, nw p.n, placeW, nw p.p]
def wsM (p : Pk) : List (List Nat) := if p.m then [moreW] else []
def wsO (p : Pk) : List (List Nat) := wsF p ++ (wsM p ++ ([58] :: p.b.map nw))
theorem kind_kW {k : Nat} (h : k < 4) : kindOf (kW k) = some k := by
  match k, h with
  | 0, _ => decide
  | 1, _ => decide
  | 2, _ => decide
  | 3, _ => decide
theorem nw_num {i most : Int} (h0 : 0 ≤ i) (h1 : i ≤ most) (h2 : i ≤ 65535) : numW (nw i) most = some i := by
  have e : ((i.toNat : Nat) : Int) = i := Int.toNat_of_nonneg h0
  have := numW_num (n := i.toNat) (most := most) (by omega) (by omega)
  rw [e] at this
  exact this
theorem bodyL_cons {w : List Nat} {r : List (List Nat)} {i : Nat} {acc : List Int} : bodyL (w :: r) i acc = if acc.length = 512 then .inr i else match numW w 255 with
    | none => .inr i
    | some v => bodyL r (i + 1) (acc ++ [v]) := rfl
theorem body_ok {r : List (List Nat)} : ∀ (b acc : List Int) (i : Nat), (∀ x ∈ b, 0 ≤ x ∧ x ≤ 255) → acc.length + b.length ≤ 512 → bodyL (b.map nw ++ r) i acc = bodyL r (i + b.length) (acc ++ b)
  | [], acc, i, _, _ => by rw [List.append_nil]; rfl
  | x :: b, acc, i, h, hl => by
    have hx := h x List.mem_cons_self
    rw [List.length_cons] at hl
    show bodyL (nw x :: (b.map nw ++ r)) i acc = _
    rw [bodyL_cons, if_neg (show ¬ acc.length = 512 by omega), nw_num hx.1 hx.2 (Int.le_trans hx.2 (by decide))]
    dsimp only
    rw [body_ok b (acc ++ [x]) (i + 1) (fun y hy => h y (List.mem_cons_of_mem _ hy)) (by rw [List.length_append, List.length_singleton]; omega), List.append_assoc, List.length_cons, show i + 1 + b.length = i + (b.length + 1) by omega]
    rfl
theorem body_bad {r : List (List Nat)} {w : List Nat} {b acc : List Int} {i : Nat} (h : ∀ x ∈ b, 0 ≤ x ∧ x ≤ 255) (hl : acc.length + b.length ≤ 512) (hw : numW w 255 = none) : bodyL (b.map nw ++ (w :: r)) i acc = .inr (i + b.length) := by
  rw [body_ok b acc i h hl, bodyL_cons]
  split
  · rfl
  · rw [hw]

theorem body_all {b : List Int} {i : Nat} (h : ∀ x ∈ b, 0 ≤ x ∧ x ≤ 255) (hl : b.length ≤ 512) : bodyL (b.map nw) i [] = .inl b := by
  have := body_ok (r := []) b [] i h (by rw [List.length_nil]; omega)
  rw [List.append_nil, List.nil_append] at this
  rw [this]
  rfl
theorem nw_dig (i : Int) : (nw i).all isDig = true := numL_all _
theorem nw_ne (i : Int) : nw i ≠ [] := TL.numL_ne _
theorem nw_free (i : Int) {c : Nat} (h : c < 48 ∨ 57 < c) : c ∉ nw i := TL.numL_free h
theorem nw_wd (i : Int) : Wd (nw i) := ⟨nw_ne i, nw_free i (by omega)⟩
theorem nw_not {i : Int} {w : List Nat} (h : w.all isDig = false) : nw i ≠ w := fun e => by
  have := nw_dig i
  rw [e, h] at this
  cases this
theorem kW_wd (k : Nat) : Wd (kW k) := by
  match k with
  | 0 => exact ⟨by decide, by decide⟩
  | 1 => exact ⟨by decide, by decide⟩
  | 2 => exact ⟨by decide, by decide⟩
  | _ + 3 => exact (show Wd (kW 3) from ⟨by decide, by decide⟩)
theorem kW_nd (k : Nat) : (kW k).all isDig = false := by
  match k with
  | 0 => decide
  | 1 => decide
  | 2 => decide
  | _ + 3 => exact (show (kW 3).all isDig = false by decide)
theorem kW_nc (k : Nat) : kW k ≠ [58] := by
  match k with
  | 0 => decide
  | 1 => decide
  | 2 => decide
  | _ + 3 => exact (show kW 3 ≠ [58] by decide)
theorem wsO_wd (p : Pk) : ∀ w ∈ wsO p, Wd w := by
  intro w hw
  unfold wsO wsF at hw
  rcases List.mem_append.mp hw with c | c
  · simp only [List.mem_cons, List.not_mem_nil, or_false] at c
    rcases c with rfl | rfl | rfl | rfl | rfl | rfl | rfl | rfl | rfl | rfl
    · exact kW_wd _
    · exact nw_wd _
    · exact ⟨by decide, by decide⟩
    · exact nw_wd _
    · exact ⟨by decide, by decide⟩
    · exact nw_wd _
    · exact ⟨by decide, by decide⟩
    · exact nw_wd _
    · exact ⟨by decide, by decide⟩
    · exact nw_wd _
  · rcases List.mem_append.mp c with c | c
    · unfold wsM at c
      split at c
      · rw [List.mem_singleton.mp c]; exact ⟨by decide, by decide⟩
      · cases c
    · rcases List.mem_cons.mp c with c | c
      · rw [c]; exact ⟨by decide, by decide⟩
      · obtain ⟨i, _, rfl⟩ := List.mem_map.mp c
        exact nw_wd i
theorem wsO_ne (p : Pk) : wsO p ≠ [] := by
  unfold wsO wsF
  simp
/-- up to the tenth word -/
theorem pars_head {p : Pk} (h : PkOk p) (r : List (List Nat)) : pars (wsF p ++ r) = if gw (wsF p ++ r) 10 = moreW then pBody (wsF p ++ r) p.k p.s p.g p.l p.n p.p true 11 else pBody (wsF p ++ r) p.k p.s p.g p.l p.n p.p false 10 := by
  unfold pars
  have e0 : gw (wsF p ++ r) 0 = kW p.k := rfl
  have e1 : gw (wsF p ++ r) 1 = nw p.s := rfl
  have e2 : gw (wsF p ++ r) 2 = [62] := rfl
  have e3 : gw (wsF p ++ r) 3 = nw p.g := rfl
  have e4 : gw (wsF p ++ r) 4 = lifeW := rfl
  have e5 : gw (wsF p ++ r) 5 = nw p.l := rfl
  have e6 : gw (wsF p ++ r) 6 = numberW := rfl
  have e7 : gw (wsF p ++ r) 7 = nw p.n := rfl
  have e8 : gw (wsF p ++ r) 8 = placeW := rfl
  have e9 : gw (wsF p ++ r) 9 = nw p.p := rfl
  rw [e0, e1, e2, e3, e4, e5, e6, e7, e8, e9, kind_kW h.k, nw_num h.s.1 h.s.2 (by have := h.s.2; omega), nw_num h.g.1 h.g.2 (by have := h.g.2; omega), nw_num h.l.1 h.l.2 (by have := h.l.2; omega), nw_num h.n.1 h.n.2 h.n.2, nw_num h.p.1 h.p.2 h.p.2]
  dsimp only
  rw [if_neg (by simp), if_neg (by simp), if_neg (by simp), if_neg (by simp)]
theorem pBody_more {p : Pk} {r : List (List Nat)} {k : Nat} {s g l n q : Int} : pBody (wsF p ++ (moreW :: [58] :: r)) k s g l n q true 11 = match bodyL r 12 [] with
    | .inr i => .inr i
    | .inl b => .inl ⟨s, g, k, l, n, q, true, b⟩ := by
  unfold pBody
  rw [if_neg (by show ¬ (([58] : List Nat) ≠ [58]); simp)]
  rfl
theorem pBody_less {p : Pk} {r : List (List Nat)} {k : Nat} {s g l n q : Int} : pBody (wsF p ++ ([58] :: r)) k s g l n q false 10 = match bodyL r 11 [] with
    | .inr i => .inr i
    | .inl b => .inl ⟨s, g, k, l, n, q, false, b⟩ := by
  unfold pBody
  rw [if_neg (by show ¬ (([58] : List Nat) ≠ [58]); simp)]
  rfl
def j0 (p : Pk) : Nat := if p.m then 11 else 10
/-- a body of any words behind a right head -/
theorem pars_body {p : Pk} (h : PkOk p) (r : List (List Nat)) : pars (wsF p ++ (wsM p ++ ([58] :: r))) = match bodyL r (j0 p + 1) [] with
    | .inr i => .inr i
    | .inl b => .inl { p with b := b } := by
  rw [pars_head h]
  obtain ⟨s, g, k, l, n, q, m, b⟩ := p
  cases m with
  | true =>
    refine (if_pos (show moreW = moreW from rfl)).trans ?_
    exact pBody_more
  | false =>
    refine (if_neg (show ¬ (([58] : List Nat) = moreW) by decide)).trans ?_
    exact pBody_less
theorem pars_ok {p : Pk} (h : PkOk p) : pars (wsO p) = .inl p := by
  unfold wsO
  rw [pars_body h, body_all h.b h.bl]
theorem j0_len (p : Pk) : (wsF p ++ wsM p).length = j0 p := by
  unfold wsM j0
  cases p.m <;> rfl
theorem wsO_len (p : Pk) : (wsO p).length = j0 p + 1 + p.b.length := by
  unfold wsO
  rw [← List.append_assoc, List.length_append, j0_len, List.length_cons, List.length_map]
  omega
theorem pars_end {p : Pk} (h : PkOk p) : pars (wsO p ++ [TL.numL 256]) = .inr (wsO p).length := by
  have e : wsO p ++ [TL.numL 256] = wsF p ++ (wsM p ++ ([58] :: (p.b.map nw ++ [TL.numL 256]))) := by
    unfold wsO
    simp only [List.append_assoc, List.cons_append]
  rw [e, pars_body h, body_bad h.b (by rw [List.length_nil]; have := h.bl; omega) (numW_hi (by decide)), wsO_len]
theorem pars_wire {w : List Nat} {r : List (List Nat)} (h : kindOf w = none) : pars (w :: r) = .inr 0 := by
  unfold pars
  rw [show gw (w :: r) 0 = w from rfl, h]
theorem spl_len : ∀ (l acc : List Nat), (TL.spl [32] 0 acc l).length ≤ l.length + 1
  | [], acc => by rw [TL.spl_nil]; exact Nat.le_refl _
  | c :: r, acc => by
    cases h : TL.pre [32] (c :: r) with
    | true =>
      rw [TL.spl_hit h]
      have := spl_len r []
      rw [List.length_cons, List.length_cons]
      exact Nat.succ_le_succ this
    | false =>
      rw [TL.spl_miss h]
      exact Nat.le_succ_of_le (spl_len r _)
theorem spl_le (l : List Nat) : (TL.spl [32] 0 [] l).length ≤ l.length + 1 := spl_len l []
theorem spl_wd : ∀ (l acc : List Nat) {w : List Nat}, w ∈ TL.spl [32] 0 acc l → w.length ≤ acc.length + l.length
  | [], acc, w, h => by
    rw [TL.spl_nil] at h
    rw [List.mem_singleton.mp h]
    exact Nat.le_add_right _ _
  | c :: r, acc, w, h => by
    cases hp : TL.pre [32] (c :: r) with
    | true =>
      rw [TL.spl_hit hp] at h
      rcases List.mem_cons.mp h with e | e
      · rw [e]; exact Nat.le_add_right _ _
      · have := spl_wd r [] (show w ∈ TL.spl [32] 0 [] r from e)
        rw [List.length_nil] at this
        rw [List.length_cons]
        omega
    | false =>
      rw [TL.spl_miss hp] at h
      have := spl_wd r (acc ++ [c]) h
      rw [List.length_append, List.length_singleton] at this
      rw [List.length_cons]
      omega
theorem spl_word {l w : List Nat} (h : w ∈ TL.spl [32] 0 [] l) : w.length ≤ l.length := by
  have := spl_wd l [] h
  rw [List.length_nil] at this
  omega
theorem toks_len {l w : List Nat} (h : w ∈ toks l) : w.length ≤ l.length := spl_word (List.mem_filter.mp h).1
theorem toks_ne {l w : List Nat} (h : w ∈ toks l) : w ≠ [] := of_decide_eq_true (List.mem_filter.mp h).2
theorem toks_many (l : List Nat) : (toks l).length ≤ l.length + 1 := Nat.le_trans (List.length_filter_le _ _) (spl_le l)
theorem sum_le {n : Nat} : ∀ {ws : List (List Nat)}, (∀ w ∈ ws, w.length ≤ n) → (ws.map List.length).sum ≤ n * ws.length
  | [], _ => Nat.zero_le _
  | w :: r, h => by
    rw [List.map_cons, List.sum_cons, List.length_cons, Nat.mul_succ]
    have := h w List.mem_cons_self
    have := sum_le (ws := r) fun v hv => h v (List.mem_cons_of_mem _ hv)
    omega
theorem nw_len {i : Int} (h : i ≤ 65535) : (nw i).length ≤ 6 := by
  have := TL.numL_len (k := 5) (by decide) (show i.toNat < 10 ^ 5 by omega)
  unfold nw
  omega
theorem wsO_small {p : Pk} (h : PkOk p) : ∀ w ∈ wsO p, w.length ≤ 6 := by
  have := h.s
  have := h.g
  have := h.l
  have := h.n
  have := h.p
  intro w hw
  unfold wsO wsF at hw
  rcases List.mem_append.mp hw with c | c
  · simp only [List.mem_cons, List.not_mem_nil, or_false] at c
    rcases c with rfl | rfl | rfl | rfl | rfl | rfl | rfl | rfl | rfl | rfl
    · match p.k, h.k with
      | 0, _ => decide
      | 1, _ => decide
      | 2, _ => decide
      | 3, _ => decide
    · exact nw_len (by omega)
    · decide
    · exact nw_len (by omega)
    · decide
    · exact nw_len (by omega)
    · decide
    · exact nw_len (by omega)
    · decide
    · exact nw_len (by omega)
  · rcases List.mem_append.mp c with c | c
    · unfold wsM at c
      split at c
      · rw [List.mem_singleton.mp c]; decide
      · cases c
    · rcases List.mem_cons.mp c with c | c
      · rw [c]; decide
      · obtain ⟨i, hi, rfl⟩ := List.mem_map.mp c
        have := h.b i hi
        exact nw_len (by omega)
theorem wsO_many {p : Pk} (h : PkOk p) : (wsO p).length ≤ 600 := by
  rw [wsO_len]
  have := h.bl
  unfold j0
  split <;> omega
/-- each with a space ahead -/
def jf (ws : List (List Nat)) : List Nat := (ws.map fun w => 32 :: w).flatten
theorem join_jf : ∀ (w : List Nat) (r : List (List Nat)), TL.joinL [32] (w :: r) = w ++ jf r
  | w, [] => by
    show w = w ++ []
    rw [List.append_nil]
  | w, v :: r => by
    show w ++ ([32] ++ TL.joinL [32] (v :: r)) = w ++ ((32 :: v) ++ jf r)
    rw [join_jf v r]
    rfl
theorem join0 : ∀ ws : List (List Nat), TL.joinL [] ws = ws.flatten
  | [] => rfl
  | [w] => by
    show w = w ++ []
    rw [List.append_nil]
  | w :: v :: r => by
    show w ++ ([] ++ TL.joinL [] (v :: r)) = w ++ (v :: r).flatten
    rw [join0 (v :: r)]
    rfl
theorem txt_eq (p : Pk) : TL.joinL [32] (wsO p) = kW p.k ++ [32] ++ nw p.s ++ [32, 62, 32] ++ nw p.g ++ (32 :: lifeW ++ [32]) ++ nw p.l ++ (32 :: numberW ++ [32]) ++ nw p.n ++ (32 :: placeW ++ [32]) ++ nw p.p ++ (if p.m = true then 32 :: moreW else []) ++ [32, 58] ++ TL.joinL [] (p.b.map fun x => 32 :: nw x) := by
  unfold wsO wsF wsM
  show TL.joinL [32] (kW p.k :: _) = _
  rw [join_jf, join0]
  cases p.m with
  | true => simp [jf, List.map_map, Function.comp_def]
  | false => simp [jf, List.map_map, Function.comp_def]
/-! ### words that do not fit -/
def badAt (i : Nat) (w : List Nat) : Prop :=
  match i with
  | 0 => kindOf w = none
  | 1 => numW w 255 = none
  | 2 => w ≠ [62]
  | 3 => numW w 255 = none
  | 4 => w ≠ lifeW
  | 5 => numW w 255 = none
  | 6 => w ≠ numberW
  | 7 => numW w 65535 = none
  | 8 => w ≠ placeW
  | 9 => numW w 65535 = none
  | 10 => w ≠ moreW ∧ w ≠ [58]
  | _ => w ≠ [58]
theorem pars_at {p : Pk} (h : PkOk p) {ws : List (List Nat)} {at_ : Nat} (ha : at_ ≤ j0 p) (same : ∀ i, i < at_ → gw ws i = gw (wsO p) i) (hb : badAt at_ (gw ws at_)) : pars ws = .inr at_ := by
  have e0 : gw (wsO p) 0 = kW p.k := rfl
  have e1 : gw (wsO p) 1 = nw p.s := rfl
  have e2 : gw (wsO p) 2 = [62] := rfl
  have e3 : gw (wsO p) 3 = nw p.g := rfl
  have e4 : gw (wsO p) 4 = lifeW := rfl
  have e5 : gw (wsO p) 5 = nw p.l := rfl
  have e6 : gw (wsO p) 6 = numberW := rfl
  have e7 : gw (wsO p) 7 = nw p.n := rfl
  have e8 : gw (wsO p) 8 = placeW := rfl
  have e9 : gw (wsO p) 9 = nw p.p := rfl
  have k0 := kind_kW h.k
  have k1 := nw_num h.s.1 h.s.2 (by have := h.s.2; omega)
  have k3 := nw_num h.g.1 h.g.2 (by have := h.g.2; omega)
  have k5 := nw_num h.l.1 h.l.2 (by have := h.l.2; omega)
  have k7 := nw_num h.n.1 h.n.2 h.n.2
  have k9 := nw_num h.p.1 h.p.2 h.p.2
  have hj : at_ ≤ 11 := by unfold j0 at ha; split at ha <;> omega
  unfold pars
  match at_, hj with
  | 0, _ =>
    rw [show kindOf (gw ws 0) = none from hb]
  | 1, _ =>
    rw [same 0 (by omega), e0, k0]
    dsimp only
    rw [show numW (gw ws 1) 255 = none from hb]
  | 2, _ =>
    rw [same 0 (by omega), same 1 (by omega), e0, e1, k0, k1]
    dsimp only
    rw [if_pos (show gw ws 2 ≠ [62] from hb)]
  | 3, _ =>
    rw [same 0 (by omega), same 1 (by omega), same 2 (by omega), e0, e1, e2, k0, k1]
    dsimp only
    rw [if_neg (by simp), show numW (gw ws 3) 255 = none from hb]
  | 4, _ =>
    rw [same 0 (by omega), same 1 (by omega), same 2 (by omega), same 3 (by omega), e0, e1, e2, e3, k0, k1, k3]
    dsimp only
    rw [if_neg (by simp), if_pos (show gw ws 4 ≠ lifeW from hb)]
  | 5, _ =>
    rw [same 0 (by omega), same 1 (by omega), same 2 (by omega), same 3 (by omega), same 4 (by omega), e0, e1, e2, e3, e4, k0, k1, k3]
    dsimp only
    rw [if_neg (by simp), if_neg (by simp), show numW (gw ws 5) 255 = none from hb]
  | 6, _ =>
    rw [same 0 (by omega), same 1 (by omega), same 2 (by omega), same 3 (by omega), same 4 (by omega), same 5 (by omega), e0, e1, e2, e3, e4, e5, k0, k1, k3, k5]
    dsimp only
    rw [if_neg (by simp), if_neg (by simp), if_pos (show gw ws 6 ≠ numberW from hb)]
  | 7, _ =>
    rw [same 0 (by omega), same 1 (by omega), same 2 (by omega), same 3 (by omega), same 4 (by omega), same 5 (by omega), same 6 (by omega), e0, e1, e2, e3, e4, e5, e6, k0, k1, k3, k5]
    dsimp only
    rw [if_neg (by simp), if_neg (by simp), if_neg (by simp), show numW (gw ws 7) 65535 = none from hb]
  | 8, _ =>
    rw [same 0 (by omega), same 1 (by omega), same 2 (by omega), same 3 (by omega), same 4 (by omega), same 5 (by omega), same 6 (by omega), same 7 (by omega), e0, e1, e2, e3, e4, e5, e6, e7, k0, k1, k3, k5, k7]
    dsimp only
    rw [if_neg (by simp), if_neg (by simp), if_neg (by simp), if_pos (show gw ws 8 ≠ placeW from hb)]
  | 9, _ =>
    rw [same 0 (by omega), same 1 (by omega), same 2 (by omega), same 3 (by omega), same 4 (by omega), same 5 (by omega), same 6 (by omega), same 7 (by omega), same 8 (by omega), e0, e1, e2, e3, e4, e5, e6, e7, e8, k0, k1, k3, k5, k7]
    dsimp only
    rw [if_neg (by simp), if_neg (by simp), if_neg (by simp), if_neg (by simp), show numW (gw ws 9) 65535 = none from hb]
  | 10, _ =>
    rw [same 0 (by omega), same 1 (by omega), same 2 (by omega), same 3 (by omega), same 4 (by omega), same 5 (by omega), same 6 (by omega), same 7 (by omega), same 8 (by omega), same 9 (by omega), e0, e1, e2, e3, e4, e5, e6, e7, e8, e9, k0, k1, k3, k5, k7, k9]
    dsimp only
    have hb' : gw ws 10 ≠ moreW ∧ gw ws 10 ≠ [58] := hb
    rw [if_neg (by simp), if_neg (by simp), if_neg (by simp), if_neg (by simp), if_neg hb'.1]
    unfold pBody
    rw [if_pos hb'.2]
  | 11, _ =>
    have hm : p.m = true := by
      unfold j0 at ha
      cases q : p.m with
      | true => rfl
      | false => rw [q] at ha; simp at ha
    have e10 : gw (wsO p) 10 = moreW := by
      unfold wsO wsM
      rw [hm]
      rfl
    rw [same 0 (by omega), same 1 (by omega), same 2 (by omega), same 3 (by omega), same 4 (by omega), same 5 (by omega), same 6 (by omega), same 7 (by omega), same 8 (by omega), same 9 (by omega), same 10 (by omega), e0, e1, e2, e3, e4, e5, e6, e7, e8, e9, e10, k0, k1, k3, k5, k7, k9]
    dsimp only
    rw [if_neg (by simp), if_neg (by simp), if_neg (by simp), if_neg (by simp), if_pos rfl]
    unfold pBody
    rw [if_pos (show gw ws 11 ≠ [58] from hb)]
theorem bad_nil (i : Nat) : badAt i [] := by
  match i with
  | 0 => exact (show kindOf [] = none by decide)
  | 1 => exact numW_nil
  | 2 => exact (show ([] : List Nat) ≠ [62] by decide)
  | 3 => exact numW_nil
  | 4 => exact (show ([] : List Nat) ≠ lifeW by decide)
  | 5 => exact numW_nil
  | 6 => exact (show ([] : List Nat) ≠ numberW by decide)
  | 7 => exact numW_nil
  | 8 => exact (show ([] : List Nat) ≠ placeW by decide)
  | 9 => exact numW_nil
  | 10 => exact (show ([] : List Nat) ≠ moreW ∧ ([] : List Nat) ≠ [58] by decide)
  | _ + 11 => exact (show ([] : List Nat) ≠ [58] by decide)
theorem gw_take {ws : List (List Nat)} {i k : Nat} (h : i < k) : gw (ws.take k) i = gw ws i := by
  unfold gw
  rw [List.getElem?_take, if_pos h]
theorem gw_take_end {ws : List (List Nat)} {k : Nat} : gw (ws.take k) k = [] := by
  unfold gw
  rw [List.getElem?_take, if_neg (by omega)]
  rfl
/-- some of the words left out at the end -/
theorem pars_take {p : Pk} (h : PkOk p) {k : Nat} (hk : k ≤ j0 p) : pars ((wsO p).take k) = .inr k :=
  pars_at h hk (fun i hi => gw_take hi) (by rw [gw_take_end]; exact bad_nil k)
theorem gw_put {ws : List (List Nat)} {i k : Nat} {x : List Nat} (h : i < k) (hk : k < ws.length) : gw (ws.take k ++ [x] ++ ws.drop (k + 1)) i = gw ws i := by
  unfold gw
  rw [List.append_assoc, List.getElem?_append_left (by rw [List.length_take]; omega), List.getElem?_take, if_pos h]
theorem gw_put_at {ws : List (List Nat)} {k : Nat} {x : List Nat} (hk : k < ws.length) : gw (ws.take k ++ [x] ++ ws.drop (k + 1)) k = x := by
  unfold gw
  rw [List.append_assoc, List.getElem?_append_right (by rw [List.length_take]; omega), List.length_take, Nat.min_eq_left (by omega), Nat.sub_self]
  rfl
/-- the words, by their places -/
theorem wsO_get {p : Pk} {k : Nat} {w : List Nat} (h : (wsO p)[k]? = some w) : (k = 0 ∧ w = kW p.k) ∨ (k = 1 ∧ w = nw p.s) ∨ (k = 2 ∧ w = [62]) ∨ (k = 3 ∧ w = nw p.g) ∨ (k = 4 ∧ w = lifeW) ∨ (k = 5 ∧ w = nw p.l) ∨ (k = 6 ∧ w = numberW) ∨ (k = 7 ∧ w = nw p.n) ∨ (k = 8 ∧ w = placeW) ∨ (k = 9 ∧ w = nw p.p) ∨
    (k = 10 ∧ p.m = true ∧ w = moreW) ∨ (k = j0 p ∧ w = [58]) ∨ ∃ x : Nat, k = j0 p + 1 + x ∧ ∃ i, p.b[x]? = some i ∧ w = nw i := by
  unfold wsO at h
  by_cases c : k < 10
  · rw [List.getElem?_append_left (show k < (wsF p).length from c)] at h
    have : k = 0 ∨ k = 1 ∨ k = 2 ∨ k = 3 ∨ k = 4 ∨ k = 5 ∨ k = 6 ∨ k = 7 ∨ k = 8 ∨ k = 9 := by omega
    rcases this with rfl | rfl | rfl | rfl | rfl | rfl | rfl | rfl | rfl | rfl <;> cases h <;> simp
  · rw [← List.append_assoc] at h
    have hj := j0_len p
    by_cases d : k < j0 p
    · have hm : p.m = true ∧ k = 10 := by
        unfold j0 at d
        split at d
        · rename_i q; exact ⟨q, by omega⟩
        · omega
      rw [hm.2] at h ⊢
      unfold wsM at h
      rw [hm.1] at h
      cases h
      simp [hm.1]
    · rw [List.getElem?_append_right (by omega), hj] at h
      by_cases e : k = j0 p
      · rw [e, Nat.sub_self] at h
        cases h
        simp [e]
      · obtain ⟨x, hx⟩ : ∃ x, k = j0 p + 1 + x := ⟨k - j0 p - 1, by omega⟩
        rw [hx, show j0 p + 1 + x - j0 p = x + 1 by omega, List.getElem?_cons_succ, List.getElem?_map] at h
        cases q : p.b[x]? with
        | none => rw [q] at h; cases h
        | some i =>
          rw [q] at h
          cases h
          right; right; right; right; right; right; right; right; right; right; right; right
          exact ⟨x, hx, i, q, rfl⟩
theorem j0_le (p : Pk) : 10 ≤ j0 p ∧ j0 p ≤ 11 := by unfold j0; split <;> omega
/-- q instead of a word that must be so -/
theorem pars_q {p : Pk} (h : PkOk p) {k : Nat} {w : List Nat} (hw : (wsO p)[k]? = some w) (hk : (k = 2 ∨ k = 4 ∨ k = 6 ∨ k = 8) ∨ w = [58]) : pars ((wsO p).take k ++ [[113]] ++ (wsO p).drop (k + 1)) = .inr k := by
  have hl := (List.getElem?_eq_some_iff.mp hw).1
  have hj := j0_le p
  have go : k ≤ j0 p → badAt k [113] → pars ((wsO p).take k ++ [[113]] ++ (wsO p).drop (k + 1)) = .inr k := fun a b => pars_at h a (fun i hi => gw_put hi hl) (by rw [gw_put_at hl]; exact b)
  rcases hk with (rfl | rfl | rfl | rfl) | rfl
  · exact go (by omega) (show ([113] : List Nat) ≠ [62] by decide)
  · exact go (by omega) (show ([113] : List Nat) ≠ lifeW by decide)
  · exact go (by omega) (show ([113] : List Nat) ≠ numberW by decide)
  · exact go (by omega) (show ([113] : List Nat) ≠ placeW by decide)
  · have hc : ([58] : List Nat).all isDig = false := by decide
    rcases wsO_get hw with ⟨_, e⟩ | ⟨_, e⟩ | ⟨_, e⟩ | ⟨_, e⟩ | ⟨_, e⟩ | ⟨_, e⟩ | ⟨_, e⟩ | ⟨_, e⟩ | ⟨_, e⟩ | ⟨_, e⟩ | ⟨_, _, e⟩ | ⟨e, _⟩ | ⟨_, _, _, _, e⟩
    · exact absurd e.symm (kW_nc _)
    · exact absurd e.symm (nw_not hc)
    · exact absurd e (by decide)
    · exact absurd e.symm (nw_not hc)
    · exact absurd e (by decide)
    · exact absurd e.symm (nw_not hc)
    · exact absurd e (by decide)
    · exact absurd e.symm (nw_not hc)
    · exact absurd e (by decide)
    · exact absurd e.symm (nw_not hc)
    · exact absurd e (by decide)
    · refine go (by omega) ?_
      rw [e]
      unfold j0
      split
      · exact (show ([113] : List Nat) ≠ [58] by decide)
      · exact (show ([113] : List Nat) ≠ moreW ∧ ([113] : List Nat) ≠ [58] by decide)
    · exact absurd e.symm (nw_not hc)
/-- a 0 ahead of a number -/
theorem pars_zero {p : Pk} (h : PkOk p) {k : Nat} {w : List Nat} (hw : (wsO p)[k]? = some w) (hd : w.all isDig = true) : pars ((wsO p).take k ++ [48 :: w] ++ (wsO p).drop (k + 1)) = .inr k := by
  have hl := (List.getElem?_eq_some_iff.mp hw).1
  have hj := j0_le p
  have go : k ≤ j0 p → badAt k (48 :: w) → pars ((wsO p).take k ++ [48 :: w] ++ (wsO p).drop (k + 1)) = .inr k := fun a b => pars_at h a (fun i hi => gw_put hi hl) (by rw [gw_put_at hl]; exact b)
  have no : ∀ {v : List Nat}, w = v → v.all isDig = false → False := fun e f => by rw [e, f] at hd; cases hd
  rcases wsO_get hw with ⟨_, e⟩ | ⟨rfl, e⟩ | ⟨_, e⟩ | ⟨rfl, e⟩ | ⟨_, e⟩ | ⟨rfl, e⟩ | ⟨_, e⟩ | ⟨rfl, e⟩ | ⟨_, e⟩ | ⟨rfl, e⟩ | ⟨_, _, e⟩ | ⟨_, e⟩ | ⟨x, hx, i, hi, e⟩
  · exact (no e (kW_nd _)).elim
  · exact go (by omega) (numW_zero (by rw [e]; exact nw_ne _))
  · exact (no e (by decide)).elim
  · exact go (by omega) (numW_zero (by rw [e]; exact nw_ne _))
  · exact (no e (by decide)).elim
  · exact go (by omega) (numW_zero (by rw [e]; exact nw_ne _))
  · exact (no e (by decide)).elim
  · exact go (by omega) (numW_zero (by rw [e]; exact nw_ne _))
  · exact (no e (by decide)).elim
  · exact go (by omega) (numW_zero (by rw [e]; exact nw_ne _))
  · exact (no e (by decide)).elim
  · exact (no e (by decide)).elim
  · have hxl : x < p.b.length := (List.getElem?_eq_some_iff.mp hi).1
    have hjl := j0_len p
    have e1 : (wsO p).take k = wsF p ++ (wsM p ++ ([58] :: (p.b.take x).map nw)) := by
      unfold wsO
      rw [← List.append_assoc, List.take_append, List.take_of_length_le (by omega), hjl, hx, show j0 p + 1 + x - j0 p = x + 1 by omega, List.take_succ_cons, ← List.map_take, List.append_assoc]
    have e2 : (wsO p).take k ++ [48 :: w] ++ (wsO p).drop (k + 1) = wsF p ++ (wsM p ++ ([58] :: ((p.b.take x).map nw ++ ((48 :: w) :: (wsO p).drop (k + 1))))) := by
      rw [e1]
      simp only [List.append_assoc, List.cons_append, List.nil_append]
    rw [e2, pars_body h, body_bad (fun y hy => h.b y (List.mem_of_mem_take hy)) (by rw [List.length_nil, List.length_take]; have := h.bl; omega) (numW_zero (by rw [e]; exact nw_ne _)), List.length_take, Nat.min_eq_left (by omega), hx]
theorem idx_colon (p : Pk) : (wsO p).idxOf [58] = j0 p := by
  unfold wsO
  rw [← List.append_assoc, List.idxOf_append, if_neg, List.idxOf_cons_self, j0_len, Nat.zero_add]
  have hc : ([58] : List Nat).all isDig = false := by decide
  intro h
  rcases List.mem_append.mp h with c | c
  · unfold wsF at c
    simp only [List.mem_cons, List.not_mem_nil, or_false] at c
    rcases c with c | c | c | c | c | c | c | c | c | c
    · exact kW_nc _ c.symm
    · exact nw_not hc c.symm
    · exact absurd c (by decide)
    · exact nw_not hc c.symm
    · exact absurd c (by decide)
    · exact nw_not hc c.symm
    · exact absurd c (by decide)
    · exact nw_not hc c.symm
    · exact absurd c (by decide)
    · exact nw_not hc c.symm
  · unfold wsM at c
    split at c
    · exact absurd (List.mem_singleton.mp c) (by decide)
    · cases c
/-- an own exception with two fields -/
structure ExcT2 (P : Program) (K : PySem.W.Frag) (mg : Str → Option Value) (F : NdefX.NF) (f cc C : Addr) (fd : FuncData) (x : Str) (ps : List Str) : Prop extends ExcT P K mg F f cc C fd x ps where
  no_at : PySem.W.findIn K (.ref C) "at" = some none
def top (i : Nat) : Stmt := PySem.Challenge.pw_everyoctetonce_k03_packets.main.body.getD i (.Pass ⟨0, 0, 0, 0⟩)
abbrev s_two_octets : Stmt := top 2
theorem sc_two_octets : FnScope ["n"] ["n"] (defScope s_two_octets) := ⟨rfl, rfl, rfl, by decide +kernel, rfl, by decide +kernel, by decide +kernel⟩
abbrev s_number_of : Stmt := top 3
theorem sc_number_of : FnScope ["octets", "found", "own"] ["octets"] (defScope s_number_of) := ⟨rfl, rfl, rfl, by decide +kernel, rfl, by decide +kernel, by decide +kernel⟩
abbrev s_sum16 : Stmt := top 4
theorem sc_sum16 : FnScope ["octets", "found", "place", "second"] ["octets"] (defScope s_sum16) := ⟨rfl, rfl, rfl, by decide +kernel, rfl, by decide +kernel, by decide +kernel⟩
abbrev s_packed : Stmt := top 9
theorem sc_packed : FnScope ["packet", "source", "goal", "kind", "life", "number", "place", "more", "body", "head"] ["packet"] (defScope s_packed) := ⟨rfl, rfl, rfl, by decide +kernel, rfl, by decide +kernel, by decide +kernel⟩
abbrev s_unpacked : Stmt := top 10
theorem sc_unpacked : FnScope ["octets", "head", "body", "kind"] ["octets"] (defScope s_unpacked) := ⟨rfl, rfl, rfl, by decide +kernel, rfl, by decide +kernel, by decide +kernel⟩
abbrev s_TextError_init : Stmt := inClass (top 13) 0
abbrev s_format_packet : Stmt := top 18
theorem sc_format_packet : FnScope ["packet", "source", "goal", "kind", "life", "number", "place", "more", "body", "words", "own"] ["packet"] (defScope s_format_packet) := ⟨rfl, rfl, rfl, by decide +kernel, rfl, by decide +kernel, by decide +kernel⟩
abbrev s_Reader_init : Stmt := inClass (top 19) 0
theorem sc_Reader_init : FnScope ["self", "text", "word"] ["self", "text"] (defScope s_Reader_init) := ⟨rfl, rfl, rfl, by decide +kernel, rfl, by decide +kernel, by decide +kernel⟩
abbrev s_Reader_head : Stmt := inClass (top 19) 1
theorem sc_Reader_head : FnScope ["self"] ["self"] (defScope s_Reader_head) := ⟨rfl, rfl, rfl, by decide +kernel, rfl, by decide +kernel, by decide +kernel⟩
abbrev s_Reader_fail : Stmt := inClass (top 19) 2
theorem sc_Reader_fail : FnScope ["self"] ["self"] (defScope s_Reader_fail) := ⟨rfl, rfl, rfl, by decide +kernel, rfl, by decide +kernel, by decide +kernel⟩
abbrev s_Reader_need : Stmt := inClass (top 19) 3
theorem sc_Reader_need : FnScope ["self", "word"] ["self", "word"] (defScope s_Reader_need) := ⟨rfl, rfl, rfl, by decide +kernel, rfl, by decide +kernel, by decide +kernel⟩
abbrev s_Reader_number : Stmt := inClass (top 19) 4
theorem sc_Reader_number : FnScope ["self", "most", "word", "sign"] ["self", "most"] (defScope s_Reader_number) := ⟨rfl, rfl, rfl, by decide +kernel, rfl, by decide +kernel, by decide +kernel⟩
abbrev s_Reader_named : Stmt := inClass (top 19) 5
theorem sc_Reader_named : FnScope ["self", "word", "most"] ["self", "word", "most"] (defScope s_Reader_named) := ⟨rfl, rfl, rfl, by decide +kernel, rfl, by decide +kernel, by decide +kernel⟩
abbrev s_parse_packet : Stmt := top 20
theorem sc_parse_packet : FnScope ["text", "reader", "kind", "source", "goal", "life", "number", "place", "more", "body"] ["text"] (defScope s_parse_packet) := ⟨rfl, rfl, rfl, by decide +kernel, rfl, by decide +kernel, by decide +kernel⟩
abbrev s_law_begin : Stmt := top 22
theorem sc_law_begin : FnScope ["script", "seed", "cell"] ["script"] (defScope s_law_begin) := ⟨rfl, rfl, rfl, by decide +kernel, rfl, by decide +kernel, by decide +kernel⟩
abbrev s_law_take : Stmt := top 23
theorem sc_law_take : FnScope ["d", "many", "small", "digit"] ["d", "many"] (defScope s_law_take) := ⟨rfl, rfl, rfl, by decide +kernel, rfl, by decide +kernel, by decide +kernel⟩
abbrev s_law_pick : Stmt := top 24
theorem sc_law_pick : FnScope ["d", "menu"] ["d", "menu"] (defScope s_law_pick) := ⟨rfl, rfl, rfl, by decide +kernel, rfl, by decide +kernel, by decide +kernel⟩
abbrev s_law_octets : Stmt := top 25
theorem sc_law_octets : FnScope ["d", "most", "k"] ["d", "most"] (defScope s_law_octets) := ⟨rfl, rfl, rfl, by decide +kernel, rfl, by decide +kernel, by decide +kernel⟩
abbrev s_law_packet : Stmt := top 26
theorem sc_law_packet : FnScope ["d", "kind", "numbers", "k"] ["d"] (defScope s_law_packet) := ⟨rfl, rfl, rfl, by decide +kernel, rfl, by decide +kernel, by decide +kernel⟩
abbrev s_law_packed : Stmt := top 27
theorem sc_law_packed : FnScope ["packet", "source", "goal", "kind", "life", "number", "place", "more", "body", "head"] ["packet"] (defScope s_law_packed) := ⟨rfl, rfl, rfl, by decide +kernel, rfl, by decide +kernel, by decide +kernel⟩
abbrev s_law_text : Stmt := top 28
theorem sc_law_text : FnScope ["packet", "source", "goal", "kind", "life", "number", "place", "more", "body", "row", "own"] ["packet"] (defScope s_law_text) := ⟨rfl, rfl, rfl, by decide +kernel, rfl, by decide +kernel, by decide +kernel⟩
abbrev s_law_read : Stmt := top 29
theorem sc_law_read : FnScope ["text", "fault"] ["text"] (defScope s_law_read) := ⟨rfl, rfl, rfl, by decide +kernel, rfl, by decide +kernel, by decide +kernel⟩
abbrev s_law : Stmt := top 30
theorem sc_law : FnScope ["script", "d", "packet", "octets", "place", "bent", "other", "more", "due", "text", "words", "at", "sign"] ["script"] (defScope s_law) := ⟨rfl, rfl, rfl, by decide +kernel, rfl, by decide +kernel, by decide +kernel⟩
structure Adr where
  f_two_octets : Addr
  d_two_octets : FuncData
  f_number_of : Addr
  d_number_of : FuncData
  f_sum16 : Addr
  d_sum16 : FuncData
  f_packed : Addr
  d_packed : FuncData
  f_unpacked : Addr
  d_unpacked : FuncData
  f_TextError_init : Addr
  d_TextError_init : FuncData
  f_format_packet : Addr
  d_format_packet : FuncData
  f_Reader_init : Addr
  d_Reader_init : FuncData
  f_Reader_head : Addr
  d_Reader_head : FuncData
  f_Reader_fail : Addr
  d_Reader_fail : FuncData
  f_Reader_need : Addr
  d_Reader_need : FuncData
  f_Reader_number : Addr
  d_Reader_number : FuncData
  f_Reader_named : Addr
  d_Reader_named : FuncData
  f_parse_packet : Addr
  d_parse_packet : FuncData
  f_law_begin : Addr
  d_law_begin : FuncData
  f_law_take : Addr
  d_law_take : FuncData
  f_law_pick : Addr
  d_law_pick : FuncData
  f_law_octets : Addr
  d_law_octets : FuncData
  f_law_packet : Addr
  d_law_packet : FuncData
  f_law_packed : Addr
  d_law_packed : FuncData
  f_law_text : Addr
  d_law_text : FuncData
  f_law_read : Addr
  d_law_read : FuncData
  f_law : Addr
  d_law : FuncData
  c_TextError : Addr
  c_Reader : Addr
  cc_TextError : Addr
  cd_TextError : Addr
  g_KINDS : Addr
structure Txt (P : Program) (K : PySem.W.Frag) (mg : Str → Option Value) (A : Adr) : Prop where
  x_TextError : ExcT2 P K mg ⟨"__init__", "TextError.__init__", defArgs s_TextError_init, defBody s_TextError_init, defScope s_TextError_init, [("__class__", A.cc_TextError)], A.cd_TextError⟩ A.f_TextError_init A.cc_TextError A.c_TextError A.d_TextError_init "TextError" ["self", "code", "at"]
  two_octets : GF K mg "two_octets" s_two_octets ["n"] A.f_two_octets A.d_two_octets
  number_of : GF K mg "number_of" s_number_of ["octets"] A.f_number_of A.d_number_of
  sum16 : GF K mg "sum16" s_sum16 ["octets"] A.f_sum16 A.d_sum16
  packed : GF K mg "packed" s_packed ["packet"] A.f_packed A.d_packed
  unpacked : GF K mg "unpacked" s_unpacked ["octets"] A.f_unpacked A.d_unpacked
  format_packet : GF K mg "format_packet" s_format_packet ["packet"] A.f_format_packet A.d_format_packet
  Reader_init : MF K "__init__" "Reader.__init__" s_Reader_init ["self", "text"] A.c_Reader A.f_Reader_init A.d_Reader_init
  Reader_head : MF K "head" "Reader.head" s_Reader_head ["self"] A.c_Reader A.f_Reader_head A.d_Reader_head
  Reader_fail : MF K "fail" "Reader.fail" s_Reader_fail ["self"] A.c_Reader A.f_Reader_fail A.d_Reader_fail
  Reader_need : MF K "need" "Reader.need" s_Reader_need ["self", "word"] A.c_Reader A.f_Reader_need A.d_Reader_need
  Reader_number : MF K "number" "Reader.number" s_Reader_number ["self", "most"] A.c_Reader A.f_Reader_number A.d_Reader_number
  Reader_named : MF K "named" "Reader.named" s_Reader_named ["self", "word", "most"] A.c_Reader A.f_Reader_named A.d_Reader_named
  parse_packet : GF K mg "parse_packet" s_parse_packet ["text"] A.f_parse_packet A.d_parse_packet
  law_begin : GF K mg "_law_begin" s_law_begin ["script"] A.f_law_begin A.d_law_begin
  law_take : GF K mg "_law_take" s_law_take ["d", "many"] A.f_law_take A.d_law_take
  law_pick : GF K mg "_law_pick" s_law_pick ["d", "menu"] A.f_law_pick A.d_law_pick
  law_octets : GF K mg "_law_octets" s_law_octets ["d", "most"] A.f_law_octets A.d_law_octets
  law_packet : GF K mg "_law_packet" s_law_packet ["d"] A.f_law_packet A.d_law_packet
  law_packed : GF K mg "_law_packed" s_law_packed ["packet"] A.f_law_packed A.d_law_packed
  law_text : GF K mg "_law_text" s_law_text ["packet"] A.f_law_text A.d_law_text
  law_read : GF K mg "_law_read" s_law_read ["text"] A.f_law_read A.d_law_read
  law : GF K mg "law" s_law ["script"] A.f_law A.d_law
  Reader : CF K mg "Reader" ["words", "at"] A.c_Reader A.f_Reader_init
  b_range : mg "range" = none
  b_len : mg "len" = none
  b_tuple : mg "tuple" = none
  b_super : mg "super" = none
  b_str : mg "str" = none
  b_all : mg "all" = none
  b_int : mg "int" = none
  b_list : mg "list" = none
  b_abs : mg "abs" = none
  g_MOST : GV K mg "MOST" (.int 65536)
  g_KINDS : GV K mg "KINDS" (.ref A.g_KINDS)
  t_KINDS : ∀ H, SqT K H A.g_KINDS [(.str "data"), (.str "route"), (.str "probe"), (.str "tell")]
  y_KINDS : ∃ o, K.lookup A.g_KINDS = some o ∧ o.cls = .type "tuple" ∧ o.dict = none
  g_HEAD : GV K mg "HEAD" (.int 13)
  g_MOST_BODY : GV K mg "MOST_BODY" (.int 512)
  g_DIGITS : GV K mg "DIGITS" (.str "0123456789")
  g_MOST_OCTET : GV K mg "MOST_OCTET" (.int 255)
  g_MOST_NUMBER : GV K mg "MOST_NUMBER" (.int 65535)
/-! ### the law's own draws -/
/-- d holds the script's ints (a list at s), a place, what is left of a number, a seed -/
def DSt (H : Hp) (d s : Addr) : Prop := d ≠ s ∧ ∃ (ns : List Int) (pos cur seed : Int), H d = some (.lst [.ref s, .int pos, .int cur, .int seed]) ∧ H s = some (.lst (ns.map V.int)) ∧ ns.length ≤ 63 ∧ 0 ≤ pos ∧ 0 ≤ cur
theorem DSt.ext {A : List Addr} {H H' : Hp} {d s : Addr} (e : Ext A H H') (h : DSt H d s) (n1 : d ∉ A) (n2 : s ∉ A) : DSt H' d s := by
  obtain ⟨ne, ns, pos, cur, seed, h1, h2, h3⟩ := h
  exact ⟨ne, ns, pos, cur, seed, e.keep _ _ h1 n1, e.keep _ _ h2 n2, h3⟩
def spBegin (K : PySem.W.Frag) : Sp := fun vs H Q _ => ∃ (a : Addr) (ns : List Int), vs = [.ref a] ∧ SqL K H a (ns.map V.int) ∧ ns.length ≤ 63 ∧ ∀ d s H', H d = none → H s = none → Ext [] H H' → DSt H' d s → Q (.ref d) H'
def spTake : Sp := fun vs H Q _ => ∃ (d s : Addr) (many : Int), vs = [.ref d, .int many] ∧ DSt H d s ∧ 0 < many ∧ many < 2 ^ 64 ∧ ∀ k H', 0 ≤ k → k < many → Ext [d] H H' → DSt H' d s → Q (.int k) H'
def spPick (K : PySem.W.Frag) : Sp := fun vs H Q _ => ∃ (d s m : Addr) (xs : List V), vs = [.ref d, .ref m] ∧ DSt H d s ∧ SqL K H m xs ∧ m ≠ d ∧ 0 < xs.length ∧ xs.length < 1000 ∧ ∀ v H', v ∈ xs → Ext [d] H H' → DSt H' d s → Q v H'
def spLaw (K : PySem.W.Frag) : Sp := fun vs H Q _ => ∃ (a : Addr) (ns : List Int), vs = [.ref a] ∧ SqL K H a (ns.map V.int) ∧ ns.length ≤ 63 ∧ ∀ H', Q (.bl true) H'
theorem ne_dst1 {H : Hp} {d s x : Addr} (n : H x = none) (h : DSt H d s) : d ≠ x := by
  obtain ⟨_, _, _, _, _, h1, _⟩ := h
  exact ne_of_none h1 n
theorem ne_dst2 {H : Hp} {d s x : Addr} (n : H x = none) (h : DSt H d s) : s ≠ x := by
  obtain ⟨_, _, _, _, _, _, h1, _⟩ := h
  exact ne_of_none h1 n
local macro_rules | `(tactic| walk_at "eo dst") => `(tactic| first | with_reducible assumption | ((with_reducible apply DSt.ext); (with_reducible assumption); (walk_at "eo dst"); (walk_at "eo nin"); (walk_at "eo nin")))
local macro_rules | `(tactic| walk_at "eo ne2") => `(tactic| first
  | ((with_reducible apply ne_dst1); (with_reducible assumption); (walk_at "eo dst"))
  | ((with_reducible apply ne_dst2); (with_reducible assumption); (walk_at "eo dst"))
  | ((with_reducible apply Ne.symm); (with_reducible apply ne_dst1); (with_reducible assumption); (walk_at "eo dst"))
  | ((with_reducible apply Ne.symm); (with_reducible apply ne_dst2); (with_reducible assumption); (walk_at "eo dst")))
/-! ### nested data, by what they are -/
def Shp (d : PyData) (k : Nat) : Prop := d.canLay0 = true ∧ d.depth ≤ k
def ShpAll (ds : List PyData) (k : Nat) : Prop := PyData.canLayAll0 ds = true ∧ PyData.depthAll ds ≤ k
theorem shp_int {i : Int} {k : Nat} : Shp (.int i) k := ⟨rfl, Nat.zero_le _⟩
theorem shp_non {k : Nat} : Shp .none k := ⟨rfl, Nat.zero_le _⟩
theorem shp_bl {b : Bool} {k : Nat} : Shp (.bool b) k := ⟨rfl, Nat.zero_le _⟩
theorem shp_nil {k : Nat} : ShpAll [] k := ⟨rfl, Nat.zero_le _⟩
theorem shp_cons {d : PyData} {ds : List PyData} {k : Nat} (h : Shp d k) (t : ShpAll ds k) : ShpAll (d :: ds) k := by
  refine ⟨?_, ?_⟩
  · rw [PyData.canLayAll0, h.1, t.1]; rfl
  · rw [PyData.depthAll]; exact Nat.max_le.mpr ⟨h.2, t.2⟩
theorem shp_tup {ds : List PyData} {k : Nat} (h : ShpAll ds k) : Shp (.tuple ds) (k + 1) := by
  refine ⟨?_, ?_⟩
  · rw [PyData.canLay0]; exact h.1
  · rw [PyData.depth]
    have := h.2
    omega
theorem shp_ints {k : Nat} : ∀ ns : List Int, ShpAll (ns.map PyData.int) k
  | [] => shp_nil
  | _ :: r => shp_cons shp_int (shp_ints r)
theorem shp_app {k : Nat} : ∀ {ds es : List PyData}, ShpAll ds k → ShpAll es k → ShpAll (ds ++ es) k
  | [], _, _, h => h
  | d :: ds, es, h, g => by
    have h1 := h.1
    have h2 := h.2
    rw [PyData.canLayAll0, Bool.and_eq_true] at h1
    rw [PyData.depthAll] at h2
    have h3 := Nat.max_le.mp h2
    exact shp_cons ⟨h1.1, h3.1⟩ (shp_app ⟨h1.2, h3.2⟩ g)
theorem Shp.shaped {d : PyData} {k : Nat} (h : Shp d k) (l : k ≤ 64) : SeqAt.shaped d = true := by
  unfold SeqAt.shaped
  rw [h.1, decide_eq_true (Nat.le_trans h.2 l)]
  rfl
theorem dp_ints {K : PySem.W.Frag} {H : Hp} : ∀ ns : List Int, DpAll K H (ns.map V.int) (ns.map PyData.int)
  | [] => .nil
  | n :: r => .cons (.int n) (dp_ints r)
theorem dp_app {K : PySem.W.Frag} {H : Hp} : ∀ {xs ys : List V} {ds es : List PyData}, DpAll K H xs ds → DpAll K H ys es → DpAll K H (xs ++ ys) (ds ++ es)
  | _, _, _, _, .nil, h => h
  | _, _, _, _, .cons a t, h => .cons a (dp_app t h)
section
variable {K : PySem.W.Frag} {H : Hp} {Q : VK} {x y : V} {d e : PyData} {k : Nat}
theorem g_eqD (hx : Dp K H x d) (hy : Dp K H y e) (hs : Shp d 8) (he : d = e) (h : Q (.bl true) H) : rEqX K x y H Q := by
  subst he
  refine .inr ⟨d, d, hx, hy, hs.shaped (by decide), hs.shaped (by decide), ?_⟩
  rw [SeqAt.eqv_refl d hs.1]
  exact h
theorem g_neD (hx : Dp K H x d) (hy : Dp K H y e) (hs : Shp d 8) (he : d = e) (h : Q (.bl false) H) : rNeX K x y H Q := by
  subst he
  refine .inr ⟨d, d, hx, hy, hs.shaped (by decide), hs.shaped (by decide), ?_⟩
  rw [SeqAt.eqv_refl d hs.1]
  exact h
end
local macro_rules | `(tactic| walk_at "eo dp") => `(tactic| first | with_reducible exact Dp.int _ | with_reducible exact Dp.non | with_reducible exact Dp.bl _ | with_reducible exact Dp.str _ | with_reducible assumption | ((with_reducible apply Dp.tup); (walk_at "eo sqT"); (walk_at "eo dps")))
local macro_rules | `(tactic| walk_at "eo dps") => `(tactic| first | with_reducible exact DpAll.nil | with_reducible exact dp_ints _ | ((with_reducible apply dp_app); (walk_at "eo dps"); (walk_at "eo dps")) | ((with_reducible apply DpAll.cons); (walk_at "eo dp"); (walk_at "eo dps")))
local macro_rules | `(tactic| walk_at "eo shp") => `(tactic| first | with_reducible exact shp_int | with_reducible exact shp_non | with_reducible exact shp_bl | (apply shp_tup; (walk_at "eo shps")))
local macro_rules | `(tactic| walk_at "eo shps") => `(tactic| first | with_reducible exact shp_nil | with_reducible exact shp_ints _ | ((with_reducible apply shp_app); (walk_at "eo shps"); (walk_at "eo shps")) | ((with_reducible apply shp_cons); (walk_at "eo shp"); (walk_at "eo shps")))
local macro_rules | `(tactic| walk_at "eo step") => `(tactic| first
  | ((with_reducible apply g_neD); (walk_at "eo dp"); (walk_at "eo dp"); (walk_at "eo shp"); rfl)
  | ((with_reducible apply g_eqD); (walk_at "eo dp"); (walk_at "eo dp"); (walk_at "eo shp"); rfl))
/-! ### loops, joins, rows of numbers -/
def asgScope (s : Stmt) : Scope := match s with
  | .Assign _ (.ListComp _ _ sc _) _ => sc
  | _ => { kind := .function, names := [], isGenerator := false, isCoroutine := false }
/-- a comprehension's scope within a def whose scope is o -/
def relS (s o : Scope) : Scope := { s with names := s.names.map fun (n, k) => if (k == .free && o.kind == .function && o.names.lookup n == some .cell) then (n, .cell) else (n, k) }
def strB (b : Bool) : Str := if b then "True" else "False"
def rReprB : List V → Hp → VK → Prop := fun xs H Q => ∃ b, xs = [.bl b] ∧ Q (.str (strB b)) H
theorem o_repr {X : Cx} : CallR X (.builtin "repr") rReprB := by
  intro pins s σ H xs us Q I r h
  obtain ⟨b, rfl, q⟩ := h
  obtain ⟨u, rfl, rb⟩ := vals1 r
  cases (show u = Value.bool b from rb)
  exact PySem.P.repr_of_bool ⟨.str (strB b), H, I.tok _, ⟨s.toks, rfl⟩, q⟩
theorem g_repr {b : Bool} {H : Hp} {Q : VK} (h : Q (.str (strB b)) H) : rReprB [.bl b] H Q := ⟨b, rfl, h⟩
section
variable {K : PySem.W.Frag} {σ : St} {H : Hp} {Q : VK} {D : Ends} {t u : TS}
theorem g_join (J : L2.St → Hp → Prop) (h : t { D with nx := J } σ H) (h2 : ∀ σ' H', J σ' H' → u D σ' H') : tJoin t u D σ H := ⟨J, h, h2⟩
theorem g_while {c : TT} (W : Nat → L2.St → Hp → Prop) (m : Nat) (h0 : W m σ H)
    (h : ∀ m σ H, W m σ H → c σ H fun b H1 => if b = true then ∃ N : L2.St → Hp → Prop, (∀ σ' H', N σ' H' → ∃ m', m' < m ∧ W m' σ' H') ∧ t { D with nx := N, ct := N, bk := D.nx } σ H1 else D.nx σ H1) : tWhile c t D σ H := ⟨W, ⟨m, h0⟩, h⟩
theorem g_loop {W : Nat → L2.St → Hp → Prop} {m : Nat} (h : t { D with nx := fun σ' H' => ∃ m', m' < m ∧ W m' σ' H', ct := fun σ' H' => ∃ m', m' < m ∧ W m' σ' H', bk := D.nx } σ H) :
    ∃ N : L2.St → Hp → Prop, (∀ σ' H', N σ' H' → ∃ m', m' < m ∧ W m' σ' H') ∧ t { D with nx := N, ct := N, bk := D.nx } σ H := ⟨_, fun _ _ z => z, h⟩
theorem g_rSub {i j : Int} (h : Q (.int (i - j)) H) : rSub (.int i) (.int j) H Q := ⟨i, j, rfl, rfl, h⟩
theorem cutI {xs : List Int} {y r : Int} (h : 0 ≤ r) : cutV (xs.map V.int ++ [.int y]) none (some r) = ((xs ++ [y]).take r.toNat).map V.int := by
  have e : r = ((r.toNat : Nat) : Int) := (Int.toNat_of_nonneg h).symm
  rw [e, cut_to, List.map_take, List.map_append]
  rfl
theorem inV_int (n : Int) : ∀ ns : List Int, inV (.int n) (ns.map V.int) = decide (n ∈ ns)
  | [] => rfl
  | a :: r => by
    show (eqV (.int a) (.int n) || inV (.int n) (r.map V.int)) = _
    rw [inV_int n r]
    show (decide (a = n) || decide (n ∈ r)) = decide (n ∈ a :: r)
    by_cases c : a = n
    · subst c; simp
    · have c' : ¬ n = a := fun e => c e.symm
      simp [c, c']
theorem flat_ints : ∀ ns : List Int, (ns.map V.int).all flatV = true
  | [] => rfl
  | _ :: r => by simp only [List.map_cons, List.all_cons, flat_ints r, flatV, Bool.and_self]
theorem g_inLI {n : Int} {p : Addr} {ns : List Int} (e : SqL K H p (ns.map V.int)) (h : Q (.bl (decide (n ∈ ns))) H) : rIn K false (.int n) (.ref p) H Q := g_inL e rfl (flat_ints ns) (by rw [inV_int]; exact h)
theorem g_ninLI {n : Int} {p : Addr} {ns : List Int} (e : SqL K H p (ns.map V.int)) (h : Q (.bl (!decide (n ∈ ns))) H) : rIn K true (.int n) (.ref p) H Q := g_ninL e rfl (flat_ints ns) (by rw [inV_int]; exact h)
theorem g_pop0 {l : Addr} {x : V} {xs : List V} (e : H l = some (.lst (x :: xs))) (h : ∀ H', Ext [l] H H' → H' l = some (.lst xs) → Q x H') : rPopAt (.ref l) [.int 0] H Q :=
  ⟨l, x :: xs, 0, 0, x, rfl, rfl, e, by decide, by decide, by simp [seqIndex?], rfl, h _ (Ext.wr e rfl) upd_same⟩
end
local macro_rules | `(tactic| walk_at "eo step") => `(tactic| first
  | ((with_reducible apply g_pop0); (walk_at "eo fact"); (intro _ _ _))
  | ((with_reducible apply g_inLI); (walk_at "eo sqL"))
  | ((with_reducible apply g_ninLI); (walk_at "eo sqL"))
  | with_reducible refine g_rSub ?_
  | with_reducible refine g_repr ?_
  | with_reducible refine g_loop ?_)
/-! ### comprehensions, told by a list of what they hold -/
section
variable {α : Type} {J : It} {n : Nat} {G : Hp → Prop} {Y : Nat → Hp → V → Hp → Prop} {g : TG} {te tk tv : TE} {vs : List Nat} {σ : L2.St} {H1 : Hp} {Q : VK} {R : Hp → V → α → Prop}
theorem g_lcR (w : Walk J n G Y) (R : Hp → V → α → Prop) (hR : ∀ {H H' : Hp} {A : List Addr} {x : V} {a : α}, Ext A H H' → R H x a → R H' x a) (L : List α) (hL : n = L.length) (hn : n ≤ 1000) (hG : ∀ H, Ext [] H1 H → G H)
    (hs : ∀ i x H H' b, L[i]? = some b → Ext [] H1 H → Y i H x H' → stG g x (wipe σ vs) H' fun σ2 H2 => wipe σ2 vs = wipe σ vs ∧ stE te σ2 H2 fun y H3 => Ext [] H H3 ∧ R H3 y b)
    (hd : ∀ D H acc, Ext [] H1 H → H1 D = none → LR R H acc L → H D = some (.lst acc) → Q (.ref D) H) : LcGoal J (stG g) (stT tYes) (stE te) vs σ H1 Q := by
  refine g_lcW w (fun D i H acc => Ext [] H1 H ∧ H1 D = none ∧ LR R H acc (L.take i)) ?_ ?_ ?_ ?_
  · intro D H' n0 e _
    exact ⟨e, n0, trivial⟩
  · rintro D i H acc _ ⟨e, _⟩
    exact hG H e
  · rintro D i x H H' acc hi ⟨e, n0, hA⟩ hD hY
    have hi' : i < L.length := by omega
    have hb : L[i]? = some L[i] := List.getElem?_eq_getElem hi'
    refine (hs i x H H' _ hb e hY).mono fun σ2 H2 ⟨q1, q2⟩ => ⟨q1, g_stT (g_yes ?_)⟩
    rw [if_pos rfl]
    refine stE.mono q2 fun y H3 ⟨e3, r3⟩ => ⟨e3.keep _ _ hD nin0, ?_, fun H5 e5 h5 => ⟨?_, n0, ?_⟩⟩
    · rw [hA.len, List.length_take, sizeLine_eq]; omega
    · exact (e.trans e3 (fun _ z => z) (fun _ z => by cases z)).trans e5 (fun _ z => z) (fun x hx ⟨o, ho⟩ => by rw [List.mem_singleton.mp hx, n0] at ho; cases ho)
    · rw [List.take_succ, hb]
      exact LR.snoc ((hA.imp fun _ _ => hR e3).imp fun _ _ => hR e5) (hR e5 r3)
  · rintro D H acc ⟨e, n0, hA⟩ hD
    rw [hL, List.take_length] at hA
    exact hd D H acc e n0 hA hD
theorem g_lcD {d sc : Addr} (w : Walk J n G Y) (R : Hp → V → α → Prop) (Good : Nat → α → Prop) (hR : ∀ {H H' : Hp} {A : List Addr} {x : V} {a : α}, Ext A H H' → R H x a → R H' x a) (hn : n ≤ 1000) (h1 : DSt H1 d sc) (hG : ∀ H, Ext [d] H1 H → G H)
    (hs : ∀ i x H H', i < n → Ext [d] H1 H → DSt H d sc → Y i H x H' → stG g x (wipe σ vs) H' fun σ2 H2 => wipe σ2 vs = wipe σ vs ∧ stE te σ2 H2 fun y H3 => Ext [d] H H3 ∧ DSt H3 d sc ∧ ∃ b, Good i b ∧ R H3 y b)
    (hd : ∀ D H acc L, Ext [d] H1 H → DSt H d sc → H1 D = none → D ≠ d → D ≠ sc → L.length = n → (∀ i b, L[i]? = some b → Good i b) → LR R H acc L → H D = some (.lst acc) → Q (.ref D) H) : LcGoal J (stG g) (stT tYes) (stE te) vs σ H1 Q := by
  refine g_lcW w (fun D i H acc => Ext [d] H1 H ∧ DSt H d sc ∧ H1 D = none ∧ D ≠ d ∧ D ≠ sc ∧ ∃ L, L.length = i ∧ (∀ i b, L[i]? = some b → Good i b) ∧ LR R H acc L) ?_ ?_ ?_ ?_
  · intro D H' n0 e _
    exact ⟨e.mono (fun _ z => by cases z), h1.ext e nin0 nin0, n0, (ne_dst1 n0 h1).symm, (ne_dst2 n0 h1).symm, [], rfl, fun i b h => by simp at h, trivial⟩
  · rintro D i H acc _ ⟨e, _⟩
    exact hG H e
  · rintro D i x H H' acc hi ⟨e, hS, n0, nd, ns, L, hL, hg, hA⟩ hD hY
    refine (hs i x H H' hi e hS hY).mono fun σ2 H2 ⟨q1, q2⟩ => ⟨q1, g_stT (g_yes ?_)⟩
    rw [if_pos rfl]
    refine stE.mono q2 fun y H3 ⟨e3, hS3, b, gb, r3⟩ => ⟨e3.keep _ _ hD (nin1 nd), ?_, fun H5 e5 h5 => ⟨?_, hS3.ext e5 (nin1 nd.symm) (nin1 ns.symm), n0, nd, ns, L ++ [b], ?_, ?_, ?_⟩⟩
    · rw [hA.len, hL, sizeLine_eq]; omega
    · exact (e.trans e3 (fun _ z => z) (fun _ z _ => z)).trans e5 (fun _ z => z) (fun x hx ⟨o, ho⟩ => by rw [List.mem_singleton.mp hx, n0] at ho; cases ho)
    · rw [List.length_append, List.length_singleton, hL]
    · intro j c hj
      by_cases q : j < L.length
      · rw [List.getElem?_append_left q] at hj
        exact hg j c hj
      · rw [List.getElem?_append_right (by omega)] at hj
        have : j - L.length = 0 := by
          have := (List.getElem?_eq_some_iff.mp hj).1
          rw [List.length_singleton] at this
          omega
        rw [this] at hj
        cases hj
        rw [show j = i by omega]
        exact gb
    · exact LR.snoc ((hA.imp fun _ _ => hR e3).imp fun _ _ => hR e5) (hR e5 r3)
  · rintro D H acc ⟨e, hS, n0, nd, ns, L, hL, hg, hA⟩ hD
    exact hd D H acc L e hS n0 nd ns hL hg hA hD
end
def IsV (_ : Hp) (x : V) (v : V) : Prop := x = v
theorem lr_v {H : Hp} : ∀ {xs L : List V}, LR IsV H xs L → xs = L
  | [], [], _ => rfl
  | _ :: _, _ :: _, ⟨h1, h⟩ => by rw [show _ = _ from h1, lr_v h]
  | [], _ :: _, h => h.elim
  | _ :: _, [], h => h.elim
def IsI (_ : Hp) (x : V) (n : Int) : Prop := x = .int n
theorem lr_i {H : Hp} : ∀ {xs : List V} {L : List Int}, LR IsI H xs L → xs = L.map V.int
  | [], [], _ => rfl
  | _ :: _, _ :: _, ⟨h1, h⟩ => by rw [show _ = _ from h1, lr_i h]; rfl
  | [], _ :: _, h => h.elim
  | _ :: _, [], h => h.elim
/-! ### texts and packets on the heap -/
abbrev Sx (l : List Nat) : Str := ⟨l.toArray⟩
abbrev WS (w : List Nat) : V := .str (Sx w)
abbrev kS (k : Nat) : V := WS (kW k)
/-- what a packet's tuple holds -/
def pkV (p : Pk) (b : Addr) : List V := [.int p.s, .int p.g, kS p.k, .int p.l, .int p.n, .int p.p, .bl p.m, .ref b]
def PkAt (K : PySem.W.Frag) (H : Hp) (t : Addr) (p : Pk) : Prop := ∃ b, SqT K H t (pkV p b) ∧ SqT K H b (p.b.map V.int)
theorem PkAt.ext {K : PySem.W.Frag} {A : List Addr} {H H' : Hp} {t : Addr} {p : Pk} (e : Ext A H H') : PkAt K H t p → PkAt K H' t p := fun ⟨b, h1, h2⟩ => ⟨b, sqT_ext e h1, sqT_ext e h2⟩
def RdAt (C : Addr) (H : Hp) (r : Addr) (ws : List (List Nat)) (i : Nat) : Prop := ∃ dx W, H r = some (.ins C dx [("words", .ref W), ("at", .int i)]) ∧ H W = some (.lst (ws.map WS))
theorem RdAt.ext {C r : Addr} {A : List Addr} {H H' : Hp} {ws : List (List Nat)} {i : Nat} (e : Ext A H H') (h : RdAt C H r ws i) (n : ∀ x ∈ A, H x = none) : RdAt C H' r ws i := by
  obtain ⟨dx, W, h1, h2⟩ := h
  exact ⟨dx, W, e.keep _ _ h1 fun z => (by rw [n _ z] at h1; cases h1), e.keep _ _ h2 fun z => (by rw [n _ z] at h2; cases h2)⟩
def spSum (K : PySem.W.Frag) : Sp := fun vs H Q _ => ∃ (a : Addr) (ns : List Int), vs = [.ref a] ∧ SqT K H a (ns.map V.int) ∧ ns.length < 128 ∧ Q (.int (sm ns)) H
def spPacked (K : PySem.W.Frag) : Sp := fun vs H Q _ => ∃ (a : Addr) (p : Pk), vs = [.ref a] ∧ PkAt K H a p ∧ p.k < 4 ∧ p.b.length ≤ 512 ∧ ∀ c H', Ext [] H H' → SqT K H' c ((pkd p).map V.int) → Q (.ref c) H'
def spUnpacked (K : PySem.W.Frag) : Sp := fun vs H Q _ => ∃ (a : Addr) (ns : List Int), vs = [.ref a] ∧ SqT K H a (ns.map V.int) ∧ Oct ns ∧ ns.length ≤ 1000 ∧ (unp ns = none → ∀ H', Ext [] H H' → Q .non H') ∧ ∀ p, unp ns = some p → ∀ c H', Ext [] H H' → PkAt K H' c p → Q (.ref c) H'
/-- the text of a packet -/
def txt (p : Pk) : List Nat := TL.joinL [32] (wsO p)
def spFormat (K : PySem.W.Frag) : Sp := fun vs H Q _ => ∃ (a : Addr) (p : Pk), vs = [.ref a] ∧ PkAt K H a p ∧ PkOk p ∧ ∀ H', Ext [] H H' → Q (.str (Sx (txt p))) H'
def exA (C : Addr) (i : Nat) (A : List Addr) (H : Hp) (E : XK) : Prop := ∀ d H', Ext A H H' → H' d = some (.xd [("at", .int i), ("code", .str "form")]) → E (.ref C) (some d) H'
def spRInit (C : Addr) : Sp := fun vs H Q _ => ∃ (r dx : Addr) (l : List Nat), vs = [.ref r, .str (Sx l)] ∧ H r = some (.ins C dx []) ∧ l.length ≤ 100000 ∧ ∀ H', Ext [r] H H' → RdAt C H' r (toks l) 0 → Q .non H'
def spHead (C : Addr) : Sp := fun vs H Q _ => ∃ (r : Addr) (ws : List (List Nat)) (i : Nat), vs = [.ref r] ∧ RdAt C H r ws i ∧ Q (WS (gw ws i)) H
def spFail (C X : Addr) : Sp := fun vs H _ E => ∃ (r : Addr) (ws : List (List Nat)) (i : Nat), vs = [.ref r] ∧ RdAt C H r ws i ∧ (i : Int) < 1000000 ∧ exA X i [] H E
def spNeed (C X : Addr) : Sp := fun vs H Q E => ∃ (r : Addr) (ws : List (List Nat)) (i : Nat) (w : List Nat), vs = [.ref r, WS w] ∧ RdAt C H r ws i ∧ i < 900000 ∧ (gw ws i = w → ∀ H', Ext [r] H H' → RdAt C H' r ws (i + 1) → Q .non H') ∧ (gw ws i ≠ w → exA X i [r] H E)
def spNumber (C X : Addr) : Sp := fun vs H Q E => ∃ (r : Addr) (ws : List (List Nat)) (i : Nat) (most : Int), vs = [.ref r, .int most] ∧ RdAt C H r ws i ∧ i < 900000 ∧ (∀ w ∈ ws, w.length ≤ 100000) ∧ (∀ v, numW (gw ws i) most = some v → ∀ H', Ext [r] H H' → RdAt C H' r ws (i + 1) → Q (.int v) H') ∧ (numW (gw ws i) most = none → exA X i [r] H E)
def spNamed (C X : Addr) : Sp := fun vs H Q E => ∃ (r : Addr) (ws : List (List Nat)) (i : Nat) (w : List Nat) (most : Int), vs = [.ref r, WS w, .int most] ∧ RdAt C H r ws i ∧ i < 800000 ∧ (∀ w ∈ ws, w.length ≤ 100000) ∧ (gw ws i ≠ w → exA X i [r] H E) ∧ (gw ws i = w → (numW (gw ws (i + 1)) most = none → exA X (i + 1) [r] H E) ∧ ∀ v, numW (gw ws (i + 1)) most = some v → ∀ H', Ext [r] H H' → RdAt C H' r ws (i + 2) → Q (.int v) H')
def spParse (K : PySem.W.Frag) (X : Addr) : Sp := fun vs H Q E => ∃ (l : List Nat), vs = [.str (Sx l)] ∧ l.length ≤ 100000 ∧ (∀ i, pars (toks l) = .inr i → exA X i [] H E) ∧ ∀ p, pars (toks l) = .inl p → ∀ c H', Ext [] H H' → PkAt K H' c p → Q (.ref c) H'
def spRead (K : PySem.W.Frag) : Sp := fun vs H Q _ => ∃ (l : List Nat), vs = [.str (Sx l)] ∧ l.length ≤ 100000 ∧ (∀ i : Nat, pars (toks l) = .inr i → ∀ c H', Ext [] H H' → SqT K H' c [.str "form", .int i] → Q (.ref c) H') ∧ ∀ p, pars (toks l) = .inl p → ∀ c H', Ext [] H H' → PkAt K H' c p → Q (.ref c) H'
def spPacket (K : PySem.W.Frag) : Sp := fun vs H Q _ => ∃ (d s : Addr), vs = [.ref d] ∧ DSt H d s ∧ ∀ c p H', Ext [d] H H' → DSt H' d s → PkAt K H' c p → PkOk p → p.b.length ≤ 24 → Q (.ref c) H'
def spXInit2 (C : Addr) : Sp := fun vs H Q _ => ∃ a z i, vs = [.ref a, .str z, .int i] ∧ z.length ≤ 100 ∧ 0 ≤ i ∧ i < 1000000 ∧ H a = some (exo a C none) ∧ ∀ dx, H dx = none → dx ≠ a → Q .non (upd (upd (upd H dx (exd dx [("code", .str z)])) a (exo a C (some dx))) dx (exd dx [("at", .int i), ("code", .str z)]))
/-! ### steps over texts -/
theorem kk_truth {X : Cx} {K : PySem.W.Frag} {a : Expr} {ta : TE} (h : X.K = K) (ha : PE X a ta) (he : ∀ whole, isTrue a X.env whole = (do let v ← whole; standAt a.pos; holding [v] (truthy v))) :
    PT X a (fun σ H Q => ta σ H fun x H' => ∃ k, TruV K x H' k ∧ Q k H') := h ▸ pt_truth ha he
section
variable {K : PySem.W.Frag} {σ : L2.St} {H : Hp} {Q : VK}
theorem ws_inj {a b : List Nat} : WS a = WS b ↔ a = b := ⟨fun h => by
  unfold WS at h
  exact SX.S_inj (V.str.inj h), fun h => h ▸ rfl⟩
theorem sx_len (l : List Nat) : (Sx l).length = l.length := by simp [Sx, Str.length]
theorem sx_cat (a b : List Nat) : Sx a ++ Sx b = Sx (a ++ b) := SX.S_cat a b
theorem map_ws (ws : List (List Nat)) : (ws.map Sx).map V.str = ws.map WS := by rw [List.map_map]; rfl
theorem g_truS {z : Str} {R : Bool → Prop} (e : z.length ≤ sizeLine) (h : R ((z.length : Int) != 0)) : ∃ k, TruV K (.str z) H k ∧ R k := ⟨_, ⟨e, rfl⟩, h⟩
theorem g_ixS {z : Str} {i : Int} {c : Nat} (e : z.length ≤ sizeLine) (a : atI z.cps.toList i = some c) (h : Q (.str ⟨#[c]⟩) H) : rIx K (.str z) (.int i) H Q := .inr (.inr ⟨z, i, c, rfl, rfl, e, a, h⟩)
theorem g_iStr {te : TE} {R : It → Hp → Prop} (h : te σ H fun v H1 => ∃ x, v = .str x ∧ R (Its x) H1) : iStr te σ H R := h
theorem g_itSl {g : TG} {te : TE} {tt : TT} {vs : List Nat} {z : Str} (h : LcGoal (Its z) g tt te vs σ H Q) : ∃ x, V.str z = .str x ∧ LcGoal (Its x) g tt te vs σ H Q := ⟨z, rfl, h⟩
theorem g_itSf {g : TG} {tb : TS} {D : Ends} {z : Str} (h : ForGoal (Its z) g tb D σ H) : ∃ x, V.str z = .str x ∧ ForGoal (Its x) g tb D σ H := ⟨z, rfl, h⟩
theorem g_m1 {r : V → List V → Hp → VK → Prop} {to te : TE} (h : to σ H fun x H1 => (∃ a, x = .str a) ∧ te σ H1 fun y H2 => r x [y] H2 Q) : tM1 r to te σ H Q := h
theorem g_isS {a : Str} {R : Prop} (h : R) : (∃ a', V.str a = .str a') ∧ R := ⟨⟨a, rfl⟩, h⟩
theorem nw_str {i : Int} (h : 0 ≤ i) : (toString i : Str) = Sx (nw i) := by
  have e : ((i.toNat : Nat) : Int) = i := Int.toNat_of_nonneg h
  have := SX.num_S i.toNat
  rw [e] at this
  exact this
theorem log_small {n : Nat} (h : n < 2 ^ 64) : n.log2 < 1920 := by
  by_cases c : n = 0
  · subst c; decide
  · exact Nat.lt_of_lt_of_le ((Nat.log2_lt c).mpr h) (by decide)
def rStrI : List V → Hp → VK → Prop := fun xs H Q => match xs with
  | [.int i] => 0 ≤ i ∧ i < 1000000 ∧ Q (.str (Sx (nw i))) H
  | _ => False
theorem o_strI {X : Cx} : CallR X (.type "str") rStrI := by
  intro pins s σ H xs us Q I r h
  unfold rStrI at h
  split at h
  · obtain ⟨h0, h1, q⟩ := h
    exact call_str_int pins s σ H _ us Q I r ⟨_, rfl, log_small (by omega), by rw [nw_str h0]; exact q⟩
  · exact h.elim
theorem g_strI {i : Int} (h0 : 0 ≤ i) (h1 : i < 1000000) (h : Q (.str (Sx (nw i))) H) : rStrI [.int i] H Q := ⟨h0, h1, h⟩
theorem g_split {l : List Nat} {b : Str} (hb : b = Sx [32]) (hl : l.length ≤ 1000000) (h : NewO H (.lst ((TL.spl [32] 0 [] l).map WS)) fun p H' => Q (.ref p) H') :
    ∃ a b', V.str (Sx l) = .str a ∧ [V.str b] = [.str b'] ∧ (b'.length == 0) = false ∧ a.length + 2 ≤ sizeLine ∧ rNewStrs (Txt.split a b') H Q := by
  subst hb
  refine ⟨_, _, rfl, rfl, by decide, by rw [sx_len, sizeLine_eq]; omega, fun p hp => ?_⟩
  have e : Txt.split (Sx l) (Sx [32]) = (TL.spl [32] 0 [] l).map Sx := SX.split_S (by decide) (by decide)
  rw [e, map_ws]
  exact h.raw p hp
def rJoinW (K : PySem.W.Frag) : V → List V → Hp → VK → Prop := fun x xs H Q => match x, xs with
  | .str b, [.ref p] => ∃ (sep : List Nat) (ws : List (List Nat)), b = Sx sep ∧ (SqL K H p (ws.map WS) ∨ SqT K H p (ws.map WS)) ∧ (ws.map List.length).sum + ws.length * sep.length ≤ 16777216 ∧ Q (.str (Sx (TL.joinL sep ws))) H
  | _, _ => False
theorem mt_joinW {X : Cx} : MtR X "str.join" (rJoinW X.K) := by
  intro pins s σ H x xs v us Q I rx rs h
  unfold rJoinW at h
  split at h
  · rename_i b p
    obtain ⟨sep, ws, rfl, hp, hz, q⟩ := h
    refine mt_join pins s σ H _ _ v us Q I rx rs ⟨_, p, ws.map Sx, rfl, rfl, by rw [map_ws]; exact hp, ?_, ?_⟩
    · rw [sx_len, List.length_map, List.map_map, show (fun x : Str => x.length) ∘ Sx = List.length from funext sx_len]
      exact hz
    · have e : Txt.join (Sx sep) (ws.map Sx) = Sx (TL.joinL sep ws) := SX.join_S sep ws
      rw [e]
      exact q
  · exact h.elim
theorem g_joinW {p : Addr} {b : Str} {sep : List Nat} {ws : List (List Nat)} (hb : b = Sx sep) (hp : SqL K H p (ws.map WS) ∨ SqT K H p (ws.map WS)) (hz : (ws.map List.length).sum + ws.length * sep.length ≤ 16777216) (h : Q (.str (Sx (TL.joinL sep ws))) H) :
    rJoinW K (.str b) [.ref p] H Q := ⟨sep, ws, hb, hp, hz, h⟩
theorem eqV_ws (a b : List Nat) : eqV (WS a) (WS b) = decide (a = b) := by
  show decide (Sx a = Sx b) = decide (a = b)
  rw [Bool.eq_iff_iff, decide_eq_true_eq, decide_eq_true_eq]
  exact ⟨SX.S_inj, fun h => h ▸ rfl⟩
theorem inV_ws (w : List Nat) : ∀ ws : List (List Nat), inV (WS w) (ws.map WS) = decide (w ∈ ws)
  | [] => rfl
  | v :: r => by
    show (eqV (WS v) (WS w) || inV (WS w) (r.map WS)) = _
    rw [inV_ws w r, eqV_ws, Bool.eq_iff_iff]
    simp only [Bool.or_eq_true, decide_eq_true_eq, List.mem_cons]
    exact ⟨fun h => h.imp Eq.symm id, fun h => h.imp Eq.symm id⟩
theorem dec_ws {a b : List Nat} : decide (WS a = WS b) = decide (a = b) := by
  rw [Bool.eq_iff_iff, decide_eq_true_eq, decide_eq_true_eq]
  exact ws_inj
theorem shp_str {z : Str} {k : Nat} (h : PyData.strOk z = true) : Shp (.str z) k := ⟨by simp only [PyData.canLay0]; exact h, Nat.zero_le _⟩
end
/-- a comprehension that makes nothing new but its list -/
theorem g_lcP {J : It} {n : Nat} {G : Hp → Prop} {Y : Nat → Hp → V → Hp → Prop} {g : TG} {tt : TT} {te : TE} {vs : List Nat} {σ : L2.St} {H1 : Hp} {Q : VK} (w : Walk J n G Y) (F : Nat → List V) (h0 : F 0 = []) (hn : n ≤ 1000000) (hl : ∀ i, (F i).length ≤ i) (hG : ∀ H, Ext [] H1 H → G H)
    (hs : ∀ i x H H', i < n → Ext [] H1 H → Y i H x H' → stG g x (wipe σ vs) H' fun σ2 H2 => wipe σ2 vs = wipe σ vs ∧ stT tt σ2 H2 fun b H3 => if b = true then stE te σ2 H3 fun y H4 => H4 = H ∧ F (i + 1) = F i ++ [y] else H3 = H ∧ F (i + 1) = F i)
    (hd : ∀ D H, Ext [] H1 H → H1 D = none → H D = some (.lst (F n)) → Q (.ref D) H) : LcGoal J (stG g) (stT tt) (stE te) vs σ H1 Q := by
  refine g_lcW w (fun D i H acc => Ext [] H1 H ∧ H1 D = none ∧ acc = F i) ?_ ?_ ?_ ?_
  · intro D H' n0 e _
    exact ⟨e, n0, h0.symm⟩
  · rintro D i H acc _ ⟨e, _⟩
    exact hG H e
  · rintro D i x H H' acc hi ⟨e, n0, rfl⟩ hD hY
    refine (hs i x H H' hi e hY).mono fun σ2 H2 ⟨q1, q2⟩ => ⟨q1, q2.mono fun b H3 q3 => ?_⟩
    cases b with
    | true =>
      rw [if_pos rfl] at q3 ⊢
      refine stE.mono q3 fun y H4 ⟨e4, e5⟩ => ?_
      subst e4
      refine ⟨hD, ?_, fun H5 x5 h5 => ⟨e.trans x5 (fun _ z => z) (fun x hx ⟨o, ho⟩ => by rw [List.mem_singleton.mp hx, n0] at ho; cases ho), n0, e5.symm⟩⟩
      have := hl i
      rw [sizeLine_eq]; omega
    | false =>
      rw [if_neg (by decide)] at q3 ⊢
      obtain ⟨e4, e5⟩ := q3
      subst e4
      exact ⟨⟨e, n0, e5.symm⟩, hD⟩
  · rintro D H acc ⟨e, n0, rfl⟩ hD
    exact hd D H e n0 hD
theorem ext_mk2 {H : Hp} {a dx : Addr} {o1 o2 o3 o4 o5 : HO} (ha : H a = none) (hd : H dx = none) : Ext [] H (upd (del (upd (upd (upd (upd H a o1) dx o2) a o3) dx o4) a) dx o5) := by
  have k : ∀ b o, H b = some o → upd (del (upd (upd (upd (upd H a o1) dx o2) a o3) dx o4) a) dx o5 b = some o := fun b o e => by
    have n1 := ne_of_none e ha
    have n2 := ne_of_none e hd
    rw [upd_ne n2, del_ne n1, upd_ne n2, upd_ne n1, upd_ne n2, upd_ne n1]
    exact e
  exact ⟨fun b o e _ => k b o e, fun b o e _ => k b o e⟩
theorem g_mk2 {C : Addr} {z : Str} {i : Int} {ta : TA} {σ : L2.St} {H : Hp} {QX : XK} (hz : z.length ≤ 100) (i0 : 0 ≤ i) (i1 : i < 1000000) (hta : ∀ R : List V → Hp → Prop, R [.str z, .int i] H → ta σ H R)
    (h : ∀ d H', Ext [] H H' → H' d = some (.xd [("at", .int i), ("code", .str z)]) → QX (.ref C) (some d) H') : tMkO C (spXInit2 C) [] ta σ H QX := by
  refine hta _ ⟨(show 2 ≤ 1000 by decide), fun a ha => ⟨a, z, i, rfl, hz, i0, i1, upd_same, fun dx hdx ne => ⟨rfl, dx, [("at", .int i), ("code", .str z)], by rw [upd_ne ne.symm]; exact upd_same, upd_same, ?_, ?_⟩⟩⟩
  · rw [upd_ne ne] at hdx
    exact hdx
  · rw [upd_ne ne] at hdx
    exact h dx _ (ext_mk2 ha hdx) upd_same
theorem gw_get {ws : List (List Nat)} {i : Nat} (h : i < ws.length) : atI (ws.map WS) (i : Int) = some (WS (gw ws i)) := by
  refine atI_nat ?_
  rw [List.getElem?_map]
  unfold gw
  rw [List.getElem?_eq_getElem h]
  rfl
theorem gw_out {ws : List (List Nat)} {i : Nat} (h : ws.length ≤ i) : gw ws i = [] := by
  unfold gw
  rw [List.getElem?_eq_none h]
  rfl
theorem gw_len {ws : List (List Nat)} {n : Nat} (h : ∀ w ∈ ws, w.length ≤ n) (i : Nat) : (gw ws i).length ≤ n := by
  unfold gw
  cases e : ws[i]? with
  | none => exact Nat.zero_le _
  | some w => exact h w (List.mem_of_getElem? e)
local macro_rules | `(tactic| walk_at "eo shp") => `(tactic| (with_reducible apply shp_str; walk_at "eo slen"))
local macro_rules | `(tactic| walk_at "eo slen") => `(tactic| first | with_reducible assumption | decide +kernel)
local macro_rules | `(tactic| walk_at "eo step") => `(tactic| first
  | with_reducible refine g_m1 ?_
  | with_reducible refine g_isS ?_
  | with_reducible refine g_iStr ?_
  | with_reducible refine g_itSl ?_
  | with_reducible refine g_itSf ?_
  | with_reducible refine g_methS ?_)
local macro_rules | `(tactic| walk_at "eo sxl") => `(tactic| (rw [sx_len, sizeLine_eq]; omega))
local macro_rules | `(tactic| walk_at "eo step") => `(tactic| first
  | ((with_reducible apply g_lenS); (walk_at "eo sxl"))
  | ((with_reducible apply g_strI); (walk_at "eo arith"); (walk_at "eo arith")))
def digs : List Nat := [48, 49, 50, 51, 52, 53, 54, 55, 56, 57]
theorem dig_mem (c : Nat) : decide (c ∈ digs) = isDig c := by
  unfold isDig
  rw [Bool.eq_iff_iff, Bool.and_eq_true, decide_eq_true_eq, decide_eq_true_eq, decide_eq_true_eq]
  unfold digs
  simp only [List.mem_cons, List.not_mem_nil, or_false]
  omega
theorem digs_lit : ("0123456789" : Str).cps.toList = digs := by decide +kernel
theorem g_inSign {c : Nat} {z : Str} {l : List Nat} {H : Hp} {Q : VK} (hz : z.cps.toList = l) (h : Q (.bl (decide (c ∈ l))) H) : ∃ (c' : Nat) (z' : Str), V.str ⟨#[c]⟩ = .str ⟨#[c']⟩ ∧ V.str z = .str z' ∧ Q (.bl (decide (c' ∈ z'.cps.toList))) H := ⟨c, z, rfl, rfl, by rw [hz]; exact h⟩
theorem int_sx {w : List Nat} (h : w.all isDig = true) (hne : w ≠ []) (hl : w.length ≤ 4300) : intText? (Sx w) = some ((NumText.digitsVal w : Nat) : Int) := SX.int_S h hne hl
theorem flat_ws : ∀ ws : List (List Nat), (ws.map WS).all flatV = true
  | [] => rfl
  | _ :: r => by rw [List.map_cons, List.all_cons, flat_ws r]; rfl
def kinds : List (List Nat) := [kW 0, kW 1, kW 2, kW 3]
theorem kinds_lit : ([.str "data", .str "route", .str "probe", .str "tell"] : List V) = kinds.map WS := by
  have e0 : ("data" : Str) = Sx (kW 0) := by decide +kernel
  have e1 : ("route" : Str) = Sx (kW 1) := by decide +kernel
  have e2 : ("probe" : Str) = Sx (kW 2) := by decide +kernel
  have e3 : ("tell" : Str) = Sx (kW 3) := by decide +kernel
  rw [e0, e1, e2, e3]
  rfl
theorem kind_none {w : List Nat} (h : w ∉ kinds) : kindOf w = none := by
  unfold kindOf
  unfold kinds at h
  simp only [List.mem_cons, List.not_mem_nil, or_false, not_or] at h
  rw [if_neg h.1, if_neg h.2.1, if_neg h.2.2.1, if_neg h.2.2.2]
theorem kind_some {w : List Nat} (h : w ∈ kinds) : ∃ k, kindOf w = some k ∧ w = kW k ∧ k < 4 := by
  unfold kinds at h
  simp only [List.mem_cons, List.not_mem_nil, or_false] at h
  rcases h with rfl | rfl | rfl | rfl
  · exact ⟨0, by decide, rfl, by decide⟩
  · exact ⟨1, by decide, rfl, by decide⟩
  · exact ⟨2, by decide, rfl, by decide⟩
  · exact ⟨3, by decide, rfl, by decide⟩
theorem drop_gw {ws : List (List Nat)} {i : Nat} (h : i < ws.length) : ws.drop i = gw ws i :: ws.drop (i + 1) := by
  unfold gw
  rw [List.drop_eq_getElem_cons h, List.getElem?_eq_getElem h]
  rfl
theorem kS_idx {k : Nat} (h : k < 4) : (kinds.map Sx).idxOf (Sx (kW k)) = k := by
  match k, h with
  | 0, _ => decide +kernel
  | 1, _ => decide +kernel
  | 2, _ => decide +kernel
  | 3, _ => decide +kernel
theorem kS_mem {k : Nat} (h : k < 4) : Sx (kW k) ∈ kinds.map Sx := by
  match k, h with
  | 0, _ => decide +kernel
  | 1, _ => decide +kernel
  | 2, _ => decide +kernel
  | 3, _ => decide +kernel
theorem g_idxT {K : PySem.W.Frag} {H : Hp} {Q : VK} {a : Addr} {k : Nat} (hs : SqT K H a (kinds.map WS)) (h : k < 4) (q : Q (.int k) H) : rTIndexS K (.ref a) [kS k] H Q :=
  ⟨a, kinds.map Sx, Sx (kW k), rfl, rfl, by rw [map_ws]; exact hs, kS_mem h, by rw [kS_idx h]; exact q⟩
theorem g_idxL {K : PySem.W.Frag} {H : Hp} {Q : VK} {a : Addr} {k : Nat} (hs : SqL K H a (kinds.map WS)) (h : k < 4) (q : Q (.int k) H) : rLIndexS K (.ref a) [kS k] H Q :=
  ⟨a, kinds.map Sx, Sx (kW k), rfl, rfl, by rw [map_ws]; exact hs, kS_mem h, by rw [kS_idx h]; exact q⟩
theorem g_ifC {b : Bool} {i j : Int} {σ : L2.St} {H : Hp} {R : VK} (h : R (.int (if b = true then i else j)) H) : if b = true then tC (.int i) σ H R else tC (.int j) σ H R := by
  cases b <;> exact h
theorem pkd_map (p : Pk) : (pkd p).map V.int = (hd p).map V.int ++ [.int (sm (hd p) / 256), .int (sm (hd p) % 256)] ++ p.b.map V.int := by
  unfold pkd
  rw [List.map_append, List.map_append, List.append_assoc]
  rfl
local macro_rules | `(tactic| walk_at "eo cut") => `(tactic| first | exact cut_to | exact cut_from | exact cut_midU)
local macro_rules | `(tactic| walk_at "eo len") => `(tactic| (rw [sizeLine_eq]; simp only [List.length_append, List.length_cons, List.length_nil, List.length_map, List.length_take, List.length_drop]; omega))
theorem at_kinds {i : Int} (h0 : 0 ≤ i) (h1 : i < 4) : atI (kinds.map WS) i = some (kS i.toNat) := by
  have : i = 0 ∨ i = 1 ∨ i = 2 ∨ i = 3 := by omega
  rcases this with rfl | rfl | rfl | rfl <;> rfl
theorem g_ifL {b : Bool} {x : V} {σ : L2.St} {H : Hp} {R : VK} (h : ∀ D H', H D = none → Ext [] H H' → H' D = some (.lst (if b = true then [x] else [])) → R (.ref D) H') : if b = true then tLstX (tCons (tC x) tNil) σ H R else tLstX tNil σ H R := by
  cases b with
  | true => exact ⟨(show 1 ≤ sizeLine by decide), h⟩
  | false => exact ⟨(show 0 ≤ sizeLine by decide), h⟩
theorem dec_int {i j : Int} : decide (V.int i = V.int j) = decide (i = j) := by
  rw [Bool.eq_iff_iff, decide_eq_true_eq, decide_eq_true_eq]
  exact ⟨vint, fun h => h ▸ rfl⟩
theorem wsF_lit (p : Pk) : ([kS p.k, .str (Sx (nw p.s)), .str ">", .str (Sx (nw p.g)), .str "life", .str (Sx (nw p.l)), .str "number", .str (Sx (nw p.n)), .str "place", .str (Sx (nw p.p))] : List V) = (wsF p).map WS := by
  have e0 : (">" : Str) = Sx [62] := by decide +kernel
  have e1 : ("life" : Str) = Sx lifeW := by decide +kernel
  have e2 : ("number" : Str) = Sx numberW := by decide +kernel
  have e3 : ("place" : Str) = Sx placeW := by decide +kernel
  rw [e0, e1, e2, e3]
  rfl
theorem wsM_lit (p : Pk) : (if p.m = true then [.str "more"] else [] : List V) = (wsM p).map WS := by
  have e0 : ("more" : Str) = Sx moreW := by decide +kernel
  rw [e0]
  unfold wsM
  cases p.m <;> rfl
theorem colon_lit : ([.str ":"] : List V) = ([[58]] : List (List Nat)).map WS := by
  have e0 : (":" : Str) = Sx [58] := by decide +kernel
  rw [e0]
  rfl
theorem g_extend {H : Hp} {Q : VK} {l b : Addr} {xs zs : List V} (e : H l = some (.lst xs)) (f : H b = some (.lst zs)) (z : xs.length + zs.length ≤ sizeLine) (h : ∀ H', Ext [l] H H' → H' l = some (.lst (xs ++ zs)) → Q .non H') : rExtend (.ref l) [.ref b] H Q :=
  ⟨l, b, xs, zs, rfl, rfl, e, f, z, h _ (Ext.wr e rfl) upd_same⟩
theorem g_ifStr {b : Bool} {x y : Str} {σ : L2.St} {H : Hp} {R : VK} (h : R (.str (if b = true then x else y)) H) : if b = true then tC (.str x) σ H R else tC (.str y) σ H R := by
  cases b <;> exact h
theorem g_addSx {K : PySem.W.Frag} {H : Hp} {Q : VK} {a : List Nat} {b : Str} (z : a.length + b.cps.toList.length ≤ sizeLine) (h : Q (.str (Sx (a ++ b.cps.toList))) H) : rAddX K (.str (Sx a)) (.str b) H Q := by
  have e : Sx a ++ b = Sx (a ++ b.cps.toList) := by
    conv => lhs; rw [show b = Sx b.cps.toList from (SX.S_tl b).symm]
    exact sx_cat _ _
  refine g_addS ?_ (by rw [e]; exact h)
  rw [sx_len, TL.len_tl]
  exact z
theorem sx_tl (a : List Nat) : (Sx a).cps.toList = a := rfl
local macro_rules | `(tactic| walk_at "eo alen") => `(tactic| (rw [sizeLine_eq]; (try simp only [List.length_append, List.length_cons, List.length_nil, List.length_replicate, sx_tl]); omega))
local macro_rules | `(tactic| walk_at "eo step") => `(tactic| first
  | ((with_reducible apply g_addSx); (walk_at "eo alen")))
theorem kW_len (k : Nat) : (kW k).length ≤ 5 := by
  match k with
  | 0 => decide
  | 1 => decide
  | 2 => decide
  | _ + 3 => exact (show (kW 3).length ≤ 5 by decide)
theorem cut_from1 {xs : List V} {m : Nat} : cutV xs (some ((m : Int) + 1)) none = xs.drop (m + 1) := cut_from (a := m + 1)
local macro_rules | `(tactic| walk_at "eo cut") => `(tactic| exact cut_from1)
theorem kS_ok (k : Nat) : PyData.strOk (Sx (kW k)) = true := by
  match k with
  | 0 => decide +kernel
  | 1 => decide +kernel
  | 2 => decide +kernel
  | _ + 3 => exact (show PyData.strOk (Sx (kW 3)) = true by decide +kernel)
theorem join_len (S : List Nat) : ∀ ws : List (List Nat), (TL.joinL S ws).length ≤ (ws.map List.length).sum + ws.length * S.length
  | [] => Nat.zero_le _
  | [w] => by
    show w.length ≤ (w.length + 0) + _
    omega
  | w :: v :: r => by
    have ih := join_len S (v :: r)
    show (w ++ (S ++ TL.joinL S (v :: r))).length ≤ (w.length + ((v :: r).map List.length).sum) + ((v :: r).length + 1) * S.length
    rw [List.length_append, List.length_append, Nat.succ_mul]
    omega
theorem join_small {S : List Nat} {ws : List (List Nat)} {n m : Nat} (h : ∀ w ∈ ws, w.length ≤ n) (hm : ws.length ≤ m) (hS : S.length ≤ 2) : (TL.joinL S ws).length ≤ n * m + m * 2 := by
  have h1 := join_len S ws
  have h2 := sum_le h
  have h3 : n * ws.length ≤ n * m := Nat.mul_le_mul (Nat.le_refl n) hm
  have h4 : ws.length * S.length ≤ m * 2 := Nat.mul_le_mul hm hS
  omega
theorem put_map (ws : List (List Nat)) (k : Nat) (x : List Nat) : (ws.map WS).take k ++ [WS x] ++ (ws.map WS).drop (k + 1) = (ws.take k ++ [x] ++ ws.drop (k + 1)).map WS := by
  rw [List.map_append, List.map_append, List.map_take, List.map_drop]
  rfl
theorem set_map (ns : List Int) (k : Nat) (x : Int) (h : k < ns.length) : (ns.map V.int).take k ++ [.int x] ++ (ns.map V.int).drop (k + 1) = (ns.set k x).map V.int := by
  rw [List.set_eq_take_append_cons_drop, if_pos h, List.map_append, List.map_cons, List.map_take, List.map_drop, List.append_assoc]
  rfl
theorem txt_len {p : Pk} (h : PkOk p) : (txt p).length ≤ 4800 := Nat.le_trans (join_small (wsO_small h) (wsO_many h) (by decide)) (by decide)
theorem txt_toks (p : Pk) : toks (txt p) = wsO p := toks_join1 (wsO_wd p)
theorem txt_spl (p : Pk) : TL.spl [32] 0 [] (txt p) = wsO p := TL.spl_join (wsO_ne p) fun w hw => (wsO_wd p w hw).2
theorem toks_wide (p : Pk) (n : Nat) : toks ([32] ++ TL.joinL [32, 32] (wsO p) ++ List.replicate n 32) = wsO p := by
  show toks (32 :: (TL.joinL (List.replicate 2 32) (wsO p) ++ List.replicate n 32)) = _
  rw [toks_sp, toks_join (wsO p) 1 n (wsO_wd p)]
theorem dec_refl {x : V} : decide (x = x) = true := decide_eq_true rfl
section
variable {ws : List (List Nat)} {k : Nat} {x : List Nat}
theorem put_all {R : List Nat → Prop} (h : ∀ w ∈ ws, R w) (hx : R x) : ∀ w ∈ ws.take k ++ [x] ++ ws.drop (k + 1), R w := fun w hw => by
  rcases List.mem_append.mp hw with c | c
  · rcases List.mem_append.mp c with c | c
    · exact h w (List.mem_of_mem_take c)
    · rw [List.mem_singleton.mp c]; exact hx
  · exact h w (List.mem_of_mem_drop c)
theorem put_len : (ws.take k ++ [x] ++ ws.drop (k + 1)).length ≤ ws.length + 1 := by
  simp only [List.length_append, List.length_take, List.length_drop, List.length_singleton]
  omega
/-- words joined, read again -/
theorem g_readW {K : PySem.W.Frag} {H : Hp} {Q : VK} {E : XK} {ws : List (List Nat)} {i : Nat} (hw : ∀ w ∈ ws, Wd w) (hn : ∀ w ∈ ws, w.length ≤ 7) (hl : ws.length ≤ 700) (hp : pars ws = .inr i) (h : ∀ c H', Ext [] H H' → SqT K H' c [.str "form", .int i] → Q (.ref c) H') :
    spRead K ([.str (Sx (TL.joinL [32] ws))] ++ []) H Q E := by
  have ht := toks_join1 hw
  refine ⟨_, rfl, Nat.le_trans (join_small hn hl (by decide)) (by decide), fun j hj c H' e hc => ?_, fun p hq => by (rw [ht, hp] at hq; cases hq)⟩
  rw [ht, hp] at hj
  obtain rfl := Sum.inr.inj hj
  exact h c H' e hc
theorem g_joinR {K : PySem.W.Frag} {H : Hp} {Q : VK} {p : Addr} {ws : List (List Nat)} (hp : H p = some (.lst (ws.map WS))) (hn : ∀ w ∈ ws, w.length ≤ 7) (hl : ws.length ≤ 700) (h : Q (.str (Sx (TL.joinL [32] ws))) H) : rJoinW K (.str (Sx [32])) [.ref p] H Q :=
  g_joinW (sep := [32]) rfl (.inl (SqL.of hp)) (by
    have := sum_le hn
    show _ + _ * 1 ≤ _
    omega) h
end
theorem form_ok : PyData.strOk ("form" : Str) = true := by decide +kernel
theorem idx_sx (w : List Nat) : ∀ ws : List (List Nat), (ws.map Sx).idxOf (Sx w) = ws.idxOf w
  | [] => rfl
  | v :: r => by
    rw [List.map_cons, List.idxOf_cons, List.idxOf_cons, idx_sx w r]
    have e : (Sx v == Sx w) = (v == w) := SX.S_beq v w
    rw [e]
theorem g_idxW {K : PySem.W.Frag} {H : Hp} {Q : VK} {a : Addr} {ws : List (List Nat)} {w : List Nat} (hs : H a = some (.lst (ws.map WS))) (h : w ∈ ws) (q : Q (.int (ws.idxOf w)) H) : rLIndexS K (.ref a) [.str (Sx w)] H Q :=
  ⟨a, ws.map Sx, Sx w, rfl, rfl, by rw [map_ws]; exact SqL.of hs, List.mem_map.mpr ⟨w, h, rfl⟩, by rw [idx_sx]; exact q⟩
theorem colon_mem (p : Pk) : [58] ∈ wsO p := by
  unfold wsO
  exact List.mem_append_right _ (List.mem_append_right _ List.mem_cons_self)
section
variable {P : Program} {w : World} {K : PySem.W.Frag} {mg : Str → Option Value} {base : Heap}
theorem ok_law_begin {A : Adr} (T : Txt P K mg A) : FnOk P w K mg base CX0 1 A.f_law_begin A.d_law_begin ["script"] (spBegin K) := by
  refine T.law_begin.F.ok sc_law_begin (fun vs H Q E h => ?_) (fun cdv Ar outer s H vs Q E hr h => ?_)
  · obtain ⟨a, ns, rfl, _⟩ := h
    rfl
  · obtain ⟨a, ns, rfl, hS, hlen, k⟩ := h
    refine ⟨_, (pss_cons (ps_set (i := 1) sc_law_begin.nd rfl (Or.inl rfl) pe_int)
      (pss_cons (ps_for PassesOwn.never rfl (pi_list (pv 0)) (pg_name (i := 2) sc_law_begin.nd rfl (Or.inl rfl)) (pss_one (ps_set (i := 1) sc_law_begin.nd rfl (Or.inl rfl) (pe_op op_mod (pe_op o_add (pe_op o_add (pe_op o_mul (pv 1) pe_int) (pe_op op_mod (pe_callTy (T := "int") o_int (by rfl) T.b_int (by decide +kernel) (pa_cons (pv 2) pa_nil)) pe_int)) pe_int) pe_int))))
      (pss_one (ps_ret (pe_lstX (pa_cons (pe_callTy (T := "list") o_list (by rfl) T.b_list (by decide +kernel) (pa_cons (pv 0) pa_nil)) (pa_cons pe_int (pa_cons pe_int (pa_cons (pv 1) pa_nil))))))))), ?_⟩
    walk_at "eo init"
    walk_at "eo go"
    refine g_forL (ns.map V.int) hS (fun i σ H' => ∃ (z : Int) (c : Option V), σ = [some (.ref a), some (.int z), c] ∧ H' = H) ⟨1, none, rfl, rfl⟩ (fun i σ H' _ ⟨_, _, _, e⟩ => by rw [e]; exact hS) ?_ ?_
    · rintro i x σ H' hi ⟨z, c, rfl, rfl⟩
      obtain ⟨n, _, rfl⟩ := mem_map_int hi
      walk_at "eo go"
      exact ⟨_, _, rfl, rfl⟩
    · rintro σ H' ⟨z, c, rfl, rfl⟩
      walk_at "eo go"
      rename_i s1 H1 hs1 e1 hl d1 H2 hd1 e2 hd
      have f1 : H2 s1 = some (.lst (ns.map V.int)) := by walk_at "eo fact"
      exact k d1 s1 H2 (by walk_at "eo free") hs1 (by walk_at "eo ext") ⟨(ne_of_none hl hd1).symm, ns, 0, 0, z, hd, f1, hlen, Int.le_refl _, Int.le_refl _⟩
theorem ok_law_take {A : Adr} (T : Txt P K mg A) : FnOk P w K mg base CX0 1 A.f_law_take A.d_law_take ["d", "many"] spTake := by
  refine T.law_take.F.ok sc_law_take (fun vs H Q E h => ?_) (fun cdv Ar outer s H vs Q E hr h => ?_)
  · obtain ⟨d, s, many, rfl, _⟩ := h
    rfl
  · obtain ⟨d, s, many, rfl, ⟨ne, ns, pos, cur, seed, hd, hs, hlen, hp, hc⟩, hm, hm2, k⟩ := h
    refine ⟨_, (pss_cons (ps_if (PW.pt (pw_and (pt_cmpR (o_eq hr.units) (pe_ix ix_seq (pv 0) pe_int (fun _ _ => rfl)) pe_int (nomark _)) (pw_and1 (pt_cmpR op_lt (pe_ix ix_seq (pv 0) pe_int (fun _ _ => rfl)) (pe_callB (id := "len") o_len (by rfl) T.b_len (by decide +kernel) (pa_cons (pe_ix ix_seq (pv 0) pe_int (fun _ _ => rfl)) pa_nil)) (nomark _))))) (pss_cons (ps_asg (pe_callB (id := "abs") o_abs (by rfl) T.b_abs (by decide +kernel) (pa_cons (pe_callTy (T := "int") o_int (by rfl) T.b_int (by decide +kernel) (pa_cons (pe_ix ix_seq (pe_ix ix_seq (pv 0) pe_int (fun _ _ => rfl)) (pe_ix ix_seq (pv 0) pe_int (fun _ _ => rfl)) (fun _ _ => rfl)) pa_nil)) pa_nil)) (pg_sub (pv 0) pe_int set_list))
      (pss_cons (ps_asg (pe_op o_add (pe_ix ix_seq (pv 0) pe_int (fun _ _ => rfl)) pe_int) (pg_sub (pv 0) pe_int set_list))
      (pss_one (ps_if (pt_chain op_lt op_lt pe_int (pe_ix ix_seq (pv 0) pe_int (fun _ _ => rfl)) (pv 1)) (pss_cons (ps_set (i := 2) sc_law_take.nd rfl (Or.inl rfl) (pe_ix ix_seq (pv 0) pe_int (fun _ _ => rfl)))
      (pss_cons (ps_asg pe_int (pg_sub (pv 0) pe_int set_list))
      (pss_one (ps_ret (pv 2))))) pss_nil)))) pss_nil)
      (pss_cons (ps_if (pt_cmpR op_gt (pe_ix ix_seq (pv 0) pe_int (fun _ _ => rfl)) pe_int (nomark _)) (pss_cons (ps_set (i := 3) sc_law_take.nd rfl (Or.inl rfl) (pe_op op_mod (pe_callTy (T := "int") o_int (by rfl) T.b_int (by decide +kernel) (pa_cons (pe_ix ix_seq (pv 0) pe_int (fun _ _ => rfl)) pa_nil)) (pv 1)))
      (pss_cons (ps_asg (pe_op op_fdivW (pe_callTy (T := "int") o_int (by rfl) T.b_int (by decide +kernel) (pa_cons (pe_ix ix_seq (pv 0) pe_int (fun _ _ => rfl)) pa_nil)) (pv 1)) (pg_sub (pv 0) pe_int set_list))
      (pss_one (ps_ret (pv 3))))) pss_nil)
      (pss_cons (ps_asg (pe_op op_mod (pe_callTy (T := "int") o_int (by rfl) T.b_int (by decide +kernel) (pa_cons (pe_op o_add (pe_op o_mul (pe_ix ix_seq (pv 0) pe_int (fun _ _ => rfl)) pe_int) pe_int) pa_nil)) pe_int) (pg_sub (pv 0) pe_int set_list))
      (pss_one (ps_ret (pe_op op_mod (pe_callTy (T := "int") o_int (by rfl) T.b_int (by decide +kernel) (pa_cons (pe_op op_fdivW (pe_ix ix_seq (pv 0) pe_int (fun _ _ => rfl)) pe_int) pa_nil)) (pv 1))))))), ?_⟩
    walk_at "eo init"
    have nsd : s ≠ d := ne.symm
    have leaf : ∀ (x : Int) (H1 : Hp) (pos cur seed : Int), Ext [d] H H1 → H1 d = some (.lst [.ref s, .int pos, .int cur, .int seed]) → 0 ≤ pos → 0 ≤ cur → Q (.int (x % many)) H1 := fun x H1 p c sd e h1 p1 p2 =>
      k _ _ (Int.emod_nonneg _ (by omega)) (Int.emod_lt_of_pos _ hm) e ⟨ne, ns, p, c, sd, h1, e.keep _ _ hs (nin1 nsd), hlen, p1, p2⟩
    walk_at "eo go"
    refine g_ite (fun h1 => ?_) (fun h1 => ?_)
    · have h1' := vint (dec_t h1)
      subst h1'
      walk_at "eo go"
      refine g_ite (fun h2 => ?_) (fun h2 => ?_)
      · have h2' := dec_t h2
        have hpl : pos.toNat < ns.length := by rw [List.length_map] at h2'; omega
        have ha : (ns.map V.int)[pos.toNat]? = some (.int ns[pos.toNat]) := by simp [hpl]
        walk_at "eo go"
        refine g_ite (fun h3 => ?_) (fun h3 => ?_)
        · walk_at "eo go"
          refine g_ite (fun h4 => ?_) (fun h4 => ?_)
          · have h4' := dec_t h4
            walk_at "eo go"
            rename_i e3 f3
            exact k _ _ (by omega) h4' (by walk_at "eo ext") ⟨ne, ns, _, _, _, f3, by walk_at "eo fact", hlen, by omega, by omega⟩
          · walk_at "eo go"
            rename_i H9 _ f9
            exact leaf _ _ _ _ _ (by walk_at "eo ext") f9 (by omega) (Int.ediv_nonneg (by omega) (Int.le_of_lt hm))
        · walk_at "eo go"
          rename_i H9 _ f9
          exact leaf _ _ _ _ _ (by walk_at "eo ext") f9 (by omega) (by omega)
      · walk_at "eo go"
        rename_i H9 _ f9
        exact leaf _ _ _ _ _ (by walk_at "eo ext") f9 hp hc
    · have h1' : ¬ cur = 0 := fun z => dec_f h1 (by rw [z])
      have h3 : decide (0 < cur) = true := decide_eq_true (by omega)
      walk_at "eo go"
      rename_i H9 _ f9
      exact leaf _ _ _ _ _ (by walk_at "eo ext") f9 hp (Int.ediv_nonneg hc (Int.le_of_lt hm))
theorem ok_law_pick {A : Adr} (T : Txt P K mg A) : FnOk P w K mg base CX0 2 A.f_law_pick A.d_law_pick ["d", "menu"] (spPick K) := by
  refine T.law_pick.F.ok sc_law_pick (fun vs H Q E h => ?_) (fun cdv Ar outer s H vs Q E hr h => ?_)
  · obtain ⟨d, s, m, xs, rfl, _⟩ := h
    rfl
  · obtain ⟨d, s, m, xs, rfl, hD, hm, nmd, h0, h1, k⟩ := h
    refine ⟨_, (pss_one (ps_ret (pe_ix ix_seq (pv 1) (pe_call (ok_law_take T) (hr.mono (by decide)) (by rfl) T.law_take.mg T.law_take.kp T.law_take.b .nil pass0 (pa_cons (pv 0) (pa_cons (pe_callB (id := "len") o_len (by rfl) T.b_len (by decide +kernel) (pa_cons (pv 1) pa_nil)) pa_nil))) (fun _ _ => rfl)))), ?_⟩
    walk_at "eo init"
    walk_at "eo go"
    refine ⟨d, s, _, rfl, hD, by omega, by omega, fun i H' i0 i1 e D' => ?_⟩
    have hi : i.toNat < xs.length := by omega
    have ha : xs[i.toNat]? = some xs[i.toNat] := by simp [hi]
    have hm' : SqL K H' m xs := sqL_ext e hm fun _ _ => nin1 nmd
    walk_at "eo go"
    exact k _ _ (List.getElem_mem hi) e D'
end
section
variable {K : PySem.W.Frag} {H : Hp} {Q : VK} {E : XK}
theorem g_take {d s : Addr} {many : Int} (hD : DSt H d s) (h0 : 0 < many) (h1 : many < 2 ^ 64) (h : ∀ k H', 0 ≤ k → k < many → Ext [d] H H' → DSt H' d s → Q (.int k) H') : spTake ([.ref d, .int many] ++ []) H Q E := ⟨d, s, many, rfl, hD, h0, h1, h⟩
theorem g_pick {d s m : Addr} {xs : List V} (hD : DSt H d s) (hm : SqL K H m xs) (ne : m ≠ d) (h0 : 0 < xs.length) (h1 : xs.length < 1000) (h : ∀ v H', v ∈ xs → Ext [d] H H' → DSt H' d s → Q v H') : spPick K ([.ref d, .ref m] ++ []) H Q E := ⟨d, s, m, xs, rfl, hD, hm, ne, h0, h1, h⟩
end
def spOct (K : PySem.W.Frag) : Sp := fun vs H Q _ => ∃ (d s : Addr) (most : Int), vs = [.ref d, .int most] ∧ DSt H d s ∧ 0 ≤ most ∧ most < 1000 ∧
  ∀ (c : Addr) (ns : List Int) (H' : Hp), Ext [d] H H' → DSt H' d s → SqT K H' c (ns.map V.int) → (∀ x ∈ ns, 0 ≤ x ∧ x ≤ 255) → (ns.length : Int) ≤ most → Q (.ref c) H'
theorem g_oct {K : PySem.W.Frag} {H : Hp} {Q : VK} {E : XK} {d s : Addr} {most : Int} (hD : DSt H d s) (h0 : 0 ≤ most) (h1 : most < 1000)
    (h : ∀ (c : Addr) (ns : List Int) (H' : Hp), Ext [d] H H' → DSt H' d s → SqT K H' c (ns.map V.int) → (∀ x ∈ ns, 0 ≤ x ∧ x ≤ 255) → (ns.length : Int) ≤ most → Q (.ref c) H') : spOct K ([.ref d, .int most] ++ []) H Q E := ⟨d, s, most, rfl, hD, h0, h1, h⟩
local macro_rules | `(tactic| walk_at "eo step") => `(tactic| first
  | ((with_reducible apply g_take); (walk_at "eo dst"); (walk_at "eo arith"); (walk_at "eo arith"); intro _ _ _ _ _ _)
  | ((with_reducible apply g_pick); (walk_at "eo dst"); (walk_at "eo sqL"); (walk_at "eo ne"); (walk_at "eo pos"); (walk_at "eo pos"); intro _ _ _ _ _)
  | ((with_reducible apply g_oct); (walk_at "eo dst"); (walk_at "eo arith"); (walk_at "eo arith"); intro _ _ _ _ _ _ _ _))
local macro_rules | `(tactic| walk_at "eo pos") => `(tactic| first | exact Nat.zero_lt_succ _ | exact lt1000)
section
variable {P : Program} {w : World} {K : PySem.W.Frag} {mg : Str → Option Value} {base : Heap}
theorem ok_law_octets {A : Adr} (T : Txt P K mg A) : FnOk P w K mg base CX0 3 A.f_law_octets A.d_law_octets ["d", "most"] (spOct K) := by
  refine T.law_octets.F.ok sc_law_octets (fun vs H Q E h => ?_) (fun cdv Ar outer s H vs Q E hr h => ?_)
  · obtain ⟨d, s, m, rfl, _⟩ := h
    rfl
  · obtain ⟨d, s, m, rfl, hD, m0, m1, k⟩ := h
    refine ⟨_, (pss_one (ps_ret (pe_callTy (T := "tuple") o_tuple (by rfl) T.b_tuple (by decide +kernel) (pa_cons (pe_lc (own := [("k", 2)]) (tt := stT tYes) rfl sc_law_octets.nd (pi_range1 (by rfl) T.b_range (pa_cons (pe_call (ok_law_take T) (hr.mono (by decide)) (by rfl) T.law_take.mg T.law_take.kp T.law_take.b .nil pass0 (pa_cons (pv 0) (pa_cons (pe_op o_add (pv 1) pe_int) pa_nil))) pa_nil)) (blkOk_by (own := [("k", 2)]) (N := ["d", "most", "k"]) (sc := defScope s_law_octets) (by decide +kernel)) (fun _ _ _ _ _ => PG.star (pg_name (i := 2) sc_law_octets.nd rfl (Or.inl rfl) (Or.inr rfl))) (fun _ _ _ _ _ => PTs.star (pts_nil)) (fun _ _ _ _ _ => PE.star (pe_call (ok_law_pick T) (hr.mono (by decide)) (by rfl) T.law_pick.mg T.law_pick.kp T.law_pick.b .nil pass0 (pa_cons (pv 0) (pa_cons (pe_lstX (pa_cons (pe_call (ok_law_take T) (hr.mono (by decide)) (by rfl) T.law_take.mg T.law_take.kp T.law_take.b .nil pass0 (pa_cons (pv 0) (pa_cons pe_int pa_nil))) (pa_cons pe_int (pa_cons pe_int (pa_cons pe_int pa_nil))))) pa_nil))))) pa_nil)))), ?_⟩
    walk_at "eo init"
    walk_at "eo go"
    rename_i n H1 n0 n1 e1 hD1
    refine g_lcW walk_range (fun D i H2 acc => Ext [d] H H2 ∧ DSt H2 d s ∧ d ≠ D ∧ s ≠ D ∧ H D = none ∧ acc.length = i ∧ ∃ ns : List Int, acc = ns.map V.int ∧ ∀ x ∈ ns, 0 ≤ x ∧ x ≤ 255) ?_ (fun _ _ _ _ _ _ => trivial) ?_ ?_
    · intro D H2 hD0 e2 h2
      have nD : d ≠ D := ne_dst1 hD0 hD1
      have nD2 : s ≠ D := ne_dst2 hD0 hD1
      have nD3 : H D = none := e1.free hD0 (nin1 nD.symm)
      exact ⟨by walk_at "eo ext", by walk_at "eo dst", nD, nD2, nD3, rfl, [], rfl, fun _ h => by cases h⟩
    · rintro D i x H2 H3 acc hi ⟨e2, hD2, nD, nD2, fD, la, ns, rfl, hb⟩ hl ⟨rfl, rfl⟩
      walk_at "eo go"
      refine ⟨rfl, ?_⟩
      walk_at "eo go"
      rename_i t H4 t0 t1 e4 hD4 p H5 np e5 hp v H6 hv e6 hD6
      obtain ⟨z, rfl, z0, z1⟩ : ∃ z : Int, v = .int z ∧ 0 ≤ z ∧ z ≤ 255 := by
        simp only [List.mem_cons, List.not_mem_nil, or_false] at hv
        rcases hv with rfl | rfl | rfl | rfl
        · exact ⟨_, rfl, t0, by omega⟩
        · exact ⟨_, rfl, by decide, by decide⟩
        · exact ⟨_, rfl, by decide, by decide⟩
        · exact ⟨_, rfl, by decide, by decide⟩
      have h4 : H4 D = some (.lst (ns.map V.int)) := by walk_at "eo fact"
      have h5 : H5 D = some (.lst (ns.map V.int)) := by walk_at "eo fact"
      have h6 : H6 D = some (.lst (ns.map V.int)) := by walk_at "eo fact"
      refine ⟨h6, ?_, fun H7 e7 h7 => ⟨?_, DSt.ext e7 hD6 (nin1 nD) (nin1 nD2), nD, nD2, fD, by rw [List.length_append, la]; rfl, ns ++ [z], by rw [List.map_append]; rfl, ?_⟩⟩
      · rw [la, sizeLine_eq]; omega
      · walk_at "eo ext"
      · intro x hx
        rcases List.mem_append.mp hx with hx | hx
        · exact hb x hx
        · rw [List.mem_singleton.mp hx]; exact ⟨z0, z1⟩
    · rintro D H2 acc ⟨e2, hD2, nD, nD2, fD, la, ns, rfl, hb⟩ hl
      walk_at "eo go"
      rename_i c H3 nc e3 hc
      refine k _ ns _ (by walk_at "eo ext") (by walk_at "eo dst") (SqT.of hc) hb ?_
      rw [List.length_map] at la
      omega
theorem ok_two_octets {A : Adr} (T : Txt P K mg A) : FnOk P w K mg base CX0 1 A.f_two_octets A.d_two_octets ["n"] (spTwo K) := by
  refine T.two_octets.F.ok sc_two_octets (fun vs H Q E h => ?_) (fun cdv Ar outer s H vs Q E hr h => ?_)
  · obtain ⟨n, rfl, _⟩ := h
    rfl
  · obtain ⟨n, rfl, k⟩ := h
    refine ⟨_, (pss_one (ps_ret (pe_tupX (pa_cons (pe_op op_fdivW (pv 0) pe_int) (pa_cons (pe_op op_mod (pv 0) pe_int) pa_nil))))), ?_⟩
    walk_at "eo init"
    walk_at "eo go"
    rename_i p H1 np e1 h1
    exact k _ _ e1 (SqT.of h1)
theorem ok_number_of {A : Adr} (T : Txt P K mg A) : FnOk P w K mg base CX0 1 A.f_number_of A.d_number_of ["octets"] (spNum K) := by
  refine T.number_of.F.ok sc_number_of (fun vs H Q E h => ?_) (fun cdv Ar outer s H vs Q E hr h => ?_)
  · obtain ⟨a, xs, ns, rfl, _⟩ := h
    rfl
  · obtain ⟨a, xs, ns, rfl, hT, rfl, k⟩ := h
    refine ⟨_, (pss_cons (ps_set (i := 1) sc_number_of.nd rfl (Or.inl rfl) pe_int)
      (pss_cons (ps_for PassesOwn.never rfl (pi_tup (pv 0)) (pg_name (i := 2) sc_number_of.nd rfl (Or.inl rfl)) (pss_one (ps_set (i := 1) sc_number_of.nd rfl (Or.inl rfl) (pe_op o_add (pe_op o_mul (pv 1) pe_int) (pv 2)))))
      (pss_one (ps_ret (pv 1))))), ?_⟩
    walk_at "eo init"
    walk_at "eo go"
    refine g_forT (ns.map V.int) (fun i σ H' => H' = H ∧ ∃ c, σ = [some (.ref a), some (.int (num (ns.take i))), c]) ⟨rfl, none, rfl⟩ (fun i σ H' _ ⟨e, _⟩ => by rw [e]; exact hT) ?_ ?_
    · rintro i x σ H' hi ⟨rfl, c, rfl⟩
      obtain ⟨n, hn, rfl⟩ := mem_map_int hi
      walk_at "eo go"
      refine ⟨rfl, some (.int n), ?_⟩
      have e : num (ns.take (i + 1)) = num (ns.take i) * 256 + n := by
        unfold num
        have hl : i < ns.length := (List.getElem?_eq_some_iff.mp hn).1
        have h2 : ns[i] = n := (List.getElem?_eq_some_iff.mp hn).2
        rw [List.take_succ_eq_append_getElem hl, List.foldl_append, h2]
        rfl
      rw [e]
      rfl
    · rintro σ H' ⟨rfl, c, rfl⟩
      walk_at "eo go"
      rw [List.length_map, List.take_length]
      exact k
theorem ok_sum16 {A : Adr} (T : Txt P K mg A) : FnOk P w K mg base CX0 1 A.f_sum16 A.d_sum16 ["octets"] (spSum K) := by
  refine T.sum16.F.ok sc_sum16 (fun vs H Q E h => ?_) (fun cdv Ar outer s H vs Q E hr h => ?_)
  · obtain ⟨a, ns, rfl, _⟩ := h
    rfl
  · obtain ⟨a, ns, rfl, hT, hl, k⟩ := h
    refine ⟨_, (pss_cons (ps_set (i := 1) sc_sum16.nd rfl (Or.inl rfl) pe_int)
      (pss_cons (ps_for PassesOwn.never rfl (pi_range3 (by rfl) T.b_range (pa_cons pe_int (pa_cons (pe_callB (id := "len") o_len (by rfl) T.b_len (by decide +kernel) (pa_cons (pv 0) pa_nil)) (pa_cons pe_int pa_nil)))) (pg_name (i := 2) sc_sum16.nd rfl (Or.inl rfl)) (pss_cons (ps_set (i := 3) sc_sum16.nd rfl (Or.inl rfl) (pe_ifExp (pt_cmpR op_lt (pe_op o_add (pv 2) pe_int) (pe_callB (id := "len") o_len (by rfl) T.b_len (by decide +kernel) (pa_cons (pv 0) pa_nil)) (nomark _)) (pe_ix ix_seq (pv 0) (pe_op o_add (pv 2) pe_int) (fun _ _ => rfl)) pe_int))
      (pss_cons (ps_aug (i := 1) sc_sum16.nd rfl (Or.inl rfl) (pe_op o_add (pe_op o_mul (pe_ix ix_seq (pv 0) (pv 2) (fun _ _ => rfl)) pe_int) (pv 3)) o_iadd)
      (pss_one (ps_if (pt_cmpR op_ge (pv 1) (pe_g rfl T.g_MOST) (nomark _)) (pss_one (ps_set (i := 1) sc_sum16.nd rfl (Or.inl rfl) (pe_op o_add (pe_op op_sub (pv 1) (pe_g rfl T.g_MOST)) pe_int))) pss_nil)))))
      (pss_one (ps_ret (pe_op op_sub (pe_op op_sub (pe_g rfl T.g_MOST) pe_int) (pv 1)))))), ?_⟩
    walk_at "eo init"
    walk_at "eo go"
    rw [List.length_map]
    refine g_itR3f (rg2 hl) ?_
    refine g_forW walk_rangeC (fun i σ H' => H' = H ∧ ∃ c d, σ = [some (.ref a), some (.int (sumI ns i)), c, d]) ⟨rfl, none, none, rfl⟩ (fun _ _ _ _ _ => trivial) ?_ ?_
    · rintro i x σ H' H'' hi ⟨rfl, c, d, rfl⟩ ⟨rfl, rfl⟩
      have a1 : atI (ns.map V.int) (0 + (i : Nat) * 2) = some (.int ((ns[2 * i]?).getD 0)) := by
        rw [at_int (by omega) (by omega), show (0 + ((i : Nat) : Int) * 2).toNat = 2 * i by omega]
      walk_at "eo go"
      rw [List.length_map]
      have fin : ∀ (b : Int), (ns[2 * i + 1]?).getD 0 = b → (if decide (65536 ≤ sumI ns i + ((ns[2 * i]?).getD 0 * 256 + b)) = true then sumI ns i + ((ns[2 * i]?).getD 0 * 256 + b) - 65536 + 1 else sumI ns i + ((ns[2 * i]?).getD 0 * 256 + b)) = sumI ns (i + 1) := by
        intro b e
        subst e
        show _ = (if _ then _ else _)
        by_cases c : 65536 ≤ sumI ns i + ((ns[2 * i]?).getD 0 * 256 + (ns[2 * i + 1]?).getD 0)
        · rw [if_pos (decide_eq_true c), if_pos c]
        · rw [if_neg (by rw [decide_eq_false c]; decide), if_neg c]
      refine g_ite (fun z => ?_) (fun z => ?_)
      · have z1 := dec_t z
        have a2 : atI (ns.map V.int) (0 + (i : Nat) * 2 + 1) = some (.int ((ns[2 * i + 1]?).getD 0)) := by
          rw [at_int (by omega) (by omega), show (0 + ((i : Nat) : Int) * 2 + 1).toNat = 2 * i + 1 by omega]
        have f := fin _ rfl
        walk_at "eo go"
        refine g_ite (fun y => ?_) (fun y => ?_)
        · rw [if_pos y] at f
          walk_at "eo go"
          exact ⟨rfl, _, _, by rw [← f]; rfl⟩
        · rw [if_neg (by rw [y]; decide)] at f
          walk_at "eo go"
          exact ⟨rfl, _, _, by rw [← f]; rfl⟩
      · have z1 := dec_f z
        have a2 : (ns[2 * i + 1]?).getD 0 = 0 := by rw [List.getElem?_eq_none (by omega)]; rfl
        have f := fin _ a2
        walk_at "eo go"
        refine g_ite (fun y => ?_) (fun y => ?_)
        · rw [if_pos y] at f
          walk_at "eo go"
          exact ⟨rfl, _, _, by rw [← f]; rfl⟩
        · rw [if_neg (by rw [y]; decide)] at f
          walk_at "eo go"
          exact ⟨rfl, _, _, by rw [← f]; rfl⟩
    · rintro σ H' ⟨rfl, c, d, rfl⟩
      walk_at "eo go"
      exact k
theorem ok_TextError_init {A : Adr} (T : Txt P K mg A) : FnOk P w K mg base (L2.CX P w) 1 A.f_TextError_init A.d_TextError_init ["self", "code", "at"] (spXInit2 A.c_TextError) := by
  refine Sup.fn_super (F := ⟨"__init__", "TextError.__init__", defArgs s_TextError_init, defBody s_TextError_init, defScope s_TextError_init, [("__class__", A.cc_TextError)], A.cd_TextError⟩) (N := ["self", "code", "at", "__class__"]) (ps' := ["code", "at"]) (k := 0) T.x_TextError.S (show NdefX.NScope _ _ _ (defScope s_TextError_init) from NdefX.nscope_by (by decide +kernel)) rfl (fun vs H Q E h => ?_) (fun Ar outer s H vs Q E hr h => ?_) (fun _ => rfl) (fun _ => rfl) (fun _ => rfl) T.x_TextError.hfd
  · obtain ⟨a, z, i, rfl, _⟩ := h
    rfl
  · obtain ⟨a, z, i, rfl, hz, i0, i1, ha, k⟩ := h
    refine ⟨a, [.str z, .int i], _, fun ws H1 => ws.length ≤ 1000 ∧ H1 = H, rfl, ha, pa_cons (pe_joined (PJ.cons pe_str (PJ.cons (pe_fmt (pv 1)) (PJ.cons pe_str (PJ.cons (pe_fmt (pv 2)) PJ.nil))))) pa_nil, ?_, fun ws H1 q => ⟨q.1, by rw [q.2]; exact ha, _, pss_cons (ps_ost (pv 0) (pv 1)) (pss_one (ps_ost (pv 0) (pv 2))), ?_⟩⟩
    · have e1 : (Str.empty ++ ("refused: " : Str)).length = 9 := by decide +kernel
      have e2 : (", " : Str).length = 2 := by decide +kernel
      have e3 : (toString i : Str).length ≤ 7 := by
        rw [nw_str i0, sx_len]
        exact TL.numL_len (by decide) (show i.toNat < 10 ^ 7 by omega)
      refine ⟨_, rfl, by rw [e1, sizeLine_eq]; omega, _, rfl, .inl ⟨z, rfl, by rw [sizeLine_eq]; omega, z, rfl, ?_, _, rfl, ?_, _, rfl, .inr ⟨i, rfl, log_small (by omega), _, rfl, ?_, ?_⟩⟩⟩
      · rw [Str.length_append, e1, sizeLine_eq]; omega
      · rw [Str.length_append, Str.length_append, e1, e2, sizeLine_eq]; omega
      · rw [Str.length_append, Str.length_append, Str.length_append, e1, e2, sizeLine_eq]; omega
      · exact ⟨(show 1 ≤ 1000 by decide), rfl⟩
    · rw [q.2]
      refine ⟨_, rfl, _, rfl, a, A.c_TextError, rfl, T.x_TextError.S.T, T.x_TextError.no_code, .inl ⟨ha, fun dx n ne => ?_⟩⟩
      exact ⟨_, rfl, _, rfl, a, A.c_TextError, rfl, T.x_TextError.S.T, T.x_TextError.no_at, .inr ⟨dx, [("code", .str z)], upd_same, by rw [upd_ne ne]; exact upd_same, (show 1 ≤ 900 by decide), k dx n ne⟩⟩
theorem ok_Reader_init {A : Adr} (T : Txt P K mg A) : FnOk P w K mg base CX0 1 A.f_Reader_init A.d_Reader_init ["self", "text"] (spRInit A.c_Reader) := by
  refine T.Reader_init.F.ok sc_Reader_init (fun vs H Q E h => ?_) (fun cdv Ar outer s H vs Q E hr h => ?_)
  · obtain ⟨r, dx, l, rfl, _⟩ := h
    rfl
  · obtain ⟨r, dx, l, rfl, hR, hl, k⟩ := h
    have cC := T.Reader.cl
    have nC := T.Reader.na
    refine ⟨_, (pss_cons (ps_fld (pv 0) (pe_lc (own := [("word", 2)]) rfl sc_Reader_init.nd (pi_list (pe_split (pv 1) pe_str)) (blkOk_by (own := [("word", 2)]) (N := ["self", "text", "word"]) (sc := defScope s_Reader_init) (by decide +kernel)) (fun _ _ _ _ _ => PG.star (pg_name (i := 2) sc_Reader_init.nd rfl (Or.inl rfl) (Or.inr rfl))) (fun _ _ _ _ _ => PTs.star ((pts_one (kk_truth (K := K) rfl (pv 2) (by intro _; rfl))))) (fun _ _ _ _ _ => PE.star (pv 2))) rfl)
      (pss_one (ps_fld (pv 0) pe_int rfl))), ?_⟩
    walk_at "eo init"
    walk_at "eo go"
    refine g_split (by decide +kernel) (by omega) ?_
    walk_at "eo go"
    rename_i p H1 n1 e1 h1
    have hR1 := e1.keep _ _ hR nin0
    have hsl := spl_le l
    refine g_lcP (walk_list (xs := (TL.spl [32] 0 [] l).map WS)) (fun i => (((TL.spl [32] 0 [] l).take i).filter fun w => decide (w ≠ [])).map WS) rfl (by rw [List.length_map]; omega) (fun i => by
      rw [List.length_map]
      exact Nat.le_trans (List.length_filter_le _ _) (by rw [List.length_take]; omega)) (fun H e => SqL.of (e.keep _ _ h1 nin0)) ?_ ?_
    · rintro i x H' H2 hi e ⟨rfl, hx⟩
      rw [List.getElem?_map] at hx
      cases hw : (TL.spl [32] 0 [] l)[i]? with
      | none => rw [hw] at hx; cases hx
      | some v =>
        rw [hw] at hx
        cases hx
        walk_at "eo go"
        refine ⟨rfl, ?_⟩
        walk_at "eo go"
        have hv := spl_word (List.mem_of_getElem? hw)
        refine g_truS (by rw [sx_len, sizeLine_eq]; omega) ?_
        rw [List.take_succ, hw]
        by_cases c : v = []
        · subst c
          refine g_iteDF rfl ?_
          refine ⟨rfl, ?_⟩
          rw [List.filter_append]
          show ((_ ++ List.filter (fun w => decide (w ≠ [])) [[]]).map WS) = _
          rw [show List.filter (fun w : List Nat => decide (w ≠ [])) [[]] = [] from rfl, List.append_nil]
        · have hl0 := List.length_pos_iff.mpr c
          refine g_iteDT (by rw [sx_len]; exact bne_iff_ne.mpr (by omega)) ?_
          walk_at "eo go"
          refine ⟨rfl, ?_⟩
          rw [List.filter_append, List.map_append]
          show _ ++ List.map WS (List.filter (fun w => decide (w ≠ [])) [v]) = _
          rw [List.filter_cons, if_pos (decide_eq_true c)]
          rfl
    · intro D H2 e2 n2 hD
      rw [List.length_map, List.take_length] at hD
      have hR2 := e2.keep _ _ hR1 nin0
      have nDr : D ≠ r := (ne_of_none hR1 n2).symm
      walk_at "eo go"
      rename_i H3 e3 h3 H4 e4 h4
      refine k H4 (by walk_at "eo ext") ⟨dx, D, h4, e4.keep _ _ (e3.keep _ _ hD (nin1 nDr)) (nin1 nDr)⟩
theorem ok_Reader_head {A : Adr} (T : Txt P K mg A) : FnOk P w K mg base CX0 1 A.f_Reader_head A.d_Reader_head ["self"] (spHead A.c_Reader) := by
  refine T.Reader_head.F.ok sc_Reader_head (fun vs H Q E h => ?_) (fun cdv Ar outer s H vs Q E hr h => ?_)
  · obtain ⟨r, ws, i, rfl, _⟩ := h
    rfl
  · obtain ⟨r, ws, i, rfl, ⟨dx, W, hR, hW⟩, k⟩ := h
    have cC := T.Reader.cl
    have nC := T.Reader.na
    refine ⟨_, (pss_one (ps_ret (pe_ifExp (pt_cmpR op_lt (pe_fld (pv 0) rfl) (pe_callB (id := "len") o_len (by rfl) T.b_len (by decide +kernel) (pa_cons (pe_fld (pv 0) rfl) pa_nil)) (nomark _)) (pe_ix ix_seq (pe_fld (pv 0) rfl) (pe_fld (pv 0) rfl) (fun _ _ => rfl)) pe_str))), ?_⟩
    walk_at "eo init"
    walk_at "eo go"
    refine g_ite (fun z => ?_) (fun z => ?_)
    · have z' := dec_t z
      rw [List.length_map] at z'
      have ha := gw_get (ws := ws) (i := i) (by omega)
      walk_at "eo go"
      exact k
    · have z' := dec_f z
      rw [List.length_map] at z'
      rw [gw_out (by omega)] at k
      walk_at "eo go"
      exact k
theorem ok_Reader_fail {A : Adr} (T : Txt P K mg A) : FnOk P w K mg base (L2.CX P w) 3 A.f_Reader_fail A.d_Reader_fail ["self"] (spFail A.c_Reader A.c_TextError) := by
  refine T.Reader_fail.F.okX sc_Reader_fail (fun vs H Q E h => ?_) (fun cdv Ar outer s H vs Q E hr h => ?_)
  · obtain ⟨r, ws, i, rfl, _⟩ := h
    rfl
  · obtain ⟨r, ws, i, rfl, ⟨dx, W, hR, hW⟩, hi, k⟩ := h
    have cC := T.Reader.cl
    have nC := T.Reader.na
    refine ⟨_, (pss_one (ps_raise rfl (takes_of rfl rfl rfl rfl) (pmk_oex T.x_TextError.S.T T.x_TextError.iC T.x_TextError.tI (ok_TextError_init T) (hr.mono (by decide)) T.x_TextError.b .nil passL (by rfl) T.x_TextError.mg (pa_cons pe_str (pa_cons (pe_fld (pv 0) rfl) pa_nil))))), ?_⟩
    walk_at "eo init"
    walk_at "eo go"
    refine g_mk2 (z := "form") (i := i) (by decide +kernel) (by omega) hi (fun R hR => ?_) fun d H' e hx => k d H' e hx
    walk_at "eo go"
    exact hR
theorem ok_Reader_need {A : Adr} (T : Txt P K mg A) : FnOk P w K mg base (L2.CX P w) 4 A.f_Reader_need A.d_Reader_need ["self", "word"] (spNeed A.c_Reader A.c_TextError) := by
  refine T.Reader_need.F.okX sc_Reader_need (fun vs H Q E h => ?_) (fun cdv Ar outer s H vs Q E hr h => ?_)
  · obtain ⟨r, ws, i, w, rfl, _⟩ := h
    rfl
  · obtain ⟨r, ws, i, w, rfl, hRd, hi, k1, k2⟩ := h
    have cC := T.Reader.cl
    have nC := T.Reader.na
    refine ⟨_, (pss_cons (ps_if (pt_cmpR (o_ne hr.units) (pe_meth0 (pv 0) T.Reader.cl T.Reader_head.me (ok_Reader_head T) (hr.mono (by decide)) T.Reader_head.b .nil pass0) (pv 1) (nomark _)) (pss_one (ps_expr (pe_meth0E (pv 0) T.Reader.cl T.Reader_fail.me (ok_Reader_fail T) (hr.mono (by decide)) T.Reader_fail.b (fun σ => passAt (takes_of rfl rfl rfl rfl) σ)))) pss_nil)
      (pss_one (ps_fldaug (pv 0) pe_int o_inadd))), ?_⟩
    obtain ⟨dx, W, hR, hW⟩ := id hRd
    walk_at "eo init"
    walk_at "eo go"
    refine ⟨r, ws, i, rfl, hRd, ?_⟩
    walk_at "eo go"
    rw [dec_ws]
    by_cases c : gw ws i = w
    · refine g_iteDF (by rw [decide_eq_true c]; rfl) ?_
      walk_at "eo go"
      rename_i H1 e1 h1
      have nW : W ≠ r := fun z => by rw [z, hR] at hW; cases hW
      exact k1 c H1 e1 ⟨dx, W, h1, e1.keep _ _ hW (nin1 nW)⟩
    · refine g_iteDT (by rw [decide_eq_false c]; rfl) ?_
      walk_at "eo go"
      exact ⟨r, ws, i, rfl, hRd, by omega, fun d H' e hx => k2 c d H' (e.mono fun _ z => by cases z) hx⟩
theorem ok_Reader_number {A : Adr} (T : Txt P K mg A) : FnOk P w K mg base (L2.CX P w) 4 A.f_Reader_number A.d_Reader_number ["self", "most"] (spNumber A.c_Reader A.c_TextError) := by
  refine T.Reader_number.F.okX sc_Reader_number (fun vs H Q E h => ?_) (fun cdv Ar outer s H vs Q E hr h => ?_)
  · obtain ⟨r, ws, i, most, rfl, _⟩ := h
    rfl
  · obtain ⟨r, ws, i, most, rfl, hRd, hi, hwl, k1, k2⟩ := h
    have cC := T.Reader.cl
    have nC := T.Reader.na
    refine ⟨_, (pss_cons (ps_set (i := 2) sc_Reader_number.nd rfl (Or.inl rfl) (pe_meth0 (pv 0) T.Reader.cl T.Reader_head.me (ok_Reader_head T) (hr.mono (by decide)) T.Reader_head.b .nil pass0))
      (pss_join (ps_if (PW.pt (pw_or (pt_not (pt_truth (pv 2) (by intro _; rfl))) (pw_or (pt_not (pt_truth (pe_callB (id := "all") (cr_all rfl) (by rfl) T.b_all (by decide +kernel) (pa_cons (pe_lc (own := [("sign", 3)]) (tt := stT tYes) rfl sc_Reader_number.nd (pi_str (pv 2)) (blkOk_by (own := [("sign", 3)]) (N := ["self", "most", "word", "sign"]) (sc := defScope s_Reader_number) (by decide +kernel)) (fun _ _ _ _ _ => PG.star (pg_name (i := 3) sc_Reader_number.nd rfl (Or.inl rfl) (Or.inr rfl))) (fun _ _ _ _ _ => PTs.star (pts_nil)) (fun _ _ _ _ _ => PE.star (pe_cmpR op_in_sign (pv 3) (pe_g rfl T.g_DIGITS) rfl))) pa_nil)) (by intro _; rfl))) (pw_or1 (PW.pt (pw_and (pt_cmpR op_gt (pe_callB (id := "len") o_len (by rfl) T.b_len (by decide +kernel) (pa_cons (pv 2) pa_nil)) pe_int (nomark _)) (pw_and1 (pt_cmpR (o_eq hr.units) (pe_ix ix_seq (pv 2) pe_int (fun _ _ => rfl)) pe_str (nomark _))))))))) (pss_one (ps_expr (pe_meth0E (pv 0) T.Reader.cl T.Reader_fail.me (ok_Reader_fail T) (hr.mono (by decide)) T.Reader_fail.b (fun σ => passAt (takes_of rfl rfl rfl rfl) σ)))) pss_nil)
      (pss_cons (ps_if (PW.pt (pw_or (pt_cmpR op_gt (pe_callB (id := "len") o_len (by rfl) T.b_len (by decide +kernel) (pa_cons (pv 2) pa_nil)) pe_int (nomark _)) (pw_or1 (pt_cmpR op_gt (pe_callTy (T := "int") call_int_str (by rfl) T.b_int (by decide +kernel) (pa_cons (pv 2) pa_nil)) (pv 1) (nomark _))))) (pss_one (ps_expr (pe_meth0E (pv 0) T.Reader.cl T.Reader_fail.me (ok_Reader_fail T) (hr.mono (by decide)) T.Reader_fail.b (fun σ => passAt (takes_of rfl rfl rfl rfl) σ)))) pss_nil)
      (pss_cons (ps_fldaug (pv 0) pe_int o_inadd)
      (pss_one (ps_ret (pe_callTy (T := "int") call_int_str (by rfl) T.b_int (by decide +kernel) (pa_cons (pv 2) pa_nil)))))))), ?_⟩
    obtain ⟨dx, W, hR, hW⟩ := id hRd
    walk_at "eo init"
    walk_at "eo go"
    refine ⟨r, ws, i, rfl, hRd, ?_⟩
    have hl := gw_len hwl i
    generalize hgw : gw ws i = w at *
    have bad : ∀ {H1 : Hp} {Qz : VK}, Ext [] H H1 → numW w most = none → spFail A.c_Reader A.c_TextError [.ref r] H1 Qz E := fun {H1 Qz} e1 hn => ⟨r, ws, i, rfl, hRd.ext e1 (fun _ z => by cases z), by omega, fun d H' e hx => k2 hn d H' ((e1.trans e (fun _ z => z) (fun _ z => by cases z)).mono fun _ z => by cases z) hx⟩
    have nW : W ≠ r := fun z => by rw [z, hR] at hW; cases hW
    clear k2
    walk_at "eo go"
    refine g_join (fun σ' H' => σ' = [some (.ref r), some (.int most), some (WS w), none] ∧ Ext [] H H' ∧ w ≠ [] ∧ w.all isDig = true ∧ ¬ (1 < w.length ∧ w.head? = some 48)) ?_ ?_
    walk_at "eo go"
    refine g_truS (by rw [sx_len, sizeLine_eq]; omega) ?_
    rw [sx_len]
    by_cases c0 : w = []
    · subst c0
      refine g_iteDT rfl ?_
      walk_at "eo go"
      exact bad (Ext.refl H) numW_nil
    · have hl0 := List.length_pos_iff.mpr c0
      refine g_iteDF (by rw [show ((w.length : Int) != 0) = true from bne_iff_ne.mpr (by omega)]; rfl) ?_
      walk_at "eo go"
      refine g_lcP (walk_str (z := Sx w)) (fun i => ((w.take i).map isDig).map V.bl) rfl (show w.length ≤ _ by omega) (fun i => by rw [List.length_map, List.length_map, List.length_take]; omega) (fun _ _ => trivial) ?_ ?_
      · rintro i x H' H2 hi e ⟨rfl, c, hc, rfl⟩
        have hc' : w[i]? = some c := by
          have := hc
          rw [List.getElem?_toArray] at this
          exact this
        walk_at "eo go"
        refine ⟨rfl, ?_⟩
        walk_at "eo go"
        refine ⟨c, _, rfl, rfl, ?_⟩
        rw [digs_lit, dig_mem, List.take_succ, hc', List.map_append, List.map_append]
        exact ⟨rfl, rfl⟩
      · intro D H1 e1 n1 hD
        rw [show (Sx w).cps.size = w.length by simp [Sx], List.take_length] at hD
        have hRd1 := hRd.ext e1 (fun _ z => by cases z)
        have hR1 := e1.keep _ _ hR nin0
        have hW1 := e1.keep _ _ hW nin0
        walk_at "eo go"
        refine ⟨D, w.map isDig, rfl, SqL.of hD, ?_⟩
        rw [show (w.map isDig).all id = w.all isDig by rw [List.all_map]; rfl]
        cases hd : w.all isDig with
        | false =>
          walk_at "eo go"
          exact bad e1 (numW_none hd)
        | true =>
          walk_at "eo go"
          rw [sx_len]
          refine g_ite (fun z => ?_) (fun z => ?_)
          · have z' := dec_t z
            obtain ⟨c, w', rfl⟩ : ∃ c w', w = c :: w' := by
              cases w with
              | nil => exact absurd rfl c0
              | cons c w' => exact ⟨c, w', rfl⟩
            walk_at "eo go"
            refine g_ixS (by rw [sx_len, sizeLine_eq]; omega) (show atI (c :: w') 0 = some c from atI_nat (j := 0) rfl) ?_
            walk_at "eo go"
            rw [show (V.str ⟨#[c]⟩ : V) = WS [c] from rfl, show (V.str (Str.ofString "0") : V) = WS [48] by rw [show (Str.ofString "0") = Sx [48] by decide +kernel], dec_ws]
            by_cases hc : c = 48
            · subst hc
              refine g_iteDT (by decide) ?_
              walk_at "eo go"
              exact bad e1 (numW_zero (fun e => by subst e; simp at z'))
            · refine g_iteDF (decide_eq_false (fun e => hc (List.cons.inj e).1)) ?_
              walk_at "eo go"
              exact ⟨rfl, e1, c0, rfl, fun h => hc (by simpa using h.2)⟩
          · have z' := dec_f z
            walk_at "eo go"
            exact ⟨rfl, e1, c0, rfl, fun h => by omega⟩
    · rintro σ' H1 ⟨rfl, e1, c0, hd, hlead⟩
      have hR1 := e1.keep _ _ hR nin0
      have hW1 := e1.keep _ _ hW nin0
      have hnum : numW w most = if 5 < w.length ∨ ((NumText.digitsVal w : Nat) : Int) > most then none else (some ((NumText.digitsVal w : Nat) : Int) : Option Int) := by
        unfold numW
        rw [if_neg]
        rintro (h | h | h)
        · exact c0 h
        · rw [hd] at h; cases h
        · exact hlead h
      walk_at "eo go"
      rw [sx_len]
      refine g_ite (fun z => ?_) (fun z => ?_)
      · have z' := dec_t z
        walk_at "eo go"
        exact bad e1 (by rw [hnum, if_pos (.inl (by omega))])
      · have z' := dec_f z
        have hin := int_sx hd c0 (by omega)
        walk_at "eo go"
        refine ⟨_, _, rfl, hin, by rw [sx_len]; omega, ?_⟩
        walk_at "eo go"
        refine g_ite (fun y => ?_) (fun y => ?_)
        · have y' := dec_t y
          walk_at "eo go"
          exact bad e1 (by rw [hnum, if_pos (.inr y')])
        · have y' := dec_f y
          walk_at "eo go"
          rename_i H2 e2 h2
          refine ⟨_, _, rfl, hin, by rw [sx_len]; omega, ?_⟩
          refine k1 _ (by rw [hnum, if_neg (by omega)]) _ (by walk_at "eo ext") ⟨dx, W, h2, e2.keep _ _ hW1 (nin1 nW)⟩
theorem ok_Reader_named {A : Adr} (T : Txt P K mg A) : FnOk P w K mg base (L2.CX P w) 5 A.f_Reader_named A.d_Reader_named ["self", "word", "most"] (spNamed A.c_Reader A.c_TextError) := by
  refine T.Reader_named.F.okX sc_Reader_named (fun vs H Q E h => ?_) (fun cdv Ar outer s H vs Q E hr h => ?_)
  · obtain ⟨r, ws, i, w, most, rfl, _⟩ := h
    rfl
  · obtain ⟨r, ws, i, w, most, rfl, hRd, hi, hwl, k1, k2⟩ := h
    have cC := T.Reader.cl
    have nC := T.Reader.na
    refine ⟨_, (pss_cons (ps_expr (pe_methE (pv 0) T.Reader.cl T.Reader_need.me (ok_Reader_need T) (hr.mono (by decide)) T.Reader_need.b (fun σ => passAt (takes_of rfl rfl rfl rfl) σ) (pa_cons (pv 1) pa_nil)))
      (pss_one (ps_ret (pe_methE (pv 0) T.Reader.cl T.Reader_number.me (ok_Reader_number T) (hr.mono (by decide)) T.Reader_number.b (fun σ => passAt (takes_of rfl rfl rfl rfl) σ) (pa_cons (pv 2) pa_nil))))), ?_⟩
    obtain ⟨dx, W, hR, hW⟩ := id hRd
    walk_at "eo init"
    walk_at "eo go"
    refine ⟨r, ws, i, w, rfl, hRd, by omega, fun c H1 e1 hRd1 => ?_, k1⟩
    obtain ⟨dx1, W1, hR1, hW1⟩ := id hRd1
    walk_at "eo go"
    refine ⟨r, ws, i + 1, most, rfl, hRd1, by omega, hwl, fun v hv H2 e2 hRd2 => ?_, fun hn d H' e hx => (k2 c).1 hn d H' (e1.trans e (fun _ z => z) (fun _ z _ => z)) hx⟩
    exact (k2 c).2 v hv H2 (e1.trans e2 (fun _ z => z) (fun _ z _ => z)) hRd2
theorem ok_parse_packet {A : Adr} (T : Txt P K mg A) : FnOk P w K mg base (L2.CX P w) 6 A.f_parse_packet A.d_parse_packet ["text"] (spParse K A.c_TextError) := by
  refine T.parse_packet.F.okX sc_parse_packet (fun vs H Q E h => ?_) (fun cdv Ar outer s H vs Q E hr h => ?_)
  · obtain ⟨l, rfl, _⟩ := h
    rfl
  · obtain ⟨l, rfl, hl, kb, kg⟩ := h
    have cC := T.Reader.cl
    have nC := T.Reader.na
    have hK : ∀ H, SqT K H A.g_KINDS (kinds.map WS) := fun H => kinds_lit ▸ T.t_KINDS H
    refine ⟨_, (pss_cons (ps_set (i := 1) sc_parse_packet.nd rfl (Or.inl rfl) (pe_makeX T.Reader.make (ok_Reader_init T) (hr.mono (by decide)) (by rfl) T.Reader.mg T.Reader_init.b .nil pass0 (pa_cons (pv 0) pa_nil)))
      (pss_cons (ps_set (i := 2) sc_parse_packet.nd rfl (Or.inl rfl) (pe_meth0 (pv 1) T.Reader.cl T.Reader_head.me (ok_Reader_head T) (hr.mono (by decide)) T.Reader_head.b .nil pass0))
      (pss_cons (ps_if (pt_cmpR op_notIn_seq (pv 2) (pe_g rfl T.g_KINDS) rfl) (pss_one (ps_expr (pe_meth0E (pv 1) T.Reader.cl T.Reader_fail.me (ok_Reader_fail T) (hr.mono (by decide)) T.Reader_fail.b (fun σ => passAt (takes_of rfl rfl rfl rfl) σ)))) pss_nil)
      (pss_cons (ps_fldaug (pv 1) pe_int o_inadd)
      (pss_cons (ps_set (i := 3) sc_parse_packet.nd rfl (Or.inl rfl) (pe_methE (pv 1) T.Reader.cl T.Reader_number.me (ok_Reader_number T) (hr.mono (by decide)) T.Reader_number.b (fun σ => passAt (takes_of rfl rfl rfl rfl) σ) (pa_cons (pe_g rfl T.g_MOST_OCTET) pa_nil)))
      (pss_cons (ps_set (i := 4) sc_parse_packet.nd rfl (Or.inl rfl) (pe_methE (pv 1) T.Reader.cl T.Reader_named.me (ok_Reader_named T) (hr.mono (by decide)) T.Reader_named.b (fun σ => passAt (takes_of rfl rfl rfl rfl) σ) (pa_cons pe_str (pa_cons (pe_g rfl T.g_MOST_OCTET) pa_nil))))
      (pss_cons (ps_set (i := 5) sc_parse_packet.nd rfl (Or.inl rfl) (pe_methE (pv 1) T.Reader.cl T.Reader_named.me (ok_Reader_named T) (hr.mono (by decide)) T.Reader_named.b (fun σ => passAt (takes_of rfl rfl rfl rfl) σ) (pa_cons pe_str (pa_cons (pe_g rfl T.g_MOST_OCTET) pa_nil))))
      (pss_cons (ps_set (i := 6) sc_parse_packet.nd rfl (Or.inl rfl) (pe_methE (pv 1) T.Reader.cl T.Reader_named.me (ok_Reader_named T) (hr.mono (by decide)) T.Reader_named.b (fun σ => passAt (takes_of rfl rfl rfl rfl) σ) (pa_cons pe_str (pa_cons (pe_g rfl T.g_MOST_NUMBER) pa_nil))))
      (pss_cons (ps_set (i := 7) sc_parse_packet.nd rfl (Or.inl rfl) (pe_methE (pv 1) T.Reader.cl T.Reader_named.me (ok_Reader_named T) (hr.mono (by decide)) T.Reader_named.b (fun σ => passAt (takes_of rfl rfl rfl rfl) σ) (pa_cons pe_str (pa_cons (pe_g rfl T.g_MOST_NUMBER) pa_nil))))
      (pss_cons (ps_set (i := 8) sc_parse_packet.nd rfl (Or.inl rfl) (pe_cmpR (o_eq hr.units) (pe_meth0 (pv 1) T.Reader.cl T.Reader_head.me (ok_Reader_head T) (hr.mono (by decide)) T.Reader_head.b .nil pass0) pe_str (nomark _)))
      (pss_join (ps_fldaug (pv 1) (pe_ifExp (pt_truth (pv 8) (by intro _; rfl)) pe_int pe_int) o_inadd)
      (pss_cons (ps_expr (pe_methE (pv 1) T.Reader.cl T.Reader_need.me (ok_Reader_need T) (hr.mono (by decide)) T.Reader_need.b (fun σ => passAt (takes_of rfl rfl rfl rfl) σ) (pa_cons pe_str pa_nil)))
      (pss_cons (ps_set (i := 9) sc_parse_packet.nd rfl (Or.inl rfl) (pe_lstX pa_nil))
      (pss_cons (ps_while (passes_of rfl) (pt_truth (pe_meth0 (pv 1) T.Reader.cl T.Reader_head.me (ok_Reader_head T) (hr.mono (by decide)) T.Reader_head.b .nil pass0) (by intro _; rfl)) (pss_cons (ps_if (pt_cmpR (o_eq hr.units) (pe_callB (id := "len") o_len (by rfl) T.b_len (by decide +kernel) (pa_cons (pv 9) pa_nil)) (pe_g rfl T.g_MOST_BODY) (nomark _)) (pss_one (ps_expr (pe_meth0E (pv 1) T.Reader.cl T.Reader_fail.me (ok_Reader_fail T) (hr.mono (by decide)) T.Reader_fail.b (fun σ => passAt (takes_of rfl rfl rfl rfl) σ)))) pss_nil)
      (pss_one (ps_expr (pe_bm PySem.F.plainAttrs_list PySem.F.slot_list_append PySem.F.type_list_append mt_append (pv 9) (pa_cons (pe_methE (pv 1) T.Reader.cl T.Reader_number.me (ok_Reader_number T) (hr.mono (by decide)) T.Reader_number.b (fun σ => passAt (takes_of rfl rfl rfl rfl) σ) (pa_cons (pe_g rfl T.g_MOST_OCTET) pa_nil)) pa_nil))))))
      (pss_one (ps_ret (pe_tupX (pa_cons (pv 3) (pa_cons (pv 4) (pa_cons (pv 2) (pa_cons (pv 5) (pa_cons (pv 6) (pa_cons (pv 7) (pa_cons (pv 8) (pa_cons (pe_callTy (T := "tuple") o_tuple (by rfl) T.b_tuple (by decide +kernel) (pa_cons (pv 9) pa_nil)) pa_nil))))))))))))))))))))))))), ?_⟩
    walk_at "eo init"
    walk_at "eo go"
    intro x dx H1 nx e1 h1
    refine ⟨x, dx, l, rfl, h1, hl, fun H2 e2 hRd => ⟨rfl, ?_⟩⟩
    have hwl : ∀ w ∈ toks l, w.length ≤ 100000 := fun w hw => Nat.le_trans (toks_len hw) hl
    have hwne : ∀ w ∈ toks l, w ≠ [] := fun w hw => toks_ne hw
    have hmany : (toks l).length ≤ 100001 := Nat.le_trans (toks_many l) (by omega)
    generalize toks l = ws at *
    have gx : ∀ {B C : Hp}, Ext [] H B → Ext [x] B C → Ext [] H C := fun {B C} e f => e.trans f (fun _ z => z) (fun y hy ⟨o, ho⟩ => by rw [List.mem_singleton.mp hy, nx] at ho; cases ho)
    have gn : ∀ {B C : Hp}, Ext [] H B → Ext [] B C → Ext [] H C := fun {B C} e f => e.trans f (fun _ z => z) (fun _ z => by cases z)
    have X2 := gx e1 e2
    clear e1 e2 h1
    have ex : ∀ {i : Nat} {B : Hp}, Ext [] H B → pars ws = .inr i → exA A.c_TextError i [x] B E := fun {i B} e hp d H' e' hx => kb i hp d H' (gx e e') hx
    obtain ⟨dx2, W2, hR2, hW2⟩ := id hRd
    have nW2 : W2 ≠ x := fun z => by rw [z, hR2] at hW2; cases hW2
    walk_at "eo go"
    refine ⟨x, ws, 0, rfl, hRd, ?_⟩
    walk_at "eo go"
    refine g_ninT (hK _) rfl (flat_ws _) ?_
    rw [inV_ws]
    refine ⟨_, rfl, ?_⟩
    by_cases hk0 : gw ws 0 ∈ kinds
    · obtain ⟨kd, hk, hkw, hk4⟩ := kind_some hk0
      refine g_iteDF (by rw [decide_eq_true hk0]; rfl) ?_
      walk_at "eo go"
      rename_i H3 e3 h3
      have hRd3 : RdAt A.c_Reader H3 x ws 1 := ⟨dx2, W2, h3, e3.keep _ _ hW2 (nin1 nW2)⟩
      have X3 := gx X2 e3
      clear e3 h3 hRd hR2 hW2 nW2 X2
      obtain ⟨dx3, W3, hR3, hW3⟩ := id hRd3
      refine ⟨x, ws, 1, 255, rfl, hRd3, by omega, hwl, fun s hs H4 e4 hRd4 => ?_, fun hn => ex X3 (by simp only [pars, hk, hn])⟩
      have X4 := gx X3 e4
      clear e4 hRd3 X3 hR3 hW3
      obtain ⟨dx4, W4, hR4, hW4⟩ := id hRd4
      walk_at "eo go"
      refine ⟨x, ws, 2, [62], 255, ?_, hRd4, by omega, hwl, fun hn => ex X4 (by simp only [pars, hk, hs, if_pos hn]), fun h2 => ⟨fun hn => ex X4 (by simp only [pars, hk, hs, h2, hn, ne_eq, not_true_eq_false, if_false]), fun g hg H5 e5 hRd5 => ?_⟩⟩
      · rw [show (Str.ofString ">") = Sx [62] by decide +kernel]
      have X5 := gx X4 e5
      clear e5 hRd4 X4 hR4 hW4
      obtain ⟨dx5, W5, hR5, hW5⟩ := id hRd5
      walk_at "eo go"
      refine ⟨x, ws, 4, lifeW, 255, ?_, hRd5, by omega, hwl, fun hn => ex X5 (by simp only [pars, hk, hs, h2, hg, ne_eq, not_true_eq_false, if_false, if_pos hn]), fun h4 => ⟨fun hn => ex X5 (by simp only [pars, hk, hs, h2, hg, h4, hn, ne_eq, not_true_eq_false, if_false]), fun lf hlf H6 e6 hRd6 => ?_⟩⟩
      · rw [show (Str.ofString "life") = Sx lifeW by decide +kernel]
      have X6 := gx X5 e6
      clear e6 hRd5 X5 hR5 hW5
      obtain ⟨dx6, W6, hR6, hW6⟩ := id hRd6
      walk_at "eo go"
      refine ⟨x, ws, 6, numberW, 65535, ?_, hRd6, by omega, hwl, fun hn => ex X6 (by simp only [pars, hk, hs, h2, hg, h4, hlf, ne_eq, not_true_eq_false, if_false, if_pos hn]), fun h6 => ⟨fun hn => ex X6 (by simp only [pars, hk, hs, h2, hg, h4, hlf, h6, hn, ne_eq, not_true_eq_false, if_false]), fun nb hnb H7 e7 hRd7 => ?_⟩⟩
      · rw [show (Str.ofString "number") = Sx numberW by decide +kernel]
      have X7 := gx X6 e7
      clear e7 hRd6 X6 hR6 hW6
      obtain ⟨dx7, W7, hR7, hW7⟩ := id hRd7
      walk_at "eo go"
      refine ⟨x, ws, 8, placeW, 65535, ?_, hRd7, by omega, hwl, fun hn => ex X7 (by simp only [pars, hk, hs, h2, hg, h4, hlf, h6, hnb, ne_eq, not_true_eq_false, if_false, if_pos hn]), fun h8 => ⟨fun hn => ex X7 (by simp only [pars, hk, hs, h2, hg, h4, hlf, h6, hnb, h8, hn, ne_eq, not_true_eq_false, if_false]), fun pl hpl H8 e8 hRd8 => ?_⟩⟩
      · rw [show (Str.ofString "place") = Sx placeW by decide +kernel]
      have X8 := gx X7 e8
      clear e8 hRd7 X7 hR7 hW7
      have hpars : pars ws = if gw ws 10 = moreW then pBody ws kd s g lf nb pl true 11 else pBody ws kd s g lf nb pl false 10 := by
        simp only [pars, hk, hs, h2, hg, h4, hlf, h6, hnb, h8, hpl, ne_eq, not_true_eq_false, if_false]
      clear hs h2 hg h4 hlf h6 hnb h8 hpl
      obtain ⟨dx8, W8, hR8, hW8⟩ := id hRd8
      have nW8 : W8 ≠ x := fun z => by rw [z, hR8] at hW8; cases hW8
      walk_at "eo go"
      refine ⟨x, ws, 10, rfl, hRd8, ?_⟩
      walk_at "eo go"
      have hm : decide (WS (gw ws 10) = V.str (Str.ofString "more")) = decide (gw ws 10 = moreW) := by rw [show (Str.ofString "more") = Sx moreW by decide +kernel]; exact dec_ws
      rw [hm]
      refine g_join (fun σ' H' => ∃ m j, σ' = [some (.str (Sx l)), some (.ref x), some (WS (gw ws 0)), some (.int s), some (.int g), some (.int lf), some (.int nb), some (.int pl), some (.bl m), none] ∧ RdAt A.c_Reader H' x ws j ∧ Ext [] H H' ∧ pars ws = pBody ws kd s g lf nb pl m j ∧ j ≤ 11) ?_ ?_
      · walk_at "eo go"
        by_cases c : gw ws 10 = moreW
        · rw [if_pos c] at hpars
          refine g_iteDT (decide_eq_true c) ?_
          walk_at "eo go"
          rename_i H9 e9 h9
          exact ⟨true, 11, by rw [decide_eq_true c]; rfl, ⟨dx8, W8, h9, e9.keep _ _ hW8 (nin1 nW8)⟩, gx X8 e9, hpars, by omega⟩
        · rw [if_neg c] at hpars
          refine g_iteDF (decide_eq_false c) ?_
          walk_at "eo go"
          rename_i H9 e9 h9
          exact ⟨false, 10, by rw [decide_eq_false c]; rfl, ⟨dx8, W8, h9, e9.keep _ _ hW8 (nin1 nW8)⟩, gx X8 e9, hpars, by omega⟩
      · clear X8 hRd8 hR8 hW8 nW8 hpars
        rintro σ' H9 ⟨m, j, rfl, hRd9, X9, hpars, hj⟩
        obtain ⟨dx9, W9, hR9, hW9⟩ := id hRd9
        walk_at "eo go"
        refine ⟨x, ws, j, [58], ?_, hRd9, by omega, fun hc H10 e10 hRd10 => ?_, fun hn => ex X9 (by rw [hpars]; unfold pBody; rw [if_pos hn])⟩
        · rw [show (Str.ofString ":") = Sx [58] by decide +kernel]
        have X10 := gx X9 e10
        have hpars' : pars ws = match bodyL (ws.drop (j + 1)) (j + 1) [] with
            | .inr i => .inr i
            | .inl b => .inl ⟨s, g, kd, lf, nb, pl, m, b⟩ := by
          rw [hpars]
          unfold pBody
          rw [if_neg (by rw [hc]; simp)]
        clear e10 hRd9 hR9 hW9 X9 hpars
        walk_at "eo go"
        rename_i B H11 n11 e11 h11
        have nBx : B ≠ x := by
          obtain ⟨_, _, q, _⟩ := hRd10
          exact (ne_of_none q n11).symm
        have nH : H B = none := X10.free n11 nin0
        have hRd11 := hRd10.ext e11 (fun _ z => by cases z)
        have X11 := gn X10 e11
        clear hRd10 X10 e11 n11
        refine g_while (fun n σ' H' => ∃ acc i, σ' = [some (.str (Sx l)), some (.ref x), some (WS (gw ws 0)), some (.int s), some (.int g), some (.int lf), some (.int nb), some (.int pl), some (.bl m), some (.ref B)] ∧ RdAt A.c_Reader H' x ws i ∧ Ext [] H H' ∧ H' B = some (.lst (acc.map V.int)) ∧ bodyL (ws.drop (j + 1)) (j + 1) [] = bodyL (ws.drop i) i acc ∧ n = ws.length - i ∧ acc.length ≤ 512 ∧ i ≤ ws.length + 12) _ ⟨[], j + 1, rfl, hRd11, X11, h11, rfl, rfl, Nat.zero_le _, by omega⟩ ?_
        clear hRd11 X11 h11
        rintro n σ' H' ⟨acc, i, rfl, hRd, X, hB, hb, rfl, hal, hil⟩
        obtain ⟨dx', W', hR', hW'⟩ := id hRd
        walk_at "eo go"
        refine ⟨x, ws, i, rfl, hRd, ?_⟩
        have hgl := gw_len hwl i
        refine g_truS (by rw [sx_len, sizeLine_eq]; omega) ?_
        rw [sx_len]
        by_cases hi : i < ws.length
        · have hne : gw ws i ≠ [] := by
            unfold gw
            rw [List.getElem?_eq_getElem hi]
            exact hwne _ (List.getElem_mem hi)
          have hl0 := List.length_pos_iff.mpr hne
          refine g_iteDT (bne_iff_ne.mpr (by omega)) ?_
          rw [drop_gw hi, bodyL_cons] at hb
          walk_at "eo go"
          rw [List.length_map]
          by_cases hf : acc.length = 512
          · rw [if_pos hf] at hb
            refine g_iteDT (decide_eq_true (by rw [hf]; rfl)) ?_
            walk_at "eo go"
            exact ⟨x, ws, i, rfl, hRd, by omega, fun d H' e hx => ex X (by rw [hpars', hb]) d H' (e.mono fun _ z => by cases z) hx⟩
          · rw [if_neg hf] at hb
            refine g_iteDF (decide_eq_false (fun z => hf (by have := vint z; omega))) ?_
            walk_at "eo go"
            refine ⟨x, ws, i, 255, rfl, hRd, by omega, hwl, fun v hv H12 e12 hRd12 => ?_, fun hn => ex X (by rw [hn] at hb; rw [hpars', hb])⟩
            rw [hv] at hb
            have hB12 := e12.keep _ _ hB (nin1 nBx)
            refine g_nil ?_
            refine g_append hB12 (by rw [List.length_map, sizeLine_eq]; omega) fun H13 e13 h13 => ?_
            have X13 : Ext [] H H13 := (gx X e12).trans e13 (fun _ z => z) (fun y hy ⟨o, ho⟩ => by rw [List.mem_singleton.mp hy, nH] at ho; cases ho)
            obtain ⟨dxa, Wa, ha1, ha2⟩ := id hRd12
            have nWB : Wa ≠ B := by
              intro z
              rw [z, hB12] at ha2
              have q := HO.lst.inj (Option.some.inj ha2)
              cases ws with
              | nil => exact absurd hi (Nat.not_lt_zero _)
              | cons w0 wr => cases acc <;> simp at q
            refine ⟨_, ?_, acc ++ [v], i + 1, rfl, ⟨dxa, Wa, e13.keep _ _ ha1 (nin1 nBx.symm), e13.keep _ _ ha2 (nin1 nWB)⟩, X13, by rw [List.map_append]; exact h13, hb, rfl, by rw [List.length_append, List.length_singleton]; omega, by omega⟩
            omega
        · have hgo : gw ws i = [] := gw_out (by omega)
          rw [hgo]
          refine g_iteDF rfl ?_
          rw [List.drop_of_length_le (show ws.length ≤ i by omega)] at hb
          have hb' : bodyL (ws.drop (j + 1)) (j + 1) [] = .inl acc := hb
          rw [hb'] at hpars'
          walk_at "eo go"
          rename_i bt H12 n12 e12 h12 c H13 n13 e13 h13
          exact kg ⟨s, g, kd, lf, nb, pl, m, acc⟩ hpars' c H13 (gn (gn X e12) e13) ⟨bt, by rw [hkw] at h13; exact SqT.of h13, sqT_ext e13 (SqT.of h12)⟩
    · refine g_iteDT (by rw [decide_eq_false hk0]; rfl) ?_
      walk_at "eo go"
      exact ⟨x, ws, 0, rfl, hRd, by omega, fun d H' e hx => ex X2 (by simp only [pars, kind_none hk0]) d H' (e.mono fun _ z => by cases z) hx⟩
theorem ok_law_read {A : Adr} (T : Txt P K mg A) : FnOk P w K mg base CX0 7 A.f_law_read A.d_law_read ["text"] (spRead K) := by
  refine T.law_read.F.ok sc_law_read (fun vs H Q E h => ?_) (fun cdv Ar outer s H vs Q E hr h => ?_)
  · obtain ⟨l, rfl, _⟩ := h
    rfl
  · obtain ⟨l, rfl, hl, k1, k2⟩ := h
    refine ⟨_, (pss_one (ps_try_as (i := 1) (tb := fun W => tRet (tCallS (spParse K A.c_TextError) (WE W) (tCons (tVar 0) tNil))) (ts := fun a cls d => tRet (tTupX (tCons (tXf a cls d A.c_TextError "code" (tVar 1)) (tCons (tXf a cls d A.c_TextError "at" (tVar 1)) tNil)))) (Wout := fun _ _ _ _ => False) rfl rfl sc_law_read.nd rfl rfl ⟨rfl, by decide, .inl T.x_TextError.mg⟩ takes0 (fun W pn xe tk _ => pss_one (ps_ret (pe_callS (ok_parse_packet T) (hr.mono (by decide)) (by rfl) T.parse_packet.mg T.parse_packet.kp T.parse_packet.b (fun σ => passAt tk σ) (pa_cons (pv 0) pa_nil)))) (fun a oe cls d pn hz hf => (pss_one (ps_ret (pe_tupX (pa_cons (pe_xf T.x_TextError.xf T.x_TextError.no_code hz hf (pv 1)) (pa_cons (pe_xf T.x_TextError.xf T.x_TextError.no_at hz hf (pv 1)) pa_nil)))))))), ?_⟩
    walk_at "eo init"
    show tRet _ _ _ _
    refine g_ret ?_
    refine g_callS ?_
    walk_at "eo go"
    refine ⟨l, rfl, hl, fun i hi d H' e hx => ?_, fun p hp c H' e h => k2 p hp c H' e h⟩
    refine ⟨true, T.x_TextError.te, fun _ a ha => ?_, fun q => Bool.noConfusion q⟩
    refine g_ret ?_
    refine g_tup ?_
    refine g_cons ?_
    refine ⟨.ref a, rfl, rfl, rfl, d, _, .str "form", rfl, hx, rfl, ?_⟩
    refine g_cons ?_
    refine ⟨.ref a, rfl, rfl, rfl, d, _, .int i, rfl, hx, rfl, ?_⟩
    walk_at "eo go"
    rename_i c H1 n1 e1 h1
    exact k1 i hi c H1 (e.trans e1 (fun _ z => z) (fun _ z => by cases z)) (SqT.of h1)
theorem ok_packed {A : Adr} (T : Txt P K mg A) : FnOk P w K mg base CX0 2 A.f_packed A.d_packed ["packet"] (spPacked K) := by
  refine T.packed.F.ok sc_packed (fun vs H Q E h => ?_) (fun cdv Ar outer s H vs Q E hr h => ?_)
  · obtain ⟨a, p, rfl, _⟩ := h
    rfl
  · obtain ⟨a, p, rfl, ⟨b, ha, hb⟩, hk, hbl, k⟩ := h
    have hK : ∀ H, SqT K H A.g_KINDS (kinds.map WS) := fun H => kinds_lit ▸ T.t_KINDS H
    dsimp only [pkV] at ha
    refine ⟨_, (pss_cons (ps_asg (pv 0) (pg_tup (n := 8) rfl (pgs_cons (pg_name (i := 1) sc_packed.nd rfl (Or.inl rfl)) (pgs_cons (pg_name (i := 2) sc_packed.nd rfl (Or.inl rfl)) (pgs_cons (pg_name (i := 3) sc_packed.nd rfl (Or.inl rfl)) (pgs_cons (pg_name (i := 4) sc_packed.nd rfl (Or.inl rfl)) (pgs_cons (pg_name (i := 5) sc_packed.nd rfl (Or.inl rfl)) (pgs_cons (pg_name (i := 6) sc_packed.nd rfl (Or.inl rfl)) (pgs_cons (pg_name (i := 7) sc_packed.nd rfl (Or.inl rfl)) (pgs_cons (pg_name (i := 8) sc_packed.nd rfl (Or.inl rfl)) pgs_nil))))))))))
      (pss_cons (ps_set (i := 9) sc_packed.nd rfl (Or.inl rfl) (pe_op o_add (pe_op o_add (pe_tupX (pa_cons (pv 1) (pa_cons (pv 2) (pa_cons (pe_bm PySem.F.plainAttrs_tuple PySem.F.slot_tuple_index PySem.F.type_tuple_index mt_tindexS (pe_g rfl T.g_KINDS) (pa_cons (pv 3) pa_nil)) (pa_cons (pv 4) pa_nil))))) (pe_call (ok_two_octets T) (hr.mono (by decide)) (by rfl) T.two_octets.mg T.two_octets.kp T.two_octets.b .nil pass0 (pa_cons (pv 5) pa_nil))) (pe_call (ok_two_octets T) (hr.mono (by decide)) (by rfl) T.two_octets.mg T.two_octets.kp T.two_octets.b .nil pass0 (pa_cons (pv 6) pa_nil))))
      (pss_cons (ps_aug (i := 9) sc_packed.nd rfl (Or.inl rfl) (pe_op o_add (pe_tupX (pa_cons (pe_ifExp (pt_truth (pv 7) (by intro _; rfl)) pe_int pe_int) pa_nil)) (pe_call (ok_two_octets T) (hr.mono (by decide)) (by rfl) T.two_octets.mg T.two_octets.kp T.two_octets.b .nil pass0 (pa_cons (pe_callB (id := "len") o_len (by rfl) T.b_len (by decide +kernel) (pa_cons (pv 8) pa_nil)) pa_nil))) o_icatT)
      (pss_one (ps_ret (pe_op o_add (pe_op o_add (pv 9) (pe_call (ok_two_octets T) (hr.mono (by decide)) (by rfl) T.two_octets.mg T.two_octets.kp T.two_octets.b .nil pass0 (pa_cons (pe_call (ok_sum16 T) (hr.mono (by decide)) (by rfl) T.sum16.mg T.sum16.kp T.sum16.b .nil pass0 (pa_cons (pv 9) pa_nil)) pa_nil))) (pe_callTy (T := "tuple") o_tuple (by rfl) T.b_tuple (by decide +kernel) (pa_cons (pv 8) pa_nil)))))))), ?_⟩
    walk_at "eo init"
    walk_at "eo go"
    refine ⟨.inr (.inl ⟨rfl, T.y_KINDS⟩), ?_⟩
    walk_at "eo go"
    refine g_idxT (hK _) hk ?_
    walk_at "eo go"
    rename_i c1 H1 n1 e1 h1 c2 H2 e2 h2 c3 H3 e3 h3 c4 H4 e4 h4 c5 H5 e5 h5
    show if p.m = true then _ else _
    refine g_ifC ?_
    walk_at "eo go"
    rename_i c6 H6 n6 e6 h6 c7 H7 e7 h7 c8 H8 e8 h8
    rw [List.length_map] at h7 h8
    refine g_icatT (by walk_at "eo sqT") h8 (by simp) (by simp) (by rw [sizeLine_eq]; simp) ?_
    walk_at "eo go"
    rename_i c9 H9 n9 e9 h9
    have h9' : SqT K H9 c9 ((hd p).map V.int) := SqT.of h9
    refine ⟨c9, hd p, rfl, h9', (show 11 < 128 by decide), ?_⟩
    walk_at "eo go"
    rename_i d1 G1 f1 g1 d2 G2 f2 g2
    have e09 : Ext [] H H9 := by walk_at "eo ext"
    have hb2 := sqT_ext f2 (sqT_ext f1 (sqT_ext e09 hb))
    refine g_addT g2 hb2 ?_ fun c H' e h => ?_
    · rw [sizeLine_eq, List.length_append, List.length_map, List.length_map]
      show 11 + 2 + p.b.length ≤ _
      omega
    · refine k c H' (((e09.trans f1 (fun _ z => z) (fun _ z => by cases z)).trans f2 (fun _ z => z) (fun _ z => by cases z)).trans e (fun _ z => z) (fun _ z => by cases z)) ?_
      rw [pkd_map]
      exact h
theorem ok_unpacked {A : Adr} (T : Txt P K mg A) : FnOk P w K mg base CX0 2 A.f_unpacked A.d_unpacked ["octets"] (spUnpacked K) := by
  refine T.unpacked.F.ok sc_unpacked (fun vs H Q E h => ?_) (fun cdv Ar outer s H vs Q E hr h => ?_)
  · obtain ⟨a, ns, rfl, _⟩ := h
    rfl
  · obtain ⟨a, ns, rfl, ha, ho, hl, k1, k2⟩ := h
    have hK : ∀ H, SqT K H A.g_KINDS (kinds.map WS) := fun H => kinds_lit ▸ T.t_KINDS H
    refine ⟨_, (pss_cons (ps_if (pt_cmpR op_lt (pe_callB (id := "len") o_len (by rfl) T.b_len (by decide +kernel) (pa_cons (pv 0) pa_nil)) (pe_g rfl T.g_HEAD) (nomark _)) (pss_one (ps_ret pe_non)) pss_nil)
      (pss_cons (ps_par (i := 1) (j := 2) rfl sc_unpacked.nd rfl rfl (by decide) rfl rfl (pa_cons (pe_callTy (T := "tuple") o_tuple (by rfl) T.b_tuple (by decide +kernel) (pa_cons (pe_slice o_sl (pv 0) po_none (po_some (pe_op op_sub (pe_g rfl T.g_HEAD) pe_int))) pa_nil)) (pa_cons (pe_callTy (T := "tuple") o_tuple (by rfl) T.b_tuple (by decide +kernel) (pa_cons (pe_slice o_sl (pv 0) (po_some (pe_g rfl T.g_HEAD)) po_none) pa_nil)) pa_nil)) rfl)
      (pss_cons (ps_if (PW.pt (pw_or (pt_cmpR (o_ne hr.units) (pe_call (ok_number_of T) (hr.mono (by decide)) (by rfl) T.number_of.mg T.number_of.kp T.number_of.b .nil pass0 (pa_cons (pe_slice o_sl (pv 0) (po_some (pe_op op_sub (pe_g rfl T.g_HEAD) pe_int)) (po_some (pe_g rfl T.g_HEAD))) pa_nil)) (pe_call (ok_sum16 T) (hr.mono (by decide)) (by rfl) T.sum16.mg T.sum16.kp T.sum16.b .nil pass0 (pa_cons (pv 1) pa_nil)) (nomark _)) (pw_or1 (pt_cmpR (o_ne hr.units) (pe_call (ok_number_of T) (hr.mono (by decide)) (by rfl) T.number_of.mg T.number_of.kp T.number_of.b .nil pass0 (pa_cons (pe_slice o_sl (pv 1) (po_some pe_int) (po_some pe_int)) pa_nil)) (pe_callB (id := "len") o_len (by rfl) T.b_len (by decide +kernel) (pa_cons (pv 2) pa_nil)) (nomark _))))) (pss_one (ps_ret pe_non)) pss_nil)
      (pss_cons (ps_if (PW.pt (pw_or (pt_cmpR op_ge (pe_ix ix_seq (pv 1) pe_int (fun _ _ => rfl)) (pe_callB (id := "len") o_len (by rfl) T.b_len (by decide +kernel) (pa_cons (pe_g rfl T.g_KINDS) pa_nil)) (nomark _)) (pw_or (pt_cmpR op_gt (pe_ix ix_seq (pv 1) pe_int (fun _ _ => rfl)) pe_int (nomark _)) (pw_or1 (pt_cmpR op_gt (pe_callB (id := "len") o_len (by rfl) T.b_len (by decide +kernel) (pa_cons (pv 2) pa_nil)) (pe_g rfl T.g_MOST_BODY) (nomark _)))))) (pss_one (ps_ret pe_non)) pss_nil)
      (pss_cons (ps_set (i := 3) sc_unpacked.nd rfl (Or.inl rfl) (pe_ix ix_seq (pe_g rfl T.g_KINDS) (pe_ix ix_seq (pv 1) pe_int (fun _ _ => rfl)) (fun _ _ => rfl)))
      (pss_one (ps_ret (pe_tupX (pa_cons (pe_ix ix_seq (pv 1) pe_int (fun _ _ => rfl)) (pa_cons (pe_ix ix_seq (pv 1) pe_int (fun _ _ => rfl)) (pa_cons (pv 3) (pa_cons (pe_ix ix_seq (pv 1) pe_int (fun _ _ => rfl)) (pa_cons (pe_call (ok_number_of T) (hr.mono (by decide)) (by rfl) T.number_of.mg T.number_of.kp T.number_of.b .nil pass0 (pa_cons (pe_slice o_sl (pv 1) (po_some pe_int) (po_some pe_int)) pa_nil)) (pa_cons (pe_call (ok_number_of T) (hr.mono (by decide)) (by rfl) T.number_of.mg T.number_of.kp T.number_of.b .nil pass0 (pa_cons (pe_slice o_sl (pv 1) (po_some pe_int) (po_some pe_int)) pa_nil)) (pa_cons (pe_cmpR (o_eq hr.units) (pe_ix ix_seq (pv 1) pe_int (fun _ _ => rfl)) pe_int (nomark _)) (pa_cons (pv 2) pa_nil)))))))))))))))), ?_⟩
    walk_at "eo init"
    walk_at "eo go"
    rw [List.length_map]
    refine g_ite (fun z => ?_) (fun z => ?_)
    · have z' := dec_t z
      walk_at "eo go"
      exact k1 (by unfold unp; rw [if_pos (by omega)]) _ (Ext.refl _)
    · have z' := dec_f z
      walk_at "eo go"
      rename_i c1 H1 e1 h1 c2 H2 e2 h2 c3 H3 e3 h3
      have h1' : SqT K H1 c1 ((ns.take 11).map V.int) := by rw [List.map_take]; exact h1
      have h2' : SqT K H2 c2 ((ns.drop 13).map V.int) := by rw [List.map_drop]; exact h2
      have h3' : SqT K H3 c3 (((ns.take 13).drop 11).map V.int) := by rw [List.map_drop, List.map_take]; exact h3
      have hu := unp_ge (ns := ns) (by omega)
      have hol : Oct (ns.take 11) := fun x hx => ho x (List.mem_of_mem_take hx)
      have hll : (ns.take 11).length = 11 := by rw [List.length_take]; omega
      have hbl : (ns.drop 13).length ≤ 1000 := by rw [List.length_drop]; omega
      have X3 : Ext [] H H3 := by walk_at "eo ext"
      have h1' := sqT_ext e3 (sqT_ext e2 h1')
      have h2' := sqT_ext e3 h2'
      generalize (ns.take 13).drop 11 = q at *
      generalize ns.take 11 = hh at *
      generalize ns.drop 13 = bb at *
      clear h1 h2 h3 e1 e2 e3 ha
      refine ⟨c3, _, _, rfl, h3', rfl, ?_⟩
      walk_at "eo go"
      refine ⟨c1, hh, rfl, h1', by omega, ?_⟩
      walk_at "eo go"
      by_cases cc : num q = sm hh
      · refine g_iteDF (by rw [decide_eq_true (by rw [cc])]; rfl) ?_
        walk_at "eo go"
        rename_i c4 H4 e4 h4
        have h4' : SqT K H4 c4 (((hh.take 11).drop 9).map V.int) := by rw [List.map_drop, List.map_take]; exact h4
        have X4 : Ext [] H H4 := X3.trans e4 (fun _ z => z) (fun _ z => by cases z)
        have h1' := sqT_ext e4 h1'
        have h2' := sqT_ext e4 h2'
        clear X3 e4 h4 h3'
        refine ⟨c4, _, _, rfl, h4', rfl, ?_⟩
        walk_at "eo go"
        rw [List.length_map]
        by_cases c5 : num ((hh.take 11).drop 9) = (bb.length : Int)
        · refine g_iteDF (by rw [decide_eq_true (by rw [c5])]; rfl) ?_
          rw [if_neg (by rw [cc, c5]; simp)] at hu
          have a : ∀ i : Nat, i < 11 → atI (hh.map V.int) (i : Int) = some (.int ((hh[i]?).getD 0)) := fun i hi => at_int (j := (i : Int)) (by omega) (by omega)
          have a0 := a 0 (by omega)
          have a1 := a 1 (by omega)
          have a2 := a 2 (by omega)
          have a3 := a 3 (by omega)
          have a8 := a 8 (by omega)
          have g2 := hol.get 2
          have g8 := hol.get 8
          clear a
          walk_at "eo go"
          refine g_lenT (hK _) ?_
          walk_at "eo go"
          refine g_ite (fun y => ?_) (fun y => ?_)
          · have y' : (4 : Int) ≤ (hh[2]?).getD 0 := dec_t y
            rw [if_pos (.inl y')] at hu
            walk_at "eo go"
            exact k1 hu _ X4
          · have y' : ¬ (4 : Int) ≤ (hh[2]?).getD 0 := dec_f y
            walk_at "eo go"
            refine g_ite (fun x => ?_) (fun x => ?_)
            · have x' := dec_t x
              rw [if_pos (.inr (.inl x'))] at hu
              walk_at "eo go"
              exact k1 hu _ X4
            · have x' := dec_f x
              walk_at "eo go"
              rw [List.length_map]
              refine g_ite (fun v => ?_) (fun v => ?_)
              · have v' := dec_t v
                rw [if_pos (.inr (.inr (by omega)))] at hu
                walk_at "eo go"
                exact k1 hu _ X4
              · have v' := dec_f v
                rw [if_neg (by omega)] at hu
                have hKa := at_kinds g2.1 (by omega)
                have hK4 := hK H4
                walk_at "eo go"
                rename_i c5 H5 e5 h5
                have h5' : SqT K H5 c5 (((hh.take 6).drop 4).map V.int) := by rw [List.map_drop, List.map_take]; exact h5
                refine ⟨c5, _, _, rfl, h5', rfl, ?_⟩
                walk_at "eo go"
                rename_i c6 H6 e6 h6
                have h6' : SqT K H6 c6 (((hh.take 8).drop 6).map V.int) := by rw [List.map_drop, List.map_take]; exact h6
                refine ⟨c6, _, _, rfl, h6', rfl, ?_⟩
                walk_at "eo go"
                rename_i c7 H7 n7 e7 h7
                refine k2 _ hu c7 H7 (by walk_at "eo ext") ⟨c2, ?_, by walk_at "eo sqT"⟩
                rw [dec_int] at h7
                exact SqT.of h7
        · refine g_iteDT (by rw [decide_eq_false (fun z => c5 (vint z))]; rfl) ?_
          rw [if_pos (.inr c5)] at hu
          walk_at "eo go"
          exact k1 hu _ X4
      · refine g_iteDT (by rw [decide_eq_false (fun z => cc (vint z))]; rfl) ?_
        rw [if_pos (.inl cc)] at hu
        walk_at "eo go"
        exact k1 hu _ X3
theorem ok_format_packet {A : Adr} (T : Txt P K mg A) : FnOk P w K mg base CX0 1 A.f_format_packet A.d_format_packet ["packet"] (spFormat K) := by
  refine T.format_packet.F.ok sc_format_packet (fun vs H Q E h => ?_) (fun cdv Ar outer s H vs Q E hr h => ?_)
  · obtain ⟨a, p, rfl, _⟩ := h
    rfl
  · obtain ⟨a, p, rfl, ⟨b, ha, hb⟩, hp, k⟩ := h
    dsimp only [pkV] at ha
    refine ⟨_, (pss_cons (ps_asg (pv 0) (pg_tup (n := 8) rfl (pgs_cons (pg_name (i := 1) sc_format_packet.nd rfl (Or.inl rfl)) (pgs_cons (pg_name (i := 2) sc_format_packet.nd rfl (Or.inl rfl)) (pgs_cons (pg_name (i := 3) sc_format_packet.nd rfl (Or.inl rfl)) (pgs_cons (pg_name (i := 4) sc_format_packet.nd rfl (Or.inl rfl)) (pgs_cons (pg_name (i := 5) sc_format_packet.nd rfl (Or.inl rfl)) (pgs_cons (pg_name (i := 6) sc_format_packet.nd rfl (Or.inl rfl)) (pgs_cons (pg_name (i := 7) sc_format_packet.nd rfl (Or.inl rfl)) (pgs_cons (pg_name (i := 8) sc_format_packet.nd rfl (Or.inl rfl)) pgs_nil))))))))))
      (pss_cons (ps_set (i := 9) sc_format_packet.nd rfl (Or.inl rfl) (pe_lstX (pa_cons (pv 3) (pa_cons (pe_callTy (T := "str") o_strI (by rfl) T.b_str (by decide +kernel) (pa_cons (pv 1) pa_nil)) (pa_cons pe_str (pa_cons (pe_callTy (T := "str") o_strI (by rfl) T.b_str (by decide +kernel) (pa_cons (pv 2) pa_nil)) (pa_cons pe_str (pa_cons (pe_callTy (T := "str") o_strI (by rfl) T.b_str (by decide +kernel) (pa_cons (pv 4) pa_nil)) (pa_cons pe_str (pa_cons (pe_callTy (T := "str") o_strI (by rfl) T.b_str (by decide +kernel) (pa_cons (pv 5) pa_nil)) (pa_cons pe_str (pa_cons (pe_callTy (T := "str") o_strI (by rfl) T.b_str (by decide +kernel) (pa_cons (pv 6) pa_nil)) pa_nil))))))))))))
      (pss_cons (ps_expr (pe_bm PySem.F.plainAttrs_list PySem.F.slot_list_extend PySem.F.type_list_extend mt_extend (pv 9) (pa_cons (pe_op o_add (pe_op o_add (pe_ifExp (pt_truth (pv 7) (by intro _; rfl)) (pe_lstX (pa_cons pe_str pa_nil)) (pe_lstX pa_nil)) (pe_lstX (pa_cons pe_str pa_nil))) (pe_lc (own := [("own", 10)]) (tt := stT tYes) rfl sc_format_packet.nd (pi_tup (pv 8)) (blkOk_by (own := [("own", 10)]) (N := ["packet", "source", "goal", "kind", "life", "number", "place", "more", "body", "words", "own"]) (sc := defScope s_format_packet) (by decide +kernel)) (fun _ _ _ _ _ => PG.star (pg_name (i := 10) sc_format_packet.nd rfl (Or.inl rfl) (Or.inr rfl))) (fun _ _ _ _ _ => PTs.star (pts_nil)) (fun _ _ _ _ _ => PE.star (pe_callTy (T := "str") o_strI (by rfl) T.b_str (by decide +kernel) (pa_cons (pv 10) pa_nil))))) pa_nil)))
      (pss_one (ps_ret (pe_m1 PySem.F.slot_str_join PySem.F.type_str_join mt_joinW pe_str (pv 9))))))), ?_⟩
    have ⟨s0, s1⟩ := hp.s
    have ⟨g0, g1⟩ := hp.g
    have ⟨l0, l1⟩ := hp.l
    have ⟨n0, n1⟩ := hp.n
    have ⟨p0, p1⟩ := hp.p
    walk_at "eo init"
    walk_at "eo go"
    rename_i wl H1 m1 e1 h1
    rw [wsF_lit] at h1
    show if p.m = true then _ else _
    refine g_ifL fun D2 H2 m2 e2 h2 => ?_
    rw [wsM_lit] at h2
    have hbl := hp.bl
    have hml : (wsM p).length ≤ 1 := by unfold wsM; split <;> decide
    have hfl : (wsF p).length = 10 := rfl
    walk_at "eo go"
    rename_i D3 H3 m3 e3 h3 D4 H4 m4 e4 h4
    rw [colon_lit] at h4
    have h1' : H4 wl = some (.lst ((wsF p).map WS)) := by walk_at "eo fact"
    have X4 : Ext [] H H4 := by walk_at "eo ext"
    have nwl : H wl = none := by walk_at "eo free"
    have hb4 := sqT_ext X4 hb
    clear h1 h2 h3 e1 e2 e3 e4 m2 m3 m4
    refine g_lcP walk_tup (fun i => ((p.b.take i).map nw).map WS) rfl (by rw [List.length_map]; have := hp.bl; omega) (fun i => by rw [List.length_map, List.length_map, List.length_take]; omega) (fun H e => sqT_ext e hb4) ?_ ?_
    · rintro i x H' H5 hi e ⟨rfl, hx⟩
      obtain ⟨n, hn, rfl⟩ := mem_map_int hx
      have hr := hp.b n (List.mem_of_getElem? hn)
      walk_at "eo go"
      refine ⟨rfl, ?_⟩
      walk_at "eo go"
      refine ⟨rfl, ?_⟩
      rw [List.take_succ, hn, List.map_append, List.map_append]
      rfl
    · intro D5 H5 e5 m5 h5
      rw [List.length_map, List.take_length] at h5
      have h4' := e5.keep _ _ h4 nin0
      have h1' := e5.keep _ _ h1' nin0
      have X5 : Ext [] H H5 := by walk_at "eo ext"
      clear h4 e5 X4 hb4
      walk_at "eo go"
      rename_i D6 H6 m6 e6 h6
      have h1' := e6.keep _ _ h1' nin0
      refine g_extend h1' h6 (by walk_at "eo len") fun H7 e7 h7 => ?_
      walk_at "eo go"
      have e1 : (wsF p).map WS ++ ((wsM p).map WS ++ ([[58]] : List (List Nat)).map WS ++ (p.b.map nw).map WS) = (wsO p).map WS := by
        unfold wsO
        rw [List.map_append, List.map_append, List.append_assoc]
        rfl
      rw [e1] at h7
      refine g_joinW (sep := [32]) (by decide +kernel) (.inl (SqL.of h7)) ?_ (k H7 ((X5.trans e6 (fun _ z => z) (fun _ z => by cases z)).trans e7 (fun _ z => z) (fun y hy ⟨o, ho⟩ => by rw [List.mem_singleton.mp hy, nwl] at ho; cases ho)))
      have := sum_le (wsO_small hp)
      have := wsO_many hp
      show _ + _ * 1 ≤ _
      omega
theorem ok_law_packet {A : Adr} (T : Txt P K mg A) : FnOk P w K mg base CX0 4 A.f_law_packet A.d_law_packet ["d"] (spPacket K) := by
  refine T.law_packet.F.ok sc_law_packet (fun vs H Q E h => ?_) (fun cdv Ar outer s H vs Q E hr h => ?_)
  · obtain ⟨d, s, rfl, _⟩ := h
    rfl
  · obtain ⟨d, s, rfl, hD, k⟩ := h
    refine ⟨_, (pss_cons (ps_set (i := 1) sc_law_packet.nd rfl (Or.inl rfl) (pe_call (ok_law_pick T) (hr.mono (by decide)) (by rfl) T.law_pick.mg T.law_pick.kp T.law_pick.b .nil pass0 (pa_cons (pv 0) (pa_cons (pe_lstX (pa_cons pe_str (pa_cons pe_str (pa_cons pe_str (pa_cons pe_str pa_nil))))) pa_nil))))
      (pss_cons (ps_setLc (i := 2) (own := [("k", 3)]) (tt := stT tYes) rfl sc_law_packet.nd rfl rfl (sw_true rfl rfl rfl (by decide +kernel)) (pi_range1 (by rfl) T.b_range (pa_cons pe_int pa_nil)) (blkOk_by (own := [("k", 3)]) (N := ["d", "kind", "numbers", "k"]) (sc := defScope s_law_packet) (by decide +kernel)) (fun _ _ _ _ _ => PG.star (pg_name (i := 3) sc_law_packet.nd rfl (Or.inl rfl) (Or.inr rfl))) (fun _ _ _ _ _ => PTs.star (pts_nil)) (fun _ _ _ _ _ => PE.star (pe_call (ok_law_take T) (hr.mono (by decide)) (by rfl) T.law_take.mg T.law_take.kp T.law_take.b .nil pass0 (pa_cons (pv 0) (pa_cons pe_int pa_nil)))))
      (pss_one (ps_ret (pe_tupX (pa_cons (pe_call (ok_law_take T) (hr.mono (by decide)) (by rfl) T.law_take.mg T.law_take.kp T.law_take.b .nil pass0 (pa_cons (pv 0) (pa_cons pe_int pa_nil))) (pa_cons (pe_call (ok_law_take T) (hr.mono (by decide)) (by rfl) T.law_take.mg T.law_take.kp T.law_take.b .nil pass0 (pa_cons (pv 0) (pa_cons pe_int pa_nil))) (pa_cons (pv 1) (pa_cons (pe_call (ok_law_take T) (hr.mono (by decide)) (by rfl) T.law_take.mg T.law_take.kp T.law_take.b .nil pass0 (pa_cons (pv 0) (pa_cons pe_int pa_nil))) (pa_cons (pe_ix ix_seq (pv 2) pe_int (fun _ _ => rfl)) (pa_cons (pe_ix ix_seq (pv 2) pe_int (fun _ _ => rfl)) (pa_cons (pe_cmpR (o_eq hr.units) (pe_call (ok_law_take T) (hr.mono (by decide)) (by rfl) T.law_take.mg T.law_take.kp T.law_take.b .nil pass0 (pa_cons (pv 0) (pa_cons pe_int pa_nil))) pe_int (nomark _)) (pa_cons (pe_call (ok_law_octets T) (hr.mono (by decide)) (by rfl) T.law_octets.mg T.law_octets.kp T.law_octets.b .nil pass0 (pa_cons (pv 0) (pa_cons pe_int pa_nil))) pa_nil))))))))))))), ?_⟩
    walk_at "eo init"
    walk_at "eo go"
    rename_i kl H1 n1 e1 h1 v H2 hv e2 hD2
    obtain ⟨kd, rfl, hkd⟩ : ∃ kd, v = kS kd ∧ kd < 4 := by
      rw [kinds_lit] at hv
      obtain ⟨w, hw, rfl⟩ := List.mem_map.mp hv
      obtain ⟨k, _, rfl, hk⟩ := kind_some hw
      exact ⟨k, rfl, hk⟩
    have X2 : Ext [d] H H2 := by walk_at "eo ext"
    clear e1 h1 n1 e2 hv hD
    have gd : ∀ {B C : Hp}, Ext [d] H B → Ext [d] B C → Ext [d] H C := fun {B C} e f => e.trans f (fun _ z => z) (fun _ z _ => z)
    refine g_lcD walk_range IsI (fun _ n => 0 ≤ n ∧ n ≤ 65535) (fun _ z => z) (by omega) hD2 (fun _ _ => trivial) ?_ ?_
    · rintro j x H3 H4 hj e hD ⟨rfl, rfl⟩
      walk_at "eo go"
      refine ⟨rfl, ?_⟩
      walk_at "eo go"
      rename_i c G3 c0 c1 x3 hD3
      exact ⟨x3, hD3, _, ⟨by omega, by omega⟩, rfl⟩
    · intro D H3 acc L e3 hD3 n3 ndD nsD hLl hgood hA hDD
      have hA := lr_i hA
      subst hA
      have X3 := gd X2 e3
      obtain ⟨x, y, rfl⟩ : ∃ x y, L = [x, y] := by
        match L, hLl with
        | [x, y], _ => exact ⟨x, y, rfl⟩
      have gx := hgood 0 x rfl
      have gy := hgood 1 y rfl
      have a0 : atI ([.int x, .int y] : List V) 0 = some (.int x) := atI_nat (j := 0) rfl
      have a1 : atI ([.int x, .int y] : List V) 1 = some (.int y) := atI_nat (j := 1) rfl
      have hDD : H3 D = some (.lst [.int x, .int y]) := hDD
      clear X2 e3 n3 hgood hD2
      walk_at "eo go"
      rename_i v1 G1 a1 b1 x1 f1 v2 G2 a2 b2 x2 f2 v3 G3 a3 b3 x3 f3 v4 G4 a4 b4 x4 f4 bt ns G5 x5 f5 hb ho hl c G6 n6 x6 h6
      rw [dec_int] at h6
      exact k c ⟨v1, v2, kd, v3, x, y, decide (v4 = 1), ns⟩ G6 (by walk_at "eo ext") (by walk_at "eo dst") ⟨bt, SqT.of h6, sqT_ext x6 hb⟩ ⟨⟨a1, show v1 ≤ 255 by omega⟩, ⟨a2, show v2 ≤ 255 by omega⟩, hkd, ⟨a3, show v3 ≤ 255 by omega⟩, gx, gy, ho, show ns.length ≤ 512 by omega⟩ (show ns.length ≤ 24 by omega)
theorem ok_law_packed {A : Adr} (T : Txt P K mg A) : FnOk P w K mg base CX0 2 A.f_law_packed A.d_law_packed ["packet"] (spPacked K) := by
  refine T.law_packed.F.ok sc_law_packed (fun vs H Q E h => ?_) (fun cdv Ar outer s H vs Q E hr h => ?_)
  · obtain ⟨a, p, rfl, _⟩ := h
    rfl
  · obtain ⟨a, p, rfl, ⟨b, ha, hb⟩, hk, hbl, k⟩ := h
    dsimp only [pkV] at ha
    refine ⟨_, (pss_cons (ps_asg (pv 0) (pg_tup (n := 8) rfl (pgs_cons (pg_name (i := 1) sc_law_packed.nd rfl (Or.inl rfl)) (pgs_cons (pg_name (i := 2) sc_law_packed.nd rfl (Or.inl rfl)) (pgs_cons (pg_name (i := 3) sc_law_packed.nd rfl (Or.inl rfl)) (pgs_cons (pg_name (i := 4) sc_law_packed.nd rfl (Or.inl rfl)) (pgs_cons (pg_name (i := 5) sc_law_packed.nd rfl (Or.inl rfl)) (pgs_cons (pg_name (i := 6) sc_law_packed.nd rfl (Or.inl rfl)) (pgs_cons (pg_name (i := 7) sc_law_packed.nd rfl (Or.inl rfl)) (pgs_cons (pg_name (i := 8) sc_law_packed.nd rfl (Or.inl rfl)) pgs_nil))))))))))
      (pss_cons (ps_set (i := 9) sc_law_packed.nd rfl (Or.inl rfl) (pe_op o_add (pe_op o_add (pe_tupX (pa_cons (pv 1) (pa_cons (pv 2) (pa_cons (pe_bm PySem.F.plainAttrs_list PySem.F.slot_list_index PySem.F.type_list_index mt_lindexS (pe_lstX (pa_cons pe_str (pa_cons pe_str (pa_cons pe_str (pa_cons pe_str pa_nil))))) (pa_cons (pv 3) pa_nil)) (pa_cons (pv 4) pa_nil))))) (pe_call (ok_two_octets T) (hr.mono (by decide)) (by rfl) T.two_octets.mg T.two_octets.kp T.two_octets.b .nil pass0 (pa_cons (pv 5) pa_nil))) (pe_call (ok_two_octets T) (hr.mono (by decide)) (by rfl) T.two_octets.mg T.two_octets.kp T.two_octets.b .nil pass0 (pa_cons (pv 6) pa_nil))))
      (pss_cons (ps_set (i := 9) sc_law_packed.nd rfl (Or.inl rfl) (pe_op o_add (pe_op o_add (pv 9) (pe_tupX (pa_cons (pe_callTy (T := "int") o_int (by rfl) T.b_int (by decide +kernel) (pa_cons (pv 7) pa_nil)) pa_nil))) (pe_call (ok_two_octets T) (hr.mono (by decide)) (by rfl) T.two_octets.mg T.two_octets.kp T.two_octets.b .nil pass0 (pa_cons (pe_callB (id := "len") o_len (by rfl) T.b_len (by decide +kernel) (pa_cons (pv 8) pa_nil)) pa_nil))))
      (pss_one (ps_ret (pe_op o_add (pe_op o_add (pv 9) (pe_call (ok_two_octets T) (hr.mono (by decide)) (by rfl) T.two_octets.mg T.two_octets.kp T.two_octets.b .nil pass0 (pa_cons (pe_call (ok_sum16 T) (hr.mono (by decide)) (by rfl) T.sum16.mg T.sum16.kp T.sum16.b .nil pass0 (pa_cons (pv 9) pa_nil)) pa_nil))) (pv 8))))))), ?_⟩
    walk_at "eo init"
    walk_at "eo go"
    rename_i kl H0 n0 e0 h0
    rw [kinds_lit] at h0
    refine g_idxL (SqL.of h0) hk ?_
    walk_at "eo go"
    rename_i c1 H1 n1 e1 h1 c2 H2 e2 h2 c3 H3 e3 h3 c4 H4 e4 h4 c5 H5 e5 h5 c6 H6 n6 e6 h6 c7 H7 e7 h7 c8 H8 e8 h8 c9 H9 e9 h9
    rw [List.length_map] at h8 h9
    have h9' : SqT K H9 c9 ((hd p).map V.int) := h9
    refine ⟨c9, hd p, rfl, h9', (show 11 < 128 by decide), ?_⟩
    walk_at "eo go"
    rename_i d1 G1 f1 g1 d2 G2 f2 g2
    have e09 : Ext [] H H9 := by walk_at "eo ext"
    have hb2 := sqT_ext f2 (sqT_ext f1 (sqT_ext e09 hb))
    refine g_addT g2 hb2 ?_ fun c H' e h => ?_
    · rw [sizeLine_eq, List.length_append, List.length_map, List.length_map]
      show 11 + 2 + p.b.length ≤ _
      omega
    · refine k c H' (((e09.trans f1 (fun _ z => z) (fun _ z => by cases z)).trans f2 (fun _ z => z) (fun _ z => by cases z)).trans e (fun _ z => z) (fun _ z => by cases z)) ?_
      rw [pkd_map]
      exact h
theorem ok_law_text {A : Adr} (T : Txt P K mg A) : FnOk P w K mg base CX0 1 A.f_law_text A.d_law_text ["packet"] (spFormat K) := by
  refine T.law_text.F.ok sc_law_text (fun vs H Q E h => ?_) (fun cdv Ar outer s H vs Q E hr h => ?_)
  · obtain ⟨a, p, rfl, _⟩ := h
    rfl
  · obtain ⟨a, p, rfl, ⟨b, ha, hb⟩, hp, k⟩ := h
    dsimp only [pkV] at ha
    refine ⟨_, (pss_cons (ps_asg (pv 0) (pg_tup (n := 8) rfl (pgs_cons (pg_name (i := 1) sc_law_text.nd rfl (Or.inl rfl)) (pgs_cons (pg_name (i := 2) sc_law_text.nd rfl (Or.inl rfl)) (pgs_cons (pg_name (i := 3) sc_law_text.nd rfl (Or.inl rfl)) (pgs_cons (pg_name (i := 4) sc_law_text.nd rfl (Or.inl rfl)) (pgs_cons (pg_name (i := 5) sc_law_text.nd rfl (Or.inl rfl)) (pgs_cons (pg_name (i := 6) sc_law_text.nd rfl (Or.inl rfl)) (pgs_cons (pg_name (i := 7) sc_law_text.nd rfl (Or.inl rfl)) (pgs_cons (pg_name (i := 8) sc_law_text.nd rfl (Or.inl rfl)) pgs_nil))))))))))
      (pss_cons (ps_set (i := 9) sc_law_text.nd rfl (Or.inl rfl) (pe_op o_add (pe_op o_add (pe_op o_add (pe_op o_add (pe_op o_add (pe_op o_add (pe_op o_add (pe_op o_add (pe_op o_add (pe_op o_add (pv 3) pe_str) (pe_callTy (T := "str") o_strI (by rfl) T.b_str (by decide +kernel) (pa_cons (pv 1) pa_nil))) pe_str) (pe_callTy (T := "str") o_strI (by rfl) T.b_str (by decide +kernel) (pa_cons (pv 2) pa_nil))) pe_str) (pe_callTy (T := "str") o_strI (by rfl) T.b_str (by decide +kernel) (pa_cons (pv 4) pa_nil))) pe_str) (pe_callTy (T := "str") o_strI (by rfl) T.b_str (by decide +kernel) (pa_cons (pv 5) pa_nil))) pe_str) (pe_callTy (T := "str") o_strI (by rfl) T.b_str (by decide +kernel) (pa_cons (pv 6) pa_nil))))
      (pss_one (ps_ret (pe_op o_add (pe_op o_add (pe_op o_add (pv 9) (pe_ifExp (pt_truth (pv 7) (by intro _; rfl)) pe_str pe_str)) pe_str) (pe_m1 PySem.F.slot_str_join PySem.F.type_str_join mt_joinW pe_str (pe_lc (own := [("own", 10)]) (tt := stT tYes) rfl sc_law_text.nd (pi_tup (pv 8)) (blkOk_by (own := [("own", 10)]) (N := ["packet", "source", "goal", "kind", "life", "number", "place", "more", "body", "row", "own"]) (sc := defScope s_law_text) (by decide +kernel)) (fun _ _ _ _ _ => PG.star (pg_name (i := 10) sc_law_text.nd rfl (Or.inl rfl) (Or.inr rfl))) (fun _ _ _ _ _ => PTs.star (pts_nil)) (fun _ _ _ _ _ => PE.star (pe_op (kkOpR (r := rAddX) (K := K) rfl o_add) pe_str (pe_callTy (T := "str") o_strI (by rfl) T.b_str (by decide +kernel) (pa_cons (pv 10) pa_nil))))))))))), ?_⟩
    have ⟨s0, s1⟩ := hp.s
    have ⟨g0, g1⟩ := hp.g
    have ⟨l0, l1⟩ := hp.l
    have ⟨n0, n1⟩ := hp.n
    have ⟨p0, p1⟩ := hp.p
    have w1 := nw_len (show p.s ≤ 65535 by omega)
    have w2 := nw_len (show p.g ≤ 65535 by omega)
    have w3 := nw_len (show p.l ≤ 65535 by omega)
    have w4 := nw_len n1
    have w5 := nw_len p1
    have w6 := kW_len p.k
    have L1 : (" " : Str).cps.toList = [32] := by decide +kernel
    have L2 : (" > " : Str).cps.toList = [32, 62, 32] := by decide +kernel
    have L3 : (" life " : Str).cps.toList = 32 :: lifeW ++ [32] := by decide +kernel
    have L4 : (" number " : Str).cps.toList = 32 :: numberW ++ [32] := by decide +kernel
    have L5 : (" place " : Str).cps.toList = 32 :: placeW ++ [32] := by decide +kernel
    have L6 : (" :" : Str).cps.toList = [32, 58] := by decide +kernel
    have L7 : (if p.m = true then (" more" : Str) else "").cps.toList = if p.m = true then 32 :: moreW else [] := by cases p.m <;> decide +kernel
    have M1 : (" " : Str).cps.toList.length = 1 := by rw [L1]; rfl
    have M2 : (" > " : Str).cps.toList.length = 3 := by rw [L2]; rfl
    have M3 : (" life " : Str).cps.toList.length = 6 := by rw [L3]; rfl
    have M4 : (" number " : Str).cps.toList.length = 8 := by rw [L4]; rfl
    have M5 : (" place " : Str).cps.toList.length = 7 := by rw [L5]; rfl
    have M6 : (" :" : Str).cps.toList.length = 2 := by rw [L6]; rfl
    have M7 : (if p.m = true then (" more" : Str) else "").cps.toList.length ≤ 5 := by rw [L7]; cases p.m <;> decide
    walk_at "eo init"
    walk_at "eo go"
    show if p.m = true then _ else _
    refine g_ifStr ?_
    walk_at "eo go"
    have hbl := hp.bl
    refine g_lcP walk_tup (fun i => ((p.b.take i).map fun x => 32 :: nw x).map WS) rfl (by rw [List.length_map]; omega) (fun i => by rw [List.length_map, List.length_map, List.length_take]; omega) (fun H e => sqT_ext e hb) ?_ ?_
    · rintro i x H' H5 hi e ⟨rfl, hx⟩
      obtain ⟨n, hn, rfl⟩ := mem_map_int hx
      have hr := hp.b n (List.mem_of_getElem? hn)
      have hnl := nw_len (show n ≤ 65535 by omega)
      have L0 : (" " : Str) = Sx [32] := by decide +kernel
      walk_at "eo go"
      refine ⟨rfl, ?_⟩
      walk_at "eo go"
      rw [L0]
      refine g_addSx (by rw [sizeLine_eq, sx_tl]; show 1 + _ ≤ _; omega) ?_
      refine ⟨rfl, ?_⟩
      rw [List.take_succ, hn, List.map_append, List.map_append]
      rfl
    · intro D5 H5 e5 m5 h5
      rw [List.length_map, List.take_length] at h5
      walk_at "eo go"
      have hwl : ∀ w ∈ p.b.map fun x => 32 :: nw x, w.length ≤ 7 := fun w hw => by
        obtain ⟨n, hn, rfl⟩ := List.mem_map.mp hw
        have hr := hp.b n hn
        have := nw_len (show n ≤ 65535 by omega)
        rw [List.length_cons]
        omega
      have hsl := sum_le hwl
      rw [List.length_map] at hsl
      refine g_joinW (sep := []) (by decide +kernel) (.inl (SqL.of h5)) (by rw [List.length_map, List.length_nil]; omega) ?_
      have hjl : (TL.joinL [] (p.b.map fun x => 32 :: nw x)).length ≤ 7 * p.b.length := by
        rw [join0, List.length_flatten]
        exact hsl
      refine g_addSx (by rw [sizeLine_eq, sx_tl]; simp only [List.length_append, sx_tl, M1, M2, M3, M4, M5, M6]; omega) ?_
      have := k H5 e5
      unfold txt at this
      rw [txt_eq] at this
      rw [L1, L2, L3, L4, L5, L6, L7]
      exact this
end
section
variable {P : Program} {w : World} {K : PySem.W.Frag} {mg : Str → Option Value} {base : Heap}
theorem ok_law {A : Adr} (T : Txt P K mg A) : FnOk P w K mg base CX0 8 A.f_law A.d_law ["script"] (spLaw K) := by
  refine T.law.F.ok sc_law (fun vs H Q E h => ?_) (fun cdv Ar outer s H vs Q E hr h => ?_)
  · obtain ⟨a, ns, rfl, _⟩ := h
    rfl
  · obtain ⟨a, ns, rfl, hS, hlen, k⟩ := h
    have hK : ∀ H, SqT K H A.g_KINDS [.str "data", .str "route", .str "probe", .str "tell"] := fun H => T.t_KINDS H
    refine ⟨_, (pss_cons (ps_set (i := 1) sc_law.nd rfl (Or.inl rfl) (pe_call (ok_law_begin T) (hr.mono (by decide)) (by rfl) T.law_begin.mg T.law_begin.kp T.law_begin.b .nil pass0 (pa_cons (pv 0) pa_nil)))
      (pss_cons (ps_set (i := 2) sc_law.nd rfl (Or.inl rfl) (pe_call (ok_law_packet T) (hr.mono (by decide)) (by rfl) T.law_packet.mg T.law_packet.kp T.law_packet.b .nil pass0 (pa_cons (pv 1) pa_nil)))
      (pss_cons (ps_set (i := 3) sc_law.nd rfl (Or.inl rfl) (pe_call (ok_law_packed T) (hr.mono (by decide)) (by rfl) T.law_packed.mg T.law_packed.kp T.law_packed.b .nil pass0 (pa_cons (pv 2) pa_nil)))
      (pss_cons (ps_if (PW.pt (pw_or (pt_cmpR (o_ne hr.units) (pe_g rfl T.g_KINDS) (pe_tupX (pa_cons pe_str (pa_cons pe_str (pa_cons pe_str (pa_cons pe_str pa_nil))))) (nomark _)) (pw_or (pt_cmpR (o_ne hr.units) (pe_call (ok_packed T) (hr.mono (by decide)) (by rfl) T.packed.mg T.packed.kp T.packed.b .nil pass0 (pa_cons (pv 2) pa_nil)) (pv 3) (nomark _)) (pw_or1 (pt_cmpR (o_ne hr.units) (pe_call (ok_unpacked T) (hr.mono (by decide)) (by rfl) T.unpacked.mg T.unpacked.kp T.unpacked.b .nil pass0 (pa_cons (pv 3) pa_nil)) (pv 2) (nomark _)))))) (pss_one (ps_ret pe_bl)) pss_nil)
      (pss_cons (ps_set (i := 4) sc_law.nd rfl (Or.inl rfl) (pe_call (ok_law_take T) (hr.mono (by decide)) (by rfl) T.law_take.mg T.law_take.kp T.law_take.b .nil pass0 (pa_cons (pv 1) (pa_cons (pe_callB (id := "len") o_len (by rfl) T.b_len (by decide +kernel) (pa_cons (pv 3) pa_nil)) pa_nil))))
      (pss_cons (ps_set (i := 5) sc_law.nd rfl (Or.inl rfl) (pe_op o_add (pe_op o_add (pe_slice o_sl (pv 3) po_none (po_some (pv 4))) (pe_tupX (pa_cons (pe_op op_mod (pe_op o_add (pe_op o_add (pe_ix ix_seq (pv 3) (pv 4) (fun _ _ => rfl)) pe_int) (pe_call (ok_law_take T) (hr.mono (by decide)) (by rfl) T.law_take.mg T.law_take.kp T.law_take.b .nil pass0 (pa_cons (pv 1) (pa_cons pe_int pa_nil)))) pe_int) pa_nil))) (pe_slice o_sl (pv 3) (po_some (pe_op o_add (pv 4) pe_int)) po_none)))
      (pss_cons (ps_set (i := 6) sc_law.nd rfl (Or.inl rfl) (pe_slice o_sl (pv 3) po_none (po_some (pv 4))))
      (pss_cons (ps_set (i := 7) sc_law.nd rfl (Or.inl rfl) (pe_op o_add (pv 3) (pe_tupX (pa_cons (pe_call (ok_law_take T) (hr.mono (by decide)) (by rfl) T.law_take.mg T.law_take.kp T.law_take.b .nil pass0 (pa_cons (pv 1) (pa_cons pe_int pa_nil))) pa_nil))))
      (pss_join (ps_set (i := 8) sc_law.nd rfl (Or.inl rfl) (pe_ifExp (pt_cmpR op_lt (pv 4) pe_int (nomark _)) pe_non (pe_op o_add (pe_slice o_sl (pv 2) po_none (po_some pe_int)) (pe_tupX (pa_cons (pe_slice o_sl (pv 5) (po_some pe_int) po_none) pa_nil)))))
      (pss_join (ps_if (PW.pt (pw_or (pt_cmpR (o_ne hr.units) (pe_call (ok_unpacked T) (hr.mono (by decide)) (by rfl) T.unpacked.mg T.unpacked.kp T.unpacked.b .nil pass0 (pa_cons (pv 5) pa_nil)) (pv 8) (nomark _)) (pw_or (pt_cmpR op_notN (pe_call (ok_unpacked T) (hr.mono (by decide)) (by rfl) T.unpacked.mg T.unpacked.kp T.unpacked.b .nil pass0 (pa_cons (pv 6) pa_nil)) pe_non (nomark _)) (pw_or1 (pt_cmpR op_notN (pe_call (ok_unpacked T) (hr.mono (by decide)) (by rfl) T.unpacked.mg T.unpacked.kp T.unpacked.b .nil pass0 (pa_cons (pv 7) pa_nil)) pe_non (nomark _)))))) (pss_one (ps_ret pe_bl)) pss_nil)
      (pss_cons (ps_set (i := 9) sc_law.nd rfl (Or.inl rfl) (pe_call (ok_law_text T) (hr.mono (by decide)) (by rfl) T.law_text.mg T.law_text.kp T.law_text.b .nil pass0 (pa_cons (pv 2) pa_nil)))
      (pss_cons (ps_set (i := 10) sc_law.nd rfl (Or.inl rfl) (pe_split (pv 9) pe_str))
      (pss_cons (ps_if (PW.pt (pw_or (pt_cmpR (o_ne hr.units) (pe_call (ok_format_packet T) (hr.mono (by decide)) (by rfl) T.format_packet.mg T.format_packet.kp T.format_packet.b .nil pass0 (pa_cons (pv 2) pa_nil)) (pv 9) (nomark _)) (pw_or1 (pt_cmpR (o_ne hr.units) (pe_call (ok_parse_packet T) (hr.mono (by decide)) (by rfl) T.parse_packet.mg T.parse_packet.kp T.parse_packet.b .nil passL (pa_cons (pv 9) pa_nil)) (pv 2) (nomark _))))) (pss_one (ps_ret pe_bl)) pss_nil)
      (pss_cons (ps_if (pt_cmpR (o_ne hr.units) (pe_call (ok_parse_packet T) (hr.mono (by decide)) (by rfl) T.parse_packet.mg T.parse_packet.kp T.parse_packet.b .nil passL (pa_cons (pe_op o_add (pe_op o_add pe_str (pe_m1 PySem.F.slot_str_join PySem.F.type_str_join mt_joinW pe_str (pv 10))) (pe_op op_mulSign pe_str (pe_call (ok_law_take T) (hr.mono (by decide)) (by rfl) T.law_take.mg T.law_take.kp T.law_take.b .nil pass0 (pa_cons (pv 1) (pa_cons pe_int pa_nil))))) pa_nil)) (pv 2) (nomark _)) (pss_one (ps_ret pe_bl)) pss_nil)
      (pss_cons (ps_set (i := 11) sc_law.nd rfl (Or.inl rfl) (pe_call (ok_law_take T) (hr.mono (by decide)) (by rfl) T.law_take.mg T.law_take.kp T.law_take.b .nil pass0 (pa_cons (pv 1) (pa_cons (pe_callB (id := "len") o_len (by rfl) T.b_len (by decide +kernel) (pa_cons (pv 10) pa_nil)) pa_nil))))
      (pss_join (ps_if (PW.pt (pw_or (pt_cmpR op_in_seq (pv 11) (pe_tupX (pa_cons pe_int (pa_cons pe_int (pa_cons pe_int (pa_cons pe_int pa_nil))))) rfl) (pw_or1 (pt_cmpR (o_eq hr.units) (pe_ix ix_seq (pv 10) (pv 11) (fun _ _ => rfl)) pe_str (nomark _))))) (pss_one (ps_if (pt_cmpR (o_ne hr.units) (pe_call (ok_law_read T) (hr.mono (by decide)) (by rfl) T.law_read.mg T.law_read.kp T.law_read.b .nil pass0 (pa_cons (pe_m1 PySem.F.slot_str_join PySem.F.type_str_join mt_joinW pe_str (pe_op o_add (pe_op o_add (pe_slice o_sl (pv 10) po_none (po_some (pv 11))) (pe_lstX (pa_cons pe_str pa_nil))) (pe_slice o_sl (pv 10) (po_some (pe_op o_add (pv 11) pe_int)) po_none))) pa_nil)) (pe_tupX (pa_cons pe_str (pa_cons (pv 11) pa_nil))) (nomark _)) (pss_one (ps_ret pe_bl)) pss_nil)) pss_nil)
      (pss_join (ps_if (PW.pt (pw_and (pt_cmpR (o_ne hr.units) (pe_ix ix_seq (pv 10) (pv 11) (fun _ _ => rfl)) pe_str (nomark _)) (pw_and (pt_truth (pe_callB (id := "all") (cr_all rfl) (by rfl) T.b_all (by decide +kernel) (pa_cons (pe_lc (own := [("sign", 12)]) (tt := stT tYes) rfl sc_law.nd (pi_str (pe_ix ix_seq (pv 10) (pv 11) (fun _ _ => rfl))) (blkOk_by (own := [("sign", 12)]) (N := ["script", "d", "packet", "octets", "place", "bent", "other", "more", "due", "text", "words", "at", "sign"]) (sc := defScope s_law) (by decide +kernel)) (fun _ _ _ _ _ => PG.star (pg_name (i := 12) sc_law.nd rfl (Or.inl rfl) (Or.inr rfl))) (fun _ _ _ _ _ => PTs.star (pts_nil)) (fun _ _ _ _ _ => PE.star (pe_cmpR op_in_sign (pv 12) pe_str rfl))) pa_nil)) (by intro _; rfl)) (pw_and1 (pt_cmpR (o_ne hr.units) (pe_call (ok_law_read T) (hr.mono (by decide)) (by rfl) T.law_read.mg T.law_read.kp T.law_read.b .nil pass0 (pa_cons (pe_m1 PySem.F.slot_str_join PySem.F.type_str_join mt_joinW pe_str (pe_op o_add (pe_op o_add (pe_slice o_sl (pv 10) po_none (po_some (pv 11))) (pe_lstX (pa_cons (pe_op o_add pe_str (pe_ix ix_seq (pv 10) (pv 11) (fun _ _ => rfl))) pa_nil))) (pe_slice o_sl (pv 10) (po_some (pe_op o_add (pv 11) pe_int)) po_none))) pa_nil)) (pe_tupX (pa_cons pe_str (pa_cons (pv 11) pa_nil))) (nomark _)))))) (pss_one (ps_ret pe_bl)) pss_nil)
      (pss_join (ps_if (PW.pt (pw_and (pt_cmpR op_le (pv 11) (pe_bm PySem.F.plainAttrs_list PySem.F.slot_list_index PySem.F.type_list_index mt_lindexS (pv 10) (pa_cons pe_str pa_nil)) (nomark _)) (pw_and1 (pt_cmpR (o_ne hr.units) (pe_call (ok_law_read T) (hr.mono (by decide)) (by rfl) T.law_read.mg T.law_read.kp T.law_read.b .nil pass0 (pa_cons (pe_m1 PySem.F.slot_str_join PySem.F.type_str_join mt_joinW pe_str (pe_slice o_sl (pv 10) po_none (po_some (pv 11)))) pa_nil)) (pe_tupX (pa_cons pe_str (pa_cons (pv 11) pa_nil))) (nomark _))))) (pss_one (ps_ret pe_bl)) pss_nil)
      (pss_one (ps_ret (pe_and (pe_cmpR (o_eq hr.units) (pe_call (ok_law_read T) (hr.mono (by decide)) (by rfl) T.law_read.mg T.law_read.kp T.law_read.b .nil pass0 (pa_cons (pe_op o_add (pv 9) pe_str) pa_nil)) (pe_tupX (pa_cons pe_str (pa_cons (pe_callB (id := "len") o_len (by rfl) T.b_len (by decide +kernel) (pa_cons (pv 10) pa_nil)) pa_nil))) (nomark _)) (pe_one (pe_cmpR (o_eq hr.units) (pe_call (ok_law_read T) (hr.mono (by decide)) (by rfl) T.law_read.mg T.law_read.kp T.law_read.b .nil pass0 (pa_cons (pe_op o_add pe_str (pv 9)) pa_nil)) (pe_tupX (pa_cons pe_str (pa_cons pe_int pa_nil))) (nomark _)))))))))))))))))))))))), ?_⟩
    walk_at "eo init"
    walk_at "eo go"
    refine ⟨a, ns, rfl, hS, hlen, fun d sc H1 nd nsc e1 hD => ?_⟩
    walk_at "eo go"
    refine ⟨d, sc, rfl, hD, fun pa p H2 e2 hD2 hP hok hbl => ?_⟩
    clear e1 e2 nd nsc hS hD
    have gd : ∀ {A B C : Hp}, Ext [d] A B → Ext [d] B C → Ext [d] A C := fun {A B C} e f => e.trans f (fun _ z => z) (fun _ z _ => z)
    have gn : ∀ {A B C : Hp}, Ext [d] A B → Ext [] B C → Ext [d] A C := fun {A B C} e f => e.trans f (fun _ z => z) (fun _ z => by cases z)
    walk_at "eo go"
    refine ⟨pa, p, rfl, hP, hok.k, hok.bl, fun oc H3 e3 hO => ?_⟩
    have hP := hP.ext e3
    have hD3 := hD2.ext e3 nin0 nin0
    clear hD2 e3
    walk_at "eo go"
    rename_i tk H4 n4 e4 h4
    have hK4 := hK H4
    have hO := sqT_ext e4 hO
    have hP := hP.ext e4
    have hD := hD3.ext e4 nin0 nin0
    walk_at "eo go"
    refine ⟨pa, p, rfl, hP, hok.k, hok.bl, fun c H5 e5 h5 => ?_⟩
    have hO := sqT_ext e5 hO
    have hP := hP.ext e5
    have hD := hD.ext e5 nin0 nin0
    clear hD3 hK4 n4 e4 h4 e5 gd gn
    walk_at "eo go"
    have hbl' := hok.bl
    have hol : (pkd p).length ≤ 1000 := by rw [pkd_len]; omega
    refine ⟨oc, pkd p, rfl, hO, pkd_oct hok, hol, fun hn => absurd ((unp_pkd hok).symm.trans hn) (by simp), fun q hq c2 H6 e6 hQ => ?_⟩
    obtain rfl := Option.some.inj ((unp_pkd hok).symm.trans hq)
    have hO := sqT_ext e6 hO
    have hP := hP.ext e6
    have hD := hD.ext e6 nin0 nin0
    clear h5 e6 hq
    obtain ⟨b1, hp1, hp2⟩ := id hP
    obtain ⟨b2, hq1, hq2⟩ := hQ
    dsimp only [pkV] at hp1 hq1
    have hks := kS_ok p.k
    walk_at "eo go"
    rw [List.length_map]
    have hlp : 13 ≤ (pkd p).length := by rw [pkd_len]; omega
    refine g_take hD (by omega) (by omega) fun kk G1 k0 k1 x1 hD1 => ?_
    obtain ⟨m, rfl⟩ := Int.eq_ofNat_of_zero_le k0
    have hm : m < (pkd p).length := by omega
    have hO1 := sqT_ext x1 hO
    have hP1 := hP.ext x1
    have ho := (pkd_oct hok).get m
    have ha : atI ((pkd p).map V.int) (m : Int) = some (.int (((pkd p)[m]?).getD 0)) := at_int (by omega) (by omega)
    have hln : ((pkd p).map V.int).length ≤ 1000 := by rw [List.length_map]; exact hol
    clear hO hP hD hp1 hp2 hq1 hq2 x1
    walk_at "eo go"
    rename_i u1 G2 x2 y2 t G3 t0 t1 x3 hD3 u3 G4 n4 x4 y4 u4 G5 x5 y5 u5 G6 x6 y6 u6 G7 x7 y7 u7 G8 x8 y8 r G9 r0 r1 x9 hD9 u9 G10 n10 x10 y10 u10 G11 x11 y11
    have hx0 : 0 ≤ (((pkd p)[m]?).getD 0 + 1 + t) % 256 := by omega
    have hx1 : (((pkd p)[m]?).getD 0 + 1 + t) % 256 ≤ 255 := by omega
    have hxn : (((pkd p)[m]?).getD 0 + 1 + t) % 256 ≠ ((pkd p)[m]?).getD 0 := by omega
    rw [set_map _ _ _ hm] at y7
    generalize (((pkd p)[m]?).getD 0 + 1 + t) % 256 = x at *
    have hB : SqT K G11 u6 (((pkd p).set m x).map V.int) := by walk_at "eo sqT"
    have hT : SqT K G11 u7 (((pkd p).take m).map V.int) := by
      rw [List.map_take]
      walk_at "eo sqT"
    have hM : SqT K G11 u10 (((pkd p) ++ [r]).map V.int) := by
      rw [List.map_append]
      exact y11
    have hP := hP1.ext (show Ext [d] G1 G11 by walk_at "eo ext")
    have hD : DSt G11 d sc := (hD9.ext x10 nin0 nin0).ext x11 nin0 nin0
    clear x2 y2 t0 t1 x3 hD3 n4 x4 y4 x5 y5 x6 y6 x7 y7 x8 y8 x9 hD9 n10 x10 y10 x11 y11 hP1 hO1 hD1 ha ho
    refine g_join (fun σ' H' => ∃ v, σ' = [some (.ref a), some (.ref d), some (.ref pa), some (.ref oc), some (.int (m : Int)), some (.ref u6), some (.ref u7), some (.ref u10), some v, none, none, none, none] ∧ DSt H' d sc ∧ PkAt K H' pa p ∧ SqT K H' u6 (((pkd p).set m x).map V.int) ∧ SqT K H' u7 (((pkd p).take m).map V.int) ∧ SqT K H' u10 (((pkd p) ++ [r]).map V.int) ∧ ((m < 13 ∧ v = .non) ∨ (¬ m < 13 ∧ ∃ t, v = .ref t ∧ PkAt K H' t { p with b := ((pkd p).set m x).drop 13 }))) ?_ ?_
    · walk_at "eo go"
      refine g_ite (fun z => ?_) (fun z => ?_)
      · have z' := dec_t z
        walk_at "eo go"
        exact ⟨_, rfl, hD, hP, hB, hT, hM, .inl ⟨by omega, rfl⟩⟩
      · have z' := dec_f z
        obtain ⟨b1, hp1, hp2⟩ := id hP
        dsimp only [pkV] at hp1
        walk_at "eo go"
        rename_i v1 K1 e1 f1 v2 K2 e2 f2 v3 K3 n3 e3 f3 v4 K4 e4 f4
        have e0 : Ext [] G11 K4 := by walk_at "eo ext"
        refine ⟨_, rfl, hD.ext e0 nin0 nin0, hP.ext e0, sqT_ext e0 hB, sqT_ext e0 hT, sqT_ext e0 hM, .inr ⟨by omega, v4, rfl, v2, f4, ?_⟩⟩
        rw [← List.map_drop] at f2
        exact sqT_ext e4 (sqT_ext e3 f2)
    · clear hD hP hB hT hM
      rintro σ' H' ⟨v, rfl, hD, hP, hB, hT, hM, hv⟩
      have hbo : Oct ((pkd p).set m x) := fun y hy => by
        rcases List.mem_or_eq_of_mem_set hy with c | c
        · exact pkd_oct hok y c
        · rw [c]; exact ⟨hx0, hx1⟩
      have hto : Oct ((pkd p).take m) := fun y hy => pkd_oct hok y (List.mem_of_mem_take hy)
      have hmo : Oct (pkd p ++ [r]) := fun y hy => by
        rcases List.mem_append.mp hy with c | c
        · exact pkd_oct hok y c
        · rw [List.mem_singleton.mp c]; exact ⟨r0, by omega⟩
      have hub := unp_bent hok hm hx0 hx1 hxn
      have hut := unp_cut hok hm
      have hum := unp_more hok (x := r)
      refine g_join (fun σ' H' => ∃ v, σ' = [some (.ref a), some (.ref d), some (.ref pa), some (.ref oc), some (.int (m : Int)), some (.ref u6), some (.ref u7), some (.ref u10), some v, none, none, none, none] ∧ DSt H' d sc ∧ PkAt K H' pa p) ?_ ?_
      · have rest : ∀ H'', Ext [] H' H'' → SqT K H'' u7 (((pkd p).take m).map V.int) ∧ SqT K H'' u10 (((pkd p) ++ [r]).map V.int) ∧ DSt H'' d sc ∧ PkAt K H'' pa p := fun H'' e => ⟨sqT_ext e hT, sqT_ext e hM, hD.ext e nin0 nin0, hP.ext e⟩
        walk_at "eo go"
        by_cases c : m < 13
        · rw [if_pos c] at hub
          obtain ⟨_, rfl⟩ : m < 13 ∧ v = .non := hv.resolve_right fun h => h.1 c
          refine ⟨u6, _, rfl, hB, hbo, by rw [List.length_set]; exact hol, fun _ H2 e2 => ?_, fun q hq => by rw [hub] at hq; cases hq⟩
          obtain ⟨hT2, hM2, hD2, hP2⟩ := rest H2 e2
          walk_at "eo go"
          refine ⟨u7, _, rfl, hT2, hto, by rw [List.length_take]; omega, fun _ H3 e3 => ?_, fun q hq => by rw [hut] at hq; cases hq⟩
          walk_at "eo go"
          refine ⟨u10, _, rfl, sqT_ext e3 hM2, hmo, by rw [List.length_append, List.length_singleton, pkd_len]; omega, fun _ H4 e4 => ?_, fun q hq => by rw [hum] at hq; cases hq⟩
          walk_at "eo go"
          exact ⟨_, rfl, (hD2.ext e3 nin0 nin0).ext e4 nin0 nin0, (hP2.ext e3).ext e4⟩
        · rw [if_neg c] at hub
          obtain ⟨_, tt, rfl, hQ⟩ := hv.resolve_left fun h => c h.1
          refine ⟨u6, _, rfl, hB, hbo, by rw [List.length_set]; exact hol, fun hn => by (rw [hub] at hn; cases hn), fun q hq c2 H2 e2 hQ2 => ?_⟩
          obtain rfl := Option.some.inj (hub.symm.trans hq)
          obtain ⟨hT2, hM2, hD2, hP2⟩ := rest H2 e2
          obtain ⟨b1, hp1, hp2⟩ := hQ.ext e2
          obtain ⟨b2, hq1, hq2⟩ := hQ2
          dsimp only [pkV] at hp1 hq1
          have hks := kS_ok p.k
          walk_at "eo go"
          refine ⟨u7, _, rfl, hT2, hto, by rw [List.length_take]; omega, fun _ H3 e3 => ?_, fun q hq => by rw [hut] at hq; cases hq⟩
          walk_at "eo go"
          refine ⟨u10, _, rfl, sqT_ext e3 hM2, hmo, by rw [List.length_append, List.length_singleton, pkd_len]; omega, fun _ H4 e4 => ?_, fun q hq => by rw [hum] at hq; cases hq⟩
          walk_at "eo go"
          exact ⟨_, rfl, (hD2.ext e3 nin0 nin0).ext e4 nin0 nin0, (hP2.ext e3).ext e4⟩
      · clear hD hP hB hT hM hv hub hut hum hbo hto hmo
        rintro σ' H' ⟨v, rfl, hD, hP⟩
        walk_at "eo go"
        have L0 : (" " : Str) = Sx [32] := by decide +kernel
        have htl := txt_len hok
        have hw6 := wsO_small hok
        have hwm := wsO_many hok
        have hsum := sum_le hw6
        have hj2 : (TL.joinL [32, 32] (wsO p)).length ≤ 4800 := Nat.le_trans (join_small hw6 hwm (by decide)) (by decide)
        refine ⟨pa, p, rfl, hP, hok, fun H2 e2 => ?_⟩
        have hD := hD.ext e2 nin0 nin0
        have hP := hP.ext e2
        clear e2 hm hlp hol hln r0 r1 hx0 hx1 hxn k0 k1 hK
        rw [L0]
        walk_at "eo go"
        refine g_split rfl (by omega) ?_
        walk_at "eo go"
        rename_i wl H3 n3 e3 h3
        rw [txt_spl] at h3
        have nwd : wl ≠ d := (ne_dst1 n3 hD).symm
        have nws : wl ≠ sc := (ne_dst2 n3 hD).symm
        have hD := hD.ext e3 nin0 nin0
        have hP := hP.ext e3
        clear e3 n3
        refine ⟨pa, p, rfl, hP, hok, fun H4 e4 => ?_⟩
        have hD := hD.ext e4 nin0 nin0
        have hP := hP.ext e4
        have h4 := e4.keep _ _ h3 nin0
        clear e4 h3
        walk_at "eo go"
        rw [dec_refl]
        walk_at "eo go"
        refine ⟨txt p, rfl, by omega, fun i hi => by (rw [txt_toks, pars_ok hok] at hi; cases hi), fun q hq c H5 e5 hQ => ?_⟩
        rw [txt_toks, pars_ok hok] at hq
        obtain rfl := Sum.inl.inj hq
        have hD := hD.ext e5 nin0 nin0
        have hP := hP.ext e5
        have h5 := e5.keep _ _ h4 nin0
        clear e5 h4 hq
        obtain ⟨b1, hp1, hp2⟩ := id hP
        obtain ⟨b2, hq1, hq2⟩ := hQ
        dsimp only [pkV] at hp1 hq1
        walk_at "eo go"
        refine g_joinW (sep := [32, 32]) (by decide +kernel) (.inl (SqL.of h5)) (by show _ + _ * 2 ≤ _; omega) ?_
        walk_at "eo go"
        rename_i kr H6 v0 v1 e6 hD6
        refine g_mulSign v0 (by omega) ?_
        walk_at "eo go"
        have hP := hP.ext e6
        have h6 := e6.keep _ _ h5 (nin1 nwd)
        clear h5 hp1 hp2 hq1 hq2
        refine ⟨[32] ++ TL.joinL [32, 32] (wsO p) ++ List.replicate kr.toNat 32, rfl, ?_, fun i hi => by (rw [toks_wide, pars_ok hok] at hi; cases hi), fun q hq c H7 e7 hQ => ?_⟩
        · simp only [List.length_append, List.length_replicate, List.length_cons, List.length_nil]
          omega
        rw [toks_wide, pars_ok hok] at hq
        obtain rfl := Sum.inl.inj hq
        have hD := hD6.ext e7 nin0 nin0
        have hP := hP.ext e7
        have h7 := e7.keep _ _ h6 nin0
        clear e7 e6 h6 hq hD6
        obtain ⟨b1, hp1, hp2⟩ := id hP
        obtain ⟨b2, hq1, hq2⟩ := hQ
        dsimp only [pkV] at hp1 hq1
        walk_at "eo go"
        have hwn := List.length_pos_iff.mpr (wsO_ne p)
        have hwd := wsO_wd p
        have hw7 : ∀ w ∈ wsO p, w.length ≤ 7 := fun w hw => Nat.le_trans (hw6 w hw) (by decide)
        clear hp1 hp2 hq1 hq2 hks hP
        rw [List.length_map]
        refine g_take hD (by omega) (by omega) fun kk G1 k0 k1 x1 hD1 => ?_
        obtain ⟨q, rfl⟩ := Int.eq_ofNat_of_zero_le k0
        have hq : q < (wsO p).length := by omega
        have hg : (wsO p)[q]? = some (gw (wsO p) q) := by unfold gw; rw [List.getElem?_eq_getElem hq]; rfl
        have hat := gw_get hq
        have h1 := x1.keep _ _ h7 (nin1 nwd)
        have hgm : gw (wsO p) q ∈ wsO p := List.mem_of_getElem? hg
        have Lq : ("q" : Str) = Sx [113] := by decide +kernel
        have Lc : (":" : Str) = Sx [58] := by decide +kernel
        have Lz : ("0" : Str) = Sx [48] := by decide +kernel
        have fo := form_ok
        have hml : ((wsO p).map WS).length ≤ 600 := by rw [List.length_map]; exact hwm
        clear h7 x1 hD nwd nws
        walk_at "eo go"
        refine g_join (fun σ' H' => σ' = [some (.ref a), some (.ref d), some (.ref pa), some (.ref oc), some (.int (m : Int)), some (.ref u6), some (.ref u7), some (.ref u10), some v, some (.str (Sx (txt p))), some (.ref wl), some (.int (q : Int)), none] ∧ H' wl = some (.lst ((wsO p).map WS))) ?_ ?_
        · rw [Lq, Lc]
          walk_at "eo go"
          rename_i tt G2 n2 x2 y2
          rw [show ([.int 2, .int 4, .int 6, .int 8] : List V) = [2, 4, 6, 8].map V.int from rfl, inV_int]
          have h2 := x2.keep _ _ h1 nin0
          clear y2 n2 h1 hD1
          refine g_ite (fun z => ?_) (fun z => ?_)
          · have hb : (q = 2 ∨ q = 4 ∨ q = 6 ∨ q = 8) ∨ gw (wsO p) q = [58] := .inl (by
              have := of_decide_eq_true z
              simp only [List.mem_cons, List.not_mem_nil, or_false] at this
              omega)
            have hbad := pars_q hok hg hb
            walk_at "eo go"
            rename_i l1 K1 n1 e1 f1 l2 K2 n2 e2 f2 l3 K3 n3 e3 f3 l4 K4 n4 e4 f4 l5 K5 n5 e5 f5
            have hw5 : K5 wl = some (.lst ((wsO p).map WS)) := by walk_at "eo fact"
            rw [put_map] at f5
            have hlen5 := put_len (ws := wsO p) (k := q) (x := [113])
            refine g_joinR f5 (put_all hw7 (by decide)) (by omega) ?_
            walk_at "eo go"
            refine g_readW (put_all hwd ⟨by decide, by decide⟩) (put_all hw7 (by decide)) (by omega) hbad fun c6 K6 e6 h6 => ?_
            walk_at "eo go"
            rename_i c7 K7 n7 e7 h7
            exact ⟨rfl, e7.keep _ _ (e6.keep _ _ hw5 nin0) nin0⟩
          · walk_at "eo go"
            rw [show (V.str (Sx [58])) = WS [58] from rfl, dec_ws]
            by_cases c : gw (wsO p) q = [58]
            · refine g_iteDT (decide_eq_true c) ?_
              have hb : (q = 2 ∨ q = 4 ∨ q = 6 ∨ q = 8) ∨ gw (wsO p) q = [58] := .inr c
              have hbad := pars_q hok hg hb
              walk_at "eo go"
              rename_i l1 K1 n1 e1 f1 l2 K2 n2 e2 f2 l3 K3 n3 e3 f3 l4 K4 n4 e4 f4 l5 K5 n5 e5 f5
              have hw5 : K5 wl = some (.lst ((wsO p).map WS)) := by walk_at "eo fact"
              rw [put_map] at f5
              have hlen5 := put_len (ws := wsO p) (k := q) (x := [113])
              refine g_joinR f5 (put_all hw7 (by decide)) (by omega) ?_
              walk_at "eo go"
              refine g_readW (put_all hwd ⟨by decide, by decide⟩) (put_all hw7 (by decide)) (by omega) hbad fun c6 K6 e6 h6 => ?_
              walk_at "eo go"
              rename_i c7 K7 n7 e7 h7
              exact ⟨rfl, e7.keep _ _ (e6.keep _ _ hw5 nin0) nin0⟩
            · refine g_iteDF (decide_eq_false c) ?_
              walk_at "eo go"
              exact ⟨rfl, h2⟩
        · clear h1 hD1
          rintro σ' H' ⟨rfl, h1⟩
          refine g_join (fun σ' H' => ∃ s12, σ' = [some (.ref a), some (.ref d), some (.ref pa), some (.ref oc), some (.int (m : Int)), some (.ref u6), some (.ref u7), some (.ref u10), some v, some (.str (Sx (txt p))), some (.ref wl), some (.int (q : Int)), s12] ∧ H' wl = some (.lst ((wsO p).map WS))) ?_ ?_
          · rw [Lz]
            walk_at "eo go"
            rw [show (V.str (Sx [48])) = WS [48] from rfl, dec_ws]
            by_cases c : gw (wsO p) q = [48]
            · refine g_iteDF (by rw [decide_eq_true c]; rfl) ?_
              walk_at "eo go"
              exact ⟨_, rfl, h1⟩
            · refine g_iteDT (by rw [decide_eq_false c]; rfl) ?_
              walk_at "eo go"
              have hgl := hw7 _ hgm
              generalize hgw : gw (wsO p) q = w at *
              refine g_lcP (walk_str (z := Sx w)) (fun i => ((w.take i).map isDig).map V.bl) rfl (show w.length ≤ _ by omega) (fun i => by rw [List.length_map, List.length_map, List.length_take]; omega) (fun _ _ => trivial) ?_ ?_
              · rintro i x H2 H3 hi e ⟨rfl, ch, hc, rfl⟩
                have hc' : w[i]? = some ch := by
                  have := hc
                  rw [List.getElem?_toArray] at this
                  exact this
                walk_at "eo go"
                refine ⟨rfl, ?_⟩
                walk_at "eo go"
                refine ⟨ch, _, rfl, rfl, ?_⟩
                rw [digs_lit, dig_mem, List.take_succ, hc', List.map_append, List.map_append]
                exact ⟨rfl, rfl⟩
              · intro D H1 e1 n1 hD
                rw [show (Sx w).cps.size = w.length by simp [Sx], List.take_length] at hD
                have h2 := e1.keep _ _ h1 nin0
                walk_at "eo go"
                refine ⟨D, w.map isDig, rfl, SqL.of hD, ?_⟩
                rw [show (w.map isDig).all id = w.all isDig by rw [List.all_map]; rfl]
                clear n1 hD e1 h1
                by_cases hd : w.all isDig = true
                · rw [hd]
                  walk_at "eo go"
                  have hbad := pars_zero hok hg hd
                  rename_i l1 K1 n1 e1 f1 l2 K2 n2 e2 f2 l3 K3 n3 e3 f3 l4 K4 n4 e4 f4 l5 K5 n5 e5 f5
                  have hw5 : K5 wl = some (.lst ((wsO p).map WS)) := by walk_at "eo fact"
                  have f5 : K5 l5 = some (.lst (((wsO p).map WS).take q ++ [WS (48 :: w)] ++ ((wsO p).map WS).drop (q + 1))) := f5
                  rw [put_map] at f5
                  have hlen5 := put_len (ws := wsO p) (k := q) (x := 48 :: w)
                  refine g_joinR f5 (put_all hw7 (by have := hw6 _ hgm; rw [List.length_cons]; omega)) (by omega) ?_
                  walk_at "eo go"
                  refine g_readW (put_all hwd ⟨by simp, fun z => (List.mem_cons.mp z).elim (by decide) (hwd w hgm).2⟩) (put_all hw7 (by have := hw6 _ hgm; rw [List.length_cons]; omega)) (by omega) hbad fun c6 K6 e6 h6 => ?_
                  walk_at "eo go"
                  rename_i c7 K7 n7 e7 h7
                  exact ⟨_, rfl, e7.keep _ _ (e6.keep _ _ hw5 nin0) nin0⟩
                · rw [Bool.eq_false_iff.mpr hd]
                  walk_at "eo go"
                  exact ⟨_, rfl, h2⟩
          · clear h1
            rintro σ' H' ⟨s12, rfl, h1⟩
            refine g_join (fun σ' H' => ∃ s12, σ' = [some (.ref a), some (.ref d), some (.ref pa), some (.ref oc), some (.int (m : Int)), some (.ref u6), some (.ref u7), some (.ref u10), some v, some (.str (Sx (txt p))), some (.ref wl), some (.int (q : Int)), s12] ∧ H' wl = some (.lst ((wsO p).map WS))) ?_ ?_
            · rw [Lc]
              walk_at "eo go"
              refine g_idxW h1 (colon_mem p) ?_
              rw [idx_colon]
              walk_at "eo go"
              refine g_ite (fun z => ?_) (fun z => ?_)
              · have z' := dec_t z
                have hbad := pars_take hok (k := q) (by omega)
                walk_at "eo go"
                rename_i l1 K1 n1 e1 f1
                have hw1 := e1.keep _ _ h1 nin0
                rw [← List.map_take] at f1
                refine g_joinR f1 (fun w hw => hw7 w (List.mem_of_mem_take hw)) (by rw [List.length_take]; omega) ?_
                walk_at "eo go"
                refine g_readW (fun w hw => hwd w (List.mem_of_mem_take hw)) (fun w hw => hw7 w (List.mem_of_mem_take hw)) (by rw [List.length_take]; omega) hbad fun c6 K6 e6 h6 => ?_
                walk_at "eo go"
                rename_i c7 K7 n7 e7 h7
                exact ⟨_, rfl, e7.keep _ _ (e6.keep _ _ hw1 nin0) nin0⟩
              · walk_at "eo go"
                exact ⟨_, rfl, h1⟩
            · clear h1
              rintro σ' H' ⟨s12, rfl, h1⟩
              have Le : (" 256" : Str).cps.toList = 32 :: TL.numL 256 := by decide +kernel
              have Lel : (" 256" : Str).cps.toList.length = 4 := by rw [Le]; decide +kernel
              have Lw : ("wire " : Str) = Sx [119, 105, 114, 101, 32] := by decide +kernel
              rw [Lw]
              walk_at "eo go"
              rw [Le, show txt p ++ 32 :: TL.numL 256 = TL.joinL [32] (wsO p ++ [TL.numL 256]) from (join_snoc (wsO_ne p)).symm]
              have h256 : Wd (TL.numL 256) := ⟨TL.numL_ne _, TL.numL_free (by omega)⟩
              have h256l : (TL.numL 256).length ≤ 7 := by decide +kernel
              refine g_readW (fun w hw => (List.mem_append.mp hw).elim (hwd w) fun c => by rw [List.mem_singleton.mp c]; exact h256) (fun w hw => (List.mem_append.mp hw).elim (hw7 w) fun c => by rw [List.mem_singleton.mp c]; exact h256l) (by rw [List.length_append, List.length_singleton]; omega) (pars_end hok) fun c6 K6 e6 h6 => ?_
              have hw6' := e6.keep _ _ h1 nin0
              walk_at "eo go"
              rename_i c7 K7 n7 e7 h7
              rw [List.length_map] at h7
              walk_at "eo go"
              rw [show [119, 105, 114, 101, 32] ++ (Sx (txt p)).cps.toList = TL.joinL [32] ([119, 105, 114, 101] :: wsO p) by rw [join_cons (wsO_ne p)]; rfl]
              refine g_readW (fun w hw => (List.mem_cons.mp hw).elim (fun c => by rw [c]; exact ⟨by decide, by decide⟩) (hwd w)) (fun w hw => (List.mem_cons.mp hw).elim (fun c => by rw [c]; decide) (hw7 w)) (by rw [List.length_cons]; omega) (pars_wire (show kindOf [119, 105, 114, 101] = none by decide)) fun c8 K8 e8 h8 => ?_
              walk_at "eo go"
              exact k _
end
set_option maxHeartbeats 4000000 in
theorem all_mk {l : PySem.W.OpenLaw} {w : World} {K : PySem.W.Frag} {h : Heap} {mg : Str → Option Value} {fa : Addr} (X : K.In h) (G : h.Ns mainGlobals mg) (hfa : mg "law" = some (.ref fa))
    {od_two_octets an_two_octets : Option Addr} {sl_two_octets : Array (Option Value)} {oc_two_octets kV_two_octets dc_two_octets pm_two_octets cd_two_octets ct_two_octets : Value} {f_two_octets : Addr}
    {od_number_of an_number_of : Option Addr} {sl_number_of : Array (Option Value)} {oc_number_of kV_number_of dc_number_of pm_number_of cd_number_of ct_number_of : Value} {f_number_of : Addr}
    {od_sum16 an_sum16 : Option Addr} {sl_sum16 : Array (Option Value)} {oc_sum16 kV_sum16 dc_sum16 pm_sum16 cd_sum16 ct_sum16 : Value} {f_sum16 : Addr}
    {od_packed an_packed : Option Addr} {sl_packed : Array (Option Value)} {oc_packed kV_packed dc_packed pm_packed cd_packed ct_packed : Value} {f_packed : Addr}
    {od_unpacked an_unpacked : Option Addr} {sl_unpacked : Array (Option Value)} {oc_unpacked kV_unpacked dc_unpacked pm_unpacked cd_unpacked ct_unpacked : Value} {f_unpacked : Addr}
    {od_TextError_init an_TextError_init : Option Addr} {sl_TextError_init : Array (Option Value)} {oc_TextError_init dc_TextError_init pm_TextError_init ct_TextError_init : Value} {f_TextError_init : Addr}
    {od_format_packet an_format_packet : Option Addr} {sl_format_packet : Array (Option Value)} {oc_format_packet kV_format_packet dc_format_packet pm_format_packet cd_format_packet ct_format_packet : Value} {f_format_packet : Addr}
    {od_Reader_init an_Reader_init : Option Addr} {sl_Reader_init : Array (Option Value)} {oc_Reader_init kV_Reader_init dc_Reader_init pm_Reader_init cd_Reader_init ct_Reader_init : Value} {f_Reader_init : Addr}
    {od_Reader_head an_Reader_head : Option Addr} {sl_Reader_head : Array (Option Value)} {oc_Reader_head kV_Reader_head dc_Reader_head pm_Reader_head cd_Reader_head ct_Reader_head : Value} {f_Reader_head : Addr}
    {od_Reader_fail an_Reader_fail : Option Addr} {sl_Reader_fail : Array (Option Value)} {oc_Reader_fail kV_Reader_fail dc_Reader_fail pm_Reader_fail cd_Reader_fail ct_Reader_fail : Value} {f_Reader_fail : Addr}
    {od_Reader_need an_Reader_need : Option Addr} {sl_Reader_need : Array (Option Value)} {oc_Reader_need kV_Reader_need dc_Reader_need pm_Reader_need cd_Reader_need ct_Reader_need : Value} {f_Reader_need : Addr}
    {od_Reader_number an_Reader_number : Option Addr} {sl_Reader_number : Array (Option Value)} {oc_Reader_number kV_Reader_number dc_Reader_number pm_Reader_number cd_Reader_number ct_Reader_number : Value} {f_Reader_number : Addr}
    {od_Reader_named an_Reader_named : Option Addr} {sl_Reader_named : Array (Option Value)} {oc_Reader_named kV_Reader_named dc_Reader_named pm_Reader_named cd_Reader_named ct_Reader_named : Value} {f_Reader_named : Addr}
    {od_parse_packet an_parse_packet : Option Addr} {sl_parse_packet : Array (Option Value)} {oc_parse_packet kV_parse_packet dc_parse_packet pm_parse_packet cd_parse_packet ct_parse_packet : Value} {f_parse_packet : Addr}
    {od_law_begin an_law_begin : Option Addr} {sl_law_begin : Array (Option Value)} {oc_law_begin kV_law_begin dc_law_begin pm_law_begin cd_law_begin ct_law_begin : Value} {f_law_begin : Addr}
    {od_law_take an_law_take : Option Addr} {sl_law_take : Array (Option Value)} {oc_law_take kV_law_take dc_law_take pm_law_take cd_law_take ct_law_take : Value} {f_law_take : Addr}
    {od_law_pick an_law_pick : Option Addr} {sl_law_pick : Array (Option Value)} {oc_law_pick kV_law_pick dc_law_pick pm_law_pick cd_law_pick ct_law_pick : Value} {f_law_pick : Addr}
    {od_law_octets an_law_octets : Option Addr} {sl_law_octets : Array (Option Value)} {oc_law_octets kV_law_octets dc_law_octets pm_law_octets cd_law_octets ct_law_octets : Value} {f_law_octets : Addr}
    {od_law_packet an_law_packet : Option Addr} {sl_law_packet : Array (Option Value)} {oc_law_packet kV_law_packet dc_law_packet pm_law_packet cd_law_packet ct_law_packet : Value} {f_law_packet : Addr}
    {od_law_packed an_law_packed : Option Addr} {sl_law_packed : Array (Option Value)} {oc_law_packed kV_law_packed dc_law_packed pm_law_packed cd_law_packed ct_law_packed : Value} {f_law_packed : Addr}
    {od_law_text an_law_text : Option Addr} {sl_law_text : Array (Option Value)} {oc_law_text kV_law_text dc_law_text pm_law_text cd_law_text ct_law_text : Value} {f_law_text : Addr}
    {od_law_read an_law_read : Option Addr} {sl_law_read : Array (Option Value)} {oc_law_read kV_law_read dc_law_read pm_law_read cd_law_read ct_law_read : Value} {f_law_read : Addr}
    {od_law an_law : Option Addr} {sl_law : Array (Option Value)} {oc_law kV_law dc_law pm_law cd_law ct_law : Value} {f_law : Addr}
    {c_TextError : Addr}
    {c_Reader : Addr}
    {cc_TextError ca_TextError : Addr} {nm_TextError q_TextError : Str} {N_TextError : Addr} {bs_TextError bm_TextError sub_TextError : List Value} {sn_TextError : List Str} {ab_TextError : Bool} {col_TextError : Option Bool} {dd_TextError : Option Addr} {m0_TextError m1_TextError m2_TextError m3_TextError m5_TextError : Option Value}
    {ccl_TextError : Value} {cdd_TextError : Option Addr} {vs_TextError : Array Value} {ccs_TextError : Array (Option Value)} {file_TextError : Str} {tf_TextError : Tok} {cll_TextError : Value} {cld_TextError : Option Addr} {csl_TextError : Array (Option Value)}
    {v_MOST : Tok}
    {ga_KINDS : Addr} {o_KINDS : Value} {its_KINDS : Array Value} {n_KINDS : Nat} {sl_KINDS : Array (Option Value)}
    {v_HEAD : Tok}
    {v_MOST_BODY : Tok}
    {v_DIGITS : Tok}
    {v_MOST_OCTET : Tok}
    {v_MOST_NUMBER : Tok}
    (aC_TextError : PySem.W.nsIn K mainGlobals "TextError" = some (some (.ref c_TextError)))
    (aC_Reader : PySem.W.nsIn K mainGlobals "Reader" = some (some (.ref c_Reader)))
    (a_two_octets : PySem.W.nsIn K mainGlobals "two_octets" = some (some (.ref f_two_octets)))
    (l_two_octets : K.lookup f_two_octets = some ⟨oc_two_octets, od_two_octets, .func (PySem.W.fnOf "two_octets" "two_octets" (defArgs s_two_octets) (defBody s_two_octets) (defScope s_two_octets) .none kV_two_octets dc_two_octets pm_two_octets an_two_octets cd_two_octets ct_two_octets), sl_two_octets⟩)
    (k_two_octets : PySem.W.codeIn K cd_two_octets "two_octets" = true)
    (p_two_octets : PySem.W.keepIn K (.ref f_two_octets) = true)
    (a_number_of : PySem.W.nsIn K mainGlobals "number_of" = some (some (.ref f_number_of)))
    (l_number_of : K.lookup f_number_of = some ⟨oc_number_of, od_number_of, .func (PySem.W.fnOf "number_of" "number_of" (defArgs s_number_of) (defBody s_number_of) (defScope s_number_of) .none kV_number_of dc_number_of pm_number_of an_number_of cd_number_of ct_number_of), sl_number_of⟩)
    (k_number_of : PySem.W.codeIn K cd_number_of "number_of" = true)
    (p_number_of : PySem.W.keepIn K (.ref f_number_of) = true)
    (a_sum16 : PySem.W.nsIn K mainGlobals "sum16" = some (some (.ref f_sum16)))
    (l_sum16 : K.lookup f_sum16 = some ⟨oc_sum16, od_sum16, .func (PySem.W.fnOf "sum16" "sum16" (defArgs s_sum16) (defBody s_sum16) (defScope s_sum16) .none kV_sum16 dc_sum16 pm_sum16 an_sum16 cd_sum16 ct_sum16), sl_sum16⟩)
    (k_sum16 : PySem.W.codeIn K cd_sum16 "sum16" = true)
    (p_sum16 : PySem.W.keepIn K (.ref f_sum16) = true)
    (a_packed : PySem.W.nsIn K mainGlobals "packed" = some (some (.ref f_packed)))
    (l_packed : K.lookup f_packed = some ⟨oc_packed, od_packed, .func (PySem.W.fnOf "packed" "packed" (defArgs s_packed) (defBody s_packed) (defScope s_packed) .none kV_packed dc_packed pm_packed an_packed cd_packed ct_packed), sl_packed⟩)
    (k_packed : PySem.W.codeIn K cd_packed "packed" = true)
    (p_packed : PySem.W.keepIn K (.ref f_packed) = true)
    (a_unpacked : PySem.W.nsIn K mainGlobals "unpacked" = some (some (.ref f_unpacked)))
    (l_unpacked : K.lookup f_unpacked = some ⟨oc_unpacked, od_unpacked, .func (PySem.W.fnOf "unpacked" "unpacked" (defArgs s_unpacked) (defBody s_unpacked) (defScope s_unpacked) .none kV_unpacked dc_unpacked pm_unpacked an_unpacked cd_unpacked ct_unpacked), sl_unpacked⟩)
    (k_unpacked : PySem.W.codeIn K cd_unpacked "unpacked" = true)
    (p_unpacked : PySem.W.keepIn K (.ref f_unpacked) = true)
    (a_TextError_init : PySem.W.findIn K (.ref c_TextError) "__init__" = some (some (.ref f_TextError_init)))
    (ti_TextError_init : PySem.W.typeIn K (.ref f_TextError_init) = some (.type "function"))
    (l_TextError_init : K.lookup f_TextError_init = some ⟨oc_TextError_init, od_TextError_init, .func (PySem.W.fnX "__init__" "TextError.__init__" (defArgs s_TextError_init) (defBody s_TextError_init) (defScope s_TextError_init) [("__class__", cc_TextError)] .none .none dc_TextError_init pm_TextError_init an_TextError_init (.ref ca_TextError) ct_TextError_init), sl_TextError_init⟩)
    (k_TextError_init : PySem.W.codeIn K (.ref ca_TextError) "TextError.__init__" = true)
    (co_TextError : K.lookup ca_TextError = some ⟨ccl_TextError, cdd_TextError, .fields vs_TextError, ccs_TextError⟩)
    (cv_TextError : vs_TextError[2]? = some (.str file_TextError tf_TextError))
    (cf_TextError : ((l.prog.main.file : Str) == file_TextError) = true)
    (ce_TextError : K.lookup cc_TextError = some ⟨cll_TextError, cld_TextError, .cell (some (.ref c_TextError)), csl_TextError⟩)
    (xl_TextError : K.lookup c_TextError = some (excClassObj nm_TextError q_TextError c_TextError N_TextError bs_TextError bm_TextError true sn_TextError sub_TextError ab_TextError col_TextError dd_TextError m0_TextError m1_TextError m2_TextError m3_TextError m5_TextError "ValueError.__new__"))
    (xr_TextError : PySem.HandSPX.refsVE bm_TextError = true)
    (sa_TextError : PySem.W.findIn K (.ref c_TextError) "__setattr__" = some (some (.builtin "object.__setattr__")))
    (eb_TextError : PySem.W.subIn K (.ref c_TextError) (.type "BaseException") = some true)
    (ty_TextError : PySem.W.typeIn K (.ref c_TextError) = some (.type "type"))
    (kp_TextError : PySem.W.keepIn K (.ref c_TextError) = true)
    (mr_TextError : PySem.W.mroIn K c_TextError (.ref c_TextError) = some true)
    (tp_TextError : (l.prog.main.scope.names.lookup ("super" : Str)).isSome = false)
    (oq_TextError : PySem.W.nsIn K PySem.cStatics "thirdparty.any" = some none)
    (si_TextError : PySem.W.ks_superIn K c_TextError c_TextError "__init__" = some (some (.builtin "ValueError.__init__")))
    (ve_TextError : PySem.W.subIn K (.ref c_TextError) (.type "ValueError") = some true)
    (ga_TextError : PySem.W.findIn K (.ref c_TextError) "__getattribute__" = some (some (.builtin "BaseException.__getattribute__")))
    (gg_TextError : PySem.W.findIn K (.ref c_TextError) "__getattr__" = some none)
    (hd_TextError : PySem.W.hasDictIn K c_TextError = true)
    (ic_TextError : PySem.W.isClsIn K c_TextError = true)
    (sc_TextError : PySem.W.subIn K (.ref c_TextError) (.ref c_TextError) = some true)
    (n_TextError_code : PySem.W.findIn K (.ref c_TextError) "code" = some none)
    (n_TextError_at : PySem.W.findIn K (.ref c_TextError) "at" = some none)
    (a_format_packet : PySem.W.nsIn K mainGlobals "format_packet" = some (some (.ref f_format_packet)))
    (l_format_packet : K.lookup f_format_packet = some ⟨oc_format_packet, od_format_packet, .func (PySem.W.fnOf "format_packet" "format_packet" (defArgs s_format_packet) (defBody s_format_packet) (defScope s_format_packet) .none kV_format_packet dc_format_packet pm_format_packet an_format_packet cd_format_packet ct_format_packet), sl_format_packet⟩)
    (k_format_packet : PySem.W.codeIn K cd_format_packet "format_packet" = true)
    (p_format_packet : PySem.W.keepIn K (.ref f_format_packet) = true)
    (a_Reader_init : PySem.W.findIn K (.ref c_Reader) "__init__" = some (some (.ref f_Reader_init)))
    (i_Reader_init : PySem.W.isFn K (.ref f_Reader_init) = true)
    (l_Reader_init : K.lookup f_Reader_init = some ⟨oc_Reader_init, od_Reader_init, .func (PySem.W.fnOf "__init__" "Reader.__init__" (defArgs s_Reader_init) (defBody s_Reader_init) (defScope s_Reader_init) .none kV_Reader_init dc_Reader_init pm_Reader_init an_Reader_init cd_Reader_init ct_Reader_init), sl_Reader_init⟩)
    (k_Reader_init : PySem.W.codeIn K cd_Reader_init "Reader.__init__" = true)
    (p_Reader_init : PySem.W.keepIn K (.ref f_Reader_init) = true)
    (a_Reader_head : PySem.W.findIn K (.ref c_Reader) "head" = some (some (.ref f_Reader_head)))
    (i_Reader_head : PySem.W.isFn K (.ref f_Reader_head) = true)
    (l_Reader_head : K.lookup f_Reader_head = some ⟨oc_Reader_head, od_Reader_head, .func (PySem.W.fnOf "head" "Reader.head" (defArgs s_Reader_head) (defBody s_Reader_head) (defScope s_Reader_head) .none kV_Reader_head dc_Reader_head pm_Reader_head an_Reader_head cd_Reader_head ct_Reader_head), sl_Reader_head⟩)
    (k_Reader_head : PySem.W.codeIn K cd_Reader_head "Reader.head" = true)
    (p_Reader_head : PySem.W.keepIn K (.ref f_Reader_head) = true)
    (a_Reader_fail : PySem.W.findIn K (.ref c_Reader) "fail" = some (some (.ref f_Reader_fail)))
    (i_Reader_fail : PySem.W.isFn K (.ref f_Reader_fail) = true)
    (l_Reader_fail : K.lookup f_Reader_fail = some ⟨oc_Reader_fail, od_Reader_fail, .func (PySem.W.fnOf "fail" "Reader.fail" (defArgs s_Reader_fail) (defBody s_Reader_fail) (defScope s_Reader_fail) .none kV_Reader_fail dc_Reader_fail pm_Reader_fail an_Reader_fail cd_Reader_fail ct_Reader_fail), sl_Reader_fail⟩)
    (k_Reader_fail : PySem.W.codeIn K cd_Reader_fail "Reader.fail" = true)
    (p_Reader_fail : PySem.W.keepIn K (.ref f_Reader_fail) = true)
    (a_Reader_need : PySem.W.findIn K (.ref c_Reader) "need" = some (some (.ref f_Reader_need)))
    (i_Reader_need : PySem.W.isFn K (.ref f_Reader_need) = true)
    (l_Reader_need : K.lookup f_Reader_need = some ⟨oc_Reader_need, od_Reader_need, .func (PySem.W.fnOf "need" "Reader.need" (defArgs s_Reader_need) (defBody s_Reader_need) (defScope s_Reader_need) .none kV_Reader_need dc_Reader_need pm_Reader_need an_Reader_need cd_Reader_need ct_Reader_need), sl_Reader_need⟩)
    (k_Reader_need : PySem.W.codeIn K cd_Reader_need "Reader.need" = true)
    (p_Reader_need : PySem.W.keepIn K (.ref f_Reader_need) = true)
    (a_Reader_number : PySem.W.findIn K (.ref c_Reader) "number" = some (some (.ref f_Reader_number)))
    (i_Reader_number : PySem.W.isFn K (.ref f_Reader_number) = true)
    (l_Reader_number : K.lookup f_Reader_number = some ⟨oc_Reader_number, od_Reader_number, .func (PySem.W.fnOf "number" "Reader.number" (defArgs s_Reader_number) (defBody s_Reader_number) (defScope s_Reader_number) .none kV_Reader_number dc_Reader_number pm_Reader_number an_Reader_number cd_Reader_number ct_Reader_number), sl_Reader_number⟩)
    (k_Reader_number : PySem.W.codeIn K cd_Reader_number "Reader.number" = true)
    (p_Reader_number : PySem.W.keepIn K (.ref f_Reader_number) = true)
    (a_Reader_named : PySem.W.findIn K (.ref c_Reader) "named" = some (some (.ref f_Reader_named)))
    (i_Reader_named : PySem.W.isFn K (.ref f_Reader_named) = true)
    (l_Reader_named : K.lookup f_Reader_named = some ⟨oc_Reader_named, od_Reader_named, .func (PySem.W.fnOf "named" "Reader.named" (defArgs s_Reader_named) (defBody s_Reader_named) (defScope s_Reader_named) .none kV_Reader_named dc_Reader_named pm_Reader_named an_Reader_named cd_Reader_named ct_Reader_named), sl_Reader_named⟩)
    (k_Reader_named : PySem.W.codeIn K cd_Reader_named "Reader.named" = true)
    (p_Reader_named : PySem.W.keepIn K (.ref f_Reader_named) = true)
    (a_parse_packet : PySem.W.nsIn K mainGlobals "parse_packet" = some (some (.ref f_parse_packet)))
    (l_parse_packet : K.lookup f_parse_packet = some ⟨oc_parse_packet, od_parse_packet, .func (PySem.W.fnOf "parse_packet" "parse_packet" (defArgs s_parse_packet) (defBody s_parse_packet) (defScope s_parse_packet) .none kV_parse_packet dc_parse_packet pm_parse_packet an_parse_packet cd_parse_packet ct_parse_packet), sl_parse_packet⟩)
    (k_parse_packet : PySem.W.codeIn K cd_parse_packet "parse_packet" = true)
    (p_parse_packet : PySem.W.keepIn K (.ref f_parse_packet) = true)
    (a_law_begin : PySem.W.nsIn K mainGlobals "_law_begin" = some (some (.ref f_law_begin)))
    (l_law_begin : K.lookup f_law_begin = some ⟨oc_law_begin, od_law_begin, .func (PySem.W.fnOf "_law_begin" "_law_begin" (defArgs s_law_begin) (defBody s_law_begin) (defScope s_law_begin) .none kV_law_begin dc_law_begin pm_law_begin an_law_begin cd_law_begin ct_law_begin), sl_law_begin⟩)
    (k_law_begin : PySem.W.codeIn K cd_law_begin "_law_begin" = true)
    (p_law_begin : PySem.W.keepIn K (.ref f_law_begin) = true)
    (a_law_take : PySem.W.nsIn K mainGlobals "_law_take" = some (some (.ref f_law_take)))
    (l_law_take : K.lookup f_law_take = some ⟨oc_law_take, od_law_take, .func (PySem.W.fnOf "_law_take" "_law_take" (defArgs s_law_take) (defBody s_law_take) (defScope s_law_take) .none kV_law_take dc_law_take pm_law_take an_law_take cd_law_take ct_law_take), sl_law_take⟩)
    (k_law_take : PySem.W.codeIn K cd_law_take "_law_take" = true)
    (p_law_take : PySem.W.keepIn K (.ref f_law_take) = true)
    (a_law_pick : PySem.W.nsIn K mainGlobals "_law_pick" = some (some (.ref f_law_pick)))
    (l_law_pick : K.lookup f_law_pick = some ⟨oc_law_pick, od_law_pick, .func (PySem.W.fnOf "_law_pick" "_law_pick" (defArgs s_law_pick) (defBody s_law_pick) (defScope s_law_pick) .none kV_law_pick dc_law_pick pm_law_pick an_law_pick cd_law_pick ct_law_pick), sl_law_pick⟩)
    (k_law_pick : PySem.W.codeIn K cd_law_pick "_law_pick" = true)
    (p_law_pick : PySem.W.keepIn K (.ref f_law_pick) = true)
    (a_law_octets : PySem.W.nsIn K mainGlobals "_law_octets" = some (some (.ref f_law_octets)))
    (l_law_octets : K.lookup f_law_octets = some ⟨oc_law_octets, od_law_octets, .func (PySem.W.fnOf "_law_octets" "_law_octets" (defArgs s_law_octets) (defBody s_law_octets) (defScope s_law_octets) .none kV_law_octets dc_law_octets pm_law_octets an_law_octets cd_law_octets ct_law_octets), sl_law_octets⟩)
    (k_law_octets : PySem.W.codeIn K cd_law_octets "_law_octets" = true)
    (p_law_octets : PySem.W.keepIn K (.ref f_law_octets) = true)
    (a_law_packet : PySem.W.nsIn K mainGlobals "_law_packet" = some (some (.ref f_law_packet)))
    (l_law_packet : K.lookup f_law_packet = some ⟨oc_law_packet, od_law_packet, .func (PySem.W.fnOf "_law_packet" "_law_packet" (defArgs s_law_packet) (defBody s_law_packet) (defScope s_law_packet) .none kV_law_packet dc_law_packet pm_law_packet an_law_packet cd_law_packet ct_law_packet), sl_law_packet⟩)
    (k_law_packet : PySem.W.codeIn K cd_law_packet "_law_packet" = true)
    (p_law_packet : PySem.W.keepIn K (.ref f_law_packet) = true)
    (a_law_packed : PySem.W.nsIn K mainGlobals "_law_packed" = some (some (.ref f_law_packed)))
    (l_law_packed : K.lookup f_law_packed = some ⟨oc_law_packed, od_law_packed, .func (PySem.W.fnOf "_law_packed" "_law_packed" (defArgs s_law_packed) (defBody s_law_packed) (defScope s_law_packed) .none kV_law_packed dc_law_packed pm_law_packed an_law_packed cd_law_packed ct_law_packed), sl_law_packed⟩)
    (k_law_packed : PySem.W.codeIn K cd_law_packed "_law_packed" = true)
    (p_law_packed : PySem.W.keepIn K (.ref f_law_packed) = true)
    (a_law_text : PySem.W.nsIn K mainGlobals "_law_text" = some (some (.ref f_law_text)))
    (l_law_text : K.lookup f_law_text = some ⟨oc_law_text, od_law_text, .func (PySem.W.fnOf "_law_text" "_law_text" (defArgs s_law_text) (defBody s_law_text) (defScope s_law_text) .none kV_law_text dc_law_text pm_law_text an_law_text cd_law_text ct_law_text), sl_law_text⟩)
    (k_law_text : PySem.W.codeIn K cd_law_text "_law_text" = true)
    (p_law_text : PySem.W.keepIn K (.ref f_law_text) = true)
    (a_law_read : PySem.W.nsIn K mainGlobals "_law_read" = some (some (.ref f_law_read)))
    (l_law_read : K.lookup f_law_read = some ⟨oc_law_read, od_law_read, .func (PySem.W.fnOf "_law_read" "_law_read" (defArgs s_law_read) (defBody s_law_read) (defScope s_law_read) .none kV_law_read dc_law_read pm_law_read an_law_read cd_law_read ct_law_read), sl_law_read⟩)
    (k_law_read : PySem.W.codeIn K cd_law_read "_law_read" = true)
    (p_law_read : PySem.W.keepIn K (.ref f_law_read) = true)
    (a_law : PySem.W.nsIn K mainGlobals "law" = some (some (.ref f_law)))
    (l_law : K.lookup f_law = some ⟨oc_law, od_law, .func (PySem.W.fnOf "law" "law" (defArgs s_law) (defBody s_law) (defScope s_law) .none kV_law dc_law pm_law an_law cd_law ct_law), sl_law⟩)
    (k_law : PySem.W.codeIn K cd_law "law" = true)
    (p_law : PySem.W.keepIn K (.ref f_law) = true)
    (pg_Reader : PySem.W.plainGet K c_Reader Str.empty = true)
    (hd_Reader : PySem.W.hasDictIn K c_Reader = true)
    (po_Reader : PySem.W.plainOver K c_Reader = true)
    (sa_Reader : PySem.W.findIn K (.ref c_Reader) "__setattr__" = some (some (.builtin "object.__setattr__")))
    (mk_Reader : PySem.W.makesIn K c_Reader = true)
    (kp_Reader : PySem.W.keepIn K (.ref c_Reader) = true)
    (n_Reader_words : PySem.W.findIn K (.ref c_Reader) "words" = some none)
    (n_Reader_at : PySem.W.findIn K (.ref c_Reader) "at" = some none)
    (z_range : PySem.W.nsIn K mainGlobals "range" = some none)
    (z_len : PySem.W.nsIn K mainGlobals "len" = some none)
    (z_tuple : PySem.W.nsIn K mainGlobals "tuple" = some none)
    (z_super : PySem.W.nsIn K mainGlobals "super" = some none)
    (z_str : PySem.W.nsIn K mainGlobals "str" = some none)
    (z_all : PySem.W.nsIn K mainGlobals "all" = some none)
    (z_int : PySem.W.nsIn K mainGlobals "int" = some none)
    (z_list : PySem.W.nsIn K mainGlobals "list" = some none)
    (z_abs : PySem.W.nsIn K mainGlobals "abs" = some none)
    (gv_MOST : PySem.W.nsIn K mainGlobals "MOST" = some (some (.int 65536 v_MOST)))
    (gv_KINDS : PySem.W.nsIn K mainGlobals "KINDS" = some (some (.ref ga_KINDS)))
    (gl_KINDS : K.lookup ga_KINDS = some ⟨o_KINDS, none, .seq its_KINDS n_KINDS, sl_KINDS⟩)
    (gk_KINDS : o_KINDS = .type "tuple")
    (gz_KINDS : its_KINDS.size ≤ sizeLine)
    (gw_KINDS : L2.Vals [(.str "data"), (.str "route"), (.str "probe"), (.str "tell")] its_KINDS.toList)
    (gv_HEAD : PySem.W.nsIn K mainGlobals "HEAD" = some (some (.int 13 v_HEAD)))
    (gv_MOST_BODY : PySem.W.nsIn K mainGlobals "MOST_BODY" = some (some (.int 512 v_MOST_BODY)))
    (gv_DIGITS : PySem.W.nsIn K mainGlobals "DIGITS" = some (some (.str "0123456789" v_DIGITS)))
    (gv_MOST_OCTET : PySem.W.nsIn K mainGlobals "MOST_OCTET" = some (some (.int 255 v_MOST_OCTET)))
    (gv_MOST_NUMBER : PySem.W.nsIn K mainGlobals "MOST_NUMBER" = some (some (.int 65535 v_MOST_NUMBER))) :
    ∃ fd : FuncData, (∀ (s : Shared) (v : Value), BindsTo s fd ⟨[v], []⟩ [("script", v)]) ∧ ∀ base : Heap, K.In base → base.Ns mainGlobals mg → FnOk l.prog w K mg base CX0 8 fa fd ["script"] (spLaw K) := by
  have e := hfa.symm.trans (PySem.W.mg_of X G a_law)
  cases e
  have O_TextError : OexC K c_TextError := ⟨⟨nm_TextError, q_TextError, N_TextError, bs_TextError, _, sn_TextError, sub_TextError, ab_TextError, col_TextError, dd_TextError, m0_TextError, m1_TextError, m2_TextError, m3_TextError, m5_TextError, xl_TextError, xr_TextError⟩, sa_TextError, eb_TextError, ty_TextError, kp_TextError⟩
  have S_TextError : Sup.SupTxt l.prog K mg ⟨"__init__", "TextError.__init__", defArgs s_TextError_init, defBody s_TextError_init, defScope s_TextError_init, [("__class__", cc_TextError)], ca_TextError⟩ f_TextError_init cc_TextError c_TextError "self" :=
    { lk := ⟨_, _, _, _, _, _, _, l_TextError_init⟩, cl := rfl, code := k_TextError_init, cob := ⟨_, _, _, _, _, _, co_TextError, cv_TextError, cf_TextError⟩, cell := ⟨_, _, _, ce_TextError⟩, T := O_TextError, sub := mr_TextError, msup := PySem.W.mg_none_of X G z_super, top := tp_TextError, opq := oq_TextError, init := si_TextError, ve := ve_TextError,
      par := ⟨_, rfl, rfl⟩, ks := (show (defScope s_TextError_init).names.lookup ("super" : Str) = _ by decide +kernel), boot := (by rfl) }
  have B_TextError : Binds K (PySem.W.fnX "__init__" "TextError.__init__" (defArgs s_TextError_init) (defBody s_TextError_init) (defScope s_TextError_init) [("__class__", cc_TextError)] .none .none dc_TextError_init pm_TextError_init an_TextError_init (.ref ca_TextError) ct_TextError_init) ["self", "code", "at"] [] := .all fun us hl => match us, hl with | [_, _, _], _ => rfl
  have X_TextError : ExcT2 l.prog K mg ⟨"__init__", "TextError.__init__", defArgs s_TextError_init, defBody s_TextError_init, defScope s_TextError_init, [("__class__", cc_TextError)], ca_TextError⟩ f_TextError_init cc_TextError c_TextError (PySem.W.fnX "__init__" "TextError.__init__" (defArgs s_TextError_init) (defBody s_TextError_init) (defScope s_TextError_init) [("__class__", cc_TextError)] .none .none dc_TextError_init pm_TextError_init an_TextError_init (.ref ca_TextError) ct_TextError_init) "TextError" ["self", "code", "at"] :=
    ⟨⟨S_TextError, PySem.W.mg_of X G aC_TextError, a_TextError_init, ti_TextError_init, exm_self eb_TextError ic_TextError ty_TextError sc_TextError, ⟨ga_TextError, gg_TextError, eb_TextError, hd_TextError⟩, n_TextError_code, B_TextError, ⟨_, _, _, l_TextError_init⟩⟩, n_TextError_at⟩
  have F_two_octets := fun_mk (st := s_two_octets) l_two_octets k_two_octets p_two_octets
  have b_two_octets := F_two_octets.binds (ps := ["n"]) fun _ _ _ _ _ _ us hl => match us, hl with | [_], _ => rfl
  have F_number_of := fun_mk (st := s_number_of) l_number_of k_number_of p_number_of
  have b_number_of := F_number_of.binds (ps := ["octets"]) fun _ _ _ _ _ _ us hl => match us, hl with | [_], _ => rfl
  have F_sum16 := fun_mk (st := s_sum16) l_sum16 k_sum16 p_sum16
  have b_sum16 := F_sum16.binds (ps := ["octets"]) fun _ _ _ _ _ _ us hl => match us, hl with | [_], _ => rfl
  have F_packed := fun_mk (st := s_packed) l_packed k_packed p_packed
  have b_packed := F_packed.binds (ps := ["packet"]) fun _ _ _ _ _ _ us hl => match us, hl with | [_], _ => rfl
  have F_unpacked := fun_mk (st := s_unpacked) l_unpacked k_unpacked p_unpacked
  have b_unpacked := F_unpacked.binds (ps := ["octets"]) fun _ _ _ _ _ _ us hl => match us, hl with | [_], _ => rfl
  have F_format_packet := fun_mk (st := s_format_packet) l_format_packet k_format_packet p_format_packet
  have b_format_packet := F_format_packet.binds (ps := ["packet"]) fun _ _ _ _ _ _ us hl => match us, hl with | [_], _ => rfl
  have F_Reader_init := fun_mk (st := s_Reader_init) l_Reader_init k_Reader_init p_Reader_init
  have b_Reader_init := F_Reader_init.binds (ps := ["self", "text"]) fun _ _ _ _ _ _ us hl => match us, hl with | [_, _], _ => rfl
  have F_Reader_head := fun_mk (st := s_Reader_head) l_Reader_head k_Reader_head p_Reader_head
  have b_Reader_head := F_Reader_head.binds (ps := ["self"]) fun _ _ _ _ _ _ us hl => match us, hl with | [_], _ => rfl
  have F_Reader_fail := fun_mk (st := s_Reader_fail) l_Reader_fail k_Reader_fail p_Reader_fail
  have b_Reader_fail := F_Reader_fail.binds (ps := ["self"]) fun _ _ _ _ _ _ us hl => match us, hl with | [_], _ => rfl
  have F_Reader_need := fun_mk (st := s_Reader_need) l_Reader_need k_Reader_need p_Reader_need
  have b_Reader_need := F_Reader_need.binds (ps := ["self", "word"]) fun _ _ _ _ _ _ us hl => match us, hl with | [_, _], _ => rfl
  have F_Reader_number := fun_mk (st := s_Reader_number) l_Reader_number k_Reader_number p_Reader_number
  have b_Reader_number := F_Reader_number.binds (ps := ["self", "most"]) fun _ _ _ _ _ _ us hl => match us, hl with | [_, _], _ => rfl
  have F_Reader_named := fun_mk (st := s_Reader_named) l_Reader_named k_Reader_named p_Reader_named
  have b_Reader_named := F_Reader_named.binds (ps := ["self", "word", "most"]) fun _ _ _ _ _ _ us hl => match us, hl with | [_, _, _], _ => rfl
  have F_parse_packet := fun_mk (st := s_parse_packet) l_parse_packet k_parse_packet p_parse_packet
  have b_parse_packet := F_parse_packet.binds (ps := ["text"]) fun _ _ _ _ _ _ us hl => match us, hl with | [_], _ => rfl
  have F_law_begin := fun_mk (st := s_law_begin) l_law_begin k_law_begin p_law_begin
  have b_law_begin := F_law_begin.binds (ps := ["script"]) fun _ _ _ _ _ _ us hl => match us, hl with | [_], _ => rfl
  have F_law_take := fun_mk (st := s_law_take) l_law_take k_law_take p_law_take
  have b_law_take := F_law_take.binds (ps := ["d", "many"]) fun _ _ _ _ _ _ us hl => match us, hl with | [_, _], _ => rfl
  have F_law_pick := fun_mk (st := s_law_pick) l_law_pick k_law_pick p_law_pick
  have b_law_pick := F_law_pick.binds (ps := ["d", "menu"]) fun _ _ _ _ _ _ us hl => match us, hl with | [_, _], _ => rfl
  have F_law_octets := fun_mk (st := s_law_octets) l_law_octets k_law_octets p_law_octets
  have b_law_octets := F_law_octets.binds (ps := ["d", "most"]) fun _ _ _ _ _ _ us hl => match us, hl with | [_, _], _ => rfl
  have F_law_packet := fun_mk (st := s_law_packet) l_law_packet k_law_packet p_law_packet
  have b_law_packet := F_law_packet.binds (ps := ["d"]) fun _ _ _ _ _ _ us hl => match us, hl with | [_], _ => rfl
  have F_law_packed := fun_mk (st := s_law_packed) l_law_packed k_law_packed p_law_packed
  have b_law_packed := F_law_packed.binds (ps := ["packet"]) fun _ _ _ _ _ _ us hl => match us, hl with | [_], _ => rfl
  have F_law_text := fun_mk (st := s_law_text) l_law_text k_law_text p_law_text
  have b_law_text := F_law_text.binds (ps := ["packet"]) fun _ _ _ _ _ _ us hl => match us, hl with | [_], _ => rfl
  have F_law_read := fun_mk (st := s_law_read) l_law_read k_law_read p_law_read
  have b_law_read := F_law_read.binds (ps := ["text"]) fun _ _ _ _ _ _ us hl => match us, hl with | [_], _ => rfl
  have F_law := fun_mk (st := s_law) l_law k_law p_law
  have b_law := F_law.binds (ps := ["script"]) fun _ _ _ _ _ _ us hl => match us, hl with | [_], _ => rfl
  have C_Reader : CF K mg "Reader" ["words", "at"] c_Reader f_Reader_init := ⟨PySem.W.mg_of X G aC_Reader, ⟨pg_Reader, hd_Reader, po_Reader, sa_Reader⟩, ⟨mk_Reader, a_Reader_init, i_Reader_init, kp_Reader⟩, fun x hx => by
      simp only [List.mem_cons, List.not_mem_nil, or_false] at hx
      rcases hx with rfl | rfl
      · exact n_Reader_words
      · exact n_Reader_at⟩
  have T : Txt l.prog K mg ⟨f_two_octets, PySem.W.fnOf "two_octets" "two_octets" (defArgs s_two_octets) (defBody s_two_octets) (defScope s_two_octets) .none kV_two_octets dc_two_octets pm_two_octets an_two_octets cd_two_octets ct_two_octets, f_number_of, PySem.W.fnOf "number_of" "number_of" (defArgs s_number_of) (defBody s_number_of) (defScope s_number_of) .none kV_number_of dc_number_of pm_number_of an_number_of cd_number_of ct_number_of, f_sum16, PySem.W.fnOf "sum16" "sum16" (defArgs s_sum16) (defBody s_sum16) (defScope s_sum16) .none kV_sum16 dc_sum16 pm_sum16 an_sum16 cd_sum16 ct_sum16, f_packed, PySem.W.fnOf "packed" "packed" (defArgs s_packed) (defBody s_packed) (defScope s_packed) .none kV_packed dc_packed pm_packed an_packed cd_packed ct_packed, f_unpacked, PySem.W.fnOf "unpacked" "unpacked" (defArgs s_unpacked) (defBody s_unpacked) (defScope s_unpacked) .none kV_unpacked dc_unpacked pm_unpacked an_unpacked cd_unpacked ct_unpacked, f_TextError_init, PySem.W.fnX "__init__" "TextError.__init__" (defArgs s_TextError_init) (defBody s_TextError_init) (defScope s_TextError_init) [("__class__", cc_TextError)] .none .none dc_TextError_init pm_TextError_init an_TextError_init (.ref ca_TextError) ct_TextError_init, f_format_packet, PySem.W.fnOf "format_packet" "format_packet" (defArgs s_format_packet) (defBody s_format_packet) (defScope s_format_packet) .none kV_format_packet dc_format_packet pm_format_packet an_format_packet cd_format_packet ct_format_packet, f_Reader_init, PySem.W.fnOf "__init__" "Reader.__init__" (defArgs s_Reader_init) (defBody s_Reader_init) (defScope s_Reader_init) .none kV_Reader_init dc_Reader_init pm_Reader_init an_Reader_init cd_Reader_init ct_Reader_init, f_Reader_head, PySem.W.fnOf "head" "Reader.head" (defArgs s_Reader_head) (defBody s_Reader_head) (defScope s_Reader_head) .none kV_Reader_head dc_Reader_head pm_Reader_head an_Reader_head cd_Reader_head ct_Reader_head, f_Reader_fail, PySem.W.fnOf "fail" "Reader.fail" (defArgs s_Reader_fail) (defBody s_Reader_fail) (defScope s_Reader_fail) .none kV_Reader_fail dc_Reader_fail pm_Reader_fail an_Reader_fail cd_Reader_fail ct_Reader_fail, f_Reader_need, PySem.W.fnOf "need" "Reader.need" (defArgs s_Reader_need) (defBody s_Reader_need) (defScope s_Reader_need) .none kV_Reader_need dc_Reader_need pm_Reader_need an_Reader_need cd_Reader_need ct_Reader_need, f_Reader_number, PySem.W.fnOf "number" "Reader.number" (defArgs s_Reader_number) (defBody s_Reader_number) (defScope s_Reader_number) .none kV_Reader_number dc_Reader_number pm_Reader_number an_Reader_number cd_Reader_number ct_Reader_number, f_Reader_named, PySem.W.fnOf "named" "Reader.named" (defArgs s_Reader_named) (defBody s_Reader_named) (defScope s_Reader_named) .none kV_Reader_named dc_Reader_named pm_Reader_named an_Reader_named cd_Reader_named ct_Reader_named, f_parse_packet, PySem.W.fnOf "parse_packet" "parse_packet" (defArgs s_parse_packet) (defBody s_parse_packet) (defScope s_parse_packet) .none kV_parse_packet dc_parse_packet pm_parse_packet an_parse_packet cd_parse_packet ct_parse_packet, f_law_begin, PySem.W.fnOf "_law_begin" "_law_begin" (defArgs s_law_begin) (defBody s_law_begin) (defScope s_law_begin) .none kV_law_begin dc_law_begin pm_law_begin an_law_begin cd_law_begin ct_law_begin, f_law_take, PySem.W.fnOf "_law_take" "_law_take" (defArgs s_law_take) (defBody s_law_take) (defScope s_law_take) .none kV_law_take dc_law_take pm_law_take an_law_take cd_law_take ct_law_take, f_law_pick, PySem.W.fnOf "_law_pick" "_law_pick" (defArgs s_law_pick) (defBody s_law_pick) (defScope s_law_pick) .none kV_law_pick dc_law_pick pm_law_pick an_law_pick cd_law_pick ct_law_pick, f_law_octets, PySem.W.fnOf "_law_octets" "_law_octets" (defArgs s_law_octets) (defBody s_law_octets) (defScope s_law_octets) .none kV_law_octets dc_law_octets pm_law_octets an_law_octets cd_law_octets ct_law_octets, f_law_packet, PySem.W.fnOf "_law_packet" "_law_packet" (defArgs s_law_packet) (defBody s_law_packet) (defScope s_law_packet) .none kV_law_packet dc_law_packet pm_law_packet an_law_packet cd_law_packet ct_law_packet, f_law_packed, PySem.W.fnOf "_law_packed" "_law_packed" (defArgs s_law_packed) (defBody s_law_packed) (defScope s_law_packed) .none kV_law_packed dc_law_packed pm_law_packed an_law_packed cd_law_packed ct_law_packed, f_law_text, PySem.W.fnOf "_law_text" "_law_text" (defArgs s_law_text) (defBody s_law_text) (defScope s_law_text) .none kV_law_text dc_law_text pm_law_text an_law_text cd_law_text ct_law_text, f_law_read, PySem.W.fnOf "_law_read" "_law_read" (defArgs s_law_read) (defBody s_law_read) (defScope s_law_read) .none kV_law_read dc_law_read pm_law_read an_law_read cd_law_read ct_law_read, fa, PySem.W.fnOf "law" "law" (defArgs s_law) (defBody s_law) (defScope s_law) .none kV_law dc_law pm_law an_law cd_law ct_law, c_TextError, c_Reader, cc_TextError, ca_TextError, ga_KINDS⟩ := ⟨X_TextError, ⟨F_two_octets, PySem.W.mg_of X G a_two_octets, p_two_octets, b_two_octets⟩, ⟨F_number_of, PySem.W.mg_of X G a_number_of, p_number_of, b_number_of⟩, ⟨F_sum16, PySem.W.mg_of X G a_sum16, p_sum16, b_sum16⟩, ⟨F_packed, PySem.W.mg_of X G a_packed, p_packed, b_packed⟩, ⟨F_unpacked, PySem.W.mg_of X G a_unpacked, p_unpacked, b_unpacked⟩, ⟨F_format_packet, PySem.W.mg_of X G a_format_packet, p_format_packet, b_format_packet⟩, ⟨F_Reader_init, ⟨a_Reader_init, i_Reader_init, p_Reader_init⟩, b_Reader_init⟩, ⟨F_Reader_head, ⟨a_Reader_head, i_Reader_head, p_Reader_head⟩, b_Reader_head⟩, ⟨F_Reader_fail, ⟨a_Reader_fail, i_Reader_fail, p_Reader_fail⟩, b_Reader_fail⟩, ⟨F_Reader_need, ⟨a_Reader_need, i_Reader_need, p_Reader_need⟩, b_Reader_need⟩, ⟨F_Reader_number, ⟨a_Reader_number, i_Reader_number, p_Reader_number⟩, b_Reader_number⟩, ⟨F_Reader_named, ⟨a_Reader_named, i_Reader_named, p_Reader_named⟩, b_Reader_named⟩, ⟨F_parse_packet, PySem.W.mg_of X G a_parse_packet, p_parse_packet, b_parse_packet⟩, ⟨F_law_begin, PySem.W.mg_of X G a_law_begin, p_law_begin, b_law_begin⟩, ⟨F_law_take, PySem.W.mg_of X G a_law_take, p_law_take, b_law_take⟩, ⟨F_law_pick, PySem.W.mg_of X G a_law_pick, p_law_pick, b_law_pick⟩, ⟨F_law_octets, PySem.W.mg_of X G a_law_octets, p_law_octets, b_law_octets⟩, ⟨F_law_packet, PySem.W.mg_of X G a_law_packet, p_law_packet, b_law_packet⟩, ⟨F_law_packed, PySem.W.mg_of X G a_law_packed, p_law_packed, b_law_packed⟩, ⟨F_law_text, PySem.W.mg_of X G a_law_text, p_law_text, b_law_text⟩, ⟨F_law_read, PySem.W.mg_of X G a_law_read, p_law_read, b_law_read⟩, ⟨F_law, PySem.W.mg_of X G a_law, p_law, b_law⟩, C_Reader, PySem.W.mg_none_of X G z_range, PySem.W.mg_none_of X G z_len, PySem.W.mg_none_of X G z_tuple, PySem.W.mg_none_of X G z_super, PySem.W.mg_none_of X G z_str, PySem.W.mg_none_of X G z_all, PySem.W.mg_none_of X G z_int, PySem.W.mg_none_of X G z_list, PySem.W.mg_none_of X G z_abs, ⟨_, PySem.W.mg_of X G gv_MOST, ⟨_, rfl⟩⟩, ⟨_, PySem.W.mg_of X G gv_KINDS, rfl⟩, fun _ => .inr ⟨_, _, _, gl_KINDS, gk_KINDS, rfl, gz_KINDS, gw_KINDS⟩, ⟨_, gl_KINDS, gk_KINDS, rfl⟩, ⟨_, PySem.W.mg_of X G gv_HEAD, ⟨_, rfl⟩⟩, ⟨_, PySem.W.mg_of X G gv_MOST_BODY, ⟨_, rfl⟩⟩, ⟨_, PySem.W.mg_of X G gv_DIGITS, ⟨_, rfl⟩⟩, ⟨_, PySem.W.mg_of X G gv_MOST_OCTET, ⟨_, rfl⟩⟩, ⟨_, PySem.W.mg_of X G gv_MOST_NUMBER, ⟨_, rfl⟩⟩⟩
  exact ⟨_, fun s v => .of_eq rfl, fun base _ _ => ok_law T⟩
theorem walk {l : PySem.W.OpenLaw} {q : Program} {loose : List Str} {XP : (Str → Option Value) → Heap → Prop} {YP : World → Heap → Prop} {d : DefRec} {K : Params → PySem.W.Frag} (hn : l.most = some 63) (hdf : d.params.defaults = [])
    (hY : ∀ (w : World) (h : Heap), YP w h → (K w.params).In h)
    (F : ∀ (w : World) (mg : Str → Option Value) (fa : Addr) (h : Heap), (K w.params).In h → h.Ns mainGlobals mg → mg d.name = some (.ref fa) →
      ∃ fd : FuncData, (∀ (s : Shared) (u : Value), BindsTo s fd ⟨[u], []⟩ [("script", u)]) ∧ ∀ base : Heap, (K w.params).In base → base.Ns mainGlobals mg → FnOk l.prog w (K w.params) mg base CX0 8 fa fd ["script"] (spLaw (K w.params))) :
    PySem.W.WalkO q loose XP YP l.row.toRowW d [] (fun f vs => PySem.call f vs) :=
  L2.walk_of (n := 63) (k := 8) (x := "script") (CX := fun _ => CX0) (sp := fun w => spLaw (K w.params)) hn (by decide) hdf ⟨rfl, by decide, by decide⟩ hY F (fun _ _ a ns hl _ hS => ⟨a, ns, rfl, hS, hl, fun _ => rfl⟩) fun _ _ _ _ _ z => z
end Eo03
open PySem PySem.W PyProof.Rows
set_option maxRecDepth 100000 in
set_option maxHeartbeats 0 in
theorem PySem.Challenge.cw_everyoctetonce_k03_packets_holds : PySem.Challenge.rw_everyoctetonce_k03_packets.Holds := by
  w_on; o_law; k_head; (case hw => w_witness2)
  k_fill
  refine Eo03.walk (l := PySem.Challenge.rw_everyoctetonce_k03_packets) rfl rfl (fun w h Y => PySem.W.kIn_of Y) ?F
  case F =>
    intro w mg fa h KX G hmg
    refine' Eo03.all_mk KX G hmg ?aC_TextError ?aC_Reader ?a_two_octets ?l_two_octets ?k_two_octets ?p_two_octets ?a_number_of ?l_number_of ?k_number_of ?p_number_of ?a_sum16 ?l_sum16 ?k_sum16 ?p_sum16 ?a_packed ?l_packed ?k_packed ?p_packed ?a_unpacked ?l_unpacked ?k_unpacked ?p_unpacked ?a_TextError_init ?ti_TextError_init ?l_TextError_init ?k_TextError_init ?co_TextError ?cv_TextError ?cf_TextError ?ce_TextError ?xl_TextError ?xr_TextError ?sa_TextError ?eb_TextError ?ty_TextError ?kp_TextError ?mr_TextError ?tp_TextError ?oq_TextError ?si_TextError ?ve_TextError ?ga_TextError ?gg_TextError ?hd_TextError ?ic_TextError ?sc_TextError ?n_TextError_code ?n_TextError_at ?a_format_packet ?l_format_packet ?k_format_packet ?p_format_packet ?a_Reader_init ?i_Reader_init ?l_Reader_init ?k_Reader_init ?p_Reader_init ?a_Reader_head ?i_Reader_head ?l_Reader_head ?k_Reader_head ?p_Reader_head ?a_Reader_fail ?i_Reader_fail ?l_Reader_fail ?k_Reader_fail ?p_Reader_fail ?a_Reader_need ?i_Reader_need ?l_Reader_need ?k_Reader_need ?p_Reader_need ?a_Reader_number ?i_Reader_number ?l_Reader_number ?k_Reader_number ?p_Reader_number ?a_Reader_named ?i_Reader_named ?l_Reader_named ?k_Reader_named ?p_Reader_named ?a_parse_packet ?l_parse_packet ?k_parse_packet ?p_parse_packet ?a_law_begin ?l_law_begin ?k_law_begin ?p_law_begin ?a_law_take ?l_law_take ?k_law_take ?p_law_take ?a_law_pick ?l_law_pick ?k_law_pick ?p_law_pick ?a_law_octets ?l_law_octets ?k_law_octets ?p_law_octets ?a_law_packet ?l_law_packet ?k_law_packet ?p_law_packet ?a_law_packed ?l_law_packed ?k_law_packed ?p_law_packed ?a_law_text ?l_law_text ?k_law_text ?p_law_text ?a_law_read ?l_law_read ?k_law_read ?p_law_read ?a_law ?l_law ?k_law ?p_law ?pg_Reader ?hd_Reader ?po_Reader ?sa_Reader ?mk_Reader ?kp_Reader ?n_Reader_words ?n_Reader_at ?z_range ?z_len ?z_tuple ?z_super ?z_str ?z_all ?z_int ?z_list ?z_abs ?gv_MOST ?gv_KINDS ?gl_KINDS ?gk_KINDS ?gz_KINDS ?gw_KINDS ?gv_HEAD ?gv_MOST_BODY ?gv_DIGITS ?gv_MOST_OCTET ?gv_MOST_NUMBER
    (case aC_TextError => k_is)
    (case aC_Reader => k_is)
    (case a_two_octets => k_is)
    (case l_two_octets => k_is)
    (case k_two_octets => k_is)
    (case p_two_octets => k_is)
    (case a_number_of => k_is)
    (case l_number_of => k_is)
    (case k_number_of => k_is)
    (case p_number_of => k_is)
    (case a_sum16 => k_is)
    (case l_sum16 => k_is)
    (case k_sum16 => k_is)
    (case p_sum16 => k_is)
    (case a_packed => k_is)
    (case l_packed => k_is)
    (case k_packed => k_is)
    (case p_packed => k_is)
    (case a_unpacked => k_is)
    (case l_unpacked => k_is)
    (case k_unpacked => k_is)
    (case p_unpacked => k_is)
    (case a_TextError_init => k_is)
    (case ti_TextError_init => k_is)
    (case l_TextError_init => k_is)
    (case k_TextError_init => k_is)
    (case co_TextError => k_is)
    (case cv_TextError => rfl)
    (case cf_TextError => decide +kernel)
    (case ce_TextError => k_is)
    (case xl_TextError => k_is)
    (case xr_TextError => decide +kernel)
    (case sa_TextError => k_is)
    (case eb_TextError => k_is)
    (case ty_TextError => k_is)
    (case kp_TextError => k_is)
    (case mr_TextError => first | rfl | k_is)
    (case tp_TextError => decide +kernel)
    (case oq_TextError => k_is)
    (case si_TextError => first | ks_is | k_is | decide +kernel)
    (case ve_TextError => k_is)
    (case ga_TextError => k_is)
    (case gg_TextError => k_is)
    (case hd_TextError => k_is)
    (case ic_TextError => k_is)
    (case sc_TextError => first | rfl | k_is)
    (case n_TextError_code => k_is)
    (case n_TextError_at => k_is)
    (case a_format_packet => k_is)
    (case l_format_packet => k_is)
    (case k_format_packet => k_is)
    (case p_format_packet => k_is)
    (case a_Reader_init => k_is)
    (case i_Reader_init => k_is)
    (case l_Reader_init => k_is)
    (case k_Reader_init => k_is)
    (case p_Reader_init => k_is)
    (case a_Reader_head => k_is)
    (case i_Reader_head => k_is)
    (case l_Reader_head => k_is)
    (case k_Reader_head => k_is)
    (case p_Reader_head => k_is)
    (case a_Reader_fail => k_is)
    (case i_Reader_fail => k_is)
    (case l_Reader_fail => k_is)
    (case k_Reader_fail => k_is)
    (case p_Reader_fail => k_is)
    (case a_Reader_need => k_is)
    (case i_Reader_need => k_is)
    (case l_Reader_need => k_is)
    (case k_Reader_need => k_is)
    (case p_Reader_need => k_is)
    (case a_Reader_number => k_is)
    (case i_Reader_number => k_is)
    (case l_Reader_number => k_is)
    (case k_Reader_number => k_is)
    (case p_Reader_number => k_is)
    (case a_Reader_named => k_is)
    (case i_Reader_named => k_is)
    (case l_Reader_named => k_is)
    (case k_Reader_named => k_is)
    (case p_Reader_named => k_is)
    (case a_parse_packet => k_is)
    (case l_parse_packet => k_is)
    (case k_parse_packet => k_is)
    (case p_parse_packet => k_is)
    (case a_law_begin => k_is)
    (case l_law_begin => k_is)
    (case k_law_begin => k_is)
    (case p_law_begin => k_is)
    (case a_law_take => k_is)
    (case l_law_take => k_is)
    (case k_law_take => k_is)
    (case p_law_take => k_is)
    (case a_law_pick => k_is)
    (case l_law_pick => k_is)
    (case k_law_pick => k_is)
    (case p_law_pick => k_is)
    (case a_law_octets => k_is)
    (case l_law_octets => k_is)
    (case k_law_octets => k_is)
    (case p_law_octets => k_is)
    (case a_law_packet => k_is)
    (case l_law_packet => k_is)
    (case k_law_packet => k_is)
    (case p_law_packet => k_is)
    (case a_law_packed => k_is)
    (case l_law_packed => k_is)
    (case k_law_packed => k_is)
    (case p_law_packed => k_is)
    (case a_law_text => k_is)
    (case l_law_text => k_is)
    (case k_law_text => k_is)
    (case p_law_text => k_is)
    (case a_law_read => k_is)
    (case l_law_read => k_is)
    (case k_law_read => k_is)
    (case p_law_read => k_is)
    (case a_law => k_is)
    (case l_law => k_is)
    (case k_law => k_is)
    (case p_law => k_is)
    (case pg_Reader => k_is)
    (case hd_Reader => k_is)
    (case po_Reader => k_is)
    (case sa_Reader => k_is)
    (case mk_Reader => k_is)
    (case kp_Reader => k_is)
    (case n_Reader_words => k_is)
    (case n_Reader_at => k_is)
    (case z_range => k_is)
    (case z_len => k_is)
    (case z_tuple => k_is)
    (case z_super => k_is)
    (case z_str => k_is)
    (case z_all => k_is)
    (case z_int => k_is)
    (case z_list => k_is)
    (case z_abs => k_is)
    (case gv_MOST => k_is)
    (case gv_KINDS => k_is)
    (case gl_KINDS => k_is)
    (case gk_KINDS => rfl)
    (case gz_KINDS => rw [sizeLine_eq]; decide +kernel)
    (case gw_KINDS => exact (.cons ⟨_, rfl⟩ (.cons ⟨_, rfl⟩ (.cons ⟨_, rfl⟩ (.cons ⟨_, rfl⟩ .nil)))))
    (case gv_HEAD => k_is)
    (case gv_MOST_BODY => k_is)
    (case gv_DIGITS => k_is)
    (case gv_MOST_OCTET => k_is)
    (case gv_MOST_NUMBER => k_is)
#print axioms PySem.Challenge.cw_everyoctetonce_k03_packets_holds

