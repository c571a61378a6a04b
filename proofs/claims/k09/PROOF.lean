import PyProof.Rows.All
import Wide.All
import OpenK.AllK
import Wide.FinOn
import HandS.ForMost
import HandS.Wide
import HandS.Walk
import HandS.TupAny
import PySem.Challenge.RW_everyoctetonce_k09_segments
set_option Elab.async false
set_option linter.all false
set_option maxRecDepth 100000
set_option maxHeartbeats 8000000
set_option pp.maxSteps 250
namespace Eo09
open PySem L2
/-! ### frames -/
def Imm : HO → Bool
  | .tup _ => true
  | .frz _ (.tup _) => true
  | _ => false
/-- all that stood stands, but at the addresses of A; what never changes stands anyway -/
structure Ext (A : List Addr) (H H' : Hp) : Prop where
  keep : ∀ b o, H b = some o → b ∉ A → H' b = some o
  imm : ∀ b o, H b = some o → Imm o = true → H' b = some o
theorem Ext.refl {A : List Addr} (H : Hp) : Ext A H H := ⟨fun _ _ h _ => h, fun _ _ h _ => h⟩
theorem Ext.trans {A B C : List Addr} {H H1 H2 : Hp} (e : Ext A H H1) (f : Ext B H1 H2) (hA : ∀ x ∈ A, x ∈ C) (hB : ∀ x ∈ B, (∃ o, H x = some o) → x ∈ C) : Ext C H H2 :=
  ⟨fun b o h n => f.keep b o (e.keep b o h fun z => n (hA b z)) fun z => n (hB b z ⟨o, h⟩), fun b o h i => f.imm b o (e.imm b o h i) i⟩
theorem Ext.mono {A B : List Addr} {H H1 : Hp} (e : Ext A H H1) (h : ∀ x ∈ A, x ∈ B) : Ext B H H1 := ⟨fun b o q n => e.keep b o q fun z => n (h b z), e.imm⟩
theorem Ext.new {H : Hp} {p : Addr} {o : HO} (h : H p = none) : Ext [] H (upd H p o) :=
  ⟨fun b u e _ => by rw [upd_ne (ne_of_none e h)]; exact e, fun b u e _ => by rw [upd_ne (ne_of_none e h)]; exact e⟩
theorem Ext.wr {H : Hp} {p : Addr} {o u : HO} (h : H p = some o) (n : Imm o = false) : Ext [p] H (upd H p u) :=
  ⟨fun b v e z => by rw [upd_ne (fun q => z (by rw [q]; exact List.mem_singleton.mpr rfl))]; exact e, fun b v e i => by
    rw [upd_ne (fun q => by subst q; rw [h] at e; cases e; rw [n] at i; cases i)]; exact e⟩
theorem Ext.free {A : List Addr} {H H' : Hp} {p : Addr} (e : Ext A H H') (h : H' p = none) (n : p ∉ A) : H p = none := by
  cases q : H p with
  | none => rfl
  | some o => rw [e.keep p o q n] at h; cases h
theorem Ext.snoc {A C : List Addr} {H H1 H2 : Hp} (f : Ext A H1 H2) (e : Ext C H H1) (hA : ∀ x ∈ A, (∃ o, H x = some o) → x ∈ C) : Ext C H H2 := e.trans f (fun _ h => h) hA
theorem sub0 {H : Hp} {C : List Addr} : ∀ x ∈ ([] : List Addr), (∃ o, H x = some o) → x ∈ C := fun _ h => by cases h
theorem sub1 {H : Hp} {C : List Addr} {a : Addr} (m : a ∈ C) : ∀ x ∈ [a], (∃ o, H x = some o) → x ∈ C := fun x h _ => by rw [List.mem_singleton.mp h]; exact m
theorem sub1f {H : Hp} {C : List Addr} {a : Addr} (m : H a = none) : ∀ x ∈ [a], (∃ o, H x = some o) → x ∈ C := fun x h ⟨o, e⟩ => by rw [List.mem_singleton.mp h, m] at e; cases e
theorem subC {H : Hp} {C A : List Addr} {a : Addr} (m : a ∈ C) (r : ∀ x ∈ A, (∃ o, H x = some o) → x ∈ C) : ∀ x ∈ a :: A, (∃ o, H x = some o) → x ∈ C := fun x h z => by
  rcases List.mem_cons.mp h with q | q
  · rw [q]; exact m
  · exact r x q z
theorem subCf {H : Hp} {C A : List Addr} {a : Addr} (m : H a = none) (r : ∀ x ∈ A, (∃ o, H x = some o) → x ∈ C) : ∀ x ∈ a :: A, (∃ o, H x = some o) → x ∈ C := fun x h z => by
  rcases List.mem_cons.mp h with q | q
  · obtain ⟨o, e⟩ := z
    rw [q, m] at e; cases e
  · exact r x q z
theorem nin0 {b : Addr} : b ∉ ([] : List Addr) := List.not_mem_nil
theorem nin1 {b x : Addr} (h : b ≠ x) : b ∉ [x] := fun z => h (List.mem_singleton.mp z)
theorem ninC {b x : Addr} {A : List Addr} (h : b ≠ x) (g : b ∉ A) : b ∉ (x :: A) := fun z => (List.mem_cons.mp z).elim h g
theorem Rd.ext {A : List Addr} {H H' : Hp} {a : Addr} {u : HO} (e : Ext A H H') (h : Rd H a u) (n : a ∉ A) : Rd H' a u := by
  rcases h with h | ⟨o, h⟩
  · exact .inl (e.keep _ _ h n)
  · exact .inr ⟨o, e.keep _ _ h n⟩
theorem sqT_ext {K : PySem.W.Frag} {A : List Addr} {H H' : Hp} {a : Addr} {xs : List V} (e : Ext A H H') (h : SqT K H a xs) : SqT K H' a xs := by
  rcases h with (h | ⟨o, h⟩) | h
  · exact .inl (.inl (e.imm _ _ h rfl))
  · exact .inl (.inr ⟨o, e.imm _ _ h rfl⟩)
  · exact .inr h
theorem sqL_ext {K : PySem.W.Frag} {A : List Addr} {H H' : Hp} {a : Addr} {xs : List V} (e : Ext A H H') (h : SqL K H a xs) (n : ∀ o, H a = some o → a ∉ A) : SqL K H' a xs := by
  rcases h with (h | ⟨o, h⟩) | h
  · exact .inl (.inl (e.keep _ _ h (n _ h)))
  · exact .inl (.inr ⟨o, e.keep _ _ h (n _ h)⟩)
  · exact .inr h
theorem sqT_cast {K : PySem.W.Frag} {H : Hp} {a : Addr} {xs ys : List V} (h : SqT K H a xs) (e : xs = ys) : SqT K H a ys := e ▸ h
theorem sqL_ext0 {K : PySem.W.Frag} {H H' : Hp} {a : Addr} {xs : List V} (e : Ext [] H H') (h : SqL K H a xs) : SqL K H' a xs := sqL_ext e h fun _ _ => nin0
/-- a new object o, its place any free one -/
def NewO (H : Hp) (o : HO) (R : Addr → Hp → Prop) : Prop := ∀ p H', H p = none → Ext [] H H' → H' p = some o → R p H'
theorem NewO.raw {H : Hp} {o : HO} {R : Addr → Hp → Prop} (h : NewO H o R) : ∀ p, H p = none → R p (upd H p o) := fun p hp => h p _ hp (Ext.new hp) upd_same
/-- a reading's end, weakened -/
def stA (t : TA) : TA := fun σ H Q => ∃ R : List V → Hp → Prop, t σ H R ∧ ∀ xs H', R xs H' → Q xs H'
def stE (t : TE) : TE := fun σ H Q => ∃ R : V → Hp → Prop, t σ H R ∧ ∀ x H', R x H' → Q x H'
theorem PA.star {X : Cx} {es : List Expr} {t : TA} (h : PA X es t) : PA X es (stA t) := by
  constructor
  rintro pos pn st sl hp R J ⟨R1, a, b⟩
  apply thn (h.run pos pn st sl hp R1 J a)
  rintro us s1 ⟨vs, H1, J1, rv, q⟩
  exact ⟨vs, H1, J1, rv, b _ _ q⟩
theorem PE.star {X : Cx} {e : Expr} {t : TE} (h : PE X e t) : PE X e (stE t) := by
  constructor
  rintro pn st sl hp R J ⟨R1, a, b⟩
  apply thn (h.run pn st sl hp R1 J a)
  rintro u s1 ⟨v, H1, J1, rv, q⟩
  exact ⟨v, H1, J1, rv, b _ _ q⟩
def stG (g : TG) : TG := fun v σ H Q => ∃ R : L2.St → Hp → Prop, g v σ H R ∧ ∀ a b, R a b → Q a b
def stT (t : TT) : TT := fun σ H Q => ∃ R : Bool → Hp → Prop, t σ H R ∧ ∀ a b, R a b → Q a b
theorem PG.star {X : Cx} {e : Expr} {g : TG} (h : PG X e g) : PG X e (stG g) := by
  constructor
  rintro pn st sl hp v u Q J rv ⟨R, a, b⟩
  apply thn (h.run pn st sl hp v u R J rv a)
  rintro _ s1 ⟨sl1, H1, J1, q⟩
  exact ⟨sl1, H1, J1, b _ _ q⟩
theorem PTs.star {X : Cx} {ifs : List Expr} {t : TT} (h : PTs X ifs t) : PTs X ifs (stT t) := by
  constructor
  rintro pn st sl hp Q J ⟨R, a, b⟩
  apply thn (h.run pn st sl hp R J a)
  rintro c s1 ⟨H1, J1, q⟩
  exact ⟨H1, J1, b _ _ q⟩
theorem stE.mono {t : TE} {σ : L2.St} {H : Hp} {Q R : V → Hp → Prop} (h : stE t σ H Q) (w : ∀ a b, Q a b → R a b) : stE t σ H R := let ⟨S, a, b⟩ := h; ⟨S, a, fun x y z => w _ _ (b x y z)⟩
theorem stG.mono {t : TG} {v : V} {σ : L2.St} {H : Hp} {Q R : L2.St → Hp → Prop} (h : stG t v σ H Q) (w : ∀ a b, Q a b → R a b) : stG t v σ H R := let ⟨S, a, b⟩ := h; ⟨S, a, fun x y z => w _ _ (b x y z)⟩
theorem stT.mono {t : TT} {σ : L2.St} {H : Hp} {Q R : Bool → Hp → Prop} (h : stT t σ H Q) (w : ∀ a b, Q a b → R a b) : stT t σ H R := let ⟨S, a, b⟩ := h; ⟨S, a, fun x y z => w _ _ (b x y z)⟩
/-- what a loop over J asks; what a list comprehension over J asks -/
def ForGoal (J : It) (g : TG) (tb : TS) (D : Ends) (σ : L2.St) (H : Hp) : Prop := ∃ W : Nat → Nat → L2.St → Hp → Prop, (∃ m, W 0 m σ H) ∧ ∀ i m σ H, W i m σ H →
  (J.stop i H ∧ D.nx σ H) ∨ (J.go i H ∧ ∃ N : L2.St → Hp → Prop, (∀ σ' H', N σ' H' → ∃ m', m' < m ∧ W (i + 1) m' σ' H') ∧ ∀ x H', J.yld i H x H' → g x σ H' fun σ2 H2 => tb { D with nx := N, ct := N, bk := D.nx } σ2 H2)
def LcGoal (J : It) (g : TG) (tt : TT) (te : TE) (vs : List Nat) (σ : L2.St) (H1 : Hp) (Q : VK) : Prop := ∀ D, H1 D = none → ∃ W : Nat → Nat → Hp → Prop, (∃ m, W 0 m (upd H1 D (.lst []))) ∧ ∀ i m H, W i m H →
  (J.stop i H ∧ Q (.ref D) H) ∨ (J.go i H ∧ ∃ Nx : Hp → Prop, (∀ H', Nx H' → ∃ m', m' < m ∧ W (i + 1) m' H') ∧ ∀ x H', J.yld i H x H' → g x (wipe σ vs) H' fun σ2 H2 => wipe σ2 vs = wipe σ vs ∧ tt σ2 H2 fun b H3 =>
    if b = true then te σ2 H3 fun y H4 => ∃ acc, H4 D = some (.lst acc) ∧ acc.length < sizeLine ∧ Nx (upd H4 D (.lst (acc ++ [y]))) else Nx H3)
theorem g_forW {J : It} {n : Nat} {G : Hp → Prop} {Y : Nat → Hp → V → Hp → Prop} (w : Walk J n G Y) {g : TG} {tb : TS} {D : Ends} {σ : L2.St} {H : Hp} (Pv : Nat → L2.St → Hp → Prop) (h0 : Pv 0 σ H) (hG : ∀ i σ H, i ≤ n → Pv i σ H → G H)
    (hs : ∀ i x σ H H', i < n → Pv i σ H → Y i H x H' → g x σ H' fun σ2 H2 => tb { D with nx := Pv (i + 1), ct := Pv (i + 1), bk := D.nx } σ2 H2) (hd : ∀ σ H, Pv n σ H → D.nx σ H) : ForGoal J g tb D σ H := for_it w Pv h0 hG hs hd
theorem g_lcW {J : It} {n : Nat} {G : Hp → Prop} {Y : Nat → Hp → V → Hp → Prop} (w : Walk J n G Y) {g : TG} {tt : TT} {te : TE} {vs : List Nat} {σ : L2.St} {H1 : Hp} {Q : VK} (Pv : Addr → Nat → Hp → List V → Prop)
    (h0 : ∀ D H', H1 D = none → Ext [] H1 H' → H' D = some (.lst []) → Pv D 0 H' []) (hG : ∀ D i H acc, i ≤ n → Pv D i H acc → G H)
    (hs : ∀ D i x H H' acc, i < n → Pv D i H acc → H D = some (.lst acc) → Y i H x H' → stG g x (wipe σ vs) H' fun σ2 H2 => wipe σ2 vs = wipe σ vs ∧ stT tt σ2 H2 fun b H3 =>
      if b = true then stE te σ2 H3 fun y H4 => H4 D = some (.lst acc) ∧ acc.length < sizeLine ∧ ∀ H5, Ext [D] H4 H5 → H5 D = some (.lst (acc ++ [y])) → Pv D (i + 1) H5 (acc ++ [y]) else Pv D (i + 1) H3 acc ∧ H3 D = some (.lst acc))
    (hd : ∀ D H acc, Pv D n H acc → H D = some (.lst acc) → Q (.ref D) H) : LcGoal J (stG g) (stT tt) (stE te) vs σ H1 Q := by
  intro D hD
  apply lc_it w (fun i H => ∃ acc, Pv D i H acc ∧ H D = some (.lst acc))
  · exact ⟨[], h0 D _ hD (Ext.new hD) upd_same, upd_same⟩
  · rintro i H hi ⟨acc, p, _⟩
    exact hG D i H acc hi p
  · rintro i x H H' hi ⟨acc, p, e⟩ y
    refine (hs D i x H H' acc hi p e y).mono fun σ2 H2 ⟨q1, q2⟩ => ⟨q1, q2.mono fun b H3 q3 => ?_⟩
    cases b with
    | true => exact stE.mono q3 fun z H4 ⟨a1, a2, a3⟩ => ⟨acc, a1, a2, acc ++ [z], a3 _ (Ext.wr a1 rfl) upd_same, upd_same⟩
    | false => exact ⟨acc, q3.1, q3.2⟩
  · rintro H ⟨acc, p, e⟩
    exact hd D H acc p e
theorem PE.weak {X : Cx} {e : Expr} {t t' : TE} (h : PE X e t) (w : ∀ σ H Q, t' σ H Q → t σ H Q) : PE X e t' := ⟨fun pn st sl hp R J a => h.run pn st sl hp R J (w _ _ _ a)⟩
theorem PS.weak {X : Cx} {e : Stmt} {t t' : TS} (h : PS X e t) (w : ∀ D σ H, t' D σ H → t D σ H) : PS X e t' := ⟨fun pn st sl hp R J a => h.run pn st sl hp R J (w _ _ _ a)⟩
/-- a statement that ends in J, whence the rest goes on -/
def tJoin (t u : TS) : TS := fun D σ H => ∃ J : L2.St → Hp → Prop, t { D with nx := J } σ H ∧ ∀ σ' H', J σ' H' → u D σ' H'
theorem pss_join {X : Cx} {st : Stmt} {rest : List Stmt} {t u : TS} (h1 : PS X st t) (h2 : PSs X rest u) : PSs X (st :: rest) (tJoin t u) := by
  constructor
  rintro pn s0 sl hp D J ⟨R, a, b⟩
  apply wpAny_execs_cons
  apply thn (h1.run pn s0 sl hp { D with nx := R } J a)
  intro f s1 q
  cases f with
  | next =>
    obtain ⟨sl2, hp2, J2, r⟩ := q
    exact h2.run pn s1 sl2 hp2 D J2 (b _ _ r)
  | ret v => exact q
  | brk => exact q
  | cont => exact q
/-! ### facts of the top -/
structure GF (K : PySem.W.Frag) (mg : Str → Option Value) (x : Str) (st : Stmt) (ps : List Str) (f : Addr) (fd : FuncData) : Prop where
  F : Fun K x x st f fd
  mg : mg x = some (.ref f)
  kp : PySem.W.keepIn K (.ref f) = true
  b : Binds K fd ps []
structure MF (K : PySem.W.Frag) (x q : Str) (st : Stmt) (ps : List Str) (C f : Addr) (fd : FuncData) : Prop where
  F : Fun K x q st f fd
  me : Meth K C x f
  b : Binds K fd ps []
def NA (K : PySem.W.Frag) (C : Addr) (ats : List Str) : Prop := ∀ x ∈ ats, NoAttr K C x
theorem na_of {K : PySem.W.Frag} {C : Addr} {ats : List Str} {f : Str} (h : NA K C ats) (m : f ∈ ats) : NoAttr K C f := h f m
structure CF (K : PySem.W.Frag) (mg : Str → Option Value) (x : Str) (ats : List Str) (C fi : Addr) : Prop where
  mg : mg x = some (.ref C)
  cl : Cls K C
  make : Mk K C fi
  na : NA K C ats
def GV (K : PySem.W.Frag) (mg : Str → Option Value) (x : Str) (v : V) : Prop := ∃ u, mg x = some u ∧ RelV v u
/-! ### rules that take several kinds of values -/
section
variable {X : Cx}
theorem pe_g {x : Str} {v : V} {pos : Pos} (hg : Gl X x) (h : GV X.K X.mg x v) (hd : (x == ("__debug__" : Str)) = false := by decide) : PE X (.Name x pos) (tC v) := by
  obtain ⟨u, h1, h2⟩ := h
  exact pe_glob hg h1 h2 hd
theorem OpR.or {f : Value → Value → Sem Value} {r r' : R2} (h : OpR X f r) (h' : OpR X f r') : OpR X f (fun x y H Q => r x y H Q ∨ r' x y H Q) := by
  intro pins s σ H x y v u Q I rx ry q
  rcases q with q | q
  · exact h pins s σ H x y v u Q I rx ry q
  · exact h' pins s σ H x y v u Q I rx ry q
/-- + of ints, texts, tuples, lists -/
def rAddX (K : PySem.W.Frag) : R2 := fun x y H Q => match x, y with
  | .int i, .int j => Q (.int (i + j)) H
  | .int i, .bl k => Q (.int (i + PyProof.Rows.b2i k)) H
  | .str i, .str j => i.length + j.length ≤ sizeLine ∧ Q (.str (i ++ j)) H
  | .ref a, .ref b => (∃ xs ys, SqT K H a xs ∧ SqT K H b ys ∧ xs.length + ys.length ≤ sizeLine ∧ ∀ c H', Ext [] H H' → SqT K H' c (xs ++ ys) → Q (.ref c) H') ∨
      ∃ xs ys, H a = some (.lst xs) ∧ H b = some (.lst ys) ∧ xs.length + ys.length ≤ sizeLine ∧ NewO H (.lst (xs ++ ys)) fun p H' => Q (.ref p) H'
  | _, _ => False
theorem o_add : OpR X (binaryOp .Add) (rAddX X.K) := by
  intro pins s σ H x y v u Q I rx ry h
  unfold rAddX at h
  split at h
  · exact op_add pins s σ H _ _ v u Q I rx ry ⟨_, _, rfl, rfl, h⟩
  · exact op_add_ib pins s σ H _ _ v u Q I rx ry ⟨_, _, rfl, rfl, h⟩
  · exact op_add_str pins s σ H _ _ v u Q I rx ry ⟨_, _, rfl, rfl, h.1, h.2⟩
  · rcases h with ⟨xs, ys, h1, h2, hz, q⟩ | ⟨xs, ys, h1, h2, hz, q⟩
    · refine op_catA pins s σ H _ _ v u Q I rx ry ⟨_, _, xs, ys, rfl, rfl, h1, h2, hz, fun e => ?_, fun _ e => ?_, fun _ _ p hp => ?_⟩
      · subst e; exact q _ _ (Ext.refl H) h2
      · subst e; exact q _ _ (Ext.refl H) (by rw [List.append_nil]; exact h1)
      · exact q _ _ (Ext.new hp) (SqT.of upd_same)
    · exact op_cat pins s σ H _ _ v u Q I rx ry ⟨_, _, xs, ys, rfl, rfl, h1, h2, hz, q.raw⟩
  · exact h.elim
/-- slices of tuples, lists, texts -/
def rSlX (K : PySem.W.Frag) : V → Option Int → Option Int → Hp → VK → Prop := fun x lo hi H Q => match x with
  | .ref a => (∃ xs, SqT K H a xs ∧ ∀ c H', Ext [] H H' → SqT K H' c (cutV xs lo hi) → Q (.ref c) H') ∨ ∃ xs, SqL K H a xs ∧ NewO H (.lst (cutV xs lo hi)) fun p H' => Q (.ref p) H'
  | .str z => z.length ≤ sizeLine ∧ Q (.str (cutS z lo hi)) H
  | _ => False
theorem cutV_whole {xs : List V} {lo hi : Option Int} (h : HT.sIx xs.length 0 lo = 0 ∧ HT.sIx xs.length xs.length hi = xs.length) : cutV xs lo hi = xs := by
  unfold cutV
  rw [h.1, h.2, List.drop_zero, Nat.sub_zero, List.take_length]
theorem o_sl : SlR X (rSlX X.K) := by
  intro pins s σ H x v vl vu lo hi sl Q I rx hs pl pu h
  unfold rSlX at h
  split at h
  · rcases h with ⟨xs, h1, q⟩ | ⟨xs, h1, q⟩
    · refine sl_tupA pins s σ H _ v vl vu lo hi sl Q I rx hs pl pu ⟨_, xs, rfl, h1, fun e => ?_, fun _ p hp => ?_⟩
      · exact q _ _ (Ext.refl H) (by rw [cutV_whole e]; exact h1)
      · exact q _ _ (Ext.new hp) (SqT.of upd_same)
    · exact sl_list pins s σ H _ v vl vu lo hi sl Q I rx hs pl pu ⟨_, xs, rfl, h1, q.raw⟩
  · exact sl_str pins s σ H _ v vl vu lo hi sl Q I rx hs pl pu ⟨_, rfl, h.1, h.2⟩
  · exact h.elim
theorem CMul.left {i j : Int} (h : -(2 ^ 64) < i ∧ i < 2 ^ 64) : CMul i j := .inl h
theorem CMul.right {i j : Int} (h : -(2 ^ 64) < j ∧ j < 2 ^ 64) : CMul i j := .inr h
def rMulX : R2 := fun x y H Q => match x, y with
  | .int i, .int j => CMul i j ∧ Q (.int (i * j)) H
  | _, _ => rRep x y H Q
theorem o_mul : OpR X (binaryOp .Mult) rMulX := by
  intro pins s σ H x y v u Q I rx ry h
  unfold rMulX at h
  split at h
  · exact op_mul pins s σ H _ _ v u Q I rx ry ⟨_, _, rfl, rfl, h.1, h.2⟩
  · exact op_rep pins s σ H _ _ v u Q I rx ry h
def rEqX (K : PySem.W.Frag) : R2 := fun x y H Q => rEq x y H Q ∨ rEqD K x y H Q
def rNeX (K : PySem.W.Frag) : R2 := fun x y H Q => rNe x y H Q ∨ rNeD K x y H Q
theorem o_eq (hu : X.A.units + 64 < cLine) : OpR X (compareOp .Eq) (rEqX X.K) := OpR.or op_eq (op_eqD hu)
theorem o_ne (hu : X.A.units + 64 < cLine) : OpR X (compareOp .NotEq) (rNeX X.K) := OpR.or op_ne (op_neD hu)
def rInt1 : List V → Hp → VK → Prop := fun xs H Q => match xs with
  | [.int i] => Q (.int i) H
  | [.bl k] => Q (.int (if k then 1 else 0)) H
  | _ => False
theorem o_int : CallR X (.type "int") rInt1 := by
  intro pins s σ H xs us Q I r h
  unfold rInt1 at h
  split at h
  · exact call_int1 pins s σ H _ us Q I r (.inl ⟨_, rfl, h⟩)
  · exact call_int1 pins s σ H _ us Q I r (.inr ⟨_, rfl, h⟩)
  · exact h.elim
def rMin2 : List V → Hp → VK → Prop := fun xs H Q => match xs with
  | [.int i, .int j] => Q (.int (min i j)) H
  | _ => False
def rMax2 : List V → Hp → VK → Prop := fun xs H Q => match xs with
  | [.int i, .int j] => Q (.int (max i j)) H
  | _ => False
theorem o_min (hc : X.calm = true) : CallR X (.builtin "min") rMin2 := by
  intro pins s σ H xs us Q I r h
  unfold rMin2 at h
  split at h
  · rename_i i j
    refine call_min2 hc pins s σ H _ us Q I r ⟨_, _, rfl, ?_⟩
    have e : (if j < i then j else i) = min i j := by split <;> omega
    rw [e]; exact h
  · exact h.elim
theorem o_max (hc : X.calm = true) : CallR X (.builtin "max") rMax2 := by
  intro pins s σ H xs us Q I r h
  unfold rMax2 at h
  split at h
  · rename_i i j
    refine call_max2 hc pins s σ H _ us Q I r ⟨_, _, rfl, ?_⟩
    have e : (if j > i then j else i) = max i j := by split <;> omega
    rw [e]; exact h
  · exact h.elim
def rAbs : List V → Hp → VK → Prop := fun xs H Q => match xs with
  | [.int i] => Q (.int (i.natAbs : Int)) H
  | _ => False
theorem o_abs : CallR X (.builtin "abs") rAbs := by
  intro pins s σ H xs us Q I r h
  unfold rAbs at h
  split at h
  · rename_i i
    refine call_abs pins s σ H _ us Q I r ⟨_, rfl, ?_⟩
    have e : (if i < 0 then -i else i) = (i.natAbs : Int) := by split <;> omega
    rw [e]; exact h
  · exact h.elim
def tTupX (t : TA) : TE := fun σ H Q => t σ H fun xs H1 => xs.length ≤ sizeLine ∧ NewO H1 (.tup xs) fun p H' => Q (.ref p) H'
def tLstX (t : TA) : TE := fun σ H Q => t σ H fun xs H1 => xs.length ≤ sizeLine ∧ NewO H1 (.lst xs) fun p H' => Q (.ref p) H'
theorem pe_tupX {es : List Expr} {t : TA} {k : Nat} {pos : Pos} (h : PA X es t) : PE X (.Tuple es k pos) (tTupX t) :=
  PE.weak (pe_tup (PA.star h)) fun _ _ _ q => ⟨_, q, fun _ _ ⟨l, n⟩ => ⟨l, n.raw⟩⟩
theorem pe_lstX {es : List Expr} {t : TA} {pos : Pos} (h : PA X es t) : PE X (.List es pos) (tLstX t) :=
  PE.weak (pe_lst (PA.star h)) fun _ _ _ q => ⟨_, q, fun _ _ ⟨l, n⟩ => ⟨l, n.raw⟩⟩
def rLenX (K : PySem.W.Frag) : List V → Hp → VK → Prop := fun xs H Q => match xs with
  | [.ref a] => (∃ ys, (SqL K H a ys ∨ SqT K H a ys) ∧ Q (.int ys.length) H) ∨ ∃ kvs, H a = some (.dK kvs) ∧ Q (.int kvs.length) H
  | [.str z] => z.length ≤ sizeLine ∧ Q (.int z.length) H
  | _ => False
theorem o_len : CallR X (.builtin "len") (rLenX X.K) := by
  intro pins s σ H xs us Q I r h
  unfold rLenX at h
  split at h
  · rcases h with ⟨ys, e, q⟩ | ⟨kvs, e, q⟩
    · exact call_len_seq pins s σ H _ us Q I r ⟨_, ys, rfl, e, q⟩
    · exact call_lenD pins s σ H _ us Q I r ⟨_, kvs, rfl, e, q⟩
  · exact call_len_str pins s σ H _ us Q I r ⟨_, rfl, h.1, h.2⟩
  · exact h.elim
def rListX (K : PySem.W.Frag) : List V → Hp → VK → Prop := fun xs H Q => match xs with
  | [.ref a] => ∃ ys, (SqL K H a ys ∨ SqT K H a ys) ∧ NewO H (.lst ys) fun p H' => Q (.ref p) H'
  | _ => False
theorem o_list : CallR X (.type "list") (rListX X.K) := by
  intro pins s σ H xs us Q I r h
  unfold rListX at h
  split at h
  · obtain ⟨ys, e, q⟩ := h
    exact call_list_of pins s σ H _ us Q I r ⟨_, ys, rfl, e, q.raw⟩
  · exact h.elim
def rTupX (K : PySem.W.Frag) : List V → Hp → VK → Prop := fun xs H Q => match xs with
  | [.ref a] => (∃ ys, SqL K H a ys ∧ NewO H (.tup ys) fun p H' => Q (.ref p) H') ∨ ∃ ys, SqT K H a ys ∧ Q (.ref a) H
  | _ => False
theorem o_tuple : CallR X (.type "tuple") (rTupX X.K) := by
  intro pins s σ H xs us Q I r h
  unfold rTupX at h
  split at h
  · rcases h with ⟨ys, e, q⟩ | ⟨ys, e, q⟩
    · exact call_tuple_of pins s σ H _ us Q I r ⟨_, ys, rfl, .inl ⟨e, q.raw⟩⟩
    · exact call_tuple_of pins s σ H _ us Q I r ⟨_, ys, rfl, .inr ⟨e, q⟩⟩
  · exact h.elim
theorem iop_catT : OpR X (inplaceOp .Add) (fun _ _ _ _ => False) := fun _ _ _ _ _ _ _ _ _ _ _ _ h => h.elim
def rIAddX : R2 := fun x y H Q => match x, y with
  | .int i, .int j => Q (.int (i + j)) H
  | .str i, .str j => i.length + j.length ≤ sizeLine ∧ Q (.str (i ++ j)) H
  | _, _ => False
theorem o_iadd : PIp X .Add rIAddX := by
  intro pins s σ H x y v u Q I rx ry h
  unfold rIAddX at h
  split at h
  · exact iop_add pins s σ H _ _ v u Q I rx ry ⟨_, _, rfl, rfl, h⟩
  · exact iop_add_str pins s σ H _ _ v u Q I rx ry ⟨_, _, rfl, rfl, h.1, h.2⟩
  · exact h.elim
theorem o_inadd : InOp X .Add rIAddX := fun pins s σ H x y u v Q I rx ry h => o_iadd pins s σ H x y u v Q I rx ry h
end
/-- C(..): as tMake, the new heap by what is known of it -/
def tMakeX (C : Addr) (sp : Sp) (dvs : List V) (E : XK) (t : TA) : TE := fun σ H Q => t σ H fun vs H1 => ∀ x dx H', H1 x = none → Ext [] H1 H' → H' x = some (.ins C dx []) →
  sp (.ref x :: (vs ++ dvs)) H' (fun v H2 => v = .non ∧ Q (.ref x) H2) E
theorem Ext.made {H : Hp} {x dx C : Addr} (h1 : H x = none) (h2 : H dx = none) : Ext [] H (upd (upd H dx (.own x)) x (.ins C dx [])) :=
  ⟨fun b o e _ => by rw [upd_ne (ne_of_none e h1), upd_ne (ne_of_none e h2)]; exact e, fun b o e _ => by rw [upd_ne (ne_of_none e h1), upd_ne (ne_of_none e h2)]; exact e⟩
section
variable {X : Cx} {CX : CXT} {k : Nat} {f C : Addr} {fd : FuncData} {ps : List Str} {sp : Sp} {dvs : List V} {ds : List Value} {E : XK} {x : Str} {p pos : Pos} {e : Expr} {es : List Expr} {t : TA}
theorem pe_makeX (M : Mk X.K C f) (F : FnOk X.prog X.w X.K X.mg X.base CX k f fd ps sp) (hr : Room (k + 1) X.A) (hg : Gl X x) (hm : X.mg x = some (.ref C)) (hb : Binds X.K fd ps ds) (hd : Vals dvs ds) (hx : Passes CX X E)
    (ha : PA X (e :: es) t) (hq : (x == ("__debug__" : Str)) = false := by decide) (he : starEach (e :: es) X.env = (false, eval e X.env) :: starEach es X.env := by rfl) (hl : (backTo pos (starEach es X.env)).any (·.1) = false := by rfl) :
    PE X (.Call (.Name x p) (e :: es) [] pos) (tMakeX C sp dvs E t) := by
  constructor
  intro pn st0 sl hp R J hh
  apply wpAny_Call_Name_kw
  apply ld_glob J hg hm (hd := hq)
  apply PySem.W.callWith_K (h₀ := X.base) J.ok.mod.kin M.kp _ he hl
  apply thn (ha.run pos pn st0 sl hp _ J hh)
  rintro us s1 ⟨vs, hp1, J1, rv, q⟩
  exact ⟨J1.kIn, run_make M F hr hb hd hx J1 rv fun x dx h1 h2 _ => q x dx _ h1 (Ext.made h1 h2) upd_same⟩
theorem pe_make0X (M : Mk X.K C f) (F : FnOk X.prog X.w X.K X.mg X.base CX k f fd ps sp) (hr : Room (k + 1) X.A) (hg : Gl X x) (hm : X.mg x = some (.ref C)) (hb : Binds X.K fd ps ds) (hd : Vals dvs ds) (hx : Passes CX X E)
    (hq : (x == ("__debug__" : Str)) = false := by decide) : PE X (.Call (.Name x p) [] [] pos) (tMakeX C sp dvs E tNil) := by
  constructor
  intro pn st0 sl hp R J hh
  apply wpAny_Call_Name_kw
  apply ld_glob J hg hm (hd := hq)
  exact PySem.W.callWith_K0 J.kIn M.kp (run_make (us := []) M F hr hb hd hx J .nil fun x dx h1 h2 _ => hh x dx _ h1 (Ext.made h1 h2) upd_same)
end
/-! ### slices by numbers -/
theorem cut_mid {xs : List V} {a b : Nat} (h1 : a ≤ b) (h2 : b ≤ xs.length) : cutV xs (some (a : Int)) (some (b : Int)) = (xs.drop a).take (b - a) := by
  unfold cutV
  rw [HT.sIx_nat, HT.sIx_nat, Nat.min_eq_left h2, Nat.min_eq_left (Nat.le_trans h1 h2)]
theorem cut_to {xs : List V} {b : Nat} : cutV xs none (some (b : Int)) = xs.take b := by
  unfold cutV
  rw [HT.sIx_nat, HT.sIx_none, List.drop_zero, Nat.sub_zero]
  by_cases h : b ≤ xs.length
  · rw [Nat.min_eq_left h]
  · rw [Nat.min_eq_right (by omega), List.take_of_length_le (Nat.le_refl _), List.take_of_length_le (by omega)]
theorem cut_from {xs : List V} {a : Nat} : cutV xs (some (a : Int)) none = xs.drop a := by
  unfold cutV
  rw [HT.sIx_nat, HT.sIx_none]
  by_cases h : a ≤ xs.length
  · rw [Nat.min_eq_left h, List.take_of_length_le (by rw [List.length_drop]; exact Nat.le_refl _)]
  · rw [Nat.min_eq_right (by omega), List.drop_of_length_le (Nat.le_refl _), List.drop_of_length_le (show xs.length ≤ a by omega)]
    simp
theorem sIx_neg {n d a : Nat} (h : 0 < a) : HT.sIx n d (some (-(a : Int))) = n - a := by
  show (if (-(a : Int)) < 0 then (-(a : Int) + (n : Int)).toNat else min (-(a : Int)).toNat n) = n - a
  rw [if_pos (by omega)]
  omega
theorem cut_negTo {xs : List V} {b : Nat} (h : 0 < b) : cutV xs none (some (-(b : Int))) = xs.take (xs.length - b) := by
  unfold cutV
  rw [sIx_neg h, HT.sIx_none, List.drop_zero, Nat.sub_zero]
theorem cut_negFrom {xs : List V} {a : Nat} (h : 0 < a) : cutV xs (some (-(a : Int))) none = xs.drop (xs.length - a) := by
  unfold cutV
  rw [sIx_neg h, HT.sIx_none, List.take_of_length_le (by rw [List.length_drop]; exact Nat.le_refl _)]
theorem cut_midU {xs : List V} {a b : Nat} : cutV xs (some (a : Int)) (some (b : Int)) = (xs.take b).drop a := by
  unfold cutV
  rw [HT.sIx_nat, HT.sIx_nat, List.drop_take]
  by_cases h : a ≤ xs.length
  · rw [Nat.min_eq_left h]
    by_cases h2 : b ≤ xs.length
    · rw [Nat.min_eq_left h2]
    · rw [Nat.min_eq_right (show xs.length ≤ b by omega), List.take_of_length_le (by rw [List.length_drop]; omega), List.take_of_length_le (by rw [List.length_drop]; omega)]
  · rw [Nat.min_eq_right (show xs.length ≤ a by omega), List.drop_of_length_le (Nat.le_refl _), List.drop_of_length_le (show xs.length ≤ a by omega)]
    simp
theorem cut_toL {xs : List V} {b : Nat} : cutV xs none (some (@OfNat.ofNat Int b instOfNat)) = xs.take b := cut_to
theorem cut_fromL {xs : List V} {b : Nat} : cutV xs (some (@OfNat.ofNat Int b instOfNat)) none = xs.drop b := cut_from
theorem cut_midL {xs : List V} {a b : Nat} : cutV xs (some (@OfNat.ofNat Int a instOfNat)) (some (@OfNat.ofNat Int b instOfNat)) = (xs.take b).drop a := cut_midU
theorem cut_negToL {xs : List V} {b : Nat} (h : 0 < b) : cutV xs none (some (-(@OfNat.ofNat Int b instOfNat))) = xs.take (xs.length - b) := cut_negTo h
theorem cut_negFromL {xs : List V} {b : Nat} (h : 0 < b) : cutV xs (some (-(@OfNat.ofNat Int b instOfNat))) none = xs.drop (xs.length - b) := cut_negFrom h
/-! ### steps of a reading -/
section
variable {K : PySem.W.Frag} {σ : St} {H : Hp} {Q : VK} {D : Ends} {t u : TS} {ta tb tc te : TE} {g : TG} {v : V}
theorem g_seq (h : t { D with nx := u D } σ H) : tSeq t u D σ H := h
theorem g_next (h : D.nx σ H) : tNext D σ H := h
theorem g_asg (h : te σ H fun x H1 => g x σ H1 D.nx) : tAsg te g D σ H := h
theorem g_name {i : Nat} {R : St → Hp → Prop} (h : R (σ.set i (some v)) H) : gName i v σ H R := h
theorem g_ret (h : te σ H D.rt) : tRet te D σ H := h
theorem g_retN (h : D.rt .non H) : tRetN D σ H := h
theorem g_drop (h : te σ H fun _ H1 => D.nx σ H1) : tDrop te D σ H := h
theorem g_brk (h : D.bk σ H) : tBreak D σ H := h
theorem g_cnt (h : D.ct σ H) : tCont D σ H := h
theorem g_ifS {c : TT} (h : c σ H fun b H1 => if b = true then t D σ H1 else u D σ H1) : tIfS c t u D σ H := h
theorem g_if {c : TT} (h : c σ H fun b H1 => if b = true then ta σ H1 Q else tb σ H1 Q) : tIf c ta tb σ H Q := h
theorem g_var {i : Nat} (e : σ[i]? = some (some v)) (h : Q v H) : tVar i σ H Q := ⟨v, e, h⟩
theorem g_C (h : Q v H) : tC v σ H Q := h
theorem g_op {r : R2} (h : ta σ H fun x H1 => tb σ H1 fun y H2 => r x y H2 Q) : tOp r ta tb σ H Q := h
theorem g_un {r : V → Hp → VK → Prop} (h : ta σ H fun x H1 => r x H1 Q) : tUn r ta σ H Q := h
theorem g_neg {i : Int} (h : Q (.int (-i)) H) : rU (fun i => .int (-i)) (.int i) H Q := ⟨_, rfl, h⟩
theorem g_rI {C : Int → Int → Prop} {f : Int → Int → V} {i j : Int} (c : C i j) (h : Q (f i j) H) : rI C f (.int i) (.int j) H Q := ⟨i, j, rfl, rfl, c, h⟩
theorem g_rI0 {f : Int → Int → V} {i j : Int} (h : Q (f i j) H) : rI0 f (.int i) (.int j) H Q := ⟨i, j, rfl, rfl, h⟩
theorem g_addI {i j : Int} (h : Q (.int (i + j)) H) : rAddX K (.int i) (.int j) H Q := h
theorem g_addT {a b : Addr} {xs ys : List V} (e : SqT K H a xs) (f : SqT K H b ys) (z : xs.length + ys.length ≤ sizeLine) (h : ∀ c H', Ext [] H H' → SqT K H' c (xs ++ ys) → Q (.ref c) H') : rAddX K (.ref a) (.ref b) H Q := .inl ⟨xs, ys, e, f, z, h⟩
theorem g_addL {a b : Addr} {xs ys : List V} (e : H a = some (.lst xs)) (f : H b = some (.lst ys)) (z : xs.length + ys.length ≤ sizeLine) (h : NewO H (.lst (xs ++ ys)) fun p H' => Q (.ref p) H') : rAddX K (.ref a) (.ref b) H Q := .inr ⟨xs, ys, e, f, z, h⟩
theorem g_sl {te' : TE} {tl th : TO} {r : V → Option Int → Option Int → Hp → VK → Prop} (h : te' σ H fun x H1 => tl σ H1 fun l H2 => th σ H2 fun u H3 => r x l u H3 Q) : tSl r te' tl th σ H Q := h
theorem g_noPart {R : Option Int → Hp → Prop} (h : R none H) : tNoPart σ H R := h
theorem g_part {R : Option Int → Hp → Prop} (h : te σ H fun x H1 => ∃ i, x = .int i ∧ R (some i) H1) : tPart te σ H R := h
theorem g_part' {i : Int} {R : Int → Prop} (h : R i) : ∃ i', V.int i = .int i' ∧ R i' := ⟨i, rfl, h⟩
theorem g_slT {a : Addr} {lo hi : Option Int} {xs ys : List V} (e : SqT K H a xs) (f : cutV xs lo hi = ys) (h : ∀ c H', Ext [] H H' → SqT K H' c ys → Q (.ref c) H') : rSlX K (.ref a) lo hi H Q := .inl ⟨xs, e, by rw [f]; exact h⟩
theorem g_slL {a : Addr} {lo hi : Option Int} {xs ys : List V} (e : SqL K H a xs) (f : cutV xs lo hi = ys) (h : NewO H (.lst ys) fun p H' => Q (.ref p) H') : rSlX K (.ref a) lo hi H Q := .inr ⟨xs, e, by rw [f]; exact h⟩
theorem g_slS {z : Str} {lo hi : Option Int} (e : z.length ≤ sizeLine) (h : Q (.str (cutS z lo hi)) H) : rSlX K (.str z) lo hi H Q := ⟨e, h⟩
theorem g_addS {i j : Str} (e : i.length + j.length ≤ sizeLine) (h : Q (.str (i ++ j)) H) : rAddX K (.str i) (.str j) H Q := ⟨e, h⟩
theorem g_mulI {i j : Int} (c : CMul i j) (h : Q (.int (i * j)) H) : rMulX (.int i) (.int j) H Q := ⟨c, h⟩
theorem g_iaddI {i j : Int} (h : Q (.int (i + j)) H) : rIAddX (.int i) (.int j) H Q := h
theorem g_divW {i j : Int} (h0 : 0 < j) (h1 : j < 2 ^ 64) (h : Q (.int (i / j)) H) : rI CDivW (fun i j => .int (i / j)) (.int i) (.int j) H Q :=
  ⟨i, j, rfl, rfl, wide_div (b := 64) h0 (by omega) (by decide) (by decide), h⟩
theorem g_mod {i j : Int} (h0 : 0 < j) (h : Q (.int (i % j)) H) : rI (fun _ j => 0 < j) (fun i j => .int (i % j)) (.int i) (.int j) H Q := ⟨i, j, rfl, rfl, h0, h⟩
theorem g_eq {x y : V} (e : scal x y = true) (h : Q (.bl (decide (x = y))) H) : rEqX K x y H Q := .inl ⟨e, h⟩
theorem g_ne {x y : V} (e : scal x y = true) (h : Q (.bl (!decide (x = y))) H) : rNeX K x y H Q := .inl ⟨e, h⟩
theorem g_isN {x : V} (h : Q (.bl (decide (x = .non))) H) : (fun x y H Q => y = V.non ∧ Q (.bl (decide (x = .non))) H : R2) x .non H Q := ⟨rfl, h⟩
theorem g_isN' {R : Prop} (h : R) : (V.non = V.non ∧ R) := ⟨rfl, h⟩
theorem g_test {t : TE} {R : Bool → Hp → Prop} (h : t σ H fun x H' => ∃ k, x = .bl k ∧ R k H') : tTest t σ H R := h
theorem g_bl {k : Bool} {R : Bool → Prop} (h : R k) : ∃ k', V.bl k = .bl k' ∧ R k' := ⟨k, rfl, h⟩
theorem g_tru {x : V} {k : Bool} {R : Bool → Prop} (e : TruV K x H k) (h : R k) : ∃ k', TruV K x H k' ∧ R k' := ⟨k, e, h⟩
theorem g_truB {b : Bool} : TruV K (.bl b) H b := rfl
theorem g_and {a b : TT} {R : Bool → Hp → Prop} (h : a σ H fun c H1 => if c = true then b σ H1 R else R false H1) : tAnd a b σ H R := h
theorem g_or {a b : TT} {R : Bool → Hp → Prop} (h : a σ H fun c H1 => if c = true then R true H1 else b σ H1 R) : tOr a b σ H R := h
theorem g_not {a : TT} {R : Bool → Hp → Prop} (h : a σ H fun c H1 => R (!c) H1) : tNot a σ H R := h
theorem g_chain {r r' : R2} (h : ta σ H fun x H1 => tb σ H1 fun y H2 => r x y H2 fun z H3 => ∃ k, z = .bl k ∧ (if k = true then tc σ H3 fun w' H4 => r' y w' H4 Q else Q (.bl false) H3)) : tChain r r' ta tb tc σ H Q := h
theorem g_andV (h : ta σ H fun x H1 => ∃ c, x = .bl c ∧ if c = true then tb σ H1 Q else Q (.bl false) H1) : tAndV ta tb σ H Q := h
theorem g_orV (h : ta σ H fun x H1 => ∃ c, x = .bl c ∧ if c = true then Q (.bl true) H1 else tb σ H1 Q) : tOrV ta tb σ H Q := h
theorem g_notV (h : ta σ H fun x H1 => ∃ c, x = .bl c ∧ Q (.bl (!c)) H1) : tNotV ta σ H Q := h
theorem g_inT {x : V} {p : Addr} {xs : List V} (e : SqT K H p xs) (f : flatV x = true) (g : xs.all flatV = true) (h : Q (.bl (inV x xs)) H) : rIn K false x (.ref p) H Q := ⟨p, xs, rfl, .inr e, f, g, h⟩
theorem g_inL {x : V} {p : Addr} {xs : List V} (e : SqL K H p xs) (f : flatV x = true) (g : xs.all flatV = true) (h : Q (.bl (inV x xs)) H) : rIn K false x (.ref p) H Q := ⟨p, xs, rfl, .inl e, f, g, h⟩
theorem g_ninT {x : V} {p : Addr} {xs : List V} (e : SqT K H p xs) (f : flatV x = true) (g : xs.all flatV = true) (h : Q (.bl (!inV x xs)) H) : rIn K true x (.ref p) H Q := ⟨p, xs, rfl, .inr e, f, g, h⟩
theorem g_ninL {x : V} {p : Addr} {xs : List V} (e : SqL K H p xs) (f : flatV x = true) (g : xs.all flatV = true) (h : Q (.bl (!inV x xs)) H) : rIn K true x (.ref p) H Q := ⟨p, xs, rfl, .inl e, f, g, h⟩
theorem g_nil {R : List V → Hp → Prop} (h : R [] H) : tNil σ H R := h
theorem g_cons {tr : TA} {R : List V → Hp → Prop} (h : te σ H fun x H1 => tr σ H1 fun xs H2 => R (x :: xs) H2) : tCons te tr σ H R := h
theorem g_CB {r : List V → Hp → VK → Prop} {ta : TA} (h : ta σ H fun vs H1 => r vs H1 Q) : tCB r ta σ H Q := h
theorem g_int1 {i : Int} (h : Q (.int i) H) : rInt1 [.int i] H Q := h
theorem g_int1b {k : Bool} (h : Q (.int (if k then 1 else 0)) H) : rInt1 [.bl k] H Q := h
theorem g_min2 {i j : Int} (h : Q (.int (min i j)) H) : rMin2 [.int i, .int j] H Q := h
theorem g_max2 {i j : Int} (h : Q (.int (max i j)) H) : rMax2 [.int i, .int j] H Q := h
theorem g_abs {i : Int} (h : Q (.int (i.natAbs : Int)) H) : rAbs [.int i] H Q := h
theorem g_new {n : Nat} {o : HO} {R : Addr → Hp → Prop} (e : n ≤ sizeLine) (h : NewO H o R) : n ≤ sizeLine ∧ NewO H o R := ⟨e, h⟩
theorem g_newO {o : HO} {R : Addr → Hp → Prop} (h : ∀ p H', H p = none → Ext [] H H' → H' p = some o → R p H') : NewO H o R := h
theorem g_tup {t : TA} (h : t σ H fun xs H1 => xs.length ≤ sizeLine ∧ NewO H1 (.tup xs) fun p H' => Q (.ref p) H') : tTupX t σ H Q := h
theorem g_lst {t : TA} (h : t σ H fun xs H1 => xs.length ≤ sizeLine ∧ NewO H1 (.lst xs) fun p H' => Q (.ref p) H') : tLstX t σ H Q := h
theorem g_ixL {p : Addr} {xs : List V} {i : Int} (e : SqL K H p xs) (a : atI xs i = some v) (h : Q v H) : rIx K (.ref p) (.int i) H Q := .inl ⟨p, xs, i, v, rfl, rfl, e, a, h⟩
theorem g_ixT {p : Addr} {xs : List V} {i : Int} (e : SqT K H p xs) (a : atI xs i = some v) (h : Q v H) : rIx K (.ref p) (.int i) H Q := .inr (.inl ⟨p, xs, i, v, rfl, rfl, e, a, h⟩)
theorem g_sub {to ti : TE} {s : TSet} {R : St → Hp → Prop} (h : to σ H fun o H1 => ti σ H1 fun i H2 => s o i v H2 fun H3 => R σ H3) : gSub to ti s v σ H R := h
theorem g_setL {p : Addr} {xs ys : List V} {k : Int} {j : Nat} {R : Hp → Prop} (e : H p = some (.lst xs)) (a : ixN xs.length k = some j) (l : xs.set j v = ys) (h : ∀ H', Ext [p] H H' → H' p = some (.lst ys) → R H') : rSetL (.ref p) (.int k) v H R :=
  ⟨p, xs, k, j, rfl, rfl, e, a, by rw [l]; exact h _ (Ext.wr e rfl) upd_same⟩
theorem g_ite {c : Bool} {A B : Prop} (h1 : c = true → A) (h2 : c = false → B) : if c = true then A else B := by
  cases c with
  | true => exact h1 rfl
  | false => exact h2 rfl
theorem g_iteDT {c : Bool} {A B : Prop} (e : c = true) (h : A) : if c = true then A else B := by rw [e]; exact h
theorem g_iteDF {c : Bool} {A B : Prop} (e : c = false) (h : B) : if c = true then A else B := by rw [e]; exact h
theorem g_iteIN {i : Int} {A B : Prop} (h : B) : if decide (V.int i = V.non) = true then A else B := by rw [decide_eq_false (by intro z; cases z)]; exact h
theorem g_iteRN {a : Addr} {A B : Prop} (h : B) : if decide (V.ref a = V.non) = true then A else B := by rw [decide_eq_false (by intro z; cases z)]; exact h
theorem g_iteSN {a : Str} {A B : Prop} (h : B) : if decide (V.str a = V.non) = true then A else B := by rw [decide_eq_false (by intro z; cases z)]; exact h
theorem g_iteNIN {i : Int} {A B : Prop} (h : A) : if (!decide (V.int i = V.non)) = true then A else B := by rw [decide_eq_false (by intro z; cases z)]; exact h
theorem g_iteNRN {i : Addr} {A B : Prop} (h : A) : if (!decide (V.ref i = V.non)) = true then A else B := by rw [decide_eq_false (by intro z; cases z)]; exact h
theorem g_iteT {A B : Prop} (h : A) : if true = true then A else B := h
theorem g_iteF {A B : Prop} (h : B) : if false = true then A else B := h
theorem g_fld {f : Str} (h : ta σ H fun x H1 => ∃ a C dx fs v, x = .ref a ∧ H1 a = some (.ins C dx fs) ∧ Cls K C ∧ NoAttr K C f ∧ fs.lookup f = some v ∧ Q v H1) : tFld K ta f σ H Q := h
theorem g_fld' {f : Str} {a C dx : Addr} {fs : List (Str × V)} (e : H a = some (.ins C dx fs)) (c : Cls K C) (n : NoAttr K C f) (l : fs.lookup f = some v) (h : Q v H) :
    ∃ a' C dx fs v, V.ref a = .ref a' ∧ H a' = some (.ins C dx fs) ∧ Cls K C ∧ NoAttr K C f ∧ fs.lookup f = some v ∧ Q v H := ⟨a, C, dx, fs, v, rfl, e, c, n, l, h⟩
theorem g_sfld {tv : TE} {f : Str} (h : tv σ H fun y H1 => ta σ H1 fun x H2 => ∃ a C dx fs, x = .ref a ∧ H2 a = some (.ins C dx fs) ∧ Cls K C ∧ NoAttr K C f ∧ fs.length < 1000 ∧ D.nx σ (upd H2 a (.ins C dx (putF f y fs)))) : sFld K ta tv f D σ H := h
theorem g_sfld' {f : Str} {a C dx : Addr} {fs fs' : List (Str × V)} {R : Hp → Prop} (e : H a = some (.ins C dx fs)) (c : Cls K C) (n : NoAttr K C f) (l : fs.length < 1000) (p : putF f v fs = fs') (h : ∀ H', Ext [a] H H' → H' a = some (.ins C dx fs') → R H') :
    ∃ a' C dx fs, V.ref a = .ref a' ∧ H a' = some (.ins C dx fs) ∧ Cls K C ∧ NoAttr K C f ∧ fs.length < 1000 ∧ R (upd H a' (.ins C dx (putF f v fs))) :=
  ⟨a, C, dx, fs, rfl, e, c, n, l, by rw [p]; exact h _ (Ext.wr e rfl) upd_same⟩
theorem g_sfa {tv : TE} {f : Str} {rd : V → V → Hp → VK → Prop} (h : ta σ H fun x H1 => ∃ a C dx fs v, x = .ref a ∧ H1 a = some (.ins C dx fs) ∧ Cls K C ∧ NoAttr K C f ∧ fs.lookup f = some v ∧
  tv σ H1 fun y H2 => rd v y H2 fun z H3 => ∃ dx' fs', H3 a = some (.ins C dx' fs') ∧ fs'.length < 1000 ∧ D.nx σ (upd H3 a (.ins C dx' (putF f z fs')))) : sFldAug K ta tv rd f D σ H := h
theorem g_sfa' {f : Str} {a C dx : Addr} {fs : List (Str × V)} {R : V → Addr → Addr → Hp → Prop} (e : H a = some (.ins C dx fs)) (c : Cls K C) (n : NoAttr K C f) (l : fs.lookup f = some v) (h : R v a C H) :
    ∃ a' C dx fs v, V.ref a = .ref a' ∧ H a' = some (.ins C dx fs) ∧ Cls K C ∧ NoAttr K C f ∧ fs.lookup f = some v ∧ R v a' C H := ⟨a, C, dx, fs, v, rfl, e, c, n, l, h⟩
theorem g_sfa'' {f : Str} {a C dx : Addr} {fs fs' : List (Str × V)} {R : Hp → Prop} (e : H a = some (.ins C dx fs)) (l : fs.length < 1000) (p : putF f v fs = fs') (h : ∀ H', Ext [a] H H' → H' a = some (.ins C dx fs') → R H') :
    ∃ dx' fs', H a = some (.ins C dx' fs') ∧ fs'.length < 1000 ∧ R (upd H a (.ins C dx' (putF f v fs'))) :=
  ⟨dx, fs, e, l, by rw [p]; exact h _ (Ext.wr e rfl) upd_same⟩
theorem g_call {sp : Sp} {dvs : List V} {E : XK} {t : TA} (h : t σ H fun vs H1 => sp (vs ++ dvs) H1 Q E) : tCall sp dvs E t σ H Q := h
theorem g_meth {C : Addr} {m : Str} {sp : Sp} {dvs : List V} {E : XK} {t : TA} (h : ta σ H fun x H1 => ∃ a dx fs, x = .ref a ∧ H1 a = some (.ins C dx fs) ∧ fs.lookup m = none ∧ t σ H1 fun vs H2 => sp (x :: (vs ++ dvs)) H2 Q E) : tMeth C m sp dvs E ta t σ H Q := h
theorem g_meth' {C a dx : Addr} {m : Str} {fs : List (Str × V)} {R : Hp → Prop} (e : H a = some (.ins C dx fs)) (l : fs.lookup m = none) (h : R H) : ∃ a' dx fs, V.ref a = .ref a' ∧ H a' = some (.ins C dx fs) ∧ fs.lookup m = none ∧ R H := ⟨a, dx, fs, rfl, e, l, h⟩
theorem g_make {C : Addr} {sp : Sp} {dvs : List V} {E : XK} {t : TA} (h : t σ H fun vs H1 => ∀ x dx H', H1 x = none → Ext [] H1 H' → H' x = some (.ins C dx []) → sp (.ref x :: (vs ++ dvs)) H' (fun v H2 => v = .non ∧ Q (.ref x) H2) E) : tMakeX C sp dvs E t σ H Q := h
theorem g_appd {te : TE} {t : TA} {r : V → List V → Hp → VK → Prop} {T : String} (h : te σ H fun x H1 => tyV K T x H1 ∧ t σ H1 fun xs H2 => r x xs H2 Q) : tBM K T r te t σ H Q := h
theorem g_bm0 {te : TE} {r : V → List V → Hp → VK → Prop} {T : String} (h : te σ H fun x H1 => tyV K T x H1 ∧ r x [] H1 Q) : tBM0 K T r te σ H Q := h
theorem g_tyL {a : Addr} {xs : List V} {R : Prop} (e : SqL K H a xs) (h : R) : tyV K "list" (.ref a) H ∧ R := ⟨.inl ⟨rfl, xs, e⟩, h⟩
theorem g_append {l : Addr} {xs : List V} {y : V} (e : H l = some (.lst xs)) (z : xs.length < sizeLine) (h : ∀ H', Ext [l] H H' → H' l = some (.lst (xs ++ [y])) → Q .non H') : rAppend (.ref l) [y] H Q :=
  ⟨l, xs, y, rfl, rfl, e, z, h _ (Ext.wr e rfl) upd_same⟩
theorem g_par {i j : Nat} {ta : TA} (h : ta σ H fun vs H1 => ∃ v w, vs = [v, w] ∧ D.nx ((σ.set i (some v)).set j (some w)) H1) : tPar i j ta D σ H := h
theorem g_par' {x y : V} {R : V → V → Prop} (h : R x y) : ∃ v w, [x, y] = [v, w] ∧ R v w := ⟨x, y, rfl, h⟩
theorem g_gtup {n : Nat} {tg : TGs} {a : Addr} {xs : List V} {R : St → Hp → Prop} (e : SqT K H a xs) (l : xs.length = n) (h : tg xs σ H R) : gTup K n tg (.ref a) σ H R := ⟨a, xs, rfl, e, l, h⟩
theorem g_gcons {t1 : TG} {tr : TGs} {x : V} {xs : List V} {R : St → Hp → Prop} (h : t1 x σ H fun σ' H' => tr xs σ' H' R) : gCons t1 tr (x :: xs) σ H R := ⟨x, xs, rfl, h⟩
theorem g_gnil {R : St → Hp → Prop} (h : R σ H) : gNil [] σ H R := ⟨rfl, h⟩
theorem g_aug {i : Nat} {ti : TIp} (e : σ[i]? = some (some v)) (h : te σ H fun y H1 => ti v y H1 fun z H2 => D.nx (σ.set i (some z)) H2) : tAug i te ti D σ H := ⟨v, e, h⟩
theorem g_listL {a : Addr} {xs : List V} (e : SqL K H a xs) (h : NewO H (.lst xs) fun p H' => Q (.ref p) H') : rListX K [.ref a] H Q := ⟨xs, .inl e, h⟩
theorem g_listT {a : Addr} {xs : List V} (e : SqT K H a xs) (h : NewO H (.lst xs) fun p H' => Q (.ref p) H') : rListX K [.ref a] H Q := ⟨xs, .inr e, h⟩
theorem g_tupL {a : Addr} {xs : List V} (e : SqL K H a xs) (h : NewO H (.tup xs) fun p H' => Q (.ref p) H') : rTupX K [.ref a] H Q := .inl ⟨xs, e, h⟩
theorem g_tupT {a : Addr} {xs : List V} (e : SqT K H a xs) (h : Q (.ref a) H) : rTupX K [.ref a] H Q := .inr ⟨xs, e, h⟩
theorem g_lenL {a : Addr} {xs : List V} (e : SqL K H a xs) (h : Q (.int xs.length) H) : rLenX K [.ref a] H Q := .inl ⟨xs, .inl e, h⟩
theorem g_lenT {a : Addr} {xs : List V} (e : SqT K H a xs) (h : Q (.int xs.length) H) : rLenX K [.ref a] H Q := .inl ⟨xs, .inr e, h⟩
theorem g_lenD {a : Addr} {kvs : List (Key × V)} (e : H a = some (.dK kvs)) (h : Q (.int kvs.length) H) : rLenX K [.ref a] H Q := .inr ⟨kvs, e, h⟩
theorem g_lenS {z : Str} (e : z.length ≤ sizeLine) (h : Q (.int z.length) H) : rLenX K [.str z] H Q := ⟨e, h⟩
theorem g_truL {a : Addr} {xs : List V} {R : Bool → Prop} (e : SqL K H a xs) (h : R (!xs.isEmpty)) : ∃ k, TruV K (.ref a) H k ∧ R k := ⟨_, .inl ⟨xs, e, rfl⟩, h⟩
theorem g_truT {a : Addr} {xs : List V} {R : Bool → Prop} (e : SqT K H a xs) (h : R (!xs.isEmpty)) : ∃ k, TruV K (.ref a) H k ∧ R k := ⟨_, .inr (.inl ⟨xs, e, rfl⟩), h⟩
theorem g_truD {a : Addr} {kvs : List (Key × V)} {R : Bool → Prop} (e : H a = some (.dK kvs)) (h : R (!kvs.isEmpty)) : ∃ k, TruV K (.ref a) H k ∧ R k := ⟨_, .inr (.inr ⟨kvs, e, rfl⟩), h⟩
theorem g_truBl {b : Bool} {R : Bool → Prop} (h : R b) : ∃ k, TruV K (.bl b) H k ∧ R k := ⟨b, rfl, h⟩
theorem g_truI {i : Int} {R : Bool → Prop} (h : R (i != 0)) : ∃ k, TruV K (.int i) H k ∧ R k := ⟨_, rfl, h⟩
theorem g_truN {R : Bool → Prop} (h : R false) : ∃ k, TruV K .non H k ∧ R k := ⟨_, rfl, h⟩
theorem g_for {wi : TI} {tb : TS} (h : wi σ H fun J H1 => ForGoal J g tb D σ H1) : tFor wi g tb D σ H := h
theorem g_lc {wi : TI} {tt : TT} {vs : List Nat} (h : wi σ H fun J H1 => LcGoal J g tt te vs σ H1 Q) : tLc wi g tt te vs σ H Q := h
theorem g_stE (h : te σ H Q) : stE te σ H Q := ⟨Q, h, fun _ _ z => z⟩
theorem g_stG {R : L2.St → Hp → Prop} (h : g v σ H R) : stG g v σ H R := ⟨R, h, fun _ _ z => z⟩
theorem g_stT {tt : TT} {R : Bool → Hp → Prop} (h : tt σ H R) : stT tt σ H R := ⟨R, h, fun _ _ z => z⟩
theorem g_yes {R : Bool → Hp → Prop} (h : R true H) : tYes σ H R := h
theorem g_iList {tl : TE} {R : It → Hp → Prop} (h : tl σ H fun x H1 => ∃ a, x = .ref a ∧ (∃ xs, SqL K H1 a xs) ∧ R (Itl K a) H1) : iList K tl σ H R := h
theorem g_iTup {tl : TE} {R : It → Hp → Prop} (h : tl σ H fun x H1 => ∃ a, x = .ref a ∧ (∃ xs, SqT K H1 a xs) ∧ R (Itt K a) H1) : iTup K tl σ H R := h
theorem g_iR1 {t : TA} {R : It → Hp → Prop} (h : t σ H fun vs H1 => ∃ j : Int, vs = [.int j] ∧ -(2 ^ 62) ≤ j ∧ j < 2 ^ 62 ∧ R (Itr 0 j.toNat) H1) : iRng1 t σ H R := h
theorem g_iR2 {t : TA} {R : It → Hp → Prop} (h : t σ H fun vs H1 => ∃ i j : Int, vs = [.int i, .int j] ∧ (-(2 ^ 62) ≤ i ∧ i < 2 ^ 62 ∧ -(2 ^ 62) ≤ j ∧ j < 2 ^ 62) ∧ R (Itr i (j - i).toNat) H1) : iRng2 t σ H R := h
theorem g_iR3 {t : TA} {R : It → Hp → Prop} (h : t σ H fun vs H1 => ∃ (i j c : Int) (n : Nat), vs = [.int i, .int j, .int c] ∧ RgC i j c n ∧ R (Itc i c n) H1) : iRng3 t σ H R := h
theorem g_itLf {tb : TS} {a : Addr} {xs : List V} (e : SqL K H a xs) (h : ForGoal (Itl K a) g tb D σ H) : ∃ a', V.ref a = .ref a' ∧ (∃ xs, SqL K H a' xs) ∧ ForGoal (Itl K a') g tb D σ H := ⟨a, rfl, ⟨xs, e⟩, h⟩
theorem g_itTf {tb : TS} {a : Addr} {xs : List V} (e : SqT K H a xs) (h : ForGoal (Itt K a) g tb D σ H) : ∃ a', V.ref a = .ref a' ∧ (∃ xs, SqT K H a' xs) ∧ ForGoal (Itt K a') g tb D σ H := ⟨a, rfl, ⟨xs, e⟩, h⟩
theorem g_itLl {tt : TT} {vs : List Nat} {a : Addr} {xs : List V} (e : SqL K H a xs) (h : LcGoal (Itl K a) g tt te vs σ H Q) : ∃ a', V.ref a = .ref a' ∧ (∃ xs, SqL K H a' xs) ∧ LcGoal (Itl K a') g tt te vs σ H Q := ⟨a, rfl, ⟨xs, e⟩, h⟩
theorem g_itTl {tt : TT} {vs : List Nat} {a : Addr} {xs : List V} (e : SqT K H a xs) (h : LcGoal (Itt K a) g tt te vs σ H Q) : ∃ a', V.ref a = .ref a' ∧ (∃ xs, SqT K H a' xs) ∧ LcGoal (Itt K a') g tt te vs σ H Q := ⟨a, rfl, ⟨xs, e⟩, h⟩
theorem g_itR1f {tb : TS} {j : Int} (h1 : -(2 ^ 62) ≤ j) (h2 : j < 2 ^ 62) (h : ForGoal (Itr 0 j.toNat) g tb D σ H) : ∃ j' : Int, [V.int j] = [.int j'] ∧ -(2 ^ 62) ≤ j' ∧ j' < 2 ^ 62 ∧ ForGoal (Itr 0 j'.toNat) g tb D σ H := ⟨j, rfl, h1, h2, h⟩
theorem g_itR1l {tt : TT} {vs : List Nat} {j : Int} (h1 : -(2 ^ 62) ≤ j) (h2 : j < 2 ^ 62) (h : LcGoal (Itr 0 j.toNat) g tt te vs σ H Q) : ∃ j' : Int, [V.int j] = [.int j'] ∧ -(2 ^ 62) ≤ j' ∧ j' < 2 ^ 62 ∧ LcGoal (Itr 0 j'.toNat) g tt te vs σ H Q := ⟨j, rfl, h1, h2, h⟩
theorem g_itR2f {tb : TS} {i j : Int} (h1 : -(2 ^ 62) ≤ i ∧ i < 2 ^ 62 ∧ -(2 ^ 62) ≤ j ∧ j < 2 ^ 62) (h : ForGoal (Itr i (j - i).toNat) g tb D σ H) : ∃ i' j' : Int, [V.int i, V.int j] = [.int i', .int j'] ∧ (-(2 ^ 62) ≤ i' ∧ i' < 2 ^ 62 ∧ -(2 ^ 62) ≤ j' ∧ j' < 2 ^ 62) ∧ ForGoal (Itr i' (j' - i').toNat) g tb D σ H := ⟨i, j, rfl, h1, h⟩
theorem g_itR2l {tt : TT} {vs : List Nat} {i j : Int} (h1 : -(2 ^ 62) ≤ i ∧ i < 2 ^ 62 ∧ -(2 ^ 62) ≤ j ∧ j < 2 ^ 62) (h : LcGoal (Itr i (j - i).toNat) g tt te vs σ H Q) : ∃ i' j' : Int, [V.int i, V.int j] = [.int i', .int j'] ∧ (-(2 ^ 62) ≤ i' ∧ i' < 2 ^ 62 ∧ -(2 ^ 62) ≤ j' ∧ j' < 2 ^ 62) ∧ LcGoal (Itr i' (j' - i').toNat) g tt te vs σ H Q := ⟨i, j, rfl, h1, h⟩
theorem g_itR3f {tb : TS} {i j c : Int} {n : Nat} (r : RgC i j c n) (h : ForGoal (Itc i c n) g tb D σ H) : ∃ (i' j' c' : Int) (n' : Nat), [V.int i, V.int j, V.int c] = [.int i', .int j', .int c'] ∧ RgC i' j' c' n' ∧ ForGoal (Itc i' c' n') g tb D σ H := ⟨i, j, c, n, rfl, r, h⟩
theorem g_itR3l {tt : TT} {vs : List Nat} {i j c : Int} {n : Nat} (r : RgC i j c n) (h : LcGoal (Itc i c n) g tt te vs σ H Q) : ∃ (i' j' c' : Int) (n' : Nat), [V.int i, V.int j, V.int c] = [.int i', .int j', .int c'] ∧ RgC i' j' c' n' ∧ LcGoal (Itc i' c' n') g tt te vs σ H Q := ⟨i, j, c, n, rfl, r, h⟩
theorem g_forL {tb : TS} {a : Addr} (xs : List V) (_ : SqL K H a xs) (Pv : Nat → L2.St → Hp → Prop) (h0 : Pv 0 σ H) (hl : ∀ i σ H, i ≤ xs.length → Pv i σ H → SqL K H a xs)
    (hs : ∀ i x σ H, xs[i]? = some x → Pv i σ H → g x σ H fun σ2 H2 => tb { D with nx := Pv (i + 1), ct := Pv (i + 1), bk := D.nx } σ2 H2) (hd : ∀ σ H, Pv xs.length σ H → D.nx σ H) : ForGoal (Itl K a) g tb D σ H := for_list Pv h0 hl hs hd
theorem g_forT {tb : TS} {a : Addr} (xs : List V) (Pv : Nat → L2.St → Hp → Prop) (h0 : Pv 0 σ H) (hl : ∀ i σ H, i ≤ xs.length → Pv i σ H → SqT K H a xs)
    (hs : ∀ i x σ H, xs[i]? = some x → Pv i σ H → g x σ H fun σ2 H2 => tb { D with nx := Pv (i + 1), ct := Pv (i + 1), bk := D.nx } σ2 H2) (hd : ∀ σ H, Pv xs.length σ H → D.nx σ H) : ForGoal (Itt K a) g tb D σ H := for_tup Pv h0 hl hs hd
theorem g_forR {tb : TS} {lo : Int} {n : Nat} (Pv : Nat → L2.St → Hp → Prop) (h0 : Pv 0 σ H)
    (hs : ∀ i σ H, i < n → Pv i σ H → g (.int (lo + i)) σ H fun σ2 H2 => tb { D with nx := Pv (i + 1), ct := Pv (i + 1), bk := D.nx } σ2 H2) (hd : ∀ σ H, Pv n σ H → D.nx σ H) : ForGoal (Itr lo n) g tb D σ H := for_range Pv h0 hs hd
end
theorem lk_hd {f : Str} {v : V} {r : List (Str × V)} : List.lookup f ((f, v) :: r) = some v := by simp [List.lookup]
theorem lk_tl {f g : Str} {v : V} {r : List (Str × V)} {o : Option V} (n : (f == g) = false) (h : List.lookup f r = o) : List.lookup f ((g, v) :: r) = o := by simp only [List.lookup, n]; exact h
theorem lk_nil {f : Str} : List.lookup f ([] : List (Str × V)) = none := rfl
theorem pf_nil {f : Str} {v : V} : putF f v [] = [(f, v)] := rfl
theorem pf_hd {f : Str} {v x : V} {r : List (Str × V)} : putF f v ((f, x) :: r) = (f, v) :: r := by simp [putF]
theorem pf_tl {f g : Str} {v x : V} {r r' : List (Str × V)} (n : (f == g) = false) (h : putF f v r = r') : putF f v ((g, x) :: r) = (g, x) :: r' := by
  have e : ¬ g = f := fun q => by rw [q, beq_self_eq_true] at n; cases n
  simp only [putF, if_neg e, h]
theorem ix_at {α : Type} {xs : List α} {i : Int} {v : α} (h : 0 ≤ i) (e : xs[i.toNat]? = some v) : atI xs i = some v := by
  have z : ((i.toNat : Nat) : Int) = i := Int.toNat_of_nonneg h
  rw [← z]; exact atI_nat e
theorem lt1000 {n : Nat} (h : Nat.blt n 1000 = true := by rfl) : n < 1000 := by
  have := Nat.le_of_ble_eq_true h
  omega
theorem leLine {n : Nat} (h : Nat.ble n 1000 = true := by rfl) : n ≤ sizeLine := Nat.le_trans (Nat.le_of_ble_eq_true h) (by decide)
/-! ### the stepping tactics, under names of our own -/
local macro_rules | `(tactic| walk_at "eo mem") => `(tactic| first | with_reducible exact List.mem_cons_self | ((with_reducible apply List.mem_cons_of_mem); walk_at "eo mem"))
local macro_rules | `(tactic| walk_at "eo lk") => `(tactic| first | with_reducible exact lk_hd | with_reducible exact lk_nil | ((with_reducible apply lk_tl); (decide +kernel); (walk_at "eo lk")))
local macro_rules | `(tactic| walk_at "eo pf") => `(tactic| first | with_reducible exact pf_hd | with_reducible exact pf_nil | ((with_reducible apply pf_tl); (decide +kernel); (walk_at "eo pf")))
local macro_rules | `(tactic| walk_at "eo fact") => `(tactic| first | with_reducible assumption | ((with_reducible apply Ext.keep); (with_reducible assumption); (walk_at "eo fact"); (walk_at "eo nin")))
local macro_rules | `(tactic| walk_at "eo nin") => `(tactic| first | with_reducible exact nin0 | ((with_reducible apply nin1); walk_at "eo ne") | ((with_reducible apply ninC); (walk_at "eo ne"); (walk_at "eo nin")) | with_reducible assumption)
local macro_rules | `(tactic| walk_at "eo ne") => `(tactic| first
  | with_reducible assumption
  | ((with_reducible apply Ne.symm); with_reducible assumption)
  | walk_at "eo ne2")
local macro_rules | `(tactic| walk_at "eo ne2") => `(tactic| first
  | ((with_reducible apply ne_of_none); rotate_left 1; (with_reducible assumption); (walk_at "eo fact"))
  | ((with_reducible apply Ne.symm); (with_reducible apply ne_of_none); rotate_left 1; (with_reducible assumption); (walk_at "eo fact"))
  | ((with_reducible apply ne_of); (with_reducible assumption); (walk_at "eo fact"); ((intro z; cases z)))
  | ((with_reducible apply Ne.symm); (with_reducible apply ne_of); (with_reducible assumption); (walk_at "eo fact"); ((intro z; cases z))))
local macro_rules | `(tactic| walk_at "eo sqT") => `(tactic| first | with_reducible assumption | ((with_reducible apply SqT.of); with_reducible assumption) | ((with_reducible apply sqT_ext); (with_reducible assumption); (walk_at "eo sqT")))
local macro_rules | `(tactic| walk_at "eo sqL") => `(tactic| first | with_reducible assumption | ((with_reducible apply SqL.of); with_reducible assumption) | ((with_reducible apply sqL_ext); (with_reducible assumption); (walk_at "eo sqL"); (intro _ _; walk_at "eo nin")))
local macro_rules | `(tactic| walk_at "eo at") => `(tactic| first | rfl | assumption | (apply ix_at; (first | omega | assumption); (first | assumption | rfl)))
local macro_rules | `(tactic| walk_at "eo set") => `(tactic| first | ((try simp only [List.set_cons_succ, List.set_cons_zero, Int.reduceToNat, List.length_cons, List.length_nil]); first | done | rfl) | rfl)
local macro_rules | `(tactic| walk_at "eo ext") => `(tactic| first | with_reducible assumption | with_reducible exact Ext.refl _ | ((with_reducible apply Ext.snoc); (with_reducible assumption); (walk_at "eo ext"); (walk_at "eo sub")))
local macro_rules | `(tactic| walk_at "eo sub") => `(tactic| first | with_reducible exact sub0 | ((with_reducible apply sub1); (walk_at "eo mem")) | ((with_reducible apply sub1f); (walk_at "eo free")) | ((with_reducible apply subC); (walk_at "eo mem"); (walk_at "eo sub")) | ((with_reducible apply subCf); (walk_at "eo free"); (walk_at "eo sub")))
local macro_rules | `(tactic| walk_at "eo free") => `(tactic| first | with_reducible assumption | ((with_reducible apply Ext.free); (with_reducible assumption); (walk_at "eo free"); (walk_at "eo nin")))
local macro_rules | `(tactic| walk_at "eo cut") => `(tactic| first | ((apply Eq.trans); (first | exact cut_midL | exact cut_toL | exact cut_fromL | exact cut_negToL (by decide) | exact cut_negFromL (by decide)); ((try simp only [List.take_succ_cons, List.take_zero, List.drop_succ_cons, List.drop_zero, List.length_cons, List.length_nil, Nat.reduceAdd, Nat.reduceSub]); first | done | rfl)) | rfl)
local macro_rules | `(tactic| walk_at "eo len") => `(tactic| first | exact leLine | (rw [sizeLine_eq]; simp only [List.length_append, List.length_cons, List.length_nil, List.length_map, List.length_take]; omega))
local macro_rules | `(tactic| walk_at "eo arith") => `(tactic| first | decide | omega)
local macro_rules | `(tactic| walk_at "eo mul") => `(tactic| first | (refine CMul.left ?_; first | decide | (constructor <;> omega)) | (refine CMul.right ?_; first | decide | (constructor <;> omega)))
local macro_rules | `(tactic| walk_at "eo step") => `(tactic| first
  | ((with_reducible apply g_var); (with_unfolding_all rfl))
  | with_reducible refine g_C ?_
  | with_reducible refine g_cons ?_
  | with_reducible refine g_nil ?_
  | with_reducible refine g_op ?_
  | with_reducible refine g_asg ?_
  | with_reducible refine g_name ?_
  | with_reducible refine g_seq ?_
  | with_reducible refine g_CB ?_
  | with_reducible refine g_bl ?_
  | with_reducible refine g_test ?_
  | with_reducible refine g_rI0 ?_
  | with_reducible refine g_addI ?_
  | ((with_reducible apply g_ixT); (walk_at "eo sqT"); (walk_at "eo at"))
  | ((with_reducible apply g_ixL); (walk_at "eo sqL"); (walk_at "eo at"))
  | ((with_reducible apply g_fld'); (walk_at "eo fact"); (with_reducible assumption); ((with_reducible apply na_of); (with_reducible assumption); (walk_at "eo mem")); (walk_at "eo lk"))
  | with_reducible refine g_fld ?_
  | with_reducible refine g_ret ?_
  | with_reducible refine g_ifS ?_
  | with_reducible refine g_iteIN ?_
  | ((with_reducible apply g_iteDT); (first | with_reducible assumption | decide))
  | ((with_reducible apply g_iteDF); (first | with_reducible assumption | decide))
  | with_reducible refine g_iteT ?_
  | with_reducible refine g_iteF ?_
  | with_reducible refine g_tup ?_
  | ((with_reducible apply g_new); (exact leLine))
  | ((with_reducible refine g_newO ?_); intro _ _ _ _ _)
  | with_reducible refine g_call ?_
  | ((with_reducible apply g_eq); (rfl))
  | with_reducible refine g_and ?_
  | with_reducible refine g_or ?_
  | ((with_reducible apply g_ne); (rfl))
  | ((with_reducible apply g_mulI); (walk_at "eo mul"))
  | ((with_reducible apply g_mod); (walk_at "eo arith"))
  | ((with_reducible apply g_divW); (walk_at "eo arith"); (walk_at "eo arith"))
  | with_reducible refine g_int1 ?_
  | with_reducible refine g_next ?_
  | with_reducible refine g_retN ?_
  | with_reducible refine g_drop ?_
  | with_reducible refine g_if ?_
  | with_reducible refine g_un ?_
  | with_reducible refine g_not ?_
  | with_reducible refine g_chain ?_
  | with_reducible refine g_andV ?_
  | with_reducible refine g_orV ?_
  | with_reducible refine g_notV ?_
  | ((with_reducible apply g_inT); (walk_at "eo sqT"); rfl; rfl)
  | ((with_reducible apply g_inL); (walk_at "eo sqL"); rfl; rfl)
  | ((with_reducible apply g_ninT); (walk_at "eo sqT"); rfl; rfl)
  | ((with_reducible apply g_ninL); (walk_at "eo sqL"); rfl; rfl)
  | with_reducible refine g_lst ?_
  | with_reducible refine g_iaddI ?_
  | ((with_reducible apply g_addT); (walk_at "eo sqT"); (walk_at "eo sqT"); (walk_at "eo len"); intro _ _ _ _)
  | ((with_reducible apply g_addL); (walk_at "eo fact"); (walk_at "eo fact"); (walk_at "eo len"))
  | with_reducible refine g_sl ?_
  | with_reducible refine g_noPart ?_
  | with_reducible refine g_part ?_
  | with_reducible refine g_part' ?_
  | ((with_reducible apply g_slT); (walk_at "eo sqT"); (walk_at "eo cut"); intro _ _ _ _)
  | ((with_reducible apply g_slL); (walk_at "eo sqL"); (walk_at "eo cut"))
  | with_reducible refine g_int1b ?_
  | with_reducible refine g_min2 ?_
  | with_reducible refine g_max2 ?_
  | with_reducible refine g_abs ?_
  | with_reducible refine g_isN' ?_
  | with_reducible refine g_neg ?_
  | with_reducible refine g_sub ?_
  | ((with_reducible apply g_setL); (walk_at "eo fact"); (walk_at "eo at"); (walk_at "eo set"); intro _ _ _)
  | with_reducible refine g_sfld ?_
  | ((with_reducible apply g_sfld'); (walk_at "eo fact"); (with_reducible assumption); ((with_reducible apply na_of); (with_reducible assumption); (walk_at "eo mem")); (exact lt1000); (walk_at "eo pf"); intro _ _ _)
  | with_reducible refine g_sfa ?_
  | ((with_reducible apply g_sfa'); (walk_at "eo fact"); (with_reducible assumption); ((with_reducible apply na_of); (with_reducible assumption); (walk_at "eo mem")); (walk_at "eo lk"))
  | ((with_reducible apply g_sfa''); (walk_at "eo fact"); (exact lt1000); (walk_at "eo pf"); intro _ _ _)
  | with_reducible refine g_meth ?_
  | ((with_reducible apply g_meth'); (walk_at "eo fact"); (walk_at "eo lk"))
  | with_reducible refine g_make ?_
  | ((with_reducible apply g_listL); (walk_at "eo sqL"))
  | ((with_reducible apply g_listT); (walk_at "eo sqT"))
  | ((with_reducible apply g_tupL); (walk_at "eo sqL"))
  | ((with_reducible apply g_tupT); (walk_at "eo sqT"))
  | ((with_reducible apply g_lenL); (walk_at "eo sqL"))
  | ((with_reducible apply g_lenT); (walk_at "eo sqT"))
  | ((with_reducible apply g_lenD); (walk_at "eo fact"))
  | ((with_reducible apply g_truL); (walk_at "eo sqL"))
  | ((with_reducible apply g_truT); (walk_at "eo sqT"))
  | ((with_reducible apply g_truD); (walk_at "eo fact"))
  | with_reducible refine g_truBl ?_
  | with_reducible refine g_truI ?_
  | with_reducible refine g_truN ?_
  | with_reducible refine g_appd ?_
  | with_reducible refine g_bm0 ?_
  | ((with_reducible apply g_tyL); (walk_at "eo sqL"))
  | ((with_reducible apply g_append); (walk_at "eo fact"); (walk_at "eo arith"); intro _ _ _)
  | with_reducible refine g_par ?_
  | with_reducible refine g_par' ?_
  | with_reducible refine g_gcons ?_
  | with_reducible refine g_gnil ?_
  | ((with_reducible apply g_gtup); (walk_at "eo sqT"); (with_unfolding_all rfl))
  | ((with_reducible apply g_aug); (with_unfolding_all rfl))
  | with_reducible refine g_for ?_
  | with_reducible refine g_iList ?_
  | with_reducible refine g_iTup ?_
  | with_reducible refine g_iR1 ?_
  | with_reducible refine g_iR2 ?_
  | with_reducible refine g_iR3 ?_
  | with_reducible refine g_lc ?_
  | with_reducible refine g_stE ?_
  | with_reducible refine g_stG ?_
  | with_reducible refine g_stT ?_
  | with_reducible refine g_yes ?_
  | ((with_reducible apply g_itLf); (walk_at "eo sqL"))
  | ((with_reducible apply g_itTf); (walk_at "eo sqT"))
  | ((with_reducible apply g_itLl); (walk_at "eo sqL"))
  | ((with_reducible apply g_itTl); (walk_at "eo sqT"))
  | ((with_reducible apply g_itR1f); (walk_at "eo arith"); (walk_at "eo arith"))
  | ((with_reducible apply g_itR1l); (walk_at "eo arith"); (walk_at "eo arith"))
  | ((with_reducible apply g_itR2f); (walk_at "eo arith"))
  | ((with_reducible apply g_itR2l); (walk_at "eo arith"))
  | with_reducible refine g_iteRN ?_
  | with_reducible refine g_iteSN ?_
  | with_reducible refine g_iteNIN ?_
  | with_reducible refine g_iteNRN ?_
  | with_reducible refine g_cnt ?_
  | with_reducible refine g_brk ?_)
local macro_rules | `(tactic| walk_at "eo go") => `(tactic| repeat (walk_at "eo step"))
local macro_rules | `(tactic| walk_at "eo init") => `(tactic| (dsimp only [cxOf, Cx.nox, Cx.wish, L2.start, List.map, List.length, List.replicate, List.cons_append, List.nil_append, Nat.reduceAdd, Nat.reduceSub]))
theorem dec_t {p : Prop} [Decidable p] (h : decide p = true) : p := of_decide_eq_true h
theorem dec_f {p : Prop} [Decidable p] (h : decide p = false) : ¬ p := of_decide_eq_false h
theorem vint {i j : Int} (h : V.int i = V.int j) : i = j := V.int.inj h
theorem mem_map_int {xs : List Int} {i : Nat} {x : V} (h : (xs.map V.int)[i]? = some x) : ∃ n, xs[i]? = some n ∧ x = .int n := by
  rw [List.getElem?_map] at h
  cases e : xs[i]? with
  | none => rw [e] at h; cases h
  | some n => rw [e] at h; exact ⟨n, rfl, (Option.some.inj h).symm⟩
def top (i : Nat) : Stmt := PySem.Challenge.pw_everyoctetonce_k09_segments.main.body.getD i (.Pass ⟨0, 0, 0, 0⟩)
abbrev s_two_octets : Stmt := top 2
theorem sc_two_octets : FnScope ["n"] ["n"] (defScope s_two_octets) := ⟨rfl, rfl, rfl, by decide +kernel, rfl, by decide +kernel, by decide +kernel⟩
abbrev s_four_octets : Stmt := top 3
theorem sc_four_octets : FnScope ["number"] ["number"] (defScope s_four_octets) := ⟨rfl, rfl, rfl, by decide +kernel, rfl, by decide +kernel, by decide +kernel⟩
abbrev s_number_of : Stmt := top 4
theorem sc_number_of : FnScope ["octets", "found", "own"] ["octets"] (defScope s_number_of) := ⟨rfl, rfl, rfl, by decide +kernel, rfl, by decide +kernel, by decide +kernel⟩
abbrev s_nearest : Stmt := top 5
theorem sc_nearest : FnScope ["wire", "known", "space", "found"] ["wire", "known", "space"] (defScope s_nearest) := ⟨rfl, rfl, rfl, by decide +kernel, rfl, by decide +kernel, by decide +kernel⟩
abbrev s_segment_octets : Stmt := top 13
theorem sc_segment_octets : FnScope ["segment", "source", "goal", "flags", "number", "ack", "window", "body"] ["segment"] (defScope s_segment_octets) := ⟨rfl, rfl, rfl, by decide +kernel, rfl, by decide +kernel, by decide +kernel⟩
abbrev s_segment_of : Stmt := top 14
theorem sc_segment_of : FnScope ["octets", "number", "ack"] ["octets"] (defScope s_segment_of) := ⟨rfl, rfl, rfl, by decide +kernel, rfl, by decide +kernel, by decide +kernel⟩
abbrev s_length_of : Stmt := top 15
theorem sc_length_of : FnScope ["segment"] ["segment"] (defScope s_length_of) := ⟨rfl, rfl, rfl, by decide +kernel, rfl, by decide +kernel, by decide +kernel⟩
abbrev s_near : Stmt := top 16
theorem sc_near : FnScope ["wire", "known"] ["wire", "known"] (defScope s_near) := ⟨rfl, rfl, rfl, by decide +kernel, rfl, by decide +kernel, by decide +kernel⟩
abbrev s_law_begin : Stmt := top 18
theorem sc_law_begin : FnScope ["script", "seed", "cell"] ["script"] (defScope s_law_begin) := ⟨rfl, rfl, rfl, by decide +kernel, rfl, by decide +kernel, by decide +kernel⟩
abbrev s_law_take : Stmt := top 19
theorem sc_law_take : FnScope ["d", "many", "small", "digit"] ["d", "many"] (defScope s_law_take) := ⟨rfl, rfl, rfl, by decide +kernel, rfl, by decide +kernel, by decide +kernel⟩
abbrev s_law_pick : Stmt := top 20
theorem sc_law_pick : FnScope ["d", "menu"] ["d", "menu"] (defScope s_law_pick) := ⟨rfl, rfl, rfl, by decide +kernel, rfl, by decide +kernel, by decide +kernel⟩
abbrev s_law_octets : Stmt := top 21
theorem sc_law_octets : FnScope ["d", "most", "k"] ["d", "most"] (defScope s_law_octets) := ⟨rfl, rfl, rfl, by decide +kernel, rfl, by decide +kernel, by decide +kernel⟩
abbrev s_law_four : Stmt := top 22
theorem sc_law_four : FnScope ["number", "found", "power"] ["number"] (defScope s_law_four) := ⟨rfl, rfl, rfl, by decide +kernel, rfl, by decide +kernel, by decide +kernel⟩
abbrev s_law : Stmt := top 23
theorem sc_law : FnScope ["script", "d", "flags", "whole", "numbers", "segment", "octets", "many", "space", "half", "known", "wire", "best", "turn", "own", "k"] ["script"] (defScope s_law) := ⟨rfl, rfl, rfl, by decide +kernel, rfl, by decide +kernel, by decide +kernel⟩
structure Adr where
  f_two_octets : Addr
  d_two_octets : FuncData
  f_four_octets : Addr
  d_four_octets : FuncData
  f_number_of : Addr
  d_number_of : FuncData
  f_nearest : Addr
  d_nearest : FuncData
  f_segment_octets : Addr
  d_segment_octets : FuncData
  f_segment_of : Addr
  d_segment_of : FuncData
  f_length_of : Addr
  d_length_of : FuncData
  f_near : Addr
  d_near : FuncData
  f_law_begin : Addr
  d_law_begin : FuncData
  f_law_take : Addr
  d_law_take : FuncData
  f_law_pick : Addr
  d_law_pick : FuncData
  f_law_octets : Addr
  d_law_octets : FuncData
  f_law_four : Addr
  d_law_four : FuncData
  f_law : Addr
  d_law : FuncData
structure Txt (K : PySem.W.Frag) (mg : Str → Option Value) (A : Adr) : Prop where
  two_octets : GF K mg "two_octets" s_two_octets ["n"] A.f_two_octets A.d_two_octets
  four_octets : GF K mg "four_octets" s_four_octets ["number"] A.f_four_octets A.d_four_octets
  number_of : GF K mg "number_of" s_number_of ["octets"] A.f_number_of A.d_number_of
  nearest : GF K mg "nearest" s_nearest ["wire", "known", "space"] A.f_nearest A.d_nearest
  segment_octets : GF K mg "segment_octets" s_segment_octets ["segment"] A.f_segment_octets A.d_segment_octets
  segment_of : GF K mg "segment_of" s_segment_of ["octets"] A.f_segment_of A.d_segment_of
  length_of : GF K mg "length_of" s_length_of ["segment"] A.f_length_of A.d_length_of
  near : GF K mg "near" s_near ["wire", "known"] A.f_near A.d_near
  law_begin : GF K mg "_law_begin" s_law_begin ["script"] A.f_law_begin A.d_law_begin
  law_take : GF K mg "_law_take" s_law_take ["d", "many"] A.f_law_take A.d_law_take
  law_pick : GF K mg "_law_pick" s_law_pick ["d", "menu"] A.f_law_pick A.d_law_pick
  law_octets : GF K mg "_law_octets" s_law_octets ["d", "most"] A.f_law_octets A.d_law_octets
  law_four : GF K mg "_law_four" s_law_four ["number"] A.f_law_four A.d_law_four
  law : GF K mg "law" s_law ["script"] A.f_law A.d_law
  b_tuple : mg "tuple" = none
  b_len : mg "len" = none
  b_int : mg "int" = none
  b_list : mg "list" = none
  b_abs : mg "abs" = none
  b_range : mg "range" = none
  g_MOST : GV K mg "MOST" (.int 65536)
  g_HEAD : GV K mg "HEAD" (.int 12)
  g_SYN : GV K mg "SYN" (.int 1)
  g_FIN : GV K mg "FIN" (.int 4)
  g_SPACE : GV K mg "SPACE" (.int 4294967296)
  g_ACK : GV K mg "ACK" (.int 2)
  g_RST : GV K mg "RST" (.int 8)
/-! ### the law's own draws -/
/-- d holds the script's ints (a list at s), a place, what is left of a number, a seed -/
def DSt (H : Hp) (d s : Addr) : Prop := d ≠ s ∧ ∃ (ns : List Int) (pos cur seed : Int), H d = some (.lst [.ref s, .int pos, .int cur, .int seed]) ∧ H s = some (.lst (ns.map V.int)) ∧ ns.length ≤ 63 ∧ 0 ≤ pos ∧ 0 ≤ cur
theorem DSt.ext {A : List Addr} {H H' : Hp} {d s : Addr} (e : Ext A H H') (h : DSt H d s) (n1 : d ∉ A) (n2 : s ∉ A) : DSt H' d s := by
  obtain ⟨ne, ns, pos, cur, seed, h1, h2, h3⟩ := h
  exact ⟨ne, ns, pos, cur, seed, e.keep _ _ h1 n1, e.keep _ _ h2 n2, h3⟩
def spBegin (K : PySem.W.Frag) : Sp := fun vs H Q _ => ∃ (a : Addr) (ns : List Int), vs = [.ref a] ∧ SqL K H a (ns.map V.int) ∧ ns.length ≤ 63 ∧ ∀ d s H', H d = none → H s = none → Ext [] H H' → DSt H' d s → Q (.ref d) H'
def spTake : Sp := fun vs H Q _ => ∃ (d s : Addr) (many : Int), vs = [.ref d, .int many] ∧ DSt H d s ∧ 0 < many ∧ many < 2 ^ 64 ∧ ∀ k H', 0 ≤ k → k < many → Ext [d] H H' → DSt H' d s → Q (.int k) H'
def spPick (K : PySem.W.Frag) : Sp := fun vs H Q _ => ∃ (d s m : Addr) (xs : List V), vs = [.ref d, .ref m] ∧ DSt H d s ∧ SqL K H m xs ∧ m ≠ d ∧ 0 < xs.length ∧ xs.length < 1000 ∧ ∀ v H', v ∈ xs → Ext [d] H H' → DSt H' d s → Q v H'
def spLaw (K : PySem.W.Frag) : Sp := fun vs H Q _ => ∃ (a : Addr) (ns : List Int), vs = [.ref a] ∧ SqL K H a (ns.map V.int) ∧ ns.length ≤ 63 ∧ ∀ H', Q (.bl true) H'
theorem ne_dst1 {H : Hp} {d s x : Addr} (n : H x = none) (h : DSt H d s) : d ≠ x := by
  obtain ⟨_, _, _, _, _, h1, _⟩ := h
  exact ne_of_none h1 n
theorem ne_dst2 {H : Hp} {d s x : Addr} (n : H x = none) (h : DSt H d s) : s ≠ x := by
  obtain ⟨_, _, _, _, _, _, h1, _⟩ := h
  exact ne_of_none h1 n
local macro_rules | `(tactic| walk_at "eo dst") => `(tactic| first | with_reducible assumption | ((with_reducible apply DSt.ext); (with_reducible assumption); (walk_at "eo dst"); (walk_at "eo nin"); (walk_at "eo nin")))
local macro_rules | `(tactic| walk_at "eo ne2") => `(tactic| first
  | ((with_reducible apply ne_dst1); (with_reducible assumption); (walk_at "eo dst"))
  | ((with_reducible apply ne_dst2); (with_reducible assumption); (walk_at "eo dst"))
  | ((with_reducible apply Ne.symm); (with_reducible apply ne_dst1); (with_reducible assumption); (walk_at "eo dst"))
  | ((with_reducible apply Ne.symm); (with_reducible apply ne_dst2); (with_reducible assumption); (walk_at "eo dst")))
section
variable {P : Program} {w : World} {K : PySem.W.Frag} {mg : Str → Option Value} {base : Heap}
theorem ok_law_begin {A : Adr} (T : Txt K mg A) : FnOk P w K mg base CX0 1 A.f_law_begin A.d_law_begin ["script"] (spBegin K) := by
  refine T.law_begin.F.ok sc_law_begin (fun vs H Q E h => ?_) (fun cdv Ar outer s H vs Q E hr h => ?_)
  · obtain ⟨a, ns, rfl, _⟩ := h
    rfl
  · obtain ⟨a, ns, rfl, hS, hlen, k⟩ := h
    refine ⟨_, (pss_cons (ps_set (i := 1) sc_law_begin.nd rfl (Or.inl rfl) pe_int)
      (pss_cons (ps_for PassesOwn.never rfl (pi_list (pv 0)) (pg_name (i := 2) sc_law_begin.nd rfl (Or.inl rfl)) (pss_one (ps_set (i := 1) sc_law_begin.nd rfl (Or.inl rfl) (pe_op op_mod (pe_op o_add (pe_op o_add (pe_op o_mul (pv 1) pe_int) (pe_op op_mod (pe_callTy o_int (by rfl) T.b_int (by decide +kernel) (pa_cons (pv 2) pa_nil)) pe_int)) pe_int) pe_int))))
      (pss_one (ps_ret (pe_lstX (pa_cons (pe_callTy o_list (by rfl) T.b_list (by decide +kernel) (pa_cons (pv 0) pa_nil)) (pa_cons pe_int (pa_cons pe_int (pa_cons (pv 1) pa_nil))))))))), ?_⟩
    walk_at "eo init"
    walk_at "eo go"
    refine g_forL (ns.map V.int) hS (fun i σ H' => ∃ (z : Int) (c : Option V), σ = [some (.ref a), some (.int z), c] ∧ H' = H) ⟨1, none, rfl, rfl⟩ (fun i σ H' _ ⟨_, _, _, e⟩ => by rw [e]; exact hS) ?_ ?_
    · rintro i x σ H' hi ⟨z, c, rfl, rfl⟩
      obtain ⟨n, _, rfl⟩ := mem_map_int hi
      walk_at "eo go"
      exact ⟨_, _, rfl, rfl⟩
    · rintro σ H' ⟨z, c, rfl, rfl⟩
      walk_at "eo go"
      rename_i s1 H1 hs1 e1 hl d1 H2 hd1 e2 hd
      have f1 : H2 s1 = some (.lst (ns.map V.int)) := by walk_at "eo fact"
      exact k d1 s1 H2 (by walk_at "eo free") hs1 (by walk_at "eo ext") ⟨(ne_of_none hl hd1).symm, ns, 0, 0, z, hd, f1, hlen, Int.le_refl _, Int.le_refl _⟩
theorem ok_law_take {A : Adr} (T : Txt K mg A) : FnOk P w K mg base CX0 1 A.f_law_take A.d_law_take ["d", "many"] spTake := by
  refine T.law_take.F.ok sc_law_take (fun vs H Q E h => ?_) (fun cdv Ar outer s H vs Q E hr h => ?_)
  · obtain ⟨d, s, many, rfl, _⟩ := h
    rfl
  · obtain ⟨d, s, many, rfl, ⟨ne, ns, pos, cur, seed, hd, hs, hlen, hp, hc⟩, hm, hm2, k⟩ := h
    refine ⟨_, (pss_cons (ps_if (PW.pt (pw_and (pt_cmpR (o_eq hr.units) (pe_ix ix_seq (pv 0) pe_int (fun _ _ => rfl)) pe_int (nomark _)) (pw_and1 (pt_cmpR op_lt (pe_ix ix_seq (pv 0) pe_int (fun _ _ => rfl)) (pe_callB o_len (by rfl) T.b_len (by decide +kernel) (pa_cons (pe_ix ix_seq (pv 0) pe_int (fun _ _ => rfl)) pa_nil)) (nomark _))))) (pss_cons (ps_asg (pe_callB o_abs (by rfl) T.b_abs (by decide +kernel) (pa_cons (pe_callTy o_int (by rfl) T.b_int (by decide +kernel) (pa_cons (pe_ix ix_seq (pe_ix ix_seq (pv 0) pe_int (fun _ _ => rfl)) (pe_ix ix_seq (pv 0) pe_int (fun _ _ => rfl)) (fun _ _ => rfl)) pa_nil)) pa_nil)) (pg_sub (pv 0) pe_int set_list))
      (pss_cons (ps_asg (pe_op o_add (pe_ix ix_seq (pv 0) pe_int (fun _ _ => rfl)) pe_int) (pg_sub (pv 0) pe_int set_list))
      (pss_one (ps_if (pt_chain op_lt op_lt pe_int (pe_ix ix_seq (pv 0) pe_int (fun _ _ => rfl)) (pv 1)) (pss_cons (ps_set (i := 2) sc_law_take.nd rfl (Or.inl rfl) (pe_ix ix_seq (pv 0) pe_int (fun _ _ => rfl)))
      (pss_cons (ps_asg pe_int (pg_sub (pv 0) pe_int set_list))
      (pss_one (ps_ret (pv 2))))) pss_nil)))) pss_nil)
      (pss_cons (ps_if (pt_cmpR op_gt (pe_ix ix_seq (pv 0) pe_int (fun _ _ => rfl)) pe_int (nomark _)) (pss_cons (ps_set (i := 3) sc_law_take.nd rfl (Or.inl rfl) (pe_op op_mod (pe_callTy o_int (by rfl) T.b_int (by decide +kernel) (pa_cons (pe_ix ix_seq (pv 0) pe_int (fun _ _ => rfl)) pa_nil)) (pv 1)))
      (pss_cons (ps_asg (pe_op op_fdivW (pe_callTy o_int (by rfl) T.b_int (by decide +kernel) (pa_cons (pe_ix ix_seq (pv 0) pe_int (fun _ _ => rfl)) pa_nil)) (pv 1)) (pg_sub (pv 0) pe_int set_list))
      (pss_one (ps_ret (pv 3))))) pss_nil)
      (pss_cons (ps_asg (pe_op op_mod (pe_callTy o_int (by rfl) T.b_int (by decide +kernel) (pa_cons (pe_op o_add (pe_op o_mul (pe_ix ix_seq (pv 0) pe_int (fun _ _ => rfl)) pe_int) pe_int) pa_nil)) pe_int) (pg_sub (pv 0) pe_int set_list))
      (pss_one (ps_ret (pe_op op_mod (pe_callTy o_int (by rfl) T.b_int (by decide +kernel) (pa_cons (pe_op op_fdivW (pe_ix ix_seq (pv 0) pe_int (fun _ _ => rfl)) pe_int) pa_nil)) (pv 1))))))), ?_⟩
    walk_at "eo init"
    have nsd : s ≠ d := ne.symm
    have leaf : ∀ (x : Int) (H1 : Hp) (pos cur seed : Int), Ext [d] H H1 → H1 d = some (.lst [.ref s, .int pos, .int cur, .int seed]) → 0 ≤ pos → 0 ≤ cur → Q (.int (x % many)) H1 := fun x H1 p c sd e h1 p1 p2 =>
      k _ _ (Int.emod_nonneg _ (by omega)) (Int.emod_lt_of_pos _ hm) e ⟨ne, ns, p, c, sd, h1, e.keep _ _ hs (nin1 nsd), hlen, p1, p2⟩
    walk_at "eo go"
    refine g_ite (fun h1 => ?_) (fun h1 => ?_)
    · have h1' := vint (dec_t h1)
      subst h1'
      walk_at "eo go"
      refine g_ite (fun h2 => ?_) (fun h2 => ?_)
      · have h2' := dec_t h2
        have hpl : pos.toNat < ns.length := by rw [List.length_map] at h2'; omega
        have ha : (ns.map V.int)[pos.toNat]? = some (.int ns[pos.toNat]) := by simp [hpl]
        walk_at "eo go"
        refine g_ite (fun h3 => ?_) (fun h3 => ?_)
        · walk_at "eo go"
          refine g_ite (fun h4 => ?_) (fun h4 => ?_)
          · have h4' := dec_t h4
            walk_at "eo go"
            rename_i e3 f3
            exact k _ _ (by omega) h4' (by walk_at "eo ext") ⟨ne, ns, _, _, _, f3, by walk_at "eo fact", hlen, by omega, by omega⟩
          · walk_at "eo go"
            rename_i H9 _ f9
            exact leaf _ _ _ _ _ (by walk_at "eo ext") f9 (by omega) (Int.ediv_nonneg (by omega) (Int.le_of_lt hm))
        · walk_at "eo go"
          rename_i H9 _ f9
          exact leaf _ _ _ _ _ (by walk_at "eo ext") f9 (by omega) (by omega)
      · walk_at "eo go"
        rename_i H9 _ f9
        exact leaf _ _ _ _ _ (by walk_at "eo ext") f9 hp hc
    · have h1' : ¬ cur = 0 := fun z => dec_f h1 (by rw [z])
      have h3 : decide (0 < cur) = true := decide_eq_true (by omega)
      walk_at "eo go"
      rename_i H9 _ f9
      exact leaf _ _ _ _ _ (by walk_at "eo ext") f9 hp (Int.ediv_nonneg hc (Int.le_of_lt hm))
theorem ok_law_pick {A : Adr} (T : Txt K mg A) : FnOk P w K mg base CX0 2 A.f_law_pick A.d_law_pick ["d", "menu"] (spPick K) := by
  refine T.law_pick.F.ok sc_law_pick (fun vs H Q E h => ?_) (fun cdv Ar outer s H vs Q E hr h => ?_)
  · obtain ⟨d, s, m, xs, rfl, _⟩ := h
    rfl
  · obtain ⟨d, s, m, xs, rfl, hD, hm, nmd, h0, h1, k⟩ := h
    refine ⟨_, (pss_one (ps_ret (pe_ix ix_seq (pv 1) (pe_call (ok_law_take T) (hr.mono (by decide)) (by rfl) T.law_take.mg T.law_take.kp T.law_take.b .nil pass0 (pa_cons (pv 0) (pa_cons (pe_callB o_len (by rfl) T.b_len (by decide +kernel) (pa_cons (pv 1) pa_nil)) pa_nil))) (fun _ _ => rfl)))), ?_⟩
    walk_at "eo init"
    walk_at "eo go"
    refine ⟨d, s, _, rfl, hD, by omega, by omega, fun i H' i0 i1 e D' => ?_⟩
    have hi : i.toNat < xs.length := by omega
    have ha : xs[i.toNat]? = some xs[i.toNat] := by simp [hi]
    have hm' : SqL K H' m xs := sqL_ext e hm fun _ _ => nin1 nmd
    walk_at "eo go"
    exact k _ _ (List.getElem_mem hi) e D'
end
section
variable {K : PySem.W.Frag} {H : Hp} {Q : VK} {E : XK}
theorem g_take {d s : Addr} {many : Int} (hD : DSt H d s) (h0 : 0 < many) (h1 : many < 2 ^ 64) (h : ∀ k H', 0 ≤ k → k < many → Ext [d] H H' → DSt H' d s → Q (.int k) H') : spTake ([.ref d, .int many] ++ []) H Q E := ⟨d, s, many, rfl, hD, h0, h1, h⟩
theorem g_pick {d s m : Addr} {xs : List V} (hD : DSt H d s) (hm : SqL K H m xs) (ne : m ≠ d) (h0 : 0 < xs.length) (h1 : xs.length < 1000) (h : ∀ v H', v ∈ xs → Ext [d] H H' → DSt H' d s → Q v H') : spPick K ([.ref d, .ref m] ++ []) H Q E := ⟨d, s, m, xs, rfl, hD, hm, ne, h0, h1, h⟩
end
def spOct (K : PySem.W.Frag) : Sp := fun vs H Q _ => ∃ (d s : Addr) (most : Int), vs = [.ref d, .int most] ∧ DSt H d s ∧ 0 ≤ most ∧ most < 1000 ∧
  ∀ (c : Addr) (ns : List Int) (H' : Hp), Ext [d] H H' → DSt H' d s → SqT K H' c (ns.map V.int) → (∀ x ∈ ns, 0 ≤ x ∧ x ≤ 255) → (ns.length : Int) ≤ most → Q (.ref c) H'
theorem g_oct {K : PySem.W.Frag} {H : Hp} {Q : VK} {E : XK} {d s : Addr} {most : Int} (hD : DSt H d s) (h0 : 0 ≤ most) (h1 : most < 1000)
    (h : ∀ (c : Addr) (ns : List Int) (H' : Hp), Ext [d] H H' → DSt H' d s → SqT K H' c (ns.map V.int) → (∀ x ∈ ns, 0 ≤ x ∧ x ≤ 255) → (ns.length : Int) ≤ most → Q (.ref c) H') : spOct K ([.ref d, .int most] ++ []) H Q E := ⟨d, s, most, rfl, hD, h0, h1, h⟩
local macro_rules | `(tactic| walk_at "eo step") => `(tactic| first
  | ((with_reducible apply g_take); (walk_at "eo dst"); (walk_at "eo arith"); (walk_at "eo arith"); intro _ _ _ _ _ _)
  | ((with_reducible apply g_pick); (walk_at "eo dst"); (walk_at "eo sqL"); (walk_at "eo ne"); (walk_at "eo pos"); (walk_at "eo pos"); intro _ _ _ _ _)
  | ((with_reducible apply g_oct); (walk_at "eo dst"); (walk_at "eo arith"); (walk_at "eo arith"); intro _ _ _ _ _ _ _ _))
local macro_rules | `(tactic| walk_at "eo pos") => `(tactic| first | exact Nat.zero_lt_succ _ | exact lt1000)
section
variable {P : Program} {w : World} {K : PySem.W.Frag} {mg : Str → Option Value} {base : Heap}
theorem ok_law_octets {A : Adr} (T : Txt K mg A) : FnOk P w K mg base CX0 3 A.f_law_octets A.d_law_octets ["d", "most"] (spOct K) := by
  refine T.law_octets.F.ok sc_law_octets (fun vs H Q E h => ?_) (fun cdv Ar outer s H vs Q E hr h => ?_)
  · obtain ⟨d, s, m, rfl, _⟩ := h
    rfl
  · obtain ⟨d, s, m, rfl, hD, m0, m1, k⟩ := h
    refine ⟨_, (pss_one (ps_ret (pe_callTy o_tuple (by rfl) T.b_tuple (by decide +kernel) (pa_cons (pe_lc (own := [("k", 2)]) (tt := stT tYes) rfl sc_law_octets.nd (pi_range1 (by rfl) T.b_range (pa_cons (pe_call (ok_law_take T) (hr.mono (by decide)) (by rfl) T.law_take.mg T.law_take.kp T.law_take.b .nil pass0 (pa_cons (pv 0) (pa_cons (pe_op o_add (pv 1) pe_int) pa_nil))) pa_nil)) (blkOk_by (own := [("k", 2)]) (N := ["d", "most", "k"]) (sc := defScope s_law_octets) (by decide +kernel)) (fun _ _ _ _ _ => PG.star (pg_name (i := 2) sc_law_octets.nd rfl (Or.inl rfl))) (fun _ _ _ _ _ => PTs.star (pts_nil)) (fun _ _ _ _ _ => PE.star (pe_call (ok_law_pick T) (hr.mono (by decide)) (by rfl) T.law_pick.mg T.law_pick.kp T.law_pick.b .nil pass0 (pa_cons (pv 0) (pa_cons (pe_lstX (pa_cons (pe_call (ok_law_take T) (hr.mono (by decide)) (by rfl) T.law_take.mg T.law_take.kp T.law_take.b .nil pass0 (pa_cons (pv 0) (pa_cons pe_int pa_nil))) (pa_cons pe_int (pa_cons pe_int (pa_cons pe_int pa_nil))))) pa_nil))))) pa_nil)))), ?_⟩
    walk_at "eo init"
    walk_at "eo go"
    rename_i n H1 n0 n1 e1 hD1
    refine g_lcW walk_range (fun D i H2 acc => Ext [d] H H2 ∧ DSt H2 d s ∧ d ≠ D ∧ s ≠ D ∧ H D = none ∧ acc.length = i ∧ ∃ ns : List Int, acc = ns.map V.int ∧ ∀ x ∈ ns, 0 ≤ x ∧ x ≤ 255) ?_ (fun _ _ _ _ _ _ => trivial) ?_ ?_
    · intro D H2 hD0 e2 h2
      have nD : d ≠ D := ne_dst1 hD0 hD1
      have nD2 : s ≠ D := ne_dst2 hD0 hD1
      have nD3 : H D = none := e1.free hD0 (nin1 nD.symm)
      exact ⟨by walk_at "eo ext", by walk_at "eo dst", nD, nD2, nD3, rfl, [], rfl, fun _ h => by cases h⟩
    · rintro D i x H2 H3 acc hi ⟨e2, hD2, nD, nD2, fD, la, ns, rfl, hb⟩ hl ⟨rfl, rfl⟩
      walk_at "eo go"
      refine ⟨rfl, ?_⟩
      walk_at "eo go"
      rename_i t H4 t0 t1 e4 hD4 p H5 np e5 hp v H6 hv e6 hD6
      obtain ⟨z, rfl, z0, z1⟩ : ∃ z : Int, v = .int z ∧ 0 ≤ z ∧ z ≤ 255 := by
        simp only [List.mem_cons, List.not_mem_nil, or_false] at hv
        rcases hv with rfl | rfl | rfl | rfl
        · exact ⟨_, rfl, t0, by omega⟩
        · exact ⟨_, rfl, by decide, by decide⟩
        · exact ⟨_, rfl, by decide, by decide⟩
        · exact ⟨_, rfl, by decide, by decide⟩
      have h4 : H4 D = some (.lst (ns.map V.int)) := by walk_at "eo fact"
      have h5 : H5 D = some (.lst (ns.map V.int)) := by walk_at "eo fact"
      have h6 : H6 D = some (.lst (ns.map V.int)) := by walk_at "eo fact"
      refine ⟨h6, ?_, fun H7 e7 h7 => ⟨?_, DSt.ext e7 hD6 (nin1 nD) (nin1 nD2), nD, nD2, fD, by rw [List.length_append, la]; rfl, ns ++ [z], by rw [List.map_append]; rfl, ?_⟩⟩
      · rw [la, sizeLine_eq]; omega
      · walk_at "eo ext"
      · intro x hx
        rcases List.mem_append.mp hx with hx | hx
        · exact hb x hx
        · rw [List.mem_singleton.mp hx]; exact ⟨z0, z1⟩
    · rintro D H2 acc ⟨e2, hD2, nD, nD2, fD, la, ns, rfl, hb⟩ hl
      walk_at "eo go"
      rename_i c H3 nc e3 hc
      refine k _ ns _ (by walk_at "eo ext") (by walk_at "eo dst") (SqT.of hc) hb ?_
      rw [List.length_map] at la
      omega
end
/-! ### nested data, by what they are -/
def Shp (d : PyData) (k : Nat) : Prop := d.canLay0 = true ∧ d.depth ≤ k
def ShpAll (ds : List PyData) (k : Nat) : Prop := PyData.canLayAll0 ds = true ∧ PyData.depthAll ds ≤ k
theorem shp_int {i : Int} {k : Nat} : Shp (.int i) k := ⟨rfl, Nat.zero_le _⟩
theorem shp_non {k : Nat} : Shp .none k := ⟨rfl, Nat.zero_le _⟩
theorem shp_bl {b : Bool} {k : Nat} : Shp (.bool b) k := ⟨rfl, Nat.zero_le _⟩
theorem shp_nil {k : Nat} : ShpAll [] k := ⟨rfl, Nat.zero_le _⟩
theorem shp_cons {d : PyData} {ds : List PyData} {k : Nat} (h : Shp d k) (t : ShpAll ds k) : ShpAll (d :: ds) k := by
  refine ⟨?_, ?_⟩
  · rw [PyData.canLayAll0, h.1, t.1]; rfl
  · rw [PyData.depthAll]; exact Nat.max_le.mpr ⟨h.2, t.2⟩
theorem shp_tup {ds : List PyData} {k : Nat} (h : ShpAll ds k) : Shp (.tuple ds) (k + 1) := by
  refine ⟨?_, ?_⟩
  · rw [PyData.canLay0]; exact h.1
  · rw [PyData.depth]
    have := h.2
    omega
theorem shp_ints {k : Nat} : ∀ ns : List Int, ShpAll (ns.map PyData.int) k
  | [] => shp_nil
  | _ :: r => shp_cons shp_int (shp_ints r)
theorem shp_app {k : Nat} : ∀ {ds es : List PyData}, ShpAll ds k → ShpAll es k → ShpAll (ds ++ es) k
  | [], _, _, h => h
  | d :: ds, es, h, g => by
    have h1 := h.1
    have h2 := h.2
    rw [PyData.canLayAll0, Bool.and_eq_true] at h1
    rw [PyData.depthAll] at h2
    have h3 := Nat.max_le.mp h2
    exact shp_cons ⟨h1.1, h3.1⟩ (shp_app ⟨h1.2, h3.2⟩ g)
theorem Shp.shaped {d : PyData} {k : Nat} (h : Shp d k) (l : k ≤ 64) : SeqAt.shaped d = true := by
  unfold SeqAt.shaped
  rw [h.1, decide_eq_true (Nat.le_trans h.2 l)]
  rfl
theorem dp_ints {K : PySem.W.Frag} {H : Hp} : ∀ ns : List Int, DpAll K H (ns.map V.int) (ns.map PyData.int)
  | [] => .nil
  | n :: r => .cons (.int n) (dp_ints r)
theorem dp_app {K : PySem.W.Frag} {H : Hp} : ∀ {xs ys : List V} {ds es : List PyData}, DpAll K H xs ds → DpAll K H ys es → DpAll K H (xs ++ ys) (ds ++ es)
  | _, _, _, _, .nil, h => h
  | _, _, _, _, .cons a t, h => .cons a (dp_app t h)
section
variable {K : PySem.W.Frag} {H : Hp} {Q : VK} {x y : V} {d e : PyData} {k : Nat}
theorem g_eqD (hx : Dp K H x d) (hy : Dp K H y e) (hs : Shp d 8) (he : d = e) (h : Q (.bl true) H) : rEqX K x y H Q := by
  subst he
  refine .inr ⟨d, d, hx, hy, hs.shaped (by decide), hs.shaped (by decide), ?_⟩
  rw [SeqAt.eqv_refl d hs.1]
  exact h
theorem g_neD (hx : Dp K H x d) (hy : Dp K H y e) (hs : Shp d 8) (he : d = e) (h : Q (.bl false) H) : rNeX K x y H Q := by
  subst he
  refine .inr ⟨d, d, hx, hy, hs.shaped (by decide), hs.shaped (by decide), ?_⟩
  rw [SeqAt.eqv_refl d hs.1]
  exact h
end
local macro_rules | `(tactic| walk_at "eo dp") => `(tactic| first | with_reducible exact Dp.int _ | with_reducible exact Dp.non | with_reducible exact Dp.bl _ | with_reducible exact Dp.str _ | with_reducible assumption | ((with_reducible apply Dp.tup); (walk_at "eo sqT"); (walk_at "eo dps")))
local macro_rules | `(tactic| walk_at "eo dps") => `(tactic| first | with_reducible exact DpAll.nil | with_reducible exact dp_ints _ | ((with_reducible apply dp_app); (walk_at "eo dps"); (walk_at "eo dps")) | ((with_reducible apply DpAll.cons); (walk_at "eo dp"); (walk_at "eo dps")))
local macro_rules | `(tactic| walk_at "eo shp") => `(tactic| first | with_reducible exact shp_int | with_reducible exact shp_non | with_reducible exact shp_bl | (apply shp_tup; (walk_at "eo shps")))
local macro_rules | `(tactic| walk_at "eo shps") => `(tactic| first | with_reducible exact shp_nil | with_reducible exact shp_ints _ | ((with_reducible apply shp_app); (walk_at "eo shps"); (walk_at "eo shps")) | ((with_reducible apply shp_cons); (walk_at "eo shp"); (walk_at "eo shps")))
local macro_rules | `(tactic| walk_at "eo step") => `(tactic| first
  | ((with_reducible apply g_neD); (walk_at "eo dp"); (walk_at "eo dp"); (walk_at "eo shp"); rfl)
  | ((with_reducible apply g_eqD); (walk_at "eo dp"); (walk_at "eo dp"); (walk_at "eo shp"); rfl))
/-! ### octets: what they compute -/
def num (ns : List Int) : Int := ns.foldl (fun f o => f * 256 + o) 0
def nearestI (w k s : Int) : Int := k + (w - k) % s - (if (w - k) % s ≥ s / 2 then s else 0)
abbrev TI (K : PySem.W.Frag) (H : Hp) (a : Addr) (ns : List Int) : Prop := SqT K H a (ns.map V.int)
def spTwo (K : PySem.W.Frag) : Sp := fun vs H Q _ => ∃ n, vs = [.int n] ∧ ∀ c H', Ext [] H H' → SqT K H' c [.int (n / 256), .int (n % 256)] → Q (.ref c) H'
def spFour (K : PySem.W.Frag) : Sp := fun vs H Q _ => ∃ n, vs = [.int n] ∧ ∀ c H', Ext [] H H' → SqT K H' c [.int (n / 65536 / 256), .int (n / 65536 % 256), .int (n % 65536 / 256), .int (n % 65536 % 256)] → Q (.ref c) H'
def spNum (K : PySem.W.Frag) : Sp := fun vs H Q _ => ∃ (a : Addr) (xs : List V) (ns : List Int), vs = [.ref a] ∧ SqT K H a xs ∧ xs = ns.map V.int ∧ Q (.int (num ns)) H
def spNearest : Sp := fun vs H Q _ => ∃ w k s, vs = [.int w, .int k, .int s] ∧ 0 < s ∧ s < 2 ^ 64 ∧ Q (.int (nearestI w k s)) H
section
variable {K : PySem.W.Frag} {H : Hp} {Q : VK} {E : XK}
theorem g_two {n : Int} (h : ∀ c H', Ext [] H H' → SqT K H' c [.int (n / 256), .int (n % 256)] → Q (.ref c) H') : spTwo K ([.int n] ++ []) H Q E := ⟨n, rfl, h⟩
theorem g_four {n : Int} (h : ∀ c H', Ext [] H H' → SqT K H' c [.int (n / 65536 / 256), .int (n / 65536 % 256), .int (n % 65536 / 256), .int (n % 65536 % 256)] → Q (.ref c) H') : spFour K ([.int n] ++ []) H Q E := ⟨n, rfl, h⟩
theorem g_nearest {w k s : Int} (h0 : 0 < s) (h1 : s < 2 ^ 64) (h : Q (.int (nearestI w k s)) H) : spNearest ([.int w, .int k, .int s] ++ []) H Q E := ⟨w, k, s, rfl, h0, h1, h⟩
end
local macro_rules | `(tactic| walk_at "eo step") => `(tactic| first
  | ((with_reducible refine g_two ?_); intro _ _ _ _)
  | ((with_reducible refine g_four ?_); intro _ _ _ _)
  | ((with_reducible apply g_nearest); (walk_at "eo arith"); (walk_at "eo arith")))
section
variable {P : Program} {w : World} {K : PySem.W.Frag} {mg : Str → Option Value} {base : Heap}
theorem ok_two_octets {A : Adr} (T : Txt K mg A) : FnOk P w K mg base CX0 1 A.f_two_octets A.d_two_octets ["n"] (spTwo K) := by
  refine T.two_octets.F.ok sc_two_octets (fun vs H Q E h => ?_) (fun cdv Ar outer s H vs Q E hr h => ?_)
  · obtain ⟨n, rfl, _⟩ := h
    rfl
  · obtain ⟨n, rfl, k⟩ := h
    refine ⟨_, (pss_one (ps_ret (pe_tupX (pa_cons (pe_op op_fdivW (pv 0) pe_int) (pa_cons (pe_op op_mod (pv 0) pe_int) pa_nil))))), ?_⟩
    walk_at "eo init"
    walk_at "eo go"
    rename_i p H1 np e1 h1
    exact k _ _ e1 (SqT.of h1)
theorem ok_number_of {A : Adr} (T : Txt K mg A) : FnOk P w K mg base CX0 1 A.f_number_of A.d_number_of ["octets"] (spNum K) := by
  refine T.number_of.F.ok sc_number_of (fun vs H Q E h => ?_) (fun cdv Ar outer s H vs Q E hr h => ?_)
  · obtain ⟨a, xs, ns, rfl, _⟩ := h
    rfl
  · obtain ⟨a, xs, ns, rfl, hT, rfl, k⟩ := h
    refine ⟨_, (pss_cons (ps_set (i := 1) sc_number_of.nd rfl (Or.inl rfl) pe_int)
      (pss_cons (ps_for PassesOwn.never rfl (pi_tup (pv 0)) (pg_name (i := 2) sc_number_of.nd rfl (Or.inl rfl)) (pss_one (ps_set (i := 1) sc_number_of.nd rfl (Or.inl rfl) (pe_op o_add (pe_op o_mul (pv 1) pe_int) (pv 2)))))
      (pss_one (ps_ret (pv 1))))), ?_⟩
    walk_at "eo init"
    walk_at "eo go"
    refine g_forT (ns.map V.int) (fun i σ H' => H' = H ∧ ∃ c, σ = [some (.ref a), some (.int (num (ns.take i))), c]) ⟨rfl, none, rfl⟩ (fun i σ H' _ ⟨e, _⟩ => by rw [e]; exact hT) ?_ ?_
    · rintro i x σ H' hi ⟨rfl, c, rfl⟩
      obtain ⟨n, hn, rfl⟩ := mem_map_int hi
      walk_at "eo go"
      refine ⟨rfl, some (.int n), ?_⟩
      have e : num (ns.take (i + 1)) = num (ns.take i) * 256 + n := by
        unfold num
        have hl : i < ns.length := (List.getElem?_eq_some_iff.mp hn).1
        have h2 : ns[i] = n := (List.getElem?_eq_some_iff.mp hn).2
        rw [List.take_succ_eq_append_getElem hl, List.foldl_append, h2]
        rfl
      rw [e]
      rfl
    · rintro σ H' ⟨rfl, c, rfl⟩
      walk_at "eo go"
      rw [List.length_map, List.take_length]
      exact k
theorem ok_four_octets {A : Adr} (T : Txt K mg A) : FnOk P w K mg base CX0 2 A.f_four_octets A.d_four_octets ["number"] (spFour K) := by
  refine T.four_octets.F.ok sc_four_octets (fun vs H Q E h => ?_) (fun cdv Ar outer s H vs Q E hr h => ?_)
  · obtain ⟨n, rfl, _⟩ := h
    rfl
  · obtain ⟨n, rfl, k⟩ := h
    refine ⟨_, (pss_one (ps_ret (pe_op o_add (pe_call (ok_two_octets T) (hr.mono (by decide)) (by rfl) T.two_octets.mg T.two_octets.kp T.two_octets.b .nil pass0 (pa_cons (pe_op op_fdivW (pv 0) (pe_g rfl T.g_MOST)) pa_nil)) (pe_call (ok_two_octets T) (hr.mono (by decide)) (by rfl) T.two_octets.mg T.two_octets.kp T.two_octets.b .nil pass0 (pa_cons (pe_op op_mod (pv 0) (pe_g rfl T.g_MOST)) pa_nil))))), ?_⟩
    walk_at "eo init"
    walk_at "eo go"
    rename_i c1 H1 e1 h1 c2 H2 e2 h2 c3 H3 e3 h3
    exact k c3 H3 (by walk_at "eo ext") h3
theorem ok_nearest {A : Adr} (T : Txt K mg A) : FnOk P w K mg base CX0 1 A.f_nearest A.d_nearest ["wire", "known", "space"] spNearest := by
  refine T.nearest.F.ok sc_nearest (fun vs H Q E h => ?_) (fun cdv Ar outer s H vs Q E hr h => ?_)
  · obtain ⟨a, b, n, rfl, _⟩ := h
    rfl
  · obtain ⟨a, b, n, rfl, n0, n1, k⟩ := h
    refine ⟨_, (pss_cons (ps_set (i := 3) sc_nearest.nd rfl (Or.inl rfl) (pe_op op_mod (pe_op op_sub (pv 0) (pv 1)) (pv 2)))
      (pss_one (ps_ret (pe_op op_sub (pe_op o_add (pv 1) (pv 3)) (pe_ifExp (pt_cmpR op_ge (pv 3) (pe_op op_fdivW (pv 2) pe_int) (nomark _)) (pv 2) pe_int))))), ?_⟩
    walk_at "eo init"
    walk_at "eo go"
    refine g_ite (fun q => ?_) (fun q => ?_)
    · walk_at "eo go"
      have e : nearestI a b n = b + (a - b) % n - n := by unfold nearestI; rw [if_pos (dec_t q)]
      rw [e] at k
      exact k
    · walk_at "eo go"
      have e : nearestI a b n = b + (a - b) % n - 0 := by unfold nearestI; rw [if_neg (dec_f q)]
      rw [e] at k
      exact k
end
def fourL (n : Int) : List Int := [n / 65536 / 256, n / 65536 % 256, n % 65536 / 256, n % 65536 % 256]
def spSegOct (K : PySem.W.Frag) : Sp := fun vs H Q _ => ∃ (a b : Addr) (s g f n k w : Int) (body : List Int), vs = [.ref a] ∧ SqT K H a [.int s, .int g, .int f, .int n, .int k, .int w, .ref b] ∧ SqT K H b (body.map V.int) ∧ body.length ≤ 1000 ∧
  ∀ c H', Ext [] H H' → SqT K H' c (([s, g, f] ++ fourL n ++ fourL k ++ [w] ++ body).map V.int) → Q (.ref c) H'
def spSegOf (K : PySem.W.Frag) : Sp := fun vs H Q _ => ∃ (a : Addr) (xs : List V) (ns : List Int), vs = [.ref a] ∧ SqT K H a xs ∧ xs = ns.map V.int ∧ ns.length ≤ 1000 ∧
  (ns.length < 12 → Q .non H) ∧ (∀ x, ns[2]? = some x → 15 < x → 12 ≤ ns.length → Q .non H) ∧
  (∀ x0 x1 x2 x11, ns[0]? = some x0 → ns[1]? = some x1 → ns[2]? = some x2 → ns[11]? = some x11 → x2 ≤ 15 → 12 ≤ ns.length →
    ∀ b c H', Ext [] H H' → SqT K H' b ((ns.drop 12).map V.int) → SqT K H' c [.int x0, .int x1, .int x2, .int (num ((ns.drop 3).take 4)), .int (num ((ns.drop 7).take 4)), .int x11, .ref b] → Q (.ref c) H')
def spLenOf (K : PySem.W.Frag) : Sp := fun vs H Q _ => ∃ (a b : Addr) (s g f n k w : Int) (body : List Int), vs = [.ref a] ∧ SqT K H a [.int s, .int g, .int f, .int n, .int k, .int w, .ref b] ∧ SqT K H b (body.map V.int) ∧
  Q (.int ((body.length : Int) + (if (Builtin.bitAnd f 1 != 0) = true then 1 else 0) + (if (Builtin.bitAnd f 4 != 0) = true then 1 else 0))) H
def spNear : Sp := fun vs H Q _ => ∃ w k, vs = [.int w, .int k] ∧ Q (.int (nearestI w k 4294967296)) H
def spLFour (K : PySem.W.Frag) : Sp := fun vs H Q _ => ∃ n, vs = [.int n] ∧ 0 ≤ n ∧ n < 4294967296 ∧ ∀ c H', Ext [] H H' → SqT K H' c ((fourL n).map V.int) → Q (.ref c) H'
section
variable {P : Program} {w : World} {K : PySem.W.Frag} {mg : Str → Option Value} {base : Heap}
theorem ok_segment_octets {A : Adr} (T : Txt K mg A) : FnOk P w K mg base CX0 3 A.f_segment_octets A.d_segment_octets ["segment"] (spSegOct K) := by
  refine T.segment_octets.F.ok sc_segment_octets (fun vs H Q E h => ?_) (fun cdv Ar outer s H vs Q E hr h => ?_)
  · obtain ⟨a, b, s, g, f, n, k, w, body, rfl, _⟩ := h
    rfl
  · obtain ⟨a, b, s, g, f, n, k, w, body, rfl, ha, hb, hl, kk⟩ := h
    refine ⟨_, (pss_cons (ps_asg (pv 0) (pg_tup (n := 7) rfl (pgs_cons (pg_name (i := 1) sc_segment_octets.nd rfl (Or.inl rfl)) (pgs_cons (pg_name (i := 2) sc_segment_octets.nd rfl (Or.inl rfl)) (pgs_cons (pg_name (i := 3) sc_segment_octets.nd rfl (Or.inl rfl)) (pgs_cons (pg_name (i := 4) sc_segment_octets.nd rfl (Or.inl rfl)) (pgs_cons (pg_name (i := 5) sc_segment_octets.nd rfl (Or.inl rfl)) (pgs_cons (pg_name (i := 6) sc_segment_octets.nd rfl (Or.inl rfl)) (pgs_cons (pg_name (i := 7) sc_segment_octets.nd rfl (Or.inl rfl)) pgs_nil)))))))))
      (pss_one (ps_ret (pe_op o_add (pe_op o_add (pe_op o_add (pe_op o_add (pe_tupX (pa_cons (pv 1) (pa_cons (pv 2) (pa_cons (pv 3) pa_nil)))) (pe_call (ok_four_octets T) (hr.mono (by decide)) (by rfl) T.four_octets.mg T.four_octets.kp T.four_octets.b .nil pass0 (pa_cons (pv 4) pa_nil))) (pe_call (ok_four_octets T) (hr.mono (by decide)) (by rfl) T.four_octets.mg T.four_octets.kp T.four_octets.b .nil pass0 (pa_cons (pv 5) pa_nil))) (pe_tupX (pa_cons (pv 6) pa_nil))) (pe_callTy o_tuple (by rfl) T.b_tuple (by decide +kernel) (pa_cons (pv 7) pa_nil)))))), ?_⟩
    walk_at "eo init"
    walk_at "eo go"
    rename_i c9 H9 e9 h9
    refine kk c9 H9 (by walk_at "eo ext") ?_
    rw [List.map_append, List.map_append, List.map_append, List.map_append]
    exact h9
theorem ok_segment_of {A : Adr} (T : Txt K mg A) : FnOk P w K mg base CX0 2 A.f_segment_of A.d_segment_of ["octets"] (spSegOf K) := by
  refine T.segment_of.F.ok sc_segment_of (fun vs H Q E h => ?_) (fun cdv Ar outer s H vs Q E hr h => ?_)
  · obtain ⟨a, xs, ns, rfl, _⟩ := h
    rfl
  · obtain ⟨a, xs, ns, rfl, ha, rfl, hl, k1, k2, k3⟩ := h
    refine ⟨_, (pss_cons (ps_if (PW.pt (pw_or (pt_cmpR op_lt (pe_callB o_len (by rfl) T.b_len (by decide +kernel) (pa_cons (pv 0) pa_nil)) (pe_g rfl T.g_HEAD) (nomark _)) (pw_or1 (pt_cmpR op_gt (pe_ix ix_seq (pv 0) pe_int (fun _ _ => rfl)) pe_int (nomark _))))) (pss_one (ps_ret pe_non)) pss_nil)
      (pss_cons (ps_par (i := 1) (j := 2) rfl sc_segment_of.nd rfl rfl (by decide) rfl rfl (pa_cons (pe_call (ok_number_of T) (hr.mono (by decide)) (by rfl) T.number_of.mg T.number_of.kp T.number_of.b .nil pass0 (pa_cons (pe_slice o_sl (pv 0) (po_some pe_int) (po_some pe_int)) pa_nil)) (pa_cons (pe_call (ok_number_of T) (hr.mono (by decide)) (by rfl) T.number_of.mg T.number_of.kp T.number_of.b .nil pass0 (pa_cons (pe_slice o_sl (pv 0) (po_some pe_int) (po_some pe_int)) pa_nil)) pa_nil)) rfl)
      (pss_one (ps_ret (pe_tupX (pa_cons (pe_ix ix_seq (pv 0) pe_int (fun _ _ => rfl)) (pa_cons (pe_ix ix_seq (pv 0) pe_int (fun _ _ => rfl)) (pa_cons (pe_ix ix_seq (pv 0) pe_int (fun _ _ => rfl)) (pa_cons (pv 1) (pa_cons (pv 2) (pa_cons (pe_ix ix_seq (pv 0) pe_int (fun _ _ => rfl)) (pa_cons (pe_callTy o_tuple (by rfl) T.b_tuple (by decide +kernel) (pa_cons (pe_slice o_sl (pv 0) (po_some (pe_g rfl T.g_HEAD)) po_none) pa_nil)) pa_nil)))))))))))), ?_⟩
    walk_at "eo init"
    walk_at "eo go"
    refine g_ite (fun q => ?_) (fun q => ?_)
    · walk_at "eo go"
      exact k1 (by have := dec_t q; rw [List.length_map] at this; omega)
    · have hq : 12 ≤ ns.length := by have := dec_f q; rw [List.length_map] at this; omega
      have a0 : (ns.map V.int)[0]? = some (.int ns[0]) := by simp [show 0 < ns.length by omega]
      have a1 : (ns.map V.int)[1]? = some (.int ns[1]) := by simp [show 1 < ns.length by omega]
      have a2 : (ns.map V.int)[2]? = some (.int ns[2]) := by simp [show 2 < ns.length by omega]
      have a11 : (ns.map V.int)[11]? = some (.int ns[11]) := by simp [show 11 < ns.length by omega]
      have b0 : ns[0]? = some ns[0] := by simp [show 0 < ns.length by omega]
      have b1 : ns[1]? = some ns[1] := by simp [show 1 < ns.length by omega]
      have b2 : ns[2]? = some ns[2] := by simp [show 2 < ns.length by omega]
      have b11 : ns[11]? = some ns[11] := by simp [show 11 < ns.length by omega]
      walk_at "eo go"
      refine g_ite (fun q2 => ?_) (fun q2 => ?_)
      · walk_at "eo go"
        exact k2 _ b2 (dec_t q2) hq
      · walk_at "eo go"
        rename_i c1 H1 e1 h1
        refine ⟨c1, _, (ns.drop 3).take 4, rfl, h1, ?_, ?_⟩
        · rw [List.drop_take, List.map_take, List.map_drop]
        · walk_at "eo go"
          rename_i c2 H2 e2 h2
          refine ⟨c2, _, (ns.drop 7).take 4, rfl, h2, ?_, ?_⟩
          · rw [List.drop_take, List.map_take, List.map_drop]
          · walk_at "eo go"
            rename_i c3 H3 e3 h3 p4 H4 n4 e4 h4
            rw [← List.map_drop] at h3
            exact k3 _ _ _ _ b0 b1 b2 b11 (by have := dec_f q2; omega) hq c3 p4 H4 (by walk_at "eo ext") (by walk_at "eo sqT") (SqT.of h4)
theorem ok_length_of {A : Adr} (T : Txt K mg A) : FnOk P w K mg base CX0 1 A.f_length_of A.d_length_of ["segment"] (spLenOf K) := by
  refine T.length_of.F.ok sc_length_of (fun vs H Q E h => ?_) (fun cdv Ar outer s H vs Q E hr h => ?_)
  · obtain ⟨a, b, s, g, f, n, k, w, body, rfl, _⟩ := h
    rfl
  · obtain ⟨a, b, s, g, f, n, k, w, body, rfl, ha, hb, kk⟩ := h
    refine ⟨_, (pss_one (ps_ret (pe_op o_add (pe_op o_add (pe_callB o_len (by rfl) T.b_len (by decide +kernel) (pa_cons (pe_ix ix_seq (pv 0) pe_int (fun _ _ => rfl)) pa_nil)) (pe_ifExp (pt_truth (pe_op op_and (pe_ix ix_seq (pv 0) pe_int (fun _ _ => rfl)) (pe_g rfl T.g_SYN)) (by intro _; rfl)) pe_int pe_int)) (pe_ifExp (pt_truth (pe_op op_and (pe_ix ix_seq (pv 0) pe_int (fun _ _ => rfl)) (pe_g rfl T.g_FIN)) (by intro _; rfl)) pe_int pe_int)))), ?_⟩
    walk_at "eo init"
    walk_at "eo go"
    rw [List.length_map]
    refine g_ite (fun q1 => ?_) (fun q1 => ?_)
    all_goals
      walk_at "eo go"
      refine g_ite (fun q2 => ?_) (fun q2 => ?_)
      all_goals
        walk_at "eo go"
        simp only [q1, q2, if_true, Bool.false_eq_true, if_false] at kk
        exact kk
theorem ok_near {A : Adr} (T : Txt K mg A) : FnOk P w K mg base CX0 2 A.f_near A.d_near ["wire", "known"] spNear := by
  refine T.near.F.ok sc_near (fun vs H Q E h => ?_) (fun cdv Ar outer s H vs Q E hr h => ?_)
  · obtain ⟨a, b, rfl, _⟩ := h
    rfl
  · obtain ⟨a, b, rfl, kk⟩ := h
    refine ⟨_, (pss_one (ps_ret (pe_call (ok_nearest T) (hr.mono (by decide)) (by rfl) T.nearest.mg T.nearest.kp T.nearest.b .nil pass0 (pa_cons (pv 0) (pa_cons (pv 1) (pa_cons (pe_g rfl T.g_SPACE) pa_nil)))))), ?_⟩
    walk_at "eo init"
    walk_at "eo go"
    exact kk
def ps4 : List Int := [16777216, 65536, 256, 1]
def f4 (n p : Int) : Int := n / p - 256 * (n / (256 * p))
theorem four_eq (n : Int) (h0 : 0 ≤ n) (h1 : n < 4294967296) : n / 16777216 - 256 * (n / (256 * 16777216)) = n / 65536 / 256 ∧ n / 65536 - 256 * (n / (256 * 65536)) = n / 65536 % 256 ∧ n / 256 - 256 * (n / (256 * 256)) = n % 65536 / 256 ∧ n / 1 - 256 * (n / (256 * 1)) = n % 65536 % 256 := by
  refine ⟨?_, ?_, ?_, ?_⟩ <;> omega
theorem ok_law_four {A : Adr} (T : Txt K mg A) : FnOk P w K mg base CX0 1 A.f_law_four A.d_law_four ["number"] (spLFour K) := by
  refine T.law_four.F.ok sc_law_four (fun vs H Q E h => ?_) (fun cdv Ar outer s H vs Q E hr h => ?_)
  · obtain ⟨n, rfl, _⟩ := h
    rfl
  · obtain ⟨n, rfl, h0, h1, kk⟩ := h
    refine ⟨_, (pss_cons (ps_set (i := 1) sc_law_four.nd rfl (Or.inl rfl) (pe_tupX pa_nil))
      (pss_cons (ps_for PassesOwn.never rfl (pi_tup (pe_tupX (pa_cons pe_int (pa_cons pe_int (pa_cons pe_int (pa_cons pe_int pa_nil)))))) (pg_name (i := 2) sc_law_four.nd rfl (Or.inl rfl)) (pss_one (ps_set (i := 1) sc_law_four.nd rfl (Or.inl rfl) (pe_op o_add (pv 1) (pe_tupX (pa_cons (pe_op op_sub (pe_op op_fdivW (pv 0) (pv 2)) (pe_op o_mul pe_int (pe_op op_fdivW (pv 0) (pe_op o_mul pe_int (pv 2))))) pa_nil))))))
      (pss_one (ps_ret (pv 1))))), ?_⟩
    walk_at "eo init"
    walk_at "eo go"
    rename_i p1 H1 n1 e1 hp1 p2 H2 n2 e2 hp2
    refine g_forT (ps4.map V.int) (fun i σ H' => Ext [] H2 H' ∧ ∃ c x, σ = [some (.int n), some (.ref c), x] ∧ SqT K H' c (((ps4.take i).map (f4 n)).map V.int)) ⟨Ext.refl _, p1, none, rfl, (show SqT K H2 p1 [] from by walk_at "eo sqT")⟩ (fun i σ H' _ ⟨e, _⟩ => sqT_ext e (SqT.of hp2)) ?_ ?_
    · rintro i x σ H' hi ⟨e3, c, x0, rfl, hc⟩
      obtain ⟨z, hz, rfl⟩ := mem_map_int hi
      have hz1 : 0 < z ∧ z ≤ 16777216 := by
        have := List.mem_of_getElem? hz
        simp only [ps4, List.mem_cons, List.not_mem_nil, or_false] at this
        omega
      have hl : i < ps4.length := (List.getElem?_eq_some_iff.mp hz).1
      have hp4 : ps4.length = 4 := rfl
      walk_at "eo go"
      rename_i p4 H4 n4 e4 h4 c5 H5 e5 h5
      have h2 : ps4[i] = z := (List.getElem?_eq_some_iff.mp hz).2
      refine ⟨by walk_at "eo ext", c5, some (.int z), rfl, ?_⟩
      rw [List.take_succ_eq_append_getElem hl, List.map_append, List.map_append, h2]
      exact h5
    · rintro σ H' ⟨e3, c, x0, rfl, hc⟩
      walk_at "eo go"
      obtain ⟨q1, q2, q3, q4⟩ := four_eq n h0 h1
      refine kk c H' (by walk_at "eo ext") ?_
      have e : (ps4.take (ps4.map V.int).length).map (f4 n) = fourL n := by
        show [n / 16777216 - 256 * (n / (256 * 16777216)), n / 65536 - 256 * (n / (256 * 65536)), n / 256 - 256 * (n / (256 * 256)), n / 1 - 256 * (n / (256 * 1))] = _
        rw [q1, q2, q3, q4]
        rfl
      rw [e] at hc
      exact hc
theorem fourL_len (n : Int) : (fourL n).length = 4 := rfl
local macro_rules | `(tactic| walk_at "eo len") => `(tactic| (rw [sizeLine_eq]; simp only [List.length_append, List.length_cons, List.length_nil, List.length_map, List.length_take, List.length_drop, fourL_len]; omega))
section
variable {H : Hp} {Q : VK} {E : XK}
theorem g_lfour {n : Int} (h0 : 0 ≤ n) (h1 : n < 4294967296) (h : ∀ c H', Ext [] H H' → SqT K H' c ((fourL n).map V.int) → Q (.ref c) H') : spLFour K ([.int n] ++ []) H Q E := ⟨n, rfl, h0, h1, h⟩
theorem g_near {w k : Int} (h : Q (.int (nearestI w k 4294967296)) H) : spNear ([.int w, .int k] ++ []) H Q E := ⟨w, k, rfl, h⟩
end
local macro_rules | `(tactic| walk_at "eo step") => `(tactic| first
  | ((with_reducible apply g_lfour); (walk_at "eo arith"); (walk_at "eo arith"); intro _ _ _ _)
  | with_reducible refine g_near ?_)
theorem num4 (n : Int) (h0 : 0 ≤ n) (h1 : n < 4294967296) : num (fourL n) = n := by
  show (((0 * 256 + n / 65536 / 256) * 256 + n / 65536 % 256) * 256 + n % 65536 / 256) * 256 + n % 65536 % 256 = n
  omega
theorem bit1 (f : Int) (h0 : 0 ≤ f) (h1 : f < 16) : (Builtin.bitAnd f 1 != 0) = inV (.int f) [.int 1, .int 3, .int 5, .int 7, .int 9, .int 11, .int 13, .int 15] := by
  obtain ⟨n, rfl⟩ : ∃ n : Nat, f = n := ⟨f.toNat, by omega⟩
  have h : n < 16 := by omega
  have all : ∀ m : Fin 16, (Builtin.bitAnd ((m.val : Nat) : Int) 1 != 0) = inV (.int ((m.val : Nat) : Int)) [.int 1, .int 3, .int 5, .int 7, .int 9, .int 11, .int 13, .int 15] := by decide +kernel
  exact all ⟨n, h⟩
theorem bit4 (f : Int) (h0 : 0 ≤ f) (h1 : f < 16) : (Builtin.bitAnd f 4 != 0) = inV (.int f) [.int 4, .int 5, .int 6, .int 7, .int 12, .int 13, .int 14, .int 15] := by
  obtain ⟨n, rfl⟩ : ∃ n : Nat, f = n := ⟨f.toNat, by omega⟩
  have h : n < 16 := by omega
  have all : ∀ m : Fin 16, (Builtin.bitAnd ((m.val : Nat) : Int) 4 != 0) = inV (.int ((m.val : Nat) : Int)) [.int 4, .int 5, .int 6, .int 7, .int 12, .int 13, .int 14, .int 15] := by decide +kernel
  exact all ⟨n, h⟩
/-- the nearest, so far -/
def Best (w k S : Int) (i : Nat) (b : V) : Prop := (i = 0 ∧ b = .non) ∨ ∃ t : Int, b = .int (w + t * S) ∧ -2 ≤ t ∧ t < -2 + (i : Int) ∧
  (∀ u : Int, -2 ≤ u → u < t → (w + t * S - k).natAbs < (w + u * S - k).natAbs) ∧ ∀ u : Int, t ≤ u → u < -2 + (i : Int) → (w + t * S - k).natAbs ≤ (w + u * S - k).natAbs
theorem Best.one {w k S : Int} {i : Nat} {b : V} (h : Best w k S i b) : (b = .non → Best w k S (i + 1) (.int (w + (-2 + (i : Int)) * S))) ∧
    ∀ z, b = .int z → ((w + (-2 + (i : Int)) * S - k).natAbs < (z - k).natAbs → Best w k S (i + 1) (.int (w + (-2 + (i : Int)) * S))) ∧ (¬ (w + (-2 + (i : Int)) * S - k).natAbs < (z - k).natAbs → Best w k S (i + 1) (.int z)) := by
  rcases h with ⟨rfl, rfl⟩ | ⟨t, rfl, t0, t1, p, q⟩
  · refine ⟨fun _ => .inr ⟨-2, rfl, by omega, by omega, fun u a b => by omega, fun u a b => ?_⟩, fun z e => by cases e⟩
    have e : u = -2 := by omega
    rw [e]; exact Nat.le_refl _
  · refine ⟨fun e => (by cases e), fun z e => ?_⟩
    cases e
    refine ⟨fun l => .inr ⟨-2 + (i : Int), rfl, by omega, by omega, fun u a b => ?_, fun u a b => ?_⟩, fun l => .inr ⟨t, rfl, t0, by omega, p, fun u a b => ?_⟩⟩
    · by_cases c : u < t
      · exact Nat.lt_trans l (p u a c)
      · exact Nat.lt_of_lt_of_le l (q u (by omega) (by omega))
    · have e : u = -2 + (i : Int) := by omega
      rw [e]; exact Nat.le_refl _
    · by_cases c : u < -2 + (i : Int)
      · exact q u a c
      · have e : u = -2 + (i : Int) := by omega
        rw [e]; omega
theorem Best.end_ {w k S : Int} {b : V} (hS : S = 4294967296 ∨ S = 65536 ∨ S = 16) (w0 : 0 ≤ w) (w1 : w < S) (k0 : 0 ≤ k) (k1 : k < 4 * S) (h : Best w k S 10 b) : b = .int (nearestI w k S) := by
  rcases h with ⟨h, _⟩ | ⟨t, rfl, t0, t1, p, q⟩
  · cases h
  · congr 1
    unfold nearestI
    obtain ⟨v, hv⟩ : ∃ v : Int, v = -((w - k) / S) - 1 := ⟨_, rfl⟩
    have p1 := p v
    have q1 := q v
    have p2 := p (v + 1)
    have q2 := q (v + 1)
    clear p q
    rcases hS with rfl | rfl | rfl
    all_goals
      split
      · by_cases c : v < t
        · have := p1 (by omega) c
          omega
        · have := q1 (by omega) (by omega)
          omega
      · by_cases c : v + 1 < t
        · have := p2 (by omega) c
          omega
        · have := q2 (by omega) (by omega)
          omega
theorem ok_law {A : Adr} (T : Txt K mg A) : FnOk P w K mg base CX0 4 A.f_law A.d_law ["script"] (spLaw K) := by
  refine T.law.F.ok sc_law (fun vs H Q E h => ?_) (fun cdv Ar outer s H vs Q E hr h => ?_)
  · obtain ⟨a, ns, rfl, _⟩ := h
    rfl
  · obtain ⟨a, ns, rfl, hS, hlen, k⟩ := h
    refine ⟨_, (pss_cons (ps_set (i := 1) sc_law.nd rfl (Or.inr rfl) (pe_call (ok_law_begin T) (hr.mono (by decide)) (by rfl) T.law_begin.mg T.law_begin.kp T.law_begin.b .nil pass0 (pa_cons (pv 0) pa_nil)))
      (pss_cons (ps_set (i := 2) sc_law.nd rfl (Or.inl rfl) (pe_call (ok_law_take T) (hr.mono (by decide)) (by rfl) T.law_take.mg T.law_take.kp T.law_take.b .nil pass0 (pa_cons (pv 1) (pa_cons pe_int pa_nil))))
      (pss_cons (ps_set (i := 3) sc_law.nd rfl (Or.inr rfl) pe_int)
      (pss_cons (ps_setLc (i := 4) (own := [("k", 15)]) (tt := stT tYes) rfl sc_law.nd rfl rfl (sw_true rfl rfl rfl (by decide +kernel)) (pi_range1 (by rfl) T.b_range (pa_cons pe_int pa_nil)) (blkOk_by (own := [("k", 15)]) (N := ["script", "d", "flags", "whole", "numbers", "segment", "octets", "many", "space", "half", "known", "wire", "best", "turn", "own", "k"]) (sc := defScope s_law) (by decide +kernel)) (fun _ _ _ _ _ => PG.star (pg_name (i := 15) sc_law.nd rfl (Or.inl rfl))) (fun _ _ _ _ _ => PTs.star (pts_nil)) (fun _ _ _ _ _ => PE.star (pe_call (ok_law_pick T) (hr.mono (by decide)) (by rfl) T.law_pick.mg T.law_pick.kp T.law_pick.b .nil pass0 (pa_cons (pv 1) (pa_cons (pe_lstX (pa_cons (pe_call (ok_law_take T) (hr.mono (by decide)) (by rfl) T.law_take.mg T.law_take.kp T.law_take.b .nil pass0 (pa_cons (pv 1) (pa_cons (pv 3) pa_nil))) (pa_cons pe_int (pa_cons pe_int (pa_cons pe_int (pa_cons (pe_op op_sub (pv 3) pe_int) pa_nil)))))) pa_nil)))))
      (pss_cons (ps_set (i := 5) sc_law.nd rfl (Or.inl rfl) (pe_tupX (pa_cons (pe_call (ok_law_take T) (hr.mono (by decide)) (by rfl) T.law_take.mg T.law_take.kp T.law_take.b .nil pass0 (pa_cons (pv 1) (pa_cons pe_int pa_nil))) (pa_cons (pe_call (ok_law_take T) (hr.mono (by decide)) (by rfl) T.law_take.mg T.law_take.kp T.law_take.b .nil pass0 (pa_cons (pv 1) (pa_cons pe_int pa_nil))) (pa_cons (pv 2) (pa_cons (pe_ix ix_seq (pv 4) pe_int (fun _ _ => rfl)) (pa_cons (pe_ix ix_seq (pv 4) pe_int (fun _ _ => rfl)) (pa_cons (pe_call (ok_law_take T) (hr.mono (by decide)) (by rfl) T.law_take.mg T.law_take.kp T.law_take.b .nil pass0 (pa_cons (pv 1) (pa_cons pe_int pa_nil))) (pa_cons (pe_call (ok_law_octets T) (hr.mono (by decide)) (by rfl) T.law_octets.mg T.law_octets.kp T.law_octets.b .nil pass0 (pa_cons (pv 1) (pa_cons pe_int pa_nil))) pa_nil)))))))))
      (pss_cons (ps_set (i := 6) sc_law.nd rfl (Or.inl rfl) (pe_op o_add (pe_op o_add (pe_op o_add (pe_op o_add (pe_slice o_sl (pv 5) po_none (po_some pe_int)) (pe_call (ok_law_four T) (hr.mono (by decide)) (by rfl) T.law_four.mg T.law_four.kp T.law_four.b .nil pass0 (pa_cons (pe_ix ix_seq (pv 4) pe_int (fun _ _ => rfl)) pa_nil))) (pe_call (ok_law_four T) (hr.mono (by decide)) (by rfl) T.law_four.mg T.law_four.kp T.law_four.b .nil pass0 (pa_cons (pe_ix ix_seq (pv 4) pe_int (fun _ _ => rfl)) pa_nil))) (pe_tupX (pa_cons (pe_ix ix_seq (pv 5) pe_int (fun _ _ => rfl)) pa_nil))) (pe_ix ix_seq (pv 5) pe_int (fun _ _ => rfl))))
      (pss_cons (ps_if (PW.pt (pw_or (pt_cmpR (o_ne hr.units) (pe_tupX (pa_cons (pe_g rfl T.g_SYN) (pa_cons (pe_g rfl T.g_ACK) (pa_cons (pe_g rfl T.g_FIN) (pa_cons (pe_g rfl T.g_RST) pa_nil))))) (pe_tupX (pa_cons pe_int (pa_cons pe_int (pa_cons pe_int (pa_cons pe_int pa_nil))))) (nomark _)) (pw_or (pt_cmpR (o_ne hr.units) (pe_call (ok_segment_octets T) (hr.mono (by decide)) (by rfl) T.segment_octets.mg T.segment_octets.kp T.segment_octets.b .nil pass0 (pa_cons (pv 5) pa_nil)) (pv 6) (nomark _)) (pw_or1 (pt_cmpR (o_ne hr.units) (pe_call (ok_segment_of T) (hr.mono (by decide)) (by rfl) T.segment_of.mg T.segment_of.kp T.segment_of.b .nil pass0 (pa_cons (pv 6) pa_nil)) (pv 5) (nomark _)))))) (pss_one (ps_ret pe_bl)) pss_nil)
      (pss_cons (ps_set (i := 7) sc_law.nd rfl (Or.inl rfl) (pe_op o_add (pe_op o_add (pe_callB o_len (by rfl) T.b_len (by decide +kernel) (pa_cons (pe_ix ix_seq (pv 5) pe_int (fun _ _ => rfl)) pa_nil)) (pe_callTy o_int (by rfl) T.b_int (by decide +kernel) (pa_cons (pe_cmpR op_in_seq (pv 2) (pe_tupX (pa_cons pe_int (pa_cons pe_int (pa_cons pe_int (pa_cons pe_int (pa_cons pe_int (pa_cons pe_int (pa_cons pe_int (pa_cons pe_int pa_nil))))))))) rfl) pa_nil))) (pe_callTy o_int (by rfl) T.b_int (by decide +kernel) (pa_cons (pe_cmpR op_in_seq (pv 2) (pe_tupX (pa_cons pe_int (pa_cons pe_int (pa_cons pe_int (pa_cons pe_int (pa_cons pe_int (pa_cons pe_int (pa_cons pe_int (pa_cons pe_int pa_nil))))))))) rfl) pa_nil))))
      (pss_cons (ps_if (PW.pt (pw_or (pt_cmpR (o_ne hr.units) (pe_call (ok_length_of T) (hr.mono (by decide)) (by rfl) T.length_of.mg T.length_of.kp T.length_of.b .nil pass0 (pa_cons (pv 5) pa_nil)) (pv 7) (nomark _)) (pw_or1 (pt_cmpR (o_ne hr.units) (pe_call (ok_four_octets T) (hr.mono (by decide)) (by rfl) T.four_octets.mg T.four_octets.kp T.four_octets.b .nil pass0 (pa_cons (pe_ix ix_seq (pv 4) pe_int (fun _ _ => rfl)) pa_nil)) (pe_call (ok_law_four T) (hr.mono (by decide)) (by rfl) T.law_four.mg T.law_four.kp T.law_four.b .nil pass0 (pa_cons (pe_ix ix_seq (pv 4) pe_int (fun _ _ => rfl)) pa_nil)) (nomark _))))) (pss_one (ps_ret pe_bl)) pss_nil)
      (pss_cons (ps_if (PW.pt (pw_or (pt_cmpR op_notN (pe_call (ok_segment_of T) (hr.mono (by decide)) (by rfl) T.segment_of.mg T.segment_of.kp T.segment_of.b .nil pass0 (pa_cons (pe_slice o_sl (pv 6) po_none (po_some (pe_call (ok_law_take T) (hr.mono (by decide)) (by rfl) T.law_take.mg T.law_take.kp T.law_take.b .nil pass0 (pa_cons (pv 1) (pa_cons pe_int pa_nil))))) pa_nil)) pe_non (nomark _)) (pw_or1 (pt_cmpR op_notN (pe_call (ok_segment_of T) (hr.mono (by decide)) (by rfl) T.segment_of.mg T.segment_of.kp T.segment_of.b .nil pass0 (pa_cons (pe_op o_add (pe_op o_add (pe_slice o_sl (pv 6) po_none (po_some pe_int)) (pe_tupX (pa_cons (pe_op o_add pe_int (pe_call (ok_law_take T) (hr.mono (by decide)) (by rfl) T.law_take.mg T.law_take.kp T.law_take.b .nil pass0 (pa_cons (pv 1) (pa_cons pe_int pa_nil)))) pa_nil))) (pe_slice o_sl (pv 6) (po_some pe_int) po_none)) pa_nil)) pe_non (nomark _))))) (pss_one (ps_ret pe_bl)) pss_nil)
      (pss_cons (ps_set (i := 8) sc_law.nd rfl (Or.inl rfl) (pe_call (ok_law_pick T) (hr.mono (by decide)) (by rfl) T.law_pick.mg T.law_pick.kp T.law_pick.b .nil pass0 (pa_cons (pv 1) (pa_cons (pe_lstX (pa_cons (pv 3) (pa_cons pe_int (pa_cons pe_int pa_nil)))) pa_nil))))
      (pss_cons (ps_set (i := 9) sc_law.nd rfl (Or.inl rfl) (pe_op op_fdivW (pv 8) pe_int))
      (pss_cons (ps_set (i := 10) sc_law.nd rfl (Or.inl rfl) (pe_call (ok_law_pick T) (hr.mono (by decide)) (by rfl) T.law_pick.mg T.law_pick.kp T.law_pick.b .nil pass0 (pa_cons (pv 1) (pa_cons (pe_lstX (pa_cons (pe_call (ok_law_take T) (hr.mono (by decide)) (by rfl) T.law_take.mg T.law_take.kp T.law_take.b .nil pass0 (pa_cons (pv 1) (pa_cons (pe_op o_mul pe_int (pv 8)) pa_nil))) (pa_cons pe_int (pa_cons (pv 9) (pa_cons (pe_op op_sub (pv 8) pe_int) (pa_cons (pv 8) (pa_cons (pe_op o_add (pv 8) (pv 9)) pa_nil))))))) pa_nil))))
      (pss_cons (ps_set (i := 11) sc_law.nd rfl (Or.inl rfl) (pe_call (ok_law_pick T) (hr.mono (by decide)) (by rfl) T.law_pick.mg T.law_pick.kp T.law_pick.b .nil pass0 (pa_cons (pv 1) (pa_cons (pe_lstX (pa_cons (pe_call (ok_law_take T) (hr.mono (by decide)) (by rfl) T.law_take.mg T.law_take.kp T.law_take.b .nil pass0 (pa_cons (pv 1) (pa_cons (pv 8) pa_nil))) (pa_cons (pe_op op_mod (pe_op o_add (pv 10) (pv 9)) (pv 8)) (pa_cons (pe_op op_mod (pe_op op_sub (pe_op o_add (pv 10) (pv 9)) pe_int) (pv 8)) (pa_cons (pe_op op_mod (pv 10) (pv 8)) pa_nil))))) pa_nil))))
      (pss_cons (ps_set (i := 12) sc_law.nd rfl (Or.inl rfl) pe_non)
      (pss_cons (ps_for PassesOwn.never rfl (pi_range2 (by rfl) T.b_range (pa_cons (pe_op op_sub pe_int pe_int) (pa_cons pe_int pa_nil))) (pg_name (i := 13) sc_law.nd rfl (Or.inl rfl)) (pss_cons (ps_set (i := 14) sc_law.nd rfl (Or.inl rfl) (pe_op o_add (pv 11) (pe_op o_mul (pv 13) (pv 8))))
      (pss_one (ps_if (PW.pt (pw_or (pt_cmpR op_isN (pv 12) pe_non (nomark _)) (pw_or1 (pt_cmpR op_lt (pe_callB o_abs (by rfl) T.b_abs (by decide +kernel) (pa_cons (pe_op op_sub (pv 14) (pv 10)) pa_nil)) (pe_callB o_abs (by rfl) T.b_abs (by decide +kernel) (pa_cons (pe_op op_sub (pv 12) (pv 10)) pa_nil)) (nomark _))))) (pss_one (ps_set (i := 12) sc_law.nd rfl (Or.inl rfl) (pv 14))) pss_nil))))
      (pss_one (ps_ret (pe_and (pe_cmpR (o_eq hr.units) (pe_call (ok_nearest T) (hr.mono (by decide)) (by rfl) T.nearest.mg T.nearest.kp T.nearest.b .nil pass0 (pa_cons (pv 11) (pa_cons (pv 10) (pa_cons (pv 8) pa_nil)))) (pv 12) (nomark _)) (pe_one (pe_or (pe_cmpR (o_ne hr.units) (pv 8) (pv 3) (nomark _)) (pe_one (pe_cmpR (o_eq hr.units) (pe_call (ok_near T) (hr.mono (by decide)) (by rfl) T.near.mg T.near.kp T.near.b .nil pass0 (pa_cons (pv 11) (pa_cons (pv 10) pa_nil))) (pv 12) (nomark _)))))))))))))))))))))))), ?_⟩
    walk_at "eo init"
    walk_at "eo go"
    refine ⟨a, ns, rfl, hS, hlen, fun d sc H1 nd nsc e1 hD => ?_⟩
    walk_at "eo go"
    rename_i fl H2 fl0 fl1 e2 hD2
    refine g_lcW walk_range (fun D i H3 acc => DSt H3 d sc ∧ d ≠ D ∧ sc ≠ D ∧ acc.length = i ∧ ∃ ns : List Int, acc = ns.map V.int ∧ ∀ x ∈ ns, 0 ≤ x ∧ x < 4294967296) ?_ (fun _ _ _ _ _ _ => trivial) ?_ ?_
    · intro D H3 hD0 e3 h3
      exact ⟨by walk_at "eo dst", ne_dst1 hD0 hD2, ne_dst2 hD0 hD2, rfl, [], rfl, fun _ h => by cases h⟩
    · rintro D i x H3 H3 acc hi ⟨hD3, nD, nD2, la, ns, rfl, hb⟩ hl ⟨rfl, rfl⟩
      walk_at "eo go"
      refine ⟨rfl, ?_⟩
      walk_at "eo go"
      rename_i t H4 t0 t1 e4 hD4 p H5 np e5 hp v H6 hv e6 hD6
      obtain ⟨z, rfl, z0, z1⟩ : ∃ z : Int, v = .int z ∧ 0 ≤ z ∧ z < 4294967296 := by
        simp only [List.mem_cons, List.not_mem_nil, or_false] at hv
        rcases hv with rfl | rfl | rfl | rfl | rfl
        · exact ⟨_, rfl, t0, t1⟩
        · exact ⟨_, rfl, by decide, by decide⟩
        · exact ⟨_, rfl, by decide, by decide⟩
        · exact ⟨_, rfl, by decide, by decide⟩
        · exact ⟨_, rfl, by decide, by decide⟩
      have h4 : H4 D = some (.lst (ns.map V.int)) := by walk_at "eo fact"
      have h5 : H5 D = some (.lst (ns.map V.int)) := by walk_at "eo fact"
      have h6 : H6 D = some (.lst (ns.map V.int)) := by walk_at "eo fact"
      refine ⟨h6, ?_, fun H7 e7 h7 => ⟨DSt.ext e7 hD6 (nin1 nD) (nin1 nD2), nD, nD2, by rw [List.length_append, la]; rfl, ns ++ [z], by rw [List.map_append]; rfl, ?_⟩⟩
      · rw [la, sizeLine_eq]; omega
      · intro x hx
        rcases List.mem_append.mp hx with hx | hx
        · exact hb x hx
        · rw [List.mem_singleton.mp hx]; exact ⟨z0, z1⟩
    · rintro D H3 acc ⟨hD3, nD, nD2, la, nss, rfl, hb⟩ hl
      obtain ⟨n0, n1, rfl⟩ : ∃ n0 n1, nss = [n0, n1] := by
        match nss, la with
        | [n0, n1], _ => exact ⟨n0, n1, rfl⟩
      have b0 := hb n0 (by simp)
      have b1 := hb n1 (by simp)
      have nd1 : D ≠ d := nD.symm
      walk_at "eo go"
      rename_i s0 G1 s00 s01 eg1 hG1 s1 G2 s10 s11 eg2 hG2 w0 G3 w00 w01 eg3 hG3 cb body G4 eg4 hG4 hcb hb255 hlb ps G5 nps eg5 hps c1 G6 eg6 hc1 c2 G7 eg7 hc2 c3 G8 eg8 hc3 c4 G9 eg9 hc4 c5 G10 eg10 hc5 p6 G11 np6 eg11 hp6 c7 G12 eg12 hc7 co G13 eg13 hco q1 G14 nq1 eg14 hq1 q2 G15 nq2 eg15 hq2
      have hG15 : DSt G15 d sc := by walk_at "eo dst"
      have len12 : ([s0, s1, fl] ++ fourL n0 ++ fourL n1 ++ [w0] ++ body).length = body.length + 12 := rfl
      have hco0 : SqT K G15 co (([s0, s1, fl] ++ fourL n0 ++ fourL n1 ++ [w0] ++ body).map V.int) := by
        refine sqT_cast (xs := [V.int s0, V.int s1, V.int fl] ++ List.map V.int (fourL n0) ++ List.map V.int (fourL n1) ++ [V.int w0] ++ List.map V.int body) (by walk_at "eo sqT") ?_
        rw [List.map_append, List.map_append, List.map_append, List.map_append]
        rfl
      refine ⟨ps, cb, s0, s1, fl, n0, n1, w0, body, rfl, by walk_at "eo sqT", by walk_at "eo sqT", by omega, fun co2 G16 eg16 hco2 => ?_⟩
      walk_at "eo go"
      refine ⟨co, _, _, rfl, (by walk_at "eo sqT" : SqT K G16 co (([s0, s1, fl] ++ fourL n0 ++ fourL n1 ++ [w0] ++ body).map V.int)), rfl, by omega, fun h => by omega, fun x hx h15 _ => ?_, fun x0 x1 x2 x11 h0 h1 h2 h11 h15 _ cb2 cc G17 eg17 hcb2 hcc => ?_⟩
      · have e : fl = x := Option.some.inj hx
        omega
      · have e0 : s0 = x0 := Option.some.inj h0
        have e1' : s1 = x1 := Option.some.inj h1
        have e2' : fl = x2 := Option.some.inj h2
        have e11 : w0 = x11 := Option.some.inj h11
        subst e0 e1' e2' e11
        have f1 : num (([s0, s1, fl] ++ fourL n0 ++ fourL n1 ++ [w0] ++ body).drop 3 |>.take 4) = n0 := num4 n0 b0.1 b0.2
        have f2 : num (([s0, s1, fl] ++ fourL n0 ++ fourL n1 ++ [w0] ++ body).drop 7 |>.take 4) = n1 := num4 n1 b1.1 b1.2
        rw [f1, f2] at hcc
        walk_at "eo go"
        refine ⟨ps, cb, s0, s1, fl, n0, n1, w0, body, rfl, by walk_at "eo sqT", by walk_at "eo sqT", ?_⟩
        walk_at "eo go"
        refine g_iteDF (by rw [bit1 fl fl0 fl1, bit4 fl fl0 fl1, List.length_map]; simp) ?_
        walk_at "eo go"
        rename_i kt Ga kt0 kt1 ega hGa ct Gb egb hct
        have ect : cutV (List.map V.int ([s0, s1, fl] ++ fourL n0 ++ fourL n1 ++ [w0] ++ body)) none (some kt) = (([s0, s1, fl] ++ fourL n0 ++ fourL n1 ++ [w0] ++ body).take kt.toNat).map V.int := by
          rw [show kt = ((kt.toNat : Nat) : Int) by omega, cut_to, List.map_take]
          rfl
        refine ⟨ct, _, _, rfl, hct, ect, ?_, ?_, ?_, ?_⟩
        · rw [List.length_take]; omega
        · intro _
          walk_at "eo go"
          rename_i cA GA eA hcA kf GB kf0 kf1 eB hGB pC GC nC eC hpC cD GD eD hcD cE GE eE hcE cF GF eF hcF
          have hGF : DSt GF d sc := by walk_at "eo dst"
          refine ⟨cF, _, s0 :: s1 :: (16 + kf) :: ([s0, s1, fl] ++ fourL n0 ++ fourL n1 ++ [w0] ++ body).drop 3, rfl, hcF, rfl, ?_, ?_, ?_, ?_⟩
          · rw [List.length_cons, List.length_cons, List.length_cons, List.length_drop]; omega
          · intro h
            rw [List.length_cons, List.length_cons, List.length_cons, List.length_drop] at h
            omega
          · intro x hx h15 _
            walk_at "eo go"
            rename_i pG GG nG eG hpG vS GH hvS eH hGH
            obtain ⟨S, rfl, hS⟩ : ∃ S, vS = .int S ∧ (S = 4294967296 ∨ S = 65536 ∨ S = 16) := by
              simp only [List.mem_cons, List.not_mem_nil, or_false] at hvS
              rcases hvS with rfl | rfl | rfl
              · exact ⟨_, rfl, .inl rfl⟩
              · exact ⟨_, rfl, .inr (.inl rfl)⟩
              · exact ⟨_, rfl, .inr (.inr rfl)⟩
            have S0 : 0 < S ∧ S ≤ 4294967296 := by omega
            walk_at "eo go"
            rename_i ka GI ka0 ka1 eI hGI pJ GJ nJ eJ hpJ vK GK hvK eK hGK kb GL kb0 kb1 eL hGL
            obtain ⟨kn, rfl, kn0, kn1⟩ : ∃ z, vK = .int z ∧ 0 ≤ z ∧ z < 4 * S := by
              simp only [List.mem_cons, List.not_mem_nil, or_false] at hvK
              rcases hvK with rfl | rfl | rfl | rfl | rfl | rfl <;> exact ⟨_, rfl, by omega, by omega⟩
            walk_at "eo go"
            rename_i pM GM nM eM hpM vN GN hvN eN hGN
            obtain ⟨wr, rfl, wr0, wr1⟩ : ∃ z, vN = .int z ∧ 0 ≤ z ∧ z < S := by
              simp only [List.mem_cons, List.not_mem_nil, or_false] at hvN
              rcases hvN with rfl | rfl | rfl | rfl
              · exact ⟨_, rfl, by omega, by omega⟩
              all_goals exact ⟨_, rfl, Int.emod_nonneg _ (by omega), Int.emod_lt_of_pos _ S0.1⟩
            walk_at "eo go"
            refine g_forR (fun i σ H' => H' = GN ∧ ∃ (bv : V) (s13 s14 s15 : Option V), σ = [some (.ref a), some (.ref d), some (.int fl), some (.int 4294967296), some (.ref D), some (.ref ps), some (.ref co), some (.int ((((List.map V.int body).length : Int) +
                  if inV (V.int fl) [V.int 1, V.int 3, V.int 5, V.int 7, V.int 9, V.int 11, V.int 13, V.int 15] = true then 1 else 0) +
                if inV (V.int fl) [V.int 4, V.int 5, V.int 6, V.int 7, V.int 12, V.int 13, V.int 14, V.int 15] = true then 1 else 0)), some (.int S), some (.int (S / 2)), some (.int kn), some (.int wr), some bv, s13, s14, s15] ∧ Best wr kn S i bv)
              ⟨rfl, .non, none, none, none, rfl, .inl ⟨rfl, rfl⟩⟩ ?_ ?_
            · rintro i σ H' hi ⟨rfl, bv, s13, s14, s15, rfl, hB⟩
              have hi10 : i < 10 := hi
              have et : (0 - 2 + (i : Int)) = -2 + (i : Int) := by omega
              obtain ⟨o1, o2⟩ := hB.one
              rcases hB with ⟨_, rfl⟩ | ⟨t, rfl, _⟩
              · walk_at "eo go"
                exact ⟨rfl, _, _, _, _, rfl, by rw [et]; exact o1 rfl⟩
              · obtain ⟨o3, o4⟩ := o2 _ rfl
                walk_at "eo go"
                refine g_ite (fun z1 => ?_) (fun z1 => ?_)
                · have z2 := dec_t z1
                  walk_at "eo go"
                  exact ⟨rfl, _, _, _, _, rfl, by rw [et]; exact o3 (by rw [et] at z2; omega)⟩
                · have z2 := dec_f z1
                  walk_at "eo go"
                  exact ⟨rfl, _, _, _, _, rfl, o4 (by rw [et] at z2; omega)⟩
            · rintro σ H' ⟨rfl, bv, s13, s14, s15, rfl, hB⟩
              have hbv := Best.end_ hS wr0 wr1 kn0 kn1 hB
              subst hbv
              walk_at "eo go"
              refine g_ite (fun z1 => ?_) (fun z1 => ?_)
              · exact k _
              · have z2 : S = 4294967296 := by
                  have h : decide (V.int S = V.int 4294967296) = true := by
                    cases e : decide (V.int S = V.int 4294967296) with
                    | true => rfl
                    | false => rw [e] at z1; cases z1
                  exact vint (dec_t h)
                subst z2
                walk_at "eo go"
                exact k _
          · intro x0 x1 x2 x11 _ _ h2 _ h15 _
            have e : 16 + kf = x2 := Option.some.inj h2
            omega
        · intro x _ _ h
          rw [List.length_take] at h
          omega
        · intro x0 x1 x2 x11 _ _ _ _ _ h
          rw [List.length_take] at h
          omega
end
set_option maxHeartbeats 4000000 in
theorem all_mk {l : PySem.W.OpenLaw} {w : World} {K : PySem.W.Frag} {h : Heap} {mg : Str → Option Value} {fa : Addr} (X : K.In h) (G : h.Ns mainGlobals mg) (hfa : mg "law" = some (.ref fa))
    {od_two_octets an_two_octets : Option Addr} {sl_two_octets : Array (Option Value)} {oc_two_octets kV_two_octets dc_two_octets pm_two_octets cd_two_octets ct_two_octets : Value} {f_two_octets : Addr}
    {od_four_octets an_four_octets : Option Addr} {sl_four_octets : Array (Option Value)} {oc_four_octets kV_four_octets dc_four_octets pm_four_octets cd_four_octets ct_four_octets : Value} {f_four_octets : Addr}
    {od_number_of an_number_of : Option Addr} {sl_number_of : Array (Option Value)} {oc_number_of kV_number_of dc_number_of pm_number_of cd_number_of ct_number_of : Value} {f_number_of : Addr}
    {od_nearest an_nearest : Option Addr} {sl_nearest : Array (Option Value)} {oc_nearest kV_nearest dc_nearest pm_nearest cd_nearest ct_nearest : Value} {f_nearest : Addr}
    {od_segment_octets an_segment_octets : Option Addr} {sl_segment_octets : Array (Option Value)} {oc_segment_octets kV_segment_octets dc_segment_octets pm_segment_octets cd_segment_octets ct_segment_octets : Value} {f_segment_octets : Addr}
    {od_segment_of an_segment_of : Option Addr} {sl_segment_of : Array (Option Value)} {oc_segment_of kV_segment_of dc_segment_of pm_segment_of cd_segment_of ct_segment_of : Value} {f_segment_of : Addr}
    {od_length_of an_length_of : Option Addr} {sl_length_of : Array (Option Value)} {oc_length_of kV_length_of dc_length_of pm_length_of cd_length_of ct_length_of : Value} {f_length_of : Addr}
    {od_near an_near : Option Addr} {sl_near : Array (Option Value)} {oc_near kV_near dc_near pm_near cd_near ct_near : Value} {f_near : Addr}
    {od_law_begin an_law_begin : Option Addr} {sl_law_begin : Array (Option Value)} {oc_law_begin kV_law_begin dc_law_begin pm_law_begin cd_law_begin ct_law_begin : Value} {f_law_begin : Addr}
    {od_law_take an_law_take : Option Addr} {sl_law_take : Array (Option Value)} {oc_law_take kV_law_take dc_law_take pm_law_take cd_law_take ct_law_take : Value} {f_law_take : Addr}
    {od_law_pick an_law_pick : Option Addr} {sl_law_pick : Array (Option Value)} {oc_law_pick kV_law_pick dc_law_pick pm_law_pick cd_law_pick ct_law_pick : Value} {f_law_pick : Addr}
    {od_law_octets an_law_octets : Option Addr} {sl_law_octets : Array (Option Value)} {oc_law_octets kV_law_octets dc_law_octets pm_law_octets cd_law_octets ct_law_octets : Value} {f_law_octets : Addr}
    {od_law_four an_law_four : Option Addr} {sl_law_four : Array (Option Value)} {oc_law_four kV_law_four dc_law_four pm_law_four cd_law_four ct_law_four : Value} {f_law_four : Addr}
    {od_law an_law : Option Addr} {sl_law : Array (Option Value)} {oc_law kV_law dc_law pm_law cd_law ct_law : Value} {f_law : Addr}
    {v_MOST : Tok}
    {v_HEAD : Tok}
    {v_SYN : Tok}
    {v_FIN : Tok}
    {v_SPACE : Tok}
    {v_ACK : Tok}
    {v_RST : Tok}
    (a_two_octets : PySem.W.nsIn K mainGlobals "two_octets" = some (some (.ref f_two_octets)))
    (l_two_octets : K.lookup f_two_octets = some ⟨oc_two_octets, od_two_octets, .func (PySem.W.fnOf "two_octets" "two_octets" (defArgs s_two_octets) (defBody s_two_octets) (defScope s_two_octets) .none kV_two_octets dc_two_octets pm_two_octets an_two_octets cd_two_octets ct_two_octets), sl_two_octets⟩)
    (k_two_octets : PySem.W.codeIn K cd_two_octets "two_octets" = true)
    (p_two_octets : PySem.W.keepIn K (.ref f_two_octets) = true)
    (a_four_octets : PySem.W.nsIn K mainGlobals "four_octets" = some (some (.ref f_four_octets)))
    (l_four_octets : K.lookup f_four_octets = some ⟨oc_four_octets, od_four_octets, .func (PySem.W.fnOf "four_octets" "four_octets" (defArgs s_four_octets) (defBody s_four_octets) (defScope s_four_octets) .none kV_four_octets dc_four_octets pm_four_octets an_four_octets cd_four_octets ct_four_octets), sl_four_octets⟩)
    (k_four_octets : PySem.W.codeIn K cd_four_octets "four_octets" = true)
    (p_four_octets : PySem.W.keepIn K (.ref f_four_octets) = true)
    (a_number_of : PySem.W.nsIn K mainGlobals "number_of" = some (some (.ref f_number_of)))
    (l_number_of : K.lookup f_number_of = some ⟨oc_number_of, od_number_of, .func (PySem.W.fnOf "number_of" "number_of" (defArgs s_number_of) (defBody s_number_of) (defScope s_number_of) .none kV_number_of dc_number_of pm_number_of an_number_of cd_number_of ct_number_of), sl_number_of⟩)
    (k_number_of : PySem.W.codeIn K cd_number_of "number_of" = true)
    (p_number_of : PySem.W.keepIn K (.ref f_number_of) = true)
    (a_nearest : PySem.W.nsIn K mainGlobals "nearest" = some (some (.ref f_nearest)))
    (l_nearest : K.lookup f_nearest = some ⟨oc_nearest, od_nearest, .func (PySem.W.fnOf "nearest" "nearest" (defArgs s_nearest) (defBody s_nearest) (defScope s_nearest) .none kV_nearest dc_nearest pm_nearest an_nearest cd_nearest ct_nearest), sl_nearest⟩)
    (k_nearest : PySem.W.codeIn K cd_nearest "nearest" = true)
    (p_nearest : PySem.W.keepIn K (.ref f_nearest) = true)
    (a_segment_octets : PySem.W.nsIn K mainGlobals "segment_octets" = some (some (.ref f_segment_octets)))
    (l_segment_octets : K.lookup f_segment_octets = some ⟨oc_segment_octets, od_segment_octets, .func (PySem.W.fnOf "segment_octets" "segment_octets" (defArgs s_segment_octets) (defBody s_segment_octets) (defScope s_segment_octets) .none kV_segment_octets dc_segment_octets pm_segment_octets an_segment_octets cd_segment_octets ct_segment_octets), sl_segment_octets⟩)
    (k_segment_octets : PySem.W.codeIn K cd_segment_octets "segment_octets" = true)
    (p_segment_octets : PySem.W.keepIn K (.ref f_segment_octets) = true)
    (a_segment_of : PySem.W.nsIn K mainGlobals "segment_of" = some (some (.ref f_segment_of)))
    (l_segment_of : K.lookup f_segment_of = some ⟨oc_segment_of, od_segment_of, .func (PySem.W.fnOf "segment_of" "segment_of" (defArgs s_segment_of) (defBody s_segment_of) (defScope s_segment_of) .none kV_segment_of dc_segment_of pm_segment_of an_segment_of cd_segment_of ct_segment_of), sl_segment_of⟩)
    (k_segment_of : PySem.W.codeIn K cd_segment_of "segment_of" = true)
    (p_segment_of : PySem.W.keepIn K (.ref f_segment_of) = true)
    (a_length_of : PySem.W.nsIn K mainGlobals "length_of" = some (some (.ref f_length_of)))
    (l_length_of : K.lookup f_length_of = some ⟨oc_length_of, od_length_of, .func (PySem.W.fnOf "length_of" "length_of" (defArgs s_length_of) (defBody s_length_of) (defScope s_length_of) .none kV_length_of dc_length_of pm_length_of an_length_of cd_length_of ct_length_of), sl_length_of⟩)
    (k_length_of : PySem.W.codeIn K cd_length_of "length_of" = true)
    (p_length_of : PySem.W.keepIn K (.ref f_length_of) = true)
    (a_near : PySem.W.nsIn K mainGlobals "near" = some (some (.ref f_near)))
    (l_near : K.lookup f_near = some ⟨oc_near, od_near, .func (PySem.W.fnOf "near" "near" (defArgs s_near) (defBody s_near) (defScope s_near) .none kV_near dc_near pm_near an_near cd_near ct_near), sl_near⟩)
    (k_near : PySem.W.codeIn K cd_near "near" = true)
    (p_near : PySem.W.keepIn K (.ref f_near) = true)
    (a_law_begin : PySem.W.nsIn K mainGlobals "_law_begin" = some (some (.ref f_law_begin)))
    (l_law_begin : K.lookup f_law_begin = some ⟨oc_law_begin, od_law_begin, .func (PySem.W.fnOf "_law_begin" "_law_begin" (defArgs s_law_begin) (defBody s_law_begin) (defScope s_law_begin) .none kV_law_begin dc_law_begin pm_law_begin an_law_begin cd_law_begin ct_law_begin), sl_law_begin⟩)
    (k_law_begin : PySem.W.codeIn K cd_law_begin "_law_begin" = true)
    (p_law_begin : PySem.W.keepIn K (.ref f_law_begin) = true)
    (a_law_take : PySem.W.nsIn K mainGlobals "_law_take" = some (some (.ref f_law_take)))
    (l_law_take : K.lookup f_law_take = some ⟨oc_law_take, od_law_take, .func (PySem.W.fnOf "_law_take" "_law_take" (defArgs s_law_take) (defBody s_law_take) (defScope s_law_take) .none kV_law_take dc_law_take pm_law_take an_law_take cd_law_take ct_law_take), sl_law_take⟩)
    (k_law_take : PySem.W.codeIn K cd_law_take "_law_take" = true)
    (p_law_take : PySem.W.keepIn K (.ref f_law_take) = true)
    (a_law_pick : PySem.W.nsIn K mainGlobals "_law_pick" = some (some (.ref f_law_pick)))
    (l_law_pick : K.lookup f_law_pick = some ⟨oc_law_pick, od_law_pick, .func (PySem.W.fnOf "_law_pick" "_law_pick" (defArgs s_law_pick) (defBody s_law_pick) (defScope s_law_pick) .none kV_law_pick dc_law_pick pm_law_pick an_law_pick cd_law_pick ct_law_pick), sl_law_pick⟩)
    (k_law_pick : PySem.W.codeIn K cd_law_pick "_law_pick" = true)
    (p_law_pick : PySem.W.keepIn K (.ref f_law_pick) = true)
    (a_law_octets : PySem.W.nsIn K mainGlobals "_law_octets" = some (some (.ref f_law_octets)))
    (l_law_octets : K.lookup f_law_octets = some ⟨oc_law_octets, od_law_octets, .func (PySem.W.fnOf "_law_octets" "_law_octets" (defArgs s_law_octets) (defBody s_law_octets) (defScope s_law_octets) .none kV_law_octets dc_law_octets pm_law_octets an_law_octets cd_law_octets ct_law_octets), sl_law_octets⟩)
    (k_law_octets : PySem.W.codeIn K cd_law_octets "_law_octets" = true)
    (p_law_octets : PySem.W.keepIn K (.ref f_law_octets) = true)
    (a_law_four : PySem.W.nsIn K mainGlobals "_law_four" = some (some (.ref f_law_four)))
    (l_law_four : K.lookup f_law_four = some ⟨oc_law_four, od_law_four, .func (PySem.W.fnOf "_law_four" "_law_four" (defArgs s_law_four) (defBody s_law_four) (defScope s_law_four) .none kV_law_four dc_law_four pm_law_four an_law_four cd_law_four ct_law_four), sl_law_four⟩)
    (k_law_four : PySem.W.codeIn K cd_law_four "_law_four" = true)
    (p_law_four : PySem.W.keepIn K (.ref f_law_four) = true)
    (a_law : PySem.W.nsIn K mainGlobals "law" = some (some (.ref f_law)))
    (l_law : K.lookup f_law = some ⟨oc_law, od_law, .func (PySem.W.fnOf "law" "law" (defArgs s_law) (defBody s_law) (defScope s_law) .none kV_law dc_law pm_law an_law cd_law ct_law), sl_law⟩)
    (k_law : PySem.W.codeIn K cd_law "law" = true)
    (p_law : PySem.W.keepIn K (.ref f_law) = true)
    (z_tuple : PySem.W.nsIn K mainGlobals "tuple" = some none)
    (z_len : PySem.W.nsIn K mainGlobals "len" = some none)
    (z_int : PySem.W.nsIn K mainGlobals "int" = some none)
    (z_list : PySem.W.nsIn K mainGlobals "list" = some none)
    (z_abs : PySem.W.nsIn K mainGlobals "abs" = some none)
    (z_range : PySem.W.nsIn K mainGlobals "range" = some none)
    (gv_MOST : PySem.W.nsIn K mainGlobals "MOST" = some (some (.int 65536 v_MOST)))
    (gv_HEAD : PySem.W.nsIn K mainGlobals "HEAD" = some (some (.int 12 v_HEAD)))
    (gv_SYN : PySem.W.nsIn K mainGlobals "SYN" = some (some (.int 1 v_SYN)))
    (gv_FIN : PySem.W.nsIn K mainGlobals "FIN" = some (some (.int 4 v_FIN)))
    (gv_SPACE : PySem.W.nsIn K mainGlobals "SPACE" = some (some (.int 4294967296 v_SPACE)))
    (gv_ACK : PySem.W.nsIn K mainGlobals "ACK" = some (some (.int 2 v_ACK)))
    (gv_RST : PySem.W.nsIn K mainGlobals "RST" = some (some (.int 8 v_RST))) :
    ∃ fd : FuncData, (∀ (s : Shared) (v : Value), BindsTo s fd ⟨[v], []⟩ [("script", v)]) ∧ ∀ base : Heap, K.In base → base.Ns mainGlobals mg → FnOk l.prog w K mg base CX0 4 fa fd ["script"] (spLaw K) := by
  have e := hfa.symm.trans (PySem.W.mg_of X G a_law)
  cases e
  have F_two_octets := fun_mk (st := s_two_octets) l_two_octets k_two_octets p_two_octets
  have b_two_octets := F_two_octets.binds (ps := ["n"]) fun _ _ _ _ _ _ us hl => match us, hl with | [_], _ => rfl
  have F_four_octets := fun_mk (st := s_four_octets) l_four_octets k_four_octets p_four_octets
  have b_four_octets := F_four_octets.binds (ps := ["number"]) fun _ _ _ _ _ _ us hl => match us, hl with | [_], _ => rfl
  have F_number_of := fun_mk (st := s_number_of) l_number_of k_number_of p_number_of
  have b_number_of := F_number_of.binds (ps := ["octets"]) fun _ _ _ _ _ _ us hl => match us, hl with | [_], _ => rfl
  have F_nearest := fun_mk (st := s_nearest) l_nearest k_nearest p_nearest
  have b_nearest := F_nearest.binds (ps := ["wire", "known", "space"]) fun _ _ _ _ _ _ us hl => match us, hl with | [_, _, _], _ => rfl
  have F_segment_octets := fun_mk (st := s_segment_octets) l_segment_octets k_segment_octets p_segment_octets
  have b_segment_octets := F_segment_octets.binds (ps := ["segment"]) fun _ _ _ _ _ _ us hl => match us, hl with | [_], _ => rfl
  have F_segment_of := fun_mk (st := s_segment_of) l_segment_of k_segment_of p_segment_of
  have b_segment_of := F_segment_of.binds (ps := ["octets"]) fun _ _ _ _ _ _ us hl => match us, hl with | [_], _ => rfl
  have F_length_of := fun_mk (st := s_length_of) l_length_of k_length_of p_length_of
  have b_length_of := F_length_of.binds (ps := ["segment"]) fun _ _ _ _ _ _ us hl => match us, hl with | [_], _ => rfl
  have F_near := fun_mk (st := s_near) l_near k_near p_near
  have b_near := F_near.binds (ps := ["wire", "known"]) fun _ _ _ _ _ _ us hl => match us, hl with | [_, _], _ => rfl
  have F_law_begin := fun_mk (st := s_law_begin) l_law_begin k_law_begin p_law_begin
  have b_law_begin := F_law_begin.binds (ps := ["script"]) fun _ _ _ _ _ _ us hl => match us, hl with | [_], _ => rfl
  have F_law_take := fun_mk (st := s_law_take) l_law_take k_law_take p_law_take
  have b_law_take := F_law_take.binds (ps := ["d", "many"]) fun _ _ _ _ _ _ us hl => match us, hl with | [_, _], _ => rfl
  have F_law_pick := fun_mk (st := s_law_pick) l_law_pick k_law_pick p_law_pick
  have b_law_pick := F_law_pick.binds (ps := ["d", "menu"]) fun _ _ _ _ _ _ us hl => match us, hl with | [_, _], _ => rfl
  have F_law_octets := fun_mk (st := s_law_octets) l_law_octets k_law_octets p_law_octets
  have b_law_octets := F_law_octets.binds (ps := ["d", "most"]) fun _ _ _ _ _ _ us hl => match us, hl with | [_, _], _ => rfl
  have F_law_four := fun_mk (st := s_law_four) l_law_four k_law_four p_law_four
  have b_law_four := F_law_four.binds (ps := ["number"]) fun _ _ _ _ _ _ us hl => match us, hl with | [_], _ => rfl
  have F_law := fun_mk (st := s_law) l_law k_law p_law
  have b_law := F_law.binds (ps := ["script"]) fun _ _ _ _ _ _ us hl => match us, hl with | [_], _ => rfl
  have T : Txt K mg ⟨f_two_octets, PySem.W.fnOf "two_octets" "two_octets" (defArgs s_two_octets) (defBody s_two_octets) (defScope s_two_octets) .none kV_two_octets dc_two_octets pm_two_octets an_two_octets cd_two_octets ct_two_octets, f_four_octets, PySem.W.fnOf "four_octets" "four_octets" (defArgs s_four_octets) (defBody s_four_octets) (defScope s_four_octets) .none kV_four_octets dc_four_octets pm_four_octets an_four_octets cd_four_octets ct_four_octets, f_number_of, PySem.W.fnOf "number_of" "number_of" (defArgs s_number_of) (defBody s_number_of) (defScope s_number_of) .none kV_number_of dc_number_of pm_number_of an_number_of cd_number_of ct_number_of, f_nearest, PySem.W.fnOf "nearest" "nearest" (defArgs s_nearest) (defBody s_nearest) (defScope s_nearest) .none kV_nearest dc_nearest pm_nearest an_nearest cd_nearest ct_nearest, f_segment_octets, PySem.W.fnOf "segment_octets" "segment_octets" (defArgs s_segment_octets) (defBody s_segment_octets) (defScope s_segment_octets) .none kV_segment_octets dc_segment_octets pm_segment_octets an_segment_octets cd_segment_octets ct_segment_octets, f_segment_of, PySem.W.fnOf "segment_of" "segment_of" (defArgs s_segment_of) (defBody s_segment_of) (defScope s_segment_of) .none kV_segment_of dc_segment_of pm_segment_of an_segment_of cd_segment_of ct_segment_of, f_length_of, PySem.W.fnOf "length_of" "length_of" (defArgs s_length_of) (defBody s_length_of) (defScope s_length_of) .none kV_length_of dc_length_of pm_length_of an_length_of cd_length_of ct_length_of, f_near, PySem.W.fnOf "near" "near" (defArgs s_near) (defBody s_near) (defScope s_near) .none kV_near dc_near pm_near an_near cd_near ct_near, f_law_begin, PySem.W.fnOf "_law_begin" "_law_begin" (defArgs s_law_begin) (defBody s_law_begin) (defScope s_law_begin) .none kV_law_begin dc_law_begin pm_law_begin an_law_begin cd_law_begin ct_law_begin, f_law_take, PySem.W.fnOf "_law_take" "_law_take" (defArgs s_law_take) (defBody s_law_take) (defScope s_law_take) .none kV_law_take dc_law_take pm_law_take an_law_take cd_law_take ct_law_take, f_law_pick, PySem.W.fnOf "_law_pick" "_law_pick" (defArgs s_law_pick) (defBody s_law_pick) (defScope s_law_pick) .none kV_law_pick dc_law_pick pm_law_pick an_law_pick cd_law_pick ct_law_pick, f_law_octets, PySem.W.fnOf "_law_octets" "_law_octets" (defArgs s_law_octets) (defBody s_law_octets) (defScope s_law_octets) .none kV_law_octets dc_law_octets pm_law_octets an_law_octets cd_law_octets ct_law_octets, f_law_four, PySem.W.fnOf "_law_four" "_law_four" (defArgs s_law_four) (defBody s_law_four) (defScope s_law_four) .none kV_law_four dc_law_four pm_law_four an_law_four cd_law_four ct_law_four, fa, PySem.W.fnOf "law" "law" (defArgs s_law) (defBody s_law) (defScope s_law) .none kV_law dc_law pm_law an_law cd_law ct_law⟩ := ⟨⟨F_two_octets, PySem.W.mg_of X G a_two_octets, p_two_octets, b_two_octets⟩, ⟨F_four_octets, PySem.W.mg_of X G a_four_octets, p_four_octets, b_four_octets⟩, ⟨F_number_of, PySem.W.mg_of X G a_number_of, p_number_of, b_number_of⟩, ⟨F_nearest, PySem.W.mg_of X G a_nearest, p_nearest, b_nearest⟩, ⟨F_segment_octets, PySem.W.mg_of X G a_segment_octets, p_segment_octets, b_segment_octets⟩, ⟨F_segment_of, PySem.W.mg_of X G a_segment_of, p_segment_of, b_segment_of⟩, ⟨F_length_of, PySem.W.mg_of X G a_length_of, p_length_of, b_length_of⟩, ⟨F_near, PySem.W.mg_of X G a_near, p_near, b_near⟩, ⟨F_law_begin, PySem.W.mg_of X G a_law_begin, p_law_begin, b_law_begin⟩, ⟨F_law_take, PySem.W.mg_of X G a_law_take, p_law_take, b_law_take⟩, ⟨F_law_pick, PySem.W.mg_of X G a_law_pick, p_law_pick, b_law_pick⟩, ⟨F_law_octets, PySem.W.mg_of X G a_law_octets, p_law_octets, b_law_octets⟩, ⟨F_law_four, PySem.W.mg_of X G a_law_four, p_law_four, b_law_four⟩, ⟨F_law, PySem.W.mg_of X G a_law, p_law, b_law⟩, PySem.W.mg_none_of X G z_tuple, PySem.W.mg_none_of X G z_len, PySem.W.mg_none_of X G z_int, PySem.W.mg_none_of X G z_list, PySem.W.mg_none_of X G z_abs, PySem.W.mg_none_of X G z_range, ⟨_, PySem.W.mg_of X G gv_MOST, ⟨_, rfl⟩⟩, ⟨_, PySem.W.mg_of X G gv_HEAD, ⟨_, rfl⟩⟩, ⟨_, PySem.W.mg_of X G gv_SYN, ⟨_, rfl⟩⟩, ⟨_, PySem.W.mg_of X G gv_FIN, ⟨_, rfl⟩⟩, ⟨_, PySem.W.mg_of X G gv_SPACE, ⟨_, rfl⟩⟩, ⟨_, PySem.W.mg_of X G gv_ACK, ⟨_, rfl⟩⟩, ⟨_, PySem.W.mg_of X G gv_RST, ⟨_, rfl⟩⟩⟩
  exact ⟨_, fun s v => .of_eq rfl, fun base _ _ => ok_law T⟩
theorem walk {l : PySem.W.OpenLaw} {q : Program} {loose : List Str} {XP : (Str → Option Value) → Heap → Prop} {YP : World → Heap → Prop} {d : DefRec} {K : Params → PySem.W.Frag} (hn : l.most = some 63) (hdf : d.params.defaults = [])
    (hY : ∀ (w : World) (h : Heap), YP w h → (K w.params).In h)
    (F : ∀ (w : World) (mg : Str → Option Value) (fa : Addr) (h : Heap), (K w.params).In h → h.Ns mainGlobals mg → mg d.name = some (.ref fa) →
      ∃ fd : FuncData, (∀ (s : Shared) (u : Value), BindsTo s fd ⟨[u], []⟩ [("script", u)]) ∧ ∀ base : Heap, (K w.params).In base → base.Ns mainGlobals mg → FnOk l.prog w (K w.params) mg base CX0 4 fa fd ["script"] (spLaw (K w.params))) :
    PySem.W.WalkO q loose XP YP l.row.toRowW d [] (fun f vs => PySem.call f vs) :=
  L2.walk_of (n := 63) (k := 4) (x := "script") (CX := fun _ => CX0) (sp := fun w => spLaw (K w.params)) hn (by decide) hdf ⟨rfl, by decide, by decide⟩ hY F (fun _ _ a ns hl _ hS => ⟨a, ns, rfl, hS, hl, fun _ => rfl⟩) fun _ _ _ _ _ z => z
end Eo09
open PySem PySem.W PyProof.Rows
set_option maxRecDepth 100000 in
set_option maxHeartbeats 0 in
theorem PySem.Challenge.cw_everyoctetonce_k09_segments_holds : PySem.Challenge.rw_everyoctetonce_k09_segments.Holds := by
  w_on; o_law; k_head; (case hw => w_witness2)
  k_fill
  refine Eo09.walk (l := PySem.Challenge.rw_everyoctetonce_k09_segments) rfl rfl (fun w h Y => PySem.W.kIn_of Y) ?F
  case F =>
    intro w mg fa h KX G hmg
    refine' Eo09.all_mk KX G hmg ?a_two_octets ?l_two_octets ?k_two_octets ?p_two_octets ?a_four_octets ?l_four_octets ?k_four_octets ?p_four_octets ?a_number_of ?l_number_of ?k_number_of ?p_number_of ?a_nearest ?l_nearest ?k_nearest ?p_nearest ?a_segment_octets ?l_segment_octets ?k_segment_octets ?p_segment_octets ?a_segment_of ?l_segment_of ?k_segment_of ?p_segment_of ?a_length_of ?l_length_of ?k_length_of ?p_length_of ?a_near ?l_near ?k_near ?p_near ?a_law_begin ?l_law_begin ?k_law_begin ?p_law_begin ?a_law_take ?l_law_take ?k_law_take ?p_law_take ?a_law_pick ?l_law_pick ?k_law_pick ?p_law_pick ?a_law_octets ?l_law_octets ?k_law_octets ?p_law_octets ?a_law_four ?l_law_four ?k_law_four ?p_law_four ?a_law ?l_law ?k_law ?p_law ?z_tuple ?z_len ?z_int ?z_list ?z_abs ?z_range ?gv_MOST ?gv_HEAD ?gv_SYN ?gv_FIN ?gv_SPACE ?gv_ACK ?gv_RST
    (case a_two_octets => k_is)
    (case l_two_octets => k_is)
    (case k_two_octets => k_is)
    (case p_two_octets => k_is)
    (case a_four_octets => k_is)
    (case l_four_octets => k_is)
    (case k_four_octets => k_is)
    (case p_four_octets => k_is)
    (case a_number_of => k_is)
    (case l_number_of => k_is)
    (case k_number_of => k_is)
    (case p_number_of => k_is)
    (case a_nearest => k_is)
    (case l_nearest => k_is)
    (case k_nearest => k_is)
    (case p_nearest => k_is)
    (case a_segment_octets => k_is)
    (case l_segment_octets => k_is)
    (case k_segment_octets => k_is)
    (case p_segment_octets => k_is)
    (case a_segment_of => k_is)
    (case l_segment_of => k_is)
    (case k_segment_of => k_is)
    (case p_segment_of => k_is)
    (case a_length_of => k_is)
    (case l_length_of => k_is)
    (case k_length_of => k_is)
    (case p_length_of => k_is)
    (case a_near => k_is)
    (case l_near => k_is)
    (case k_near => k_is)
    (case p_near => k_is)
    (case a_law_begin => k_is)
    (case l_law_begin => k_is)
    (case k_law_begin => k_is)
    (case p_law_begin => k_is)
    (case a_law_take => k_is)
    (case l_law_take => k_is)
    (case k_law_take => k_is)
    (case p_law_take => k_is)
    (case a_law_pick => k_is)
    (case l_law_pick => k_is)
    (case k_law_pick => k_is)
    (case p_law_pick => k_is)
    (case a_law_octets => k_is)
    (case l_law_octets => k_is)
    (case k_law_octets => k_is)
    (case p_law_octets => k_is)
    (case a_law_four => k_is)
    (case l_law_four => k_is)
    (case k_law_four => k_is)
    (case p_law_four => k_is)
    (case a_law => k_is)
    (case l_law => k_is)
    (case k_law => k_is)
    (case p_law => k_is)
    (case z_tuple => k_is)
    (case z_len => k_is)
    (case z_int => k_is)
    (case z_list => k_is)
    (case z_abs => k_is)
    (case z_range => k_is)
    (case gv_MOST => k_is)
    (case gv_HEAD => k_is)
    (case gv_SYN => k_is)
    (case gv_FIN => k_is)
    (case gv_SPACE => k_is)
    (case gv_ACK => k_is)
    (case gv_RST => k_is)
#print axioms PySem.Challenge.cw_everyoctetonce_k09_segments_holds

