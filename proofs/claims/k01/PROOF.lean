import PyProof.Rows.All
import Wide.All
import OpenK.AllK
import Wide.FinOn
import HandS.ForMost
import HandS.Wide
import HandS.Walk
import HandS.TupAny
import HandS.Style
import HandS.Text
import PySem.Challenge.RW_everyoctetonce_k01_octets_and_checks
set_option Elab.async false
set_option linter.all false
set_option maxRecDepth 100000
set_option maxHeartbeats 8000000
set_option pp.maxSteps 250
namespace Eo01
open PySem L2
/-! ### frames -/
def Imm : HO → Bool
  | .tup _ => true
  | .frz _ (.tup _) => true
  | _ => false
/-- all that stood stands, but at the addresses of A; what never changes stands anyway -/
structure Ext (A : List Addr) (H H' : Hp) : Prop where
  keep : ∀ b o, H b = some o → b ∉ A → H' b = some o
  imm : ∀ b o, H b = some o → Imm o = true → H' b = some o
theorem Ext.refl {A : List Addr} (H : Hp) : Ext A H H := ⟨fun _ _ h _ => h, fun _ _ h _ => h⟩
theorem Ext.trans {A B C : List Addr} {H H1 H2 : Hp} (e : Ext A H H1) (f : Ext B H1 H2) (hA : ∀ x ∈ A, x ∈ C) (hB : ∀ x ∈ B, (∃ o, H x = some o) → x ∈ C) : Ext C H H2 :=
  ⟨fun b o h n => f.keep b o (e.keep b o h fun z => n (hA b z)) fun z => n (hB b z ⟨o, h⟩), fun b o h i => f.imm b o (e.imm b o h i) i⟩
theorem Ext.mono {A B : List Addr} {H H1 : Hp} (e : Ext A H H1) (h : ∀ x ∈ A, x ∈ B) : Ext B H H1 := ⟨fun b o q n => e.keep b o q fun z => n (h b z), e.imm⟩
theorem Ext.new {H : Hp} {p : Addr} {o : HO} (h : H p = none) : Ext [] H (upd H p o) :=
  ⟨fun b u e _ => by rw [upd_ne (ne_of_none e h)]; exact e, fun b u e _ => by rw [upd_ne (ne_of_none e h)]; exact e⟩
theorem Ext.wr {H : Hp} {p : Addr} {o u : HO} (h : H p = some o) (n : Imm o = false) : Ext [p] H (upd H p u) :=
  ⟨fun b v e z => by rw [upd_ne (fun q => z (by rw [q]; exact List.mem_singleton.mpr rfl))]; exact e, fun b v e i => by
    rw [upd_ne (fun q => by subst q; rw [h] at e; cases e; rw [n] at i; cases i)]; exact e⟩
theorem Ext.free {A : List Addr} {H H' : Hp} {p : Addr} (e : Ext A H H') (h : H' p = none) (n : p ∉ A) : H p = none := by
  cases q : H p with
  | none => rfl
  | some o => rw [e.keep p o q n] at h; cases h
theorem Ext.snoc {A C : List Addr} {H H1 H2 : Hp} (f : Ext A H1 H2) (e : Ext C H H1) (hA : ∀ x ∈ A, (∃ o, H x = some o) → x ∈ C) : Ext C H H2 := e.trans f (fun _ h => h) hA
theorem sub0 {H : Hp} {C : List Addr} : ∀ x ∈ ([] : List Addr), (∃ o, H x = some o) → x ∈ C := fun _ h => by cases h
theorem sub1 {H : Hp} {C : List Addr} {a : Addr} (m : a ∈ C) : ∀ x ∈ [a], (∃ o, H x = some o) → x ∈ C := fun x h _ => by rw [List.mem_singleton.mp h]; exact m
theorem sub1f {H : Hp} {C : List Addr} {a : Addr} (m : H a = none) : ∀ x ∈ [a], (∃ o, H x = some o) → x ∈ C := fun x h ⟨o, e⟩ => by rw [List.mem_singleton.mp h, m] at e; cases e
theorem subC {H : Hp} {C A : List Addr} {a : Addr} (m : a ∈ C) (r : ∀ x ∈ A, (∃ o, H x = some o) → x ∈ C) : ∀ x ∈ a :: A, (∃ o, H x = some o) → x ∈ C := fun x h z => by
  rcases List.mem_cons.mp h with q | q
  · rw [q]; exact m
  · exact r x q z
theorem subCf {H : Hp} {C A : List Addr} {a : Addr} (m : H a = none) (r : ∀ x ∈ A, (∃ o, H x = some o) → x ∈ C) : ∀ x ∈ a :: A, (∃ o, H x = some o) → x ∈ C := fun x h z => by
  rcases List.mem_cons.mp h with q | q
  · obtain ⟨o, e⟩ := z
    rw [q, m] at e; cases e
  · exact r x q z
theorem nin0 {b : Addr} : b ∉ ([] : List Addr) := List.not_mem_nil
theorem nin1 {b x : Addr} (h : b ≠ x) : b ∉ [x] := fun z => h (List.mem_singleton.mp z)
theorem ninC {b x : Addr} {A : List Addr} (h : b ≠ x) (g : b ∉ A) : b ∉ (x :: A) := fun z => (List.mem_cons.mp z).elim h g
theorem Rd.ext {A : List Addr} {H H' : Hp} {a : Addr} {u : HO} (e : Ext A H H') (h : Rd H a u) (n : a ∉ A) : Rd H' a u := by
  rcases h with h | ⟨o, h⟩
  · exact .inl (e.keep _ _ h n)
  · exact .inr ⟨o, e.keep _ _ h n⟩
theorem sqT_ext {K : PySem.W.Frag} {A : List Addr} {H H' : Hp} {a : Addr} {xs : List V} (e : Ext A H H') (h : SqT K H a xs) : SqT K H' a xs := by
  rcases h with (h | ⟨o, h⟩) | h
  · exact .inl (.inl (e.imm _ _ h rfl))
  · exact .inl (.inr ⟨o, e.imm _ _ h rfl⟩)
  · exact .inr h
theorem sqL_ext {K : PySem.W.Frag} {A : List Addr} {H H' : Hp} {a : Addr} {xs : List V} (e : Ext A H H') (h : SqL K H a xs) (n : ∀ o, H a = some o → a ∉ A) : SqL K H' a xs := by
  rcases h with (h | ⟨o, h⟩) | h
  · exact .inl (.inl (e.keep _ _ h (n _ h)))
  · exact .inl (.inr ⟨o, e.keep _ _ h (n _ h)⟩)
  · exact .inr h
theorem sqT_cast {K : PySem.W.Frag} {H : Hp} {a : Addr} {xs ys : List V} (h : SqT K H a xs) (e : xs = ys) : SqT K H a ys := e ▸ h
theorem sqL_ext0 {K : PySem.W.Frag} {H H' : Hp} {a : Addr} {xs : List V} (e : Ext [] H H') (h : SqL K H a xs) : SqL K H' a xs := sqL_ext e h fun _ _ => nin0
/-- a new object o, its place any free one -/
def NewO (H : Hp) (o : HO) (R : Addr → Hp → Prop) : Prop := ∀ p H', H p = none → Ext [] H H' → H' p = some o → R p H'
theorem NewO.raw {H : Hp} {o : HO} {R : Addr → Hp → Prop} (h : NewO H o R) : ∀ p, H p = none → R p (upd H p o) := fun p hp => h p _ hp (Ext.new hp) upd_same
/-- a reading's end, weakened -/
def stA (t : TA) : TA := fun σ H Q => ∃ R : List V → Hp → Prop, t σ H R ∧ ∀ xs H', R xs H' → Q xs H'
def stE (t : TE) : TE := fun σ H Q => ∃ R : V → Hp → Prop, t σ H R ∧ ∀ x H', R x H' → Q x H'
theorem PA.star {X : Cx} {es : List Expr} {t : TA} (h : PA X es t) : PA X es (stA t) := by
  constructor
  rintro pos pn st sl hp R J ⟨R1, a, b⟩
  apply thn (h.run pos pn st sl hp R1 J a)
  rintro us s1 ⟨vs, H1, J1, rv, q⟩
  exact ⟨vs, H1, J1, rv, b _ _ q⟩
theorem PE.star {X : Cx} {e : Expr} {t : TE} (h : PE X e t) : PE X e (stE t) := by
  constructor
  rintro pn st sl hp R J ⟨R1, a, b⟩
  apply thn (h.run pn st sl hp R1 J a)
  rintro u s1 ⟨v, H1, J1, rv, q⟩
  exact ⟨v, H1, J1, rv, b _ _ q⟩
def stG (g : TG) : TG := fun v σ H Q => ∃ R : L2.St → Hp → Prop, g v σ H R ∧ ∀ a b, R a b → Q a b
def stT (t : TT) : TT := fun σ H Q => ∃ R : Bool → Hp → Prop, t σ H R ∧ ∀ a b, R a b → Q a b
theorem PG.star {X : Cx} {e : Expr} {g : TG} (h : PG X e g) : PG X e (stG g) := by
  constructor
  rintro pn st sl hp v u Q J rv ⟨R, a, b⟩
  apply thn (h.run pn st sl hp v u R J rv a)
  rintro _ s1 ⟨sl1, H1, J1, q⟩
  exact ⟨sl1, H1, J1, b _ _ q⟩
theorem PTs.star {X : Cx} {ifs : List Expr} {t : TT} (h : PTs X ifs t) : PTs X ifs (stT t) := by
  constructor
  rintro pn st sl hp Q J ⟨R, a, b⟩
  apply thn (h.run pn st sl hp R J a)
  rintro c s1 ⟨H1, J1, q⟩
  exact ⟨H1, J1, b _ _ q⟩
theorem stE.mono {t : TE} {σ : L2.St} {H : Hp} {Q R : V → Hp → Prop} (h : stE t σ H Q) (w : ∀ a b, Q a b → R a b) : stE t σ H R := let ⟨S, a, b⟩ := h; ⟨S, a, fun x y z => w _ _ (b x y z)⟩
theorem stG.mono {t : TG} {v : V} {σ : L2.St} {H : Hp} {Q R : L2.St → Hp → Prop} (h : stG t v σ H Q) (w : ∀ a b, Q a b → R a b) : stG t v σ H R := let ⟨S, a, b⟩ := h; ⟨S, a, fun x y z => w _ _ (b x y z)⟩
theorem stT.mono {t : TT} {σ : L2.St} {H : Hp} {Q R : Bool → Hp → Prop} (h : stT t σ H Q) (w : ∀ a b, Q a b → R a b) : stT t σ H R := let ⟨S, a, b⟩ := h; ⟨S, a, fun x y z => w _ _ (b x y z)⟩
/-- what a loop over J asks; what a list comprehension over J asks -/
def ForGoal (J : It) (g : TG) (tb : TS) (D : Ends) (σ : L2.St) (H : Hp) : Prop := ∃ W : Nat → Nat → L2.St → Hp → Prop, (∃ m, W 0 m σ H) ∧ ∀ i m σ H, W i m σ H →
  (J.stop i H ∧ D.nx σ H) ∨ (J.go i H ∧ ∃ N : L2.St → Hp → Prop, (∀ σ' H', N σ' H' → ∃ m', m' < m ∧ W (i + 1) m' σ' H') ∧ ∀ x H', J.yld i H x H' → g x σ H' fun σ2 H2 => tb { D with nx := N, ct := N, bk := D.nx } σ2 H2)
def LcGoal (J : It) (g : TG) (tt : TT) (te : TE) (vs : List Nat) (σ : L2.St) (H1 : Hp) (Q : VK) : Prop := ∀ D, H1 D = none → ∃ W : Nat → Nat → Hp → Prop, (∃ m, W 0 m (upd H1 D (.lst []))) ∧ ∀ i m H, W i m H →
  (J.stop i H ∧ Q (.ref D) H) ∨ (J.go i H ∧ ∃ Nx : Hp → Prop, (∀ H', Nx H' → ∃ m', m' < m ∧ W (i + 1) m' H') ∧ ∀ x H', J.yld i H x H' → g x (wipe σ vs) H' fun σ2 H2 => wipe σ2 vs = wipe σ vs ∧ tt σ2 H2 fun b H3 =>
    if b = true then te σ2 H3 fun y H4 => ∃ acc, H4 D = some (.lst acc) ∧ acc.length < sizeLine ∧ Nx (upd H4 D (.lst (acc ++ [y]))) else Nx H3)
theorem g_forW {J : It} {n : Nat} {G : Hp → Prop} {Y : Nat → Hp → V → Hp → Prop} (w : Walk J n G Y) {g : TG} {tb : TS} {D : Ends} {σ : L2.St} {H : Hp} (Pv : Nat → L2.St → Hp → Prop) (h0 : Pv 0 σ H) (hG : ∀ i σ H, i ≤ n → Pv i σ H → G H)
    (hs : ∀ i x σ H H', i < n → Pv i σ H → Y i H x H' → g x σ H' fun σ2 H2 => tb { D with nx := Pv (i + 1), ct := Pv (i + 1), bk := D.nx } σ2 H2) (hd : ∀ σ H, Pv n σ H → D.nx σ H) : ForGoal J g tb D σ H := for_it w Pv h0 hG hs hd
theorem g_lcW {J : It} {n : Nat} {G : Hp → Prop} {Y : Nat → Hp → V → Hp → Prop} (w : Walk J n G Y) {g : TG} {tt : TT} {te : TE} {vs : List Nat} {σ : L2.St} {H1 : Hp} {Q : VK} (Pv : Addr → Nat → Hp → List V → Prop)
    (h0 : ∀ D H', H1 D = none → Ext [] H1 H' → H' D = some (.lst []) → Pv D 0 H' []) (hG : ∀ D i H acc, i ≤ n → Pv D i H acc → G H)
    (hs : ∀ D i x H H' acc, i < n → Pv D i H acc → H D = some (.lst acc) → Y i H x H' → stG g x (wipe σ vs) H' fun σ2 H2 => wipe σ2 vs = wipe σ vs ∧ stT tt σ2 H2 fun b H3 =>
      if b = true then stE te σ2 H3 fun y H4 => H4 D = some (.lst acc) ∧ acc.length < sizeLine ∧ ∀ H5, Ext [D] H4 H5 → H5 D = some (.lst (acc ++ [y])) → Pv D (i + 1) H5 (acc ++ [y]) else Pv D (i + 1) H3 acc ∧ H3 D = some (.lst acc))
    (hd : ∀ D H acc, Pv D n H acc → H D = some (.lst acc) → Q (.ref D) H) : LcGoal J (stG g) (stT tt) (stE te) vs σ H1 Q := by
  intro D hD
  apply lc_it w (fun i H => ∃ acc, Pv D i H acc ∧ H D = some (.lst acc))
  · exact ⟨[], h0 D _ hD (Ext.new hD) upd_same, upd_same⟩
  · rintro i H hi ⟨acc, p, _⟩
    exact hG D i H acc hi p
  · rintro i x H H' hi ⟨acc, p, e⟩ y
    refine (hs D i x H H' acc hi p e y).mono fun σ2 H2 ⟨q1, q2⟩ => ⟨q1, q2.mono fun b H3 q3 => ?_⟩
    cases b with
    | true => exact stE.mono q3 fun z H4 ⟨a1, a2, a3⟩ => ⟨acc, a1, a2, acc ++ [z], a3 _ (Ext.wr a1 rfl) upd_same, upd_same⟩
    | false => exact ⟨acc, q3.1, q3.2⟩
  · rintro H ⟨acc, p, e⟩
    exact hd D H acc p e
theorem PE.weak {X : Cx} {e : Expr} {t t' : TE} (h : PE X e t) (w : ∀ σ H Q, t' σ H Q → t σ H Q) : PE X e t' := ⟨fun pn st sl hp R J a => h.run pn st sl hp R J (w _ _ _ a)⟩
theorem PS.weak {X : Cx} {e : Stmt} {t t' : TS} (h : PS X e t) (w : ∀ D σ H, t' D σ H → t D σ H) : PS X e t' := ⟨fun pn st sl hp R J a => h.run pn st sl hp R J (w _ _ _ a)⟩
/-- a statement that ends in J, whence the rest goes on -/
def tJoin (t u : TS) : TS := fun D σ H => ∃ J : L2.St → Hp → Prop, t { D with nx := J } σ H ∧ ∀ σ' H', J σ' H' → u D σ' H'
theorem pss_join {X : Cx} {st : Stmt} {rest : List Stmt} {t u : TS} (h1 : PS X st t) (h2 : PSs X rest u) : PSs X (st :: rest) (tJoin t u) := by
  constructor
  rintro pn s0 sl hp D J ⟨R, a, b⟩
  apply wpAny_execs_cons
  apply thn (h1.run pn s0 sl hp { D with nx := R } J a)
  intro f s1 q
  cases f with
  | next =>
    obtain ⟨sl2, hp2, J2, r⟩ := q
    exact h2.run pn s1 sl2 hp2 D J2 (b _ _ r)
  | ret v => exact q
  | brk => exact q
  | cont => exact q
/-! ### facts of the top -/
structure GF (K : PySem.W.Frag) (mg : Str → Option Value) (x : Str) (st : Stmt) (ps : List Str) (f : Addr) (fd : FuncData) : Prop where
  F : Fun K x x st f fd
  mg : mg x = some (.ref f)
  kp : PySem.W.keepIn K (.ref f) = true
  b : Binds K fd ps []
structure MF (K : PySem.W.Frag) (x q : Str) (st : Stmt) (ps : List Str) (C f : Addr) (fd : FuncData) : Prop where
  F : Fun K x q st f fd
  me : Meth K C x f
  b : Binds K fd ps []
def NA (K : PySem.W.Frag) (C : Addr) (ats : List Str) : Prop := ∀ x ∈ ats, NoAttr K C x
theorem na_of {K : PySem.W.Frag} {C : Addr} {ats : List Str} {f : Str} (h : NA K C ats) (m : f ∈ ats) : NoAttr K C f := h f m
structure CF (K : PySem.W.Frag) (mg : Str → Option Value) (x : Str) (ats : List Str) (C fi : Addr) : Prop where
  mg : mg x = some (.ref C)
  cl : Cls K C
  make : Mk K C fi
  na : NA K C ats
def GV (K : PySem.W.Frag) (mg : Str → Option Value) (x : Str) (v : V) : Prop := ∃ u, mg x = some u ∧ RelV v u
/-! ### rules that take several kinds of values -/
section
variable {X : Cx}
theorem pe_g {x : Str} {v : V} {pos : Pos} (hg : Gl X x) (h : GV X.K X.mg x v) (hd : (x == ("__debug__" : Str)) = false := by decide) : PE X (.Name x pos) (tC v) := by
  obtain ⟨u, h1, h2⟩ := h
  exact pe_glob hg h1 h2 hd
theorem OpR.or {f : Value → Value → Sem Value} {r r' : R2} (h : OpR X f r) (h' : OpR X f r') : OpR X f (fun x y H Q => r x y H Q ∨ r' x y H Q) := by
  intro pins s σ H x y v u Q I rx ry q
  rcases q with q | q
  · exact h pins s σ H x y v u Q I rx ry q
  · exact h' pins s σ H x y v u Q I rx ry q
/-- + of ints, texts, tuples, lists -/
def rAddX (K : PySem.W.Frag) : R2 := fun x y H Q => match x, y with
  | .int i, .int j => Q (.int (i + j)) H
  | .int i, .bl k => Q (.int (i + PyProof.Rows.b2i k)) H
  | .str i, .str j => i.length + j.length ≤ sizeLine ∧ Q (.str (i ++ j)) H
  | .ref a, .ref b => (∃ xs ys, SqT K H a xs ∧ SqT K H b ys ∧ xs.length + ys.length ≤ sizeLine ∧ ∀ c H', Ext [] H H' → SqT K H' c (xs ++ ys) → Q (.ref c) H') ∨
      ∃ xs ys, H a = some (.lst xs) ∧ H b = some (.lst ys) ∧ xs.length + ys.length ≤ sizeLine ∧ NewO H (.lst (xs ++ ys)) fun p H' => Q (.ref p) H'
  | _, _ => False
theorem o_add : OpR X (binaryOp .Add) (rAddX X.K) := by
  intro pins s σ H x y v u Q I rx ry h
  unfold rAddX at h
  split at h
  · exact op_add pins s σ H _ _ v u Q I rx ry ⟨_, _, rfl, rfl, h⟩
  · exact op_add_ib pins s σ H _ _ v u Q I rx ry ⟨_, _, rfl, rfl, h⟩
  · exact op_add_str pins s σ H _ _ v u Q I rx ry ⟨_, _, rfl, rfl, h.1, h.2⟩
  · rcases h with ⟨xs, ys, h1, h2, hz, q⟩ | ⟨xs, ys, h1, h2, hz, q⟩
    · refine op_catA pins s σ H _ _ v u Q I rx ry ⟨_, _, xs, ys, rfl, rfl, h1, h2, hz, fun e => ?_, fun _ e => ?_, fun _ _ p hp => ?_⟩
      · subst e; exact q _ _ (Ext.refl H) h2
      · subst e; exact q _ _ (Ext.refl H) (by rw [List.append_nil]; exact h1)
      · exact q _ _ (Ext.new hp) (SqT.of upd_same)
    · exact op_cat pins s σ H _ _ v u Q I rx ry ⟨_, _, xs, ys, rfl, rfl, h1, h2, hz, q.raw⟩
  · exact h.elim
/-- slices of tuples, lists, texts -/
def rSlX (K : PySem.W.Frag) : V → Option Int → Option Int → Hp → VK → Prop := fun x lo hi H Q => match x with
  | .ref a => (∃ xs, SqT K H a xs ∧ ∀ c H', Ext [] H H' → SqT K H' c (cutV xs lo hi) → Q (.ref c) H') ∨ ∃ xs, SqL K H a xs ∧ NewO H (.lst (cutV xs lo hi)) fun p H' => Q (.ref p) H'
  | .str z => z.length ≤ sizeLine ∧ Q (.str (cutS z lo hi)) H
  | _ => False
theorem cutV_whole {xs : List V} {lo hi : Option Int} (h : HT.sIx xs.length 0 lo = 0 ∧ HT.sIx xs.length xs.length hi = xs.length) : cutV xs lo hi = xs := by
  unfold cutV
  rw [h.1, h.2, List.drop_zero, Nat.sub_zero, List.take_length]
theorem o_sl : SlR X (rSlX X.K) := by
  intro pins s σ H x v vl vu lo hi sl Q I rx hs pl pu h
  unfold rSlX at h
  split at h
  · rcases h with ⟨xs, h1, q⟩ | ⟨xs, h1, q⟩
    · refine sl_tupA pins s σ H _ v vl vu lo hi sl Q I rx hs pl pu ⟨_, xs, rfl, h1, fun e => ?_, fun _ p hp => ?_⟩
      · exact q _ _ (Ext.refl H) (by rw [cutV_whole e]; exact h1)
      · exact q _ _ (Ext.new hp) (SqT.of upd_same)
    · exact sl_list pins s σ H _ v vl vu lo hi sl Q I rx hs pl pu ⟨_, xs, rfl, h1, q.raw⟩
  · exact sl_str pins s σ H _ v vl vu lo hi sl Q I rx hs pl pu ⟨_, rfl, h.1, h.2⟩
  · exact h.elim
theorem CMul.left {i j : Int} (h : -(2 ^ 64) < i ∧ i < 2 ^ 64) : CMul i j := .inl h
theorem CMul.right {i j : Int} (h : -(2 ^ 64) < j ∧ j < 2 ^ 64) : CMul i j := .inr h
def rMulX : R2 := fun x y H Q => match x, y with
  | .int i, .int j => CMul i j ∧ Q (.int (i * j)) H
  | _, _ => rRep x y H Q
theorem o_mul : OpR X (binaryOp .Mult) rMulX := by
  intro pins s σ H x y v u Q I rx ry h
  unfold rMulX at h
  split at h
  · exact op_mul pins s σ H _ _ v u Q I rx ry ⟨_, _, rfl, rfl, h.1, h.2⟩
  · exact op_rep pins s σ H _ _ v u Q I rx ry h
def rEqX (K : PySem.W.Frag) : R2 := fun x y H Q => rEq x y H Q ∨ rEqD K x y H Q
def rNeX (K : PySem.W.Frag) : R2 := fun x y H Q => rNe x y H Q ∨ rNeD K x y H Q
theorem o_eq (hu : X.A.units + 64 < cLine) : OpR X (compareOp .Eq) (rEqX X.K) := OpR.or op_eq (op_eqD hu)
theorem o_ne (hu : X.A.units + 64 < cLine) : OpR X (compareOp .NotEq) (rNeX X.K) := OpR.or op_ne (op_neD hu)
def rInt1 : List V → Hp → VK → Prop := fun xs H Q => match xs with
  | [.int i] => Q (.int i) H
  | [.bl k] => Q (.int (if k then 1 else 0)) H
  | _ => False
theorem o_int : CallR X (.type "int") rInt1 := by
  intro pins s σ H xs us Q I r h
  unfold rInt1 at h
  split at h
  · exact call_int1 pins s σ H _ us Q I r (.inl ⟨_, rfl, h⟩)
  · exact call_int1 pins s σ H _ us Q I r (.inr ⟨_, rfl, h⟩)
  · exact h.elim
def rMin2 : List V → Hp → VK → Prop := fun xs H Q => match xs with
  | [.int i, .int j] => Q (.int (min i j)) H
  | _ => False
def rMax2 : List V → Hp → VK → Prop := fun xs H Q => match xs with
  | [.int i, .int j] => Q (.int (max i j)) H
  | _ => False
theorem o_min (hc : X.calm = true) : CallR X (.builtin "min") rMin2 := by
  intro pins s σ H xs us Q I r h
  unfold rMin2 at h
  split at h
  · rename_i i j
    refine call_min2 hc pins s σ H _ us Q I r ⟨_, _, rfl, ?_⟩
    have e : (if j < i then j else i) = min i j := by split <;> omega
    rw [e]; exact h
  · exact h.elim
theorem o_max (hc : X.calm = true) : CallR X (.builtin "max") rMax2 := by
  intro pins s σ H xs us Q I r h
  unfold rMax2 at h
  split at h
  · rename_i i j
    refine call_max2 hc pins s σ H _ us Q I r ⟨_, _, rfl, ?_⟩
    have e : (if j > i then j else i) = max i j := by split <;> omega
    rw [e]; exact h
  · exact h.elim
def rAbs : List V → Hp → VK → Prop := fun xs H Q => match xs with
  | [.int i] => Q (.int (i.natAbs : Int)) H
  | _ => False
theorem o_abs : CallR X (.builtin "abs") rAbs := by
  intro pins s σ H xs us Q I r h
  unfold rAbs at h
  split at h
  · rename_i i
    refine call_abs pins s σ H _ us Q I r ⟨_, rfl, ?_⟩
    have e : (if i < 0 then -i else i) = (i.natAbs : Int) := by split <;> omega
    rw [e]; exact h
  · exact h.elim
def tTupX (t : TA) : TE := fun σ H Q => t σ H fun xs H1 => xs.length ≤ sizeLine ∧ NewO H1 (.tup xs) fun p H' => Q (.ref p) H'
def tLstX (t : TA) : TE := fun σ H Q => t σ H fun xs H1 => xs.length ≤ sizeLine ∧ NewO H1 (.lst xs) fun p H' => Q (.ref p) H'
theorem pe_tupX {es : List Expr} {t : TA} {k : Nat} {pos : Pos} (h : PA X es t) : PE X (.Tuple es k pos) (tTupX t) :=
  PE.weak (pe_tup (PA.star h)) fun _ _ _ q => ⟨_, q, fun _ _ ⟨l, n⟩ => ⟨l, n.raw⟩⟩
theorem pe_lstX {es : List Expr} {t : TA} {pos : Pos} (h : PA X es t) : PE X (.List es pos) (tLstX t) :=
  PE.weak (pe_lst (PA.star h)) fun _ _ _ q => ⟨_, q, fun _ _ ⟨l, n⟩ => ⟨l, n.raw⟩⟩
def rLenX (K : PySem.W.Frag) : List V → Hp → VK → Prop := fun xs H Q => match xs with
  | [.ref a] => (∃ ys, (SqL K H a ys ∨ SqT K H a ys) ∧ Q (.int ys.length) H) ∨ ∃ kvs, H a = some (.dK kvs) ∧ Q (.int kvs.length) H
  | [.str z] => z.length ≤ sizeLine ∧ Q (.int z.length) H
  | _ => False
theorem o_len : CallR X (.builtin "len") (rLenX X.K) := by
  intro pins s σ H xs us Q I r h
  unfold rLenX at h
  split at h
  · rcases h with ⟨ys, e, q⟩ | ⟨kvs, e, q⟩
    · exact call_len_seq pins s σ H _ us Q I r ⟨_, ys, rfl, e, q⟩
    · exact call_lenD pins s σ H _ us Q I r ⟨_, kvs, rfl, e, q⟩
  · exact call_len_str pins s σ H _ us Q I r ⟨_, rfl, h.1, h.2⟩
  · exact h.elim
def rListX (K : PySem.W.Frag) : List V → Hp → VK → Prop := fun xs H Q => match xs with
  | [.ref a] => ∃ ys, (SqL K H a ys ∨ SqT K H a ys) ∧ NewO H (.lst ys) fun p H' => Q (.ref p) H'
  | _ => False
theorem o_list : CallR X (.type "list") (rListX X.K) := by
  intro pins s σ H xs us Q I r h
  unfold rListX at h
  split at h
  · obtain ⟨ys, e, q⟩ := h
    exact call_list_of pins s σ H _ us Q I r ⟨_, ys, rfl, e, q.raw⟩
  · exact h.elim
def rTupX (K : PySem.W.Frag) : List V → Hp → VK → Prop := fun xs H Q => match xs with
  | [.ref a] => (∃ ys, SqL K H a ys ∧ NewO H (.tup ys) fun p H' => Q (.ref p) H') ∨ ∃ ys, SqT K H a ys ∧ Q (.ref a) H
  | _ => False
theorem o_tuple : CallR X (.type "tuple") (rTupX X.K) := by
  intro pins s σ H xs us Q I r h
  unfold rTupX at h
  split at h
  · rcases h with ⟨ys, e, q⟩ | ⟨ys, e, q⟩
    · exact call_tuple_of pins s σ H _ us Q I r ⟨_, ys, rfl, .inl ⟨e, q.raw⟩⟩
    · exact call_tuple_of pins s σ H _ us Q I r ⟨_, ys, rfl, .inr ⟨e, q⟩⟩
  · exact h.elim
theorem kkCallR {K : PySem.W.Frag} {v : Value} {r : PySem.W.Frag → List V → Hp → VK → Prop} (h : X.K = K) (c : CallR X v (r X.K)) : CallR X v (r K) := h ▸ c
theorem kkOpR {K : PySem.W.Frag} {f : Value → Value → Sem Value} {r : PySem.W.Frag → R2} (h : X.K = K) (c : OpR X f (r X.K)) : OpR X f (r K) := h ▸ c
theorem kkIxR {K : PySem.W.Frag} {r : PySem.W.Frag → R2} (h : X.K = K) (c : IxR X (r X.K)) : IxR X (r K) := h ▸ c
theorem kkSlR {K : PySem.W.Frag} {r : PySem.W.Frag → V → Option Int → Option Int → Hp → VK → Prop} (h : X.K = K) (c : SlR X (r X.K)) : SlR X (r K) := h ▸ c
theorem iop_catT : OpR X (inplaceOp .Add) (fun _ _ _ _ => False) := fun _ _ _ _ _ _ _ _ _ _ _ _ h => h.elim
def rIAddX : R2 := fun x y H Q => match x, y with
  | .int i, .int j => Q (.int (i + j)) H
  | .str i, .str j => i.length + j.length ≤ sizeLine ∧ Q (.str (i ++ j)) H
  | _, _ => False
theorem o_iadd : PIp X .Add rIAddX := by
  intro pins s σ H x y v u Q I rx ry h
  unfold rIAddX at h
  split at h
  · exact iop_add pins s σ H _ _ v u Q I rx ry ⟨_, _, rfl, rfl, h⟩
  · exact iop_add_str pins s σ H _ _ v u Q I rx ry ⟨_, _, rfl, rfl, h.1, h.2⟩
  · exact h.elim
theorem o_inadd : InOp X .Add rIAddX := fun pins s σ H x y u v Q I rx ry h => o_iadd pins s σ H x y u v Q I rx ry h
end
/-- C(..): as tMake, the new heap by what is known of it -/
def tMakeX (C : Addr) (sp : Sp) (dvs : List V) (E : XK) (t : TA) : TE := fun σ H Q => t σ H fun vs H1 => ∀ x dx H', H1 x = none → Ext [] H1 H' → H' x = some (.ins C dx []) →
  sp (.ref x :: (vs ++ dvs)) H' (fun v H2 => v = .non ∧ Q (.ref x) H2) E
theorem Ext.made {H : Hp} {x dx C : Addr} (h1 : H x = none) (h2 : H dx = none) : Ext [] H (upd (upd H dx (.own x)) x (.ins C dx [])) :=
  ⟨fun b o e _ => by rw [upd_ne (ne_of_none e h1), upd_ne (ne_of_none e h2)]; exact e, fun b o e _ => by rw [upd_ne (ne_of_none e h1), upd_ne (ne_of_none e h2)]; exact e⟩
section
variable {X : Cx} {CX : CXT} {k : Nat} {f C : Addr} {fd : FuncData} {ps : List Str} {sp : Sp} {dvs : List V} {ds : List Value} {E : XK} {x : Str} {p pos : Pos} {e : Expr} {es : List Expr} {t : TA}
theorem pe_makeX (M : Mk X.K C f) (F : FnOk X.prog X.w X.K X.mg X.base CX k f fd ps sp) (hr : Room (k + 1) X.A) (hg : Gl X x) (hm : X.mg x = some (.ref C)) (hb : Binds X.K fd ps ds) (hd : Vals dvs ds) (hx : Passes CX X E)
    (ha : PA X (e :: es) t) (hq : (x == ("__debug__" : Str)) = false := by decide) (he : starEach (e :: es) X.env = (false, eval e X.env) :: starEach es X.env := by rfl) (hl : (backTo pos (starEach es X.env)).any (·.1) = false := by rfl) :
    PE X (.Call (.Name x p) (e :: es) [] pos) (tMakeX C sp dvs E t) := by
  constructor
  intro pn st0 sl hp R J hh
  apply wpAny_Call_Name_kw
  apply ld_glob J hg hm (hd := hq)
  apply PySem.W.callWith_K (h₀ := X.base) J.ok.mod.kin M.kp _ he hl
  apply thn (ha.run pos pn st0 sl hp _ J hh)
  rintro us s1 ⟨vs, hp1, J1, rv, q⟩
  exact ⟨J1.kIn, run_make M F hr hb hd hx J1 rv fun x dx h1 h2 _ => q x dx _ h1 (Ext.made h1 h2) upd_same⟩
theorem pe_make0X (M : Mk X.K C f) (F : FnOk X.prog X.w X.K X.mg X.base CX k f fd ps sp) (hr : Room (k + 1) X.A) (hg : Gl X x) (hm : X.mg x = some (.ref C)) (hb : Binds X.K fd ps ds) (hd : Vals dvs ds) (hx : Passes CX X E)
    (hq : (x == ("__debug__" : Str)) = false := by decide) : PE X (.Call (.Name x p) [] [] pos) (tMakeX C sp dvs E tNil) := by
  constructor
  intro pn st0 sl hp R J hh
  apply wpAny_Call_Name_kw
  apply ld_glob J hg hm (hd := hq)
  exact PySem.W.callWith_K0 J.kIn M.kp (run_make (us := []) M F hr hb hd hx J .nil fun x dx h1 h2 _ => hh x dx _ h1 (Ext.made h1 h2) upd_same)
end
/-! ### slices by numbers -/
theorem cut_mid {xs : List V} {a b : Nat} (h1 : a ≤ b) (h2 : b ≤ xs.length) : cutV xs (some (a : Int)) (some (b : Int)) = (xs.drop a).take (b - a) := by
  unfold cutV
  rw [HT.sIx_nat, HT.sIx_nat, Nat.min_eq_left h2, Nat.min_eq_left (Nat.le_trans h1 h2)]
theorem cut_to {xs : List V} {b : Nat} : cutV xs none (some (b : Int)) = xs.take b := by
  unfold cutV
  rw [HT.sIx_nat, HT.sIx_none, List.drop_zero, Nat.sub_zero]
  by_cases h : b ≤ xs.length
  · rw [Nat.min_eq_left h]
  · rw [Nat.min_eq_right (by omega), List.take_of_length_le (Nat.le_refl _), List.take_of_length_le (by omega)]
theorem cut_from {xs : List V} {a : Nat} : cutV xs (some (a : Int)) none = xs.drop a := by
  unfold cutV
  rw [HT.sIx_nat, HT.sIx_none]
  by_cases h : a ≤ xs.length
  · rw [Nat.min_eq_left h, List.take_of_length_le (by rw [List.length_drop]; exact Nat.le_refl _)]
  · rw [Nat.min_eq_right (by omega), List.drop_of_length_le (Nat.le_refl _), List.drop_of_length_le (show xs.length ≤ a by omega)]
    simp
theorem sIx_neg {n d a : Nat} (h : 0 < a) : HT.sIx n d (some (-(a : Int))) = n - a := by
  show (if (-(a : Int)) < 0 then (-(a : Int) + (n : Int)).toNat else min (-(a : Int)).toNat n) = n - a
  rw [if_pos (by omega)]
  omega
theorem cut_negTo {xs : List V} {b : Nat} (h : 0 < b) : cutV xs none (some (-(b : Int))) = xs.take (xs.length - b) := by
  unfold cutV
  rw [sIx_neg h, HT.sIx_none, List.drop_zero, Nat.sub_zero]
theorem cut_negFrom {xs : List V} {a : Nat} (h : 0 < a) : cutV xs (some (-(a : Int))) none = xs.drop (xs.length - a) := by
  unfold cutV
  rw [sIx_neg h, HT.sIx_none, List.take_of_length_le (by rw [List.length_drop]; exact Nat.le_refl _)]
theorem cut_midU {xs : List V} {a b : Nat} : cutV xs (some (a : Int)) (some (b : Int)) = (xs.take b).drop a := by
  unfold cutV
  rw [HT.sIx_nat, HT.sIx_nat, List.drop_take]
  by_cases h : a ≤ xs.length
  · rw [Nat.min_eq_left h]
    by_cases h2 : b ≤ xs.length
    · rw [Nat.min_eq_left h2]
    · rw [Nat.min_eq_right (show xs.length ≤ b by omega), List.take_of_length_le (by rw [List.length_drop]; omega), List.take_of_length_le (by rw [List.length_drop]; omega)]
  · rw [Nat.min_eq_right (show xs.length ≤ a by omega), List.drop_of_length_le (Nat.le_refl _), List.drop_of_length_le (show xs.length ≤ a by omega)]
    simp
theorem cut_toL {xs : List V} {b : Nat} : cutV xs none (some (@OfNat.ofNat Int b instOfNat)) = xs.take b := cut_to
theorem cut_fromL {xs : List V} {b : Nat} : cutV xs (some (@OfNat.ofNat Int b instOfNat)) none = xs.drop b := cut_from
theorem cut_midL {xs : List V} {a b : Nat} : cutV xs (some (@OfNat.ofNat Int a instOfNat)) (some (@OfNat.ofNat Int b instOfNat)) = (xs.take b).drop a := cut_midU
theorem cut_negToL {xs : List V} {b : Nat} (h : 0 < b) : cutV xs none (some (-(@OfNat.ofNat Int b instOfNat))) = xs.take (xs.length - b) := cut_negTo h
theorem cut_negFromL {xs : List V} {b : Nat} (h : 0 < b) : cutV xs (some (-(@OfNat.ofNat Int b instOfNat))) none = xs.drop (xs.length - b) := cut_negFrom h
/-! ### steps of a reading -/
section
variable {K : PySem.W.Frag} {σ : St} {H : Hp} {Q : VK} {D : Ends} {t u : TS} {ta tb tc te : TE} {g : TG} {v : V}
theorem g_seq (h : t { D with nx := u D } σ H) : tSeq t u D σ H := h
theorem g_next (h : D.nx σ H) : tNext D σ H := h
theorem g_asg (h : te σ H fun x H1 => g x σ H1 D.nx) : tAsg te g D σ H := h
theorem g_name {i : Nat} {R : St → Hp → Prop} (h : R (σ.set i (some v)) H) : gName i v σ H R := h
theorem g_ret (h : te σ H D.rt) : tRet te D σ H := h
theorem g_retN (h : D.rt .non H) : tRetN D σ H := h
theorem g_drop (h : te σ H fun _ H1 => D.nx σ H1) : tDrop te D σ H := h
theorem g_brk (h : D.bk σ H) : tBreak D σ H := h
theorem g_cnt (h : D.ct σ H) : tCont D σ H := h
theorem g_ifS {c : TT} (h : c σ H fun b H1 => if b = true then t D σ H1 else u D σ H1) : tIfS c t u D σ H := h
theorem g_if {c : TT} (h : c σ H fun b H1 => if b = true then ta σ H1 Q else tb σ H1 Q) : tIf c ta tb σ H Q := h
theorem g_var {i : Nat} (e : σ[i]? = some (some v)) (h : Q v H) : tVar i σ H Q := ⟨v, e, h⟩
theorem g_C (h : Q v H) : tC v σ H Q := h
theorem g_op {r : R2} (h : ta σ H fun x H1 => tb σ H1 fun y H2 => r x y H2 Q) : tOp r ta tb σ H Q := h
theorem g_un {r : V → Hp → VK → Prop} (h : ta σ H fun x H1 => r x H1 Q) : tUn r ta σ H Q := h
theorem g_neg {i : Int} (h : Q (.int (-i)) H) : rU (fun i => .int (-i)) (.int i) H Q := ⟨_, rfl, h⟩
theorem g_rI {C : Int → Int → Prop} {f : Int → Int → V} {i j : Int} (c : C i j) (h : Q (f i j) H) : rI C f (.int i) (.int j) H Q := ⟨i, j, rfl, rfl, c, h⟩
theorem g_rI0 {f : Int → Int → V} {i j : Int} (h : Q (f i j) H) : rI0 f (.int i) (.int j) H Q := ⟨i, j, rfl, rfl, h⟩
theorem g_addI {i j : Int} (h : Q (.int (i + j)) H) : rAddX K (.int i) (.int j) H Q := h
theorem g_addT {a b : Addr} {xs ys : List V} (e : SqT K H a xs) (f : SqT K H b ys) (z : xs.length + ys.length ≤ sizeLine) (h : ∀ c H', Ext [] H H' → SqT K H' c (xs ++ ys) → Q (.ref c) H') : rAddX K (.ref a) (.ref b) H Q := .inl ⟨xs, ys, e, f, z, h⟩
theorem g_addL {a b : Addr} {xs ys : List V} (e : H a = some (.lst xs)) (f : H b = some (.lst ys)) (z : xs.length + ys.length ≤ sizeLine) (h : NewO H (.lst (xs ++ ys)) fun p H' => Q (.ref p) H') : rAddX K (.ref a) (.ref b) H Q := .inr ⟨xs, ys, e, f, z, h⟩
theorem g_sl {te' : TE} {tl th : TO} {r : V → Option Int → Option Int → Hp → VK → Prop} (h : te' σ H fun x H1 => tl σ H1 fun l H2 => th σ H2 fun u H3 => r x l u H3 Q) : tSl r te' tl th σ H Q := h
theorem g_noPart {R : Option Int → Hp → Prop} (h : R none H) : tNoPart σ H R := h
theorem g_part {R : Option Int → Hp → Prop} (h : te σ H fun x H1 => ∃ i, x = .int i ∧ R (some i) H1) : tPart te σ H R := h
theorem g_part' {i : Int} {R : Int → Prop} (h : R i) : ∃ i', V.int i = .int i' ∧ R i' := ⟨i, rfl, h⟩
theorem g_slT {a : Addr} {lo hi : Option Int} {xs ys : List V} (e : SqT K H a xs) (f : cutV xs lo hi = ys) (h : ∀ c H', Ext [] H H' → SqT K H' c ys → Q (.ref c) H') : rSlX K (.ref a) lo hi H Q := .inl ⟨xs, e, by rw [f]; exact h⟩
theorem g_slL {a : Addr} {lo hi : Option Int} {xs ys : List V} (e : SqL K H a xs) (f : cutV xs lo hi = ys) (h : NewO H (.lst ys) fun p H' => Q (.ref p) H') : rSlX K (.ref a) lo hi H Q := .inr ⟨xs, e, by rw [f]; exact h⟩
theorem g_slS {z : Str} {lo hi : Option Int} (e : z.length ≤ sizeLine) (h : Q (.str (cutS z lo hi)) H) : rSlX K (.str z) lo hi H Q := ⟨e, h⟩
theorem g_addS {i j : Str} (e : i.length + j.length ≤ sizeLine) (h : Q (.str (i ++ j)) H) : rAddX K (.str i) (.str j) H Q := ⟨e, h⟩
theorem g_mulI {i j : Int} (c : CMul i j) (h : Q (.int (i * j)) H) : rMulX (.int i) (.int j) H Q := ⟨c, h⟩
theorem g_iaddI {i j : Int} (h : Q (.int (i + j)) H) : rIAddX (.int i) (.int j) H Q := h
theorem g_divW {i j : Int} (h0 : 0 < j) (h1 : j < 2 ^ 64) (h : Q (.int (i / j)) H) : rI CDivW (fun i j => .int (i / j)) (.int i) (.int j) H Q :=
  ⟨i, j, rfl, rfl, wide_div (b := 64) h0 (by omega) (by decide) (by decide), h⟩
theorem g_mod {i j : Int} (h0 : 0 < j) (h : Q (.int (i % j)) H) : rI (fun _ j => 0 < j) (fun i j => .int (i % j)) (.int i) (.int j) H Q := ⟨i, j, rfl, rfl, h0, h⟩
theorem g_eq {x y : V} (e : scal x y = true) (h : Q (.bl (decide (x = y))) H) : rEqX K x y H Q := .inl ⟨e, h⟩
theorem g_ne {x y : V} (e : scal x y = true) (h : Q (.bl (!decide (x = y))) H) : rNeX K x y H Q := .inl ⟨e, h⟩
theorem g_isN {x : V} (h : Q (.bl (decide (x = .non))) H) : (fun x y H Q => y = V.non ∧ Q (.bl (decide (x = .non))) H : R2) x .non H Q := ⟨rfl, h⟩
theorem g_isN' {R : Prop} (h : R) : (V.non = V.non ∧ R) := ⟨rfl, h⟩
theorem g_test {t : TE} {R : Bool → Hp → Prop} (h : t σ H fun x H' => ∃ k, x = .bl k ∧ R k H') : tTest t σ H R := h
theorem g_bl {k : Bool} {R : Bool → Prop} (h : R k) : ∃ k', V.bl k = .bl k' ∧ R k' := ⟨k, rfl, h⟩
theorem g_tru {x : V} {k : Bool} {R : Bool → Prop} (e : TruV K x H k) (h : R k) : ∃ k', TruV K x H k' ∧ R k' := ⟨k, e, h⟩
theorem g_truB {b : Bool} : TruV K (.bl b) H b := rfl
theorem g_and {a b : TT} {R : Bool → Hp → Prop} (h : a σ H fun c H1 => if c = true then b σ H1 R else R false H1) : tAnd a b σ H R := h
theorem g_or {a b : TT} {R : Bool → Hp → Prop} (h : a σ H fun c H1 => if c = true then R true H1 else b σ H1 R) : tOr a b σ H R := h
theorem g_not {a : TT} {R : Bool → Hp → Prop} (h : a σ H fun c H1 => R (!c) H1) : tNot a σ H R := h
theorem g_chain {r r' : R2} (h : ta σ H fun x H1 => tb σ H1 fun y H2 => r x y H2 fun z H3 => ∃ k, z = .bl k ∧ (if k = true then tc σ H3 fun w' H4 => r' y w' H4 Q else Q (.bl false) H3)) : tChain r r' ta tb tc σ H Q := h
theorem g_andV (h : ta σ H fun x H1 => ∃ c, x = .bl c ∧ if c = true then tb σ H1 Q else Q (.bl false) H1) : tAndV ta tb σ H Q := h
theorem g_orV (h : ta σ H fun x H1 => ∃ c, x = .bl c ∧ if c = true then Q (.bl true) H1 else tb σ H1 Q) : tOrV ta tb σ H Q := h
theorem g_notV (h : ta σ H fun x H1 => ∃ c, x = .bl c ∧ Q (.bl (!c)) H1) : tNotV ta σ H Q := h
theorem g_inT {x : V} {p : Addr} {xs : List V} (e : SqT K H p xs) (f : flatV x = true) (g : xs.all flatV = true) (h : Q (.bl (inV x xs)) H) : rIn K false x (.ref p) H Q := ⟨p, xs, rfl, .inr e, f, g, h⟩
theorem g_inL {x : V} {p : Addr} {xs : List V} (e : SqL K H p xs) (f : flatV x = true) (g : xs.all flatV = true) (h : Q (.bl (inV x xs)) H) : rIn K false x (.ref p) H Q := ⟨p, xs, rfl, .inl e, f, g, h⟩
theorem g_ninT {x : V} {p : Addr} {xs : List V} (e : SqT K H p xs) (f : flatV x = true) (g : xs.all flatV = true) (h : Q (.bl (!inV x xs)) H) : rIn K true x (.ref p) H Q := ⟨p, xs, rfl, .inr e, f, g, h⟩
theorem g_ninL {x : V} {p : Addr} {xs : List V} (e : SqL K H p xs) (f : flatV x = true) (g : xs.all flatV = true) (h : Q (.bl (!inV x xs)) H) : rIn K true x (.ref p) H Q := ⟨p, xs, rfl, .inl e, f, g, h⟩
theorem g_nil {R : List V → Hp → Prop} (h : R [] H) : tNil σ H R := h
theorem g_cons {tr : TA} {R : List V → Hp → Prop} (h : te σ H fun x H1 => tr σ H1 fun xs H2 => R (x :: xs) H2) : tCons te tr σ H R := h
theorem g_CB {r : List V → Hp → VK → Prop} {ta : TA} (h : ta σ H fun vs H1 => r vs H1 Q) : tCB r ta σ H Q := h
theorem g_int1 {i : Int} (h : Q (.int i) H) : rInt1 [.int i] H Q := h
theorem g_int1b {k : Bool} (h : Q (.int (if k then 1 else 0)) H) : rInt1 [.bl k] H Q := h
theorem g_min2 {i j : Int} (h : Q (.int (min i j)) H) : rMin2 [.int i, .int j] H Q := h
theorem g_max2 {i j : Int} (h : Q (.int (max i j)) H) : rMax2 [.int i, .int j] H Q := h
theorem g_abs {i : Int} (h : Q (.int (i.natAbs : Int)) H) : rAbs [.int i] H Q := h
theorem g_new {n : Nat} {o : HO} {R : Addr → Hp → Prop} (e : n ≤ sizeLine) (h : NewO H o R) : n ≤ sizeLine ∧ NewO H o R := ⟨e, h⟩
theorem g_newO {o : HO} {R : Addr → Hp → Prop} (h : ∀ p H', H p = none → Ext [] H H' → H' p = some o → R p H') : NewO H o R := h
theorem g_tup {t : TA} (h : t σ H fun xs H1 => xs.length ≤ sizeLine ∧ NewO H1 (.tup xs) fun p H' => Q (.ref p) H') : tTupX t σ H Q := h
theorem g_lst {t : TA} (h : t σ H fun xs H1 => xs.length ≤ sizeLine ∧ NewO H1 (.lst xs) fun p H' => Q (.ref p) H') : tLstX t σ H Q := h
theorem g_ixL {p : Addr} {xs : List V} {i : Int} (e : SqL K H p xs) (a : atI xs i = some v) (h : Q v H) : rIx K (.ref p) (.int i) H Q := .inl ⟨p, xs, i, v, rfl, rfl, e, a, h⟩
theorem g_ixT {p : Addr} {xs : List V} {i : Int} (e : SqT K H p xs) (a : atI xs i = some v) (h : Q v H) : rIx K (.ref p) (.int i) H Q := .inr (.inl ⟨p, xs, i, v, rfl, rfl, e, a, h⟩)
theorem g_sub {to ti : TE} {s : TSet} {R : St → Hp → Prop} (h : to σ H fun o H1 => ti σ H1 fun i H2 => s o i v H2 fun H3 => R σ H3) : gSub to ti s v σ H R := h
theorem g_setL {p : Addr} {xs ys : List V} {k : Int} {j : Nat} {R : Hp → Prop} (e : H p = some (.lst xs)) (a : ixN xs.length k = some j) (l : xs.set j v = ys) (h : ∀ H', Ext [p] H H' → H' p = some (.lst ys) → R H') : rSetL (.ref p) (.int k) v H R :=
  ⟨p, xs, k, j, rfl, rfl, e, a, by rw [l]; exact h _ (Ext.wr e rfl) upd_same⟩
theorem g_ite {c : Bool} {A B : Prop} (h1 : c = true → A) (h2 : c = false → B) : if c = true then A else B := by
  cases c with
  | true => exact h1 rfl
  | false => exact h2 rfl
theorem g_iteDT {c : Bool} {A B : Prop} (e : c = true) (h : A) : if c = true then A else B := by rw [e]; exact h
theorem g_iteDF {c : Bool} {A B : Prop} (e : c = false) (h : B) : if c = true then A else B := by rw [e]; exact h
theorem g_iteIN {i : Int} {A B : Prop} (h : B) : if decide (V.int i = V.non) = true then A else B := by rw [decide_eq_false (by intro z; cases z)]; exact h
theorem g_iteRN {a : Addr} {A B : Prop} (h : B) : if decide (V.ref a = V.non) = true then A else B := by rw [decide_eq_false (by intro z; cases z)]; exact h
theorem g_iteSN {a : Str} {A B : Prop} (h : B) : if decide (V.str a = V.non) = true then A else B := by rw [decide_eq_false (by intro z; cases z)]; exact h
theorem g_iteNIN {i : Int} {A B : Prop} (h : A) : if (!decide (V.int i = V.non)) = true then A else B := by rw [decide_eq_false (by intro z; cases z)]; exact h
theorem g_iteNRN {i : Addr} {A B : Prop} (h : A) : if (!decide (V.ref i = V.non)) = true then A else B := by rw [decide_eq_false (by intro z; cases z)]; exact h
theorem g_iteT {A B : Prop} (h : A) : if true = true then A else B := h
theorem g_iteF {A B : Prop} (h : B) : if false = true then A else B := h
theorem g_fld {f : Str} (h : ta σ H fun x H1 => ∃ a C dx fs v, x = .ref a ∧ H1 a = some (.ins C dx fs) ∧ Cls K C ∧ NoAttr K C f ∧ fs.lookup f = some v ∧ Q v H1) : tFld K ta f σ H Q := h
theorem g_fld' {f : Str} {a C dx : Addr} {fs : List (Str × V)} (e : H a = some (.ins C dx fs)) (c : Cls K C) (n : NoAttr K C f) (l : fs.lookup f = some v) (h : Q v H) :
    ∃ a' C dx fs v, V.ref a = .ref a' ∧ H a' = some (.ins C dx fs) ∧ Cls K C ∧ NoAttr K C f ∧ fs.lookup f = some v ∧ Q v H := ⟨a, C, dx, fs, v, rfl, e, c, n, l, h⟩
theorem g_sfld {tv : TE} {f : Str} (h : tv σ H fun y H1 => ta σ H1 fun x H2 => ∃ a C dx fs, x = .ref a ∧ H2 a = some (.ins C dx fs) ∧ Cls K C ∧ NoAttr K C f ∧ fs.length < 1000 ∧ D.nx σ (upd H2 a (.ins C dx (putF f y fs)))) : sFld K ta tv f D σ H := h
theorem g_sfld' {f : Str} {a C dx : Addr} {fs fs' : List (Str × V)} {R : Hp → Prop} (e : H a = some (.ins C dx fs)) (c : Cls K C) (n : NoAttr K C f) (l : fs.length < 1000) (p : putF f v fs = fs') (h : ∀ H', Ext [a] H H' → H' a = some (.ins C dx fs') → R H') :
    ∃ a' C dx fs, V.ref a = .ref a' ∧ H a' = some (.ins C dx fs) ∧ Cls K C ∧ NoAttr K C f ∧ fs.length < 1000 ∧ R (upd H a' (.ins C dx (putF f v fs))) :=
  ⟨a, C, dx, fs, rfl, e, c, n, l, by rw [p]; exact h _ (Ext.wr e rfl) upd_same⟩
theorem g_sfa {tv : TE} {f : Str} {rd : V → V → Hp → VK → Prop} (h : ta σ H fun x H1 => ∃ a C dx fs v, x = .ref a ∧ H1 a = some (.ins C dx fs) ∧ Cls K C ∧ NoAttr K C f ∧ fs.lookup f = some v ∧
  tv σ H1 fun y H2 => rd v y H2 fun z H3 => ∃ dx' fs', H3 a = some (.ins C dx' fs') ∧ fs'.length < 1000 ∧ D.nx σ (upd H3 a (.ins C dx' (putF f z fs')))) : sFldAug K ta tv rd f D σ H := h
theorem g_sfa' {f : Str} {a C dx : Addr} {fs : List (Str × V)} {R : V → Addr → Addr → Hp → Prop} (e : H a = some (.ins C dx fs)) (c : Cls K C) (n : NoAttr K C f) (l : fs.lookup f = some v) (h : R v a C H) :
    ∃ a' C dx fs v, V.ref a = .ref a' ∧ H a' = some (.ins C dx fs) ∧ Cls K C ∧ NoAttr K C f ∧ fs.lookup f = some v ∧ R v a' C H := ⟨a, C, dx, fs, v, rfl, e, c, n, l, h⟩
theorem g_sfa'' {f : Str} {a C dx : Addr} {fs fs' : List (Str × V)} {R : Hp → Prop} (e : H a = some (.ins C dx fs)) (l : fs.length < 1000) (p : putF f v fs = fs') (h : ∀ H', Ext [a] H H' → H' a = some (.ins C dx fs') → R H') :
    ∃ dx' fs', H a = some (.ins C dx' fs') ∧ fs'.length < 1000 ∧ R (upd H a (.ins C dx' (putF f v fs'))) :=
  ⟨dx, fs, e, l, by rw [p]; exact h _ (Ext.wr e rfl) upd_same⟩
theorem g_call {sp : Sp} {dvs : List V} {E : XK} {t : TA} (h : t σ H fun vs H1 => sp (vs ++ dvs) H1 Q E) : tCall sp dvs E t σ H Q := h
theorem g_meth {C : Addr} {m : Str} {sp : Sp} {dvs : List V} {E : XK} {t : TA} (h : ta σ H fun x H1 => ∃ a dx fs, x = .ref a ∧ H1 a = some (.ins C dx fs) ∧ fs.lookup m = none ∧ t σ H1 fun vs H2 => sp (x :: (vs ++ dvs)) H2 Q E) : tMeth C m sp dvs E ta t σ H Q := h
theorem g_meth' {C a dx : Addr} {m : Str} {fs : List (Str × V)} {R : Hp → Prop} (e : H a = some (.ins C dx fs)) (l : fs.lookup m = none) (h : R H) : ∃ a' dx fs, V.ref a = .ref a' ∧ H a' = some (.ins C dx fs) ∧ fs.lookup m = none ∧ R H := ⟨a, dx, fs, rfl, e, l, h⟩
theorem g_make {C : Addr} {sp : Sp} {dvs : List V} {E : XK} {t : TA} (h : t σ H fun vs H1 => ∀ x dx H', H1 x = none → Ext [] H1 H' → H' x = some (.ins C dx []) → sp (.ref x :: (vs ++ dvs)) H' (fun v H2 => v = .non ∧ Q (.ref x) H2) E) : tMakeX C sp dvs E t σ H Q := h
theorem g_appd {te : TE} {t : TA} {r : V → List V → Hp → VK → Prop} {T : String} (h : te σ H fun x H1 => tyV K T x H1 ∧ t σ H1 fun xs H2 => r x xs H2 Q) : tBM K T r te t σ H Q := h
theorem g_bm0 {te : TE} {r : V → List V → Hp → VK → Prop} {T : String} (h : te σ H fun x H1 => tyV K T x H1 ∧ r x [] H1 Q) : tBM0 K T r te σ H Q := h
theorem g_tyL {a : Addr} {xs : List V} {R : Prop} (e : SqL K H a xs) (h : R) : tyV K "list" (.ref a) H ∧ R := ⟨.inl ⟨rfl, xs, e⟩, h⟩
theorem g_append {l : Addr} {xs : List V} {y : V} (e : H l = some (.lst xs)) (z : xs.length < sizeLine) (h : ∀ H', Ext [l] H H' → H' l = some (.lst (xs ++ [y])) → Q .non H') : rAppend (.ref l) [y] H Q :=
  ⟨l, xs, y, rfl, rfl, e, z, h _ (Ext.wr e rfl) upd_same⟩
theorem g_par {i j : Nat} {ta : TA} (h : ta σ H fun vs H1 => ∃ v w, vs = [v, w] ∧ D.nx ((σ.set i (some v)).set j (some w)) H1) : tPar i j ta D σ H := h
theorem g_par' {x y : V} {R : V → V → Prop} (h : R x y) : ∃ v w, [x, y] = [v, w] ∧ R v w := ⟨x, y, rfl, h⟩
theorem g_gtup {n : Nat} {tg : TGs} {a : Addr} {xs : List V} {R : St → Hp → Prop} (e : SqT K H a xs) (l : xs.length = n) (h : tg xs σ H R) : gTup K n tg (.ref a) σ H R := ⟨a, xs, rfl, e, l, h⟩
theorem g_gcons {t1 : TG} {tr : TGs} {x : V} {xs : List V} {R : St → Hp → Prop} (h : t1 x σ H fun σ' H' => tr xs σ' H' R) : gCons t1 tr (x :: xs) σ H R := ⟨x, xs, rfl, h⟩
theorem g_gnil {R : St → Hp → Prop} (h : R σ H) : gNil [] σ H R := ⟨rfl, h⟩
theorem g_aug {i : Nat} {ti : TIp} (e : σ[i]? = some (some v)) (h : te σ H fun y H1 => ti v y H1 fun z H2 => D.nx (σ.set i (some z)) H2) : tAug i te ti D σ H := ⟨v, e, h⟩
theorem g_listL {a : Addr} {xs : List V} (e : SqL K H a xs) (h : NewO H (.lst xs) fun p H' => Q (.ref p) H') : rListX K [.ref a] H Q := ⟨xs, .inl e, h⟩
theorem g_listT {a : Addr} {xs : List V} (e : SqT K H a xs) (h : NewO H (.lst xs) fun p H' => Q (.ref p) H') : rListX K [.ref a] H Q := ⟨xs, .inr e, h⟩
theorem g_tupL {a : Addr} {xs : List V} (e : SqL K H a xs) (h : NewO H (.tup xs) fun p H' => Q (.ref p) H') : rTupX K [.ref a] H Q := .inl ⟨xs, e, h⟩
theorem g_tupT {a : Addr} {xs : List V} (e : SqT K H a xs) (h : Q (.ref a) H) : rTupX K [.ref a] H Q := .inr ⟨xs, e, h⟩
theorem g_lenL {a : Addr} {xs : List V} (e : SqL K H a xs) (h : Q (.int xs.length) H) : rLenX K [.ref a] H Q := .inl ⟨xs, .inl e, h⟩
theorem g_lenT {a : Addr} {xs : List V} (e : SqT K H a xs) (h : Q (.int xs.length) H) : rLenX K [.ref a] H Q := .inl ⟨xs, .inr e, h⟩
theorem g_lenD {a : Addr} {kvs : List (Key × V)} (e : H a = some (.dK kvs)) (h : Q (.int kvs.length) H) : rLenX K [.ref a] H Q := .inr ⟨kvs, e, h⟩
theorem g_lenS {z : Str} (e : z.length ≤ sizeLine) (h : Q (.int z.length) H) : rLenX K [.str z] H Q := ⟨e, h⟩
theorem g_truL {a : Addr} {xs : List V} {R : Bool → Prop} (e : SqL K H a xs) (h : R (!xs.isEmpty)) : ∃ k, TruV K (.ref a) H k ∧ R k := ⟨_, .inl ⟨xs, e, rfl⟩, h⟩
theorem g_truT {a : Addr} {xs : List V} {R : Bool → Prop} (e : SqT K H a xs) (h : R (!xs.isEmpty)) : ∃ k, TruV K (.ref a) H k ∧ R k := ⟨_, .inr (.inl ⟨xs, e, rfl⟩), h⟩
theorem g_truD {a : Addr} {kvs : List (Key × V)} {R : Bool → Prop} (e : H a = some (.dK kvs)) (h : R (!kvs.isEmpty)) : ∃ k, TruV K (.ref a) H k ∧ R k := ⟨_, .inr (.inr ⟨kvs, e, rfl⟩), h⟩
theorem g_truBl {b : Bool} {R : Bool → Prop} (h : R b) : ∃ k, TruV K (.bl b) H k ∧ R k := ⟨b, rfl, h⟩
theorem g_truI {i : Int} {R : Bool → Prop} (h : R (i != 0)) : ∃ k, TruV K (.int i) H k ∧ R k := ⟨_, rfl, h⟩
theorem g_truN {R : Bool → Prop} (h : R false) : ∃ k, TruV K .non H k ∧ R k := ⟨_, rfl, h⟩
theorem g_for {wi : TI} {tb : TS} (h : wi σ H fun J H1 => ForGoal J g tb D σ H1) : tFor wi g tb D σ H := h
theorem g_lc {wi : TI} {tt : TT} {vs : List Nat} (h : wi σ H fun J H1 => LcGoal J g tt te vs σ H1 Q) : tLc wi g tt te vs σ H Q := h
theorem g_stE (h : te σ H Q) : stE te σ H Q := ⟨Q, h, fun _ _ z => z⟩
theorem g_stG {R : L2.St → Hp → Prop} (h : g v σ H R) : stG g v σ H R := ⟨R, h, fun _ _ z => z⟩
theorem g_stT {tt : TT} {R : Bool → Hp → Prop} (h : tt σ H R) : stT tt σ H R := ⟨R, h, fun _ _ z => z⟩
theorem g_yes {R : Bool → Hp → Prop} (h : R true H) : tYes σ H R := h
theorem g_iList {tl : TE} {R : It → Hp → Prop} (h : tl σ H fun x H1 => ∃ a, x = .ref a ∧ (∃ xs, SqL K H1 a xs) ∧ R (Itl K a) H1) : iList K tl σ H R := h
theorem g_iTup {tl : TE} {R : It → Hp → Prop} (h : tl σ H fun x H1 => ∃ a, x = .ref a ∧ (∃ xs, SqT K H1 a xs) ∧ R (Itt K a) H1) : iTup K tl σ H R := h
theorem g_iR1 {t : TA} {R : It → Hp → Prop} (h : t σ H fun vs H1 => ∃ j : Int, vs = [.int j] ∧ -(2 ^ 62) ≤ j ∧ j < 2 ^ 62 ∧ R (Itr 0 j.toNat) H1) : iRng1 t σ H R := h
theorem g_iR2 {t : TA} {R : It → Hp → Prop} (h : t σ H fun vs H1 => ∃ i j : Int, vs = [.int i, .int j] ∧ (-(2 ^ 62) ≤ i ∧ i < 2 ^ 62 ∧ -(2 ^ 62) ≤ j ∧ j < 2 ^ 62) ∧ R (Itr i (j - i).toNat) H1) : iRng2 t σ H R := h
theorem g_iR3 {t : TA} {R : It → Hp → Prop} (h : t σ H fun vs H1 => ∃ (i j c : Int) (n : Nat), vs = [.int i, .int j, .int c] ∧ RgC i j c n ∧ R (Itc i c n) H1) : iRng3 t σ H R := h
theorem g_itLf {tb : TS} {a : Addr} {xs : List V} (e : SqL K H a xs) (h : ForGoal (Itl K a) g tb D σ H) : ∃ a', V.ref a = .ref a' ∧ (∃ xs, SqL K H a' xs) ∧ ForGoal (Itl K a') g tb D σ H := ⟨a, rfl, ⟨xs, e⟩, h⟩
theorem g_itTf {tb : TS} {a : Addr} {xs : List V} (e : SqT K H a xs) (h : ForGoal (Itt K a) g tb D σ H) : ∃ a', V.ref a = .ref a' ∧ (∃ xs, SqT K H a' xs) ∧ ForGoal (Itt K a') g tb D σ H := ⟨a, rfl, ⟨xs, e⟩, h⟩
theorem g_itLl {tt : TT} {vs : List Nat} {a : Addr} {xs : List V} (e : SqL K H a xs) (h : LcGoal (Itl K a) g tt te vs σ H Q) : ∃ a', V.ref a = .ref a' ∧ (∃ xs, SqL K H a' xs) ∧ LcGoal (Itl K a') g tt te vs σ H Q := ⟨a, rfl, ⟨xs, e⟩, h⟩
theorem g_itTl {tt : TT} {vs : List Nat} {a : Addr} {xs : List V} (e : SqT K H a xs) (h : LcGoal (Itt K a) g tt te vs σ H Q) : ∃ a', V.ref a = .ref a' ∧ (∃ xs, SqT K H a' xs) ∧ LcGoal (Itt K a') g tt te vs σ H Q := ⟨a, rfl, ⟨xs, e⟩, h⟩
theorem g_itR1f {tb : TS} {j : Int} (h1 : -(2 ^ 62) ≤ j) (h2 : j < 2 ^ 62) (h : ForGoal (Itr 0 j.toNat) g tb D σ H) : ∃ j' : Int, [V.int j] = [.int j'] ∧ -(2 ^ 62) ≤ j' ∧ j' < 2 ^ 62 ∧ ForGoal (Itr 0 j'.toNat) g tb D σ H := ⟨j, rfl, h1, h2, h⟩
theorem g_itR1l {tt : TT} {vs : List Nat} {j : Int} (h1 : -(2 ^ 62) ≤ j) (h2 : j < 2 ^ 62) (h : LcGoal (Itr 0 j.toNat) g tt te vs σ H Q) : ∃ j' : Int, [V.int j] = [.int j'] ∧ -(2 ^ 62) ≤ j' ∧ j' < 2 ^ 62 ∧ LcGoal (Itr 0 j'.toNat) g tt te vs σ H Q := ⟨j, rfl, h1, h2, h⟩
theorem g_itR2f {tb : TS} {i j : Int} (h1 : -(2 ^ 62) ≤ i ∧ i < 2 ^ 62 ∧ -(2 ^ 62) ≤ j ∧ j < 2 ^ 62) (h : ForGoal (Itr i (j - i).toNat) g tb D σ H) : ∃ i' j' : Int, [V.int i, V.int j] = [.int i', .int j'] ∧ (-(2 ^ 62) ≤ i' ∧ i' < 2 ^ 62 ∧ -(2 ^ 62) ≤ j' ∧ j' < 2 ^ 62) ∧ ForGoal (Itr i' (j' - i').toNat) g tb D σ H := ⟨i, j, rfl, h1, h⟩
theorem g_itR2l {tt : TT} {vs : List Nat} {i j : Int} (h1 : -(2 ^ 62) ≤ i ∧ i < 2 ^ 62 ∧ -(2 ^ 62) ≤ j ∧ j < 2 ^ 62) (h : LcGoal (Itr i (j - i).toNat) g tt te vs σ H Q) : ∃ i' j' : Int, [V.int i, V.int j] = [.int i', .int j'] ∧ (-(2 ^ 62) ≤ i' ∧ i' < 2 ^ 62 ∧ -(2 ^ 62) ≤ j' ∧ j' < 2 ^ 62) ∧ LcGoal (Itr i' (j' - i').toNat) g tt te vs σ H Q := ⟨i, j, rfl, h1, h⟩
theorem g_itR3f {tb : TS} {i j c : Int} {n : Nat} (r : RgC i j c n) (h : ForGoal (Itc i c n) g tb D σ H) : ∃ (i' j' c' : Int) (n' : Nat), [V.int i, V.int j, V.int c] = [.int i', .int j', .int c'] ∧ RgC i' j' c' n' ∧ ForGoal (Itc i' c' n') g tb D σ H := ⟨i, j, c, n, rfl, r, h⟩
theorem g_itR3l {tt : TT} {vs : List Nat} {i j c : Int} {n : Nat} (r : RgC i j c n) (h : LcGoal (Itc i c n) g tt te vs σ H Q) : ∃ (i' j' c' : Int) (n' : Nat), [V.int i, V.int j, V.int c] = [.int i', .int j', .int c'] ∧ RgC i' j' c' n' ∧ LcGoal (Itc i' c' n') g tt te vs σ H Q := ⟨i, j, c, n, rfl, r, h⟩
theorem g_forL {tb : TS} {a : Addr} (xs : List V) (_ : SqL K H a xs) (Pv : Nat → L2.St → Hp → Prop) (h0 : Pv 0 σ H) (hl : ∀ i σ H, i ≤ xs.length → Pv i σ H → SqL K H a xs)
    (hs : ∀ i x σ H, xs[i]? = some x → Pv i σ H → g x σ H fun σ2 H2 => tb { D with nx := Pv (i + 1), ct := Pv (i + 1), bk := D.nx } σ2 H2) (hd : ∀ σ H, Pv xs.length σ H → D.nx σ H) : ForGoal (Itl K a) g tb D σ H := for_list Pv h0 hl hs hd
theorem g_forT {tb : TS} {a : Addr} (xs : List V) (Pv : Nat → L2.St → Hp → Prop) (h0 : Pv 0 σ H) (hl : ∀ i σ H, i ≤ xs.length → Pv i σ H → SqT K H a xs)
    (hs : ∀ i x σ H, xs[i]? = some x → Pv i σ H → g x σ H fun σ2 H2 => tb { D with nx := Pv (i + 1), ct := Pv (i + 1), bk := D.nx } σ2 H2) (hd : ∀ σ H, Pv xs.length σ H → D.nx σ H) : ForGoal (Itt K a) g tb D σ H := for_tup Pv h0 hl hs hd
theorem g_forR {tb : TS} {lo : Int} {n : Nat} (Pv : Nat → L2.St → Hp → Prop) (h0 : Pv 0 σ H)
    (hs : ∀ i σ H, i < n → Pv i σ H → g (.int (lo + i)) σ H fun σ2 H2 => tb { D with nx := Pv (i + 1), ct := Pv (i + 1), bk := D.nx } σ2 H2) (hd : ∀ σ H, Pv n σ H → D.nx σ H) : ForGoal (Itr lo n) g tb D σ H := for_range Pv h0 hs hd
end
theorem lk_hd {f : Str} {v : V} {r : List (Str × V)} : List.lookup f ((f, v) :: r) = some v := by simp [List.lookup]
theorem lk_tl {f g : Str} {v : V} {r : List (Str × V)} {o : Option V} (n : (f == g) = false) (h : List.lookup f r = o) : List.lookup f ((g, v) :: r) = o := by simp only [List.lookup, n]; exact h
theorem lk_nil {f : Str} : List.lookup f ([] : List (Str × V)) = none := rfl
theorem pf_nil {f : Str} {v : V} : putF f v [] = [(f, v)] := rfl
theorem pf_hd {f : Str} {v x : V} {r : List (Str × V)} : putF f v ((f, x) :: r) = (f, v) :: r := by simp [putF]
theorem pf_tl {f g : Str} {v x : V} {r r' : List (Str × V)} (n : (f == g) = false) (h : putF f v r = r') : putF f v ((g, x) :: r) = (g, x) :: r' := by
  have e : ¬ g = f := fun q => by rw [q, beq_self_eq_true] at n; cases n
  simp only [putF, if_neg e, h]
theorem ix_at {α : Type} {xs : List α} {i : Int} {v : α} (h : 0 ≤ i) (e : xs[i.toNat]? = some v) : atI xs i = some v := by
  have z : ((i.toNat : Nat) : Int) = i := Int.toNat_of_nonneg h
  rw [← z]; exact atI_nat e
theorem lt1000 {n : Nat} (h : Nat.blt n 1000 = true := by rfl) : n < 1000 := by
  have := Nat.le_of_ble_eq_true h
  omega
theorem leLine {n : Nat} (h : Nat.ble n 1000 = true := by rfl) : n ≤ sizeLine := Nat.le_trans (Nat.le_of_ble_eq_true h) (by decide)
/-! ### the stepping tactics, under names of our own -/
local macro_rules | `(tactic| walk_at "eo mem") => `(tactic| first | with_reducible exact List.mem_cons_self | ((with_reducible apply List.mem_cons_of_mem); walk_at "eo mem"))
local macro_rules | `(tactic| walk_at "eo lk") => `(tactic| first | with_reducible exact lk_hd | with_reducible exact lk_nil | ((with_reducible apply lk_tl); (decide +kernel); (walk_at "eo lk")))
local macro_rules | `(tactic| walk_at "eo pf") => `(tactic| first | with_reducible exact pf_hd | with_reducible exact pf_nil | ((with_reducible apply pf_tl); (decide +kernel); (walk_at "eo pf")))
local macro_rules | `(tactic| walk_at "eo fact") => `(tactic| first | with_reducible assumption | ((with_reducible apply Ext.keep); (with_reducible assumption); (walk_at "eo fact"); (walk_at "eo nin")))
local macro_rules | `(tactic| walk_at "eo nin") => `(tactic| first | with_reducible exact nin0 | ((with_reducible apply nin1); walk_at "eo ne") | ((with_reducible apply ninC); (walk_at "eo ne"); (walk_at "eo nin")) | with_reducible assumption)
local macro_rules | `(tactic| walk_at "eo ne") => `(tactic| first
  | with_reducible assumption
  | ((with_reducible apply Ne.symm); with_reducible assumption)
  | walk_at "eo ne2")
local macro_rules | `(tactic| walk_at "eo ne2") => `(tactic| first
  | ((with_reducible apply ne_of_none); rotate_left 1; (with_reducible assumption); (walk_at "eo fact"))
  | ((with_reducible apply Ne.symm); (with_reducible apply ne_of_none); rotate_left 1; (with_reducible assumption); (walk_at "eo fact"))
  | ((with_reducible apply ne_of); (with_reducible assumption); (walk_at "eo fact"); ((intro z; cases z)))
  | ((with_reducible apply Ne.symm); (with_reducible apply ne_of); (with_reducible assumption); (walk_at "eo fact"); ((intro z; cases z))))
local macro_rules | `(tactic| walk_at "eo sqT") => `(tactic| first | with_reducible assumption | ((with_reducible apply SqT.of); with_reducible assumption) | ((with_reducible apply sqT_ext); (with_reducible assumption); (walk_at "eo sqT")))
local macro_rules | `(tactic| walk_at "eo sqL") => `(tactic| first | with_reducible assumption | ((with_reducible apply SqL.of); with_reducible assumption) | ((with_reducible apply sqL_ext); (with_reducible assumption); (walk_at "eo sqL"); (intro _ _; walk_at "eo nin")))
local macro_rules | `(tactic| walk_at "eo at") => `(tactic| first | rfl | assumption | (apply ix_at; (first | omega | assumption); (first | assumption | rfl)))
local macro_rules | `(tactic| walk_at "eo set") => `(tactic| first | ((try simp only [List.set_cons_succ, List.set_cons_zero, Int.reduceToNat, List.length_cons, List.length_nil]); first | done | rfl) | rfl)
local macro_rules | `(tactic| walk_at "eo ext") => `(tactic| first | with_reducible assumption | with_reducible exact Ext.refl _ | ((with_reducible apply Ext.snoc); (with_reducible assumption); (walk_at "eo ext"); (walk_at "eo sub")))
local macro_rules | `(tactic| walk_at "eo sub") => `(tactic| first | with_reducible exact sub0 | ((with_reducible apply sub1); (walk_at "eo mem")) | ((with_reducible apply sub1f); (walk_at "eo free")) | ((with_reducible apply subC); (walk_at "eo mem"); (walk_at "eo sub")) | ((with_reducible apply subCf); (walk_at "eo free"); (walk_at "eo sub")))
local macro_rules | `(tactic| walk_at "eo free") => `(tactic| first | with_reducible assumption | ((with_reducible apply Ext.free); (with_reducible assumption); (walk_at "eo free"); (walk_at "eo nin")))
local macro_rules | `(tactic| walk_at "eo cut") => `(tactic| first | ((apply Eq.trans); (first | exact cut_midL | exact cut_toL | exact cut_fromL | exact cut_negToL (by decide) | exact cut_negFromL (by decide)); ((try simp only [List.take_succ_cons, List.take_zero, List.drop_succ_cons, List.drop_zero, List.length_cons, List.length_nil, Nat.reduceAdd, Nat.reduceSub]); first | done | rfl)) | rfl)
local macro_rules | `(tactic| walk_at "eo len") => `(tactic| first | exact leLine | (rw [sizeLine_eq]; simp only [List.length_append, List.length_cons, List.length_nil, List.length_map, List.length_take]; omega))
local macro_rules | `(tactic| walk_at "eo arith") => `(tactic| first | decide | omega)
local macro_rules | `(tactic| walk_at "eo mul") => `(tactic| first | (refine CMul.left ?_; first | decide | (constructor <;> omega)) | (refine CMul.right ?_; first | decide | (constructor <;> omega)))
local macro_rules | `(tactic| walk_at "eo step") => `(tactic| first
  | ((with_reducible apply g_var); (with_unfolding_all rfl))
  | with_reducible refine g_C ?_
  | with_reducible refine g_cons ?_
  | with_reducible refine g_nil ?_
  | with_reducible refine g_op ?_
  | with_reducible refine g_asg ?_
  | with_reducible refine g_name ?_
  | with_reducible refine g_seq ?_
  | with_reducible refine g_CB ?_
  | with_reducible refine g_bl ?_
  | with_reducible refine g_test ?_
  | with_reducible refine g_rI0 ?_
  | with_reducible refine g_addI ?_
  | ((with_reducible apply g_ixT); (walk_at "eo sqT"); (walk_at "eo at"))
  | ((with_reducible apply g_ixL); (walk_at "eo sqL"); (walk_at "eo at"))
  | ((with_reducible apply g_fld'); (walk_at "eo fact"); (with_reducible assumption); ((with_reducible apply na_of); (with_reducible assumption); (walk_at "eo mem")); (walk_at "eo lk"))
  | with_reducible refine g_fld ?_
  | with_reducible refine g_ret ?_
  | with_reducible refine g_ifS ?_
  | with_reducible refine g_iteIN ?_
  | ((with_reducible apply g_iteDT); (first | with_reducible assumption | decide))
  | ((with_reducible apply g_iteDF); (first | with_reducible assumption | decide))
  | with_reducible refine g_iteT ?_
  | with_reducible refine g_iteF ?_
  | with_reducible refine g_tup ?_
  | ((with_reducible apply g_new); (exact leLine))
  | ((with_reducible refine g_newO ?_); intro _ _ _ _ _)
  | with_reducible refine g_call ?_
  | ((with_reducible apply g_eq); (rfl))
  | with_reducible refine g_and ?_
  | with_reducible refine g_or ?_
  | ((with_reducible apply g_ne); (rfl))
  | ((with_reducible apply g_mulI); (walk_at "eo mul"))
  | ((with_reducible apply g_mod); (walk_at "eo arith"))
  | ((with_reducible apply g_divW); (walk_at "eo arith"); (walk_at "eo arith"))
  | with_reducible refine g_int1 ?_
  | with_reducible refine g_next ?_
  | with_reducible refine g_retN ?_
  | with_reducible refine g_drop ?_
  | with_reducible refine g_if ?_
  | with_reducible refine g_un ?_
  | with_reducible refine g_not ?_
  | with_reducible refine g_chain ?_
  | with_reducible refine g_andV ?_
  | with_reducible refine g_orV ?_
  | with_reducible refine g_notV ?_
  | ((with_reducible apply g_inT); (walk_at "eo sqT"); rfl; rfl)
  | ((with_reducible apply g_inL); (walk_at "eo sqL"); rfl; rfl)
  | ((with_reducible apply g_ninT); (walk_at "eo sqT"); rfl; rfl)
  | ((with_reducible apply g_ninL); (walk_at "eo sqL"); rfl; rfl)
  | with_reducible refine g_lst ?_
  | with_reducible refine g_iaddI ?_
  | ((with_reducible apply g_addT); (walk_at "eo sqT"); (walk_at "eo sqT"); (walk_at "eo len"); intro _ _ _ _)
  | ((with_reducible apply g_addL); (walk_at "eo fact"); (walk_at "eo fact"); (walk_at "eo len"))
  | with_reducible refine g_sl ?_
  | with_reducible refine g_noPart ?_
  | with_reducible refine g_part ?_
  | with_reducible refine g_part' ?_
  | ((with_reducible apply g_slT); (walk_at "eo sqT"); (walk_at "eo cut"); intro _ _ _ _)
  | ((with_reducible apply g_slL); (walk_at "eo sqL"); (walk_at "eo cut"))
  | with_reducible refine g_int1b ?_
  | with_reducible refine g_min2 ?_
  | with_reducible refine g_max2 ?_
  | with_reducible refine g_abs ?_
  | with_reducible refine g_isN' ?_
  | with_reducible refine g_neg ?_
  | with_reducible refine g_sub ?_
  | ((with_reducible apply g_setL); (walk_at "eo fact"); (walk_at "eo at"); (walk_at "eo set"); intro _ _ _)
  | with_reducible refine g_sfld ?_
  | ((with_reducible apply g_sfld'); (walk_at "eo fact"); (with_reducible assumption); ((with_reducible apply na_of); (with_reducible assumption); (walk_at "eo mem")); (exact lt1000); (walk_at "eo pf"); intro _ _ _)
  | with_reducible refine g_sfa ?_
  | ((with_reducible apply g_sfa'); (walk_at "eo fact"); (with_reducible assumption); ((with_reducible apply na_of); (with_reducible assumption); (walk_at "eo mem")); (walk_at "eo lk"))
  | ((with_reducible apply g_sfa''); (walk_at "eo fact"); (exact lt1000); (walk_at "eo pf"); intro _ _ _)
  | with_reducible refine g_meth ?_
  | ((with_reducible apply g_meth'); (walk_at "eo fact"); (walk_at "eo lk"))
  | with_reducible refine g_make ?_
  | ((with_reducible apply g_listL); (walk_at "eo sqL"))
  | ((with_reducible apply g_listT); (walk_at "eo sqT"))
  | ((with_reducible apply g_tupL); (walk_at "eo sqL"))
  | ((with_reducible apply g_tupT); (walk_at "eo sqT"))
  | ((with_reducible apply g_lenL); (walk_at "eo sqL"))
  | ((with_reducible apply g_lenT); (walk_at "eo sqT"))
  | ((with_reducible apply g_lenD); (walk_at "eo fact"))
  | ((with_reducible apply g_truL); (walk_at "eo sqL"))
  | ((with_reducible apply g_truT); (walk_at "eo sqT"))
  | ((with_reducible apply g_truD); (walk_at "eo fact"))
  | with_reducible refine g_truBl ?_
  | with_reducible refine g_truI ?_
  | with_reducible refine g_truN ?_
  | with_reducible refine g_appd ?_
  | with_reducible refine g_bm0 ?_
  | ((with_reducible apply g_tyL); (walk_at "eo sqL"))
  | ((with_reducible apply g_append); (walk_at "eo fact"); (walk_at "eo arith"); intro _ _ _)
  | with_reducible refine g_par ?_
  | with_reducible refine g_par' ?_
  | with_reducible refine g_gcons ?_
  | with_reducible refine g_gnil ?_
  | ((with_reducible apply g_gtup); (walk_at "eo sqT"); (with_unfolding_all rfl))
  | ((with_reducible apply g_aug); (with_unfolding_all rfl))
  | with_reducible refine g_for ?_
  | with_reducible refine g_iList ?_
  | with_reducible refine g_iTup ?_
  | with_reducible refine g_iR1 ?_
  | with_reducible refine g_iR2 ?_
  | with_reducible refine g_iR3 ?_
  | with_reducible refine g_lc ?_
  | with_reducible refine g_stE ?_
  | with_reducible refine g_stG ?_
  | with_reducible refine g_stT ?_
  | with_reducible refine g_yes ?_
  | ((with_reducible apply g_itLf); (walk_at "eo sqL"))
  | ((with_reducible apply g_itTf); (walk_at "eo sqT"))
  | ((with_reducible apply g_itLl); (walk_at "eo sqL"))
  | ((with_reducible apply g_itTl); (walk_at "eo sqT"))
  | ((with_reducible apply g_itR1f); (walk_at "eo arith"); (walk_at "eo arith"))
  | ((with_reducible apply g_itR1l); (walk_at "eo arith"); (walk_at "eo arith"))
  | ((with_reducible apply g_itR2f); (walk_at "eo arith"))
  | ((with_reducible apply g_itR2l); (walk_at "eo arith"))
  | with_reducible refine g_iteRN ?_
  | with_reducible refine g_iteSN ?_
  | with_reducible refine g_iteNIN ?_
  | with_reducible refine g_iteNRN ?_
  | with_reducible refine g_cnt ?_
  | with_reducible refine g_brk ?_)
local macro_rules | `(tactic| walk_at "eo go") => `(tactic| repeat (walk_at "eo step"))
local macro_rules | `(tactic| walk_at "eo init") => `(tactic| (dsimp only [cxOf, Cx.nox, Cx.wish, L2.start, List.map, List.length, List.replicate, List.cons_append, List.nil_append, Nat.reduceAdd, Nat.reduceSub]))
theorem dec_t {p : Prop} [Decidable p] (h : decide p = true) : p := of_decide_eq_true h
theorem dec_f {p : Prop} [Decidable p] (h : decide p = false) : ¬ p := of_decide_eq_false h
theorem vint {i j : Int} (h : V.int i = V.int j) : i = j := V.int.inj h
theorem mem_map_int {xs : List Int} {i : Nat} {x : V} (h : (xs.map V.int)[i]? = some x) : ∃ n, xs[i]? = some n ∧ x = .int n := by
  rw [List.getElem?_map] at h
  cases e : xs[i]? with
  | none => rw [e] at h; cases h
  | some n => rw [e] at h; exact ⟨n, rfl, (Option.some.inj h).symm⟩
def top (i : Nat) : Stmt := PySem.Challenge.pw_everyoctetonce_k01_octets_and_checks.main.body.getD i (.Pass ⟨0, 0, 0, 0⟩)
abbrev s_two_octets : Stmt := top 2
theorem sc_two_octets : FnScope ["n"] ["n"] (defScope s_two_octets) := ⟨rfl, rfl, rfl, by decide +kernel, rfl, by decide +kernel, by decide +kernel⟩
abbrev s_number_of : Stmt := top 3
theorem sc_number_of : FnScope ["octets", "found", "own"] ["octets"] (defScope s_number_of) := ⟨rfl, rfl, rfl, by decide +kernel, rfl, by decide +kernel, by decide +kernel⟩
abbrev s_check16 : Stmt := top 4
theorem sc_check16 : FnScope ["octets", "register", "own", "upper"] ["octets"] (defScope s_check16) := ⟨rfl, rfl, rfl, by decide +kernel, rfl, by decide +kernel, by decide +kernel⟩
abbrev s_sum16 : Stmt := top 5
theorem sc_sum16 : FnScope ["octets", "found", "place", "second"] ["octets"] (defScope s_sum16) := ⟨rfl, rfl, rfl, by decide +kernel, rfl, by decide +kernel, by decide +kernel⟩
abbrev s_sealed : Stmt := top 6
theorem sc_sealed : FnScope ["octets"] ["octets"] (defScope s_sealed) := ⟨rfl, rfl, rfl, by decide +kernel, rfl, by decide +kernel, by decide +kernel⟩
abbrev s_is_sealed : Stmt := top 7
theorem sc_is_sealed : FnScope ["octets"] ["octets"] (defScope s_is_sealed) := ⟨rfl, rfl, rfl, by decide +kernel, rfl, by decide +kernel, by decide +kernel⟩
abbrev s_flipped : Stmt := top 8
theorem sc_flipped : FnScope ["octets", "places", "found", "place", "at"] ["octets", "places"] (defScope s_flipped) := ⟨rfl, rfl, rfl, by decide +kernel, rfl, by decide +kernel, by decide +kernel⟩
abbrev s_law_begin : Stmt := top 10
theorem sc_law_begin : FnScope ["script", "seed", "cell"] ["script"] (defScope s_law_begin) := ⟨rfl, rfl, rfl, by decide +kernel, rfl, by decide +kernel, by decide +kernel⟩
abbrev s_law_take : Stmt := top 11
theorem sc_law_take : FnScope ["d", "many", "small", "digit"] ["d", "many"] (defScope s_law_take) := ⟨rfl, rfl, rfl, by decide +kernel, rfl, by decide +kernel, by decide +kernel⟩
abbrev s_law_pick : Stmt := top 12
theorem sc_law_pick : FnScope ["d", "menu"] ["d", "menu"] (defScope s_law_pick) := ⟨rfl, rfl, rfl, by decide +kernel, rfl, by decide +kernel, by decide +kernel⟩
abbrev s_law_octets : Stmt := top 13
theorem sc_law_octets : FnScope ["d", "most", "k"] ["d", "most"] (defScope s_law_octets) := ⟨rfl, rfl, rfl, by decide +kernel, rfl, by decide +kernel, by decide +kernel⟩
abbrev s_law_bits : Stmt := top 14
theorem sc_law_bits : FnScope ["octets", "found", "own", "power"] ["octets"] (defScope s_law_bits) := ⟨rfl, rfl, rfl, by decide +kernel, rfl, by decide +kernel, by decide +kernel⟩
abbrev s_law_check : Stmt := top 15
theorem sc_law_check : FnScope ["octets", "kept", "bit", "top", "power"] ["octets"] (defScope s_law_check) := ⟨rfl, rfl, rfl, by decide +kernel, rfl, by decide +kernel, by decide +kernel⟩
abbrev s_law_sum : Stmt := top 16
theorem sc_law_sum : FnScope ["octets", "total", "k"] ["octets"] (defScope s_law_sum) := ⟨rfl, rfl, rfl, by decide +kernel, rfl, by decide +kernel, by decide +kernel⟩
abbrev s_law : Stmt := top 17
theorem sc_law : FnScope ["script", "d", "octets", "number", "row", "due", "own", "whole", "places", "k", "place", "turned", "power", "shifted"] ["script"] (defScope s_law) := ⟨rfl, rfl, rfl, by decide +kernel, rfl, by decide +kernel, by decide +kernel⟩
structure Adr where
  f_two_octets : Addr
  d_two_octets : FuncData
  f_number_of : Addr
  d_number_of : FuncData
  f_check16 : Addr
  d_check16 : FuncData
  f_sum16 : Addr
  d_sum16 : FuncData
  f_sealed : Addr
  d_sealed : FuncData
  f_is_sealed : Addr
  d_is_sealed : FuncData
  f_flipped : Addr
  d_flipped : FuncData
  f_law_begin : Addr
  d_law_begin : FuncData
  f_law_take : Addr
  d_law_take : FuncData
  f_law_pick : Addr
  d_law_pick : FuncData
  f_law_octets : Addr
  d_law_octets : FuncData
  f_law_bits : Addr
  d_law_bits : FuncData
  f_law_check : Addr
  d_law_check : FuncData
  f_law_sum : Addr
  d_law_sum : FuncData
  f_law : Addr
  d_law : FuncData
structure Txt (K : PySem.W.Frag) (mg : Str → Option Value) (A : Adr) : Prop where
  two_octets : GF K mg "two_octets" s_two_octets ["n"] A.f_two_octets A.d_two_octets
  number_of : GF K mg "number_of" s_number_of ["octets"] A.f_number_of A.d_number_of
  check16 : GF K mg "check16" s_check16 ["octets"] A.f_check16 A.d_check16
  sum16 : GF K mg "sum16" s_sum16 ["octets"] A.f_sum16 A.d_sum16
  sealed : GF K mg "sealed" s_sealed ["octets"] A.f_sealed A.d_sealed
  is_sealed : GF K mg "is_sealed" s_is_sealed ["octets"] A.f_is_sealed A.d_is_sealed
  flipped : GF K mg "flipped" s_flipped ["octets", "places"] A.f_flipped A.d_flipped
  law_begin : GF K mg "_law_begin" s_law_begin ["script"] A.f_law_begin A.d_law_begin
  law_take : GF K mg "_law_take" s_law_take ["d", "many"] A.f_law_take A.d_law_take
  law_pick : GF K mg "_law_pick" s_law_pick ["d", "menu"] A.f_law_pick A.d_law_pick
  law_octets : GF K mg "_law_octets" s_law_octets ["d", "most"] A.f_law_octets A.d_law_octets
  law_bits : GF K mg "_law_bits" s_law_bits ["octets"] A.f_law_bits A.d_law_bits
  law_check : GF K mg "_law_check" s_law_check ["octets"] A.f_law_check A.d_law_check
  law_sum : GF K mg "_law_sum" s_law_sum ["octets"] A.f_law_sum A.d_law_sum
  law : GF K mg "law" s_law ["script"] A.f_law A.d_law
  b_range : mg "range" = none
  b_len : mg "len" = none
  b_tuple : mg "tuple" = none
  b_list : mg "list" = none
  b_int : mg "int" = none
  b_abs : mg "abs" = none
  g_MOST : GV K mg "MOST" (.int 65536)
/-! ### the law's own draws -/
/-- d holds the script's ints (a list at s), a place, what is left of a number, a seed -/
def DSt (H : Hp) (d s : Addr) : Prop := d ≠ s ∧ ∃ (ns : List Int) (pos cur seed : Int), H d = some (.lst [.ref s, .int pos, .int cur, .int seed]) ∧ H s = some (.lst (ns.map V.int)) ∧ ns.length ≤ 63 ∧ 0 ≤ pos ∧ 0 ≤ cur
theorem DSt.ext {A : List Addr} {H H' : Hp} {d s : Addr} (e : Ext A H H') (h : DSt H d s) (n1 : d ∉ A) (n2 : s ∉ A) : DSt H' d s := by
  obtain ⟨ne, ns, pos, cur, seed, h1, h2, h3⟩ := h
  exact ⟨ne, ns, pos, cur, seed, e.keep _ _ h1 n1, e.keep _ _ h2 n2, h3⟩
def spBegin (K : PySem.W.Frag) : Sp := fun vs H Q _ => ∃ (a : Addr) (ns : List Int), vs = [.ref a] ∧ SqL K H a (ns.map V.int) ∧ ns.length ≤ 63 ∧ ∀ d s H', H d = none → H s = none → Ext [] H H' → DSt H' d s → Q (.ref d) H'
def spTake : Sp := fun vs H Q _ => ∃ (d s : Addr) (many : Int), vs = [.ref d, .int many] ∧ DSt H d s ∧ 0 < many ∧ many < 2 ^ 64 ∧ ∀ k H', 0 ≤ k → k < many → Ext [d] H H' → DSt H' d s → Q (.int k) H'
def spPick (K : PySem.W.Frag) : Sp := fun vs H Q _ => ∃ (d s m : Addr) (xs : List V), vs = [.ref d, .ref m] ∧ DSt H d s ∧ SqL K H m xs ∧ m ≠ d ∧ 0 < xs.length ∧ xs.length < 1000 ∧ ∀ v H', v ∈ xs → Ext [d] H H' → DSt H' d s → Q v H'
def spLaw (K : PySem.W.Frag) : Sp := fun vs H Q _ => ∃ (a : Addr) (ns : List Int), vs = [.ref a] ∧ SqL K H a (ns.map V.int) ∧ ns.length ≤ 63 ∧ ∀ H', Q (.bl true) H'
theorem ne_dst1 {H : Hp} {d s x : Addr} (n : H x = none) (h : DSt H d s) : d ≠ x := by
  obtain ⟨_, _, _, _, _, h1, _⟩ := h
  exact ne_of_none h1 n
theorem ne_dst2 {H : Hp} {d s x : Addr} (n : H x = none) (h : DSt H d s) : s ≠ x := by
  obtain ⟨_, _, _, _, _, _, h1, _⟩ := h
  exact ne_of_none h1 n
local macro_rules | `(tactic| walk_at "eo dst") => `(tactic| first | with_reducible assumption | ((with_reducible apply DSt.ext); (with_reducible assumption); (walk_at "eo dst"); (walk_at "eo nin"); (walk_at "eo nin")))
local macro_rules | `(tactic| walk_at "eo ne2") => `(tactic| first
  | ((with_reducible apply ne_dst1); (with_reducible assumption); (walk_at "eo dst"))
  | ((with_reducible apply ne_dst2); (with_reducible assumption); (walk_at "eo dst"))
  | ((with_reducible apply Ne.symm); (with_reducible apply ne_dst1); (with_reducible assumption); (walk_at "eo dst"))
  | ((with_reducible apply Ne.symm); (with_reducible apply ne_dst2); (with_reducible assumption); (walk_at "eo dst")))
section
variable {P : Program} {w : World} {K : PySem.W.Frag} {mg : Str → Option Value} {base : Heap}
theorem ok_law_begin {A : Adr} (T : Txt K mg A) : FnOk P w K mg base CX0 1 A.f_law_begin A.d_law_begin ["script"] (spBegin K) := by
  refine T.law_begin.F.ok sc_law_begin (fun vs H Q E h => ?_) (fun cdv Ar outer s H vs Q E hr h => ?_)
  · obtain ⟨a, ns, rfl, _⟩ := h
    rfl
  · obtain ⟨a, ns, rfl, hS, hlen, k⟩ := h
    refine ⟨_, (pss_cons (ps_set (i := 1) sc_law_begin.nd rfl (Or.inl rfl) pe_int)
      (pss_cons (ps_for PassesOwn.never rfl (pi_list (pv 0)) (pg_name (i := 2) sc_law_begin.nd rfl (Or.inl rfl)) (pss_one (ps_set (i := 1) sc_law_begin.nd rfl (Or.inl rfl) (pe_op op_mod (pe_op o_add (pe_op o_add (pe_op o_mul (pv 1) pe_int) (pe_op op_mod (pe_callTy (T := "int") o_int (by rfl) T.b_int (by decide +kernel) (pa_cons (pv 2) pa_nil)) pe_int)) pe_int) pe_int))))
      (pss_one (ps_ret (pe_lstX (pa_cons (pe_callTy (T := "list") o_list (by rfl) T.b_list (by decide +kernel) (pa_cons (pv 0) pa_nil)) (pa_cons pe_int (pa_cons pe_int (pa_cons (pv 1) pa_nil))))))))), ?_⟩
    walk_at "eo init"
    walk_at "eo go"
    refine g_forL (ns.map V.int) hS (fun i σ H' => ∃ (z : Int) (c : Option V), σ = [some (.ref a), some (.int z), c] ∧ H' = H) ⟨1, none, rfl, rfl⟩ (fun i σ H' _ ⟨_, _, _, e⟩ => by rw [e]; exact hS) ?_ ?_
    · rintro i x σ H' hi ⟨z, c, rfl, rfl⟩
      obtain ⟨n, _, rfl⟩ := mem_map_int hi
      walk_at "eo go"
      exact ⟨_, _, rfl, rfl⟩
    · rintro σ H' ⟨z, c, rfl, rfl⟩
      walk_at "eo go"
      rename_i s1 H1 hs1 e1 hl d1 H2 hd1 e2 hd
      have f1 : H2 s1 = some (.lst (ns.map V.int)) := by walk_at "eo fact"
      exact k d1 s1 H2 (by walk_at "eo free") hs1 (by walk_at "eo ext") ⟨(ne_of_none hl hd1).symm, ns, 0, 0, z, hd, f1, hlen, Int.le_refl _, Int.le_refl _⟩
theorem ok_law_take {A : Adr} (T : Txt K mg A) : FnOk P w K mg base CX0 1 A.f_law_take A.d_law_take ["d", "many"] spTake := by
  refine T.law_take.F.ok sc_law_take (fun vs H Q E h => ?_) (fun cdv Ar outer s H vs Q E hr h => ?_)
  · obtain ⟨d, s, many, rfl, _⟩ := h
    rfl
  · obtain ⟨d, s, many, rfl, ⟨ne, ns, pos, cur, seed, hd, hs, hlen, hp, hc⟩, hm, hm2, k⟩ := h
    refine ⟨_, (pss_cons (ps_if (PW.pt (pw_and (pt_cmpR (o_eq hr.units) (pe_ix ix_seq (pv 0) pe_int (fun _ _ => rfl)) pe_int (nomark _)) (pw_and1 (pt_cmpR op_lt (pe_ix ix_seq (pv 0) pe_int (fun _ _ => rfl)) (pe_callB (id := "len") o_len (by rfl) T.b_len (by decide +kernel) (pa_cons (pe_ix ix_seq (pv 0) pe_int (fun _ _ => rfl)) pa_nil)) (nomark _))))) (pss_cons (ps_asg (pe_callB (id := "abs") o_abs (by rfl) T.b_abs (by decide +kernel) (pa_cons (pe_callTy (T := "int") o_int (by rfl) T.b_int (by decide +kernel) (pa_cons (pe_ix ix_seq (pe_ix ix_seq (pv 0) pe_int (fun _ _ => rfl)) (pe_ix ix_seq (pv 0) pe_int (fun _ _ => rfl)) (fun _ _ => rfl)) pa_nil)) pa_nil)) (pg_sub (pv 0) pe_int set_list))
      (pss_cons (ps_asg (pe_op o_add (pe_ix ix_seq (pv 0) pe_int (fun _ _ => rfl)) pe_int) (pg_sub (pv 0) pe_int set_list))
      (pss_one (ps_if (pt_chain op_lt op_lt pe_int (pe_ix ix_seq (pv 0) pe_int (fun _ _ => rfl)) (pv 1)) (pss_cons (ps_set (i := 2) sc_law_take.nd rfl (Or.inl rfl) (pe_ix ix_seq (pv 0) pe_int (fun _ _ => rfl)))
      (pss_cons (ps_asg pe_int (pg_sub (pv 0) pe_int set_list))
      (pss_one (ps_ret (pv 2))))) pss_nil)))) pss_nil)
      (pss_cons (ps_if (pt_cmpR op_gt (pe_ix ix_seq (pv 0) pe_int (fun _ _ => rfl)) pe_int (nomark _)) (pss_cons (ps_set (i := 3) sc_law_take.nd rfl (Or.inl rfl) (pe_op op_mod (pe_callTy (T := "int") o_int (by rfl) T.b_int (by decide +kernel) (pa_cons (pe_ix ix_seq (pv 0) pe_int (fun _ _ => rfl)) pa_nil)) (pv 1)))
      (pss_cons (ps_asg (pe_op op_fdivW (pe_callTy (T := "int") o_int (by rfl) T.b_int (by decide +kernel) (pa_cons (pe_ix ix_seq (pv 0) pe_int (fun _ _ => rfl)) pa_nil)) (pv 1)) (pg_sub (pv 0) pe_int set_list))
      (pss_one (ps_ret (pv 3))))) pss_nil)
      (pss_cons (ps_asg (pe_op op_mod (pe_callTy (T := "int") o_int (by rfl) T.b_int (by decide +kernel) (pa_cons (pe_op o_add (pe_op o_mul (pe_ix ix_seq (pv 0) pe_int (fun _ _ => rfl)) pe_int) pe_int) pa_nil)) pe_int) (pg_sub (pv 0) pe_int set_list))
      (pss_one (ps_ret (pe_op op_mod (pe_callTy (T := "int") o_int (by rfl) T.b_int (by decide +kernel) (pa_cons (pe_op op_fdivW (pe_ix ix_seq (pv 0) pe_int (fun _ _ => rfl)) pe_int) pa_nil)) (pv 1))))))), ?_⟩
    walk_at "eo init"
    have nsd : s ≠ d := ne.symm
    have leaf : ∀ (x : Int) (H1 : Hp) (pos cur seed : Int), Ext [d] H H1 → H1 d = some (.lst [.ref s, .int pos, .int cur, .int seed]) → 0 ≤ pos → 0 ≤ cur → Q (.int (x % many)) H1 := fun x H1 p c sd e h1 p1 p2 =>
      k _ _ (Int.emod_nonneg _ (by omega)) (Int.emod_lt_of_pos _ hm) e ⟨ne, ns, p, c, sd, h1, e.keep _ _ hs (nin1 nsd), hlen, p1, p2⟩
    walk_at "eo go"
    refine g_ite (fun h1 => ?_) (fun h1 => ?_)
    · have h1' := vint (dec_t h1)
      subst h1'
      walk_at "eo go"
      refine g_ite (fun h2 => ?_) (fun h2 => ?_)
      · have h2' := dec_t h2
        have hpl : pos.toNat < ns.length := by rw [List.length_map] at h2'; omega
        have ha : (ns.map V.int)[pos.toNat]? = some (.int ns[pos.toNat]) := by simp [hpl]
        walk_at "eo go"
        refine g_ite (fun h3 => ?_) (fun h3 => ?_)
        · walk_at "eo go"
          refine g_ite (fun h4 => ?_) (fun h4 => ?_)
          · have h4' := dec_t h4
            walk_at "eo go"
            rename_i e3 f3
            exact k _ _ (by omega) h4' (by walk_at "eo ext") ⟨ne, ns, _, _, _, f3, by walk_at "eo fact", hlen, by omega, by omega⟩
          · walk_at "eo go"
            rename_i H9 _ f9
            exact leaf _ _ _ _ _ (by walk_at "eo ext") f9 (by omega) (Int.ediv_nonneg (by omega) (Int.le_of_lt hm))
        · walk_at "eo go"
          rename_i H9 _ f9
          exact leaf _ _ _ _ _ (by walk_at "eo ext") f9 (by omega) (by omega)
      · walk_at "eo go"
        rename_i H9 _ f9
        exact leaf _ _ _ _ _ (by walk_at "eo ext") f9 hp hc
    · have h1' : ¬ cur = 0 := fun z => dec_f h1 (by rw [z])
      have h3 : decide (0 < cur) = true := decide_eq_true (by omega)
      walk_at "eo go"
      rename_i H9 _ f9
      exact leaf _ _ _ _ _ (by walk_at "eo ext") f9 hp (Int.ediv_nonneg hc (Int.le_of_lt hm))
theorem ok_law_pick {A : Adr} (T : Txt K mg A) : FnOk P w K mg base CX0 2 A.f_law_pick A.d_law_pick ["d", "menu"] (spPick K) := by
  refine T.law_pick.F.ok sc_law_pick (fun vs H Q E h => ?_) (fun cdv Ar outer s H vs Q E hr h => ?_)
  · obtain ⟨d, s, m, xs, rfl, _⟩ := h
    rfl
  · obtain ⟨d, s, m, xs, rfl, hD, hm, nmd, h0, h1, k⟩ := h
    refine ⟨_, (pss_one (ps_ret (pe_ix ix_seq (pv 1) (pe_call (ok_law_take T) (hr.mono (by decide)) (by rfl) T.law_take.mg T.law_take.kp T.law_take.b .nil pass0 (pa_cons (pv 0) (pa_cons (pe_callB (id := "len") o_len (by rfl) T.b_len (by decide +kernel) (pa_cons (pv 1) pa_nil)) pa_nil))) (fun _ _ => rfl)))), ?_⟩
    walk_at "eo init"
    walk_at "eo go"
    refine ⟨d, s, _, rfl, hD, by omega, by omega, fun i H' i0 i1 e D' => ?_⟩
    have hi : i.toNat < xs.length := by omega
    have ha : xs[i.toNat]? = some xs[i.toNat] := by simp [hi]
    have hm' : SqL K H' m xs := sqL_ext e hm fun _ _ => nin1 nmd
    walk_at "eo go"
    exact k _ _ (List.getElem_mem hi) e D'
end
section
variable {K : PySem.W.Frag} {H : Hp} {Q : VK} {E : XK}
theorem g_take {d s : Addr} {many : Int} (hD : DSt H d s) (h0 : 0 < many) (h1 : many < 2 ^ 64) (h : ∀ k H', 0 ≤ k → k < many → Ext [d] H H' → DSt H' d s → Q (.int k) H') : spTake ([.ref d, .int many] ++ []) H Q E := ⟨d, s, many, rfl, hD, h0, h1, h⟩
theorem g_pick {d s m : Addr} {xs : List V} (hD : DSt H d s) (hm : SqL K H m xs) (ne : m ≠ d) (h0 : 0 < xs.length) (h1 : xs.length < 1000) (h : ∀ v H', v ∈ xs → Ext [d] H H' → DSt H' d s → Q v H') : spPick K ([.ref d, .ref m] ++ []) H Q E := ⟨d, s, m, xs, rfl, hD, hm, ne, h0, h1, h⟩
end
def spOct (K : PySem.W.Frag) : Sp := fun vs H Q _ => ∃ (d s : Addr) (most : Int), vs = [.ref d, .int most] ∧ DSt H d s ∧ 0 ≤ most ∧ most < 1000 ∧
  ∀ (c : Addr) (ns : List Int) (H' : Hp), Ext [d] H H' → DSt H' d s → SqT K H' c (ns.map V.int) → (∀ x ∈ ns, 0 ≤ x ∧ x ≤ 255) → (ns.length : Int) ≤ most → Q (.ref c) H'
theorem g_oct {K : PySem.W.Frag} {H : Hp} {Q : VK} {E : XK} {d s : Addr} {most : Int} (hD : DSt H d s) (h0 : 0 ≤ most) (h1 : most < 1000)
    (h : ∀ (c : Addr) (ns : List Int) (H' : Hp), Ext [d] H H' → DSt H' d s → SqT K H' c (ns.map V.int) → (∀ x ∈ ns, 0 ≤ x ∧ x ≤ 255) → (ns.length : Int) ≤ most → Q (.ref c) H') : spOct K ([.ref d, .int most] ++ []) H Q E := ⟨d, s, most, rfl, hD, h0, h1, h⟩
local macro_rules | `(tactic| walk_at "eo step") => `(tactic| first
  | ((with_reducible apply g_take); (walk_at "eo dst"); (walk_at "eo arith"); (walk_at "eo arith"); intro _ _ _ _ _ _)
  | ((with_reducible apply g_pick); (walk_at "eo dst"); (walk_at "eo sqL"); (walk_at "eo ne"); (walk_at "eo pos"); (walk_at "eo pos"); intro _ _ _ _ _)
  | ((with_reducible apply g_oct); (walk_at "eo dst"); (walk_at "eo arith"); (walk_at "eo arith"); intro _ _ _ _ _ _ _ _))
local macro_rules | `(tactic| walk_at "eo pos") => `(tactic| first | exact Nat.zero_lt_succ _ | exact lt1000)
section
variable {P : Program} {w : World} {K : PySem.W.Frag} {mg : Str → Option Value} {base : Heap}
theorem ok_law_octets {A : Adr} (T : Txt K mg A) : FnOk P w K mg base CX0 3 A.f_law_octets A.d_law_octets ["d", "most"] (spOct K) := by
  refine T.law_octets.F.ok sc_law_octets (fun vs H Q E h => ?_) (fun cdv Ar outer s H vs Q E hr h => ?_)
  · obtain ⟨d, s, m, rfl, _⟩ := h
    rfl
  · obtain ⟨d, s, m, rfl, hD, m0, m1, k⟩ := h
    refine ⟨_, (pss_one (ps_ret (pe_callTy (T := "tuple") o_tuple (by rfl) T.b_tuple (by decide +kernel) (pa_cons (pe_lc (own := [("k", 2)]) (tt := stT tYes) rfl sc_law_octets.nd (pi_range1 (by rfl) T.b_range (pa_cons (pe_call (ok_law_take T) (hr.mono (by decide)) (by rfl) T.law_take.mg T.law_take.kp T.law_take.b .nil pass0 (pa_cons (pv 0) (pa_cons (pe_op o_add (pv 1) pe_int) pa_nil))) pa_nil)) (blkOk_by (own := [("k", 2)]) (N := ["d", "most", "k"]) (sc := defScope s_law_octets) (by decide +kernel)) (fun _ _ _ _ _ => PG.star (pg_name (i := 2) sc_law_octets.nd rfl (Or.inl rfl))) (fun _ _ _ _ _ => PTs.star (pts_nil)) (fun _ _ _ _ _ => PE.star (pe_call (ok_law_pick T) (hr.mono (by decide)) (by rfl) T.law_pick.mg T.law_pick.kp T.law_pick.b .nil pass0 (pa_cons (pv 0) (pa_cons (pe_lstX (pa_cons (pe_call (ok_law_take T) (hr.mono (by decide)) (by rfl) T.law_take.mg T.law_take.kp T.law_take.b .nil pass0 (pa_cons (pv 0) (pa_cons pe_int pa_nil))) (pa_cons pe_int (pa_cons pe_int (pa_cons pe_int pa_nil))))) pa_nil))))) pa_nil)))), ?_⟩
    walk_at "eo init"
    walk_at "eo go"
    rename_i n H1 n0 n1 e1 hD1
    refine g_lcW walk_range (fun D i H2 acc => Ext [d] H H2 ∧ DSt H2 d s ∧ d ≠ D ∧ s ≠ D ∧ H D = none ∧ acc.length = i ∧ ∃ ns : List Int, acc = ns.map V.int ∧ ∀ x ∈ ns, 0 ≤ x ∧ x ≤ 255) ?_ (fun _ _ _ _ _ _ => trivial) ?_ ?_
    · intro D H2 hD0 e2 h2
      have nD : d ≠ D := ne_dst1 hD0 hD1
      have nD2 : s ≠ D := ne_dst2 hD0 hD1
      have nD3 : H D = none := e1.free hD0 (nin1 nD.symm)
      exact ⟨by walk_at "eo ext", by walk_at "eo dst", nD, nD2, nD3, rfl, [], rfl, fun _ h => by cases h⟩
    · rintro D i x H2 H3 acc hi ⟨e2, hD2, nD, nD2, fD, la, ns, rfl, hb⟩ hl ⟨rfl, rfl⟩
      walk_at "eo go"
      refine ⟨rfl, ?_⟩
      walk_at "eo go"
      rename_i t H4 t0 t1 e4 hD4 p H5 np e5 hp v H6 hv e6 hD6
      obtain ⟨z, rfl, z0, z1⟩ : ∃ z : Int, v = .int z ∧ 0 ≤ z ∧ z ≤ 255 := by
        simp only [List.mem_cons, List.not_mem_nil, or_false] at hv
        rcases hv with rfl | rfl | rfl | rfl
        · exact ⟨_, rfl, t0, by omega⟩
        · exact ⟨_, rfl, by decide, by decide⟩
        · exact ⟨_, rfl, by decide, by decide⟩
        · exact ⟨_, rfl, by decide, by decide⟩
      have h4 : H4 D = some (.lst (ns.map V.int)) := by walk_at "eo fact"
      have h5 : H5 D = some (.lst (ns.map V.int)) := by walk_at "eo fact"
      have h6 : H6 D = some (.lst (ns.map V.int)) := by walk_at "eo fact"
      refine ⟨h6, ?_, fun H7 e7 h7 => ⟨?_, DSt.ext e7 hD6 (nin1 nD) (nin1 nD2), nD, nD2, fD, by rw [List.length_append, la]; rfl, ns ++ [z], by rw [List.map_append]; rfl, ?_⟩⟩
      · rw [la, sizeLine_eq]; omega
      · walk_at "eo ext"
      · intro x hx
        rcases List.mem_append.mp hx with hx | hx
        · exact hb x hx
        · rw [List.mem_singleton.mp hx]; exact ⟨z0, z1⟩
    · rintro D H2 acc ⟨e2, hD2, nD, nD2, fD, la, ns, rfl, hb⟩ hl
      walk_at "eo go"
      rename_i c H3 nc e3 hc
      refine k _ ns _ (by walk_at "eo ext") (by walk_at "eo dst") (SqT.of hc) hb ?_
      rw [List.length_map] at la
      omega
end
/-! ### nested data, by what they are -/
def Shp (d : PyData) (k : Nat) : Prop := d.canLay0 = true ∧ d.depth ≤ k
def ShpAll (ds : List PyData) (k : Nat) : Prop := PyData.canLayAll0 ds = true ∧ PyData.depthAll ds ≤ k
theorem shp_int {i : Int} {k : Nat} : Shp (.int i) k := ⟨rfl, Nat.zero_le _⟩
theorem shp_non {k : Nat} : Shp .none k := ⟨rfl, Nat.zero_le _⟩
theorem shp_bl {b : Bool} {k : Nat} : Shp (.bool b) k := ⟨rfl, Nat.zero_le _⟩
theorem shp_nil {k : Nat} : ShpAll [] k := ⟨rfl, Nat.zero_le _⟩
theorem shp_cons {d : PyData} {ds : List PyData} {k : Nat} (h : Shp d k) (t : ShpAll ds k) : ShpAll (d :: ds) k := by
  refine ⟨?_, ?_⟩
  · rw [PyData.canLayAll0, h.1, t.1]; rfl
  · rw [PyData.depthAll]; exact Nat.max_le.mpr ⟨h.2, t.2⟩
theorem shp_tup {ds : List PyData} {k : Nat} (h : ShpAll ds k) : Shp (.tuple ds) (k + 1) := by
  refine ⟨?_, ?_⟩
  · rw [PyData.canLay0]; exact h.1
  · rw [PyData.depth]
    have := h.2
    omega
theorem shp_ints {k : Nat} : ∀ ns : List Int, ShpAll (ns.map PyData.int) k
  | [] => shp_nil
  | _ :: r => shp_cons shp_int (shp_ints r)
theorem shp_app {k : Nat} : ∀ {ds es : List PyData}, ShpAll ds k → ShpAll es k → ShpAll (ds ++ es) k
  | [], _, _, h => h
  | d :: ds, es, h, g => by
    have h1 := h.1
    have h2 := h.2
    rw [PyData.canLayAll0, Bool.and_eq_true] at h1
    rw [PyData.depthAll] at h2
    have h3 := Nat.max_le.mp h2
    exact shp_cons ⟨h1.1, h3.1⟩ (shp_app ⟨h1.2, h3.2⟩ g)
theorem Shp.shaped {d : PyData} {k : Nat} (h : Shp d k) (l : k ≤ 64) : SeqAt.shaped d = true := by
  unfold SeqAt.shaped
  rw [h.1, decide_eq_true (Nat.le_trans h.2 l)]
  rfl
theorem dp_ints {K : PySem.W.Frag} {H : Hp} : ∀ ns : List Int, DpAll K H (ns.map V.int) (ns.map PyData.int)
  | [] => .nil
  | n :: r => .cons (.int n) (dp_ints r)
theorem dp_app {K : PySem.W.Frag} {H : Hp} : ∀ {xs ys : List V} {ds es : List PyData}, DpAll K H xs ds → DpAll K H ys es → DpAll K H (xs ++ ys) (ds ++ es)
  | _, _, _, _, .nil, h => h
  | _, _, _, _, .cons a t, h => .cons a (dp_app t h)
section
variable {K : PySem.W.Frag} {H : Hp} {Q : VK} {x y : V} {d e : PyData} {k : Nat}
theorem g_eqD (hx : Dp K H x d) (hy : Dp K H y e) (hs : Shp d 8) (he : d = e) (h : Q (.bl true) H) : rEqX K x y H Q := by
  subst he
  refine .inr ⟨d, d, hx, hy, hs.shaped (by decide), hs.shaped (by decide), ?_⟩
  rw [SeqAt.eqv_refl d hs.1]
  exact h
theorem g_neD (hx : Dp K H x d) (hy : Dp K H y e) (hs : Shp d 8) (he : d = e) (h : Q (.bl false) H) : rNeX K x y H Q := by
  subst he
  refine .inr ⟨d, d, hx, hy, hs.shaped (by decide), hs.shaped (by decide), ?_⟩
  rw [SeqAt.eqv_refl d hs.1]
  exact h
end
local macro_rules | `(tactic| walk_at "eo dp") => `(tactic| first | with_reducible exact Dp.int _ | with_reducible exact Dp.non | with_reducible exact Dp.bl _ | with_reducible exact Dp.str _ | with_reducible assumption | ((with_reducible apply Dp.tup); (walk_at "eo sqT"); (walk_at "eo dps")))
local macro_rules | `(tactic| walk_at "eo dps") => `(tactic| first | with_reducible exact DpAll.nil | with_reducible exact dp_ints _ | ((with_reducible apply dp_app); (walk_at "eo dps"); (walk_at "eo dps")) | ((with_reducible apply DpAll.cons); (walk_at "eo dp"); (walk_at "eo dps")))
local macro_rules | `(tactic| walk_at "eo shp") => `(tactic| first | with_reducible exact shp_int | with_reducible exact shp_non | with_reducible exact shp_bl | (apply shp_tup; (walk_at "eo shps")))
local macro_rules | `(tactic| walk_at "eo shps") => `(tactic| first | with_reducible exact shp_nil | with_reducible exact shp_ints _ | ((with_reducible apply shp_app); (walk_at "eo shps"); (walk_at "eo shps")) | ((with_reducible apply shp_cons); (walk_at "eo shp"); (walk_at "eo shps")))
local macro_rules | `(tactic| walk_at "eo step") => `(tactic| first
  | ((with_reducible apply g_neD); (walk_at "eo dp"); (walk_at "eo dp"); (walk_at "eo shp"); rfl)
  | ((with_reducible apply g_eqD); (walk_at "eo dp"); (walk_at "eo dp"); (walk_at "eo shp"); rfl))
/-! ### octets: what they compute -/
def num (ns : List Int) : Int := ns.foldl (fun f o => f * 256 + o) 0
def nearestI (w k s : Int) : Int := k + (w - k) % s - (if (w - k) % s ≥ s / 2 then s else 0)
abbrev TI (K : PySem.W.Frag) (H : Hp) (a : Addr) (ns : List Int) : Prop := SqT K H a (ns.map V.int)
def spTwo (K : PySem.W.Frag) : Sp := fun vs H Q _ => ∃ n, vs = [.int n] ∧ ∀ c H', Ext [] H H' → SqT K H' c [.int (n / 256), .int (n % 256)] → Q (.ref c) H'
def spFour (K : PySem.W.Frag) : Sp := fun vs H Q _ => ∃ n, vs = [.int n] ∧ ∀ c H', Ext [] H H' → SqT K H' c [.int (n / 65536 / 256), .int (n / 65536 % 256), .int (n % 65536 / 256), .int (n % 65536 % 256)] → Q (.ref c) H'
def spNum (K : PySem.W.Frag) : Sp := fun vs H Q _ => ∃ (a : Addr) (xs : List V) (ns : List Int), vs = [.ref a] ∧ SqT K H a xs ∧ xs = ns.map V.int ∧ Q (.int (num ns)) H
def spNearest : Sp := fun vs H Q _ => ∃ w k s, vs = [.int w, .int k, .int s] ∧ 0 < s ∧ s < 2 ^ 64 ∧ Q (.int (nearestI w k s)) H
section
variable {K : PySem.W.Frag} {H : Hp} {Q : VK} {E : XK}
theorem g_two {n : Int} (h : ∀ c H', Ext [] H H' → SqT K H' c [.int (n / 256), .int (n % 256)] → Q (.ref c) H') : spTwo K ([.int n] ++ []) H Q E := ⟨n, rfl, h⟩
theorem g_four {n : Int} (h : ∀ c H', Ext [] H H' → SqT K H' c [.int (n / 65536 / 256), .int (n / 65536 % 256), .int (n % 65536 / 256), .int (n % 65536 % 256)] → Q (.ref c) H') : spFour K ([.int n] ++ []) H Q E := ⟨n, rfl, h⟩
theorem g_nearest {w k s : Int} (h0 : 0 < s) (h1 : s < 2 ^ 64) (h : Q (.int (nearestI w k s)) H) : spNearest ([.int w, .int k, .int s] ++ []) H Q E := ⟨w, k, s, rfl, h0, h1, h⟩
end
local macro_rules | `(tactic| walk_at "eo step") => `(tactic| first
  | ((with_reducible refine g_two ?_); intro _ _ _ _)
  | ((with_reducible refine g_four ?_); intro _ _ _ _)
  | ((with_reducible apply g_nearest); (walk_at "eo arith"); (walk_at "eo arith")))
section
variable {P : Program} {w : World} {K : PySem.W.Frag} {mg : Str → Option Value} {base : Heap}
theorem ok_two_octets {A : Adr} (T : Txt K mg A) : FnOk P w K mg base CX0 1 A.f_two_octets A.d_two_octets ["n"] (spTwo K) := by
  refine T.two_octets.F.ok sc_two_octets (fun vs H Q E h => ?_) (fun cdv Ar outer s H vs Q E hr h => ?_)
  · obtain ⟨n, rfl, _⟩ := h
    rfl
  · obtain ⟨n, rfl, k⟩ := h
    refine ⟨_, (pss_one (ps_ret (pe_tupX (pa_cons (pe_op op_fdivW (pv 0) pe_int) (pa_cons (pe_op op_mod (pv 0) pe_int) pa_nil))))), ?_⟩
    walk_at "eo init"
    walk_at "eo go"
    rename_i p H1 np e1 h1
    exact k _ _ e1 (SqT.of h1)
theorem ok_number_of {A : Adr} (T : Txt K mg A) : FnOk P w K mg base CX0 1 A.f_number_of A.d_number_of ["octets"] (spNum K) := by
  refine T.number_of.F.ok sc_number_of (fun vs H Q E h => ?_) (fun cdv Ar outer s H vs Q E hr h => ?_)
  · obtain ⟨a, xs, ns, rfl, _⟩ := h
    rfl
  · obtain ⟨a, xs, ns, rfl, hT, rfl, k⟩ := h
    refine ⟨_, (pss_cons (ps_set (i := 1) sc_number_of.nd rfl (Or.inl rfl) pe_int)
      (pss_cons (ps_for PassesOwn.never rfl (pi_tup (pv 0)) (pg_name (i := 2) sc_number_of.nd rfl (Or.inl rfl)) (pss_one (ps_set (i := 1) sc_number_of.nd rfl (Or.inl rfl) (pe_op o_add (pe_op o_mul (pv 1) pe_int) (pv 2)))))
      (pss_one (ps_ret (pv 1))))), ?_⟩
    walk_at "eo init"
    walk_at "eo go"
    refine g_forT (ns.map V.int) (fun i σ H' => H' = H ∧ ∃ c, σ = [some (.ref a), some (.int (num (ns.take i))), c]) ⟨rfl, none, rfl⟩ (fun i σ H' _ ⟨e, _⟩ => by rw [e]; exact hT) ?_ ?_
    · rintro i x σ H' hi ⟨rfl, c, rfl⟩
      obtain ⟨n, hn, rfl⟩ := mem_map_int hi
      walk_at "eo go"
      refine ⟨rfl, some (.int n), ?_⟩
      have e : num (ns.take (i + 1)) = num (ns.take i) * 256 + n := by
        unfold num
        have hl : i < ns.length := (List.getElem?_eq_some_iff.mp hn).1
        have h2 : ns[i] = n := (List.getElem?_eq_some_iff.mp hn).2
        rw [List.take_succ_eq_append_getElem hl, List.foldl_append, h2]
        rfl
      rw [e]
      rfl
    · rintro σ H' ⟨rfl, c, rfl⟩
      walk_at "eo go"
      rw [List.length_map, List.take_length]
      exact k
end
/-! ### the check, bit by bit, over the natural numbers -/
def bstep (r : Nat) (b : Bool) : Nat := ((r <<< 1) % 65536) ^^^ (if (r.testBit 15) != b then 4129 else 0)
def zst (r : Nat) : Nat := bstep r false
def zit : Nat → Nat → Nat
  | 0, r => r
  | n + 1, r => zit n (zst r)
def fbits (r : Nat) (bs : List Bool) : Nat := bs.foldl bstep r
def bits8 (o : Nat) : List Bool := [o.testBit 7, o.testBit 6, o.testBit 5, o.testBit 4, o.testBit 3, o.testBit 2, o.testBit 1, o.testBit 0]
def s8 (r o : Nat) : Nat := fbits r (bits8 o)
def crcO (r : Nat) (os : List Nat) : Nat := os.foldl s8 r
theorem xor_lt16 {a b : Nat} (h : a < 65536) (g : b < 65536) : a ^^^ b < 65536 := Nat.xor_lt_two_pow (n := 16) h g
theorem bstep_lt (r : Nat) (b : Bool) : bstep r b < 65536 := by
  unfold bstep
  apply xor_lt16 (Nat.mod_lt _ (by decide))
  split <;> decide
theorem xor4 (a b c d : Nat) : (a ^^^ b) ^^^ (c ^^^ d) = (a ^^^ c) ^^^ (b ^^^ d) := by
  rw [Nat.xor_assoc, Nat.xor_assoc, ← Nat.xor_assoc b c d, Nat.xor_comm b c, Nat.xor_assoc c b d]
theorem bstep_lin (x y : Nat) (a b : Bool) : bstep (x ^^^ y) (a ^^ b) = bstep x a ^^^ bstep y b := by
  have e : ((x ^^^ y) <<< 1) % 65536 = ((x <<< 1) % 65536) ^^^ ((y <<< 1) % 65536) := by
    rw [Nat.shiftLeft_xor_distrib]
    exact Nat.xor_mod_two_pow (n := 16)
  unfold bstep
  rw [e, xor4, Nat.testBit_xor]
  congr 1
  cases x.testBit 15 <;> cases y.testBit 15 <;> cases a <;> cases b <;> decide
theorem bstep_lin0 (x y : Nat) (b : Bool) : bstep (x ^^^ y) b = bstep x b ^^^ zst y := by
  have h := bstep_lin x y b false
  rw [Bool.xor_false] at h
  exact h
theorem bstep_not (x : Nat) (b : Bool) : bstep x (!b) = bstep x b ^^^ 4129 := by
  have h := bstep_lin x 0 b true
  rw [Nat.xor_zero, Bool.xor_true] at h
  rw [h]
  rfl
theorem zst_lin (x y : Nat) : zst (x ^^^ y) = zst x ^^^ zst y := bstep_lin0 x y false
theorem zit_lin : ∀ (n x y : Nat), zit n (x ^^^ y) = zit n x ^^^ zit n y
  | 0, _, _ => rfl
  | n + 1, x, y => by
    show zit n (zst (x ^^^ y)) = zit n (zst x) ^^^ zit n (zst y)
    rw [zst_lin, zit_lin n]
theorem zit_add : ∀ (n m x : Nat), zit (n + m) x = zit m (zit n x)
  | 0, m, x => by rw [Nat.zero_add]; rfl
  | n + 1, m, x => by
    rw [show n + 1 + m = (n + m) + 1 by omega]
    exact zit_add n m (zst x)
theorem fbits_lin : ∀ (bs : List Bool) (x y : Nat), fbits (x ^^^ y) bs = fbits x bs ^^^ zit bs.length y
  | [], _, _ => rfl
  | b :: bs, x, y => by
    show fbits (bstep (x ^^^ y) b) bs = fbits (bstep x b) bs ^^^ zit bs.length (zst y)
    rw [bstep_lin0, fbits_lin bs]
theorem s8_lin (x y o : Nat) : s8 (x ^^^ y) o = s8 x o ^^^ zit 8 y := fbits_lin (bits8 o) x y
theorem crcO_lin : ∀ (os : List Nat) (x y : Nat), crcO (x ^^^ y) os = crcO x os ^^^ zit (8 * os.length) y
  | [], _, _ => rfl
  | o :: os, x, y => by
    show crcO (s8 (x ^^^ y) o) os = crcO (s8 x o) os ^^^ zit (8 * (os.length + 1)) y
    rw [s8_lin, crcO_lin os, ← zit_add, show 8 * (os.length + 1) = 8 + 8 * os.length by omega]
theorem s8_lt (r o : Nat) : s8 r o < 65536 := bstep_lt _ _
theorem crcO_lt : ∀ (os : List Nat) (r : Nat), r < 65536 → crcO r os < 65536
  | [], _, h => h
  | o :: os, r, _ => crcO_lt os _ (s8_lt r o)
theorem fbits_not : ∀ (pre : List Bool) (b : Bool) (post : List Bool) (r : Nat), fbits r (pre ++ (!b) :: post) = fbits r (pre ++ b :: post) ^^^ zit post.length 4129
  | [], b, post, r => by
    show fbits (bstep r (!b)) post = fbits (bstep r b) post ^^^ _
    rw [bstep_not, fbits_lin]
  | p :: pre, b, post, r => fbits_not pre b post (bstep r p)
theorem s8_flip (r o m : Nat) (hm : m < 8) : s8 r (o ^^^ 2 ^ m) = s8 r o ^^^ zit m 4129 := by
  have t : ∀ i, (o ^^^ 2 ^ m).testBit i = (o.testBit i ^^ decide (m = i)) := fun i => by rw [Nat.testBit_xor, Nat.testBit_two_pow]
  unfold s8 bits8
  simp only [t]
  match m, hm with
  | 0, _ => simpa using fbits_not [o.testBit 7, o.testBit 6, o.testBit 5, o.testBit 4, o.testBit 3, o.testBit 2, o.testBit 1] (o.testBit 0) [] r
  | 1, _ => simpa using fbits_not [o.testBit 7, o.testBit 6, o.testBit 5, o.testBit 4, o.testBit 3, o.testBit 2] (o.testBit 1) [o.testBit 0] r
  | 2, _ => simpa using fbits_not [o.testBit 7, o.testBit 6, o.testBit 5, o.testBit 4, o.testBit 3] (o.testBit 2) [o.testBit 1, o.testBit 0] r
  | 3, _ => simpa using fbits_not [o.testBit 7, o.testBit 6, o.testBit 5, o.testBit 4] (o.testBit 3) [o.testBit 2, o.testBit 1, o.testBit 0] r
  | 4, _ => simpa using fbits_not [o.testBit 7, o.testBit 6, o.testBit 5] (o.testBit 4) [o.testBit 3, o.testBit 2, o.testBit 1, o.testBit 0] r
  | 5, _ => simpa using fbits_not [o.testBit 7, o.testBit 6] (o.testBit 5) [o.testBit 4, o.testBit 3, o.testBit 2, o.testBit 1, o.testBit 0] r
  | 6, _ => simpa using fbits_not [o.testBit 7] (o.testBit 6) [o.testBit 5, o.testBit 4, o.testBit 3, o.testBit 2, o.testBit 1, o.testBit 0] r
  | 7, _ => simpa using fbits_not [] (o.testBit 7) [o.testBit 6, o.testBit 5, o.testBit 4, o.testBit 3, o.testBit 2, o.testBit 1, o.testBit 0] r
/-- one bit turned in a row of octets -/
theorem crcO_flip : ∀ (os : List Nat) (q m r : Nat) (hq : q < os.length), m < 8 → crcO r (os.set q (os[q] ^^^ 2 ^ m)) = crcO r os ^^^ zit (8 * (os.length - 1 - q) + m) 4129
  | [], q, _, _, hq, _ => absurd hq (Nat.not_lt_zero _)
  | o :: os, 0, m, r, _, hm => by
    show crcO (s8 r (o ^^^ 2 ^ m)) os = crcO (s8 r o) os ^^^ _
    rw [s8_flip r o m hm, crcO_lin, ← zit_add, show (o :: os).length - 1 - 0 = os.length from rfl, Nat.add_comm]
  | o :: os, q + 1, m, r, hq, hm => by
    have h : q < os.length := Nat.lt_of_succ_lt_succ hq
    show crcO (s8 r o) (os.set q (os[q] ^^^ 2 ^ m)) = crcO (s8 r o) os ^^^ _
    rw [crcO_flip os q m (s8 r o) h hm]
    congr 2
    show 8 * (os.length - 1 - q) + m = 8 * (os.length + 1 - 1 - (q + 1)) + m
    omega
/-- the powers, up to 512 -/
def pwl : Nat → Nat → List Nat
  | 0, _ => []
  | n + 1, r => r :: pwl n (zst r)
theorem pwl_get : ∀ (n i r : Nat), i < n → (pwl n r)[i]? = some (zit i r)
  | 0, _, _, h => absurd h (Nat.not_lt_zero _)
  | n + 1, 0, _, _ => rfl
  | n + 1, i + 1, r, h => by
    show (pwl n (zst r))[i]? = some (zit i (zst r))
    exact pwl_get n i (zst r) (Nat.lt_of_succ_lt_succ h)
theorem pwl_nodup : (pwl 512 4129).Nodup := by decide +kernel
def par (r : Nat) : Bool := (List.range 16).foldl (fun acc i => acc ^^ r.testBit i) false
theorem par_fold (x y : Nat) : ∀ (l : List Nat) (a b : Bool), l.foldl (fun acc i => acc ^^ (x ^^^ y).testBit i) (a ^^ b) = (l.foldl (fun acc i => acc ^^ x.testBit i) a ^^ l.foldl (fun acc i => acc ^^ y.testBit i) b)
  | [], _, _ => rfl
  | i :: l, a, b => by
    have e : ((a ^^ b) ^^ (x ^^^ y).testBit i) = ((a ^^ x.testBit i) ^^ (b ^^ y.testBit i)) := by
      rw [Nat.testBit_xor]
      cases a <;> cases b <;> cases x.testBit i <;> cases y.testBit i <;> rfl
    show l.foldl _ ((a ^^ b) ^^ (x ^^^ y).testBit i) = _
    rw [e]
    exact par_fold x y l _ _
theorem par_xor (x y : Nat) : par (x ^^^ y) = (par x ^^ par y) := par_fold x y (List.range 16) false false
theorem pwl_par : (pwl 512 4129).all par = true := by decide +kernel
theorem par_pw {i : Nat} (h : i < 512) : par (zit i 4129) = true := List.all_eq_true.mp pwl_par _ (List.mem_of_getElem? (pwl_get 512 i 4129 h))
theorem pw_ne {i j : Nat} (hi : i < 512) (hj : j < 512) (ne : i ≠ j) : zit i 4129 ≠ zit j 4129 := fun e => by
  have a := pwl_get 512 i 4129 hi
  have b := pwl_get 512 j 4129 hj
  obtain ⟨a1, a2⟩ := List.getElem?_eq_some_iff.mp a
  obtain ⟨b1, b2⟩ := List.getElem?_eq_some_iff.mp b
  exact ne ((List.getElem_inj pwl_nodup).mp (a2.trans (e.trans b2.symm)))
theorem one_ne {i : Nat} (h : i < 512) : zit i 4129 ≠ 0 := fun e => by
  have := par_pw h
  rw [e] at this
  cases this
theorem two_ne {i j : Nat} (hi : i < 512) (hj : j < 512) (ne : i ≠ j) : zit i 4129 ^^^ zit j 4129 ≠ 0 := fun e => pw_ne hi hj ne (by
  have h : (zit i 4129 ^^^ zit j 4129) ^^^ zit j 4129 = zit j 4129 := by rw [e, Nat.zero_xor]
  rw [Nat.xor_assoc, Nat.xor_self, Nat.xor_zero] at h
  exact h)
theorem three_ne {i j l : Nat} (hi : i < 512) (hj : j < 512) (hl : l < 512) : zit i 4129 ^^^ zit j 4129 ^^^ zit l 4129 ≠ 0 := fun e => by
  have h := par_xor (zit i 4129 ^^^ zit j 4129) (zit l 4129)
  rw [e, par_xor, par_pw hi, par_pw hj, par_pw hl] at h
  cases h
/-! ### eight bits at once -/
def tbl (u : Nat) : Nat := (((u ^^^ (u / 16)) * 4096) % 65536) ^^^ ((u ^^^ (u / 16)) * 32) ^^^ (u ^^^ (u / 16))
theorem tbl_ok : ∀ u : Fin 256, zit 8 (256 * u.val) = tbl u.val := by decide +kernel
theorem low_ok : ∀ u : Fin 256, zit 8 u.val = 256 * u.val := by decide +kernel
theorem in_ok : ∀ u : Fin 256, s8 0 u.val = zit 8 (256 * u.val) := by decide +kernel
theorem s8_eq (r o : Nat) (ho : o < 256) : s8 r o = zit 8 (256 * o) ^^^ zit 8 r := by
  have h := s8_lin 0 r o
  rw [Nat.zero_xor] at h
  rw [h, in_ok ⟨o, ho⟩]
theorem split8 (r : Nat) : r = (256 * (r / 256)) ^^^ (r % 256) := by
  apply Nat.eq_of_testBit_eq
  intro i
  rw [Nat.testBit_xor]
  have t1 : (256 * (r / 256)).testBit i = (decide (8 ≤ i) && r.testBit i) := by
    rw [show 256 * (r / 256) = (r / 2 ^ 8) * 2 ^ 8 from Nat.mul_comm _ _, Nat.testBit_mul_two_pow, Nat.testBit_div_two_pow]
    by_cases h8 : 8 ≤ i
    · rw [decide_eq_true h8, show i - 8 + 8 = i by omega]
    · simp [h8]
  have t2 : (r % 256).testBit i = (decide (i < 8) && r.testBit i) := Nat.testBit_mod_two_pow r 8 i
  rw [t1, t2]
  by_cases h8 : 8 ≤ i
  · rw [decide_eq_true h8, decide_eq_false (by omega)]; simp
  · rw [decide_eq_false h8, decide_eq_true (by omega)]; simp
theorem check_step (r o : Nat) (hr : r < 65536) (ho : o < 256) :
    ((r * 256) ^^^ (((r / 256) ^^^ o) ^^^ (((r / 256) ^^^ o) / 16)) * 4096 ^^^ (((r / 256) ^^^ o) ^^^ (((r / 256) ^^^ o) / 16)) * 32 ^^^ (((r / 256) ^^^ o) ^^^ (((r / 256) ^^^ o) / 16))) % 65536 = s8 r o := by
  have hh : r / 256 < 256 := by omega
  have hu : (r / 256) ^^^ o < 256 := Nat.xor_lt_two_pow (n := 8) hh ho
  have hl : r % 256 < 256 := Nat.mod_lt _ (by decide)
  have e1 : s8 r o = zit 8 (256 * ((r / 256) ^^^ o)) ^^^ 256 * (r % 256) := by
    rw [s8_eq r o ho]
    conv => lhs; rw [split8 r]
    rw [zit_lin, ← Nat.xor_assoc, ← zit_lin, low_ok ⟨r % 256, hl⟩]
    congr 2
    have := Nat.shiftLeft_xor_distrib (a := r / 256) (b := o) (i := 8)
    simp only [Nat.shiftLeft_eq] at this
    rw [Nat.mul_comm 256 ((r / 256) ^^^ o), show (256 : Nat) = 2 ^ 8 from rfl, this, Nat.mul_comm _ (2 ^ 8), Nat.mul_comm _ (2 ^ 8), Nat.xor_comm]
  rw [e1, tbl_ok ⟨_, hu⟩]
  generalize (r / 256) ^^^ o = u at *
  show ((r * 256) ^^^ (u ^^^ (u / 16)) * 4096 ^^^ (u ^^^ (u / 16)) * 32 ^^^ (u ^^^ (u / 16))) % 65536 = tbl u ^^^ 256 * (r % 256)
  have hv : u ^^^ (u / 16) < 256 := Nat.xor_lt_two_pow (n := 8) hu (by omega)
  unfold tbl
  generalize u ^^^ (u / 16) = v at *
  rw [show (65536 : Nat) = 2 ^ 16 from rfl, Nat.xor_mod_two_pow, Nat.xor_mod_two_pow, Nat.xor_mod_two_pow, show r * 256 % 2 ^ 16 = 256 * (r % 256) by omega, Nat.mod_eq_of_lt (show v < 2 ^ 16 by omega), Nat.mod_eq_of_lt (show v * 32 < 2 ^ 16 by omega)]
  rw [Nat.xor_comm _ (256 * (r % 256)), Nat.xor_assoc, Nat.xor_assoc, Nat.xor_assoc]
/-! ### one bit flipped; pairs added -/
theorem flip_pow : ∀ (j k : Nat), k ^^^ 2 ^ j = if k / 2 ^ j % 2 = 1 then k - 2 ^ j else k + 2 ^ j
  | 0, k => by
    have h1 := Nat.xor_div_two (a := k) (b := 1)
    have h2 := @Nat.xor_mod_two_eq_one k 1
    rw [show (1 : Nat) / 2 = 0 from rfl, Nat.xor_zero] at h1
    rw [Nat.pow_zero, Nat.div_one]
    split <;> omega
  | j + 1, k => by
    have h1 := Nat.xor_div_two (a := k) (b := 2 ^ (j + 1))
    have h2 := @Nat.xor_mod_two_eq_one k (2 ^ (j + 1))
    have ih := flip_pow j (k / 2)
    have p2 : 2 ^ (j + 1) = 2 * 2 ^ j := by rw [Nat.pow_succ, Nat.mul_comm]
    have d2 : k / 2 ^ (j + 1) = k / 2 / 2 ^ j := by rw [p2, Nat.div_div_eq_div_mul]
    rw [show 2 ^ (j + 1) / 2 = 2 ^ j by omega, ih] at h1
    rw [d2]
    have p0 : 0 < 2 ^ j := Nat.pow_pos (by decide)
    have hq : k / 2 / 2 ^ j % 2 = 1 → 2 ^ j ≤ k / 2 := fun e => by
      rcases Nat.lt_or_ge (k / 2) (2 ^ j) with c | c
      · rw [Nat.div_eq_of_lt c] at e; cases e
      · exact c
    generalize hX : 2 ^ j = X at *
    rw [p2] at h1 h2 ⊢
    by_cases c : k / 2 / X % 2 = 1
    · rw [if_pos c] at h1 ⊢
      have := hq c
      omega
    · rw [if_neg c] at h1 ⊢
      omega
theorem fb_app (r : Nat) (a b : List Bool) : fbits r (a ++ b) = fbits (fbits r a) b := List.foldl_append
theorem crc_bits : ∀ (os : List Nat) (r : Nat), crcO r os = fbits r (os.flatMap bits8)
  | [], _ => rfl
  | o :: t, r => by
    rw [List.flatMap_cons, fb_app]
    exact crc_bits t (s8 r o)
theorem s8_two (c : Nat) (h : c < 65536) : s8 (s8 c (c / 256)) (c % 256) = 0 := by
  have hh : c / 256 < 256 := by omega
  have hl : c % 256 < 256 := Nat.mod_lt _ (by decide)
  have e1 : s8 c (c / 256) = 256 * (c % 256) := by
    rw [s8_eq _ _ hh]
    conv => lhs; rhs; rw [split8 c]
    rw [zit_lin, ← Nat.xor_assoc, Nat.xor_self, Nat.zero_xor]
    exact low_ok ⟨_, hl⟩
  rw [e1, s8_eq _ _ hl, Nat.xor_self]
theorem crc_sealed (os : List Nat) (a b : Nat) (ha : a < 256) (hb : b < 256) (e : 256 * a + b = crcO 65535 os) : crcO 65535 (os ++ [a, b]) = 0 := by
  have hc : crcO 65535 os < 65536 := crcO_lt os _ (by decide)
  have e1 : crcO 65535 (os ++ [a, b]) = s8 (s8 (crcO 65535 os) a) b := List.foldl_append
  rw [e1, ← e]
  have h := s8_two (256 * a + b) (by omega)
  rw [show (256 * a + b) / 256 = a by omega, show (256 * a + b) % 256 = b by omega] at h
  exact h
def Oct (ns : List Int) : Prop := ∀ x ∈ ns, 0 ≤ x ∧ x ≤ 255
def nat (ns : List Int) : List Nat := ns.map Int.toNat
def chk (ns : List Int) : Int := ((crcO 65535 (nat ns) : Nat) : Int)
theorem chk_rng (ns : List Int) : 0 ≤ chk ns ∧ chk ns < 65536 := by
  have := crcO_lt (nat ns) 65535 (by decide)
  unfold chk
  omega
def sumI (ns : List Int) : Nat → Int
  | 0 => 0
  | i + 1 => let t := sumI ns i + ((ns[2 * i]?).getD 0 * 256 + (ns[2 * i + 1]?).getD 0); if t ≥ 65536 then t - 65536 + 1 else t
def sm (ns : List Int) : Int := 65535 - sumI ns ((ns.length + 1) / 2)
theorem rg2 {n : Nat} (h : n < 128) : RgC 0 (n : Int) 2 ((n + 1) / 2) := by
  have all : ∀ m : Fin 128, ((2 : Int) ≠ 0 ∧ (2 : Int).natAbs < 1073741824 ∧ Builtin.Range.small 0 ((m.val : Nat) : Int) 2 = true ∧ Builtin.Range.rangeSize 0 ((m.val : Nat) : Int) 2 = (((m.val + 1) / 2 : Nat))) := by decide +kernel
  exact all ⟨n, h⟩
def turn (ws : List Nat) (p : Nat) : List Nat := ws.set (p / 8) ((ws[p / 8]?).getD 0 ^^^ 2 ^ (7 - p % 8))
theorem turn_len (ws : List Nat) (p : Nat) : (turn ws p).length = ws.length := List.length_set
theorem turn_crc (ws : List Nat) (p : Nat) (h : p < 8 * ws.length) : crcO 65535 (turn ws p) = crcO 65535 ws ^^^ zit (8 * ws.length - 1 - p) 4129 := by
  have hq : p / 8 < ws.length := by omega
  unfold turn
  rw [List.getElem?_eq_getElem hq, Option.getD_some, crcO_flip ws (p / 8) (7 - p % 8) 65535 hq (by omega), show 8 * (ws.length - 1 - p / 8) + (7 - p % 8) = 8 * ws.length - 1 - p by omega]
theorem turns_ne {ws : List Nat} {ps : List Nat} (h0 : crcO 65535 ws = 0) (hl : ws.length < 64) (hn : ps.Nodup) (hb : ∀ p ∈ ps, p < 8 * ws.length) (h1 : 0 < ps.length) (h2 : ps.length ≤ 3) : crcO 65535 (ps.foldl turn ws) ≠ 0 := by
  match ps, h1, h2 with
  | [p], _, _ =>
    have b1 := hb p (by simp)
    show crcO 65535 (turn ws p) ≠ 0
    rw [turn_crc _ _ b1, h0, Nat.zero_xor]
    exact one_ne (by omega)
  | [p, q], _, _ =>
    have b1 := hb p (by simp)
    have b2 := hb q (by simp)
    have ne : p ≠ q := by simpa using hn
    show crcO 65535 (turn (turn ws p) q) ≠ 0
    rw [turn_crc _ _ (by rw [turn_len]; exact b2), turn_crc _ _ b1, h0, Nat.zero_xor, turn_len]
    exact two_ne (by omega) (by omega) (by omega)
  | [p, q, r], _, _ =>
    have b1 := hb p (by simp)
    have b2 := hb q (by simp)
    have b3 := hb r (by simp)
    show crcO 65535 (turn (turn (turn ws p) q) r) ≠ 0
    rw [turn_crc _ _ (by rw [turn_len, turn_len]; exact b3), turn_crc _ _ (by rw [turn_len]; exact b2), turn_crc _ _ b1, h0, Nat.zero_xor]
    simp only [turn_len]
    exact three_ne (by omega) (by omega) (by omega)
/-! ### bits: shifts, xor in place, extend, xs[i] op= v -/
section
variable {X : Cx}
theorem o_ixor : PIp X .BitXor (rI0 fun i j => .int (Builtin.bitXor i j)) := fun pins s σ H x y v u Q I rx ry h => iop_xor pins s σ H x y v u Q I rx ry h
def rGetL (K : PySem.W.Frag) : V → V → Hp → VK → Prop := fun o i H Q => ∃ p xs k v, o = .ref p ∧ i = .int k ∧ 0 ≤ k ∧ SqL K H p xs ∧ atI xs k = some v ∧ Q v H
theorem o_get : PGet X (rGetL X.K) := by
  intro pins s σ H o i ov iv Q I ro ri h
  obtain ⟨p, xs, k, z, rfl, rfl, h0, hq, he, q⟩ := h
  cases ro
  obtain ⟨t, rfl⟩ := ri
  obtain ⟨its, r, pl, hz⟩ := I.list hq
  obtain ⟨j, h1, h2, h3, h4, h5⟩ := atI_get he
  obtain ⟨w, ew, rw'⟩ := r.get h2
  have hn := line63
  have hj : k.toNat = j := by
    rw [seqIndex_of h0 h5] at h1
    exact Option.some.inj h1
  exact wpAny_getItem_list pl.isList h0 (by omega) (by rw [hj]; simpa using ew) ⟨z, H, I, rw', q⟩
end
section
variable {K : PySem.W.Frag} {σ : St} {H : Hp} {Q : VK} {D : Ends} {to ti te : TE} {v : V}
theorem g_augS {tget : V → V → Hp → VK → Prop} {tip : TIp} {tset : TSet} (h : to σ H fun o H1 => ti σ H1 fun i H2 => tget o i H2 fun x H3 => te σ H3 fun y H4 => tip x y H4 fun z H5 => tset o i z H5 fun H6 => D.nx σ H6) : tAugS to ti te tget tip tset D σ H := h
theorem g_getL {p : Addr} {xs : List V} {k : Int} (e : SqL K H p xs) (h0 : 0 ≤ k) (a : atI xs k = some v) (h : Q v H) : rGetL K (.ref p) (.int k) H Q := ⟨p, xs, k, v, rfl, rfl, h0, e, a, h⟩
theorem g_extend {l b : Addr} {xs zs : List V} (e : H l = some (.lst xs)) (f : H b = some (.lst zs)) (z : xs.length + zs.length ≤ sizeLine) (h : ∀ H', Ext [l] H H' → H' l = some (.lst (xs ++ zs)) → Q .non H') : rExtend (.ref l) [.ref b] H Q :=
  ⟨l, b, xs, zs, rfl, rfl, e, f, z, h _ (Ext.wr e rfl) upd_same⟩
theorem g_shr {i j : Int} (h0 : 0 ≤ j) (h : Q (.int (i / 2 ^ j.toNat)) H) : rI (fun _ j => 0 ≤ j) (fun i j => .int (i / 2 ^ j.toNat)) (.int i) (.int j) H Q := ⟨i, j, rfl, rfl, h0, h⟩
theorem g_shl {i j : Int} (c : CPow i j) (h : Q (.int (i * 2 ^ j.toNat)) H) : rI CPow (fun i j => .int (i * 2 ^ j.toNat)) (.int i) (.int j) H Q := ⟨i, j, rfl, rfl, c, h⟩
theorem g_isB {a b : Bool} (h : Q (.bl (decide (a = b))) H) : rIsB (.bl a) (.bl b) H Q := ⟨a, b, rfl, rfl, h⟩
theorem g_notB {a b : Bool} (h : Q (.bl (!decide (a = b))) H) : rNotB (.bl a) (.bl b) H Q := ⟨a, b, rfl, rfl, h⟩
end
theorem cpow {i j : Int} (h0 : 0 ≤ j) (h1 : j ≤ 1000000) (h2 : -(2 ^ 64) < i) (h3 : i < 2 ^ 64) : CPow i j := ⟨h0, h1, by omega⟩
local macro_rules | `(tactic| walk_at "eo step") => `(tactic| first
  | with_reducible refine g_augS ?_
  | ((with_reducible apply g_getL); (walk_at "eo sqL"); (walk_at "eo arith"); (walk_at "eo at"))
  | ((with_reducible apply g_extend); (walk_at "eo fact"); (walk_at "eo fact"); (walk_at "eo len"); intro _ _ _)
  | ((with_reducible apply g_shr); (walk_at "eo arith"))
  | ((with_reducible apply g_shl); ((with_reducible apply cpow); (walk_at "eo arith"); (walk_at "eo arith"); (walk_at "eo arith"); (walk_at "eo arith")))
  | with_reducible refine g_isB ?_
  | with_reducible refine g_notB ?_)
section
variable {K : PySem.W.Frag} {H : Hp} {Q : VK}
theorem lt64 {m : Nat} (h : m < 256) : m < 2 ^ 64 := by omega
theorem g_xorC {m n : Nat} (h : Q (.int ((m ^^^ n : Nat) : Int)) H) : rI0 (fun i j => .int (Builtin.bitXor i j)) (.int (m : Int)) (.int (n : Int)) H Q := ⟨_, _, rfl, rfl, by show Q (.int (Builtin.bitXor (m : Int) (n : Int))) H; rw [Bits.bitXor_pp (by omega) (by omega)]; exact h⟩
theorem g_shrC {m j : Nat} (h : Q (.int ((m / 2 ^ j : Nat) : Int)) H) : rI (fun _ j => 0 ≤ j) (fun i j => .int (i / 2 ^ j.toNat)) (.int (m : Int)) (.int (@OfNat.ofNat Int j instOfNat)) H Q :=
  ⟨_, _, rfl, rfl, Int.natCast_nonneg j, by
    have e : ((m : Int) / 2 ^ (@OfNat.ofNat Int j instOfNat).toNat) = ((m / 2 ^ j : Nat) : Int) := by
      rw [show (@OfNat.ofNat Int j instOfNat).toNat = j from rfl, Int.natCast_ediv, Int.natCast_pow]; rfl
    show Q (.int ((m : Int) / 2 ^ (@OfNat.ofNat Int j instOfNat).toNat)) H
    rw [e]; exact h⟩
theorem g_shlC {m j : Nat} (b1 : m < 2 ^ 64) (b2 : Nat.ble j 1000 = true) (h : Q (.int ((m * 2 ^ j : Nat) : Int)) H) : rI CPow (fun i j => .int (i * 2 ^ j.toNat)) (.int (m : Int)) (.int (@OfNat.ofNat Int j instOfNat)) H Q :=
  ⟨_, _, rfl, rfl, ⟨Int.natCast_nonneg j, by
    have := Nat.le_of_ble_eq_true b2
    show ((j : Nat) : Int) ≤ 1000000
    omega, by omega⟩, by
    have e : ((m : Int) * 2 ^ (@OfNat.ofNat Int j instOfNat).toNat) = ((m * 2 ^ j : Nat) : Int) := by
      rw [show (@OfNat.ofNat Int j instOfNat).toNat = j from rfl, Int.natCast_mul, Int.natCast_pow]; rfl
    show Q (.int ((m : Int) * 2 ^ (@OfNat.ofNat Int j instOfNat).toNat)) H
    rw [e]; exact h⟩
end
local macro_rules | `(tactic| walk_at "eo step") => `(tactic| first
  | with_reducible refine g_xorC ?_
  | with_reducible refine g_shrC ?_
  | ((with_reducible refine g_shlC ?_ ?_ ?_); (first | omega | exact lt64 (by assumption)); rfl))
theorem at_int {ns : List Int} {j : Int} (h0 : 0 ≤ j) (h1 : j < ns.length) : atI (ns.map V.int) j = some (.int ((ns[j.toNat]?).getD 0)) := by
  refine ix_at h0 ?_
  rw [List.getElem?_map, List.getElem?_eq_getElem (show j.toNat < ns.length by omega)]
  rfl
theorem chk_nat (ns : List Int) : ∃ r : Nat, r < 65536 ∧ chk ns = (r : Int) ∧ crcO 65535 (nat ns) = r := ⟨_, crcO_lt (nat ns) 65535 (by decide), rfl, rfl⟩
theorem crc_succ {ns : List Int} {i o r : Nat} (h : ns[i]? = some (o : Int)) (e : crcO 65535 (nat (ns.take i)) = r) : crcO 65535 (nat (ns.take (i + 1))) = s8 r o := by
  have hl : i < ns.length := (List.getElem?_eq_some_iff.mp h).1
  have h2 : ns[i] = (o : Int) := (List.getElem?_eq_some_iff.mp h).2
  unfold nat at *
  rw [List.take_succ_eq_append_getElem hl, List.map_append, h2]
  show List.foldl s8 65535 _ = _
  rw [List.foldl_append]
  show s8 (crcO 65535 (List.map Int.toNat (List.take i ns))) (o : Int).toNat = _
  rw [e]
  rfl
def TO (K : PySem.W.Frag) (H : Hp) (a : Addr) (ns : List Int) : Prop := SqT K H a (ns.map V.int) ∧ Oct ns ∧ ns.length < 128
def spChk (K : PySem.W.Frag) : Sp := fun vs H Q _ => ∃ (a : Addr) (ns : List Int), vs = [.ref a] ∧ SqT K H a (ns.map V.int) ∧ Oct ns ∧ Q (.int (chk ns)) H
def spSum (K : PySem.W.Frag) : Sp := fun vs H Q _ => ∃ (a : Addr) (ns : List Int), vs = [.ref a] ∧ SqT K H a (ns.map V.int) ∧ ns.length < 128 ∧ Q (.int (sm ns)) H
def spSeal (K : PySem.W.Frag) : Sp := fun vs H Q _ => ∃ (a : Addr) (ns : List Int), vs = [.ref a] ∧ SqT K H a (ns.map V.int) ∧ Oct ns ∧ ns.length < 128 ∧ ∀ c H', Ext [] H H' → SqT K H' c ((ns ++ [chk ns / 256, chk ns % 256]).map V.int) → Q (.ref c) H'
def spIsS (K : PySem.W.Frag) : Sp := fun vs H Q _ => ∃ (a : Addr) (ns : List Int), vs = [.ref a] ∧ SqT K H a (ns.map V.int) ∧ Oct ns ∧ 1 < ns.length ∧ ∀ H', Ext [] H H' → Q (.bl (decide (num (ns.drop (ns.length - 2)) = chk (ns.take (ns.length - 2))))) H'
def vn (n : Nat) : V := .int (n : Int)
def bI (b : Bool) : V := .int (if b then 1 else 0)
def bitsB (ns : List Int) : List Bool := (nat ns).flatMap bits8
def spBits (K : PySem.W.Frag) : Sp := fun vs H Q _ => ∃ (a : Addr) (ns : List Int), vs = [.ref a] ∧ SqT K H a (ns.map V.int) ∧ Oct ns ∧ ns.length < 128 ∧ ∀ c H', Ext [] H H' → H' c = some (.lst ((bitsB ns).map bI)) → Q (.ref c) H'
def spLChk (K : PySem.W.Frag) : Sp := fun vs H Q _ => ∃ (a : Addr) (ns : List Int), vs = [.ref a] ∧ SqT K H a (ns.map V.int) ∧ Oct ns ∧ ns.length < 128 ∧ ∀ H', Ext [] H H' → Q (.int (chk ns)) H'
def spFlip (K : PySem.W.Frag) : Sp := fun vs H Q _ => ∃ (a b : Addr) (ws : List Nat) (ps : List Nat) (qs : List Int), vs = [.ref a, .ref b] ∧ SqT K H a (ws.map vn) ∧ SqT K H b (qs.map V.int) ∧ (∀ x ∈ ws, x < 256) ∧ 0 < ws.length ∧ ws.length < 128 ∧
  ps.length = qs.length ∧ (∀ (i : Nat) (p : Nat) (q : Int), ps[i]? = some p → qs[i]? = some q → q % (8 * ws.length) = p ∧ p < 8 * ws.length) ∧ ∀ c H', Ext [] H H' → SqT K H' c ((ps.foldl turn ws).map vn) → Q (.ref c) H'
def flipP (k p : Nat) : Nat := if k / p % 2 = 1 then k - p else k + p
theorem flip3 (k : Nat) : flipP (flipP (flipP k 4096) 32) 1 = k ^^^ 4129 := by
  unfold flipP
  rw [← flip_pow 12 k, ← flip_pow 5, ← flip_pow 0, Nat.xor_assoc, Nat.xor_assoc]
  rfl
theorem bits8_len (o : Nat) : (bits8 o).length = 8 := rfl
theorem bitsB_len (ns : List Int) : (bitsB ns).length = 8 * ns.length := by
  unfold bitsB nat
  induction ns with
  | nil => rfl
  | cons x t ih => rw [List.map_cons, List.flatMap_cons, List.length_append, ih, bits8_len, List.length_cons]; omega
theorem bits_succ {ns : List Int} {i o : Nat} (h : ns[i]? = some (o : Int)) : bitsB (ns.take (i + 1)) = bitsB (ns.take i) ++ bits8 o := by
  have hl : i < ns.length := (List.getElem?_eq_some_iff.mp h).1
  have h2 : ns[i] = (o : Int) := (List.getElem?_eq_some_iff.mp h).2
  unfold bitsB nat
  rw [List.take_succ_eq_append_getElem hl, List.map_append, h2, List.flatMap_append]
  simp
theorem bit_pow (o j : Nat) : V.int ((o : Int) / 2 ^ j % 2) = bI (o.testBit j) := by
  unfold bI
  rw [Nat.testBit_eq_decide_div_mod_eq]
  have e : ((o : Int) / 2 ^ j % 2) = ((o / 2 ^ j % 2 : Nat) : Int) := by
    rw [Int.natCast_emod, Int.natCast_ediv, Int.natCast_pow]; rfl
  rw [e]
  by_cases c : o / 2 ^ j % 2 = 1
  · rw [c]; rfl
  · rw [show o / 2 ^ j % 2 = 0 by omega]; rfl
def bI8 (o : Int) : List V := [128, 64, 32, 16, 8, 4, 2, 1].map fun p : Int => V.int (o / p % 2)
theorem bI8_eq (o : Nat) : bI8 (o : Int) = (bits8 o).map bI := by
  show [V.int ((o : Int) / 128 % 2), V.int ((o : Int) / 64 % 2), V.int ((o : Int) / 32 % 2), V.int ((o : Int) / 16 % 2), V.int ((o : Int) / 8 % 2), V.int ((o : Int) / 4 % 2), V.int ((o : Int) / 2 % 2), V.int ((o : Int) / 1 % 2)] = [bI (o.testBit 7), bI (o.testBit 6), bI (o.testBit 5), bI (o.testBit 4), bI (o.testBit 3), bI (o.testBit 2), bI (o.testBit 1), bI (o.testBit 0)]
  rw [← bit_pow o 7, ← bit_pow o 6, ← bit_pow o 5, ← bit_pow o 4, ← bit_pow o 3, ← bit_pow o 2, ← bit_pow o 1, ← bit_pow o 0]
  rfl
def pw8 : List Int := [128, 64, 32, 16, 8, 4, 2, 1]
theorem pw8_pos {p : Int} (h : p ∈ pw8) : 0 < p ∧ p ≤ 128 := by
  simp only [pw8, List.mem_cons, List.not_mem_nil, or_false] at h
  omega
theorem turns_len : ∀ (ps ws : List Nat), (ps.foldl turn ws).length = ws.length
  | [], _ => rfl
  | p :: t, ws => by rw [List.foldl_cons, turns_len t, turn_len]
theorem at_vn {ws : List Nat} {p : Nat} (h : p / 8 < ws.length) : atI (ws.map vn) ((p : Int) / 8) = some (.int (((ws[p / 8]?).getD 0 : Nat) : Int)) := by
  refine ix_at (by omega) ?_
  rw [show ((p : Int) / 8).toNat = p / 8 by omega, List.getElem?_map, List.getElem?_eq_getElem h]
  rfl
theorem ixN_vn {n p : Nat} (h : p / 8 < n) : ixN n ((p : Int) / 8) = some (p / 8) := by
  unfold ixN
  rw [if_pos (by omega), if_pos (by omega), show ((p : Int) / 8).toNat = p / 8 by omega]
theorem one_shl (p : Nat) : (1 : Int) * 2 ^ (7 - (p : Int) % 8).toNat = ((2 ^ (7 - p % 8) : Nat) : Int) := by
  rw [show (7 - (p : Int) % 8).toNat = 7 - p % 8 by omega, Int.one_mul, Int.natCast_pow]
  rfl
theorem set_vn (ws : List Nat) (p : Nat) : (ws.map vn).set (p / 8) (.int (Builtin.bitXor (((ws[p / 8]?).getD 0 : Nat) : Int) (1 * 2 ^ (7 - (p : Int) % 8).toNat))) = (turn ws p).map vn := by
  rw [one_shl, Bits.bitXor_pp (Int.natCast_nonneg _) (Int.natCast_nonneg _)]
  unfold turn
  rw [List.map_set]
  rfl
theorem turns_succ {ps ws : List Nat} {i p : Nat} (h : ps[i]? = some p) : (ps.take (i + 1)).foldl turn ws = turn ((ps.take i).foldl turn ws) p := by
  have hl : i < ps.length := (List.getElem?_eq_some_iff.mp h).1
  have h2 : ps[i] = p := (List.getElem?_eq_some_iff.mp h).2
  rw [List.take_succ_eq_append_getElem hl, List.foldl_append, h2]
  rfl
def pw3 : List Nat := [4096, 32, 1]
theorem pw3_pos {p : Nat} (h : p ∈ pw3) : 0 < p ∧ p ≤ 4096 := by
  simp only [pw3, List.mem_cons, List.not_mem_nil, or_false] at h
  omega
theorem mem_map_vn {xs : List Nat} {i : Nat} {x : V} (h : (xs.map vn)[i]? = some x) : ∃ n, xs[i]? = some n ∧ x = .int (n : Int) := by
  rw [List.getElem?_map] at h
  cases e : xs[i]? with
  | none => rw [e] at h; cases h
  | some n => rw [e] at h; exact ⟨n, rfl, (Option.some.inj h).symm⟩
theorem mem_map_bI {xs : List Bool} {i : Nat} {x : V} (h : (xs.map bI)[i]? = some x) : ∃ n, xs[i]? = some n ∧ x = bI n := by
  rw [List.getElem?_map] at h
  cases e : xs[i]? with
  | none => rw [e] at h; cases h
  | some n => rw [e] at h; exact ⟨n, rfl, (Option.some.inj h).symm⟩
theorem flip_t {m p : Nat} (h0 : 0 < p) (h : decide (V.int ((m : Int) / (p : Int) % 2) = V.int 1) = true) : ((m : Int) - (p : Int)) = ((flipP m p : Nat) : Int) := by
  have e := vint (dec_t h)
  have e2 : ((m / p % 2 : Nat) : Int) = 1 := by rw [Int.natCast_emod, Int.natCast_ediv]; exact e
  have e3 : m / p % 2 = 1 := by omega
  have e4 : p ≤ m := by
    rcases Nat.lt_or_ge m p with c | c
    · rw [Nat.div_eq_of_lt c] at e3; cases e3
    · exact c
  unfold flipP
  rw [if_pos e3]
  omega
theorem flip_f {m p : Nat} (h0 : 0 < p) (h : decide (V.int ((m : Int) / (p : Int) % 2) = V.int 1) = false) : ((m : Int) + (p : Int)) = ((flipP m p : Nat) : Int) := by
  have e := dec_f h
  have e3 : ¬ m / p % 2 = 1 := fun q => e (by
    have e2 : ((m / p % 2 : Nat) : Int) = 1 := by rw [q]; rfl
    rw [Int.natCast_emod, Int.natCast_ediv] at e2
    exact congrArg V.int e2)
  unfold flipP
  rw [if_neg e3]
  omega
theorem bstep_eq {k : Nat} (b : Bool) (h : k < 65536) : bstep k b = if (!decide (V.int ((k : Int) / 32768) = bI b)) = true then (k * 2 % 65536) ^^^ 4129 else k * 2 % 65536 := by
  have e1 : k.testBit 15 = decide (k / 32768 = 1) := by
    rw [Nat.testBit_eq_decide_div_mod_eq]
    exact decide_eq_decide.mpr ⟨fun q => by omega, fun q => by omega⟩
  have e2 : decide (V.int ((k : Int) / 32768) = bI b) = decide (((k : Int) / 32768) = if b then 1 else 0) := decide_eq_decide.mpr ⟨fun q => vint q, fun q => congrArg V.int q⟩
  unfold bstep
  rw [e1, e2, Nat.shiftLeft_eq, Nat.pow_one]
  by_cases c : k / 32768 = 1
  · have c2 : (k : Int) / 32768 = 1 := by omega
    rw [decide_eq_true c, c2]
    cases b <;> simp
  · have c2 : (k : Int) / 32768 = 0 := by omega
    rw [decide_eq_false c, c2]
    cases b <;> simp
theorem fbits_succ {bs : List Bool} {i : Nat} {b : Bool} (h : bs[i]? = some b) : fbits 65535 (bs.take (i + 1)) = bstep (fbits 65535 (bs.take i)) b := by
  have hl : i < bs.length := (List.getElem?_eq_some_iff.mp h).1
  have h2 : bs[i] = b := (List.getElem?_eq_some_iff.mp h).2
  rw [List.take_succ_eq_append_getElem hl, fb_app, h2]
  rfl
theorem fbits_lt : ∀ (bs : List Bool) (r : Nat), r < 65536 → fbits r bs < 65536
  | [], _, h => h
  | b :: t, r, _ => fbits_lt t _ (bstep_lt r b)
theorem flips_succ {j k p : Nat} (h : pw3[j]? = some p) : (pw3.take (j + 1)).foldl flipP k = flipP ((pw3.take j).foldl flipP k) p := by
  have hl : j < pw3.length := (List.getElem?_eq_some_iff.mp h).1
  have h2 : pw3[j] = p := (List.getElem?_eq_some_iff.mp h).2
  rw [List.take_succ_eq_append_getElem hl, List.foldl_append, h2]
  rfl
def iOf (ws : List Nat) : List Int := ws.map fun n : Nat => (n : Int)
theorem vn_iOf (ws : List Nat) : ws.map vn = (iOf ws).map V.int := by
  unfold iOf
  rw [List.map_map]
  rfl
theorem nat_iOf (ws : List Nat) : nat (iOf ws) = ws := by
  unfold nat iOf
  rw [List.map_map]
  exact List.map_id'' (fun _ => rfl) ws
theorem iOf_nat {ns : List Int} (h : Oct ns) : iOf (nat ns) = ns := by
  unfold nat iOf
  rw [List.map_map]
  refine (List.map_congr_left (g := id) fun x hx => ?_).trans (List.map_id ns)
  have := (h x hx).1
  show ((x.toNat : Nat) : Int) = x
  omega
theorem sealed_iff (W : List Nat) (hO : ∀ x ∈ W, x < 256) (h2 : 1 < W.length) : num ((iOf W).drop ((iOf W).length - 2)) = chk ((iOf W).take ((iOf W).length - 2)) → crcO 65535 W = 0 := by
  have hl : (iOf W).length = W.length := by unfold iOf; rw [List.length_map]
  rw [hl]
  obtain ⟨a, b, hab⟩ : ∃ a b, W.drop (W.length - 2) = [a, b] := by
    have : (W.drop (W.length - 2)).length = 2 := by rw [List.length_drop]; omega
    match W.drop (W.length - 2), this with
    | [a, b], _ => exact ⟨a, b, rfl⟩
  have hW : W.take (W.length - 2) ++ [a, b] = W := by rw [← hab]; exact List.take_append_drop _ _
  have ha : a < 256 := hO a (by rw [← hW]; simp)
  have hb : b < 256 := hO b (by rw [← hW]; simp)
  have e1 : (iOf W).drop (W.length - 2) = [(a : Int), (b : Int)] := by unfold iOf; rw [← List.map_drop, hab]; rfl
  have e2 : (iOf W).take (W.length - 2) = iOf (W.take (W.length - 2)) := by unfold iOf; rw [List.map_take]
  rw [e1, e2]
  unfold chk
  rw [nat_iOf]
  intro e
  have e3 : (0 * 256 + (a : Int)) * 256 + (b : Int) = ((crcO 65535 (W.take (W.length - 2)) : Nat) : Int) := e
  have := crc_sealed (W.take (W.length - 2)) a b ha hb (by omega)
  rw [hW] at this
  exact this
def shut (ns : List Int) : List Int := ns ++ [chk ns / 256, chk ns % 256]
theorem shut_len (ns : List Int) : (shut ns).length = ns.length + 2 := by unfold shut; rw [List.length_append]; rfl
theorem shut_oct {ns : List Int} (h : Oct ns) : Oct (shut ns) := by
  intro x hx
  have := chk_rng ns
  unfold shut at hx
  rcases List.mem_append.mp hx with c | c
  · exact h x c
  · simp only [List.mem_cons, List.not_mem_nil, or_false] at c
    omega
theorem shut_drop (ns : List Int) : (shut ns).drop ((shut ns).length - 2) = [chk ns / 256, chk ns % 256] := by
  rw [shut_len, Nat.add_sub_cancel]
  unfold shut
  exact List.drop_left
theorem shut_take (ns : List Int) : (shut ns).take ((shut ns).length - 2) = ns := by
  rw [shut_len, Nat.add_sub_cancel]
  unfold shut
  exact List.take_left
theorem shut_yes (ns : List Int) : num ((shut ns).drop ((shut ns).length - 2)) = chk ((shut ns).take ((shut ns).length - 2)) := by
  have := chk_rng ns
  rw [shut_drop, shut_take]
  show (0 * 256 + chk ns / 256) * 256 + chk ns % 256 = chk ns
  omega
theorem shut_crc {ns : List Int} (h : Oct ns) : crcO 65535 (nat (shut ns)) = 0 := by
  refine sealed_iff (nat (shut ns)) (fun x hx => ?_) ?_ ?_
  · unfold nat at hx
    obtain ⟨y, hy, rfl⟩ := List.mem_map.mp hx
    have := shut_oct h y hy
    omega
  · unfold nat
    rw [List.length_map, shut_len]; omega
  · rw [iOf_nat (shut_oct h)]
    exact shut_yes ns
theorem turn_oct {ws : List Nat} {p : Nat} (h : ∀ x ∈ ws, x < 256) : ∀ x ∈ turn ws p, x < 256 := by
  intro x hx
  unfold turn at hx
  rcases List.mem_or_eq_of_mem_set hx with c | c
  · exact h x c
  · rw [c]
    refine Nat.xor_lt_two_pow (n := 8) ?_ (Nat.lt_of_le_of_lt (Nat.pow_le_pow_right (by decide) (show 7 - p % 8 ≤ 7 by omega)) (by decide))
    cases e : ws[p / 8]? with
    | none => decide
    | some y => exact h y (List.mem_of_getElem? e)
theorem turns_oct : ∀ (ps : List Nat) {ws : List Nat}, (∀ x ∈ ws, x < 256) → ∀ x ∈ ps.foldl turn ws, x < 256
  | [], _, h => h
  | p :: t, ws, h => turns_oct t (turn_oct h)
theorem pw_at (p : Nat) : atI [V.int 128, V.int 64, V.int 32, V.int 16, V.int 8, V.int 4, V.int 2, V.int 1] ((p : Int) - 8 * ((p : Int) / 8)) = some (.int ((2 ^ (7 - p % 8) : Nat) : Int)) := by
  have e : ((p : Int) - 8 * ((p : Int) / 8)) = ((p % 8 : Nat) : Int) := by omega
  have all : ∀ m : Fin 8, atI [V.int 128, V.int 64, V.int 32, V.int 16, V.int 8, V.int 4, V.int 2, V.int 1] ((m.val : Nat) : Int) = some (.int ((2 ^ (7 - m.val) : Nat) : Int)) := by decide +kernel
  rw [e]
  exact all ⟨p % 8, Nat.mod_lt _ (by decide)⟩
theorem pow7 (p : Nat) : 0 < 2 ^ (7 - p % 8) ∧ 2 ^ (7 - p % 8) ≤ 128 := ⟨Nat.pow_pos (by decide), Nat.le_trans (Nat.pow_le_pow_right (by decide) (show 7 - p % 8 ≤ 7 by omega)) (by decide)⟩
theorem turn_set {ws : List Nat} {p : Nat} {z : Int} (e : z = ((flipP ((ws[p / 8]?).getD 0) (2 ^ (7 - p % 8)) : Nat) : Int)) : (ws.map vn).set (p / 8) (.int z) = (turn ws p).map vn := by
  subst e
  unfold turn flipP
  rw [← flip_pow, List.map_set]
  rfl
theorem all_flat (ps : List Nat) : (ps.map vn).all flatV = true := List.all_eq_true.mpr fun x hx => by
  obtain ⟨y, _, rfl⟩ := List.mem_map.mp hx
  rfl
theorem inV_vn (q : Nat) (ps : List Nat) : inV (.int (q : Int)) (ps.map vn) = decide (q ∈ ps) := by
  have key : ∀ y : Nat, eqV (vn y) (.int (q : Int)) = decide (q = y) := fun y => by
    show decide ((y : Int) = (q : Int)) = decide (q = y)
    exact decide_eq_decide.mpr ⟨fun h => by omega, fun h => by omega⟩
  unfold inV
  rw [List.any_map]
  by_cases c : q ∈ ps
  · rw [decide_eq_true c]
    exact List.any_eq_true.mpr ⟨q, c, by rw [Function.comp_apply, key]; exact decide_eq_true rfl⟩
  · rw [decide_eq_false c]
    refine List.any_eq_false.mpr fun y hy => ?_
    rw [Function.comp_apply, key, decide_eq_true_eq]
    exact fun e => c (e ▸ hy)
def pdN (ws : List Nat) : List PyData := (iOf ws).map PyData.int
theorem dp_vn {K : PySem.W.Frag} {H : Hp} (ws : List Nat) : DpAll K H (ws.map vn) (pdN ws) := by
  rw [vn_iOf]
  exact dp_ints _
theorem shp_vn {k : Nat} (ws : List Nat) : ShpAll (pdN ws) k := shp_ints _
local macro_rules | `(tactic| walk_at "eo dps") => `(tactic| with_reducible exact dp_vn _)
local macro_rules | `(tactic| walk_at "eo shps") => `(tactic| with_reducible exact shp_vn _)
section
variable {P : Program} {w : World} {K : PySem.W.Frag} {mg : Str → Option Value} {base : Heap}
theorem ok_check16 {A : Adr} (T : Txt K mg A) : FnOk P w K mg base CX0 1 A.f_check16 A.d_check16 ["octets"] (spChk K) := by
  refine T.check16.F.ok sc_check16 (fun vs H Q E h => ?_) (fun cdv Ar outer s H vs Q E hr h => ?_)
  · obtain ⟨a, ns, rfl, _⟩ := h
    rfl
  · obtain ⟨a, ns, rfl, hT, hO, k⟩ := h
    refine ⟨_, (pss_cons (ps_set (i := 1) sc_check16.nd rfl (Or.inl rfl) (pe_op op_sub (pe_g rfl T.g_MOST) pe_int))
      (pss_cons (ps_for PassesOwn.never rfl (pi_tup (pv 0)) (pg_name (i := 2) sc_check16.nd rfl (Or.inl rfl)) (pss_cons (ps_set (i := 3) sc_check16.nd rfl (Or.inl rfl) (pe_op op_xor (pe_op op_shr (pv 1) pe_int) (pv 2)))
      (pss_cons (ps_aug (i := 3) sc_check16.nd rfl (Or.inl rfl) (pe_op op_shr (pv 3) pe_int) o_ixor)
      (pss_one (ps_set (i := 1) sc_check16.nd rfl (Or.inl rfl) (pe_op op_mod (pe_op op_xor (pe_op op_xor (pe_op op_xor (pe_op op_shl (pv 1) pe_int) (pe_op op_shl (pv 3) pe_int)) (pe_op op_shl (pv 3) pe_int)) (pv 3)) (pe_g rfl T.g_MOST)))))))
      (pss_one (ps_ret (pv 1))))), ?_⟩
    walk_at "eo init"
    walk_at "eo go"
    refine g_forT (ns.map V.int) (fun i σ H' => H' = H ∧ ∃ c d, σ = [some (.ref a), some (.int (chk (ns.take i))), c, d]) ⟨rfl, none, none, rfl⟩ (fun i σ H' _ ⟨e, _⟩ => by rw [e]; exact hT) ?_ ?_
    · rintro i x σ H' hi ⟨rfl, c, d, rfl⟩
      obtain ⟨n, hn, rfl⟩ := mem_map_int hi
      obtain ⟨r, hr0, e1, e2⟩ := chk_nat (ns.take i)
      have hb := hO n (List.mem_of_getElem? hn)
      obtain ⟨o, rfl⟩ : ∃ o : Nat, n = (o : Int) := ⟨n.toNat, by omega⟩
      have ho : o < 256 := by omega
      have cs := check_step r o hr0 ho
      have hu : (r / 2 ^ 8) ^^^ o < 256 := Nat.xor_lt_two_pow (n := 8) (show r / 256 < 2 ^ 8 by omega) ho
      have hv : ((r / 2 ^ 8) ^^^ o) ^^^ (((r / 2 ^ 8) ^^^ o) / 2 ^ 4) < 256 := Nat.xor_lt_two_pow (n := 8) hu (by omega)
      rw [e1]
      walk_at "eo go"
      refine ⟨rfl, some (.int (o : Int)), some (.int ((((r / 2 ^ 8) ^^^ o) ^^^ (((r / 2 ^ 8) ^^^ o) / 2 ^ 4) : Nat) : Int)), ?_⟩
      have e3 : chk (ns.take (i + 1)) = ((s8 r o : Nat) : Int) := by unfold chk; rw [crc_succ hn e2]
      rw [e3, ← cs]
      rfl
    · rintro σ H' ⟨rfl, c, d, rfl⟩
      walk_at "eo go"
      rw [List.length_map, List.take_length]
      exact k
theorem ok_sum16 {A : Adr} (T : Txt K mg A) : FnOk P w K mg base CX0 1 A.f_sum16 A.d_sum16 ["octets"] (spSum K) := by
  refine T.sum16.F.ok sc_sum16 (fun vs H Q E h => ?_) (fun cdv Ar outer s H vs Q E hr h => ?_)
  · obtain ⟨a, ns, rfl, _⟩ := h
    rfl
  · obtain ⟨a, ns, rfl, hT, hl, k⟩ := h
    refine ⟨_, (pss_cons (ps_set (i := 1) sc_sum16.nd rfl (Or.inl rfl) pe_int)
      (pss_cons (ps_for PassesOwn.never rfl (pi_range3 (by rfl) T.b_range (pa_cons pe_int (pa_cons (pe_callB (id := "len") o_len (by rfl) T.b_len (by decide +kernel) (pa_cons (pv 0) pa_nil)) (pa_cons pe_int pa_nil)))) (pg_name (i := 2) sc_sum16.nd rfl (Or.inl rfl)) (pss_cons (ps_set (i := 3) sc_sum16.nd rfl (Or.inl rfl) (pe_ifExp (pt_cmpR op_lt (pe_op o_add (pv 2) pe_int) (pe_callB (id := "len") o_len (by rfl) T.b_len (by decide +kernel) (pa_cons (pv 0) pa_nil)) (nomark _)) (pe_ix ix_seq (pv 0) (pe_op o_add (pv 2) pe_int) (fun _ _ => rfl)) pe_int))
      (pss_cons (ps_aug (i := 1) sc_sum16.nd rfl (Or.inl rfl) (pe_op o_add (pe_op o_mul (pe_ix ix_seq (pv 0) (pv 2) (fun _ _ => rfl)) pe_int) (pv 3)) o_iadd)
      (pss_one (ps_if (pt_cmpR op_ge (pv 1) (pe_g rfl T.g_MOST) (nomark _)) (pss_one (ps_set (i := 1) sc_sum16.nd rfl (Or.inl rfl) (pe_op o_add (pe_op op_sub (pv 1) (pe_g rfl T.g_MOST)) pe_int))) pss_nil)))))
      (pss_one (ps_ret (pe_op op_sub (pe_op op_sub (pe_g rfl T.g_MOST) pe_int) (pv 1)))))), ?_⟩
    walk_at "eo init"
    walk_at "eo go"
    rw [List.length_map]
    refine g_itR3f (rg2 hl) ?_
    refine g_forW walk_rangeC (fun i σ H' => H' = H ∧ ∃ c d, σ = [some (.ref a), some (.int (sumI ns i)), c, d]) ⟨rfl, none, none, rfl⟩ (fun _ _ _ _ _ => trivial) ?_ ?_
    · rintro i x σ H' H'' hi ⟨rfl, c, d, rfl⟩ ⟨rfl, rfl⟩
      have a1 : atI (ns.map V.int) (0 + (i : Nat) * 2) = some (.int ((ns[2 * i]?).getD 0)) := by
        rw [at_int (by omega) (by omega), show (0 + ((i : Nat) : Int) * 2).toNat = 2 * i by omega]
      walk_at "eo go"
      rw [List.length_map]
      have fin : ∀ (b : Int), (ns[2 * i + 1]?).getD 0 = b → (if decide (65536 ≤ sumI ns i + ((ns[2 * i]?).getD 0 * 256 + b)) = true then sumI ns i + ((ns[2 * i]?).getD 0 * 256 + b) - 65536 + 1 else sumI ns i + ((ns[2 * i]?).getD 0 * 256 + b)) = sumI ns (i + 1) := by
        intro b e
        subst e
        show _ = (if _ then _ else _)
        by_cases c : 65536 ≤ sumI ns i + ((ns[2 * i]?).getD 0 * 256 + (ns[2 * i + 1]?).getD 0)
        · rw [if_pos (decide_eq_true c), if_pos c]
        · rw [if_neg (by rw [decide_eq_false c]; decide), if_neg c]
      refine g_ite (fun z => ?_) (fun z => ?_)
      · have z1 := dec_t z
        have a2 : atI (ns.map V.int) (0 + (i : Nat) * 2 + 1) = some (.int ((ns[2 * i + 1]?).getD 0)) := by
          rw [at_int (by omega) (by omega), show (0 + ((i : Nat) : Int) * 2 + 1).toNat = 2 * i + 1 by omega]
        have f := fin _ rfl
        walk_at "eo go"
        refine g_ite (fun y => ?_) (fun y => ?_)
        · rw [if_pos y] at f
          walk_at "eo go"
          exact ⟨rfl, _, _, by rw [← f]; rfl⟩
        · rw [if_neg (by rw [y]; decide)] at f
          walk_at "eo go"
          exact ⟨rfl, _, _, by rw [← f]; rfl⟩
      · have z1 := dec_f z
        have a2 : (ns[2 * i + 1]?).getD 0 = 0 := by rw [List.getElem?_eq_none (by omega)]; rfl
        have f := fin _ a2
        walk_at "eo go"
        refine g_ite (fun y => ?_) (fun y => ?_)
        · rw [if_pos y] at f
          walk_at "eo go"
          exact ⟨rfl, _, _, by rw [← f]; rfl⟩
        · rw [if_neg (by rw [y]; decide)] at f
          walk_at "eo go"
          exact ⟨rfl, _, _, by rw [← f]; rfl⟩
    · rintro σ H' ⟨rfl, c, d, rfl⟩
      walk_at "eo go"
      exact k
theorem ok_sealed {A : Adr} (T : Txt K mg A) : FnOk P w K mg base CX0 2 A.f_sealed A.d_sealed ["octets"] (spSeal K) := by
  refine T.sealed.F.ok sc_sealed (fun vs H Q E h => ?_) (fun cdv Ar outer s H vs Q E hr h => ?_)
  · obtain ⟨a, ns, rfl, _⟩ := h
    rfl
  · obtain ⟨a, ns, rfl, hT, hO, hl, k⟩ := h
    refine ⟨_, (pss_cons (ps_set (i := 0) sc_sealed.nd rfl (Or.inl rfl) (pe_callTy (T := "tuple") o_tuple (by rfl) T.b_tuple (by decide +kernel) (pa_cons (pv 0) pa_nil)))
      (pss_one (ps_ret (pe_op o_add (pv 0) (pe_call (ok_two_octets T) (hr.mono (by decide)) (by rfl) T.two_octets.mg T.two_octets.kp T.two_octets.b .nil pass0 (pa_cons (pe_call (ok_check16 T) (hr.mono (by decide)) (by rfl) T.check16.mg T.check16.kp T.check16.b .nil pass0 (pa_cons (pv 0) pa_nil)) pa_nil)))))), ?_⟩
    walk_at "eo init"
    walk_at "eo go"
    refine ⟨a, ns, rfl, hT, hO, ?_⟩
    walk_at "eo go"
    rename_i c1 H1 e1 h1 c2 H2 e2 h2
    refine k _ _ (by walk_at "eo ext") ?_
    rw [List.map_append]
    exact h2
theorem ok_is_sealed {A : Adr} (T : Txt K mg A) : FnOk P w K mg base CX0 2 A.f_is_sealed A.d_is_sealed ["octets"] (spIsS K) := by
  refine T.is_sealed.F.ok sc_is_sealed (fun vs H Q E h => ?_) (fun cdv Ar outer s H vs Q E hr h => ?_)
  · obtain ⟨a, ns, rfl, _⟩ := h
    rfl
  · obtain ⟨a, ns, rfl, hT, hO, hl, k⟩ := h
    refine ⟨_, (pss_one (ps_ret (pe_and (pe_cmpR op_gt (pe_callB (id := "len") o_len (by rfl) T.b_len (by decide +kernel) (pa_cons (pv 0) pa_nil)) pe_int (nomark _)) (pe_one (pe_cmpR (o_eq hr.units) (pe_call (ok_number_of T) (hr.mono (by decide)) (by rfl) T.number_of.mg T.number_of.kp T.number_of.b .nil pass0 (pa_cons (pe_slice o_sl (pv 0) (po_some (pe_un un_neg pe_int)) po_none) pa_nil)) (pe_call (ok_check16 T) (hr.mono (by decide)) (by rfl) T.check16.mg T.check16.kp T.check16.b .nil pass0 (pa_cons (pe_slice o_sl (pv 0) po_none (po_some (pe_un un_neg pe_int))) pa_nil)) (nomark _)))))), ?_⟩
    walk_at "eo init"
    walk_at "eo go"
    refine g_iteDT (by rw [List.length_map]; exact decide_eq_true (by omega)) ?_
    walk_at "eo go"
    rename_i c1 H1 e1 h1
    rw [List.length_map, ← List.map_drop] at h1
    refine ⟨c1, _, _, rfl, h1, rfl, ?_⟩
    walk_at "eo go"
    rename_i c2 H2 e2 h2
    rw [List.length_map, ← List.map_take] at h2
    refine ⟨c2, _, rfl, h2, fun x hx => hO x (List.mem_of_mem_take hx), ?_⟩
    walk_at "eo go"
    rw [decide_eq_decide.mpr (show V.int (num (ns.drop (ns.length - 2))) = V.int (chk (ns.take (ns.length - 2))) ↔ num (ns.drop (ns.length - 2)) = chk (ns.take (ns.length - 2)) from ⟨vint, fun e => by rw [e]⟩)]
    exact k _ (by walk_at "eo ext")
theorem ok_law_sum {A : Adr} (T : Txt K mg A) : FnOk P w K mg base CX0 1 A.f_law_sum A.d_law_sum ["octets"] (spSum K) := by
  refine T.law_sum.F.ok sc_law_sum (fun vs H Q E h => ?_) (fun cdv Ar outer s H vs Q E hr h => ?_)
  · obtain ⟨a, ns, rfl, _⟩ := h
    rfl
  · obtain ⟨a, ns, rfl, hT, hl, k⟩ := h
    refine ⟨_, (pss_cons (ps_set (i := 1) sc_law_sum.nd rfl (Or.inl rfl) pe_int)
      (pss_cons (ps_for PassesOwn.never rfl (pi_range3 (by rfl) T.b_range (pa_cons pe_int (pa_cons (pe_callB (id := "len") o_len (by rfl) T.b_len (by decide +kernel) (pa_cons (pv 0) pa_nil)) (pa_cons pe_int pa_nil)))) (pg_name (i := 2) sc_law_sum.nd rfl (Or.inl rfl)) (pss_cons (ps_set (i := 1) sc_law_sum.nd rfl (Or.inl rfl) (pe_op o_add (pe_op o_add (pv 1) (pe_op o_mul pe_int (pe_ix ix_seq (pv 0) (pv 2) (fun _ _ => rfl)))) (pe_ifExp (pt_cmpR op_lt (pe_op o_add (pv 2) pe_int) (pe_callB (id := "len") o_len (by rfl) T.b_len (by decide +kernel) (pa_cons (pv 0) pa_nil)) (nomark _)) (pe_ix ix_seq (pv 0) (pe_op o_add (pv 2) pe_int) (fun _ _ => rfl)) pe_int)))
      (pss_one (ps_set (i := 1) sc_law_sum.nd rfl (Or.inl rfl) (pe_ifExp (pt_cmpR op_gt (pv 1) pe_int (nomark _)) (pe_op op_sub (pv 1) pe_int) (pv 1))))))
      (pss_one (ps_ret (pe_op op_sub pe_int (pv 1)))))), ?_⟩
    walk_at "eo init"
    walk_at "eo go"
    rw [List.length_map]
    refine g_itR3f (rg2 hl) ?_
    refine g_forW walk_rangeC (fun i σ H' => H' = H ∧ ∃ c, σ = [some (.ref a), some (.int (sumI ns i)), c]) ⟨rfl, none, rfl⟩ (fun _ _ _ _ _ => trivial) ?_ ?_
    · rintro i x σ H' H'' hi ⟨rfl, c, rfl⟩ ⟨rfl, rfl⟩
      have a1 : atI (ns.map V.int) (0 + (i : Nat) * 2) = some (.int ((ns[2 * i]?).getD 0)) := by
        rw [at_int (by omega) (by omega), show (0 + ((i : Nat) : Int) * 2).toNat = 2 * i by omega]
      walk_at "eo go"
      rw [List.length_map]
      have fin : ∀ (b : Int), (ns[2 * i + 1]?).getD 0 = b → (if decide (sumI ns i + 256 * (ns[2 * i]?).getD 0 + b > 65535) = true then sumI ns i + 256 * (ns[2 * i]?).getD 0 + b - 65535 else sumI ns i + 256 * (ns[2 * i]?).getD 0 + b) = sumI ns (i + 1) := by
        intro b e
        subst e
        show _ = (if _ then _ else _)
        by_cases c : 65536 ≤ sumI ns i + ((ns[2 * i]?).getD 0 * 256 + (ns[2 * i + 1]?).getD 0)
        · rw [if_pos (decide_eq_true (by omega)), if_pos c]; omega
        · rw [if_neg (by rw [decide_eq_false (by omega)]; decide), if_neg c]; omega
      refine g_ite (fun z => ?_) (fun z => ?_)
      · have z1 := dec_t z
        have a2 : atI (ns.map V.int) (0 + (i : Nat) * 2 + 1) = some (.int ((ns[2 * i + 1]?).getD 0)) := by
          rw [at_int (by omega) (by omega), show (0 + ((i : Nat) : Int) * 2 + 1).toNat = 2 * i + 1 by omega]
        have f := fin _ rfl
        walk_at "eo go"
        refine g_ite (fun y => ?_) (fun y => ?_)
        · rw [if_pos y] at f
          walk_at "eo go"
          exact ⟨rfl, _, by rw [← f]; rfl⟩
        · rw [if_neg (by rw [y]; decide)] at f
          walk_at "eo go"
          exact ⟨rfl, _, by rw [← f]; rfl⟩
      · have z1 := dec_f z
        have a2 : (ns[2 * i + 1]?).getD 0 = 0 := by rw [List.getElem?_eq_none (by omega)]; rfl
        have f := fin _ a2
        walk_at "eo go"
        refine g_ite (fun y => ?_) (fun y => ?_)
        · rw [if_pos y] at f
          walk_at "eo go"
          exact ⟨rfl, _, by rw [← f]; rfl⟩
        · rw [if_neg (by rw [y]; decide)] at f
          walk_at "eo go"
          exact ⟨rfl, _, by rw [← f]; rfl⟩
    · rintro σ H' ⟨rfl, c, rfl⟩
      walk_at "eo go"
      exact k
theorem ok_law_bits {A : Adr} (T : Txt K mg A) : FnOk P w K mg base CX0 1 A.f_law_bits A.d_law_bits ["octets"] (spBits K) := by
  refine T.law_bits.F.ok sc_law_bits (fun vs H Q E h => ?_) (fun cdv Ar outer s H vs Q E hr h => ?_)
  · obtain ⟨a, ns, rfl, _⟩ := h
    rfl
  · obtain ⟨a, ns, rfl, hT, hO, hl, k⟩ := h
    refine ⟨_, (pss_cons (ps_set (i := 1) sc_law_bits.nd rfl (Or.inl rfl) (pe_lstX pa_nil))
      (pss_cons (ps_for PassesOwn.never rfl (pi_tup (pv 0)) (pg_name (i := 2) sc_law_bits.nd rfl (Or.inr rfl)) (pss_one (ps_expr (pe_bm PySem.F.plainAttrs_list PySem.F.slot_list_extend PySem.F.type_list_extend mt_extend (pv 1) (pa_cons (pe_lc (own := [("power", 3)]) (tt := stT tYes) rfl sc_law_bits.nd (pi_tup (pe_tupX (pa_cons pe_int (pa_cons pe_int (pa_cons pe_int (pa_cons pe_int (pa_cons pe_int (pa_cons pe_int (pa_cons pe_int (pa_cons pe_int pa_nil)))))))))) (blkOk_by (own := [("power", 3)]) (N := ["octets", "found", "own", "power"]) (sc := defScope s_law_bits) (by decide +kernel)) (fun _ _ _ _ _ => PG.star (pg_name (i := 3) sc_law_bits.nd rfl (Or.inl rfl))) (fun _ _ _ _ _ => PTs.star (pts_nil)) (fun _ _ _ _ _ => PE.star (pe_op op_mod (pe_op op_fdivW (pv 2) (pv 3)) pe_int))) pa_nil)))))
      (pss_one (ps_ret (pv 1))))), ?_⟩
    walk_at "eo init"
    walk_at "eo go"
    rename_i c H1 nc e1 hc
    refine g_forT (ns.map V.int) (fun i σ H' => Ext [c] H1 H' ∧ H' c = some (.lst ((bitsB (ns.take i)).map bI)) ∧ ∃ x y, σ = [some (.ref a), some (.ref c), x, y]) ⟨Ext.refl _, hc, none, none, rfl⟩ (fun i σ H' _ ⟨e, _⟩ => sqT_ext e (sqT_ext e1 hT)) ?_ ?_
    · rintro i x σ H2 hi ⟨e2, hc2, x0, y0, rfl⟩
      obtain ⟨n, hn, rfl⟩ := mem_map_int hi
      have hb := hO n (List.mem_of_getElem? hn)
      obtain ⟨o, rfl⟩ : ∃ o : Nat, n = (o : Int) := ⟨n.toNat, by omega⟩
      walk_at "eo go"
      rename_i p H3 np e3 hp
      refine g_lcW (walk_tup (xs := pw8.map V.int)) (fun D i H4 acc => Ext [] H3 H4 ∧ H3 D = none ∧ acc = (pw8.take i).map fun p : Int => V.int ((o : Int) / p % 2)) ?_ (fun D i H4 acc _ q => sqT_ext q.1 (SqT.of hp)) ?_ ?_
      · intro D H4 nD e4 h4
        exact ⟨e4, nD, rfl⟩
      · rintro D j x H4 H5 acc hj ⟨e4, nD, rfl⟩ hD ⟨rfl, hx⟩
        obtain ⟨z, hz, rfl⟩ := mem_map_int hx
        obtain ⟨z0, z1⟩ := pw8_pos (List.mem_of_getElem? hz)
        walk_at "eo go"
        refine ⟨rfl, ?_⟩
        walk_at "eo go"
        refine ⟨hD, ?_, fun H6 e6 h6 => ⟨by walk_at "eo ext", nD, ?_⟩⟩
        · have h8 : pw8.length = 8 := rfl
          rw [sizeLine_eq, List.length_map, List.length_take]; omega
        · have hl8 : j < pw8.length := (List.getElem?_eq_some_iff.mp hz).1
          have h2 : pw8[j] = z := (List.getElem?_eq_some_iff.mp hz).2
          rw [List.take_succ_eq_append_getElem hl8, List.map_append, h2]
          rfl
      · rintro D H4 acc ⟨e4, nD, rfl⟩ hD
        have hD2 : H4 D = some (.lst ((bits8 o).map bI)) := by rw [← bI8_eq]; exact hD
        have hc3 : H4 c = some (.lst ((bitsB (ns.take i)).map bI)) := by walk_at "eo fact"
        have hlen := bitsB_len (ns.take i)
        have hlt : (ns.take i).length ≤ ns.length := List.length_take_le' _ _
        have h88 := bits8_len o
        walk_at "eo go"
        rename_i H6 e6 h6
        refine ⟨by walk_at "eo ext", ?_, _, _, rfl⟩
        rw [bits_succ hn, List.map_append]
        exact h6
    · rintro σ H2 ⟨e2, hc2, x0, y0, rfl⟩
      walk_at "eo go"
      rw [List.length_map, List.take_length] at hc2
      exact k _ _ (by walk_at "eo ext") hc2
theorem ok_flipped {A : Adr} (T : Txt K mg A) : FnOk P w K mg base CX0 1 A.f_flipped A.d_flipped ["octets", "places"] (spFlip K) := by
  refine T.flipped.F.ok sc_flipped (fun vs H Q E h => ?_) (fun cdv Ar outer s H vs Q E hr h => ?_)
  · obtain ⟨a, b, ns, ps, qs, rfl, _⟩ := h
    rfl
  · obtain ⟨a, b, ws, ps, qs, rfl, hT, hT2, hO, h0, hl, hle, hm, k⟩ := h
    refine ⟨_, (pss_cons (ps_set (i := 2) sc_flipped.nd rfl (Or.inl rfl) (pe_callTy (T := "list") o_list (by rfl) T.b_list (by decide +kernel) (pa_cons (pv 0) pa_nil)))
      (pss_cons (ps_for PassesOwn.never rfl (pi_tup (pv 1)) (pg_name (i := 3) sc_flipped.nd rfl (Or.inl rfl)) (pss_cons (ps_set (i := 4) sc_flipped.nd rfl (Or.inl rfl) (pe_op op_mod (pv 3) (pe_op o_mul pe_int (pe_callB (id := "len") o_len (by rfl) T.b_len (by decide +kernel) (pa_cons (pv 2) pa_nil)))))
      (pss_one (ps_augS (pv 2) (pe_op op_fdivW (pv 4) pe_int) o_get (pe_op op_shl pe_int (pe_op op_sub pe_int (pe_op op_mod (pv 4) pe_int))) o_ixor set_list))))
      (pss_one (ps_ret (pe_callTy (T := "tuple") o_tuple (by rfl) T.b_tuple (by decide +kernel) (pa_cons (pv 2) pa_nil)))))), ?_⟩
    walk_at "eo init"
    walk_at "eo go"
    rename_i f H1 nf e1 hf
    refine g_forT (qs.map V.int) (fun i σ H' => Ext [] H1 H1 ∧ Ext [f] H1 H' ∧ H' f = some (.lst (((ps.take i).foldl turn ws).map vn)) ∧ ∃ x y, σ = [some (.ref a), some (.ref b), some (.ref f), x, y]) ⟨Ext.refl _, Ext.refl _, hf, none, none, rfl⟩ (fun i σ H' _ q => sqT_ext q.2.1 (sqT_ext e1 hT2)) ?_ ?_
    · rintro i x σ H2 hi ⟨_, e2, hf2, x0, y0, rfl⟩
      obtain ⟨q, hq, rfl⟩ := mem_map_int hi
      have hil : i < qs.length := (List.getElem?_eq_some_iff.mp hq).1
      obtain ⟨p, hp⟩ : ∃ p, ps[i]? = some p := ⟨_, List.getElem?_eq_getElem (by omega)⟩
      obtain ⟨m1, m2⟩ := hm i p q hp hq
      have hlen := turns_len (ps.take i) ws
      generalize hcur : (ps.take i).foldl turn ws = cur at *
      have hp8 : p / 8 < cur.length := by omega
      have hat := at_vn hp8
      have hix : ixN (cur.map vn).length ((p : Int) / 8) = some (p / 8) := by rw [List.length_map]; exact ixN_vn hp8
      walk_at "eo go"
      rw [List.length_map, hlen]
      walk_at "eo go"
      rw [m1]
      walk_at "eo go"
      rename_i H3 e3 h3
      refine ⟨Ext.refl _, by walk_at "eo ext", ?_, _, _, rfl⟩
      rw [turns_succ hp, hcur, ← set_vn]
      exact h3
    · rintro σ H2 ⟨_, e2, hf2, x0, y0, rfl⟩
      walk_at "eo go"
      rename_i c3 H3 n3 e3 h3
      rw [List.length_map, ← hle, List.take_length] at h3
      exact k _ _ (by walk_at "eo ext") (SqT.of h3)
theorem ok_law_check {A : Adr} (T : Txt K mg A) : FnOk P w K mg base CX0 2 A.f_law_check A.d_law_check ["octets"] (spLChk K) := by
  refine T.law_check.F.ok sc_law_check (fun vs H Q E h => ?_) (fun cdv Ar outer s H vs Q E hr h => ?_)
  · obtain ⟨a, ns, rfl, _⟩ := h
    rfl
  · obtain ⟨a, ns, rfl, hT, hO, hl, k⟩ := h
    refine ⟨_, (pss_cons (ps_set (i := 1) sc_law_check.nd rfl (Or.inl rfl) pe_int)
      (pss_cons (ps_for PassesOwn.never rfl (pi_list (pe_call (ok_law_bits T) (hr.mono (by decide)) (by rfl) T.law_bits.mg T.law_bits.kp T.law_bits.b .nil pass0 (pa_cons (pv 0) pa_nil))) (pg_name (i := 2) sc_law_check.nd rfl (Or.inl rfl)) (pss_cons (ps_set (i := 3) sc_law_check.nd rfl (Or.inl rfl) (pe_op op_fdivW (pv 1) pe_int))
      (pss_cons (ps_set (i := 1) sc_law_check.nd rfl (Or.inl rfl) (pe_op op_mod (pe_op o_mul (pv 1) pe_int) pe_int))
      (pss_one (ps_if (pt_cmpR (o_ne hr.units) (pv 3) (pv 2) (nomark _)) (pss_one (ps_for PassesOwn.never rfl (pi_tup (pe_tupX (pa_cons pe_int (pa_cons pe_int (pa_cons pe_int pa_nil))))) (pg_name (i := 4) sc_law_check.nd rfl (Or.inl rfl)) (pss_one (ps_set (i := 1) sc_law_check.nd rfl (Or.inl rfl) (pe_ifExp (pt_cmpR (o_eq hr.units) (pe_op op_mod (pe_op op_fdivW (pv 1) (pv 4)) pe_int) pe_int (nomark _)) (pe_op op_sub (pv 1) (pv 4)) (pe_op o_add (pv 1) (pv 4))))))) pss_nil)))))
      (pss_one (ps_ret (pv 1))))), ?_⟩
    walk_at "eo init"
    walk_at "eo go"
    refine ⟨a, ns, rfl, hT, hO, hl, fun c H1 e1 hc => ?_⟩
    walk_at "eo go"
    refine g_forL ((bitsB ns).map bI) (SqL.of hc) (fun i σ H' => Ext [] H1 H' ∧ ∃ x y z, σ = [some (.ref a), some (.int ((fbits 65535 ((bitsB ns).take i) : Nat) : Int)), x, y, z]) ⟨Ext.refl _, none, none, none, rfl⟩ (fun i σ H' _ q => SqL.of (q.1.keep _ _ hc nin0)) ?_ ?_
    · rintro i x σ H2 hi ⟨e2, x0, y0, z0, rfl⟩
      obtain ⟨b, hb, rfl⟩ := mem_map_bI hi
      have hf := fbits_lt ((bitsB ns).take i) 65535 (by decide)
      have hs := fbits_succ hb
      generalize hr0 : fbits 65535 ((bitsB ns).take i) = r at *
      have hbs := bstep_eq b hf
      have ek : ((r : Int) * 2 % 65536) = ((r * 2 % 65536 : Nat) : Int) := by omega
      walk_at "eo go"
      rw [ek]
      refine g_ite (fun z => ?_) (fun z => ?_)
      · rw [if_pos z] at hbs
        walk_at "eo go"
        rename_i p H3 np e3 hp
        refine g_forT (pw3.map vn) (fun j σ H' => H' = H3 ∧ ∃ z, σ = [some (.ref a), some (.int (((pw3.take j).foldl flipP (r * 2 % 65536) : Nat) : Int)), some (bI b), some (.int ((r : Int) / 32768)), z]) ⟨rfl, _, rfl⟩ (fun j σ H' _ q => by rw [q.1]; exact SqT.of hp) ?_ ?_
        · rintro j x σ H4 hj ⟨rfl, z1, rfl⟩
          obtain ⟨p, hp1, rfl⟩ := mem_map_vn hj
          obtain ⟨p0, p1⟩ := pw3_pos (List.mem_of_getElem? hp1)
          have fs := flips_succ (k := r * 2 % 65536) hp1
          generalize (pw3.take j).foldl flipP (r * 2 % 65536) = m at *
          walk_at "eo go"
          refine g_ite (fun y => ?_) (fun y => ?_)
          · walk_at "eo go"
            exact ⟨rfl, _, by rw [fs, ← flip_t p0 y]; rfl⟩
          · walk_at "eo go"
            exact ⟨rfl, _, by rw [fs, ← flip_f p0 y]; rfl⟩
        · rintro σ H4 ⟨rfl, z1, rfl⟩
          refine ⟨by walk_at "eo ext", some (bI b), some (.int ((r : Int) / 32768)), z1, ?_⟩
          rw [hs, hbs, ← flip3]
          rfl
      · rw [if_neg (by rw [z]; decide)] at hbs
        walk_at "eo go"
        exact ⟨e2, _, _, _, by rw [hs, hbs]; rfl⟩
    · rintro σ H2 ⟨e2, x0, y0, z0, rfl⟩
      walk_at "eo go"
      rw [List.length_map, List.take_length]
      have e : chk ns = ((fbits 65535 (bitsB ns) : Nat) : Int) := by unfold chk; rw [crc_bits]; rfl
      rw [← e]
      exact k _ (by walk_at "eo ext")
theorem ok_law {A : Adr} (T : Txt K mg A) : FnOk P w K mg base CX0 4 A.f_law A.d_law ["script"] (spLaw K) := by
  refine T.law.F.ok sc_law (fun vs H Q E h => ?_) (fun cdv Ar outer s H vs Q E hr h => ?_)
  · obtain ⟨a, ns, rfl, _⟩ := h
    rfl
  · obtain ⟨a, ns, rfl, hS, hlen, k⟩ := h
    refine ⟨_, (pss_cons (ps_set (i := 1) sc_law.nd rfl (Or.inr rfl) (pe_call (ok_law_begin T) (hr.mono (by decide)) (by rfl) T.law_begin.mg T.law_begin.kp T.law_begin.b .nil pass0 (pa_cons (pv 0) pa_nil)))
      (pss_cons (ps_set (i := 2) sc_law.nd rfl (Or.inl rfl) (pe_call (ok_law_octets T) (hr.mono (by decide)) (by rfl) T.law_octets.mg T.law_octets.kp T.law_octets.b .nil pass0 (pa_cons (pv 1) (pa_cons pe_int pa_nil))))
      (pss_cons (ps_set (i := 3) sc_law.nd rfl (Or.inl rfl) (pe_call (ok_law_pick T) (hr.mono (by decide)) (by rfl) T.law_pick.mg T.law_pick.kp T.law_pick.b .nil pass0 (pa_cons (pv 1) (pa_cons (pe_lstX (pa_cons (pe_call (ok_law_take T) (hr.mono (by decide)) (by rfl) T.law_take.mg T.law_take.kp T.law_take.b .nil pass0 (pa_cons (pv 1) (pa_cons pe_int pa_nil))) (pa_cons pe_int (pa_cons pe_int (pa_cons pe_int pa_nil))))) pa_nil))))
      (pss_cons (ps_if (PW.pt (pw_or (pt_cmpR (o_ne hr.units) (pe_call (ok_two_octets T) (hr.mono (by decide)) (by rfl) T.two_octets.mg T.two_octets.kp T.two_octets.b .nil pass0 (pa_cons (pv 3) pa_nil)) (pe_tupX (pa_cons (pe_op op_fdivW (pv 3) pe_int) (pa_cons (pe_op op_mod (pv 3) pe_int) pa_nil))) (nomark _)) (pw_or1 (pt_cmpR (o_ne hr.units) (pe_call (ok_number_of T) (hr.mono (by decide)) (by rfl) T.number_of.mg T.number_of.kp T.number_of.b .nil pass0 (pa_cons (pe_call (ok_two_octets T) (hr.mono (by decide)) (by rfl) T.two_octets.mg T.two_octets.kp T.two_octets.b .nil pass0 (pa_cons (pv 3) pa_nil)) pa_nil)) (pv 3) (nomark _))))) (pss_one (ps_ret pe_bl)) pss_nil)
      (pss_cons (ps_set (i := 4) sc_law.nd rfl (Or.inl rfl) (pe_call (ok_law_octets T) (hr.mono (by decide)) (by rfl) T.law_octets.mg T.law_octets.kp T.law_octets.b .nil pass0 (pa_cons (pv 1) (pa_cons pe_int pa_nil))))
      (pss_cons (ps_set (i := 5) sc_law.nd rfl (Or.inl rfl) pe_int)
      (pss_cons (ps_for PassesOwn.never rfl (pi_tup (pv 4)) (pg_name (i := 6) sc_law.nd rfl (Or.inl rfl)) (pss_one (ps_set (i := 5) sc_law.nd rfl (Or.inl rfl) (pe_op o_add (pe_op o_mul pe_int (pv 5)) (pv 6)))))
      (pss_cons (ps_if (PW.pt (pw_or (pt_cmpR (o_ne hr.units) (pe_call (ok_number_of T) (hr.mono (by decide)) (by rfl) T.number_of.mg T.number_of.kp T.number_of.b .nil pass0 (pa_cons (pv 4) pa_nil)) (pv 5) (nomark _)) (pw_or (pt_cmpR (o_ne hr.units) (pe_call (ok_check16 T) (hr.mono (by decide)) (by rfl) T.check16.mg T.check16.kp T.check16.b .nil pass0 (pa_cons (pv 2) pa_nil)) (pe_call (ok_law_check T) (hr.mono (by decide)) (by rfl) T.law_check.mg T.law_check.kp T.law_check.b .nil pass0 (pa_cons (pv 2) pa_nil)) (nomark _)) (pw_or1 (pt_cmpR (o_ne hr.units) (pe_call (ok_sum16 T) (hr.mono (by decide)) (by rfl) T.sum16.mg T.sum16.kp T.sum16.b .nil pass0 (pa_cons (pv 2) pa_nil)) (pe_call (ok_law_sum T) (hr.mono (by decide)) (by rfl) T.law_sum.mg T.law_sum.kp T.law_sum.b .nil pass0 (pa_cons (pv 2) pa_nil)) (nomark _)))))) (pss_one (ps_ret pe_bl)) pss_nil)
      (pss_cons (ps_set (i := 7) sc_law.nd rfl (Or.inr rfl) (pe_op o_add (pv 2) (pe_call (ok_two_octets T) (hr.mono (by decide)) (by rfl) T.two_octets.mg T.two_octets.kp T.two_octets.b .nil pass0 (pa_cons (pe_call (ok_law_check T) (hr.mono (by decide)) (by rfl) T.law_check.mg T.law_check.kp T.law_check.b .nil pass0 (pa_cons (pv 2) pa_nil)) pa_nil))))
      (pss_cons (ps_if (PW.pt (pw_or (pt_cmpR (o_ne hr.units) (pe_call (ok_sealed T) (hr.mono (by decide)) (by rfl) T.sealed.mg T.sealed.kp T.sealed.b .nil pass0 (pa_cons (pv 2) pa_nil)) (pv 7) (nomark _)) (pw_or1 (pt_cmpR op_notBl (pe_call (ok_is_sealed T) (hr.mono (by decide)) (by rfl) T.is_sealed.mg T.is_sealed.kp T.is_sealed.b .nil pass0 (pa_cons (pv 7) pa_nil)) pe_bl (nomark _))))) (pss_one (ps_ret pe_bl)) pss_nil)
      (pss_cons (ps_set (i := 8) sc_law.nd rfl (Or.inl rfl) (pe_lstX pa_nil))
      (pss_cons (ps_for PassesOwn.never rfl (pi_range1 (by rfl) T.b_range (pa_cons (pe_op o_add pe_int (pe_call (ok_law_take T) (hr.mono (by decide)) (by rfl) T.law_take.mg T.law_take.kp T.law_take.b .nil pass0 (pa_cons (pv 1) (pa_cons pe_int pa_nil)))) pa_nil)) (pg_name (i := 9) sc_law.nd rfl (Or.inl rfl)) (pss_cons (ps_set (i := 10) sc_law.nd rfl (Or.inl rfl) (pe_call (ok_law_take T) (hr.mono (by decide)) (by rfl) T.law_take.mg T.law_take.kp T.law_take.b .nil pass0 (pa_cons (pv 1) (pa_cons (pe_op o_mul pe_int (pe_callB (id := "len") o_len (by rfl) T.b_len (by decide +kernel) (pa_cons (pv 7) pa_nil))) pa_nil))))
      (pss_one (ps_expr (pe_bm PySem.F.plainAttrs_list PySem.F.slot_list_extend PySem.F.type_list_extend mt_extend (pv 8) (pa_cons (pe_ifExp (pt_cmpR op_notIn_seq (pv 10) (pv 8) rfl) (pe_lstX (pa_cons (pv 10) pa_nil)) (pe_lstX pa_nil)) pa_nil))))))
      (pss_cons (ps_set (i := 11) sc_law.nd rfl (Or.inl rfl) (pe_callTy (T := "list") o_list (by rfl) T.b_list (by decide +kernel) (pa_cons (pv 7) pa_nil)))
      (pss_cons (ps_for PassesOwn.never rfl (pi_list (pv 8)) (pg_name (i := 10) sc_law.nd rfl (Or.inl rfl)) (pss_cons (ps_set (i := 12) sc_law.nd rfl (Or.inl rfl) (pe_ix ix_seq (pe_tupX (pa_cons pe_int (pa_cons pe_int (pa_cons pe_int (pa_cons pe_int (pa_cons pe_int (pa_cons pe_int (pa_cons pe_int (pa_cons pe_int pa_nil))))))))) (pe_op op_sub (pv 10) (pe_op o_mul pe_int (pe_op op_fdivW (pv 10) pe_int))) (fun _ _ => rfl)))
      (pss_cons (ps_set (i := 6) sc_law.nd rfl (Or.inl rfl) (pe_ix ix_seq (pv 11) (pe_op op_fdivW (pv 10) pe_int) (fun _ _ => rfl)))
      (pss_one (ps_asg (pe_ifExp (pt_cmpR (o_eq hr.units) (pe_op op_mod (pe_op op_fdivW (pv 6) (pv 12)) pe_int) pe_int (nomark _)) (pe_op op_sub (pv 6) (pv 12)) (pe_op o_add (pv 6) (pv 12))) (pg_sub (pv 11) (pe_op op_fdivW (pv 10) pe_int) set_list))))))
      (pss_cons (ps_set (i := 13) sc_law.nd rfl (Or.inl rfl) (pe_callTy (T := "tuple") o_tuple (by rfl) T.b_tuple (by decide +kernel) (pa_cons (pe_lc (own := [("place", 10)]) (tt := stT tYes) rfl sc_law.nd (pi_list (pv 8)) (blkOk_by (own := [("place", 10)]) (N := ["script", "d", "octets", "number", "row", "due", "own", "whole", "places", "k", "place", "turned", "power", "shifted"]) (sc := defScope s_law) (by decide +kernel)) (fun _ _ _ _ _ => PG.star (pg_name (i := 10) sc_law.nd rfl (Or.inl rfl))) (fun _ _ _ _ _ => PTs.star (pts_nil)) (fun _ _ _ _ _ => PE.star (pe_op (kkOpR (r := rAddX) (K := K) rfl o_add) (pv 10) (pe_op o_mul (pe_op o_mul pe_int (pe_callB (id := "len") (kkCallR (r := rLenX) (K := K) rfl o_len) (by rfl) T.b_len (by decide +kernel) (pa_cons (pv 7) pa_nil))) (pe_call (ok_law_take T) (hr.mono (by decide)) (by rfl) T.law_take.mg T.law_take.kp T.law_take.b .nil pass0 (pa_cons (pv 1) (pa_cons pe_int pa_nil))))))) pa_nil)))
      (pss_one (ps_ret (pe_and (pe_cmpR (o_eq hr.units) (pe_call (ok_flipped T) (hr.mono (by decide)) (by rfl) T.flipped.mg T.flipped.kp T.flipped.b .nil pass0 (pa_cons (pv 7) (pa_cons (pv 13) pa_nil))) (pe_callTy (T := "tuple") o_tuple (by rfl) T.b_tuple (by decide +kernel) (pa_cons (pv 11) pa_nil)) (nomark _)) (pe_one (pe_cmpR op_isBl (pe_call (ok_is_sealed T) (hr.mono (by decide)) (by rfl) T.is_sealed.mg T.is_sealed.kp T.is_sealed.b .nil pass0 (pa_cons (pe_callTy (T := "tuple") o_tuple (by rfl) T.b_tuple (by decide +kernel) (pa_cons (pv 11) pa_nil)) pa_nil)) pe_bl (nomark _))))))))))))))))))))), ?_⟩
    walk_at "eo init"
    walk_at "eo go"
    refine ⟨a, ns, rfl, hS, hlen, fun d sc H1 nd nsc e1 hD => ?_⟩
    walk_at "eo go"
    rename_i oa octs H2 e2 hD2 hoa hO hol n0 H3 n00 n01 e3 hD3 p4 H4 np4 e4 hp4 v5 H5 hv5 e5 hD5
    obtain ⟨n, rfl, n0, n1⟩ : ∃ z : Int, v5 = .int z ∧ 0 ≤ z ∧ z < 65536 := by
      simp only [List.mem_cons, List.not_mem_nil, or_false] at hv5
      rcases hv5 with rfl | rfl | rfl | rfl
      · exact ⟨_, rfl, n00, n01⟩
      · exact ⟨_, rfl, by decide, by decide⟩
      · exact ⟨_, rfl, by decide, by decide⟩
      · exact ⟨_, rfl, by decide, by decide⟩
    walk_at "eo go"
    rename_i c6 H6 e6 hc6 p7 H7 np7 e7 hp7 c8 H8 e8 hc8
    refine ⟨c8, _, [n / 256, n % 256], rfl, hc8, rfl, ?_⟩
    walk_at "eo go"
    refine g_iteDF (by rw [show num [n / 256, n % 256] = n from (show (0 * 256 + n / 256) * 256 + n % 256 = n by omega), decide_eq_true rfl]; rfl) ?_
    have hD8 : DSt H8 d sc := by walk_at "eo dst"
    walk_at "eo go"
    rename_i ra row H9 e9 hD9 hra hRO hrl
    refine g_forT (row.map V.int) (fun i σ H' => H' = H9 ∧ ∃ c, σ = [some (.ref a), some (.ref d), some (.ref oa), some (.int n), some (.ref ra), some (.int (num (row.take i))), c, none, none, none, none, none, none, none]) ⟨rfl, none, rfl⟩ (fun i σ H' _ q => by rw [q.1]; exact hra) ?_ ?_
    · rintro i x σ H10 hi ⟨rfl, c, rfl⟩
      obtain ⟨o, ho, rfl⟩ := mem_map_int hi
      walk_at "eo go"
      refine ⟨rfl, some (.int o), ?_⟩
      have e : num (row.take (i + 1)) = 256 * num (row.take i) + o := by
        have hl : i < row.length := (List.getElem?_eq_some_iff.mp ho).1
        have h2 : row[i] = o := (List.getElem?_eq_some_iff.mp ho).2
        unfold num
        rw [List.take_succ_eq_append_getElem hl, List.foldl_append, h2, Int.mul_comm]
        rfl
      rw [e]
      rfl
    · rintro σ H10 ⟨rfl, c0, rfl⟩
      rw [List.length_map, List.take_length]
      walk_at "eo go"
      refine ⟨ra, _, row, rfl, hra, rfl, ?_⟩
      walk_at "eo go"
      try refine g_iteDF (by rw [decide_eq_true rfl]; rfl) ?_
      have hoa10 : SqT K H10 oa (octs.map V.int) := by walk_at "eo sqT"
      walk_at "eo go"
      refine ⟨oa, octs, rfl, hoa10, hO, ?_⟩
      walk_at "eo go"
      refine ⟨oa, octs, rfl, hoa10, hO, by omega, fun H11 e11 => ?_⟩
      walk_at "eo go"
      try refine g_iteDF (by rw [decide_eq_true rfl]; rfl) ?_
      have hoa11 : SqT K H11 oa (octs.map V.int) := by walk_at "eo sqT"
      walk_at "eo go"
      refine ⟨oa, octs, rfl, hoa11, by omega, ?_⟩
      walk_at "eo go"
      refine ⟨oa, octs, rfl, hoa11, by omega, ?_⟩
      walk_at "eo go"
      try refine g_iteDF (by rw [decide_eq_true rfl]; rfl) ?_
      walk_at "eo go"
      refine ⟨oa, octs, rfl, hoa11, hO, by omega, fun H12 e12 => ?_⟩
      have hoa12 : SqT K H12 oa (octs.map V.int) := by walk_at "eo sqT"
      walk_at "eo go"
      rename_i c13 H13 e13 hc13 wa H14 e14 hwa0
      have hwa : SqT K H14 wa ((shut octs).map V.int) := sqT_cast hwa0 (by unfold shut; rw [List.map_append]; rfl)
      clear hwa0
      have hwO := shut_oct hO
      have hwl := shut_len octs
      have hoa14 : SqT K H14 oa (octs.map V.int) := by walk_at "eo sqT"
      walk_at "eo go"
      refine ⟨oa, octs, rfl, hoa14, hO, by omega, fun c15 H15 e15 hc15 => ?_⟩
      have hc15' : SqT K H15 c15 ((shut octs).map V.int) := hc15
      clear hc15
      have hwa15 : SqT K H15 wa ((shut octs).map V.int) := by walk_at "eo sqT"
      walk_at "eo go"
      refine ⟨wa, shut octs, rfl, hwa15, hwO, by omega, fun H16 e16 => ?_⟩
      rw [decide_eq_true (shut_yes octs)]
      walk_at "eo go"
      rename_i pl H17 npl e17 hpl k3 H18 k30 k31 e18 hD18
      have hD16 : DSt H16 d sc := by walk_at "eo dst"
      have ndp : d ≠ pl := ne_dst1 npl hD16
      have nsp : sc ≠ pl := ne_dst2 npl hD16
      have hpl18 : H18 pl = some (.lst []) := by walk_at "eo fact"
      have hwa18 : SqT K H18 wa ((shut octs).map V.int) := by walk_at "eo sqT"
      have hWl : ((shut octs).map V.int).length = octs.length + 2 := by rw [List.length_map, shut_len]
      refine g_forR (fun i σ H' => Ext [d, pl] H18 H' ∧ DSt H' d sc ∧ ∃ (ps : List Nat) (x y : Option V), H' pl = some (.lst (ps.map vn)) ∧ ps.Nodup ∧ (∀ p ∈ ps, p < 8 * (octs.length + 2)) ∧ (0 < i → 0 < ps.length) ∧ ps.length ≤ i ∧
        σ = [some (.ref a), some (.ref d), some (.ref oa), some (.int n), some (.ref ra), some (.int (num row)), c0, some (.ref wa), some (.ref pl), x, y, none, none, none]) ⟨Ext.refl _, hD18, [], none, none, hpl18, List.nodup_nil, (fun _ h => by cases h), (fun h => absurd h (Nat.lt_irrefl 0)), Nat.le_refl _, rfl⟩ ?_ ?_
      · rintro i σ H19 hi ⟨e19, hD19, ps, x0, y0, hps, hnd, hb, hpos, hle, rfl⟩
        have hwa19 : SqT K H19 wa ((shut octs).map V.int) := by walk_at "eo sqT"
        walk_at "eo go"
        rename_i p H20 p0 p1 e20 hD20
        obtain ⟨q, rfl⟩ : ∃ q : Nat, p = (q : Int) := ⟨p.toNat, by omega⟩
        have hps20 : H20 pl = some (.lst (ps.map vn)) := by walk_at "eo fact"
        refine g_ninL (SqL.of hps20) rfl (all_flat ps) ?_
        rw [inV_vn]
        walk_at "eo go"
        refine g_ite (fun z => ?_) (fun z => ?_)
        · have hq : q ∉ ps := by
            intro h
            rw [decide_eq_true h] at z
            cases z
          have hl3 : (ps.map vn).length ≤ 1000 := by rw [List.length_map]; omega
          walk_at "eo go"
          rename_i pn H21 nn e21 hpn H22 e22 h22
          refine ⟨by walk_at "eo ext", by walk_at "eo dst", ps ++ [q], some (.int (i : Int)), some (.int (q : Int)), by rw [List.map_append]; exact h22, ?_, ?_, ?_, ?_, ?_⟩
          · rw [List.nodup_append]
            exact ⟨hnd, by simp, fun x hx y hy e => by rw [List.mem_singleton.mp hy] at e; exact hq (e ▸ hx)⟩
          · intro x hx
            rcases List.mem_append.mp hx with c | c
            · exact hb x c
            · rw [List.mem_singleton.mp c]; omega
          · intro _
            rw [List.length_append, List.length_singleton]; omega
          · rw [List.length_append, List.length_singleton]; omega
          · rw [show ((0 : Int) + (i : Int)) = (i : Int) by omega]; rfl
        · have hq : q ∈ ps := by
            by_cases h : q ∈ ps
            · exact h
            · rw [decide_eq_false h] at z
              cases z
          have hl3 : (ps.map vn).length ≤ 1000 := by rw [List.length_map]; omega
          walk_at "eo go"
          rename_i pn H21 nn e21 hpn H22 e22 h22
          refine ⟨by walk_at "eo ext", by walk_at "eo dst", ps, some (.int (i : Int)), some (.int (q : Int)), by rw [← List.append_nil (ps.map vn)]; exact h22, hnd, hb, fun _ => List.length_pos_of_mem hq, by omega, ?_⟩
          rw [show ((0 : Int) + (i : Int)) = (i : Int) by omega]; rfl
      · rintro σ H19 ⟨e19, hD19, ps, x0, y0, hps, hnd, hb, hpos, hle, rfl⟩
        have hwa19 : SqT K H19 wa ((shut octs).map V.int) := by walk_at "eo sqT"
        have hk : 0 < ps.length ∧ ps.length ≤ 3 := ⟨hpos (by omega), by omega⟩
        walk_at "eo go"
        rename_i tl H21 ntl e21 htl0
        have hWv : (shut octs).map V.int = (nat (shut octs)).map vn := by rw [vn_iOf, iOf_nat (shut_oct hO)]
        have hWn : (nat (shut octs)).length = octs.length + 2 := by unfold nat; rw [List.length_map, shut_len]
        have hW8 : ∀ x ∈ nat (shut octs), x < 256 := fun x hx => by
          unfold nat at hx
          obtain ⟨y, hy, rfl⟩ := List.mem_map.mp hx
          have := shut_oct hO y hy
          omega
        have hcrc := shut_crc hO
        have htl : H21 tl = some (.lst ((nat (shut octs)).map vn)) := by rw [← hWv]; exact htl0
        clear htl0
        have hpl21 : H21 pl = some (.lst (ps.map vn)) := by walk_at "eo fact"
        have npt : pl ≠ tl := ne_of_none hps ntl
        have hD21 : DSt H21 d sc := by walk_at "eo dst"
        have ndt : d ≠ tl := ne_dst1 ntl hD19
        have nst : sc ≠ tl := ne_dst2 ntl hD19
        refine g_forL (ps.map vn) (SqL.of hpl21) (fun i σ H' => Ext [tl] H21 H' ∧ H' tl = some (.lst (((ps.take i).foldl turn (nat (shut octs))).map vn)) ∧ ∃ (x z u : Option V), σ = [some (.ref a), some (.ref d), some (.ref oa), some (.int n), some (.ref ra), some (.int (num row)), x, some (.ref wa), some (.ref pl), x0, z, some (.ref tl), u, none])
          ⟨Ext.refl _, htl, c0, y0, none, rfl⟩ (fun i σ H' _ q => SqL.of (q.1.keep _ _ hpl21 (nin1 npt))) ?_ ?_
        · rintro i x σ H22 hi ⟨e22, ht22, x6, x10, x12, rfl⟩
          obtain ⟨p, hp, rfl⟩ := mem_map_vn hi
          have hpb := hb p (List.mem_of_getElem? hp)
          have hts := turns_succ (ws := nat (shut octs)) hp
          have hlen2 := turns_len (ps.take i) (nat (shut octs))
          generalize hcur : (ps.take i).foldl turn (nat (shut octs)) = cur at *
          have hp8 : p / 8 < cur.length := by omega
          have hat := at_vn hp8
          have hix : ixN (cur.map vn).length ((p : Int) / 8) = some (p / 8) := by rw [List.length_map]; exact ixN_vn hp8
          have hpw := pw_at p
          have hp7 := pow7 p
          have hset : ∀ z : Int, z = ((flipP ((cur[p / 8]?).getD 0) (2 ^ (7 - p % 8)) : Nat) : Int) → (cur.map vn).set (p / 8) (.int z) = (turn cur p).map vn := fun z e => turn_set e
          generalize hpv : 2 ^ (7 - p % 8) = pw at hpw hp7 hset
          walk_at "eo go"
          refine g_ite (fun y => ?_) (fun y => ?_)
          · have hz := hset _ (flip_t hp7.1 y)
            walk_at "eo go"
            rename_i pq H23 nq e23 hpq H24 e24 h24
            refine ⟨by walk_at "eo ext", ?_, _, _, _, rfl⟩
            rw [hts, ← hz]
            exact h24
          · have hz := hset _ (flip_f hp7.1 y)
            walk_at "eo go"
            rename_i pq H23 nq e23 hpq H24 e24 h24
            refine ⟨by walk_at "eo ext", ?_, _, _, _, rfl⟩
            rw [hts, ← hz]
            exact h24
        · rintro σ H22 ⟨e22, ht22, x6, x10, x12, rfl⟩
          rw [List.length_map, List.take_length] at ht22
          have hD22 : DSt H22 d sc := by walk_at "eo dst"
          have hpl22 : H22 pl = some (.lst (ps.map vn)) := by walk_at "eo fact"
          have hwa22 : SqT K H22 wa ((shut octs).map V.int) := by walk_at "eo sqT"
          walk_at "eo go"
          refine g_lcW (walk_list (xs := ps.map vn)) (fun D i H' acc => Ext [d] H22 H' ∧ DSt H' d sc ∧ d ≠ D ∧ sc ≠ D ∧ H22 D = none ∧ ∃ qs : List Int, acc = qs.map V.int ∧ qs.length = i ∧ ∀ (j p : Nat) (q : Int), ps[j]? = some p → qs[j]? = some q → q % (8 * ((octs.length + 2 : Nat) : Int)) = p)
            ?_ (fun D i H' acc _ q => SqL.of (q.1.keep _ _ hpl22 (nin1 ndp.symm))) ?_ ?_
          · intro D H23 nD e23 h23
            exact ⟨by walk_at "eo ext", by walk_at "eo dst", ne_dst1 nD hD22, ne_dst2 nD hD22, nD, [], rfl, rfl, fun j p q _ h => by cases h⟩
          · rintro D i x H23 H24 acc hi ⟨e23, hD23, ndD, nsD, nD, qs, rfl, hql, hqm⟩ hDl ⟨rfl, hx⟩
            obtain ⟨p, hp, rfl⟩ := mem_map_vn hx
            have hpb := hb p (List.mem_of_getElem? hp)
            have hwa23 : SqT K H24 wa ((shut octs).map V.int) := by walk_at "eo sqT"
            walk_at "eo go"
            refine ⟨rfl, ?_⟩
            walk_at "eo go"
            rename_i t H25 t0 t1 e25 hD25
            rw [hWl]
            have h25 : H25 D = some (.lst (qs.map V.int)) := by walk_at "eo fact"
            refine ⟨h25, ?_, fun H26 e26 h26 => ⟨by walk_at "eo ext", DSt.ext e26 hD25 (nin1 ndD) (nin1 nsD), ndD, nsD, nD, qs ++ [(p : Int) + 8 * ((octs.length + 2 : Nat) : Int) * t], by rw [List.map_append]; rfl, by rw [List.length_append, hql]; rfl, ?_⟩⟩
            · rw [sizeLine_eq, List.length_map]
              rw [List.length_map] at hi
              omega
            · intro j p' q' hp' hq'
              by_cases c : j < qs.length
              · rw [List.getElem?_append_left c] at hq'
                exact hqm j p' q' hp' hq'
              · have hj : j = qs.length := by
                  have := (List.getElem?_eq_some_iff.mp hq').1
                  rw [List.length_append, List.length_singleton] at this
                  omega
                rw [hj, List.getElem?_append_right (Nat.le_refl _), Nat.sub_self] at hq'
                have e : (p : Int) + 8 * ((octs.length + 2 : Nat) : Int) * t = q' := Option.some.inj hq'
                rw [hj, hql, hp] at hp'
                have e2 : p = p' := Option.some.inj hp'
                subst e e2
                rw [Int.add_mul_emod_self_left]
                exact Int.emod_eq_of_lt (by omega) (by omega)
          · rintro D H23 acc ⟨e23, hD23, ndD, nsD, nD, qs, rfl, hql, hqm⟩ hDl
            rw [List.length_map] at hql
            have hwa23 : SqT K H23 wa ((nat (shut octs)).map vn) := by rw [← hWv]; walk_at "eo sqT"
            have ht23 : H23 tl = some (.lst ((ps.foldl turn (nat (shut octs))).map vn)) := by walk_at "eo fact"
            walk_at "eo go"
            rename_i sh H24 nsh e24 hsh
            refine ⟨wa, sh, nat (shut octs), ps, qs, rfl, by walk_at "eo sqT", by walk_at "eo sqT", hW8, by omega, by omega, hql.symm, fun i p q hp hq => ⟨by rw [hWn]; exact hqm i p q hp hq, by rw [hWn]; exact hb p (List.mem_of_getElem? hp)⟩, fun fl H25 e25 hfl => ?_⟩
            walk_at "eo go"
            rename_i t1 H26 nt1 e26 ht1 t2 H27 nt2 e27 ht2
            have hTl := turns_len ps (nat (shut octs))
            have hT8 := turns_oct ps hW8
            have hTne := turns_ne hcrc (by omega) hnd (by rw [hWn]; exact hb) hk.1 hk.2
            generalize ps.foldl turn (nat (shut octs)) = W at *
            have hWo : (iOf W).length = W.length := by unfold iOf; rw [List.length_map]
            refine ⟨t2, iOf W, rfl, by rw [← vn_iOf]; exact SqT.of ht2, fun x hx => ?_, by omega, fun H28 e28 => ?_⟩
            · unfold iOf at hx
              obtain ⟨y, hy, rfl⟩ := List.mem_map.mp hx
              have := hT8 y hy
              omega
            · rw [decide_eq_false fun q => hTne (sealed_iff W hT8 (by omega) q)]
              walk_at "eo go"
              exact k _
end
set_option maxHeartbeats 4000000 in
theorem all_mk {l : PySem.W.OpenLaw} {w : World} {K : PySem.W.Frag} {h : Heap} {mg : Str → Option Value} {fa : Addr} (X : K.In h) (G : h.Ns mainGlobals mg) (hfa : mg "law" = some (.ref fa))
    {od_two_octets an_two_octets : Option Addr} {sl_two_octets : Array (Option Value)} {oc_two_octets kV_two_octets dc_two_octets pm_two_octets cd_two_octets ct_two_octets : Value} {f_two_octets : Addr}
    {od_number_of an_number_of : Option Addr} {sl_number_of : Array (Option Value)} {oc_number_of kV_number_of dc_number_of pm_number_of cd_number_of ct_number_of : Value} {f_number_of : Addr}
    {od_check16 an_check16 : Option Addr} {sl_check16 : Array (Option Value)} {oc_check16 kV_check16 dc_check16 pm_check16 cd_check16 ct_check16 : Value} {f_check16 : Addr}
    {od_sum16 an_sum16 : Option Addr} {sl_sum16 : Array (Option Value)} {oc_sum16 kV_sum16 dc_sum16 pm_sum16 cd_sum16 ct_sum16 : Value} {f_sum16 : Addr}
    {od_sealed an_sealed : Option Addr} {sl_sealed : Array (Option Value)} {oc_sealed kV_sealed dc_sealed pm_sealed cd_sealed ct_sealed : Value} {f_sealed : Addr}
    {od_is_sealed an_is_sealed : Option Addr} {sl_is_sealed : Array (Option Value)} {oc_is_sealed kV_is_sealed dc_is_sealed pm_is_sealed cd_is_sealed ct_is_sealed : Value} {f_is_sealed : Addr}
    {od_flipped an_flipped : Option Addr} {sl_flipped : Array (Option Value)} {oc_flipped kV_flipped dc_flipped pm_flipped cd_flipped ct_flipped : Value} {f_flipped : Addr}
    {od_law_begin an_law_begin : Option Addr} {sl_law_begin : Array (Option Value)} {oc_law_begin kV_law_begin dc_law_begin pm_law_begin cd_law_begin ct_law_begin : Value} {f_law_begin : Addr}
    {od_law_take an_law_take : Option Addr} {sl_law_take : Array (Option Value)} {oc_law_take kV_law_take dc_law_take pm_law_take cd_law_take ct_law_take : Value} {f_law_take : Addr}
    {od_law_pick an_law_pick : Option Addr} {sl_law_pick : Array (Option Value)} {oc_law_pick kV_law_pick dc_law_pick pm_law_pick cd_law_pick ct_law_pick : Value} {f_law_pick : Addr}
    {od_law_octets an_law_octets : Option Addr} {sl_law_octets : Array (Option Value)} {oc_law_octets kV_law_octets dc_law_octets pm_law_octets cd_law_octets ct_law_octets : Value} {f_law_octets : Addr}
    {od_law_bits an_law_bits : Option Addr} {sl_law_bits : Array (Option Value)} {oc_law_bits kV_law_bits dc_law_bits pm_law_bits cd_law_bits ct_law_bits : Value} {f_law_bits : Addr}
    {od_law_check an_law_check : Option Addr} {sl_law_check : Array (Option Value)} {oc_law_check kV_law_check dc_law_check pm_law_check cd_law_check ct_law_check : Value} {f_law_check : Addr}
    {od_law_sum an_law_sum : Option Addr} {sl_law_sum : Array (Option Value)} {oc_law_sum kV_law_sum dc_law_sum pm_law_sum cd_law_sum ct_law_sum : Value} {f_law_sum : Addr}
    {od_law an_law : Option Addr} {sl_law : Array (Option Value)} {oc_law kV_law dc_law pm_law cd_law ct_law : Value} {f_law : Addr}
    {v_MOST : Tok}
    (a_two_octets : PySem.W.nsIn K mainGlobals "two_octets" = some (some (.ref f_two_octets)))
    (l_two_octets : K.lookup f_two_octets = some ⟨oc_two_octets, od_two_octets, .func (PySem.W.fnOf "two_octets" "two_octets" (defArgs s_two_octets) (defBody s_two_octets) (defScope s_two_octets) .none kV_two_octets dc_two_octets pm_two_octets an_two_octets cd_two_octets ct_two_octets), sl_two_octets⟩)
    (k_two_octets : PySem.W.codeIn K cd_two_octets "two_octets" = true)
    (p_two_octets : PySem.W.keepIn K (.ref f_two_octets) = true)
    (a_number_of : PySem.W.nsIn K mainGlobals "number_of" = some (some (.ref f_number_of)))
    (l_number_of : K.lookup f_number_of = some ⟨oc_number_of, od_number_of, .func (PySem.W.fnOf "number_of" "number_of" (defArgs s_number_of) (defBody s_number_of) (defScope s_number_of) .none kV_number_of dc_number_of pm_number_of an_number_of cd_number_of ct_number_of), sl_number_of⟩)
    (k_number_of : PySem.W.codeIn K cd_number_of "number_of" = true)
    (p_number_of : PySem.W.keepIn K (.ref f_number_of) = true)
    (a_check16 : PySem.W.nsIn K mainGlobals "check16" = some (some (.ref f_check16)))
    (l_check16 : K.lookup f_check16 = some ⟨oc_check16, od_check16, .func (PySem.W.fnOf "check16" "check16" (defArgs s_check16) (defBody s_check16) (defScope s_check16) .none kV_check16 dc_check16 pm_check16 an_check16 cd_check16 ct_check16), sl_check16⟩)
    (k_check16 : PySem.W.codeIn K cd_check16 "check16" = true)
    (p_check16 : PySem.W.keepIn K (.ref f_check16) = true)
    (a_sum16 : PySem.W.nsIn K mainGlobals "sum16" = some (some (.ref f_sum16)))
    (l_sum16 : K.lookup f_sum16 = some ⟨oc_sum16, od_sum16, .func (PySem.W.fnOf "sum16" "sum16" (defArgs s_sum16) (defBody s_sum16) (defScope s_sum16) .none kV_sum16 dc_sum16 pm_sum16 an_sum16 cd_sum16 ct_sum16), sl_sum16⟩)
    (k_sum16 : PySem.W.codeIn K cd_sum16 "sum16" = true)
    (p_sum16 : PySem.W.keepIn K (.ref f_sum16) = true)
    (a_sealed : PySem.W.nsIn K mainGlobals "sealed" = some (some (.ref f_sealed)))
    (l_sealed : K.lookup f_sealed = some ⟨oc_sealed, od_sealed, .func (PySem.W.fnOf "sealed" "sealed" (defArgs s_sealed) (defBody s_sealed) (defScope s_sealed) .none kV_sealed dc_sealed pm_sealed an_sealed cd_sealed ct_sealed), sl_sealed⟩)
    (k_sealed : PySem.W.codeIn K cd_sealed "sealed" = true)
    (p_sealed : PySem.W.keepIn K (.ref f_sealed) = true)
    (a_is_sealed : PySem.W.nsIn K mainGlobals "is_sealed" = some (some (.ref f_is_sealed)))
    (l_is_sealed : K.lookup f_is_sealed = some ⟨oc_is_sealed, od_is_sealed, .func (PySem.W.fnOf "is_sealed" "is_sealed" (defArgs s_is_sealed) (defBody s_is_sealed) (defScope s_is_sealed) .none kV_is_sealed dc_is_sealed pm_is_sealed an_is_sealed cd_is_sealed ct_is_sealed), sl_is_sealed⟩)
    (k_is_sealed : PySem.W.codeIn K cd_is_sealed "is_sealed" = true)
    (p_is_sealed : PySem.W.keepIn K (.ref f_is_sealed) = true)
    (a_flipped : PySem.W.nsIn K mainGlobals "flipped" = some (some (.ref f_flipped)))
    (l_flipped : K.lookup f_flipped = some ⟨oc_flipped, od_flipped, .func (PySem.W.fnOf "flipped" "flipped" (defArgs s_flipped) (defBody s_flipped) (defScope s_flipped) .none kV_flipped dc_flipped pm_flipped an_flipped cd_flipped ct_flipped), sl_flipped⟩)
    (k_flipped : PySem.W.codeIn K cd_flipped "flipped" = true)
    (p_flipped : PySem.W.keepIn K (.ref f_flipped) = true)
    (a_law_begin : PySem.W.nsIn K mainGlobals "_law_begin" = some (some (.ref f_law_begin)))
    (l_law_begin : K.lookup f_law_begin = some ⟨oc_law_begin, od_law_begin, .func (PySem.W.fnOf "_law_begin" "_law_begin" (defArgs s_law_begin) (defBody s_law_begin) (defScope s_law_begin) .none kV_law_begin dc_law_begin pm_law_begin an_law_begin cd_law_begin ct_law_begin), sl_law_begin⟩)
    (k_law_begin : PySem.W.codeIn K cd_law_begin "_law_begin" = true)
    (p_law_begin : PySem.W.keepIn K (.ref f_law_begin) = true)
    (a_law_take : PySem.W.nsIn K mainGlobals "_law_take" = some (some (.ref f_law_take)))
    (l_law_take : K.lookup f_law_take = some ⟨oc_law_take, od_law_take, .func (PySem.W.fnOf "_law_take" "_law_take" (defArgs s_law_take) (defBody s_law_take) (defScope s_law_take) .none kV_law_take dc_law_take pm_law_take an_law_take cd_law_take ct_law_take), sl_law_take⟩)
    (k_law_take : PySem.W.codeIn K cd_law_take "_law_take" = true)
    (p_law_take : PySem.W.keepIn K (.ref f_law_take) = true)
    (a_law_pick : PySem.W.nsIn K mainGlobals "_law_pick" = some (some (.ref f_law_pick)))
    (l_law_pick : K.lookup f_law_pick = some ⟨oc_law_pick, od_law_pick, .func (PySem.W.fnOf "_law_pick" "_law_pick" (defArgs s_law_pick) (defBody s_law_pick) (defScope s_law_pick) .none kV_law_pick dc_law_pick pm_law_pick an_law_pick cd_law_pick ct_law_pick), sl_law_pick⟩)
    (k_law_pick : PySem.W.codeIn K cd_law_pick "_law_pick" = true)
    (p_law_pick : PySem.W.keepIn K (.ref f_law_pick) = true)
    (a_law_octets : PySem.W.nsIn K mainGlobals "_law_octets" = some (some (.ref f_law_octets)))
    (l_law_octets : K.lookup f_law_octets = some ⟨oc_law_octets, od_law_octets, .func (PySem.W.fnOf "_law_octets" "_law_octets" (defArgs s_law_octets) (defBody s_law_octets) (defScope s_law_octets) .none kV_law_octets dc_law_octets pm_law_octets an_law_octets cd_law_octets ct_law_octets), sl_law_octets⟩)
    (k_law_octets : PySem.W.codeIn K cd_law_octets "_law_octets" = true)
    (p_law_octets : PySem.W.keepIn K (.ref f_law_octets) = true)
    (a_law_bits : PySem.W.nsIn K mainGlobals "_law_bits" = some (some (.ref f_law_bits)))
    (l_law_bits : K.lookup f_law_bits = some ⟨oc_law_bits, od_law_bits, .func (PySem.W.fnOf "_law_bits" "_law_bits" (defArgs s_law_bits) (defBody s_law_bits) (defScope s_law_bits) .none kV_law_bits dc_law_bits pm_law_bits an_law_bits cd_law_bits ct_law_bits), sl_law_bits⟩)
    (k_law_bits : PySem.W.codeIn K cd_law_bits "_law_bits" = true)
    (p_law_bits : PySem.W.keepIn K (.ref f_law_bits) = true)
    (a_law_check : PySem.W.nsIn K mainGlobals "_law_check" = some (some (.ref f_law_check)))
    (l_law_check : K.lookup f_law_check = some ⟨oc_law_check, od_law_check, .func (PySem.W.fnOf "_law_check" "_law_check" (defArgs s_law_check) (defBody s_law_check) (defScope s_law_check) .none kV_law_check dc_law_check pm_law_check an_law_check cd_law_check ct_law_check), sl_law_check⟩)
    (k_law_check : PySem.W.codeIn K cd_law_check "_law_check" = true)
    (p_law_check : PySem.W.keepIn K (.ref f_law_check) = true)
    (a_law_sum : PySem.W.nsIn K mainGlobals "_law_sum" = some (some (.ref f_law_sum)))
    (l_law_sum : K.lookup f_law_sum = some ⟨oc_law_sum, od_law_sum, .func (PySem.W.fnOf "_law_sum" "_law_sum" (defArgs s_law_sum) (defBody s_law_sum) (defScope s_law_sum) .none kV_law_sum dc_law_sum pm_law_sum an_law_sum cd_law_sum ct_law_sum), sl_law_sum⟩)
    (k_law_sum : PySem.W.codeIn K cd_law_sum "_law_sum" = true)
    (p_law_sum : PySem.W.keepIn K (.ref f_law_sum) = true)
    (a_law : PySem.W.nsIn K mainGlobals "law" = some (some (.ref f_law)))
    (l_law : K.lookup f_law = some ⟨oc_law, od_law, .func (PySem.W.fnOf "law" "law" (defArgs s_law) (defBody s_law) (defScope s_law) .none kV_law dc_law pm_law an_law cd_law ct_law), sl_law⟩)
    (k_law : PySem.W.codeIn K cd_law "law" = true)
    (p_law : PySem.W.keepIn K (.ref f_law) = true)
    (z_range : PySem.W.nsIn K mainGlobals "range" = some none)
    (z_len : PySem.W.nsIn K mainGlobals "len" = some none)
    (z_tuple : PySem.W.nsIn K mainGlobals "tuple" = some none)
    (z_list : PySem.W.nsIn K mainGlobals "list" = some none)
    (z_int : PySem.W.nsIn K mainGlobals "int" = some none)
    (z_abs : PySem.W.nsIn K mainGlobals "abs" = some none)
    (gv_MOST : PySem.W.nsIn K mainGlobals "MOST" = some (some (.int 65536 v_MOST))) :
    ∃ fd : FuncData, (∀ (s : Shared) (v : Value), BindsTo s fd ⟨[v], []⟩ [("script", v)]) ∧ ∀ base : Heap, K.In base → base.Ns mainGlobals mg → FnOk l.prog w K mg base CX0 4 fa fd ["script"] (spLaw K) := by
  have e := hfa.symm.trans (PySem.W.mg_of X G a_law)
  cases e
  have F_two_octets := fun_mk (st := s_two_octets) l_two_octets k_two_octets p_two_octets
  have b_two_octets := F_two_octets.binds (ps := ["n"]) fun _ _ _ _ _ _ us hl => match us, hl with | [_], _ => rfl
  have F_number_of := fun_mk (st := s_number_of) l_number_of k_number_of p_number_of
  have b_number_of := F_number_of.binds (ps := ["octets"]) fun _ _ _ _ _ _ us hl => match us, hl with | [_], _ => rfl
  have F_check16 := fun_mk (st := s_check16) l_check16 k_check16 p_check16
  have b_check16 := F_check16.binds (ps := ["octets"]) fun _ _ _ _ _ _ us hl => match us, hl with | [_], _ => rfl
  have F_sum16 := fun_mk (st := s_sum16) l_sum16 k_sum16 p_sum16
  have b_sum16 := F_sum16.binds (ps := ["octets"]) fun _ _ _ _ _ _ us hl => match us, hl with | [_], _ => rfl
  have F_sealed := fun_mk (st := s_sealed) l_sealed k_sealed p_sealed
  have b_sealed := F_sealed.binds (ps := ["octets"]) fun _ _ _ _ _ _ us hl => match us, hl with | [_], _ => rfl
  have F_is_sealed := fun_mk (st := s_is_sealed) l_is_sealed k_is_sealed p_is_sealed
  have b_is_sealed := F_is_sealed.binds (ps := ["octets"]) fun _ _ _ _ _ _ us hl => match us, hl with | [_], _ => rfl
  have F_flipped := fun_mk (st := s_flipped) l_flipped k_flipped p_flipped
  have b_flipped := F_flipped.binds (ps := ["octets", "places"]) fun _ _ _ _ _ _ us hl => match us, hl with | [_, _], _ => rfl
  have F_law_begin := fun_mk (st := s_law_begin) l_law_begin k_law_begin p_law_begin
  have b_law_begin := F_law_begin.binds (ps := ["script"]) fun _ _ _ _ _ _ us hl => match us, hl with | [_], _ => rfl
  have F_law_take := fun_mk (st := s_law_take) l_law_take k_law_take p_law_take
  have b_law_take := F_law_take.binds (ps := ["d", "many"]) fun _ _ _ _ _ _ us hl => match us, hl with | [_, _], _ => rfl
  have F_law_pick := fun_mk (st := s_law_pick) l_law_pick k_law_pick p_law_pick
  have b_law_pick := F_law_pick.binds (ps := ["d", "menu"]) fun _ _ _ _ _ _ us hl => match us, hl with | [_, _], _ => rfl
  have F_law_octets := fun_mk (st := s_law_octets) l_law_octets k_law_octets p_law_octets
  have b_law_octets := F_law_octets.binds (ps := ["d", "most"]) fun _ _ _ _ _ _ us hl => match us, hl with | [_, _], _ => rfl
  have F_law_bits := fun_mk (st := s_law_bits) l_law_bits k_law_bits p_law_bits
  have b_law_bits := F_law_bits.binds (ps := ["octets"]) fun _ _ _ _ _ _ us hl => match us, hl with | [_], _ => rfl
  have F_law_check := fun_mk (st := s_law_check) l_law_check k_law_check p_law_check
  have b_law_check := F_law_check.binds (ps := ["octets"]) fun _ _ _ _ _ _ us hl => match us, hl with | [_], _ => rfl
  have F_law_sum := fun_mk (st := s_law_sum) l_law_sum k_law_sum p_law_sum
  have b_law_sum := F_law_sum.binds (ps := ["octets"]) fun _ _ _ _ _ _ us hl => match us, hl with | [_], _ => rfl
  have F_law := fun_mk (st := s_law) l_law k_law p_law
  have b_law := F_law.binds (ps := ["script"]) fun _ _ _ _ _ _ us hl => match us, hl with | [_], _ => rfl
  have T : Txt K mg ⟨f_two_octets, PySem.W.fnOf "two_octets" "two_octets" (defArgs s_two_octets) (defBody s_two_octets) (defScope s_two_octets) .none kV_two_octets dc_two_octets pm_two_octets an_two_octets cd_two_octets ct_two_octets, f_number_of, PySem.W.fnOf "number_of" "number_of" (defArgs s_number_of) (defBody s_number_of) (defScope s_number_of) .none kV_number_of dc_number_of pm_number_of an_number_of cd_number_of ct_number_of, f_check16, PySem.W.fnOf "check16" "check16" (defArgs s_check16) (defBody s_check16) (defScope s_check16) .none kV_check16 dc_check16 pm_check16 an_check16 cd_check16 ct_check16, f_sum16, PySem.W.fnOf "sum16" "sum16" (defArgs s_sum16) (defBody s_sum16) (defScope s_sum16) .none kV_sum16 dc_sum16 pm_sum16 an_sum16 cd_sum16 ct_sum16, f_sealed, PySem.W.fnOf "sealed" "sealed" (defArgs s_sealed) (defBody s_sealed) (defScope s_sealed) .none kV_sealed dc_sealed pm_sealed an_sealed cd_sealed ct_sealed, f_is_sealed, PySem.W.fnOf "is_sealed" "is_sealed" (defArgs s_is_sealed) (defBody s_is_sealed) (defScope s_is_sealed) .none kV_is_sealed dc_is_sealed pm_is_sealed an_is_sealed cd_is_sealed ct_is_sealed, f_flipped, PySem.W.fnOf "flipped" "flipped" (defArgs s_flipped) (defBody s_flipped) (defScope s_flipped) .none kV_flipped dc_flipped pm_flipped an_flipped cd_flipped ct_flipped, f_law_begin, PySem.W.fnOf "_law_begin" "_law_begin" (defArgs s_law_begin) (defBody s_law_begin) (defScope s_law_begin) .none kV_law_begin dc_law_begin pm_law_begin an_law_begin cd_law_begin ct_law_begin, f_law_take, PySem.W.fnOf "_law_take" "_law_take" (defArgs s_law_take) (defBody s_law_take) (defScope s_law_take) .none kV_law_take dc_law_take pm_law_take an_law_take cd_law_take ct_law_take, f_law_pick, PySem.W.fnOf "_law_pick" "_law_pick" (defArgs s_law_pick) (defBody s_law_pick) (defScope s_law_pick) .none kV_law_pick dc_law_pick pm_law_pick an_law_pick cd_law_pick ct_law_pick, f_law_octets, PySem.W.fnOf "_law_octets" "_law_octets" (defArgs s_law_octets) (defBody s_law_octets) (defScope s_law_octets) .none kV_law_octets dc_law_octets pm_law_octets an_law_octets cd_law_octets ct_law_octets, f_law_bits, PySem.W.fnOf "_law_bits" "_law_bits" (defArgs s_law_bits) (defBody s_law_bits) (defScope s_law_bits) .none kV_law_bits dc_law_bits pm_law_bits an_law_bits cd_law_bits ct_law_bits, f_law_check, PySem.W.fnOf "_law_check" "_law_check" (defArgs s_law_check) (defBody s_law_check) (defScope s_law_check) .none kV_law_check dc_law_check pm_law_check an_law_check cd_law_check ct_law_check, f_law_sum, PySem.W.fnOf "_law_sum" "_law_sum" (defArgs s_law_sum) (defBody s_law_sum) (defScope s_law_sum) .none kV_law_sum dc_law_sum pm_law_sum an_law_sum cd_law_sum ct_law_sum, fa, PySem.W.fnOf "law" "law" (defArgs s_law) (defBody s_law) (defScope s_law) .none kV_law dc_law pm_law an_law cd_law ct_law⟩ := ⟨⟨F_two_octets, PySem.W.mg_of X G a_two_octets, p_two_octets, b_two_octets⟩, ⟨F_number_of, PySem.W.mg_of X G a_number_of, p_number_of, b_number_of⟩, ⟨F_check16, PySem.W.mg_of X G a_check16, p_check16, b_check16⟩, ⟨F_sum16, PySem.W.mg_of X G a_sum16, p_sum16, b_sum16⟩, ⟨F_sealed, PySem.W.mg_of X G a_sealed, p_sealed, b_sealed⟩, ⟨F_is_sealed, PySem.W.mg_of X G a_is_sealed, p_is_sealed, b_is_sealed⟩, ⟨F_flipped, PySem.W.mg_of X G a_flipped, p_flipped, b_flipped⟩, ⟨F_law_begin, PySem.W.mg_of X G a_law_begin, p_law_begin, b_law_begin⟩, ⟨F_law_take, PySem.W.mg_of X G a_law_take, p_law_take, b_law_take⟩, ⟨F_law_pick, PySem.W.mg_of X G a_law_pick, p_law_pick, b_law_pick⟩, ⟨F_law_octets, PySem.W.mg_of X G a_law_octets, p_law_octets, b_law_octets⟩, ⟨F_law_bits, PySem.W.mg_of X G a_law_bits, p_law_bits, b_law_bits⟩, ⟨F_law_check, PySem.W.mg_of X G a_law_check, p_law_check, b_law_check⟩, ⟨F_law_sum, PySem.W.mg_of X G a_law_sum, p_law_sum, b_law_sum⟩, ⟨F_law, PySem.W.mg_of X G a_law, p_law, b_law⟩, PySem.W.mg_none_of X G z_range, PySem.W.mg_none_of X G z_len, PySem.W.mg_none_of X G z_tuple, PySem.W.mg_none_of X G z_list, PySem.W.mg_none_of X G z_int, PySem.W.mg_none_of X G z_abs, ⟨_, PySem.W.mg_of X G gv_MOST, ⟨_, rfl⟩⟩⟩
  exact ⟨_, fun s v => .of_eq rfl, fun base _ _ => ok_law T⟩
theorem walk {l : PySem.W.OpenLaw} {q : Program} {loose : List Str} {XP : (Str → Option Value) → Heap → Prop} {YP : World → Heap → Prop} {d : DefRec} {K : Params → PySem.W.Frag} (hn : l.most = some 63) (hdf : d.params.defaults = [])
    (hY : ∀ (w : World) (h : Heap), YP w h → (K w.params).In h)
    (F : ∀ (w : World) (mg : Str → Option Value) (fa : Addr) (h : Heap), (K w.params).In h → h.Ns mainGlobals mg → mg d.name = some (.ref fa) →
      ∃ fd : FuncData, (∀ (s : Shared) (u : Value), BindsTo s fd ⟨[u], []⟩ [("script", u)]) ∧ ∀ base : Heap, (K w.params).In base → base.Ns mainGlobals mg → FnOk l.prog w (K w.params) mg base CX0 4 fa fd ["script"] (spLaw (K w.params))) :
    PySem.W.WalkO q loose XP YP l.row.toRowW d [] (fun f vs => PySem.call f vs) :=
  L2.walk_of (n := 63) (k := 4) (x := "script") (CX := fun _ => CX0) (sp := fun w => spLaw (K w.params)) hn (by decide) hdf ⟨rfl, by decide, by decide⟩ hY F (fun _ _ a ns hl _ hS => ⟨a, ns, rfl, hS, hl, fun _ => rfl⟩) fun _ _ _ _ _ z => z
end Eo01
open PySem PySem.W PyProof.Rows
set_option maxRecDepth 100000 in
set_option maxHeartbeats 0 in
theorem PySem.Challenge.cw_everyoctetonce_k01_octets_and_checks_holds : PySem.Challenge.rw_everyoctetonce_k01_octets_and_checks.Holds := by
  w_on; o_law; k_head; (case hw => w_witness2)
  k_fill
  refine Eo01.walk (l := PySem.Challenge.rw_everyoctetonce_k01_octets_and_checks) rfl rfl (fun w h Y => PySem.W.kIn_of Y) ?F
  case F =>
    intro w mg fa h KX G hmg
    refine' Eo01.all_mk KX G hmg ?a_two_octets ?l_two_octets ?k_two_octets ?p_two_octets ?a_number_of ?l_number_of ?k_number_of ?p_number_of ?a_check16 ?l_check16 ?k_check16 ?p_check16 ?a_sum16 ?l_sum16 ?k_sum16 ?p_sum16 ?a_sealed ?l_sealed ?k_sealed ?p_sealed ?a_is_sealed ?l_is_sealed ?k_is_sealed ?p_is_sealed ?a_flipped ?l_flipped ?k_flipped ?p_flipped ?a_law_begin ?l_law_begin ?k_law_begin ?p_law_begin ?a_law_take ?l_law_take ?k_law_take ?p_law_take ?a_law_pick ?l_law_pick ?k_law_pick ?p_law_pick ?a_law_octets ?l_law_octets ?k_law_octets ?p_law_octets ?a_law_bits ?l_law_bits ?k_law_bits ?p_law_bits ?a_law_check ?l_law_check ?k_law_check ?p_law_check ?a_law_sum ?l_law_sum ?k_law_sum ?p_law_sum ?a_law ?l_law ?k_law ?p_law ?z_range ?z_len ?z_tuple ?z_list ?z_int ?z_abs ?gv_MOST
    (case a_two_octets => k_is)
    (case l_two_octets => k_is)
    (case k_two_octets => k_is)
    (case p_two_octets => k_is)
    (case a_number_of => k_is)
    (case l_number_of => k_is)
    (case k_number_of => k_is)
    (case p_number_of => k_is)
    (case a_check16 => k_is)
    (case l_check16 => k_is)
    (case k_check16 => k_is)
    (case p_check16 => k_is)
    (case a_sum16 => k_is)
    (case l_sum16 => k_is)
    (case k_sum16 => k_is)
    (case p_sum16 => k_is)
    (case a_sealed => k_is)
    (case l_sealed => k_is)
    (case k_sealed => k_is)
    (case p_sealed => k_is)
    (case a_is_sealed => k_is)
    (case l_is_sealed => k_is)
    (case k_is_sealed => k_is)
    (case p_is_sealed => k_is)
    (case a_flipped => k_is)
    (case l_flipped => k_is)
    (case k_flipped => k_is)
    (case p_flipped => k_is)
    (case a_law_begin => k_is)
    (case l_law_begin => k_is)
    (case k_law_begin => k_is)
    (case p_law_begin => k_is)
    (case a_law_take => k_is)
    (case l_law_take => k_is)
    (case k_law_take => k_is)
    (case p_law_take => k_is)
    (case a_law_pick => k_is)
    (case l_law_pick => k_is)
    (case k_law_pick => k_is)
    (case p_law_pick => k_is)
    (case a_law_octets => k_is)
    (case l_law_octets => k_is)
    (case k_law_octets => k_is)
    (case p_law_octets => k_is)
    (case a_law_bits => k_is)
    (case l_law_bits => k_is)
    (case k_law_bits => k_is)
    (case p_law_bits => k_is)
    (case a_law_check => k_is)
    (case l_law_check => k_is)
    (case k_law_check => k_is)
    (case p_law_check => k_is)
    (case a_law_sum => k_is)
    (case l_law_sum => k_is)
    (case k_law_sum => k_is)
    (case p_law_sum => k_is)
    (case a_law => k_is)
    (case l_law => k_is)
    (case k_law => k_is)
    (case p_law => k_is)
    (case z_range => k_is)
    (case z_len => k_is)
    (case z_tuple => k_is)
    (case z_list => k_is)
    (case z_int => k_is)
    (case z_abs => k_is)
    (case gv_MOST => k_is)
#print axioms PySem.Challenge.cw_everyoctetonce_k01_octets_and_checks_holds

