import PyProof.Rows.All
import Wide.All
import OpenK.AllK
import Wide.FinOn
import HandS.ForMost
import HandS.Wide
import HandS.Walk
import HandS.TupAny
import HandS.SetKeys
import HandS.Style
import PySem.Challenge.RW_everyoctetonce_k08_queues
set_option Elab.async false
set_option linter.all false
set_option maxRecDepth 100000
set_option maxHeartbeats 8000000
set_option pp.maxSteps 250
namespace Eo08
open PySem L2
/-! ### frames -/
def Imm : HO → Bool
  | .tup _ => true
  | .frz _ (.tup _) => true
  | _ => false
/-- all that stood stands, but at the addresses of A; what never changes stands anyway -/
structure Ext (A : List Addr) (H H' : Hp) : Prop where
  keep : ∀ b o, H b = some o → b ∉ A → H' b = some o
  imm : ∀ b o, H b = some o → Imm o = true → H' b = some o
theorem Ext.refl {A : List Addr} (H : Hp) : Ext A H H := ⟨fun _ _ h _ => h, fun _ _ h _ => h⟩
theorem Ext.trans {A B C : List Addr} {H H1 H2 : Hp} (e : Ext A H H1) (f : Ext B H1 H2) (hA : ∀ x ∈ A, x ∈ C) (hB : ∀ x ∈ B, (∃ o, H x = some o) → x ∈ C) : Ext C H H2 :=
  ⟨fun b o h n => f.keep b o (e.keep b o h fun z => n (hA b z)) fun z => n (hB b z ⟨o, h⟩), fun b o h i => f.imm b o (e.imm b o h i) i⟩
theorem Ext.mono {A B : List Addr} {H H1 : Hp} (e : Ext A H H1) (h : ∀ x ∈ A, x ∈ B) : Ext B H H1 := ⟨fun b o q n => e.keep b o q fun z => n (h b z), e.imm⟩
theorem Ext.new {H : Hp} {p : Addr} {o : HO} (h : H p = none) : Ext [] H (upd H p o) :=
  ⟨fun b u e _ => by rw [upd_ne (ne_of_none e h)]; exact e, fun b u e _ => by rw [upd_ne (ne_of_none e h)]; exact e⟩
theorem Ext.wr {H : Hp} {p : Addr} {o u : HO} (h : H p = some o) (n : Imm o = false) : Ext [p] H (upd H p u) :=
  ⟨fun b v e z => by rw [upd_ne (fun q => z (by rw [q]; exact List.mem_singleton.mpr rfl))]; exact e, fun b v e i => by
    rw [upd_ne (fun q => by subst q; rw [h] at e; cases e; rw [n] at i; cases i)]; exact e⟩
theorem Ext.free {A : List Addr} {H H' : Hp} {p : Addr} (e : Ext A H H') (h : H' p = none) (n : p ∉ A) : H p = none := by
  cases q : H p with
  | none => rfl
  | some o => rw [e.keep p o q n] at h; cases h
theorem Ext.snoc {A C : List Addr} {H H1 H2 : Hp} (f : Ext A H1 H2) (e : Ext C H H1) (hA : ∀ x ∈ A, (∃ o, H x = some o) → x ∈ C) : Ext C H H2 := e.trans f (fun _ h => h) hA
theorem sub0 {H : Hp} {C : List Addr} : ∀ x ∈ ([] : List Addr), (∃ o, H x = some o) → x ∈ C := fun _ h => by cases h
theorem sub1 {H : Hp} {C : List Addr} {a : Addr} (m : a ∈ C) : ∀ x ∈ [a], (∃ o, H x = some o) → x ∈ C := fun x h _ => by rw [List.mem_singleton.mp h]; exact m
theorem sub1f {H : Hp} {C : List Addr} {a : Addr} (m : H a = none) : ∀ x ∈ [a], (∃ o, H x = some o) → x ∈ C := fun x h ⟨o, e⟩ => by rw [List.mem_singleton.mp h, m] at e; cases e
theorem subC {H : Hp} {C A : List Addr} {a : Addr} (m : a ∈ C) (r : ∀ x ∈ A, (∃ o, H x = some o) → x ∈ C) : ∀ x ∈ a :: A, (∃ o, H x = some o) → x ∈ C := fun x h z => by
  rcases List.mem_cons.mp h with q | q
  · rw [q]; exact m
  · exact r x q z
theorem subCf {H : Hp} {C A : List Addr} {a : Addr} (m : H a = none) (r : ∀ x ∈ A, (∃ o, H x = some o) → x ∈ C) : ∀ x ∈ a :: A, (∃ o, H x = some o) → x ∈ C := fun x h z => by
  rcases List.mem_cons.mp h with q | q
  · obtain ⟨o, e⟩ := z
    rw [q, m] at e; cases e
  · exact r x q z
theorem nin0 {b : Addr} : b ∉ ([] : List Addr) := List.not_mem_nil
theorem nin1 {b x : Addr} (h : b ≠ x) : b ∉ [x] := fun z => h (List.mem_singleton.mp z)
theorem ninC {b x : Addr} {A : List Addr} (h : b ≠ x) (g : b ∉ A) : b ∉ (x :: A) := fun z => (List.mem_cons.mp z).elim h g
theorem Rd.ext {A : List Addr} {H H' : Hp} {a : Addr} {u : HO} (e : Ext A H H') (h : Rd H a u) (n : a ∉ A) : Rd H' a u := by
  rcases h with h | ⟨o, h⟩
  · exact .inl (e.keep _ _ h n)
  · exact .inr ⟨o, e.keep _ _ h n⟩
theorem sqT_ext {K : PySem.W.Frag} {A : List Addr} {H H' : Hp} {a : Addr} {xs : List V} (e : Ext A H H') (h : SqT K H a xs) : SqT K H' a xs := by
  rcases h with (h | ⟨o, h⟩) | h
  · exact .inl (.inl (e.imm _ _ h rfl))
  · exact .inl (.inr ⟨o, e.imm _ _ h rfl⟩)
  · exact .inr h
theorem sqL_ext {K : PySem.W.Frag} {A : List Addr} {H H' : Hp} {a : Addr} {xs : List V} (e : Ext A H H') (h : SqL K H a xs) (n : ∀ o, H a = some o → a ∉ A) : SqL K H' a xs := by
  rcases h with (h | ⟨o, h⟩) | h
  · exact .inl (.inl (e.keep _ _ h (n _ h)))
  · exact .inl (.inr ⟨o, e.keep _ _ h (n _ h)⟩)
  · exact .inr h
theorem sqT_cast {K : PySem.W.Frag} {H : Hp} {a : Addr} {xs ys : List V} (h : SqT K H a xs) (e : xs = ys) : SqT K H a ys := e ▸ h
theorem sqL_ext0 {K : PySem.W.Frag} {H H' : Hp} {a : Addr} {xs : List V} (e : Ext [] H H') (h : SqL K H a xs) : SqL K H' a xs := sqL_ext e h fun _ _ => nin0
/-- a new object o, its place any free one -/
def NewO (H : Hp) (o : HO) (R : Addr → Hp → Prop) : Prop := ∀ p H', H p = none → Ext [] H H' → H' p = some o → R p H'
theorem NewO.raw {H : Hp} {o : HO} {R : Addr → Hp → Prop} (h : NewO H o R) : ∀ p, H p = none → R p (upd H p o) := fun p hp => h p _ hp (Ext.new hp) upd_same
/-- a reading's end, weakened -/
def stA (t : TA) : TA := fun σ H Q => ∃ R : List V → Hp → Prop, t σ H R ∧ ∀ xs H', R xs H' → Q xs H'
def stE (t : TE) : TE := fun σ H Q => ∃ R : V → Hp → Prop, t σ H R ∧ ∀ x H', R x H' → Q x H'
theorem PA.star {X : Cx} {es : List Expr} {t : TA} (h : PA X es t) : PA X es (stA t) := by
  constructor
  rintro pos pn st sl hp R J ⟨R1, a, b⟩
  apply thn (h.run pos pn st sl hp R1 J a)
  rintro us s1 ⟨vs, H1, J1, rv, q⟩
  exact ⟨vs, H1, J1, rv, b _ _ q⟩
theorem PE.star {X : Cx} {e : Expr} {t : TE} (h : PE X e t) : PE X e (stE t) := by
  constructor
  rintro pn st sl hp R J ⟨R1, a, b⟩
  apply thn (h.run pn st sl hp R1 J a)
  rintro u s1 ⟨v, H1, J1, rv, q⟩
  exact ⟨v, H1, J1, rv, b _ _ q⟩
def stG (g : TG) : TG := fun v σ H Q => ∃ R : L2.St → Hp → Prop, g v σ H R ∧ ∀ a b, R a b → Q a b
def stT (t : TT) : TT := fun σ H Q => ∃ R : Bool → Hp → Prop, t σ H R ∧ ∀ a b, R a b → Q a b
theorem PG.star {X : Cx} {e : Expr} {g : TG} (h : PG X e g) : PG X e (stG g) := by
  constructor
  rintro pn st sl hp v u Q J rv ⟨R, a, b⟩
  apply thn (h.run pn st sl hp v u R J rv a)
  rintro _ s1 ⟨sl1, H1, J1, q⟩
  exact ⟨sl1, H1, J1, b _ _ q⟩
theorem PTs.star {X : Cx} {ifs : List Expr} {t : TT} (h : PTs X ifs t) : PTs X ifs (stT t) := by
  constructor
  rintro pn st sl hp Q J ⟨R, a, b⟩
  apply thn (h.run pn st sl hp R J a)
  rintro c s1 ⟨H1, J1, q⟩
  exact ⟨H1, J1, b _ _ q⟩
theorem stE.mono {t : TE} {σ : L2.St} {H : Hp} {Q R : V → Hp → Prop} (h : stE t σ H Q) (w : ∀ a b, Q a b → R a b) : stE t σ H R := let ⟨S, a, b⟩ := h; ⟨S, a, fun x y z => w _ _ (b x y z)⟩
theorem stG.mono {t : TG} {v : V} {σ : L2.St} {H : Hp} {Q R : L2.St → Hp → Prop} (h : stG t v σ H Q) (w : ∀ a b, Q a b → R a b) : stG t v σ H R := let ⟨S, a, b⟩ := h; ⟨S, a, fun x y z => w _ _ (b x y z)⟩
theorem stT.mono {t : TT} {σ : L2.St} {H : Hp} {Q R : Bool → Hp → Prop} (h : stT t σ H Q) (w : ∀ a b, Q a b → R a b) : stT t σ H R := let ⟨S, a, b⟩ := h; ⟨S, a, fun x y z => w _ _ (b x y z)⟩
/-- what a loop over J asks; what a list comprehension over J asks -/
def ForGoal (J : It) (g : TG) (tb : TS) (D : Ends) (σ : L2.St) (H : Hp) : Prop := ∃ W : Nat → Nat → L2.St → Hp → Prop, (∃ m, W 0 m σ H) ∧ ∀ i m σ H, W i m σ H →
  (J.stop i H ∧ D.nx σ H) ∨ (J.go i H ∧ ∃ N : L2.St → Hp → Prop, (∀ σ' H', N σ' H' → ∃ m', m' < m ∧ W (i + 1) m' σ' H') ∧ ∀ x H', J.yld i H x H' → g x σ H' fun σ2 H2 => tb { D with nx := N, ct := N, bk := D.nx } σ2 H2)
def LcGoal (J : It) (g : TG) (tt : TT) (te : TE) (vs : List Nat) (σ : L2.St) (H1 : Hp) (Q : VK) : Prop := ∀ D, H1 D = none → ∃ W : Nat → Nat → Hp → Prop, (∃ m, W 0 m (upd H1 D (.lst []))) ∧ ∀ i m H, W i m H →
  (J.stop i H ∧ Q (.ref D) H) ∨ (J.go i H ∧ ∃ Nx : Hp → Prop, (∀ H', Nx H' → ∃ m', m' < m ∧ W (i + 1) m' H') ∧ ∀ x H', J.yld i H x H' → g x (wipe σ vs) H' fun σ2 H2 => wipe σ2 vs = wipe σ vs ∧ tt σ2 H2 fun b H3 =>
    if b = true then te σ2 H3 fun y H4 => ∃ acc, H4 D = some (.lst acc) ∧ acc.length < sizeLine ∧ Nx (upd H4 D (.lst (acc ++ [y]))) else Nx H3)
theorem g_forW {J : It} {n : Nat} {G : Hp → Prop} {Y : Nat → Hp → V → Hp → Prop} (w : Walk J n G Y) {g : TG} {tb : TS} {D : Ends} {σ : L2.St} {H : Hp} (Pv : Nat → L2.St → Hp → Prop) (h0 : Pv 0 σ H) (hG : ∀ i σ H, i ≤ n → Pv i σ H → G H)
    (hs : ∀ i x σ H H', i < n → Pv i σ H → Y i H x H' → g x σ H' fun σ2 H2 => tb { D with nx := Pv (i + 1), ct := Pv (i + 1), bk := D.nx } σ2 H2) (hd : ∀ σ H, Pv n σ H → D.nx σ H) : ForGoal J g tb D σ H := for_it w Pv h0 hG hs hd
theorem g_lcW {J : It} {n : Nat} {G : Hp → Prop} {Y : Nat → Hp → V → Hp → Prop} (w : Walk J n G Y) {g : TG} {tt : TT} {te : TE} {vs : List Nat} {σ : L2.St} {H1 : Hp} {Q : VK} (Pv : Addr → Nat → Hp → List V → Prop)
    (h0 : ∀ D H', H1 D = none → Ext [] H1 H' → H' D = some (.lst []) → Pv D 0 H' []) (hG : ∀ D i H acc, i ≤ n → Pv D i H acc → G H)
    (hs : ∀ D i x H H' acc, i < n → Pv D i H acc → H D = some (.lst acc) → Y i H x H' → stG g x (wipe σ vs) H' fun σ2 H2 => wipe σ2 vs = wipe σ vs ∧ stT tt σ2 H2 fun b H3 =>
      if b = true then stE te σ2 H3 fun y H4 => H4 D = some (.lst acc) ∧ acc.length < sizeLine ∧ ∀ H5, Ext [D] H4 H5 → H5 D = some (.lst (acc ++ [y])) → Pv D (i + 1) H5 (acc ++ [y]) else Pv D (i + 1) H3 acc ∧ H3 D = some (.lst acc))
    (hd : ∀ D H acc, Pv D n H acc → H D = some (.lst acc) → Q (.ref D) H) : LcGoal J (stG g) (stT tt) (stE te) vs σ H1 Q := by
  intro D hD
  apply lc_it w (fun i H => ∃ acc, Pv D i H acc ∧ H D = some (.lst acc))
  · exact ⟨[], h0 D _ hD (Ext.new hD) upd_same, upd_same⟩
  · rintro i H hi ⟨acc, p, _⟩
    exact hG D i H acc hi p
  · rintro i x H H' hi ⟨acc, p, e⟩ y
    refine (hs D i x H H' acc hi p e y).mono fun σ2 H2 ⟨q1, q2⟩ => ⟨q1, q2.mono fun b H3 q3 => ?_⟩
    cases b with
    | true => exact stE.mono q3 fun z H4 ⟨a1, a2, a3⟩ => ⟨acc, a1, a2, acc ++ [z], a3 _ (Ext.wr a1 rfl) upd_same, upd_same⟩
    | false => exact ⟨acc, q3.1, q3.2⟩
  · rintro H ⟨acc, p, e⟩
    exact hd D H acc p e
theorem PE.weak {X : Cx} {e : Expr} {t t' : TE} (h : PE X e t) (w : ∀ σ H Q, t' σ H Q → t σ H Q) : PE X e t' := ⟨fun pn st sl hp R J a => h.run pn st sl hp R J (w _ _ _ a)⟩
theorem PS.weak {X : Cx} {e : Stmt} {t t' : TS} (h : PS X e t) (w : ∀ D σ H, t' D σ H → t D σ H) : PS X e t' := ⟨fun pn st sl hp R J a => h.run pn st sl hp R J (w _ _ _ a)⟩
/-- a statement that ends in J, whence the rest goes on -/
def tJoin (t u : TS) : TS := fun D σ H => ∃ J : L2.St → Hp → Prop, t { D with nx := J } σ H ∧ ∀ σ' H', J σ' H' → u D σ' H'
theorem pss_join {X : Cx} {st : Stmt} {rest : List Stmt} {t u : TS} (h1 : PS X st t) (h2 : PSs X rest u) : PSs X (st :: rest) (tJoin t u) := by
  constructor
  rintro pn s0 sl hp D J ⟨R, a, b⟩
  apply wpAny_execs_cons
  apply thn (h1.run pn s0 sl hp { D with nx := R } J a)
  intro f s1 q
  cases f with
  | next =>
    obtain ⟨sl2, hp2, J2, r⟩ := q
    exact h2.run pn s1 sl2 hp2 D J2 (b _ _ r)
  | ret v => exact q
  | brk => exact q
  | cont => exact q
/-! ### facts of the top -/
structure GF (K : PySem.W.Frag) (mg : Str → Option Value) (x : Str) (st : Stmt) (ps : List Str) (f : Addr) (fd : FuncData) : Prop where
  F : Fun K x x st f fd
  mg : mg x = some (.ref f)
  kp : PySem.W.keepIn K (.ref f) = true
  b : Binds K fd ps []
structure MF (K : PySem.W.Frag) (x q : Str) (st : Stmt) (ps : List Str) (C f : Addr) (fd : FuncData) : Prop where
  F : Fun K x q st f fd
  me : Meth K C x f
  b : Binds K fd ps []
def NA (K : PySem.W.Frag) (C : Addr) (ats : List Str) : Prop := ∀ x ∈ ats, NoAttr K C x
theorem na_of {K : PySem.W.Frag} {C : Addr} {ats : List Str} {f : Str} (h : NA K C ats) (m : f ∈ ats) : NoAttr K C f := h f m
structure CF (K : PySem.W.Frag) (mg : Str → Option Value) (x : Str) (ats : List Str) (C fi : Addr) : Prop where
  mg : mg x = some (.ref C)
  cl : Cls K C
  make : Mk K C fi
  na : NA K C ats
def GV (K : PySem.W.Frag) (mg : Str → Option Value) (x : Str) (v : V) : Prop := ∃ u, mg x = some u ∧ RelV v u
/-! ### rules that take several kinds of values -/
section
variable {X : Cx}
theorem pe_g {x : Str} {v : V} {pos : Pos} (hg : Gl X x) (h : GV X.K X.mg x v) (hd : (x == ("__debug__" : Str)) = false := by decide) : PE X (.Name x pos) (tC v) := by
  obtain ⟨u, h1, h2⟩ := h
  exact pe_glob hg h1 h2 hd
theorem OpR.or {f : Value → Value → Sem Value} {r r' : R2} (h : OpR X f r) (h' : OpR X f r') : OpR X f (fun x y H Q => r x y H Q ∨ r' x y H Q) := by
  intro pins s σ H x y v u Q I rx ry q
  rcases q with q | q
  · exact h pins s σ H x y v u Q I rx ry q
  · exact h' pins s σ H x y v u Q I rx ry q
/-- + of ints, texts, tuples, lists -/
def rAddX (K : PySem.W.Frag) : R2 := fun x y H Q => match x, y with
  | .int i, .int j => Q (.int (i + j)) H
  | .int i, .bl k => Q (.int (i + PyProof.Rows.b2i k)) H
  | .str i, .str j => i.length + j.length ≤ sizeLine ∧ Q (.str (i ++ j)) H
  | .ref a, .ref b => (∃ xs ys, SqT K H a xs ∧ SqT K H b ys ∧ xs.length + ys.length ≤ sizeLine ∧ ∀ c H', Ext [] H H' → SqT K H' c (xs ++ ys) → Q (.ref c) H') ∨
      ∃ xs ys, H a = some (.lst xs) ∧ H b = some (.lst ys) ∧ xs.length + ys.length ≤ sizeLine ∧ NewO H (.lst (xs ++ ys)) fun p H' => Q (.ref p) H'
  | _, _ => False
theorem o_add : OpR X (binaryOp .Add) (rAddX X.K) := by
  intro pins s σ H x y v u Q I rx ry h
  unfold rAddX at h
  split at h
  · exact op_add pins s σ H _ _ v u Q I rx ry ⟨_, _, rfl, rfl, h⟩
  · exact op_add_ib pins s σ H _ _ v u Q I rx ry ⟨_, _, rfl, rfl, h⟩
  · exact op_add_str pins s σ H _ _ v u Q I rx ry ⟨_, _, rfl, rfl, h.1, h.2⟩
  · rcases h with ⟨xs, ys, h1, h2, hz, q⟩ | ⟨xs, ys, h1, h2, hz, q⟩
    · refine op_catA pins s σ H _ _ v u Q I rx ry ⟨_, _, xs, ys, rfl, rfl, h1, h2, hz, fun e => ?_, fun _ e => ?_, fun _ _ p hp => ?_⟩
      · subst e; exact q _ _ (Ext.refl H) h2
      · subst e; exact q _ _ (Ext.refl H) (by rw [List.append_nil]; exact h1)
      · exact q _ _ (Ext.new hp) (SqT.of upd_same)
    · exact op_cat pins s σ H _ _ v u Q I rx ry ⟨_, _, xs, ys, rfl, rfl, h1, h2, hz, q.raw⟩
  · exact h.elim
/-- slices of tuples, lists, texts -/
def rSlX (K : PySem.W.Frag) : V → Option Int → Option Int → Hp → VK → Prop := fun x lo hi H Q => match x with
  | .ref a => (∃ xs, SqT K H a xs ∧ ∀ c H', Ext [] H H' → SqT K H' c (cutV xs lo hi) → Q (.ref c) H') ∨ ∃ xs, SqL K H a xs ∧ NewO H (.lst (cutV xs lo hi)) fun p H' => Q (.ref p) H'
  | .str z => z.length ≤ sizeLine ∧ Q (.str (cutS z lo hi)) H
  | _ => False
theorem cutV_whole {xs : List V} {lo hi : Option Int} (h : HT.sIx xs.length 0 lo = 0 ∧ HT.sIx xs.length xs.length hi = xs.length) : cutV xs lo hi = xs := by
  unfold cutV
  rw [h.1, h.2, List.drop_zero, Nat.sub_zero, List.take_length]
theorem o_sl : SlR X (rSlX X.K) := by
  intro pins s σ H x v vl vu lo hi sl Q I rx hs pl pu h
  unfold rSlX at h
  split at h
  · rcases h with ⟨xs, h1, q⟩ | ⟨xs, h1, q⟩
    · refine sl_tupA pins s σ H _ v vl vu lo hi sl Q I rx hs pl pu ⟨_, xs, rfl, h1, fun e => ?_, fun _ p hp => ?_⟩
      · exact q _ _ (Ext.refl H) (by rw [cutV_whole e]; exact h1)
      · exact q _ _ (Ext.new hp) (SqT.of upd_same)
    · exact sl_list pins s σ H _ v vl vu lo hi sl Q I rx hs pl pu ⟨_, xs, rfl, h1, q.raw⟩
  · exact sl_str pins s σ H _ v vl vu lo hi sl Q I rx hs pl pu ⟨_, rfl, h.1, h.2⟩
  · exact h.elim
theorem CMul.left {i j : Int} (h : -(2 ^ 64) < i ∧ i < 2 ^ 64) : CMul i j := .inl h
theorem CMul.right {i j : Int} (h : -(2 ^ 64) < j ∧ j < 2 ^ 64) : CMul i j := .inr h
def rMulX : R2 := fun x y H Q => match x, y with
  | .int i, .int j => CMul i j ∧ Q (.int (i * j)) H
  | _, _ => rRep x y H Q
theorem o_mul : OpR X (binaryOp .Mult) rMulX := by
  intro pins s σ H x y v u Q I rx ry h
  unfold rMulX at h
  split at h
  · exact op_mul pins s σ H _ _ v u Q I rx ry ⟨_, _, rfl, rfl, h.1, h.2⟩
  · exact op_rep pins s σ H _ _ v u Q I rx ry h
def rEqX (K : PySem.W.Frag) : R2 := fun x y H Q => rEq x y H Q ∨ rEqD K x y H Q
def rNeX (K : PySem.W.Frag) : R2 := fun x y H Q => rNe x y H Q ∨ rNeD K x y H Q
theorem o_eq (hu : X.A.units + 64 < cLine) : OpR X (compareOp .Eq) (rEqX X.K) := OpR.or op_eq (op_eqD hu)
theorem o_ne (hu : X.A.units + 64 < cLine) : OpR X (compareOp .NotEq) (rNeX X.K) := OpR.or op_ne (op_neD hu)
def rInt1 : List V → Hp → VK → Prop := fun xs H Q => match xs with
  | [.int i] => Q (.int i) H
  | [.bl k] => Q (.int (if k then 1 else 0)) H
  | _ => False
theorem o_int : CallR X (.type "int") rInt1 := by
  intro pins s σ H xs us Q I r h
  unfold rInt1 at h
  split at h
  · exact call_int1 pins s σ H _ us Q I r (.inl ⟨_, rfl, h⟩)
  · exact call_int1 pins s σ H _ us Q I r (.inr ⟨_, rfl, h⟩)
  · exact h.elim
def rMin2 : List V → Hp → VK → Prop := fun xs H Q => match xs with
  | [.int i, .int j] => Q (.int (min i j)) H
  | _ => False
def rMax2 : List V → Hp → VK → Prop := fun xs H Q => match xs with
  | [.int i, .int j] => Q (.int (max i j)) H
  | _ => False
theorem o_min (hc : X.calm = true) : CallR X (.builtin "min") rMin2 := by
  intro pins s σ H xs us Q I r h
  unfold rMin2 at h
  split at h
  · rename_i i j
    refine call_min2 hc pins s σ H _ us Q I r ⟨_, _, rfl, ?_⟩
    have e : (if j < i then j else i) = min i j := by split <;> omega
    rw [e]; exact h
  · exact h.elim
theorem o_max (hc : X.calm = true) : CallR X (.builtin "max") rMax2 := by
  intro pins s σ H xs us Q I r h
  unfold rMax2 at h
  split at h
  · rename_i i j
    refine call_max2 hc pins s σ H _ us Q I r ⟨_, _, rfl, ?_⟩
    have e : (if j > i then j else i) = max i j := by split <;> omega
    rw [e]; exact h
  · exact h.elim
def rAbs : List V → Hp → VK → Prop := fun xs H Q => match xs with
  | [.int i] => Q (.int (i.natAbs : Int)) H
  | _ => False
theorem o_abs : CallR X (.builtin "abs") rAbs := by
  intro pins s σ H xs us Q I r h
  unfold rAbs at h
  split at h
  · rename_i i
    refine call_abs pins s σ H _ us Q I r ⟨_, rfl, ?_⟩
    have e : (if i < 0 then -i else i) = (i.natAbs : Int) := by split <;> omega
    rw [e]; exact h
  · exact h.elim
def tTupX (t : TA) : TE := fun σ H Q => t σ H fun xs H1 => xs.length ≤ sizeLine ∧ NewO H1 (.tup xs) fun p H' => Q (.ref p) H'
def tLstX (t : TA) : TE := fun σ H Q => t σ H fun xs H1 => xs.length ≤ sizeLine ∧ NewO H1 (.lst xs) fun p H' => Q (.ref p) H'
theorem pe_tupX {es : List Expr} {t : TA} {k : Nat} {pos : Pos} (h : PA X es t) : PE X (.Tuple es k pos) (tTupX t) :=
  PE.weak (pe_tup (PA.star h)) fun _ _ _ q => ⟨_, q, fun _ _ ⟨l, n⟩ => ⟨l, n.raw⟩⟩
theorem pe_lstX {es : List Expr} {t : TA} {pos : Pos} (h : PA X es t) : PE X (.List es pos) (tLstX t) :=
  PE.weak (pe_lst (PA.star h)) fun _ _ _ q => ⟨_, q, fun _ _ ⟨l, n⟩ => ⟨l, n.raw⟩⟩
def rLenX (K : PySem.W.Frag) : List V → Hp → VK → Prop := fun xs H Q => match xs with
  | [.ref a] => (∃ ys, (SqL K H a ys ∨ SqT K H a ys) ∧ Q (.int ys.length) H) ∨ ∃ kvs, H a = some (.dK kvs) ∧ Q (.int kvs.length) H
  | [.str z] => z.length ≤ sizeLine ∧ Q (.int z.length) H
  | _ => False
theorem o_len : CallR X (.builtin "len") (rLenX X.K) := by
  intro pins s σ H xs us Q I r h
  unfold rLenX at h
  split at h
  · rcases h with ⟨ys, e, q⟩ | ⟨kvs, e, q⟩
    · exact call_len_seq pins s σ H _ us Q I r ⟨_, ys, rfl, e, q⟩
    · exact call_lenD pins s σ H _ us Q I r ⟨_, kvs, rfl, e, q⟩
  · exact call_len_str pins s σ H _ us Q I r ⟨_, rfl, h.1, h.2⟩
  · exact h.elim
def rListX (K : PySem.W.Frag) : List V → Hp → VK → Prop := fun xs H Q => match xs with
  | [.ref a] => ∃ ys, (SqL K H a ys ∨ SqT K H a ys) ∧ NewO H (.lst ys) fun p H' => Q (.ref p) H'
  | _ => False
theorem o_list : CallR X (.type "list") (rListX X.K) := by
  intro pins s σ H xs us Q I r h
  unfold rListX at h
  split at h
  · obtain ⟨ys, e, q⟩ := h
    exact call_list_of pins s σ H _ us Q I r ⟨_, ys, rfl, e, q.raw⟩
  · exact h.elim
def rTupX (K : PySem.W.Frag) : List V → Hp → VK → Prop := fun xs H Q => match xs with
  | [.ref a] => (∃ ys, SqL K H a ys ∧ NewO H (.tup ys) fun p H' => Q (.ref p) H') ∨ ∃ ys, SqT K H a ys ∧ Q (.ref a) H
  | _ => False
theorem o_tuple : CallR X (.type "tuple") (rTupX X.K) := by
  intro pins s σ H xs us Q I r h
  unfold rTupX at h
  split at h
  · rcases h with ⟨ys, e, q⟩ | ⟨ys, e, q⟩
    · exact call_tuple_of pins s σ H _ us Q I r ⟨_, ys, rfl, .inl ⟨e, q.raw⟩⟩
    · exact call_tuple_of pins s σ H _ us Q I r ⟨_, ys, rfl, .inr ⟨e, q⟩⟩
  · exact h.elim
theorem kkCallR {K : PySem.W.Frag} {v : Value} {r : PySem.W.Frag → List V → Hp → VK → Prop} (h : X.K = K) (c : CallR X v (r X.K)) : CallR X v (r K) := h ▸ c
theorem kkOpR {K : PySem.W.Frag} {f : Value → Value → Sem Value} {r : PySem.W.Frag → R2} (h : X.K = K) (c : OpR X f (r X.K)) : OpR X f (r K) := h ▸ c
theorem kkIxR {K : PySem.W.Frag} {r : PySem.W.Frag → R2} (h : X.K = K) (c : IxR X (r X.K)) : IxR X (r K) := h ▸ c
theorem kkSlR {K : PySem.W.Frag} {r : PySem.W.Frag → V → Option Int → Option Int → Hp → VK → Prop} (h : X.K = K) (c : SlR X (r X.K)) : SlR X (r K) := h ▸ c
theorem iop_catT : OpR X (inplaceOp .Add) (fun _ _ _ _ => False) := fun _ _ _ _ _ _ _ _ _ _ _ _ h => h.elim
def rIAddX : R2 := fun x y H Q => match x, y with
  | .int i, .int j => Q (.int (i + j)) H
  | .str i, .str j => i.length + j.length ≤ sizeLine ∧ Q (.str (i ++ j)) H
  | _, _ => False
theorem o_iadd : PIp X .Add rIAddX := by
  intro pins s σ H x y v u Q I rx ry h
  unfold rIAddX at h
  split at h
  · exact iop_add pins s σ H _ _ v u Q I rx ry ⟨_, _, rfl, rfl, h⟩
  · exact iop_add_str pins s σ H _ _ v u Q I rx ry ⟨_, _, rfl, rfl, h.1, h.2⟩
  · exact h.elim
theorem o_inadd : InOp X .Add rIAddX := fun pins s σ H x y u v Q I rx ry h => o_iadd pins s σ H x y u v Q I rx ry h
end
/-- C(..): as tMake, the new heap by what is known of it -/
def tMakeX (C : Addr) (sp : Sp) (dvs : List V) (E : XK) (t : TA) : TE := fun σ H Q => t σ H fun vs H1 => ∀ x dx H', H1 x = none → Ext [] H1 H' → H' x = some (.ins C dx []) →
  sp (.ref x :: (vs ++ dvs)) H' (fun v H2 => v = .non ∧ Q (.ref x) H2) E
theorem Ext.made {H : Hp} {x dx C : Addr} (h1 : H x = none) (h2 : H dx = none) : Ext [] H (upd (upd H dx (.own x)) x (.ins C dx [])) :=
  ⟨fun b o e _ => by rw [upd_ne (ne_of_none e h1), upd_ne (ne_of_none e h2)]; exact e, fun b o e _ => by rw [upd_ne (ne_of_none e h1), upd_ne (ne_of_none e h2)]; exact e⟩
section
variable {X : Cx} {CX : CXT} {k : Nat} {f C : Addr} {fd : FuncData} {ps : List Str} {sp : Sp} {dvs : List V} {ds : List Value} {E : XK} {x : Str} {p pos : Pos} {e : Expr} {es : List Expr} {t : TA}
theorem pe_makeX (M : Mk X.K C f) (F : FnOk X.prog X.w X.K X.mg X.base CX k f fd ps sp) (hr : Room (k + 1) X.A) (hg : Gl X x) (hm : X.mg x = some (.ref C)) (hb : Binds X.K fd ps ds) (hd : Vals dvs ds) (hx : Passes CX X E)
    (ha : PA X (e :: es) t) (hq : (x == ("__debug__" : Str)) = false := by decide) (he : starEach (e :: es) X.env = (false, eval e X.env) :: starEach es X.env := by rfl) (hl : (backTo pos (starEach es X.env)).any (·.1) = false := by rfl) :
    PE X (.Call (.Name x p) (e :: es) [] pos) (tMakeX C sp dvs E t) := by
  constructor
  intro pn st0 sl hp R J hh
  apply wpAny_Call_Name_kw
  apply ld_glob J hg hm (hd := hq)
  apply PySem.W.callWith_K (h₀ := X.base) J.ok.mod.kin M.kp _ he hl
  apply thn (ha.run pos pn st0 sl hp _ J hh)
  rintro us s1 ⟨vs, hp1, J1, rv, q⟩
  exact ⟨J1.kIn, run_make M F hr hb hd hx J1 rv fun x dx h1 h2 _ => q x dx _ h1 (Ext.made h1 h2) upd_same⟩
theorem pe_make0X (M : Mk X.K C f) (F : FnOk X.prog X.w X.K X.mg X.base CX k f fd ps sp) (hr : Room (k + 1) X.A) (hg : Gl X x) (hm : X.mg x = some (.ref C)) (hb : Binds X.K fd ps ds) (hd : Vals dvs ds) (hx : Passes CX X E)
    (hq : (x == ("__debug__" : Str)) = false := by decide) : PE X (.Call (.Name x p) [] [] pos) (tMakeX C sp dvs E tNil) := by
  constructor
  intro pn st0 sl hp R J hh
  apply wpAny_Call_Name_kw
  apply ld_glob J hg hm (hd := hq)
  exact PySem.W.callWith_K0 J.kIn M.kp (run_make (us := []) M F hr hb hd hx J .nil fun x dx h1 h2 _ => hh x dx _ h1 (Ext.made h1 h2) upd_same)
end
/-! ### slices by numbers -/
theorem cut_mid {xs : List V} {a b : Nat} (h1 : a ≤ b) (h2 : b ≤ xs.length) : cutV xs (some (a : Int)) (some (b : Int)) = (xs.drop a).take (b - a) := by
  unfold cutV
  rw [HT.sIx_nat, HT.sIx_nat, Nat.min_eq_left h2, Nat.min_eq_left (Nat.le_trans h1 h2)]
theorem cut_to {xs : List V} {b : Nat} : cutV xs none (some (b : Int)) = xs.take b := by
  unfold cutV
  rw [HT.sIx_nat, HT.sIx_none, List.drop_zero, Nat.sub_zero]
  by_cases h : b ≤ xs.length
  · rw [Nat.min_eq_left h]
  · rw [Nat.min_eq_right (by omega), List.take_of_length_le (Nat.le_refl _), List.take_of_length_le (by omega)]
theorem cut_from {xs : List V} {a : Nat} : cutV xs (some (a : Int)) none = xs.drop a := by
  unfold cutV
  rw [HT.sIx_nat, HT.sIx_none]
  by_cases h : a ≤ xs.length
  · rw [Nat.min_eq_left h, List.take_of_length_le (by rw [List.length_drop]; exact Nat.le_refl _)]
  · rw [Nat.min_eq_right (by omega), List.drop_of_length_le (Nat.le_refl _), List.drop_of_length_le (show xs.length ≤ a by omega)]
    simp
theorem sIx_neg {n d a : Nat} (h : 0 < a) : HT.sIx n d (some (-(a : Int))) = n - a := by
  show (if (-(a : Int)) < 0 then (-(a : Int) + (n : Int)).toNat else min (-(a : Int)).toNat n) = n - a
  rw [if_pos (by omega)]
  omega
theorem cut_negTo {xs : List V} {b : Nat} (h : 0 < b) : cutV xs none (some (-(b : Int))) = xs.take (xs.length - b) := by
  unfold cutV
  rw [sIx_neg h, HT.sIx_none, List.drop_zero, Nat.sub_zero]
theorem cut_negFrom {xs : List V} {a : Nat} (h : 0 < a) : cutV xs (some (-(a : Int))) none = xs.drop (xs.length - a) := by
  unfold cutV
  rw [sIx_neg h, HT.sIx_none, List.take_of_length_le (by rw [List.length_drop]; exact Nat.le_refl _)]
theorem cut_midU {xs : List V} {a b : Nat} : cutV xs (some (a : Int)) (some (b : Int)) = (xs.take b).drop a := by
  unfold cutV
  rw [HT.sIx_nat, HT.sIx_nat, List.drop_take]
  by_cases h : a ≤ xs.length
  · rw [Nat.min_eq_left h]
    by_cases h2 : b ≤ xs.length
    · rw [Nat.min_eq_left h2]
    · rw [Nat.min_eq_right (show xs.length ≤ b by omega), List.take_of_length_le (by rw [List.length_drop]; omega), List.take_of_length_le (by rw [List.length_drop]; omega)]
  · rw [Nat.min_eq_right (show xs.length ≤ a by omega), List.drop_of_length_le (Nat.le_refl _), List.drop_of_length_le (show xs.length ≤ a by omega)]
    simp
theorem cut_toL {xs : List V} {b : Nat} : cutV xs none (some (@OfNat.ofNat Int b instOfNat)) = xs.take b := cut_to
theorem cut_fromL {xs : List V} {b : Nat} : cutV xs (some (@OfNat.ofNat Int b instOfNat)) none = xs.drop b := cut_from
theorem cut_midL {xs : List V} {a b : Nat} : cutV xs (some (@OfNat.ofNat Int a instOfNat)) (some (@OfNat.ofNat Int b instOfNat)) = (xs.take b).drop a := cut_midU
theorem cut_negToL {xs : List V} {b : Nat} (h : 0 < b) : cutV xs none (some (-(@OfNat.ofNat Int b instOfNat))) = xs.take (xs.length - b) := cut_negTo h
theorem cut_negFromL {xs : List V} {b : Nat} (h : 0 < b) : cutV xs (some (-(@OfNat.ofNat Int b instOfNat))) none = xs.drop (xs.length - b) := cut_negFrom h
/-! ### steps of a reading -/
section
variable {K : PySem.W.Frag} {σ : St} {H : Hp} {Q : VK} {D : Ends} {t u : TS} {ta tb tc te : TE} {g : TG} {v : V}
theorem g_seq (h : t { D with nx := u D } σ H) : tSeq t u D σ H := h
theorem g_next (h : D.nx σ H) : tNext D σ H := h
theorem g_asg (h : te σ H fun x H1 => g x σ H1 D.nx) : tAsg te g D σ H := h
theorem g_name {i : Nat} {R : St → Hp → Prop} (h : R (σ.set i (some v)) H) : gName i v σ H R := h
theorem g_ret (h : te σ H D.rt) : tRet te D σ H := h
theorem g_retN (h : D.rt .non H) : tRetN D σ H := h
theorem g_drop (h : te σ H fun _ H1 => D.nx σ H1) : tDrop te D σ H := h
theorem g_brk (h : D.bk σ H) : tBreak D σ H := h
theorem g_cnt (h : D.ct σ H) : tCont D σ H := h
theorem g_ifS {c : TT} (h : c σ H fun b H1 => if b = true then t D σ H1 else u D σ H1) : tIfS c t u D σ H := h
theorem g_if {c : TT} (h : c σ H fun b H1 => if b = true then ta σ H1 Q else tb σ H1 Q) : tIf c ta tb σ H Q := h
theorem g_var {i : Nat} (e : σ[i]? = some (some v)) (h : Q v H) : tVar i σ H Q := ⟨v, e, h⟩
theorem g_C (h : Q v H) : tC v σ H Q := h
theorem g_op {r : R2} (h : ta σ H fun x H1 => tb σ H1 fun y H2 => r x y H2 Q) : tOp r ta tb σ H Q := h
theorem g_un {r : V → Hp → VK → Prop} (h : ta σ H fun x H1 => r x H1 Q) : tUn r ta σ H Q := h
theorem g_neg {i : Int} (h : Q (.int (-i)) H) : rU (fun i => .int (-i)) (.int i) H Q := ⟨_, rfl, h⟩
theorem g_rI {C : Int → Int → Prop} {f : Int → Int → V} {i j : Int} (c : C i j) (h : Q (f i j) H) : rI C f (.int i) (.int j) H Q := ⟨i, j, rfl, rfl, c, h⟩
theorem g_rI0 {f : Int → Int → V} {i j : Int} (h : Q (f i j) H) : rI0 f (.int i) (.int j) H Q := ⟨i, j, rfl, rfl, h⟩
theorem g_addI {i j : Int} (h : Q (.int (i + j)) H) : rAddX K (.int i) (.int j) H Q := h
theorem g_addT {a b : Addr} {xs ys : List V} (e : SqT K H a xs) (f : SqT K H b ys) (z : xs.length + ys.length ≤ sizeLine) (h : ∀ c H', Ext [] H H' → SqT K H' c (xs ++ ys) → Q (.ref c) H') : rAddX K (.ref a) (.ref b) H Q := .inl ⟨xs, ys, e, f, z, h⟩
theorem g_addL {a b : Addr} {xs ys : List V} (e : H a = some (.lst xs)) (f : H b = some (.lst ys)) (z : xs.length + ys.length ≤ sizeLine) (h : NewO H (.lst (xs ++ ys)) fun p H' => Q (.ref p) H') : rAddX K (.ref a) (.ref b) H Q := .inr ⟨xs, ys, e, f, z, h⟩
theorem g_sl {te' : TE} {tl th : TO} {r : V → Option Int → Option Int → Hp → VK → Prop} (h : te' σ H fun x H1 => tl σ H1 fun l H2 => th σ H2 fun u H3 => r x l u H3 Q) : tSl r te' tl th σ H Q := h
theorem g_noPart {R : Option Int → Hp → Prop} (h : R none H) : tNoPart σ H R := h
theorem g_part {R : Option Int → Hp → Prop} (h : te σ H fun x H1 => ∃ i, x = .int i ∧ R (some i) H1) : tPart te σ H R := h
theorem g_part' {i : Int} {R : Int → Prop} (h : R i) : ∃ i', V.int i = .int i' ∧ R i' := ⟨i, rfl, h⟩
theorem g_slT {a : Addr} {lo hi : Option Int} {xs ys : List V} (e : SqT K H a xs) (f : cutV xs lo hi = ys) (h : ∀ c H', Ext [] H H' → SqT K H' c ys → Q (.ref c) H') : rSlX K (.ref a) lo hi H Q := .inl ⟨xs, e, by rw [f]; exact h⟩
theorem g_slL {a : Addr} {lo hi : Option Int} {xs ys : List V} (e : SqL K H a xs) (f : cutV xs lo hi = ys) (h : NewO H (.lst ys) fun p H' => Q (.ref p) H') : rSlX K (.ref a) lo hi H Q := .inr ⟨xs, e, by rw [f]; exact h⟩
theorem g_slS {z : Str} {lo hi : Option Int} (e : z.length ≤ sizeLine) (h : Q (.str (cutS z lo hi)) H) : rSlX K (.str z) lo hi H Q := ⟨e, h⟩
theorem g_addS {i j : Str} (e : i.length + j.length ≤ sizeLine) (h : Q (.str (i ++ j)) H) : rAddX K (.str i) (.str j) H Q := ⟨e, h⟩
theorem g_mulI {i j : Int} (c : CMul i j) (h : Q (.int (i * j)) H) : rMulX (.int i) (.int j) H Q := ⟨c, h⟩
theorem g_iaddI {i j : Int} (h : Q (.int (i + j)) H) : rIAddX (.int i) (.int j) H Q := h
theorem g_divW {i j : Int} (h0 : 0 < j) (h1 : j < 2 ^ 64) (h : Q (.int (i / j)) H) : rI CDivW (fun i j => .int (i / j)) (.int i) (.int j) H Q :=
  ⟨i, j, rfl, rfl, wide_div (b := 64) h0 (by omega) (by decide) (by decide), h⟩
theorem g_mod {i j : Int} (h0 : 0 < j) (h : Q (.int (i % j)) H) : rI (fun _ j => 0 < j) (fun i j => .int (i % j)) (.int i) (.int j) H Q := ⟨i, j, rfl, rfl, h0, h⟩
theorem g_eq {x y : V} (e : scal x y = true) (h : Q (.bl (decide (x = y))) H) : rEqX K x y H Q := .inl ⟨e, h⟩
theorem g_ne {x y : V} (e : scal x y = true) (h : Q (.bl (!decide (x = y))) H) : rNeX K x y H Q := .inl ⟨e, h⟩
theorem g_isN {x : V} (h : Q (.bl (decide (x = .non))) H) : (fun x y H Q => y = V.non ∧ Q (.bl (decide (x = .non))) H : R2) x .non H Q := ⟨rfl, h⟩
theorem g_isN' {R : Prop} (h : R) : (V.non = V.non ∧ R) := ⟨rfl, h⟩
theorem g_test {t : TE} {R : Bool → Hp → Prop} (h : t σ H fun x H' => ∃ k, x = .bl k ∧ R k H') : tTest t σ H R := h
theorem g_bl {k : Bool} {R : Bool → Prop} (h : R k) : ∃ k', V.bl k = .bl k' ∧ R k' := ⟨k, rfl, h⟩
theorem g_tru {x : V} {k : Bool} {R : Bool → Prop} (e : TruV K x H k) (h : R k) : ∃ k', TruV K x H k' ∧ R k' := ⟨k, e, h⟩
theorem g_truB {b : Bool} : TruV K (.bl b) H b := rfl
theorem g_and {a b : TT} {R : Bool → Hp → Prop} (h : a σ H fun c H1 => if c = true then b σ H1 R else R false H1) : tAnd a b σ H R := h
theorem g_or {a b : TT} {R : Bool → Hp → Prop} (h : a σ H fun c H1 => if c = true then R true H1 else b σ H1 R) : tOr a b σ H R := h
theorem g_not {a : TT} {R : Bool → Hp → Prop} (h : a σ H fun c H1 => R (!c) H1) : tNot a σ H R := h
theorem g_chain {r r' : R2} (h : ta σ H fun x H1 => tb σ H1 fun y H2 => r x y H2 fun z H3 => ∃ k, z = .bl k ∧ (if k = true then tc σ H3 fun w' H4 => r' y w' H4 Q else Q (.bl false) H3)) : tChain r r' ta tb tc σ H Q := h
theorem g_andV (h : ta σ H fun x H1 => ∃ c, x = .bl c ∧ if c = true then tb σ H1 Q else Q (.bl false) H1) : tAndV ta tb σ H Q := h
theorem g_orV (h : ta σ H fun x H1 => ∃ c, x = .bl c ∧ if c = true then Q (.bl true) H1 else tb σ H1 Q) : tOrV ta tb σ H Q := h
theorem g_notV (h : ta σ H fun x H1 => ∃ c, x = .bl c ∧ Q (.bl (!c)) H1) : tNotV ta σ H Q := h
theorem g_inT {x : V} {p : Addr} {xs : List V} (e : SqT K H p xs) (f : flatV x = true) (g : xs.all flatV = true) (h : Q (.bl (inV x xs)) H) : rIn K false x (.ref p) H Q := ⟨p, xs, rfl, .inr e, f, g, h⟩
theorem g_inL {x : V} {p : Addr} {xs : List V} (e : SqL K H p xs) (f : flatV x = true) (g : xs.all flatV = true) (h : Q (.bl (inV x xs)) H) : rIn K false x (.ref p) H Q := ⟨p, xs, rfl, .inl e, f, g, h⟩
theorem g_ninT {x : V} {p : Addr} {xs : List V} (e : SqT K H p xs) (f : flatV x = true) (g : xs.all flatV = true) (h : Q (.bl (!inV x xs)) H) : rIn K true x (.ref p) H Q := ⟨p, xs, rfl, .inr e, f, g, h⟩
theorem g_ninL {x : V} {p : Addr} {xs : List V} (e : SqL K H p xs) (f : flatV x = true) (g : xs.all flatV = true) (h : Q (.bl (!inV x xs)) H) : rIn K true x (.ref p) H Q := ⟨p, xs, rfl, .inl e, f, g, h⟩
theorem g_nil {R : List V → Hp → Prop} (h : R [] H) : tNil σ H R := h
theorem g_cons {tr : TA} {R : List V → Hp → Prop} (h : te σ H fun x H1 => tr σ H1 fun xs H2 => R (x :: xs) H2) : tCons te tr σ H R := h
theorem g_CB {r : List V → Hp → VK → Prop} {ta : TA} (h : ta σ H fun vs H1 => r vs H1 Q) : tCB r ta σ H Q := h
theorem g_int1 {i : Int} (h : Q (.int i) H) : rInt1 [.int i] H Q := h
theorem g_int1b {k : Bool} (h : Q (.int (if k then 1 else 0)) H) : rInt1 [.bl k] H Q := h
theorem g_min2 {i j : Int} (h : Q (.int (min i j)) H) : rMin2 [.int i, .int j] H Q := h
theorem g_max2 {i j : Int} (h : Q (.int (max i j)) H) : rMax2 [.int i, .int j] H Q := h
theorem g_abs {i : Int} (h : Q (.int (i.natAbs : Int)) H) : rAbs [.int i] H Q := h
theorem g_new {n : Nat} {o : HO} {R : Addr → Hp → Prop} (e : n ≤ sizeLine) (h : NewO H o R) : n ≤ sizeLine ∧ NewO H o R := ⟨e, h⟩
theorem g_newO {o : HO} {R : Addr → Hp → Prop} (h : ∀ p H', H p = none → Ext [] H H' → H' p = some o → R p H') : NewO H o R := h
theorem g_tup {t : TA} (h : t σ H fun xs H1 => xs.length ≤ sizeLine ∧ NewO H1 (.tup xs) fun p H' => Q (.ref p) H') : tTupX t σ H Q := h
theorem g_lst {t : TA} (h : t σ H fun xs H1 => xs.length ≤ sizeLine ∧ NewO H1 (.lst xs) fun p H' => Q (.ref p) H') : tLstX t σ H Q := h
theorem g_ixL {p : Addr} {xs : List V} {i : Int} (e : SqL K H p xs) (a : atI xs i = some v) (h : Q v H) : rIx K (.ref p) (.int i) H Q := .inl ⟨p, xs, i, v, rfl, rfl, e, a, h⟩
theorem g_ixT {p : Addr} {xs : List V} {i : Int} (e : SqT K H p xs) (a : atI xs i = some v) (h : Q v H) : rIx K (.ref p) (.int i) H Q := .inr (.inl ⟨p, xs, i, v, rfl, rfl, e, a, h⟩)
theorem g_sub {to ti : TE} {s : TSet} {R : St → Hp → Prop} (h : to σ H fun o H1 => ti σ H1 fun i H2 => s o i v H2 fun H3 => R σ H3) : gSub to ti s v σ H R := h
theorem g_setL {p : Addr} {xs ys : List V} {k : Int} {j : Nat} {R : Hp → Prop} (e : H p = some (.lst xs)) (a : ixN xs.length k = some j) (l : xs.set j v = ys) (h : ∀ H', Ext [p] H H' → H' p = some (.lst ys) → R H') : rSetL (.ref p) (.int k) v H R :=
  ⟨p, xs, k, j, rfl, rfl, e, a, by rw [l]; exact h _ (Ext.wr e rfl) upd_same⟩
theorem g_ite {c : Bool} {A B : Prop} (h1 : c = true → A) (h2 : c = false → B) : if c = true then A else B := by
  cases c with
  | true => exact h1 rfl
  | false => exact h2 rfl
theorem g_iteDT {c : Bool} {A B : Prop} (e : c = true) (h : A) : if c = true then A else B := by rw [e]; exact h
theorem g_iteDF {c : Bool} {A B : Prop} (e : c = false) (h : B) : if c = true then A else B := by rw [e]; exact h
theorem g_iteIN {i : Int} {A B : Prop} (h : B) : if decide (V.int i = V.non) = true then A else B := by rw [decide_eq_false (by intro z; cases z)]; exact h
theorem g_iteRN {a : Addr} {A B : Prop} (h : B) : if decide (V.ref a = V.non) = true then A else B := by rw [decide_eq_false (by intro z; cases z)]; exact h
theorem g_iteSN {a : Str} {A B : Prop} (h : B) : if decide (V.str a = V.non) = true then A else B := by rw [decide_eq_false (by intro z; cases z)]; exact h
theorem g_iteNIN {i : Int} {A B : Prop} (h : A) : if (!decide (V.int i = V.non)) = true then A else B := by rw [decide_eq_false (by intro z; cases z)]; exact h
theorem g_iteNRN {i : Addr} {A B : Prop} (h : A) : if (!decide (V.ref i = V.non)) = true then A else B := by rw [decide_eq_false (by intro z; cases z)]; exact h
theorem g_iteT {A B : Prop} (h : A) : if true = true then A else B := h
theorem g_iteF {A B : Prop} (h : B) : if false = true then A else B := h
theorem g_fld {f : Str} (h : ta σ H fun x H1 => ∃ a C dx fs v, x = .ref a ∧ H1 a = some (.ins C dx fs) ∧ Cls K C ∧ NoAttr K C f ∧ fs.lookup f = some v ∧ Q v H1) : tFld K ta f σ H Q := h
theorem g_fld' {f : Str} {a C dx : Addr} {fs : List (Str × V)} (e : H a = some (.ins C dx fs)) (c : Cls K C) (n : NoAttr K C f) (l : fs.lookup f = some v) (h : Q v H) :
    ∃ a' C dx fs v, V.ref a = .ref a' ∧ H a' = some (.ins C dx fs) ∧ Cls K C ∧ NoAttr K C f ∧ fs.lookup f = some v ∧ Q v H := ⟨a, C, dx, fs, v, rfl, e, c, n, l, h⟩
theorem g_sfld {tv : TE} {f : Str} (h : tv σ H fun y H1 => ta σ H1 fun x H2 => ∃ a C dx fs, x = .ref a ∧ H2 a = some (.ins C dx fs) ∧ Cls K C ∧ NoAttr K C f ∧ fs.length < 1000 ∧ D.nx σ (upd H2 a (.ins C dx (putF f y fs)))) : sFld K ta tv f D σ H := h
theorem g_sfld' {f : Str} {a C dx : Addr} {fs fs' : List (Str × V)} {R : Hp → Prop} (e : H a = some (.ins C dx fs)) (c : Cls K C) (n : NoAttr K C f) (l : fs.length < 1000) (p : putF f v fs = fs') (h : ∀ H', Ext [a] H H' → H' a = some (.ins C dx fs') → R H') :
    ∃ a' C dx fs, V.ref a = .ref a' ∧ H a' = some (.ins C dx fs) ∧ Cls K C ∧ NoAttr K C f ∧ fs.length < 1000 ∧ R (upd H a' (.ins C dx (putF f v fs))) :=
  ⟨a, C, dx, fs, rfl, e, c, n, l, by rw [p]; exact h _ (Ext.wr e rfl) upd_same⟩
theorem g_sfa {tv : TE} {f : Str} {rd : V → V → Hp → VK → Prop} (h : ta σ H fun x H1 => ∃ a C dx fs v, x = .ref a ∧ H1 a = some (.ins C dx fs) ∧ Cls K C ∧ NoAttr K C f ∧ fs.lookup f = some v ∧
  tv σ H1 fun y H2 => rd v y H2 fun z H3 => ∃ dx' fs', H3 a = some (.ins C dx' fs') ∧ fs'.length < 1000 ∧ D.nx σ (upd H3 a (.ins C dx' (putF f z fs')))) : sFldAug K ta tv rd f D σ H := h
theorem g_sfa' {f : Str} {a C dx : Addr} {fs : List (Str × V)} {R : V → Addr → Addr → Hp → Prop} (e : H a = some (.ins C dx fs)) (c : Cls K C) (n : NoAttr K C f) (l : fs.lookup f = some v) (h : R v a C H) :
    ∃ a' C dx fs v, V.ref a = .ref a' ∧ H a' = some (.ins C dx fs) ∧ Cls K C ∧ NoAttr K C f ∧ fs.lookup f = some v ∧ R v a' C H := ⟨a, C, dx, fs, v, rfl, e, c, n, l, h⟩
theorem g_sfa'' {f : Str} {a C dx : Addr} {fs fs' : List (Str × V)} {R : Hp → Prop} (e : H a = some (.ins C dx fs)) (l : fs.length < 1000) (p : putF f v fs = fs') (h : ∀ H', Ext [a] H H' → H' a = some (.ins C dx fs') → R H') :
    ∃ dx' fs', H a = some (.ins C dx' fs') ∧ fs'.length < 1000 ∧ R (upd H a (.ins C dx' (putF f v fs'))) :=
  ⟨dx, fs, e, l, by rw [p]; exact h _ (Ext.wr e rfl) upd_same⟩
theorem g_call {sp : Sp} {dvs : List V} {E : XK} {t : TA} (h : t σ H fun vs H1 => sp (vs ++ dvs) H1 Q E) : tCall sp dvs E t σ H Q := h
theorem g_meth {C : Addr} {m : Str} {sp : Sp} {dvs : List V} {E : XK} {t : TA} (h : ta σ H fun x H1 => ∃ a dx fs, x = .ref a ∧ H1 a = some (.ins C dx fs) ∧ fs.lookup m = none ∧ t σ H1 fun vs H2 => sp (x :: (vs ++ dvs)) H2 Q E) : tMeth C m sp dvs E ta t σ H Q := h
theorem g_meth' {C a dx : Addr} {m : Str} {fs : List (Str × V)} {R : Hp → Prop} (e : H a = some (.ins C dx fs)) (l : fs.lookup m = none) (h : R H) : ∃ a' dx fs, V.ref a = .ref a' ∧ H a' = some (.ins C dx fs) ∧ fs.lookup m = none ∧ R H := ⟨a, dx, fs, rfl, e, l, h⟩
theorem g_make {C : Addr} {sp : Sp} {dvs : List V} {E : XK} {t : TA} (h : t σ H fun vs H1 => ∀ x dx H', H1 x = none → Ext [] H1 H' → H' x = some (.ins C dx []) → sp (.ref x :: (vs ++ dvs)) H' (fun v H2 => v = .non ∧ Q (.ref x) H2) E) : tMakeX C sp dvs E t σ H Q := h
theorem g_appd {te : TE} {t : TA} {r : V → List V → Hp → VK → Prop} {T : String} (h : te σ H fun x H1 => tyV K T x H1 ∧ t σ H1 fun xs H2 => r x xs H2 Q) : tBM K T r te t σ H Q := h
theorem g_bm0 {te : TE} {r : V → List V → Hp → VK → Prop} {T : String} (h : te σ H fun x H1 => tyV K T x H1 ∧ r x [] H1 Q) : tBM0 K T r te σ H Q := h
theorem g_tyL {a : Addr} {xs : List V} {R : Prop} (e : SqL K H a xs) (h : R) : tyV K "list" (.ref a) H ∧ R := ⟨.inl ⟨rfl, xs, e⟩, h⟩
theorem g_append {l : Addr} {xs : List V} {y : V} (e : H l = some (.lst xs)) (z : xs.length < sizeLine) (h : ∀ H', Ext [l] H H' → H' l = some (.lst (xs ++ [y])) → Q .non H') : rAppend (.ref l) [y] H Q :=
  ⟨l, xs, y, rfl, rfl, e, z, h _ (Ext.wr e rfl) upd_same⟩
theorem g_par {i j : Nat} {ta : TA} (h : ta σ H fun vs H1 => ∃ v w, vs = [v, w] ∧ D.nx ((σ.set i (some v)).set j (some w)) H1) : tPar i j ta D σ H := h
theorem g_par' {x y : V} {R : V → V → Prop} (h : R x y) : ∃ v w, [x, y] = [v, w] ∧ R v w := ⟨x, y, rfl, h⟩
theorem g_gtup {n : Nat} {tg : TGs} {a : Addr} {xs : List V} {R : St → Hp → Prop} (e : SqT K H a xs) (l : xs.length = n) (h : tg xs σ H R) : gTup K n tg (.ref a) σ H R := ⟨a, xs, rfl, e, l, h⟩
theorem g_gcons {t1 : TG} {tr : TGs} {x : V} {xs : List V} {R : St → Hp → Prop} (h : t1 x σ H fun σ' H' => tr xs σ' H' R) : gCons t1 tr (x :: xs) σ H R := ⟨x, xs, rfl, h⟩
theorem g_gnil {R : St → Hp → Prop} (h : R σ H) : gNil [] σ H R := ⟨rfl, h⟩
theorem g_aug {i : Nat} {ti : TIp} (e : σ[i]? = some (some v)) (h : te σ H fun y H1 => ti v y H1 fun z H2 => D.nx (σ.set i (some z)) H2) : tAug i te ti D σ H := ⟨v, e, h⟩
theorem g_listL {a : Addr} {xs : List V} (e : SqL K H a xs) (h : NewO H (.lst xs) fun p H' => Q (.ref p) H') : rListX K [.ref a] H Q := ⟨xs, .inl e, h⟩
theorem g_listT {a : Addr} {xs : List V} (e : SqT K H a xs) (h : NewO H (.lst xs) fun p H' => Q (.ref p) H') : rListX K [.ref a] H Q := ⟨xs, .inr e, h⟩
theorem g_tupL {a : Addr} {xs : List V} (e : SqL K H a xs) (h : NewO H (.tup xs) fun p H' => Q (.ref p) H') : rTupX K [.ref a] H Q := .inl ⟨xs, e, h⟩
theorem g_tupT {a : Addr} {xs : List V} (e : SqT K H a xs) (h : Q (.ref a) H) : rTupX K [.ref a] H Q := .inr ⟨xs, e, h⟩
theorem g_lenL {a : Addr} {xs : List V} (e : SqL K H a xs) (h : Q (.int xs.length) H) : rLenX K [.ref a] H Q := .inl ⟨xs, .inl e, h⟩
theorem g_lenT {a : Addr} {xs : List V} (e : SqT K H a xs) (h : Q (.int xs.length) H) : rLenX K [.ref a] H Q := .inl ⟨xs, .inr e, h⟩
theorem g_lenD {a : Addr} {kvs : List (Key × V)} (e : H a = some (.dK kvs)) (h : Q (.int kvs.length) H) : rLenX K [.ref a] H Q := .inr ⟨kvs, e, h⟩
theorem g_lenS {z : Str} (e : z.length ≤ sizeLine) (h : Q (.int z.length) H) : rLenX K [.str z] H Q := ⟨e, h⟩
theorem g_truL {a : Addr} {xs : List V} {R : Bool → Prop} (e : SqL K H a xs) (h : R (!xs.isEmpty)) : ∃ k, TruV K (.ref a) H k ∧ R k := ⟨_, .inl ⟨xs, e, rfl⟩, h⟩
theorem g_truT {a : Addr} {xs : List V} {R : Bool → Prop} (e : SqT K H a xs) (h : R (!xs.isEmpty)) : ∃ k, TruV K (.ref a) H k ∧ R k := ⟨_, .inr (.inl ⟨xs, e, rfl⟩), h⟩
theorem g_truD {a : Addr} {kvs : List (Key × V)} {R : Bool → Prop} (e : H a = some (.dK kvs)) (h : R (!kvs.isEmpty)) : ∃ k, TruV K (.ref a) H k ∧ R k := ⟨_, .inr (.inr ⟨kvs, e, rfl⟩), h⟩
theorem g_truBl {b : Bool} {R : Bool → Prop} (h : R b) : ∃ k, TruV K (.bl b) H k ∧ R k := ⟨b, rfl, h⟩
theorem g_truI {i : Int} {R : Bool → Prop} (h : R (i != 0)) : ∃ k, TruV K (.int i) H k ∧ R k := ⟨_, rfl, h⟩
theorem g_truN {R : Bool → Prop} (h : R false) : ∃ k, TruV K .non H k ∧ R k := ⟨_, rfl, h⟩
theorem g_for {wi : TI} {tb : TS} (h : wi σ H fun J H1 => ForGoal J g tb D σ H1) : tFor wi g tb D σ H := h
theorem g_lc {wi : TI} {tt : TT} {vs : List Nat} (h : wi σ H fun J H1 => LcGoal J g tt te vs σ H1 Q) : tLc wi g tt te vs σ H Q := h
theorem g_stE (h : te σ H Q) : stE te σ H Q := ⟨Q, h, fun _ _ z => z⟩
theorem g_stG {R : L2.St → Hp → Prop} (h : g v σ H R) : stG g v σ H R := ⟨R, h, fun _ _ z => z⟩
theorem g_stT {tt : TT} {R : Bool → Hp → Prop} (h : tt σ H R) : stT tt σ H R := ⟨R, h, fun _ _ z => z⟩
theorem g_yes {R : Bool → Hp → Prop} (h : R true H) : tYes σ H R := h
theorem g_iList {tl : TE} {R : It → Hp → Prop} (h : tl σ H fun x H1 => ∃ a, x = .ref a ∧ (∃ xs, SqL K H1 a xs) ∧ R (Itl K a) H1) : iList K tl σ H R := h
theorem g_iTup {tl : TE} {R : It → Hp → Prop} (h : tl σ H fun x H1 => ∃ a, x = .ref a ∧ (∃ xs, SqT K H1 a xs) ∧ R (Itt K a) H1) : iTup K tl σ H R := h
theorem g_iR1 {t : TA} {R : It → Hp → Prop} (h : t σ H fun vs H1 => ∃ j : Int, vs = [.int j] ∧ -(2 ^ 62) ≤ j ∧ j < 2 ^ 62 ∧ R (Itr 0 j.toNat) H1) : iRng1 t σ H R := h
theorem g_iR2 {t : TA} {R : It → Hp → Prop} (h : t σ H fun vs H1 => ∃ i j : Int, vs = [.int i, .int j] ∧ (-(2 ^ 62) ≤ i ∧ i < 2 ^ 62 ∧ -(2 ^ 62) ≤ j ∧ j < 2 ^ 62) ∧ R (Itr i (j - i).toNat) H1) : iRng2 t σ H R := h
theorem g_iR3 {t : TA} {R : It → Hp → Prop} (h : t σ H fun vs H1 => ∃ (i j c : Int) (n : Nat), vs = [.int i, .int j, .int c] ∧ RgC i j c n ∧ R (Itc i c n) H1) : iRng3 t σ H R := h
theorem g_itLf {tb : TS} {a : Addr} {xs : List V} (e : SqL K H a xs) (h : ForGoal (Itl K a) g tb D σ H) : ∃ a', V.ref a = .ref a' ∧ (∃ xs, SqL K H a' xs) ∧ ForGoal (Itl K a') g tb D σ H := ⟨a, rfl, ⟨xs, e⟩, h⟩
theorem g_itTf {tb : TS} {a : Addr} {xs : List V} (e : SqT K H a xs) (h : ForGoal (Itt K a) g tb D σ H) : ∃ a', V.ref a = .ref a' ∧ (∃ xs, SqT K H a' xs) ∧ ForGoal (Itt K a') g tb D σ H := ⟨a, rfl, ⟨xs, e⟩, h⟩
theorem g_itLl {tt : TT} {vs : List Nat} {a : Addr} {xs : List V} (e : SqL K H a xs) (h : LcGoal (Itl K a) g tt te vs σ H Q) : ∃ a', V.ref a = .ref a' ∧ (∃ xs, SqL K H a' xs) ∧ LcGoal (Itl K a') g tt te vs σ H Q := ⟨a, rfl, ⟨xs, e⟩, h⟩
theorem g_itTl {tt : TT} {vs : List Nat} {a : Addr} {xs : List V} (e : SqT K H a xs) (h : LcGoal (Itt K a) g tt te vs σ H Q) : ∃ a', V.ref a = .ref a' ∧ (∃ xs, SqT K H a' xs) ∧ LcGoal (Itt K a') g tt te vs σ H Q := ⟨a, rfl, ⟨xs, e⟩, h⟩
theorem g_itR1f {tb : TS} {j : Int} (h1 : -(2 ^ 62) ≤ j) (h2 : j < 2 ^ 62) (h : ForGoal (Itr 0 j.toNat) g tb D σ H) : ∃ j' : Int, [V.int j] = [.int j'] ∧ -(2 ^ 62) ≤ j' ∧ j' < 2 ^ 62 ∧ ForGoal (Itr 0 j'.toNat) g tb D σ H := ⟨j, rfl, h1, h2, h⟩
theorem g_itR1l {tt : TT} {vs : List Nat} {j : Int} (h1 : -(2 ^ 62) ≤ j) (h2 : j < 2 ^ 62) (h : LcGoal (Itr 0 j.toNat) g tt te vs σ H Q) : ∃ j' : Int, [V.int j] = [.int j'] ∧ -(2 ^ 62) ≤ j' ∧ j' < 2 ^ 62 ∧ LcGoal (Itr 0 j'.toNat) g tt te vs σ H Q := ⟨j, rfl, h1, h2, h⟩
theorem g_itR2f {tb : TS} {i j : Int} (h1 : -(2 ^ 62) ≤ i ∧ i < 2 ^ 62 ∧ -(2 ^ 62) ≤ j ∧ j < 2 ^ 62) (h : ForGoal (Itr i (j - i).toNat) g tb D σ H) : ∃ i' j' : Int, [V.int i, V.int j] = [.int i', .int j'] ∧ (-(2 ^ 62) ≤ i' ∧ i' < 2 ^ 62 ∧ -(2 ^ 62) ≤ j' ∧ j' < 2 ^ 62) ∧ ForGoal (Itr i' (j' - i').toNat) g tb D σ H := ⟨i, j, rfl, h1, h⟩
theorem g_itR2l {tt : TT} {vs : List Nat} {i j : Int} (h1 : -(2 ^ 62) ≤ i ∧ i < 2 ^ 62 ∧ -(2 ^ 62) ≤ j ∧ j < 2 ^ 62) (h : LcGoal (Itr i (j - i).toNat) g tt te vs σ H Q) : ∃ i' j' : Int, [V.int i, V.int j] = [.int i', .int j'] ∧ (-(2 ^ 62) ≤ i' ∧ i' < 2 ^ 62 ∧ -(2 ^ 62) ≤ j' ∧ j' < 2 ^ 62) ∧ LcGoal (Itr i' (j' - i').toNat) g tt te vs σ H Q := ⟨i, j, rfl, h1, h⟩
theorem g_itR3f {tb : TS} {i j c : Int} {n : Nat} (r : RgC i j c n) (h : ForGoal (Itc i c n) g tb D σ H) : ∃ (i' j' c' : Int) (n' : Nat), [V.int i, V.int j, V.int c] = [.int i', .int j', .int c'] ∧ RgC i' j' c' n' ∧ ForGoal (Itc i' c' n') g tb D σ H := ⟨i, j, c, n, rfl, r, h⟩
theorem g_itR3l {tt : TT} {vs : List Nat} {i j c : Int} {n : Nat} (r : RgC i j c n) (h : LcGoal (Itc i c n) g tt te vs σ H Q) : ∃ (i' j' c' : Int) (n' : Nat), [V.int i, V.int j, V.int c] = [.int i', .int j', .int c'] ∧ RgC i' j' c' n' ∧ LcGoal (Itc i' c' n') g tt te vs σ H Q := ⟨i, j, c, n, rfl, r, h⟩
theorem g_forL {tb : TS} {a : Addr} (xs : List V) (_ : SqL K H a xs) (Pv : Nat → L2.St → Hp → Prop) (h0 : Pv 0 σ H) (hl : ∀ i σ H, i ≤ xs.length → Pv i σ H → SqL K H a xs)
    (hs : ∀ i x σ H, xs[i]? = some x → Pv i σ H → g x σ H fun σ2 H2 => tb { D with nx := Pv (i + 1), ct := Pv (i + 1), bk := D.nx } σ2 H2) (hd : ∀ σ H, Pv xs.length σ H → D.nx σ H) : ForGoal (Itl K a) g tb D σ H := for_list Pv h0 hl hs hd
theorem g_forT {tb : TS} {a : Addr} (xs : List V) (Pv : Nat → L2.St → Hp → Prop) (h0 : Pv 0 σ H) (hl : ∀ i σ H, i ≤ xs.length → Pv i σ H → SqT K H a xs)
    (hs : ∀ i x σ H, xs[i]? = some x → Pv i σ H → g x σ H fun σ2 H2 => tb { D with nx := Pv (i + 1), ct := Pv (i + 1), bk := D.nx } σ2 H2) (hd : ∀ σ H, Pv xs.length σ H → D.nx σ H) : ForGoal (Itt K a) g tb D σ H := for_tup Pv h0 hl hs hd
theorem g_forR {tb : TS} {lo : Int} {n : Nat} (Pv : Nat → L2.St → Hp → Prop) (h0 : Pv 0 σ H)
    (hs : ∀ i σ H, i < n → Pv i σ H → g (.int (lo + i)) σ H fun σ2 H2 => tb { D with nx := Pv (i + 1), ct := Pv (i + 1), bk := D.nx } σ2 H2) (hd : ∀ σ H, Pv n σ H → D.nx σ H) : ForGoal (Itr lo n) g tb D σ H := for_range Pv h0 hs hd
end
theorem lk_hd {f : Str} {v : V} {r : List (Str × V)} : List.lookup f ((f, v) :: r) = some v := by simp [List.lookup]
theorem lk_tl {f g : Str} {v : V} {r : List (Str × V)} {o : Option V} (n : (f == g) = false) (h : List.lookup f r = o) : List.lookup f ((g, v) :: r) = o := by simp only [List.lookup, n]; exact h
theorem lk_nil {f : Str} : List.lookup f ([] : List (Str × V)) = none := rfl
theorem pf_nil {f : Str} {v : V} : putF f v [] = [(f, v)] := rfl
theorem pf_hd {f : Str} {v x : V} {r : List (Str × V)} : putF f v ((f, x) :: r) = (f, v) :: r := by simp [putF]
theorem pf_tl {f g : Str} {v x : V} {r r' : List (Str × V)} (n : (f == g) = false) (h : putF f v r = r') : putF f v ((g, x) :: r) = (g, x) :: r' := by
  have e : ¬ g = f := fun q => by rw [q, beq_self_eq_true] at n; cases n
  simp only [putF, if_neg e, h]
theorem ix_at {α : Type} {xs : List α} {i : Int} {v : α} (h : 0 ≤ i) (e : xs[i.toNat]? = some v) : atI xs i = some v := by
  have z : ((i.toNat : Nat) : Int) = i := Int.toNat_of_nonneg h
  rw [← z]; exact atI_nat e
theorem lt1000 {n : Nat} (h : Nat.blt n 1000 = true := by rfl) : n < 1000 := by
  have := Nat.le_of_ble_eq_true h
  omega
theorem leLine {n : Nat} (h : Nat.ble n 1000 = true := by rfl) : n ≤ sizeLine := Nat.le_trans (Nat.le_of_ble_eq_true h) (by decide)
/-! ### the stepping tactics, under names of our own -/
local macro_rules | `(tactic| walk_at "eo mem") => `(tactic| first | with_reducible exact List.mem_cons_self | ((with_reducible apply List.mem_cons_of_mem); walk_at "eo mem"))
local macro_rules | `(tactic| walk_at "eo lk") => `(tactic| first | with_reducible exact lk_hd | with_reducible exact lk_nil | ((with_reducible apply lk_tl); (decide +kernel); (walk_at "eo lk")))
local macro_rules | `(tactic| walk_at "eo pf") => `(tactic| first | with_reducible exact pf_hd | with_reducible exact pf_nil | ((with_reducible apply pf_tl); (decide +kernel); (walk_at "eo pf")))
local macro_rules | `(tactic| walk_at "eo fact") => `(tactic| first | with_reducible assumption | ((with_reducible apply Ext.keep); (with_reducible assumption); (walk_at "eo fact"); (walk_at "eo nin")))
local macro_rules | `(tactic| walk_at "eo nin") => `(tactic| first | with_reducible exact nin0 | ((with_reducible apply nin1); walk_at "eo ne") | ((with_reducible apply ninC); (walk_at "eo ne"); (walk_at "eo nin")) | with_reducible assumption)
local macro_rules | `(tactic| walk_at "eo ne") => `(tactic| first
  | with_reducible assumption
  | ((with_reducible apply Ne.symm); with_reducible assumption)
  | walk_at "eo ne2")
local macro_rules | `(tactic| walk_at "eo ne2") => `(tactic| first
  | ((with_reducible apply ne_of_none); rotate_left 1; (with_reducible assumption); (walk_at "eo fact"))
  | ((with_reducible apply Ne.symm); (with_reducible apply ne_of_none); rotate_left 1; (with_reducible assumption); (walk_at "eo fact"))
  | ((with_reducible apply ne_of); (with_reducible assumption); (walk_at "eo fact"); ((intro z; cases z)))
  | ((with_reducible apply Ne.symm); (with_reducible apply ne_of); (with_reducible assumption); (walk_at "eo fact"); ((intro z; cases z))))
local macro_rules | `(tactic| walk_at "eo sqT") => `(tactic| first | with_reducible assumption | ((with_reducible apply SqT.of); with_reducible assumption) | ((with_reducible apply sqT_ext); (with_reducible assumption); (walk_at "eo sqT")))
local macro_rules | `(tactic| walk_at "eo sqL") => `(tactic| first | with_reducible assumption | ((with_reducible apply SqL.of); with_reducible assumption) | ((with_reducible apply sqL_ext); (with_reducible assumption); (walk_at "eo sqL"); (intro _ _; walk_at "eo nin")))
local macro_rules | `(tactic| walk_at "eo at") => `(tactic| first | rfl | assumption | (apply ix_at; (first | omega | assumption); (first | assumption | rfl)))
local macro_rules | `(tactic| walk_at "eo set") => `(tactic| first | ((try simp only [List.set_cons_succ, List.set_cons_zero, Int.reduceToNat, List.length_cons, List.length_nil]); first | done | rfl) | rfl)
local macro_rules | `(tactic| walk_at "eo ext") => `(tactic| first | with_reducible assumption | with_reducible exact Ext.refl _ | ((with_reducible apply Ext.snoc); (with_reducible assumption); (walk_at "eo ext"); (walk_at "eo sub")))
local macro_rules | `(tactic| walk_at "eo sub") => `(tactic| first | with_reducible exact sub0 | ((with_reducible apply sub1); (walk_at "eo mem")) | ((with_reducible apply sub1f); (walk_at "eo free")) | ((with_reducible apply subC); (walk_at "eo mem"); (walk_at "eo sub")) | ((with_reducible apply subCf); (walk_at "eo free"); (walk_at "eo sub")))
local macro_rules | `(tactic| walk_at "eo free") => `(tactic| first | with_reducible assumption | ((with_reducible apply Ext.free); (with_reducible assumption); (walk_at "eo free"); (walk_at "eo nin")))
local macro_rules | `(tactic| walk_at "eo cut") => `(tactic| first | ((apply Eq.trans); (first | exact cut_midL | exact cut_toL | exact cut_fromL | exact cut_negToL (by decide) | exact cut_negFromL (by decide)); ((try simp only [List.take_succ_cons, List.take_zero, List.drop_succ_cons, List.drop_zero, List.length_cons, List.length_nil, Nat.reduceAdd, Nat.reduceSub]); first | done | rfl)) | rfl)
local macro_rules | `(tactic| walk_at "eo len") => `(tactic| first | exact leLine | (rw [sizeLine_eq]; simp only [List.length_append, List.length_cons, List.length_nil, List.length_map, List.length_take]; omega))
local macro_rules | `(tactic| walk_at "eo arith") => `(tactic| first | decide | omega)
local macro_rules | `(tactic| walk_at "eo mul") => `(tactic| first | (refine CMul.left ?_; first | decide | (constructor <;> omega)) | (refine CMul.right ?_; first | decide | (constructor <;> omega)))
local macro_rules | `(tactic| walk_at "eo step") => `(tactic| first
  | ((with_reducible apply g_var); (with_unfolding_all rfl))
  | with_reducible refine g_C ?_
  | with_reducible refine g_cons ?_
  | with_reducible refine g_nil ?_
  | with_reducible refine g_op ?_
  | with_reducible refine g_asg ?_
  | with_reducible refine g_name ?_
  | with_reducible refine g_seq ?_
  | with_reducible refine g_CB ?_
  | with_reducible refine g_bl ?_
  | with_reducible refine g_test ?_
  | with_reducible refine g_rI0 ?_
  | with_reducible refine g_addI ?_
  | ((with_reducible apply g_ixT); (walk_at "eo sqT"); (walk_at "eo at"))
  | ((with_reducible apply g_ixL); (walk_at "eo sqL"); (walk_at "eo at"))
  | ((with_reducible apply g_fld'); (walk_at "eo fact"); (with_reducible assumption); ((with_reducible apply na_of); (with_reducible assumption); (walk_at "eo mem")); (walk_at "eo lk"))
  | with_reducible refine g_fld ?_
  | with_reducible refine g_ret ?_
  | with_reducible refine g_ifS ?_
  | with_reducible refine g_iteIN ?_
  | ((with_reducible apply g_iteDT); (first | with_reducible assumption | decide))
  | ((with_reducible apply g_iteDF); (first | with_reducible assumption | decide))
  | with_reducible refine g_iteT ?_
  | with_reducible refine g_iteF ?_
  | with_reducible refine g_tup ?_
  | ((with_reducible apply g_new); (exact leLine))
  | ((with_reducible refine g_newO ?_); intro _ _ _ _ _)
  | with_reducible refine g_call ?_
  | ((with_reducible apply g_eq); (rfl))
  | with_reducible refine g_and ?_
  | with_reducible refine g_or ?_
  | ((with_reducible apply g_ne); (rfl))
  | ((with_reducible apply g_mulI); (walk_at "eo mul"))
  | ((with_reducible apply g_mod); (walk_at "eo arith"))
  | ((with_reducible apply g_divW); (walk_at "eo arith"); (walk_at "eo arith"))
  | with_reducible refine g_int1 ?_
  | with_reducible refine g_next ?_
  | with_reducible refine g_retN ?_
  | with_reducible refine g_drop ?_
  | with_reducible refine g_if ?_
  | with_reducible refine g_un ?_
  | with_reducible refine g_not ?_
  | with_reducible refine g_chain ?_
  | with_reducible refine g_andV ?_
  | with_reducible refine g_orV ?_
  | with_reducible refine g_notV ?_
  | ((with_reducible apply g_inT); (walk_at "eo sqT"); rfl; rfl)
  | ((with_reducible apply g_inL); (walk_at "eo sqL"); rfl; rfl)
  | ((with_reducible apply g_ninT); (walk_at "eo sqT"); rfl; rfl)
  | ((with_reducible apply g_ninL); (walk_at "eo sqL"); rfl; rfl)
  | with_reducible refine g_lst ?_
  | with_reducible refine g_iaddI ?_
  | ((with_reducible apply g_addT); (walk_at "eo sqT"); (walk_at "eo sqT"); (walk_at "eo len"); intro _ _ _ _)
  | ((with_reducible apply g_addL); (walk_at "eo fact"); (walk_at "eo fact"); (walk_at "eo len"))
  | with_reducible refine g_sl ?_
  | with_reducible refine g_noPart ?_
  | with_reducible refine g_part ?_
  | with_reducible refine g_part' ?_
  | ((with_reducible apply g_slT); (walk_at "eo sqT"); (walk_at "eo cut"); intro _ _ _ _)
  | ((with_reducible apply g_slL); (walk_at "eo sqL"); (walk_at "eo cut"))
  | with_reducible refine g_int1b ?_
  | with_reducible refine g_min2 ?_
  | with_reducible refine g_max2 ?_
  | with_reducible refine g_abs ?_
  | with_reducible refine g_isN' ?_
  | with_reducible refine g_neg ?_
  | with_reducible refine g_sub ?_
  | ((with_reducible apply g_setL); (walk_at "eo fact"); (walk_at "eo at"); (walk_at "eo set"); intro _ _ _)
  | with_reducible refine g_sfld ?_
  | ((with_reducible apply g_sfld'); (walk_at "eo fact"); (with_reducible assumption); ((with_reducible apply na_of); (with_reducible assumption); (walk_at "eo mem")); (exact lt1000); (walk_at "eo pf"); intro _ _ _)
  | with_reducible refine g_sfa ?_
  | ((with_reducible apply g_sfa'); (walk_at "eo fact"); (with_reducible assumption); ((with_reducible apply na_of); (with_reducible assumption); (walk_at "eo mem")); (walk_at "eo lk"))
  | ((with_reducible apply g_sfa''); (walk_at "eo fact"); (exact lt1000); (walk_at "eo pf"); intro _ _ _)
  | with_reducible refine g_meth ?_
  | ((with_reducible apply g_meth'); (walk_at "eo fact"); (walk_at "eo lk"))
  | with_reducible refine g_make ?_
  | ((with_reducible apply g_listL); (walk_at "eo sqL"))
  | ((with_reducible apply g_listT); (walk_at "eo sqT"))
  | ((with_reducible apply g_tupL); (walk_at "eo sqL"))
  | ((with_reducible apply g_tupT); (walk_at "eo sqT"))
  | ((with_reducible apply g_lenL); (walk_at "eo sqL"))
  | ((with_reducible apply g_lenT); (walk_at "eo sqT"))
  | ((with_reducible apply g_lenD); (walk_at "eo fact"))
  | ((with_reducible apply g_truL); (walk_at "eo sqL"))
  | ((with_reducible apply g_truT); (walk_at "eo sqT"))
  | ((with_reducible apply g_truD); (walk_at "eo fact"))
  | with_reducible refine g_truBl ?_
  | with_reducible refine g_truI ?_
  | with_reducible refine g_truN ?_
  | with_reducible refine g_appd ?_
  | with_reducible refine g_bm0 ?_
  | ((with_reducible apply g_tyL); (walk_at "eo sqL"))
  | ((with_reducible apply g_append); (walk_at "eo fact"); (walk_at "eo arith"); intro _ _ _)
  | with_reducible refine g_par ?_
  | with_reducible refine g_par' ?_
  | with_reducible refine g_gcons ?_
  | with_reducible refine g_gnil ?_
  | ((with_reducible apply g_gtup); (walk_at "eo sqT"); (with_unfolding_all rfl))
  | ((with_reducible apply g_aug); (with_unfolding_all rfl))
  | with_reducible refine g_for ?_
  | with_reducible refine g_iList ?_
  | with_reducible refine g_iTup ?_
  | with_reducible refine g_iR1 ?_
  | with_reducible refine g_iR2 ?_
  | with_reducible refine g_iR3 ?_
  | with_reducible refine g_lc ?_
  | with_reducible refine g_stE ?_
  | with_reducible refine g_stG ?_
  | with_reducible refine g_stT ?_
  | with_reducible refine g_yes ?_
  | ((with_reducible apply g_itLf); (walk_at "eo sqL"))
  | ((with_reducible apply g_itTf); (walk_at "eo sqT"))
  | ((with_reducible apply g_itLl); (walk_at "eo sqL"))
  | ((with_reducible apply g_itTl); (walk_at "eo sqT"))
  | ((with_reducible apply g_itR1f); (walk_at "eo arith"); (walk_at "eo arith"))
  | ((with_reducible apply g_itR1l); (walk_at "eo arith"); (walk_at "eo arith"))
  | ((with_reducible apply g_itR2f); (walk_at "eo arith"))
  | ((with_reducible apply g_itR2l); (walk_at "eo arith"))
  | with_reducible refine g_iteRN ?_
  | with_reducible refine g_iteSN ?_
  | with_reducible refine g_iteNIN ?_
  | with_reducible refine g_iteNRN ?_
  | with_reducible refine g_cnt ?_
  | with_reducible refine g_brk ?_)
local macro_rules | `(tactic| walk_at "eo go") => `(tactic| repeat (walk_at "eo step"))
local macro_rules | `(tactic| walk_at "eo init") => `(tactic| (dsimp only [cxOf, Cx.nox, Cx.wish, L2.start, List.map, List.length, List.replicate, List.cons_append, List.nil_append, Nat.reduceAdd, Nat.reduceSub]))
theorem dec_t {p : Prop} [Decidable p] (h : decide p = true) : p := of_decide_eq_true h
theorem dec_f {p : Prop} [Decidable p] (h : decide p = false) : ¬ p := of_decide_eq_false h
theorem vint {i j : Int} (h : V.int i = V.int j) : i = j := V.int.inj h
theorem mem_map_int {xs : List Int} {i : Nat} {x : V} (h : (xs.map V.int)[i]? = some x) : ∃ n, xs[i]? = some n ∧ x = .int n := by
  rw [List.getElem?_map] at h
  cases e : xs[i]? with
  | none => rw [e] at h; cases h
  | some n => rw [e] at h; exact ⟨n, rfl, (Option.some.inj h).symm⟩
def top (i : Nat) : Stmt := PySem.Challenge.pw_everyoctetonce_k08_queues.main.body.getD i (.Pass ⟨0, 0, 0, 0⟩)
abbrev s_Fifo_init : Stmt := inClass (top 1) 0
theorem sc_Fifo_init : FnScope ["self", "room"] ["self", "room"] (defScope s_Fifo_init) := ⟨rfl, rfl, rfl, by decide +kernel, rfl, by decide +kernel, by decide +kernel⟩
abbrev s_Fifo_put : Stmt := inClass (top 1) 1
theorem sc_Fifo_put : FnScope ["self", "item"] ["self", "item"] (defScope s_Fifo_put) := ⟨rfl, rfl, rfl, by decide +kernel, rfl, by decide +kernel, by decide +kernel⟩
abbrev s_Fifo_first : Stmt := inClass (top 1) 2
theorem sc_Fifo_first : FnScope ["self"] ["self"] (defScope s_Fifo_first) := ⟨rfl, rfl, rfl, by decide +kernel, rfl, by decide +kernel, by decide +kernel⟩
abbrev s_Fifo_take : Stmt := inClass (top 1) 3
theorem sc_Fifo_take : FnScope ["self"] ["self"] (defScope s_Fifo_take) := ⟨rfl, rfl, rfl, by decide +kernel, rfl, by decide +kernel, by decide +kernel⟩
abbrev s_Fifo_many : Stmt := inClass (top 1) 4
theorem sc_Fifo_many : FnScope ["self"] ["self"] (defScope s_Fifo_many) := ⟨rfl, rfl, rfl, by decide +kernel, rfl, by decide +kernel, by decide +kernel⟩
abbrev s_Fair_init : Stmt := inClass (top 2) 0
theorem sc_Fair_init : FnScope ["self", "room", "quantum"] ["self", "room", "quantum"] (defScope s_Fair_init) := ⟨rfl, rfl, rfl, by decide +kernel, rfl, by decide +kernel, by decide +kernel⟩
abbrev s_Fair_put : Stmt := inClass (top 2) 1
theorem sc_Fair_put : FnScope ["self", "flow", "size", "item"] ["self", "flow", "size", "item"] (defScope s_Fair_put) := ⟨rfl, rfl, rfl, by decide +kernel, rfl, by decide +kernel, by decide +kernel⟩
abbrev s_Fair_take : Stmt := inClass (top 2) 2
theorem sc_Fair_take : FnScope ["self", "flow", "size", "item"] ["self"] (defScope s_Fair_take) := ⟨rfl, rfl, rfl, by decide +kernel, rfl, by decide +kernel, by decide +kernel⟩
abbrev s_Fair_many : Stmt := inClass (top 2) 3
theorem sc_Fair_many : FnScope ["self", "own"] ["self"] (defScope s_Fair_many) := ⟨rfl, rfl, rfl, by decide +kernel, rfl, by decide +kernel, by decide +kernel⟩
abbrev s_law_begin : Stmt := top 4
theorem sc_law_begin : FnScope ["script", "seed", "cell"] ["script"] (defScope s_law_begin) := ⟨rfl, rfl, rfl, by decide +kernel, rfl, by decide +kernel, by decide +kernel⟩
abbrev s_law_take : Stmt := top 5
theorem sc_law_take : FnScope ["d", "many", "small", "digit"] ["d", "many"] (defScope s_law_take) := ⟨rfl, rfl, rfl, by decide +kernel, rfl, by decide +kernel, by decide +kernel⟩
abbrev s_law_next : Stmt := top 6
theorem sc_law_next : FnScope ["flows", "turns", "left", "begun", "quantum", "flow", "size", "item"] ["flows", "turns", "left", "begun", "quantum"] (defScope s_law_next) := ⟨rfl, rfl, rfl, by decide +kernel, rfl, by decide +kernel, by decide +kernel⟩
abbrev s_law : Stmt := top 7
theorem sc_law : FnScope ["script", "d", "room", "fifo", "row", "k", "quantum", "fair", "flows", "turns", "left", "begun", "flow", "size", "waits", "fits", "race", "sizes", "given", "many", "most", "told"] ["script"] (defScope s_law) := ⟨rfl, rfl, rfl, by decide +kernel, rfl, by decide +kernel, by decide +kernel⟩
structure Adr where
  f_Fifo_init : Addr
  d_Fifo_init : FuncData
  f_Fifo_put : Addr
  d_Fifo_put : FuncData
  f_Fifo_first : Addr
  d_Fifo_first : FuncData
  f_Fifo_take : Addr
  d_Fifo_take : FuncData
  f_Fifo_many : Addr
  d_Fifo_many : FuncData
  f_Fair_init : Addr
  d_Fair_init : FuncData
  f_Fair_put : Addr
  d_Fair_put : FuncData
  f_Fair_take : Addr
  d_Fair_take : FuncData
  f_Fair_many : Addr
  d_Fair_many : FuncData
  f_law_begin : Addr
  d_law_begin : FuncData
  f_law_take : Addr
  d_law_take : FuncData
  f_law_next : Addr
  d_law_next : FuncData
  f_law : Addr
  d_law : FuncData
  c_Fifo : Addr
  c_Fair : Addr
structure Txt (K : PySem.W.Frag) (mg : Str → Option Value) (A : Adr) : Prop where
  Fifo_init : MF K "__init__" "Fifo.__init__" s_Fifo_init ["self", "room"] A.c_Fifo A.f_Fifo_init A.d_Fifo_init
  Fifo_put : MF K "put" "Fifo.put" s_Fifo_put ["self", "item"] A.c_Fifo A.f_Fifo_put A.d_Fifo_put
  Fifo_first : MF K "first" "Fifo.first" s_Fifo_first ["self"] A.c_Fifo A.f_Fifo_first A.d_Fifo_first
  Fifo_take : MF K "take" "Fifo.take" s_Fifo_take ["self"] A.c_Fifo A.f_Fifo_take A.d_Fifo_take
  Fifo_many : MF K "many" "Fifo.many" s_Fifo_many ["self"] A.c_Fifo A.f_Fifo_many A.d_Fifo_many
  Fair_init : MF K "__init__" "Fair.__init__" s_Fair_init ["self", "room", "quantum"] A.c_Fair A.f_Fair_init A.d_Fair_init
  Fair_put : MF K "put" "Fair.put" s_Fair_put ["self", "flow", "size", "item"] A.c_Fair A.f_Fair_put A.d_Fair_put
  Fair_take : MF K "take" "Fair.take" s_Fair_take ["self"] A.c_Fair A.f_Fair_take A.d_Fair_take
  Fair_many : MF K "many" "Fair.many" s_Fair_many ["self"] A.c_Fair A.f_Fair_many A.d_Fair_many
  law_begin : GF K mg "_law_begin" s_law_begin ["script"] A.f_law_begin A.d_law_begin
  law_take : GF K mg "_law_take" s_law_take ["d", "many"] A.f_law_take A.d_law_take
  law_next : GF K mg "_law_next" s_law_next ["flows", "turns", "left", "begun", "quantum"] A.f_law_next A.d_law_next
  law : GF K mg "law" s_law ["script"] A.f_law A.d_law
  Fifo : CF K mg "Fifo" ["_room", "_items"] A.c_Fifo A.f_Fifo_init
  Fair : CF K mg "Fair" ["_room", "_quantum", "_flows", "_turns", "_left", "_has_begun"] A.c_Fair A.f_Fair_init
  b_len : mg "len" = none
  b_sum : mg "sum" = none
  b_int : mg "int" = none
  b_list : mg "list" = none
  b_abs : mg "abs" = none
  b_range : mg "range" = none
  b_repr : mg "repr" = none
  b_max : mg "max" = none
/-! ### the law's own draws -/
/-- d holds the script's ints (a list at s), a place, what is left of a number, a seed -/
def DSt (H : Hp) (d s : Addr) : Prop := d ≠ s ∧ ∃ (ns : List Int) (pos cur seed : Int), H d = some (.lst [.ref s, .int pos, .int cur, .int seed]) ∧ H s = some (.lst (ns.map V.int)) ∧ ns.length ≤ 63 ∧ 0 ≤ pos ∧ 0 ≤ cur
theorem DSt.ext {A : List Addr} {H H' : Hp} {d s : Addr} (e : Ext A H H') (h : DSt H d s) (n1 : d ∉ A) (n2 : s ∉ A) : DSt H' d s := by
  obtain ⟨ne, ns, pos, cur, seed, h1, h2, h3⟩ := h
  exact ⟨ne, ns, pos, cur, seed, e.keep _ _ h1 n1, e.keep _ _ h2 n2, h3⟩
def spBegin (K : PySem.W.Frag) : Sp := fun vs H Q _ => ∃ (a : Addr) (ns : List Int), vs = [.ref a] ∧ SqL K H a (ns.map V.int) ∧ ns.length ≤ 63 ∧ ∀ d s H', H d = none → H s = none → Ext [] H H' → DSt H' d s → Q (.ref d) H'
def spTake : Sp := fun vs H Q _ => ∃ (d s : Addr) (many : Int), vs = [.ref d, .int many] ∧ DSt H d s ∧ 0 < many ∧ many < 2 ^ 64 ∧ ∀ k H', 0 ≤ k → k < many → Ext [d] H H' → DSt H' d s → Q (.int k) H'
def spPick (K : PySem.W.Frag) : Sp := fun vs H Q _ => ∃ (d s m : Addr) (xs : List V), vs = [.ref d, .ref m] ∧ DSt H d s ∧ SqL K H m xs ∧ m ≠ d ∧ 0 < xs.length ∧ xs.length < 1000 ∧ ∀ v H', v ∈ xs → Ext [d] H H' → DSt H' d s → Q v H'
def spLaw (K : PySem.W.Frag) : Sp := fun vs H Q _ => ∃ (a : Addr) (ns : List Int), vs = [.ref a] ∧ SqL K H a (ns.map V.int) ∧ ns.length ≤ 63 ∧ ∀ H', Q (.bl true) H'
theorem ne_dst1 {H : Hp} {d s x : Addr} (n : H x = none) (h : DSt H d s) : d ≠ x := by
  obtain ⟨_, _, _, _, _, h1, _⟩ := h
  exact ne_of_none h1 n
theorem ne_dst2 {H : Hp} {d s x : Addr} (n : H x = none) (h : DSt H d s) : s ≠ x := by
  obtain ⟨_, _, _, _, _, _, h1, _⟩ := h
  exact ne_of_none h1 n
local macro_rules | `(tactic| walk_at "eo dst") => `(tactic| first | with_reducible assumption | ((with_reducible apply DSt.ext); (with_reducible assumption); (walk_at "eo dst"); (walk_at "eo nin"); (walk_at "eo nin")))
local macro_rules | `(tactic| walk_at "eo ne2") => `(tactic| first
  | ((with_reducible apply ne_dst1); (with_reducible assumption); (walk_at "eo dst"))
  | ((with_reducible apply ne_dst2); (with_reducible assumption); (walk_at "eo dst"))
  | ((with_reducible apply Ne.symm); (with_reducible apply ne_dst1); (with_reducible assumption); (walk_at "eo dst"))
  | ((with_reducible apply Ne.symm); (with_reducible apply ne_dst2); (with_reducible assumption); (walk_at "eo dst")))
/-! ### dicts with int or text keys -/
theorem u1 {n : Nat} (h : n + 64 < cLine) : n + 1 < cLine := by omega
section
variable {K : PySem.W.Frag} {σ : St} {H : Hp} {Q : VK} {D : Ends} {td ty tv : TE} {a : Addr} {kvs : List (Key × V)} {v : V}
theorem g_dget (h : td σ H fun x H1 => ty σ H1 fun y H2 => ∃ a v, x = .ref a ∧ DGet H2 a y (some v) ∧ Q v H2) : tDGet td ty σ H Q := h
theorem g_dgetI {i : Int} (e : H a = some (.dK kvs)) (l : valV kvs (.inl i) = some v) (h : Q v H) : ∃ a' v, V.ref a = .ref a' ∧ DGet H a' (.int i) (some v) ∧ Q v H := ⟨a, v, rfl, l ▸ DGet.k (k := .inl i) e, h⟩
theorem g_dgetS {i : Str} (e : H a = some (.dK kvs)) (l : valV kvs (.inr i) = some v) (h : Q v H) : ∃ a' v, V.ref a = .ref a' ∧ DGet H a' (.str i) (some v) ∧ Q v H := ⟨a, v, rfl, l ▸ DGet.k (k := .inr i) e, h⟩
theorem g_din (h : ty σ H fun y H1 => td σ H1 fun x H2 => ∃ a o, x = .ref a ∧ DGet H2 a y o ∧ Q (.bl o.isSome) H2) : tDIn ty td σ H Q := h
theorem g_dnin (h : ty σ H fun y H1 => td σ H1 fun x H2 => ∃ a o, x = .ref a ∧ DGet H2 a y o ∧ Q (.bl (!o.isSome)) H2) : tDNotIn ty td σ H Q := h
theorem g_dinI {i : Int} {R : Option V → Prop} (e : H a = some (.dK kvs)) (h : R (valV kvs (.inl i))) : ∃ a' o, V.ref a = .ref a' ∧ DGet H a' (.int i) o ∧ R o := ⟨a, _, rfl, DGet.k (k := .inl i) e, h⟩
theorem g_dinS {i : Str} {R : Option V → Prop} (e : H a = some (.dK kvs)) (h : R (valV kvs (.inr i))) : ∃ a' o, V.ref a = .ref a' ∧ DGet H a' (.str i) o ∧ R o := ⟨a, _, rfl, DGet.k (k := .inr i) e, h⟩
theorem g_dput (h : tv σ H fun v H1 => td σ H1 fun x H2 => ty σ H2 fun y H3 => ∃ a H4, x = .ref a ∧ DPut H3 a y v H4 ∧ D.nx σ H4) : sDPut td ty tv D σ H := h
theorem g_dputI {i : Int} {R : Hp → Prop} (e : H a = some (.dK kvs)) (l : kvs.length < 1000) (h : ∀ H', Ext [a] H H' → H' a = some (.dK (putK kvs (.inl i) v)) → R H') : ∃ a' H4, V.ref a = .ref a' ∧ DPut H a' (.int i) v H4 ∧ R H4 :=
  ⟨a, _, rfl, DPut.k (k := .inl i) e (by rw [sizeLine_eq]; omega), h _ (Ext.wr e rfl) upd_same⟩
theorem g_daug {rd : V → V → Hp → VK → Prop} (h : td σ H fun x H1 => ty σ H1 fun y H2 => ∃ a v, x = .ref a ∧ DGet H2 a y (some v) ∧ tv σ H2 fun y2 H3 => rd v y2 H3 fun z H4 => ∃ H5, DPut H4 a y z H5 ∧ D.nx σ H5) : sDAug td ty tv rd D σ H := h
theorem g_daugI {i : Int} {R : Addr → V → Prop} (e : H a = some (.dK kvs)) (l : valV kvs (.inl i) = some v) (h : R a v) : ∃ a' v, V.ref a = .ref a' ∧ DGet H a' (.int i) (some v) ∧ R a' v := ⟨a, v, rfl, l ▸ DGet.k (k := .inl i) e, h⟩
theorem g_daugI' {i : Int} {R : Hp → Prop} (e : H a = some (.dK kvs)) (l : kvs.length < 1000) (h : ∀ H', Ext [a] H H' → H' a = some (.dK (putK kvs (.inl i) v)) → R H') : ∃ H5, DPut H a (.int i) v H5 ∧ R H5 :=
  ⟨_, DPut.k (k := .inl i) e (by rw [sizeLine_eq]; omega), h _ (Ext.wr e rfl) upd_same⟩
theorem g_dnew {R : V → Hp → Prop} (h : NewO H (.dK []) fun p H' => R (.ref p) H') : tDNewK σ H R := fun p hp => h p _ hp (Ext.new hp) upd_same
end
section
variable {K : PySem.W.Frag} {σ : St} {H : Hp} {te : TE} {D : Ends}
theorem g_tB {R : Bool → Hp → Prop} (h : te σ H fun x H1 => ∃ c, x = .bl c ∧ R c H1) : tB te σ H R := h
end
local macro_rules | `(tactic| walk_at "eo kl") => `(tactic| first | with_reducible assumption | omega | exact lt1000)
local macro_rules | `(tactic| walk_at "eo step") => `(tactic| first
  | with_reducible refine g_dget ?_
  | ((with_reducible apply g_dgetI); (walk_at "eo fact"); (with_reducible assumption))
  | ((with_reducible apply g_dgetS); (walk_at "eo fact"); (with_reducible assumption))
  | with_reducible refine g_din ?_
  | with_reducible refine g_dnin ?_
  | ((with_reducible apply g_dinI); (walk_at "eo fact"))
  | ((with_reducible apply g_dinS); (walk_at "eo fact"))
  | with_reducible refine g_dput ?_
  | ((with_reducible apply g_dputI); (walk_at "eo fact"); (walk_at "eo kl"); intro _ _ _)
  | with_reducible refine g_daug ?_
  | ((with_reducible apply g_daugI); (walk_at "eo fact"); (with_reducible assumption))
  | ((with_reducible apply g_daugI'); (walk_at "eo fact"); (walk_at "eo kl"); intro _ _ _)
  | with_reducible refine g_dnew ?_
  | with_reducible refine g_tB ?_)
/-! ### a dict is locked while it is walked -/
theorem Ext.same {H HF : Hp} {d : Addr} {u : HO} (e : Ext [d] H HF) (h : H d = some u) (h' : HF d = some u) : Ext [] H HF :=
  ⟨fun b o q _ => by
    by_cases c : b = d
    · subst c
      rw [h] at q
      cases q
      exact h'
    · exact e.keep b o q (nin1 c), e.imm⟩
section
variable {K : PySem.W.Frag} {σ : St} {H : Hp} {Q : VK} {t : TE} {d : Addr} {kvs : List (Key × V)}
theorem g_lockE (e : H d = some (.dK kvs)) (h : ∀ od H0, Ext [d] H H0 → H0 d = some (.frz od (.dK kvs)) → t σ H0 fun v H' => H' d = some (.frz od (.dK kvs)) ∧ ∀ HF, Ext [d] H' HF → HF d = some (.dK kvs) → Q v HF) : tLockE (stE t) σ H Q :=
  ⟨d, .dK kvs, e, trivial, fun od => ⟨_, h od _ (Ext.wr e rfl) upd_same, fun v H' q => ⟨q.1, q.2 _ (Ext.wr q.1 rfl) upd_same⟩⟩⟩
theorem g_iVals {td : TE} {R : It → Hp → Prop} (h : td σ H fun x H1 => ∃ d o kvs, x = .ref d ∧ H1 d = some (.frz o (.dK kvs)) ∧ R (Itd d o kvs) H1) : iVals td σ H R := h
theorem g_itV {o : Obj} {g : TG} {tt : TT} {te : TE} {vs : List Nat} (e : H d = some (.frz o (.dK kvs))) (h : LcGoal (Itd d o kvs) g tt te vs σ H Q) : ∃ d' o kvs, V.ref d = .ref d' ∧ H d' = some (.frz o (.dK kvs)) ∧ LcGoal (Itd d' o kvs) g tt te vs σ H Q := ⟨d, o, kvs, rfl, e, h⟩
end
local macro_rules | `(tactic| walk_at "eo step") => `(tactic| first
  | with_reducible refine g_iVals ?_
  | ((with_reducible apply g_itV); (with_reducible assumption)))
/-! ### flows in turn: the state told plainly -/
structure AF where
  ks : List Int
  it : Int → List (Int × V)
  lf : Int → Int
  tu : List Int
  be : Bool
def fset {α : Type} (g : Int → α) (f : Int) (x : α) : Int → α := fun k => if k = f then x else g k
/-- the first flow's left part, its turn begun -/
def AF.got (q : Int) (s : AF) (f : Int) : Int := if s.be = true then s.lf f else s.lf f + q
/-- one look at the first flow f with the first item (z, v): its item goes, or it goes behind -/
def AF.gone (q : Int) (s : AF) (f : Int) (rest : List Int) (z : Int) (its : List (Int × V)) : AF :=
  ⟨s.ks, fset s.it f its, fset s.lf f (s.got q f - z), if its = [] then rest else f :: rest, if its = [] then false else true⟩
def AF.over (q : Int) (s : AF) (f : Int) (rest : List Int) : AF := ⟨s.ks, s.it, fset s.lf f (s.got q f), rest ++ [f], false⟩
inductive Tk (q : Int) : AF → V → AF → Prop
  | no {s : AF} (h : s.tu = []) : Tk q s .non s
  | out {s : AF} {f : Int} {rest : List Int} {z : Int} {v : V} {its : List (Int × V)} (h : s.tu = f :: rest) (i : s.it f = (z, v) :: its) (l : z ≤ s.got q f) : Tk q s v (s.gone q f rest z its)
  | turn {s s' : AF} {f : Int} {rest : List Int} {z : Int} {v w : V} {its : List (Int × V)} (h : s.tu = f :: rest) (i : s.it f = (z, v) :: its) (l : ¬ z ≤ s.got q f) (t : Tk q (s.over q f rest) w s') : Tk q s w s'
structure WF (s : AF) : Prop where
  inK : ∀ f ∈ s.tu, f ∈ s.ks
  has : ∀ f ∈ s.tu, s.it f ≠ []
  nd : s.ks.Nodup
  nt : s.tu.Nodup
def AF.hs (s : AF) (f : Int) : Int := match s.it f with
  | (z, _) :: _ => z
  | [] => 0
def AF.lack (s : AF) : Nat := (s.tu.map fun f => (s.hs f - s.lf f).toNat).sum + if s.be = true then 1 else 0
theorem WF.over {q : Int} {s : AF} {f : Int} {rest : List Int} (w : WF s) (h : s.tu = f :: rest) : WF (s.over q f rest) := by
  have m : ∀ g ∈ rest ++ [f], g ∈ s.tu := fun g hg => by
    rw [h]
    rcases List.mem_append.mp hg with c | c
    · exact List.mem_cons_of_mem _ c
    · rw [List.mem_singleton.mp c]; exact List.mem_cons_self
  refine ⟨fun g hg => w.inK g (m g hg), fun g hg => w.has g (m g hg), w.nd, ?_⟩
  have n := w.nt
  rw [h] at n
  have n2 := List.nodup_cons.mp n
  show (rest ++ [f]).Nodup
  rw [List.nodup_append]
  exact ⟨n2.2, by simp, fun x hx y hy e => by rw [List.mem_singleton.mp hy] at e; exact n2.1 (e ▸ hx)⟩
theorem sum_le_map {g g' : Int → Nat} : ∀ l : List Int, (∀ x ∈ l, g x ≤ g' x) → (l.map g).sum ≤ (l.map g').sum
  | [], _ => Nat.le_refl _
  | a :: t, h => by
    rw [List.map_cons, List.map_cons, List.sum_cons, List.sum_cons]
    exact Nat.add_le_add (h a List.mem_cons_self) (sum_le_map t fun x hx => h x (List.mem_cons_of_mem _ hx))
theorem lack_over {q : Int} {s : AF} {f : Int} {rest : List Int} (hq : 1 ≤ q) (h : s.tu = f :: rest) (hl : ¬ s.hs f ≤ s.got q f) : (s.over q f rest).lack < s.lack := by
  have e1 : (s.over q f rest).lack = ((rest.map fun g => (s.hs g - fset s.lf f (s.got q f) g).toNat).sum + (s.hs f - s.got q f).toNat) := by
    show ((rest ++ [f]).map fun g => (s.hs g - fset s.lf f (s.got q f) g).toNat).sum + 0 = _
    rw [List.map_append, List.sum_append]
    show _ + ((s.hs f - fset s.lf f (s.got q f) f).toNat + 0) + 0 = _
    unfold fset
    rw [if_pos rfl]
    rfl
  have e2 : s.lack = (s.hs f - s.lf f).toNat + (rest.map fun g => (s.hs g - s.lf g).toNat).sum + if s.be = true then 1 else 0 := by
    unfold AF.lack
    rw [h, List.map_cons, List.sum_cons]
  have le : (rest.map fun g => (s.hs g - fset s.lf f (s.got q f) g).toNat).sum ≤ (rest.map fun g => (s.hs g - s.lf g).toNat).sum := sum_le_map rest fun g _ => by
    unfold fset AF.got
    split
    · rename_i c
      subst c
      split <;> omega
    · exact Nat.le_refl _
  rw [e1, e2]
  unfold AF.got at hl ⊢
  unfold AF.got at le
  by_cases c : s.be = true
  · rw [if_pos c] at hl ⊢
    rw [if_pos c] at le ⊢
    omega
  · rw [if_neg c] at hl ⊢
    rw [if_neg c] at le ⊢
    omega
theorem tk_ex {q : Int} (hq : 1 ≤ q) : ∀ (n : Nat) (s : AF), s.lack ≤ n → WF s → ∃ v s', Tk q s v s' := by
  intro n
  induction n with
  | zero =>
    intro s hs w
    cases ht : s.tu with
    | nil => exact ⟨_, _, .no ht⟩
    | cons f rest =>
      cases hi : s.it f with
      | nil => exact absurd hi (w.has f (by rw [ht]; exact List.mem_cons_self))
      | cons p its =>
        by_cases l : p.1 ≤ s.got q f
        · exact ⟨_, _, .out ht hi l⟩
        · have := lack_over (q := q) hq ht (by unfold AF.hs; rw [hi]; exact l)
          omega
  | succ n ih =>
    intro s hs w
    cases ht : s.tu with
    | nil => exact ⟨_, _, .no ht⟩
    | cons f rest =>
      cases hi : s.it f with
      | nil => exact absurd hi (w.has f (by rw [ht]; exact List.mem_cons_self))
      | cons p its =>
        by_cases l : p.1 ≤ s.got q f
        · exact ⟨_, _, .out ht hi l⟩
        · have := lack_over (q := q) hq ht (by unfold AF.hs; rw [hi]; exact l)
          obtain ⟨v, s', t⟩ := ih (s.over q f rest) (by omega) (w.over ht)
          exact ⟨v, s', .turn ht hi l t⟩
/-! ### dicts over the keys ks -/
def dks (ks : List Int) (g : Int → V) : List (Key × V) := ks.map fun k => (.inl k, g k)
theorem val_dks (g : Int → V) (f : Int) : ∀ ks : List Int, valV (dks ks g) (.inl f) = if f ∈ ks then some (g f) else none
  | [] => rfl
  | k :: t => by
    show valV ((.inl k, g k) :: dks t g) (.inl f) = _
    by_cases c : k = f
    · subst c
      rw [valV_pos rfl, if_pos List.mem_cons_self]
    · rw [valV_neg (fun e => c (Sum.inl.inj e)), val_dks g f t]
      by_cases d : f ∈ t
      · rw [if_pos d, if_pos (List.mem_cons_of_mem _ d)]
      · rw [if_neg d, if_neg (fun e => (List.mem_cons.mp e).elim (fun z => c z.symm) d)]
theorem put_dks {ks : List Int} {g : Int → V} {f : Int} (x : V) (h : f ∈ ks) : putK (dks ks g) (.inl f) x = dks ks (fset g f x) := by
  unfold putK
  have e : ((dks ks g).any fun kv => decide (kv.1 = .inl f)) = true := List.any_eq_true.mpr ⟨(.inl f, g f), List.mem_map.mpr ⟨f, h, rfl⟩, by simp⟩
  rw [if_pos e]
  unfold dks
  rw [List.map_map]
  refine List.map_congr_left fun k _ => ?_
  show (if (Sum.inl k : Key) = .inl f then ((.inl k : Key), x) else (.inl k, g k)) = (.inl k, fset g f x k)
  unfold fset
  by_cases c : k = f
  · rw [if_pos (congrArg Sum.inl c), if_pos c]
  · rw [if_neg (fun e => c (Sum.inl.inj e)), if_neg c]
theorem put_dks_new {ks : List Int} {g : Int → V} {f : Int} (x : V) (h : f ∉ ks) : putK (dks ks g) (.inl f) x = dks (ks ++ [f]) (fset g f x) := by
  rw [putK_new x (by rw [val_dks, if_neg h])]
  unfold dks
  rw [List.map_append]
  congr 1
  · refine List.map_congr_left fun k hk => ?_
    unfold fset
    rw [if_neg (fun e => h (by rw [← e]; exact hk))]
  · show [_] = [((Sum.inl f : Key), fset g f x f)]
    unfold fset
    rw [if_pos rfl]
theorem len_dks (ks : List Int) (g : Int → V) : (dks ks g).length = ks.length := List.length_map _
theorem WF.tk {q : Int} {s s' : AF} {v : V} (t : Tk q s v s') : WF s → WF s' := by
  induction t with
  | no _ => exact id
  | @out s f rest z v its h i l =>
    intro w
    have n := w.nt
    rw [h] at n
    have n2 := List.nodup_cons.mp n
    refine ⟨fun g hg => ?_, fun g hg => ?_, w.nd, ?_⟩
    · refine w.inK g ?_
      rw [h]
      have hg' : g ∈ (if its = [] then rest else f :: rest) := hg
      split at hg'
      · exact List.mem_cons_of_mem _ hg'
      · exact hg'
    · have hg' : g ∈ (if its = [] then rest else f :: rest) := hg
      show fset s.it f its g ≠ []
      unfold fset
      split
      · rename_i c
        subst c
        split at hg'
        · exact absurd hg' n2.1
        · assumption
      · refine w.has g ?_
        rw [h]
        split at hg'
        · exact List.mem_cons_of_mem _ hg'
        · exact hg'
    · show (if its = [] then rest else f :: rest).Nodup
      split
      · exact n2.2
      · exact n
  | turn h i l _ ih => exact fun w => ih (w.over h)
/-! ### items in the heap -/
def ItsAt (H : Hp) : List V → List (Int × V) → Prop
  | [], [] => True
  | x :: xs, p :: r => (∃ t, x = .ref t ∧ H t = some (.tup [.int p.1, p.2])) ∧ ItsAt H xs r
  | _, _ => False
theorem ItsAt.ext {A : List Addr} {H H' : Hp} (e : Ext A H H') : ∀ {xs : List V} {r : List (Int × V)}, ItsAt H xs r → ItsAt H' xs r
  | [], [], _ => trivial
  | _ :: _, _ :: _, ⟨⟨t, h1, h2⟩, h⟩ => ⟨⟨t, h1, e.imm _ _ h2 rfl⟩, ItsAt.ext e h⟩
  | [], _ :: _, h => h.elim
  | _ :: _, [], h => h.elim
theorem ItsAt.snoc {H : Hp} {t : Addr} {z : Int} {v : V} (ht : H t = some (.tup [.int z, v])) : ∀ {xs : List V} {r : List (Int × V)}, ItsAt H xs r → ItsAt H (xs ++ [.ref t]) (r ++ [(z, v)])
  | [], [], _ => ⟨⟨t, rfl, ht⟩, trivial⟩
  | _ :: _, _ :: _, ⟨h1, h⟩ => ⟨h1, ItsAt.snoc ht h⟩
  | [], _ :: _, h => h.elim
  | _ :: _, [], h => h.elim
theorem ItsAt.len {H : Hp} : ∀ {xs : List V} {r : List (Int × V)}, ItsAt H xs r → xs.length = r.length
  | [], [], _ => rfl
  | _ :: _, _ :: _, ⟨_, h⟩ => congrArg (· + 1) (ItsAt.len h)
  | [], _ :: _, h => h.elim
  | _ :: _, [], h => h.elim
/-! ### loops, joins, rows of numbers -/
def asgScope (s : Stmt) : Scope := match s with
  | .Assign _ (.ListComp _ _ sc _) _ => sc
  | _ => { kind := .function, names := [], isGenerator := false, isCoroutine := false }
/-- a comprehension's scope within a def whose scope is o -/
def relS (s o : Scope) : Scope := { s with names := s.names.map fun (n, k) => if (k == .free && o.kind == .function && o.names.lookup n == some .cell) then (n, .cell) else (n, k) }
def strB (b : Bool) : Str := if b then "True" else "False"
def rReprB : List V → Hp → VK → Prop := fun xs H Q => ∃ b, xs = [.bl b] ∧ Q (.str (strB b)) H
theorem o_repr {X : Cx} : CallR X (.builtin "repr") rReprB := by
  intro pins s σ H xs us Q I r h
  obtain ⟨b, rfl, q⟩ := h
  obtain ⟨u, rfl, rb⟩ := vals1 r
  cases (show u = Value.bool b from rb)
  exact PySem.P.repr_of_bool ⟨.str (strB b), H, I.tok _, ⟨s.toks, rfl⟩, q⟩
theorem g_repr {b : Bool} {H : Hp} {Q : VK} (h : Q (.str (strB b)) H) : rReprB [.bl b] H Q := ⟨b, rfl, h⟩
section
variable {K : PySem.W.Frag} {σ : St} {H : Hp} {Q : VK} {D : Ends} {t u : TS}
theorem g_join (J : L2.St → Hp → Prop) (h : t { D with nx := J } σ H) (h2 : ∀ σ' H', J σ' H' → u D σ' H') : tJoin t u D σ H := ⟨J, h, h2⟩
theorem g_while {c : TT} (W : Nat → L2.St → Hp → Prop) (m : Nat) (h0 : W m σ H)
    (h : ∀ m σ H, W m σ H → c σ H fun b H1 => if b = true then ∃ N : L2.St → Hp → Prop, (∀ σ' H', N σ' H' → ∃ m', m' < m ∧ W m' σ' H') ∧ t { D with nx := N, ct := N, bk := D.nx } σ H1 else D.nx σ H1) : tWhile c t D σ H := ⟨W, ⟨m, h0⟩, h⟩
theorem g_loop {W : Nat → L2.St → Hp → Prop} {m : Nat} (h : t { D with nx := fun σ' H' => ∃ m', m' < m ∧ W m' σ' H', ct := fun σ' H' => ∃ m', m' < m ∧ W m' σ' H', bk := D.nx } σ H) :
    ∃ N : L2.St → Hp → Prop, (∀ σ' H', N σ' H' → ∃ m', m' < m ∧ W m' σ' H') ∧ t { D with nx := N, ct := N, bk := D.nx } σ H := ⟨_, fun _ _ z => z, h⟩
theorem g_rSub {i j : Int} (h : Q (.int (i - j)) H) : rSub (.int i) (.int j) H Q := ⟨i, j, rfl, rfl, h⟩
theorem cutI {xs : List Int} {y r : Int} (h : 0 ≤ r) : cutV (xs.map V.int ++ [.int y]) none (some r) = ((xs ++ [y]).take r.toNat).map V.int := by
  have e : r = ((r.toNat : Nat) : Int) := (Int.toNat_of_nonneg h).symm
  rw [e, cut_to, List.map_take, List.map_append]
  rfl
theorem inV_int (n : Int) : ∀ ns : List Int, inV (.int n) (ns.map V.int) = decide (n ∈ ns)
  | [] => rfl
  | a :: r => by
    show (eqV (.int a) (.int n) || inV (.int n) (r.map V.int)) = _
    rw [inV_int n r]
    show (decide (a = n) || decide (n ∈ r)) = decide (n ∈ a :: r)
    by_cases c : a = n
    · subst c; simp
    · have c' : ¬ n = a := fun e => c e.symm
      simp [c, c']
theorem flat_ints : ∀ ns : List Int, (ns.map V.int).all flatV = true
  | [] => rfl
  | _ :: r => by simp only [List.map_cons, List.all_cons, flat_ints r, flatV, Bool.and_self]
theorem g_inLI {n : Int} {p : Addr} {ns : List Int} (e : SqL K H p (ns.map V.int)) (h : Q (.bl (decide (n ∈ ns))) H) : rIn K false (.int n) (.ref p) H Q := g_inL e rfl (flat_ints ns) (by rw [inV_int]; exact h)
theorem g_ninLI {n : Int} {p : Addr} {ns : List Int} (e : SqL K H p (ns.map V.int)) (h : Q (.bl (!decide (n ∈ ns))) H) : rIn K true (.int n) (.ref p) H Q := g_ninL e rfl (flat_ints ns) (by rw [inV_int]; exact h)
theorem g_pop0 {l : Addr} {x : V} {xs : List V} (e : H l = some (.lst (x :: xs))) (h : ∀ H', Ext [l] H H' → H' l = some (.lst xs) → Q x H') : rPopAt (.ref l) [.int 0] H Q :=
  ⟨l, x :: xs, 0, 0, x, rfl, rfl, e, by decide, by decide, by simp [seqIndex?], rfl, h _ (Ext.wr e rfl) upd_same⟩
end
local macro_rules | `(tactic| walk_at "eo step") => `(tactic| first
  | ((with_reducible apply g_pop0); (walk_at "eo fact"); (intro _ _ _))
  | ((with_reducible apply g_inLI); (walk_at "eo sqL"))
  | ((with_reducible apply g_ninLI); (walk_at "eo sqL"))
  | with_reducible refine g_rSub ?_
  | with_reducible refine g_repr ?_
  | with_reducible refine g_loop ?_)
/-! ### Fair in the heap: what a write does -/
theorem Ext.one {O : List Addr} {a : Addr} {H H1 H2 : Hp} (e : Ext O H H1) (f : Ext [a] H1 H2) (m : a ∈ O) : Ext O H H2 := e.trans f (fun _ z => z) (fun x hx _ => by rw [List.mem_singleton.mp hx]; exact m)
theorem Ext.nil {O : List Addr} {H H1 H2 : Hp} (e : Ext O H H1) (f : Ext [] H1 H2) : Ext O H H2 := e.trans f (fun _ z => z) (fun x hx _ => by cases hx)
theorem fset_same {α : Type} {g : Int → α} {f : Int} {x : α} : fset g f x f = x := by unfold fset; rw [if_pos rfl]
theorem fset_ne {α : Type} {g : Int → α} {f k : Int} {x : α} (h : k ≠ f) : fset g f x k = g k := by unfold fset; rw [if_neg h]
theorem dks_ref {ks : List Int} {g : Int → Addr} {f : Int} {x : Addr} : dks ks (fset (fun k => V.ref (g k)) f (.ref x)) = dks ks fun k => .ref (fset g f x k) := by
  have e : fset (fun k => V.ref (g k)) f (.ref x) = fun k => V.ref (fset g f x k) := by
    funext k
    unfold fset
    by_cases c : k = f
    · rw [if_pos c, if_pos c]
    · rw [if_neg c, if_neg c]
  rw [e]
theorem dks_int {ks : List Int} {g : Int → Int} {f : Int} {x : Int} : dks ks (fset (fun k => V.int (g k)) f (.int x)) = dks ks fun k => .int (fset g f x k) := by
  have e : fset (fun k => V.int (g k)) f (.int x) = fun k => V.int (fset g f x k) := by
    funext k
    unfold fset
    by_cases c : k = f
    · rw [if_pos c, if_pos c]
    · rw [if_neg c, if_neg c]
  rw [e]
theorem fset_id {α : Type} {g : Int → α} {f : Int} : fset g f (g f) = g := by
  funext k
  unfold fset
  by_cases c : k = f
  · rw [if_pos c, c]
  · rw [if_neg c]
theorem fset_fset {α : Type} {g : Int → α} {f : Int} {x y : α} : fset (fset g f x) f y = fset g f y := by
  funext k
  unfold fset
  by_cases c : k = f
  · rw [if_pos c, if_pos c]
  · rw [if_neg c, if_neg c, if_neg c]
abbrev ff (r : Int) (l : Addr) : List (Str × V) := [("_room", .int r), ("_items", .ref l)]
/-- a row f with room r, its list l with the items xs -/
def Row (C : Addr) (H : Hp) (f l : Addr) (r : Int) (xs : List V) : Prop := (∃ dx, H f = some (.ins C dx (ff r l))) ∧ H l = some (.lst xs)
abbrev gf (r q : Int) (D T L : Addr) (b : Bool) : List (Str × V) := [("_room", .int r), ("_quantum", .int q), ("_flows", .ref D), ("_turns", .ref T), ("_left", .ref L), ("_has_begun", .bl b)]
/-- Fair at g with the state s; kl: the keys of the dict of what is left -/
structure FairAt (C CF : Addr) (H : Hp) (g D T L : Addr) (fa la : Int → Addr) (r q : Int) (kl : List Int) (s : AF) : Prop where
  hg : ∃ dx, H g = some (.ins C dx (gf r q D T L s.be))
  hD : H D = some (.dK (dks s.ks fun k => .ref (fa k)))
  hT : H T = some (.lst (s.tu.map V.int))
  hL : H L = some (.dK (dks kl fun k => .int (s.lf k)))
  row : ∀ k ∈ s.ks, ∃ xs, Row CF H (fa k) (la k) r xs ∧ ItsAt H xs (s.it k)
  nDL : D ≠ L
  nT : ∀ k ∈ s.ks, la k ≠ T
  nl : ∀ j ∈ s.ks, ∀ k ∈ s.ks, la j = la k → j = k
def ownF (g D T L : Addr) (fa la : Int → Addr) (ks : List Int) : List Addr := g :: D :: T :: L :: (ks.map fa ++ ks.map la)
section
variable {C CF : Addr} {H H' : Hp} {g D T L : Addr} {fa la : Int → Addr} {r q : Int} {kl : List Int} {s : AF} {A : List Addr}
theorem own_fa {ks : List Int} {k : Int} (h : k ∈ ks) : fa k ∈ ownF g D T L fa la ks := by
  unfold ownF
  exact List.mem_cons_of_mem _ (List.mem_cons_of_mem _ (List.mem_cons_of_mem _ (List.mem_cons_of_mem _ (List.mem_append_left _ (List.mem_map.mpr ⟨k, h, rfl⟩)))))
theorem own_la {ks : List Int} {k : Int} (h : k ∈ ks) : la k ∈ ownF g D T L fa la ks := by
  unfold ownF
  exact List.mem_cons_of_mem _ (List.mem_cons_of_mem _ (List.mem_cons_of_mem _ (List.mem_cons_of_mem _ (List.mem_append_right _ (List.mem_map.mpr ⟨k, h, rfl⟩)))))
theorem own_g {ks : List Int} : g ∈ ownF g D T L fa la ks := List.mem_cons_self
theorem own_D {ks : List Int} : D ∈ ownF g D T L fa la ks := List.mem_cons_of_mem _ List.mem_cons_self
theorem own_T {ks : List Int} : T ∈ ownF g D T L fa la ks := List.mem_cons_of_mem _ (List.mem_cons_of_mem _ List.mem_cons_self)
theorem own_L {ks : List Int} : L ∈ ownF g D T L fa la ks := List.mem_cons_of_mem _ (List.mem_cons_of_mem _ (List.mem_cons_of_mem _ List.mem_cons_self))
theorem own_cases {ks : List Int} {x : Addr} (h : x ∈ ownF g D T L fa la ks) : x = g ∨ x = D ∨ x = T ∨ x = L ∨ (∃ k ∈ ks, x = fa k) ∨ ∃ k ∈ ks, x = la k := by
  unfold ownF at h
  simp only [List.mem_cons, List.mem_append, List.mem_map] at h
  rcases h with h | h | h | h | ⟨k, h1, h2⟩ | ⟨k, h1, h2⟩
  · exact .inl h
  · exact .inr (.inl h)
  · exact .inr (.inr (.inl h))
  · exact .inr (.inr (.inr (.inl h)))
  · exact .inr (.inr (.inr (.inr (.inl ⟨k, h1, h2.symm⟩))))
  · exact .inr (.inr (.inr (.inr (.inr ⟨k, h1, h2.symm⟩))))
theorem FairAt.ext (F : FairAt C CF H g D T L fa la r q kl s) (e : Ext A H H') (n : ∀ x ∈ ownF g D T L fa la s.ks, x ∉ A) : FairAt C CF H' g D T L fa la r q kl s :=
  ⟨F.hg.imp fun _ h => e.keep _ _ h (n _ own_g), e.keep _ _ F.hD (n _ own_D), e.keep _ _ F.hT (n _ own_T), e.keep _ _ F.hL (n _ own_L),
    fun k hk => let ⟨xs, ⟨⟨dx, h1⟩, h2⟩, i⟩ := F.row k hk; ⟨xs, ⟨⟨dx, e.keep _ _ h1 (n _ (own_fa hk))⟩, e.keep _ _ h2 (n _ (own_la hk))⟩, i.ext e⟩, F.nDL, F.nT, F.nl⟩
theorem FairAt.ext0 (F : FairAt C CF H g D T L fa la r q kl s) (e : Ext [] H H') : FairAt C CF H' g D T L fa la r q kl s := F.ext e fun _ _ => nin0
theorem FairAt.wL (F : FairAt C CF H g D T L fa la r q kl s) {kl' : List Int} {lf' : Int → Int} (e : Ext [L] H H') (h : H' L = some (.dK (dks kl' fun k => .int (lf' k)))) : FairAt C CF H' g D T L fa la r q kl' ⟨s.ks, s.it, lf', s.tu, s.be⟩ := by
  obtain ⟨⟨dx, hg⟩, hD, hT, hL, row, nDL, nT, nl⟩ := F
  refine ⟨⟨dx, e.keep _ _ hg (nin1 (ne_of hg hL (by intro z; cases z)))⟩, e.keep _ _ hD (nin1 nDL), e.keep _ _ hT (nin1 (ne_of hT hL (by intro z; cases z))), h, fun k hk => ?_, nDL, nT, nl⟩
  obtain ⟨xs, ⟨⟨dy, h1⟩, h2⟩, i⟩ := row k hk
  exact ⟨xs, ⟨⟨dy, e.keep _ _ h1 (nin1 (ne_of h1 hL (by intro z; cases z)))⟩, e.keep _ _ h2 (nin1 (ne_of h2 hL (by intro z; cases z)))⟩, i.ext e⟩
theorem FairAt.wG (F : FairAt C CF H g D T L fa la r q kl s) {b : Bool} (e : Ext [g] H H') (h : ∃ dx, H' g = some (.ins C dx (gf r q D T L b))) : FairAt C CF H' g D T L fa la r q kl ⟨s.ks, s.it, s.lf, s.tu, b⟩ := by
  obtain ⟨⟨dx, hg⟩, hD, hT, hL, row, nDL, nT, nl⟩ := F
  refine ⟨h, e.keep _ _ hD (nin1 (ne_of hD hg (by intro z; cases z))), e.keep _ _ hT (nin1 (ne_of hT hg (by intro z; cases z))), e.keep _ _ hL (nin1 (ne_of hL hg (by intro z; cases z))), fun k hk => ?_, nDL, nT, nl⟩
  obtain ⟨xs, ⟨⟨dy, h1⟩, h2⟩, i⟩ := row k hk
  exact ⟨xs, ⟨⟨dy, e.keep _ _ h1 (nin1 (ne_of h1 hg (by intro z; cases z)))⟩, e.keep _ _ h2 (nin1 (ne_of h2 hg (by intro z; cases z)))⟩, i.ext e⟩
theorem FairAt.wT (F : FairAt C CF H g D T L fa la r q kl s) {tu' : List Int} (e : Ext [T] H H') (h : H' T = some (.lst (tu'.map V.int))) : FairAt C CF H' g D T L fa la r q kl ⟨s.ks, s.it, s.lf, tu', s.be⟩ := by
  obtain ⟨⟨dx, hg⟩, hD, hT, hL, row, nDL, nT, nl⟩ := F
  refine ⟨⟨dx, e.keep _ _ hg (nin1 (ne_of hg hT (by intro z; cases z)))⟩, e.keep _ _ hD (nin1 (ne_of hD hT (by intro z; cases z))), h, e.keep _ _ hL (nin1 (ne_of hL hT (by intro z; cases z))), fun k hk => ?_, nDL, nT, nl⟩
  obtain ⟨xs, ⟨⟨dy, h1⟩, h2⟩, i⟩ := row k hk
  exact ⟨xs, ⟨⟨dy, e.keep _ _ h1 (nin1 (ne_of h1 hT (by intro z; cases z)))⟩, e.keep _ _ h2 (nin1 (nT k hk))⟩, i.ext e⟩
theorem FairAt.wI (F : FairAt C CF H g D T L fa la r q kl s) {f : Int} (hf : f ∈ s.ks) {xs' : List V} {its : List (Int × V)} (e : Ext [la f] H H') (R : Row CF H' (fa f) (la f) r xs') (i' : ItsAt H' xs' its) : FairAt C CF H' g D T L fa la r q kl ⟨s.ks, fset s.it f its, s.lf, s.tu, s.be⟩ := by
  obtain ⟨⟨dx, hg⟩, hD, hT, hL, row, nDL, nT, nl⟩ := F
  obtain ⟨ys, ⟨⟨dz, z1⟩, z2⟩, _⟩ := row f hf
  refine ⟨⟨dx, e.keep _ _ hg (nin1 (ne_of hg z2 (by intro z; cases z)))⟩, e.keep _ _ hD (nin1 (ne_of hD z2 (by intro z; cases z))), e.keep _ _ hT (nin1 (nT f hf).symm), e.keep _ _ hL (nin1 (ne_of hL z2 (by intro z; cases z))), fun k hk => ?_, nDL, nT, nl⟩
  by_cases c : k = f
  · subst c
    exact ⟨xs', R, by show ItsAt H' xs' (fset s.it k its k); rw [fset_same]; exact i'⟩
  · obtain ⟨xs, ⟨⟨dy, h1⟩, h2⟩, i⟩ := row k hk
    exact ⟨xs, ⟨⟨dy, e.keep _ _ h1 (nin1 (ne_of h1 z2 (by intro z; cases z)))⟩, e.keep _ _ h2 (nin1 fun q => c (nl k hk f hf q))⟩, by show ItsAt H' xs (fset s.it f its k); rw [fset_ne c]; exact i.ext e⟩
/-- a new flow f -/
theorem FairAt.wN (F : FairAt C CF H g D T L fa la r q kl s) {f : Int} (hf : f ∉ s.ks) (h0 : s.it f = []) {p l : Addr} (np : H p = none) (nl' : H l = none) (e : Ext [D] H H') (R : Row CF H' p l r [])
    (h : H' D = some (.dK (putK (dks s.ks fun k => .ref (fa k)) (.inl f) (.ref p)))) : FairAt C CF H' g D T L (fset fa f p) (fset la f l) r q kl ⟨s.ks ++ [f], s.it, s.lf, s.tu, s.be⟩ := by
  obtain ⟨⟨dx, hg⟩, hD, hT, hL, row, nDL, nT, nl⟩ := F
  have old : ∀ k ∈ s.ks, k ≠ f := fun k hk c => hf (c ▸ hk)
  refine ⟨⟨dx, e.keep _ _ hg (nin1 (ne_of hg hD (by intro z; cases z)))⟩, ?_, e.keep _ _ hT (nin1 (ne_of hT hD (by intro z; cases z))), e.keep _ _ hL (nin1 nDL.symm), fun k hk => ?_, nDL, fun k hk => ?_, fun j hj k hk c => ?_⟩
  · rw [h, put_dks_new _ hf]
    rw [dks_ref]
  · rcases List.mem_append.mp hk with hk | hk
    · obtain ⟨xs, ⟨⟨dy, h1⟩, h2⟩, i⟩ := row k hk
      rw [fset_ne (old k hk), fset_ne (old k hk)]
      exact ⟨xs, ⟨⟨dy, e.keep _ _ h1 (nin1 (ne_of h1 hD (by intro z; cases z)))⟩, e.keep _ _ h2 (nin1 (ne_of h2 hD (by intro z; cases z)))⟩, i.ext e⟩
    · rw [List.mem_singleton.mp hk, fset_same, fset_same]
      refine ⟨[], R, ?_⟩
      show ItsAt H' [] (s.it f)
      rw [h0]
      trivial
  · rcases List.mem_append.mp hk with hk | hk
    · rw [fset_ne (old k hk)]; exact nT k hk
    · rw [List.mem_singleton.mp hk, fset_same]; exact (ne_of_none hT nl').symm
  · rcases List.mem_append.mp hj with hj | hj
    · rw [fset_ne (old j hj)] at c
      rcases List.mem_append.mp hk with hk | hk
      · rw [fset_ne (old k hk)] at c; exact nl j hj k hk c
      · rw [List.mem_singleton.mp hk, fset_same] at c
        obtain ⟨_, ⟨_, h2⟩, _⟩ := row j hj
        rw [c, nl'] at h2; cases h2
    · rw [List.mem_singleton.mp hj, fset_same] at c
      rcases List.mem_append.mp hk with hk | hk
      · rw [fset_ne (old k hk)] at c
        obtain ⟨_, ⟨_, h2⟩, _⟩ := row k hk
        rw [← c, nl'] at h2; cases h2
      · rw [List.mem_singleton.mp hj, List.mem_singleton.mp hk]
end
def af0 : AF := ⟨[], fun _ => [], fun _ => 0, [], false⟩
def AF.all (s : AF) : Int := (s.ks.map fun k => ((s.it k).length : Int)).sum
def AF.ku (s : AF) (f : Int) : List Int := if f ∈ s.ks then s.ks else s.ks ++ [f]
def AF.put (s : AF) (f z : Int) (v : V) : AF := ⟨s.ku f, fset s.it f (s.it f ++ [(z, v)]), if f ∈ s.tu then s.lf else fset s.lf f 0, if f ∈ s.tu then s.tu else s.tu ++ [f], s.be⟩
theorem put_ku {s : AF} {g : Int → V} {f : Int} {x : V} : putK (dks s.ks g) (.inl f) x = dks (s.ku f) (fset g f x) := by
  unfold AF.ku
  by_cases h : f ∈ s.ks
  · rw [if_pos h]; exact put_dks x h
  · rw [if_neg h]; exact put_dks_new x h
/-! ### the law's own flows -/
structure LawAt (H : Hp) (D T L B : Addr) (wa : Int → Addr) (kd kl : List Int) (s : AF) : Prop where
  hD : H D = some (.dK (dks kd fun k => .ref (wa k)))
  hT : H T = some (.lst (s.tu.map V.int))
  hL : H L = some (.dK (dks kl fun k => .int (s.lf k)))
  hB : H B = some (.lst [.bl s.be])
  row : ∀ k ∈ kd, ∃ xs, H (wa k) = some (.lst xs) ∧ ItsAt H xs (s.it k)
  nDL : D ≠ L
  nTB : T ≠ B
  nT : ∀ k ∈ kd, wa k ≠ T
  nB : ∀ k ∈ kd, wa k ≠ B
  nl : ∀ j ∈ kd, ∀ k ∈ kd, wa j = wa k → j = k
def ownL (D T L B : Addr) (wa : Int → Addr) (ks : List Int) : List Addr := D :: T :: L :: B :: ks.map wa
section
variable {H H' : Hp} {D T L B : Addr} {wa : Int → Addr} {kd kl : List Int} {s : AF} {A : List Addr}
theorem ol_D {ks : List Int} : D ∈ ownL D T L B wa ks := List.mem_cons_self
theorem ol_T {ks : List Int} : T ∈ ownL D T L B wa ks := List.mem_cons_of_mem _ List.mem_cons_self
theorem ol_L {ks : List Int} : L ∈ ownL D T L B wa ks := List.mem_cons_of_mem _ (List.mem_cons_of_mem _ List.mem_cons_self)
theorem ol_B {ks : List Int} : B ∈ ownL D T L B wa ks := List.mem_cons_of_mem _ (List.mem_cons_of_mem _ (List.mem_cons_of_mem _ List.mem_cons_self))
theorem ol_wa {ks : List Int} {k : Int} (h : k ∈ ks) : wa k ∈ ownL D T L B wa ks := List.mem_cons_of_mem _ (List.mem_cons_of_mem _ (List.mem_cons_of_mem _ (List.mem_cons_of_mem _ (List.mem_map.mpr ⟨k, h, rfl⟩))))
theorem ol_cases {ks : List Int} {x : Addr} (h : x ∈ ownL D T L B wa ks) : x = D ∨ x = T ∨ x = L ∨ x = B ∨ ∃ k ∈ ks, x = wa k := by
  unfold ownL at h
  simp only [List.mem_cons, List.mem_map] at h
  rcases h with h | h | h | h | ⟨k, h1, h2⟩
  · exact .inl h
  · exact .inr (.inl h)
  · exact .inr (.inr (.inl h))
  · exact .inr (.inr (.inr (.inl h)))
  · exact .inr (.inr (.inr (.inr ⟨k, h1, h2.symm⟩)))
theorem LawAt.ext (F : LawAt H D T L B wa kd kl s) (e : Ext A H H') (n : ∀ x ∈ ownL D T L B wa kd, x ∉ A) : LawAt H' D T L B wa kd kl s :=
  ⟨e.keep _ _ F.hD (n _ ol_D), e.keep _ _ F.hT (n _ ol_T), e.keep _ _ F.hL (n _ ol_L), e.keep _ _ F.hB (n _ ol_B),
    fun k hk => let ⟨xs, h2, i⟩ := F.row k hk; ⟨xs, e.keep _ _ h2 (n _ (ol_wa hk)), i.ext e⟩, F.nDL, F.nTB, F.nT, F.nB, F.nl⟩
theorem LawAt.ext0 (F : LawAt H D T L B wa kd kl s) (e : Ext [] H H') : LawAt H' D T L B wa kd kl s := F.ext e fun _ _ => nin0
/-- all its places stand -/
theorem LawAt.stand (F : LawAt H D T L B wa kd kl s) : ∀ x ∈ ownL D T L B wa kd, ∃ o, H x = some o := fun x hx => by
  rcases ol_cases hx with c | c | c | c | ⟨k, hk, c⟩
  · rw [c]; exact ⟨_, F.hD⟩
  · rw [c]; exact ⟨_, F.hT⟩
  · rw [c]; exact ⟨_, F.hL⟩
  · rw [c]; exact ⟨_, F.hB⟩
  · obtain ⟨xs, h, _⟩ := F.row k hk
    rw [c]; exact ⟨_, h⟩
theorem LawAt.wL (F : LawAt H D T L B wa kd kl s) {kl' : List Int} {lf' : Int → Int} (e : Ext [L] H H') (h : H' L = some (.dK (dks kl' fun k => .int (lf' k)))) : LawAt H' D T L B wa kd kl' ⟨s.ks, s.it, lf', s.tu, s.be⟩ := by
  obtain ⟨hD, hT, hL, hB, row, nDL, nTB, nT, nB, nl⟩ := F
  refine ⟨e.keep _ _ hD (nin1 nDL), e.keep _ _ hT (nin1 (ne_of hT hL (by intro z; cases z))), h, e.keep _ _ hB (nin1 (ne_of hB hL (by intro z; cases z))), fun k hk => ?_, nDL, nTB, nT, nB, nl⟩
  obtain ⟨xs, h2, i⟩ := row k hk
  exact ⟨xs, e.keep _ _ h2 (nin1 (ne_of h2 hL (by intro z; cases z))), i.ext e⟩
theorem LawAt.wB (F : LawAt H D T L B wa kd kl s) {b : Bool} (e : Ext [B] H H') (h : H' B = some (.lst [.bl b])) : LawAt H' D T L B wa kd kl ⟨s.ks, s.it, s.lf, s.tu, b⟩ := by
  obtain ⟨hD, hT, hL, hB, row, nDL, nTB, nT, nB, nl⟩ := F
  refine ⟨e.keep _ _ hD (nin1 (ne_of hD hB (by intro z; cases z))), e.keep _ _ hT (nin1 nTB), e.keep _ _ hL (nin1 (ne_of hL hB (by intro z; cases z))), h, fun k hk => ?_, nDL, nTB, nT, nB, nl⟩
  obtain ⟨xs, h2, i⟩ := row k hk
  exact ⟨xs, e.keep _ _ h2 (nin1 (nB k hk)), i.ext e⟩
theorem LawAt.wT (F : LawAt H D T L B wa kd kl s) {tu' : List Int} (e : Ext [T] H H') (h : H' T = some (.lst (tu'.map V.int))) : LawAt H' D T L B wa kd kl ⟨s.ks, s.it, s.lf, tu', s.be⟩ := by
  obtain ⟨hD, hT, hL, hB, row, nDL, nTB, nT, nB, nl⟩ := F
  refine ⟨e.keep _ _ hD (nin1 (ne_of hD hT (by intro z; cases z))), h, e.keep _ _ hL (nin1 (ne_of hL hT (by intro z; cases z))), e.keep _ _ hB (nin1 nTB.symm), fun k hk => ?_, nDL, nTB, nT, nB, nl⟩
  obtain ⟨xs, h2, i⟩ := row k hk
  exact ⟨xs, e.keep _ _ h2 (nin1 (nT k hk)), i.ext e⟩
theorem LawAt.wI (F : LawAt H D T L B wa kd kl s) {f : Int} (hf : f ∈ kd) {xs' : List V} {its : List (Int × V)} (e : Ext [wa f] H H') (R : H' (wa f) = some (.lst xs')) (i' : ItsAt H' xs' its) : LawAt H' D T L B wa kd kl ⟨s.ks, fset s.it f its, s.lf, s.tu, s.be⟩ := by
  obtain ⟨hD, hT, hL, hB, row, nDL, nTB, nT, nB, nl⟩ := F
  obtain ⟨ys, z2, _⟩ := row f hf
  refine ⟨e.keep _ _ hD (nin1 (ne_of hD z2 (by intro z; cases z))), e.keep _ _ hT (nin1 (nT f hf).symm), e.keep _ _ hL (nin1 (ne_of hL z2 (by intro z; cases z))), e.keep _ _ hB (nin1 (nB f hf).symm), fun k hk => ?_, nDL, nTB, nT, nB, nl⟩
  by_cases c : k = f
  · subst c
    exact ⟨xs', R, by show ItsAt H' xs' (fset s.it k its k); rw [fset_same]; exact i'⟩
  · obtain ⟨xs, h2, i⟩ := row k hk
    exact ⟨xs, e.keep _ _ h2 (nin1 fun q => c (nl k hk f hf q)), by show ItsAt H' xs (fset s.it f its k); rw [fset_ne c]; exact i.ext e⟩
/-- a new flow f -/
theorem LawAt.wN (F : LawAt H D T L B wa kd kl s) {f : Int} (hf : f ∉ kd) (h0 : s.it f = []) {l : Addr} (nl' : H l = none) (e : Ext [D] H H') (R : H' l = some (.lst []))
    (h : H' D = some (.dK (putK (dks kd fun k => .ref (wa k)) (.inl f) (.ref l)))) : LawAt H' D T L B (fset wa f l) (kd ++ [f]) kl s := by
  obtain ⟨hD, hT, hL, hB, row, nDL, nTB, nT, nB, nl⟩ := F
  have old : ∀ k ∈ kd, k ≠ f := fun k hk c => hf (c ▸ hk)
  refine ⟨by rw [h, put_dks_new _ hf, dks_ref], e.keep _ _ hT (nin1 (ne_of hT hD (by intro z; cases z))), e.keep _ _ hL (nin1 nDL.symm), e.keep _ _ hB (nin1 (ne_of hB hD (by intro z; cases z))), fun k hk => ?_, nDL, nTB, fun k hk => ?_, fun k hk => ?_, fun j hj k hk c => ?_⟩
  · rcases List.mem_append.mp hk with hk | hk
    · obtain ⟨xs, h2, i⟩ := row k hk
      rw [fset_ne (old k hk)]
      exact ⟨xs, e.keep _ _ h2 (nin1 (ne_of h2 hD (by intro z; cases z))), i.ext e⟩
    · rw [List.mem_singleton.mp hk, fset_same]
      refine ⟨[], R, ?_⟩
      rw [h0]
      trivial
  · rcases List.mem_append.mp hk with hk | hk
    · rw [fset_ne (old k hk)]; exact nT k hk
    · rw [List.mem_singleton.mp hk, fset_same]; exact (ne_of_none hT nl').symm
  · rcases List.mem_append.mp hk with hk | hk
    · rw [fset_ne (old k hk)]; exact nB k hk
    · rw [List.mem_singleton.mp hk, fset_same]; exact (ne_of_none hB nl').symm
  · rcases List.mem_append.mp hj with hj | hj
    · rw [fset_ne (old j hj)] at c
      rcases List.mem_append.mp hk with hk | hk
      · rw [fset_ne (old k hk)] at c; exact nl j hj k hk c
      · rw [List.mem_singleton.mp hk, fset_same] at c
        obtain ⟨_, h2, _⟩ := row j hj
        rw [c, nl'] at h2; cases h2
    · rw [List.mem_singleton.mp hj, fset_same] at c
      rcases List.mem_append.mp hk with hk | hk
      · rw [fset_ne (old k hk)] at c
        obtain ⟨_, h2, _⟩ := row k hk
        rw [← c, nl'] at h2; cases h2
      · rw [List.mem_singleton.mp hj, List.mem_singleton.mp hk]
theorem LawAt.ks' {k1 k2 : List Int} {it : Int → List (Int × V)} {lf : Int → Int} {tu : List Int} {be : Bool} (F : LawAt H D T L B wa kd kl ⟨k1, it, lf, tu, be⟩) : LawAt H D T L B wa kd kl ⟨k2, it, lf, tu, be⟩ := ⟨F.1, F.2, F.3, F.4, F.5, F.6, F.7, F.8, F.9, F.10⟩
end
/-! ### taking: determined; what stays -/
theorem tk_det {q : Int} {s : AF} {v : V} {s1 : AF} (t : Tk q s v s1) : ∀ {w : V} {s2 : AF}, Tk q s w s2 → v = w ∧ s1 = s2 := by
  induction t with
  | no h =>
    intro w s2 u
    cases u with
    | no _ => exact ⟨rfl, rfl⟩
    | out h' _ _ => rw [h] at h'; cases h'
    | turn h' _ _ _ => rw [h] at h'; cases h'
  | out h i l =>
    intro w s2 u
    cases u with
    | no h' => rw [h] at h'; cases h'
    | out h' i' l' =>
      rw [h] at h'; cases h'
      rw [i] at i'; cases i'
      exact ⟨rfl, rfl⟩
    | turn h' i' l' _ =>
      rw [h] at h'; cases h'
      rw [i] at i'; cases i'
      exact absurd l l'
  | turn h i l _ ih =>
    intro w s2 u
    cases u with
    | no h' => rw [h] at h'; cases h'
    | out h' i' l' =>
      rw [h] at h'; cases h'
      rw [i] at i'; cases i'
      exact absurd l' l
    | turn h' i' l' u' =>
      rw [h] at h'; cases h'
      exact ih u'
theorem Tk.ks {q : Int} {s s' : AF} {v : V} (t : Tk q s v s') : s'.ks = s.ks := by
  induction t with
  | no _ => rfl
  | out _ _ _ => rfl
  | turn _ _ _ _ ih => exact ih
theorem Tk.tu {q : Int} {s s' : AF} {v : V} (t : Tk q s v s') : s'.tu.length ≤ s.tu.length := by
  induction t with
  | no _ => exact Nat.le_refl _
  | @out s f rest z v its h i l =>
    show (if its = [] then rest else f :: rest).length ≤ _
    rw [h]
    split
    · simp
    · exact Nat.le_refl _
  | @turn s s' f rest z v w its h i l _ ih =>
    refine Nat.le_trans ih ?_
    show (rest ++ [f]).length ≤ _
    rw [h]
    simp
theorem Tk.len {q : Int} {s s' : AF} {v : V} (t : Tk q s v s') (k : Int) : (s'.it k).length ≤ (s.it k).length := by
  induction t with
  | no _ => exact Nat.le_refl _
  | @out s f rest z v its h i l =>
    show (fset s.it f its k).length ≤ _
    unfold fset
    split
    · rename_i c
      rw [c, i]
      simp
    · exact Nat.le_refl _
  | turn _ _ _ _ ih => exact ih
theorem Tk.off {q : Int} {s s' : AF} {v : V} (t : Tk q s v s') : (∀ k, k ∉ s.ks → s.it k = []) → ∀ k, k ∉ s'.ks → s'.it k = [] := fun off k hk => by
  have h := t.len k
  rw [off k (by rw [← t.ks]; exact hk)] at h
  exact List.length_eq_zero_iff.mp (Nat.le_zero.mp h)
theorem Tk.itm {q : Int} {s s' : AF} {v : V} (Pr : Int × V → Prop) (t : Tk q s v s') : (∀ k, ∀ p ∈ s.it k, Pr p) → (v = .non ∨ ∃ z, Pr (z, v)) ∧ ∀ k, ∀ p ∈ s'.it k, Pr p := by
  induction t with
  | no _ => exact fun h => ⟨.inl rfl, h⟩
  | @out s f rest z v its h i l =>
    intro a
    refine ⟨.inr ⟨z, a f _ (by rw [i]; exact List.mem_cons_self)⟩, fun k p hp => ?_⟩
    have hp' : p ∈ fset s.it f its k := hp
    unfold fset at hp'
    split at hp'
    · exact a f p (by rw [i]; exact List.mem_cons_of_mem _ hp')
    · exact a k p hp'
  | turn _ _ _ _ ih => exact ih
theorem ku_mem {s : AF} {f : Int} : f ∈ s.ku f := by
  unfold AF.ku
  split
  · assumption
  · exact List.mem_append_right _ List.mem_cons_self
theorem ku_old {s : AF} {f k : Int} (h : k ∈ s.ks) : k ∈ s.ku f := by
  unfold AF.ku
  split
  · exact h
  · exact List.mem_append_left _ h
theorem ku_len {s : AF} {f : Int} : (s.ku f).length ≤ s.ks.length + 1 := by
  unfold AF.ku
  split
  · omega
  · rw [List.length_append]; exact Nat.le_refl _
theorem nodup_snoc {l : List Int} {f : Int} (n : l.Nodup) (h : f ∉ l) : (l ++ [f]).Nodup := by
  rw [List.nodup_append]
  exact ⟨n, by simp, fun x hx y hy e => by rw [List.mem_singleton.mp hy] at e; exact h (e ▸ hx)⟩
theorem WF.put {s : AF} {f z : Int} {v : V} (w : WF s) : WF (s.put f z v) := by
  refine ⟨fun g hg => ?_, fun g hg => ?_, ?_, ?_⟩
  · have hg' : g ∈ (if f ∈ s.tu then s.tu else s.tu ++ [f]) := hg
    show g ∈ s.ku f
    split at hg'
    · exact ku_old (w.inK g hg')
    · rcases List.mem_append.mp hg' with c | c
      · exact ku_old (w.inK g c)
      · rw [List.mem_singleton.mp c]; exact ku_mem
  · have hg' : g ∈ (if f ∈ s.tu then s.tu else s.tu ++ [f]) := hg
    show fset s.it f (s.it f ++ [(z, v)]) g ≠ []
    unfold fset
    split
    · simp
    · rename_i c
      refine w.has g ?_
      split at hg'
      · exact hg'
      · rcases List.mem_append.mp hg' with d | d
        · exact d
        · exact absurd (List.mem_singleton.mp d) c
  · show (s.ku f).Nodup
    unfold AF.ku
    split
    · exact w.nd
    · rename_i c; exact nodup_snoc w.nd c
  · show (if f ∈ s.tu then s.tu else s.tu ++ [f]).Nodup
    split
    · exact w.nt
    · rename_i c; exact nodup_snoc w.nt c
theorem off_put {s : AF} {f z : Int} {v : V} (off : ∀ k, k ∉ s.ks → s.it k = []) : ∀ k, k ∉ (s.put f z v).ks → (s.put f z v).it k = [] := fun k hk => by
  have c : k ≠ f := fun e => hk (by rw [e]; exact ku_mem)
  show fset s.it f _ k = []
  rw [fset_ne c]
  exact off k fun h => hk (ku_old h)
theorem put_itm {s : AF} {f z : Int} {v : V} (Pr : Int × V → Prop) (h : ∀ k, ∀ p ∈ s.it k, Pr p) (h2 : Pr (z, v)) : ∀ k, ∀ p ∈ (s.put f z v).it k, Pr p := fun k p hp => by
  have hp' : p ∈ fset s.it f (s.it f ++ [(z, v)]) k := hp
  unfold fset at hp'
  split at hp'
  · rcases List.mem_append.mp hp' with c | c
    · exact h f p c
    · rw [List.mem_singleton.mp c]; exact h2
  · exact h k p hp'
theorem put_len {s : AF} {f z : Int} {v : V} {r : Int} (h : ∀ k, ((s.it k).length : Int) ≤ r) (h2 : ((s.it f).length : Int) ≠ r) : ∀ k, (((s.put f z v).it k).length : Int) ≤ r := fun k => by
  show ((fset s.it f (s.it f ++ [(z, v)]) k).length : Int) ≤ r
  unfold fset
  have := h f
  split
  · rw [List.length_append, List.length_singleton]; omega
  · exact h k
theorem put_tu {s : AF} {f z : Int} {v : V} : (s.put f z v).tu.length ≤ s.tu.length + 1 := by
  show (if f ∈ s.tu then s.tu else s.tu ++ [f]).length ≤ _
  split
  · omega
  · rw [List.length_append]; exact Nat.le_refl _
/-! ### the race of two flows -/
/-- G: what each flow was given -/
structure RI (q M : Int) (s : AF) (G : Int → Int) : Prop where
  tu : ∃ a b e, s.tu = [a, b] ∧ ((a = 0 ∧ b = 1 ∧ e = 0) ∨ (a = 1 ∧ b = 0 ∧ e = -q)) ∧ G a + s.lf a - G b - s.lf b = e + (if s.be = true then q else 0) ∧
    0 ≤ s.lf a ∧ 0 ≤ s.lf b ∧ s.lf b < M ∧ s.lf a < M + (if s.be = true then q else 0)
  sz : ∀ k, ∀ p ∈ s.it k, 1 ≤ p.1 ∧ p.1 ≤ M
theorem race_step {q M : Int} (hq : 1 ≤ q) {s s' : AF} {v : V} (t : Tk q s v s') : ∀ {G : Int → Int}, RI q M s G → ∃ f z its, (f = 0 ∨ f = 1) ∧ s.it f = (z, v) :: its ∧ s'.it = fset s.it f its ∧ 1 ≤ z ∧
    (-(q + M) < fset G f (G f + z) 0 - fset G f (G f + z) 1 ∧ fset G f (G f + z) 0 - fset G f (G f + z) 1 < q + M) ∧ (its ≠ [] → RI q M s' (fset G f (G f + z))) := by
  induction t with
  | no h =>
    intro G R
    obtain ⟨a, b, e, ht, _⟩ := R.tu
    rw [h] at ht; cases ht
  | @out s f rest z v its h i l =>
    intro G R
    obtain ⟨⟨a, b, e, ht, hab, he, a0, b0, bM, aM⟩, sz⟩ := R
    rw [h] at ht
    cases ht
    have hz := sz f (z, v) (by rw [i]; exact List.mem_cons_self)
    dsimp only at hz
    refine ⟨f, z, its, by omega, i, rfl, hz.1, ?_, fun ne => ⟨⟨f, b, e, ?_, hab, ?_, ?_, ?_, ?_, ?_⟩, fun k p hp => ?_⟩⟩
    · unfold AF.got at l
      unfold fset
      cases hb : s.be with
      | true =>
        rw [hb] at l he aM
        simp only [if_true] at l he aM
        rcases hab with ⟨rfl, rfl, rfl⟩ | ⟨rfl, rfl, rfl⟩
        · rw [if_pos rfl, if_neg (by decide)]; omega
        · rw [if_neg (by decide), if_pos rfl]; omega
      | false =>
        rw [hb] at l he aM
        simp only [Bool.false_eq_true, if_false] at l he aM
        rcases hab with ⟨rfl, rfl, rfl⟩ | ⟨rfl, rfl, rfl⟩
        · rw [if_pos rfl, if_neg (by decide)]; omega
        · rw [if_neg (by decide), if_pos rfl]; omega
    · show (if its = [] then [b] else [f, b]) = _
      rw [if_neg ne]
    · have hfb : b ≠ f := by omega
      show fset G f (G f + z) f + fset s.lf f (s.got q f - z) f - fset G f (G f + z) b - fset s.lf f (s.got q f - z) b = e + (if (if its = [] then false else true) = true then q else 0)
      rw [fset_same, fset_same, fset_ne hfb, fset_ne hfb, if_neg ne, if_pos rfl]
      unfold AF.got
      cases hb : s.be with
      | true =>
        rw [hb, if_pos rfl] at he
        rw [if_pos rfl]; omega
      | false =>
        rw [hb, if_neg (by decide)] at he
        rw [if_neg (by decide)]; omega
    · show 0 ≤ fset s.lf f (s.got q f - z) f
      rw [fset_same]; omega
    · have hfb : b ≠ f := by omega
      show 0 ≤ fset s.lf f (s.got q f - z) b
      rw [fset_ne hfb]; exact b0
    · have hfb : b ≠ f := by omega
      show fset s.lf f (s.got q f - z) b < M
      rw [fset_ne hfb]; exact bM
    · show fset s.lf f (s.got q f - z) f < M + (if (if its = [] then false else true) = true then q else 0)
      rw [fset_same, if_neg ne, if_pos rfl]
      unfold AF.got
      cases hb : s.be with
      | true =>
        rw [hb, if_pos rfl] at aM
        rw [if_pos rfl]; omega
      | false =>
        rw [hb, if_neg (by decide)] at aM
        rw [if_neg (by decide)]; omega
    · have hp' : p ∈ fset s.it f its k := hp
      unfold fset at hp'
      split at hp'
      · exact sz f p (by rw [i]; exact List.mem_cons_of_mem _ hp')
      · exact sz k p hp'
  | @turn s s' f rest z v w its h i l _ ih =>
    intro G R
    obtain ⟨⟨a, b, e, ht, hab, he, a0, b0, bM, aM⟩, sz⟩ := R
    rw [h] at ht
    cases ht
    have hz := sz f (z, v) (by rw [i]; exact List.mem_cons_self)
    dsimp only at hz
    have hfb : b ≠ f := by omega
    refine ih (G := G) ⟨⟨b, f, -q - e, rfl, by omega, ?_, ?_, ?_, ?_, ?_⟩, sz⟩
    · show G b + fset s.lf f (s.got q f) b - G f - fset s.lf f (s.got q f) f = (-q - e) + (if false = true then q else 0)
      rw [fset_same, fset_ne hfb, if_neg (by decide)]
      unfold AF.got
      cases hb : s.be with
      | true =>
        rw [hb, if_pos rfl] at he
        rw [if_pos rfl]; omega
      | false =>
        rw [hb, if_neg (by decide)] at he
        rw [if_neg (by decide)]; omega
    · show 0 ≤ fset s.lf f (s.got q f) b
      rw [fset_ne hfb]; exact b0
    · show 0 ≤ fset s.lf f (s.got q f) f
      rw [fset_same]
      unfold AF.got
      split <;> omega
    · show fset s.lf f (s.got q f) f < M
      rw [fset_same]
      omega
    · show fset s.lf f (s.got q f) b < M + (if false = true then q else 0)
      rw [fset_ne hfb, if_neg (by decide)]; omega
/-! ### the two at once -/
theorem g_dsetd {σ : St} {H : Hp} {Q : VK} {td ty tx : TE} (h : td σ H fun x H1 => ∃ a, x = .ref a ∧ IsD H1 a ∧ ty σ H1 fun y H2 => tx σ H2 fun z H3 => ∃ (kvs : List (Key × V)) (k : Key), H3 a = some (.dK kvs) ∧ y = kV k ∧ kvs.length < sizeLine ∧
  (∀ v, valV kvs k = some v → Q v H3) ∧ (valV kvs k = none → Q z (upd H3 a (.dK (putK kvs k z))))) : tDSetd td ty tx σ H Q := h
theorem g_dsetd1 {H : Hp} {a : Addr} {kvs : List (Key × V)} {R : Addr → Prop} (e : H a = some (.dK kvs)) (h : R a) : ∃ a', V.ref a = .ref a' ∧ IsD H a' ∧ R a' := ⟨a, rfl, .inl ⟨kvs, .inl e⟩, h⟩
theorem g_dsetd2 {H : Hp} {a : Addr} {kvs : List (Key × V)} {i : Int} {z : V} {Q : VK} (e : H a = some (.dK kvs)) (l : kvs.length < 1000) (h1 : ∀ v, valV kvs (.inl i) = some v → Q v H)
    (h2 : valV kvs (.inl i) = none → ∀ H', Ext [a] H H' → H' a = some (.dK (putK kvs (.inl i) z)) → Q z H') : ∃ (kvs : List (Key × V)) (k : Key), H a = some (.dK kvs) ∧ V.int i = kV k ∧ kvs.length < sizeLine ∧
  (∀ v, valV kvs k = some v → Q v H) ∧ (valV kvs k = none → Q z (upd H a (.dK (putK kvs k z)))) := ⟨kvs, .inl i, e, rfl, by rw [sizeLine_eq]; omega, h1, fun n => h2 n _ (Ext.wr e rfl) upd_same⟩
theorem g_dgetIf {H : Hp} {a : Addr} {o : Obj} {kvs : List (Key × V)} {i : Int} {v : V} {R : V → Prop} (e : H a = some (.frz o (.dK kvs))) (l : valV kvs (.inl i) = some v) (h : R v) : ∃ a' v, V.ref a = .ref a' ∧ DGet H a' (.int i) (some v) ∧ R v :=
  ⟨a, v, rfl, .inl ⟨kvs, .inl i, .inr ⟨o, e⟩, rfl, l.symm⟩, h⟩
theorem g_iKeys {td : TE} {σ : St} {H : Hp} {R : It → Hp → Prop} (h : td σ H fun x H1 => ∃ d o, x = .ref d ∧ ((∃ kvs, H1 d = some (.frz o (.dK kvs)) ∧ R (Itk d o kvs) H1) ∨ ∃ kvs, H1 d = some (.frz o (.dT kvs)) ∧ R (Itkt d o kvs) H1)) : iKeys td σ H R := h
/-- all the places that the law holds -/
def ownM (d sc D2 T2 L2 B2 : Addr) (wa : Int → Addr) (ks : List Int) : List Addr := d :: sc :: ownL D2 T2 L2 B2 wa ks
structure Inv2 (C CF : Addr) (H : Hp) (d sc g D T L D2 T2 L2 B2 : Addr) (r q : Int) (i : Nat) (fa la wa : Int → Addr) (st : AF) (kd : List Int) : Prop where
  F : FairAt C CF H g D T L fa la r q st.ks st
  Lw : LawAt H D2 T2 L2 B2 wa kd st.ks st
  hd : DSt H d sc
  W : WF st
  off : ∀ k, k ∉ st.ks → st.it k = []
  iv : ∀ k, ∀ p ∈ st.it k, ∃ n, p.2 = .int n
  il : ∀ k, ((st.it k).length : Int) ≤ r
  kl : st.ks.length ≤ i
  tl : st.tu.length ≤ i
  dj : ∀ x ∈ ownF g D T L fa la st.ks, x ∉ ownM d sc D2 T2 L2 B2 wa kd
  dl : ∀ x ∈ ownL D2 T2 L2 B2 wa kd, x ≠ d ∧ x ≠ sc
section
variable {C CF : Addr} {H H' : Hp} {d sc g D T L D2 T2 L2 B2 : Addr} {r q : Int} {i : Nat} {fa la wa : Int → Addr} {st : AF} {kd : List Int}
theorem DSt.some2 (h : DSt H d sc) : (∃ o, H d = some o) ∧ ∃ o, H sc = some o := let ⟨_, _, _, _, _, h1, h2, _⟩ := h; ⟨⟨_, h1⟩, ⟨_, h2⟩⟩
theorem Inv2.stand (I : Inv2 C CF H d sc g D T L D2 T2 L2 B2 r q i fa la wa st kd) : ∀ x ∈ ownM d sc D2 T2 L2 B2 wa kd, ∃ o, H x = some o := fun x hx => by
  unfold ownM at hx
  rcases List.mem_cons.mp hx with c | c
  · rw [c]; exact I.hd.some2.1
  · rcases List.mem_cons.mp c with c | c
    · rw [c]; exact I.hd.some2.2
    · exact I.Lw.stand x c
theorem om_d {ks : List Int} : d ∈ ownM d sc D2 T2 L2 B2 wa ks := List.mem_cons_self
theorem om_sc {ks : List Int} : sc ∈ ownM d sc D2 T2 L2 B2 wa ks := List.mem_cons_of_mem _ List.mem_cons_self
theorem om_L {ks : List Int} {x : Addr} (h : x ∈ ownL D2 T2 L2 B2 wa ks) : x ∈ ownM d sc D2 T2 L2 B2 wa ks := List.mem_cons_of_mem _ (List.mem_cons_of_mem _ h)
/-- a draw -/
theorem Inv2.drw (I : Inv2 C CF H d sc g D T L D2 T2 L2 B2 r q i fa la wa st kd) (e : Ext [d] H H') (h : DSt H' d sc) : Inv2 C CF H' d sc g D T L D2 T2 L2 B2 r q i fa la wa st kd :=
  ⟨I.F.ext e fun x hx => nin1 fun c => I.dj x hx (c ▸ om_d), I.Lw.ext e fun x hx => nin1 (I.dl x hx).1, h, I.W, I.off, I.iv, I.il, I.kl, I.tl, I.dj, I.dl⟩
theorem Inv2.e0 (I : Inv2 C CF H d sc g D T L D2 T2 L2 B2 r q i fa la wa st kd) (e : Ext [] H H') : Inv2 C CF H' d sc g D T L D2 T2 L2 B2 r q i fa la wa st kd :=
  ⟨I.F.ext0 e, I.Lw.ext0 e, I.hd.ext e nin0 nin0, I.W, I.off, I.iv, I.il, I.kl, I.tl, I.dj, I.dl⟩
theorem Inv2.up (I : Inv2 C CF H d sc g D T L D2 T2 L2 B2 r q i fa la wa st kd) {j : Nat} (h : i ≤ j) : Inv2 C CF H d sc g D T L D2 T2 L2 B2 r q j fa la wa st kd :=
  ⟨I.F, I.Lw, I.hd, I.W, I.off, I.iv, I.il, Nat.le_trans I.kl h, Nat.le_trans I.tl h, I.dj, I.dl⟩
/-- the law's side is not touched when Fair's is -/
theorem Inv2.kept (I : Inv2 C CF H d sc g D T L D2 T2 L2 B2 r q i fa la wa st kd) (e : Ext (ownF g D T L fa la st.ks) H H') : LawAt H' D2 T2 L2 B2 wa kd st.ks st ∧ DSt H' d sc :=
  ⟨I.Lw.ext e fun x hx z => I.dj x z (om_L hx), I.hd.ext e (fun z => I.dj _ z om_d) (fun z => I.dj _ z om_sc)⟩
theorem Inv2.dj' (I : Inv2 C CF H d sc g D T L D2 T2 L2 B2 r q i fa la wa st kd) {O : List Addr} (o : ∀ x ∈ O, x ∈ ownF g D T L fa la st.ks ∨ H x = none) : ∀ x ∈ O, x ∉ ownM d sc D2 T2 L2 B2 wa kd := fun x hx z => by
  rcases o x hx with c | c
  · exact I.dj x c z
  · obtain ⟨u, h⟩ := I.stand x z
    rw [c] at h; cases h
end
/-! ### the race's rows -/
theorem FairAt.stand {C CF : Addr} {H : Hp} {g D T L : Addr} {fa la : Int → Addr} {r q : Int} {kl : List Int} {s : AF} (F : FairAt C CF H g D T L fa la r q kl s) : ∀ x ∈ ownF g D T L fa la s.ks, ∃ o, H x = some o := fun x hx => by
  rcases own_cases hx with y | y | y | y | ⟨k, hk, y⟩ | ⟨k, hk, y⟩
  · rw [y]; exact F.hg.elim fun _ h => ⟨_, h⟩
  · rw [y]; exact ⟨_, F.hD⟩
  · rw [y]; exact ⟨_, F.hT⟩
  · rw [y]; exact ⟨_, F.hL⟩
  · obtain ⟨_, ⟨⟨_, h⟩, _⟩, _⟩ := F.row k hk
    rw [y]; exact ⟨_, h⟩
  · obtain ⟨_, ⟨_, h⟩, _⟩ := F.row k hk
    rw [y]; exact ⟨_, h⟩
def ItOK (H : Hp) (zs : List Int) (f : Int) (its : List (Int × V)) : Prop := ∀ p ∈ its, p.1 ∈ zs ∧ ∃ t, p.2 = .ref t ∧ H t = some (.tup [.int f, .int p.1])
theorem ItOK.ext {A : List Addr} {H H' : Hp} {zs : List Int} {f : Int} {its : List (Int × V)} (h : ItOK H zs f its) (e : Ext A H H') : ItOK H' zs f its := fun p hp => let ⟨a, t, b, c⟩ := h p hp; ⟨a, t, b, e.imm _ _ c rfl⟩
structure RaceSt (H : Hp) (zs : List Int) (s : AF) (n0 n1 : Nat) : Prop where
  be : s.be = false
  lf : ∀ k, s.lf k = 0
  tu : s.tu = s.ks
  W : WF s
  off : ∀ k, k ∉ s.ks → s.it k = []
  ks : s.ks = if n0 = 0 then [] else if n1 = 0 then [0] else [0, 1]
  l0 : (s.it 0).length = n0
  l1 : (s.it 1).length = n1
  ok : ∀ k, ItOK H zs k (s.it k)
theorem RaceSt.ext {A : List Addr} {H H' : Hp} {zs : List Int} {s : AF} {n0 n1 : Nat} (h : RaceSt H zs s n0 n1) (e : Ext A H H') : RaceSt H' zs s n0 n1 := ⟨h.be, h.lf, h.tu, h.W, h.off, h.ks, h.l0, h.l1, fun k => (h.ok k).ext e⟩
theorem put_ok {H : Hp} {zs : List Int} {s : AF} {f z : Int} {t : Addr} (h : ∀ k, ItOK H zs k (s.it k)) (hz : z ∈ zs) (ht : H t = some (.tup [.int f, .int z])) : ∀ k, ItOK H zs k ((s.put f z (.ref t)).it k) := fun k p hp => by
  have hp' : p ∈ fset s.it f (s.it f ++ [(z, .ref t)]) k := hp
  unfold fset at hp'
  split at hp'
  · rename_i c
    subst c
    rcases List.mem_append.mp hp' with c | c
    · exact h k p c
    · rw [List.mem_singleton.mp c]; exact ⟨hz, t, rfl, ht⟩
  · exact h k p hp'
theorem RaceSt.put0 {H : Hp} {zs : List Int} {s : AF} {n : Nat} {z : Int} {t : Addr} (h : RaceSt H zs s n n) (hz : z ∈ zs) (ht : H t = some (.tup [.int 0, .int z])) : RaceSt H zs (s.put 0 z (.ref t)) (n + 1) n := by
  have hk := h.ks
  have e : (s.put 0 z (.ref t)).ks = (if n = 0 then [0] else [0, 1]) ∧ (s.put 0 z (.ref t)).tu = (if n = 0 then [0] else [0, 1]) := by
    show s.ku 0 = _ ∧ (if (0 : Int) ∈ s.tu then s.tu else s.tu ++ [0]) = _
    unfold AF.ku
    rw [h.tu, hk]
    cases n with
    | zero => exact ⟨rfl, rfl⟩
    | succ m =>
      simp only [if_neg (Nat.succ_ne_zero m)]
      exact ⟨rfl, rfl⟩
  refine ⟨h.be, fun k => ?_, by rw [e.1, e.2], h.W.put, off_put h.off, ?_, ?_, ?_, put_ok h.ok hz ht⟩
  · show (if (0 : Int) ∈ s.tu then s.lf else fset s.lf 0 0) k = 0
    split
    · exact h.lf k
    · unfold fset
      split
      · rfl
      · exact h.lf k
  · rw [e.1, if_neg (Nat.succ_ne_zero n)]
  · show (fset s.it 0 (s.it 0 ++ [(z, .ref t)]) 0).length = n + 1
    rw [fset_same, List.length_append, h.l0]; rfl
  · show (fset s.it 0 (s.it 0 ++ [(z, .ref t)]) 1).length = n
    rw [fset_ne (by decide), h.l1]
theorem RaceSt.put1 {H : Hp} {zs : List Int} {s : AF} {n : Nat} {z : Int} {t : Addr} (h : RaceSt H zs s (n + 1) n) (hz : z ∈ zs) (ht : H t = some (.tup [.int 1, .int z])) : RaceSt H zs (s.put 1 z (.ref t)) (n + 1) (n + 1) := by
  have hk := h.ks
  have e : (s.put 1 z (.ref t)).ks = [0, 1] ∧ (s.put 1 z (.ref t)).tu = [0, 1] := by
    show s.ku 1 = _ ∧ (if (1 : Int) ∈ s.tu then s.tu else s.tu ++ [1]) = _
    unfold AF.ku
    rw [h.tu, hk]
    simp only [if_neg (Nat.succ_ne_zero n)]
    cases n with
    | zero => exact ⟨rfl, rfl⟩
    | succ m =>
      simp only [if_neg (Nat.succ_ne_zero m)]
      exact ⟨rfl, rfl⟩
  refine ⟨h.be, fun k => ?_, by rw [e.1, e.2], h.W.put, off_put h.off, ?_, ?_, ?_, put_ok h.ok hz ht⟩
  · show (if (1 : Int) ∈ s.tu then s.lf else fset s.lf 1 0) k = 0
    split
    · exact h.lf k
    · unfold fset
      split
      · rfl
      · exact h.lf k
  · rw [e.1]; simp only [if_neg (Nat.succ_ne_zero n)]
  · show (fset s.it 1 (s.it 1 ++ [(z, .ref t)]) 0).length = n + 1
    rw [fset_ne (by decide), h.l0]
  · show (fset s.it 1 (s.it 1 ++ [(z, .ref t)]) 1).length = n + 1
    rw [fset_same, List.length_append, h.l1]; rfl
theorem RaceSt.nil {H : Hp} {zs : List Int} : RaceSt H zs af0 0 0 :=
  ⟨rfl, fun _ => rfl, rfl, ⟨fun f h => (by cases h), fun f h => (by cases h), List.nodup_nil, List.nodup_nil⟩, fun _ _ => rfl, rfl, rfl, rfl, fun k p h => (by cases h)⟩
theorem RaceSt.ri {H : Hp} {zs : List Int} {s : AF} {n : Nat} {q M : Int} (h : RaceSt H zs s (n + 1) (n + 1)) (hz : ∀ z ∈ zs, 1 ≤ z ∧ z ≤ M) (hM : 1 ≤ M) : RI q M s (fun _ => 0) := by
  refine ⟨⟨0, 1, 0, ?_, .inl ⟨rfl, rfl, rfl⟩, ?_, ?_, ?_, ?_, ?_⟩, fun k p hp => hz _ (h.ok k p hp).1⟩
  · rw [h.tu, h.ks]; rfl
  · rw [h.lf, h.lf, h.be]; rfl
  · rw [h.lf]; exact Int.le_refl _
  · rw [h.lf]; exact Int.le_refl _
  · rw [h.lf]; omega
  · rw [h.lf, h.be, if_neg (by decide)]; omega
theorem RaceSt.kl {H : Hp} {zs : List Int} {s : AF} {n0 n1 : Nat} (h : RaceSt H zs s n0 n1) : s.ks.length ≤ 2 := by
  rw [h.ks]
  by_cases c : n0 = 0
  · rw [if_pos c]; exact Nat.zero_le _
  · rw [if_neg c]
    by_cases d : n1 = 0
    · rw [if_pos d]; exact Nat.le_succ _
    · rw [if_neg d]; exact Nat.le_refl _
theorem at_z {zs : List Int} {i : Nat} (h : i < zs.length) : atI (zs.map V.int) (0 + (i : Int)) = some (.int zs[i]) := by
  have e : (0 + (i : Int)) = ((i : Nat) : Int) := by omega
  rw [e]
  refine atI_nat ?_
  rw [List.getElem?_map, List.getElem?_eq_getElem h]
  rfl
/-- a row of sizes -/
def SzAt (H : Hp) (x : V) (no : List Addr) : Prop := ∃ (l : Addr) (zs : List Int), x = .ref l ∧ H l = some (.lst (zs.map V.int)) ∧ zs.length = 40 ∧ (∀ z ∈ zs, 1 ≤ z ∧ z ≤ 200) ∧ l ∉ no
theorem SzAt.ext {H H' : Hp} {x : V} {no A : List Addr} (h : SzAt H x no) (e : Ext A H H') (s : ∀ y ∈ A, y ∈ no) : SzAt H' x no := let ⟨l, zs, a, b, c, d, f⟩ := h; ⟨l, zs, a, e.keep _ _ b fun z => f (s _ z), c, d, f⟩
structure PutInv (C CF : Addr) (H : Hp) (g D T L S l0 l1 : Addr) (z0 z1 : List Int) (q : Int) (fa la : Int → Addr) (st : AF) (n0 n1 : Nat) : Prop where
  F : FairAt C CF H g D T L fa la 400 q st.ks st
  R : RaceSt H (z0 ++ z1) st n0 n1
  hS : H S = some (.lst [.ref l0, .ref l1])
  h0 : H l0 = some (.lst (z0.map V.int))
  h1 : H l1 = some (.lst (z1.map V.int))
  no : ∀ x ∈ ownF g D T L fa la st.ks, x ≠ S ∧ x ≠ l0 ∧ x ≠ l1
section
variable {C CF : Addr} {H H' : Hp} {g D T L S l0 l1 : Addr} {z0 z1 : List Int} {q : Int} {fa la : Int → Addr} {st : AF} {n0 n1 : Nat}
theorem PutInv.e0 (I : PutInv C CF H g D T L S l0 l1 z0 z1 q fa la st n0 n1) (e : Ext [] H H') : PutInv C CF H' g D T L S l0 l1 z0 z1 q fa la st n0 n1 :=
  ⟨I.F.ext0 e, I.R.ext e, e.keep _ _ I.hS nin0, e.keep _ _ I.h0 nin0, e.keep _ _ I.h1 nin0, I.no⟩
theorem PutInv.next (I : PutInv C CF H g D T L S l0 l1 z0 z1 q fa la st n0 n1) {fa' la' : Int → Addr} {s2 : AF} {m0 m1 : Nat} (e : Ext (ownF g D T L fa la st.ks) H H') (o : ∀ x ∈ ownF g D T L fa' la' s2.ks, x ∈ ownF g D T L fa la st.ks ∨ H x = none)
    (F : FairAt C CF H' g D T L fa' la' 400 q s2.ks s2) (R : RaceSt H' (z0 ++ z1) s2 m0 m1) : PutInv C CF H' g D T L S l0 l1 z0 z1 q fa' la' s2 m0 m1 := by
  refine ⟨F, R, e.keep _ _ I.hS fun z => (I.no _ z).1 rfl, e.keep _ _ I.h0 fun z => (I.no _ z).2.1 rfl, e.keep _ _ I.h1 fun z => (I.no _ z).2.2 rfl, fun x hx => ?_⟩
  rcases o x hx with c | c
  · exact I.no x c
  · exact ⟨fun z => (by have h := I.hS; rw [← z, c] at h; cases h), fun z => (by have h := I.h0; rw [← z, c] at h; cases h), fun z => (by have h := I.h1; rw [← z, c] at h; cases h)⟩
end
/-- the race goes on -/
structure RunInv (C CF : Addr) (H : Hp) (g D T L gl ml : Addr) (zs : List Int) (q M : Int) (fa la : Int → Addr) (st : AF) (G : Int → Int) : Prop where
  F : FairAt C CF H g D T L fa la 400 q st.ks st
  W : WF st
  ok : ∀ k, ItOK H zs k (st.it k)
  hg : H gl = some (.lst [.int (G 0), .int (G 1)])
  hm : H ml = some (.lst [.int (40 - ((st.it 0).length : Int)), .int (40 - ((st.it 1).length : Int))])
  ng : gl ≠ ml
  no : ∀ x ∈ ownF g D T L fa la st.ks, x ≠ gl ∧ x ≠ ml
  ri : st.it 0 ≠ [] → st.it 1 ≠ [] → RI q M st G
  kl : st.ks.length ≤ 2
  tl : st.tu.length ≤ 2
/-! ### Fifo -/
def spFInit (C : Addr) : Sp := fun vs H Q _ => ∃ p dx r, vs = [.ref p, .int r] ∧ H p = some (.ins C dx []) ∧ ∀ l H', H l = none → Ext [p] H H' → Row C H' p l r [] → Q .non H'
def spFPut (C : Addr) : Sp := fun vs H Q _ => ∃ p l r xs v, vs = [.ref p, v] ∧ Row C H p l r xs ∧ xs.length < 1000 ∧ ((xs.length : Int) = r → Q (.bl false) H) ∧ ((xs.length : Int) ≠ r → ∀ H', Ext [l] H H' → Row C H' p l r (xs ++ [v]) → Q (.bl true) H')
def spFFirst (C : Addr) : Sp := fun vs H Q _ => ∃ p l r xs, vs = [.ref p] ∧ Row C H p l r xs ∧ Q (xs.headD .non) H
def spFTake (C : Addr) : Sp := fun vs H Q _ => ∃ p l r xs, vs = [.ref p] ∧ Row C H p l r xs ∧ (xs = [] → Q .non H) ∧ (∀ x t, xs = x :: t → ∀ H', Ext [l] H H' → Row C H' p l r t → Q x H')
def spFMany (C : Addr) : Sp := fun vs H Q _ => ∃ p l r xs, vs = [.ref p] ∧ Row C H p l r xs ∧ Q (.int xs.length) H
def spGMany (C CF : Addr) : Sp := fun vs H Q _ => ∃ g D T L fa la r q s, vs = [.ref g] ∧ FairAt C CF H g D T L fa la r q s.ks s ∧ s.ks.length ≤ 1000 ∧ ∀ H', Ext [] H H' → Q (.int s.all) H'
def spGInit (C CF : Addr) : Sp := fun vs H Q _ => ∃ p dx r q, vs = [.ref p, .int r, .int q] ∧ H p = some (.ins C dx []) ∧
  ∀ D T L H', H D = none → H T = none → H L = none → Ext [p] H H' → FairAt C CF H' p D T L (fun _ => 0) (fun _ => 0) r q [] af0 → Q .non H'
def spGPut (C CF : Addr) : Sp := fun vs H Q _ => ∃ g D T L fa la r q s f z v, vs = [.ref g, .int f, .int z, v] ∧ FairAt C CF H g D T L fa la r q s.ks s ∧ WF s ∧ (∀ k, k ∉ s.ks → s.it k = []) ∧ 1 ≤ r ∧ s.ks.length < 900 ∧ s.tu.length < 900 ∧ (s.it f).length < 900 ∧
  (((s.it f).length : Int) = r → ∀ fa' la' H', Ext (ownF g D T L fa la s.ks) H H' → (∀ x ∈ ownF g D T L fa' la' s.ks, x ∈ ownF g D T L fa la s.ks ∨ H x = none) → FairAt C CF H' g D T L fa' la' r q s.ks s → Q (.bl false) H') ∧
  (((s.it f).length : Int) ≠ r → ∀ fa' la' H', Ext (ownF g D T L fa la s.ks) H H' → (∀ x ∈ ownF g D T L fa' la' (s.ku f), x ∈ ownF g D T L fa la s.ks ∨ H x = none) → FairAt C CF H' g D T L fa' la' r q (s.ku f) (s.put f z v) → Q (.bl true) H')
def spGTake (C CF : Addr) : Sp := fun vs H Q _ => ∃ g D T L fa la r q s, vs = [.ref g] ∧ FairAt C CF H g D T L fa la r q s.ks s ∧ WF s ∧ 1 ≤ q ∧ s.ks.length < 900 ∧ s.tu.length < 900 ∧
  ∀ v s' H', Tk q s v s' → Ext (ownF g D T L fa la s.ks) H H' → FairAt C CF H' g D T L fa la r q s'.ks s' → Q v H'
def spLNext : Sp := fun vs H Q _ => ∃ D T L B wa q s, vs = [.ref D, .ref T, .ref L, .ref B, .int q] ∧ LawAt H D T L B wa s.ks s.ks s ∧ WF s ∧ 1 ≤ q ∧ s.ks.length < 900 ∧ s.tu.length < 900 ∧
  ∀ v s' H', Tk q s v s' → Ext (ownL D T L B wa s.ks) H H' → LawAt H' D T L B wa s'.ks s'.ks s' → Q v H'
section
variable {P : Program} {w : World} {K : PySem.W.Frag} {mg : Str → Option Value} {base : Heap}
theorem ok_Fair_init {A : Adr} (T : Txt K mg A) : FnOk P w K mg base CX0 1 A.f_Fair_init A.d_Fair_init ["self", "room", "quantum"] (spGInit A.c_Fair A.c_Fifo) := by
  have c1 := T.Fair.cl
  have c2 := T.Fair.na
  refine T.Fair_init.F.ok sc_Fair_init (fun vs H Q E h => ?_) (fun cdv Ar outer s H vs Q E hr h => ?_)
  · obtain ⟨p, dx, r, q, rfl, _⟩ := h
    rfl
  · obtain ⟨p, dx, r, q, rfl, hp, k⟩ := h
    refine ⟨_, (pss_cons (ps_fld (pv 0) (pv 1) rfl)
      (pss_cons (ps_fld (pv 0) (pv 2) rfl)
      (pss_cons (ps_fld (pv 0) pe_dnewK rfl)
      (pss_cons (ps_fld (pv 0) (pe_lstX pa_nil) rfl)
      (pss_cons (ps_fld (pv 0) pe_dnewK rfl)
      (pss_one (ps_fld (pv 0) pe_bl rfl))))))), ?_⟩
    walk_at "eo init"
    walk_at "eo go"
    rename_i H1 e1 h1 H2 e2 h2 D H3 nD e3 hD H4 e4 h4 Tt H5 nT e5 hT H6 e6 h6 L H7 nL e7 hL H8 e8 h8 H9 e9 h9
    have nDp : D ≠ p := (ne_of_none h2 nD).symm
    have nTp : Tt ≠ p := (ne_of_none h4 nT).symm
    have nLp : L ≠ p := (ne_of_none h6 nL).symm
    have hD6 : H6 D = some (.dK []) := by walk_at "eo fact"
    have nDL : D ≠ L := ne_of_none hD6 nL
    refine k D Tt L H9 (by walk_at "eo free") (by walk_at "eo free") (by walk_at "eo free") (by walk_at "eo ext") ⟨⟨dx, h9⟩, (by show H9 D = some (.dK []); walk_at "eo fact"), (by show H9 Tt = some (.lst []); walk_at "eo fact"), (by show H9 L = some (.dK []); walk_at "eo fact"), fun k h => (by cases h), nDL, fun k h => (by cases h), fun k h => (by cases h)⟩
theorem ok_Fifo_init {A : Adr} (T : Txt K mg A) : FnOk P w K mg base CX0 1 A.f_Fifo_init A.d_Fifo_init ["self", "room"] (spFInit A.c_Fifo) := by
  have c1 := T.Fifo.cl
  have c2 := T.Fifo.na
  refine T.Fifo_init.F.ok sc_Fifo_init (fun vs H Q E h => ?_) (fun cdv Ar outer s H vs Q E hr h => ?_)
  · obtain ⟨p, dx, r, rfl, _⟩ := h
    rfl
  · obtain ⟨p, dx, r, rfl, hp, k⟩ := h
    refine ⟨_, (pss_cons (ps_fld (pv 0) (pv 1) rfl)
      (pss_one (ps_fld (pv 0) (pe_lstX pa_nil) rfl))), ?_⟩
    walk_at "eo init"
    walk_at "eo go"
    rename_i H1 e1 h1 l H2 nl e2 hl H3 e3 h3
    have ne : l ≠ p := (ne_of_none h1 nl).symm
    exact k l _ (e1.free nl (nin1 ne)) (by walk_at "eo ext") ⟨⟨_, h3⟩, by walk_at "eo fact"⟩
theorem ok_Fifo_put {A : Adr} (T : Txt K mg A) : FnOk P w K mg base CX0 1 A.f_Fifo_put A.d_Fifo_put ["self", "item"] (spFPut A.c_Fifo) := by
  have c1 := T.Fifo.cl
  have c2 := T.Fifo.na
  refine T.Fifo_put.F.ok sc_Fifo_put (fun vs H Q E h => ?_) (fun cdv Ar outer s H vs Q E hr h => ?_)
  · obtain ⟨p, l, r, xs, v, rfl, _⟩ := h
    rfl
  · obtain ⟨p, l, r, xs, v, rfl, ⟨⟨dx, hp⟩, hl⟩, hx, k1, k2⟩ := h
    refine ⟨_, (pss_cons (ps_if (pt_cmpR (o_eq hr.units) (pe_callB (id := "len") o_len (by rfl) T.b_len (by decide +kernel) (pa_cons (pe_fld (pv 0) rfl) pa_nil)) (pe_fld (pv 0) rfl) (nomark _)) (pss_one (ps_ret pe_bl)) pss_nil)
      (pss_cons (ps_expr (pe_bm PySem.F.plainAttrs_list PySem.F.slot_list_append PySem.F.type_list_append mt_append (pe_fld (pv 0) rfl) (pa_cons (pv 1) pa_nil)))
      (pss_one (ps_ret pe_bl)))), ?_⟩
    have ne : p ≠ l := ne_of hp hl (by intro z; cases z)
    walk_at "eo init"
    walk_at "eo go"
    refine g_ite (fun z => ?_) (fun z => ?_)
    · walk_at "eo go"
      exact k1 (vint (dec_t z))
    · have hz : (xs.length : Int) ≠ r := fun e => dec_f z (congrArg V.int e)
      have hs : xs.length < sizeLine := by rw [sizeLine_eq]; omega
      walk_at "eo go"
      rename_i H1 e1 h1
      exact k2 hz H1 e1 ⟨⟨dx, by walk_at "eo fact"⟩, h1⟩
theorem ok_Fifo_first {A : Adr} (T : Txt K mg A) : FnOk P w K mg base CX0 1 A.f_Fifo_first A.d_Fifo_first ["self"] (spFFirst A.c_Fifo) := by
  have c1 := T.Fifo.cl
  have c2 := T.Fifo.na
  refine T.Fifo_first.F.ok sc_Fifo_first (fun vs H Q E h => ?_) (fun cdv Ar outer s H vs Q E hr h => ?_)
  · obtain ⟨p, l, r, xs, rfl, _⟩ := h
    rfl
  · obtain ⟨p, l, r, xs, rfl, ⟨⟨dx, hp⟩, hl⟩, k⟩ := h
    refine ⟨_, (pss_one (ps_ret (pe_ifExp (pt_truth (pe_fld (pv 0) rfl) (by intro _; rfl)) (pe_ix ix_seq (pe_fld (pv 0) rfl) pe_int (fun _ _ => rfl)) pe_non))), ?_⟩
    walk_at "eo init"
    cases xs with
    | nil =>
      walk_at "eo go"
      exact k
    | cons x t =>
      walk_at "eo go"
      refine g_iteDT rfl ?_
      walk_at "eo go"
      exact k
theorem ok_Fifo_take {A : Adr} (T : Txt K mg A) : FnOk P w K mg base CX0 1 A.f_Fifo_take A.d_Fifo_take ["self"] (spFTake A.c_Fifo) := by
  have c1 := T.Fifo.cl
  have c2 := T.Fifo.na
  refine T.Fifo_take.F.ok sc_Fifo_take (fun vs H Q E h => ?_) (fun cdv Ar outer s H vs Q E hr h => ?_)
  · obtain ⟨p, l, r, xs, rfl, _⟩ := h
    rfl
  · obtain ⟨p, l, r, xs, rfl, ⟨⟨dx, hp⟩, hl⟩, k1, k2⟩ := h
    refine ⟨_, (pss_one (ps_ret (pe_ifExp (pt_truth (pe_fld (pv 0) rfl) (by intro _; rfl)) (pe_bm PySem.F.plainAttrs_list PySem.F.slot_list_pop PySem.F.type_list_pop mt_popAt (pe_fld (pv 0) rfl) (pa_cons pe_int pa_nil)) pe_non))), ?_⟩
    have ne : p ≠ l := ne_of hp hl (by intro z; cases z)
    walk_at "eo init"
    cases xs with
    | nil =>
      walk_at "eo go"
      exact k1 rfl
    | cons x t =>
      walk_at "eo go"
      refine g_iteDT rfl ?_
      walk_at "eo go"
      rename_i H1 e1 h1
      exact k2 x t rfl H1 e1 ⟨⟨dx, by walk_at "eo fact"⟩, h1⟩
theorem ok_Fifo_many {A : Adr} (T : Txt K mg A) : FnOk P w K mg base CX0 1 A.f_Fifo_many A.d_Fifo_many ["self"] (spFMany A.c_Fifo) := by
  have c1 := T.Fifo.cl
  have c2 := T.Fifo.na
  refine T.Fifo_many.F.ok sc_Fifo_many (fun vs H Q E h => ?_) (fun cdv Ar outer s H vs Q E hr h => ?_)
  · obtain ⟨p, l, r, xs, rfl, _⟩ := h
    rfl
  · obtain ⟨p, l, r, xs, rfl, ⟨⟨dx, hp⟩, hl⟩, k⟩ := h
    refine ⟨_, (pss_one (ps_ret (pe_callB (id := "len") o_len (by rfl) T.b_len (by decide +kernel) (pa_cons (pe_fld (pv 0) rfl) pa_nil)))), ?_⟩
    walk_at "eo init"
    walk_at "eo go"
    exact k
theorem ok_Fair_many {A : Adr} (T : Txt K mg A) : FnOk P w K mg base CX0 2 A.f_Fair_many A.d_Fair_many ["self"] (spGMany A.c_Fair A.c_Fifo) := by
  have c1 := T.Fair.cl
  have c2 := T.Fair.na
  refine T.Fair_many.F.ok sc_Fair_many (fun vs H Q E h => ?_) (fun cdv Ar outer s H vs Q E hr h => ?_)
  · obtain ⟨g, D, Tt, L, fa, la, r, q, s, rfl, _⟩ := h
    rfl
  · obtain ⟨g, D, Tt, L, fa, la, r, q, st, rfl, F, hlen, k⟩ := h
    refine ⟨_, (pss_one (ps_ret (pe_callB (id := "sum") (cr_sum rfl) (by rfl) T.b_sum (by decide +kernel) (pa_cons (pe_lock (PE.star (pe_lc (own := [("own", 1)]) (tt := stT tYes) rfl sc_Fair_many.nd (pi_values (pe_fld (pv 0) rfl)) (blkOk_by (own := [("own", 1)]) (N := ["self", "own"]) (sc := defScope s_Fair_many) (by decide +kernel)) (fun _ _ _ _ _ => PG.star (pg_name (i := 1) sc_Fair_many.nd rfl (Or.inl rfl))) (fun _ _ _ _ _ => PTs.star (pts_nil)) (fun _ _ _ _ _ => PE.star (pe_meth0 (pv 1) T.Fifo.cl T.Fifo_many.me (ok_Fifo_many T) (hr.mono (by decide)) T.Fifo_many.b .nil pass0))))) pa_nil)))), ?_⟩
    obtain ⟨⟨dx, hg⟩, hD, hT, hL, row, nDL, nT, nl⟩ := F
    walk_at "eo init"
    walk_at "eo go"
    refine g_lockE hD fun od H0 e0 hD0 => ?_
    have hg0 := e0.keep _ _ hg (nin1 (ne_of hg hD (by intro z; cases z)))
    walk_at "eo go"
    refine g_lcW walk_values (fun Dd i H' acc => Ext [] H0 H' ∧ H0 Dd = none ∧ acc = (st.ks.take i).map fun k => V.int ((st.it k).length : Int)) ?_ ?_ ?_ ?_
    · intro Dd H' n e h
      exact ⟨e, n, rfl⟩
    · rintro Dd i H' acc hi ⟨e, n, rfl⟩
      exact e.keep _ _ hD0 nin0
    · rintro Dd i x H1 H' acc hi ⟨e, n, rfl⟩ hd ⟨rfl, kk, hk⟩
      have hi' : i < st.ks.length := by rw [len_dks] at hi; exact hi
      have hx : x = .ref (fa st.ks[i]) := by
        unfold dks at hk
        rw [List.getElem?_map, List.getElem?_eq_getElem hi'] at hk
        exact (congrArg Prod.snd (Option.some.inj hk)).symm
      subst hx
      obtain ⟨xs, ⟨⟨dz, h1⟩, h2⟩, its⟩ := row st.ks[i] (List.getElem_mem hi')
      have h1' := e.keep _ _ (e0.keep _ _ h1 (nin1 (ne_of h1 hD (by intro z; cases z)))) nin0
      have h2' := e.keep _ _ (e0.keep _ _ h2 (nin1 (ne_of h2 hD (by intro z; cases z)))) nin0
      walk_at "eo go"
      refine ⟨rfl, ?_⟩
      walk_at "eo go"
      refine ⟨fa st.ks[i], la st.ks[i], r, xs, rfl, ⟨⟨dz, h1'⟩, h2'⟩, ?_⟩
      refine ⟨hd, ?_, fun H5 e5 h5 => ⟨?_, n, ?_⟩⟩
      · rw [List.length_map, List.length_take, sizeLine_eq]
        omega
      · exact e.trans e5 (fun _ z => by cases z) (fun x hx ⟨o, ho⟩ => by rw [List.mem_singleton.mp hx, n] at ho; cases ho)
      · rw [List.take_succ, List.getElem?_eq_getElem hi', its.len, List.map_append]
        rfl
    · rintro Dd H' acc ⟨e, n, rfl⟩ hd
      have hD' : H' D = some (.frz od (.dK (dks st.ks fun k => .ref (fa k)))) := e.keep _ _ hD0 nin0
      refine ⟨hD', fun HF e2 h2 => ?_⟩
      have hd2 : HF Dd = some (.lst ((st.ks.map fun k => ((st.it k).length : Int)).map V.int)) := by
        rw [len_dks, List.take_length] at hd
        rw [List.map_map]
        exact e2.keep _ _ hd (nin1 (ne_of hd hD' (by intro z; cases z)))
      refine ⟨Dd, _, rfl, SqL.of hd2, ?_⟩
      refine k HF ?_
      have e3 : Ext [D] H HF := by walk_at "eo ext"
      exact e3.same hD h2
theorem ok_Fair_put {A : Adr} (T : Txt K mg A) : FnOk P w K mg base CX0 3 A.f_Fair_put A.d_Fair_put ["self", "flow", "size", "item"] (spGPut A.c_Fair A.c_Fifo) := by
  have c1 := T.Fair.cl
  have c2 := T.Fair.na
  have c3 := T.Fifo.cl
  have c4 := T.Fifo.na
  refine T.Fair_put.F.ok sc_Fair_put (fun vs H Q E h => ?_) (fun cdv Ar outer s H vs Q E hr h => ?_)
  · obtain ⟨g, D, Tt, L, fa, la, r, q, s, f, z, v, rfl, _⟩ := h
    rfl
  · obtain ⟨g, D, Tt, L, fa, la, r, q, st, f, z, v, rfl, F, W, off, hr1, b1, b2, b3, k1, k2⟩ := h
    refine ⟨_, (pss_join (ps_if (pt_cmp (pc_dnotin (u1 hr.units) (pv 1) (pe_fld (pv 0) rfl))) (pss_one (ps_dput (u1 hr.units) (pe_fld (pv 0) rfl) (pv 1) (pe_makeX T.Fifo.make (ok_Fifo_init T) (hr.mono (by decide)) (by rfl) T.Fifo.mg T.Fifo_init.b .nil pass0 (pa_cons (pe_fld (pv 0) rfl) pa_nil)) rfl)) pss_nil)
      (pss_cons (ps_if (pt_not (pt_truth (pe_meth (pe_dget (u1 hr.units) (pe_fld (pv 0) rfl) (pv 1) (fun _ _ => rfl)) T.Fifo.cl T.Fifo_put.me (ok_Fifo_put T) (hr.mono (by decide)) T.Fifo_put.b .nil pass0 (pa_cons (pe_tupX (pa_cons (pv 2) (pa_cons (pv 3) pa_nil))) pa_nil)) (by intro _; rfl))) (pss_one (ps_ret pe_bl)) pss_nil)
      (pss_cons (ps_if (pt_cmpR op_notIn_seq (pv 1) (pe_fld (pv 0) rfl) rfl) (pss_cons (ps_expr (pe_bm PySem.F.plainAttrs_list PySem.F.slot_list_append PySem.F.type_list_append mt_append (pe_fld (pv 0) rfl) (pa_cons (pv 1) pa_nil)))
      (pss_one (ps_dput (u1 hr.units) (pe_fld (pv 0) rfl) (pv 1) pe_int rfl))) pss_nil)
      (pss_one (ps_ret pe_bl))))), ?_⟩
    walk_at "eo init"
    refine g_join (fun σ' H' => σ' = [some (.ref g), some (.int f), some (.int z), some v] ∧ ∃ fa' la', FairAt A.c_Fair A.c_Fifo H' g D Tt L fa' la' r q st.ks ⟨st.ku f, st.it, st.lf, st.tu, st.be⟩ ∧ Ext (ownF g D Tt L fa la st.ks) H H' ∧ (∀ x ∈ ownF g D Tt L fa' la' (st.ku f), x ∈ ownF g D Tt L fa la st.ks ∨ H x = none)) ?_ ?_
    · obtain ⟨⟨dx, hg⟩, hD, hT, hL, row, nDL, nT, nl⟩ := id F
      walk_at "eo go"
      have mo : ∀ x ∈ ownF g D Tt L fa la st.ks, x ∈ ownF g D Tt L fa la st.ks ∨ H x = none := fun x hx => .inl hx
      by_cases hf : f ∈ st.ks
      · have ek : st.ku f = st.ks := by unfold AF.ku; rw [if_pos hf]
        refine g_iteDF (by rw [val_dks, if_pos hf]; rfl) ?_
        walk_at "eo go"
        refine ⟨rfl, fa, la, ?_, Ext.refl _, ?_⟩
        · rw [ek]; exact F
        · rw [ek]; exact mo
      · have ek : st.ku f = st.ks ++ [f] := by unfold AF.ku; rw [if_neg hf]
        refine g_iteDT (by rw [val_dks, if_neg hf]; rfl) ?_
        walk_at "eo go"
        intro p dp H1 np e1 h1
        refine ⟨p, dp, r, rfl, h1, fun l H2 nl e2 R => ⟨rfl, ?_⟩⟩
        have hD2 : H2 D = some (HO.dK (dks st.ks fun k => V.ref (fa k))) := e2.keep _ _ (e1.keep _ _ hD nin0) (nin1 (ne_of_none hD np))
        have hg2 : H2 g = some (.ins A.c_Fair dx (gf r q D Tt L st.be)) := e2.keep _ _ (e1.keep _ _ hg nin0) (nin1 (ne_of_none hg np))
        have hlk : (dks st.ks fun k => V.ref (fa k)).length < 1000 := by rw [len_dks]; omega
        walk_at "eo go"
        rename_i H3 e3 h3
        have nlH : H l = none := e1.free nl nin0
        have e03 : Ext [D] H H3 := by walk_at "eo ext"
        have R3 : Row A.c_Fifo H3 p l r [] := ⟨R.1.imp fun _ z => e3.keep _ _ z (nin1 (ne_of z hD2 (by intro z; cases z))), e3.keep _ _ R.2 (nin1 (ne_of R.2 hD2 (by intro z; cases z)))⟩
        refine ⟨rfl, fset fa f p, fset la f l, ?_, e03.mono (fun x hx => by rw [List.mem_singleton.mp hx]; exact own_D), ?_⟩
        · rw [ek]; exact F.wN hf (off f hf) np nlH e03 R3 h3
        · rw [ek]
          intro x hx
          rcases own_cases hx with c | c | c | c | ⟨k, hk, c⟩ | ⟨k, hk, c⟩
          · rw [c]; exact .inl own_g
          · rw [c]; exact .inl own_D
          · rw [c]; exact .inl own_T
          · rw [c]; exact .inl own_L
          · by_cases z : k = f
            · rw [c, z, fset_same]; exact .inr np
            · rw [c, fset_ne z]; exact .inl (own_fa ((List.mem_append.mp hk).resolve_right fun y => z (List.mem_singleton.mp y)))
          · by_cases z : k = f
            · rw [c, z, fset_same]; exact .inr nlH
            · rw [c, fset_ne z]; exact .inl (own_la ((List.mem_append.mp hk).resolve_right fun y => z (List.mem_singleton.mp y)))
    · rintro σ' H' ⟨rfl, fa', la', F1, e1, o1⟩
      obtain ⟨⟨dx, hg⟩, hD, hT, hL, row, nDL, nT, nl⟩ := id F1
      have hfk : f ∈ st.ku f := by unfold AF.ku; split <;> simp_all
      have hvD : valV (dks (st.ku f) fun k => V.ref (fa' k)) (.inl f) = some (.ref (fa' f)) := by rw [val_dks, if_pos hfk]
      obtain ⟨xs, ⟨⟨dz, h1⟩, h2⟩, its⟩ := row f hfk
      have hx : xs.length = (st.it f).length := its.len
      walk_at "eo go"
      rename_i t H2 nt e2 ht
      refine ⟨fa' f, la' f, r, xs, .ref t, rfl, ⟨⟨dz, e2.keep _ _ h1 nin0⟩, e2.keep _ _ h2 nin0⟩, by omega, fun c => ?_, fun c H3 e3 R3 => ?_⟩
      · have hf : f ∈ st.ks := by
          by_cases c : f ∈ st.ks
          · exact c
          · have := off f c
            rw [this] at hx
            simp at hx
            subst hx
            simp at c
            omega
        have ek : st.ku f = st.ks := by unfold AF.ku; rw [if_pos hf]
        walk_at "eo go"
        refine k1 (by omega) fa' la' H2 (by walk_at "eo ext") (by rw [ek] at o1; exact o1) ?_
        have F2 := F1.ext0 e2
        rw [ek] at F2
        exact F2
      · have F3 : FairAt A.c_Fair A.c_Fifo H3 g D Tt L fa' la' r q st.ks ⟨st.ku f, fset st.it f (st.it f ++ [(z, v)]), st.lf, st.tu, st.be⟩ := (F1.ext0 e2).wI hfk e3 R3 (((its.ext e2).ext e3).snoc (e3.imm _ _ ht rfl))
        obtain ⟨⟨dx, hg⟩, hD, hT, hL, row, nDL, nT, nl⟩ := id F3
        have e13 : Ext (ownF g D Tt L fa la st.ks) H H3 := e1.trans (e2.trans e3 (fun _ z => by cases z) (fun x hx _ => hx)) (fun _ z => z) (fun x hx ⟨o, ho⟩ => by
          rw [List.mem_singleton.mp hx] at ho ⊢
          exact (o1 _ (own_la hfk)).resolve_right fun z => by rw [z] at ho; cases ho)
        dsimp only at hD hT hL row nT nl hg
        walk_at "eo go"
        by_cases hft : f ∈ st.tu
        · have ek : st.ku f = st.ks := by unfold AF.ku; rw [if_pos (W.inK f hft)]
          have ep : st.put f z v = ⟨st.ku f, fset st.it f (st.it f ++ [(z, v)]), st.lf, st.tu, st.be⟩ := by unfold AF.put; rw [if_pos hft, if_pos hft]
          refine g_iteDF (by rw [decide_eq_true hft]; rfl) ?_
          walk_at "eo go"
          refine k2 (by omega) fa' la' H3 e13 o1 ?_
          rw [ep]
          rw [ek] at F3 ⊢
          exact F3
        · have ep : st.put f z v = ⟨st.ku f, fset st.it f (st.it f ++ [(z, v)]), fset st.lf f 0, st.tu ++ [f], st.be⟩ := by unfold AF.put; rw [if_neg hft, if_neg hft]
          refine g_iteDT (by rw [decide_eq_false hft]; rfl) ?_
          have hlL : (dks st.ks fun k => V.int (st.lf k)).length < 1000 := by rw [len_dks]; omega
          have hlT : (st.tu.map V.int).length < sizeLine := by rw [List.length_map, sizeLine_eq]; omega
          have nTL : Tt ≠ L := ne_of hT hL (by intro z; cases z)
          have nTg : Tt ≠ g := ne_of hT hg (by intro z; cases z)
          walk_at "eo go"
          rename_i H4 e4 h4 H5 e5 h5
          have F5 := (F3.wT (tu' := st.tu ++ [f]) e4 (by rw [List.map_append]; exact h4)).wL (kl' := st.ku f) (lf' := fset st.lf f 0) e5 (by rw [h5, put_ku, dks_int])
          refine k2 (by omega) fa' la' H5 ((e13.one e4 own_T).one e5 own_L) o1 ?_
          rw [ep]
          exact F5
theorem ok_Fair_take {A : Adr} (T : Txt K mg A) : FnOk P w K mg base CX0 2 A.f_Fair_take A.d_Fair_take ["self"] (spGTake A.c_Fair A.c_Fifo) := by
  have c1 := T.Fair.cl
  have c2 := T.Fair.na
  have c3 := T.Fifo.cl
  have c4 := T.Fifo.na
  refine T.Fair_take.F.ok sc_Fair_take (fun vs H Q E h => ?_) (fun cdv Ar outer s H vs Q E hr h => ?_)
  · obtain ⟨g, D, Tt, L, fa, la, r, q, s, rfl, _⟩ := h
    rfl
  · obtain ⟨g, D, Tt, L, fa, la, r, q, st, rfl, F, W, hq, b1, b2, k⟩ := h
    refine ⟨_, (pss_cons (ps_while PassesOwn.never (pt_truth (pe_fld (pv 0) rfl) (by intro _; rfl)) (pss_cons (ps_set (i := 1) sc_Fair_take.nd rfl (Or.inl rfl) (pe_ix ix_seq (pe_fld (pv 0) rfl) pe_int (fun _ _ => rfl)))
      (pss_join (ps_if (pt_not (pt_truth (pe_fld (pv 0) rfl) (by intro _; rfl))) (pss_cons (ps_daug (u1 hr.units) (pe_fld (pv 0) rfl) (pv 1) (pe_fld (pv 0) rfl) o_inadd (fun _ _ _ => rfl))
      (pss_one (ps_fld (pv 0) pe_bl rfl))) pss_nil)
      (pss_cons (ps_asg (pe_meth0 (pe_dget (u1 hr.units) (pe_fld (pv 0) rfl) (pv 1) (fun _ _ => rfl)) T.Fifo.cl T.Fifo_first.me (ok_Fifo_first T) (hr.mono (by decide)) T.Fifo_first.b .nil pass0) (pg_tup (n := 2) rfl (pgs_cons (pg_name (i := 2) sc_Fair_take.nd rfl (Or.inl rfl)) (pgs_cons (pg_name (i := 3) sc_Fair_take.nd rfl (Or.inl rfl)) pgs_nil))))
      (pss_cons (ps_if (pt_cmpR op_le (pv 2) (pe_dget (u1 hr.units) (pe_fld (pv 0) rfl) (pv 1) (fun _ _ => rfl)) (nomark _)) (pss_cons (ps_daug (u1 hr.units) (pe_fld (pv 0) rfl) (pv 1) (pv 2) in_sub (fun _ _ _ => rfl))
      (pss_cons (ps_expr (pe_meth0 (pe_dget (u1 hr.units) (pe_fld (pv 0) rfl) (pv 1) (fun _ _ => rfl)) T.Fifo.cl T.Fifo_take.me (ok_Fifo_take T) (hr.mono (by decide)) T.Fifo_take.b .nil pass0))
      (pss_cons (ps_if (pt_not (pt_truth (pe_meth0 (pe_dget (u1 hr.units) (pe_fld (pv 0) rfl) (pv 1) (fun _ _ => rfl)) T.Fifo.cl T.Fifo_many.me (ok_Fifo_many T) (hr.mono (by decide)) T.Fifo_many.b .nil pass0) (by intro _; rfl))) (pss_cons (ps_expr (pe_bm PySem.F.plainAttrs_list PySem.F.slot_list_pop PySem.F.type_list_pop mt_popAt (pe_fld (pv 0) rfl) (pa_cons pe_int pa_nil)))
      (pss_one (ps_fld (pv 0) pe_bl rfl))) pss_nil)
      (pss_one (ps_ret (pv 3)))))) pss_nil)
      (pss_cons (ps_expr (pe_bm PySem.F.plainAttrs_list PySem.F.slot_list_append PySem.F.type_list_append mt_append (pe_fld (pv 0) rfl) (pa_cons (pe_bm PySem.F.plainAttrs_list PySem.F.slot_list_pop PySem.F.type_list_pop mt_popAt (pe_fld (pv 0) rfl) (pa_cons pe_int pa_nil)) pa_nil)))
      (pss_one (ps_fld (pv 0) pe_bl rfl))))))))
      (pss_one (ps_ret pe_non))), ?_⟩
    walk_at "eo init"
    refine g_seq ?_
    refine g_while (fun m σ' H' => ∃ (s' : AF) (a b c : Option V), σ' = [some (.ref g), a, b, c] ∧ FairAt A.c_Fair A.c_Fifo H' g D Tt L fa la r q s'.ks s' ∧ WF s' ∧ Ext (ownF g D Tt L fa la st.ks) H H' ∧ s'.ks = st.ks ∧ s'.tu.length = st.tu.length ∧ (∀ v s2, Tk q s' v s2 → Tk q st v s2) ∧ m = s'.lack) st.lack ⟨st, none, none, none, rfl, F, W, Ext.refl _, rfl, rfl, fun _ _ z => z, rfl⟩ ?_
    rintro m σ' H' ⟨s', a, b, c, rfl, F', W', e', ek, et, tk, rfl⟩
    obtain ⟨⟨dx, hg⟩, hD, hT, hL, row, nDL, nT, nl⟩ := id F'
    cases ht : s'.tu with
    | nil =>
      rw [ht] at hT
      dsimp only [List.map] at hT
      walk_at "eo go"
      try refine g_iteDF rfl ?_
      walk_at "eo go"
      exact k _ _ H' (tk _ _ (.no ht)) e' F'
    | cons f rest =>
      rw [ht] at hT
      dsimp only [List.map] at hT
      have hf : f ∈ s'.tu := by rw [ht]; exact List.mem_cons_self
      have hfk := W'.inK f hf
      cases hi : s'.it f with
      | nil => exact absurd hi (W'.has f hf)
      | cons p its =>
        obtain ⟨z, v⟩ := p
        have hvD : valV (dks s'.ks fun k => V.ref (fa k)) (.inl f) = some (.ref (fa f)) := by rw [val_dks, if_pos hfk]
        have hvL : valV (dks s'.ks fun k => V.int (s'.lf k)) (.inl f) = some (.int (s'.lf f)) := by rw [val_dks, if_pos hfk]
        have hlL : (dks s'.ks fun k => V.int (s'.lf k)).length < 1000 := by rw [len_dks, ek]; omega
        walk_at "eo go"
        try refine g_iteDT rfl ?_
        walk_at "eo go"
        refine g_join (fun σ2 H2 => σ2 = [some (.ref g), some (.int f), b, c] ∧ FairAt A.c_Fair A.c_Fifo H2 g D Tt L fa la r q s'.ks ⟨s'.ks, s'.it, fset s'.lf f (s'.got q f), s'.tu, true⟩ ∧ Ext (ownF g D Tt L fa la st.ks) H H2) ?_ ?_
        · walk_at "eo go"
          cases hb : s'.be with
          | true =>
            refine g_iteDF rfl ?_
            walk_at "eo go"
            refine ⟨rfl, ?_, e'⟩
            have eg : s'.got q f = s'.lf f := by unfold AF.got; rw [if_pos hb]
            rw [eg, fset_id, ← hb]
            exact F'
          | false =>
            refine g_iteDT rfl ?_
            rw [hb] at hg
            have ngL : g ≠ L := ne_of hg hL (by intro z; cases z)
            walk_at "eo go"
            rename_i H2 e2 h2 H3 e3 h3
            have eg : s'.got q f = s'.lf f + q := by unfold AF.got; rw [if_neg (by rw [hb]; intro z; cases z)]
            refine ⟨rfl, ?_, (e'.one e2 own_L).one e3 own_g⟩
            rw [eg]
            exact (F'.wL (kl' := s'.ks) (lf' := fset s'.lf f (s'.lf f + q)) e2 (by rw [h2, put_dks _ hfk, dks_int])).wG e3 ⟨dx, h3⟩
        · rintro σ2 H2 ⟨rfl, F2, e2⟩
          clear hD hL hT hg row nT nl
          obtain ⟨⟨dx, hg⟩, hD, hT, hL, row, -, nT, nl⟩ := id F2
          dsimp only at hg hD hT hL row nT nl
          rw [ht] at hT
          dsimp only [List.map] at hT
          obtain ⟨xs, ⟨⟨dz, h1⟩, h2⟩, ix⟩ := row f hfk
          rw [hi] at ix
          have hvL : valV (dks s'.ks fun k => V.int (fset s'.lf f (s'.got q f) k)) (.inl f) = some (.int (s'.got q f)) := by rw [val_dks, if_pos hfk, fset_same]
          have hlL : (dks s'.ks fun k => V.int (fset s'.lf f (s'.got q f) k)).length < 1000 := by rw [len_dks, ek]; omega
          cases xs with
          | nil => exact ix.elim
          | cons x0 xs =>
            obtain ⟨⟨tt, rfl, htt⟩, ix⟩ := ix
            walk_at "eo go"
            refine ⟨fa f, la f, r, _, rfl, ⟨⟨dz, h1⟩, h2⟩, ?_⟩
            show gTup _ _ _ (.ref tt) _ _ _
            dsimp only at htt
            walk_at "eo go"
            refine g_ite (fun hz => ?_) (fun hz => ?_)
            · have hz' := dec_t hz
              have nDL' := nDL.symm
              walk_at "eo go"
              rename_i H3 e3 h3
              have F3 := F2.wL (kl' := s'.ks) (lf' := fset s'.lf f (s'.got q f - z)) e3 (by rw [h3, put_dks _ hfk, dks_int, fset_fset])
              have h13 := e3.keep _ _ h1 (nin1 (ne_of h1 hL (by intro z; cases z)))
              have h23 := e3.keep _ _ h2 (nin1 (ne_of h2 hL (by intro z; cases z)))
              refine ⟨fa f, la f, r, V.ref tt :: xs, rfl, ⟨⟨dz, h13⟩, h23⟩, fun c => (by cases c), fun x y ex H4 e4 R4 => ?_⟩
              cases ex
              have F4 := F3.wI hfk e4 R4 ((ix.ext e3).ext e4)
              obtain ⟨⟨dy, hg4⟩, hD4, hT4, -, -, -, -, -⟩ := id F4
              dsimp only at hg4 hD4 hT4
              rw [ht] at hT4
              dsimp only [List.map] at hT4
              walk_at "eo go"
              refine ⟨fa f, la f, r, _, rfl, R4, ?_⟩
              have e14 := (e2.one e3 own_L).one e4 (own_la (by rw [← ek]; exact hfk))
              walk_at "eo go"
              have hx := ix.len
              cases its with
              | nil =>
                cases xs with
                | cons => cases hx
                | nil =>
                  try refine g_iteDT rfl ?_
                  walk_at "eo go"
                  rename_i H5 e5 h5 H6 e6 h6
                  refine k _ _ H6 (tk _ _ (.out ht hi hz')) ((e14.one e5 own_T).one e6 own_g) ?_
                  exact (F4.wT e5 h5).wG e6 ⟨dy, h6⟩
              | cons y0 its =>
                cases xs with
                | nil => cases hx
                | cons x0 xs =>
                  try refine g_iteDF rfl ?_
                  walk_at "eo go"
                  refine k _ _ H4 (tk _ _ (.out ht hi hz')) e14 ?_
                  have eg : s'.gone q f rest z (y0 :: its) = ⟨s'.ks, fset s'.it f (y0 :: its), fset s'.lf f (s'.got q f - z), s'.tu, true⟩ := by rw [ht]; rfl
                  rw [eg]
                  exact F4
            · have hz' := dec_f hz
              have hlR : (rest.map V.int).length < sizeLine := by
                rw [ht] at et
                rw [List.length_map, sizeLine_eq]
                rw [List.length_cons] at et
                omega
              have ngT : g ≠ Tt := ne_of hg hT (by intro z; cases z)
              walk_at "eo go"
              rename_i H3 e3 h3 H4 e4 h4 H5 e5 h5
              have F5 := ((F2.wT e3 h3).wT (tu' := rest ++ [f]) e4 (by rw [List.map_append]; exact h4)).wG e5 ⟨dx, h5⟩
              refine ⟨_, lack_over hq ht (by unfold AF.hs; rw [hi]; exact hz'), s'.over q f rest, _, _, _, rfl, F5, W'.over ht, ((e2.one e3 own_T).one e4 own_T).one e5 own_g, ek, ?_, fun w s2 t => tk w s2 (.turn ht hi hz' t), rfl⟩
              show (rest ++ [f]).length = _
              rw [← et, ht, List.length_append, List.length_cons]
              rfl
theorem ok_law_next {A : Adr} (T : Txt K mg A) : FnOk P w K mg base CX0 1 A.f_law_next A.d_law_next ["flows", "turns", "left", "begun", "quantum"] spLNext := by
  refine T.law_next.F.ok sc_law_next (fun vs H Q E h => ?_) (fun cdv Ar outer s H vs Q E hr h => ?_)
  · obtain ⟨D, Tt, L, B, wa, q, s, rfl, _⟩ := h
    rfl
  · obtain ⟨D, Tt, L, B, wa, q, st, rfl, F, W, hq, b1, b2, k⟩ := h
    refine ⟨_, (pss_cons (ps_while PassesOwn.never (pt_cmpR op_gt (pe_callB (id := "len") o_len (by rfl) T.b_len (by decide +kernel) (pa_cons (pv 1) pa_nil)) pe_int (nomark _)) (pss_cons (ps_set (i := 5) sc_law_next.nd rfl (Or.inl rfl) (pe_ix ix_seq (pv 1) pe_int (fun _ _ => rfl)))
      (pss_join (ps_if (pt_not (pt_truth (pe_ix ix_seq (pv 3) pe_int (fun _ _ => rfl)) (by intro _; rfl))) (pss_cons (ps_dput (u1 hr.units) (pv 2) (pv 5) (pe_op o_add (pe_dget (u1 hr.units) (pv 2) (pv 5) (fun _ _ => rfl)) (pv 4)) rfl)
      (pss_one (ps_asg pe_bl (pg_sub (pv 3) pe_int set_list)))) pss_nil)
      (pss_cons (ps_asg (pe_ix ix_seq (pe_dget (u1 hr.units) (pv 0) (pv 5) (fun _ _ => rfl)) pe_int (fun _ _ => rfl)) (pg_tup (n := 2) rfl (pgs_cons (pg_name (i := 6) sc_law_next.nd rfl (Or.inl rfl)) (pgs_cons (pg_name (i := 7) sc_law_next.nd rfl (Or.inl rfl)) pgs_nil))))
      (pss_cons (ps_if (pt_cmpR op_le (pv 6) (pe_dget (u1 hr.units) (pv 2) (pv 5) (fun _ _ => rfl)) (nomark _)) (pss_cons (ps_dput (u1 hr.units) (pv 2) (pv 5) (pe_op op_sub (pe_dget (u1 hr.units) (pv 2) (pv 5) (fun _ _ => rfl)) (pv 6)) rfl)
      (pss_cons (ps_expr (pe_bm PySem.F.plainAttrs_list PySem.F.slot_list_pop PySem.F.type_list_pop mt_popAt (pe_dget (u1 hr.units) (pv 0) (pv 5) (fun _ _ => rfl)) (pa_cons pe_int pa_nil)))
      (pss_cons (ps_if (pt_cmpR (o_eq hr.units) (pe_callB (id := "len") o_len (by rfl) T.b_len (by decide +kernel) (pa_cons (pe_dget (u1 hr.units) (pv 0) (pv 5) (fun _ _ => rfl)) pa_nil)) pe_int (nomark _)) (pss_cons (ps_expr (pe_bm PySem.F.plainAttrs_list PySem.F.slot_list_pop PySem.F.type_list_pop mt_popAt (pv 1) (pa_cons pe_int pa_nil)))
      (pss_one (ps_asg pe_bl (pg_sub (pv 3) pe_int set_list)))) pss_nil)
      (pss_one (ps_ret (pv 7)))))) pss_nil)
      (pss_cons (ps_expr (pe_bm PySem.F.plainAttrs_list PySem.F.slot_list_append PySem.F.type_list_append mt_append (pv 1) (pa_cons (pe_bm PySem.F.plainAttrs_list PySem.F.slot_list_pop PySem.F.type_list_pop mt_popAt (pv 1) (pa_cons pe_int pa_nil)) pa_nil)))
      (pss_one (ps_asg pe_bl (pg_sub (pv 3) pe_int set_list)))))))))
      (pss_one (ps_ret pe_non))), ?_⟩
    walk_at "eo init"
    refine g_seq ?_
    refine g_while (fun m σ' H' => ∃ (s' : AF) (a b c : Option V), σ' = [some (.ref D), some (.ref Tt), some (.ref L), some (.ref B), some (.int q), a, b, c] ∧ LawAt H' D Tt L B wa s'.ks s'.ks s' ∧ WF s' ∧ Ext (ownL D Tt L B wa st.ks) H H' ∧ s'.ks = st.ks ∧ s'.tu.length = st.tu.length ∧ (∀ v s2, Tk q s' v s2 → Tk q st v s2) ∧ m = s'.lack) st.lack ⟨st, none, none, none, rfl, F, W, Ext.refl _, rfl, rfl, fun _ _ z => z, rfl⟩ ?_
    rintro m σ' H' ⟨s', a, b, c, rfl, F', W', e', ek, et, tk, rfl⟩
    obtain ⟨hD, hT, hL, hB, row, nDL, nTB, nT, nB, nl⟩ := id F'
    cases ht : s'.tu with
    | nil =>
      rw [ht] at hT
      dsimp only [List.map] at hT
      walk_at "eo go"
      try refine g_iteDF rfl ?_
      walk_at "eo go"
      exact k _ _ H' (tk _ _ (.no ht)) e' F'
    | cons f rest =>
      rw [ht] at hT
      dsimp only [List.map] at hT
      have hf : f ∈ s'.tu := by rw [ht]; exact List.mem_cons_self
      have hfk := W'.inK f hf
      cases hi : s'.it f with
      | nil => exact absurd hi (W'.has f hf)
      | cons p its =>
        obtain ⟨z, v⟩ := p
        have hvD : valV (dks s'.ks fun k => V.ref (wa k)) (.inl f) = some (.ref (wa f)) := by rw [val_dks, if_pos hfk]
        have hvL : valV (dks s'.ks fun k => V.int (s'.lf k)) (.inl f) = some (.int (s'.lf f)) := by rw [val_dks, if_pos hfk]
        have hlL : (dks s'.ks fun k => V.int (s'.lf k)).length < 1000 := by rw [len_dks, ek]; omega
        walk_at "eo go"
        try refine g_iteDT (by rw [List.length_cons, decide_eq_true (by omega)]) ?_
        walk_at "eo go"
        refine g_join (fun σ2 H2 => σ2 = [some (.ref D), some (.ref Tt), some (.ref L), some (.ref B), some (.int q), some (.int f), b, c] ∧ LawAt H2 D Tt L B wa s'.ks s'.ks ⟨s'.ks, s'.it, fset s'.lf f (s'.got q f), s'.tu, true⟩ ∧ Ext (ownL D Tt L B wa st.ks) H H2) ?_ ?_
        · walk_at "eo go"
          cases hb : s'.be with
          | true =>
            refine g_iteDF rfl ?_
            walk_at "eo go"
            refine ⟨rfl, ?_, e'⟩
            have eg : s'.got q f = s'.lf f := by unfold AF.got; rw [if_pos hb]
            rw [eg, fset_id, ← hb]
            exact F'
          | false =>
            refine g_iteDT rfl ?_
            rw [hb] at hB
            have nBL : B ≠ L := ne_of hB hL (by intro z; cases z)
            walk_at "eo go"
            rename_i H2 e2 h2 H3 e3 h3
            have eg : s'.got q f = s'.lf f + q := by unfold AF.got; rw [if_neg (by rw [hb]; intro z; cases z)]
            refine ⟨rfl, ?_, (e'.one e2 ol_L).one e3 ol_B⟩
            rw [eg]
            exact (F'.wL (kl' := s'.ks) (lf' := fset s'.lf f (s'.lf f + q)) e2 (by rw [h2, put_dks _ hfk, dks_int])).wB e3 h3
        · rintro σ2 H2 ⟨rfl, F2, e2⟩
          clear hD hL hT hB row nT nB nl hvL hlL
          obtain ⟨hD, hT, hL, hB, row, -, -, nT, nB, nl⟩ := id F2
          dsimp only at hD hT hL hB row nT nB nl
          rw [ht] at hT
          dsimp only [List.map] at hT
          obtain ⟨xs, h2, ix⟩ := row f hfk
          rw [hi] at ix
          have hvL : valV (dks s'.ks fun k => V.int (fset s'.lf f (s'.got q f) k)) (.inl f) = some (.int (s'.got q f)) := by rw [val_dks, if_pos hfk, fset_same]
          have hlL : (dks s'.ks fun k => V.int (fset s'.lf f (s'.got q f) k)).length < 1000 := by rw [len_dks, ek]; omega
          cases xs with
          | nil => exact ix.elim
          | cons x0 xs =>
            obtain ⟨⟨tt, rfl, htt⟩, ix⟩ := ix
            dsimp only at htt
            walk_at "eo go"
            refine g_ite (fun hz => ?_) (fun hz => ?_)
            · have hz' := dec_t hz
              have n1 := nDL.symm
              have n2 : wa f ≠ L := ne_of h2 hL (by intro z; cases z)
              have n3 : wa f ≠ D := ne_of h2 hD (by intro z; cases z)
              have n4 : B ≠ L := ne_of hB hL (by intro z; cases z)
              have n5 : Tt ≠ L := ne_of hT hL (by intro z; cases z)
              have n6 := nT f hfk
              have n7 := nB f hfk
              walk_at "eo go"
              rename_i H3 e3 h3 H4 e4 h4
              have F3 := F2.wL (kl' := s'.ks) (lf' := fset s'.lf f (s'.got q f - z)) e3 (by rw [h3, put_dks _ hfk, dks_int, fset_fset])
              have F4 := F3.wI hfk e4 h4 ((ix.ext e3).ext e4)
              have e14 := (e2.one e3 ol_L).one e4 (ol_wa (by rw [← ek]; exact hfk))
              have hx := ix.len
              have hT4 : H4 Tt = some (.lst (V.int f :: rest.map V.int)) := e4.keep _ _ (e3.keep _ _ hT (nin1 n5)) (nin1 n6.symm)
              have hB4 : H4 B = some (.lst [.bl true]) := e4.keep _ _ (e3.keep _ _ hB (nin1 n4)) (nin1 n7.symm)
              clear hT hB
              cases its with
              | nil =>
                cases xs with
                | cons => cases hx
                | nil =>
                  refine g_iteDT (decide_eq_true (by rfl)) ?_
                  walk_at "eo go"
                  rename_i H5 e5 h5 H6 e6 h6
                  refine k _ _ H6 (tk _ _ (.out ht hi hz')) ((e14.one e5 ol_T).one e6 ol_B) ?_
                  exact (F4.wT e5 h5).wB e6 h6
              | cons y0 its =>
                cases xs with
                | nil => cases hx
                | cons x0 xs =>
                  try refine g_iteDF (by rw [List.length_cons]; exact decide_eq_false (fun c => by have := vint c; omega)) ?_
                  walk_at "eo go"
                  refine k _ _ H4 (tk _ _ (.out ht hi hz')) e14 ?_
                  have eg : s'.gone q f rest z (y0 :: its) = ⟨s'.ks, fset s'.it f (y0 :: its), fset s'.lf f (s'.got q f - z), s'.tu, true⟩ := by rw [ht]; rfl
                  rw [eg]
                  exact F4
            · have hz' := dec_f hz
              have hlR : (rest.map V.int).length < sizeLine := by
                rw [ht] at et
                rw [List.length_map, sizeLine_eq]
                rw [List.length_cons] at et
                omega
              have nBT : B ≠ Tt := nTB.symm
              walk_at "eo go"
              rename_i H3 e3 h3 H4 e4 h4 H5 e5 h5
              have F5 := ((F2.wT e3 h3).wT (tu' := rest ++ [f]) e4 (by rw [List.map_append]; exact h4)).wB e5 h5
              refine ⟨_, lack_over hq ht (by unfold AF.hs; rw [hi]; exact hz'), s'.over q f rest, _, _, _, rfl, F5, W'.over ht, ((e2.one e3 ol_T).one e4 ol_T).one e5 ol_B, ek, ?_, fun w s2 t => tk w s2 (.turn ht hi hz' t), rfl⟩
              show (rest ++ [f]).length = _
              rw [← et, ht, List.length_append, List.length_cons]
              rfl
theorem ok_law_begin {A : Adr} (T : Txt K mg A) : FnOk P w K mg base CX0 1 A.f_law_begin A.d_law_begin ["script"] (spBegin K) := by
  refine T.law_begin.F.ok sc_law_begin (fun vs H Q E h => ?_) (fun cdv Ar outer s H vs Q E hr h => ?_)
  · obtain ⟨a, ns, rfl, _⟩ := h
    rfl
  · obtain ⟨a, ns, rfl, hS, hlen, k⟩ := h
    refine ⟨_, (pss_cons (ps_set (i := 1) sc_law_begin.nd rfl (Or.inl rfl) pe_int)
      (pss_cons (ps_for PassesOwn.never rfl (pi_list (pv 0)) (pg_name (i := 2) sc_law_begin.nd rfl (Or.inl rfl)) (pss_one (ps_set (i := 1) sc_law_begin.nd rfl (Or.inl rfl) (pe_op op_mod (pe_op o_add (pe_op o_add (pe_op o_mul (pv 1) pe_int) (pe_op op_mod (pe_callTy (T := "int") o_int (by rfl) T.b_int (by decide +kernel) (pa_cons (pv 2) pa_nil)) pe_int)) pe_int) pe_int))))
      (pss_one (ps_ret (pe_lstX (pa_cons (pe_callTy (T := "list") o_list (by rfl) T.b_list (by decide +kernel) (pa_cons (pv 0) pa_nil)) (pa_cons pe_int (pa_cons pe_int (pa_cons (pv 1) pa_nil))))))))), ?_⟩
    walk_at "eo init"
    walk_at "eo go"
    refine g_forL (ns.map V.int) hS (fun i σ H' => ∃ (z : Int) (c : Option V), σ = [some (.ref a), some (.int z), c] ∧ H' = H) ⟨1, none, rfl, rfl⟩ (fun i σ H' _ ⟨_, _, _, e⟩ => by rw [e]; exact hS) ?_ ?_
    · rintro i x σ H' hi ⟨z, c, rfl, rfl⟩
      obtain ⟨n, _, rfl⟩ := mem_map_int hi
      walk_at "eo go"
      exact ⟨_, _, rfl, rfl⟩
    · rintro σ H' ⟨z, c, rfl, rfl⟩
      walk_at "eo go"
      rename_i s1 H1 hs1 e1 hl d1 H2 hd1 e2 hd
      have f1 : H2 s1 = some (.lst (ns.map V.int)) := by walk_at "eo fact"
      exact k d1 s1 H2 (by walk_at "eo free") hs1 (by walk_at "eo ext") ⟨(ne_of_none hl hd1).symm, ns, 0, 0, z, hd, f1, hlen, Int.le_refl _, Int.le_refl _⟩
theorem ok_law_take {A : Adr} (T : Txt K mg A) : FnOk P w K mg base CX0 1 A.f_law_take A.d_law_take ["d", "many"] spTake := by
  refine T.law_take.F.ok sc_law_take (fun vs H Q E h => ?_) (fun cdv Ar outer s H vs Q E hr h => ?_)
  · obtain ⟨d, s, many, rfl, _⟩ := h
    rfl
  · obtain ⟨d, s, many, rfl, ⟨ne, ns, pos, cur, seed, hd, hs, hlen, hp, hc⟩, hm, hm2, k⟩ := h
    refine ⟨_, (pss_cons (ps_if (PW.pt (pw_and (pt_cmpR (o_eq hr.units) (pe_ix ix_seq (pv 0) pe_int (fun _ _ => rfl)) pe_int (nomark _)) (pw_and1 (pt_cmpR op_lt (pe_ix ix_seq (pv 0) pe_int (fun _ _ => rfl)) (pe_callB (id := "len") o_len (by rfl) T.b_len (by decide +kernel) (pa_cons (pe_ix ix_seq (pv 0) pe_int (fun _ _ => rfl)) pa_nil)) (nomark _))))) (pss_cons (ps_asg (pe_callB (id := "abs") o_abs (by rfl) T.b_abs (by decide +kernel) (pa_cons (pe_callTy (T := "int") o_int (by rfl) T.b_int (by decide +kernel) (pa_cons (pe_ix ix_seq (pe_ix ix_seq (pv 0) pe_int (fun _ _ => rfl)) (pe_ix ix_seq (pv 0) pe_int (fun _ _ => rfl)) (fun _ _ => rfl)) pa_nil)) pa_nil)) (pg_sub (pv 0) pe_int set_list))
      (pss_cons (ps_asg (pe_op o_add (pe_ix ix_seq (pv 0) pe_int (fun _ _ => rfl)) pe_int) (pg_sub (pv 0) pe_int set_list))
      (pss_one (ps_if (pt_chain op_lt op_lt pe_int (pe_ix ix_seq (pv 0) pe_int (fun _ _ => rfl)) (pv 1)) (pss_cons (ps_set (i := 2) sc_law_take.nd rfl (Or.inl rfl) (pe_ix ix_seq (pv 0) pe_int (fun _ _ => rfl)))
      (pss_cons (ps_asg pe_int (pg_sub (pv 0) pe_int set_list))
      (pss_one (ps_ret (pv 2))))) pss_nil)))) pss_nil)
      (pss_cons (ps_if (pt_cmpR op_gt (pe_ix ix_seq (pv 0) pe_int (fun _ _ => rfl)) pe_int (nomark _)) (pss_cons (ps_set (i := 3) sc_law_take.nd rfl (Or.inl rfl) (pe_op op_mod (pe_callTy (T := "int") o_int (by rfl) T.b_int (by decide +kernel) (pa_cons (pe_ix ix_seq (pv 0) pe_int (fun _ _ => rfl)) pa_nil)) (pv 1)))
      (pss_cons (ps_asg (pe_op op_fdivW (pe_callTy (T := "int") o_int (by rfl) T.b_int (by decide +kernel) (pa_cons (pe_ix ix_seq (pv 0) pe_int (fun _ _ => rfl)) pa_nil)) (pv 1)) (pg_sub (pv 0) pe_int set_list))
      (pss_one (ps_ret (pv 3))))) pss_nil)
      (pss_cons (ps_asg (pe_op op_mod (pe_callTy (T := "int") o_int (by rfl) T.b_int (by decide +kernel) (pa_cons (pe_op o_add (pe_op o_mul (pe_ix ix_seq (pv 0) pe_int (fun _ _ => rfl)) pe_int) pe_int) pa_nil)) pe_int) (pg_sub (pv 0) pe_int set_list))
      (pss_one (ps_ret (pe_op op_mod (pe_callTy (T := "int") o_int (by rfl) T.b_int (by decide +kernel) (pa_cons (pe_op op_fdivW (pe_ix ix_seq (pv 0) pe_int (fun _ _ => rfl)) pe_int) pa_nil)) (pv 1))))))), ?_⟩
    walk_at "eo init"
    have nsd : s ≠ d := ne.symm
    have leaf : ∀ (x : Int) (H1 : Hp) (pos cur seed : Int), Ext [d] H H1 → H1 d = some (.lst [.ref s, .int pos, .int cur, .int seed]) → 0 ≤ pos → 0 ≤ cur → Q (.int (x % many)) H1 := fun x H1 p c sd e h1 p1 p2 =>
      k _ _ (Int.emod_nonneg _ (by omega)) (Int.emod_lt_of_pos _ hm) e ⟨ne, ns, p, c, sd, h1, e.keep _ _ hs (nin1 nsd), hlen, p1, p2⟩
    walk_at "eo go"
    refine g_ite (fun h1 => ?_) (fun h1 => ?_)
    · have h1' := vint (dec_t h1)
      subst h1'
      walk_at "eo go"
      refine g_ite (fun h2 => ?_) (fun h2 => ?_)
      · have h2' := dec_t h2
        have hpl : pos.toNat < ns.length := by rw [List.length_map] at h2'; omega
        have ha : (ns.map V.int)[pos.toNat]? = some (.int ns[pos.toNat]) := by simp [hpl]
        walk_at "eo go"
        refine g_ite (fun h3 => ?_) (fun h3 => ?_)
        · walk_at "eo go"
          refine g_ite (fun h4 => ?_) (fun h4 => ?_)
          · have h4' := dec_t h4
            walk_at "eo go"
            rename_i e3 f3
            exact k _ _ (by omega) h4' (by walk_at "eo ext") ⟨ne, ns, _, _, _, f3, by walk_at "eo fact", hlen, by omega, by omega⟩
          · walk_at "eo go"
            rename_i H9 _ f9
            exact leaf _ _ _ _ _ (by walk_at "eo ext") f9 (by omega) (Int.ediv_nonneg (by omega) (Int.le_of_lt hm))
        · walk_at "eo go"
          rename_i H9 _ f9
          exact leaf _ _ _ _ _ (by walk_at "eo ext") f9 (by omega) (by omega)
      · walk_at "eo go"
        rename_i H9 _ f9
        exact leaf _ _ _ _ _ (by walk_at "eo ext") f9 hp hc
    · have h1' : ¬ cur = 0 := fun z => dec_f h1 (by rw [z])
      have h3 : decide (0 < cur) = true := decide_eq_true (by omega)
      walk_at "eo go"
      rename_i H9 _ f9
      exact leaf _ _ _ _ _ (by walk_at "eo ext") f9 hp (Int.ediv_nonneg hc (Int.le_of_lt hm))
section
variable {K : PySem.W.Frag} {H : Hp} {Q : VK} {E : XK}
theorem g_take {d s : Addr} {many : Int} (hD : DSt H d s) (h0 : 0 < many) (h1 : many < 2 ^ 64) (h : ∀ k H', 0 ≤ k → k < many → Ext [d] H H' → DSt H' d s → Q (.int k) H') : spTake ([.ref d, .int many] ++ []) H Q E := ⟨d, s, many, rfl, hD, h0, h1, h⟩
theorem g_pick {d s m : Addr} {xs : List V} (hD : DSt H d s) (hm : SqL K H m xs) (ne : m ≠ d) (h0 : 0 < xs.length) (h1 : xs.length < 1000) (h : ∀ v H', v ∈ xs → Ext [d] H H' → DSt H' d s → Q v H') : spPick K ([.ref d, .ref m] ++ []) H Q E := ⟨d, s, m, xs, rfl, hD, hm, ne, h0, h1, h⟩
end
def spOct (K : PySem.W.Frag) : Sp := fun vs H Q _ => ∃ (d s : Addr) (most : Int), vs = [.ref d, .int most] ∧ DSt H d s ∧ 0 ≤ most ∧ most < 1000 ∧
  ∀ (c : Addr) (ns : List Int) (H' : Hp), Ext [d] H H' → DSt H' d s → SqT K H' c (ns.map V.int) → (∀ x ∈ ns, 0 ≤ x ∧ x ≤ 255) → (ns.length : Int) ≤ most → Q (.ref c) H'
theorem g_oct {K : PySem.W.Frag} {H : Hp} {Q : VK} {E : XK} {d s : Addr} {most : Int} (hD : DSt H d s) (h0 : 0 ≤ most) (h1 : most < 1000)
    (h : ∀ (c : Addr) (ns : List Int) (H' : Hp), Ext [d] H H' → DSt H' d s → SqT K H' c (ns.map V.int) → (∀ x ∈ ns, 0 ≤ x ∧ x ≤ 255) → (ns.length : Int) ≤ most → Q (.ref c) H') : spOct K ([.ref d, .int most] ++ []) H Q E := ⟨d, s, most, rfl, hD, h0, h1, h⟩
local macro_rules | `(tactic| walk_at "eo step") => `(tactic| first
  | ((with_reducible apply g_take); (walk_at "eo dst"); (walk_at "eo arith"); (walk_at "eo arith"); intro _ _ _ _ _ _)
  | ((with_reducible apply g_pick); (walk_at "eo dst"); (walk_at "eo sqL"); (walk_at "eo ne"); (walk_at "eo pos"); (walk_at "eo pos"); intro _ _ _ _ _)
  | ((with_reducible apply g_oct); (walk_at "eo dst"); (walk_at "eo arith"); (walk_at "eo arith"); intro _ _ _ _ _ _ _ _))
local macro_rules | `(tactic| walk_at "eo pos") => `(tactic| first | exact Nat.zero_lt_succ _ | exact lt1000)
theorem ok_law {A : Adr} (T : Txt K mg A) : FnOk P w K mg base CX0 4 A.f_law A.d_law ["script"] (spLaw K) := by
  have c1 := T.Fair.cl
  have c2 := T.Fair.na
  have c3 := T.Fifo.cl
  have c4 := T.Fifo.na
  refine T.law.F.ok sc_law (fun vs H Q E h => ?_) (fun cdv Ar outer s H vs Q E hr h => ?_)
  · obtain ⟨a, ns, rfl, _⟩ := h
    rfl
  · obtain ⟨a, ns, rfl, hS, hlen, k⟩ := h
    refine ⟨_, (pss_cons (ps_set (i := 1) sc_law.nd rfl (Or.inr rfl) (pe_call (ok_law_begin T) (hr.mono (by decide)) (by rfl) T.law_begin.mg T.law_begin.kp T.law_begin.b .nil pass0 (pa_cons (pv 0) pa_nil)))
      (pss_cons (ps_set (i := 2) sc_law.nd rfl (Or.inl rfl) (pe_op o_add pe_int (pe_call (ok_law_take T) (hr.mono (by decide)) (by rfl) T.law_take.mg T.law_take.kp T.law_take.b .nil pass0 (pa_cons (pv 1) (pa_cons pe_int pa_nil)))))
      (pss_cons (ps_set (i := 3) sc_law.nd rfl (Or.inl rfl) (pe_makeX T.Fifo.make (ok_Fifo_init T) (hr.mono (by decide)) (by rfl) T.Fifo.mg T.Fifo_init.b .nil pass0 (pa_cons (pv 2) pa_nil)))
      (pss_cons (ps_set (i := 4) sc_law.nd rfl (Or.inl rfl) (pe_lstX pa_nil))
      (pss_join (ps_for PassesOwn.never rfl (pi_range1 (by rfl) T.b_range (pa_cons (pe_call (ok_law_take T) (hr.mono (by decide)) (by rfl) T.law_take.mg T.law_take.kp T.law_take.b .nil pass0 (pa_cons (pv 1) (pa_cons pe_int pa_nil))) pa_nil)) (pg_name (i := 5) sc_law.nd rfl (Or.inl rfl)) (pss_join (ps_if (pt_cmpR op_gt (pe_call (ok_law_take T) (hr.mono (by decide)) (by rfl) T.law_take.mg T.law_take.kp T.law_take.b .nil pass0 (pa_cons (pv 1) (pa_cons pe_int pa_nil))) pe_int (nomark _)) (pss_cons (ps_if (pt_cmpR (o_ne hr.units) (pe_callB (id := "repr") o_repr (by rfl) T.b_repr (by decide +kernel) (pa_cons (pe_meth (pv 3) T.Fifo.cl T.Fifo_put.me (ok_Fifo_put T) (hr.mono (by decide)) T.Fifo_put.b .nil pass0 (pa_cons (pv 5) pa_nil)) pa_nil)) (pe_callB (id := "repr") o_repr (by rfl) T.b_repr (by decide +kernel) (pa_cons (pe_cmpR op_lt (pe_callB (id := "len") o_len (by rfl) T.b_len (by decide +kernel) (pa_cons (pv 4) pa_nil)) (pv 2) (nomark _)) pa_nil)) (nomark _)) (pss_one (ps_ret pe_bl)) pss_nil)
      (pss_one (ps_set (i := 4) sc_law.nd rfl (Or.inl rfl) (pe_slice o_sl (pe_op o_add (pv 4) (pe_lstX (pa_cons (pv 5) pa_nil))) po_none (po_some (pv 2)))))) (pss_one (ps_if (pt_cmpR (o_ne hr.units) (pe_meth0 (pv 3) T.Fifo.cl T.Fifo_take.me (ok_Fifo_take T) (hr.mono (by decide)) T.Fifo_take.b .nil pass0) (pe_ifExp (pt_cmpR op_gt (pe_callB (id := "len") o_len (by rfl) T.b_len (by decide +kernel) (pa_cons (pv 4) pa_nil)) pe_int (nomark _)) (pe_bm PySem.F.plainAttrs_list PySem.F.slot_list_pop PySem.F.type_list_pop mt_popAt (pv 4) (pa_cons pe_int pa_nil)) pe_non) (nomark _)) (pss_one (ps_ret pe_bl)) pss_nil)))
      (pss_one (ps_if (pt_cmpR (o_ne hr.units) (pe_meth0 (pv 3) T.Fifo.cl T.Fifo_many.me (ok_Fifo_many T) (hr.mono (by decide)) T.Fifo_many.b .nil pass0) (pe_callB (id := "len") o_len (by rfl) T.b_len (by decide +kernel) (pa_cons (pv 4) pa_nil)) (nomark _)) (pss_one (ps_ret pe_bl)) pss_nil))))
      (pss_cons (ps_set (i := 6) sc_law.nd rfl (Or.inl rfl) (pe_op o_add pe_int (pe_call (ok_law_take T) (hr.mono (by decide)) (by rfl) T.law_take.mg T.law_take.kp T.law_take.b .nil pass0 (pa_cons (pv 1) (pa_cons pe_int pa_nil)))))
      (pss_cons (ps_set (i := 7) sc_law.nd rfl (Or.inl rfl) (pe_makeX T.Fair.make (ok_Fair_init T) (hr.mono (by decide)) (by rfl) T.Fair.mg T.Fair_init.b .nil pass0 (pa_cons (pv 2) (pa_cons (pv 6) pa_nil))))
      (pss_cons (ps_asg (pe_tupX (pa_cons pe_dnewK (pa_cons (pe_lstX pa_nil) (pa_cons pe_dnewK (pa_cons (pe_lstX (pa_cons pe_bl pa_nil)) pa_nil))))) (pg_tup (n := 4) rfl (pgs_cons (pg_name (i := 8) sc_law.nd rfl (Or.inr rfl)) (pgs_cons (pg_name (i := 9) sc_law.nd rfl (Or.inl rfl)) (pgs_cons (pg_name (i := 10) sc_law.nd rfl (Or.inl rfl)) (pgs_cons (pg_name (i := 11) sc_law.nd rfl (Or.inl rfl)) pgs_nil))))))
      (pss_join (ps_for PassesOwn.never rfl (pi_range1 (by rfl) T.b_range (pa_cons (pe_call (ok_law_take T) (hr.mono (by decide)) (by rfl) T.law_take.mg T.law_take.kp T.law_take.b .nil pass0 (pa_cons (pv 1) (pa_cons pe_int pa_nil))) pa_nil)) (pg_name (i := 5) sc_law.nd rfl (Or.inl rfl)) (pss_join (ps_if (pt_cmpR op_gt (pe_call (ok_law_take T) (hr.mono (by decide)) (by rfl) T.law_take.mg T.law_take.kp T.law_take.b .nil pass0 (pa_cons (pv 1) (pa_cons pe_int pa_nil))) pe_int (nomark _)) (pss_cons (ps_set (i := 12) sc_law.nd rfl (Or.inl rfl) (pe_call (ok_law_take T) (hr.mono (by decide)) (by rfl) T.law_take.mg T.law_take.kp T.law_take.b .nil pass0 (pa_cons (pv 1) (pa_cons pe_int pa_nil))))
      (pss_cons (ps_set (i := 13) sc_law.nd rfl (Or.inl rfl) (pe_op o_add pe_int (pe_call (ok_law_take T) (hr.mono (by decide)) (by rfl) T.law_take.mg T.law_take.kp T.law_take.b .nil pass0 (pa_cons (pv 1) (pa_cons pe_int pa_nil)))))
      (pss_join (ps_set (i := 14) sc_law.nd rfl (Or.inl rfl) (pe_dsetd (pv 8) (pv 12) (pe_lstX pa_nil) ⟨rfl, rfl, rfl, rfl⟩))
      (pss_cons (ps_set (i := 15) sc_law.nd rfl (Or.inl rfl) (pe_cmpR op_lt (pe_callB (id := "len") o_len (by rfl) T.b_len (by decide +kernel) (pa_cons (pv 14) pa_nil)) (pv 2) (nomark _)))
      (pss_cons (ps_if (pt_cmpR (o_ne hr.units) (pe_callB (id := "repr") o_repr (by rfl) T.b_repr (by decide +kernel) (pa_cons (pe_meth (pv 7) T.Fair.cl T.Fair_put.me (ok_Fair_put T) (hr.mono (by decide)) T.Fair_put.b .nil pass0 (pa_cons (pv 12) (pa_cons (pv 13) (pa_cons (pv 5) pa_nil)))) pa_nil)) (pe_callB (id := "repr") o_repr (by rfl) T.b_repr (by decide +kernel) (pa_cons (pv 15) pa_nil)) (nomark _)) (pss_one (ps_ret pe_bl)) pss_nil)
      (pss_one (ps_if (pt_truth (pv 15) (by intro _; rfl)) (pss_cons (ps_expr (pe_bm PySem.F.plainAttrs_list PySem.F.slot_list_append PySem.F.type_list_append mt_append (pv 14) (pa_cons (pe_tupX (pa_cons (pv 13) (pa_cons (pv 5) pa_nil))) pa_nil)))
      (pss_one (ps_if (pt_cmpR op_notIn_seq (pv 12) (pv 9) rfl) (pss_cons (ps_expr (pe_bm PySem.F.plainAttrs_list PySem.F.slot_list_append PySem.F.type_list_append mt_append (pv 9) (pa_cons (pv 12) pa_nil)))
      (pss_one (ps_dput (u1 hr.units) (pv 10) (pv 12) pe_int rfl))) pss_nil))) pss_nil))))))) (pss_one (ps_if (pt_cmpR (o_ne hr.units) (pe_meth0 (pv 7) T.Fair.cl T.Fair_take.me (ok_Fair_take T) (hr.mono (by decide)) T.Fair_take.b .nil pass0) (pe_call (ok_law_next T) (hr.mono (by decide)) (by rfl) T.law_next.mg T.law_next.kp T.law_next.b .nil pass0 (pa_cons (pv 8) (pa_cons (pv 9) (pa_cons (pv 10) (pa_cons (pv 11) (pa_cons (pv 6) pa_nil)))))) (nomark _)) (pss_one (ps_ret pe_bl)) pss_nil)))
      (pss_one (ps_if (pt_cmpR (o_ne hr.units) (pe_meth0 (pv 7) T.Fair.cl T.Fair_many.me (ok_Fair_many T) (hr.mono (by decide)) T.Fair_many.b .nil pass0) (pe_callB (id := "sum") (cr_sum rfl) (by rfl) T.b_sum (by decide +kernel) (pa_cons (pe_lock (PE.star (pe_lc (own := [("flow", 12)]) (tt := stT tYes) rfl sc_law.nd (pi_keys (pv 8)) (blkOk_by (own := [("flow", 12)]) (N := ["script", "d", "room", "fifo", "row", "k", "quantum", "fair", "flows", "turns", "left", "begun", "flow", "size", "waits", "fits", "race", "sizes", "given", "many", "most", "told"]) (sc := defScope s_law) (by decide +kernel)) (fun _ _ _ _ _ => PG.star (pg_name (i := 12) sc_law.nd rfl (Or.inl rfl))) (fun _ _ _ _ _ => PTs.star (pts_nil)) (fun _ _ _ _ _ => PE.star (pe_callB (id := "len") (kkCallR (r := rLenX) (K := K) rfl o_len) (by rfl) T.b_len (by decide +kernel) (pa_cons (pe_dget (u1 hr.units) (pv 8) (pv 12) (fun _ _ => rfl)) pa_nil)))))) pa_nil)) (nomark _)) (pss_one (ps_ret pe_bl)) pss_nil))))
      (pss_cons (ps_set (i := 16) sc_law.nd rfl (Or.inl rfl) (pe_makeX T.Fair.make (ok_Fair_init T) (hr.mono (by decide)) (by rfl) T.Fair.mg T.Fair_init.b .nil pass0 (pa_cons pe_int (pa_cons (pv 6) pa_nil))))
      (pss_cons (ps_setLc (i := 17) (own := [("flow", 12)]) (tt := stT tYes) rfl sc_law.nd rfl rfl (sw_true rfl rfl rfl (by decide +kernel)) (pi_tup (pe_tupX (pa_cons pe_int (pa_cons pe_int pa_nil)))) (blkOk_by (own := [("flow", 12)]) (N := ["script", "d", "room", "fifo", "row", "k", "quantum", "fair", "flows", "turns", "left", "begun", "flow", "size", "waits", "fits", "race", "sizes", "given", "many", "most", "told"]) (sc := defScope s_law) (by decide +kernel)) (fun _ _ _ _ _ => PG.star (pg_name (i := 12) sc_law.nd rfl (Or.inl rfl))) (fun _ _ _ _ _ => PTs.star (pts_nil)) (fun _ _ _ _ _ => PE.star (pe_lc (own := [("k", 5)]) (tt := stT tYes) rfl sc_law.nd (pi_range1 (by rfl) T.b_range (pa_cons pe_int pa_nil)) (blkOk_by (own := [("k", 5)]) (N := ["script", "d", "room", "fifo", "row", "k", "quantum", "fair", "flows", "turns", "left", "begun", "flow", "size", "waits", "fits", "race", "sizes", "given", "many", "most", "told"]) (sc := relS (asgScope ((defBody s_law).getD 10 (.Pass ⟨0, 0, 0, 0⟩))) (defScope s_law)) (by decide +kernel)) (fun _ _ _ _ _ => PG.star (pg_name (i := 5) sc_law.nd rfl (Or.inl rfl))) (fun _ _ _ _ _ => PTs.star (pts_nil)) (fun _ _ _ _ _ => PE.star (pe_op (kkOpR (r := rAddX) (K := K) rfl o_add) pe_int (pe_call (ok_law_take T) (hr.mono (by decide)) (by rfl) T.law_take.mg T.law_take.kp T.law_take.b .nil pass0 (pa_cons (pv 1) (pa_cons pe_int pa_nil))))))))
      (pss_cons (ps_for PassesOwn.never rfl (pi_range1 (by rfl) T.b_range (pa_cons pe_int pa_nil)) (pg_name (i := 5) sc_law.nd rfl (Or.inl rfl)) (pss_one (ps_for PassesOwn.never rfl (pi_tup (pe_tupX (pa_cons pe_int (pa_cons pe_int pa_nil)))) (pg_name (i := 12) sc_law.nd rfl (Or.inl rfl)) (pss_one (ps_expr (pe_meth (pv 16) T.Fair.cl T.Fair_put.me (ok_Fair_put T) (hr.mono (by decide)) T.Fair_put.b .nil pass0 (pa_cons (pv 12) (pa_cons (pe_ix ix_seq (pe_ix ix_seq (pv 17) (pv 12) (fun _ _ => rfl)) (pv 5) (fun _ _ => rfl)) (pa_cons (pe_tupX (pa_cons (pv 12) (pa_cons (pe_ix ix_seq (pe_ix ix_seq (pv 17) (pv 12) (fun _ _ => rfl)) (pv 5) (fun _ _ => rfl)) pa_nil))) pa_nil)))))))))
      (pss_cons (ps_set (i := 18) sc_law.nd rfl (Or.inl rfl) (pe_lstX (pa_cons pe_int (pa_cons pe_int pa_nil))))
      (pss_cons (ps_set (i := 19) sc_law.nd rfl (Or.inl rfl) (pe_lstX (pa_cons pe_int (pa_cons pe_int pa_nil))))
      (pss_cons (ps_set (i := 20) sc_law.nd rfl (Or.inl rfl) (pe_callB (id := "max") (cr_max rfl) (by rfl) T.b_max (by decide +kernel) (pa_cons (pe_op o_add (pe_ix ix_seq (pv 17) pe_int (fun _ _ => rfl)) (pe_ix ix_seq (pv 17) pe_int (fun _ _ => rfl))) pa_nil)))
      (pss_cons (ps_while PassesOwn.never (pt_cmpR op_lt (pe_callB (id := "max") (cr_max rfl) (by rfl) T.b_max (by decide +kernel) (pa_cons (pv 19) pa_nil)) pe_int (nomark _)) (pss_cons (ps_set (i := 21) sc_law.nd rfl (Or.inl rfl) (pe_meth0 (pv 16) T.Fair.cl T.Fair_take.me (ok_Fair_take T) (hr.mono (by decide)) T.Fair_take.b .nil pass0))
      (pss_cons (ps_if (pt_cmpR op_isN (pv 21) pe_non (nomark _)) (pss_one (ps_ret pe_bl)) pss_nil)
      (pss_cons (ps_asg (pv 21) (pg_tup (n := 2) rfl (pgs_cons (pg_name (i := 12) sc_law.nd rfl (Or.inl rfl)) (pgs_cons (pg_name (i := 13) sc_law.nd rfl (Or.inl rfl)) pgs_nil))))
      (pss_cons (ps_asg (pe_op o_add (pe_ix ix_seq (pv 18) (pv 12) (fun _ _ => rfl)) (pv 13)) (pg_sub (pv 18) (pv 12) set_list))
      (pss_cons (ps_asg (pe_op o_add (pe_ix ix_seq (pv 19) (pv 12) (fun _ _ => rfl)) pe_int) (pg_sub (pv 19) (pv 12) set_list))
      (pss_one (ps_if (pt_cmpR op_ge (pe_callB (id := "abs") o_abs (by rfl) T.b_abs (by decide +kernel) (pa_cons (pe_op op_sub (pe_ix ix_seq (pv 18) pe_int (fun _ _ => rfl)) (pe_ix ix_seq (pv 18) pe_int (fun _ _ => rfl))) pa_nil)) (pe_op o_add (pv 6) (pe_op o_mul pe_int (pv 20))) (nomark _)) (pss_one (ps_ret pe_bl)) pss_nil))))))))
      (pss_one (ps_ret pe_bl)))))))))))))))))), ?_⟩
    walk_at "eo init"
    walk_at "eo go"
    refine ⟨a, ns, rfl, hS, hlen, fun d sc H1 nd nsc e1 hD => ?_⟩
    walk_at "eo go"
    rename_i rm H2 rm0 rm1 e2 hD2
    intro p dp H3 np e3 hp
    refine ⟨p, dp, _, rfl, hp, fun l H4 nl e4 R => ⟨rfl, ?_⟩⟩
    have ndp : d ≠ p := ne_dst1 np hD2
    have nsp : sc ≠ p := ne_dst2 np hD2
    have hD3 : DSt H3 d sc := by walk_at "eo dst"
    have hD4 : DSt H4 d sc := by walk_at "eo dst"
    have ndl : d ≠ l := ne_dst1 nl hD3
    have nsl : sc ≠ l := ne_dst2 nl hD3
    walk_at "eo go"
    rename_i rr H5 nrr e5 hrr
    have hD5 : DSt H5 d sc := by walk_at "eo dst"
    have R5 : Row A.c_Fifo H5 p l (1 + rm) [] := ⟨R.1.imp fun _ z => e5.keep _ _ z nin0, e5.keep _ _ R.2 nin0⟩
    have nrl : rr ≠ l := (ne_of_none R.2 nrr).symm
    have nrd : rr ≠ d := (ne_dst1 nrr hD4).symm
    have nrs : rr ≠ sc := (ne_dst2 nrr hD4).symm
    clear e1 e2 e3 e4 e5 nd nsc np nl nrr hD hD2 hD3 hD4 hp R
    refine g_join (fun σ' H' => ∃ (row : V) (s5 : Option V), σ' = [some (.ref a), some (.ref d), some (.int (1 + rm)), some (.ref p), some row, s5, none, none, none, none, none, none, none, none, none, none, none, none, none, none, none, none] ∧ DSt H' d sc) ?_ ?_
    · walk_at "eo go"
      rename_i n H6 n0 n1 e6 hD6
      have R6 : Row A.c_Fifo H6 p l (1 + rm) [] := ⟨R5.1.imp fun _ z => e6.keep _ _ z (nin1 ndp.symm), e6.keep _ _ R5.2 (nin1 ndl.symm)⟩
      have hrr6 : H6 rr = some (.lst []) := e6.keep _ _ hrr (nin1 nrd)
      refine g_forR (fun i σ H' => ∃ (rr : Addr) (s5 : Option V) (xs : List Int), σ = [some (.ref a), some (.ref d), some (.int (1 + rm)), some (.ref p), some (.ref rr), s5, none, none, none, none, none, none, none, none, none, none, none, none, none, none, none, none] ∧ DSt H' d sc ∧ Row A.c_Fifo H' p l (1 + rm) (xs.map V.int) ∧
        H' rr = some (.lst (xs.map V.int)) ∧ rr ≠ l ∧ rr ≠ d ∧ rr ≠ sc ∧ (xs.length : Int) ≤ 1 + rm) ⟨rr, none, [], rfl, hD6, R6, hrr6, nrl, nrd, nrs, by simp; omega⟩ ?_ ?_
      · rintro i σ H hi ⟨rr, s5, xs, rfl, hD, ⟨⟨dx, hp⟩, hl⟩, hrr, nrl, nrd, nrs, hx⟩
        walk_at "eo go"
        refine g_join (fun σ H' => ∃ (rr : Addr) (xs : List Int), σ = [some (.ref a), some (.ref d), some (.int (1 + rm)), some (.ref p), some (.ref rr), some (.int (0 + i)), none, none, none, none, none, none, none, none, none, none, none, none, none, none, none, none] ∧ DSt H' d sc ∧ Row A.c_Fifo H' p l (1 + rm) (xs.map V.int) ∧
          H' rr = some (.lst (xs.map V.int)) ∧ rr ≠ l ∧ rr ≠ d ∧ rr ≠ sc ∧ (xs.length : Int) ≤ 1 + rm) ?_ ?_
        · walk_at "eo go"
          rename_i t3 H7 t0 t1 e7 hD7
          have hp7 := e7.keep _ _ hp (nin1 ndp.symm)
          have hl7 := e7.keep _ _ hl (nin1 ndl.symm)
          have hrr7 := e7.keep _ _ hrr (nin1 nrd)
          have hxl : (xs.map V.int).length = xs.length := List.length_map _
          clear hp hl hrr e7 hD
          refine g_ite (fun q => ?_) (fun q => ?_)
          · walk_at "eo go"
            refine ⟨p, l, 1 + rm, xs.map V.int, .int (0 + i), rfl, ⟨⟨dx, hp7⟩, hl7⟩, by omega, fun c => ?_, fun c H8 e8 R8 => ?_⟩
            · rw [hxl] at c
              walk_at "eo go"
              refine g_iteDF (by rw [hxl, decide_eq_false (show ¬ ((xs.length : Int) < 1 + rm) by omega)]; simp) ?_
              walk_at "eo go"
              rename_i b1 H8 nb1 e8 hb1 b2 H9 nb2 e9 hb2 b3 H10 nb3 e10 hb3
              have ex : (xs ++ [0 + (i : Int)]).take (1 + rm).toNat = xs := by rw [List.take_append_of_le_length (by omega), List.take_of_length_le (by omega)]
              rw [cutI (by omega), ex] at hb3
              have e710 : Ext [] H7 H10 := by walk_at "eo ext"
              exact ⟨b3, xs, rfl, hD7.ext e710 nin0 nin0, ⟨⟨dx, e710.keep _ _ hp7 nin0⟩, e710.keep _ _ hl7 nin0⟩, hb3, (ne_of_none (e9.keep _ _ (e8.keep _ _ hl7 nin0) nin0) nb3).symm, (ne_dst1 nb3 ((hD7.ext e8 nin0 nin0).ext e9 nin0 nin0)).symm, (ne_dst2 nb3 ((hD7.ext e8 nin0 nin0).ext e9 nin0 nin0)).symm, hx⟩
            · rw [hxl] at c
              have hD8 : DSt H8 d sc := hD7.ext e8 (nin1 ndl) (nin1 nsl)
              have hrr8 := e8.keep _ _ hrr7 (nin1 nrl)
              walk_at "eo go"
              refine g_iteDF (by rw [hxl, decide_eq_true (show (xs.length : Int) < 1 + rm by omega)]; simp) ?_
              walk_at "eo go"
              rename_i b1 H9 nb1 e9 hb1 b2 H10 nb2 e10 hb2 b3 H11 nb3 e11 hb3
              have ex : (xs ++ [0 + (i : Int)]).take (1 + rm).toNat = xs ++ [0 + (i : Int)] := List.take_of_length_le (by rw [List.length_append, List.length_singleton]; omega)
              rw [cutI (by omega), ex] at hb3
              have e811 : Ext [] H8 H11 := by walk_at "eo ext"
              obtain ⟨⟨dx, r1⟩, r2⟩ := R8
              exact ⟨b3, xs ++ [0 + (i : Int)], rfl, hD8.ext e811 nin0 nin0, ⟨⟨dx, e811.keep _ _ r1 nin0⟩, by rw [List.map_append]; exact e811.keep _ _ r2 nin0⟩, hb3, (ne_of_none (e10.keep _ _ (e9.keep _ _ r2 nin0) nin0) nb3).symm, (ne_dst1 nb3 ((hD8.ext e9 nin0 nin0).ext e10 nin0 nin0)).symm, (ne_dst2 nb3 ((hD8.ext e9 nin0 nin0).ext e10 nin0 nin0)).symm, by rw [List.length_append, List.length_singleton]; omega⟩
          · walk_at "eo go"
            refine ⟨p, l, 1 + rm, xs.map V.int, rfl, ⟨⟨dx, hp7⟩, hl7⟩, fun c => ?_, fun x t c H8 e8 R8 => ?_⟩
            · cases xs with
              | cons => cases c
              | nil =>
                walk_at "eo go"
                try refine g_iteDF (decide_eq_false (by simp)) ?_
                walk_at "eo go"
                try refine g_iteDF (by simp) ?_
                walk_at "eo go"
                exact ⟨rr, [], rfl, hD7, ⟨⟨dx, hp7⟩, hl7⟩, hrr7, nrl, nrd, nrs, hx⟩
            · cases xs with
              | nil => cases c
              | cons y xs =>
                cases c
                have hD8 : DSt H8 d sc := hD7.ext e8 (nin1 ndl) (nin1 nsl)
                have hrr8 : H8 rr = some (.lst (.int y :: xs.map V.int)) := e8.keep _ _ hrr7 (nin1 nrl)
                walk_at "eo go"
                refine g_iteDT (decide_eq_true (by rw [List.length_cons]; omega)) ?_
                walk_at "eo go"
                rename_i H9 e9 hrr9
                try refine g_iteDF (by simp) ?_
                walk_at "eo go"
                obtain ⟨⟨dx, r1⟩, r2⟩ := R8
                exact ⟨rr, xs, rfl, hD8.ext e9 (nin1 nrd.symm) (nin1 nrs.symm), ⟨⟨dx, e9.keep _ _ r1 (nin1 (ne_of r1 hrr8 (by intro z; cases z)))⟩, e9.keep _ _ r2 (nin1 nrl.symm)⟩, hrr9, nrl, nrd, nrs, by rw [List.length_cons] at hx; omega⟩
        · rintro σ2 H2 ⟨rr, xs, rfl, hD, ⟨⟨dx, hp⟩, hl⟩, hrr, nrl, nrd, nrs, hx⟩
          walk_at "eo go"
          refine ⟨p, l, 1 + rm, xs.map V.int, rfl, ⟨⟨dx, hp⟩, hl⟩, ?_⟩
          walk_at "eo go"
          try refine g_iteDF (by simp) ?_
          walk_at "eo go"
          exact ⟨rr, _, xs, rfl, hD, ⟨⟨dx, hp⟩, hl⟩, hrr, nrl, nrd, nrs, hx⟩
      · rintro σ H ⟨rr, s5, xs, rfl, hD, _⟩
        exact ⟨_, _, rfl, hD⟩
    · rintro σ' H' ⟨row, s5, rfl, hD⟩
      walk_at "eo go"
      rename_i qm H2 q0 q1 e2 hD2
      intro g dg H3 ng e3 hg
      refine ⟨g, dg, 1 + rm, 1 + qm, rfl, hg, fun D T' L H4 nD nT nL e4 F4 => ⟨rfl, ?_⟩⟩
      have hD3 := hD2.ext e3 nin0 nin0
      have hD4 := hD3.ext e4 (nin1 (ne_dst1 ng hD2)) (nin1 (ne_dst2 ng hD2))
      walk_at "eo go"
      rename_i D2 H5 n5 e5 h5 T2 H6 n6 e6 h6 L2' H7 n7 e7 h7 B2 H8 n8 e8 h8 tt H9 n9 e9 h9
      have o2 : ∀ x ∈ ownF g D T' L (fun _ => 0) (fun _ => 0) [], H2 x = none ∧ ∃ o, H4 x = some o := fun x hx => by
        rcases own_cases hx with c | c | c | c | ⟨k, hk, c⟩ | ⟨k, hk, c⟩
        · rw [c]; exact ⟨ng, F4.hg.elim fun _ h => ⟨_, h⟩⟩
        · rw [c]; exact ⟨e3.free nD nin0, _, F4.hD⟩
        · rw [c]; exact ⟨e3.free nT nin0, _, F4.hT⟩
        · rw [c]; exact ⟨e3.free nL nin0, _, F4.hL⟩
        · cases hk
        · cases hk
      have l4 : ∀ y ∈ ownL D2 T2 L2' B2 (fun _ => 0) [], H4 y = none := fun x hx => by
        rcases ol_cases hx with c | c | c | c | ⟨k, hk, c⟩
        · rw [c]; exact n5
        · rw [c]; exact e5.free n6 nin0
        · rw [c]; exact e5.free (e6.free n7 nin0) nin0
        · rw [c]; exact e5.free (e6.free (e7.free n8 nin0) nin0) nin0
        · cases hk
      have Ld : LawAt H9 D2 T2 L2' B2 (fun _ => 0) [] [] af0 := ⟨by show H9 D2 = some (.dK []); walk_at "eo fact", by show H9 T2 = some (.lst []); walk_at "eo fact", by show H9 L2' = some (.dK []); walk_at "eo fact", by show H9 B2 = some (.lst [.bl false]); walk_at "eo fact",
        fun k h => (by cases h), ne_of_none (e6.keep _ _ h5 nin0) n7, ne_of_none (e7.keep _ _ h6 nin0) n8, fun k h => (by cases h), fun k h => (by cases h), fun k h => (by cases h)⟩
      have e49 : Ext [] H4 H9 := by walk_at "eo ext"
      have I9 : Inv2 A.c_Fair A.c_Fifo H9 d sc g D T' L D2 T2 L2' B2 (1 + rm) (1 + qm) 0 (fun _ => 0) (fun _ => 0) (fun _ => 0) af0 [] := by
        refine ⟨F4.ext0 e49, Ld, hD4.ext e49 nin0 nin0, ⟨fun f h => (by cases h), fun f h => (by cases h), List.nodup_nil, List.nodup_nil⟩, fun k _ => rfl, fun k p h => (by cases h), fun k => (by show ((([] : List (Int × V)).length : Nat) : Int) ≤ 1 + rm; simp; omega), Nat.le_refl _, Nat.le_refl _, fun x hx z => ?_, fun x hx => ?_⟩
        · obtain ⟨x2, o, x4⟩ := o2 x hx
          unfold ownM at z
          rcases List.mem_cons.mp z with c | c
          · exact ne_dst1 x2 hD2 c.symm
          · rcases List.mem_cons.mp c with c | c
            · exact ne_dst2 x2 hD2 c.symm
            · rw [l4 x c] at x4; cases x4
        · exact ⟨(ne_dst1 (l4 x hx) hD4).symm, (ne_dst2 (l4 x hx) hD4).symm⟩
      clear F4 Ld o2 l4 e49 e2 e3 e4 e5 e6 e7 e8 e9 hD2 hD3 hD4 h5 h6 h7 h8 h9 hg
      walk_at "eo go"
      refine g_join (fun σ' H' => ∃ (s5 s12 s13 s14 s15 : Option V), σ' = [some (.ref a), some (.ref d), some (.int (1 + rm)), some (.ref p), some row, s5, some (.int (1 + qm)), some (.ref g), some (.ref D2), some (.ref T2), some (.ref L2'), some (.ref B2), s12, s13, s14, s15, none, none, none, none, none, none] ∧ DSt H' d sc) ?_ ?_
      · walk_at "eo go"
        refine ⟨d, sc, 40, rfl, I9.hd, by decide, by decide, fun n H10 n0 n1 e10 hD10 => ?_⟩
        walk_at "eo go"
        refine g_forR (fun i σ' H' => ∃ (s5 s12 s13 s14 s15 : Option V) (fa la wa : Int → Addr) (st : AF), σ' = [some (.ref a), some (.ref d), some (.int (1 + rm)), some (.ref p), some row, s5, some (.int (1 + qm)), some (.ref g), some (.ref D2), some (.ref T2), some (.ref L2'), some (.ref B2), s12, s13, s14, s15, none, none, none, none, none, none] ∧
          Inv2 A.c_Fair A.c_Fifo H' d sc g D T' L D2 T2 L2' B2 (1 + rm) (1 + qm) i fa la wa st st.ks) ⟨_, _, _, _, _, _, _, _, _, rfl, I9.drw e10 hD10⟩ ?_ ?_
        · rintro i σ H hi ⟨s5, s12, s13, s14, s15, fa, la, wa, st, rfl, I⟩
          have hD := I.hd
          have i40 : i < 40 := by omega
          walk_at "eo go"
          refine g_join (fun σ' H' => ∃ (s12 s13 s14 s15 : Option V) (fa la wa : Int → Addr) (st : AF), σ' = [some (.ref a), some (.ref d), some (.int (1 + rm)), some (.ref p), some row, some (.int (0 + i)), some (.int (1 + qm)), some (.ref g), some (.ref D2), some (.ref T2), some (.ref L2'), some (.ref B2), s12, s13, s14, s15, none, none, none, none, none, none] ∧
            Inv2 A.c_Fair A.c_Fifo H' d sc g D T' L D2 T2 L2' B2 (1 + rm) (1 + qm) (i + 1) fa la wa st st.ks) ?_ ?_
          · walk_at "eo go"
            rename_i t5 H7 t0 t1 e7 hD7
            have I7 := I.drw e7 hD7
            clear I hD e7
            refine g_ite (fun z => ?_) (fun z => ?_)
            · walk_at "eo go"
              rename_i f H8 f0 f1 e8 hD8 zz H9 z0 z1 e9 hD9
              have I9 := (I7.drw e8 hD8).drw e9 hD9
              clear I7 hD7 e8 hD8 hD9
              refine g_join (fun σ' H' => ∃ (wa' : Int → Addr), σ' = [some (.ref a), some (.ref d), some (.int (1 + rm)), some (.ref p), some row, some (.int (0 + i)), some (.int (1 + qm)), some (.ref g), some (.ref D2), some (.ref T2), some (.ref L2'), some (.ref B2), some (.int f), some (.int (1 + zz)), some (.ref (wa' f)), s15, none, none, none, none, none, none] ∧
                Inv2 A.c_Fair A.c_Fifo H' d sc g D T' L D2 T2 L2' B2 (1 + rm) (1 + qm) i fa la wa' st (st.ku f)) ?_ ?_
              · obtain ⟨F, Lw, hD, W, off, iv, il, kl, tl, dj, dl⟩ := id I9
                refine g_asg ?_
                refine g_dsetd ?_
                walk_at "eo go"
                refine g_dsetd1 Lw.hD ?_
                walk_at "eo go"
                rename_i ln H10 nln e10 hln
                have L10 := Lw.ext0 e10
                refine g_dsetd2 L10.hD (by rw [len_dks]; omega) (fun v hv => ?_) (fun hv H11 e11 h11 => ?_)
                · rw [val_dks] at hv
                  by_cases c : f ∈ st.ks
                  · rw [if_pos c] at hv
                    cases hv
                    walk_at "eo go"
                    have ek : st.ku f = st.ks := by unfold AF.ku; rw [if_pos c]
                    refine ⟨wa, rfl, ?_⟩
                    rw [ek]
                    exact I9.e0 e10
                  · rw [if_neg c] at hv
                    cases hv
                · rw [val_dks] at hv
                  have c : f ∉ st.ks := fun c => by rw [if_pos c] at hv; cases hv
                  have ek : st.ku f = st.ks ++ [f] := by unfold AF.ku; rw [if_neg c]
                  walk_at "eo go"
                  have nlD : ln ≠ D2 := (ne_of_none Lw.hD nln).symm
                  have e911 : Ext [D2] H9 H11 := by walk_at "eo ext"
                  have old : ∀ k ∈ st.ks, k ≠ f := fun k hk z => c (z ▸ hk)
                  refine ⟨fset wa f ln, by rw [fset_same]; rfl, ?_⟩
                  rw [ek]
                  refine ⟨F.ext e911 fun x hx => nin1 fun z => dj x hx (om_L (by rw [z]; exact ol_D)), Lw.wN c (off f c) nln e911 (e11.keep _ _ hln (nin1 nlD)) h11, hD.ext e911 (nin1 (dl _ ol_D).1.symm) (nin1 (dl _ ol_D).2.symm), W, off, iv, il, kl, tl, fun x hx z => ?_, fun x hx => ?_⟩
                  · have hs : ∃ o, H9 x = some o := by
                      rcases own_cases hx with y | y | y | y | ⟨k, hk, y⟩ | ⟨k, hk, y⟩
                      · rw [y]; exact F.hg.elim fun _ h => ⟨_, h⟩
                      · rw [y]; exact ⟨_, F.hD⟩
                      · rw [y]; exact ⟨_, F.hT⟩
                      · rw [y]; exact ⟨_, F.hL⟩
                      · obtain ⟨_, ⟨⟨_, h⟩, _⟩, _⟩ := F.row k hk
                        rw [y]; exact ⟨_, h⟩
                      · obtain ⟨_, ⟨_, h⟩, _⟩ := F.row k hk
                        rw [y]; exact ⟨_, h⟩
                    unfold ownM at z
                    rcases List.mem_cons.mp z with y | y
                    · exact dj x hx (y ▸ om_d)
                    · rcases List.mem_cons.mp y with y | y
                      · exact dj x hx (y ▸ om_sc)
                      · rcases ol_cases y with y | y | y | y | ⟨k, hk, y⟩
                        · exact dj x hx (om_L (y ▸ ol_D))
                        · exact dj x hx (om_L (y ▸ ol_T))
                        · exact dj x hx (om_L (y ▸ ol_L))
                        · exact dj x hx (om_L (y ▸ ol_B))
                        · rcases List.mem_append.mp hk with hk | hk
                          · rw [fset_ne (old k hk)] at y
                            exact dj x hx (om_L (y ▸ ol_wa hk))
                          · rw [List.mem_singleton.mp hk, fset_same] at y
                            obtain ⟨o, h⟩ := hs
                            rw [y, nln] at h; cases h
                  · rcases ol_cases hx with y | y | y | y | ⟨k, hk, y⟩
                    · rw [y]; exact dl _ ol_D
                    · rw [y]; exact dl _ ol_T
                    · rw [y]; exact dl _ ol_L
                    · rw [y]; exact dl _ ol_B
                    · rcases List.mem_append.mp hk with hk | hk
                      · rw [fset_ne (old k hk)] at y
                        rw [y]; exact dl _ (ol_wa hk)
                      · rw [List.mem_singleton.mp hk, fset_same] at y
                        rw [y]
                        exact ⟨(ne_dst1 nln hD).symm, (ne_dst2 nln hD).symm⟩
              · rintro σ' H' ⟨wa', rfl, I⟩
                obtain ⟨F, Lw, hD, W, off, iv, il, kl, tl, dj, dl⟩ := id I
                obtain ⟨⟨dx, hg⟩, -⟩ := id F
                obtain ⟨xs, hw, ix⟩ := Lw.row f ku_mem
                have hxl : xs.length = (st.it f).length := ix.len
                have ilf := il f
                walk_at "eo go"
                refine ⟨g, D, T', L, fa, la, 1 + rm, 1 + qm, st, f, 1 + zz, .int (0 + i), rfl, F, W, off, by omega, by omega, by omega, by omega, fun c fa' la' H8 e8 o8 F8 => ?_, fun c fa' la' H8 e8 o8 F8 => ?_⟩
                · have c2 : ¬ (xs.length : Int) < 1 + rm := by omega
                  have hf : f ∈ st.ks := by
                    by_cases y : f ∈ st.ks
                    · exact y
                    · rw [off f y] at c
                      simp at c
                      omega
                  have ek : st.ku f = st.ks := by unfold AF.ku; rw [if_pos hf]
                  have K8 := I.kept e8
                  walk_at "eo go"
                  refine g_iteDF (by rw [decide_eq_false c2]; simp) ?_
                  walk_at "eo go"
                  refine g_iteDF (decide_eq_false c2) ?_
                  walk_at "eo go"
                  have D8 := I.dj' o8
                  rw [ek] at K8 D8 dl
                  exact ⟨_, _, _, _, _, _, _, _, rfl, F8, K8.1, K8.2, W, off, iv, il, by omega, by omega, D8, dl⟩
                · have c2 : (xs.length : Int) < 1 + rm := by omega
                  have K8 := I.kept e8
                  have hw8 := e8.keep _ _ hw (fun z => dj _ z (om_L (ol_wa ku_mem)))
                  have hT8 := K8.1.hT
                  have hL8 := K8.1.hL
                  have nwT := K8.1.nT f ku_mem
                  walk_at "eo go"
                  refine g_iteDF (by rw [decide_eq_true c2]; simp) ?_
                  walk_at "eo go"
                  refine g_iteDT (decide_eq_true c2) ?_
                  have hxs : xs.length < sizeLine := by rw [sizeLine_eq]; omega
                  walk_at "eo go"
                  rename_i tn H9 nt e9 ht H10 e10 h10
                  have D8 := I.dj' o8
                  have L10 := (K8.1.ext0 e9).wI ku_mem e10 h10 (((ix.ext e8).ext e9).ext e10 |>.snoc (e10.imm _ _ ht rfl))
                  have F10 := (F8.ext0 e9).ext e10 fun x hx => nin1 fun z => D8 x hx (om_L (by rw [z]; exact ol_wa ku_mem))
                  have hD10 := (K8.2.ext e9 nin0 nin0).ext e10 (nin1 (dl _ (ol_wa ku_mem)).1.symm) (nin1 (dl _ (ol_wa ku_mem)).2.symm)
                  clear F8 hw8 hT8 hL8
                  have hT10 := L10.hT
                  have hL10 := L10.hL
                  dsimp only at hT10 hL10
                  have base := fun (H' : Hp) Fx Lx Dx => (⟨Fx, Lx, Dx, W.put, off_put off, put_itm (fun p => ∃ n, p.2 = .int n) iv ⟨_, rfl⟩, put_len il (by omega), Nat.le_trans ku_len (by omega), Nat.le_trans put_tu (by omega), D8, dl⟩ :
                    Inv2 A.c_Fair A.c_Fifo H' d sc g D T' L D2 T2 L2' B2 (1 + rm) (1 + qm) (i + 1) fa' la' wa' (st.put f (1 + zz) (.int (0 + i))) (st.put f (1 + zz) (.int (0 + i))).ks)
                  by_cases hft : f ∈ st.tu
                  · have ek : st.ku f = st.ks := by unfold AF.ku; rw [if_pos (W.inK f hft)]
                    have ep : st.put f (1 + zz) (.int (0 + i)) = ⟨st.ku f, fset st.it f (st.it f ++ [(1 + zz, .int (0 + i))]), st.lf, st.tu, st.be⟩ := by unfold AF.put; rw [if_pos hft, if_pos hft]
                    refine g_iteDF (by rw [decide_eq_true hft]; rfl) ?_
                    walk_at "eo go"
                    refine ⟨_, _, _, _, _, _, _, _, rfl, base _ F10 ?_ hD10⟩
                    rw [ep]
                    show LawAt H10 D2 T2 L2' B2 wa' (st.ku f) (st.ku f) _
                    have L := L10.ks' (k2 := st.ku f)
                    rw [ek] at L ⊢
                    exact L
                  · have ep : st.put f (1 + zz) (.int (0 + i)) = ⟨st.ku f, fset st.it f (st.it f ++ [(1 + zz, .int (0 + i))]), fset st.lf f 0, st.tu ++ [f], st.be⟩ := by unfold AF.put; rw [if_neg hft, if_neg hft]
                    refine g_iteDT (by rw [decide_eq_false hft]; rfl) ?_
                    have hlL : (dks st.ks fun k => V.int (st.lf k)).length < 1000 := by rw [len_dks]; omega
                    have hlT : (st.tu.map V.int).length < sizeLine := by rw [List.length_map, sizeLine_eq]; omega
                    have nLT : L2' ≠ T2 := ne_of hL10 hT10 (by intro z; cases z)
                    walk_at "eo go"
                    rename_i H11 e11 h11 H12 e12 h12
                    have L12 := (L10.wT (tu' := st.tu ++ [f]) e11 (by rw [List.map_append]; exact h11)).wL (kl' := st.ku f) (lf' := fset st.lf f 0) e12 (by rw [h12, put_ku, dks_int])
                    have F12 := (F10.ext e11 fun x hx => nin1 fun z => D8 x hx (om_L (by rw [z]; exact ol_T))).ext e12 fun x hx => nin1 fun z => D8 x hx (om_L (by rw [z]; exact ol_L))
                    refine ⟨_, _, _, _, _, _, _, _, rfl, base _ F12 ?_ ((hD10.ext e11 (nin1 (dl _ ol_T).1.symm) (nin1 (dl _ ol_T).2.symm)).ext e12 (nin1 (dl _ ol_L).1.symm) (nin1 (dl _ ol_L).2.symm))⟩
                    rw [ep]
                    exact L12.ks'
            · obtain ⟨F, Lw, hD, W, off, iv, il, kl, tl, dj, dl⟩ := id I7
              obtain ⟨⟨dx, hg⟩, -⟩ := id F
              walk_at "eo go"
              refine ⟨g, D, T', L, fa, la, 1 + rm, 1 + qm, st, rfl, F, W, by omega, by omega, by omega, fun v s1 H8 k1 e8 F8 => ?_⟩
              have K8 := I7.kept e8
              walk_at "eo go"
              refine ⟨D2, T2, L2', B2, wa, 1 + qm, st, rfl, K8.1, W, by omega, by omega, by omega, fun w s2 H9 k2 e9 L9 => ?_⟩
              obtain ⟨rfl, rfl⟩ := tk_det k1 k2
              have ek := k1.ks
              have dl8 : ∀ x ∈ ownF g D T' L fa la st.ks, x ∉ ownL D2 T2 L2' B2 wa st.ks := fun x hx z => dj x hx (om_L z)
              have fin : Inv2 A.c_Fair A.c_Fifo H9 d sc g D T' L D2 T2 L2' B2 (1 + rm) (1 + qm) (i + 1) fa la wa s1 s1.ks := by
                refine ⟨F8.ext e9 (by rw [ek]; exact dl8), L9, K8.2.ext e9 (fun z => (dl _ z).1 rfl) (fun z => (dl _ z).2 rfl), W.tk k1, k1.off off, (k1.itm (fun p => ∃ n, p.2 = .int n) iv).2, fun k => ?_, ?_, ?_, by rw [ek]; exact dj, by rw [ek]; exact dl⟩
                · have := k1.len k
                  have := il k
                  omega
                · rw [ek]; omega
                · have := k1.tu
                  omega
              rcases (k1.itm (fun p => ∃ n, p.2 = .int n) iv).1 with rfl | ⟨zz, nn, e⟩
              · walk_at "eo go"
                try refine g_iteDF (by simp) ?_
                walk_at "eo go"
                exact ⟨_, _, _, _, _, _, _, _, rfl, fin⟩
              · dsimp only at e
                subst e
                walk_at "eo go"
                try refine g_iteDF (by simp) ?_
                walk_at "eo go"
                exact ⟨_, _, _, _, _, _, _, _, rfl, fin⟩
          · rintro σ' H' ⟨s12, s13, s14, s15, fa, la, wa, st, rfl, I⟩
            obtain ⟨F, Lw, hD, W, off, iv, il, kl, tl, dj, dl⟩ := id I
            obtain ⟨⟨dx, hg⟩, -⟩ := id F
            walk_at "eo go"
            refine ⟨g, D, T', L, fa, la, 1 + rm, 1 + qm, st, rfl, F, by omega, fun H8 e8 => ?_⟩
            walk_at "eo go"
            have L8 := Lw.ext0 e8
            refine g_lockE L8.hD fun od H0 e0 hD0 => ?_
            refine g_lc ?_
            refine g_iKeys ?_
            walk_at "eo go"
            refine ⟨D2, od, rfl, .inl ⟨_, hD0, ?_⟩⟩
            refine g_lcW walk_keys (fun Dd i H' acc => Ext [] H0 H' ∧ H0 Dd = none ∧ acc = (st.ks.take i).map fun k => V.int ((st.it k).length : Int)) ?_ ?_ ?_ ?_
            · intro Dd H' n e h
              exact ⟨e, n, rfl⟩
            · rintro Dd i H' acc hi ⟨e, n, rfl⟩
              exact e.keep _ _ hD0 nin0
            · rintro Dd i x H1 H' acc hi ⟨e, n, rfl⟩ hd ⟨rfl, kk, vv, hk, rfl⟩
              have hi' : i < st.ks.length := by rw [len_dks] at hi; exact hi
              have hx : kk = .inl st.ks[i] := by
                unfold dks at hk
                rw [List.getElem?_map, List.getElem?_eq_getElem hi'] at hk
                exact (congrArg Prod.fst (Option.some.inj hk)).symm
              subst hx
              have hmem := List.getElem_mem hi'
              have hv : valV (dks st.ks fun k => V.ref (wa k)) (.inl st.ks[i]) = some (.ref (wa st.ks[i])) := by rw [val_dks, if_pos hmem]
              obtain ⟨xs, h2, its⟩ := L8.row st.ks[i] hmem
              have hD0' := e.keep _ _ hD0 nin0
              have h2' := e.keep _ _ (e0.keep _ _ h2 (nin1 (ne_of h2 L8.hD (by intro z; cases z)))) nin0
              show stG (gName 12) (.int st.ks[i]) _ _ _
              walk_at "eo go"
              refine ⟨rfl, ?_⟩
              walk_at "eo go"
              refine g_dgetIf hD0' hv ?_
              walk_at "eo go"
              refine ⟨hd, ?_, fun H5 e5 h5 => ⟨?_, n, ?_⟩⟩
              · rw [List.length_map, List.length_take, sizeLine_eq]
                omega
              · exact e.trans e5 (fun _ z => by cases z) (fun x hx ⟨o, ho⟩ => by rw [List.mem_singleton.mp hx, n] at ho; cases ho)
              · rw [List.take_succ, List.getElem?_eq_getElem hi', its.len, List.map_append]
                rfl
            · rintro Dd H' acc ⟨e, n, rfl⟩ hd
              have hD' := e.keep _ _ hD0 nin0
              refine ⟨hD', fun HF e2 h2 => ?_⟩
              have hd2 : HF Dd = some (.lst ((st.ks.map fun k => ((st.it k).length : Int)).map V.int)) := by
                rw [len_dks, List.take_length] at hd
                rw [List.map_map]
                exact e2.keep _ _ hd (nin1 (ne_of hd hD' (by intro z; cases z)))
              have e3 : Ext [D2] H8 HF := by walk_at "eo ext"
              have e4 := e3.same L8.hD h2
              walk_at "eo go"
              refine ⟨Dd, _, rfl, SqL.of hd2, ?_⟩
              walk_at "eo go"
              try refine g_iteDF (by unfold AF.all; simp) ?_
              walk_at "eo go"
              exact ⟨_, _, _, _, _, _, _, _, _, rfl, (I.e0 e8).e0 e4⟩
        · rintro σ H ⟨s5, s12, s13, s14, s15, fa, la, wa, st, rfl, I⟩
          exact ⟨_, _, _, _, _, rfl, I.hd⟩
      · rintro σ' H' ⟨s5, s12, s13, s14, s15, rfl, hD⟩
        clear I9
        walk_at "eo go"
        intro gr dgr H3 ng e3 hg
        refine ⟨gr, dgr, 400, 1 + qm, rfl, hg, fun Dr Tr Lr H4 nD nT nL e4 F4 => ⟨rfl, ?_⟩⟩
        have hD3 := hD.ext e3 nin0 nin0
        have hD4 := hD3.ext e4 (nin1 (ne_dst1 ng hD)) (nin1 (ne_dst2 ng hD))
        have od : d ∉ ownF gr Dr Tr Lr (fun _ => 0) (fun _ => 0) [] ∧ sc ∉ ownF gr Dr Tr Lr (fun _ => 0) (fun _ => 0) [] := by
          refine ⟨fun hx => ?_, fun hx => ?_⟩
          · rcases own_cases hx with c | c | c | c | ⟨k, hk, c⟩ | ⟨k, hk, c⟩
            · exact ne_dst1 ng hD c
            · exact ne_dst1 nD hD3 c
            · exact ne_dst1 nT hD3 c
            · exact ne_dst1 nL hD3 c
            · cases hk
            · cases hk
          · rcases own_cases hx with c | c | c | c | ⟨k, hk, c⟩ | ⟨k, hk, c⟩
            · exact ne_dst2 ng hD c
            · exact ne_dst2 nD hD3 c
            · exact ne_dst2 nT hD3 c
            · exact ne_dst2 nL hD3 c
            · cases hk
            · cases hk
        clear e3 e4 hD3 hD hg
        walk_at "eo go"
        rename_i tp H5 n5 e5 h5
        refine g_lcW (walk_tup (xs := [V.int 0, V.int 1])) (fun Dd i H' acc => FairAt A.c_Fair A.c_Fifo H' gr Dr Tr Lr (fun _ => 0) (fun _ => 0) 400 (1 + qm) [] af0 ∧ DSt H' d sc ∧ SqT K H' tp [.int 0, .int 1] ∧ Dd ∉ ownF gr Dr Tr Lr (fun _ => 0) (fun _ => 0) [] ∧ d ≠ Dd ∧ sc ≠ Dd ∧ acc.length = i ∧ ∀ x ∈ acc, SzAt H' x (d :: Dd :: ownF gr Dr Tr Lr (fun _ => 0) (fun _ => 0) [])) ?_ ?_ ?_ ?_
        · intro Dd H' n e h
          have F5 := F4.ext0 e5
          refine ⟨F5.ext0 e, (hD4.ext e5 nin0 nin0).ext e nin0 nin0, .inl (.inl (e.imm _ _ h5 rfl)), fun z => ?_, ne_dst1 n (hD4.ext e5 nin0 nin0), ne_dst2 n (hD4.ext e5 nin0 nin0), rfl, fun x hx => by cases hx⟩
          obtain ⟨o, ho⟩ := F5.stand _ z
          rw [n] at ho; cases ho
        · rintro Dd i H' acc hi ⟨_, _, h, _⟩
          exact h
        · rintro Dd i x H1 H' acc hi ⟨F, hD, hT, no, n1, n2, hl, sz⟩ hd ⟨rfl, hx⟩
          walk_at "eo go"
          refine ⟨rfl, ?_⟩
          walk_at "eo go"
          refine g_lcW walk_range (fun De j H' acc2 => FairAt A.c_Fair A.c_Fifo H' gr Dr Tr Lr (fun _ => 0) (fun _ => 0) 400 (1 + qm) [] af0 ∧ DSt H' d sc ∧ SqT K H' tp [.int 0, .int 1] ∧ H' Dd = some (.lst acc) ∧ (∀ x ∈ acc, SzAt H' x (d :: Dd :: ownF gr Dr Tr Lr (fun _ => 0) (fun _ => 0) [])) ∧ De ∉ ownF gr Dr Tr Lr (fun _ => 0) (fun _ => 0) [] ∧ d ≠ De ∧ sc ≠ De ∧ De ≠ Dd ∧ (∀ x ∈ acc, SzAt H' x (De :: d :: Dd :: ownF gr Dr Tr Lr (fun _ => 0) (fun _ => 0) [])) ∧
            ∃ zs : List Int, acc2 = zs.map V.int ∧ zs.length = j ∧ ∀ z ∈ zs, 1 ≤ z ∧ z ≤ 200) ?_ ?_ ?_ ?_
          · intro De H' n e h
            refine ⟨F.ext0 e, hD.ext e nin0 nin0, sqT_ext e hT, e.keep _ _ hd nin0, fun x hx => (sz x hx).ext e (fun _ h => by cases h), fun z => ?_, ne_dst1 n hD, ne_dst2 n hD, (ne_of_none hd n).symm, fun x hx => ?_, [], rfl, rfl, fun _ h => by cases h⟩
            · obtain ⟨o, ho⟩ := F.stand _ z
              rw [n] at ho; cases ho
            · obtain ⟨l, zs, a1, a2, a3, a4, a5⟩ := sz x hx
              exact ⟨l, zs, a1, e.keep _ _ a2 nin0, a3, a4, fun z => (List.mem_cons.mp z).elim (fun z => by rw [z, n] at a2; cases a2) a5⟩
          · intros
            trivial
          · rintro De j x H1 H'' acc2 hj ⟨F, hD, hT, hd, sz, no2, m1, m2, m3, sz2, zs, rfl, zl, zb⟩ hde ⟨rfl, rfl⟩
            walk_at "eo go"
            refine ⟨rfl, ?_⟩
            walk_at "eo go"
            rename_i n H6 k0 k1 e6 hD6
            have hd6 := e6.keep _ _ hd (nin1 n1.symm)
            have hde6 := e6.keep _ _ hde (nin1 m1.symm)
            have szn : ∀ (H7 : Hp), Ext [De] H6 H7 → ∀ x ∈ acc, SzAt H7 x (De :: d :: Dd :: ownF gr Dr Tr Lr (fun _ => 0) (fun _ => 0) []) := fun H7 e7 x hx => ((sz2 x hx).ext e6 (fun y hy => by rw [List.mem_singleton.mp hy]; exact List.mem_cons_of_mem _ List.mem_cons_self)).ext e7 (fun y hy => by rw [List.mem_singleton.mp hy]; exact List.mem_cons_self)
            refine ⟨hde6, by rw [List.length_map, zl, sizeLine_eq]; have h40 : j < 40 := hj; omega, fun H7 e7 h7 => ⟨(F.ext e6 fun x hx => nin1 fun z => od.1 (z ▸ hx)).ext e7 fun x hx => nin1 fun z => no2 (z ▸ hx), hD6.ext e7 (nin1 m1) (nin1 m2), sqT_ext e7 (sqT_ext e6 hT), e7.keep _ _ hd6 (nin1 m3.symm), fun x hx => ?_, no2, m1, m2, m3, szn H7 e7, zs ++ [1 + n], by rw [List.map_append]; rfl, by rw [List.length_append, zl]; rfl, fun z hz => ?_⟩⟩
            · obtain ⟨l, zs, a1, a2, a3, a4, a5⟩ := szn H7 e7 x hx
              exact ⟨l, zs, a1, a2, a3, a4, fun z => a5 (List.mem_cons_of_mem _ z)⟩
            · rcases List.mem_append.mp hz with c | c
              · exact zb z c
              · rw [List.mem_singleton.mp c]; omega
          · rintro De H' acc2 ⟨F, hD, hT, hd, sz, no2, m1, m2, m3, sz2, zs, rfl, zl, zb⟩ hde
            walk_at "eo go"
            refine ⟨hd, by rw [hl, sizeLine_eq]; have h2 : i < 2 := hi; omega, fun H5 e5 h5 => ⟨F.ext e5 fun x hx => nin1 fun z => no (z ▸ hx), hD.ext e5 (nin1 n1) (nin1 n2), sqT_ext e5 hT, no, n1, n2, by rw [List.length_append, hl]; rfl, fun x hx => ?_⟩⟩
            rcases List.mem_append.mp hx with c | c
            · exact (sz x c).ext e5 fun y hy => by rw [List.mem_singleton.mp hy]; exact List.mem_cons_of_mem _ List.mem_cons_self
            · exact ⟨De, zs, List.mem_singleton.mp c, e5.keep _ _ hde (nin1 m3), zl, zb, fun z => (List.mem_cons.mp z).elim (fun z => m1 z.symm) fun z => (List.mem_cons.mp z).elim m3 no2⟩
        · rintro Ss H10 acc ⟨F, -, -, no, n1, n2, hl, sz⟩ hd
          match acc, hl, sz, hd with
          | [x0, x1], _, sz, hS =>
          obtain ⟨l0, z0, rfl, h0, zl0, zb0, no0⟩ := sz x0 List.mem_cons_self
          obtain ⟨l1, z1, rfl, h1, zl1, zb1, no1⟩ := sz x1 (List.mem_cons_of_mem _ List.mem_cons_self)
          have I0 : PutInv A.c_Fair A.c_Fifo H10 gr Dr Tr Lr Ss l0 l1 z0 z1 (1 + qm) (fun _ => 0) (fun _ => 0) af0 0 0 := by
            exact ⟨F, RaceSt.nil, hS, h0, h1, fun x hx => ⟨fun z => no (z ▸ hx), fun z => no0 (List.mem_cons_of_mem _ (List.mem_cons_of_mem _ (z ▸ hx))), fun z => no1 (List.mem_cons_of_mem _ (List.mem_cons_of_mem _ (z ▸ hx)))⟩⟩
          clear F sz hS h0 h1
          walk_at "eo go"
          refine g_forR (fun i σ' H' => ∃ (s5 s12 : Option V) (fa la : Int → Addr) (st : AF), σ' = [some (.ref a), some (.ref d), some (.int (1 + rm)), some (.ref p), some row, s5, some (.int (1 + qm)), some (.ref g), some (.ref D2), some (.ref T2), some (.ref L2'), some (.ref B2), s12, s13, s14, s15, some (.ref gr), some (.ref Ss), none, none, none, none] ∧
            PutInv A.c_Fair A.c_Fifo H' gr Dr Tr Lr Ss l0 l1 z0 z1 (1 + qm) fa la st i i) ⟨_, _, _, _, _, rfl, I0⟩ ?_ ?_
          · rintro i σ H hi ⟨s5, s12, fa, la, st, rfl, I⟩
            have i40 : i < 40 := hi
            walk_at "eo go"
            rename_i tp2 H11 n11 e11 h11
            refine g_forT [.int 0, .int 1] (fun j σ' H' => ∃ (s12 : Option V) (fa la : Int → Addr) (st : AF), σ' = [some (.ref a), some (.ref d), some (.int (1 + rm)), some (.ref p), some row, some (.int (0 + i)), some (.int (1 + qm)), some (.ref g), some (.ref D2), some (.ref T2), some (.ref L2'), some (.ref B2), s12, s13, s14, s15, some (.ref gr), some (.ref Ss), none, none, none, none] ∧ SqT K H' tp2 [.int 0, .int 1] ∧
              PutInv A.c_Fair A.c_Fifo H' gr Dr Tr Lr Ss l0 l1 z0 z1 (1 + qm) fa la st (if j = 0 then i else i + 1) (if j = 2 then i + 1 else i)) ⟨_, _, _, _, rfl, .of h11, I.e0 e11⟩ (fun j σ' H' _ ⟨_, _, _, _, _, h, _⟩ => h) ?_ ?_
            · rintro j x σ' H' hj ⟨s12, fa, la, st, rfl, hT, I⟩
              match j, hj with
              | 0, hj =>
                cases hj
                have I : PutInv A.c_Fair A.c_Fifo H' gr Dr Tr Lr Ss l0 l1 z0 z1 (1 + qm) fa la st i i := I
                obtain ⟨F, R, hS, h0, h1, no⟩ := id I
                obtain ⟨⟨dx, hg⟩, -⟩ := id F
                have ha := at_z (zs := z0) (i := i) (by omega)
                walk_at "eo go"
                rename_i tn H12 n12 e12 h12
                have I12 := I.e0 e12
                have hl := R.l0
                have kk := R.kl
                refine ⟨gr, Dr, Tr, Lr, fa, la, 400, 1 + qm, st, 0, z0[i], .ref tn, rfl, I12.F, R.W, R.off, by decide, by omega, by rw [R.tu]; omega, by omega, fun c => by omega, fun c fa' la' H13 e13 o13 F13 => ?_⟩
                have hz : z0[i] ∈ z0 ++ z1 := List.mem_append_left _ (List.getElem_mem _)
                exact ⟨_, fa', la', _, rfl, sqT_ext e13 (sqT_ext e12 hT), I12.next (s2 := st.put 0 z0[i] (.ref tn)) e13 o13 F13 ((I12.R.ext e13).put0 hz (e13.imm _ _ h12 rfl))⟩
              | 1, hj =>
                cases hj
                have I : PutInv A.c_Fair A.c_Fifo H' gr Dr Tr Lr Ss l0 l1 z0 z1 (1 + qm) fa la st (i + 1) i := I
                obtain ⟨F, R, hS, h0, h1, no⟩ := id I
                obtain ⟨⟨dx, hg⟩, -⟩ := id F
                have ha := at_z (zs := z1) (i := i) (by omega)
                walk_at "eo go"
                rename_i tn H12 n12 e12 h12
                have I12 := I.e0 e12
                have hl := R.l1
                have kk := R.kl
                refine ⟨gr, Dr, Tr, Lr, fa, la, 400, 1 + qm, st, 1, z1[i], .ref tn, rfl, I12.F, R.W, R.off, by decide, by omega, by rw [R.tu]; omega, by omega, fun c => by omega, fun c fa' la' H13 e13 o13 F13 => ?_⟩
                have hz : z1[i] ∈ z0 ++ z1 := List.mem_append_right _ (List.getElem_mem _)
                exact ⟨_, fa', la', _, rfl, sqT_ext e13 (sqT_ext e12 hT), I12.next (s2 := st.put 1 z1[i] (.ref tn)) e13 o13 F13 ((I12.R.ext e13).put1 hz (e13.imm _ _ h12 rfl))⟩
            · rintro σ' H' ⟨s12, fa, la, st, rfl, hT, I⟩
              exact ⟨_, _, _, _, _, rfl, I⟩
          · rintro σ' H' ⟨s5, s12, fa, la, st, rfl, I⟩
            have I : PutInv A.c_Fair A.c_Fifo H' gr Dr Tr Lr Ss l0 l1 z0 z1 (1 + qm) fa la st 40 40 := I
            clear I0
            refine g_seq ?_
            walk_at "eo go"
            rename_i gl H11 n11 e11 h11 ml H12 n12 e12 h12
            have I12 := (I.e0 e11).e0 e12
            have h11' := h11
            have h11 := e12.keep _ _ h11 nin0
            obtain ⟨F, R, hS, h0, h1, no⟩ := id I12
            walk_at "eo go"
            rename_i sl H13 n13 e13 h13
            rw [← List.map_append] at h13
            refine ⟨sl, z0 ++ z1, rfl, .of h13, by rw [List.length_append]; omega, fun M hM hle => ?_⟩
            have zb : ∀ z ∈ z0 ++ z1, 1 ≤ z ∧ z ≤ M := fun z hz => ⟨(List.mem_append.mp hz).elim (fun c => (zb0 z c).1) (fun c => (zb1 z c).1), hle z hz⟩
            have I13 := I12.e0 e13
            have h11 := e13.keep _ _ h11 nin0
            have h12 := e13.keep _ _ h12 nin0
            have hM1 := (zb M hM).1
            have ngm : gl ≠ ml := ne_of_none h11' n12
            walk_at "eo go"
            have R0 : RunInv A.c_Fair A.c_Fifo H13 gr Dr Tr Lr gl ml (z0 ++ z1) (1 + qm) M fa la st (fun _ => 0) :=
              ⟨I13.F, I13.R.W, I13.R.ok, h11, by rw [I13.R.l0, I13.R.l1]; exact h12, ngm, fun x hx => ⟨fun z => (by obtain ⟨o, ho⟩ := I.F.stand x hx; rw [z, n11] at ho; cases ho), fun z => (by obtain ⟨o, ho⟩ := (I.e0 e11).F.stand x hx; rw [z, n12] at ho; cases ho)⟩,
                fun _ _ => I13.R.ri zb hM1, I13.R.kl, by rw [I13.R.tu]; exact I13.R.kl⟩
            refine g_while (fun m σ' H' => ∃ (s12 s13 s21 : Option V) (st : AF) (G : Int → Int), σ' = [some (.ref a), some (.ref d), some (.int (1 + rm)), some (.ref p), some row, s5, some (.int (1 + qm)), some (.ref g), some (.ref D2), some (.ref T2), some (.ref L2'), some (.ref B2), s12, s13, s14, s15, some (.ref gr), some (.ref Ss), some (.ref gl), some (.ref ml), some (.int M), s21] ∧ RunInv A.c_Fair A.c_Fifo H' gr Dr Tr Lr gl ml (z0 ++ z1) (1 + qm) M fa la st G ∧ m = (st.it 0).length + (st.it 1).length) _ ⟨_, _, _, _, _, rfl, R0, rfl⟩ ?_
            rintro m σ' H' ⟨s12, s13, s21, st, G, rfl, Ri, rfl⟩
            clear R0 I13 I12 I
            obtain ⟨F, W, ok, hgl, hml, ngm, no, ri, kl, tl⟩ := id Ri
            obtain ⟨⟨dx, hg⟩, -⟩ := id F
            walk_at "eo go"
            refine ⟨ml, [40 - ((st.it 0).length : Int), 40 - ((st.it 1).length : Int)], rfl, .of hml, Nat.zero_lt_succ _, fun M' hM' hle' => ?_⟩
            walk_at "eo go"
            refine g_ite (fun q => ?_) (fun q => ?_)
            · have q' := dec_t q
              have q0' := hle' _ List.mem_cons_self
              have q1' := hle' _ (List.mem_cons_of_mem _ List.mem_cons_self)
              walk_at "eo go"
              refine ⟨gr, Dr, Tr, Lr, fa, la, 400, 1 + qm, st, rfl, F, W, by omega, by omega, by omega, fun v s' H1 tk e1 F1 => ?_⟩
              have n0' : st.it 0 ≠ [] := fun c => by rw [c] at q0'; simp at q0'; omega
              have n1' : st.it 1 ≠ [] := fun c => by rw [c] at q1'; simp at q1'; omega
              obtain ⟨f, z, its, hf, hi, hi', hz1, ⟨hb1, hb2⟩, hr⟩ := race_step (M := M) (by omega) tk (ri n0' n1')
              have hmem : (z, v) ∈ st.it f := by rw [hi]; exact List.mem_cons_self
              obtain ⟨hz, t, hv, ht⟩ := ok f (z, v) hmem
              dsimp only at hv ht hz
              subst hv
              have ht1 := e1.imm _ _ ht rfl
              have hgl1 := e1.keep _ _ hgl (fun z => (no _ z).1 rfl)
              have hml1 := e1.keep _ _ hml (fun z => (no _ z).2 rfl)
              have hok : ∀ k, ItOK H1 (z0 ++ z1) k (s'.it k) := fun k p hp => by
                rw [hi'] at hp
                unfold fset at hp
                split at hp
                · rename_i c
                  subst c
                  exact ((ok k).ext e1) p (by rw [hi]; exact List.mem_cons_of_mem _ hp)
                · exact ((ok k).ext e1) p hp
              have ek := tk.ks
              have etu := tk.tu
              clear hgl hml hg
              rcases hf with rfl | rfl
              · have g0 : fset G 0 (G 0 + z) 0 = G 0 + z := fset_same
                have g1 : fset G 0 (G 0 + z) 1 = G 1 := fset_ne (by decide)
                have i0 : s'.it 0 = its := by rw [hi', fset_same]
                have i1 : s'.it 1 = st.it 1 := by rw [hi', fset_ne (by decide)]
                rw [g0, g1] at hb1 hb2
                have hil : (st.it 0).length = its.length + 1 := by rw [hi]; rfl
                walk_at "eo go"
                rename_i H2 e2 h2 H3 e3 h3
                refine g_iteDF (decide_eq_false (by omega)) ?_
                walk_at "eo go"
                have no1 : ∀ x ∈ ownF gr Dr Tr Lr fa la s'.ks, x ≠ gl ∧ x ≠ ml := by rw [ek]; exact no
                have h23 := e3.keep _ _ h2 (nin1 ngm)
                refine ⟨_, ?_, _, _, _, s', fset G 0 (G 0 + z), rfl, ⟨(F1.ext e2 fun x hx => nin1 (no1 x hx).1).ext e3 fun x hx => nin1 (no1 x hx).2, W.tk tk, fun k => ((hok k).ext e2).ext e3, ?_, ?_, ngm, no1, fun c0 c1 => hr ?_, by rw [ek]; exact kl, by omega⟩, rfl⟩
                · rw [i0, i1]; omega
                · rw [g0, g1]; exact h23
                · rw [i0, i1, h3]; congr 4; omega
                · rw [← i0]; exact c0
              · have g0 : fset G 1 (G 1 + z) 1 = G 1 + z := fset_same
                have g1 : fset G 1 (G 1 + z) 0 = G 0 := fset_ne (by decide)
                have i0 : s'.it 1 = its := by rw [hi', fset_same]
                have i1 : s'.it 0 = st.it 0 := by rw [hi', fset_ne (by decide)]
                rw [g0, g1] at hb1 hb2
                have hil : (st.it 1).length = its.length + 1 := by rw [hi]; rfl
                walk_at "eo go"
                rename_i H2 e2 h2 H3 e3 h3
                refine g_iteDF (decide_eq_false (by omega)) ?_
                walk_at "eo go"
                have no1 : ∀ x ∈ ownF gr Dr Tr Lr fa la s'.ks, x ≠ gl ∧ x ≠ ml := by rw [ek]; exact no
                have h23 := e3.keep _ _ h2 (nin1 ngm)
                refine ⟨_, ?_, _, _, _, s', fset G 1 (G 1 + z), rfl, ⟨(F1.ext e2 fun x hx => nin1 (no1 x hx).1).ext e3 fun x hx => nin1 (no1 x hx).2, W.tk tk, fun k => ((hok k).ext e2).ext e3, ?_, ?_, ngm, no1, fun c0 c1 => hr ?_, by rw [ek]; exact kl, by omega⟩, rfl⟩
                · rw [i0, i1]; omega
                · rw [g0, g1]; exact h23
                · rw [i0, i1, h3]
                  have e : (40 : Int) - ((st.it 1).length : Int) + 1 = 40 - (its.length : Int) := by omega
                  rw [e]
                · rw [← i0]; exact c1
            · walk_at "eo go"
              exact k _
end
set_option maxHeartbeats 4000000 in
theorem all_mk {l : PySem.W.OpenLaw} {w : World} {K : PySem.W.Frag} {h : Heap} {mg : Str → Option Value} {fa : Addr} (X : K.In h) (G : h.Ns mainGlobals mg) (hfa : mg "law" = some (.ref fa))
    {od_Fifo_init an_Fifo_init : Option Addr} {sl_Fifo_init : Array (Option Value)} {oc_Fifo_init kV_Fifo_init dc_Fifo_init pm_Fifo_init cd_Fifo_init ct_Fifo_init : Value} {f_Fifo_init : Addr}
    {od_Fifo_put an_Fifo_put : Option Addr} {sl_Fifo_put : Array (Option Value)} {oc_Fifo_put kV_Fifo_put dc_Fifo_put pm_Fifo_put cd_Fifo_put ct_Fifo_put : Value} {f_Fifo_put : Addr}
    {od_Fifo_first an_Fifo_first : Option Addr} {sl_Fifo_first : Array (Option Value)} {oc_Fifo_first kV_Fifo_first dc_Fifo_first pm_Fifo_first cd_Fifo_first ct_Fifo_first : Value} {f_Fifo_first : Addr}
    {od_Fifo_take an_Fifo_take : Option Addr} {sl_Fifo_take : Array (Option Value)} {oc_Fifo_take kV_Fifo_take dc_Fifo_take pm_Fifo_take cd_Fifo_take ct_Fifo_take : Value} {f_Fifo_take : Addr}
    {od_Fifo_many an_Fifo_many : Option Addr} {sl_Fifo_many : Array (Option Value)} {oc_Fifo_many kV_Fifo_many dc_Fifo_many pm_Fifo_many cd_Fifo_many ct_Fifo_many : Value} {f_Fifo_many : Addr}
    {od_Fair_init an_Fair_init : Option Addr} {sl_Fair_init : Array (Option Value)} {oc_Fair_init kV_Fair_init dc_Fair_init pm_Fair_init cd_Fair_init ct_Fair_init : Value} {f_Fair_init : Addr}
    {od_Fair_put an_Fair_put : Option Addr} {sl_Fair_put : Array (Option Value)} {oc_Fair_put kV_Fair_put dc_Fair_put pm_Fair_put cd_Fair_put ct_Fair_put : Value} {f_Fair_put : Addr}
    {od_Fair_take an_Fair_take : Option Addr} {sl_Fair_take : Array (Option Value)} {oc_Fair_take kV_Fair_take dc_Fair_take pm_Fair_take cd_Fair_take ct_Fair_take : Value} {f_Fair_take : Addr}
    {od_Fair_many an_Fair_many : Option Addr} {sl_Fair_many : Array (Option Value)} {oc_Fair_many kV_Fair_many dc_Fair_many pm_Fair_many cd_Fair_many ct_Fair_many : Value} {f_Fair_many : Addr}
    {od_law_begin an_law_begin : Option Addr} {sl_law_begin : Array (Option Value)} {oc_law_begin kV_law_begin dc_law_begin pm_law_begin cd_law_begin ct_law_begin : Value} {f_law_begin : Addr}
    {od_law_take an_law_take : Option Addr} {sl_law_take : Array (Option Value)} {oc_law_take kV_law_take dc_law_take pm_law_take cd_law_take ct_law_take : Value} {f_law_take : Addr}
    {od_law_next an_law_next : Option Addr} {sl_law_next : Array (Option Value)} {oc_law_next kV_law_next dc_law_next pm_law_next cd_law_next ct_law_next : Value} {f_law_next : Addr}
    {od_law an_law : Option Addr} {sl_law : Array (Option Value)} {oc_law kV_law dc_law pm_law cd_law ct_law : Value} {f_law : Addr}
    {c_Fifo : Addr}
    {c_Fair : Addr}
    (aC_Fifo : PySem.W.nsIn K mainGlobals "Fifo" = some (some (.ref c_Fifo)))
    (aC_Fair : PySem.W.nsIn K mainGlobals "Fair" = some (some (.ref c_Fair)))
    (a_Fifo_init : PySem.W.findIn K (.ref c_Fifo) "__init__" = some (some (.ref f_Fifo_init)))
    (i_Fifo_init : PySem.W.isFn K (.ref f_Fifo_init) = true)
    (l_Fifo_init : K.lookup f_Fifo_init = some ⟨oc_Fifo_init, od_Fifo_init, .func (PySem.W.fnOf "__init__" "Fifo.__init__" (defArgs s_Fifo_init) (defBody s_Fifo_init) (defScope s_Fifo_init) .none kV_Fifo_init dc_Fifo_init pm_Fifo_init an_Fifo_init cd_Fifo_init ct_Fifo_init), sl_Fifo_init⟩)
    (k_Fifo_init : PySem.W.codeIn K cd_Fifo_init "Fifo.__init__" = true)
    (p_Fifo_init : PySem.W.keepIn K (.ref f_Fifo_init) = true)
    (a_Fifo_put : PySem.W.findIn K (.ref c_Fifo) "put" = some (some (.ref f_Fifo_put)))
    (i_Fifo_put : PySem.W.isFn K (.ref f_Fifo_put) = true)
    (l_Fifo_put : K.lookup f_Fifo_put = some ⟨oc_Fifo_put, od_Fifo_put, .func (PySem.W.fnOf "put" "Fifo.put" (defArgs s_Fifo_put) (defBody s_Fifo_put) (defScope s_Fifo_put) .none kV_Fifo_put dc_Fifo_put pm_Fifo_put an_Fifo_put cd_Fifo_put ct_Fifo_put), sl_Fifo_put⟩)
    (k_Fifo_put : PySem.W.codeIn K cd_Fifo_put "Fifo.put" = true)
    (p_Fifo_put : PySem.W.keepIn K (.ref f_Fifo_put) = true)
    (a_Fifo_first : PySem.W.findIn K (.ref c_Fifo) "first" = some (some (.ref f_Fifo_first)))
    (i_Fifo_first : PySem.W.isFn K (.ref f_Fifo_first) = true)
    (l_Fifo_first : K.lookup f_Fifo_first = some ⟨oc_Fifo_first, od_Fifo_first, .func (PySem.W.fnOf "first" "Fifo.first" (defArgs s_Fifo_first) (defBody s_Fifo_first) (defScope s_Fifo_first) .none kV_Fifo_first dc_Fifo_first pm_Fifo_first an_Fifo_first cd_Fifo_first ct_Fifo_first), sl_Fifo_first⟩)
    (k_Fifo_first : PySem.W.codeIn K cd_Fifo_first "Fifo.first" = true)
    (p_Fifo_first : PySem.W.keepIn K (.ref f_Fifo_first) = true)
    (a_Fifo_take : PySem.W.findIn K (.ref c_Fifo) "take" = some (some (.ref f_Fifo_take)))
    (i_Fifo_take : PySem.W.isFn K (.ref f_Fifo_take) = true)
    (l_Fifo_take : K.lookup f_Fifo_take = some ⟨oc_Fifo_take, od_Fifo_take, .func (PySem.W.fnOf "take" "Fifo.take" (defArgs s_Fifo_take) (defBody s_Fifo_take) (defScope s_Fifo_take) .none kV_Fifo_take dc_Fifo_take pm_Fifo_take an_Fifo_take cd_Fifo_take ct_Fifo_take), sl_Fifo_take⟩)
    (k_Fifo_take : PySem.W.codeIn K cd_Fifo_take "Fifo.take" = true)
    (p_Fifo_take : PySem.W.keepIn K (.ref f_Fifo_take) = true)
    (a_Fifo_many : PySem.W.findIn K (.ref c_Fifo) "many" = some (some (.ref f_Fifo_many)))
    (i_Fifo_many : PySem.W.isFn K (.ref f_Fifo_many) = true)
    (l_Fifo_many : K.lookup f_Fifo_many = some ⟨oc_Fifo_many, od_Fifo_many, .func (PySem.W.fnOf "many" "Fifo.many" (defArgs s_Fifo_many) (defBody s_Fifo_many) (defScope s_Fifo_many) .none kV_Fifo_many dc_Fifo_many pm_Fifo_many an_Fifo_many cd_Fifo_many ct_Fifo_many), sl_Fifo_many⟩)
    (k_Fifo_many : PySem.W.codeIn K cd_Fifo_many "Fifo.many" = true)
    (p_Fifo_many : PySem.W.keepIn K (.ref f_Fifo_many) = true)
    (a_Fair_init : PySem.W.findIn K (.ref c_Fair) "__init__" = some (some (.ref f_Fair_init)))
    (i_Fair_init : PySem.W.isFn K (.ref f_Fair_init) = true)
    (l_Fair_init : K.lookup f_Fair_init = some ⟨oc_Fair_init, od_Fair_init, .func (PySem.W.fnOf "__init__" "Fair.__init__" (defArgs s_Fair_init) (defBody s_Fair_init) (defScope s_Fair_init) .none kV_Fair_init dc_Fair_init pm_Fair_init an_Fair_init cd_Fair_init ct_Fair_init), sl_Fair_init⟩)
    (k_Fair_init : PySem.W.codeIn K cd_Fair_init "Fair.__init__" = true)
    (p_Fair_init : PySem.W.keepIn K (.ref f_Fair_init) = true)
    (a_Fair_put : PySem.W.findIn K (.ref c_Fair) "put" = some (some (.ref f_Fair_put)))
    (i_Fair_put : PySem.W.isFn K (.ref f_Fair_put) = true)
    (l_Fair_put : K.lookup f_Fair_put = some ⟨oc_Fair_put, od_Fair_put, .func (PySem.W.fnOf "put" "Fair.put" (defArgs s_Fair_put) (defBody s_Fair_put) (defScope s_Fair_put) .none kV_Fair_put dc_Fair_put pm_Fair_put an_Fair_put cd_Fair_put ct_Fair_put), sl_Fair_put⟩)
    (k_Fair_put : PySem.W.codeIn K cd_Fair_put "Fair.put" = true)
    (p_Fair_put : PySem.W.keepIn K (.ref f_Fair_put) = true)
    (a_Fair_take : PySem.W.findIn K (.ref c_Fair) "take" = some (some (.ref f_Fair_take)))
    (i_Fair_take : PySem.W.isFn K (.ref f_Fair_take) = true)
    (l_Fair_take : K.lookup f_Fair_take = some ⟨oc_Fair_take, od_Fair_take, .func (PySem.W.fnOf "take" "Fair.take" (defArgs s_Fair_take) (defBody s_Fair_take) (defScope s_Fair_take) .none kV_Fair_take dc_Fair_take pm_Fair_take an_Fair_take cd_Fair_take ct_Fair_take), sl_Fair_take⟩)
    (k_Fair_take : PySem.W.codeIn K cd_Fair_take "Fair.take" = true)
    (p_Fair_take : PySem.W.keepIn K (.ref f_Fair_take) = true)
    (a_Fair_many : PySem.W.findIn K (.ref c_Fair) "many" = some (some (.ref f_Fair_many)))
    (i_Fair_many : PySem.W.isFn K (.ref f_Fair_many) = true)
    (l_Fair_many : K.lookup f_Fair_many = some ⟨oc_Fair_many, od_Fair_many, .func (PySem.W.fnOf "many" "Fair.many" (defArgs s_Fair_many) (defBody s_Fair_many) (defScope s_Fair_many) .none kV_Fair_many dc_Fair_many pm_Fair_many an_Fair_many cd_Fair_many ct_Fair_many), sl_Fair_many⟩)
    (k_Fair_many : PySem.W.codeIn K cd_Fair_many "Fair.many" = true)
    (p_Fair_many : PySem.W.keepIn K (.ref f_Fair_many) = true)
    (a_law_begin : PySem.W.nsIn K mainGlobals "_law_begin" = some (some (.ref f_law_begin)))
    (l_law_begin : K.lookup f_law_begin = some ⟨oc_law_begin, od_law_begin, .func (PySem.W.fnOf "_law_begin" "_law_begin" (defArgs s_law_begin) (defBody s_law_begin) (defScope s_law_begin) .none kV_law_begin dc_law_begin pm_law_begin an_law_begin cd_law_begin ct_law_begin), sl_law_begin⟩)
    (k_law_begin : PySem.W.codeIn K cd_law_begin "_law_begin" = true)
    (p_law_begin : PySem.W.keepIn K (.ref f_law_begin) = true)
    (a_law_take : PySem.W.nsIn K mainGlobals "_law_take" = some (some (.ref f_law_take)))
    (l_law_take : K.lookup f_law_take = some ⟨oc_law_take, od_law_take, .func (PySem.W.fnOf "_law_take" "_law_take" (defArgs s_law_take) (defBody s_law_take) (defScope s_law_take) .none kV_law_take dc_law_take pm_law_take an_law_take cd_law_take ct_law_take), sl_law_take⟩)
    (k_law_take : PySem.W.codeIn K cd_law_take "_law_take" = true)
    (p_law_take : PySem.W.keepIn K (.ref f_law_take) = true)
    (a_law_next : PySem.W.nsIn K mainGlobals "_law_next" = some (some (.ref f_law_next)))
    (l_law_next : K.lookup f_law_next = some ⟨oc_law_next, od_law_next, .func (PySem.W.fnOf "_law_next" "_law_next" (defArgs s_law_next) (defBody s_law_next) (defScope s_law_next) .none kV_law_next dc_law_next pm_law_next an_law_next cd_law_next ct_law_next), sl_law_next⟩)
    (k_law_next : PySem.W.codeIn K cd_law_next "_law_next" = true)
    (p_law_next : PySem.W.keepIn K (.ref f_law_next) = true)
    (a_law : PySem.W.nsIn K mainGlobals "law" = some (some (.ref f_law)))
    (l_law : K.lookup f_law = some ⟨oc_law, od_law, .func (PySem.W.fnOf "law" "law" (defArgs s_law) (defBody s_law) (defScope s_law) .none kV_law dc_law pm_law an_law cd_law ct_law), sl_law⟩)
    (k_law : PySem.W.codeIn K cd_law "law" = true)
    (p_law : PySem.W.keepIn K (.ref f_law) = true)
    (pg_Fifo : PySem.W.plainGet K c_Fifo Str.empty = true)
    (hd_Fifo : PySem.W.hasDictIn K c_Fifo = true)
    (po_Fifo : PySem.W.plainOver K c_Fifo = true)
    (sa_Fifo : PySem.W.findIn K (.ref c_Fifo) "__setattr__" = some (some (.builtin "object.__setattr__")))
    (mk_Fifo : PySem.W.makesIn K c_Fifo = true)
    (kp_Fifo : PySem.W.keepIn K (.ref c_Fifo) = true)
    (n_Fifo__room : PySem.W.findIn K (.ref c_Fifo) "_room" = some none)
    (n_Fifo__items : PySem.W.findIn K (.ref c_Fifo) "_items" = some none)
    (pg_Fair : PySem.W.plainGet K c_Fair Str.empty = true)
    (hd_Fair : PySem.W.hasDictIn K c_Fair = true)
    (po_Fair : PySem.W.plainOver K c_Fair = true)
    (sa_Fair : PySem.W.findIn K (.ref c_Fair) "__setattr__" = some (some (.builtin "object.__setattr__")))
    (mk_Fair : PySem.W.makesIn K c_Fair = true)
    (kp_Fair : PySem.W.keepIn K (.ref c_Fair) = true)
    (n_Fair__room : PySem.W.findIn K (.ref c_Fair) "_room" = some none)
    (n_Fair__quantum : PySem.W.findIn K (.ref c_Fair) "_quantum" = some none)
    (n_Fair__flows : PySem.W.findIn K (.ref c_Fair) "_flows" = some none)
    (n_Fair__turns : PySem.W.findIn K (.ref c_Fair) "_turns" = some none)
    (n_Fair__left : PySem.W.findIn K (.ref c_Fair) "_left" = some none)
    (n_Fair__has_begun : PySem.W.findIn K (.ref c_Fair) "_has_begun" = some none)
    (z_len : PySem.W.nsIn K mainGlobals "len" = some none)
    (z_sum : PySem.W.nsIn K mainGlobals "sum" = some none)
    (z_int : PySem.W.nsIn K mainGlobals "int" = some none)
    (z_list : PySem.W.nsIn K mainGlobals "list" = some none)
    (z_abs : PySem.W.nsIn K mainGlobals "abs" = some none)
    (z_range : PySem.W.nsIn K mainGlobals "range" = some none)
    (z_repr : PySem.W.nsIn K mainGlobals "repr" = some none)
    (z_max : PySem.W.nsIn K mainGlobals "max" = some none) :
    ∃ fd : FuncData, (∀ (s : Shared) (v : Value), BindsTo s fd ⟨[v], []⟩ [("script", v)]) ∧ ∀ base : Heap, K.In base → base.Ns mainGlobals mg → FnOk l.prog w K mg base CX0 4 fa fd ["script"] (spLaw K) := by
  have e := hfa.symm.trans (PySem.W.mg_of X G a_law)
  cases e
  have F_Fifo_init := fun_mk (st := s_Fifo_init) l_Fifo_init k_Fifo_init p_Fifo_init
  have b_Fifo_init := F_Fifo_init.binds (ps := ["self", "room"]) fun _ _ _ _ _ _ us hl => match us, hl with | [_, _], _ => rfl
  have F_Fifo_put := fun_mk (st := s_Fifo_put) l_Fifo_put k_Fifo_put p_Fifo_put
  have b_Fifo_put := F_Fifo_put.binds (ps := ["self", "item"]) fun _ _ _ _ _ _ us hl => match us, hl with | [_, _], _ => rfl
  have F_Fifo_first := fun_mk (st := s_Fifo_first) l_Fifo_first k_Fifo_first p_Fifo_first
  have b_Fifo_first := F_Fifo_first.binds (ps := ["self"]) fun _ _ _ _ _ _ us hl => match us, hl with | [_], _ => rfl
  have F_Fifo_take := fun_mk (st := s_Fifo_take) l_Fifo_take k_Fifo_take p_Fifo_take
  have b_Fifo_take := F_Fifo_take.binds (ps := ["self"]) fun _ _ _ _ _ _ us hl => match us, hl with | [_], _ => rfl
  have F_Fifo_many := fun_mk (st := s_Fifo_many) l_Fifo_many k_Fifo_many p_Fifo_many
  have b_Fifo_many := F_Fifo_many.binds (ps := ["self"]) fun _ _ _ _ _ _ us hl => match us, hl with | [_], _ => rfl
  have F_Fair_init := fun_mk (st := s_Fair_init) l_Fair_init k_Fair_init p_Fair_init
  have b_Fair_init := F_Fair_init.binds (ps := ["self", "room", "quantum"]) fun _ _ _ _ _ _ us hl => match us, hl with | [_, _, _], _ => rfl
  have F_Fair_put := fun_mk (st := s_Fair_put) l_Fair_put k_Fair_put p_Fair_put
  have b_Fair_put := F_Fair_put.binds (ps := ["self", "flow", "size", "item"]) fun _ _ _ _ _ _ us hl => match us, hl with | [_, _, _, _], _ => rfl
  have F_Fair_take := fun_mk (st := s_Fair_take) l_Fair_take k_Fair_take p_Fair_take
  have b_Fair_take := F_Fair_take.binds (ps := ["self"]) fun _ _ _ _ _ _ us hl => match us, hl with | [_], _ => rfl
  have F_Fair_many := fun_mk (st := s_Fair_many) l_Fair_many k_Fair_many p_Fair_many
  have b_Fair_many := F_Fair_many.binds (ps := ["self"]) fun _ _ _ _ _ _ us hl => match us, hl with | [_], _ => rfl
  have F_law_begin := fun_mk (st := s_law_begin) l_law_begin k_law_begin p_law_begin
  have b_law_begin := F_law_begin.binds (ps := ["script"]) fun _ _ _ _ _ _ us hl => match us, hl with | [_], _ => rfl
  have F_law_take := fun_mk (st := s_law_take) l_law_take k_law_take p_law_take
  have b_law_take := F_law_take.binds (ps := ["d", "many"]) fun _ _ _ _ _ _ us hl => match us, hl with | [_, _], _ => rfl
  have F_law_next := fun_mk (st := s_law_next) l_law_next k_law_next p_law_next
  have b_law_next := F_law_next.binds (ps := ["flows", "turns", "left", "begun", "quantum"]) fun _ _ _ _ _ _ us hl => match us, hl with | [_, _, _, _, _], _ => rfl
  have F_law := fun_mk (st := s_law) l_law k_law p_law
  have b_law := F_law.binds (ps := ["script"]) fun _ _ _ _ _ _ us hl => match us, hl with | [_], _ => rfl
  have C_Fifo : CF K mg "Fifo" ["_room", "_items"] c_Fifo f_Fifo_init := ⟨PySem.W.mg_of X G aC_Fifo, ⟨pg_Fifo, hd_Fifo, po_Fifo, sa_Fifo⟩, ⟨mk_Fifo, a_Fifo_init, i_Fifo_init, kp_Fifo⟩, fun x hx => by
      simp only [List.mem_cons, List.not_mem_nil, or_false] at hx
      rcases hx with rfl | rfl
      · exact n_Fifo__room
      · exact n_Fifo__items⟩
  have C_Fair : CF K mg "Fair" ["_room", "_quantum", "_flows", "_turns", "_left", "_has_begun"] c_Fair f_Fair_init := ⟨PySem.W.mg_of X G aC_Fair, ⟨pg_Fair, hd_Fair, po_Fair, sa_Fair⟩, ⟨mk_Fair, a_Fair_init, i_Fair_init, kp_Fair⟩, fun x hx => by
      simp only [List.mem_cons, List.not_mem_nil, or_false] at hx
      rcases hx with rfl | rfl | rfl | rfl | rfl | rfl
      · exact n_Fair__room
      · exact n_Fair__quantum
      · exact n_Fair__flows
      · exact n_Fair__turns
      · exact n_Fair__left
      · exact n_Fair__has_begun⟩
  have T : Txt K mg ⟨f_Fifo_init, PySem.W.fnOf "__init__" "Fifo.__init__" (defArgs s_Fifo_init) (defBody s_Fifo_init) (defScope s_Fifo_init) .none kV_Fifo_init dc_Fifo_init pm_Fifo_init an_Fifo_init cd_Fifo_init ct_Fifo_init, f_Fifo_put, PySem.W.fnOf "put" "Fifo.put" (defArgs s_Fifo_put) (defBody s_Fifo_put) (defScope s_Fifo_put) .none kV_Fifo_put dc_Fifo_put pm_Fifo_put an_Fifo_put cd_Fifo_put ct_Fifo_put, f_Fifo_first, PySem.W.fnOf "first" "Fifo.first" (defArgs s_Fifo_first) (defBody s_Fifo_first) (defScope s_Fifo_first) .none kV_Fifo_first dc_Fifo_first pm_Fifo_first an_Fifo_first cd_Fifo_first ct_Fifo_first, f_Fifo_take, PySem.W.fnOf "take" "Fifo.take" (defArgs s_Fifo_take) (defBody s_Fifo_take) (defScope s_Fifo_take) .none kV_Fifo_take dc_Fifo_take pm_Fifo_take an_Fifo_take cd_Fifo_take ct_Fifo_take, f_Fifo_many, PySem.W.fnOf "many" "Fifo.many" (defArgs s_Fifo_many) (defBody s_Fifo_many) (defScope s_Fifo_many) .none kV_Fifo_many dc_Fifo_many pm_Fifo_many an_Fifo_many cd_Fifo_many ct_Fifo_many, f_Fair_init, PySem.W.fnOf "__init__" "Fair.__init__" (defArgs s_Fair_init) (defBody s_Fair_init) (defScope s_Fair_init) .none kV_Fair_init dc_Fair_init pm_Fair_init an_Fair_init cd_Fair_init ct_Fair_init, f_Fair_put, PySem.W.fnOf "put" "Fair.put" (defArgs s_Fair_put) (defBody s_Fair_put) (defScope s_Fair_put) .none kV_Fair_put dc_Fair_put pm_Fair_put an_Fair_put cd_Fair_put ct_Fair_put, f_Fair_take, PySem.W.fnOf "take" "Fair.take" (defArgs s_Fair_take) (defBody s_Fair_take) (defScope s_Fair_take) .none kV_Fair_take dc_Fair_take pm_Fair_take an_Fair_take cd_Fair_take ct_Fair_take, f_Fair_many, PySem.W.fnOf "many" "Fair.many" (defArgs s_Fair_many) (defBody s_Fair_many) (defScope s_Fair_many) .none kV_Fair_many dc_Fair_many pm_Fair_many an_Fair_many cd_Fair_many ct_Fair_many, f_law_begin, PySem.W.fnOf "_law_begin" "_law_begin" (defArgs s_law_begin) (defBody s_law_begin) (defScope s_law_begin) .none kV_law_begin dc_law_begin pm_law_begin an_law_begin cd_law_begin ct_law_begin, f_law_take, PySem.W.fnOf "_law_take" "_law_take" (defArgs s_law_take) (defBody s_law_take) (defScope s_law_take) .none kV_law_take dc_law_take pm_law_take an_law_take cd_law_take ct_law_take, f_law_next, PySem.W.fnOf "_law_next" "_law_next" (defArgs s_law_next) (defBody s_law_next) (defScope s_law_next) .none kV_law_next dc_law_next pm_law_next an_law_next cd_law_next ct_law_next, fa, PySem.W.fnOf "law" "law" (defArgs s_law) (defBody s_law) (defScope s_law) .none kV_law dc_law pm_law an_law cd_law ct_law, c_Fifo, c_Fair⟩ := ⟨⟨F_Fifo_init, ⟨a_Fifo_init, i_Fifo_init, p_Fifo_init⟩, b_Fifo_init⟩, ⟨F_Fifo_put, ⟨a_Fifo_put, i_Fifo_put, p_Fifo_put⟩, b_Fifo_put⟩, ⟨F_Fifo_first, ⟨a_Fifo_first, i_Fifo_first, p_Fifo_first⟩, b_Fifo_first⟩, ⟨F_Fifo_take, ⟨a_Fifo_take, i_Fifo_take, p_Fifo_take⟩, b_Fifo_take⟩, ⟨F_Fifo_many, ⟨a_Fifo_many, i_Fifo_many, p_Fifo_many⟩, b_Fifo_many⟩, ⟨F_Fair_init, ⟨a_Fair_init, i_Fair_init, p_Fair_init⟩, b_Fair_init⟩, ⟨F_Fair_put, ⟨a_Fair_put, i_Fair_put, p_Fair_put⟩, b_Fair_put⟩, ⟨F_Fair_take, ⟨a_Fair_take, i_Fair_take, p_Fair_take⟩, b_Fair_take⟩, ⟨F_Fair_many, ⟨a_Fair_many, i_Fair_many, p_Fair_many⟩, b_Fair_many⟩, ⟨F_law_begin, PySem.W.mg_of X G a_law_begin, p_law_begin, b_law_begin⟩, ⟨F_law_take, PySem.W.mg_of X G a_law_take, p_law_take, b_law_take⟩, ⟨F_law_next, PySem.W.mg_of X G a_law_next, p_law_next, b_law_next⟩, ⟨F_law, PySem.W.mg_of X G a_law, p_law, b_law⟩, C_Fifo, C_Fair, PySem.W.mg_none_of X G z_len, PySem.W.mg_none_of X G z_sum, PySem.W.mg_none_of X G z_int, PySem.W.mg_none_of X G z_list, PySem.W.mg_none_of X G z_abs, PySem.W.mg_none_of X G z_range, PySem.W.mg_none_of X G z_repr, PySem.W.mg_none_of X G z_max⟩
  exact ⟨_, fun s v => .of_eq rfl, fun base _ _ => ok_law T⟩
theorem walk {l : PySem.W.OpenLaw} {q : Program} {loose : List Str} {XP : (Str → Option Value) → Heap → Prop} {YP : World → Heap → Prop} {d : DefRec} {K : Params → PySem.W.Frag} (hn : l.most = some 63) (hdf : d.params.defaults = [])
    (hY : ∀ (w : World) (h : Heap), YP w h → (K w.params).In h)
    (F : ∀ (w : World) (mg : Str → Option Value) (fa : Addr) (h : Heap), (K w.params).In h → h.Ns mainGlobals mg → mg d.name = some (.ref fa) →
      ∃ fd : FuncData, (∀ (s : Shared) (u : Value), BindsTo s fd ⟨[u], []⟩ [("script", u)]) ∧ ∀ base : Heap, (K w.params).In base → base.Ns mainGlobals mg → FnOk l.prog w (K w.params) mg base CX0 4 fa fd ["script"] (spLaw (K w.params))) :
    PySem.W.WalkO q loose XP YP l.row.toRowW d [] (fun f vs => PySem.call f vs) :=
  L2.walk_of (n := 63) (k := 4) (x := "script") (CX := fun _ => CX0) (sp := fun w => spLaw (K w.params)) hn (by decide) hdf ⟨rfl, by decide, by decide⟩ hY F (fun _ _ a ns hl _ hS => ⟨a, ns, rfl, hS, hl, fun _ => rfl⟩) fun _ _ _ _ _ z => z
end Eo08
open PySem PySem.W PyProof.Rows
set_option maxRecDepth 100000 in
set_option maxHeartbeats 0 in
theorem PySem.Challenge.cw_everyoctetonce_k08_queues_holds : PySem.Challenge.rw_everyoctetonce_k08_queues.Holds := by
  w_on; o_law; k_head; (case hw => w_witness2)
  k_fill
  refine Eo08.walk (l := PySem.Challenge.rw_everyoctetonce_k08_queues) rfl rfl (fun w h Y => PySem.W.kIn_of Y) ?F
  case F =>
    intro w mg fa h KX G hmg
    refine' Eo08.all_mk KX G hmg ?aC_Fifo ?aC_Fair ?a_Fifo_init ?i_Fifo_init ?l_Fifo_init ?k_Fifo_init ?p_Fifo_init ?a_Fifo_put ?i_Fifo_put ?l_Fifo_put ?k_Fifo_put ?p_Fifo_put ?a_Fifo_first ?i_Fifo_first ?l_Fifo_first ?k_Fifo_first ?p_Fifo_first ?a_Fifo_take ?i_Fifo_take ?l_Fifo_take ?k_Fifo_take ?p_Fifo_take ?a_Fifo_many ?i_Fifo_many ?l_Fifo_many ?k_Fifo_many ?p_Fifo_many ?a_Fair_init ?i_Fair_init ?l_Fair_init ?k_Fair_init ?p_Fair_init ?a_Fair_put ?i_Fair_put ?l_Fair_put ?k_Fair_put ?p_Fair_put ?a_Fair_take ?i_Fair_take ?l_Fair_take ?k_Fair_take ?p_Fair_take ?a_Fair_many ?i_Fair_many ?l_Fair_many ?k_Fair_many ?p_Fair_many ?a_law_begin ?l_law_begin ?k_law_begin ?p_law_begin ?a_law_take ?l_law_take ?k_law_take ?p_law_take ?a_law_next ?l_law_next ?k_law_next ?p_law_next ?a_law ?l_law ?k_law ?p_law ?pg_Fifo ?hd_Fifo ?po_Fifo ?sa_Fifo ?mk_Fifo ?kp_Fifo ?n_Fifo__room ?n_Fifo__items ?pg_Fair ?hd_Fair ?po_Fair ?sa_Fair ?mk_Fair ?kp_Fair ?n_Fair__room ?n_Fair__quantum ?n_Fair__flows ?n_Fair__turns ?n_Fair__left ?n_Fair__has_begun ?z_len ?z_sum ?z_int ?z_list ?z_abs ?z_range ?z_repr ?z_max
    (case aC_Fifo => k_is)
    (case aC_Fair => k_is)
    (case a_Fifo_init => k_is)
    (case i_Fifo_init => k_is)
    (case l_Fifo_init => k_is)
    (case k_Fifo_init => k_is)
    (case p_Fifo_init => k_is)
    (case a_Fifo_put => k_is)
    (case i_Fifo_put => k_is)
    (case l_Fifo_put => k_is)
    (case k_Fifo_put => k_is)
    (case p_Fifo_put => k_is)
    (case a_Fifo_first => k_is)
    (case i_Fifo_first => k_is)
    (case l_Fifo_first => k_is)
    (case k_Fifo_first => k_is)
    (case p_Fifo_first => k_is)
    (case a_Fifo_take => k_is)
    (case i_Fifo_take => k_is)
    (case l_Fifo_take => k_is)
    (case k_Fifo_take => k_is)
    (case p_Fifo_take => k_is)
    (case a_Fifo_many => k_is)
    (case i_Fifo_many => k_is)
    (case l_Fifo_many => k_is)
    (case k_Fifo_many => k_is)
    (case p_Fifo_many => k_is)
    (case a_Fair_init => k_is)
    (case i_Fair_init => k_is)
    (case l_Fair_init => k_is)
    (case k_Fair_init => k_is)
    (case p_Fair_init => k_is)
    (case a_Fair_put => k_is)
    (case i_Fair_put => k_is)
    (case l_Fair_put => k_is)
    (case k_Fair_put => k_is)
    (case p_Fair_put => k_is)
    (case a_Fair_take => k_is)
    (case i_Fair_take => k_is)
    (case l_Fair_take => k_is)
    (case k_Fair_take => k_is)
    (case p_Fair_take => k_is)
    (case a_Fair_many => k_is)
    (case i_Fair_many => k_is)
    (case l_Fair_many => k_is)
    (case k_Fair_many => k_is)
    (case p_Fair_many => k_is)
    (case a_law_begin => k_is)
    (case l_law_begin => k_is)
    (case k_law_begin => k_is)
    (case p_law_begin => k_is)
    (case a_law_take => k_is)
    (case l_law_take => k_is)
    (case k_law_take => k_is)
    (case p_law_take => k_is)
    (case a_law_next => k_is)
    (case l_law_next => k_is)
    (case k_law_next => k_is)
    (case p_law_next => k_is)
    (case a_law => k_is)
    (case l_law => k_is)
    (case k_law => k_is)
    (case p_law => k_is)
    (case pg_Fifo => k_is)
    (case hd_Fifo => k_is)
    (case po_Fifo => k_is)
    (case sa_Fifo => k_is)
    (case mk_Fifo => k_is)
    (case kp_Fifo => k_is)
    (case n_Fifo__room => k_is)
    (case n_Fifo__items => k_is)
    (case pg_Fair => k_is)
    (case hd_Fair => k_is)
    (case po_Fair => k_is)
    (case sa_Fair => k_is)
    (case mk_Fair => k_is)
    (case kp_Fair => k_is)
    (case n_Fair__room => k_is)
    (case n_Fair__quantum => k_is)
    (case n_Fair__flows => k_is)
    (case n_Fair__turns => k_is)
    (case n_Fair__left => k_is)
    (case n_Fair__has_begun => k_is)
    (case z_len => k_is)
    (case z_sum => k_is)
    (case z_int => k_is)
    (case z_list => k_is)
    (case z_abs => k_is)
    (case z_range => k_is)
    (case z_repr => k_is)
    (case z_max => k_is)
#print axioms PySem.Challenge.cw_everyoctetonce_k08_queues_holds

