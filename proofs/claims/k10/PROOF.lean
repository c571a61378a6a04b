import PyProof.Rows.All
import Wide.All
import OpenK.AllK
import Wide.FinOn
import HandS.ForMost
import HandS.Wide
import PySem.Challenge.RW_everyoctetonce_k10_pacing
set_option Elab.async false
set_option linter.all false
set_option maxRecDepth 100000
set_option maxHeartbeats 1000000
set_option pp.maxSteps 250
namespace Eo10
open PySem L2
/-! ### frames -/
def Imm : HO → Bool
  | .tup _ => true
  | .frz _ (.tup _) => true
  | _ => false
/-- all that stood stands, but at the addresses of A; what never changes stands anyway -/
structure Ext (A : List Addr) (H H' : Hp) : Prop where
  keep : ∀ b o, H b = some o → b ∉ A → H' b = some o
  imm : ∀ b o, H b = some o → Imm o = true → H' b = some o
theorem Ext.refl {A : List Addr} (H : Hp) : Ext A H H := ⟨fun _ _ h _ => h, fun _ _ h _ => h⟩
theorem Ext.trans {A B C : List Addr} {H H1 H2 : Hp} (e : Ext A H H1) (f : Ext B H1 H2) (hA : ∀ x ∈ A, x ∈ C) (hB : ∀ x ∈ B, (∃ o, H x = some o) → x ∈ C) : Ext C H H2 :=
  ⟨fun b o h n => f.keep b o (e.keep b o h fun z => n (hA b z)) fun z => n (hB b z ⟨o, h⟩), fun b o h i => f.imm b o (e.imm b o h i) i⟩
theorem Ext.mono {A B : List Addr} {H H1 : Hp} (e : Ext A H H1) (h : ∀ x ∈ A, x ∈ B) : Ext B H H1 := ⟨fun b o q n => e.keep b o q fun z => n (h b z), e.imm⟩
theorem Ext.new {H : Hp} {p : Addr} {o : HO} (h : H p = none) : Ext [] H (upd H p o) :=
  ⟨fun b u e _ => by rw [upd_ne (ne_of_none e h)]; exact e, fun b u e _ => by rw [upd_ne (ne_of_none e h)]; exact e⟩
theorem Ext.wr {H : Hp} {p : Addr} {o u : HO} (h : H p = some o) (n : Imm o = false) : Ext [p] H (upd H p u) :=
  ⟨fun b v e z => by rw [upd_ne (fun q => z (by rw [q]; exact List.mem_singleton.mpr rfl))]; exact e, fun b v e i => by
    rw [upd_ne (fun q => by subst q; rw [h] at e; cases e; rw [n] at i; cases i)]; exact e⟩
theorem Ext.free {A : List Addr} {H H' : Hp} {p : Addr} (e : Ext A H H') (h : H' p = none) (n : p ∉ A) : H p = none := by
  cases q : H p with
  | none => rfl
  | some o => rw [e.keep p o q n] at h; cases h
theorem Ext.snoc {A C : List Addr} {H H1 H2 : Hp} (f : Ext A H1 H2) (e : Ext C H H1) (hA : ∀ x ∈ A, (∃ o, H x = some o) → x ∈ C) : Ext C H H2 := e.trans f (fun _ h => h) hA
theorem sub0 {H : Hp} {C : List Addr} : ∀ x ∈ ([] : List Addr), (∃ o, H x = some o) → x ∈ C := fun _ h => by cases h
theorem sub1 {H : Hp} {C : List Addr} {a : Addr} (m : a ∈ C) : ∀ x ∈ [a], (∃ o, H x = some o) → x ∈ C := fun x h _ => by rw [List.mem_singleton.mp h]; exact m
theorem sub1f {H : Hp} {C : List Addr} {a : Addr} (m : H a = none) : ∀ x ∈ [a], (∃ o, H x = some o) → x ∈ C := fun x h ⟨o, e⟩ => by rw [List.mem_singleton.mp h, m] at e; cases e
theorem subC {H : Hp} {C A : List Addr} {a : Addr} (m : a ∈ C) (r : ∀ x ∈ A, (∃ o, H x = some o) → x ∈ C) : ∀ x ∈ a :: A, (∃ o, H x = some o) → x ∈ C := fun x h z => by
  rcases List.mem_cons.mp h with q | q
  · rw [q]; exact m
  · exact r x q z
theorem subCf {H : Hp} {C A : List Addr} {a : Addr} (m : H a = none) (r : ∀ x ∈ A, (∃ o, H x = some o) → x ∈ C) : ∀ x ∈ a :: A, (∃ o, H x = some o) → x ∈ C := fun x h z => by
  rcases List.mem_cons.mp h with q | q
  · obtain ⟨o, e⟩ := z
    rw [q, m] at e; cases e
  · exact r x q z
theorem nin0 {b : Addr} : b ∉ ([] : List Addr) := List.not_mem_nil
theorem nin1 {b x : Addr} (h : b ≠ x) : b ∉ [x] := fun z => h (List.mem_singleton.mp z)
theorem ninC {b x : Addr} {A : List Addr} (h : b ≠ x) (g : b ∉ A) : b ∉ (x :: A) := fun z => (List.mem_cons.mp z).elim h g
theorem Rd.ext {A : List Addr} {H H' : Hp} {a : Addr} {u : HO} (e : Ext A H H') (h : Rd H a u) (n : a ∉ A) : Rd H' a u := by
  rcases h with h | ⟨o, h⟩
  · exact .inl (e.keep _ _ h n)
  · exact .inr ⟨o, e.keep _ _ h n⟩
theorem sqT_ext {K : PySem.W.Frag} {A : List Addr} {H H' : Hp} {a : Addr} {xs : List V} (e : Ext A H H') (h : SqT K H a xs) : SqT K H' a xs := by
  rcases h with (h | ⟨o, h⟩) | h
  · exact .inl (.inl (e.imm _ _ h rfl))
  · exact .inl (.inr ⟨o, e.imm _ _ h rfl⟩)
  · exact .inr h
theorem sqL_ext {K : PySem.W.Frag} {A : List Addr} {H H' : Hp} {a : Addr} {xs : List V} (e : Ext A H H') (h : SqL K H a xs) (n : ∀ o, H a = some o → a ∉ A) : SqL K H' a xs := by
  rcases h with (h | ⟨o, h⟩) | h
  · exact .inl (.inl (e.keep _ _ h (n _ h)))
  · exact .inl (.inr ⟨o, e.keep _ _ h (n _ h)⟩)
  · exact .inr h
theorem sqL_ext0 {K : PySem.W.Frag} {H H' : Hp} {a : Addr} {xs : List V} (e : Ext [] H H') (h : SqL K H a xs) : SqL K H' a xs := sqL_ext e h fun _ _ => nin0
/-- a new object o, its place any free one -/
def NewO (H : Hp) (o : HO) (R : Addr → Hp → Prop) : Prop := ∀ p H', H p = none → Ext [] H H' → H' p = some o → R p H'
theorem NewO.raw {H : Hp} {o : HO} {R : Addr → Hp → Prop} (h : NewO H o R) : ∀ p, H p = none → R p (upd H p o) := fun p hp => h p _ hp (Ext.new hp) upd_same
/-- a reading's end, weakened -/
def stA (t : TA) : TA := fun σ H Q => ∃ R : List V → Hp → Prop, t σ H R ∧ ∀ xs H', R xs H' → Q xs H'
def stE (t : TE) : TE := fun σ H Q => ∃ R : V → Hp → Prop, t σ H R ∧ ∀ x H', R x H' → Q x H'
theorem PA.star {X : Cx} {es : List Expr} {t : TA} (h : PA X es t) : PA X es (stA t) := by
  constructor
  rintro pos pn st sl hp R J ⟨R1, a, b⟩
  apply thn (h.run pos pn st sl hp R1 J a)
  rintro us s1 ⟨vs, H1, J1, rv, q⟩
  exact ⟨vs, H1, J1, rv, b _ _ q⟩
theorem PE.star {X : Cx} {e : Expr} {t : TE} (h : PE X e t) : PE X e (stE t) := by
  constructor
  rintro pn st sl hp R J ⟨R1, a, b⟩
  apply thn (h.run pn st sl hp R1 J a)
  rintro u s1 ⟨v, H1, J1, rv, q⟩
  exact ⟨v, H1, J1, rv, b _ _ q⟩
theorem PE.weak {X : Cx} {e : Expr} {t t' : TE} (h : PE X e t) (w : ∀ σ H Q, t' σ H Q → t σ H Q) : PE X e t' := ⟨fun pn st sl hp R J a => h.run pn st sl hp R J (w _ _ _ a)⟩
theorem PS.weak {X : Cx} {e : Stmt} {t t' : TS} (h : PS X e t) (w : ∀ D σ H, t' D σ H → t D σ H) : PS X e t' := ⟨fun pn st sl hp R J a => h.run pn st sl hp R J (w _ _ _ a)⟩
/-- a statement that ends in J, whence the rest goes on -/
def tJoin (t u : TS) : TS := fun D σ H => ∃ J : L2.St → Hp → Prop, t { D with nx := J } σ H ∧ ∀ σ' H', J σ' H' → u D σ' H'
theorem pss_join {X : Cx} {st : Stmt} {rest : List Stmt} {t u : TS} (h1 : PS X st t) (h2 : PSs X rest u) : PSs X (st :: rest) (tJoin t u) := by
  constructor
  rintro pn s0 sl hp D J ⟨R, a, b⟩
  apply wpAny_execs_cons
  apply thn (h1.run pn s0 sl hp { D with nx := R } J a)
  intro f s1 q
  cases f with
  | next =>
    obtain ⟨sl2, hp2, J2, r⟩ := q
    exact h2.run pn s1 sl2 hp2 D J2 (b _ _ r)
  | ret v => exact q
  | brk => exact q
  | cont => exact q
/-! ### facts of the top -/
structure GF (K : PySem.W.Frag) (mg : Str → Option Value) (x : Str) (st : Stmt) (ps : List Str) (f : Addr) (fd : FuncData) : Prop where
  F : Fun K x x st f fd
  mg : mg x = some (.ref f)
  kp : PySem.W.keepIn K (.ref f) = true
  b : Binds K fd ps []
structure MF (K : PySem.W.Frag) (x q : Str) (st : Stmt) (ps : List Str) (C f : Addr) (fd : FuncData) : Prop where
  F : Fun K x q st f fd
  me : Meth K C x f
  b : Binds K fd ps []
def NA (K : PySem.W.Frag) (C : Addr) (ats : List Str) : Prop := ∀ x ∈ ats, NoAttr K C x
theorem na_of {K : PySem.W.Frag} {C : Addr} {ats : List Str} {f : Str} (h : NA K C ats) (m : f ∈ ats) : NoAttr K C f := h f m
structure CF (K : PySem.W.Frag) (mg : Str → Option Value) (x : Str) (ats : List Str) (C fi : Addr) : Prop where
  mg : mg x = some (.ref C)
  cl : Cls K C
  make : Mk K C fi
  na : NA K C ats
def GV (K : PySem.W.Frag) (mg : Str → Option Value) (x : Str) (v : V) : Prop := ∃ u, mg x = some u ∧ RelV v u
/-! ### rules that take several kinds of values -/
section
variable {X : Cx}
theorem pe_g {x : Str} {v : V} {pos : Pos} (hg : Gl X x) (h : GV X.K X.mg x v) (hd : (x == ("__debug__" : Str)) = false := by decide) : PE X (.Name x pos) (tC v) := by
  obtain ⟨u, h1, h2⟩ := h
  exact pe_glob hg h1 h2 hd
theorem OpR.or {f : Value → Value → Sem Value} {r r' : R2} (h : OpR X f r) (h' : OpR X f r') : OpR X f (fun x y H Q => r x y H Q ∨ r' x y H Q) := by
  intro pins s σ H x y v u Q I rx ry q
  rcases q with q | q
  · exact h pins s σ H x y v u Q I rx ry q
  · exact h' pins s σ H x y v u Q I rx ry q
/-- `()` ahead of a tuple gives that tuple -/
def rAddX (K : PySem.W.Frag) : R2 := fun x y H Q => match x, y with
  | .int i, .int j => Q (.int (i + j)) H
  | .int i, .bl k => Q (.int (i + PyProof.Rows.b2i k)) H
  | .str i, .str j => i.length + j.length ≤ sizeLine ∧ Q (.str (i ++ j)) H
  | .ref a, .ref b => rCatT K x y H Q ∨ rCat x y H Q
  | _, _ => False
theorem o_add : OpR X (binaryOp .Add) (rAddX X.K) := by
  intro pins s σ H x y v u Q I rx ry h
  unfold rAddX at h
  split at h
  · exact op_add pins s σ H _ _ v u Q I rx ry ⟨_, _, rfl, rfl, h⟩
  · exact op_add_ib pins s σ H _ _ v u Q I rx ry ⟨_, _, rfl, rfl, h⟩
  · exact op_add_str pins s σ H _ _ v u Q I rx ry ⟨_, _, rfl, rfl, h.1, h.2⟩
  · exact OpR.or op_catT op_cat pins s σ H _ _ v u Q I rx ry h
  · exact h.elim
theorem CMul.left {i j : Int} (h : -(2 ^ 64) < i ∧ i < 2 ^ 64) : CMul i j := .inl h
theorem CMul.right {i j : Int} (h : -(2 ^ 64) < j ∧ j < 2 ^ 64) : CMul i j := .inr h
def rMulX : R2 := fun x y H Q => match x, y with
  | .int i, .int j => CMul i j ∧ Q (.int (i * j)) H
  | _, _ => rRep x y H Q
theorem o_mul : OpR X (binaryOp .Mult) rMulX := by
  intro pins s σ H x y v u Q I rx ry h
  unfold rMulX at h
  split at h
  · exact op_mul pins s σ H _ _ v u Q I rx ry ⟨_, _, rfl, rfl, h.1, h.2⟩
  · exact op_rep pins s σ H _ _ v u Q I rx ry h
def rEqX (K : PySem.W.Frag) : R2 := fun x y H Q => rEq x y H Q ∨ rEqD K x y H Q
def rNeX (K : PySem.W.Frag) : R2 := fun x y H Q => rNe x y H Q ∨ rNeD K x y H Q
theorem o_eq (hu : X.A.units + 64 < cLine) : OpR X (compareOp .Eq) (rEqX X.K) := OpR.or op_eq (op_eqD hu)
theorem o_ne (hu : X.A.units + 64 < cLine) : OpR X (compareOp .NotEq) (rNeX X.K) := OpR.or op_ne (op_neD hu)
def rInt1 : List V → Hp → VK → Prop := fun xs H Q => match xs with
  | [.int i] => Q (.int i) H
  | [.bl k] => Q (.int (if k then 1 else 0)) H
  | _ => False
theorem o_int : CallR X (.type "int") rInt1 := by
  intro pins s σ H xs us Q I r h
  unfold rInt1 at h
  split at h
  · exact call_int1 pins s σ H _ us Q I r (.inl ⟨_, rfl, h⟩)
  · exact call_int1 pins s σ H _ us Q I r (.inr ⟨_, rfl, h⟩)
  · exact h.elim
def rMin2 : List V → Hp → VK → Prop := fun xs H Q => match xs with
  | [.int i, .int j] => Q (.int (min i j)) H
  | _ => False
def rMax2 : List V → Hp → VK → Prop := fun xs H Q => match xs with
  | [.int i, .int j] => Q (.int (max i j)) H
  | _ => False
theorem o_min (hc : X.calm = true) : CallR X (.builtin "min") rMin2 := by
  intro pins s σ H xs us Q I r h
  unfold rMin2 at h
  split at h
  · rename_i i j
    refine call_min2 hc pins s σ H _ us Q I r ⟨_, _, rfl, ?_⟩
    have e : (if j < i then j else i) = min i j := by split <;> omega
    rw [e]; exact h
  · exact h.elim
theorem o_max (hc : X.calm = true) : CallR X (.builtin "max") rMax2 := by
  intro pins s σ H xs us Q I r h
  unfold rMax2 at h
  split at h
  · rename_i i j
    refine call_max2 hc pins s σ H _ us Q I r ⟨_, _, rfl, ?_⟩
    have e : (if j > i then j else i) = max i j := by split <;> omega
    rw [e]; exact h
  · exact h.elim
def rAbs : List V → Hp → VK → Prop := fun xs H Q => match xs with
  | [.int i] => Q (.int (i.natAbs : Int)) H
  | _ => False
theorem o_abs : CallR X (.builtin "abs") rAbs := by
  intro pins s σ H xs us Q I r h
  unfold rAbs at h
  split at h
  · rename_i i
    refine call_abs pins s σ H _ us Q I r ⟨_, rfl, ?_⟩
    have e : (if i < 0 then -i else i) = (i.natAbs : Int) := by split <;> omega
    rw [e]; exact h
  · exact h.elim
def tTupX (t : TA) : TE := fun σ H Q => t σ H fun xs H1 => xs.length ≤ sizeLine ∧ NewO H1 (.tup xs) fun p H' => Q (.ref p) H'
def tLstX (t : TA) : TE := fun σ H Q => t σ H fun xs H1 => xs.length ≤ sizeLine ∧ NewO H1 (.lst xs) fun p H' => Q (.ref p) H'
theorem pe_tupX {es : List Expr} {t : TA} {k : Nat} {pos : Pos} (h : PA X es t) : PE X (.Tuple es k pos) (tTupX t) :=
  PE.weak (pe_tup (PA.star h)) fun _ _ _ q => ⟨_, q, fun _ _ ⟨l, n⟩ => ⟨l, n.raw⟩⟩
theorem pe_lstX {es : List Expr} {t : TA} {pos : Pos} (h : PA X es t) : PE X (.List es pos) (tLstX t) :=
  PE.weak (pe_lst (PA.star h)) fun _ _ _ q => ⟨_, q, fun _ _ ⟨l, n⟩ => ⟨l, n.raw⟩⟩
def rLenX (K : PySem.W.Frag) : List V → Hp → VK → Prop := fun xs H Q => match xs with
  | [.ref a] => (∃ ys, (SqL K H a ys ∨ SqT K H a ys) ∧ Q (.int ys.length) H) ∨ ∃ kvs, H a = some (.dK kvs) ∧ Q (.int kvs.length) H
  | [.str z] => z.length ≤ sizeLine ∧ Q (.int z.length) H
  | _ => False
theorem o_len : CallR X (.builtin "len") (rLenX X.K) := by
  intro pins s σ H xs us Q I r h
  unfold rLenX at h
  split at h
  · rcases h with ⟨ys, e, q⟩ | ⟨kvs, e, q⟩
    · exact call_len_seq pins s σ H _ us Q I r ⟨_, ys, rfl, e, q⟩
    · exact call_lenD pins s σ H _ us Q I r ⟨_, kvs, rfl, e, q⟩
  · exact call_len_str pins s σ H _ us Q I r ⟨_, rfl, h.1, h.2⟩
  · exact h.elim
def rListX (K : PySem.W.Frag) : List V → Hp → VK → Prop := fun xs H Q => match xs with
  | [.ref a] => ∃ ys, (SqL K H a ys ∨ SqT K H a ys) ∧ NewO H (.lst ys) fun p H' => Q (.ref p) H'
  | _ => False
theorem o_list : CallR X (.type "list") (rListX X.K) := by
  intro pins s σ H xs us Q I r h
  unfold rListX at h
  split at h
  · obtain ⟨ys, e, q⟩ := h
    exact call_list_of pins s σ H _ us Q I r ⟨_, ys, rfl, e, q.raw⟩
  · exact h.elim
def rTupX (K : PySem.W.Frag) : List V → Hp → VK → Prop := fun xs H Q => match xs with
  | [.ref a] => (∃ ys, SqL K H a ys ∧ NewO H (.tup ys) fun p H' => Q (.ref p) H') ∨ ∃ ys, SqT K H a ys ∧ Q (.ref a) H
  | _ => False
theorem o_tuple : CallR X (.type "tuple") (rTupX X.K) := by
  intro pins s σ H xs us Q I r h
  unfold rTupX at h
  split at h
  · rcases h with ⟨ys, e, q⟩ | ⟨ys, e, q⟩
    · exact call_tuple_of pins s σ H _ us Q I r ⟨_, ys, rfl, .inl ⟨e, q.raw⟩⟩
    · exact call_tuple_of pins s σ H _ us Q I r ⟨_, ys, rfl, .inr ⟨e, q⟩⟩
  · exact h.elim
theorem iop_catT : OpR X (inplaceOp .Add) (fun _ _ _ _ => False) := fun _ _ _ _ _ _ _ _ _ _ _ _ h => h.elim
def rIAddX : R2 := fun x y H Q => match x, y with
  | .int i, .int j => Q (.int (i + j)) H
  | .str i, .str j => i.length + j.length ≤ sizeLine ∧ Q (.str (i ++ j)) H
  | _, _ => False
theorem o_iadd : PIp X .Add rIAddX := by
  intro pins s σ H x y v u Q I rx ry h
  unfold rIAddX at h
  split at h
  · exact iop_add pins s σ H _ _ v u Q I rx ry ⟨_, _, rfl, rfl, h⟩
  · exact iop_add_str pins s σ H _ _ v u Q I rx ry ⟨_, _, rfl, rfl, h.1, h.2⟩
  · exact h.elim
theorem o_inadd : InOp X .Add rIAddX := fun pins s σ H x y u v Q I rx ry h => o_iadd pins s σ H x y u v Q I rx ry h
end
/-- C(..): as tMake, the new heap by what is known of it -/
def tMakeX (C : Addr) (sp : Sp) (dvs : List V) (E : XK) (t : TA) : TE := fun σ H Q => t σ H fun vs H1 => ∀ x dx H', H1 x = none → Ext [] H1 H' → H' x = some (.ins C dx []) →
  sp (.ref x :: (vs ++ dvs)) H' (fun v H2 => v = .non ∧ Q (.ref x) H2) E
theorem Ext.made {H : Hp} {x dx C : Addr} (h1 : H x = none) (h2 : H dx = none) : Ext [] H (upd (upd H dx (.own x)) x (.ins C dx [])) :=
  ⟨fun b o e _ => by rw [upd_ne (ne_of_none e h1), upd_ne (ne_of_none e h2)]; exact e, fun b o e _ => by rw [upd_ne (ne_of_none e h1), upd_ne (ne_of_none e h2)]; exact e⟩
section
variable {X : Cx} {CX : CXT} {k : Nat} {f C : Addr} {fd : FuncData} {ps : List Str} {sp : Sp} {dvs : List V} {ds : List Value} {E : XK} {x : Str} {p pos : Pos} {e : Expr} {es : List Expr} {t : TA}
theorem pe_makeX (M : Mk X.K C f) (F : FnOk X.prog X.w X.K X.mg X.base CX k f fd ps sp) (hr : Room (k + 1) X.A) (hg : Gl X x) (hm : X.mg x = some (.ref C)) (hb : Binds X.K fd ps ds) (hd : Vals dvs ds) (hx : Passes CX X E)
    (ha : PA X (e :: es) t) (hq : (x == ("__debug__" : Str)) = false := by decide) (he : starEach (e :: es) X.env = (false, eval e X.env) :: starEach es X.env := by rfl) (hl : (backTo pos (starEach es X.env)).any (·.1) = false := by rfl) :
    PE X (.Call (.Name x p) (e :: es) [] pos) (tMakeX C sp dvs E t) := by
  constructor
  intro pn st0 sl hp R J hh
  apply wpAny_Call_Name_kw
  apply ld_glob J hg hm (hd := hq)
  apply PySem.W.callWith_K (h₀ := X.base) J.ok.mod.kin M.kp _ he hl
  apply thn (ha.run pos pn st0 sl hp _ J hh)
  rintro us s1 ⟨vs, hp1, J1, rv, q⟩
  exact ⟨J1.kIn, run_make M F hr hb hd hx J1 rv fun x dx h1 h2 _ => q x dx _ h1 (Ext.made h1 h2) upd_same⟩
theorem pe_make0X (M : Mk X.K C f) (F : FnOk X.prog X.w X.K X.mg X.base CX k f fd ps sp) (hr : Room (k + 1) X.A) (hg : Gl X x) (hm : X.mg x = some (.ref C)) (hb : Binds X.K fd ps ds) (hd : Vals dvs ds) (hx : Passes CX X E)
    (hq : (x == ("__debug__" : Str)) = false := by decide) : PE X (.Call (.Name x p) [] [] pos) (tMakeX C sp dvs E tNil) := by
  constructor
  intro pn st0 sl hp R J hh
  apply wpAny_Call_Name_kw
  apply ld_glob J hg hm (hd := hq)
  exact PySem.W.callWith_K0 J.kIn M.kp (run_make (us := []) M F hr hb hd hx J .nil fun x dx h1 h2 _ => hh x dx _ h1 (Ext.made h1 h2) upd_same)
end
/-! ### steps of a reading -/
section
variable {K : PySem.W.Frag} {σ : St} {H : Hp} {Q : VK} {D : Ends} {t u : TS} {ta tb tc te : TE} {g : TG} {v : V}
theorem g_seq (h : t { D with nx := u D } σ H) : tSeq t u D σ H := h
theorem g_next (h : D.nx σ H) : tNext D σ H := h
theorem g_asg (h : te σ H fun x H1 => g x σ H1 D.nx) : tAsg te g D σ H := h
theorem g_name {i : Nat} {R : St → Hp → Prop} (h : R (σ.set i (some v)) H) : gName i v σ H R := h
theorem g_ret (h : te σ H D.rt) : tRet te D σ H := h
theorem g_retN (h : D.rt .non H) : tRetN D σ H := h
theorem g_drop (h : te σ H fun _ H1 => D.nx σ H1) : tDrop te D σ H := h
theorem g_brk (h : D.bk σ H) : tBreak D σ H := h
theorem g_cnt (h : D.ct σ H) : tCont D σ H := h
theorem g_ifS {c : TT} (h : c σ H fun b H1 => if b = true then t D σ H1 else u D σ H1) : tIfS c t u D σ H := h
theorem g_if {c : TT} (h : c σ H fun b H1 => if b = true then ta σ H1 Q else tb σ H1 Q) : tIf c ta tb σ H Q := h
theorem g_var {i : Nat} (e : σ[i]? = some (some v)) (h : Q v H) : tVar i σ H Q := ⟨v, e, h⟩
theorem g_C (h : Q v H) : tC v σ H Q := h
theorem g_op {r : R2} (h : ta σ H fun x H1 => tb σ H1 fun y H2 => r x y H2 Q) : tOp r ta tb σ H Q := h
theorem g_un {r : V → Hp → VK → Prop} (h : ta σ H fun x H1 => r x H1 Q) : tUn r ta σ H Q := h
theorem g_neg {i : Int} (h : Q (.int (-i)) H) : rU (fun i => .int (-i)) (.int i) H Q := ⟨_, rfl, h⟩
theorem g_rI {C : Int → Int → Prop} {f : Int → Int → V} {i j : Int} (c : C i j) (h : Q (f i j) H) : rI C f (.int i) (.int j) H Q := ⟨i, j, rfl, rfl, c, h⟩
theorem g_rI0 {f : Int → Int → V} {i j : Int} (h : Q (f i j) H) : rI0 f (.int i) (.int j) H Q := ⟨i, j, rfl, rfl, h⟩
theorem g_addI {i j : Int} (h : Q (.int (i + j)) H) : rAddX K (.int i) (.int j) H Q := h
theorem g_addS {i j : Str} (e : i.length + j.length ≤ sizeLine) (h : Q (.str (i ++ j)) H) : rAddX K (.str i) (.str j) H Q := ⟨e, h⟩
theorem g_mulI {i j : Int} (c : CMul i j) (h : Q (.int (i * j)) H) : rMulX (.int i) (.int j) H Q := ⟨c, h⟩
theorem g_iaddI {i j : Int} (h : Q (.int (i + j)) H) : rIAddX (.int i) (.int j) H Q := h
theorem g_divW {i j : Int} (h0 : 0 < j) (h1 : j < 2 ^ 64) (h : Q (.int (i / j)) H) : rI CDivW (fun i j => .int (i / j)) (.int i) (.int j) H Q :=
  ⟨i, j, rfl, rfl, wide_div (b := 64) h0 (by omega) (by decide) (by decide), h⟩
theorem g_mod {i j : Int} (h0 : 0 < j) (h : Q (.int (i % j)) H) : rI (fun _ j => 0 < j) (fun i j => .int (i % j)) (.int i) (.int j) H Q := ⟨i, j, rfl, rfl, h0, h⟩
theorem g_eq {x y : V} (e : scal x y = true) (h : Q (.bl (decide (x = y))) H) : rEqX K x y H Q := .inl ⟨e, h⟩
theorem g_ne {x y : V} (e : scal x y = true) (h : Q (.bl (!decide (x = y))) H) : rNeX K x y H Q := .inl ⟨e, h⟩
theorem g_isN {x : V} (h : Q (.bl (decide (x = .non))) H) : (fun x y H Q => y = V.non ∧ Q (.bl (decide (x = .non))) H : R2) x .non H Q := ⟨rfl, h⟩
theorem g_isN' {R : Prop} (h : R) : (V.non = V.non ∧ R) := ⟨rfl, h⟩
theorem g_test {t : TE} {R : Bool → Hp → Prop} (h : t σ H fun x H' => ∃ k, x = .bl k ∧ R k H') : tTest t σ H R := h
theorem g_bl {k : Bool} {R : Bool → Prop} (h : R k) : ∃ k', V.bl k = .bl k' ∧ R k' := ⟨k, rfl, h⟩
theorem g_tru {x : V} {k : Bool} {R : Bool → Prop} (e : TruV K x H k) (h : R k) : ∃ k', TruV K x H k' ∧ R k' := ⟨k, e, h⟩
theorem g_truB {b : Bool} : TruV K (.bl b) H b := rfl
theorem g_and {a b : TT} {R : Bool → Hp → Prop} (h : a σ H fun c H1 => if c = true then b σ H1 R else R false H1) : tAnd a b σ H R := h
theorem g_or {a b : TT} {R : Bool → Hp → Prop} (h : a σ H fun c H1 => if c = true then R true H1 else b σ H1 R) : tOr a b σ H R := h
theorem g_not {a : TT} {R : Bool → Hp → Prop} (h : a σ H fun c H1 => R (!c) H1) : tNot a σ H R := h
theorem g_chain {r r' : R2} (h : ta σ H fun x H1 => tb σ H1 fun y H2 => r x y H2 fun z H3 => ∃ k, z = .bl k ∧ (if k = true then tc σ H3 fun w' H4 => r' y w' H4 Q else Q (.bl false) H3)) : tChain r r' ta tb tc σ H Q := h
theorem g_nil {R : List V → Hp → Prop} (h : R [] H) : tNil σ H R := h
theorem g_cons {tr : TA} {R : List V → Hp → Prop} (h : te σ H fun x H1 => tr σ H1 fun xs H2 => R (x :: xs) H2) : tCons te tr σ H R := h
theorem g_CB {r : List V → Hp → VK → Prop} {ta : TA} (h : ta σ H fun vs H1 => r vs H1 Q) : tCB r ta σ H Q := h
theorem g_int1 {i : Int} (h : Q (.int i) H) : rInt1 [.int i] H Q := h
theorem g_int1b {k : Bool} (h : Q (.int (if k then 1 else 0)) H) : rInt1 [.bl k] H Q := h
theorem g_min2 {i j : Int} (h : Q (.int (min i j)) H) : rMin2 [.int i, .int j] H Q := h
theorem g_max2 {i j : Int} (h : Q (.int (max i j)) H) : rMax2 [.int i, .int j] H Q := h
theorem g_abs {i : Int} (h : Q (.int (i.natAbs : Int)) H) : rAbs [.int i] H Q := h
theorem g_new {n : Nat} {o : HO} {R : Addr → Hp → Prop} (e : n ≤ sizeLine) (h : NewO H o R) : n ≤ sizeLine ∧ NewO H o R := ⟨e, h⟩
theorem g_newO {o : HO} {R : Addr → Hp → Prop} (h : ∀ p H', H p = none → Ext [] H H' → H' p = some o → R p H') : NewO H o R := h
theorem g_tup {t : TA} (h : t σ H fun xs H1 => xs.length ≤ sizeLine ∧ NewO H1 (.tup xs) fun p H' => Q (.ref p) H') : tTupX t σ H Q := h
theorem g_lst {t : TA} (h : t σ H fun xs H1 => xs.length ≤ sizeLine ∧ NewO H1 (.lst xs) fun p H' => Q (.ref p) H') : tLstX t σ H Q := h
theorem g_ixL {p : Addr} {xs : List V} {i : Int} (e : SqL K H p xs) (a : atI xs i = some v) (h : Q v H) : rIx K (.ref p) (.int i) H Q := .inl ⟨p, xs, i, v, rfl, rfl, e, a, h⟩
theorem g_ixT {p : Addr} {xs : List V} {i : Int} (e : SqT K H p xs) (a : atI xs i = some v) (h : Q v H) : rIx K (.ref p) (.int i) H Q := .inr (.inl ⟨p, xs, i, v, rfl, rfl, e, a, h⟩)
theorem g_sub {to ti : TE} {s : TSet} {R : St → Hp → Prop} (h : to σ H fun o H1 => ti σ H1 fun i H2 => s o i v H2 fun H3 => R σ H3) : gSub to ti s v σ H R := h
theorem g_setL {p : Addr} {xs ys : List V} {k : Int} {j : Nat} {R : Hp → Prop} (e : H p = some (.lst xs)) (a : ixN xs.length k = some j) (l : xs.set j v = ys) (h : ∀ H', Ext [p] H H' → H' p = some (.lst ys) → R H') : rSetL (.ref p) (.int k) v H R :=
  ⟨p, xs, k, j, rfl, rfl, e, a, by rw [l]; exact h _ (Ext.wr e rfl) upd_same⟩
theorem g_ite {c : Bool} {A B : Prop} (h1 : c = true → A) (h2 : c = false → B) : if c = true then A else B := by
  cases c with
  | true => exact h1 rfl
  | false => exact h2 rfl
theorem g_iteDT {c : Bool} {A B : Prop} (e : c = true) (h : A) : if c = true then A else B := by rw [e]; exact h
theorem g_iteDF {c : Bool} {A B : Prop} (e : c = false) (h : B) : if c = true then A else B := by rw [e]; exact h
theorem g_iteIN {i : Int} {A B : Prop} (h : B) : if decide (V.int i = V.non) = true then A else B := by rw [decide_eq_false (by intro z; cases z)]; exact h
theorem g_iteRN {a : Addr} {A B : Prop} (h : B) : if decide (V.ref a = V.non) = true then A else B := by rw [decide_eq_false (by intro z; cases z)]; exact h
theorem g_iteSN {a : Str} {A B : Prop} (h : B) : if decide (V.str a = V.non) = true then A else B := by rw [decide_eq_false (by intro z; cases z)]; exact h
theorem g_iteNIN {i : Int} {A B : Prop} (h : A) : if (!decide (V.int i = V.non)) = true then A else B := by rw [decide_eq_false (by intro z; cases z)]; exact h
theorem g_iteNRN {i : Addr} {A B : Prop} (h : A) : if (!decide (V.ref i = V.non)) = true then A else B := by rw [decide_eq_false (by intro z; cases z)]; exact h
theorem g_iteT {A B : Prop} (h : A) : if true = true then A else B := h
theorem g_iteF {A B : Prop} (h : B) : if false = true then A else B := h
theorem g_fld {f : Str} (h : ta σ H fun x H1 => ∃ a C dx fs v, x = .ref a ∧ H1 a = some (.ins C dx fs) ∧ Cls K C ∧ NoAttr K C f ∧ fs.lookup f = some v ∧ Q v H1) : tFld K ta f σ H Q := h
theorem g_fld' {f : Str} {a C dx : Addr} {fs : List (Str × V)} (e : H a = some (.ins C dx fs)) (c : Cls K C) (n : NoAttr K C f) (l : fs.lookup f = some v) (h : Q v H) :
    ∃ a' C dx fs v, V.ref a = .ref a' ∧ H a' = some (.ins C dx fs) ∧ Cls K C ∧ NoAttr K C f ∧ fs.lookup f = some v ∧ Q v H := ⟨a, C, dx, fs, v, rfl, e, c, n, l, h⟩
theorem g_sfld {tv : TE} {f : Str} (h : tv σ H fun y H1 => ta σ H1 fun x H2 => ∃ a C dx fs, x = .ref a ∧ H2 a = some (.ins C dx fs) ∧ Cls K C ∧ NoAttr K C f ∧ fs.length < 1000 ∧ D.nx σ (upd H2 a (.ins C dx (putF f y fs)))) : sFld K ta tv f D σ H := h
theorem g_sfld' {f : Str} {a C dx : Addr} {fs fs' : List (Str × V)} {R : Hp → Prop} (e : H a = some (.ins C dx fs)) (c : Cls K C) (n : NoAttr K C f) (l : fs.length < 1000) (p : putF f v fs = fs') (h : ∀ H', Ext [a] H H' → H' a = some (.ins C dx fs') → R H') :
    ∃ a' C dx fs, V.ref a = .ref a' ∧ H a' = some (.ins C dx fs) ∧ Cls K C ∧ NoAttr K C f ∧ fs.length < 1000 ∧ R (upd H a' (.ins C dx (putF f v fs))) :=
  ⟨a, C, dx, fs, rfl, e, c, n, l, by rw [p]; exact h _ (Ext.wr e rfl) upd_same⟩
theorem g_sfa {tv : TE} {f : Str} {rd : V → V → Hp → VK → Prop} (h : ta σ H fun x H1 => ∃ a C dx fs v, x = .ref a ∧ H1 a = some (.ins C dx fs) ∧ Cls K C ∧ NoAttr K C f ∧ fs.lookup f = some v ∧
  tv σ H1 fun y H2 => rd v y H2 fun z H3 => ∃ dx' fs', H3 a = some (.ins C dx' fs') ∧ fs'.length < 1000 ∧ D.nx σ (upd H3 a (.ins C dx' (putF f z fs')))) : sFldAug K ta tv rd f D σ H := h
theorem g_sfa' {f : Str} {a C dx : Addr} {fs : List (Str × V)} {R : V → Addr → Addr → Hp → Prop} (e : H a = some (.ins C dx fs)) (c : Cls K C) (n : NoAttr K C f) (l : fs.lookup f = some v) (h : R v a C H) :
    ∃ a' C dx fs v, V.ref a = .ref a' ∧ H a' = some (.ins C dx fs) ∧ Cls K C ∧ NoAttr K C f ∧ fs.lookup f = some v ∧ R v a' C H := ⟨a, C, dx, fs, v, rfl, e, c, n, l, h⟩
theorem g_sfa'' {f : Str} {a C dx : Addr} {fs fs' : List (Str × V)} {R : Hp → Prop} (e : H a = some (.ins C dx fs)) (l : fs.length < 1000) (p : putF f v fs = fs') (h : ∀ H', Ext [a] H H' → H' a = some (.ins C dx fs') → R H') :
    ∃ dx' fs', H a = some (.ins C dx' fs') ∧ fs'.length < 1000 ∧ R (upd H a (.ins C dx' (putF f v fs'))) :=
  ⟨dx, fs, e, l, by rw [p]; exact h _ (Ext.wr e rfl) upd_same⟩
theorem g_call {sp : Sp} {dvs : List V} {E : XK} {t : TA} (h : t σ H fun vs H1 => sp (vs ++ dvs) H1 Q E) : tCall sp dvs E t σ H Q := h
theorem g_meth {C : Addr} {m : Str} {sp : Sp} {dvs : List V} {E : XK} {t : TA} (h : ta σ H fun x H1 => ∃ a dx fs, x = .ref a ∧ H1 a = some (.ins C dx fs) ∧ fs.lookup m = none ∧ t σ H1 fun vs H2 => sp (x :: (vs ++ dvs)) H2 Q E) : tMeth C m sp dvs E ta t σ H Q := h
theorem g_meth' {C a dx : Addr} {m : Str} {fs : List (Str × V)} {R : Hp → Prop} (e : H a = some (.ins C dx fs)) (l : fs.lookup m = none) (h : R H) : ∃ a' dx fs, V.ref a = .ref a' ∧ H a' = some (.ins C dx fs) ∧ fs.lookup m = none ∧ R H := ⟨a, dx, fs, rfl, e, l, h⟩
theorem g_make {C : Addr} {sp : Sp} {dvs : List V} {E : XK} {t : TA} (h : t σ H fun vs H1 => ∀ x dx H', H1 x = none → Ext [] H1 H' → H' x = some (.ins C dx []) → sp (.ref x :: (vs ++ dvs)) H' (fun v H2 => v = .non ∧ Q (.ref x) H2) E) : tMakeX C sp dvs E t σ H Q := h
theorem g_appd {te : TE} {t : TA} {r : V → List V → Hp → VK → Prop} {T : String} (h : te σ H fun x H1 => tyV K T x H1 ∧ t σ H1 fun xs H2 => r x xs H2 Q) : tBM K T r te t σ H Q := h
theorem g_bm0 {te : TE} {r : V → List V → Hp → VK → Prop} {T : String} (h : te σ H fun x H1 => tyV K T x H1 ∧ r x [] H1 Q) : tBM0 K T r te σ H Q := h
theorem g_tyL {a : Addr} {xs : List V} {R : Prop} (e : SqL K H a xs) (h : R) : tyV K "list" (.ref a) H ∧ R := ⟨.inl ⟨rfl, xs, e⟩, h⟩
theorem g_append {l : Addr} {xs : List V} {y : V} (e : H l = some (.lst xs)) (z : xs.length < sizeLine) (h : ∀ H', Ext [l] H H' → H' l = some (.lst (xs ++ [y])) → Q .non H') : rAppend (.ref l) [y] H Q :=
  ⟨l, xs, y, rfl, rfl, e, z, h _ (Ext.wr e rfl) upd_same⟩
theorem g_par {i j : Nat} {ta : TA} (h : ta σ H fun vs H1 => ∃ v w, vs = [v, w] ∧ D.nx ((σ.set i (some v)).set j (some w)) H1) : tPar i j ta D σ H := h
theorem g_par' {x y : V} {R : V → V → Prop} (h : R x y) : ∃ v w, [x, y] = [v, w] ∧ R v w := ⟨x, y, rfl, h⟩
theorem g_gtup {n : Nat} {tg : TGs} {a : Addr} {xs : List V} {R : St → Hp → Prop} (e : SqT K H a xs) (l : xs.length = n) (h : tg xs σ H R) : gTup K n tg (.ref a) σ H R := ⟨a, xs, rfl, e, l, h⟩
theorem g_gcons {t1 : TG} {tr : TGs} {x : V} {xs : List V} {R : St → Hp → Prop} (h : t1 x σ H fun σ' H' => tr xs σ' H' R) : gCons t1 tr (x :: xs) σ H R := ⟨x, xs, rfl, h⟩
theorem g_gnil {R : St → Hp → Prop} (h : R σ H) : gNil [] σ H R := ⟨rfl, h⟩
theorem g_aug {i : Nat} {ti : TIp} (e : σ[i]? = some (some v)) (h : te σ H fun y H1 => ti v y H1 fun z H2 => D.nx (σ.set i (some z)) H2) : tAug i te ti D σ H := ⟨v, e, h⟩
theorem g_listL {a : Addr} {xs : List V} (e : SqL K H a xs) (h : NewO H (.lst xs) fun p H' => Q (.ref p) H') : rListX K [.ref a] H Q := ⟨xs, .inl e, h⟩
theorem g_listT {a : Addr} {xs : List V} (e : SqT K H a xs) (h : NewO H (.lst xs) fun p H' => Q (.ref p) H') : rListX K [.ref a] H Q := ⟨xs, .inr e, h⟩
theorem g_tupL {a : Addr} {xs : List V} (e : SqL K H a xs) (h : NewO H (.tup xs) fun p H' => Q (.ref p) H') : rTupX K [.ref a] H Q := .inl ⟨xs, e, h⟩
theorem g_tupT {a : Addr} {xs : List V} (e : SqT K H a xs) (h : Q (.ref a) H) : rTupX K [.ref a] H Q := .inr ⟨xs, e, h⟩
theorem g_lenL {a : Addr} {xs : List V} (e : SqL K H a xs) (h : Q (.int xs.length) H) : rLenX K [.ref a] H Q := .inl ⟨xs, .inl e, h⟩
theorem g_lenT {a : Addr} {xs : List V} (e : SqT K H a xs) (h : Q (.int xs.length) H) : rLenX K [.ref a] H Q := .inl ⟨xs, .inr e, h⟩
theorem g_lenD {a : Addr} {kvs : List (Key × V)} (e : H a = some (.dK kvs)) (h : Q (.int kvs.length) H) : rLenX K [.ref a] H Q := .inr ⟨kvs, e, h⟩
theorem g_lenS {z : Str} (e : z.length ≤ sizeLine) (h : Q (.int z.length) H) : rLenX K [.str z] H Q := ⟨e, h⟩
theorem g_truL {a : Addr} {xs : List V} {R : Bool → Prop} (e : SqL K H a xs) (h : R (!xs.isEmpty)) : ∃ k, TruV K (.ref a) H k ∧ R k := ⟨_, .inl ⟨xs, e, rfl⟩, h⟩
theorem g_truT {a : Addr} {xs : List V} {R : Bool → Prop} (e : SqT K H a xs) (h : R (!xs.isEmpty)) : ∃ k, TruV K (.ref a) H k ∧ R k := ⟨_, .inr (.inl ⟨xs, e, rfl⟩), h⟩
theorem g_truD {a : Addr} {kvs : List (Key × V)} {R : Bool → Prop} (e : H a = some (.dK kvs)) (h : R (!kvs.isEmpty)) : ∃ k, TruV K (.ref a) H k ∧ R k := ⟨_, .inr (.inr ⟨kvs, e, rfl⟩), h⟩
theorem g_truBl {b : Bool} {R : Bool → Prop} (h : R b) : ∃ k, TruV K (.bl b) H k ∧ R k := ⟨b, rfl, h⟩
theorem g_truI {i : Int} {R : Bool → Prop} (h : R (i != 0)) : ∃ k, TruV K (.int i) H k ∧ R k := ⟨_, rfl, h⟩
theorem g_truN {R : Bool → Prop} (h : R false) : ∃ k, TruV K .non H k ∧ R k := ⟨_, rfl, h⟩
theorem g_for {wi : TI} {tb : TS} (h : wi σ H fun J H1 => ∃ W : Nat → Nat → St → Hp → Prop, (∃ m, W 0 m σ H1) ∧ ∀ i m σ H, W i m σ H →
  (J.stop i H ∧ D.nx σ H) ∨ (J.go i H ∧ ∃ N : St → Hp → Prop, (∀ σ' H', N σ' H' → ∃ m', m' < m ∧ W (i + 1) m' σ' H') ∧ ∀ x H', J.yld i H x H' → g x σ H' fun σ2 H2 => tb { D with nx := N, ct := N, bk := D.nx } σ2 H2)) : tFor wi g tb D σ H := h
theorem g_iList {tl : TE} {R : It → Hp → Prop} (h : tl σ H fun x H1 => ∃ a, x = .ref a ∧ (∃ xs, SqL K H1 a xs) ∧ R (Itl K a) H1) : iList K tl σ H R := h
theorem g_iTup {tl : TE} {R : It → Hp → Prop} (h : tl σ H fun x H1 => ∃ a, x = .ref a ∧ (∃ xs, SqT K H1 a xs) ∧ R (Itt K a) H1) : iTup K tl σ H R := h
theorem g_iR1 {t : TA} {R : It → Hp → Prop} (h : t σ H fun vs H1 => ∃ j : Int, vs = [.int j] ∧ -(2 ^ 62) ≤ j ∧ j < 2 ^ 62 ∧ R (Itr 0 j.toNat) H1) : iRng1 t σ H R := h
theorem g_iR2 {t : TA} {R : It → Hp → Prop} (h : t σ H fun vs H1 => ∃ i j : Int, vs = [.int i, .int j] ∧ (-(2 ^ 62) ≤ i ∧ i < 2 ^ 62 ∧ -(2 ^ 62) ≤ j ∧ j < 2 ^ 62) ∧ R (Itr i (j - i).toNat) H1) : iRng2 t σ H R := h
theorem g_forL {tb : TS} {a : Addr} (xs : List V) (e : SqL K H a xs) (Pv : Nat → St → Hp → Prop) (h0 : Pv 0 σ H) (hl : ∀ i σ H, i ≤ xs.length → Pv i σ H → SqL K H a xs)
    (hs : ∀ i x σ H, xs[i]? = some x → Pv i σ H → g x σ H fun σ2 H2 => tb { D with nx := Pv (i + 1), ct := Pv (i + 1), bk := D.nx } σ2 H2) (hd : ∀ σ H, Pv xs.length σ H → D.nx σ H) :
    ∃ a', V.ref a = .ref a' ∧ (∃ xs, SqL K H a' xs) ∧ ∃ W : Nat → Nat → St → Hp → Prop, (∃ m, W 0 m σ H) ∧ ∀ i m σ H, W i m σ H →
      ((Itl K a').stop i H ∧ D.nx σ H) ∨ ((Itl K a').go i H ∧ ∃ N : St → Hp → Prop, (∀ σ' H', N σ' H' → ∃ m', m' < m ∧ W (i + 1) m' σ' H') ∧ ∀ x H', (Itl K a').yld i H x H' → g x σ H' fun σ2 H2 => tb { D with nx := N, ct := N, bk := D.nx } σ2 H2) :=
  ⟨a, rfl, ⟨xs, e⟩, for_list Pv h0 hl hs hd⟩
theorem g_forT {tb : TS} {a : Addr} (xs : List V) (e : SqT K H a xs) (Pv : Nat → St → Hp → Prop) (h0 : Pv 0 σ H) (hl : ∀ i σ H, i ≤ xs.length → Pv i σ H → SqT K H a xs)
    (hs : ∀ i x σ H, xs[i]? = some x → Pv i σ H → g x σ H fun σ2 H2 => tb { D with nx := Pv (i + 1), ct := Pv (i + 1), bk := D.nx } σ2 H2) (hd : ∀ σ H, Pv xs.length σ H → D.nx σ H) :
    ∃ a', V.ref a = .ref a' ∧ (∃ xs, SqT K H a' xs) ∧ ∃ W : Nat → Nat → St → Hp → Prop, (∃ m, W 0 m σ H) ∧ ∀ i m σ H, W i m σ H →
      ((Itt K a').stop i H ∧ D.nx σ H) ∨ ((Itt K a').go i H ∧ ∃ N : St → Hp → Prop, (∀ σ' H', N σ' H' → ∃ m', m' < m ∧ W (i + 1) m' σ' H') ∧ ∀ x H', (Itt K a').yld i H x H' → g x σ H' fun σ2 H2 => tb { D with nx := N, ct := N, bk := D.nx } σ2 H2) :=
  ⟨a, rfl, ⟨xs, e⟩, for_tup Pv h0 hl hs hd⟩
theorem g_forR {tb : TS} {j : Int} (h1 : -(2 ^ 62) ≤ j ∧ j < 2 ^ 62) (Pv : Nat → St → Hp → Prop) (h0 : Pv 0 σ H)
    (hs : ∀ i σ H, i < j.toNat → Pv i σ H → g (.int ((0 : Int) + i)) σ H fun σ2 H2 => tb { D with nx := Pv (i + 1), ct := Pv (i + 1), bk := D.nx } σ2 H2) (hd : ∀ σ H, Pv j.toNat σ H → D.nx σ H) :
    ∃ j' : Int, [V.int j] = [.int j'] ∧ -(2 ^ 62) ≤ j' ∧ j' < 2 ^ 62 ∧ ∃ W : Nat → Nat → St → Hp → Prop, (∃ m, W 0 m σ H) ∧ ∀ i m σ H, W i m σ H →
      ((Itr 0 j'.toNat).stop i H ∧ D.nx σ H) ∨ ((Itr 0 j'.toNat).go i H ∧ ∃ N : St → Hp → Prop, (∀ σ' H', N σ' H' → ∃ m', m' < m ∧ W (i + 1) m' σ' H') ∧ ∀ x H', (Itr 0 j'.toNat).yld i H x H' → g x σ H' fun σ2 H2 => tb { D with nx := N, ct := N, bk := D.nx } σ2 H2) :=
  ⟨j, rfl, h1.1, h1.2, for_range Pv h0 hs hd⟩
theorem g_forR2 {tb : TS} {lo j : Int} (h1 : -(2 ^ 62) ≤ lo ∧ lo < 2 ^ 62 ∧ -(2 ^ 62) ≤ j ∧ j < 2 ^ 62) (Pv : Nat → St → Hp → Prop) (h0 : Pv 0 σ H)
    (hs : ∀ i σ H, i < (j - lo).toNat → Pv i σ H → g (.int (lo + i)) σ H fun σ2 H2 => tb { D with nx := Pv (i + 1), ct := Pv (i + 1), bk := D.nx } σ2 H2) (hd : ∀ σ H, Pv (j - lo).toNat σ H → D.nx σ H) :
    ∃ i' j' : Int, [V.int lo, V.int j] = [.int i', .int j'] ∧ (-(2 ^ 62) ≤ i' ∧ i' < 2 ^ 62 ∧ -(2 ^ 62) ≤ j' ∧ j' < 2 ^ 62) ∧ ∃ W : Nat → Nat → St → Hp → Prop, (∃ m, W 0 m σ H) ∧ ∀ i m σ H, W i m σ H →
      ((Itr i' (j' - i').toNat).stop i H ∧ D.nx σ H) ∨ ((Itr i' (j' - i').toNat).go i H ∧ ∃ N : St → Hp → Prop, (∀ σ' H', N σ' H' → ∃ m', m' < m ∧ W (i + 1) m' σ' H') ∧ ∀ x H', (Itr i' (j' - i').toNat).yld i H x H' → g x σ H' fun σ2 H2 => tb { D with nx := N, ct := N, bk := D.nx } σ2 H2) :=
  ⟨lo, j, rfl, h1, for_range Pv h0 hs hd⟩
end
theorem lk_hd {f : Str} {v : V} {r : List (Str × V)} : List.lookup f ((f, v) :: r) = some v := by simp [List.lookup]
theorem lk_tl {f g : Str} {v : V} {r : List (Str × V)} {o : Option V} (n : (f == g) = false) (h : List.lookup f r = o) : List.lookup f ((g, v) :: r) = o := by simp only [List.lookup, n]; exact h
theorem lk_nil {f : Str} : List.lookup f ([] : List (Str × V)) = none := rfl
theorem pf_nil {f : Str} {v : V} : putF f v [] = [(f, v)] := rfl
theorem pf_hd {f : Str} {v x : V} {r : List (Str × V)} : putF f v ((f, x) :: r) = (f, v) :: r := by simp [putF]
theorem pf_tl {f g : Str} {v x : V} {r r' : List (Str × V)} (n : (f == g) = false) (h : putF f v r = r') : putF f v ((g, x) :: r) = (g, x) :: r' := by
  have e : ¬ g = f := fun q => by rw [q, beq_self_eq_true] at n; cases n
  simp only [putF, if_neg e, h]
theorem ix_at {α : Type} {xs : List α} {i : Int} {v : α} (h : 0 ≤ i) (e : xs[i.toNat]? = some v) : atI xs i = some v := by
  have z : ((i.toNat : Nat) : Int) = i := Int.toNat_of_nonneg h
  rw [← z]; exact atI_nat e
theorem lt1000 {n : Nat} (h : Nat.blt n 1000 = true := by rfl) : n < 1000 := by
  have := Nat.le_of_ble_eq_true h
  omega
theorem leLine {n : Nat} (h : Nat.ble n 1000 = true := by rfl) : n ≤ sizeLine := Nat.le_trans (Nat.le_of_ble_eq_true h) (by decide)
/-! ### the stepping tactics, under names of our own -/
local macro_rules | `(tactic| walk_at "eo mem") => `(tactic| first | with_reducible exact List.mem_cons_self | ((with_reducible apply List.mem_cons_of_mem); walk_at "eo mem"))
local macro_rules | `(tactic| walk_at "eo lk") => `(tactic| first | with_reducible exact lk_hd | with_reducible exact lk_nil | ((with_reducible apply lk_tl); (decide +kernel); (walk_at "eo lk")))
local macro_rules | `(tactic| walk_at "eo pf") => `(tactic| first | with_reducible exact pf_hd | with_reducible exact pf_nil | ((with_reducible apply pf_tl); (decide +kernel); (walk_at "eo pf")))
local macro_rules | `(tactic| walk_at "eo fact") => `(tactic| first | with_reducible assumption | ((with_reducible apply Ext.keep); (with_reducible assumption); (walk_at "eo fact"); (walk_at "eo nin")))
local macro_rules | `(tactic| walk_at "eo nin") => `(tactic| first | with_reducible exact nin0 | ((with_reducible apply nin1); walk_at "eo ne") | ((with_reducible apply ninC); (walk_at "eo ne"); (walk_at "eo nin")) | with_reducible assumption)
local macro_rules | `(tactic| walk_at "eo ne") => `(tactic| first
  | with_reducible assumption
  | ((with_reducible apply Ne.symm); with_reducible assumption)
  | walk_at "eo ne2")
local macro_rules | `(tactic| walk_at "eo ne2") => `(tactic| first
  | ((with_reducible apply ne_of_none); rotate_left 1; (with_reducible assumption); (walk_at "eo fact"))
  | ((with_reducible apply Ne.symm); (with_reducible apply ne_of_none); rotate_left 1; (with_reducible assumption); (walk_at "eo fact"))
  | ((with_reducible apply ne_of); (with_reducible assumption); (walk_at "eo fact"); ((intro z; cases z)))
  | ((with_reducible apply Ne.symm); (with_reducible apply ne_of); (with_reducible assumption); (walk_at "eo fact"); ((intro z; cases z))))
local macro_rules | `(tactic| walk_at "eo sqT") => `(tactic| first | with_reducible assumption | ((with_reducible apply SqT.of); walk_at "eo fact") | ((with_reducible apply sqT_ext); (with_reducible assumption); (walk_at "eo sqT")))
local macro_rules | `(tactic| walk_at "eo sqL") => `(tactic| first | with_reducible assumption | ((with_reducible apply SqL.of); walk_at "eo fact") | ((with_reducible apply sqL_ext0); (with_reducible assumption); (walk_at "eo sqL")) | ((with_reducible apply sqL_ext); (with_reducible assumption); (walk_at "eo sqL"); (intro _ _; walk_at "eo nin")))
local macro_rules | `(tactic| walk_at "eo at") => `(tactic| first | rfl | assumption | (apply ix_at; (first | omega | assumption); (first | assumption | rfl)))
local macro_rules | `(tactic| walk_at "eo set") => `(tactic| first | ((try simp only [List.set_cons_succ, List.set_cons_zero, Int.reduceToNat, List.length_cons, List.length_nil]); first | done | rfl) | rfl)
local macro_rules | `(tactic| walk_at "eo ext") => `(tactic| first | with_reducible assumption | with_reducible exact Ext.refl _ | ((with_reducible apply Ext.snoc); (with_reducible assumption); (walk_at "eo ext"); (walk_at "eo sub")))
local macro_rules | `(tactic| walk_at "eo sub") => `(tactic| first | with_reducible exact sub0 | ((with_reducible apply sub1); (walk_at "eo mem")) | ((with_reducible apply sub1f); (walk_at "eo free")) | ((with_reducible apply subC); (walk_at "eo mem"); (walk_at "eo sub")) | ((with_reducible apply subCf); (walk_at "eo free"); (walk_at "eo sub")))
local macro_rules | `(tactic| walk_at "eo free") => `(tactic| first | with_reducible assumption | ((with_reducible apply Ext.free); (with_reducible assumption); (walk_at "eo free"); (walk_at "eo nin")))
local macro_rules | `(tactic| walk_at "eo arith") => `(tactic| first | decide | omega)
local macro_rules | `(tactic| walk_at "eo mul") => `(tactic| first | (refine CMul.left ?_; first | decide | (constructor <;> omega)) | (refine CMul.right ?_; first | decide | (constructor <;> omega)))
local macro_rules | `(tactic| walk_at "eo step") => `(tactic| first
  | with_reducible refine g_seq ?_
  | with_reducible refine g_asg ?_
  | with_reducible refine g_name ?_
  | with_reducible refine g_next ?_
  | with_reducible refine g_ret ?_
  | with_reducible refine g_retN ?_
  | with_reducible refine g_drop ?_
  | with_reducible refine g_ifS ?_
  | with_reducible refine g_if ?_
  | ((with_reducible apply g_var); (with_unfolding_all rfl))
  | with_reducible refine g_C ?_
  | with_reducible refine g_op ?_
  | with_reducible refine g_un ?_
  | with_reducible refine g_test ?_
  | with_reducible refine g_bl ?_
  | with_reducible refine g_and ?_
  | with_reducible refine g_or ?_
  | with_reducible refine g_not ?_
  | with_reducible refine g_chain ?_
  | with_reducible refine g_nil ?_
  | with_reducible refine g_cons ?_
  | with_reducible refine g_CB ?_
  | with_reducible refine g_tup ?_
  | with_reducible refine g_lst ?_
  | with_reducible refine g_addI ?_
  | with_reducible refine g_iaddI ?_
  | ((with_reducible apply g_divW); (walk_at "eo arith"); (walk_at "eo arith"))
  | ((with_reducible apply g_mod); (walk_at "eo arith"))
  | ((with_reducible apply g_mulI); (walk_at "eo mul"))
  | with_reducible refine g_rI0 ?_
  | with_reducible refine g_int1 ?_
  | with_reducible refine g_int1b ?_
  | with_reducible refine g_min2 ?_
  | with_reducible refine g_max2 ?_
  | with_reducible refine g_abs ?_
  | ((with_reducible apply g_eq); (rfl))
  | ((with_reducible apply g_ne); (rfl))
  | with_reducible refine g_isN' ?_
  | with_reducible refine g_neg ?_
  | ((with_reducible apply g_new); (exact leLine))
  | ((with_reducible refine g_newO ?_); intro _ _ _ _ _)
  | with_reducible refine g_sub ?_
  | ((with_reducible apply g_setL); (walk_at "eo fact"); (walk_at "eo at"); (walk_at "eo set"); intro _ _ _)
  | ((with_reducible apply g_ixL); (walk_at "eo sqL"); (walk_at "eo at"))
  | ((with_reducible apply g_ixT); (walk_at "eo sqT"); (walk_at "eo at"))
  | with_reducible refine g_fld ?_
  | ((with_reducible apply g_fld'); (walk_at "eo fact"); (with_reducible assumption); ((with_reducible apply na_of); (with_reducible assumption); (walk_at "eo mem")); (walk_at "eo lk"))
  | with_reducible refine g_sfld ?_
  | ((with_reducible apply g_sfld'); (walk_at "eo fact"); (with_reducible assumption); ((with_reducible apply na_of); (with_reducible assumption); (walk_at "eo mem")); (exact lt1000); (walk_at "eo pf"); intro _ _ _)
  | with_reducible refine g_sfa ?_
  | ((with_reducible apply g_sfa'); (walk_at "eo fact"); (with_reducible assumption); ((with_reducible apply na_of); (with_reducible assumption); (walk_at "eo mem")); (walk_at "eo lk"))
  | ((with_reducible apply g_sfa''); (walk_at "eo fact"); (exact lt1000); (walk_at "eo pf"); intro _ _ _)
  | with_reducible refine g_call ?_
  | with_reducible refine g_meth ?_
  | ((with_reducible apply g_meth'); (walk_at "eo fact"); (walk_at "eo lk"))
  | with_reducible refine g_make ?_
  | ((with_reducible apply g_listL); (walk_at "eo sqL"))
  | ((with_reducible apply g_listT); (walk_at "eo sqT"))
  | ((with_reducible apply g_tupL); (walk_at "eo sqL"))
  | ((with_reducible apply g_tupT); (walk_at "eo sqT"))
  | ((with_reducible apply g_lenL); (walk_at "eo sqL"))
  | ((with_reducible apply g_lenT); (walk_at "eo sqT"))
  | ((with_reducible apply g_lenD); (walk_at "eo fact"))
  | ((with_reducible apply g_truL); (walk_at "eo sqL"))
  | ((with_reducible apply g_truT); (walk_at "eo sqT"))
  | ((with_reducible apply g_truD); (walk_at "eo fact"))
  | with_reducible refine g_truBl ?_
  | with_reducible refine g_truI ?_
  | with_reducible refine g_truN ?_
  | with_reducible refine g_appd ?_
  | with_reducible refine g_bm0 ?_
  | ((with_reducible apply g_tyL); (walk_at "eo sqL"))
  | ((with_reducible apply g_append); (walk_at "eo fact"); (walk_at "eo arith"); intro _ _ _)
  | with_reducible refine g_par ?_
  | with_reducible refine g_par' ?_
  | with_reducible refine g_gcons ?_
  | with_reducible refine g_gnil ?_
  | ((with_reducible apply g_gtup); (walk_at "eo sqT"); (with_unfolding_all rfl))
  | ((with_reducible apply g_aug); (with_unfolding_all rfl))
  | with_reducible refine g_for ?_
  | with_reducible refine g_iList ?_
  | with_reducible refine g_iTup ?_
  | with_reducible refine g_iR1 ?_
  | with_reducible refine g_iR2 ?_
  | with_reducible refine g_iteT ?_
  | with_reducible refine g_iteF ?_
  | with_reducible refine g_iteIN ?_
  | with_reducible refine g_iteRN ?_
  | with_reducible refine g_iteSN ?_
  | with_reducible refine g_iteNIN ?_
  | with_reducible refine g_iteNRN ?_
  | ((with_reducible apply g_iteDT); (first | with_reducible assumption | decide))
  | ((with_reducible apply g_iteDF); (first | with_reducible assumption | decide))
  | with_reducible refine g_cnt ?_
  | with_reducible refine g_brk ?_)
local macro_rules | `(tactic| walk_at "eo go") => `(tactic| repeat (walk_at "eo step"))
local macro_rules | `(tactic| walk_at "eo init") => `(tactic| (dsimp only [cxOf, Cx.nox, Cx.wish, L2.start, List.map, List.length, List.replicate, List.cons_append, List.nil_append, Nat.reduceAdd, Nat.reduceSub]))
theorem dec_t {p : Prop} [Decidable p] (h : decide p = true) : p := of_decide_eq_true h
theorem dec_f {p : Prop} [Decidable p] (h : decide p = false) : ¬ p := of_decide_eq_false h
theorem vint {i j : Int} (h : V.int i = V.int j) : i = j := V.int.inj h
theorem mem_map_int {xs : List Int} {i : Nat} {x : V} (h : (xs.map V.int)[i]? = some x) : ∃ n, xs[i]? = some n ∧ x = .int n := by
  rw [List.getElem?_map] at h
  cases e : xs[i]? with
  | none => rw [e] at h; cases h
  | some n => rw [e] at h; exact ⟨n, rfl, (Option.some.inj h).symm⟩
def top (i : Nat) : Stmt := PySem.Challenge.pw_everyoctetonce_k10_pacing.main.body.getD i (.Pass ⟨0, 0, 0, 0⟩)
abbrev s_Waits_init : Stmt := inClass (top 4) 0
theorem sc_Waits_init : FnScope ["self"] ["self"] (defScope s_Waits_init) := ⟨rfl, rfl, rfl, by decide +kernel, rfl, by decide +kernel, by decide +kernel⟩
abbrev s_Waits_heard : Stmt := inClass (top 4) 1
theorem sc_Waits_heard : FnScope ["self", "ticks", "gap"] ["self", "ticks"] (defScope s_Waits_heard) := ⟨rfl, rfl, rfl, by decide +kernel, rfl, by decide +kernel, by decide +kernel⟩
abbrev s_Waits_moved : Stmt := inClass (top 4) 2
theorem sc_Waits_moved : FnScope ["self"] ["self"] (defScope s_Waits_moved) := ⟨rfl, rfl, rfl, by decide +kernel, rfl, by decide +kernel, by decide +kernel⟩
abbrev s_Waits_late : Stmt := inClass (top 4) 3
theorem sc_Waits_late : FnScope ["self"] ["self"] (defScope s_Waits_late) := ⟨rfl, rfl, rfl, by decide +kernel, rfl, by decide +kernel, by decide +kernel⟩
abbrev s_Waits_wait : Stmt := inClass (top 4) 4
theorem sc_Waits_wait : FnScope ["self", "plain"] ["self"] (defScope s_Waits_wait) := ⟨rfl, rfl, rfl, by decide +kernel, rfl, by decide +kernel, by decide +kernel⟩
abbrev s_Share_init : Stmt := inClass (top 5) 0
theorem sc_Share_init : FnScope ["self", "piece"] ["self", "piece"] (defScope s_Share_init) := ⟨rfl, rfl, rfl, by decide +kernel, rfl, by decide +kernel, by decide +kernel⟩
abbrev s_Share_moved : Stmt := inClass (top 5) 1
theorem sc_Share_moved : FnScope ["self", "many"] ["self", "many"] (defScope s_Share_moved) := ⟨rfl, rfl, rfl, by decide +kernel, rfl, by decide +kernel, by decide +kernel⟩
abbrev s_Share_late : Stmt := inClass (top 5) 2
theorem sc_Share_late : FnScope ["self", "flight"] ["self", "flight"] (defScope s_Share_late) := ⟨rfl, rfl, rfl, by decide +kernel, rfl, by decide +kernel, by decide +kernel⟩
abbrev s_Share_share : Stmt := inClass (top 5) 3
theorem sc_Share_share : FnScope ["self"] ["self"] (defScope s_Share_share) := ⟨rfl, rfl, rfl, by decide +kernel, rfl, by decide +kernel, by decide +kernel⟩
abbrev s_law_begin : Stmt := top 7
theorem sc_law_begin : FnScope ["script", "seed", "cell"] ["script"] (defScope s_law_begin) := ⟨rfl, rfl, rfl, by decide +kernel, rfl, by decide +kernel, by decide +kernel⟩
abbrev s_law_take : Stmt := top 8
theorem sc_law_take : FnScope ["d", "many", "small", "digit"] ["d", "many"] (defScope s_law_take) := ⟨rfl, rfl, rfl, by decide +kernel, rfl, by decide +kernel, by decide +kernel⟩
abbrev s_law_pick : Stmt := top 9
theorem sc_law_pick : FnScope ["d", "menu"] ["d", "menu"] (defScope s_law_pick) := ⟨rfl, rfl, rfl, by decide +kernel, rfl, by decide +kernel, by decide +kernel⟩
abbrev s_law : Stmt := top 10
theorem sc_law : FnScope ["script", "d", "waits", "mean", "spread", "factor", "piece", "share", "own", "border", "k", "menu", "ticks", "gap", "many", "flight", "due"] ["script"] (defScope s_law) := ⟨rfl, rfl, rfl, by decide +kernel, rfl, by decide +kernel, by decide +kernel⟩
structure Adr where
  f_Waits_init : Addr
  d_Waits_init : FuncData
  f_Waits_heard : Addr
  d_Waits_heard : FuncData
  f_Waits_moved : Addr
  d_Waits_moved : FuncData
  f_Waits_late : Addr
  d_Waits_late : FuncData
  f_Waits_wait : Addr
  d_Waits_wait : FuncData
  f_Share_init : Addr
  d_Share_init : FuncData
  f_Share_moved : Addr
  d_Share_moved : FuncData
  f_Share_late : Addr
  d_Share_late : FuncData
  f_Share_share : Addr
  d_Share_share : FuncData
  f_law_begin : Addr
  d_law_begin : FuncData
  f_law_take : Addr
  d_law_take : FuncData
  f_law_pick : Addr
  d_law_pick : FuncData
  f_law : Addr
  d_law : FuncData
  c_Waits : Addr
  c_Share : Addr
structure Txt (K : PySem.W.Frag) (mg : Str → Option Value) (A : Adr) : Prop where
  Waits_init : MF K "__init__" "Waits.__init__" s_Waits_init ["self"] A.c_Waits A.f_Waits_init A.d_Waits_init
  Waits_heard : MF K "heard" "Waits.heard" s_Waits_heard ["self", "ticks"] A.c_Waits A.f_Waits_heard A.d_Waits_heard
  Waits_moved : MF K "moved" "Waits.moved" s_Waits_moved ["self"] A.c_Waits A.f_Waits_moved A.d_Waits_moved
  Waits_late : MF K "late" "Waits.late" s_Waits_late ["self"] A.c_Waits A.f_Waits_late A.d_Waits_late
  Waits_wait : MF K "wait" "Waits.wait" s_Waits_wait ["self"] A.c_Waits A.f_Waits_wait A.d_Waits_wait
  Share_init : MF K "__init__" "Share.__init__" s_Share_init ["self", "piece"] A.c_Share A.f_Share_init A.d_Share_init
  Share_moved : MF K "moved" "Share.moved" s_Share_moved ["self", "many"] A.c_Share A.f_Share_moved A.d_Share_moved
  Share_late : MF K "late" "Share.late" s_Share_late ["self", "flight"] A.c_Share A.f_Share_late A.d_Share_late
  Share_share : MF K "share" "Share.share" s_Share_share ["self"] A.c_Share A.f_Share_share A.d_Share_share
  law_begin : GF K mg "_law_begin" s_law_begin ["script"] A.f_law_begin A.d_law_begin
  law_take : GF K mg "_law_take" s_law_take ["d", "many"] A.f_law_take A.d_law_take
  law_pick : GF K mg "_law_pick" s_law_pick ["d", "menu"] A.f_law_pick A.d_law_pick
  law : GF K mg "law" s_law ["script"] A.f_law A.d_law
  Waits : CF K mg "Waits" ["_mean", "_spread", "_factor"] A.c_Waits A.f_Waits_init
  Share : CF K mg "Share" ["_piece", "_share", "_border"] A.c_Share A.f_Share_init
  b_abs : mg "abs" = none
  b_min : mg "min" = none
  b_max : mg "max" = none
  b_int : mg "int" = none
  b_list : mg "list" = none
  b_len : mg "len" = none
  b_range : mg "range" = none
  g_MOST_WAIT : GV K mg "MOST_WAIT" (.int 96)
  g_FIRST_WAIT : GV K mg "FIRST_WAIT" (.int 24)
  g_LEAST_WAIT : GV K mg "LEAST_WAIT" (.int 8)
/-! ### the law's own draws -/
/-- d holds the script's ints (a list at s), a place, what is left of a number, a seed -/
def DSt (H : Hp) (d s : Addr) : Prop := d ≠ s ∧ ∃ (ns : List Int) (pos cur seed : Int), H d = some (.lst [.ref s, .int pos, .int cur, .int seed]) ∧ H s = some (.lst (ns.map V.int)) ∧ ns.length ≤ 63 ∧ 0 ≤ pos ∧ 0 ≤ cur
theorem DSt.ext {A : List Addr} {H H' : Hp} {d s : Addr} (e : Ext A H H') (h : DSt H d s) (n1 : d ∉ A) (n2 : s ∉ A) : DSt H' d s := by
  obtain ⟨ne, ns, pos, cur, seed, h1, h2, h3⟩ := h
  exact ⟨ne, ns, pos, cur, seed, e.keep _ _ h1 n1, e.keep _ _ h2 n2, h3⟩
def spBegin (K : PySem.W.Frag) : Sp := fun vs H Q _ => ∃ (a : Addr) (ns : List Int), vs = [.ref a] ∧ SqL K H a (ns.map V.int) ∧ ns.length ≤ 63 ∧ ∀ d s H', H d = none → H s = none → Ext [] H H' → DSt H' d s → Q (.ref d) H'
def spTake : Sp := fun vs H Q _ => ∃ (d s : Addr) (many : Int), vs = [.ref d, .int many] ∧ DSt H d s ∧ 0 < many ∧ many < 2 ^ 64 ∧ ∀ k H', 0 ≤ k → k < many → Ext [d] H H' → DSt H' d s → Q (.int k) H'
def spPick (K : PySem.W.Frag) : Sp := fun vs H Q _ => ∃ (d s m : Addr) (xs : List V), vs = [.ref d, .ref m] ∧ DSt H d s ∧ SqL K H m xs ∧ m ≠ d ∧ 0 < xs.length ∧ xs.length < 1000 ∧ ∀ v H', v ∈ xs → Ext [d] H H' → DSt H' d s → Q v H'
def spLaw (K : PySem.W.Frag) : Sp := fun vs H Q _ => ∃ (a : Addr) (ns : List Int), vs = [.ref a] ∧ SqL K H a (ns.map V.int) ∧ ns.length ≤ 63 ∧ ∀ H', Q (.bl true) H'
theorem ne_dst1 {H : Hp} {d s x : Addr} (n : H x = none) (h : DSt H d s) : d ≠ x := by
  obtain ⟨_, _, _, _, _, h1, _⟩ := h
  exact ne_of_none h1 n
theorem ne_dst2 {H : Hp} {d s x : Addr} (n : H x = none) (h : DSt H d s) : s ≠ x := by
  obtain ⟨_, _, _, _, _, _, h1, _⟩ := h
  exact ne_of_none h1 n
local macro_rules | `(tactic| walk_at "eo dst") => `(tactic| first | with_reducible assumption | ((with_reducible apply DSt.ext); (with_reducible assumption); (walk_at "eo dst"); (walk_at "eo nin"); (walk_at "eo nin")))
local macro_rules | `(tactic| walk_at "eo ne2") => `(tactic| first
  | ((with_reducible apply ne_dst1); (with_reducible assumption); (walk_at "eo dst"))
  | ((with_reducible apply ne_dst2); (with_reducible assumption); (walk_at "eo dst"))
  | ((with_reducible apply Ne.symm); (with_reducible apply ne_dst1); (with_reducible assumption); (walk_at "eo dst"))
  | ((with_reducible apply Ne.symm); (with_reducible apply ne_dst2); (with_reducible assumption); (walk_at "eo dst")))
/-! ### the objects -/
abbrev wf (m : V) (sp f : Int) : List (Str × V) := [("_mean", m), ("_spread", .int sp), ("_factor", .int f)]
abbrev sf (p o b : Int) : List (Str × V) := [("_piece", .int p), ("_share", .int o), ("_border", .int b)]
def NI (v : V) : Prop := v = .non ∨ ∃ i, v = .int i
def nm (v : V) (t : Int) : V := match v with
  | .int m => .int (m + (t - m / 8))
  | _ => .int (8 * t)
def nsp (v : V) (sp t : Int) : Int := match v with
  | .int m => sp + (((t - m / 8).natAbs : Int) - sp / 4)
  | _ => 2 * t
def due (v : V) (sp f : Int) : Int := min (max (match v with | .int m => m / 8 + max sp 1 | _ => 24) 8 * f) 96
def mvd (p m o b : Int) : Int := min (if o < b then o + min m p else o + max (p * p / o) 1) (64 * p)
def spWInit (C : Addr) : Sp := fun vs H Q _ => ∃ p dx, vs = [.ref p] ∧ H p = some (.ins C dx []) ∧ ∀ H', Ext [p] H H' → H' p = some (.ins C dx (wf .non 0 1)) → Q .non H'
def spHeard (C : Addr) : Sp := fun vs H Q _ => ∃ p dx m sp f t, vs = [.ref p, .int t] ∧ H p = some (.ins C dx (wf m sp f)) ∧ NI m ∧ ∀ H', Ext [p] H H' → H' p = some (.ins C dx (wf (nm m t) (nsp m sp t) 1)) → Q .non H'
def spMoved (C : Addr) : Sp := fun vs H Q _ => ∃ p dx m sp f, vs = [.ref p] ∧ H p = some (.ins C dx (wf m sp f)) ∧ ∀ H', Ext [p] H H' → H' p = some (.ins C dx (wf m sp 1)) → Q .non H'
def spLate (C : Addr) : Sp := fun vs H Q _ => ∃ p dx m sp f, vs = [.ref p] ∧ H p = some (.ins C dx (wf m sp f)) ∧ ∀ H', Ext [p] H H' → H' p = some (.ins C dx (wf m sp (min (2 * f) 96))) → Q .non H'
def spWait (C : Addr) : Sp := fun vs H Q _ => ∃ p dx m sp f, vs = [.ref p] ∧ H p = some (.ins C dx (wf m sp f)) ∧ NI m ∧ 1 ≤ f ∧ f ≤ 96 ∧ Q (.int (due m sp f)) H
def spSInit (C : Addr) : Sp := fun vs H Q _ => ∃ p dx n, vs = [.ref p, .int n] ∧ H p = some (.ins C dx []) ∧ ∀ H', Ext [p] H H' → H' p = some (.ins C dx (sf n (2 * n) (16 * n))) → Q .non H'
def spSMoved (C : Addr) : Sp := fun vs H Q _ => ∃ p dx n o b m, vs = [.ref p, .int m] ∧ H p = some (.ins C dx (sf n o b)) ∧ 0 < n ∧ n ≤ 100 ∧ 0 < o ∧ o ≤ 6400 ∧ ∀ H', Ext [p] H H' → H' p = some (.ins C dx (sf n (mvd n m o b) b)) → Q .non H'
def spSLate (C : Addr) : Sp := fun vs H Q _ => ∃ p dx n o b m, vs = [.ref p, .int m] ∧ H p = some (.ins C dx (sf n o b)) ∧ ∀ H', Ext [p] H H' → H' p = some (.ins C dx (sf n n (max (m / 2) (2 * n)))) → Q .non H'
def spShare (C : Addr) : Sp := fun vs H Q _ => ∃ p dx n o b, vs = [.ref p] ∧ H p = some (.ins C dx (sf n o b)) ∧ Q (.int o) H
section
variable {P : Program} {w : World} {K : PySem.W.Frag} {mg : Str → Option Value} {base : Heap}
theorem ok_law_begin {A : Adr} (T : Txt K mg A) : FnOk P w K mg base CX0 1 A.f_law_begin A.d_law_begin ["script"] (spBegin K) := by
  refine T.law_begin.F.ok sc_law_begin (fun vs H Q E h => ?_) (fun cdv Ar outer s H vs Q E hr h => ?_)
  · obtain ⟨a, ns, rfl, _⟩ := h
    rfl
  · obtain ⟨a, ns, rfl, hS, hlen, k⟩ := h
    refine ⟨_, (pss_cons (ps_set (i := 1) sc_law_begin.nd rfl (Or.inl rfl) pe_int)
      (pss_cons (ps_for PassesOwn.never rfl (pi_list (pv 0)) (pg_name (i := 2) sc_law_begin.nd rfl (Or.inl rfl)) (pss_one (ps_set (i := 1) sc_law_begin.nd rfl (Or.inl rfl) (pe_op op_mod (pe_op o_add (pe_op o_add (pe_op o_mul (pv 1) pe_int) (pe_op op_mod (pe_callTy o_int (by rfl) T.b_int (by decide +kernel) (pa_cons (pv 2) pa_nil)) pe_int)) pe_int) pe_int))))
      (pss_one (ps_ret (pe_lstX (pa_cons (pe_callTy o_list (by rfl) T.b_list (by decide +kernel) (pa_cons (pv 0) pa_nil)) (pa_cons pe_int (pa_cons pe_int (pa_cons (pv 1) pa_nil))))))))), ?_⟩
    walk_at "eo init"
    walk_at "eo go"
    refine g_forL (ns.map V.int) hS (fun i σ H' => ∃ (z : Int) (c : Option V), σ = [some (.ref a), some (.int z), c] ∧ H' = H) ⟨1, none, rfl, rfl⟩ (fun i σ H' _ ⟨_, _, _, e⟩ => by rw [e]; exact hS) ?_ ?_
    · rintro i x σ H' hi ⟨z, c, rfl, rfl⟩
      obtain ⟨n, _, rfl⟩ := mem_map_int hi
      walk_at "eo go"
      exact ⟨_, _, rfl, rfl⟩
    · rintro σ H' ⟨z, c, rfl, rfl⟩
      walk_at "eo go"
      rename_i s1 H1 hs1 e1 hl d1 H2 hd1 e2 hd
      have f1 : H2 s1 = some (.lst (ns.map V.int)) := by walk_at "eo fact"
      exact k d1 s1 H2 (by walk_at "eo free") hs1 (by walk_at "eo ext") ⟨(ne_of_none hl hd1).symm, ns, 0, 0, z, hd, f1, hlen, Int.le_refl _, Int.le_refl _⟩
theorem ok_law_take {A : Adr} (T : Txt K mg A) : FnOk P w K mg base CX0 1 A.f_law_take A.d_law_take ["d", "many"] spTake := by
  refine T.law_take.F.ok sc_law_take (fun vs H Q E h => ?_) (fun cdv Ar outer s H vs Q E hr h => ?_)
  · obtain ⟨d, s, many, rfl, _⟩ := h
    rfl
  · obtain ⟨d, s, many, rfl, ⟨ne, ns, pos, cur, seed, hd, hs, hlen, hp, hc⟩, hm, hm2, k⟩ := h
    refine ⟨_, (pss_cons (ps_if (PW.pt (pw_and (pt_cmpR (o_eq hr.units) (pe_ix ix_seq (pv 0) pe_int (fun _ _ => rfl)) pe_int (nomark _)) (pw_and1 (pt_cmpR op_lt (pe_ix ix_seq (pv 0) pe_int (fun _ _ => rfl)) (pe_callB o_len (by rfl) T.b_len (by decide +kernel) (pa_cons (pe_ix ix_seq (pv 0) pe_int (fun _ _ => rfl)) pa_nil)) (nomark _))))) (pss_cons (ps_asg (pe_callB o_abs (by rfl) T.b_abs (by decide +kernel) (pa_cons (pe_callTy o_int (by rfl) T.b_int (by decide +kernel) (pa_cons (pe_ix ix_seq (pe_ix ix_seq (pv 0) pe_int (fun _ _ => rfl)) (pe_ix ix_seq (pv 0) pe_int (fun _ _ => rfl)) (fun _ _ => rfl)) pa_nil)) pa_nil)) (pg_sub (pv 0) pe_int set_list))
      (pss_cons (ps_asg (pe_op o_add (pe_ix ix_seq (pv 0) pe_int (fun _ _ => rfl)) pe_int) (pg_sub (pv 0) pe_int set_list))
      (pss_one (ps_if (pt_chain op_lt op_lt pe_int (pe_ix ix_seq (pv 0) pe_int (fun _ _ => rfl)) (pv 1)) (pss_cons (ps_set (i := 2) sc_law_take.nd rfl (Or.inl rfl) (pe_ix ix_seq (pv 0) pe_int (fun _ _ => rfl)))
      (pss_cons (ps_asg pe_int (pg_sub (pv 0) pe_int set_list))
      (pss_one (ps_ret (pv 2))))) pss_nil)))) pss_nil)
      (pss_cons (ps_if (pt_cmpR op_gt (pe_ix ix_seq (pv 0) pe_int (fun _ _ => rfl)) pe_int (nomark _)) (pss_cons (ps_set (i := 3) sc_law_take.nd rfl (Or.inl rfl) (pe_op op_mod (pe_callTy o_int (by rfl) T.b_int (by decide +kernel) (pa_cons (pe_ix ix_seq (pv 0) pe_int (fun _ _ => rfl)) pa_nil)) (pv 1)))
      (pss_cons (ps_asg (pe_op op_fdivW (pe_callTy o_int (by rfl) T.b_int (by decide +kernel) (pa_cons (pe_ix ix_seq (pv 0) pe_int (fun _ _ => rfl)) pa_nil)) (pv 1)) (pg_sub (pv 0) pe_int set_list))
      (pss_one (ps_ret (pv 3))))) pss_nil)
      (pss_cons (ps_asg (pe_op op_mod (pe_callTy o_int (by rfl) T.b_int (by decide +kernel) (pa_cons (pe_op o_add (pe_op o_mul (pe_ix ix_seq (pv 0) pe_int (fun _ _ => rfl)) pe_int) pe_int) pa_nil)) pe_int) (pg_sub (pv 0) pe_int set_list))
      (pss_one (ps_ret (pe_op op_mod (pe_callTy o_int (by rfl) T.b_int (by decide +kernel) (pa_cons (pe_op op_fdivW (pe_ix ix_seq (pv 0) pe_int (fun _ _ => rfl)) pe_int) pa_nil)) (pv 1))))))), ?_⟩
    walk_at "eo init"
    have nsd : s ≠ d := ne.symm
    have leaf : ∀ (x : Int) (H1 : Hp) (pos cur seed : Int), Ext [d] H H1 → H1 d = some (.lst [.ref s, .int pos, .int cur, .int seed]) → 0 ≤ pos → 0 ≤ cur → Q (.int (x % many)) H1 := fun x H1 p c sd e h1 p1 p2 =>
      k _ _ (Int.emod_nonneg _ (by omega)) (Int.emod_lt_of_pos _ hm) e ⟨ne, ns, p, c, sd, h1, e.keep _ _ hs (nin1 nsd), hlen, p1, p2⟩
    walk_at "eo go"
    refine g_ite (fun h1 => ?_) (fun h1 => ?_)
    · have h1' := vint (dec_t h1)
      subst h1'
      walk_at "eo go"
      refine g_ite (fun h2 => ?_) (fun h2 => ?_)
      · have h2' := dec_t h2
        have hpl : pos.toNat < ns.length := by rw [List.length_map] at h2'; omega
        have ha : (ns.map V.int)[pos.toNat]? = some (.int ns[pos.toNat]) := by simp [hpl]
        walk_at "eo go"
        refine g_ite (fun h3 => ?_) (fun h3 => ?_)
        · walk_at "eo go"
          refine g_ite (fun h4 => ?_) (fun h4 => ?_)
          · have h4' := dec_t h4
            walk_at "eo go"
            rename_i e3 f3
            exact k _ _ (by omega) h4' (by walk_at "eo ext") ⟨ne, ns, _, _, _, f3, by walk_at "eo fact", hlen, by omega, by omega⟩
          · walk_at "eo go"
            rename_i H9 _ f9
            exact leaf _ _ _ _ _ (by walk_at "eo ext") f9 (by omega) (Int.ediv_nonneg (by omega) (Int.le_of_lt hm))
        · walk_at "eo go"
          rename_i H9 _ f9
          exact leaf _ _ _ _ _ (by walk_at "eo ext") f9 (by omega) (by omega)
      · walk_at "eo go"
        rename_i H9 _ f9
        exact leaf _ _ _ _ _ (by walk_at "eo ext") f9 hp hc
    · have h1' : ¬ cur = 0 := fun z => dec_f h1 (by rw [z])
      have h3 : decide (0 < cur) = true := decide_eq_true (by omega)
      walk_at "eo go"
      rename_i H9 _ f9
      exact leaf _ _ _ _ _ (by walk_at "eo ext") f9 hp (Int.ediv_nonneg hc (Int.le_of_lt hm))
theorem ok_law_pick {A : Adr} (T : Txt K mg A) : FnOk P w K mg base CX0 2 A.f_law_pick A.d_law_pick ["d", "menu"] (spPick K) := by
  refine T.law_pick.F.ok sc_law_pick (fun vs H Q E h => ?_) (fun cdv Ar outer s H vs Q E hr h => ?_)
  · obtain ⟨d, s, m, xs, rfl, _⟩ := h
    rfl
  · obtain ⟨d, s, m, xs, rfl, hD, hm, nmd, h0, h1, k⟩ := h
    refine ⟨_, (pss_one (ps_ret (pe_ix ix_seq (pv 1) (pe_call (ok_law_take T) (hr.mono (by decide)) (by rfl) T.law_take.mg T.law_take.kp T.law_take.b .nil pass0 (pa_cons (pv 0) (pa_cons (pe_callB o_len (by rfl) T.b_len (by decide +kernel) (pa_cons (pv 1) pa_nil)) pa_nil))) (fun _ _ => rfl)))), ?_⟩
    walk_at "eo init"
    walk_at "eo go"
    refine ⟨d, s, _, rfl, hD, by omega, by omega, fun i H' i0 i1 e D' => ?_⟩
    have hi : i.toNat < xs.length := by omega
    have ha : xs[i.toNat]? = some xs[i.toNat] := by simp [hi]
    have hm' : SqL K H' m xs := sqL_ext e hm fun _ _ => nin1 nmd
    walk_at "eo go"
    exact k _ _ (List.getElem_mem hi) e D'
theorem ok_Waits_init {A : Adr} (T : Txt K mg A) : FnOk P w K mg base CX0 1 A.f_Waits_init A.d_Waits_init ["self"] (spWInit A.c_Waits) := by
  have c1 := T.Waits.cl
  have c2 := T.Waits.na
  refine T.Waits_init.F.ok sc_Waits_init (fun vs H Q E h => ?_) (fun cdv Ar outer s H vs Q E hr h => ?_)
  · obtain ⟨p, dx, rfl, _⟩ := h
    rfl
  · obtain ⟨p, dx, rfl, hp, k⟩ := h
    refine ⟨_, (pss_cons (ps_fld (pv 0) pe_non rfl)
      (pss_cons (ps_fld (pv 0) pe_int rfl)
      (pss_one (ps_fld (pv 0) pe_int rfl)))), ?_⟩
    walk_at "eo init"
    walk_at "eo go"
    rename_i h9
    exact k _ (by walk_at "eo ext") h9
theorem ok_Waits_heard {A : Adr} (T : Txt K mg A) : FnOk P w K mg base CX0 1 A.f_Waits_heard A.d_Waits_heard ["self", "ticks"] (spHeard A.c_Waits) := by
  have c1 := T.Waits.cl
  have c2 := T.Waits.na
  refine T.Waits_heard.F.ok sc_Waits_heard (fun vs H Q E h => ?_) (fun cdv Ar outer s H vs Q E hr h => ?_)
  · obtain ⟨p, dx, m, sp, f, t, rfl, _⟩ := h
    rfl
  · obtain ⟨p, dx, m, sp, f, t, rfl, hp, hm, k⟩ := h
    refine ⟨_, (pss_cons (ps_fld (pv 0) pe_int rfl)
      (pss_cons (ps_if (pt_cmpR op_isN (pe_fld (pv 0) rfl) pe_non (nomark _)) (pss_cons (ps_fld (pv 0) (pe_op o_mul pe_int (pv 1)) rfl)
      (pss_cons (ps_fld (pv 0) (pe_op o_mul pe_int (pv 1)) rfl)
      (pss_one ps_retN))) pss_nil)
      (pss_cons (ps_set (i := 2) sc_Waits_heard.nd rfl (Or.inl rfl) (pe_op op_sub (pv 1) (pe_op op_fdivW (pe_fld (pv 0) rfl) pe_int)))
      (pss_cons (ps_fldaug (pv 0) (pv 2) o_inadd)
      (pss_one (ps_fldaug (pv 0) (pe_op op_sub (pe_callB o_abs (by rfl) T.b_abs (by decide +kernel) (pa_cons (pv 2) pa_nil)) (pe_op op_fdivW (pe_fld (pv 0) rfl) pe_int)) o_inadd)))))), ?_⟩
    walk_at "eo init"
    rcases hm with rfl | ⟨i, rfl⟩
    · walk_at "eo go"
      rename_i h9
      exact k _ (by walk_at "eo ext") h9
    · walk_at "eo go"
      rename_i h9
      exact k _ (by walk_at "eo ext") h9
theorem ok_Waits_moved {A : Adr} (T : Txt K mg A) : FnOk P w K mg base CX0 1 A.f_Waits_moved A.d_Waits_moved ["self"] (spMoved A.c_Waits) := by
  have c1 := T.Waits.cl
  have c2 := T.Waits.na
  refine T.Waits_moved.F.ok sc_Waits_moved (fun vs H Q E h => ?_) (fun cdv Ar outer s H vs Q E hr h => ?_)
  · obtain ⟨p, dx, m, sp, f, rfl, _⟩ := h
    rfl
  · obtain ⟨p, dx, m, sp, f, rfl, hp, k⟩ := h
    refine ⟨_, (pss_one (ps_fld (pv 0) pe_int rfl)), ?_⟩
    walk_at "eo init"
    walk_at "eo go"
    rename_i h9
    exact k _ (by walk_at "eo ext") h9
theorem ok_Waits_late {A : Adr} (T : Txt K mg A) : FnOk P w K mg base CX0 1 A.f_Waits_late A.d_Waits_late ["self"] (spLate A.c_Waits) := by
  have c1 := T.Waits.cl
  have c2 := T.Waits.na
  refine T.Waits_late.F.ok sc_Waits_late (fun vs H Q E h => ?_) (fun cdv Ar outer s H vs Q E hr h => ?_)
  · obtain ⟨p, dx, m, sp, f, rfl, _⟩ := h
    rfl
  · obtain ⟨p, dx, m, sp, f, rfl, hp, k⟩ := h
    refine ⟨_, (pss_one (ps_fld (pv 0) (pe_callB (o_min rfl) (by rfl) T.b_min (by decide +kernel) (pa_cons (pe_op o_mul pe_int (pe_fld (pv 0) rfl)) (pa_cons (pe_g rfl T.g_MOST_WAIT) pa_nil))) rfl)), ?_⟩
    walk_at "eo init"
    walk_at "eo go"
    rename_i h9
    exact k _ (by walk_at "eo ext") h9
theorem ok_Waits_wait {A : Adr} (T : Txt K mg A) : FnOk P w K mg base CX0 1 A.f_Waits_wait A.d_Waits_wait ["self"] (spWait A.c_Waits) := by
  have c1 := T.Waits.cl
  have c2 := T.Waits.na
  refine T.Waits_wait.F.ok sc_Waits_wait (fun vs H Q E h => ?_) (fun cdv Ar outer s H vs Q E hr h => ?_)
  · obtain ⟨p, dx, m, sp, f, rfl, _⟩ := h
    rfl
  · obtain ⟨p, dx, m, sp, f, rfl, hp, hm, f1, f2, k⟩ := h
    refine ⟨_, (pss_cons (ps_set (i := 1) sc_Waits_wait.nd rfl (Or.inl rfl) (pe_ifExp (pt_cmpR op_isN (pe_fld (pv 0) rfl) pe_non (nomark _)) (pe_g rfl T.g_FIRST_WAIT) (pe_op o_add (pe_op op_fdivW (pe_fld (pv 0) rfl) pe_int) (pe_callB (o_max rfl) (by rfl) T.b_max (by decide +kernel) (pa_cons (pe_fld (pv 0) rfl) (pa_cons pe_int pa_nil))))))
      (pss_one (ps_ret (pe_callB (o_min rfl) (by rfl) T.b_min (by decide +kernel) (pa_cons (pe_op o_mul (pe_callB (o_max rfl) (by rfl) T.b_max (by decide +kernel) (pa_cons (pv 1) (pa_cons (pe_g rfl T.g_LEAST_WAIT) pa_nil))) (pe_fld (pv 0) rfl)) (pa_cons (pe_g rfl T.g_MOST_WAIT) pa_nil)))))), ?_⟩
    walk_at "eo init"
    rcases hm with rfl | ⟨i, rfl⟩
    · walk_at "eo go"
      exact k
    · walk_at "eo go"
      exact k
theorem ok_Share_init {A : Adr} (T : Txt K mg A) : FnOk P w K mg base CX0 1 A.f_Share_init A.d_Share_init ["self", "piece"] (spSInit A.c_Share) := by
  have c1 := T.Share.cl
  have c2 := T.Share.na
  refine T.Share_init.F.ok sc_Share_init (fun vs H Q E h => ?_) (fun cdv Ar outer s H vs Q E hr h => ?_)
  · obtain ⟨p, dx, n, rfl, _⟩ := h
    rfl
  · obtain ⟨p, dx, n, rfl, hp, k⟩ := h
    refine ⟨_, (pss_cons (ps_fld (pv 0) (pv 1) rfl)
      (pss_cons (ps_fld (pv 0) (pe_op o_mul pe_int (pv 1)) rfl)
      (pss_one (ps_fld (pv 0) (pe_op o_mul pe_int (pv 1)) rfl)))), ?_⟩
    walk_at "eo init"
    walk_at "eo go"
    rename_i h9
    exact k _ (by walk_at "eo ext") h9
theorem ok_Share_moved {A : Adr} (T : Txt K mg A) : FnOk P w K mg base CX0 1 A.f_Share_moved A.d_Share_moved ["self", "many"] (spSMoved A.c_Share) := by
  have c1 := T.Share.cl
  have c2 := T.Share.na
  refine T.Share_moved.F.ok sc_Share_moved (fun vs H Q E h => ?_) (fun cdv Ar outer s H vs Q E hr h => ?_)
  · obtain ⟨p, dx, n, o, b, m, rfl, _⟩ := h
    rfl
  · obtain ⟨p, dx, n, o, b, m, rfl, hp, n0, n1, o0, o1, k⟩ := h
    refine ⟨_, (pss_cons (ps_if (pt_cmpR op_lt (pe_fld (pv 0) rfl) (pe_fld (pv 0) rfl) (nomark _)) (pss_one (ps_fldaug (pv 0) (pe_callB (o_min rfl) (by rfl) T.b_min (by decide +kernel) (pa_cons (pv 1) (pa_cons (pe_fld (pv 0) rfl) pa_nil))) o_inadd)) (pss_one (ps_fldaug (pv 0) (pe_callB (o_max rfl) (by rfl) T.b_max (by decide +kernel) (pa_cons (pe_op op_fdivW (pe_op o_mul (pe_fld (pv 0) rfl) (pe_fld (pv 0) rfl)) (pe_fld (pv 0) rfl)) (pa_cons pe_int pa_nil))) o_inadd)))
      (pss_one (ps_fld (pv 0) (pe_callB (o_min rfl) (by rfl) T.b_min (by decide +kernel) (pa_cons (pe_fld (pv 0) rfl) (pa_cons (pe_op o_mul pe_int (pe_fld (pv 0) rfl)) pa_nil))) rfl))), ?_⟩
    walk_at "eo init"
    walk_at "eo go"
    refine g_ite (fun h1 => ?_) (fun h1 => ?_)
    · walk_at "eo go"
      rename_i h9
      refine k _ (by walk_at "eo ext") ?_
      unfold mvd
      rw [if_pos (dec_t h1)]
      exact h9
    · walk_at "eo go"
      rename_i h9
      refine k _ (by walk_at "eo ext") ?_
      unfold mvd
      rw [if_neg (dec_f h1)]
      exact h9
theorem ok_Share_late {A : Adr} (T : Txt K mg A) : FnOk P w K mg base CX0 1 A.f_Share_late A.d_Share_late ["self", "flight"] (spSLate A.c_Share) := by
  have c1 := T.Share.cl
  have c2 := T.Share.na
  refine T.Share_late.F.ok sc_Share_late (fun vs H Q E h => ?_) (fun cdv Ar outer s H vs Q E hr h => ?_)
  · obtain ⟨p, dx, n, o, b, m, rfl, _⟩ := h
    rfl
  · obtain ⟨p, dx, n, o, b, m, rfl, hp, k⟩ := h
    refine ⟨_, (pss_cons (ps_fld (pv 0) (pe_callB (o_max rfl) (by rfl) T.b_max (by decide +kernel) (pa_cons (pe_op op_fdivW (pv 1) pe_int) (pa_cons (pe_op o_mul pe_int (pe_fld (pv 0) rfl)) pa_nil))) rfl)
      (pss_one (ps_fld (pv 0) (pe_fld (pv 0) rfl) rfl))), ?_⟩
    walk_at "eo init"
    walk_at "eo go"
    rename_i h9
    exact k _ (by walk_at "eo ext") h9
theorem ok_Share_share {A : Adr} (T : Txt K mg A) : FnOk P w K mg base CX0 1 A.f_Share_share A.d_Share_share ["self"] (spShare A.c_Share) := by
  have c1 := T.Share.cl
  have c2 := T.Share.na
  refine T.Share_share.F.ok sc_Share_share (fun vs H Q E h => ?_) (fun cdv Ar outer s H vs Q E hr h => ?_)
  · obtain ⟨p, dx, n, o, b, rfl, _⟩ := h
    rfl
  · obtain ⟨p, dx, n, o, b, rfl, hp, k⟩ := h
    refine ⟨_, (pss_one (ps_ret (pe_fld (pv 0) rfl))), ?_⟩
    walk_at "eo init"
    walk_at "eo go"
    exact k
theorem ok_law {A : Adr} (T : Txt K mg A) : FnOk P w K mg base CX0 3 A.f_law A.d_law ["script"] (spLaw K) := by
  have c1 := T.Share.cl
  have c2 := T.Share.na
  have c3 := T.Waits.cl
  have c4 := T.Waits.na
  refine T.law.F.ok sc_law (fun vs H Q E h => ?_) (fun cdv Ar outer s H vs Q E hr h => ?_)
  · obtain ⟨a, ns, rfl, _⟩ := h
    rfl
  · obtain ⟨a, ns, rfl, hS, hlen, k⟩ := h
    refine ⟨_, (pss_cons (ps_set (i := 1) sc_law.nd rfl (Or.inl rfl) (pe_call (ok_law_begin T) (hr.mono (by decide)) (by rfl) T.law_begin.mg T.law_begin.kp T.law_begin.b .nil pass0 (pa_cons (pv 0) pa_nil)))
      (pss_cons (ps_set (i := 2) sc_law.nd rfl (Or.inl rfl) (pe_make0X T.Waits.make (ok_Waits_init T) (hr.mono (by decide)) (by rfl) T.Waits.mg T.Waits_init.b .nil pass0))
      (pss_cons (ps_asg (pe_tupX (pa_cons pe_non (pa_cons pe_int (pa_cons pe_int pa_nil)))) (pg_tup (n := 3) rfl (pgs_cons (pg_name (i := 3) sc_law.nd rfl (Or.inl rfl)) (pgs_cons (pg_name (i := 4) sc_law.nd rfl (Or.inl rfl)) (pgs_cons (pg_name (i := 5) sc_law.nd rfl (Or.inl rfl)) pgs_nil)))))
      (pss_cons (ps_set (i := 6) sc_law.nd rfl (Or.inl rfl) (pe_call (ok_law_pick T) (hr.mono (by decide)) (by rfl) T.law_pick.mg T.law_pick.kp T.law_pick.b .nil pass0 (pa_cons (pv 1) (pa_cons (pe_lstX (pa_cons pe_int (pa_cons pe_int (pa_cons pe_int (pa_cons pe_int pa_nil))))) pa_nil))))
      (pss_cons (ps_set (i := 7) sc_law.nd rfl (Or.inl rfl) (pe_makeX T.Share.make (ok_Share_init T) (hr.mono (by decide)) (by rfl) T.Share.mg T.Share_init.b .nil pass0 (pa_cons (pv 6) pa_nil)))
      (pss_cons (ps_par (i := 8) (j := 9) rfl sc_law.nd rfl rfl (by decide) rfl rfl (pa_cons (pe_op o_mul pe_int (pv 6)) (pa_cons (pe_op o_mul pe_int (pv 6)) pa_nil)) rfl)
      (pss_cons (ps_for PassesOwn.never rfl (pi_range1 (by rfl) T.b_range (pa_cons (pe_call (ok_law_take T) (hr.mono (by decide)) (by rfl) T.law_take.mg T.law_take.kp T.law_take.b .nil pass0 (pa_cons (pv 1) (pa_cons pe_int pa_nil))) pa_nil)) (pg_name (i := 10) sc_law.nd rfl (Or.inl rfl)) (pss_cons (ps_set (i := 11) sc_law.nd rfl (Or.inl rfl) (pe_call (ok_law_take T) (hr.mono (by decide)) (by rfl) T.law_take.mg T.law_take.kp T.law_take.b .nil pass0 (pa_cons (pv 1) (pa_cons pe_int pa_nil))))
      (pss_join (ps_if (pt_cmpR (o_eq hr.units) (pv 11) pe_int (nomark _)) (pss_cons (ps_set (i := 12) sc_law.nd rfl (Or.inl rfl) (pe_call (ok_law_take T) (hr.mono (by decide)) (by rfl) T.law_take.mg T.law_take.kp T.law_take.b .nil pass0 (pa_cons (pv 1) (pa_cons pe_int pa_nil))))
      (pss_cons (ps_expr (pe_meth (pv 2) T.Waits.cl T.Waits_heard.me (ok_Waits_heard T) (hr.mono (by decide)) T.Waits_heard.b .nil pass0 (pa_cons (pv 12) pa_nil)))
      (pss_cons (ps_set (i := 5) sc_law.nd rfl (Or.inl rfl) pe_int)
      (pss_one (ps_if (pt_cmpR op_isN (pv 3) pe_non (nomark _)) (pss_one (ps_par (i := 3) (j := 4) rfl sc_law.nd rfl rfl (by decide) rfl rfl (pa_cons (pe_op o_mul pe_int (pv 12)) (pa_cons (pe_op o_mul pe_int (pv 12)) pa_nil)) rfl)) (pss_cons (ps_set (i := 13) sc_law.nd rfl (Or.inl rfl) (pe_op op_sub (pv 12) (pe_op op_fdivW (pv 3) pe_int)))
      (pss_cons (ps_set (i := 3) sc_law.nd rfl (Or.inl rfl) (pe_op o_add (pv 3) (pv 13)))
      (pss_one (ps_set (i := 4) sc_law.nd rfl (Or.inl rfl) (pe_op op_sub (pe_op o_add (pv 4) (pe_callB o_abs (by rfl) T.b_abs (by decide +kernel) (pa_cons (pv 13) pa_nil))) (pe_op op_fdivW (pv 4) pe_int))))))))))) (pss_one (ps_if (pt_cmpR (o_eq hr.units) (pv 11) pe_int (nomark _)) (pss_cons (ps_expr (pe_meth0 (pv 2) T.Waits.cl T.Waits_moved.me (ok_Waits_moved T) (hr.mono (by decide)) T.Waits_moved.b .nil pass0))
      (pss_one (ps_set (i := 5) sc_law.nd rfl (Or.inl rfl) pe_int))) (pss_one (ps_if (pt_cmpR (o_eq hr.units) (pv 11) pe_int (nomark _)) (pss_cons (ps_expr (pe_meth0 (pv 2) T.Waits.cl T.Waits_late.me (ok_Waits_late T) (hr.mono (by decide)) T.Waits_late.b .nil pass0))
      (pss_one (ps_set (i := 5) sc_law.nd rfl (Or.inl rfl) (pe_callB (o_min rfl) (by rfl) T.b_min (by decide +kernel) (pa_cons (pe_op o_mul pe_int (pv 5)) (pa_cons pe_int pa_nil)))))) (pss_one (ps_if (pt_cmpR (o_eq hr.units) (pv 11) pe_int (nomark _)) (pss_cons (ps_set (i := 14) sc_law.nd rfl (Or.inl rfl) (pe_op o_add pe_int (pe_call (ok_law_take T) (hr.mono (by decide)) (by rfl) T.law_take.mg T.law_take.kp T.law_take.b .nil pass0 (pa_cons (pv 1) (pa_cons (pe_op o_mul pe_int (pv 6)) pa_nil)))))
      (pss_cons (ps_expr (pe_meth (pv 7) T.Share.cl T.Share_moved.me (ok_Share_moved T) (hr.mono (by decide)) T.Share_moved.b .nil pass0 (pa_cons (pv 14) pa_nil)))
      (pss_cons (ps_if (pt_cmpR op_lt (pv 8) (pv 9) (nomark _)) (pss_one (ps_set (i := 8) sc_law.nd rfl (Or.inl rfl) (pe_op o_add (pv 8) (pe_callB (o_min rfl) (by rfl) T.b_min (by decide +kernel) (pa_cons (pv 14) (pa_cons (pv 6) pa_nil)))))) (pss_one (ps_set (i := 8) sc_law.nd rfl (Or.inl rfl) (pe_op o_add (pv 8) (pe_callB (o_max rfl) (by rfl) T.b_max (by decide +kernel) (pa_cons (pe_op op_fdivW (pe_op o_mul (pv 6) (pv 6)) (pv 8)) (pa_cons pe_int pa_nil)))))))
      (pss_one (ps_set (i := 8) sc_law.nd rfl (Or.inl rfl) (pe_callB (o_min rfl) (by rfl) T.b_min (by decide +kernel) (pa_cons (pv 8) (pa_cons (pe_op o_mul pe_int (pv 6)) pa_nil)))))))) (pss_cons (ps_set (i := 15) sc_law.nd rfl (Or.inl rfl) (pe_call (ok_law_take T) (hr.mono (by decide)) (by rfl) T.law_take.mg T.law_take.kp T.law_take.b .nil pass0 (pa_cons (pv 1) (pa_cons (pe_op o_mul pe_int (pv 6)) pa_nil))))
      (pss_cons (ps_expr (pe_meth (pv 7) T.Share.cl T.Share_late.me (ok_Share_late T) (hr.mono (by decide)) T.Share_late.b .nil pass0 (pa_cons (pv 15) pa_nil)))
      (pss_cons (ps_set (i := 9) sc_law.nd rfl (Or.inl rfl) (pe_callB (o_max rfl) (by rfl) T.b_max (by decide +kernel) (pa_cons (pe_op op_fdivW (pv 15) pe_int) (pa_cons (pe_op o_mul pe_int (pv 6)) pa_nil))))
      (pss_one (ps_set (i := 8) sc_law.nd rfl (Or.inl rfl) (pv 6)))))))))))))
      (pss_cons (ps_set (i := 16) sc_law.nd rfl (Or.inl rfl) (pe_ifExp (pt_cmpR op_isN (pv 3) pe_non (nomark _)) pe_int (pe_op o_add (pe_op op_fdivW (pv 3) pe_int) (pe_callB (o_max rfl) (by rfl) T.b_max (by decide +kernel) (pa_cons (pv 4) (pa_cons pe_int pa_nil))))))
      (pss_cons (ps_set (i := 16) sc_law.nd rfl (Or.inl rfl) (pe_callB (o_min rfl) (by rfl) T.b_min (by decide +kernel) (pa_cons (pe_op o_mul (pe_callB (o_max rfl) (by rfl) T.b_max (by decide +kernel) (pa_cons (pv 16) (pa_cons pe_int pa_nil))) (pv 5)) (pa_cons pe_int pa_nil))))
      (pss_one (ps_if (PW.pt (pw_or (pt_cmpR (o_ne hr.units) (pe_meth0 (pv 2) T.Waits.cl T.Waits_wait.me (ok_Waits_wait T) (hr.mono (by decide)) T.Waits_wait.b .nil pass0) (pv 16) (nomark _)) (pw_or (pt_not (pt_chain op_le op_le pe_int (pv 16) pe_int)) (pw_or (pt_cmpR (o_ne hr.units) (pe_meth0 (pv 7) T.Share.cl T.Share_share.me (ok_Share_share T) (hr.mono (by decide)) T.Share_share.b .nil pass0) (pv 8) (nomark _)) (pw_or1 (pt_not (pt_chain op_le op_le (pv 6) (pv 8) (pe_op o_mul pe_int (pv 6))))))))) (pss_one (ps_ret pe_bl)) pss_nil)))))))
      (pss_one (ps_ret pe_bl))))))))), ?_⟩
    walk_at "eo init"
    walk_at "eo go"
    refine ⟨a, ns, rfl, hS, hlen, fun d sc H1 nd nsc e1 hD => ?_⟩
    walk_at "eo go"
    intro x dx H2 nx e2 hx
    have ndx : d ≠ x := ne_dst1 nx hD
    have nsx : sc ≠ x := ne_dst2 nx hD
    refine ⟨x, dx, rfl, hx, fun H3 e3 hw => ⟨rfl, ?_⟩⟩
    have hD3 : DSt H3 d sc := by walk_at "eo dst"
    walk_at "eo go"
    rename_i p1 H4 np1 e4 hp1 p2 H5 np2 e5 hp2
    have hw5 : H5 x = some (.ins A.c_Waits dx (wf .non 0 1)) := by walk_at "eo fact"
    refine ⟨d, sc, p2, _, rfl, by walk_at "eo dst", by walk_at "eo sqL", by walk_at "eo ne", by decide, by decide, fun v H6 hv e6 hD6 => ?_⟩
    have hw6 : H6 x = some (.ins A.c_Waits dx (wf .non 0 1)) := by walk_at "eo fact"
    obtain ⟨n, rfl, n0, n1⟩ : ∃ n : Int, v = .int n ∧ 0 < n ∧ n ≤ 100 := by
      simp only [List.mem_cons, List.not_mem_nil, or_false] at hv
      rcases hv with rfl | rfl | rfl | rfl
      · exact ⟨1, rfl, by decide, by decide⟩
      · exact ⟨8, rfl, by decide, by decide⟩
      · exact ⟨32, rfl, by decide, by decide⟩
      · exact ⟨100, rfl, by decide, by decide⟩
    walk_at "eo go"
    intro y dy H7 ny e7 hy
    have ndy : d ≠ y := ne_dst1 ny hD6
    have nsy : sc ≠ y := ne_dst2 ny hD6
    have nxy : x ≠ y := ne_of_none hw6 ny
    refine ⟨y, dy, n, rfl, hy, fun H8 e8 hs => ⟨rfl, ?_⟩⟩
    have hw8 : H8 x = some (.ins A.c_Waits dx (wf .non 0 1)) := by walk_at "eo fact"
    have hD8 : DSt H8 d sc := by walk_at "eo dst"
    walk_at "eo go"
    refine ⟨d, sc, 40, rfl, hD8, by decide, by decide, fun kk H9 k0 k1 e9 hD9 => ?_⟩
    have hw9 : H9 x = some (.ins A.c_Waits dx (wf .non 0 1)) := by walk_at "eo fact"
    have hs9 : H9 y = some (.ins A.c_Share dy (sf n (2 * n) (16 * n))) := by walk_at "eo fact"
    walk_at "eo go"
    refine g_forR ⟨by omega, by omega⟩ (fun i σ H' => ∃ (mv : V) (sp f o b : Int) (s10 s11 s12 s13 s14 s15 s16 : Option V), σ = [some (.ref a), some (.ref d), some (.ref x), some mv, some (.int sp), some (.int f), some (.int n), some (.ref y), some (.int o), some (.int b), s10, s11, s12, s13, s14, s15, s16] ∧
      DSt H' d sc ∧ H' x = some (.ins A.c_Waits dx (wf mv sp f)) ∧ H' y = some (.ins A.c_Share dy (sf n o b)) ∧ NI mv ∧ 1 ≤ f ∧ f ≤ 96 ∧ n ≤ o ∧ o ≤ 64 * n)
      ⟨.non, 0, 1, 2 * n, 16 * n, none, none, none, none, none, none, none, rfl, hD9, hw9, hs9, .inl rfl, by decide, by decide, by omega, by omega⟩ ?_ ?_
    · rintro i σ H' hi ⟨mv, sp, f, o, b, s10, s11, s12, s13, s14, s15, s16, rfl, hD, hw, hs, hm, f1, f2, o1, o2⟩
      walk_at "eo go"
      refine ⟨d, sc, 5, rfl, hD, by decide, by decide, fun mn Ha m0 m1 ea hDa => ?_⟩
      have hwa : Ha x = some (.ins A.c_Waits dx (wf mv sp f)) := by walk_at "eo fact"
      have hsa : Ha y = some (.ins A.c_Share dy (sf n o b)) := by walk_at "eo fact"
      walk_at "eo go"
      refine ⟨fun σ H' => ∃ (mv : V) (sp f o b : Int) (s10 s11 s12 s13 s14 s15 s16 : Option V), σ = [some (.ref a), some (.ref d), some (.ref x), some mv, some (.int sp), some (.int f), some (.int n), some (.ref y), some (.int o), some (.int b), s10, s11, s12, s13, s14, s15, s16] ∧
        DSt H' d sc ∧ H' x = some (.ins A.c_Waits dx (wf mv sp f)) ∧ H' y = some (.ins A.c_Share dy (sf n o b)) ∧ NI mv ∧ 1 ≤ f ∧ f ≤ 96 ∧ n ≤ o ∧ o ≤ 64 * n, ?_, ?_⟩
      · walk_at "eo go"
        refine g_ite (fun q => ?_) (fun q => ?_)
        · walk_at "eo go"
          refine ⟨d, sc, 200, rfl, hDa, by decide, by decide, fun t Hb t0 t1 eb hDb => ?_⟩
          have hwb : Hb x = some (.ins A.c_Waits dx (wf mv sp f)) := by walk_at "eo fact"
          have hsb : Hb y = some (.ins A.c_Share dy (sf n o b)) := by walk_at "eo fact"
          walk_at "eo go"
          refine ⟨x, dx, mv, sp, f, t, rfl, hwb, hm, fun Hc ec hwc => ?_⟩
          have hsc : Hc y = some (.ins A.c_Share dy (sf n o b)) := by walk_at "eo fact"
          have hDc : DSt Hc d sc := by walk_at "eo dst"
          rcases hm with rfl | ⟨m, rfl⟩
          · walk_at "eo go"
            exact ⟨_, _, _, _, _, _, _, _, _, _, _, _, rfl, hDc, hwc, hsc, .inr ⟨_, rfl⟩, by decide, by decide, o1, o2⟩
          · walk_at "eo go"
            have e : nsp (.int m) sp t = sp + ((t - m / 8).natAbs : Int) - sp / 4 := by
              show sp + (((t - m / 8).natAbs : Int) - sp / 4) = _
              omega
            rw [e] at hwc
            exact ⟨_, _, _, _, _, _, _, _, _, _, _, _, rfl, hDc, hwc, hsc, .inr ⟨_, rfl⟩, by decide, by decide, o1, o2⟩
        · walk_at "eo go"
          refine g_ite (fun q1 => ?_) (fun q1 => ?_)
          · walk_at "eo go"
            refine ⟨x, dx, mv, sp, f, rfl, hwa, fun Hc ec hwc => ?_⟩
            have hsc : Hc y = some (.ins A.c_Share dy (sf n o b)) := by walk_at "eo fact"
            have hDc : DSt Hc d sc := by walk_at "eo dst"
            walk_at "eo go"
            exact ⟨_, _, _, _, _, _, _, _, _, _, _, _, rfl, hDc, hwc, hsc, hm, by decide, by decide, o1, o2⟩
          · walk_at "eo go"
            refine g_ite (fun q2 => ?_) (fun q2 => ?_)
            · walk_at "eo go"
              refine ⟨x, dx, mv, sp, f, rfl, hwa, fun Hc ec hwc => ?_⟩
              have hsc : Hc y = some (.ins A.c_Share dy (sf n o b)) := by walk_at "eo fact"
              have hDc : DSt Hc d sc := by walk_at "eo dst"
              walk_at "eo go"
              exact ⟨_, _, _, _, _, _, _, _, _, _, _, _, rfl, hDc, hwc, hsc, hm, by omega, by omega, o1, o2⟩
            · walk_at "eo go"
              refine g_ite (fun q3 => ?_) (fun q3 => ?_)
              · walk_at "eo go"
                refine ⟨d, sc, 3 * n, rfl, hDa, by omega, by omega, fun t Hb t0 t1 eb hDb => ?_⟩
                have hwb : Hb x = some (.ins A.c_Waits dx (wf mv sp f)) := by walk_at "eo fact"
                have hsb : Hb y = some (.ins A.c_Share dy (sf n o b)) := by walk_at "eo fact"
                walk_at "eo go"
                refine ⟨y, dy, n, o, b, 1 + t, rfl, hsb, n0, n1, by omega, by omega, fun Hc ec hsc => ?_⟩
                have hwc : Hc x = some (.ins A.c_Waits dx (wf mv sp f)) := by walk_at "eo fact"
                have hDc : DSt Hc d sc := by walk_at "eo dst"
                walk_at "eo go"
                have hp : 0 ≤ n * n / o := Int.ediv_nonneg (Int.mul_nonneg (by omega) (by omega)) (by omega)
                refine g_ite (fun q4 => ?_) (fun q4 => ?_)
                · have e : mvd n (1 + t) o b = min (o + min (1 + t) n) (64 * n) := by
                    unfold mvd
                    rw [if_pos (dec_t q4)]
                  rw [e] at hsc
                  walk_at "eo go"
                  exact ⟨_, _, _, _, _, _, _, _, _, _, _, _, rfl, hDc, hwc, hsc, hm, f1, f2, by omega, by omega⟩
                · have e : mvd n (1 + t) o b = min (o + max (n * n / o) 1) (64 * n) := by
                    unfold mvd
                    rw [if_neg (dec_f q4)]
                  rw [e] at hsc
                  walk_at "eo go"
                  exact ⟨_, _, _, _, _, _, _, _, _, _, _, _, rfl, hDc, hwc, hsc, hm, f1, f2, by omega, by omega⟩
              · walk_at "eo go"
                refine ⟨d, sc, 70 * n, rfl, hDa, by omega, by omega, fun t Hb t0 t1 eb hDb => ?_⟩
                have hwb : Hb x = some (.ins A.c_Waits dx (wf mv sp f)) := by walk_at "eo fact"
                have hsb : Hb y = some (.ins A.c_Share dy (sf n o b)) := by walk_at "eo fact"
                walk_at "eo go"
                refine ⟨y, dy, n, o, b, t, rfl, hsb, fun Hc ec hsc => ?_⟩
                have hwc : Hc x = some (.ins A.c_Waits dx (wf mv sp f)) := by walk_at "eo fact"
                have hDc : DSt Hc d sc := by walk_at "eo dst"
                walk_at "eo go"
                exact ⟨_, _, _, _, _, _, _, _, _, _, _, _, rfl, hDc, hwc, hsc, hm, f1, f2, by omega, by omega⟩
      · rintro σ2 Hf ⟨mv, sp, f, o, b, s10, s11, s12, s13, s14, s15, s16, rfl, hD, hw, hs, hm, f1, f2, o1, o2⟩
        have fin : ∀ s16 : V, 8 ≤ due mv sp f ∧ due mv sp f ≤ 96 := fun _ => by
          unfold due
          refine ⟨?_, Int.min_le_right _ _⟩
          have h8 : ∀ z : Int, 8 ≤ max z 8 * f := fun z => by
            have h1 : max z 8 * 1 ≤ max z 8 * f := Int.mul_le_mul_of_nonneg_left f1 (by omega)
            omega
          exact Int.le_min.mpr ⟨h8 _, by decide⟩
        rcases hm with rfl | ⟨m, rfl⟩
        · walk_at "eo go"
          refine ⟨x, dx, _, sp, f, rfl, hw, .inl rfl, f1, f2, ?_⟩
          walk_at "eo go"
          refine g_iteDF (by show (!decide (V.int (due .non sp f) = V.int (due .non sp f))) = false; simp) ?_
          walk_at "eo go"
          refine g_iteDT (decide_eq_true (fin .non).1) ?_
          walk_at "eo go"
          refine g_iteDF (show (!decide (due .non sp f ≤ 96)) = false from by rw [decide_eq_true (fin .non).2]; rfl) ?_
          walk_at "eo go"
          refine ⟨y, dy, n, o, b, rfl, hs, ?_⟩
          walk_at "eo go"
          refine g_iteDF (by simp) ?_
          walk_at "eo go"
          refine g_iteDT (decide_eq_true o1) ?_
          walk_at "eo go"
          refine g_iteDF (show (!decide (o ≤ 64 * n)) = false from by rw [decide_eq_true o2]; rfl) ?_
          walk_at "eo go"
          exact ⟨_, _, _, _, _, _, _, _, _, _, _, _, rfl, hD, hw, hs, .inl rfl, f1, f2, o1, o2⟩
        · walk_at "eo go"
          refine ⟨x, dx, _, sp, f, rfl, hw, .inr ⟨_, rfl⟩, f1, f2, ?_⟩
          walk_at "eo go"
          refine g_iteDF (by show (!decide (V.int (due (.int m) sp f) = V.int (due (.int m) sp f))) = false; simp) ?_
          walk_at "eo go"
          refine g_iteDT (decide_eq_true (fin .non).1) ?_
          walk_at "eo go"
          refine g_iteDF (show (!decide (due (.int m) sp f ≤ 96)) = false from by rw [decide_eq_true (fin .non).2]; rfl) ?_
          walk_at "eo go"
          refine ⟨y, dy, n, o, b, rfl, hs, ?_⟩
          walk_at "eo go"
          refine g_iteDF (by simp) ?_
          walk_at "eo go"
          refine g_iteDT (decide_eq_true o1) ?_
          walk_at "eo go"
          refine g_iteDF (show (!decide (o ≤ 64 * n)) = false from by rw [decide_eq_true o2]; rfl) ?_
          walk_at "eo go"
          exact ⟨_, _, _, _, _, _, _, _, _, _, _, _, rfl, hD, hw, hs, .inr ⟨_, rfl⟩, f1, f2, o1, o2⟩
    · rintro σ2 Hf _
      walk_at "eo go"
      exact k _
end
set_option maxHeartbeats 4000000 in
theorem all_mk {l : PySem.W.OpenLaw} {w : World} {K : PySem.W.Frag} {h : Heap} {mg : Str → Option Value} {fa : Addr} (X : K.In h) (G : h.Ns mainGlobals mg) (hfa : mg "law" = some (.ref fa))
    {od_Waits_init an_Waits_init : Option Addr} {sl_Waits_init : Array (Option Value)} {oc_Waits_init kV_Waits_init dc_Waits_init pm_Waits_init cd_Waits_init ct_Waits_init : Value} {f_Waits_init : Addr}
    {od_Waits_heard an_Waits_heard : Option Addr} {sl_Waits_heard : Array (Option Value)} {oc_Waits_heard kV_Waits_heard dc_Waits_heard pm_Waits_heard cd_Waits_heard ct_Waits_heard : Value} {f_Waits_heard : Addr}
    {od_Waits_moved an_Waits_moved : Option Addr} {sl_Waits_moved : Array (Option Value)} {oc_Waits_moved kV_Waits_moved dc_Waits_moved pm_Waits_moved cd_Waits_moved ct_Waits_moved : Value} {f_Waits_moved : Addr}
    {od_Waits_late an_Waits_late : Option Addr} {sl_Waits_late : Array (Option Value)} {oc_Waits_late kV_Waits_late dc_Waits_late pm_Waits_late cd_Waits_late ct_Waits_late : Value} {f_Waits_late : Addr}
    {od_Waits_wait an_Waits_wait : Option Addr} {sl_Waits_wait : Array (Option Value)} {oc_Waits_wait kV_Waits_wait dc_Waits_wait pm_Waits_wait cd_Waits_wait ct_Waits_wait : Value} {f_Waits_wait : Addr}
    {od_Share_init an_Share_init : Option Addr} {sl_Share_init : Array (Option Value)} {oc_Share_init kV_Share_init dc_Share_init pm_Share_init cd_Share_init ct_Share_init : Value} {f_Share_init : Addr}
    {od_Share_moved an_Share_moved : Option Addr} {sl_Share_moved : Array (Option Value)} {oc_Share_moved kV_Share_moved dc_Share_moved pm_Share_moved cd_Share_moved ct_Share_moved : Value} {f_Share_moved : Addr}
    {od_Share_late an_Share_late : Option Addr} {sl_Share_late : Array (Option Value)} {oc_Share_late kV_Share_late dc_Share_late pm_Share_late cd_Share_late ct_Share_late : Value} {f_Share_late : Addr}
    {od_Share_share an_Share_share : Option Addr} {sl_Share_share : Array (Option Value)} {oc_Share_share kV_Share_share dc_Share_share pm_Share_share cd_Share_share ct_Share_share : Value} {f_Share_share : Addr}
    {od_law_begin an_law_begin : Option Addr} {sl_law_begin : Array (Option Value)} {oc_law_begin kV_law_begin dc_law_begin pm_law_begin cd_law_begin ct_law_begin : Value} {f_law_begin : Addr}
    {od_law_take an_law_take : Option Addr} {sl_law_take : Array (Option Value)} {oc_law_take kV_law_take dc_law_take pm_law_take cd_law_take ct_law_take : Value} {f_law_take : Addr}
    {od_law_pick an_law_pick : Option Addr} {sl_law_pick : Array (Option Value)} {oc_law_pick kV_law_pick dc_law_pick pm_law_pick cd_law_pick ct_law_pick : Value} {f_law_pick : Addr}
    {od_law an_law : Option Addr} {sl_law : Array (Option Value)} {oc_law kV_law dc_law pm_law cd_law ct_law : Value} {f_law : Addr}
    {c_Waits : Addr}
    {c_Share : Addr}
    {v_MOST_WAIT : Tok}
    {v_FIRST_WAIT : Tok}
    {v_LEAST_WAIT : Tok}
    (aC_Waits : PySem.W.nsIn K mainGlobals "Waits" = some (some (.ref c_Waits)))
    (aC_Share : PySem.W.nsIn K mainGlobals "Share" = some (some (.ref c_Share)))
    (a_Waits_init : PySem.W.findIn K (.ref c_Waits) "__init__" = some (some (.ref f_Waits_init)))
    (i_Waits_init : PySem.W.isFn K (.ref f_Waits_init) = true)
    (l_Waits_init : K.lookup f_Waits_init = some ⟨oc_Waits_init, od_Waits_init, .func (PySem.W.fnOf "__init__" "Waits.__init__" (defArgs s_Waits_init) (defBody s_Waits_init) (defScope s_Waits_init) .none kV_Waits_init dc_Waits_init pm_Waits_init an_Waits_init cd_Waits_init ct_Waits_init), sl_Waits_init⟩)
    (k_Waits_init : PySem.W.codeIn K cd_Waits_init "Waits.__init__" = true)
    (p_Waits_init : PySem.W.keepIn K (.ref f_Waits_init) = true)
    (a_Waits_heard : PySem.W.findIn K (.ref c_Waits) "heard" = some (some (.ref f_Waits_heard)))
    (i_Waits_heard : PySem.W.isFn K (.ref f_Waits_heard) = true)
    (l_Waits_heard : K.lookup f_Waits_heard = some ⟨oc_Waits_heard, od_Waits_heard, .func (PySem.W.fnOf "heard" "Waits.heard" (defArgs s_Waits_heard) (defBody s_Waits_heard) (defScope s_Waits_heard) .none kV_Waits_heard dc_Waits_heard pm_Waits_heard an_Waits_heard cd_Waits_heard ct_Waits_heard), sl_Waits_heard⟩)
    (k_Waits_heard : PySem.W.codeIn K cd_Waits_heard "Waits.heard" = true)
    (p_Waits_heard : PySem.W.keepIn K (.ref f_Waits_heard) = true)
    (a_Waits_moved : PySem.W.findIn K (.ref c_Waits) "moved" = some (some (.ref f_Waits_moved)))
    (i_Waits_moved : PySem.W.isFn K (.ref f_Waits_moved) = true)
    (l_Waits_moved : K.lookup f_Waits_moved = some ⟨oc_Waits_moved, od_Waits_moved, .func (PySem.W.fnOf "moved" "Waits.moved" (defArgs s_Waits_moved) (defBody s_Waits_moved) (defScope s_Waits_moved) .none kV_Waits_moved dc_Waits_moved pm_Waits_moved an_Waits_moved cd_Waits_moved ct_Waits_moved), sl_Waits_moved⟩)
    (k_Waits_moved : PySem.W.codeIn K cd_Waits_moved "Waits.moved" = true)
    (p_Waits_moved : PySem.W.keepIn K (.ref f_Waits_moved) = true)
    (a_Waits_late : PySem.W.findIn K (.ref c_Waits) "late" = some (some (.ref f_Waits_late)))
    (i_Waits_late : PySem.W.isFn K (.ref f_Waits_late) = true)
    (l_Waits_late : K.lookup f_Waits_late = some ⟨oc_Waits_late, od_Waits_late, .func (PySem.W.fnOf "late" "Waits.late" (defArgs s_Waits_late) (defBody s_Waits_late) (defScope s_Waits_late) .none kV_Waits_late dc_Waits_late pm_Waits_late an_Waits_late cd_Waits_late ct_Waits_late), sl_Waits_late⟩)
    (k_Waits_late : PySem.W.codeIn K cd_Waits_late "Waits.late" = true)
    (p_Waits_late : PySem.W.keepIn K (.ref f_Waits_late) = true)
    (a_Waits_wait : PySem.W.findIn K (.ref c_Waits) "wait" = some (some (.ref f_Waits_wait)))
    (i_Waits_wait : PySem.W.isFn K (.ref f_Waits_wait) = true)
    (l_Waits_wait : K.lookup f_Waits_wait = some ⟨oc_Waits_wait, od_Waits_wait, .func (PySem.W.fnOf "wait" "Waits.wait" (defArgs s_Waits_wait) (defBody s_Waits_wait) (defScope s_Waits_wait) .none kV_Waits_wait dc_Waits_wait pm_Waits_wait an_Waits_wait cd_Waits_wait ct_Waits_wait), sl_Waits_wait⟩)
    (k_Waits_wait : PySem.W.codeIn K cd_Waits_wait "Waits.wait" = true)
    (p_Waits_wait : PySem.W.keepIn K (.ref f_Waits_wait) = true)
    (a_Share_init : PySem.W.findIn K (.ref c_Share) "__init__" = some (some (.ref f_Share_init)))
    (i_Share_init : PySem.W.isFn K (.ref f_Share_init) = true)
    (l_Share_init : K.lookup f_Share_init = some ⟨oc_Share_init, od_Share_init, .func (PySem.W.fnOf "__init__" "Share.__init__" (defArgs s_Share_init) (defBody s_Share_init) (defScope s_Share_init) .none kV_Share_init dc_Share_init pm_Share_init an_Share_init cd_Share_init ct_Share_init), sl_Share_init⟩)
    (k_Share_init : PySem.W.codeIn K cd_Share_init "Share.__init__" = true)
    (p_Share_init : PySem.W.keepIn K (.ref f_Share_init) = true)
    (a_Share_moved : PySem.W.findIn K (.ref c_Share) "moved" = some (some (.ref f_Share_moved)))
    (i_Share_moved : PySem.W.isFn K (.ref f_Share_moved) = true)
    (l_Share_moved : K.lookup f_Share_moved = some ⟨oc_Share_moved, od_Share_moved, .func (PySem.W.fnOf "moved" "Share.moved" (defArgs s_Share_moved) (defBody s_Share_moved) (defScope s_Share_moved) .none kV_Share_moved dc_Share_moved pm_Share_moved an_Share_moved cd_Share_moved ct_Share_moved), sl_Share_moved⟩)
    (k_Share_moved : PySem.W.codeIn K cd_Share_moved "Share.moved" = true)
    (p_Share_moved : PySem.W.keepIn K (.ref f_Share_moved) = true)
    (a_Share_late : PySem.W.findIn K (.ref c_Share) "late" = some (some (.ref f_Share_late)))
    (i_Share_late : PySem.W.isFn K (.ref f_Share_late) = true)
    (l_Share_late : K.lookup f_Share_late = some ⟨oc_Share_late, od_Share_late, .func (PySem.W.fnOf "late" "Share.late" (defArgs s_Share_late) (defBody s_Share_late) (defScope s_Share_late) .none kV_Share_late dc_Share_late pm_Share_late an_Share_late cd_Share_late ct_Share_late), sl_Share_late⟩)
    (k_Share_late : PySem.W.codeIn K cd_Share_late "Share.late" = true)
    (p_Share_late : PySem.W.keepIn K (.ref f_Share_late) = true)
    (a_Share_share : PySem.W.findIn K (.ref c_Share) "share" = some (some (.ref f_Share_share)))
    (i_Share_share : PySem.W.isFn K (.ref f_Share_share) = true)
    (l_Share_share : K.lookup f_Share_share = some ⟨oc_Share_share, od_Share_share, .func (PySem.W.fnOf "share" "Share.share" (defArgs s_Share_share) (defBody s_Share_share) (defScope s_Share_share) .none kV_Share_share dc_Share_share pm_Share_share an_Share_share cd_Share_share ct_Share_share), sl_Share_share⟩)
    (k_Share_share : PySem.W.codeIn K cd_Share_share "Share.share" = true)
    (p_Share_share : PySem.W.keepIn K (.ref f_Share_share) = true)
    (a_law_begin : PySem.W.nsIn K mainGlobals "_law_begin" = some (some (.ref f_law_begin)))
    (l_law_begin : K.lookup f_law_begin = some ⟨oc_law_begin, od_law_begin, .func (PySem.W.fnOf "_law_begin" "_law_begin" (defArgs s_law_begin) (defBody s_law_begin) (defScope s_law_begin) .none kV_law_begin dc_law_begin pm_law_begin an_law_begin cd_law_begin ct_law_begin), sl_law_begin⟩)
    (k_law_begin : PySem.W.codeIn K cd_law_begin "_law_begin" = true)
    (p_law_begin : PySem.W.keepIn K (.ref f_law_begin) = true)
    (a_law_take : PySem.W.nsIn K mainGlobals "_law_take" = some (some (.ref f_law_take)))
    (l_law_take : K.lookup f_law_take = some ⟨oc_law_take, od_law_take, .func (PySem.W.fnOf "_law_take" "_law_take" (defArgs s_law_take) (defBody s_law_take) (defScope s_law_take) .none kV_law_take dc_law_take pm_law_take an_law_take cd_law_take ct_law_take), sl_law_take⟩)
    (k_law_take : PySem.W.codeIn K cd_law_take "_law_take" = true)
    (p_law_take : PySem.W.keepIn K (.ref f_law_take) = true)
    (a_law_pick : PySem.W.nsIn K mainGlobals "_law_pick" = some (some (.ref f_law_pick)))
    (l_law_pick : K.lookup f_law_pick = some ⟨oc_law_pick, od_law_pick, .func (PySem.W.fnOf "_law_pick" "_law_pick" (defArgs s_law_pick) (defBody s_law_pick) (defScope s_law_pick) .none kV_law_pick dc_law_pick pm_law_pick an_law_pick cd_law_pick ct_law_pick), sl_law_pick⟩)
    (k_law_pick : PySem.W.codeIn K cd_law_pick "_law_pick" = true)
    (p_law_pick : PySem.W.keepIn K (.ref f_law_pick) = true)
    (a_law : PySem.W.nsIn K mainGlobals "law" = some (some (.ref f_law)))
    (l_law : K.lookup f_law = some ⟨oc_law, od_law, .func (PySem.W.fnOf "law" "law" (defArgs s_law) (defBody s_law) (defScope s_law) .none kV_law dc_law pm_law an_law cd_law ct_law), sl_law⟩)
    (k_law : PySem.W.codeIn K cd_law "law" = true)
    (p_law : PySem.W.keepIn K (.ref f_law) = true)
    (pg_Waits : PySem.W.plainGet K c_Waits Str.empty = true)
    (hd_Waits : PySem.W.hasDictIn K c_Waits = true)
    (po_Waits : PySem.W.plainOver K c_Waits = true)
    (sa_Waits : PySem.W.findIn K (.ref c_Waits) "__setattr__" = some (some (.builtin "object.__setattr__")))
    (mk_Waits : PySem.W.makesIn K c_Waits = true)
    (kp_Waits : PySem.W.keepIn K (.ref c_Waits) = true)
    (n_Waits__mean : PySem.W.findIn K (.ref c_Waits) "_mean" = some none)
    (n_Waits__spread : PySem.W.findIn K (.ref c_Waits) "_spread" = some none)
    (n_Waits__factor : PySem.W.findIn K (.ref c_Waits) "_factor" = some none)
    (pg_Share : PySem.W.plainGet K c_Share Str.empty = true)
    (hd_Share : PySem.W.hasDictIn K c_Share = true)
    (po_Share : PySem.W.plainOver K c_Share = true)
    (sa_Share : PySem.W.findIn K (.ref c_Share) "__setattr__" = some (some (.builtin "object.__setattr__")))
    (mk_Share : PySem.W.makesIn K c_Share = true)
    (kp_Share : PySem.W.keepIn K (.ref c_Share) = true)
    (n_Share__piece : PySem.W.findIn K (.ref c_Share) "_piece" = some none)
    (n_Share__share : PySem.W.findIn K (.ref c_Share) "_share" = some none)
    (n_Share__border : PySem.W.findIn K (.ref c_Share) "_border" = some none)
    (z_abs : PySem.W.nsIn K mainGlobals "abs" = some none)
    (z_min : PySem.W.nsIn K mainGlobals "min" = some none)
    (z_max : PySem.W.nsIn K mainGlobals "max" = some none)
    (z_int : PySem.W.nsIn K mainGlobals "int" = some none)
    (z_list : PySem.W.nsIn K mainGlobals "list" = some none)
    (z_len : PySem.W.nsIn K mainGlobals "len" = some none)
    (z_range : PySem.W.nsIn K mainGlobals "range" = some none)
    (gv_MOST_WAIT : PySem.W.nsIn K mainGlobals "MOST_WAIT" = some (some (.int 96 v_MOST_WAIT)))
    (gv_FIRST_WAIT : PySem.W.nsIn K mainGlobals "FIRST_WAIT" = some (some (.int 24 v_FIRST_WAIT)))
    (gv_LEAST_WAIT : PySem.W.nsIn K mainGlobals "LEAST_WAIT" = some (some (.int 8 v_LEAST_WAIT))) :
    ∃ fd : FuncData, (∀ (s : Shared) (v : Value), BindsTo s fd ⟨[v], []⟩ [("script", v)]) ∧ ∀ base : Heap, K.In base → base.Ns mainGlobals mg → FnOk l.prog w K mg base CX0 3 fa fd ["script"] (spLaw K) := by
  have e := hfa.symm.trans (PySem.W.mg_of X G a_law)
  cases e
  have F_Waits_init := fun_mk (st := s_Waits_init) l_Waits_init k_Waits_init p_Waits_init
  have b_Waits_init := F_Waits_init.binds (ps := ["self"]) fun _ _ _ _ _ _ us hl => match us, hl with | [_], _ => rfl
  have F_Waits_heard := fun_mk (st := s_Waits_heard) l_Waits_heard k_Waits_heard p_Waits_heard
  have b_Waits_heard := F_Waits_heard.binds (ps := ["self", "ticks"]) fun _ _ _ _ _ _ us hl => match us, hl with | [_, _], _ => rfl
  have F_Waits_moved := fun_mk (st := s_Waits_moved) l_Waits_moved k_Waits_moved p_Waits_moved
  have b_Waits_moved := F_Waits_moved.binds (ps := ["self"]) fun _ _ _ _ _ _ us hl => match us, hl with | [_], _ => rfl
  have F_Waits_late := fun_mk (st := s_Waits_late) l_Waits_late k_Waits_late p_Waits_late
  have b_Waits_late := F_Waits_late.binds (ps := ["self"]) fun _ _ _ _ _ _ us hl => match us, hl with | [_], _ => rfl
  have F_Waits_wait := fun_mk (st := s_Waits_wait) l_Waits_wait k_Waits_wait p_Waits_wait
  have b_Waits_wait := F_Waits_wait.binds (ps := ["self"]) fun _ _ _ _ _ _ us hl => match us, hl with | [_], _ => rfl
  have F_Share_init := fun_mk (st := s_Share_init) l_Share_init k_Share_init p_Share_init
  have b_Share_init := F_Share_init.binds (ps := ["self", "piece"]) fun _ _ _ _ _ _ us hl => match us, hl with | [_, _], _ => rfl
  have F_Share_moved := fun_mk (st := s_Share_moved) l_Share_moved k_Share_moved p_Share_moved
  have b_Share_moved := F_Share_moved.binds (ps := ["self", "many"]) fun _ _ _ _ _ _ us hl => match us, hl with | [_, _], _ => rfl
  have F_Share_late := fun_mk (st := s_Share_late) l_Share_late k_Share_late p_Share_late
  have b_Share_late := F_Share_late.binds (ps := ["self", "flight"]) fun _ _ _ _ _ _ us hl => match us, hl with | [_, _], _ => rfl
  have F_Share_share := fun_mk (st := s_Share_share) l_Share_share k_Share_share p_Share_share
  have b_Share_share := F_Share_share.binds (ps := ["self"]) fun _ _ _ _ _ _ us hl => match us, hl with | [_], _ => rfl
  have F_law_begin := fun_mk (st := s_law_begin) l_law_begin k_law_begin p_law_begin
  have b_law_begin := F_law_begin.binds (ps := ["script"]) fun _ _ _ _ _ _ us hl => match us, hl with | [_], _ => rfl
  have F_law_take := fun_mk (st := s_law_take) l_law_take k_law_take p_law_take
  have b_law_take := F_law_take.binds (ps := ["d", "many"]) fun _ _ _ _ _ _ us hl => match us, hl with | [_, _], _ => rfl
  have F_law_pick := fun_mk (st := s_law_pick) l_law_pick k_law_pick p_law_pick
  have b_law_pick := F_law_pick.binds (ps := ["d", "menu"]) fun _ _ _ _ _ _ us hl => match us, hl with | [_, _], _ => rfl
  have F_law := fun_mk (st := s_law) l_law k_law p_law
  have b_law := F_law.binds (ps := ["script"]) fun _ _ _ _ _ _ us hl => match us, hl with | [_], _ => rfl
  have C_Waits : CF K mg "Waits" ["_mean", "_spread", "_factor"] c_Waits f_Waits_init := ⟨PySem.W.mg_of X G aC_Waits, ⟨pg_Waits, hd_Waits, po_Waits, sa_Waits⟩, ⟨mk_Waits, a_Waits_init, i_Waits_init, kp_Waits⟩, fun x hx => by
      simp only [List.mem_cons, List.not_mem_nil, or_false] at hx
      rcases hx with rfl | rfl | rfl
      · exact n_Waits__mean
      · exact n_Waits__spread
      · exact n_Waits__factor⟩
  have C_Share : CF K mg "Share" ["_piece", "_share", "_border"] c_Share f_Share_init := ⟨PySem.W.mg_of X G aC_Share, ⟨pg_Share, hd_Share, po_Share, sa_Share⟩, ⟨mk_Share, a_Share_init, i_Share_init, kp_Share⟩, fun x hx => by
      simp only [List.mem_cons, List.not_mem_nil, or_false] at hx
      rcases hx with rfl | rfl | rfl
      · exact n_Share__piece
      · exact n_Share__share
      · exact n_Share__border⟩
  have T : Txt K mg ⟨f_Waits_init, PySem.W.fnOf "__init__" "Waits.__init__" (defArgs s_Waits_init) (defBody s_Waits_init) (defScope s_Waits_init) .none kV_Waits_init dc_Waits_init pm_Waits_init an_Waits_init cd_Waits_init ct_Waits_init, f_Waits_heard, PySem.W.fnOf "heard" "Waits.heard" (defArgs s_Waits_heard) (defBody s_Waits_heard) (defScope s_Waits_heard) .none kV_Waits_heard dc_Waits_heard pm_Waits_heard an_Waits_heard cd_Waits_heard ct_Waits_heard, f_Waits_moved, PySem.W.fnOf "moved" "Waits.moved" (defArgs s_Waits_moved) (defBody s_Waits_moved) (defScope s_Waits_moved) .none kV_Waits_moved dc_Waits_moved pm_Waits_moved an_Waits_moved cd_Waits_moved ct_Waits_moved, f_Waits_late, PySem.W.fnOf "late" "Waits.late" (defArgs s_Waits_late) (defBody s_Waits_late) (defScope s_Waits_late) .none kV_Waits_late dc_Waits_late pm_Waits_late an_Waits_late cd_Waits_late ct_Waits_late, f_Waits_wait, PySem.W.fnOf "wait" "Waits.wait" (defArgs s_Waits_wait) (defBody s_Waits_wait) (defScope s_Waits_wait) .none kV_Waits_wait dc_Waits_wait pm_Waits_wait an_Waits_wait cd_Waits_wait ct_Waits_wait, f_Share_init, PySem.W.fnOf "__init__" "Share.__init__" (defArgs s_Share_init) (defBody s_Share_init) (defScope s_Share_init) .none kV_Share_init dc_Share_init pm_Share_init an_Share_init cd_Share_init ct_Share_init, f_Share_moved, PySem.W.fnOf "moved" "Share.moved" (defArgs s_Share_moved) (defBody s_Share_moved) (defScope s_Share_moved) .none kV_Share_moved dc_Share_moved pm_Share_moved an_Share_moved cd_Share_moved ct_Share_moved, f_Share_late, PySem.W.fnOf "late" "Share.late" (defArgs s_Share_late) (defBody s_Share_late) (defScope s_Share_late) .none kV_Share_late dc_Share_late pm_Share_late an_Share_late cd_Share_late ct_Share_late, f_Share_share, PySem.W.fnOf "share" "Share.share" (defArgs s_Share_share) (defBody s_Share_share) (defScope s_Share_share) .none kV_Share_share dc_Share_share pm_Share_share an_Share_share cd_Share_share ct_Share_share, f_law_begin, PySem.W.fnOf "_law_begin" "_law_begin" (defArgs s_law_begin) (defBody s_law_begin) (defScope s_law_begin) .none kV_law_begin dc_law_begin pm_law_begin an_law_begin cd_law_begin ct_law_begin, f_law_take, PySem.W.fnOf "_law_take" "_law_take" (defArgs s_law_take) (defBody s_law_take) (defScope s_law_take) .none kV_law_take dc_law_take pm_law_take an_law_take cd_law_take ct_law_take, f_law_pick, PySem.W.fnOf "_law_pick" "_law_pick" (defArgs s_law_pick) (defBody s_law_pick) (defScope s_law_pick) .none kV_law_pick dc_law_pick pm_law_pick an_law_pick cd_law_pick ct_law_pick, fa, PySem.W.fnOf "law" "law" (defArgs s_law) (defBody s_law) (defScope s_law) .none kV_law dc_law pm_law an_law cd_law ct_law, c_Waits, c_Share⟩ := ⟨⟨F_Waits_init, ⟨a_Waits_init, i_Waits_init, p_Waits_init⟩, b_Waits_init⟩, ⟨F_Waits_heard, ⟨a_Waits_heard, i_Waits_heard, p_Waits_heard⟩, b_Waits_heard⟩, ⟨F_Waits_moved, ⟨a_Waits_moved, i_Waits_moved, p_Waits_moved⟩, b_Waits_moved⟩, ⟨F_Waits_late, ⟨a_Waits_late, i_Waits_late, p_Waits_late⟩, b_Waits_late⟩, ⟨F_Waits_wait, ⟨a_Waits_wait, i_Waits_wait, p_Waits_wait⟩, b_Waits_wait⟩, ⟨F_Share_init, ⟨a_Share_init, i_Share_init, p_Share_init⟩, b_Share_init⟩, ⟨F_Share_moved, ⟨a_Share_moved, i_Share_moved, p_Share_moved⟩, b_Share_moved⟩, ⟨F_Share_late, ⟨a_Share_late, i_Share_late, p_Share_late⟩, b_Share_late⟩, ⟨F_Share_share, ⟨a_Share_share, i_Share_share, p_Share_share⟩, b_Share_share⟩, ⟨F_law_begin, PySem.W.mg_of X G a_law_begin, p_law_begin, b_law_begin⟩, ⟨F_law_take, PySem.W.mg_of X G a_law_take, p_law_take, b_law_take⟩, ⟨F_law_pick, PySem.W.mg_of X G a_law_pick, p_law_pick, b_law_pick⟩, ⟨F_law, PySem.W.mg_of X G a_law, p_law, b_law⟩, C_Waits, C_Share, PySem.W.mg_none_of X G z_abs, PySem.W.mg_none_of X G z_min, PySem.W.mg_none_of X G z_max, PySem.W.mg_none_of X G z_int, PySem.W.mg_none_of X G z_list, PySem.W.mg_none_of X G z_len, PySem.W.mg_none_of X G z_range, ⟨_, PySem.W.mg_of X G gv_MOST_WAIT, ⟨_, rfl⟩⟩, ⟨_, PySem.W.mg_of X G gv_FIRST_WAIT, ⟨_, rfl⟩⟩, ⟨_, PySem.W.mg_of X G gv_LEAST_WAIT, ⟨_, rfl⟩⟩⟩
  exact ⟨_, fun s v => .of_eq rfl, fun base _ _ => ok_law T⟩
theorem walk {l : PySem.W.OpenLaw} {q : Program} {loose : List Str} {XP : (Str → Option Value) → Heap → Prop} {YP : World → Heap → Prop} {d : DefRec} {K : Params → PySem.W.Frag} (hn : l.most = some 63) (hdf : d.params.defaults = [])
    (hY : ∀ (w : World) (h : Heap), YP w h → (K w.params).In h)
    (F : ∀ (w : World) (mg : Str → Option Value) (fa : Addr) (h : Heap), (K w.params).In h → h.Ns mainGlobals mg → mg d.name = some (.ref fa) →
      ∃ fd : FuncData, (∀ (s : Shared) (u : Value), BindsTo s fd ⟨[u], []⟩ [("script", u)]) ∧ ∀ base : Heap, (K w.params).In base → base.Ns mainGlobals mg → FnOk l.prog w (K w.params) mg base CX0 3 fa fd ["script"] (spLaw (K w.params))) :
    PySem.W.WalkO q loose XP YP l.row.toRowW d [] (fun f vs => PySem.call f vs) :=
  L2.walk_of (n := 63) (k := 3) (x := "script") (CX := fun _ => CX0) (sp := fun w => spLaw (K w.params)) hn (by decide) hdf ⟨rfl, by decide, by decide⟩ hY F (fun _ _ a ns hl _ hS => ⟨a, ns, rfl, hS, hl, fun _ => rfl⟩) fun _ _ _ _ _ z => z
end Eo10
open PySem PySem.W PyProof.Rows
set_option maxRecDepth 100000 in
set_option maxHeartbeats 0 in
theorem PySem.Challenge.cw_everyoctetonce_k10_pacing_holds : PySem.Challenge.rw_everyoctetonce_k10_pacing.Holds := by
  w_on; o_law; k_head; (case hw => w_witness2)
  k_fill
  refine Eo10.walk (l := PySem.Challenge.rw_everyoctetonce_k10_pacing) rfl rfl (fun w h Y => PySem.W.kIn_of Y) ?F
  case F =>
    intro w mg fa h KX G hmg
    refine' Eo10.all_mk KX G hmg ?aC_Waits ?aC_Share ?a_Waits_init ?i_Waits_init ?l_Waits_init ?k_Waits_init ?p_Waits_init ?a_Waits_heard ?i_Waits_heard ?l_Waits_heard ?k_Waits_heard ?p_Waits_heard ?a_Waits_moved ?i_Waits_moved ?l_Waits_moved ?k_Waits_moved ?p_Waits_moved ?a_Waits_late ?i_Waits_late ?l_Waits_late ?k_Waits_late ?p_Waits_late ?a_Waits_wait ?i_Waits_wait ?l_Waits_wait ?k_Waits_wait ?p_Waits_wait ?a_Share_init ?i_Share_init ?l_Share_init ?k_Share_init ?p_Share_init ?a_Share_moved ?i_Share_moved ?l_Share_moved ?k_Share_moved ?p_Share_moved ?a_Share_late ?i_Share_late ?l_Share_late ?k_Share_late ?p_Share_late ?a_Share_share ?i_Share_share ?l_Share_share ?k_Share_share ?p_Share_share ?a_law_begin ?l_law_begin ?k_law_begin ?p_law_begin ?a_law_take ?l_law_take ?k_law_take ?p_law_take ?a_law_pick ?l_law_pick ?k_law_pick ?p_law_pick ?a_law ?l_law ?k_law ?p_law ?pg_Waits ?hd_Waits ?po_Waits ?sa_Waits ?mk_Waits ?kp_Waits ?n_Waits__mean ?n_Waits__spread ?n_Waits__factor ?pg_Share ?hd_Share ?po_Share ?sa_Share ?mk_Share ?kp_Share ?n_Share__piece ?n_Share__share ?n_Share__border ?z_abs ?z_min ?z_max ?z_int ?z_list ?z_len ?z_range ?gv_MOST_WAIT ?gv_FIRST_WAIT ?gv_LEAST_WAIT
    (case aC_Waits => k_is)
    (case aC_Share => k_is)
    (case a_Waits_init => k_is)
    (case i_Waits_init => k_is)
    (case l_Waits_init => k_is)
    (case k_Waits_init => k_is)
    (case p_Waits_init => k_is)
    (case a_Waits_heard => k_is)
    (case i_Waits_heard => k_is)
    (case l_Waits_heard => k_is)
    (case k_Waits_heard => k_is)
    (case p_Waits_heard => k_is)
    (case a_Waits_moved => k_is)
    (case i_Waits_moved => k_is)
    (case l_Waits_moved => k_is)
    (case k_Waits_moved => k_is)
    (case p_Waits_moved => k_is)
    (case a_Waits_late => k_is)
    (case i_Waits_late => k_is)
    (case l_Waits_late => k_is)
    (case k_Waits_late => k_is)
    (case p_Waits_late => k_is)
    (case a_Waits_wait => k_is)
    (case i_Waits_wait => k_is)
    (case l_Waits_wait => k_is)
    (case k_Waits_wait => k_is)
    (case p_Waits_wait => k_is)
    (case a_Share_init => k_is)
    (case i_Share_init => k_is)
    (case l_Share_init => k_is)
    (case k_Share_init => k_is)
    (case p_Share_init => k_is)
    (case a_Share_moved => k_is)
    (case i_Share_moved => k_is)
    (case l_Share_moved => k_is)
    (case k_Share_moved => k_is)
    (case p_Share_moved => k_is)
    (case a_Share_late => k_is)
    (case i_Share_late => k_is)
    (case l_Share_late => k_is)
    (case k_Share_late => k_is)
    (case p_Share_late => k_is)
    (case a_Share_share => k_is)
    (case i_Share_share => k_is)
    (case l_Share_share => k_is)
    (case k_Share_share => k_is)
    (case p_Share_share => k_is)
    (case a_law_begin => k_is)
    (case l_law_begin => k_is)
    (case k_law_begin => k_is)
    (case p_law_begin => k_is)
    (case a_law_take => k_is)
    (case l_law_take => k_is)
    (case k_law_take => k_is)
    (case p_law_take => k_is)
    (case a_law_pick => k_is)
    (case l_law_pick => k_is)
    (case k_law_pick => k_is)
    (case p_law_pick => k_is)
    (case a_law => k_is)
    (case l_law => k_is)
    (case k_law => k_is)
    (case p_law => k_is)
    (case pg_Waits => k_is)
    (case hd_Waits => k_is)
    (case po_Waits => k_is)
    (case sa_Waits => k_is)
    (case mk_Waits => k_is)
    (case kp_Waits => k_is)
    (case n_Waits__mean => k_is)
    (case n_Waits__spread => k_is)
    (case n_Waits__factor => k_is)
    (case pg_Share => k_is)
    (case hd_Share => k_is)
    (case po_Share => k_is)
    (case sa_Share => k_is)
    (case mk_Share => k_is)
    (case kp_Share => k_is)
    (case n_Share__piece => k_is)
    (case n_Share__share => k_is)
    (case n_Share__border => k_is)
    (case z_abs => k_is)
    (case z_min => k_is)
    (case z_max => k_is)
    (case z_int => k_is)
    (case z_list => k_is)
    (case z_len => k_is)
    (case z_range => k_is)
    (case gv_MOST_WAIT => k_is)
    (case gv_FIRST_WAIT => k_is)
    (case gv_LEAST_WAIT => k_is)
#print axioms PySem.Challenge.cw_everyoctetonce_k10_pacing_holds

