import PyProof.Rows.All
import Wide.All
import OpenK.AllK
import Wide.FinOn
import HandS.ForMost
import HandS.Wide
import HandS.Walk
import HandS.TupAny
import HandS.Nested
import HandS.Codes
import HandS.SetKeys
import HandS.Style
import HandS.DictTup
import HandS.DictComp
import HandS.TupLen
import HandS.More
import KE.GoesMore
import KE.KDictPairs
import KE.KDictKeyed
import KE.KDictSum
import PySem.Challenge.RW_everyoctetonce_k04_whole_pieces
set_option Elab.async false
set_option linter.all false
set_option maxRecDepth 100000
set_option maxHeartbeats 2000000
set_option pp.maxSteps 250
namespace Eo04
open PySem L2
/-! ### enumerate(tuple), list.extend(tuple); dicts with tuple keys: items, pop, dict(pairs) -/
namespace TD
open PySem PySem.Spec PyProof.Rows L2
theorem enum_newT (t : Addr) (items : Array Value) :
    Meets (Builtin.«enumerate.__new__» ⟨[.type "enumerate", .ref t], []⟩) (fun _ R s => s.heap.IsTuple t items ∧
      R (.ok (.ret (.ref (s.heap.push { cls := .type "tuple_iterator", data := .fields #[.ref t, .int 0 0] }).objs.size)))
        { s with heap := (s.heap.push { cls := .type "tuple_iterator", data := .fields #[.ref t, .int 0 0] }).push { cls := .type "enumerate", data := .fields #[.none, .bool false, .ref s.heap.objs.size, rawInt 0, .none, .none] } }) :=
  .of_wp fun prog w A R s h => by
    obtain ⟨hp, g, d, tk, os⟩ := s
    obtain ⟨hl, h⟩ := h
    have hsub := sub_enumerate
    have q1 : ∀ {A' : Around} {E : Value → Shared → Prop} {Q : Value → Shared → Prop}, Q (.ref hp.objs.size) ⟨(hp.push { cls := .type "tuple_iterator", data := .fields #[.ref t, .int 0 0] }), g, d, tk, os⟩ → wpAny (model prog w) A' (pyIter (.ref t)) Q E ⟨hp, g, d, tk, os⟩ :=
      fun q => wpAny_pyIter_tuple (s := ⟨hp, g, d, tk, os⟩) hl q
    wp_walk using q1
    refine wpAny_stack_any fun st => wpAny_pure ?_
    split
    · rename_i c _ _ _ _ _
      cases (c == Value.type "enumerate")
      · wp_walk using q1
        exact ⟨_, rfl, h⟩
      · wp_walk using q1
        exact ⟨_, rfl, h⟩
    · wp_walk using q1
      exact ⟨_, rfl, h⟩
theorem call_enumT {prog : Program} {w : World} {A : Around} {E : Value → Shared → Prop} {s : Shared} {t : Addr} {items : Array Value} {Q : Value → Shared → Prop} (hL : s.heap.IsTuple t items)
    (h : ∀ h', IsEnum h' (s.heap.objs.size + 1) s.heap.objs.size 0 .none → h'.IsTupleIter s.heap.objs.size t 0 → h'.objs.size = s.heap.objs.size + 2 →
      (∀ b o, s.heap.get? b = some o → h'.get? b = some o) → Q (.ref (s.heap.objs.size + 1)) { s with heap := h' }) :
    wpAny (model prog w) A (call (.type "enumerate") [.ref t]) Q E s := by
  refine callType_new F.called_enumerate (by decide) (F.typeCall_enumerate_1 _) (F.newCall_enumerate_1 _) (fun obj => F.args_object_init_2 obj _) F.entry_enumerate_new (enum_newT t items) ⟨hL, ?_⟩
  generalize ho : ({ cls := .type "tuple_iterator", data := .fields #[.ref t, .int 0 0] } : Obj) = o
  have hz : (s.heap.push o).objs.size = s.heap.objs.size + 1 := Heap.size_push ..
  show _ ∧ _
  rw [hz]
  have he : IsEnum ((s.heap.push o).push { cls := .type "enumerate", data := .fields #[.none, .bool false, .ref s.heap.objs.size, rawInt 0, .none, .none] }) (s.heap.objs.size + 1) s.heap.objs.size 0 .none := by
    have z := Heap.get?_push_size (s.heap.push o) (o := { cls := .type "enumerate", data := .fields #[.none, .bool false, .ref s.heap.objs.size, rawInt 0, .none, .none] }) rfl
    rw [hz] at z
    exact z
  refine ⟨⟨_, he, rfl⟩, h _ he ⟨o, Heap.get?_push_of_some _ (Heap.get?_push_size _ (by rw [← ho]; rfl)), (by rw [← ho]), (by rw [← ho]; rfl)⟩ (by rw [Heap.size_push, hz]) fun b o' x => Heap.get?_push_of_some _ (Heap.get?_push_of_some _ x)⟩
/-- the tuple at a, each item in a new pair -/
def IteT (K : PySem.W.Frag) (a : Addr) : It :=
  ⟨fun i H => ∃ (xs : List V) (x : V), SqT K H a xs ∧ xs[i]? = some x, fun i H v H' => ∃ T x, v = .ref T ∧ H T = none ∧ H' = upd H T (.tup [.int (i : Nat), x]) ∧ ∀ xs, SqT K H a xs → xs[i]? = some x, fun i H => ∃ xs : List V, SqT K H a xs ∧ xs.length = i⟩
theorem turn_enumT {P : Program} {w : World} {K : PySem.W.Frag} {elts : List Expr} {kk : Nat} {tpos : Pos} (a e it : Addr) :
    Turn P w K (.Tuple elts kk tpos) (IteT K a) [e, it] e (fun i h => (∃ old, IsEnum h e it ((i : Nat) : Int) old) ∧ h.IsTupleIter it a i ∧ e ≠ it) where
  mem := by simp
  obj := fun i h st b hb => by
    obtain ⟨⟨old, he⟩, ⟨o, ho, hc, hd⟩, _⟩ := st
    have e' : b = e ∨ b = it := by simpa using hb
    rcases e' with z | z
    · rw [z]; exact ⟨_, he, fun v q => nomatch q⟩
    · rw [z]; exact ⟨o, ho, fun v q => by rw [hd] at q; cases q⟩
  keep := fun i h h' st k => let ⟨⟨old, he⟩, hi, hne⟩ := st; ⟨⟨old, k e (by simp) _ he⟩, hi.at fun o q => k it (by simp) o q, hne⟩
  item := by
    intro X hP hw hK hc i pins s σ H E I hf st hg
    subst hP hw hK
    obtain ⟨⟨old, he⟩, hit, hne⟩ := st
    obtain ⟨xs, x, hq, hx⟩ := hg
    obtain ⟨its, rv, p, hz⟩ := I.tuple hq
    obtain ⟨u, hu, ru⟩ := rv.get hx
    have hT : s.heap.IsTuple a its.toArray := p
    have hel : e < s.heap.objs.size := Heap.lt_size he
    have hil : it < s.heap.objs.size := by obtain ⟨_, q, _⟩ := hit; exact Heap.lt_size q
    have hal : a < s.heap.objs.size := p.lt
    have hli : i < its.toArray.size := by
      have z := (List.getElem?_eq_some_iff.mp hu).1
      rw [List.size_toArray]
      exact z
    obtain ⟨oI, hoI, hcI, hdI⟩ := id hit
    have hai : a ≠ it := fun z => by
      obtain ⟨oa, ha, hca, _⟩ := id hT
      rw [z, hoI] at ha
      cases ha
      rw [hcI] at hca
      exact absurd hca (by simp)
    have hea : e ∉ [it, a] := fun z => by
      rcases List.mem_cons.mp z with z | z
      · exact hne z
      · obtain ⟨oa, ha, hca, _⟩ := id hT
        rw [← List.mem_singleton.mp z] at ha
        have he' := he
        unfold IsEnum at he'
        rw [he'] at ha
        cases ha
        exact absurd hca (by simp)
    refine wpAny_pyNext_enum_itemD (Draws.tuple (A := X.A.in1) (I.ok.hd hc) it a hai its.toArray) he ⟨hit, hT⟩ hli hne hea fun x' h' tk hx' ho hst' hTn hsz hk => ?_
    have hxe : x' = u := by
      have z : its[i]? = some x' := by simpa using hx'
      rw [hu] at z
      exact (Option.some.inj z).symm
    subst hxe
    refine ⟨_, rfl, wpAny_letOwnedTupleGo_enum (s := { s with heap := h', toks := tk + 1 }) ho fun h'' he' sb => ?_⟩
    have hT2 : h''.get? s.heap.objs.size = some { cls := .type "tuple", data := .seq #[.int i tk, x'] } := (sb.2 _ (Nat.ne_of_gt hel)).trans hTn
    have new : ObjOk X.prog X.w (upd H s.heap.objs.size (.tup [.int (i : Nat), x])) h'' s.heap.objs.size (.tup [.int (i : Nat), x]) :=
      ⟨by show 2 ≤ sizeLine; decide, [.int i tk, x'], .cons ⟨_, rfl⟩ (.cons ru .nil), ⟨_, hT2, rfl, _, rfl⟩⟩
    have I1 : Inv X pins σ (upd H s.heap.objs.size (.tup [.int (i : Nat), x])) { s with heap := h'', toks := tk + 1 } :=
      I.turnedNew (ch := [e, it]) (fun b ob hb q => (sb.2 b (fun z => hb (by simp [z]))).trans (hk b ob (fun z => hb (by simp [z])) (fun z => hb (by simp [z])) q)) hf (Nat.le_refl _) new
    refine ⟨.ref s.heap.objs.size, _, I1, rfl, ⟨_, x, rfl, I.hok.fresh (Nat.le_refl _), rfl, fun ys hy => by rw [I.tuple_inj hy hq]; exact hx⟩, ⟨⟨x', ?_⟩, hst'.1.at fun o q => (sb.2 it (Ne.symm hne)).trans q, hne⟩, fun b hb => ?_⟩
    · have e1 : ((i + 1 : Nat) : Int) = (i : Int) + 1 := by omega
      rw [e1]; exact he'
    · have hb' : b < s.heap.objs.size := by
        have e' : b = e ∨ b = it := by simpa using hb
        rcases e' with z | z
        · rw [z]; exact hel
        · rw [z]; exact hil
      rw [upd_ne (Nat.ne_of_lt hb')]
      exact (hf b hb).1
  done := by
    intro X hP hw hK hc i pins s σ H E I hf st hg
    subst hP hw hK
    obtain ⟨⟨old, he⟩, hit, hne⟩ := st
    obtain ⟨xs, hq, hx⟩ := hg
    obtain ⟨its, rv, p, hz⟩ := I.tuple hq
    obtain ⟨f0, f1, f2, f3, f4, f5⟩ := hf it (by simp)
    have hl := rv.length
    have hT : s.heap.IsTuple a its.toArray := p
    obtain ⟨oI, hoI, hcI, hdI⟩ := id hit
    have hai : a ≠ it := fun z => by
      obtain ⟨oa, ha, hca, _⟩ := id hT
      rw [z, hoI] at ha
      cases ha
      rw [hcI] at hca
      exact absurd hca (by simp)
    refine wpAny_pyNext_enum_endD (Draws.tuple (A := X.A.in1) (I.ok.hd hc) it a hai its.toArray) he ?_ fun h' eb => ⟨rfl, I.turned (t' := s.toks) (fun b o hb q => eb b o hb q) f0 f1 f3 f4 f5⟩
    have e : its.toArray.size = i := by rw [List.size_toArray]; omega
    rw [e]
    exact ⟨hit, hT⟩
  self := fun A i s Q E st h => let ⟨⟨_, he⟩, _⟩ := st; wpAny_pyIter_enum he h
def iEnumT (K : PySem.W.Frag) (ta : TA) : TI := fun σ H R => ta σ H fun vs H1 => ∃ a xs, vs = [.ref a] ∧ SqT K H1 a xs ∧ R (IteT K a) H1
theorem pi_enumT {X : Cx} {e : Expr} {ta : TA} {p pos tpos : Pos} {elts : List Expr} {kk : Nat} (hg : Gl X "enumerate") (hm : X.mg "enumerate" = none) (ha : PA X [e] ta) (hs : starEach [e] X.env = [(false, eval e X.env)] := by rfl) :
    PI X (.Tuple elts kk tpos) (.Call (.Name "enumerate" p) [e] [] pos) (iEnumT X.K ta) := by
  refine ⟨fun pins s σ H R I h => ?_⟩
  refine Call_ (ld_blt I hg hm boot_enumerate (PyProof.Rows.callWith_type1 (thn (ha.run pos pins s σ H _ I h) fun us s1 ⟨vs, H1, I1, r1, q1⟩ => ?_) hs rfl))
  obtain ⟨a, xs, ex, hq, q⟩ := q1
  subst ex
  cases r1 with
  | cons r rr =>
    cases rr
    cases r
    obtain ⟨its, rv, p', hz⟩ := I1.tuple hq
    refine call_enumT (items := its.toArray) p' fun h' he hit hsz hk => wpAny_pyIter_enum he ?_
    have I2 : Inv X pins σ H1 { s1 with heap := h' } := I1.kept (t' := s1.toks) hk
    refine ⟨s1.heap.objs.size + 1, [s1.heap.objs.size + 1, s1.heap.objs.size], _, _, H1, rfl, I2, turn_enumT a (s1.heap.objs.size + 1) s1.heap.objs.size, ⟨⟨.none, he⟩, hit, Nat.succ_ne_self _⟩, fun b hb => ?_, q⟩
    have e' : b = s1.heap.objs.size + 1 ∨ b = s1.heap.objs.size := by simpa using hb
    have hle : s1.heap.objs.size ≤ b := by
      rcases e' with z | z
      · rw [z]; exact Nat.le_add_right _ _
      · rw [z]; exact Nat.le_refl _
    exact I1.fpOk hle (I1.hok.fresh hle)
theorem ext_tup (l : Addr) (items : Array Value) (n : Nat) (b : Addr) (items2 : Array Value) (n2 : Nat) (d2 : Option Addr) (sl2 : Array (Option Value)) (hs0 : ¬(!items.isEmpty && Builtin.List.listTooLong (items.size + items2.size)) = true) (hs1 : items.size ≤ sizeLine) (hs2 : items.size + items2.size ≤ sizeLine + 1) :
    Meets (Builtin.«list.extend» ⟨[.ref l, .ref b], []⟩) (fun _ R s => (s.heap.get? l = some { cls := .type "list", dict := none, data := .seq items n, slots := #[] } ∧ s.heap.get? b = some { cls := .type "tuple", dict := d2, data := .seq items2 n2, slots := sl2 }) ∧
      R (.ok (.ret Value.none)) { s with heap := s.heap.update l (Obj.mapSeq fun x => x ++ items2), toks := s.toks }) :=
  .of_wp fun prog w A R s h => by
    obtain ⟨hp, g, d, tk, os⟩ := s
    obtain ⟨⟨hl, hb⟩, h⟩ := h
    have f1 := AutoSeq1.idx_int
    have f2 := AutoSeq1.sub_tuple_tuple
    have f3 := AutoSeq1.sub_list_list
    have f4 := AutoSeq1.sub_tuple_list
    have f5 := AutoSeq1.sub_list_tuple
    have hz' : (items ++ items2).size ≤ sizeLine + 1 := by
      rw [Array.size_append]
      exact hs2
    wp_walk using (wpAny_updateSeq hl rfl (hz := hs1) (_hz' := hz')), AutoSeq1.wpAny_loadPart' hl, AutoSeq1.wpAny_loadPart' hb
    exact ⟨_, rfl, h⟩
/-- list.extend of a list or of a tuple -/
def rExtendX (K : PySem.W.Frag) : V → List V → Hp → VK → Prop := fun x vs H Q => rExtend x vs H Q ∨ ∃ l b xs zs, x = .ref l ∧ vs = [.ref b] ∧ H l = some (.lst xs) ∧ SqT K H b zs ∧ xs.length + zs.length ≤ sizeLine ∧ Q .non (upd H l (.lst (xs ++ zs)))
theorem mt_extendX {X : Cx} : MtM X "list.extend" (rExtendX X.K) := by
  intro pins s σ H x vs v us Q I rx rv h
  rcases h with h | h
  · exact mt_extend pins s σ H x vs v us Q I rx rv h
  obtain ⟨l, b, xs, zs, rfl, rfl, hH, hB, hz, q⟩ := h
  cases rx
  obtain ⟨u, rfl, ru⟩ := rv.one
  cases ru
  obtain ⟨z, its, n, r, hl, e⟩ := I.lstM hH
  obtain ⟨its2, r2, p2, hl2⟩ := I.tuple hB
  obtain ⟨⟨c2, d2, dt2, sl2⟩, e2, hc2, n2, hd2⟩ := p2
  have hc2 : c2 = .type "tuple" := hc2
  have hd2 : dt2 = .seq its2.toArray n2 := hd2
  subst hc2 hd2
  have l1 := r.length
  have l2 := r2.length
  have hsz : its.toArray.size + its2.toArray.size ≤ sizeLine := by rw [List.size_toArray, List.size_toArray]; omega
  have hlong : ¬ (!its.toArray.isEmpty && Builtin.List.listTooLong (its.toArray.size + its2.toArray.size)) = true := by
    have : Builtin.List.listTooLong (its.toArray.size + its2.toArray.size) = false := by
      unfold Builtin.List.listTooLong
      exact decide_eq_false (by omega)
    rw [this, Bool.and_false]
    exact Bool.false_ne_true
  refine call_meets F.slot_list_extend ⟨_, e, rfl⟩ F.entry_list_extend (F.args_list_extend_2 _ _) (ext_tup l its.toArray n b its2.toArray n2 d2 sl2 hlong (by rw [List.size_toArray]; omega) (by omega)) ⟨⟨e, e2⟩, ?_⟩
  refine ⟨.non, _, I.lset (its' := its ++ its2) hH e (by simp) (r.append r2) ?_, rfl, q⟩
  rw [List.length_append]
  omega
/-! ### d.pop(k), k a tuple that is there -/
section
variable {K : Type} [DecidableEq K] {prog : Program} {w : World} {knd : HeapKind prog w K}
theorem meetsPop1 {d b : Addr} {k : K} (hd : (d == sysModules) = false) :
    MeetsIn prog w (Builtin.«dict.pop» ⟨[.ref d, .ref b], []⟩) (fun A R s => ∃ xs p, knd.room A.in1 ∧ knd.is s.heap k b ∧ s.heap.DictOfH knd d xs ∧ xs.length ≤ sizeLine ∧ atKey xs k = some p ∧
      ∀ h' tk, h'.DictOfH knd d (DT.dropH xs k) → Heap.SameBut d s.heap h' → R (.ok (.ret p.2)) { s with heap := h', toks := tk }) :=
  .of_wp fun A R s ⟨xs, p, hu, hkey, hm, hsz, hat, hsome⟩ => by
    obtain ⟨o, es, ep, ho, hc, hdat, he, his, hn⟩ := id hm
    have hes : es.size = xs.length := size_of_entries he
    unfold Builtin.«dict.pop»
    refine wpAny_bind ?_
    unfold Builtin.Dict.keyAndDefault
    refine wpAny_bind (wpAny_notOrdered_dict hm.typeIs ?_)
    show wpAny _ _ (pure (d, Value.ref b, none)) _ _ s
    refine wpAny_pure ?_
    have hpart : (keyPart (Value.ref b)).isSome = false := rfl
    simp only [hpart, Bool.false_eq_true, if_false]
    refine wpAny_bind (wpAny_dictEntries ho hdat (wpAny_bind (wpAny_pure ?_)))
    cases hem : es.isEmpty with
    | true =>
      have z : es.size = 0 := by simpa using hem
      have h0 : xs = [] := List.length_eq_zero_iff.mp (by omega)
      rw [h0] at hat
      cases hat
    | false =>
      simp only [Bool.false_eq_true, if_false]
      refine wpAny_bind (DT.takeH hu hkey hm hsz (fun hno => ?_) fun q e hp hev h' hm' hs' => ?_)
      · rw [hat] at hno
        cases hno
      · rw [hat] at hp
        cases hp
        simp only [Option.isNone_some, Bool.false_eq_true, if_false]
        exact wpAny_bind (wpAny_letGo (wpAny_pure ⟨e.val, rfl, by rw [hev]; exact hsome h' _ hm' hs'⟩))
end
def rPop1T : V → List V → Hp → VK → Prop := fun x xs H Q => ∃ (a : Addr) (kvs : List (List L2.Key × V)) (k : List L2.Key) (b : Addr) (v : V), x = .ref a ∧ xs = [.ref b] ∧ H a = some (.dT kvs) ∧ H b = some (.tup (k.map kV)) ∧
  valV kvs k = some v ∧ Q v (upd H a (.dT (dropK kvs k)))
theorem mt_pop1T {X : Cx} (hu : X.A.units + 1 < cLine) : MtR X "dict.pop" rPop1T := by
  intro pins s σ H x xs v us Q I rx rxs h
  obtain ⟨a, kvs, k, b, v0, rfl, rfl, ha, hb, ev, q⟩ := h
  cases rx
  obtain ⟨u1, rfl, r1⟩ := rxs.one
  cases r1
  obtain ⟨z, hd, xs', rel, dd⟩ := dt_of I.hok ha
  have hz : xs'.length ≤ sizeLine := by rw [← Paired.length rel]; exact z
  have r := rel.val k
  rw [ev] at r
  obtain ⟨p, hp, rv⟩ : ∃ p : Addr × Value, atKey xs' k = some p ∧ RelV v0 p.2 := by
    cases ep : atKey xs' k with
    | none =>
      rw [ep] at r
      exact (show False from r).elim
    | some p =>
      rw [ep] at r
      exact ⟨p, rfl, r⟩
  refine call_meetsIn PySem.F.slot_dict_pop dd.typeIs PySem.F.entry_dict_pop (PySem.F.args_dict_pop_2 _ _) (meetsPop1 (knd := tupleKind (mixKind X.prog X.w)) (k := k) hd)
    ⟨xs', p, tupleKind_room_in1 hu, key_of I.hok hb, dd, hz, hp, fun h' tk dd' hs => ?_⟩
  obtain ⟨o, es, ep, hq, h2, h3, h4, _, h5⟩ := dd'
  have I2 : Inv X pins σ (upd H a (.dT (dropK kvs k))) { s with heap := h', toks := tk } :=
    d_write I (by rw [ha]; exact True.intro) hs ⟨o, hq⟩ ⟨Nat.le_trans (dropK_le kvs k) z, hd, _, (L2.DX.KT_drop k rel).keeps (fun c ys ec => (by rw [upd_ne (ne_of ec ha (fun z => nomatch z))]; exact ec)), o, es, ep, hq, h2, h3, h4, h5⟩
  show EP X pins σ Q p.2 _
  exact ⟨v0, _, I2, rv, q⟩
/-! ### d.items(), d locked -/
def ItiT (d : Addr) (o : Obj) (kvs : List (List L2.Key × V)) : It :=
  ⟨fun i H => H d = some (.frz o (.dT kvs)) ∧ i < kvs.length, fun i H x H' => ∃ T k v q, kvs[i]? = some (k, v) ∧ x = .ref T ∧ H q = some (.tup (k.map kV)) ∧ H T = none ∧ H' = upd H T (.tup [.ref q, v]), fun i H => H d = some (.frz o (.dT kvs)) ∧ kvs.length ≤ i⟩
theorem frzTV {X : Cx} {pins : List (Addr × Obj)} {σ : L2.St} {H : Hp} {s : Shared} {d : Addr} {o : Obj} {kvs : List (List L2.Key × V)} (I : Inv X pins σ H s) (h : H d = some (.frz o (.dT kvs))) :
    (d == sysModules) = false ∧ s.heap.get? d = some o ∧ o.ExactDict ∧ ∃ (es : Array DictEntry) (ep : Nat), o.data = .dict es ep ∧ es.size = kvs.length ∧
      ∀ (i : Nat) (k : List L2.Key) (v : V), kvs[i]? = some (k, v) → ∃ (en : DictEntry) (q : Addr), es[i]? = some en ∧ en.key = .ref q ∧ H q = some (.tup (k.map kV)) ∧ RelV v en.val := by
  obtain ⟨hd, z, hs, xs, pr, o', es, ep, ho, hx, hdt, he, _⟩ := I.hok d _ h
  rw [hd] at ho
  cases ho
  refine ⟨hs, hd, hx, es, ep, hdt, ?_, fun i k v e => ?_⟩
  · have l1 : es.size = xs.length := size_of_entries he
    have l2 : kvs.length = xs.length := Paired.length pr
    omega
  · obtain ⟨b, hb, e1, e2, e3⟩ := paired_get pr e
    have q := entry_at he i
    rw [hb] at q
    exact ⟨_, b.2.1, q, rfl, e2, e3⟩
theorem turn_itemsT {P : Program} {w : World} {K : PySem.W.Frag} {d : Addr} {o : Obj} {es : Array DictEntry} {ep : Nat} {kvs : List (List L2.Key × V)} {elts : List Expr} {kk : Nat} {tpos : Pos} (it : Addr) (hod : o.data = .dict es ep) :
    Turn P w K (.Tuple elts kk tpos) (ItiT d o kvs) [it] it (fun i h => ∃ ok ov, IsItemIter h it d i kvs.length ep ok ov) where
  mem := by simp
  obj := fun i h st b hb => by
    have e : b = it := by simpa using hb
    subst e
    obtain ⟨ok, ov, e⟩ := st
    exact ⟨_, e, fun v z => nomatch z⟩
  keep := fun i h h' st k => let ⟨ok, ov, e⟩ := st; ⟨ok, ov, k it (by simp) _ e⟩
  item := by
    intro X hP hw hK hc i pins s σ H E I hf st hg
    subst hP hw hK
    obtain ⟨hd, hi⟩ := hg
    obtain ⟨hs, hgd, hx, es', ep', hdt, hsz, ent⟩ := frzTV I hd
    obtain ⟨rfl, rfl⟩ := dict_ep hod hdt
    obtain ⟨⟨k, v⟩, hkv⟩ : ∃ p, kvs[i]? = some p := ⟨kvs[i], List.getElem?_eq_getElem hi⟩
    obtain ⟨en, q, hen, hkey, hq, rv⟩ := ent i k v hkv
    obtain ⟨ok, ov, he⟩ := st
    rw [← hsz] at he
    have hlt : it < s.heap.objs.size := Heap.lt_size he
    have hie : i < es'.size := by omega
    have hei : es'[i] = en := by
      rw [Array.getElem?_eq_getElem hie] at hen
      exact Option.some.inj hen
    refine DT.nextI he ⟨o, hgd, hx, hdt⟩ hie fun h' ho hT hz hk => ?_
    rw [hei, hkey] at ho hT
    refine ⟨_, rfl, wpAny_letOwnedTupleGo_items (s := { s with heap := h' }) ho fun h'' he' sb => ?_⟩
    have hT2 : h''.get? s.heap.objs.size = some { cls := .type "tuple", data := .seq #[.ref q, en.val] } := (sb.2 _ (Nat.ne_of_gt hlt)).trans hT
    have new : ObjOk X.prog X.w (upd H s.heap.objs.size (.tup [.ref q, v])) h'' s.heap.objs.size (.tup [.ref q, v]) :=
      ⟨by show 2 ≤ sizeLine; decide, [.ref q, en.val], .cons rfl (.cons rv .nil), ⟨_, hT2, rfl, _, rfl⟩⟩
    have I1 : Inv X pins σ (upd H s.heap.objs.size (.tup [.ref q, v])) { s with heap := h'' } :=
      I.turnedNew (t' := s.toks) (ch := [it]) (fun b ob hb e => (sb.2 b (by simpa using hb)).trans (hk b ob (by simpa using hb) e)) hf (Nat.le_refl _) new
    refine ⟨.ref s.heap.objs.size, _, I1, rfl, ⟨_, k, v, q, hkv, rfl, hq, I.hok.fresh (Nat.le_refl _), rfl⟩, ⟨.ref q, en.val, ?_⟩, fun b hb => ?_⟩
    · rw [← hsz]; exact he'
    · have e : b = it := by simpa using hb
      rw [e, upd_ne (Nat.ne_of_lt hlt)]
      exact (hf it (by simp)).1
  done := by
    intro X hP hw hK hc i pins s σ H E I hf st hg
    subst hP hw hK
    obtain ⟨hd, hi⟩ := hg
    obtain ⟨f0, f1, f2, f3, f4, f5⟩ := hf it (by simp)
    obtain ⟨hs, hgd, hx, es', ep', hdt, hsz, ent⟩ := frzTV I hd
    obtain ⟨rfl, rfl⟩ := dict_ep hod hdt
    obtain ⟨ok, ov, he⟩ := st
    rw [← hsz] at he
    exact DT.endI (I.ok.hd hc) he ⟨o, hgd, hx, hdt⟩ (by omega) fun h' eb => ⟨rfl, I.turned (t' := s.toks) (fun b ob hb e => eb b ob hb e) f0 f1 f3 f4 f5⟩
  self := fun A i s Q E st h => let ⟨_, _, e⟩ := st; PySem.W.kcp_self e h
def iItemsT (td : TE) : TI := fun σ H R => td σ H fun x H1 => ∃ d o kvs, x = .ref d ∧ H1 d = some (.frz o (.dT kvs)) ∧ R (ItiT d o kvs) H1
theorem pi_itemsT {X : Cx} {e : Expr} {td : TE} {apos cpos : Pos} {elts : List Expr} {kk : Nat} {tpos : Pos} (he : PE X e td) (hbase : attributeBase e "items" X.env (eval e X.env) = eval e X.env := by rfl) (hline : (apos.endLine == cpos.line) = true := by rfl) :
    PI X (.Tuple elts kk tpos) (.Call (.Attribute e "items" apos) [] [] cpos) (iItemsT td) := by
  refine ⟨fun pins s σ H R I h => ?_⟩
  refine wpAny_Call_method (T := "dict") (id := "dict.items") hbase rfl hline F.plainAttrs_dict F.slot_dict_items F.type_dict_items (thn (he.run pins s σ H _ I h) fun u s1 ⟨x, H1, I1, rx, d, o, kvs, ex, hd, q⟩ => ?_)
  subst ex
  obtain rfl : u = Value.ref d := rx
  obtain ⟨hs, hgd, hx, es, ep, hdt, hsz, ent⟩ := frzTV I1 hd
  have hraw : DT.Raw s1.heap d es ep := ⟨o, hgd, hx, hdt⟩
  refine ⟨hraw.typeIs, fun b e => by cases e; exact ⟨o, hgd, hx.2.1⟩, ?_⟩
  have I2 : Inv X pins σ H1 { s1 with heap := s1.heap.push { cls := .type "dict_items", data := .fields #[.ref d] } } := I1.kept (t' := s1.toks) fun b ob q => Heap.get?_push_of_some _ q
  have fin : wpAny (model X.prog X.w) X.A (pyIter (.ref s1.heap.objs.size)) (PIE X pins σ (.Tuple elts kk tpos) R) X.xe { s1 with heap := s1.heap.push { cls := .type "dict_items", data := .fields #[.ref d] } } := by
    refine DT.iterI (d := d) (es := es) (ep := ep) ⟨_, Heap.get?_push_size _ rfl, rfl, rfl⟩ (hraw.push _) (pi_one (tk := s1.toks) I2 _ (turn_itemsT _ hdt) ⟨.none, .none, ?_⟩ q)
    rw [← hsz]
    exact Heap.get?_push_size _ rfl
  show wpAny _ _ (callWith cpos (.builtin "dict.items") [.ref d] [] []) _ X.xe s1
  exact method_meetsIn F.slot_dict_items F.entry_dict_items rfl (PySem.evalArgs_none ⟨rfl, hraw.typeIs, F.args_dict_items_1 _, _, DT.meetsItems (es := es) (ep := ep) hs, hraw, fin⟩)
/-! ### dict(pairs), keys tuples -/
def mergeT (kvs more : List (List L2.Key × V)) : List (List L2.Key × V) := more.foldl (fun acc kv => putK acc kv.1 kv.2) kvs
theorem mergeT_len : ∀ (more kvs : List (List L2.Key × V)), (mergeT kvs more).length ≤ kvs.length + more.length
  | [], kvs => Nat.le_refl _
  | p :: r, kvs => by
    have a := mergeT_len r (putK kvs p.1 p.2)
    have b := length_putK kvs p.1 p.2
    show (mergeT (putK kvs p.1 p.2) r).length ≤ kvs.length + (r.length + 1)
    omega
abbrev PrT (K : PySem.W.Frag) (H : Hp) (p : Addr) (x : List L2.Key × Addr × V) : Prop := SqT K H p [.ref x.2.1, x.2.2] ∧ H x.2.1 = some (.tup (x.1.map kV))
theorem pairsT {X : Cx} {pins : List (Addr × Obj)} {σ : L2.St} {H : Hp} {s : Shared} (I : Inv X pins σ H s) : ∀ {ps : List Addr} {kbs : List (List L2.Key × Addr × V)}, Paired (PrT X.K H) ps kbs →
    ∃ prs : List (List L2.Key × Addr × Value), prs.length = ps.length ∧ (∀ (j : Nat) (x : List L2.Key × Addr × Value), prs[j]? = some x → ∃ b, ps[j]? = some b ∧ IsTup s.heap b #[.ref x.2.1, x.2.2]) ∧ (∀ x ∈ prs, H x.2.1 = some (.tup (x.1.map kV))) ∧
      ∀ (acc : List (List L2.Key × V)) (es : List (List L2.Key × Addr × Value)), KT H acc es → KT H (mergeT acc (kbs.map fun x => (x.1, x.2.2))) (storedAllH es prs)
  | _, _, .nil => ⟨[], rfl, fun j x e => (by simp at e), fun x h => (by cases h), fun acc es h => h⟩
  | _, _, .cons (a := p) (b := kb) h t => by
    obtain ⟨prs, hl, h1, h2, h3⟩ := pairsT I t
    obtain ⟨hp, hb⟩ := h
    obtain ⟨its, rv, ht, _⟩ := I.tuple hp
    obtain ⟨u, y, ei, ru, ry⟩ := vals2 rv
    subst ei
    cases ru
    refine ⟨(kb.1, kb.2.1, y) :: prs, by rw [List.length_cons, List.length_cons, hl], fun j x e => ?_, fun x hx => ?_, fun acc es hk => ?_⟩
    · cases j with
      | zero =>
        have e' : (kb.1, kb.2.1, y) = x := Option.some.inj e
        subst e'
        exact ⟨p, rfl, ht⟩
      | succ j =>
        obtain ⟨b, e1, e2⟩ := h1 j x (by simpa using e)
        exact ⟨b, by simpa using e1, e2⟩
    · rcases List.mem_cons.mp hx with e | e
      · rw [e]; exact hb
      · exact h2 x e
    · exact h3 _ _ (hk.put kb.1 hb ry)
theorem call_dictPT {X : Cx} (hcalm : X.calm = true) (hu : X.A.units + 64 < cLine) : CallR X (.type "dict") (fun xs H Q => ∃ (a : Addr) (ps : List Addr) (kbs : List (List L2.Key × Addr × V)), xs = [.ref a] ∧ SqL X.K H a (ps.map V.ref) ∧ Paired (PrT X.K H) ps kbs ∧
    ∀ p, H p = none → Q (.ref p) (upd H p (.dT (mergeT [] (kbs.map fun x => (x.1, x.2.2)))))) := by
  intro pins s σ H xs us Q I r q
  obtain ⟨a, ps, kbs, rfl, hq, hp, q⟩ := q
  obtain ⟨u, rfl, rx⟩ := vals1 r
  cases rx
  obtain ⟨its, rv, pl, hz⟩ := I.list hq
  have ei := refs_at rv
  subst ei
  rw [List.length_map] at hz
  obtain ⟨prs, hl, h1, h2, h3⟩ := pairsT I hp
  obtain ⟨o, n, ho, hc, hd, hdat⟩ := pl
  have hpl : (prs.map fun x => ((Value.ref x.2.1, x.2.2) : Value × Value)).length = ps.length := by rw [List.length_map, hl]
  have hget : ∀ (j : Nat) (k v : Value), (prs.map fun x => ((Value.ref x.2.1, x.2.2) : Value × Value))[j]? = some (k, v) → ∃ x, prs[j]? = some x ∧ k = .ref x.2.1 ∧ v = x.2.2 := fun j k v e => by
    rw [List.getElem?_map] at e
    cases ex : prs[j]? with
    | none => rw [ex] at e; cases e
    | some x => rw [ex] at e; cases e; exact ⟨x, rfl, rfl, rfl⟩
  have P := PairArg.list (prog := X.prog) (w := X.w) a (ps.map Value.ref).toArray (fun j => (ps[j]?).getD 0) (prs.map fun x => ((Value.ref x.2.1, x.2.2) : Value × Value))
  have ok : PlainSeq "list" s.heap a (ps.map Value.ref).toArray ∧ PairItems s.heap (ps.map Value.ref).toArray (fun j => (ps[j]?).getD 0) (prs.map fun x => ((Value.ref x.2.1, x.2.2) : Value × Value)) := by
    refine ⟨⟨o, n, ho, hc, hd, hdat⟩, by rw [List.size_toArray, List.length_map, hpl], fun j k v e => ?_⟩
    obtain ⟨x, hx, rfl, rfl⟩ := hget j k v e
    obtain ⟨b, hb, ht⟩ := h1 j x hx
    have e2 : (ps[j]?).getD 0 = b := by rw [hb]; rfl
    show _ = some (Value.ref ((ps[j]?).getD 0)) ∧ PairAt s.heap ((ps[j]?).getD 0) _ _
    rw [e2]
    exact ⟨by simp [hb], .inl ht⟩
  refine call_dict_pairsH (knd := tupleKind (mixKind X.prog X.w)) (ps := prs) P (I.ok.hd hcalm) (show X.A.units + 2 < cLine by omega) ok ⟨by rw [hpl, hl], fun i key v e => ?_⟩ (fun h' hk x hx => ?_) (by rw [hpl]; exact hz) fun h' tk hd' k => ?_
  · obtain ⟨x, hx, rfl, rfl⟩ := hget i key v e
    exact ⟨x.1, x.2.1, hx, rfl⟩
  · have I2 : Inv X pins σ H { s with heap := h' } := I.kept (t' := s.toks) fun b ob e => hk b ob (Nat.ne_of_lt (Heap.lt_size e)) (by simp) e
    exact key_of I2.hok (h2 x hx)
  · have hm : (s.heap.objs.size == sysModules) = false := beq_eq_false_iff_ne.mpr (Nat.ne_of_gt I.big)
    have hkbl : kbs.length = ps.length := (Paired.length hp).symm
    have hlen : (mergeT [] (kbs.map fun x => (x.1, x.2.2))).length ≤ sizeLine := by
      have := mergeT_len (kbs.map fun x => (x.1, x.2.2)) []
      rw [List.length_map, List.length_nil] at this
      omega
    have hkt := h3 [] [] .nil
    have nf : H s.heap.objs.size = none := I.hok.fresh (Nat.le_refl _)
    obtain ⟨o', es, ep, g1, g2, g3, g4, _, g5⟩ := hd'
    exact ⟨.ref s.heap.objs.size, upd H s.heap.objs.size (.dT (mergeT [] (kbs.map fun x => (x.1, x.2.2)))), I.laid (t' := tk) (fun b ob e => k b ob (by simp) e) (Nat.le_refl _)
      ⟨hlen, hm, _, hkt.keeps fun c ys ec => (by rw [upd_ne (fun z => by rw [z, nf] at ec; cases ec)]; exact ec), o', es, ep, g1, g2, g3, g4, g5⟩, rfl, q _ nf⟩
end TD
/-! ### {k: v for target in iter}, keys tuples -/
namespace DcT
open PySem PySem.Spec PyProof.Rows L2
theorem d_dictSetT {X : Cx} {pins : List (Addr × Obj)} {σ : L2.St} {H : Hp} {s : Shared} {E : Value → Shared → Prop} {D b : Addr} {kvs : List (List Key × V)} {k : List Key} {v : V} {u r : Value} {Q : Unit → Shared → Prop} (hu : X.A.units + 1 < cLine) (I : Inv X pins σ H s)
    (hD : H D = some (.dT kvs)) (hz : kvs.length < sizeLine) (eb : H b = some (.tup (k.map kV))) (ry : RelV (.ref b) u) (rv : RelV v r) (h : ∀ s', Inv X pins σ (upd H D (.dT (putK kvs k v))) s' → Q () s') : wpAny (model X.prog X.w) X.A (dictSet D u r) Q E s := by
  cases (show u = Value.ref b from ry)
  obtain ⟨z, hd, xs, rel, dd⟩ := dt_of I.hok hD
  have hzv : xs.length ≤ sizeLine := by rw [← Paired.length rel]; exact z
  have hl : (putK kvs k v).length ≤ sizeLine := by have := length_putK kvs k v; omega
  refine wpAny_dictSet_heap (hsz := hzv) ((show X.A.units < cLine by omega)) (key_of I.hok eb) dd fun h' dd' hs => h _ ?_
  obtain ⟨q, es, ep, hq, h2, h3, h4, _, h5⟩ := dd'
  refine d_write I (by rw [hD]; exact True.intro) hs ⟨q, hq⟩ ⟨hl, hd, _, (rel.put k eb rv).keeps fun c ys ec => ?_, q, es, ep, hq, h2, h3, h4, h5⟩
  rw [upd_ne (ne_of ec hD (fun z => nomatch z))]
  exact ec
section
variable {X : Cx}
/-- {k: v for target in iter if ..}, keys tuples: D the new dict -/
def tDcT (wi : TI) (g : TG) (tt : TT) (tk tv : TE) (vs : List Nat) : TE := fun σ H Q => wi σ H fun J H1 => ∀ D, H1 D = none → ∃ W : Nat → Nat → Hp → Prop, (∃ m, W 0 m (upd H1 D (.dT []))) ∧ ∀ i m H, W i m H →
  (J.stop i H ∧ Q (.ref D) H) ∨ (J.go i H ∧ ∃ Nx : Hp → Prop, (∀ H', Nx H' → ∃ m', m' < m ∧ W (i + 1) m' H') ∧ ∀ x H', J.yld i H x H' → g x (wipe σ vs) H' fun σ2 H2 => wipe σ2 vs = wipe σ vs ∧ tt σ2 H2 fun b H3 =>
    if b = true then tk σ2 H3 fun y H4 => tv σ2 H4 fun z H5 => ∃ kvs k b, y = .ref b ∧ H5 b = some (.tup (k.map kV)) ∧ H5 D = some (.dT kvs) ∧ kvs.length < sizeLine ∧ Nx (upd H5 D (.dT (putK kvs k z))) else Nx H3)
theorem dcT_core {pins : List (Addr × Obj)} {s : Shared} {σ : L2.St} {H : Hp} {Q : VK} {kx vx tg iter : Expr} {ifs : List Expr} {scope : Scope} {own : List (Str × Nat)} {pos pos' : Pos} {wi : TI} {g : TG} {tt : TT} {tk tv : TE} {use : Option (Value → Sem Unit)} {Qf : Value → Shared → Prop}
    (hu : X.A.units + 1 < cLine) (hc : X.calm = true) (hN : X.N.Nodup) (I : Inv X pins σ H s) (hi : PI X tg iter wi) (ok : BlkOk X.N X.env.scope scope own)
    (hg : ∀ (s : Shared) (H : Hp) (C : Addr) (cl : List (Str × Addr)) (fp : List Addr), PG (X.blk s H scope (compEnvC scope cl C X.env) fp) tg g) (ht : ∀ (s : Shared) (H : Hp) (C : Addr) (cl : List (Str × Addr)) (fp : List Addr), PTs (X.blk s H scope (compEnvC scope cl C X.env) fp) ifs tt)
    (hk : ∀ (s : Shared) (H : Hp) (C : Addr) (cl : List (Str × Addr)) (fp : List Addr), PE (X.blk s H scope (compEnvC scope cl C X.env) fp) kx tk)
    (he : ∀ (s : Shared) (H : Hp) (C : Addr) (cl : List (Str × Addr)) (fp : List Addr), PE (X.blk s H scope (compEnvC scope cl C X.env) fp) vx tv) (hs : ∀ x, foldedSetIterable iter X.env x = pure x)
    (h : tDcT wi g tt tk tv (own.map (·.2)) σ H Q)
    (hRR : ∀ D C s' m H', Inv X pins σ H' s' → Q (.ref D) H' → s'.heap.Ns C m → FpOk X pins H' C → compPost (model X.prog X.w) X.A X.xe use Qf (.ref D) C (.ok .next) s') :
    wpAny (model X.prog X.w) X.A (comprehension (.DictComp kx vx [⟨tg, iter, ifs, 0⟩] scope pos) scope X.env pos' newDict false (eval iter X.env) use) Qf X.xe s := by
  have hfree : ∀ y ∈ scope.names, y.2 = .free → ∃ c, X.env.cells.lookup y.1 = some c := fun y hy e => by
    rcases ok.free y hy e with k | k
    · exact I.ok.has _ (.inl k)
    · exact I.ok.has _ (.inr k)
  refine wpAny_comprehension_free (use := use) rfl hs (closure_ok hfree) ok.kind (fun y hy e => by rw [ok.uniq y hy, e])
    (thn (hi.run pins s σ H _ I h) fun xv s1 hx => thn hx fun itv s2 h2 => ?_)
  obtain ⟨it, fp, tn, J, H2, e, I2, T, st2, f2, q⟩ := h2
  subst e
  refine wpAny_newObj_type (newEnv_comp ?_)
  generalize hD : s2.heap.objs.size = D
  have hDn : H2 D = none := I2.hok.fresh (Nat.le_of_eq hD)
  obtain ⟨W, ⟨m0, w0⟩, turn⟩ := q D hDn
  -- the new list
  generalize hs3 : ({ s2 with heap := s2.heap.push { cls := .type "dict", data := .dict #[] } } : Shared) = s3
  have I3 : Inv X pins σ (upd H2 D (.dT [])) s3 := by
    rw [← hs3]
    refine I2.laid (t' := s2.toks) (fun b o e => Heap.get?_push_of_some _ e) (Nat.le_of_eq hD) ?_
    rw [← hD]
    exact dt_empty s2.heap I2.big
  have h3 : s3.heap = s2.heap.push { cls := .type "dict", data := .dict #[] } := by rw [← hs3]
  have sz : ∀ b ∈ fp, b < s2.heap.objs.size := fun b hb => by
    obtain ⟨o, e, _⟩ := T.obj _ _ st2 b hb
    exact Heap.lt_size e
  have f3 : ∀ b ∈ fp, FpOk X pins (upd H2 D (.dT [])) b ∧ b < s3.heap.objs.size := fun b hb => by
    have hlt := sz b hb
    refine ⟨⟨?_, (f2 b hb).2⟩, by rw [h3, Heap.size_push]; exact Nat.lt_succ_of_lt hlt⟩
    rw [upd_ne (by rw [← hD]; exact Nat.ne_of_lt hlt)]
    exact (f2 b hb).1
  have st3 : tn 0 s3.heap := T.keep _ _ _ st2 fun b _ o e => by rw [h3]; exact Heap.get?_push_of_some _ e
  have I4 := block_start I3 ok hN f3
  have pg := hg s3 (upd H2 D (.dT [])) s3.heap.objs.size (cellsFrom (s3.heap.objs.size + 1) scope.names (cloFrom X.env.cells scope.names [])) fp
  have pt := ht s3 (upd H2 D (.dT [])) s3.heap.objs.size (cellsFrom (s3.heap.objs.size + 1) scope.names (cloFrom X.env.cells scope.names [])) fp
  have pk := hk s3 (upd H2 D (.dT [])) s3.heap.objs.size (cellsFrom (s3.heap.objs.size + 1) scope.names (cloFrom X.env.cells scope.names [])) fp
  have pe := he s3 (upd H2 D (.dT [])) s3.heap.objs.size (cellsFrom (s3.heap.objs.size + 1) scope.names (cloFrom X.env.cells scope.names [])) fp
  show codeAny _ _ (.compStart (.DictComp kx vx [⟨tg, iter, ifs, 0⟩] scope pos) 0 (.ref it) (.ref D) (compEnvC scope (cellsFrom (s3.heap.objs.size + 1) scope.names (cloFrom X.env.cells scope.names [])) s3.heap.objs.size X.env)) (compPost (model X.prog X.w) X.A X.xe use Qf (.ref D) s3.heap.objs.size) { s3 with heap := pushCells (s3.heap.push { cls := .type "dict", data := .dict #[] }) scope.names }
  have nfp : ∀ b ∈ fp, (upd H2 D (.dT [])) b = none := fun b hb => (f3 b hb).1.1
  generalize hce : compEnvC scope (cellsFrom (s3.heap.objs.size + 1) scope.names (cloFrom X.env.cells scope.names [])) s3.heap.objs.size X.env = ce at I4 pg pt pk pe ⊢
  have cL : ce.locals = s3.heap.objs.size := by subst hce; rfl
  generalize hH3 : upd H2 D (.dT []) = H3 at I3 I4 pg pt pk pe w0 nfp f3
  generalize hs4 : ({ s3 with heap := pushCells (s3.heap.push { cls := .type "dict", data := .dict #[] }) scope.names } : Shared) = s4 at I4 ⊢
  have st4 : tn 0 s4.heap := T.keep _ _ _ st3 fun b _ o e => by rw [← hs4]; exact pushCells_keeps _ _ _ _ (Heap.get?_push_of_some _ e)
  have stat : ∀ {σ' : L2.St} {H' : Hp} {s' : Shared}, Inv (X.blk s3 H3 scope ce fp) [] σ' H' s' → (∀ b ∈ fp, H' b = none) → ∀ b ∈ fp, FpOk (X.blk s3 H3 scope ce fp) [] H' b := fun {σ' H' s'} I' hn b hb =>
    ⟨hn b hb, (I'.ok.exf b hb).1, I'.ok.exfs b hb, .inl hb, fun x c e => (I'.ok.exf b hb).2 x c e, fun p hp => absurd (show p ∈ ([] : List (Addr × Obj)) ++ [] from hp) (by simp)⟩
  have loop : codeAny (model X.prog X.w) X.A (.compLoop (.DictComp kx vx [⟨tg, iter, ifs, 0⟩] scope pos) 0 (.ref it) (.ref D) ce) (compPost (model X.prog X.w) X.A X.xe use Qf (.ref D) s3.heap.objs.size) s4 := by
    refine compLoop_anyD (fun n s' => ∃ i H', Inv (X.blk s3 H3 scope ce fp) [] (wipe σ (own.map (·.2))) H' s' ∧ tn i s'.heap ∧ (∀ b ∈ fp, H' b = none) ∧ W i n H') ?_ m0 ⟨0, H3, I4, st4, nfp, w0⟩
    rintro n s5 ⟨i, H5, I5, st5, n5, w5⟩
    rcases turn i n H5 w5 with ⟨stop, qq⟩ | ⟨go, Nx, hNx, step⟩
    · have td := T.done (X.blk s3 H3 scope ce fp) rfl rfl rfl hc i [] s5 _ H5 (fun _ _ => False) I5 (stat I5 n5) st5 stop
      refine thnF td fun r s6 ⟨hr, I6⟩ => ?_
      subst hr
      -- back in the def's context
      have I7 : Inv X pins σ H5 s6 := I3.call' (ch := fp) I6.os I6.base I6.hok I6.bare fun b hb => ⟨(f3 b hb).1.2.2.2.1, (f3 b hb).1.2.1, (f3 b hb).1.2.2.2.2.1, (f3 b hb).1.2.2.2.2.2⟩
      have nC : H5 s3.heap.objs.size = none := by
        have z : H5 ce.locals = none := I6.free
        rw [cL] at z
        exact z
      obtain ⟨m, hn, _⟩ := I6.loc
      have hn : s6.heap.Ns ce.locals m := hn
      rw [cL] at hn
      exact hRR D s3.heap.objs.size s6 m H5 I7 qq hn (I3.fpOk (Nat.le_refl _) nC)
    · have ti := T.item (X.blk s3 H3 scope ce fp) rfl rfl rfl hc i [] s5 _ H5 (fun _ _ => False) I5 (stat I5 n5) st5 go
      refine thnF ti fun r s6 ⟨u, hr, h6⟩ => ?_
      subst hr
      refine thnF h6 fun _ s7 ⟨x, H7, I7, r7, y7, st7, n7⟩ => ?_
      have I7' := I7.pinned (stat I7 n7) (T.obj _ _ st7)
      refine thnF (pg.run _ s7 _ H7 x u _ I7' r7 (step x H7 y7)) fun _ s8 ⟨σ8, H8, I8, hw8, q8⟩ => ?_
      refine thnF (pt.run _ s8 σ8 H8 _ I8 q8) fun b s9 ⟨H9, I9, q9⟩ => ?_
      -- the turn's end
      have fin : ∀ {s' : Shared} {H' : Hp}, Inv (X.blk s3 H3 scope ce fp) ([] ++ pinsAt fp s7.heap) σ8 H' s' → Nx H' → ∃ m, m < n ∧ ∃ i H', Inv (X.blk s3 H3 scope ce fp) [] (wipe σ (own.map (·.2))) H' s' ∧ tn i s'.heap ∧ (∀ b ∈ fp, H' b = none) ∧ W i m H' := fun {s' H'} I' nx => by
        obtain ⟨m', hm, w'⟩ := hNx H' nx
        have pin' : ∀ b ∈ fp, ∀ o, s7.heap.get? b = some o → s'.heap.get? b = some o ∧ H' b = none := fun b hb o e =>
          let z := I'.pin (b, o) (List.mem_append_right _ (List.mem_append_right _ (mem_pinsAt hb e)))
          ⟨z.1, z.2.1⟩
        have hl : (wipe σ (own.map (·.2))).length = σ8.length := by rw [← hw8, wipe_length]
        refine ⟨m', hm, i + 1, H', (I'.unpinned (pins := [])).weak hl (fun j v e => ?_), T.keep _ _ _ st7 fun b hb o e => (pin' b hb o e).1, fun b hb => ?_, w'⟩
        · rw [← hw8] at e
          exact (wipe_some e).1
        · obtain ⟨o, e, _⟩ := T.obj _ _ st7 b hb
          exact (pin' b hb o e).2
      cases b with
      | false =>
        simp only [Bool.false_eq_true, if_false] at q9 ⊢
        exact fin I9 q9
      | true =>
        simp only [if_true] at q9 ⊢
        refine thnF (pk.run _ s9 σ8 H9 _ I9 q9) fun z s10 ⟨yk, H10, I10, r10, q10⟩ => ?_
        refine thnF (pe.run _ s10 σ8 H10 _ I10 q10) fun z2 s11 ⟨yv, H11, I11, r11, kvs, k, bb, ek, eb, hD11, hz11, nx⟩ => ?_
        subst ek
        exact d_dictSetT (X := X.blk s3 H3 scope ce fp) hu I11 hD11 hz11 eb r10 r11 fun s12 I12 => fin I12 nx
  exact codeAny_compStart_dict loop (T.self X.A 0 _ _ _ st4 loop)
/-- as a value -/
theorem pe_dcT {kx vx tg iter : Expr} {ifs : List Expr} {scope : Scope} {own : List (Str × Nat)} {pos : Pos} {wi : TI} {g : TG} {tt : TT} {tk tv : TE} (hu : X.A.units + 1 < cLine) (hc : X.calm = true) (hN : X.N.Nodup) (hi : PI X tg iter wi) (ok : BlkOk X.N X.env.scope scope own)
    (hg : ∀ (s : Shared) (H : Hp) (C : Addr) (cl : List (Str × Addr)) (fp : List Addr), PG (X.blk s H scope (compEnvC scope cl C X.env) fp) tg g) (ht : ∀ (s : Shared) (H : Hp) (C : Addr) (cl : List (Str × Addr)) (fp : List Addr), PTs (X.blk s H scope (compEnvC scope cl C X.env) fp) ifs tt)
    (hk : ∀ (s : Shared) (H : Hp) (C : Addr) (cl : List (Str × Addr)) (fp : List Addr), PE (X.blk s H scope (compEnvC scope cl C X.env) fp) kx tk)
    (he : ∀ (s : Shared) (H : Hp) (C : Addr) (cl : List (Str × Addr)) (fp : List Addr), PE (X.blk s H scope (compEnvC scope cl C X.env) fp) vx tv) (hs : ∀ x, foldedSetIterable iter X.env x = pure x := by intro _; rfl) :
    PE X (.DictComp kx vx [⟨tg, iter, ifs, 0⟩] scope pos) (tDcT wi g tt tk tv (own.map (·.2))) := by
  refine ⟨fun pins s σ H Q I h => ?_⟩
  rw [arm_eval_DictComp]
  refine dcT_core hu hc hN I hi ok hg ht hk he hs h fun D C s' m H' I' q hn f => ⟨m, hn, fun h'' sb => ?_⟩
  obtain ⟨f0, f1, f2, f3, f4, f5⟩ := f
  exact ⟨.ref D, H', I'.turned (t' := s'.toks) (fun b o hb e => (sb.2 b hb).trans e) f0 f1 f3 f4 f5, rfl, q⟩
end
end DcT
/-! ### frames -/
def Imm : HO → Bool
  | .tup _ => true
  | .frz _ (.tup _) => true
  | _ => false
/-- all that stood stands, but at the addresses of A; what never changes stands anyway -/
structure Ext (A : List Addr) (H H' : Hp) : Prop where
  keep : ∀ b o, H b = some o → b ∉ A → H' b = some o
  imm : ∀ b o, H b = some o → Imm o = true → H' b = some o
theorem Ext.refl {A : List Addr} (H : Hp) : Ext A H H := ⟨fun _ _ h _ => h, fun _ _ h _ => h⟩
theorem Ext.trans {A B C : List Addr} {H H1 H2 : Hp} (e : Ext A H H1) (f : Ext B H1 H2) (hA : ∀ x ∈ A, x ∈ C) (hB : ∀ x ∈ B, (∃ o, H x = some o) → x ∈ C) : Ext C H H2 :=
  ⟨fun b o h n => f.keep b o (e.keep b o h fun z => n (hA b z)) fun z => n (hB b z ⟨o, h⟩), fun b o h i => f.imm b o (e.imm b o h i) i⟩
theorem Ext.mono {A B : List Addr} {H H1 : Hp} (e : Ext A H H1) (h : ∀ x ∈ A, x ∈ B) : Ext B H H1 := ⟨fun b o q n => e.keep b o q fun z => n (h b z), e.imm⟩
theorem Ext.new {H : Hp} {p : Addr} {o : HO} (h : H p = none) : Ext [] H (upd H p o) :=
  ⟨fun b u e _ => by rw [upd_ne (ne_of_none e h)]; exact e, fun b u e _ => by rw [upd_ne (ne_of_none e h)]; exact e⟩
theorem Ext.wr {H : Hp} {p : Addr} {o u : HO} (h : H p = some o) (n : Imm o = false) : Ext [p] H (upd H p u) :=
  ⟨fun b v e z => by rw [upd_ne (fun q => z (by rw [q]; exact List.mem_singleton.mpr rfl))]; exact e, fun b v e i => by
    rw [upd_ne (fun q => by subst q; rw [h] at e; cases e; rw [n] at i; cases i)]; exact e⟩
theorem Ext.free {A : List Addr} {H H' : Hp} {p : Addr} (e : Ext A H H') (h : H' p = none) (n : p ∉ A) : H p = none := by
  cases q : H p with
  | none => rfl
  | some o => rw [e.keep p o q n] at h; cases h
theorem Ext.snoc {A C : List Addr} {H H1 H2 : Hp} (f : Ext A H1 H2) (e : Ext C H H1) (hA : ∀ x ∈ A, (∃ o, H x = some o) → x ∈ C) : Ext C H H2 := e.trans f (fun _ h => h) hA
theorem sub0 {H : Hp} {C : List Addr} : ∀ x ∈ ([] : List Addr), (∃ o, H x = some o) → x ∈ C := fun _ h => by cases h
theorem sub1 {H : Hp} {C : List Addr} {a : Addr} (m : a ∈ C) : ∀ x ∈ [a], (∃ o, H x = some o) → x ∈ C := fun x h _ => by rw [List.mem_singleton.mp h]; exact m
theorem sub1f {H : Hp} {C : List Addr} {a : Addr} (m : H a = none) : ∀ x ∈ [a], (∃ o, H x = some o) → x ∈ C := fun x h ⟨o, e⟩ => by rw [List.mem_singleton.mp h, m] at e; cases e
theorem subC {H : Hp} {C A : List Addr} {a : Addr} (m : a ∈ C) (r : ∀ x ∈ A, (∃ o, H x = some o) → x ∈ C) : ∀ x ∈ a :: A, (∃ o, H x = some o) → x ∈ C := fun x h z => by
  rcases List.mem_cons.mp h with q | q
  · rw [q]; exact m
  · exact r x q z
theorem subCf {H : Hp} {C A : List Addr} {a : Addr} (m : H a = none) (r : ∀ x ∈ A, (∃ o, H x = some o) → x ∈ C) : ∀ x ∈ a :: A, (∃ o, H x = some o) → x ∈ C := fun x h z => by
  rcases List.mem_cons.mp h with q | q
  · obtain ⟨o, e⟩ := z
    rw [q, m] at e; cases e
  · exact r x q z
theorem nin0 {b : Addr} : b ∉ ([] : List Addr) := List.not_mem_nil
theorem nin1 {b x : Addr} (h : b ≠ x) : b ∉ [x] := fun z => h (List.mem_singleton.mp z)
theorem ninC {b x : Addr} {A : List Addr} (h : b ≠ x) (g : b ∉ A) : b ∉ (x :: A) := fun z => (List.mem_cons.mp z).elim h g
theorem Rd.ext {A : List Addr} {H H' : Hp} {a : Addr} {u : HO} (e : Ext A H H') (h : Rd H a u) (n : a ∉ A) : Rd H' a u := by
  rcases h with h | ⟨o, h⟩
  · exact .inl (e.keep _ _ h n)
  · exact .inr ⟨o, e.keep _ _ h n⟩
theorem sqT_ext {K : PySem.W.Frag} {A : List Addr} {H H' : Hp} {a : Addr} {xs : List V} (e : Ext A H H') (h : SqT K H a xs) : SqT K H' a xs := by
  rcases h with (h | ⟨o, h⟩) | h
  · exact .inl (.inl (e.imm _ _ h rfl))
  · exact .inl (.inr ⟨o, e.imm _ _ h rfl⟩)
  · exact .inr h
theorem sqL_ext {K : PySem.W.Frag} {A : List Addr} {H H' : Hp} {a : Addr} {xs : List V} (e : Ext A H H') (h : SqL K H a xs) (n : ∀ o, H a = some o → a ∉ A) : SqL K H' a xs := by
  rcases h with (h | ⟨o, h⟩) | h
  · exact .inl (.inl (e.keep _ _ h (n _ h)))
  · exact .inl (.inr ⟨o, e.keep _ _ h (n _ h)⟩)
  · exact .inr h
theorem sqT_cast {K : PySem.W.Frag} {H : Hp} {a : Addr} {xs ys : List V} (h : SqT K H a xs) (e : xs = ys) : SqT K H a ys := e ▸ h
theorem sqL_ext0 {K : PySem.W.Frag} {H H' : Hp} {a : Addr} {xs : List V} (e : Ext [] H H') (h : SqL K H a xs) : SqL K H' a xs := sqL_ext e h fun _ _ => nin0
/-- a new object o, its place any free one -/
def NewO (H : Hp) (o : HO) (R : Addr → Hp → Prop) : Prop := ∀ p H', H p = none → Ext [] H H' → H' p = some o → R p H'
theorem NewO.raw {H : Hp} {o : HO} {R : Addr → Hp → Prop} (h : NewO H o R) : ∀ p, H p = none → R p (upd H p o) := fun p hp => h p _ hp (Ext.new hp) upd_same
/-- a reading's end, weakened -/
def stA (t : TA) : TA := fun σ H Q => ∃ R : List V → Hp → Prop, t σ H R ∧ ∀ xs H', R xs H' → Q xs H'
def stE (t : TE) : TE := fun σ H Q => ∃ R : V → Hp → Prop, t σ H R ∧ ∀ x H', R x H' → Q x H'
theorem PA.star {X : Cx} {es : List Expr} {t : TA} (h : PA X es t) : PA X es (stA t) := by
  constructor
  rintro pos pn st sl hp R J ⟨R1, a, b⟩
  apply thn (h.run pos pn st sl hp R1 J a)
  rintro us s1 ⟨vs, H1, J1, rv, q⟩
  exact ⟨vs, H1, J1, rv, b _ _ q⟩
theorem PE.star {X : Cx} {e : Expr} {t : TE} (h : PE X e t) : PE X e (stE t) := by
  constructor
  rintro pn st sl hp R J ⟨R1, a, b⟩
  apply thn (h.run pn st sl hp R1 J a)
  rintro u s1 ⟨v, H1, J1, rv, q⟩
  exact ⟨v, H1, J1, rv, b _ _ q⟩
def stG (g : TG) : TG := fun v σ H Q => ∃ R : L2.St → Hp → Prop, g v σ H R ∧ ∀ a b, R a b → Q a b
def stT (t : TT) : TT := fun σ H Q => ∃ R : Bool → Hp → Prop, t σ H R ∧ ∀ a b, R a b → Q a b
theorem PG.star {X : Cx} {e : Expr} {g : TG} (h : PG X e g) : PG X e (stG g) := by
  constructor
  rintro pn st sl hp v u Q J rv ⟨R, a, b⟩
  apply thn (h.run pn st sl hp v u R J rv a)
  rintro _ s1 ⟨sl1, H1, J1, q⟩
  exact ⟨sl1, H1, J1, b _ _ q⟩
theorem PTs.star {X : Cx} {ifs : List Expr} {t : TT} (h : PTs X ifs t) : PTs X ifs (stT t) := by
  constructor
  rintro pn st sl hp Q J ⟨R, a, b⟩
  apply thn (h.run pn st sl hp R J a)
  rintro c s1 ⟨H1, J1, q⟩
  exact ⟨H1, J1, b _ _ q⟩
theorem stE.mono {t : TE} {σ : L2.St} {H : Hp} {Q R : V → Hp → Prop} (h : stE t σ H Q) (w : ∀ a b, Q a b → R a b) : stE t σ H R := let ⟨S, a, b⟩ := h; ⟨S, a, fun x y z => w _ _ (b x y z)⟩
theorem stG.mono {t : TG} {v : V} {σ : L2.St} {H : Hp} {Q R : L2.St → Hp → Prop} (h : stG t v σ H Q) (w : ∀ a b, Q a b → R a b) : stG t v σ H R := let ⟨S, a, b⟩ := h; ⟨S, a, fun x y z => w _ _ (b x y z)⟩
theorem stT.mono {t : TT} {σ : L2.St} {H : Hp} {Q R : Bool → Hp → Prop} (h : stT t σ H Q) (w : ∀ a b, Q a b → R a b) : stT t σ H R := let ⟨S, a, b⟩ := h; ⟨S, a, fun x y z => w _ _ (b x y z)⟩
/-- what a loop over J asks; what a list comprehension over J asks -/
def ForGoal (J : It) (g : TG) (tb : TS) (D : Ends) (σ : L2.St) (H : Hp) : Prop := ∃ W : Nat → Nat → L2.St → Hp → Prop, (∃ m, W 0 m σ H) ∧ ∀ i m σ H, W i m σ H →
  (J.stop i H ∧ D.nx σ H) ∨ (J.go i H ∧ ∃ N : L2.St → Hp → Prop, (∀ σ' H', N σ' H' → ∃ m', m' < m ∧ W (i + 1) m' σ' H') ∧ ∀ x H', J.yld i H x H' → g x σ H' fun σ2 H2 => tb { D with nx := N, ct := N, bk := D.nx } σ2 H2)
def LcGoal (J : It) (g : TG) (tt : TT) (te : TE) (vs : List Nat) (σ : L2.St) (H1 : Hp) (Q : VK) : Prop := ∀ D, H1 D = none → ∃ W : Nat → Nat → Hp → Prop, (∃ m, W 0 m (upd H1 D (.lst []))) ∧ ∀ i m H, W i m H →
  (J.stop i H ∧ Q (.ref D) H) ∨ (J.go i H ∧ ∃ Nx : Hp → Prop, (∀ H', Nx H' → ∃ m', m' < m ∧ W (i + 1) m' H') ∧ ∀ x H', J.yld i H x H' → g x (wipe σ vs) H' fun σ2 H2 => wipe σ2 vs = wipe σ vs ∧ tt σ2 H2 fun b H3 =>
    if b = true then te σ2 H3 fun y H4 => ∃ acc, H4 D = some (.lst acc) ∧ acc.length < sizeLine ∧ Nx (upd H4 D (.lst (acc ++ [y]))) else Nx H3)
theorem g_forW {J : It} {n : Nat} {G : Hp → Prop} {Y : Nat → Hp → V → Hp → Prop} (w : Walk J n G Y) {g : TG} {tb : TS} {D : Ends} {σ : L2.St} {H : Hp} (Pv : Nat → L2.St → Hp → Prop) (h0 : Pv 0 σ H) (hG : ∀ i σ H, i ≤ n → Pv i σ H → G H)
    (hs : ∀ i x σ H H', i < n → Pv i σ H → Y i H x H' → g x σ H' fun σ2 H2 => tb { D with nx := Pv (i + 1), ct := Pv (i + 1), bk := D.nx } σ2 H2) (hd : ∀ σ H, Pv n σ H → D.nx σ H) : ForGoal J g tb D σ H := for_it w Pv h0 hG hs hd
theorem g_lcW {J : It} {n : Nat} {G : Hp → Prop} {Y : Nat → Hp → V → Hp → Prop} (w : Walk J n G Y) {g : TG} {tt : TT} {te : TE} {vs : List Nat} {σ : L2.St} {H1 : Hp} {Q : VK} (Pv : Addr → Nat → Hp → List V → Prop)
    (h0 : ∀ D H', H1 D = none → Ext [] H1 H' → H' D = some (.lst []) → Pv D 0 H' []) (hG : ∀ D i H acc, i ≤ n → Pv D i H acc → G H)
    (hs : ∀ D i x H H' acc, i < n → Pv D i H acc → H D = some (.lst acc) → Y i H x H' → stG g x (wipe σ vs) H' fun σ2 H2 => wipe σ2 vs = wipe σ vs ∧ stT tt σ2 H2 fun b H3 =>
      if b = true then stE te σ2 H3 fun y H4 => H4 D = some (.lst acc) ∧ acc.length < sizeLine ∧ ∀ H5, Ext [D] H4 H5 → H5 D = some (.lst (acc ++ [y])) → Pv D (i + 1) H5 (acc ++ [y]) else Pv D (i + 1) H3 acc ∧ H3 D = some (.lst acc))
    (hd : ∀ D H acc, Pv D n H acc → H D = some (.lst acc) → Q (.ref D) H) : LcGoal J (stG g) (stT tt) (stE te) vs σ H1 Q := by
  intro D hD
  apply lc_it w (fun i H => ∃ acc, Pv D i H acc ∧ H D = some (.lst acc))
  · exact ⟨[], h0 D _ hD (Ext.new hD) upd_same, upd_same⟩
  · rintro i H hi ⟨acc, p, _⟩
    exact hG D i H acc hi p
  · rintro i x H H' hi ⟨acc, p, e⟩ y
    refine (hs D i x H H' acc hi p e y).mono fun σ2 H2 ⟨q1, q2⟩ => ⟨q1, q2.mono fun b H3 q3 => ?_⟩
    cases b with
    | true => exact stE.mono q3 fun z H4 ⟨a1, a2, a3⟩ => ⟨acc, a1, a2, acc ++ [z], a3 _ (Ext.wr a1 rfl) upd_same, upd_same⟩
    | false => exact ⟨acc, q3.1, q3.2⟩
  · rintro H ⟨acc, p, e⟩
    exact hd D H acc p e
theorem PE.weak {X : Cx} {e : Expr} {t t' : TE} (h : PE X e t) (w : ∀ σ H Q, t' σ H Q → t σ H Q) : PE X e t' := ⟨fun pn st sl hp R J a => h.run pn st sl hp R J (w _ _ _ a)⟩
theorem PS.weak {X : Cx} {e : Stmt} {t t' : TS} (h : PS X e t) (w : ∀ D σ H, t' D σ H → t D σ H) : PS X e t' := ⟨fun pn st sl hp R J a => h.run pn st sl hp R J (w _ _ _ a)⟩
/-- a statement that ends in J, whence the rest goes on -/
def tJoin (t u : TS) : TS := fun D σ H => ∃ J : L2.St → Hp → Prop, t { D with nx := J } σ H ∧ ∀ σ' H', J σ' H' → u D σ' H'
theorem pss_join {X : Cx} {st : Stmt} {rest : List Stmt} {t u : TS} (h1 : PS X st t) (h2 : PSs X rest u) : PSs X (st :: rest) (tJoin t u) := by
  constructor
  rintro pn s0 sl hp D J ⟨R, a, b⟩
  apply wpAny_execs_cons
  apply thn (h1.run pn s0 sl hp { D with nx := R } J a)
  intro f s1 q
  cases f with
  | next =>
    obtain ⟨sl2, hp2, J2, r⟩ := q
    exact h2.run pn s1 sl2 hp2 D J2 (b _ _ r)
  | ret v => exact q
  | brk => exact q
  | cont => exact q
/-! ### facts of the top -/
structure GF (K : PySem.W.Frag) (mg : Str → Option Value) (x : Str) (st : Stmt) (ps : List Str) (f : Addr) (fd : FuncData) : Prop where
  F : Fun K x x st f fd
  mg : mg x = some (.ref f)
  kp : PySem.W.keepIn K (.ref f) = true
  b : Binds K fd ps []
structure MF (K : PySem.W.Frag) (x q : Str) (st : Stmt) (ps : List Str) (C f : Addr) (fd : FuncData) : Prop where
  F : Fun K x q st f fd
  me : Meth K C x f
  b : Binds K fd ps []
def NA (K : PySem.W.Frag) (C : Addr) (ats : List Str) : Prop := ∀ x ∈ ats, NoAttr K C x
theorem na_of {K : PySem.W.Frag} {C : Addr} {ats : List Str} {f : Str} (h : NA K C ats) (m : f ∈ ats) : NoAttr K C f := h f m
structure CF (K : PySem.W.Frag) (mg : Str → Option Value) (x : Str) (ats : List Str) (C fi : Addr) : Prop where
  mg : mg x = some (.ref C)
  cl : Cls K C
  make : Mk K C fi
  na : NA K C ats
def GV (K : PySem.W.Frag) (mg : Str → Option Value) (x : Str) (v : V) : Prop := ∃ u, mg x = some u ∧ RelV v u
/-! ### rules that take several kinds of values -/
section
variable {X : Cx}
theorem pe_g {x : Str} {v : V} {pos : Pos} (hg : Gl X x) (h : GV X.K X.mg x v) (hd : (x == ("__debug__" : Str)) = false := by decide) : PE X (.Name x pos) (tC v) := by
  obtain ⟨u, h1, h2⟩ := h
  exact pe_glob hg h1 h2 hd
theorem OpR.or {f : Value → Value → Sem Value} {r r' : R2} (h : OpR X f r) (h' : OpR X f r') : OpR X f (fun x y H Q => r x y H Q ∨ r' x y H Q) := by
  intro pins s σ H x y v u Q I rx ry q
  rcases q with q | q
  · exact h pins s σ H x y v u Q I rx ry q
  · exact h' pins s σ H x y v u Q I rx ry q
/-- + of ints, texts, tuples, lists -/
def rAddX (K : PySem.W.Frag) : R2 := fun x y H Q => match x, y with
  | .int i, .int j => Q (.int (i + j)) H
  | .int i, .bl k => Q (.int (i + PyProof.Rows.b2i k)) H
  | .str i, .str j => i.length + j.length ≤ sizeLine ∧ Q (.str (i ++ j)) H
  | .ref a, .ref b => (∃ xs ys, SqT K H a xs ∧ SqT K H b ys ∧ xs.length + ys.length ≤ sizeLine ∧ ∀ c H', Ext [] H H' → SqT K H' c (xs ++ ys) → Q (.ref c) H') ∨
      ∃ xs ys, H a = some (.lst xs) ∧ H b = some (.lst ys) ∧ xs.length + ys.length ≤ sizeLine ∧ NewO H (.lst (xs ++ ys)) fun p H' => Q (.ref p) H'
  | _, _ => False
theorem o_add : OpR X (binaryOp .Add) (rAddX X.K) := by
  intro pins s σ H x y v u Q I rx ry h
  unfold rAddX at h
  split at h
  · exact op_add pins s σ H _ _ v u Q I rx ry ⟨_, _, rfl, rfl, h⟩
  · exact op_add_ib pins s σ H _ _ v u Q I rx ry ⟨_, _, rfl, rfl, h⟩
  · exact op_add_str pins s σ H _ _ v u Q I rx ry ⟨_, _, rfl, rfl, h.1, h.2⟩
  · rcases h with ⟨xs, ys, h1, h2, hz, q⟩ | ⟨xs, ys, h1, h2, hz, q⟩
    · refine op_catA pins s σ H _ _ v u Q I rx ry ⟨_, _, xs, ys, rfl, rfl, h1, h2, hz, fun e => ?_, fun _ e => ?_, fun _ _ p hp => ?_⟩
      · subst e; exact q _ _ (Ext.refl H) h2
      · subst e; exact q _ _ (Ext.refl H) (by rw [List.append_nil]; exact h1)
      · exact q _ _ (Ext.new hp) (SqT.of upd_same)
    · exact op_cat pins s σ H _ _ v u Q I rx ry ⟨_, _, xs, ys, rfl, rfl, h1, h2, hz, q.raw⟩
  · exact h.elim
/-- slices of tuples, lists, texts -/
def rSlX (K : PySem.W.Frag) : V → Option Int → Option Int → Hp → VK → Prop := fun x lo hi H Q => match x with
  | .ref a => (∃ xs, SqT K H a xs ∧ ∀ c H', Ext [] H H' → SqT K H' c (cutV xs lo hi) → Q (.ref c) H') ∨ ∃ xs, SqL K H a xs ∧ NewO H (.lst (cutV xs lo hi)) fun p H' => Q (.ref p) H'
  | .str z => z.length ≤ sizeLine ∧ Q (.str (cutS z lo hi)) H
  | _ => False
theorem cutV_whole {xs : List V} {lo hi : Option Int} (h : HT.sIx xs.length 0 lo = 0 ∧ HT.sIx xs.length xs.length hi = xs.length) : cutV xs lo hi = xs := by
  unfold cutV
  rw [h.1, h.2, List.drop_zero, Nat.sub_zero, List.take_length]
theorem o_sl : SlR X (rSlX X.K) := by
  intro pins s σ H x v vl vu lo hi sl Q I rx hs pl pu h
  unfold rSlX at h
  split at h
  · rcases h with ⟨xs, h1, q⟩ | ⟨xs, h1, q⟩
    · refine sl_tupA pins s σ H _ v vl vu lo hi sl Q I rx hs pl pu ⟨_, xs, rfl, h1, fun e => ?_, fun _ p hp => ?_⟩
      · exact q _ _ (Ext.refl H) (by rw [cutV_whole e]; exact h1)
      · exact q _ _ (Ext.new hp) (SqT.of upd_same)
    · exact sl_list pins s σ H _ v vl vu lo hi sl Q I rx hs pl pu ⟨_, xs, rfl, h1, q.raw⟩
  · exact sl_str pins s σ H _ v vl vu lo hi sl Q I rx hs pl pu ⟨_, rfl, h.1, h.2⟩
  · exact h.elim
theorem CMul.left {i j : Int} (h : -(2 ^ 64) < i ∧ i < 2 ^ 64) : CMul i j := .inl h
theorem CMul.right {i j : Int} (h : -(2 ^ 64) < j ∧ j < 2 ^ 64) : CMul i j := .inr h
def rMulX : R2 := fun x y H Q => match x, y with
  | .int i, .int j => CMul i j ∧ Q (.int (i * j)) H
  | _, _ => rRep x y H Q
theorem o_mul : OpR X (binaryOp .Mult) rMulX := by
  intro pins s σ H x y v u Q I rx ry h
  unfold rMulX at h
  split at h
  · exact op_mul pins s σ H _ _ v u Q I rx ry ⟨_, _, rfl, rfl, h.1, h.2⟩
  · exact op_rep pins s σ H _ _ v u Q I rx ry h
def rEqX (K : PySem.W.Frag) : R2 := fun x y H Q => rEq x y H Q ∨ rEqD K x y H Q
def rNeX (K : PySem.W.Frag) : R2 := fun x y H Q => rNe x y H Q ∨ rNeD K x y H Q
theorem o_eq (hu : X.A.units + 64 < cLine) : OpR X (compareOp .Eq) (rEqX X.K) := OpR.or op_eq (op_eqD hu)
theorem o_ne (hu : X.A.units + 64 < cLine) : OpR X (compareOp .NotEq) (rNeX X.K) := OpR.or op_ne (op_neD hu)
def rInt1 : List V → Hp → VK → Prop := fun xs H Q => match xs with
  | [.int i] => Q (.int i) H
  | [.bl k] => Q (.int (if k then 1 else 0)) H
  | _ => False
theorem o_int : CallR X (.type "int") rInt1 := by
  intro pins s σ H xs us Q I r h
  unfold rInt1 at h
  split at h
  · exact call_int1 pins s σ H _ us Q I r (.inl ⟨_, rfl, h⟩)
  · exact call_int1 pins s σ H _ us Q I r (.inr ⟨_, rfl, h⟩)
  · exact h.elim
def rMin2 : List V → Hp → VK → Prop := fun xs H Q => match xs with
  | [.int i, .int j] => Q (.int (min i j)) H
  | _ => False
def rMax2 : List V → Hp → VK → Prop := fun xs H Q => match xs with
  | [.int i, .int j] => Q (.int (max i j)) H
  | _ => False
theorem o_min (hc : X.calm = true) : CallR X (.builtin "min") rMin2 := by
  intro pins s σ H xs us Q I r h
  unfold rMin2 at h
  split at h
  · rename_i i j
    refine call_min2 hc pins s σ H _ us Q I r ⟨_, _, rfl, ?_⟩
    have e : (if j < i then j else i) = min i j := by split <;> omega
    rw [e]; exact h
  · exact h.elim
theorem o_max (hc : X.calm = true) : CallR X (.builtin "max") rMax2 := by
  intro pins s σ H xs us Q I r h
  unfold rMax2 at h
  split at h
  · rename_i i j
    refine call_max2 hc pins s σ H _ us Q I r ⟨_, _, rfl, ?_⟩
    have e : (if j > i then j else i) = max i j := by split <;> omega
    rw [e]; exact h
  · exact h.elim
def rAbs : List V → Hp → VK → Prop := fun xs H Q => match xs with
  | [.int i] => Q (.int (i.natAbs : Int)) H
  | _ => False
theorem o_abs : CallR X (.builtin "abs") rAbs := by
  intro pins s σ H xs us Q I r h
  unfold rAbs at h
  split at h
  · rename_i i
    refine call_abs pins s σ H _ us Q I r ⟨_, rfl, ?_⟩
    have e : (if i < 0 then -i else i) = (i.natAbs : Int) := by split <;> omega
    rw [e]; exact h
  · exact h.elim
def tTupX (t : TA) : TE := fun σ H Q => t σ H fun xs H1 => xs.length ≤ sizeLine ∧ NewO H1 (.tup xs) fun p H' => Q (.ref p) H'
def tLstX (t : TA) : TE := fun σ H Q => t σ H fun xs H1 => xs.length ≤ sizeLine ∧ NewO H1 (.lst xs) fun p H' => Q (.ref p) H'
theorem pe_tupX {es : List Expr} {t : TA} {k : Nat} {pos : Pos} (h : PA X es t) : PE X (.Tuple es k pos) (tTupX t) :=
  PE.weak (pe_tup (PA.star h)) fun _ _ _ q => ⟨_, q, fun _ _ ⟨l, n⟩ => ⟨l, n.raw⟩⟩
theorem pe_lstX {es : List Expr} {t : TA} {pos : Pos} (h : PA X es t) : PE X (.List es pos) (tLstX t) :=
  PE.weak (pe_lst (PA.star h)) fun _ _ _ q => ⟨_, q, fun _ _ ⟨l, n⟩ => ⟨l, n.raw⟩⟩
def rLenX (K : PySem.W.Frag) : List V → Hp → VK → Prop := fun xs H Q => match xs with
  | [.ref a] => (∃ ys, (SqL K H a ys ∨ SqT K H a ys) ∧ Q (.int ys.length) H) ∨ ∃ kvs, H a = some (.dK kvs) ∧ Q (.int kvs.length) H
  | [.str z] => z.length ≤ sizeLine ∧ Q (.int z.length) H
  | _ => False
theorem o_len : CallR X (.builtin "len") (rLenX X.K) := by
  intro pins s σ H xs us Q I r h
  unfold rLenX at h
  split at h
  · rcases h with ⟨ys, e, q⟩ | ⟨kvs, e, q⟩
    · exact call_len_seq pins s σ H _ us Q I r ⟨_, ys, rfl, e, q⟩
    · exact call_lenD pins s σ H _ us Q I r ⟨_, kvs, rfl, e, q⟩
  · exact call_len_str pins s σ H _ us Q I r ⟨_, rfl, h.1, h.2⟩
  · exact h.elim
def rListX (K : PySem.W.Frag) : List V → Hp → VK → Prop := fun xs H Q => match xs with
  | [.ref a] => ∃ ys, (SqL K H a ys ∨ SqT K H a ys) ∧ NewO H (.lst ys) fun p H' => Q (.ref p) H'
  | _ => False
theorem o_list : CallR X (.type "list") (rListX X.K) := by
  intro pins s σ H xs us Q I r h
  unfold rListX at h
  split at h
  · obtain ⟨ys, e, q⟩ := h
    exact call_list_of pins s σ H _ us Q I r ⟨_, ys, rfl, e, q.raw⟩
  · exact h.elim
def rTupX (K : PySem.W.Frag) : List V → Hp → VK → Prop := fun xs H Q => match xs with
  | [.ref a] => (∃ ys, SqL K H a ys ∧ NewO H (.tup ys) fun p H' => Q (.ref p) H') ∨ ∃ ys, SqT K H a ys ∧ Q (.ref a) H
  | _ => False
theorem o_tuple : CallR X (.type "tuple") (rTupX X.K) := by
  intro pins s σ H xs us Q I r h
  unfold rTupX at h
  split at h
  · rcases h with ⟨ys, e, q⟩ | ⟨ys, e, q⟩
    · exact call_tuple_of pins s σ H _ us Q I r ⟨_, ys, rfl, .inl ⟨e, q.raw⟩⟩
    · exact call_tuple_of pins s σ H _ us Q I r ⟨_, ys, rfl, .inr ⟨e, q⟩⟩
  · exact h.elim
theorem kkTup {K : PySem.W.Frag} {e : Expr} {n : Nat} {t : TGs} (h : X.K = K) (c : PG X e (gTup X.K n t)) : PG X e (gTup K n t) := h ▸ c
theorem kkCallR {K : PySem.W.Frag} {v : Value} {r : PySem.W.Frag → List V → Hp → VK → Prop} (h : X.K = K) (c : CallR X v (r X.K)) : CallR X v (r K) := h ▸ c
theorem kkOpR {K : PySem.W.Frag} {f : Value → Value → Sem Value} {r : PySem.W.Frag → R2} (h : X.K = K) (c : OpR X f (r X.K)) : OpR X f (r K) := h ▸ c
theorem kkIxR {K : PySem.W.Frag} {r : PySem.W.Frag → R2} (h : X.K = K) (c : IxR X (r X.K)) : IxR X (r K) := h ▸ c
theorem kkSlR {K : PySem.W.Frag} {r : PySem.W.Frag → V → Option Int → Option Int → Hp → VK → Prop} (h : X.K = K) (c : SlR X (r X.K)) : SlR X (r K) := h ▸ c
theorem iop_catT : OpR X (inplaceOp .Add) (fun _ _ _ _ => False) := fun _ _ _ _ _ _ _ _ _ _ _ _ h => h.elim
def rIAddX : R2 := fun x y H Q => match x, y with
  | .int i, .int j => Q (.int (i + j)) H
  | .str i, .str j => i.length + j.length ≤ sizeLine ∧ Q (.str (i ++ j)) H
  | _, _ => False
theorem o_iadd : PIp X .Add rIAddX := by
  intro pins s σ H x y v u Q I rx ry h
  unfold rIAddX at h
  split at h
  · exact iop_add pins s σ H _ _ v u Q I rx ry ⟨_, _, rfl, rfl, h⟩
  · exact iop_add_str pins s σ H _ _ v u Q I rx ry ⟨_, _, rfl, rfl, h.1, h.2⟩
  · exact h.elim
theorem o_inadd : InOp X .Add rIAddX := fun pins s σ H x y u v Q I rx ry h => o_iadd pins s σ H x y u v Q I rx ry h
end
/-- C(..): as tMake, the new heap by what is known of it -/
def tMakeX (C : Addr) (sp : Sp) (dvs : List V) (E : XK) (t : TA) : TE := fun σ H Q => t σ H fun vs H1 => ∀ x dx H', H1 x = none → Ext [] H1 H' → H' x = some (.ins C dx []) →
  sp (.ref x :: (vs ++ dvs)) H' (fun v H2 => v = .non ∧ Q (.ref x) H2) E
theorem Ext.made {H : Hp} {x dx C : Addr} (h1 : H x = none) (h2 : H dx = none) : Ext [] H (upd (upd H dx (.own x)) x (.ins C dx [])) :=
  ⟨fun b o e _ => by rw [upd_ne (ne_of_none e h1), upd_ne (ne_of_none e h2)]; exact e, fun b o e _ => by rw [upd_ne (ne_of_none e h1), upd_ne (ne_of_none e h2)]; exact e⟩
section
variable {X : Cx} {CX : CXT} {k : Nat} {f C : Addr} {fd : FuncData} {ps : List Str} {sp : Sp} {dvs : List V} {ds : List Value} {E : XK} {x : Str} {p pos : Pos} {e : Expr} {es : List Expr} {t : TA}
theorem pe_makeX (M : Mk X.K C f) (F : FnOk X.prog X.w X.K X.mg X.base CX k f fd ps sp) (hr : Room (k + 1) X.A) (hg : Gl X x) (hm : X.mg x = some (.ref C)) (hb : Binds X.K fd ps ds) (hd : Vals dvs ds) (hx : Passes CX X E)
    (ha : PA X (e :: es) t) (hq : (x == ("__debug__" : Str)) = false := by decide) (he : starEach (e :: es) X.env = (false, eval e X.env) :: starEach es X.env := by rfl) (hl : (backTo pos (starEach es X.env)).any (·.1) = false := by rfl) :
    PE X (.Call (.Name x p) (e :: es) [] pos) (tMakeX C sp dvs E t) := by
  constructor
  intro pn st0 sl hp R J hh
  apply wpAny_Call_Name_kw
  apply ld_glob J hg hm (hd := hq)
  apply PySem.W.callWith_K (h₀ := X.base) J.ok.mod.kin M.kp _ he hl
  apply thn (ha.run pos pn st0 sl hp _ J hh)
  rintro us s1 ⟨vs, hp1, J1, rv, q⟩
  exact ⟨J1.kIn, run_make M F hr hb hd hx J1 rv fun x dx h1 h2 _ => q x dx _ h1 (Ext.made h1 h2) upd_same⟩
theorem pe_make0X (M : Mk X.K C f) (F : FnOk X.prog X.w X.K X.mg X.base CX k f fd ps sp) (hr : Room (k + 1) X.A) (hg : Gl X x) (hm : X.mg x = some (.ref C)) (hb : Binds X.K fd ps ds) (hd : Vals dvs ds) (hx : Passes CX X E)
    (hq : (x == ("__debug__" : Str)) = false := by decide) : PE X (.Call (.Name x p) [] [] pos) (tMakeX C sp dvs E tNil) := by
  constructor
  intro pn st0 sl hp R J hh
  apply wpAny_Call_Name_kw
  apply ld_glob J hg hm (hd := hq)
  exact PySem.W.callWith_K0 J.kIn M.kp (run_make (us := []) M F hr hb hd hx J .nil fun x dx h1 h2 _ => hh x dx _ h1 (Ext.made h1 h2) upd_same)
end
/-! ### slices by numbers -/
theorem cut_mid {xs : List V} {a b : Nat} (h1 : a ≤ b) (h2 : b ≤ xs.length) : cutV xs (some (a : Int)) (some (b : Int)) = (xs.drop a).take (b - a) := by
  unfold cutV
  rw [HT.sIx_nat, HT.sIx_nat, Nat.min_eq_left h2, Nat.min_eq_left (Nat.le_trans h1 h2)]
theorem cut_to {xs : List V} {b : Nat} : cutV xs none (some (b : Int)) = xs.take b := by
  unfold cutV
  rw [HT.sIx_nat, HT.sIx_none, List.drop_zero, Nat.sub_zero]
  by_cases h : b ≤ xs.length
  · rw [Nat.min_eq_left h]
  · rw [Nat.min_eq_right (by omega), List.take_of_length_le (Nat.le_refl _), List.take_of_length_le (by omega)]
theorem cut_from {xs : List V} {a : Nat} : cutV xs (some (a : Int)) none = xs.drop a := by
  unfold cutV
  rw [HT.sIx_nat, HT.sIx_none]
  by_cases h : a ≤ xs.length
  · rw [Nat.min_eq_left h, List.take_of_length_le (by rw [List.length_drop]; exact Nat.le_refl _)]
  · rw [Nat.min_eq_right (by omega), List.drop_of_length_le (Nat.le_refl _), List.drop_of_length_le (show xs.length ≤ a by omega)]
    simp
theorem sIx_neg {n d a : Nat} (h : 0 < a) : HT.sIx n d (some (-(a : Int))) = n - a := by
  show (if (-(a : Int)) < 0 then (-(a : Int) + (n : Int)).toNat else min (-(a : Int)).toNat n) = n - a
  rw [if_pos (by omega)]
  omega
theorem cut_negTo {xs : List V} {b : Nat} (h : 0 < b) : cutV xs none (some (-(b : Int))) = xs.take (xs.length - b) := by
  unfold cutV
  rw [sIx_neg h, HT.sIx_none, List.drop_zero, Nat.sub_zero]
theorem cut_negFrom {xs : List V} {a : Nat} (h : 0 < a) : cutV xs (some (-(a : Int))) none = xs.drop (xs.length - a) := by
  unfold cutV
  rw [sIx_neg h, HT.sIx_none, List.take_of_length_le (by rw [List.length_drop]; exact Nat.le_refl _)]
theorem cut_midU {xs : List V} {a b : Nat} : cutV xs (some (a : Int)) (some (b : Int)) = (xs.take b).drop a := by
  unfold cutV
  rw [HT.sIx_nat, HT.sIx_nat, List.drop_take]
  by_cases h : a ≤ xs.length
  · rw [Nat.min_eq_left h]
    by_cases h2 : b ≤ xs.length
    · rw [Nat.min_eq_left h2]
    · rw [Nat.min_eq_right (show xs.length ≤ b by omega), List.take_of_length_le (by rw [List.length_drop]; omega), List.take_of_length_le (by rw [List.length_drop]; omega)]
  · rw [Nat.min_eq_right (show xs.length ≤ a by omega), List.drop_of_length_le (Nat.le_refl _), List.drop_of_length_le (show xs.length ≤ a by omega)]
    simp
theorem cut_toL {xs : List V} {b : Nat} : cutV xs none (some (@OfNat.ofNat Int b instOfNat)) = xs.take b := cut_to
theorem cut_fromL {xs : List V} {b : Nat} : cutV xs (some (@OfNat.ofNat Int b instOfNat)) none = xs.drop b := cut_from
theorem cut_midL {xs : List V} {a b : Nat} : cutV xs (some (@OfNat.ofNat Int a instOfNat)) (some (@OfNat.ofNat Int b instOfNat)) = (xs.take b).drop a := cut_midU
theorem cut_negToL {xs : List V} {b : Nat} (h : 0 < b) : cutV xs none (some (-(@OfNat.ofNat Int b instOfNat))) = xs.take (xs.length - b) := cut_negTo h
theorem cut_negFromL {xs : List V} {b : Nat} (h : 0 < b) : cutV xs (some (-(@OfNat.ofNat Int b instOfNat))) none = xs.drop (xs.length - b) := cut_negFrom h
/-! ### steps of a reading -/
section
variable {K : PySem.W.Frag} {σ : St} {H : Hp} {Q : VK} {D : Ends} {t u : TS} {ta tb tc te : TE} {g : TG} {v : V}
theorem g_seq (h : t { D with nx := u D } σ H) : tSeq t u D σ H := h
theorem g_next (h : D.nx σ H) : tNext D σ H := h
theorem g_asg (h : te σ H fun x H1 => g x σ H1 D.nx) : tAsg te g D σ H := h
theorem g_name {i : Nat} {R : St → Hp → Prop} (h : R (σ.set i (some v)) H) : gName i v σ H R := h
theorem g_ret (h : te σ H D.rt) : tRet te D σ H := h
theorem g_retN (h : D.rt .non H) : tRetN D σ H := h
theorem g_drop (h : te σ H fun _ H1 => D.nx σ H1) : tDrop te D σ H := h
theorem g_brk (h : D.bk σ H) : tBreak D σ H := h
theorem g_cnt (h : D.ct σ H) : tCont D σ H := h
theorem g_ifS {c : TT} (h : c σ H fun b H1 => if b = true then t D σ H1 else u D σ H1) : tIfS c t u D σ H := h
theorem g_if {c : TT} (h : c σ H fun b H1 => if b = true then ta σ H1 Q else tb σ H1 Q) : tIf c ta tb σ H Q := h
theorem g_var {i : Nat} (e : σ[i]? = some (some v)) (h : Q v H) : tVar i σ H Q := ⟨v, e, h⟩
theorem g_C (h : Q v H) : tC v σ H Q := h
theorem g_op {r : R2} (h : ta σ H fun x H1 => tb σ H1 fun y H2 => r x y H2 Q) : tOp r ta tb σ H Q := h
theorem g_un {r : V → Hp → VK → Prop} (h : ta σ H fun x H1 => r x H1 Q) : tUn r ta σ H Q := h
theorem g_neg {i : Int} (h : Q (.int (-i)) H) : rU (fun i => .int (-i)) (.int i) H Q := ⟨_, rfl, h⟩
theorem g_rI {C : Int → Int → Prop} {f : Int → Int → V} {i j : Int} (c : C i j) (h : Q (f i j) H) : rI C f (.int i) (.int j) H Q := ⟨i, j, rfl, rfl, c, h⟩
theorem g_rI0 {f : Int → Int → V} {i j : Int} (h : Q (f i j) H) : rI0 f (.int i) (.int j) H Q := ⟨i, j, rfl, rfl, h⟩
theorem g_addI {i j : Int} (h : Q (.int (i + j)) H) : rAddX K (.int i) (.int j) H Q := h
theorem g_addT {a b : Addr} {xs ys : List V} (e : SqT K H a xs) (f : SqT K H b ys) (z : xs.length + ys.length ≤ sizeLine) (h : ∀ c H', Ext [] H H' → SqT K H' c (xs ++ ys) → Q (.ref c) H') : rAddX K (.ref a) (.ref b) H Q := .inl ⟨xs, ys, e, f, z, h⟩
theorem g_addL {a b : Addr} {xs ys : List V} (e : H a = some (.lst xs)) (f : H b = some (.lst ys)) (z : xs.length + ys.length ≤ sizeLine) (h : NewO H (.lst (xs ++ ys)) fun p H' => Q (.ref p) H') : rAddX K (.ref a) (.ref b) H Q := .inr ⟨xs, ys, e, f, z, h⟩
theorem g_sl {te' : TE} {tl th : TO} {r : V → Option Int → Option Int → Hp → VK → Prop} (h : te' σ H fun x H1 => tl σ H1 fun l H2 => th σ H2 fun u H3 => r x l u H3 Q) : tSl r te' tl th σ H Q := h
theorem g_noPart {R : Option Int → Hp → Prop} (h : R none H) : tNoPart σ H R := h
theorem g_part {R : Option Int → Hp → Prop} (h : te σ H fun x H1 => ∃ i, x = .int i ∧ R (some i) H1) : tPart te σ H R := h
theorem g_part' {i : Int} {R : Int → Prop} (h : R i) : ∃ i', V.int i = .int i' ∧ R i' := ⟨i, rfl, h⟩
theorem g_slT {a : Addr} {lo hi : Option Int} {xs ys : List V} (e : SqT K H a xs) (f : cutV xs lo hi = ys) (h : ∀ c H', Ext [] H H' → SqT K H' c ys → Q (.ref c) H') : rSlX K (.ref a) lo hi H Q := .inl ⟨xs, e, by rw [f]; exact h⟩
theorem g_slL {a : Addr} {lo hi : Option Int} {xs ys : List V} (e : SqL K H a xs) (f : cutV xs lo hi = ys) (h : NewO H (.lst ys) fun p H' => Q (.ref p) H') : rSlX K (.ref a) lo hi H Q := .inr ⟨xs, e, by rw [f]; exact h⟩
theorem g_slS {z : Str} {lo hi : Option Int} (e : z.length ≤ sizeLine) (h : Q (.str (cutS z lo hi)) H) : rSlX K (.str z) lo hi H Q := ⟨e, h⟩
theorem g_addS {i j : Str} (e : i.length + j.length ≤ sizeLine) (h : Q (.str (i ++ j)) H) : rAddX K (.str i) (.str j) H Q := ⟨e, h⟩
theorem g_mulI {i j : Int} (c : CMul i j) (h : Q (.int (i * j)) H) : rMulX (.int i) (.int j) H Q := ⟨c, h⟩
theorem g_iaddI {i j : Int} (h : Q (.int (i + j)) H) : rIAddX (.int i) (.int j) H Q := h
theorem g_divW {i j : Int} (h0 : 0 < j) (h1 : j < 2 ^ 64) (h : Q (.int (i / j)) H) : rI CDivW (fun i j => .int (i / j)) (.int i) (.int j) H Q :=
  ⟨i, j, rfl, rfl, wide_div (b := 64) h0 (by omega) (by decide) (by decide), h⟩
theorem g_mod {i j : Int} (h0 : 0 < j) (h : Q (.int (i % j)) H) : rI (fun _ j => 0 < j) (fun i j => .int (i % j)) (.int i) (.int j) H Q := ⟨i, j, rfl, rfl, h0, h⟩
theorem g_eq {x y : V} (e : scal x y = true) (h : Q (.bl (decide (x = y))) H) : rEqX K x y H Q := .inl ⟨e, h⟩
theorem g_ne {x y : V} (e : scal x y = true) (h : Q (.bl (!decide (x = y))) H) : rNeX K x y H Q := .inl ⟨e, h⟩
theorem g_isN {x : V} (h : Q (.bl (decide (x = .non))) H) : (fun x y H Q => y = V.non ∧ Q (.bl (decide (x = .non))) H : R2) x .non H Q := ⟨rfl, h⟩
theorem g_isN' {R : Prop} (h : R) : (V.non = V.non ∧ R) := ⟨rfl, h⟩
theorem g_test {t : TE} {R : Bool → Hp → Prop} (h : t σ H fun x H' => ∃ k, x = .bl k ∧ R k H') : tTest t σ H R := h
theorem g_bl {k : Bool} {R : Bool → Prop} (h : R k) : ∃ k', V.bl k = .bl k' ∧ R k' := ⟨k, rfl, h⟩
theorem g_tru {x : V} {k : Bool} {R : Bool → Prop} (e : TruV K x H k) (h : R k) : ∃ k', TruV K x H k' ∧ R k' := ⟨k, e, h⟩
theorem g_truB {b : Bool} : TruV K (.bl b) H b := rfl
theorem g_and {a b : TT} {R : Bool → Hp → Prop} (h : a σ H fun c H1 => if c = true then b σ H1 R else R false H1) : tAnd a b σ H R := h
theorem g_or {a b : TT} {R : Bool → Hp → Prop} (h : a σ H fun c H1 => if c = true then R true H1 else b σ H1 R) : tOr a b σ H R := h
theorem g_not {a : TT} {R : Bool → Hp → Prop} (h : a σ H fun c H1 => R (!c) H1) : tNot a σ H R := h
theorem g_chain {r r' : R2} (h : ta σ H fun x H1 => tb σ H1 fun y H2 => r x y H2 fun z H3 => ∃ k, z = .bl k ∧ (if k = true then tc σ H3 fun w' H4 => r' y w' H4 Q else Q (.bl false) H3)) : tChain r r' ta tb tc σ H Q := h
theorem g_andV (h : ta σ H fun x H1 => ∃ c, x = .bl c ∧ if c = true then tb σ H1 Q else Q (.bl false) H1) : tAndV ta tb σ H Q := h
theorem g_orV (h : ta σ H fun x H1 => ∃ c, x = .bl c ∧ if c = true then Q (.bl true) H1 else tb σ H1 Q) : tOrV ta tb σ H Q := h
theorem g_notV (h : ta σ H fun x H1 => ∃ c, x = .bl c ∧ Q (.bl (!c)) H1) : tNotV ta σ H Q := h
theorem g_inT {x : V} {p : Addr} {xs : List V} (e : SqT K H p xs) (f : flatV x = true) (g : xs.all flatV = true) (h : Q (.bl (inV x xs)) H) : rIn K false x (.ref p) H Q := ⟨p, xs, rfl, .inr e, f, g, h⟩
theorem g_inL {x : V} {p : Addr} {xs : List V} (e : SqL K H p xs) (f : flatV x = true) (g : xs.all flatV = true) (h : Q (.bl (inV x xs)) H) : rIn K false x (.ref p) H Q := ⟨p, xs, rfl, .inl e, f, g, h⟩
theorem g_ninT {x : V} {p : Addr} {xs : List V} (e : SqT K H p xs) (f : flatV x = true) (g : xs.all flatV = true) (h : Q (.bl (!inV x xs)) H) : rIn K true x (.ref p) H Q := ⟨p, xs, rfl, .inr e, f, g, h⟩
theorem g_ninL {x : V} {p : Addr} {xs : List V} (e : SqL K H p xs) (f : flatV x = true) (g : xs.all flatV = true) (h : Q (.bl (!inV x xs)) H) : rIn K true x (.ref p) H Q := ⟨p, xs, rfl, .inl e, f, g, h⟩
theorem g_nil {R : List V → Hp → Prop} (h : R [] H) : tNil σ H R := h
theorem g_cons {tr : TA} {R : List V → Hp → Prop} (h : te σ H fun x H1 => tr σ H1 fun xs H2 => R (x :: xs) H2) : tCons te tr σ H R := h
theorem g_CB {r : List V → Hp → VK → Prop} {ta : TA} (h : ta σ H fun vs H1 => r vs H1 Q) : tCB r ta σ H Q := h
theorem g_int1 {i : Int} (h : Q (.int i) H) : rInt1 [.int i] H Q := h
theorem g_int1b {k : Bool} (h : Q (.int (if k then 1 else 0)) H) : rInt1 [.bl k] H Q := h
theorem g_min2 {i j : Int} (h : Q (.int (min i j)) H) : rMin2 [.int i, .int j] H Q := h
theorem g_max2 {i j : Int} (h : Q (.int (max i j)) H) : rMax2 [.int i, .int j] H Q := h
theorem g_abs {i : Int} (h : Q (.int (i.natAbs : Int)) H) : rAbs [.int i] H Q := h
theorem g_new {n : Nat} {o : HO} {R : Addr → Hp → Prop} (e : n ≤ sizeLine) (h : NewO H o R) : n ≤ sizeLine ∧ NewO H o R := ⟨e, h⟩
theorem g_newO {o : HO} {R : Addr → Hp → Prop} (h : ∀ p H', H p = none → Ext [] H H' → H' p = some o → R p H') : NewO H o R := h
theorem g_tup {t : TA} (h : t σ H fun xs H1 => xs.length ≤ sizeLine ∧ NewO H1 (.tup xs) fun p H' => Q (.ref p) H') : tTupX t σ H Q := h
theorem g_lst {t : TA} (h : t σ H fun xs H1 => xs.length ≤ sizeLine ∧ NewO H1 (.lst xs) fun p H' => Q (.ref p) H') : tLstX t σ H Q := h
theorem g_ixL {p : Addr} {xs : List V} {i : Int} (e : SqL K H p xs) (a : atI xs i = some v) (h : Q v H) : rIx K (.ref p) (.int i) H Q := .inl ⟨p, xs, i, v, rfl, rfl, e, a, h⟩
theorem g_ixT {p : Addr} {xs : List V} {i : Int} (e : SqT K H p xs) (a : atI xs i = some v) (h : Q v H) : rIx K (.ref p) (.int i) H Q := .inr (.inl ⟨p, xs, i, v, rfl, rfl, e, a, h⟩)
theorem g_sub {to ti : TE} {s : TSet} {R : St → Hp → Prop} (h : to σ H fun o H1 => ti σ H1 fun i H2 => s o i v H2 fun H3 => R σ H3) : gSub to ti s v σ H R := h
theorem g_setL {p : Addr} {xs ys : List V} {k : Int} {j : Nat} {R : Hp → Prop} (e : H p = some (.lst xs)) (a : ixN xs.length k = some j) (l : xs.set j v = ys) (h : ∀ H', Ext [p] H H' → H' p = some (.lst ys) → R H') : rSetL (.ref p) (.int k) v H R :=
  ⟨p, xs, k, j, rfl, rfl, e, a, by rw [l]; exact h _ (Ext.wr e rfl) upd_same⟩
theorem g_ite {c : Bool} {A B : Prop} (h1 : c = true → A) (h2 : c = false → B) : if c = true then A else B := by
  cases c with
  | true => exact h1 rfl
  | false => exact h2 rfl
theorem g_iteDT {c : Bool} {A B : Prop} (e : c = true) (h : A) : if c = true then A else B := by rw [e]; exact h
theorem g_iteDF {c : Bool} {A B : Prop} (e : c = false) (h : B) : if c = true then A else B := by rw [e]; exact h
theorem g_iteIN {i : Int} {A B : Prop} (h : B) : if decide (V.int i = V.non) = true then A else B := by rw [decide_eq_false (by intro z; cases z)]; exact h
theorem g_iteRN {a : Addr} {A B : Prop} (h : B) : if decide (V.ref a = V.non) = true then A else B := by rw [decide_eq_false (by intro z; cases z)]; exact h
theorem g_iteSN {a : Str} {A B : Prop} (h : B) : if decide (V.str a = V.non) = true then A else B := by rw [decide_eq_false (by intro z; cases z)]; exact h
theorem g_iteNIN {i : Int} {A B : Prop} (h : A) : if (!decide (V.int i = V.non)) = true then A else B := by rw [decide_eq_false (by intro z; cases z)]; exact h
theorem g_iteNRN {i : Addr} {A B : Prop} (h : A) : if (!decide (V.ref i = V.non)) = true then A else B := by rw [decide_eq_false (by intro z; cases z)]; exact h
theorem g_iteT {A B : Prop} (h : A) : if true = true then A else B := h
theorem g_iteF {A B : Prop} (h : B) : if false = true then A else B := h
theorem g_fld {f : Str} (h : ta σ H fun x H1 => ∃ a C dx fs v, x = .ref a ∧ H1 a = some (.ins C dx fs) ∧ Cls K C ∧ NoAttr K C f ∧ fs.lookup f = some v ∧ Q v H1) : tFld K ta f σ H Q := h
theorem g_fld' {f : Str} {a C dx : Addr} {fs : List (Str × V)} (e : H a = some (.ins C dx fs)) (c : Cls K C) (n : NoAttr K C f) (l : fs.lookup f = some v) (h : Q v H) :
    ∃ a' C dx fs v, V.ref a = .ref a' ∧ H a' = some (.ins C dx fs) ∧ Cls K C ∧ NoAttr K C f ∧ fs.lookup f = some v ∧ Q v H := ⟨a, C, dx, fs, v, rfl, e, c, n, l, h⟩
theorem g_sfld {tv : TE} {f : Str} (h : tv σ H fun y H1 => ta σ H1 fun x H2 => ∃ a C dx fs, x = .ref a ∧ H2 a = some (.ins C dx fs) ∧ Cls K C ∧ NoAttr K C f ∧ fs.length < 1000 ∧ D.nx σ (upd H2 a (.ins C dx (putF f y fs)))) : sFld K ta tv f D σ H := h
theorem g_sfld' {f : Str} {a C dx : Addr} {fs fs' : List (Str × V)} {R : Hp → Prop} (e : H a = some (.ins C dx fs)) (c : Cls K C) (n : NoAttr K C f) (l : fs.length < 1000) (p : putF f v fs = fs') (h : ∀ H', Ext [a] H H' → H' a = some (.ins C dx fs') → R H') :
    ∃ a' C dx fs, V.ref a = .ref a' ∧ H a' = some (.ins C dx fs) ∧ Cls K C ∧ NoAttr K C f ∧ fs.length < 1000 ∧ R (upd H a' (.ins C dx (putF f v fs))) :=
  ⟨a, C, dx, fs, rfl, e, c, n, l, by rw [p]; exact h _ (Ext.wr e rfl) upd_same⟩
theorem g_sfa {tv : TE} {f : Str} {rd : V → V → Hp → VK → Prop} (h : ta σ H fun x H1 => ∃ a C dx fs v, x = .ref a ∧ H1 a = some (.ins C dx fs) ∧ Cls K C ∧ NoAttr K C f ∧ fs.lookup f = some v ∧
  tv σ H1 fun y H2 => rd v y H2 fun z H3 => ∃ dx' fs', H3 a = some (.ins C dx' fs') ∧ fs'.length < 1000 ∧ D.nx σ (upd H3 a (.ins C dx' (putF f z fs')))) : sFldAug K ta tv rd f D σ H := h
theorem g_sfa' {f : Str} {a C dx : Addr} {fs : List (Str × V)} {R : V → Addr → Addr → Hp → Prop} (e : H a = some (.ins C dx fs)) (c : Cls K C) (n : NoAttr K C f) (l : fs.lookup f = some v) (h : R v a C H) :
    ∃ a' C dx fs v, V.ref a = .ref a' ∧ H a' = some (.ins C dx fs) ∧ Cls K C ∧ NoAttr K C f ∧ fs.lookup f = some v ∧ R v a' C H := ⟨a, C, dx, fs, v, rfl, e, c, n, l, h⟩
theorem g_sfa'' {f : Str} {a C dx : Addr} {fs fs' : List (Str × V)} {R : Hp → Prop} (e : H a = some (.ins C dx fs)) (l : fs.length < 1000) (p : putF f v fs = fs') (h : ∀ H', Ext [a] H H' → H' a = some (.ins C dx fs') → R H') :
    ∃ dx' fs', H a = some (.ins C dx' fs') ∧ fs'.length < 1000 ∧ R (upd H a (.ins C dx' (putF f v fs'))) :=
  ⟨dx, fs, e, l, by rw [p]; exact h _ (Ext.wr e rfl) upd_same⟩
theorem g_call {sp : Sp} {dvs : List V} {E : XK} {t : TA} (h : t σ H fun vs H1 => sp (vs ++ dvs) H1 Q E) : tCall sp dvs E t σ H Q := h
theorem g_meth {C : Addr} {m : Str} {sp : Sp} {dvs : List V} {E : XK} {t : TA} (h : ta σ H fun x H1 => ∃ a dx fs, x = .ref a ∧ H1 a = some (.ins C dx fs) ∧ fs.lookup m = none ∧ t σ H1 fun vs H2 => sp (x :: (vs ++ dvs)) H2 Q E) : tMeth C m sp dvs E ta t σ H Q := h
theorem g_meth' {C a dx : Addr} {m : Str} {fs : List (Str × V)} {R : Hp → Prop} (e : H a = some (.ins C dx fs)) (l : fs.lookup m = none) (h : R H) : ∃ a' dx fs, V.ref a = .ref a' ∧ H a' = some (.ins C dx fs) ∧ fs.lookup m = none ∧ R H := ⟨a, dx, fs, rfl, e, l, h⟩
theorem g_make {C : Addr} {sp : Sp} {dvs : List V} {E : XK} {t : TA} (h : t σ H fun vs H1 => ∀ x dx H', H1 x = none → Ext [] H1 H' → H' x = some (.ins C dx []) → sp (.ref x :: (vs ++ dvs)) H' (fun v H2 => v = .non ∧ Q (.ref x) H2) E) : tMakeX C sp dvs E t σ H Q := h
theorem g_appd {te : TE} {t : TA} {r : V → List V → Hp → VK → Prop} {T : String} (h : te σ H fun x H1 => tyV K T x H1 ∧ t σ H1 fun xs H2 => r x xs H2 Q) : tBM K T r te t σ H Q := h
theorem g_bm0 {te : TE} {r : V → List V → Hp → VK → Prop} {T : String} (h : te σ H fun x H1 => tyV K T x H1 ∧ r x [] H1 Q) : tBM0 K T r te σ H Q := h
theorem g_tyL {a : Addr} {xs : List V} {R : Prop} (e : SqL K H a xs) (h : R) : tyV K "list" (.ref a) H ∧ R := ⟨.inl ⟨rfl, xs, e⟩, h⟩
theorem g_append {l : Addr} {xs : List V} {y : V} (e : H l = some (.lst xs)) (z : xs.length < sizeLine) (h : ∀ H', Ext [l] H H' → H' l = some (.lst (xs ++ [y])) → Q .non H') : rAppend (.ref l) [y] H Q :=
  ⟨l, xs, y, rfl, rfl, e, z, h _ (Ext.wr e rfl) upd_same⟩
theorem g_par {i j : Nat} {ta : TA} (h : ta σ H fun vs H1 => ∃ v w, vs = [v, w] ∧ D.nx ((σ.set i (some v)).set j (some w)) H1) : tPar i j ta D σ H := h
theorem g_par' {x y : V} {R : V → V → Prop} (h : R x y) : ∃ v w, [x, y] = [v, w] ∧ R v w := ⟨x, y, rfl, h⟩
theorem g_gtup {n : Nat} {tg : TGs} {a : Addr} {xs : List V} {R : St → Hp → Prop} (e : SqT K H a xs) (l : xs.length = n) (h : tg xs σ H R) : gTup K n tg (.ref a) σ H R := ⟨a, xs, rfl, e, l, h⟩
theorem g_gcons {t1 : TG} {tr : TGs} {x : V} {xs : List V} {R : St → Hp → Prop} (h : t1 x σ H fun σ' H' => tr xs σ' H' R) : gCons t1 tr (x :: xs) σ H R := ⟨x, xs, rfl, h⟩
theorem g_gnil {R : St → Hp → Prop} (h : R σ H) : gNil [] σ H R := ⟨rfl, h⟩
theorem g_aug {i : Nat} {ti : TIp} (e : σ[i]? = some (some v)) (h : te σ H fun y H1 => ti v y H1 fun z H2 => D.nx (σ.set i (some z)) H2) : tAug i te ti D σ H := ⟨v, e, h⟩
theorem g_listL {a : Addr} {xs : List V} (e : SqL K H a xs) (h : NewO H (.lst xs) fun p H' => Q (.ref p) H') : rListX K [.ref a] H Q := ⟨xs, .inl e, h⟩
theorem g_listT {a : Addr} {xs : List V} (e : SqT K H a xs) (h : NewO H (.lst xs) fun p H' => Q (.ref p) H') : rListX K [.ref a] H Q := ⟨xs, .inr e, h⟩
theorem g_tupL {a : Addr} {xs : List V} (e : SqL K H a xs) (h : NewO H (.tup xs) fun p H' => Q (.ref p) H') : rTupX K [.ref a] H Q := .inl ⟨xs, e, h⟩
theorem g_tupT {a : Addr} {xs : List V} (e : SqT K H a xs) (h : Q (.ref a) H) : rTupX K [.ref a] H Q := .inr ⟨xs, e, h⟩
theorem g_lenL {a : Addr} {xs : List V} (e : SqL K H a xs) (h : Q (.int xs.length) H) : rLenX K [.ref a] H Q := .inl ⟨xs, .inl e, h⟩
theorem g_lenT {a : Addr} {xs : List V} (e : SqT K H a xs) (h : Q (.int xs.length) H) : rLenX K [.ref a] H Q := .inl ⟨xs, .inr e, h⟩
theorem g_lenD {a : Addr} {kvs : List (Key × V)} (e : H a = some (.dK kvs)) (h : Q (.int kvs.length) H) : rLenX K [.ref a] H Q := .inr ⟨kvs, e, h⟩
theorem g_lenS {z : Str} (e : z.length ≤ sizeLine) (h : Q (.int z.length) H) : rLenX K [.str z] H Q := ⟨e, h⟩
theorem g_truL {a : Addr} {xs : List V} {R : Bool → Prop} (e : SqL K H a xs) (h : R (!xs.isEmpty)) : ∃ k, TruV K (.ref a) H k ∧ R k := ⟨_, .inl ⟨xs, e, rfl⟩, h⟩
theorem g_truT {a : Addr} {xs : List V} {R : Bool → Prop} (e : SqT K H a xs) (h : R (!xs.isEmpty)) : ∃ k, TruV K (.ref a) H k ∧ R k := ⟨_, .inr (.inl ⟨xs, e, rfl⟩), h⟩
theorem g_truD {a : Addr} {kvs : List (Key × V)} {R : Bool → Prop} (e : H a = some (.dK kvs)) (h : R (!kvs.isEmpty)) : ∃ k, TruV K (.ref a) H k ∧ R k := ⟨_, .inr (.inr ⟨kvs, e, rfl⟩), h⟩
theorem g_truBl {b : Bool} {R : Bool → Prop} (h : R b) : ∃ k, TruV K (.bl b) H k ∧ R k := ⟨b, rfl, h⟩
theorem g_truI {i : Int} {R : Bool → Prop} (h : R (i != 0)) : ∃ k, TruV K (.int i) H k ∧ R k := ⟨_, rfl, h⟩
theorem g_truN {R : Bool → Prop} (h : R false) : ∃ k, TruV K .non H k ∧ R k := ⟨_, rfl, h⟩
theorem g_for {wi : TI} {tb : TS} (h : wi σ H fun J H1 => ForGoal J g tb D σ H1) : tFor wi g tb D σ H := h
theorem g_lc {wi : TI} {tt : TT} {vs : List Nat} (h : wi σ H fun J H1 => LcGoal J g tt te vs σ H1 Q) : tLc wi g tt te vs σ H Q := h
theorem g_stE (h : te σ H Q) : stE te σ H Q := ⟨Q, h, fun _ _ z => z⟩
theorem g_stG {R : L2.St → Hp → Prop} (h : g v σ H R) : stG g v σ H R := ⟨R, h, fun _ _ z => z⟩
theorem g_stT {tt : TT} {R : Bool → Hp → Prop} (h : tt σ H R) : stT tt σ H R := ⟨R, h, fun _ _ z => z⟩
theorem g_yes {R : Bool → Hp → Prop} (h : R true H) : tYes σ H R := h
theorem g_iList {tl : TE} {R : It → Hp → Prop} (h : tl σ H fun x H1 => ∃ a, x = .ref a ∧ (∃ xs, SqL K H1 a xs) ∧ R (Itl K a) H1) : iList K tl σ H R := h
theorem g_iTup {tl : TE} {R : It → Hp → Prop} (h : tl σ H fun x H1 => ∃ a, x = .ref a ∧ (∃ xs, SqT K H1 a xs) ∧ R (Itt K a) H1) : iTup K tl σ H R := h
theorem g_iR1 {t : TA} {R : It → Hp → Prop} (h : t σ H fun vs H1 => ∃ j : Int, vs = [.int j] ∧ -(2 ^ 62) ≤ j ∧ j < 2 ^ 62 ∧ R (Itr 0 j.toNat) H1) : iRng1 t σ H R := h
theorem g_iR2 {t : TA} {R : It → Hp → Prop} (h : t σ H fun vs H1 => ∃ i j : Int, vs = [.int i, .int j] ∧ (-(2 ^ 62) ≤ i ∧ i < 2 ^ 62 ∧ -(2 ^ 62) ≤ j ∧ j < 2 ^ 62) ∧ R (Itr i (j - i).toNat) H1) : iRng2 t σ H R := h
theorem g_iR3 {t : TA} {R : It → Hp → Prop} (h : t σ H fun vs H1 => ∃ (i j c : Int) (n : Nat), vs = [.int i, .int j, .int c] ∧ RgC i j c n ∧ R (Itc i c n) H1) : iRng3 t σ H R := h
theorem g_itLf {tb : TS} {a : Addr} {xs : List V} (e : SqL K H a xs) (h : ForGoal (Itl K a) g tb D σ H) : ∃ a', V.ref a = .ref a' ∧ (∃ xs, SqL K H a' xs) ∧ ForGoal (Itl K a') g tb D σ H := ⟨a, rfl, ⟨xs, e⟩, h⟩
theorem g_itTf {tb : TS} {a : Addr} {xs : List V} (e : SqT K H a xs) (h : ForGoal (Itt K a) g tb D σ H) : ∃ a', V.ref a = .ref a' ∧ (∃ xs, SqT K H a' xs) ∧ ForGoal (Itt K a') g tb D σ H := ⟨a, rfl, ⟨xs, e⟩, h⟩
theorem g_itLl {tt : TT} {vs : List Nat} {a : Addr} {xs : List V} (e : SqL K H a xs) (h : LcGoal (Itl K a) g tt te vs σ H Q) : ∃ a', V.ref a = .ref a' ∧ (∃ xs, SqL K H a' xs) ∧ LcGoal (Itl K a') g tt te vs σ H Q := ⟨a, rfl, ⟨xs, e⟩, h⟩
theorem g_itTl {tt : TT} {vs : List Nat} {a : Addr} {xs : List V} (e : SqT K H a xs) (h : LcGoal (Itt K a) g tt te vs σ H Q) : ∃ a', V.ref a = .ref a' ∧ (∃ xs, SqT K H a' xs) ∧ LcGoal (Itt K a') g tt te vs σ H Q := ⟨a, rfl, ⟨xs, e⟩, h⟩
theorem g_itR1f {tb : TS} {j : Int} (h1 : -(2 ^ 62) ≤ j) (h2 : j < 2 ^ 62) (h : ForGoal (Itr 0 j.toNat) g tb D σ H) : ∃ j' : Int, [V.int j] = [.int j'] ∧ -(2 ^ 62) ≤ j' ∧ j' < 2 ^ 62 ∧ ForGoal (Itr 0 j'.toNat) g tb D σ H := ⟨j, rfl, h1, h2, h⟩
theorem g_itR1l {tt : TT} {vs : List Nat} {j : Int} (h1 : -(2 ^ 62) ≤ j) (h2 : j < 2 ^ 62) (h : LcGoal (Itr 0 j.toNat) g tt te vs σ H Q) : ∃ j' : Int, [V.int j] = [.int j'] ∧ -(2 ^ 62) ≤ j' ∧ j' < 2 ^ 62 ∧ LcGoal (Itr 0 j'.toNat) g tt te vs σ H Q := ⟨j, rfl, h1, h2, h⟩
theorem g_itR2f {tb : TS} {i j : Int} (h1 : -(2 ^ 62) ≤ i ∧ i < 2 ^ 62 ∧ -(2 ^ 62) ≤ j ∧ j < 2 ^ 62) (h : ForGoal (Itr i (j - i).toNat) g tb D σ H) : ∃ i' j' : Int, [V.int i, V.int j] = [.int i', .int j'] ∧ (-(2 ^ 62) ≤ i' ∧ i' < 2 ^ 62 ∧ -(2 ^ 62) ≤ j' ∧ j' < 2 ^ 62) ∧ ForGoal (Itr i' (j' - i').toNat) g tb D σ H := ⟨i, j, rfl, h1, h⟩
theorem g_itR2l {tt : TT} {vs : List Nat} {i j : Int} (h1 : -(2 ^ 62) ≤ i ∧ i < 2 ^ 62 ∧ -(2 ^ 62) ≤ j ∧ j < 2 ^ 62) (h : LcGoal (Itr i (j - i).toNat) g tt te vs σ H Q) : ∃ i' j' : Int, [V.int i, V.int j] = [.int i', .int j'] ∧ (-(2 ^ 62) ≤ i' ∧ i' < 2 ^ 62 ∧ -(2 ^ 62) ≤ j' ∧ j' < 2 ^ 62) ∧ LcGoal (Itr i' (j' - i').toNat) g tt te vs σ H Q := ⟨i, j, rfl, h1, h⟩
theorem g_itR3f {tb : TS} {i j c : Int} {n : Nat} (r : RgC i j c n) (h : ForGoal (Itc i c n) g tb D σ H) : ∃ (i' j' c' : Int) (n' : Nat), [V.int i, V.int j, V.int c] = [.int i', .int j', .int c'] ∧ RgC i' j' c' n' ∧ ForGoal (Itc i' c' n') g tb D σ H := ⟨i, j, c, n, rfl, r, h⟩
theorem g_itR3l {tt : TT} {vs : List Nat} {i j c : Int} {n : Nat} (r : RgC i j c n) (h : LcGoal (Itc i c n) g tt te vs σ H Q) : ∃ (i' j' c' : Int) (n' : Nat), [V.int i, V.int j, V.int c] = [.int i', .int j', .int c'] ∧ RgC i' j' c' n' ∧ LcGoal (Itc i' c' n') g tt te vs σ H Q := ⟨i, j, c, n, rfl, r, h⟩
theorem g_forL {tb : TS} {a : Addr} (xs : List V) (_ : SqL K H a xs) (Pv : Nat → L2.St → Hp → Prop) (h0 : Pv 0 σ H) (hl : ∀ i σ H, i ≤ xs.length → Pv i σ H → SqL K H a xs)
    (hs : ∀ i x σ H, xs[i]? = some x → Pv i σ H → g x σ H fun σ2 H2 => tb { D with nx := Pv (i + 1), ct := Pv (i + 1), bk := D.nx } σ2 H2) (hd : ∀ σ H, Pv xs.length σ H → D.nx σ H) : ForGoal (Itl K a) g tb D σ H := for_list Pv h0 hl hs hd
theorem g_forT {tb : TS} {a : Addr} (xs : List V) (Pv : Nat → L2.St → Hp → Prop) (h0 : Pv 0 σ H) (hl : ∀ i σ H, i ≤ xs.length → Pv i σ H → SqT K H a xs)
    (hs : ∀ i x σ H, xs[i]? = some x → Pv i σ H → g x σ H fun σ2 H2 => tb { D with nx := Pv (i + 1), ct := Pv (i + 1), bk := D.nx } σ2 H2) (hd : ∀ σ H, Pv xs.length σ H → D.nx σ H) : ForGoal (Itt K a) g tb D σ H := for_tup Pv h0 hl hs hd
theorem g_forR {tb : TS} {lo : Int} {n : Nat} (Pv : Nat → L2.St → Hp → Prop) (h0 : Pv 0 σ H)
    (hs : ∀ i σ H, i < n → Pv i σ H → g (.int (lo + i)) σ H fun σ2 H2 => tb { D with nx := Pv (i + 1), ct := Pv (i + 1), bk := D.nx } σ2 H2) (hd : ∀ σ H, Pv n σ H → D.nx σ H) : ForGoal (Itr lo n) g tb D σ H := for_range Pv h0 hs hd
end
theorem lk_hd {f : Str} {v : V} {r : List (Str × V)} : List.lookup f ((f, v) :: r) = some v := by simp [List.lookup]
theorem lk_tl {f g : Str} {v : V} {r : List (Str × V)} {o : Option V} (n : (f == g) = false) (h : List.lookup f r = o) : List.lookup f ((g, v) :: r) = o := by simp only [List.lookup, n]; exact h
theorem lk_nil {f : Str} : List.lookup f ([] : List (Str × V)) = none := rfl
theorem pf_nil {f : Str} {v : V} : putF f v [] = [(f, v)] := rfl
theorem pf_hd {f : Str} {v x : V} {r : List (Str × V)} : putF f v ((f, x) :: r) = (f, v) :: r := by simp [putF]
theorem pf_tl {f g : Str} {v x : V} {r r' : List (Str × V)} (n : (f == g) = false) (h : putF f v r = r') : putF f v ((g, x) :: r) = (g, x) :: r' := by
  have e : ¬ g = f := fun q => by rw [q, beq_self_eq_true] at n; cases n
  simp only [putF, if_neg e, h]
theorem ix_at {α : Type} {xs : List α} {i : Int} {v : α} (h : 0 ≤ i) (e : xs[i.toNat]? = some v) : atI xs i = some v := by
  have z : ((i.toNat : Nat) : Int) = i := Int.toNat_of_nonneg h
  rw [← z]; exact atI_nat e
theorem lt1000 {n : Nat} (h : Nat.blt n 1000 = true := by rfl) : n < 1000 := by
  have := Nat.le_of_ble_eq_true h
  omega
theorem leLine {n : Nat} (h : Nat.ble n 1000 = true := by rfl) : n ≤ sizeLine := Nat.le_trans (Nat.le_of_ble_eq_true h) (by decide)
/-! ### the stepping tactics, under names of our own -/
local macro_rules | `(tactic| walk_at "eo mem") => `(tactic| first | with_reducible exact List.mem_cons_self | ((with_reducible apply List.mem_cons_of_mem); walk_at "eo mem"))
local macro_rules | `(tactic| walk_at "eo lk") => `(tactic| first | with_reducible exact lk_hd | with_reducible exact lk_nil | ((with_reducible apply lk_tl); (decide +kernel); (walk_at "eo lk")))
local macro_rules | `(tactic| walk_at "eo pf") => `(tactic| first | with_reducible exact pf_hd | with_reducible exact pf_nil | ((with_reducible apply pf_tl); (decide +kernel); (walk_at "eo pf")))
local macro_rules | `(tactic| walk_at "eo fact") => `(tactic| first | with_reducible assumption | ((with_reducible apply Ext.keep); (with_reducible assumption); (walk_at "eo fact"); (walk_at "eo nin")))
local macro_rules | `(tactic| walk_at "eo nin") => `(tactic| first | with_reducible exact nin0 | ((with_reducible apply nin1); walk_at "eo ne") | ((with_reducible apply ninC); (walk_at "eo ne"); (walk_at "eo nin")) | with_reducible assumption)
local macro_rules | `(tactic| walk_at "eo ne") => `(tactic| first
  | with_reducible assumption
  | ((with_reducible apply Ne.symm); with_reducible assumption)
  | walk_at "eo ne2")
local macro_rules | `(tactic| walk_at "eo ne2") => `(tactic| first
  | ((with_reducible apply ne_of_none); rotate_left 1; (with_reducible assumption); (walk_at "eo fact"))
  | ((with_reducible apply Ne.symm); (with_reducible apply ne_of_none); rotate_left 1; (with_reducible assumption); (walk_at "eo fact"))
  | ((with_reducible apply ne_of); (with_reducible assumption); (walk_at "eo fact"); ((intro z; cases z)))
  | ((with_reducible apply Ne.symm); (with_reducible apply ne_of); (with_reducible assumption); (walk_at "eo fact"); ((intro z; cases z))))
local macro_rules | `(tactic| walk_at "eo sqT") => `(tactic| first | with_reducible assumption | ((with_reducible apply SqT.of); with_reducible assumption) | ((with_reducible apply sqT_ext); (with_reducible assumption); (walk_at "eo sqT")))
local macro_rules | `(tactic| walk_at "eo sqL") => `(tactic| first | with_reducible assumption | ((with_reducible apply SqL.of); with_reducible assumption) | ((with_reducible apply sqL_ext); (with_reducible assumption); (walk_at "eo sqL"); (intro _ _; walk_at "eo nin")))
local macro_rules | `(tactic| walk_at "eo at") => `(tactic| first | rfl | assumption | (apply ix_at; (first | omega | assumption); (first | assumption | rfl)))
local macro_rules | `(tactic| walk_at "eo set") => `(tactic| first | ((try simp only [List.set_cons_succ, List.set_cons_zero, Int.reduceToNat, List.length_cons, List.length_nil]); first | done | rfl) | rfl)
local macro_rules | `(tactic| walk_at "eo ext") => `(tactic| first | with_reducible assumption | with_reducible exact Ext.refl _ | ((with_reducible apply Ext.snoc); (with_reducible assumption); (walk_at "eo ext"); (walk_at "eo sub")))
local macro_rules | `(tactic| walk_at "eo sub") => `(tactic| first | with_reducible exact sub0 | ((with_reducible apply sub1); (walk_at "eo mem")) | ((with_reducible apply sub1f); (walk_at "eo free")) | ((with_reducible apply subC); (walk_at "eo mem"); (walk_at "eo sub")) | ((with_reducible apply subCf); (walk_at "eo free"); (walk_at "eo sub")))
local macro_rules | `(tactic| walk_at "eo free") => `(tactic| first | with_reducible assumption | ((with_reducible apply Ext.free); (with_reducible assumption); (walk_at "eo free"); (walk_at "eo nin")))
local macro_rules | `(tactic| walk_at "eo cut") => `(tactic| first | ((apply Eq.trans); (first | exact cut_midL | exact cut_toL | exact cut_fromL | exact cut_negToL (by decide) | exact cut_negFromL (by decide)); ((try simp only [List.take_succ_cons, List.take_zero, List.drop_succ_cons, List.drop_zero, List.length_cons, List.length_nil, Nat.reduceAdd, Nat.reduceSub]); first | done | rfl)) | rfl)
local macro_rules | `(tactic| walk_at "eo len") => `(tactic| first | exact leLine | (rw [sizeLine_eq]; simp only [List.length_append, List.length_cons, List.length_nil, List.length_map, List.length_take]; omega))
local macro_rules | `(tactic| walk_at "eo arith") => `(tactic| first | decide | omega)
local macro_rules | `(tactic| walk_at "eo mul") => `(tactic| first | (refine CMul.left ?_; first | decide | (constructor <;> omega)) | (refine CMul.right ?_; first | decide | (constructor <;> omega)))
local macro_rules | `(tactic| walk_at "eo step") => `(tactic| first
  | ((with_reducible apply g_var); (with_unfolding_all rfl))
  | with_reducible refine g_C ?_
  | with_reducible refine g_cons ?_
  | with_reducible refine g_nil ?_
  | with_reducible refine g_op ?_
  | with_reducible refine g_asg ?_
  | with_reducible refine g_name ?_
  | with_reducible refine g_seq ?_
  | with_reducible refine g_CB ?_
  | with_reducible refine g_bl ?_
  | with_reducible refine g_test ?_
  | with_reducible refine g_rI0 ?_
  | with_reducible refine g_addI ?_
  | ((with_reducible apply g_ixT); (walk_at "eo sqT"); (walk_at "eo at"))
  | ((with_reducible apply g_ixL); (walk_at "eo sqL"); (walk_at "eo at"))
  | ((with_reducible apply g_fld'); (walk_at "eo fact"); (with_reducible assumption); ((with_reducible apply na_of); (with_reducible assumption); (walk_at "eo mem")); (walk_at "eo lk"))
  | with_reducible refine g_fld ?_
  | with_reducible refine g_ret ?_
  | with_reducible refine g_ifS ?_
  | with_reducible refine g_iteIN ?_
  | ((with_reducible apply g_iteDT); (first | with_reducible assumption | decide))
  | ((with_reducible apply g_iteDF); (first | with_reducible assumption | decide))
  | with_reducible refine g_iteT ?_
  | with_reducible refine g_iteF ?_
  | with_reducible refine g_tup ?_
  | ((with_reducible apply g_new); (exact leLine))
  | ((with_reducible refine g_newO ?_); intro _ _ _ _ _)
  | with_reducible refine g_call ?_
  | ((with_reducible apply g_eq); (rfl))
  | with_reducible refine g_and ?_
  | with_reducible refine g_or ?_
  | ((with_reducible apply g_ne); (rfl))
  | ((with_reducible apply g_mulI); (walk_at "eo mul"))
  | ((with_reducible apply g_mod); (walk_at "eo arith"))
  | ((with_reducible apply g_divW); (walk_at "eo arith"); (walk_at "eo arith"))
  | with_reducible refine g_int1 ?_
  | with_reducible refine g_next ?_
  | with_reducible refine g_retN ?_
  | with_reducible refine g_drop ?_
  | with_reducible refine g_if ?_
  | with_reducible refine g_un ?_
  | with_reducible refine g_not ?_
  | with_reducible refine g_chain ?_
  | with_reducible refine g_andV ?_
  | with_reducible refine g_orV ?_
  | with_reducible refine g_notV ?_
  | ((with_reducible apply g_inT); (walk_at "eo sqT"); rfl; rfl)
  | ((with_reducible apply g_inL); (walk_at "eo sqL"); rfl; rfl)
  | ((with_reducible apply g_ninT); (walk_at "eo sqT"); rfl; rfl)
  | ((with_reducible apply g_ninL); (walk_at "eo sqL"); rfl; rfl)
  | with_reducible refine g_lst ?_
  | with_reducible refine g_iaddI ?_
  | ((with_reducible apply g_addT); (walk_at "eo sqT"); (walk_at "eo sqT"); (walk_at "eo len"); intro _ _ _ _)
  | ((with_reducible apply g_addL); (walk_at "eo fact"); (walk_at "eo fact"); (walk_at "eo len"))
  | with_reducible refine g_sl ?_
  | with_reducible refine g_noPart ?_
  | with_reducible refine g_part ?_
  | with_reducible refine g_part' ?_
  | ((with_reducible apply g_slT); (walk_at "eo sqT"); (walk_at "eo cut"); intro _ _ _ _)
  | ((with_reducible apply g_slL); (walk_at "eo sqL"); (walk_at "eo cut"))
  | with_reducible refine g_int1b ?_
  | with_reducible refine g_min2 ?_
  | with_reducible refine g_max2 ?_
  | with_reducible refine g_abs ?_
  | with_reducible refine g_isN' ?_
  | with_reducible refine g_neg ?_
  | with_reducible refine g_sub ?_
  | ((with_reducible apply g_setL); (walk_at "eo fact"); (walk_at "eo at"); (walk_at "eo set"); intro _ _ _)
  | with_reducible refine g_sfld ?_
  | ((with_reducible apply g_sfld'); (walk_at "eo fact"); (with_reducible assumption); ((with_reducible apply na_of); (with_reducible assumption); (walk_at "eo mem")); (exact lt1000); (walk_at "eo pf"); intro _ _ _)
  | with_reducible refine g_sfa ?_
  | ((with_reducible apply g_sfa'); (walk_at "eo fact"); (with_reducible assumption); ((with_reducible apply na_of); (with_reducible assumption); (walk_at "eo mem")); (walk_at "eo lk"))
  | ((with_reducible apply g_sfa''); (walk_at "eo fact"); (exact lt1000); (walk_at "eo pf"); intro _ _ _)
  | with_reducible refine g_meth ?_
  | ((with_reducible apply g_meth'); (walk_at "eo fact"); (walk_at "eo lk"))
  | with_reducible refine g_make ?_
  | ((with_reducible apply g_listL); (walk_at "eo sqL"))
  | ((with_reducible apply g_listT); (walk_at "eo sqT"))
  | ((with_reducible apply g_tupL); (walk_at "eo sqL"))
  | ((with_reducible apply g_tupT); (walk_at "eo sqT"))
  | ((with_reducible apply g_lenL); (walk_at "eo sqL"))
  | ((with_reducible apply g_lenT); (walk_at "eo sqT"))
  | ((with_reducible apply g_lenD); (walk_at "eo fact"))
  | ((with_reducible apply g_truL); (walk_at "eo sqL"))
  | ((with_reducible apply g_truT); (walk_at "eo sqT"))
  | ((with_reducible apply g_truD); (walk_at "eo fact"))
  | with_reducible refine g_truBl ?_
  | with_reducible refine g_truI ?_
  | with_reducible refine g_truN ?_
  | with_reducible refine g_appd ?_
  | with_reducible refine g_bm0 ?_
  | ((with_reducible apply g_tyL); (walk_at "eo sqL"))
  | ((with_reducible apply g_append); (walk_at "eo fact"); (walk_at "eo arith"); intro _ _ _)
  | with_reducible refine g_par ?_
  | with_reducible refine g_par' ?_
  | with_reducible refine g_gcons ?_
  | with_reducible refine g_gnil ?_
  | ((with_reducible apply g_gtup); (walk_at "eo sqT"); (with_unfolding_all rfl))
  | ((with_reducible apply g_aug); (with_unfolding_all rfl))
  | with_reducible refine g_for ?_
  | with_reducible refine g_iList ?_
  | with_reducible refine g_iTup ?_
  | with_reducible refine g_iR1 ?_
  | with_reducible refine g_iR2 ?_
  | with_reducible refine g_iR3 ?_
  | with_reducible refine g_lc ?_
  | with_reducible refine g_stE ?_
  | with_reducible refine g_stG ?_
  | with_reducible refine g_stT ?_
  | with_reducible refine g_yes ?_
  | ((with_reducible apply g_itLf); (walk_at "eo sqL"))
  | ((with_reducible apply g_itTf); (walk_at "eo sqT"))
  | ((with_reducible apply g_itLl); (walk_at "eo sqL"))
  | ((with_reducible apply g_itTl); (walk_at "eo sqT"))
  | ((with_reducible apply g_itR1f); (walk_at "eo arith"); (walk_at "eo arith"))
  | ((with_reducible apply g_itR1l); (walk_at "eo arith"); (walk_at "eo arith"))
  | ((with_reducible apply g_itR2f); (walk_at "eo arith"))
  | ((with_reducible apply g_itR2l); (walk_at "eo arith"))
  | with_reducible refine g_iteRN ?_
  | with_reducible refine g_iteSN ?_
  | with_reducible refine g_iteNIN ?_
  | with_reducible refine g_iteNRN ?_
  | with_reducible refine g_cnt ?_
  | with_reducible refine g_brk ?_)
local macro_rules | `(tactic| walk_at "eo go") => `(tactic| repeat (walk_at "eo step"))
local macro_rules | `(tactic| walk_at "eo init") => `(tactic| (dsimp only [cxOf, Cx.nox, Cx.wish, L2.start, List.map, List.length, List.replicate, List.cons_append, List.nil_append, Nat.reduceAdd, Nat.reduceSub]))
theorem dec_t {p : Prop} [Decidable p] (h : decide p = true) : p := of_decide_eq_true h
theorem dec_f {p : Prop} [Decidable p] (h : decide p = false) : ¬ p := of_decide_eq_false h
theorem vint {i j : Int} (h : V.int i = V.int j) : i = j := V.int.inj h
theorem mem_map_int {xs : List Int} {i : Nat} {x : V} (h : (xs.map V.int)[i]? = some x) : ∃ n, xs[i]? = some n ∧ x = .int n := by
  rw [List.getElem?_map] at h
  cases e : xs[i]? with
  | none => rw [e] at h; cases h
  | some n => rw [e] at h; exact ⟨n, rfl, (Option.some.inj h).symm⟩
theorem kkFld {X : Cx} {K : PySem.W.Frag} {e : Expr} {f : Str} {pos : Pos} {ta : TE} (h : X.K = K) (he : PE X e ta) (hb : attributeBase e f X.env (eval e X.env) = eval e X.env) : PE X (.Attribute e f pos) (tFld K ta f) := h ▸ pe_fld he hb
theorem kkDget {X : Cx} {Ar : Around} {o i : Expr} {pos : Pos} {td ty : TE} (h : X.A = Ar) (hu : Ar.units + 1 < cLine) (ho : PE X o td) (hi : PE X i ty) (hs : NoSl i) : PE X (.Subscript o i pos) (tDGet td ty) := pe_dget (h ▸ hu) ho hi hs
/-! ### lists of values and what they hold -/
def LR {α : Type} (R : Hp → V → α → Prop) (H : Hp) : List V → List α → Prop
  | [], [] => True
  | x :: xs, a :: l => R H x a ∧ LR R H xs l
  | _, _ => False
section
variable {α : Type} {R : Hp → V → α → Prop} {H H' : Hp}
theorem LR.get : ∀ {xs : List V} {l : List α} {i : Nat} {x : V}, LR R H xs l → xs[i]? = some x → ∃ a, l[i]? = some a ∧ R H x a
  | _ :: _, a :: _, 0, _, ⟨h, _⟩, q => ⟨a, rfl, by cases q; exact h⟩
  | _ :: _, _ :: _, i + 1, _, ⟨_, h⟩, q => LR.get (i := i) h q
  | [], [], _, _, _, q => by simp at q
  | [], _ :: _, _, _, h, _ => h.elim
  | _ :: _, [], _, _, h, _ => h.elim
theorem LR.len : ∀ {xs : List V} {l : List α}, LR R H xs l → xs.length = l.length
  | [], [], _ => rfl
  | _ :: _, _ :: _, ⟨_, h⟩ => congrArg (· + 1) (LR.len h)
  | [], _ :: _, h => h.elim
  | _ :: _, [], h => h.elim
theorem LR.imp {R' : Hp → V → α → Prop} (f : ∀ x a, R H x a → R' H' x a) : ∀ {xs : List V} {l : List α}, LR R H xs l → LR R' H' xs l
  | [], [], _ => trivial
  | _ :: _, _ :: _, ⟨h1, h⟩ => ⟨f _ _ h1, LR.imp f h⟩
  | [], _ :: _, h => h.elim
  | _ :: _, [], h => h.elim
theorem LR.app : ∀ {xs ys : List V} {l m : List α}, LR R H xs l → LR R H ys m → LR R H (xs ++ ys) (l ++ m)
  | [], _, [], _, _, h => h
  | _ :: _, _, _ :: _, _, ⟨h1, h⟩, h2 => ⟨h1, LR.app h h2⟩
  | [], _, _ :: _, _, h, _ => h.elim
  | _ :: _, _, [], _, h, _ => h.elim
theorem LR.one {x : V} {a : α} (h : R H x a) : LR R H [x] [a] := ⟨h, trivial⟩
theorem LR.snoc {x : V} {a : α} {xs : List V} {l : List α} (h : LR R H xs l) (h1 : R H x a) : LR R H (xs ++ [x]) (l ++ [a]) := h.app (LR.one h1)
theorem LR.rev : ∀ {xs : List V} {l : List α}, LR R H xs l → LR R H xs.reverse l.reverse
  | [], [], _ => trivial
  | x :: xs, a :: l, ⟨h1, h⟩ => by rw [List.reverse_cons, List.reverse_cons]; exact LR.snoc (LR.rev h) h1
  | [], _ :: _, h => h.elim
  | _ :: _, [], h => h.elim
theorem LR.take : ∀ {xs : List V} {l : List α} (n : Nat), LR R H xs l → LR R H (xs.take n) (l.take n)
  | [], [], n, _ => by rw [List.take_nil, List.take_nil]; trivial
  | _ :: _, _ :: _, 0, _ => trivial
  | _ :: _, _ :: _, n + 1, ⟨h1, h⟩ => ⟨h1, LR.take n h⟩
  | [], _ :: _, _, h => h.elim
  | _ :: _, [], _, h => h.elim
theorem LR.drop : ∀ {xs : List V} {l : List α} (n : Nat), LR R H xs l → LR R H (xs.drop n) (l.drop n)
  | [], [], n, _ => by rw [List.drop_nil, List.drop_nil]; trivial
  | _ :: _, _ :: _, 0, h => h
  | _ :: _, _ :: _, n + 1, ⟨_, h⟩ => LR.drop n h
  | [], _ :: _, _, h => h.elim
  | _ :: _, [], _, h => h.elim
end
theorem lr_map {α β : Type} {R : Hp → V → α → Prop} {R' : Hp → V → β → Prop} {H H' : Hp} {f : α → β} : ∀ {xs : List V} {l : List α}, (∀ x a, a ∈ l → R H x a → R' H' x (f a)) → LR R H xs l → LR R' H' xs (l.map f)
  | [], [], _, _ => trivial
  | _ :: _, a :: l, h, ⟨h1, h2⟩ => ⟨h _ a List.mem_cons_self h1, lr_map (fun x b hb => h x b (List.mem_cons_of_mem _ hb)) h2⟩
  | [], _ :: _, _, h => h.elim
  | _ :: _, [], _, h => h.elim
/-! ### packets -/
abbrev Sx (l : List Nat) : Str := ⟨l.toArray⟩
abbrev WS (w : List Nat) : V := .str (Sx w)
def kW : Nat → List Nat
  | 0 => [100, 97, 116, 97]
  | _ => [116, 101, 108, 108]
abbrev kS (k : Nat) : V := WS (kW k)
structure Pk where
  s : Int
  g : Int
  k : Nat
  l : Int
  n : Int
  p : Int
  m : Bool
  b : List Int
/-! ### pieces of packets, plainly -/
/-- what came of a packet: since when, octets by places, the end -/
structure Ent where
  since : Int
  oc : List (Key × V)
  en : Option Int
def key4 (p : Pk) : List Key := [.inl p.s, .inl p.g, .inr (Sx (kW p.k)), .inl p.n]
def addB : List (Key × V) → Int → List Int → Option (List (Key × V))
  | oc, _, [] => some oc
  | oc, pl, b :: r => match valV oc (.inl pl) with
    | none => addB (putK oc (.inl pl) (.int b)) (pl + 1) r
    | some v => if v = .int b then addB oc (pl + 1) r else none
def keyI : Key → Int
  | .inl i => i
  | .inr _ => 0
def fitL (e : Ent) (p : Pk) (oc : List (Key × V)) : Option Ent :=
  if p.m = false ∧ ¬ (e.en = none ∨ e.en = some (p.p + p.b.length)) then none else
  match (if p.m then e.en else some (p.p + p.b.length)) with
  | none => some ⟨e.since, oc, none⟩
  | some z => if p.p + p.b.length ≤ z ∧ oc.all (fun x => decide (keyI x.1 < z)) = true then some ⟨e.since, oc, some z⟩ else none
def fitE (e : Ent) (p : Pk) : Option Ent := (addB e.oc p.p p.b).bind (fitL e p)
def whole (e : Ent) : Bool := match e.en with
  | some z => decide ((e.oc.length : Int) = z)
  | none => false
def octAt (oc : List (Key × V)) (i : Nat) : Int := match valV oc (.inl i) with
  | some (.int v) => v
  | _ => 0
def bodyOf (e : Ent) : List Int := (List.range (e.en.getD 0).toNat).map (octAt e.oc)
abbrev Sta := List (List Key × Ent)
def aget (st : Sta) (k : List Key) : Option Ent := (st.find? fun x => decide (x.1 = k)).map (·.2)
def aput (st : Sta) (k : List Key) (e : Ent) : Sta := if (st.any fun x => decide (x.1 = k)) = true then st.map (fun x => if x.1 = k then (x.1, e) else x) else st ++ [(k, e)]
def adrop (st : Sta) (k : List Key) : Sta := st.filter fun x => decide (x.1 ≠ k)
def joined (p : Pk) (e : Ent) : Pk := { p with p := 0, m := false, b := bodyOf e }
def tk (st : Sta) (p : Pk) (now : Int) : Option Pk × Sta :=
  match fitE ((aget st (key4 p)).getD ⟨now, [], none⟩) p with
  | none => (none, adrop st (key4 p))
  | some e => if whole e = true then (some (joined p e), adrop st (key4 p)) else (none, aput st (key4 p) e)
def tick (st : Sta) (w now : Int) : Sta := st.filter fun x => decide (now - x.2.since < w)
/-! octets by places -/
structure OcOk (oc : List (Key × V)) : Prop where
  nd : (oc.map (·.1)).Nodup
  at_ : ∀ x ∈ oc, ∃ i v : Int, x = (.inl i, .int v) ∧ 0 ≤ i ∧ i < 50
theorem OcOk.nil : OcOk [] := ⟨List.nodup_nil, fun _ h => by cases h⟩
theorem nd_lt : ∀ (n : Nat) (l : List Nat), l.Nodup → (∀ x ∈ l, x < n) → l.length ≤ n
  | 0, l, _, h => by
    cases l with
    | nil => exact Nat.le_refl _
    | cons a r => exact absurd (h a List.mem_cons_self) (Nat.not_lt_zero _)
  | n + 1, l, hn, h => by
    have ih := nd_lt n (l.filter fun x => decide (x ≠ n)) (hn.filter _) fun x hx => by
      obtain ⟨h1, h2⟩ := List.mem_filter.mp hx
      have := h x h1
      have := of_decide_eq_true h2
      omega
    have hc : l.length ≤ (l.filter fun x => decide (x ≠ n)).length + 1 := by
      clear ih h
      induction l with
      | nil => exact Nat.zero_le _
      | cons a r ih =>
        rw [List.nodup_cons] at hn
        by_cases e : a = n
        · rw [List.filter_cons_of_neg (by simp [e])]
          have : r.filter (fun x => decide (x ≠ n)) = r := List.filter_eq_self.mpr fun x hx => decide_eq_true fun z => hn.1 (by rw [e, ← z]; exact hx)
          rw [this]
          exact Nat.le_refl _
        · rw [List.filter_cons_of_pos (by simp [e]), List.length_cons, List.length_cons]
          have := ih hn.2
          omega
    omega
theorem nd_all {n : Nat} {l : List Nat} (hn : l.Nodup) (h : ∀ x ∈ l, x < n) (hl : l.length = n) : ∀ i < n, i ∈ l := fun i hi => by
  refine Classical.byContradiction fun z => ?_
  have := nd_lt n (i :: l) (List.nodup_cons.mpr ⟨z, hn⟩) fun x hx => by
    rcases List.mem_cons.mp hx with e | e
    · rw [e]; exact hi
    · exact h x e
  rw [List.length_cons] at this
  omega
theorem OcOk.nat {oc : List (Key × V)} (h : OcOk oc) : (oc.map fun x => (keyI x.1).toNat).Nodup := by
  obtain ⟨h1, h2⟩ := h
  induction oc with
  | nil => exact List.nodup_nil
  | cons a r ih =>
    rw [List.map_cons, List.nodup_cons] at h1 ⊢
    refine ⟨fun hm => h1.1 ?_, ih h1.2 fun x hx => h2 x (List.mem_cons_of_mem _ hx)⟩
    obtain ⟨x, hx, e⟩ := List.mem_map.mp hm
    obtain ⟨i, v, rfl, hi, _⟩ := h2 x (List.mem_cons_of_mem _ hx)
    obtain ⟨j, u, rfl, hj, _⟩ := h2 a List.mem_cons_self
    have e : i.toNat = j.toNat := e
    have : i = j := by omega
    subst this
    exact List.mem_map.mpr ⟨_, hx, rfl⟩
theorem OcOk.len {oc : List (Key × V)} (h : OcOk oc) : oc.length ≤ 50 := by
  have := nd_lt 50 _ h.nat fun x hx => by
    obtain ⟨y, hy, e⟩ := List.mem_map.mp hx
    obtain ⟨i, v, rfl, hi, hi2⟩ := h.at_ y hy
    have e : i.toNat = x := e
    omega
  rw [List.length_map] at this
  exact this
theorem val_mem {κ : Type} [DecidableEq κ] {oc : List (κ × V)} {k : κ} {v : V} (h : valV oc k = some v) : (k, v) ∈ oc := by
  unfold valV at h
  cases e : oc.find? fun kv => decide (kv.1 = k) with
  | none => rw [e] at h; cases h
  | some p =>
    rw [e] at h
    have h1 : p.2 = v := Option.some.inj h
    have h2 : p.1 = k := of_decide_eq_true (p := p.1 = k) (by have z := List.find?_some e; exact z)
    have := List.mem_of_find?_eq_some e
    rw [show (k, v) = p by rw [← h1, ← h2]]
    exact this
theorem val_of {κ : Type} [DecidableEq κ] : ∀ {oc : List (κ × V)} {k : κ} {v : V}, (oc.map (·.1)).Nodup → (k, v) ∈ oc → valV oc k = some v
  | [], _, _, _, h => by cases h
  | p :: r, k, v, hn, h => by
    rw [List.map_cons, List.nodup_cons] at hn
    rcases List.mem_cons.mp h with e | e
    · rw [valV_pos (by rw [← e]), ← e]
    · rw [valV_neg fun z => hn.1 (by rw [z]; exact List.mem_map.mpr ⟨_, e, rfl⟩)]
      exact val_of hn.2 e
theorem OcOk.val {oc : List (Key × V)} (h : OcOk oc) {k : Key} {v : V} (e : valV oc k = some v) : ∃ i u : Int, k = .inl i ∧ v = .int u := by
  obtain ⟨i, u, e, _⟩ := h.at_ _ (val_mem e)
  obtain ⟨rfl, rfl⟩ := Prod.mk.inj e
  exact ⟨i, u, rfl, rfl⟩
theorem OcOk.put {oc : List (Key × V)} (h : OcOk oc) {i b : Int} (h0 : 0 ≤ i) (h1 : i < 50) (e : valV oc (.inl i) = none) : OcOk (putK oc (.inl i) (.int b)) := by
  rw [putK_new _ e]
  refine ⟨?_, fun x hx => ?_⟩
  · rw [List.map_append, List.nodup_append]
    refine ⟨h.nd, by simp, fun a ha b hb => ?_⟩
    rw [List.map_singleton, List.mem_singleton] at hb
    rintro rfl
    obtain ⟨x, hx, ex⟩ := List.mem_map.mp ha
    have := val_of (k := x.1) (v := x.2) h.nd hx
    rw [ex, hb, e] at this
    cases this
  · rcases List.mem_append.mp hx with hx | hx
    · exact h.at_ x hx
    · rw [List.mem_singleton.mp hx]
      exact ⟨i, b, rfl, h0, h1⟩
theorem put_same {oc : List (Key × V)} {k : Key} {v : V} (hn : (oc.map (·.1)).Nodup) (e : valV oc k = some v) : putK oc k v = oc := by
  unfold putK
  rw [valV_any, e, Option.isSome_some, if_pos rfl]
  refine (List.map_congr_left (g := id) fun x hx => ?_).trans (List.map_id _)
  by_cases c : x.1 = k
  · rw [if_pos c]
    have := val_of (k := x.1) (v := x.2) hn hx
    rw [c, e] at this
    show (x.1, v) = x
    rw [Option.some.inj this]
  · rw [if_neg c]; rfl
theorem addB_ok : ∀ {b : List Int} {oc oc' : List (Key × V)} {pl : Int}, OcOk oc → 0 ≤ pl → pl + b.length ≤ 50 → addB oc pl b = some oc' → OcOk oc'
  | [], oc, oc', pl, h, _, _, e => by cases e; exact h
  | x :: r, oc, oc', pl, h, h0, h1, e => by
    unfold addB at e
    rw [List.length_cons] at h1
    cases hv : valV oc (.inl pl) with
    | none =>
      rw [hv] at e
      exact addB_ok (h.put h0 (by omega) hv) (by omega) (by omega) e
    | some v =>
      rw [hv] at e
      by_cases c : v = .int x
      · simp only [if_pos c] at e
        exact addB_ok h (by omega) (by omega) e
      · simp only [if_neg c] at e
        cases e
theorem addB_cons {oc : List (Key × V)} {pl b : Int} {r : List Int} : addB oc pl (b :: r) = match valV oc (.inl pl) with
    | none => addB (putK oc (.inl pl) (.int b)) (pl + 1) r
    | some v => if v = .int b then addB oc (pl + 1) r else none := rfl
theorem addB_new {oc : List (Key × V)} {pl b : Int} {r : List Int} (h : valV oc (.inl pl) = none) : addB oc pl (b :: r) = addB (putK oc (.inl pl) (.int b)) (pl + 1) r := by rw [addB_cons, h]
theorem addB_old {oc : List (Key × V)} {pl b : Int} {r : List Int} (h : valV oc (.inl pl) = some (.int b)) : addB oc pl (b :: r) = addB oc (pl + 1) r := by
  rw [addB_cons, h]
  exact if_pos rfl
theorem addB_bad {oc : List (Key × V)} {pl b : Int} {v : V} {r : List Int} (h : valV oc (.inl pl) = some v) (n : v ≠ .int b) : addB oc pl (b :: r) = none := by
  rw [addB_cons, h]
  exact if_neg n
theorem drop_at {α : Type} {b : List α} {i : Nat} {x : α} (h : b[i]? = some x) : b.drop i = x :: b.drop (i + 1) := by
  have hi := (List.getElem?_eq_some_iff.mp h).1
  rw [List.drop_eq_getElem_cons hi, (List.getElem?_eq_some_iff.mp h).2]
/-! what came of a packet -/
structure EOk (e : Ent) : Prop where
  oc : OcOk e.oc
  en : ∀ z, e.en = some z → e.oc.all (fun x => decide (keyI x.1 < z)) = true ∧ 0 ≤ z ∧ z ≤ 50
structure GP (p : Pk) : Prop where
  p0 : 0 ≤ p.p
  pl : p.p + p.b.length ≤ 50
theorem EOk.new (now : Int) : EOk ⟨now, [], none⟩ := ⟨OcOk.nil, fun z h => by cases h⟩
theorem fitL_ok {e e' : Ent} {p : Pk} {oc : List (Key × V)} (he : EOk e) (hp : GP p) (ho : OcOk oc) (h : fitL e p oc = some e') : EOk e' ∧ e'.since = e.since ∧ e'.oc = oc := by
  unfold fitL at h
  split at h
  · cases h
  · rename_i c
    cases hm : p.m with
    | true =>
      rw [hm] at h
      simp only [if_pos] at h
      cases hz : e.en with
      | none =>
        rw [hz] at h
        cases h
        exact ⟨⟨ho, fun z h => by cases h⟩, rfl, rfl⟩
      | some z =>
        rw [hz] at h
        obtain ⟨_, z0, z1⟩ := he.en z hz
        by_cases c2 : p.p + p.b.length ≤ z ∧ oc.all (fun x => decide (keyI x.1 < z)) = true
        · simp only [if_pos c2] at h
          cases h
          exact ⟨⟨ho, fun z' h' => by cases h'; exact ⟨c2.2, z0, z1⟩⟩, rfl, rfl⟩
        · simp only [if_neg c2] at h
          cases h
    | false =>
      rw [hm] at h
      simp only [Bool.false_eq_true, if_false] at h
      by_cases c2 : p.p + p.b.length ≤ p.p + p.b.length ∧ oc.all (fun x => decide (keyI x.1 < p.p + p.b.length)) = true
      · simp only [if_pos c2] at h
        cases h
        have := hp.p0
        have := hp.pl
        exact ⟨⟨ho, fun z' h' => by cases h'; exact ⟨c2.2, by omega, by omega⟩⟩, rfl, rfl⟩
      · simp only [if_neg c2] at h
        cases h
theorem fitE_ok {e e' : Ent} {p : Pk} (he : EOk e) (hp : GP p) (h : fitE e p = some e') : EOk e' := by
  unfold fitE at h
  cases ha : addB e.oc p.p p.b with
  | none => rw [ha] at h; cases h
  | some oc =>
    rw [ha] at h
    exact (fitL_ok he hp (addB_ok he.oc hp.p0 hp.pl ha) h).1
theorem all_nat {oc : List (Key × V)} (h : OcOk oc) {z : Int} (hz : oc.all (fun x => decide (keyI x.1 < z)) = true) : (oc.length : Int) ≤ z ∨ (oc = [] ∧ z < 0) := by
  by_cases c : z < 0
  · right
    refine ⟨?_, c⟩
    cases oc with
    | nil => rfl
    | cons a r =>
      obtain ⟨i, v, rfl, hi, _⟩ := h.at_ a List.mem_cons_self
      rw [List.all_cons, Bool.and_eq_true, decide_eq_true_eq] at hz
      have : i < z := hz.1
      omega
  · left
    have := nd_lt z.toNat _ h.nat fun x hx => by
      obtain ⟨y, hy, e⟩ := List.mem_map.mp hx
      obtain ⟨i, v, rfl, hi, _⟩ := h.at_ y hy
      have e : i.toNat = x := e
      have : i < z := of_decide_eq_true (List.all_eq_true.mp hz _ hy)
      omega
    rw [List.length_map] at this
    omega
/-- all octets are there: as many as the end tells -/
theorem whole_len {e : Ent} (h : EOk e) {z : Int} (hz : e.en = some z) : whole e = decide (¬ (e.oc.length : Int) < z) := by
  unfold whole
  rw [hz]
  obtain ⟨h1, h0, _⟩ := h.en z hz
  have := all_nat h.oc h1
  show decide ((e.oc.length : Int) = z) = _
  refine decide_eq_decide.mpr ?_
  rcases this with h | ⟨_, h⟩ <;> omega
theorem whole_at {e : Ent} (h : EOk e) {z : Int} (hz : e.en = some z) (hw : whole e = true) {i : Nat} (hi : (i : Int) < z) : valV e.oc (.inl (i : Int)) = some (.int (octAt e.oc i)) := by
  unfold whole at hw
  rw [hz] at hw
  have hl : (e.oc.length : Int) = z := of_decide_eq_true hw
  obtain ⟨h1, h0, _⟩ := h.en z hz
  have hm := nd_all (n := z.toNat) h.oc.nat (fun x hx => by
    obtain ⟨y, hy, e⟩ := List.mem_map.mp hx
    obtain ⟨i, v, rfl, hi, _⟩ := h.oc.at_ y hy
    have e : i.toNat = x := e
    have : i < z := of_decide_eq_true (List.all_eq_true.mp h1 _ hy)
    omega) (by rw [List.length_map]; omega) i (by omega)
  obtain ⟨y, hy, e⟩ := List.mem_map.mp hm
  obtain ⟨j, v, rfl, hj, _⟩ := h.oc.at_ y hy
  have e : j.toNat = i := e
  have : j = (i : Int) := by omega
  subst this
  have hv := val_of h.oc.nd hy
  unfold octAt
  rw [hv]
theorem octAt_of {oc : List (Key × V)} {i : Nat} {v : Int} (h : valV oc (.inl (i : Int)) = some (.int v)) : octAt oc i = v := by unfold octAt; rw [h]
/-! states -/
structure SOk (st : Sta) : Prop where
  nd : (st.map (·.1)).Nodup
  ok : ∀ x ∈ st, EOk x.2
theorem aget_mem {st : Sta} {k : List Key} {e : Ent} (h : aget st k = some e) : (k, e) ∈ st := by
  unfold aget at h
  cases c : st.find? fun x => decide (x.1 = k) with
  | none => rw [c] at h; cases h
  | some p =>
    rw [c] at h
    have h1 : p.2 = e := Option.some.inj h
    have h2 : p.1 = k := of_decide_eq_true (p := p.1 = k) (by have z := List.find?_some c; exact z)
    have := List.mem_of_find?_eq_some c
    rw [show (k, e) = p by rw [← h1, ← h2]]
    exact this
theorem aget_none {st : Sta} {k : List Key} (h : aget st k = none) : ∀ x ∈ st, x.1 ≠ k := fun x hx e => by
  unfold aget at h
  rw [Option.map_eq_none_iff, List.find?_eq_none] at h
  exact h x hx (decide_eq_true e)
theorem any_get (st : Sta) (k : List Key) : (st.any fun x => decide (x.1 = k)) = (aget st k).isSome := by
  unfold aget
  rw [Option.isSome_map, List.isSome_find?]
theorem aput_new {st : Sta} {k : List Key} (e : Ent) (h : aget st k = none) : aput st k e = st ++ [(k, e)] := by
  unfold aput
  rw [any_get, h]
  exact if_neg (by decide)
theorem aput_old {st : Sta} {k : List Key} {e0 : Ent} (e : Ent) (h : aget st k = some e0) : aput st k e = st.map fun x => if x.1 = k then (x.1, e) else x := by
  unfold aput
  rw [any_get, h]
  exact if_pos rfl
theorem adrop_put (st : Sta) (k : List Key) (e : Ent) : adrop (aput st k e) k = adrop st k := by
  cases h : aget st k with
  | none =>
    rw [aput_new e h]
    unfold adrop
    rw [List.filter_append, List.filter_cons_of_neg (by simp), List.filter_nil, List.append_nil]
  | some e0 =>
    rw [aput_old e h]
    unfold adrop
    clear h
    induction st with
    | nil => rfl
    | cons x r ih =>
      rw [List.map_cons]
      by_cases c : x.1 = k
      · rw [if_pos c, List.filter_cons_of_neg (by simp [c]), List.filter_cons_of_neg (by simp [c]), ih]
      · rw [if_neg c, List.filter_cons_of_pos (by simp [c]), List.filter_cons_of_pos (by simp [c]), ih]
theorem aput_keys {st : Sta} {k : List Key} {e0 : Ent} (e : Ent) (h : aget st k = some e0) : (aput st k e).map (·.1) = st.map (·.1) := by
  rw [aput_old e h, List.map_map]
  refine List.map_congr_left fun x _ => ?_
  show (if x.1 = k then (x.1, e) else x).1 = x.1
  split <;> rfl
theorem SOk.put {st : Sta} {k : List Key} {e : Ent} (h : SOk st) (he : EOk e) : SOk (aput st k e) := by
  cases c : aget st k with
  | none =>
    rw [aput_new e c]
    refine ⟨?_, fun x hx => ?_⟩
    · rw [List.map_append, List.nodup_append]
      refine ⟨h.nd, by simp, fun a ha b hb => ?_⟩
      rw [List.map_singleton, List.mem_singleton] at hb
      rintro rfl
      obtain ⟨x, hx, ex⟩ := List.mem_map.mp ha
      exact aget_none c x hx (ex.trans hb)
    · rcases List.mem_append.mp hx with hx | hx
      · exact h.ok x hx
      · rw [List.mem_singleton.mp hx]; exact he
  | some e0 =>
    refine ⟨by rw [aput_keys e c]; exact h.nd, fun x hx => ?_⟩
    rw [aput_old e c] at hx
    obtain ⟨y, hy, rfl⟩ := List.mem_map.mp hx
    split
    · exact he
    · exact h.ok y hy
theorem SOk.filter {st : Sta} (h : SOk st) (f : List Key × Ent → Bool) : SOk (st.filter f) := ⟨h.nd.sublist (List.filter_sublist.map _), fun x hx => h.ok x (List.mem_filter.mp hx).1⟩
theorem SOk.nil : SOk [] := ⟨List.nodup_nil, fun _ h => by cases h⟩
theorem SOk.get {st : Sta} (h : SOk st) (k : List Key) (now : Int) : EOk ((aget st k).getD ⟨now, [], none⟩) := by
  cases c : aget st k with
  | none => exact EOk.new now
  | some e => exact h.ok _ (aget_mem c)
theorem tk_ok {st : Sta} {p : Pk} {now : Int} (h : SOk st) (hp : GP p) : SOk (tk st p now).2 := by
  unfold tk
  cases c : fitE ((aget st (key4 p)).getD ⟨now, [], none⟩) p with
  | none => exact h.filter _
  | some e =>
    have he := fitE_ok (h.get _ now) hp c
    show SOk (if whole e = true then _ else _ : Option Pk × Sta).2
    split
    · exact h.filter _
    · exact h.put he
theorem aput_len (st : Sta) (k : List Key) (e : Ent) : (aput st k e).length ≤ st.length + 1 := by
  unfold aput
  split
  · rw [List.length_map]; omega
  · rw [List.length_append, List.length_singleton]; omega
theorem tk_len (st : Sta) (p : Pk) (now : Int) : (tk st p now).2.length ≤ st.length + 1 := by
  unfold tk
  have hd : (adrop st (key4 p)).length ≤ st.length + 1 := Nat.le_succ_of_le (List.length_filter_le _ _)
  cases fitE ((aget st (key4 p)).getD ⟨now, [], none⟩) p with
  | none => exact hd
  | some e =>
    show (if whole e = true then _ else _ : Option Pk × Sta).2.length ≤ _
    split
    · exact hd
    · exact aput_len _ _ _
/-! ### pieces -/
def nP (len m : Nat) : Nat := (max len 1 + m - 1) / m
def cutP (p : Pk) (m i : Nat) : Pk := { p with p := p.p + ((i * m : Nat) : Int), m := if p.b.length ≤ i * m + m then p.m else true, b := (p.b.drop (i * m)).take m }
def cut (p : Pk) (m : Nat) : List Pk := (List.range (nP p.b.length m)).map (cutP p m)
theorem nP_lt {len m i : Nat} (hm : 1 ≤ m) : i < nP len m ↔ i * m < max len 1 := by
  unfold nP
  rw [← Nat.succ_le_iff, Nat.le_div_iff_mul_le hm, Nat.succ_mul]
  omega
theorem nP_le {len m : Nat} (hm : 1 ≤ m) : nP len m ≤ max len 1 := by
  refine Nat.le_of_not_lt fun h => ?_
  have := (nP_lt hm).mp h
  have := Nat.le_mul_of_pos_right (max len 1) hm
  omega
theorem nP_pos {len m : Nat} (hm : 1 ≤ m) : 0 < nP len m := (nP_lt hm).mpr (by omega)
theorem cut_len (p : Pk) (m : Nat) : (cut p m).length = nP p.b.length m := by unfold cut; rw [List.length_map, List.length_range]
theorem cut_get {p : Pk} {m i : Nat} (h : i < nP p.b.length m) : (cut p m)[i]? = some (cutP p m i) := by
  unfold cut
  rw [List.getElem?_map, List.getElem?_range h]
  rfl
theorem cut_one {p : Pk} {m : Nat} (h : p.b.length ≤ m) (hm : 1 ≤ m) : cut p m = [p] := by
  have : nP p.b.length m = 1 := by
    have a := nP_pos (len := p.b.length) hm
    have b : ¬ 1 < nP p.b.length m := fun z => by
      have := (nP_lt hm).mp z
      omega
    omega
  unfold cut
  rw [this]
  show [cutP p m 0] = [p]
  unfold cutP
  rw [Nat.zero_mul, if_pos (by omega), List.drop_zero, List.take_of_length_le h]
  simp
theorem cutP_gp {p : Pk} {m i : Nat} (hp : GP p) (hm : 1 ≤ m) (h : i < nP p.b.length m) : GP (cutP p m i) := by
  have h1 := (nP_lt hm).mp h
  have a := hp.p0
  have b := hp.pl
  refine ⟨?_, ?_⟩
  · show 0 ≤ p.p + ((i * m : Nat) : Int)
    omega
  · show p.p + ((i * m : Nat) : Int) + (((p.b.drop (i * m)).take m).length : Int) ≤ 50
    rw [List.length_take, List.length_drop]
    omega
theorem cutP_len {p : Pk} {m i : Nat} : (cutP p m i).b.length ≤ m := by
  show ((p.b.drop (i * m)).take m).length ≤ m
  rw [List.length_take]
  omega
/-- where the law's cutting stands -/
def atC (len m i : Nat) : Nat := if i = 0 then 0 else max (min (i * m) len) 1
theorem atC_go {len m i : Nat} (hm : 1 ≤ m) : (atC len m i = 0 ∨ atC len m i < len) ↔ i < nP len m := by
  rw [nP_lt hm]
  unfold atC
  cases i with
  | zero => simp; omega
  | succ i =>
    rw [if_neg (Nat.succ_ne_zero i)]
    have : 1 ≤ (i + 1) * m := Nat.mul_pos (Nat.succ_pos i) hm
    omega
theorem atC_at {len m i : Nat} (hm : 1 ≤ m) (h : i < nP len m) : atC len m i = i * m := by
  have h1 := (nP_lt hm).mp h
  unfold atC
  cases i with
  | zero => simp
  | succ i =>
    rw [if_neg (Nat.succ_ne_zero i)]
    have : 1 ≤ (i + 1) * m := Nat.mul_pos (Nat.succ_pos i) hm
    omega
theorem atC_next {len m i : Nat} (hm : 1 ≤ m) (h : i < nP len m) : max (i * m + min m (len - i * m)) (i * m + 1) = atC len m (i + 1) := by
  have h1 := (nP_lt hm).mp h
  unfold atC
  rw [if_neg (Nat.succ_ne_zero i), Nat.succ_mul]
  omega
theorem cut_more {p : Pk} {m i : Nat} (hm : 1 ≤ m) (h : i < nP p.b.length m) : (if p.b.length ≤ i * m + m then p.m else true) = (p.m || decide (i * m + min m (p.b.length - i * m) < p.b.length)) := by
  have h1 := (nP_lt hm).mp h
  by_cases c : p.b.length ≤ i * m + m
  · rw [if_pos c, decide_eq_false (by omega), Bool.or_false]
  · rw [if_neg c, decide_eq_true (by omega), Bool.or_true]
theorem fitL_bad {e : Ent} {p : Pk} {oc : List (Key × V)} (h : p.m = false ∧ ¬ (e.en = none ∨ e.en = some (p.p + p.b.length))) : fitL e p oc = none := if_pos h
theorem fitL_none {e : Ent} {p : Pk} {oc : List (Key × V)} (hc : ¬ (p.m = false ∧ ¬ (e.en = none ∨ e.en = some (p.p + p.b.length)))) (h : (if p.m then e.en else some (p.p + p.b.length)) = none) : fitL e p oc = some ⟨e.since, oc, none⟩ := by
  unfold fitL
  rw [if_neg hc, h]
theorem fitL_some {e : Ent} {p : Pk} {oc : List (Key × V)} {z : Int} (hc : ¬ (p.m = false ∧ ¬ (e.en = none ∨ e.en = some (p.p + p.b.length)))) (h : (if p.m then e.en else some (p.p + p.b.length)) = some z) :
    fitL e p oc = if p.p + p.b.length ≤ z ∧ oc.all (fun x => decide (keyI x.1 < z)) = true then some ⟨e.since, oc, some z⟩ else none := by
  unfold fitL
  rw [if_neg hc, h]
theorem aput_put {st : Sta} {k : List Key} {e0 e : Ent} (h : aget st k = none) : aput (aput st k e0) k e = aput st k e := by
  have hn := aget_none h
  rw [aput_new e0 h, aput_new e h]
  unfold aput
  rw [if_pos (by simp), List.map_append]
  congr 1
  · refine (List.map_congr_left (g := id) fun x hx => if_neg (hn x hx)).trans (List.map_id _)
  · simp
def top (i : Nat) : Stmt := PySem.Challenge.pw_everyoctetonce_k04_whole_pieces.main.body.getD i (.Pass ⟨0, 0, 0, 0⟩)
abbrev s_pieces_of : Stmt := top 1
theorem sc_pieces_of : FnScope ["packet", "most", "source", "goal", "kind", "life", "number", "place", "more", "body", "found", "begin", "part", "is_last"] ["packet", "most"] (defScope s_pieces_of) := ⟨rfl, rfl, rfl, by decide +kernel, rfl, by decide +kernel, by decide +kernel⟩
abbrev s_Parts_init : Stmt := inClass (top 2) 0
theorem sc_Parts_init : FnScope ["self", "now"] ["self", "now"] (defScope s_Parts_init) := ⟨rfl, rfl, rfl, by decide +kernel, rfl, by decide +kernel, by decide +kernel⟩
abbrev s_Parts_take : Stmt := inClass (top 2) 1
theorem sc_Parts_take : FnScope ["self", "place", "more", "body", "number", "own", "end", "at"] ["self", "place", "more", "body"] (defScope s_Parts_take) := ⟨rfl, rfl, rfl, by decide +kernel, rfl, by decide +kernel, by decide +kernel⟩
abbrev s_Parts_is_whole : Stmt := inClass (top 2) 2
theorem sc_Parts_is_whole : FnScope ["self"] ["self"] (defScope s_Parts_is_whole) := ⟨rfl, rfl, rfl, by decide +kernel, rfl, by decide +kernel, by decide +kernel⟩
abbrev s_Parts_body : Stmt := inClass (top 2) 3
theorem sc_Parts_body : FnScope ["self", "place"] ["self"] (defScope s_Parts_body) := ⟨rfl, rfl, rfl, by decide +kernel, rfl, by decide +kernel, by decide +kernel⟩
abbrev s_Joiner_init : Stmt := inClass (top 3) 0
theorem sc_Joiner_init : FnScope ["self", "wait"] ["self", "wait"] (defScope s_Joiner_init) := ⟨rfl, rfl, rfl, by decide +kernel, rfl, by decide +kernel, by decide +kernel⟩
abbrev s_Joiner_take : Stmt := inClass (top 3) 1
theorem sc_Joiner_take : FnScope ["self", "packet", "now", "source", "goal", "kind", "life", "number", "place", "more", "body", "key", "parts"] ["self", "packet", "now"] (defScope s_Joiner_take) := ⟨rfl, rfl, rfl, by decide +kernel, rfl, by decide +kernel, by decide +kernel⟩
abbrev s_Joiner_tick : Stmt := inClass (top 3) 2
theorem sc_Joiner_tick : FnScope ["self", "now", "key", "own"] ["self", "now"] (defScope s_Joiner_tick) := ⟨rfl, rfl, rfl, by decide +kernel, rfl, by decide +kernel, by decide +kernel⟩
abbrev s_Joiner_waiting : Stmt := inClass (top 3) 3
theorem sc_Joiner_waiting : FnScope ["self"] ["self"] (defScope s_Joiner_waiting) := ⟨rfl, rfl, rfl, by decide +kernel, rfl, by decide +kernel, by decide +kernel⟩
abbrev s_law_begin : Stmt := top 5
theorem sc_law_begin : FnScope ["script", "seed", "cell"] ["script"] (defScope s_law_begin) := ⟨rfl, rfl, rfl, by decide +kernel, rfl, by decide +kernel, by decide +kernel⟩
abbrev s_law_take : Stmt := top 6
theorem sc_law_take : FnScope ["d", "many", "small", "digit"] ["d", "many"] (defScope s_law_take) := ⟨rfl, rfl, rfl, by decide +kernel, rfl, by decide +kernel, by decide +kernel⟩
abbrev s_law_pick : Stmt := top 7
theorem sc_law_pick : FnScope ["d", "menu"] ["d", "menu"] (defScope s_law_pick) := ⟨rfl, rfl, rfl, by decide +kernel, rfl, by decide +kernel, by decide +kernel⟩
abbrev s_law_octets : Stmt := top 8
theorem sc_law_octets : FnScope ["d", "most", "k"] ["d", "most"] (defScope s_law_octets) := ⟨rfl, rfl, rfl, by decide +kernel, rfl, by decide +kernel, by decide +kernel⟩
abbrev s_law_cut : Stmt := top 9
theorem sc_law_cut : FnScope ["packet", "most", "source", "goal", "kind", "life", "number", "place", "more", "body", "found", "at", "part", "end"] ["packet", "most"] (defScope s_law_cut) := ⟨rfl, rfl, rfl, by decide +kernel, rfl, by decide +kernel, by decide +kernel⟩
abbrev s_law_take_piece : Stmt := top 10
theorem sc_law_take_piece : FnScope ["known", "piece", "now", "source", "goal", "kind", "life", "number", "place", "more", "body", "key", "since", "octets", "end", "fits", "k", "at"] ["known", "piece", "now"] (defScope s_law_take_piece) := ⟨rfl, rfl, rfl, by decide +kernel, rfl, by decide +kernel, by decide +kernel⟩
abbrev s_law : Stmt := top 11
theorem sc_law : FnScope ["script", "d", "packets", "k", "row", "packet", "most", "pieces", "piece", "mixed", "menu", "wait", "joiner", "known", "now", "key"] ["script"] (defScope s_law) := ⟨rfl, rfl, rfl, by decide +kernel, rfl, by decide +kernel, by decide +kernel⟩
structure Adr where
  f_pieces_of : Addr
  d_pieces_of : FuncData
  f_Parts_init : Addr
  d_Parts_init : FuncData
  f_Parts_take : Addr
  d_Parts_take : FuncData
  f_Parts_is_whole : Addr
  d_Parts_is_whole : FuncData
  f_Parts_body : Addr
  d_Parts_body : FuncData
  f_Joiner_init : Addr
  d_Joiner_init : FuncData
  f_Joiner_take : Addr
  d_Joiner_take : FuncData
  f_Joiner_tick : Addr
  d_Joiner_tick : FuncData
  f_Joiner_waiting : Addr
  d_Joiner_waiting : FuncData
  f_law_begin : Addr
  d_law_begin : FuncData
  f_law_take : Addr
  d_law_take : FuncData
  f_law_pick : Addr
  d_law_pick : FuncData
  f_law_octets : Addr
  d_law_octets : FuncData
  f_law_cut : Addr
  d_law_cut : FuncData
  f_law_take_piece : Addr
  d_law_take_piece : FuncData
  f_law : Addr
  d_law : FuncData
  c_Parts : Addr
  c_Joiner : Addr
structure Txt (K : PySem.W.Frag) (mg : Str → Option Value) (A : Adr) : Prop where
  pieces_of : GF K mg "pieces_of" s_pieces_of ["packet", "most"] A.f_pieces_of A.d_pieces_of
  Parts_init : MF K "__init__" "Parts.__init__" s_Parts_init ["self", "now"] A.c_Parts A.f_Parts_init A.d_Parts_init
  Parts_take : MF K "take" "Parts.take" s_Parts_take ["self", "place", "more", "body"] A.c_Parts A.f_Parts_take A.d_Parts_take
  Parts_is_whole : MF K "is_whole" "Parts.is_whole" s_Parts_is_whole ["self"] A.c_Parts A.f_Parts_is_whole A.d_Parts_is_whole
  Parts_body : MF K "body" "Parts.body" s_Parts_body ["self"] A.c_Parts A.f_Parts_body A.d_Parts_body
  Joiner_init : MF K "__init__" "Joiner.__init__" s_Joiner_init ["self", "wait"] A.c_Joiner A.f_Joiner_init A.d_Joiner_init
  Joiner_take : MF K "take" "Joiner.take" s_Joiner_take ["self", "packet", "now"] A.c_Joiner A.f_Joiner_take A.d_Joiner_take
  Joiner_tick : MF K "tick" "Joiner.tick" s_Joiner_tick ["self", "now"] A.c_Joiner A.f_Joiner_tick A.d_Joiner_tick
  Joiner_waiting : MF K "waiting" "Joiner.waiting" s_Joiner_waiting ["self"] A.c_Joiner A.f_Joiner_waiting A.d_Joiner_waiting
  law_begin : GF K mg "_law_begin" s_law_begin ["script"] A.f_law_begin A.d_law_begin
  law_take : GF K mg "_law_take" s_law_take ["d", "many"] A.f_law_take A.d_law_take
  law_pick : GF K mg "_law_pick" s_law_pick ["d", "menu"] A.f_law_pick A.d_law_pick
  law_octets : GF K mg "_law_octets" s_law_octets ["d", "most"] A.f_law_octets A.d_law_octets
  law_cut : GF K mg "_law_cut" s_law_cut ["packet", "most"] A.f_law_cut A.d_law_cut
  law_take_piece : GF K mg "_law_take_piece" s_law_take_piece ["known", "piece", "now"] A.f_law_take_piece A.d_law_take_piece
  law : GF K mg "law" s_law ["script"] A.f_law A.d_law
  Parts : CF K mg "Parts" ["since", "octets", "end"] A.c_Parts A.f_Parts_init
  Joiner : CF K mg "Joiner" ["_wait", "_parts"] A.c_Joiner A.f_Joiner_init
  b_range : mg "range" = none
  b_max : mg "max" = none
  b_len : mg "len" = none
  b_tuple : mg "tuple" = none
  b_enumerate : mg "enumerate" = none
  b_all : mg "all" = none
  b_int : mg "int" = none
  b_list : mg "list" = none
  b_abs : mg "abs" = none
  b_dict : mg "dict" = none
/-! ### the law's own draws -/
/-- d holds the script's ints (a list at s), a place, what is left of a number, a seed -/
def DSt (H : Hp) (d s : Addr) : Prop := d ≠ s ∧ ∃ (ns : List Int) (pos cur seed : Int), H d = some (.lst [.ref s, .int pos, .int cur, .int seed]) ∧ H s = some (.lst (ns.map V.int)) ∧ ns.length ≤ 63 ∧ 0 ≤ pos ∧ 0 ≤ cur
theorem DSt.ext {A : List Addr} {H H' : Hp} {d s : Addr} (e : Ext A H H') (h : DSt H d s) (n1 : d ∉ A) (n2 : s ∉ A) : DSt H' d s := by
  obtain ⟨ne, ns, pos, cur, seed, h1, h2, h3⟩ := h
  exact ⟨ne, ns, pos, cur, seed, e.keep _ _ h1 n1, e.keep _ _ h2 n2, h3⟩
def spBegin (K : PySem.W.Frag) : Sp := fun vs H Q _ => ∃ (a : Addr) (ns : List Int), vs = [.ref a] ∧ SqL K H a (ns.map V.int) ∧ ns.length ≤ 63 ∧ ∀ d s H', H d = none → H s = none → Ext [] H H' → DSt H' d s → Q (.ref d) H'
def spTake : Sp := fun vs H Q _ => ∃ (d s : Addr) (many : Int), vs = [.ref d, .int many] ∧ DSt H d s ∧ 0 < many ∧ many < 2 ^ 64 ∧ ∀ k H', 0 ≤ k → k < many → Ext [d] H H' → DSt H' d s → Q (.int k) H'
def spPick (K : PySem.W.Frag) : Sp := fun vs H Q _ => ∃ (d s m : Addr) (xs : List V), vs = [.ref d, .ref m] ∧ DSt H d s ∧ SqL K H m xs ∧ m ≠ d ∧ 0 < xs.length ∧ xs.length < 1000 ∧ ∀ v H', v ∈ xs → Ext [d] H H' → DSt H' d s → Q v H'
def spLaw (K : PySem.W.Frag) : Sp := fun vs H Q _ => ∃ (a : Addr) (ns : List Int), vs = [.ref a] ∧ SqL K H a (ns.map V.int) ∧ ns.length ≤ 63 ∧ ∀ H', Q (.bl true) H'
theorem ne_dst1 {H : Hp} {d s x : Addr} (n : H x = none) (h : DSt H d s) : d ≠ x := by
  obtain ⟨_, _, _, _, _, h1, _⟩ := h
  exact ne_of_none h1 n
theorem ne_dst2 {H : Hp} {d s x : Addr} (n : H x = none) (h : DSt H d s) : s ≠ x := by
  obtain ⟨_, _, _, _, _, _, h1, _⟩ := h
  exact ne_of_none h1 n
local macro_rules | `(tactic| walk_at "eo dst") => `(tactic| first | with_reducible assumption | ((with_reducible apply DSt.ext); (with_reducible assumption); (walk_at "eo dst"); (walk_at "eo nin"); (walk_at "eo nin")))
local macro_rules | `(tactic| walk_at "eo ne2") => `(tactic| first
  | ((with_reducible apply ne_dst1); (with_reducible assumption); (walk_at "eo dst"))
  | ((with_reducible apply ne_dst2); (with_reducible assumption); (walk_at "eo dst"))
  | ((with_reducible apply Ne.symm); (with_reducible apply ne_dst1); (with_reducible assumption); (walk_at "eo dst"))
  | ((with_reducible apply Ne.symm); (with_reducible apply ne_dst2); (with_reducible assumption); (walk_at "eo dst")))
/-! ### nested data, by what they are -/
def Shp (d : PyData) (k : Nat) : Prop := d.canLay0 = true ∧ d.depth ≤ k
def ShpAll (ds : List PyData) (k : Nat) : Prop := PyData.canLayAll0 ds = true ∧ PyData.depthAll ds ≤ k
theorem shp_int {i : Int} {k : Nat} : Shp (.int i) k := ⟨rfl, Nat.zero_le _⟩
theorem shp_non {k : Nat} : Shp .none k := ⟨rfl, Nat.zero_le _⟩
theorem shp_bl {b : Bool} {k : Nat} : Shp (.bool b) k := ⟨rfl, Nat.zero_le _⟩
theorem shp_nil {k : Nat} : ShpAll [] k := ⟨rfl, Nat.zero_le _⟩
theorem shp_cons {d : PyData} {ds : List PyData} {k : Nat} (h : Shp d k) (t : ShpAll ds k) : ShpAll (d :: ds) k := by
  refine ⟨?_, ?_⟩
  · rw [PyData.canLayAll0, h.1, t.1]; rfl
  · rw [PyData.depthAll]; exact Nat.max_le.mpr ⟨h.2, t.2⟩
theorem shp_tup {ds : List PyData} {k : Nat} (h : ShpAll ds k) : Shp (.tuple ds) (k + 1) := by
  refine ⟨?_, ?_⟩
  · rw [PyData.canLay0]; exact h.1
  · rw [PyData.depth]
    have := h.2
    omega
theorem shp_ints {k : Nat} : ∀ ns : List Int, ShpAll (ns.map PyData.int) k
  | [] => shp_nil
  | _ :: r => shp_cons shp_int (shp_ints r)
theorem shp_app {k : Nat} : ∀ {ds es : List PyData}, ShpAll ds k → ShpAll es k → ShpAll (ds ++ es) k
  | [], _, _, h => h
  | d :: ds, es, h, g => by
    have h1 := h.1
    have h2 := h.2
    rw [PyData.canLayAll0, Bool.and_eq_true] at h1
    rw [PyData.depthAll] at h2
    have h3 := Nat.max_le.mp h2
    exact shp_cons ⟨h1.1, h3.1⟩ (shp_app ⟨h1.2, h3.2⟩ g)
theorem Shp.shaped {d : PyData} {k : Nat} (h : Shp d k) (l : k ≤ 64) : SeqAt.shaped d = true := by
  unfold SeqAt.shaped
  rw [h.1, decide_eq_true (Nat.le_trans h.2 l)]
  rfl
theorem dp_ints {K : PySem.W.Frag} {H : Hp} : ∀ ns : List Int, DpAll K H (ns.map V.int) (ns.map PyData.int)
  | [] => .nil
  | n :: r => .cons (.int n) (dp_ints r)
theorem dp_app {K : PySem.W.Frag} {H : Hp} : ∀ {xs ys : List V} {ds es : List PyData}, DpAll K H xs ds → DpAll K H ys es → DpAll K H (xs ++ ys) (ds ++ es)
  | _, _, _, _, .nil, h => h
  | _, _, _, _, .cons a t, h => .cons a (dp_app t h)
section
variable {K : PySem.W.Frag} {H : Hp} {Q : VK} {x y : V} {d e : PyData} {k : Nat}
theorem g_eqD (hx : Dp K H x d) (hy : Dp K H y e) (hs : Shp d 8) (he : d = e) (h : Q (.bl true) H) : rEqX K x y H Q := by
  subst he
  refine .inr ⟨d, d, hx, hy, hs.shaped (by decide), hs.shaped (by decide), ?_⟩
  rw [SeqAt.eqv_refl d hs.1]
  exact h
theorem g_neD (hx : Dp K H x d) (hy : Dp K H y e) (hs : Shp d 8) (he : d = e) (h : Q (.bl false) H) : rNeX K x y H Q := by
  subst he
  refine .inr ⟨d, d, hx, hy, hs.shaped (by decide), hs.shaped (by decide), ?_⟩
  rw [SeqAt.eqv_refl d hs.1]
  exact h
end
local macro_rules | `(tactic| walk_at "eo dp") => `(tactic| first | with_reducible exact Dp.int _ | with_reducible exact Dp.non | with_reducible exact Dp.bl _ | with_reducible exact Dp.str _ | with_reducible assumption | ((with_reducible apply Dp.tup); (walk_at "eo sqT"); (walk_at "eo dps")))
local macro_rules | `(tactic| walk_at "eo dps") => `(tactic| first | with_reducible exact DpAll.nil | with_reducible exact dp_ints _ | ((with_reducible apply dp_app); (walk_at "eo dps"); (walk_at "eo dps")) | ((with_reducible apply DpAll.cons); (walk_at "eo dp"); (walk_at "eo dps")))
local macro_rules | `(tactic| walk_at "eo shp") => `(tactic| first | with_reducible exact shp_int | with_reducible exact shp_non | with_reducible exact shp_bl | (apply shp_tup; (walk_at "eo shps")))
local macro_rules | `(tactic| walk_at "eo shps") => `(tactic| first | with_reducible exact shp_nil | with_reducible exact shp_ints _ | ((with_reducible apply shp_app); (walk_at "eo shps"); (walk_at "eo shps")) | ((with_reducible apply shp_cons); (walk_at "eo shp"); (walk_at "eo shps")))
local macro_rules | `(tactic| walk_at "eo step") => `(tactic| first
  | ((with_reducible apply g_neD); (walk_at "eo dp"); (walk_at "eo dp"); (walk_at "eo shp"); rfl)
  | ((with_reducible apply g_eqD); (walk_at "eo dp"); (walk_at "eo dp"); (walk_at "eo shp"); rfl))
/-! ### dicts with int or text keys -/
theorem u1 {n : Nat} (h : n + 64 < cLine) : n + 1 < cLine := by omega
theorem u0 {n : Nat} (h : n + 64 < cLine) : n < cLine := by omega
section
variable {K : PySem.W.Frag} {σ : St} {H : Hp} {Q : VK} {D : Ends} {td ty tv : TE} {a : Addr} {kvs : List (Key × V)} {v : V}
theorem g_dget (h : td σ H fun x H1 => ty σ H1 fun y H2 => ∃ a v, x = .ref a ∧ DGet H2 a y (some v) ∧ Q v H2) : tDGet td ty σ H Q := h
theorem g_dgetI {i : Int} (e : H a = some (.dK kvs)) (l : valV kvs (.inl i) = some v) (h : Q v H) : ∃ a' v, V.ref a = .ref a' ∧ DGet H a' (.int i) (some v) ∧ Q v H := ⟨a, v, rfl, l ▸ DGet.k (k := .inl i) e, h⟩
theorem g_dgetS {i : Str} (e : H a = some (.dK kvs)) (l : valV kvs (.inr i) = some v) (h : Q v H) : ∃ a' v, V.ref a = .ref a' ∧ DGet H a' (.str i) (some v) ∧ Q v H := ⟨a, v, rfl, l ▸ DGet.k (k := .inr i) e, h⟩
theorem g_din (h : ty σ H fun y H1 => td σ H1 fun x H2 => ∃ a o, x = .ref a ∧ DGet H2 a y o ∧ Q (.bl o.isSome) H2) : tDIn ty td σ H Q := h
theorem g_dnin (h : ty σ H fun y H1 => td σ H1 fun x H2 => ∃ a o, x = .ref a ∧ DGet H2 a y o ∧ Q (.bl (!o.isSome)) H2) : tDNotIn ty td σ H Q := h
theorem g_dinI {i : Int} {R : Option V → Prop} (e : H a = some (.dK kvs)) (h : R (valV kvs (.inl i))) : ∃ a' o, V.ref a = .ref a' ∧ DGet H a' (.int i) o ∧ R o := ⟨a, _, rfl, DGet.k (k := .inl i) e, h⟩
theorem g_dinS {i : Str} {R : Option V → Prop} (e : H a = some (.dK kvs)) (h : R (valV kvs (.inr i))) : ∃ a' o, V.ref a = .ref a' ∧ DGet H a' (.str i) o ∧ R o := ⟨a, _, rfl, DGet.k (k := .inr i) e, h⟩
theorem g_dput (h : tv σ H fun v H1 => td σ H1 fun x H2 => ty σ H2 fun y H3 => ∃ a H4, x = .ref a ∧ DPut H3 a y v H4 ∧ D.nx σ H4) : sDPut td ty tv D σ H := h
theorem g_dputI {i : Int} {R : Hp → Prop} (e : H a = some (.dK kvs)) (l : kvs.length < 1000) (h : ∀ H', Ext [a] H H' → H' a = some (.dK (putK kvs (.inl i) v)) → R H') : ∃ a' H4, V.ref a = .ref a' ∧ DPut H a' (.int i) v H4 ∧ R H4 :=
  ⟨a, _, rfl, DPut.k (k := .inl i) e (by rw [sizeLine_eq]; omega), h _ (Ext.wr e rfl) upd_same⟩
theorem g_daug {rd : V → V → Hp → VK → Prop} (h : td σ H fun x H1 => ty σ H1 fun y H2 => ∃ a v, x = .ref a ∧ DGet H2 a y (some v) ∧ tv σ H2 fun y2 H3 => rd v y2 H3 fun z H4 => ∃ H5, DPut H4 a y z H5 ∧ D.nx σ H5) : sDAug td ty tv rd D σ H := h
theorem g_daugI {i : Int} {R : Addr → V → Prop} (e : H a = some (.dK kvs)) (l : valV kvs (.inl i) = some v) (h : R a v) : ∃ a' v, V.ref a = .ref a' ∧ DGet H a' (.int i) (some v) ∧ R a' v := ⟨a, v, rfl, l ▸ DGet.k (k := .inl i) e, h⟩
theorem g_daugI' {i : Int} {R : Hp → Prop} (e : H a = some (.dK kvs)) (l : kvs.length < 1000) (h : ∀ H', Ext [a] H H' → H' a = some (.dK (putK kvs (.inl i) v)) → R H') : ∃ H5, DPut H a (.int i) v H5 ∧ R H5 :=
  ⟨_, DPut.k (k := .inl i) e (by rw [sizeLine_eq]; omega), h _ (Ext.wr e rfl) upd_same⟩
theorem g_dnew {R : V → Hp → Prop} (h : NewO H (.dK []) fun p H' => R (.ref p) H') : tDNewK σ H R := fun p hp => h p _ hp (Ext.new hp) upd_same
end
section
variable {K : PySem.W.Frag} {σ : St} {H : Hp} {te : TE} {D : Ends}
theorem g_tB {R : Bool → Hp → Prop} (h : te σ H fun x H1 => ∃ c, x = .bl c ∧ R c H1) : tB te σ H R := h
end
local macro_rules | `(tactic| walk_at "eo kl") => `(tactic| first | with_reducible assumption | omega | exact lt1000)
local macro_rules | `(tactic| walk_at "eo step") => `(tactic| first
  | with_reducible refine g_dget ?_
  | ((with_reducible apply g_dgetI); (walk_at "eo fact"); (with_reducible assumption))
  | ((with_reducible apply g_dgetS); (walk_at "eo fact"); (with_reducible assumption))
  | with_reducible refine g_din ?_
  | with_reducible refine g_dnin ?_
  | ((with_reducible apply g_dinI); (walk_at "eo fact"))
  | ((with_reducible apply g_dinS); (walk_at "eo fact"))
  | with_reducible refine g_dput ?_
  | ((with_reducible apply g_dputI); (walk_at "eo fact"); (walk_at "eo kl"); intro _ _ _)
  | with_reducible refine g_daug ?_
  | ((with_reducible apply g_daugI); (walk_at "eo fact"); (with_reducible assumption))
  | ((with_reducible apply g_daugI'); (walk_at "eo fact"); (walk_at "eo kl"); intro _ _ _)
  | with_reducible refine g_dnew ?_
  | with_reducible refine g_tB ?_)
/-! ### a dict is locked while it is walked -/
theorem Ext.same {H HF : Hp} {d : Addr} {u : HO} (e : Ext [d] H HF) (h : H d = some u) (h' : HF d = some u) : Ext [] H HF :=
  ⟨fun b o q _ => by
    by_cases c : b = d
    · subst c
      rw [h] at q
      cases q
      exact h'
    · exact e.keep b o q (nin1 c), e.imm⟩
section
variable {K : PySem.W.Frag} {σ : St} {H : Hp} {Q : VK} {t : TE} {d : Addr} {kvs : List (Key × V)}
theorem g_lockE (e : H d = some (.dK kvs)) (h : ∀ od H0, Ext [d] H H0 → H0 d = some (.frz od (.dK kvs)) → t σ H0 fun v H' => H' d = some (.frz od (.dK kvs)) ∧ ∀ HF, Ext [d] H' HF → HF d = some (.dK kvs) → Q v HF) : tLockE (stE t) σ H Q :=
  ⟨d, .dK kvs, e, trivial, fun od => ⟨_, h od _ (Ext.wr e rfl) upd_same, fun v H' q => ⟨q.1, q.2 _ (Ext.wr q.1 rfl) upd_same⟩⟩⟩
theorem g_iVals {td : TE} {R : It → Hp → Prop} (h : td σ H fun x H1 => ∃ d o kvs, x = .ref d ∧ H1 d = some (.frz o (.dK kvs)) ∧ R (Itd d o kvs) H1) : iVals td σ H R := h
theorem g_itV {o : Obj} {g : TG} {tt : TT} {te : TE} {vs : List Nat} (e : H d = some (.frz o (.dK kvs))) (h : LcGoal (Itd d o kvs) g tt te vs σ H Q) : ∃ d' o kvs, V.ref d = .ref d' ∧ H d' = some (.frz o (.dK kvs)) ∧ LcGoal (Itd d' o kvs) g tt te vs σ H Q := ⟨d, o, kvs, rfl, e, h⟩
end
local macro_rules | `(tactic| walk_at "eo step") => `(tactic| first
  | with_reducible refine g_iVals ?_
  | ((with_reducible apply g_itV); (with_reducible assumption)))
/-! ### loops, joins, rows of numbers -/
def asgScope (s : Stmt) : Scope := match s with
  | .Assign _ (.ListComp _ _ sc _) _ => sc
  | .Return (some (.Call _ [.ListComp _ _ sc _] _ _)) _ => sc
  | _ => { kind := .function, names := [], isGenerator := false, isCoroutine := false }
/-- a comprehension's scope within a def whose scope is o -/
def relS (s o : Scope) : Scope := { s with names := s.names.map fun (n, k) => if (k == .free && o.kind == .function && o.names.lookup n == some .cell) then (n, .cell) else (n, k) }
def strB (b : Bool) : Str := if b then "True" else "False"
def rReprB : List V → Hp → VK → Prop := fun xs H Q => ∃ b, xs = [.bl b] ∧ Q (.str (strB b)) H
theorem o_repr {X : Cx} : CallR X (.builtin "repr") rReprB := by
  intro pins s σ H xs us Q I r h
  obtain ⟨b, rfl, q⟩ := h
  obtain ⟨u, rfl, rb⟩ := vals1 r
  cases (show u = Value.bool b from rb)
  exact PySem.P.repr_of_bool ⟨.str (strB b), H, I.tok _, ⟨s.toks, rfl⟩, q⟩
theorem g_repr {b : Bool} {H : Hp} {Q : VK} (h : Q (.str (strB b)) H) : rReprB [.bl b] H Q := ⟨b, rfl, h⟩
section
variable {K : PySem.W.Frag} {σ : St} {H : Hp} {Q : VK} {D : Ends} {t u : TS}
theorem g_join (J : L2.St → Hp → Prop) (h : t { D with nx := J } σ H) (h2 : ∀ σ' H', J σ' H' → u D σ' H') : tJoin t u D σ H := ⟨J, h, h2⟩
theorem g_while {c : TT} (W : Nat → L2.St → Hp → Prop) (m : Nat) (h0 : W m σ H)
    (h : ∀ m σ H, W m σ H → c σ H fun b H1 => if b = true then ∃ N : L2.St → Hp → Prop, (∀ σ' H', N σ' H' → ∃ m', m' < m ∧ W m' σ' H') ∧ t { D with nx := N, ct := N, bk := D.nx } σ H1 else D.nx σ H1) : tWhile c t D σ H := ⟨W, ⟨m, h0⟩, h⟩
theorem g_loop {W : Nat → L2.St → Hp → Prop} {m : Nat} (h : t { D with nx := fun σ' H' => ∃ m', m' < m ∧ W m' σ' H', ct := fun σ' H' => ∃ m', m' < m ∧ W m' σ' H', bk := D.nx } σ H) :
    ∃ N : L2.St → Hp → Prop, (∀ σ' H', N σ' H' → ∃ m', m' < m ∧ W m' σ' H') ∧ t { D with nx := N, ct := N, bk := D.nx } σ H := ⟨_, fun _ _ z => z, h⟩
theorem g_rSub {i j : Int} (h : Q (.int (i - j)) H) : rSub (.int i) (.int j) H Q := ⟨i, j, rfl, rfl, h⟩
theorem cutI {xs : List Int} {y r : Int} (h : 0 ≤ r) : cutV (xs.map V.int ++ [.int y]) none (some r) = ((xs ++ [y]).take r.toNat).map V.int := by
  have e : r = ((r.toNat : Nat) : Int) := (Int.toNat_of_nonneg h).symm
  rw [e, cut_to, List.map_take, List.map_append]
  rfl
theorem inV_int (n : Int) : ∀ ns : List Int, inV (.int n) (ns.map V.int) = decide (n ∈ ns)
  | [] => rfl
  | a :: r => by
    show (eqV (.int a) (.int n) || inV (.int n) (r.map V.int)) = _
    rw [inV_int n r]
    show (decide (a = n) || decide (n ∈ r)) = decide (n ∈ a :: r)
    by_cases c : a = n
    · subst c; simp
    · have c' : ¬ n = a := fun e => c e.symm
      simp [c, c']
theorem flat_ints : ∀ ns : List Int, (ns.map V.int).all flatV = true
  | [] => rfl
  | _ :: r => by simp only [List.map_cons, List.all_cons, flat_ints r, flatV, Bool.and_self]
theorem g_inLI {n : Int} {p : Addr} {ns : List Int} (e : SqL K H p (ns.map V.int)) (h : Q (.bl (decide (n ∈ ns))) H) : rIn K false (.int n) (.ref p) H Q := g_inL e rfl (flat_ints ns) (by rw [inV_int]; exact h)
theorem g_ninLI {n : Int} {p : Addr} {ns : List Int} (e : SqL K H p (ns.map V.int)) (h : Q (.bl (!decide (n ∈ ns))) H) : rIn K true (.int n) (.ref p) H Q := g_ninL e rfl (flat_ints ns) (by rw [inV_int]; exact h)
theorem g_pop0 {l : Addr} {x : V} {xs : List V} (e : H l = some (.lst (x :: xs))) (h : ∀ H', Ext [l] H H' → H' l = some (.lst xs) → Q x H') : rPopAt (.ref l) [.int 0] H Q :=
  ⟨l, x :: xs, 0, 0, x, rfl, rfl, e, by decide, by decide, by simp [seqIndex?], rfl, h _ (Ext.wr e rfl) upd_same⟩
end
local macro_rules | `(tactic| walk_at "eo step") => `(tactic| first
  | ((with_reducible apply g_pop0); (walk_at "eo fact"); (intro _ _ _))
  | ((with_reducible apply g_inLI); (walk_at "eo sqL"))
  | ((with_reducible apply g_ninLI); (walk_at "eo sqL"))
  | with_reducible refine g_rSub ?_
  | with_reducible refine g_repr ?_
  | with_reducible refine g_loop ?_)
/-! ### comprehensions, told by a list of what they hold -/
section
variable {α : Type} {J : It} {n : Nat} {G : Hp → Prop} {Y : Nat → Hp → V → Hp → Prop} {g : TG} {te tk tv : TE} {vs : List Nat} {σ : L2.St} {H1 : Hp} {Q : VK} {R : Hp → V → α → Prop}
theorem g_lcR (w : Walk J n G Y) (R : Hp → V → α → Prop) (hR : ∀ {H H' : Hp} {A : List Addr} {x : V} {a : α}, Ext A H H' → R H x a → R H' x a) (L : List α) (hL : n = L.length) (hn : n ≤ 1000) (hG : ∀ H, Ext [] H1 H → G H)
    (hs : ∀ i x H H' b, L[i]? = some b → Ext [] H1 H → Y i H x H' → stG g x (wipe σ vs) H' fun σ2 H2 => wipe σ2 vs = wipe σ vs ∧ stE te σ2 H2 fun y H3 => Ext [] H H3 ∧ R H3 y b)
    (hd : ∀ D H acc, Ext [] H1 H → H1 D = none → LR R H acc L → H D = some (.lst acc) → Q (.ref D) H) : LcGoal J (stG g) (stT tYes) (stE te) vs σ H1 Q := by
  refine g_lcW w (fun D i H acc => Ext [] H1 H ∧ H1 D = none ∧ LR R H acc (L.take i)) ?_ ?_ ?_ ?_
  · intro D H' n0 e _
    exact ⟨e, n0, trivial⟩
  · rintro D i H acc _ ⟨e, _⟩
    exact hG H e
  · rintro D i x H H' acc hi ⟨e, n0, hA⟩ hD hY
    have hi' : i < L.length := by omega
    have hb : L[i]? = some L[i] := List.getElem?_eq_getElem hi'
    refine (hs i x H H' _ hb e hY).mono fun σ2 H2 ⟨q1, q2⟩ => ⟨q1, g_stT (g_yes ?_)⟩
    rw [if_pos rfl]
    refine stE.mono q2 fun y H3 ⟨e3, r3⟩ => ⟨e3.keep _ _ hD nin0, ?_, fun H5 e5 h5 => ⟨?_, n0, ?_⟩⟩
    · rw [hA.len, List.length_take, sizeLine_eq]; omega
    · exact (e.trans e3 (fun _ z => z) (fun _ z => by cases z)).trans e5 (fun _ z => z) (fun x hx ⟨o, ho⟩ => by rw [List.mem_singleton.mp hx, n0] at ho; cases ho)
    · rw [List.take_succ, hb]
      exact LR.snoc ((hA.imp fun _ _ => hR e3).imp fun _ _ => hR e5) (hR e5 r3)
  · rintro D H acc ⟨e, n0, hA⟩ hD
    rw [hL, List.take_length] at hA
    exact hd D H acc e n0 hA hD
theorem g_lcD {d sc : Addr} (w : Walk J n G Y) (R : Hp → V → α → Prop) (Good : Nat → α → Prop) (hR : ∀ {H H' : Hp} {A : List Addr} {x : V} {a : α}, Ext A H H' → R H x a → R H' x a) (hn : n ≤ 1000) (h1 : DSt H1 d sc) (hG : ∀ H, Ext [d] H1 H → G H)
    (hs : ∀ i x H H', i < n → Ext [d] H1 H → DSt H d sc → Y i H x H' → stG g x (wipe σ vs) H' fun σ2 H2 => wipe σ2 vs = wipe σ vs ∧ stE te σ2 H2 fun y H3 => Ext [d] H H3 ∧ DSt H3 d sc ∧ ∃ b, Good i b ∧ R H3 y b)
    (hd : ∀ D H acc L, Ext [d] H1 H → DSt H d sc → H1 D = none → D ≠ d → D ≠ sc → L.length = n → (∀ i b, L[i]? = some b → Good i b) → LR R H acc L → H D = some (.lst acc) → Q (.ref D) H) : LcGoal J (stG g) (stT tYes) (stE te) vs σ H1 Q := by
  refine g_lcW w (fun D i H acc => Ext [d] H1 H ∧ DSt H d sc ∧ H1 D = none ∧ D ≠ d ∧ D ≠ sc ∧ ∃ L, L.length = i ∧ (∀ i b, L[i]? = some b → Good i b) ∧ LR R H acc L) ?_ ?_ ?_ ?_
  · intro D H' n0 e _
    exact ⟨e.mono (fun _ z => by cases z), h1.ext e nin0 nin0, n0, (ne_dst1 n0 h1).symm, (ne_dst2 n0 h1).symm, [], rfl, fun i b h => by simp at h, trivial⟩
  · rintro D i H acc _ ⟨e, _⟩
    exact hG H e
  · rintro D i x H H' acc hi ⟨e, hS, n0, nd, ns, L, hL, hg, hA⟩ hD hY
    refine (hs i x H H' hi e hS hY).mono fun σ2 H2 ⟨q1, q2⟩ => ⟨q1, g_stT (g_yes ?_)⟩
    rw [if_pos rfl]
    refine stE.mono q2 fun y H3 ⟨e3, hS3, b, gb, r3⟩ => ⟨e3.keep _ _ hD (nin1 nd), ?_, fun H5 e5 h5 => ⟨?_, hS3.ext e5 (nin1 nd.symm) (nin1 ns.symm), n0, nd, ns, L ++ [b], ?_, ?_, ?_⟩⟩
    · rw [hA.len, hL, sizeLine_eq]; omega
    · exact (e.trans e3 (fun _ z => z) (fun _ z _ => z)).trans e5 (fun _ z => z) (fun x hx ⟨o, ho⟩ => by rw [List.mem_singleton.mp hx, n0] at ho; cases ho)
    · rw [List.length_append, List.length_singleton, hL]
    · intro j c hj
      by_cases q : j < L.length
      · rw [List.getElem?_append_left q] at hj
        exact hg j c hj
      · rw [List.getElem?_append_right (by omega)] at hj
        have : j - L.length = 0 := by
          have := (List.getElem?_eq_some_iff.mp hj).1
          rw [List.length_singleton] at this
          omega
        rw [this] at hj
        cases hj
        rw [show j = i by omega]
        exact gb
    · exact LR.snoc ((hA.imp fun _ _ => hR e3).imp fun _ _ => hR e5) (hR e5 r3)
  · rintro D H acc ⟨e, hS, n0, nd, ns, L, hL, hg, hA⟩ hD
    exact hd D H acc L e hS n0 nd ns hL hg hA hD
end
def IsV (_ : Hp) (x : V) (v : V) : Prop := x = v
theorem lr_v {H : Hp} : ∀ {xs L : List V}, LR IsV H xs L → xs = L
  | [], [], _ => rfl
  | _ :: _, _ :: _, ⟨h1, h⟩ => by rw [show _ = _ from h1, lr_v h]
  | [], _ :: _, h => h.elim
  | _ :: _, [], h => h.elim
def IsI (_ : Hp) (x : V) (n : Int) : Prop := x = .int n
theorem lr_i {H : Hp} : ∀ {xs : List V} {L : List Int}, LR IsI H xs L → xs = L.map V.int
  | [], [], _ => rfl
  | _ :: _, _ :: _, ⟨h1, h⟩ => by rw [show _ = _ from h1, lr_i h]; rfl
  | [], _ :: _, h => h.elim
  | _ :: _, [], h => h.elim
/-! ### packets and pieces on the heap -/
def pkV (p : Pk) (b : Addr) : List V := [.int p.s, .int p.g, kS p.k, .int p.l, .int p.n, .int p.p, .bl p.m, .ref b]
def PkAt (K : PySem.W.Frag) (H : Hp) (t : Addr) (p : Pk) : Prop := ∃ b, SqT K H t (pkV p b) ∧ SqT K H b (p.b.map V.int)
theorem PkAt.ext {K : PySem.W.Frag} {A : List Addr} {H H' : Hp} {t : Addr} {p : Pk} (e : Ext A H H') : PkAt K H t p → PkAt K H' t p := fun ⟨b, h1, h2⟩ => ⟨b, sqT_ext e h1, sqT_ext e h2⟩
def PkR (K : PySem.W.Frag) (H : Hp) (x : V) (p : Pk) : Prop := ∃ t, x = .ref t ∧ PkAt K H t p
theorem PkR.ext {K : PySem.W.Frag} {A : List Addr} {H H' : Hp} {x : V} {p : Pk} (e : Ext A H H') : PkR K H x p → PkR K H' x p := fun ⟨b, h1, h2⟩ => ⟨b, h1, PkAt.ext e h2⟩
def ResAt (K : PySem.W.Frag) (H : Hp) (v : V) : Option Pk → Prop
  | none => v = .non
  | some p => PkR K H v p
theorem ResAt.ext {K : PySem.W.Frag} {A : List Addr} {H H' : Hp} {x : V} {r : Option Pk} (e : Ext A H H') : ResAt K H x r → ResAt K H' x r := by
  cases r with
  | none => exact id
  | some p => exact PkR.ext e
def optI : Option Int → V
  | some i => .int i
  | none => .non
def PtAt (C : Addr) (H : Hp) (q o : Addr) (e : Ent) : Prop := (∃ dx, H q = some (.ins C dx [("since", .int e.since), ("octets", .ref o), ("end", optI e.en)])) ∧ H o = some (.dK e.oc)
structure Rw where
  k : List Key
  a : Addr
  o : Addr
  e : Ent
def kvR (rs : List Rw) : List (List Key × V) := rs.map fun r => (r.k, V.ref r.a)
def stR (rs : List Rw) : Sta := rs.map fun r => (r.k, r.e)
def jF (w : Int) (P : Addr) : List (Str × V) := [("_wait", .int w), ("_parts", .ref P)]
structure PInv (CJ CP : Addr) (H : Hp) (j : Addr) (w : Int) (P : Addr) (rs : List Rw) : Prop where
  jo : ∃ dx, H j = some (.ins CJ dx (jF w P))
  dd : H P = some (.dT (kvR rs))
  at_ : ∀ r ∈ rs, PtAt CP H r.a r.o r.e
  na : (rs.map (·.a)).Nodup
  no : (rs.map (·.o)).Nodup
  ok : SOk (stR rs)
  ja : ∀ r ∈ rs, r.a ≠ j
structure LInv (K : PySem.W.Frag) (H : Hp) (kn : Addr) (ls : List Rw) : Prop where
  dd : H kn = some (.dT (kvR ls))
  at_ : ∀ r ∈ ls, SqT K H r.a [.int r.e.since, .ref r.o, optI r.e.en] ∧ H r.o = some (.dK r.e.oc)
  ok : SOk (stR ls)
def ownP (P : Addr) (rs : List Rw) : List Addr := P :: (rs.map (·.a) ++ rs.map (·.o))
def spPtInit (C : Addr) : Sp := fun vs H Q _ => ∃ (q dx : Addr) (now : Int), vs = [.ref q, .int now] ∧ H q = some (.ins C dx []) ∧ ∀ o H', H o = none → Ext [q] H H' → PtAt C H' q o ⟨now, [], none⟩ → Q .non H'
def spPtTake (K : PySem.W.Frag) (C : Addr) : Sp := fun vs H Q _ => ∃ (q o b : Addr) (e : Ent) (p : Pk), vs = [.ref q, .int p.p, .bl p.m, .ref b] ∧ PtAt C H q o e ∧ EOk e ∧ SqT K H b (p.b.map V.int) ∧ GP p ∧
  (fitE e p = none → ∀ H', Ext [q, o] H H' → Q (.bl false) H') ∧ ∀ e', fitE e p = some e' → ∀ H', Ext [q, o] H H' → PtAt C H' q o e' → Q (.bl true) H'
def spPtWhole (C : Addr) : Sp := fun vs H Q _ => ∃ (q o : Addr) (e : Ent), vs = [.ref q] ∧ PtAt C H q o e ∧ Q (.bl (whole e)) H
def spPtBody (K : PySem.W.Frag) (C : Addr) : Sp := fun vs H Q _ => ∃ (q o : Addr) (e : Ent), vs = [.ref q] ∧ PtAt C H q o e ∧ EOk e ∧ whole e = true ∧ ∀ c H', Ext [] H H' → SqT K H' c ((bodyOf e).map V.int) → Q (.ref c) H'
def spJInit (CJ CP : Addr) : Sp := fun vs H Q _ => ∃ (j dx : Addr) (w : Int), vs = [.ref j, .int w] ∧ H j = some (.ins CJ dx []) ∧ ∀ P H', H P = none → Ext [j] H H' → PInv CJ CP H' j w P [] → Q .non H'
def spJTake (K : PySem.W.Frag) (CJ CP : Addr) : Sp := fun vs H Q _ => ∃ (j t P : Addr) (w now : Int) (rs : List Rw) (p : Pk), vs = [.ref j, .ref t, .int now] ∧ PInv CJ CP H j w P rs ∧ PkAt K H t p ∧ GP p ∧ rs.length ≤ 100000 ∧
  ∀ v H' rs', Ext (ownP P rs) H H' → PInv CJ CP H' j w P rs' → stR rs' = (tk (stR rs) p now).2 → (∀ r ∈ rs', r.o ∈ rs.map (·.o) ∨ H r.o = none) → ResAt K H' v (tk (stR rs) p now).1 → Q v H'
def spJTick (CJ CP : Addr) : Sp := fun vs H Q _ => ∃ (j P : Addr) (w now : Int) (rs : List Rw), vs = [.ref j, .int now] ∧ PInv CJ CP H j w P rs ∧ rs.length ≤ 100000 ∧ ∀ P' H', H P' = none → Ext [j] H H' → PInv CJ CP H' j w P' (rs.filter fun r => decide (now - r.e.since < w)) → Q .non H'
def spJWait (CJ CP : Addr) : Sp := fun vs H Q _ => ∃ (j P : Addr) (w : Int) (rs : List Rw), vs = [.ref j] ∧ PInv CJ CP H j w P rs ∧ Q (.int rs.length) H
def spLTake (K : PySem.W.Frag) : Sp := fun vs H Q _ => ∃ (kn t : Addr) (now : Int) (ls : List Rw) (p : Pk), vs = [.ref kn, .ref t, .int now] ∧ LInv K H kn ls ∧ PkAt K H t p ∧ GP p ∧ ls.length ≤ 100000 ∧
  ∀ v H' ls', Ext [kn] H H' → LInv K H' kn ls' → stR ls' = (tk (stR ls) p now).2 → (∀ r ∈ ls', r.o ∈ ls.map (·.o) ∨ H r.o = none) → ResAt K H' v (tk (stR ls) p now).1 → Q v H'
def spCut (K : PySem.W.Frag) : Sp := fun vs H Q _ => ∃ (t : Addr) (m : Nat) (p : Pk), vs = [.ref t, .int m] ∧ PkAt K H t p ∧ 1 ≤ m ∧ (m ≤ 20 ∨ m = 600) ∧ p.b.length ≤ 50 ∧ ∀ c xs H', Ext [] H H' → SqT K H' c xs → LR (PkR K) H' xs (cut p m) → Q (.ref c) H'
theorem dec_int {i j : Int} : decide (V.int i = V.int j) = decide (i = j) := by
  rw [Bool.eq_iff_iff, decide_eq_true_eq, decide_eq_true_eq]
  exact ⟨vint, fun h => h ▸ rfl⟩
theorem dec_refl {x : V} : decide (x = x) = true := decide_eq_true rfl
theorem ext0 {A B C : Hp} (e : Ext [] A B) (f : Ext [] B C) : Ext [] A C := e.trans f (fun _ z => z) (fun _ z => by cases z)
theorem optI_int {o : Option Int} {i : Int} : decide (optI o = V.int i) = decide (o = some i) := by
  cases o with
  | none => rfl
  | some j =>
    show decide (V.int j = V.int i) = _
    rw [dec_int]
    exact decide_eq_decide.mpr ⟨fun h => h ▸ rfl, fun h => Option.some.inj h⟩
theorem optI_non {o : Option Int} : decide (optI o = V.non) = decide (o = none) := by cases o <;> rfl
theorem walk_enumT {K : PySem.W.Frag} {a : Addr} {xs : List V} : Walk (TD.IteT K a) xs.length (fun H => SqT K H a xs) (YPair (fun i => some (.int (i : Nat))) (fun i => xs[i]?)) := by
  refine ⟨fun i _ hi q => ⟨xs, xs[i], q, by simp [hi]⟩, fun _ q => ⟨xs, q, rfl⟩, fun i H v H' _ q y => ?_⟩
  obtain ⟨T, x, h1, h2, h3, h4⟩ := y
  exact ⟨T, .int (i : Nat), x, h1, h2, h3, rfl, h4 xs q⟩
theorem g_iEnumT {K : PySem.W.Frag} {ta : TA} {σ : L2.St} {H : Hp} {R : It → Hp → Prop} (h : ta σ H fun vs H1 => ∃ a xs, vs = [.ref a] ∧ SqT K H1 a xs ∧ R (TD.IteT K a) H1) : TD.iEnumT K ta σ H R := h
theorem g_dsetd {σ : L2.St} {H : Hp} {Q : VK} {td ty tx : TE} (h : td σ H fun x H1 => ∃ a, x = .ref a ∧ IsD H1 a ∧ ty σ H1 fun y H2 => tx σ H2 fun z H3 => ∃ (kvs : List (Key × V)) (k : Key), H3 a = some (.dK kvs) ∧ y = kV k ∧ kvs.length < sizeLine ∧
  (∀ v, valV kvs k = some v → Q v H3) ∧ (valV kvs k = none → Q z (upd H3 a (.dK (putK kvs k z))))) : tDSetd td ty tx σ H Q := h
theorem g_dsetd1 {H : Hp} {a : Addr} {kvs : List (Key × V)} {R : Addr → Prop} (e : H a = some (.dK kvs)) (h : R a) : ∃ a', V.ref a = .ref a' ∧ IsD H a' ∧ R a' := ⟨a, rfl, .inl ⟨kvs, .inl e⟩, h⟩
theorem g_dsetd2 {H : Hp} {a : Addr} {kvs : List (Key × V)} {i : Int} {z : V} {Q : VK} (e : H a = some (.dK kvs)) (l : kvs.length < 1000) (h1 : ∀ v, valV kvs (.inl i) = some v → Q v H)
    (h2 : valV kvs (.inl i) = none → ∀ H', Ext [a] H H' → H' a = some (.dK (putK kvs (.inl i) z)) → Q z H') : ∃ (kvs : List (Key × V)) (k : Key), H a = some (.dK kvs) ∧ V.int i = kV k ∧ kvs.length < sizeLine ∧
  (∀ v, valV kvs k = some v → Q v H) ∧ (valV kvs k = none → Q z (upd H a (.dK (putK kvs k z)))) := ⟨kvs, .inl i, e, rfl, by rw [sizeLine_eq]; omega, h1, fun n => h2 n _ (Ext.wr e rfl) upd_same⟩
theorem g_iKeys {td : TE} {σ : L2.St} {H : Hp} {R : It → Hp → Prop} (h : td σ H fun x H1 => ∃ d o, x = .ref d ∧ ((∃ kvs, H1 d = some (.frz o (.dK kvs)) ∧ R (Itk d o kvs) H1) ∨ ∃ kvs, H1 d = some (.frz o (.dT kvs)) ∧ R (Itkt d o kvs) H1)) : iKeys td σ H R := h
local macro_rules | `(tactic| walk_at "eo step") => `(tactic| first
  | with_reducible refine g_iEnumT ?_
  | with_reducible refine g_dsetd ?_
  | ((with_reducible apply g_dsetd1); (walk_at "eo fact"))
  | with_reducible refine g_iKeys ?_)
theorem lr_int {H : Hp} : ∀ {xs : List V} {L : List Int}, LR (fun _ x (v : Int) => x = .int v) H xs L → xs = L.map V.int
  | [], [], _ => rfl
  | _ :: _, _ :: _, ⟨h1, h⟩ => by rw [show _ = _ from h1, lr_int h]; rfl
  | [], _ :: _, h => h.elim
  | _ :: _, [], h => h.elim
theorem Ext.one {O : List Addr} {a : Addr} {H H1 H2 : Hp} (e : Ext O H H1) (f : Ext [a] H1 H2) (m : a ∈ O) : Ext O H H2 := e.trans f (fun _ z => z) (fun x hx _ => by rw [List.mem_singleton.mp hx]; exact m)
theorem lr_bl {H : Hp} : ∀ {xs : List V} {L : List Bool}, LR (fun _ x (v : Bool) => x = .bl v) H xs L → xs = L.map V.bl
  | [], [], _ => rfl
  | _ :: _, _ :: _, ⟨h1, h⟩ => by rw [show _ = _ from h1, lr_bl h]; rfl
  | [], _ :: _, h => h.elim
  | _ :: _, [], h => h.elim
theorem OcOk.key {oc : List (Key × V)} (h : OcOk oc) {i : Nat} {k : Key} {v : V} (e : oc[i]? = some (k, v)) : ∃ j : Int, k = .inl j := by
  obtain ⟨j, u, e2, _⟩ := h.at_ _ (List.mem_of_getElem? e)
  exact ⟨j, (Prod.mk.inj e2).1⟩
/-! ### rows: a key, what stands for it on the heap, what it is -/
def rget (rs : List Rw) (k : List Key) : Option Rw := rs.find? fun r => decide (r.k = k)
def rdrop (rs : List Rw) (k : List Key) : List Rw := rs.filter fun r => decide (r.k ≠ k)
def rset (rs : List Rw) (k : List Key) (e : Ent) : List Rw := rs.map fun r => if r.k = k then { r with e := e } else r
theorem val_kv (rs : List Rw) (k : List Key) : valV (kvR rs) k = (rget rs k).map fun r => V.ref r.a := by
  unfold valV kvR rget
  rw [List.find?_map, Option.map_map]
  rfl
theorem aget_st (rs : List Rw) (k : List Key) : aget (stR rs) k = (rget rs k).map (·.e) := by
  unfold aget stR rget
  rw [List.find?_map, Option.map_map]
  rfl
theorem drop_kv (rs : List Rw) (k : List Key) : dropK (kvR rs) k = kvR (rdrop rs k) := by
  unfold dropK kvR rdrop
  rw [List.filter_map]
  rfl
theorem drop_st (rs : List Rw) (k : List Key) : adrop (stR rs) k = stR (rdrop rs k) := by
  unfold adrop stR rdrop
  rw [List.filter_map]
  rfl
theorem rget_k {rs : List Rw} {k : List Key} {r : Rw} (h : rget rs k = some r) : r.k = k ∧ r ∈ rs :=
  ⟨of_decide_eq_true (p := r.k = k) (by have z := List.find?_some h; exact z), List.mem_of_find?_eq_some h⟩
theorem set_kv (rs : List Rw) (k : List Key) (e : Ent) : kvR (rset rs k e) = kvR rs := by
  unfold kvR rset
  rw [List.map_map]
  refine List.map_congr_left fun r _ => ?_
  show ((if r.k = k then { r with e := e } else r).k, V.ref (if r.k = k then { r with e := e } else r).a) = _
  split <;> rfl
theorem set_st {rs : List Rw} {k : List Key} {r : Rw} (e : Ent) (h : rget rs k = some r) : stR (rset rs k e) = aput (stR rs) k e := by
  rw [aput_old (e0 := r.e) e (by rw [aget_st, h]; rfl)]
  unfold stR rset
  rw [List.map_map, List.map_map]
  refine List.map_congr_left fun r _ => ?_
  show ((if r.k = k then { r with e := e } else r).k, (if r.k = k then { r with e := e } else r).e) = if r.k = k then (r.k, e) else (r.k, r.e)
  split <;> rfl
theorem put_kv {rs : List Rw} {k : List Key} {q o : Addr} {e : Ent} (h : rget rs k = none) : putK (kvR rs) k (V.ref q) = kvR (rs ++ [⟨k, q, o, e⟩]) := by
  rw [putK_new _ (by rw [val_kv, h]; rfl)]
  unfold kvR
  rw [List.map_append]
  rfl
theorem put_st {rs : List Rw} {k : List Key} {q o : Addr} {e : Ent} (h : rget rs k = none) : stR (rs ++ [⟨k, q, o, e⟩]) = aput (stR rs) k e := by
  rw [aput_new _ (by rw [aget_st, h]; rfl)]
  unfold stR
  rw [List.map_append]
  rfl
theorem st_keys (rs : List Rw) : (stR rs).map (·.1) = rs.map (·.k) := by unfold stR; rw [List.map_map]; rfl
theorem nd_inj {α β : Type} {f : α → β} : ∀ {l : List α}, (l.map f).Nodup → ∀ {a b : α}, a ∈ l → b ∈ l → f a = f b → a = b
  | x :: r, hn, a, b, ha, hb, e => by
    rw [List.map_cons, List.nodup_cons] at hn
    rcases List.mem_cons.mp ha with e1 | h1
    · rcases List.mem_cons.mp hb with e2 | h2
      · rw [e1, e2]
      · exact (hn.1 (by rw [← e1, e]; exact List.mem_map.mpr ⟨b, h2, rfl⟩)).elim
    · rcases List.mem_cons.mp hb with e2 | h2
      · exact (hn.1 (by rw [← e2, ← e]; exact List.mem_map.mpr ⟨a, h1, rfl⟩)).elim
      · exact nd_inj hn.2 h1 h2 e
  | [], _, _, _, ha, _, _ => by cases ha
theorem rget_app {rs : List Rw} {k : List Key} {r : Rw} (h : rget rs k = none) (hr : r.k = k) : rget (rs ++ [r]) k = some r := by
  unfold rget at *
  rw [List.find?_append, h]
  rw [Option.none_or, List.find?_cons_of_pos (by simp [hr])]
section
variable {CJ CP : Addr} {K : PySem.W.Frag} {H H1 H2 : Hp} {j P kn : Addr} {w : Int} {rs : List Rw} {k : List Key} {r : Rw}
theorem PInv.keys (h : PInv CJ CP H j w P rs) : (rs.map (·.k)).Nodup := by rw [← st_keys]; exact h.ok.nd
theorem PInv.jP (h : PInv CJ CP H j w P rs) : j ≠ P := by
  obtain ⟨dx, hj⟩ := h.jo
  exact ne_of hj h.dd (by intro z; cases z)
theorem PInv.jo' (h : PInv CJ CP H j w P rs) {x : Rw} (hx : x ∈ rs) : j ≠ x.o := by
  obtain ⟨dx, hj⟩ := h.jo
  exact ne_of hj (h.at_ x hx).2 (by intro z; cases z)
theorem PInv.Pa (h : PInv CJ CP H j w P rs) {x : Rw} (hx : x ∈ rs) : P ≠ x.a := by
  obtain ⟨⟨dx, hq⟩, _⟩ := h.at_ x hx
  exact ne_of h.dd hq (by intro z; cases z)
theorem PInv.Po (h : PInv CJ CP H j w P rs) {x : Rw} (hx : x ∈ rs) : P ≠ x.o := ne_of h.dd (h.at_ x hx).2 (by intro z; cases z)
theorem PInv.ao (h : PInv CJ CP H j w P rs) {x y : Rw} (hx : x ∈ rs) (hy : y ∈ rs) : x.a ≠ y.o := by
  obtain ⟨⟨dx, hq⟩, _⟩ := h.at_ x hx
  exact ne_of hq (h.at_ y hy).2 (by intro z; cases z)
theorem PtAt.ext {C : Addr} {q o : Addr} {e : Ent} {A : List Addr} (h : PtAt C H q o e) (x : Ext A H H1) (n1 : q ∉ A) (n2 : o ∉ A) : PtAt C H1 q o e := ⟨h.1.imp fun _ z => x.keep _ _ z n1, x.keep _ _ h.2 n2⟩
/-- nothing of it written -/
theorem PInv.ext {A : List Addr} (h : PInv CJ CP H j w P rs) (x : Ext A H H1) (n1 : j ∉ A) (n2 : P ∉ A) (n3 : ∀ r ∈ rs, r.a ∉ A ∧ r.o ∉ A) : PInv CJ CP H1 j w P rs :=
  ⟨h.jo.imp fun _ z => x.keep _ _ z n1, x.keep _ _ h.dd n2, fun r hr => (h.at_ r hr).ext x (n3 r hr).1 (n3 r hr).2, h.na, h.no, h.ok, h.ja⟩
theorem PInv.ext0 (h : PInv CJ CP H j w P rs) (x : Ext [] H H1) : PInv CJ CP H1 j w P rs := h.ext x nin0 nin0 fun _ _ => ⟨nin0, nin0⟩
/-- the row's own objects written -/
theorem PInv.set {e : Ent} (h : PInv CJ CP H j w P rs) (hr : rget rs k = some r) (x : Ext [r.a, r.o] H H1) (hp : PtAt CP H1 r.a r.o e) (he : EOk e) : PInv CJ CP H1 j w P (rset rs k e) := by
  obtain ⟨hk, hm⟩ := rget_k hr
  have na : ∀ y ∈ rs, y.k ≠ k → y.a ∉ [r.a, r.o] ∧ y.o ∉ [r.a, r.o] := fun y hy ne => by
    have n1 : y.a ≠ r.a := fun z => ne (by rw [nd_inj h.na hy hm z, hk])
    have n2 : y.o ≠ r.o := fun z => ne (by rw [nd_inj h.no hy hm z, hk])
    exact ⟨by simp [n1, h.ao hy hm], by simp [n2, (h.ao hm hy).symm]⟩
  refine ⟨h.jo.imp fun _ z => x.keep _ _ z (by simp [(h.ja r hm).symm, h.jo' hm]), by rw [set_kv]; exact x.keep _ _ h.dd (by simp [h.Pa hm, h.Po hm]), fun y hy => ?_, ?_, ?_, by rw [set_st e hr]; exact h.ok.put he, fun y hy => ?_⟩
  · obtain ⟨y0, hy0, rfl⟩ := List.mem_map.mp hy
    by_cases c : y0.k = k
    · rw [if_pos c]
      have : y0 = r := nd_inj h.keys hy0 hm (c.trans hk.symm)
      rw [this]
      exact hp
    · rw [if_neg c]
      exact (h.at_ y0 hy0).ext x (na y0 hy0 c).1 (na y0 hy0 c).2
  · have : (rset rs k e).map (·.a) = rs.map (·.a) := by
      unfold rset
      rw [List.map_map]
      refine List.map_congr_left fun r _ => ?_
      show (if r.k = k then { r with e := e } else r).a = r.a
      split <;> rfl
    rw [this]
    exact h.na
  · have : (rset rs k e).map (·.o) = rs.map (·.o) := by
      unfold rset
      rw [List.map_map]
      refine List.map_congr_left fun r _ => ?_
      show (if r.k = k then { r with e := e } else r).o = r.o
      split <;> rfl
    rw [this]
    exact h.no
  · obtain ⟨y0, hy0, rfl⟩ := List.mem_map.mp hy
    have := h.ja y0 hy0
    split
    · exact this
    · exact this
theorem rset_o {e : Ent} : (rset rs k e).map (·.o) = rs.map (·.o) := by
  unfold rset
  rw [List.map_map]
  refine List.map_congr_left fun r _ => ?_
  show (if r.k = k then { r with e := e } else r).o = r.o
  split <;> rfl
theorem PInv.filter {P' : Addr} (h : PInv CJ CP H j w P rs) (f : Rw → Bool) (hj : ∃ dx, H1 j = some (.ins CJ dx (jF w P'))) (hP : H1 P' = some (.dT (kvR (rs.filter f)))) (hat : ∀ r ∈ rs.filter f, PtAt CP H1 r.a r.o r.e) : PInv CJ CP H1 j w P' (rs.filter f) :=
  ⟨hj, hP, hat, h.na.sublist (List.filter_sublist.map _), h.no.sublist (List.filter_sublist.map _), by
    have : stR (rs.filter f) = stR (rs.filter f) := rfl
    refine ⟨by rw [st_keys]; exact h.keys.sublist (List.filter_sublist.map _), fun x hx => ?_⟩
    obtain ⟨y, hy, rfl⟩ := List.mem_map.mp hx
    exact h.ok.ok _ (List.mem_map.mpr ⟨y, (List.mem_filter.mp hy).1, rfl⟩), fun r hr => h.ja r (List.mem_filter.mp hr).1⟩
/-- the row's own objects written, the row dropped -/
theorem PInv.drop (h : PInv CJ CP H j w P rs) (hr : rget rs k = some r) (x : Ext [r.a, r.o] H H1) (y : Ext [P] H1 H2) (hP : H2 P = some (.dT (dropK (kvR rs) k))) : PInv CJ CP H2 j w P (rdrop rs k) := by
  obtain ⟨hk, hm⟩ := rget_k hr
  refine h.filter _ (h.jo.imp fun _ z => y.keep _ _ (x.keep _ _ z (by simp [(h.ja r hm).symm, h.jo' hm])) (nin1 h.jP)) (by rw [hP, drop_kv]; rfl) fun z hz => ?_
  obtain ⟨hz1, hz2⟩ := List.mem_filter.mp hz
  have ne : z.k ≠ k := of_decide_eq_true hz2
  have n1 : z.a ≠ r.a := fun e => ne (by rw [nd_inj h.na hz1 hm e, hk])
  have n2 : z.o ≠ r.o := fun e => ne (by rw [nd_inj h.no hz1 hm e, hk])
  exact ((h.at_ z hz1).ext x (by simp [n1, h.ao hz1 hm]) (by simp [n2, (h.ao hm hz1).symm])).ext y (nin1 (h.Pa hz1).symm) (nin1 (h.Po hz1).symm)
/-- a new row -/
theorem PInv.new {q o : Addr} {now : Int} (h : PInv CJ CP H j w P rs) (hk : rget rs k = none) (x : Ext [] H H1) (nq : H q = none) (no : H o = none) (hp : PtAt CP H1 q o ⟨now, [], none⟩) (y : Ext [P] H1 H2) (hP : H2 P = some (.dT (putK (kvR rs) k (.ref q)))) : PInv CJ CP H2 j w P (rs ++ [⟨k, q, o, ⟨now, [], none⟩⟩]) := by
  have hPs : H P ≠ none := by rw [h.dd]; simp
  have nqP : q ≠ P := fun z => hPs (z ▸ nq)
  have noP : o ≠ P := fun z => hPs (z ▸ no)
  refine ⟨h.jo.imp fun _ z => y.keep _ _ (x.keep _ _ z nin0) (nin1 h.jP), by rw [hP, put_kv hk], fun r hr => ?_, ?_, ?_, by rw [put_st hk]; exact h.ok.put (EOk.new now), fun r hr => ?_⟩
  · rcases List.mem_append.mp hr with hr | hr
    · exact ((h.at_ r hr).ext x nin0 nin0).ext y (nin1 (h.Pa hr).symm) (nin1 (h.Po hr).symm)
    · rw [List.mem_singleton.mp hr]
      exact hp.ext y (nin1 nqP) (nin1 noP)
  · rw [List.map_append, List.nodup_append]
    refine ⟨h.na, by simp, fun a ha b hb => ?_⟩
    rw [List.map_singleton, List.mem_singleton] at hb
    obtain ⟨r, hr, rfl⟩ := List.mem_map.mp ha
    obtain ⟨⟨dx, hq⟩, _⟩ := h.at_ r hr
    rw [hb]
    exact ne_of_none hq nq
  · rw [List.map_append, List.nodup_append]
    refine ⟨h.no, by simp, fun a ha b hb => ?_⟩
    rw [List.map_singleton, List.mem_singleton] at hb
    obtain ⟨r, hr, rfl⟩ := List.mem_map.mp ha
    rw [hb]
    exact ne_of_none (h.at_ r hr).2 no
  · rcases List.mem_append.mp hr with hr | hr
    · exact h.ja r hr
    · rw [List.mem_singleton.mp hr]
      obtain ⟨dx, hj⟩ := h.jo
      exact (ne_of_none hj nq).symm
end
theorem key_kv (p : Pk) : (key4 p).map kV = [.int p.s, .int p.g, kS p.k, .int p.n] := rfl
theorem rget_none {rs : List Rw} {k : List Key} : valV (kvR rs) k = none ↔ rget rs k = none := by rw [val_kv, Option.map_eq_none_iff]
theorem tk_none {st : Sta} {p : Pk} {now : Int} (h : fitE ((aget st (key4 p)).getD ⟨now, [], none⟩) p = none) : tk st p now = (none, adrop st (key4 p)) := by
  unfold tk
  rw [h]
theorem tk_some {st : Sta} {p : Pk} {now : Int} {e : Ent} (h : fitE ((aget st (key4 p)).getD ⟨now, [], none⟩) p = some e) : tk st p now = if whole e = true then (some (joined p e), adrop st (key4 p)) else (none, aput st (key4 p) e) := by
  unfold tk
  rw [h]
section
variable {K : PySem.W.Frag} {σ : L2.St} {H : Hp} {Q : VK} {a b : Addr} {kvs : List (List Key × V)} {k : List Key} {v : V}
theorem g_dinT {R : Option V → Prop} (e : H a = some (.dT kvs)) (eb : H b = some (.tup (k.map kV))) (h : R (valV kvs k)) : ∃ a' o, V.ref a = .ref a' ∧ DGet H a' (.ref b) o ∧ R o := ⟨a, _, rfl, DGet.t e eb, h⟩
theorem g_dgetT (e : H a = some (.dT kvs)) (eb : H b = some (.tup (k.map kV))) (l : valV kvs k = some v) (h : Q v H) : ∃ a' v, V.ref a = .ref a' ∧ DGet H a' (.ref b) (some v) ∧ Q v H := ⟨a, v, rfl, l ▸ DGet.t e eb, h⟩
theorem g_dputT {R : Hp → Prop} (e : H a = some (.dT kvs)) (eb : H b = some (.tup (k.map kV))) (l : kvs.length < 1000000) (h : ∀ H', Ext [a] H H' → H' a = some (.dT (putK kvs k v)) → R H') : ∃ a' H4, V.ref a = .ref a' ∧ DPut H a' (.ref b) v H4 ∧ R H4 :=
  ⟨a, _, rfl, DPut.t e eb (by rw [sizeLine_eq]; omega), h _ (Ext.wr e rfl) upd_same⟩
theorem g_pop1T (e : H a = some (.dT kvs)) (eb : H b = some (.tup (k.map kV))) (l : valV kvs k = some v) (h : ∀ H', Ext [a] H H' → H' a = some (.dT (dropK kvs k)) → Q v H') : TD.rPop1T (.ref a) [.ref b] H Q :=
  ⟨a, kvs, k, b, v, rfl, rfl, e, eb, l, h _ (Ext.wr e rfl) upd_same⟩
theorem g_dnewT {R : V → Hp → Prop} (h : NewO H (.dT []) fun p H' => R (.ref p) H') : tDNewT σ H R := fun p hp => h p _ hp (Ext.new hp) upd_same
theorem g_lenDT {kvs : List (List Key × V)} (e : H a = some (.dT kvs)) (h : Q (.int (kvs.length : Nat)) H) : rLenT [.ref a] H Q := ⟨a, kvs, rfl, e, h⟩
end
local macro_rules | `(tactic| walk_at "eo step") => `(tactic| first
  | with_reducible refine g_dnewT ?_
  | ((with_reducible apply g_lenDT); (walk_at "eo fact")))
theorem Ext.fresh {A B : List Addr} {H H1 H2 : Hp} (e : Ext A H H1) (f : Ext B H1 H2) (m : ∀ x ∈ B, x ∈ A ∨ H x = none) : Ext A H H2 := e.trans f (fun _ z => z) (fun x hx ⟨o, ho⟩ => (m x hx).elim id fun z => by rw [z] at ho; cases ho)
theorem rget_st {rs : List Rw} {k : List Key} {r : Rw} (h : rget rs k = some r) : aget (stR rs) k = some r.e := by rw [aget_st, h]; rfl
theorem own_P {P : Addr} {rs : List Rw} : P ∈ ownP P rs := List.mem_cons_self
theorem own_a {P x : Addr} {rs : List Rw} (h : x ∈ rs.map (·.a)) : x ∈ ownP P rs := List.mem_cons_of_mem _ (List.mem_append_left _ h)
theorem own_o {P x : Addr} {rs : List Rw} (h : x ∈ rs.map (·.o)) : x ∈ ownP P rs := List.mem_cons_of_mem _ (List.mem_append_right _ h)
/-! ### dict comprehensions with tuple keys, by what is kept -/
def DcGoal (J : It) (g : TG) (tt : TT) (tk tv : TE) (vs : List Nat) (σ : L2.St) (H1 : Hp) (Q : VK) : Prop := ∀ D, H1 D = none → ∃ W : Nat → Nat → Hp → Prop, (∃ m, W 0 m (upd H1 D (.dT []))) ∧ ∀ i m H, W i m H →
  (J.stop i H ∧ Q (.ref D) H) ∨ (J.go i H ∧ ∃ Nx : Hp → Prop, (∀ H', Nx H' → ∃ m', m' < m ∧ W (i + 1) m' H') ∧ ∀ x H', J.yld i H x H' → g x (wipe σ vs) H' fun σ2 H2 => wipe σ2 vs = wipe σ vs ∧ tt σ2 H2 fun b H3 =>
    if b = true then tk σ2 H3 fun y H4 => tv σ2 H4 fun z H5 => ∃ kvs k b, y = .ref b ∧ H5 b = some (.tup (k.map kV)) ∧ H5 D = some (.dT kvs) ∧ kvs.length < sizeLine ∧ Nx (upd H5 D (.dT (putK kvs k z))) else Nx H3)
theorem g_dct {wi : TI} {g : TG} {tt : TT} {tk tv : TE} {vs : List Nat} {σ : L2.St} {H : Hp} {Q : VK} (h : wi σ H fun J H1 => DcGoal J g tt tk tv vs σ H1 Q) : DcT.tDcT wi g tt tk tv vs σ H Q := h
theorem g_dcW {J : It} {n : Nat} {G : Hp → Prop} {Y : Nat → Hp → V → Hp → Prop} (w : Walk J n G Y) {g : TG} {tt : TT} {tk tv : TE} {vs : List Nat} {σ : L2.St} {H1 : Hp} {Q : VK} (Pv : Addr → Nat → Hp → List (List Key × V) → Prop)
    (h0 : ∀ D H', H1 D = none → Ext [] H1 H' → H' D = some (.dT []) → Pv D 0 H' []) (hG : ∀ D i H kvs, i ≤ n → Pv D i H kvs → G H)
    (hs : ∀ D i x H H' kvs, i < n → Pv D i H kvs → H D = some (.dT kvs) → Y i H x H' → stG g x (wipe σ vs) H' fun σ2 H2 => wipe σ2 vs = wipe σ vs ∧ stT tt σ2 H2 fun b H3 =>
      if b = true then stE tk σ2 H3 fun y H4 => stE tv σ2 H4 fun z H5 => ∃ k b, y = .ref b ∧ H5 b = some (.tup (k.map kV)) ∧ H5 D = some (.dT kvs) ∧ kvs.length < sizeLine ∧ ∀ H6, Ext [D] H5 H6 → H6 D = some (.dT (putK kvs k z)) → Pv D (i + 1) H6 (putK kvs k z)
      else Pv D (i + 1) H3 kvs ∧ H3 D = some (.dT kvs))
    (hd : ∀ D H kvs, Pv D n H kvs → H D = some (.dT kvs) → Q (.ref D) H) : DcGoal J (stG g) (stT tt) (stE tk) (stE tv) vs σ H1 Q := by
  intro D hD
  refine ⟨fun i m H => m = n - i ∧ i ≤ n ∧ ∃ kvs, Pv D i H kvs ∧ H D = some (.dT kvs), ⟨n, by simp, Nat.zero_le _, [], h0 D _ hD (Ext.new hD) upd_same, upd_same⟩, ?_⟩
  rintro i m H ⟨rfl, hi, kvs, p, e⟩
  have q := hG D i H kvs hi p
  by_cases hlt : i < n
  · refine .inr ⟨w.goes i H hlt q, fun H' => ∃ kvs, Pv D (i + 1) H' kvs ∧ H' D = some (.dT kvs), fun H' p' => ⟨n - (i + 1), by omega, rfl, hlt, p'⟩, fun x H' y => ?_⟩
    refine (hs D i x H H' kvs hlt p e (w.yields i H x H' hlt q y)).mono fun σ2 H2 ⟨q1, q2⟩ => ⟨q1, q2.mono fun b H3 q3 => ?_⟩
    cases b with
    | true => exact stE.mono q3 fun z H4 q4 => stE.mono q4 fun z2 H5 ⟨k, b, a1, a2, a3, a4, a5⟩ => ⟨kvs, k, b, a1, a2, a3, a4, putK kvs k z2, a5 _ (Ext.wr a3 rfl) upd_same, upd_same⟩
    | false => exact ⟨kvs, q3.1, q3.2⟩
  · have e2 : i = n := by omega
    subst e2
    exact .inl ⟨w.stops H q, hd D H kvs p e⟩
theorem walk_itemsT {d : Addr} {o : Obj} {kvs : List (List Key × V)} : Walk (TD.ItiT d o kvs) kvs.length (fun H => H d = some (.frz o (.dT kvs)))
    (fun i H x H' => ∃ T k v q, kvs[i]? = some (k, v) ∧ x = .ref T ∧ H q = some (.tup (k.map kV)) ∧ H T = none ∧ H' = upd H T (.tup [.ref q, v])) :=
  ⟨fun _ _ hi q => ⟨q, hi⟩, fun _ q => ⟨q, Nat.le_refl _⟩, fun _ _ _ _ _ _ y => y⟩
theorem g_lockET {σ : L2.St} {H : Hp} {Q : VK} {t : TE} {d : Addr} {kvs : List (List Key × V)} (e : H d = some (.dT kvs)) (h : ∀ od H0, Ext [d] H H0 → H0 d = some (.frz od (.dT kvs)) → t σ H0 fun v H' => H' d = some (.frz od (.dT kvs)) ∧ ∀ HF, Ext [d] H' HF → HF d = some (.dT kvs) → Q v HF) : tLockE (stE t) σ H Q :=
  ⟨d, .dT kvs, e, trivial, fun od => ⟨_, h od _ (Ext.wr e rfl) upd_same, fun v H' q => ⟨q.1, q.2 _ (Ext.wr q.1 rfl) upd_same⟩⟩⟩
theorem g_iItemsT {td : TE} {σ : L2.St} {H : Hp} {R : It → Hp → Prop} (h : td σ H fun x H1 => ∃ d o kvs, x = .ref d ∧ H1 d = some (.frz o (.dT kvs)) ∧ R (TD.ItiT d o kvs) H1) : TD.iItemsT td σ H R := h
theorem g_tyDT {K : PySem.W.Frag} {H : Hp} {a : Addr} {kvs : List (List Key × V)} {R : Prop} (e : H a = some (.dT kvs)) (h : R) : tyV K "dict" (.ref a) H ∧ R := ⟨.inr (.inr (.inl ⟨rfl, .inr ⟨kvs, e⟩⟩)), h⟩
local macro_rules | `(tactic| walk_at "eo step") => `(tactic| first
  | with_reducible refine g_iItemsT ?_
  | with_reducible refine g_dct ?_
  | ((with_reducible apply g_tyDT); (with_reducible assumption)))
theorem new_key {rs : List Rw} {i : Nat} {r : Rw} {f : Rw → Bool} (hn : (rs.map (·.k)).Nodup) (h : rs[i]? = some r) : rget ((rs.take i).filter f) r.k = none := by
  unfold rget
  rw [List.find?_eq_none]
  intro x hx hd
  have hd : x.k = r.k := of_decide_eq_true hd
  have hx := (List.mem_filter.mp hx).1
  have hi := (List.getElem?_eq_some_iff.mp h).1
  rw [← List.take_append_drop i rs, List.map_append, List.nodup_append] at hn
  refine hn.2.2 x.k (List.mem_map.mpr ⟨x, hx, rfl⟩) r.k (List.mem_map.mpr ⟨r, ?_, rfl⟩) hd
  rw [drop_at h]
  exact List.mem_cons_self
theorem filter_step {rs : List Rw} {i : Nat} {r : Rw} {f : Rw → Bool} (h : rs[i]? = some r) : (rs.take (i + 1)).filter f = if f r = true then (rs.take i).filter f ++ [r] else (rs.take i).filter f := by
  rw [List.take_succ, h, List.filter_append]
  show _ ++ List.filter f [r] = _
  by_cases c : f r = true
  · rw [if_pos c, List.filter_cons_of_pos c]; rfl
  · rw [if_neg c, List.filter_cons_of_neg c, List.filter_nil, List.append_nil]
theorem rgP {len m : Nat} (h : len ≤ 50) (h1 : 1 ≤ m) (hm : m ≤ 20 ∨ m = 600) : RgC 0 (max (len : Int) 1) (m : Int) (nP len m) := by
  have all : ∀ (l : Fin 51) (k : Fin 20), ((((k.val + 1 : Nat) : Int) ≠ 0 ∧ ((k.val + 1 : Nat) : Int).natAbs < 1073741824 ∧ Builtin.Range.small 0 (max (l.val : Int) 1) ((k.val + 1 : Nat) : Int) = true ∧ Builtin.Range.rangeSize 0 (max (l.val : Int) 1) ((k.val + 1 : Nat) : Int) = ((nP l.val (k.val + 1) : Nat)))) := by decide +kernel
  have big : ∀ (l : Fin 51), (((600 : Nat) : Int) ≠ 0 ∧ ((600 : Nat) : Int).natAbs < 1073741824 ∧ Builtin.Range.small 0 (max (l.val : Int) 1) ((600 : Nat) : Int) = true ∧ Builtin.Range.rangeSize 0 (max (l.val : Int) 1) ((600 : Nat) : Int) = ((nP l.val 600 : Nat))) := by decide +kernel
  rcases hm with hm | rfl
  · obtain ⟨k, rfl⟩ : ∃ k, m = k + 1 := ⟨m - 1, by omega⟩
    exact all ⟨len, by omega⟩ ⟨k, by omega⟩
  · exact big ⟨len, by omega⟩
theorem cut_midP {xs : List V} {a m : Nat} : cutV xs (some (a : Int)) (some ((a : Int) + (m : Int))) = (xs.drop a).take m := by
  have := cut_midU (xs := xs) (a := a) (b := a + m)
  rw [show (((a + m : Nat)) : Int) = (a : Int) + (m : Int) by omega] at this
  rw [this, List.drop_take, show a + m - a = m by omega]
theorem cut_take {p : Pk} {m i : Nat} (h : i < nP p.b.length m) : (cut p m).take (i + 1) = (cut p m).take i ++ [cutP p m i] := by
  rw [List.take_succ, cut_get h]
  rfl
/-! the law's own dict -/
def lput (ls : List Rw) (k : List Key) (T D : Addr) (e : Ent) : List Rw := if (ls.any fun r => decide (r.k = k)) = true then ls.map (fun r => if r.k = k then ⟨r.k, T, D, e⟩ else r) else ls ++ [⟨k, T, D, e⟩]
theorem lput_kv (ls : List Rw) (k : List Key) (T D : Addr) (e : Ent) : kvR (lput ls k T D e) = putK (kvR ls) k (.ref T) := by
  unfold lput putK
  have h : ((kvR ls).any fun kv => decide (kv.1 = k)) = ls.any fun r => decide (r.k = k) := by unfold kvR; rw [List.any_map]; rfl
  rw [h]
  by_cases c : (ls.any fun r => decide (r.k = k)) = true
  · rw [if_pos c, if_pos c]
    unfold kvR
    rw [List.map_map, List.map_map]
    refine List.map_congr_left fun r _ => ?_
    show ((if r.k = k then (⟨r.k, T, D, e⟩ : Rw) else r).k, V.ref (if r.k = k then (⟨r.k, T, D, e⟩ : Rw) else r).a) = if r.k = k then (r.k, V.ref T) else (r.k, V.ref r.a)
    split <;> rfl
  · rw [if_neg c, if_neg c]
    unfold kvR
    rw [List.map_append]
    rfl
theorem lput_st (ls : List Rw) (k : List Key) (T D : Addr) (e : Ent) : stR (lput ls k T D e) = aput (stR ls) k e := by
  unfold lput aput
  have h : ((stR ls).any fun kv => decide (kv.1 = k)) = ls.any fun r => decide (r.k = k) := by unfold stR; rw [List.any_map]; rfl
  rw [h]
  by_cases c : (ls.any fun r => decide (r.k = k)) = true
  · rw [if_pos c, if_pos c]
    unfold stR
    rw [List.map_map, List.map_map]
    refine List.map_congr_left fun r _ => ?_
    show ((if r.k = k then (⟨r.k, T, D, e⟩ : Rw) else r).k, (if r.k = k then (⟨r.k, T, D, e⟩ : Rw) else r).e) = if r.k = k then (r.k, e) else (r.k, r.e)
    split <;> rfl
  · rw [if_neg c, if_neg c]
    unfold stR
    rw [List.map_append]
    rfl
theorem lput_mem {ls : List Rw} {k : List Key} {T D : Addr} {e : Ent} {x : Rw} (h : x ∈ lput ls k T D e) : x ∈ ls ∨ (x.a = T ∧ x.o = D ∧ x.e = e) := by
  unfold lput at h
  split at h
  · obtain ⟨y, hy, rfl⟩ := List.mem_map.mp h
    split
    · exact .inr ⟨rfl, rfl, rfl⟩
    · exact .inl hy
  · rcases List.mem_append.mp h with h | h
    · exact .inl h
    · rw [List.mem_singleton.mp h]; exact .inr ⟨rfl, rfl, rfl⟩
theorem drop_put {kvs : List (List Key × V)} {k : List Key} {v : V} : dropK (putK kvs k v) k = dropK kvs k := by
  unfold putK
  split
  · unfold dropK
    induction kvs with
    | nil => rfl
    | cons x r ih =>
      rw [List.map_cons]
      by_cases c : x.1 = k
      · rw [if_pos c, List.filter_cons_of_neg (by simp [c]), List.filter_cons_of_neg (by simp [c])]
        by_cases a : (r.any fun kv => decide (kv.1 = k)) = true
        · exact ih a
        · have hn : ∀ y ∈ r, ¬ y.1 = k := fun y hy z => a (List.any_eq_true.mpr ⟨y, hy, decide_eq_true z⟩)
          rw [show r.map (fun kv => if kv.1 = k then (kv.1, v) else kv) = r from (List.map_congr_left (g := id) fun y hy => if_neg (hn y hy)).trans (List.map_id _)]
      · rw [if_neg c, List.filter_cons_of_pos (by simp [c]), List.filter_cons_of_pos (by simp [c])]
        by_cases a : (r.any fun kv => decide (kv.1 = k)) = true
        · rw [ih a]
        · have hn : ∀ y ∈ r, ¬ y.1 = k := fun y hy z => a (List.any_eq_true.mpr ⟨y, hy, decide_eq_true z⟩)
          rw [show r.map (fun kv => if kv.1 = k then (kv.1, v) else kv) = r from (List.map_congr_left (g := id) fun y hy => if_neg (hn y hy)).trans (List.map_id _)]
  · unfold dropK
    rw [List.filter_append, List.filter_cons_of_neg (by simp), List.filter_nil, List.append_nil]
section
variable {K : PySem.W.Frag} {H H1 H2 : Hp} {kn : Addr} {ls : List Rw} {k : List Key} {r : Rw}
theorem LInv.no (h : LInv K H kn ls) {x : Rw} (hx : x ∈ ls) : x.o ≠ kn := ne_of (h.at_ x hx).2 h.dd (by intro z; cases z)
theorem LInv.ext {A : List Addr} (h : LInv K H kn ls) (x : Ext A H H1) (n1 : kn ∉ A) (n2 : ∀ r ∈ ls, r.o ∉ A) : LInv K H1 kn ls :=
  ⟨x.keep _ _ h.dd n1, fun r hr => ⟨sqT_ext x (h.at_ r hr).1, x.keep _ _ (h.at_ r hr).2 (n2 r hr)⟩, h.ok⟩
theorem LInv.ext0 (h : LInv K H kn ls) (x : Ext [] H H1) : LInv K H1 kn ls := h.ext x nin0 fun _ _ => nin0
theorem LInv.put {T D : Addr} {e : Ent} (h : LInv K H kn ls) (x : Ext [kn] H H2) (hT : SqT K H2 T [.int e.since, .ref D, optI e.en]) (hD : H2 D = some (.dK e.oc)) (he : EOk e) (hk : H2 kn = some (.dT (putK (kvR ls) k (.ref T)))) : LInv K H2 kn (lput ls k T D e) := by
  refine ⟨by rw [hk, lput_kv], fun y hy => ?_, by rw [lput_st]; exact h.ok.put he⟩
  rcases lput_mem hy with hy | ⟨e1, e2, e3⟩
  · exact ⟨sqT_ext x (h.at_ y hy).1, x.keep _ _ (h.at_ y hy).2 (nin1 (h.no hy))⟩
  · rw [e1, e2, e3]
    exact ⟨hT, hD⟩
theorem LInv.drop (h : LInv K H kn ls) (x : Ext [kn] H H2) (hk : H2 kn = some (.dT (dropK (kvR ls) k))) : LInv K H2 kn (rdrop ls k) := by
  refine ⟨by rw [hk, drop_kv], fun y hy => ?_, by rw [← drop_st]; exact h.ok.filter _⟩
  have hy := (List.mem_filter.mp hy).1
  exact ⟨sqT_ext x (h.at_ y hy).1, x.keep _ _ (h.at_ y hy).2 (nin1 (h.no hy))⟩
end
theorem g_dget2T {td ty tx : TE} {σ : L2.St} {H : Hp} {Q : VK} (h : td σ H fun x H1 => ∃ a, x = .ref a ∧ IsD H1 a ∧ ty σ H1 fun y H2 => tx σ H2 fun z H3 => ∃ o, DGet H3 a y o ∧ Q (o.getD z) H3) : tDGet2 td ty tx σ H Q := h
theorem g_isDT {H : Hp} {a : Addr} {kvs : List (List Key × V)} {R : Addr → Prop} (e : H a = some (.dT kvs)) (h : R a) : ∃ a', V.ref a = .ref a' ∧ IsD H a' ∧ R a' := ⟨a, rfl, .inr ⟨kvs, .inl e⟩, h⟩
theorem g_isDK {H : Hp} {a : Addr} {kvs : List (Key × V)} {R : Addr → Prop} (e : H a = some (.dK kvs)) (h : R a) : ∃ a', V.ref a = .ref a' ∧ IsD H a' ∧ R a' := ⟨a, rfl, .inl ⟨kvs, .inl e⟩, h⟩
theorem g_getI2 {H : Hp} {a : Addr} {kvs : List (Key × V)} {i : Int} {z : V} {Q : VK} (e : H a = some (.dK kvs)) (h : Q ((valV kvs (.inl i)).getD z) H) : ∃ o, DGet H a (.int i) o ∧ Q (o.getD z) H := ⟨_, DGet.k (k := .inl i) e, h⟩
theorem g_getT2 {H : Hp} {a b : Addr} {kvs : List (List Key × V)} {k : List Key} {z : V} {Q : VK} (e : H a = some (.dT kvs)) (eb : H b = some (.tup (k.map kV))) (h : Q ((valV kvs k).getD z) H) : ∃ o, DGet H a (.ref b) o ∧ Q (o.getD z) H := ⟨_, DGet.t e eb, h⟩
theorem g_dictD {H : Hp} {Q : VK} {a : Addr} {kvs : List (Key × V)} (e : H a = some (.dK kvs)) (h : NewO H (.dK kvs) fun p H' => Q (.ref p) H') : ∃ (a' : Addr) (kvs' : List (Key × V)), [V.ref a] = [.ref a'] ∧ Rd H a' (.dK kvs') ∧ ∀ p, H p = none → Q (.ref p) (upd H p (.dK kvs')) := ⟨a, kvs, rfl, .inl e, fun p hp => h.raw p hp⟩
local macro_rules | `(tactic| walk_at "eo step") => `(tactic| first
  | with_reducible refine g_dget2T ?_
  | ((with_reducible apply g_isDT); (with_reducible assumption))
  | ((with_reducible apply g_isDK); (walk_at "eo fact"))
  | ((with_reducible apply g_dictD); (walk_at "eo fact")))
theorem inV_opt (o : Option Int) (t : Int) : inV (optI o) [.non, .int t] = decide (o = none ∨ o = some t) := by
  cases o with
  | none => rfl
  | some j =>
    show (false || ((t == j) || false)) = _
    rw [Bool.false_or, Bool.or_false, Bool.eq_iff_iff, beq_iff_eq, decide_eq_true_eq]
    exact ⟨fun h => .inr (by rw [h]), fun h => h.elim (fun z => nomatch z) fun z => (Option.some.inj z).symm⟩
theorem g_inOpt {K : PySem.W.Frag} {H : Hp} {Q : VK} {a : Addr} {o : Option Int} {t : Int} (e : SqT K H a [.non, .int t]) (h : Q (.bl (decide (o = none ∨ o = some t))) H) : rIn K false (optI o) (.ref a) H Q :=
  g_inT e (by cases o <;> rfl) rfl (by rw [inV_opt]; exact h)
/-! packets as data -/
def dPk (p : Pk) : PyData := .tuple [.int p.s, .int p.g, .str (Sx (kW p.k)), .int p.l, .int p.n, .int p.p, .bool p.m, .tuple (p.b.map .int)]
theorem kS_ok (k : Nat) : PyData.strOk (Sx (kW k)) = true := by
  match k with
  | 0 => decide +kernel
  | _ + 1 => exact (show PyData.strOk (Sx [116, 101, 108, 108]) = true by decide +kernel)
theorem shp_str {z : Str} {k : Nat} (h : PyData.strOk z = true) : Shp (.str z) k := ⟨by simp only [PyData.canLay0]; exact h, Nat.zero_le _⟩
theorem dp_pk {K : PySem.W.Frag} {H : Hp} {t : Addr} {p : Pk} (h : PkAt K H t p) : Dp K H (.ref t) (dPk p) := by
  obtain ⟨b, h1, h2⟩ := h
  exact .tup h1 (.cons (.int _) (.cons (.int _) (.cons (.str _) (.cons (.int _) (.cons (.int _) (.cons (.int _) (.cons (.bl _) (.cons (.tup h2 (dp_ints _)) .nil))))))))
theorem shp_pk {p : Pk} {k : Nat} : Shp (dPk p) (k + 2) :=
  shp_tup (shp_cons shp_int (shp_cons shp_int (shp_cons (shp_str (kS_ok _)) (shp_cons shp_int (shp_cons shp_int (shp_cons shp_int (shp_cons shp_bl (shp_cons (shp_tup (shp_ints _)) shp_nil))))))))
theorem dp_pks {K : PySem.W.Frag} {H : Hp} : ∀ {xs : List V} {ps : List Pk}, LR (PkR K) H xs ps → DpAll K H xs (ps.map dPk)
  | [], [], _ => .nil
  | _ :: _, _ :: _, ⟨⟨t, e, h1⟩, h⟩ => by
    subst e
    exact .cons (dp_pk h1) (dp_pks h)
  | [], _ :: _, h => h.elim
  | _ :: _, [], h => h.elim
theorem shp_pks {k : Nat} : ∀ ps : List Pk, ShpAll (ps.map dPk) (k + 2)
  | [] => shp_nil
  | _ :: r => shp_cons shp_pk (shp_pks r)
theorem g_nePks {K : PySem.W.Frag} {H : Hp} {Q : VK} {a b : Addr} {xs ys : List V} {ps : List Pk} (ha : SqT K H a xs) (hb : SqT K H b ys) (hx : LR (PkR K) H xs ps) (hy : LR (PkR K) H ys ps) (h : Q (.bl false) H) : rNeX K (.ref a) (.ref b) H Q :=
  g_neD (d := .tuple (ps.map dPk)) (Dp.tup ha (dp_pks hx)) (Dp.tup hb (dp_pks hy)) (shp_tup (k := 7) (shp_pks (k := 5) ps)) rfl h
theorem g_neRes {K : PySem.W.Frag} {H : Hp} {Q : VK} {x y : V} {r : Option Pk} (hx : ResAt K H x r) (hy : ResAt K H y r) (h : Q (.bl false) H) : rNeX K x y H Q := by
  cases r with
  | none =>
    rw [show x = .non from hx, show y = .non from hy]
    exact g_neD .non .non shp_non rfl h
  | some p =>
    obtain ⟨t, rfl, h1⟩ := hx
    obtain ⟨u, rfl, h2⟩ := hy
    exact g_neD (dp_pk h1) (dp_pk h2) (shp_pk (k := 6)) rfl h
theorem kind2 {v : V} (h : v ∈ [.str "data", .str "tell"]) : ∃ k, v = kS k := by
  have e0 : ("data" : Str) = Sx (kW 0) := by decide +kernel
  have e1 : ("tell" : Str) = Sx (kW 1) := by decide +kernel
  rw [e0, e1] at h
  simp only [List.mem_cons, List.not_mem_nil, or_false] at h
  rcases h with rfl | rfl
  · exact ⟨0, rfl⟩
  · exact ⟨1, rfl⟩
/-- what a link carries -/
def AllGP (L : List Pk) : Prop := ∀ p ∈ L, GP p
theorem AllGP.app {L M : List Pk} (h : AllGP L) (g : AllGP M) : AllGP (L ++ M) := fun p hp => (List.mem_append.mp hp).elim (h p) (g p)
theorem cut_gp {p : Pk} {m : Nat} (hp : GP p) (hm : 1 ≤ m) : AllGP (cut p m) := fun q hq => by
  unfold cut at hq
  obtain ⟨i, hi, rfl⟩ := List.mem_map.mp hq
  exact cutP_gp hp hm (List.mem_range.mp hi)
theorem cut_many {p : Pk} {m : Nat} (hp : GP p) (hm : 1 ≤ m) : (cut p m).length ≤ 51 := by
  have := nP_le (len := p.b.length) hm
  have := hp.p0
  have := hp.pl
  rw [cut_len]
  omega
theorem g_extT {K : PySem.W.Frag} {H : Hp} {Q : VK} {l b : Addr} {xs zs : List V} (e : H l = some (.lst xs)) (f : SqT K H b zs) (z : xs.length + zs.length ≤ sizeLine) (h : ∀ H', Ext [l] H H' → H' l = some (.lst (xs ++ zs)) → Q .non H') : TD.rExtendX K (.ref l) [.ref b] H Q :=
  .inr ⟨l, b, xs, zs, rfl, rfl, e, f, z, h _ (Ext.wr e rfl) upd_same⟩
theorem g_extL {K : PySem.W.Frag} {H : Hp} {Q : VK} {l b : Addr} {xs zs : List V} (e : H l = some (.lst xs)) (f : H b = some (.lst zs)) (z : xs.length + zs.length ≤ sizeLine) (h : ∀ H', Ext [l] H H' → H' l = some (.lst (xs ++ zs)) → Q .non H') : TD.rExtendX K (.ref l) [.ref b] H Q :=
  .inl ⟨l, b, xs, zs, rfl, rfl, e, f, z, h _ (Ext.wr e rfl) upd_same⟩
theorem g_repL {H : Hp} {Q : VK} {l : Addr} {xs : List V} {k : Int} (e : H l = some (.lst xs)) (k0 : 0 ≤ k) (k1 : k ≤ 1000) (z : xs.length ≤ 1000) (h : NewO H (.lst (List.replicate k.toNat xs).flatten) fun p H' => Q (.ref p) H') : rMulX (.ref l) (.int k) H Q :=
  (show rRep (.ref l) (.int k) H Q from ⟨l, k, xs, rfl, rfl, e, by omega, by omega, by
    rw [sizeLine_eq]
    have := Nat.mul_le_mul z (show k.toNat ≤ 1000 by omega)
    omega, fun p hp => h.raw p hp⟩)
theorem rep1 {x : V} (n : Nat) : (List.replicate n [x]).flatten = List.replicate n x := by
  induction n with
  | zero => rfl
  | succ n ih => rw [List.replicate_succ, List.flatten_cons, ih]; rfl
theorem LR.repl {α : Type} {R : Hp → V → α → Prop} {H : Hp} {x : V} {a : α} (h : R H x a) : ∀ n : Nat, LR R H (List.replicate n x) (List.replicate n a)
  | 0 => trivial
  | n + 1 => ⟨h, LR.repl h n⟩
theorem g_popAt {H : Hp} {Q : VK} {l : Addr} {xs : List V} {x : Int} {y : V} (e : H l = some (.lst xs)) (h0 : 0 ≤ x) (h1 : x < xs.length) (hx : xs[x.toNat]? = some y) (hl : xs.length ≤ 1000000) (h : ∀ H', Ext [l] H H' → H' l = some (.lst (xs.eraseIdx x.toNat)) → Q y H') : rPopAt (.ref l) [.int x] H Q := by
  refine ⟨l, xs, x, x.toNat, y, rfl, rfl, e, by omega, by omega, ?_, hx, h _ (Ext.wr e rfl) upd_same⟩
  unfold seqIndex?
  simp only [show ¬ x < 0 by omega, if_false]
  first
    | (rw [if_pos (by omega)])
    | simp [h0, h1]
theorem LR.erase {α : Type} {R : Hp → V → α → Prop} {H : Hp} : ∀ {xs : List V} {l : List α} (i : Nat), LR R H xs l → LR R H (xs.eraseIdx i) (l.eraseIdx i)
  | [], [], _, _ => trivial
  | _ :: _, _ :: _, 0, ⟨_, h⟩ => h
  | _ :: _, _ :: _, i + 1, ⟨h1, h⟩ => ⟨h1, LR.erase i h⟩
  | [], _ :: _, _, h => h.elim
  | _ :: _, [], _, h => h.elim
theorem AllGP.erase {L : List Pk} {i : Nat} (h : AllGP L) : AllGP (L.eraseIdx i) := fun p hp => h p (List.mem_of_mem_eraseIdx hp)
theorem GP.turned {q : Pk} (h : GP q) (b : List Int) (hb : b.length = q.b.length) : GP { q with b := b } := ⟨h.p0, by show q.p + (b.length : Int) ≤ 50; rw [hb]; exact h.pl⟩
theorem GP.flip {q : Pk} (h : GP q) : GP { q with m := !q.m } := ⟨h.p0, h.pl⟩
theorem atI_last {b : List Int} {z : Int} (h : b[b.length - 1]? = some z) (c : 0 < b.length) : atI (b.map V.int) (-1) = some (.int z) := by
  have e : ixN (b.map V.int).length (-1) = some (b.length - 1) := by
    unfold ixN
    rw [List.length_map, if_neg (by decide)]
    first
      | (rw [if_pos (by omega)]; congr 1; omega)
      | (simp; omega)
  unfold atI
  rw [e]
  show (b.map V.int)[b.length - 1]? = _
  rw [List.getElem?_map, h]
  rfl
/-- the two sides' dicts are not one another's -/
structure Sep (PP : Addr) (rs : List Rw) (kn : Addr) (ls : List Rw) : Prop where
  kp : kn ≠ PP
  oo : ∀ l ∈ ls, ∀ r ∈ rs, r.o ≠ l.o
theorem DSt.lst1 {H : Hp} {d s : Addr} (h : DSt H d s) : ∃ xs, H d = some (.lst xs) := let ⟨_, _, _, _, _, h1, _⟩ := h; ⟨_, h1⟩
theorem DSt.lst2 {H : Hp} {d s : Addr} (h : DSt H d s) : ∃ xs, H s = some (.lst xs) := let ⟨_, _, _, _, _, _, h2, _⟩ := h; ⟨_, h2⟩
section
variable {CJ CP : Addr} {K : PySem.W.Frag} {H H1 H2 : Hp} {j P kn : Addr} {w : Int} {rs ls rs' ls' : List Rw}
theorem PInv.not_lst {x : Addr} (h : PInv CJ CP H j w P rs) (hx : ∃ xs, H x = some (.lst xs)) : x ∉ ownP P rs := fun m => by
  obtain ⟨xs, hx⟩ := hx
  unfold ownP at m
  rcases List.mem_cons.mp m with e | m
  · rw [e, h.dd] at hx; cases hx
  · rcases List.mem_append.mp m with m | m
    · obtain ⟨r, hr, e⟩ := List.mem_map.mp m
      obtain ⟨⟨dx, hq⟩, _⟩ := h.at_ r hr
      rw [← e, hq] at hx; cases hx
    · obtain ⟨r, hr, e⟩ := List.mem_map.mp m
      rw [← e, (h.at_ r hr).2] at hx; cases hx
theorem PInv.not_kn (h : PInv CJ CP H j w P rs) (l : LInv K H kn ls) (s : Sep P rs kn ls) : kn ∉ ownP P rs := fun m => by
  have hx := l.dd
  unfold ownP at m
  rcases List.mem_cons.mp m with e | m
  · exact s.kp e
  · rcases List.mem_append.mp m with m | m
    · obtain ⟨r, hr, e⟩ := List.mem_map.mp m
      obtain ⟨⟨dx, hq⟩, _⟩ := h.at_ r hr
      rw [← e, hq] at hx; cases hx
    · obtain ⟨r, hr, e⟩ := List.mem_map.mp m
      rw [← e, (h.at_ r hr).2] at hx; cases hx
theorem PInv.not_lo (h : PInv CJ CP H j w P rs) (l : LInv K H kn ls) (s : Sep P rs kn ls) {x : Rw} (hx : x ∈ ls) : x.o ∉ ownP P rs := fun m => by
  have ho := (l.at_ x hx).2
  unfold ownP at m
  rcases List.mem_cons.mp m with e | m
  · rw [e, h.dd] at ho; cases ho
  · rcases List.mem_append.mp m with m | m
    · obtain ⟨r, hr, e⟩ := List.mem_map.mp m
      obtain ⟨⟨dx, hq⟩, _⟩ := h.at_ r hr
      rw [← e, hq] at ho; cases ho
    · obtain ⟨r, hr, e⟩ := List.mem_map.mp m
      exact s.oo x hx r hr e
theorem LInv.ne_lst {x : Addr} (l : LInv K H kn ls) (hx : ∃ xs, H x = some (.lst xs)) : x ≠ kn := fun e => by
  obtain ⟨xs, hx⟩ := hx
  rw [e, l.dd] at hx; cases hx
theorem PInv.ext_kn (h : PInv CJ CP H j w P rs') (x : Ext [kn] H H1) (l : LInv K H kn ls) (s : Sep P rs kn ls) : PInv CJ CP H1 j w P rs' := by
  obtain ⟨dx, hj⟩ := id h.jo
  refine h.ext x (nin1 (ne_of hj l.dd (by intro z; cases z))) (nin1 s.kp.symm) fun r hr => ?_
  obtain ⟨⟨dx, hq⟩, ho⟩ := h.at_ r hr
  exact ⟨nin1 (ne_of hq l.dd (by intro z; cases z)), nin1 (ne_of ho l.dd (by intro z; cases z))⟩
theorem Sep.next (s : Sep P rs kn ls) (h : PInv CJ CP H1 j w P rs') (hl : ∀ l ∈ ls, H l.o ≠ none) (hr : ∀ r ∈ rs', r.o ∈ rs.map (·.o) ∨ H r.o = none) (hf : ∀ l ∈ ls', l.o ∈ ls.map (·.o) ∨ H1 l.o = none) : Sep P rs' kn ls' := by
  refine ⟨s.kp, fun l ml r mr e => ?_⟩
  rcases hf l ml with c | c
  · obtain ⟨l0, ml0, e0⟩ := List.mem_map.mp c
    rcases hr r mr with c2 | c2
    · obtain ⟨r0, mr0, e1⟩ := List.mem_map.mp c2
      exact s.oo l0 ml0 r0 mr0 (e1.trans (e.trans e0.symm))
    · exact hl l0 ml0 (by rw [show l0.o = r.o from e0.trans e.symm]; exact c2)
  · have := (h.at_ r mr).2
    rw [e, c] at this
    cases this
end
section
variable {CJ CP : Addr} {K : PySem.W.Frag} {H H1 H2 : Hp} {j P kn d : Addr} {w : Int} {rs ls rs' ls' : List Rw}
theorem PInv.ext_d (h : PInv CJ CP H j w P rs) (x : Ext [d] H H1) (hd : ∃ xs, H d = some (.lst xs)) : PInv CJ CP H1 j w P rs := by
  have hn := h.not_lst hd
  obtain ⟨dx, hj⟩ := id h.jo
  obtain ⟨xs, hd⟩ := hd
  refine h.ext x (nin1 (ne_of hj hd (by intro z; cases z))) (nin1 fun e => hn (e ▸ own_P)) fun r hr => ⟨nin1 fun e => hn (e ▸ own_a (List.mem_map.mpr ⟨r, hr, rfl⟩)), nin1 fun e => hn (e ▸ own_o (List.mem_map.mpr ⟨r, hr, rfl⟩))⟩
theorem LInv.ext_d (h : LInv K H kn ls) (x : Ext [d] H H1) (hd : ∃ xs, H d = some (.lst xs)) : LInv K H1 kn ls := by
  obtain ⟨xs, hd⟩ := hd
  exact h.ext x (nin1 (ne_of h.dd hd (by intro z; cases z))) fun r hr => nin1 (ne_of (h.at_ r hr).2 hd (by intro z; cases z))
theorem LInv.ext_j {C dx : Addr} {fs : List (Str × V)} (h : LInv K H kn ls) (x : Ext [j] H H1) (hj : H j = some (.ins C dx fs)) : LInv K H1 kn ls :=
  h.ext x (nin1 (ne_of h.dd hj (by intro z; cases z))) fun r hr => nin1 (ne_of (h.at_ r hr).2 hj (by intro z; cases z))
/-- another dict of some of the rows -/
theorem LInv.other {kn2 : Addr} (h : LInv K H kn ls) (f : Rw → Bool) (hk : H kn2 = some (.dT (kvR (ls.filter f)))) : LInv K H kn2 (ls.filter f) :=
  ⟨hk, fun r hr => h.at_ r (List.mem_filter.mp hr).1, by
    refine ⟨?_, fun x hx => ?_⟩
    · rw [st_keys]
      have := h.ok.nd
      rw [st_keys] at this
      exact this.sublist (List.filter_sublist.map _)
    · obtain ⟨y, hy, rfl⟩ := List.mem_map.mp hx
      exact h.ok.ok _ (List.mem_map.mpr ⟨y, (List.mem_filter.mp hy).1, rfl⟩)⟩
theorem LInv.keys (h : LInv K H kn ls) : (ls.map (·.k)).Nodup := by rw [← st_keys]; exact h.ok.nd
end
theorem tick_st (rs : List Rw) (w now : Int) : stR (rs.filter fun r => decide (now - r.e.since < w)) = tick (stR rs) w now := by
  unfold tick stR
  rw [List.filter_map]
  rfl
theorem kv_keys (rs : List Rw) : (kvR rs).map (·.1) = rs.map (·.k) := by unfold kvR; rw [List.map_map]; rfl
theorem val_row {rs : List Rw} {r : Rw} (hn : (rs.map (·.k)).Nodup) (h : r ∈ rs) : valV (kvR rs) r.k = some (.ref r.a) :=
  val_of (by rw [kv_keys]; exact hn) (List.mem_map.mpr ⟨r, h, rfl⟩)
theorem paired_snoc {α β : Type} {F : α → β → Prop} : ∀ {xs : List α} {ys : List β} {x : α} {y : β}, Paired F xs ys → F x y → Paired F (xs ++ [x]) (ys ++ [y])
  | _, _, _, _, .nil, h => .cons h .nil
  | _, _, _, _, .cons a t, h => .cons a (paired_snoc t h)
theorem paired_ext {K : PySem.W.Frag} {H H1 : Hp} {ps : List Addr} {kbs : List (List Key × Addr × V)} (e : Ext [] H H1) (h : Paired (TD.PrT K H) ps kbs) : Paired (TD.PrT K H1) ps kbs :=
  Paired.mapP h fun _ _ z => ⟨sqT_ext e z.1, e.keep _ _ z.2 nin0⟩
theorem paired_ext1 {K : PySem.W.Frag} {H H1 : Hp} {A : List Addr} {ps : List Addr} {kbs : List (List Key × Addr × V)} (e : Ext A H H1) (h : Paired (TD.PrT K H) ps kbs) : Paired (TD.PrT K H1) ps kbs :=
  Paired.mapP h fun _ _ z => ⟨sqT_ext e z.1, e.imm _ _ z.2 rfl⟩
theorem merge_nd : ∀ (more kvs : List (List Key × V)), ((kvs ++ more).map (·.1)).Nodup → TD.mergeT kvs more = kvs ++ more
  | [], kvs, _ => by rw [List.append_nil]; rfl
  | p :: r, kvs, h => by
    have hn : valV kvs p.1 = none := by
      cases c : valV kvs p.1 with
      | none => rfl
      | some v =>
        rw [List.map_append, List.nodup_append] at h
        exact (h.2.2 p.1 (List.mem_map.mpr ⟨_, val_mem c, rfl⟩) p.1 (by simp) rfl).elim
    show TD.mergeT (putK kvs p.1 p.2) r = _
    rw [putK_new _ hn]
    have e : kvs ++ p :: r = (kvs ++ [(p.1, p.2)]) ++ r := by simp
    rw [e] at h ⊢
    exact merge_nd r _ h
theorem g_dgetTf {H : Hp} {a b : Addr} {o : Obj} {kvs : List (List Key × V)} {k : List Key} {v : V} {R : V → Prop} (e : H a = some (.frz o (.dT kvs))) (eb : H b = some (.tup (k.map kV))) (l : valV kvs k = some v) (h : R v) : ∃ a' v, V.ref a = .ref a' ∧ DGet H a' (.ref b) (some v) ∧ R v :=
  ⟨a, v, rfl, .inr ⟨kvs, k, b, .inr ⟨o, e⟩, rfl, eb, l.symm⟩, h⟩
section
variable {P : Program} {w : World} {K : PySem.W.Frag} {mg : Str → Option Value} {base : Heap}
theorem ok_law_begin {A : Adr} (T : Txt K mg A) : FnOk P w K mg base CX0 1 A.f_law_begin A.d_law_begin ["script"] (spBegin K) := by
  refine T.law_begin.F.ok sc_law_begin (fun vs H Q E h => ?_) (fun cdv Ar outer s H vs Q E hr h => ?_)
  · obtain ⟨a, ns, rfl, _⟩ := h
    rfl
  · obtain ⟨a, ns, rfl, hS, hlen, k⟩ := h
    refine ⟨_, (pss_cons (ps_set (i := 1) sc_law_begin.nd rfl (Or.inl rfl) pe_int)
      (pss_cons (ps_for PassesOwn.never rfl (pi_list (pv 0)) (pg_name (i := 2) sc_law_begin.nd rfl (Or.inl rfl)) (pss_one (ps_set (i := 1) sc_law_begin.nd rfl (Or.inl rfl) (pe_op op_mod (pe_op o_add (pe_op o_add (pe_op o_mul (pv 1) pe_int) (pe_op op_mod (pe_callTy (T := "int") o_int (by rfl) T.b_int (by decide +kernel) (pa_cons (pv 2) pa_nil)) pe_int)) pe_int) pe_int))))
      (pss_one (ps_ret (pe_lstX (pa_cons (pe_callTy (T := "list") o_list (by rfl) T.b_list (by decide +kernel) (pa_cons (pv 0) pa_nil)) (pa_cons pe_int (pa_cons pe_int (pa_cons (pv 1) pa_nil))))))))), ?_⟩
    walk_at "eo init"
    walk_at "eo go"
    refine g_forL (ns.map V.int) hS (fun i σ H' => ∃ (z : Int) (c : Option V), σ = [some (.ref a), some (.int z), c] ∧ H' = H) ⟨1, none, rfl, rfl⟩ (fun i σ H' _ ⟨_, _, _, e⟩ => by rw [e]; exact hS) ?_ ?_
    · rintro i x σ H' hi ⟨z, c, rfl, rfl⟩
      obtain ⟨n, _, rfl⟩ := mem_map_int hi
      walk_at "eo go"
      exact ⟨_, _, rfl, rfl⟩
    · rintro σ H' ⟨z, c, rfl, rfl⟩
      walk_at "eo go"
      rename_i s1 H1 hs1 e1 hl d1 H2 hd1 e2 hd
      have f1 : H2 s1 = some (.lst (ns.map V.int)) := by walk_at "eo fact"
      exact k d1 s1 H2 (by walk_at "eo free") hs1 (by walk_at "eo ext") ⟨(ne_of_none hl hd1).symm, ns, 0, 0, z, hd, f1, hlen, Int.le_refl _, Int.le_refl _⟩
theorem ok_law_take {A : Adr} (T : Txt K mg A) : FnOk P w K mg base CX0 1 A.f_law_take A.d_law_take ["d", "many"] spTake := by
  refine T.law_take.F.ok sc_law_take (fun vs H Q E h => ?_) (fun cdv Ar outer s H vs Q E hr h => ?_)
  · obtain ⟨d, s, many, rfl, _⟩ := h
    rfl
  · obtain ⟨d, s, many, rfl, ⟨ne, ns, pos, cur, seed, hd, hs, hlen, hp, hc⟩, hm, hm2, k⟩ := h
    refine ⟨_, (pss_cons (ps_if (PW.pt (pw_and (pt_cmpR (o_eq hr.units) (pe_ix ix_seq (pv 0) pe_int (fun _ _ => rfl)) pe_int (nomark _)) (pw_and1 (pt_cmpR op_lt (pe_ix ix_seq (pv 0) pe_int (fun _ _ => rfl)) (pe_callB (id := "len") o_len (by rfl) T.b_len (by decide +kernel) (pa_cons (pe_ix ix_seq (pv 0) pe_int (fun _ _ => rfl)) pa_nil)) (nomark _))))) (pss_cons (ps_asg (pe_callB (id := "abs") o_abs (by rfl) T.b_abs (by decide +kernel) (pa_cons (pe_callTy (T := "int") o_int (by rfl) T.b_int (by decide +kernel) (pa_cons (pe_ix ix_seq (pe_ix ix_seq (pv 0) pe_int (fun _ _ => rfl)) (pe_ix ix_seq (pv 0) pe_int (fun _ _ => rfl)) (fun _ _ => rfl)) pa_nil)) pa_nil)) (pg_sub (pv 0) pe_int set_list))
      (pss_cons (ps_asg (pe_op o_add (pe_ix ix_seq (pv 0) pe_int (fun _ _ => rfl)) pe_int) (pg_sub (pv 0) pe_int set_list))
      (pss_one (ps_if (pt_chain op_lt op_lt pe_int (pe_ix ix_seq (pv 0) pe_int (fun _ _ => rfl)) (pv 1)) (pss_cons (ps_set (i := 2) sc_law_take.nd rfl (Or.inl rfl) (pe_ix ix_seq (pv 0) pe_int (fun _ _ => rfl)))
      (pss_cons (ps_asg pe_int (pg_sub (pv 0) pe_int set_list))
      (pss_one (ps_ret (pv 2))))) pss_nil)))) pss_nil)
      (pss_cons (ps_if (pt_cmpR op_gt (pe_ix ix_seq (pv 0) pe_int (fun _ _ => rfl)) pe_int (nomark _)) (pss_cons (ps_set (i := 3) sc_law_take.nd rfl (Or.inl rfl) (pe_op op_mod (pe_callTy (T := "int") o_int (by rfl) T.b_int (by decide +kernel) (pa_cons (pe_ix ix_seq (pv 0) pe_int (fun _ _ => rfl)) pa_nil)) (pv 1)))
      (pss_cons (ps_asg (pe_op op_fdivW (pe_callTy (T := "int") o_int (by rfl) T.b_int (by decide +kernel) (pa_cons (pe_ix ix_seq (pv 0) pe_int (fun _ _ => rfl)) pa_nil)) (pv 1)) (pg_sub (pv 0) pe_int set_list))
      (pss_one (ps_ret (pv 3))))) pss_nil)
      (pss_cons (ps_asg (pe_op op_mod (pe_callTy (T := "int") o_int (by rfl) T.b_int (by decide +kernel) (pa_cons (pe_op o_add (pe_op o_mul (pe_ix ix_seq (pv 0) pe_int (fun _ _ => rfl)) pe_int) pe_int) pa_nil)) pe_int) (pg_sub (pv 0) pe_int set_list))
      (pss_one (ps_ret (pe_op op_mod (pe_callTy (T := "int") o_int (by rfl) T.b_int (by decide +kernel) (pa_cons (pe_op op_fdivW (pe_ix ix_seq (pv 0) pe_int (fun _ _ => rfl)) pe_int) pa_nil)) (pv 1))))))), ?_⟩
    walk_at "eo init"
    have nsd : s ≠ d := ne.symm
    have leaf : ∀ (x : Int) (H1 : Hp) (pos cur seed : Int), Ext [d] H H1 → H1 d = some (.lst [.ref s, .int pos, .int cur, .int seed]) → 0 ≤ pos → 0 ≤ cur → Q (.int (x % many)) H1 := fun x H1 p c sd e h1 p1 p2 =>
      k _ _ (Int.emod_nonneg _ (by omega)) (Int.emod_lt_of_pos _ hm) e ⟨ne, ns, p, c, sd, h1, e.keep _ _ hs (nin1 nsd), hlen, p1, p2⟩
    walk_at "eo go"
    refine g_ite (fun h1 => ?_) (fun h1 => ?_)
    · have h1' := vint (dec_t h1)
      subst h1'
      walk_at "eo go"
      refine g_ite (fun h2 => ?_) (fun h2 => ?_)
      · have h2' := dec_t h2
        have hpl : pos.toNat < ns.length := by rw [List.length_map] at h2'; omega
        have ha : (ns.map V.int)[pos.toNat]? = some (.int ns[pos.toNat]) := by simp [hpl]
        walk_at "eo go"
        refine g_ite (fun h3 => ?_) (fun h3 => ?_)
        · walk_at "eo go"
          refine g_ite (fun h4 => ?_) (fun h4 => ?_)
          · have h4' := dec_t h4
            walk_at "eo go"
            rename_i e3 f3
            exact k _ _ (by omega) h4' (by walk_at "eo ext") ⟨ne, ns, _, _, _, f3, by walk_at "eo fact", hlen, by omega, by omega⟩
          · walk_at "eo go"
            rename_i H9 _ f9
            exact leaf _ _ _ _ _ (by walk_at "eo ext") f9 (by omega) (Int.ediv_nonneg (by omega) (Int.le_of_lt hm))
        · walk_at "eo go"
          rename_i H9 _ f9
          exact leaf _ _ _ _ _ (by walk_at "eo ext") f9 (by omega) (by omega)
      · walk_at "eo go"
        rename_i H9 _ f9
        exact leaf _ _ _ _ _ (by walk_at "eo ext") f9 hp hc
    · have h1' : ¬ cur = 0 := fun z => dec_f h1 (by rw [z])
      have h3 : decide (0 < cur) = true := decide_eq_true (by omega)
      walk_at "eo go"
      rename_i H9 _ f9
      exact leaf _ _ _ _ _ (by walk_at "eo ext") f9 hp (Int.ediv_nonneg hc (Int.le_of_lt hm))
theorem ok_law_pick {A : Adr} (T : Txt K mg A) : FnOk P w K mg base CX0 2 A.f_law_pick A.d_law_pick ["d", "menu"] (spPick K) := by
  refine T.law_pick.F.ok sc_law_pick (fun vs H Q E h => ?_) (fun cdv Ar outer s H vs Q E hr h => ?_)
  · obtain ⟨d, s, m, xs, rfl, _⟩ := h
    rfl
  · obtain ⟨d, s, m, xs, rfl, hD, hm, nmd, h0, h1, k⟩ := h
    refine ⟨_, (pss_one (ps_ret (pe_ix ix_seq (pv 1) (pe_call (ok_law_take T) (hr.mono (by decide)) (by rfl) T.law_take.mg T.law_take.kp T.law_take.b .nil pass0 (pa_cons (pv 0) (pa_cons (pe_callB (id := "len") o_len (by rfl) T.b_len (by decide +kernel) (pa_cons (pv 1) pa_nil)) pa_nil))) (fun _ _ => rfl)))), ?_⟩
    walk_at "eo init"
    walk_at "eo go"
    refine ⟨d, s, _, rfl, hD, by omega, by omega, fun i H' i0 i1 e D' => ?_⟩
    have hi : i.toNat < xs.length := by omega
    have ha : xs[i.toNat]? = some xs[i.toNat] := by simp [hi]
    have hm' : SqL K H' m xs := sqL_ext e hm fun _ _ => nin1 nmd
    walk_at "eo go"
    exact k _ _ (List.getElem_mem hi) e D'
end
section
variable {K : PySem.W.Frag} {H : Hp} {Q : VK} {E : XK}
theorem g_take {d s : Addr} {many : Int} (hD : DSt H d s) (h0 : 0 < many) (h1 : many < 2 ^ 64) (h : ∀ k H', 0 ≤ k → k < many → Ext [d] H H' → DSt H' d s → Q (.int k) H') : spTake ([.ref d, .int many] ++ []) H Q E := ⟨d, s, many, rfl, hD, h0, h1, h⟩
theorem g_pick {d s m : Addr} {xs : List V} (hD : DSt H d s) (hm : SqL K H m xs) (ne : m ≠ d) (h0 : 0 < xs.length) (h1 : xs.length < 1000) (h : ∀ v H', v ∈ xs → Ext [d] H H' → DSt H' d s → Q v H') : spPick K ([.ref d, .ref m] ++ []) H Q E := ⟨d, s, m, xs, rfl, hD, hm, ne, h0, h1, h⟩
end
def spOct (K : PySem.W.Frag) : Sp := fun vs H Q _ => ∃ (d s : Addr) (most : Int), vs = [.ref d, .int most] ∧ DSt H d s ∧ 0 ≤ most ∧ most < 1000 ∧
  ∀ (c : Addr) (ns : List Int) (H' : Hp), Ext [d] H H' → DSt H' d s → SqT K H' c (ns.map V.int) → (∀ x ∈ ns, 0 ≤ x ∧ x ≤ 255) → (ns.length : Int) ≤ most → Q (.ref c) H'
theorem g_oct {K : PySem.W.Frag} {H : Hp} {Q : VK} {E : XK} {d s : Addr} {most : Int} (hD : DSt H d s) (h0 : 0 ≤ most) (h1 : most < 1000)
    (h : ∀ (c : Addr) (ns : List Int) (H' : Hp), Ext [d] H H' → DSt H' d s → SqT K H' c (ns.map V.int) → (∀ x ∈ ns, 0 ≤ x ∧ x ≤ 255) → (ns.length : Int) ≤ most → Q (.ref c) H') : spOct K ([.ref d, .int most] ++ []) H Q E := ⟨d, s, most, rfl, hD, h0, h1, h⟩
local macro_rules | `(tactic| walk_at "eo step") => `(tactic| first
  | ((with_reducible apply g_take); (walk_at "eo dst"); (walk_at "eo arith"); (walk_at "eo arith"); intro _ _ _ _ _ _)
  | ((with_reducible apply g_pick); (walk_at "eo dst"); (walk_at "eo sqL"); (walk_at "eo ne"); (walk_at "eo pos"); (walk_at "eo pos"); intro _ _ _ _ _)
  | ((with_reducible apply g_oct); (walk_at "eo dst"); (walk_at "eo arith"); (walk_at "eo arith"); intro _ _ _ _ _ _ _ _))
local macro_rules | `(tactic| walk_at "eo pos") => `(tactic| first | exact Nat.zero_lt_succ _ | exact lt1000)
section
variable {P : Program} {w : World} {K : PySem.W.Frag} {mg : Str → Option Value} {base : Heap}
theorem ok_law_octets {A : Adr} (T : Txt K mg A) : FnOk P w K mg base CX0 3 A.f_law_octets A.d_law_octets ["d", "most"] (spOct K) := by
  refine T.law_octets.F.ok sc_law_octets (fun vs H Q E h => ?_) (fun cdv Ar outer s H vs Q E hr h => ?_)
  · obtain ⟨d, s, m, rfl, _⟩ := h
    rfl
  · obtain ⟨d, s, m, rfl, hD, m0, m1, k⟩ := h
    refine ⟨_, (pss_one (ps_ret (pe_callTy (T := "tuple") o_tuple (by rfl) T.b_tuple (by decide +kernel) (pa_cons (pe_lc (own := [("k", 2)]) (tt := stT tYes) rfl sc_law_octets.nd (pi_range1 (by rfl) T.b_range (pa_cons (pe_call (ok_law_take T) (hr.mono (by decide)) (by rfl) T.law_take.mg T.law_take.kp T.law_take.b .nil pass0 (pa_cons (pv 0) (pa_cons (pe_op o_add (pv 1) pe_int) pa_nil))) pa_nil)) (blkOk_by (own := [("k", 2)]) (N := ["d", "most", "k"]) (sc := defScope s_law_octets) (by decide +kernel)) (fun _ _ _ _ _ => PG.star (pg_name (i := 2) sc_law_octets.nd rfl (Or.inl rfl) (Or.inr rfl))) (fun _ _ _ _ _ => PTs.star (pts_nil)) (fun _ _ _ _ _ => PE.star (pe_call (ok_law_pick T) (hr.mono (by decide)) (by rfl) T.law_pick.mg T.law_pick.kp T.law_pick.b .nil pass0 (pa_cons (pv 0) (pa_cons (pe_lstX (pa_cons (pe_call (ok_law_take T) (hr.mono (by decide)) (by rfl) T.law_take.mg T.law_take.kp T.law_take.b .nil pass0 (pa_cons (pv 0) (pa_cons pe_int pa_nil))) (pa_cons pe_int (pa_cons pe_int (pa_cons pe_int pa_nil))))) pa_nil))))) pa_nil)))), ?_⟩
    walk_at "eo init"
    walk_at "eo go"
    rename_i n H1 n0 n1 e1 hD1
    refine g_lcW walk_range (fun D i H2 acc => Ext [d] H H2 ∧ DSt H2 d s ∧ d ≠ D ∧ s ≠ D ∧ H D = none ∧ acc.length = i ∧ ∃ ns : List Int, acc = ns.map V.int ∧ ∀ x ∈ ns, 0 ≤ x ∧ x ≤ 255) ?_ (fun _ _ _ _ _ _ => trivial) ?_ ?_
    · intro D H2 hD0 e2 h2
      have nD : d ≠ D := ne_dst1 hD0 hD1
      have nD2 : s ≠ D := ne_dst2 hD0 hD1
      have nD3 : H D = none := e1.free hD0 (nin1 nD.symm)
      exact ⟨by walk_at "eo ext", by walk_at "eo dst", nD, nD2, nD3, rfl, [], rfl, fun _ h => by cases h⟩
    · rintro D i x H2 H3 acc hi ⟨e2, hD2, nD, nD2, fD, la, ns, rfl, hb⟩ hl ⟨rfl, rfl⟩
      walk_at "eo go"
      refine ⟨rfl, ?_⟩
      walk_at "eo go"
      rename_i t H4 t0 t1 e4 hD4 p H5 np e5 hp v H6 hv e6 hD6
      obtain ⟨z, rfl, z0, z1⟩ : ∃ z : Int, v = .int z ∧ 0 ≤ z ∧ z ≤ 255 := by
        simp only [List.mem_cons, List.not_mem_nil, or_false] at hv
        rcases hv with rfl | rfl | rfl | rfl
        · exact ⟨_, rfl, t0, by omega⟩
        · exact ⟨_, rfl, by decide, by decide⟩
        · exact ⟨_, rfl, by decide, by decide⟩
        · exact ⟨_, rfl, by decide, by decide⟩
      have h4 : H4 D = some (.lst (ns.map V.int)) := by walk_at "eo fact"
      have h5 : H5 D = some (.lst (ns.map V.int)) := by walk_at "eo fact"
      have h6 : H6 D = some (.lst (ns.map V.int)) := by walk_at "eo fact"
      refine ⟨h6, ?_, fun H7 e7 h7 => ⟨?_, DSt.ext e7 hD6 (nin1 nD) (nin1 nD2), nD, nD2, fD, by rw [List.length_append, la]; rfl, ns ++ [z], by rw [List.map_append]; rfl, ?_⟩⟩
      · rw [la, sizeLine_eq]; omega
      · walk_at "eo ext"
      · intro x hx
        rcases List.mem_append.mp hx with hx | hx
        · exact hb x hx
        · rw [List.mem_singleton.mp hx]; exact ⟨z0, z1⟩
    · rintro D H2 acc ⟨e2, hD2, nD, nD2, fD, la, ns, rfl, hb⟩ hl
      walk_at "eo go"
      rename_i c H3 nc e3 hc
      refine k _ ns _ (by walk_at "eo ext") (by walk_at "eo dst") (SqT.of hc) hb ?_
      rw [List.length_map] at la
      omega
end
section
variable {P : Program} {w : World} {K : PySem.W.Frag} {mg : Str → Option Value} {base : Heap}
theorem ok_Parts_init {A : Adr} (T : Txt K mg A) : FnOk P w K mg base CX0 1 A.f_Parts_init A.d_Parts_init ["self", "now"] (spPtInit A.c_Parts) := by
  have c1 := T.Parts.cl
  have c2 := T.Parts.na
  refine T.Parts_init.F.ok sc_Parts_init (fun vs H Q E h => ?_) (fun cdv Ar outer s H vs Q E hr h => ?_)
  · obtain ⟨q, dx, now, rfl, _⟩ := h
    rfl
  · obtain ⟨q, dx, now, rfl, hq, k⟩ := h
    refine ⟨_, (pss_cons (ps_fld (pv 0) (pv 1) rfl)
      (pss_cons (ps_fld (pv 0) pe_dnewK rfl)
      (pss_one (ps_fld (pv 0) pe_non rfl)))), ?_⟩
    walk_at "eo init"
    walk_at "eo go"
    rename_i H1 e1 h1 o H2 no e2 h2 H3 e3 h3 H4 e4 h4
    have noq : o ≠ q := (ne_of_none h1 no).symm
    exact k o H4 (e1.free no (nin1 noq)) (by walk_at "eo ext") ⟨⟨dx, h4⟩, e4.keep _ _ (e3.keep _ _ h2 (nin1 noq)) (nin1 noq)⟩
theorem ok_Parts_is_whole {A : Adr} (T : Txt K mg A) : FnOk P w K mg base CX0 1 A.f_Parts_is_whole A.d_Parts_is_whole ["self"] (spPtWhole A.c_Parts) := by
  have c1 := T.Parts.cl
  have c2 := T.Parts.na
  refine T.Parts_is_whole.F.ok sc_Parts_is_whole (fun vs H Q E h => ?_) (fun cdv Ar outer s H vs Q E hr h => ?_)
  · obtain ⟨q, o, e, rfl, _⟩ := h
    rfl
  · obtain ⟨q, o, e, rfl, ⟨⟨dx, hq⟩, ho⟩, k⟩ := h
    refine ⟨_, (pss_one (ps_ret (pe_and (pe_cmpR op_notN (pe_fld (pv 0) rfl) pe_non (nomark _)) (pe_one (pe_cmpR (o_eq hr.units) (pe_callB (id := "len") o_len (by rfl) T.b_len (by decide +kernel) (pa_cons (pe_fld (pv 0) rfl) pa_nil)) (pe_fld (pv 0) rfl) (nomark _)))))), ?_⟩
    walk_at "eo init"
    walk_at "eo go"
    cases hz : e.en with
    | none =>
      unfold whole at k
      rw [hz] at k
      walk_at "eo go"
      exact k
    | some z =>
      unfold whole at k
      rw [hz] at k
      rw [hz] at hq
      refine g_iteDT rfl ?_
      walk_at "eo go"
      rw [show optI (some z) = V.int z from rfl, dec_int]
      exact k
theorem ok_Parts_body {A : Adr} (T : Txt K mg A) : FnOk P w K mg base CX0 1 A.f_Parts_body A.d_Parts_body ["self"] (spPtBody K A.c_Parts) := by
  have c1 := T.Parts.cl
  have c2 := T.Parts.na
  refine T.Parts_body.F.ok sc_Parts_body (fun vs H Q E h => ?_) (fun cdv Ar outer s H vs Q E hr h => ?_)
  · obtain ⟨q, o, e, rfl, _⟩ := h
    rfl
  · obtain ⟨q, o, e, rfl, ⟨⟨dx, hq⟩, ho⟩, he, hw, k⟩ := h
    refine ⟨_, (pss_one (ps_ret (pe_callTy (T := "tuple") o_tuple (by rfl) T.b_tuple (by decide +kernel) (pa_cons (pe_lc (own := [("place", 1)]) (tt := stT tYes) rfl sc_Parts_body.nd (pi_range1 (by rfl) T.b_range (pa_cons (pe_fld (pv 0) rfl) pa_nil)) (blkOk_by (own := [("place", 1)]) (N := ["self", "place"]) (sc := defScope s_Parts_body) (by decide +kernel)) (fun _ _ _ _ _ => PG.star (pg_name (i := 1) sc_Parts_body.nd rfl (Or.inl rfl) (Or.inr rfl))) (fun _ _ _ _ _ => PTs.star (pts_nil)) (fun _ _ _ _ _ => PE.star (kkDget rfl (u1 hr.units) (kkFld (K := K) rfl (pv 0) rfl) (pv 1) (fun _ _ => rfl)))) pa_nil)))), ?_⟩
    walk_at "eo init"
    walk_at "eo go"
    cases hz : e.en with
    | none => unfold whole at hw; rw [hz] at hw; cases hw
    | some z =>
      rw [hz] at hq
      obtain ⟨_, z0, z1⟩ := he.en z hz
      have hat := fun i => whole_at he hz hw (i := i)
      unfold bodyOf at k
      rw [hz] at k
      have k : ∀ (c : Addr) (H' : Hp), Ext [] H H' → SqT K H' c (((List.range z.toNat).map (octAt e.oc)).map V.int) → Q (V.ref c) H' := k
      refine ⟨z, rfl, by omega, by omega, ?_⟩
      refine g_lcR walk_range (fun _ x (v : Int) => x = .int v) (fun _ q => q) ((List.range z.toNat).map (octAt e.oc)) (by rw [List.length_map, List.length_range]) (by omega) (fun _ _ => trivial) ?_ ?_
      · rintro i x H2 H3 v hv e2 ⟨rfl, rfl⟩
        rw [List.getElem?_map] at hv
        have hi : i < z.toNat := by
          refine Classical.byContradiction fun n => ?_
          rw [List.getElem?_eq_none (by rw [List.length_range]; omega)] at hv
          cases hv
        rw [List.getElem?_range hi] at hv
        cases hv
        have hv := hat i (by omega)
        have ho2 := e2.keep _ _ ho nin0
        have hq2 := e2.keep _ _ hq nin0
        show stG _ (V.int (0 + (i : Nat))) _ _ _
        rw [Int.zero_add]
        walk_at "eo go"
        refine ⟨rfl, ?_⟩
        walk_at "eo go"
        exact ⟨Ext.refl _, rfl⟩
      · intro D H2 acc e2 n2 hA hD
        rw [lr_int hA] at hD
        walk_at "eo go"
        rename_i c H3 n3 e3 h3
        exact k c H3 (ext0 e2 e3) (SqT.of h3)
theorem ok_Parts_take {A : Adr} (T : Txt K mg A) : FnOk P w K mg base CX0 1 A.f_Parts_take A.d_Parts_take ["self", "place", "more", "body"] (spPtTake K A.c_Parts) := by
  have c1 := T.Parts.cl
  have c2 := T.Parts.na
  refine T.Parts_take.F.ok sc_Parts_take (fun vs H Q E h => ?_) (fun cdv Ar outer s H vs Q E hr h => ?_)
  · obtain ⟨q, o, b, e, p, rfl, _⟩ := h
    rfl
  · obtain ⟨q, o, b, e, p, rfl, ⟨⟨dx, hq⟩, ho⟩, he, hb, hp, k1, k2⟩ := h
    refine ⟨_, (pss_cons (ps_for PassesOwn.never rfl (TD.pi_enumT (by rfl) T.b_enumerate (pa_cons (pv 3) pa_nil)) (pg_tup (n := 2) rfl (pgs_cons (pg_name (i := 4) sc_Parts_take.nd rfl (Or.inl rfl)) (pgs_cons (pg_name (i := 5) sc_Parts_take.nd rfl (Or.inl rfl)) pgs_nil))) (pss_one (ps_if (pt_cmpR (o_ne hr.units) (pe_dsetd (pe_fld (pv 0) rfl) (pe_op o_add (pv 1) (pv 4)) (pv 5) ⟨rfl, rfl, rfl, rfl⟩) (pv 5) (nomark _)) (pss_one (ps_ret pe_bl)) pss_nil)))
      (pss_cons (ps_set (i := 6) sc_Parts_take.nd rfl (Or.inl rfl) (pe_op o_add (pv 1) (pe_callB (id := "len") o_len (by rfl) T.b_len (by decide +kernel) (pa_cons (pv 3) pa_nil))))
      (pss_join (ps_if (pt_not (pt_truth (pv 2) (by intro _; rfl))) (pss_cons (ps_if (PW.pt (pw_and (pt_cmpR op_notN (pe_fld (pv 0) rfl) pe_non (nomark _)) (pw_and1 (pt_cmpR (o_ne hr.units) (pe_fld (pv 0) rfl) (pv 6) (nomark _))))) (pss_one (ps_ret pe_bl)) pss_nil)
      (pss_one (ps_fld (pv 0) (pv 6) rfl))) pss_nil)
      (pss_one (ps_ret (pe_or (pe_cmpR op_isN (pe_fld (pv 0) rfl) pe_non (nomark _)) (pe_one (pe_and (pe_cmpR op_le (pv 6) (pe_fld (pv 0) rfl) (nomark _)) (pe_one (pe_callB (id := "all") (cr_all rfl) (by rfl) T.b_all (by decide +kernel) (pa_cons (pe_lock (PE.star (pe_lc (own := [("at", 7)]) (tt := stT tYes) rfl sc_Parts_take.nd (pi_keys (pe_fld (pv 0) rfl)) (blkOk_by (own := [("at", 7)]) (N := ["self", "place", "more", "body", "number", "own", "end", "at"]) (sc := defScope s_Parts_take) (by decide +kernel)) (fun _ _ _ _ _ => PG.star (pg_name (i := 7) sc_Parts_take.nd rfl (Or.inl rfl) (Or.inr rfl))) (fun _ _ _ _ _ => PTs.star (pts_nil)) (fun _ _ _ _ _ => PE.star (pe_cmpR op_lt (pv 7) (kkFld (K := K) rfl (pv 0) rfl) (nomark _)))))) pa_nil))))))))))), ?_⟩
    have noq : o ≠ q := fun z => by rw [z, hq] at ho; cases ho
    have hlb := hp.pl
    have h0b := hp.p0
    unfold fitE at k1 k2
    walk_at "eo init"
    walk_at "eo go"
    refine ⟨b, _, rfl, hb, ?_⟩
    refine g_forW walk_enumT (fun i σ H' => Ext [q, o] H H' ∧ ∃ oc s4 s5, σ = [some (.ref q), some (.int p.p), some (.bl p.m), some (.ref b), s4, s5, none, none] ∧ H' q = some (.ins A.c_Parts dx [("since", .int e.since), ("octets", .ref o), ("end", optI e.en)]) ∧ H' o = some (.dK oc) ∧ OcOk oc ∧ addB oc (p.p + i) (p.b.drop i) = addB e.oc p.p p.b) ⟨Ext.refl _, _, none, none, rfl, hq, ho, he.oc, by simp⟩ (fun _ _ _ _ h => sqT_ext h.1 hb) ?_ ?_
    · rintro i x σ H2 H3 hi ⟨X2, oc, s4, s5, rfl, hq2, ho2, hoc, ha⟩ ⟨T2, x, y, rfl, n3, rfl, hx, hy⟩
      cases hx
      have hy : (p.b.map V.int)[i]? = some y := hy
      rw [List.getElem?_map] at hy
      cases hrow : p.b[i]? with
      | none => rw [hrow] at hy; cases hy
      | some v =>
        rw [hrow] at hy
        cases hy
        have hil := (List.getElem?_eq_some_iff.mp hrow).1
        rw [drop_at hrow] at ha
        have e3 : Ext [] H2 (upd H2 T2 (.tup [.int (i : Nat), .int v])) := Ext.new n3
        have h3 : (upd H2 T2 (.tup [.int (i : Nat), .int v])) T2 = some (.tup [.int (i : Nat), .int v]) := upd_same
        generalize upd H2 T2 (.tup [.int (i : Nat), .int v]) = H3 at *
        have X3 : Ext [q, o] H H3 := X2.trans e3 (fun _ z => z) (fun _ z => by cases z)
        have hq3 := e3.keep _ _ hq2 nin0
        have ho3 := e3.keep _ _ ho2 nin0
        have hol := hoc.len
        clear e3 X2 hq2 ho2 n3
        walk_at "eo go"
        refine ⟨oc, .inl (p.p + i), ho3, rfl, by rw [sizeLine_eq]; omega, fun u hu => ?_, fun hu => ?_⟩
        · obtain ⟨_, u', _, rfl⟩ := hoc.val hu
          by_cases c : u' = v
          · subst c
            walk_at "eo go"
            rw [addB_old hu] at ha
            exact ⟨X3, oc, _, _, rfl, hq3, ho3, hoc, by rw [← ha]; congr 1; omega⟩
          · walk_at "eo go"
            refine g_iteDT (by rw [dec_int, decide_eq_false c]; rfl) ?_
            walk_at "eo go"
            rw [addB_bad hu (fun z => c (V.int.inj z))] at ha
            exact k1 (by rw [← ha]; rfl) H3 X3
        · have e4 : Ext [o] H3 (upd H3 o (.dK (putK oc (.inl (p.p + i)) (.int v)))) := Ext.wr ho3 rfl
          have h4 : (upd H3 o (.dK (putK oc (.inl (p.p + i)) (.int v)))) o = some (.dK (putK oc (.inl (p.p + i)) (.int v))) := upd_same
          generalize upd H3 o (.dK (putK oc (.inl (p.p + i)) (.int v))) = H4 at *
          have hq4 := e4.keep _ _ hq3 (nin1 noq.symm)
          walk_at "eo go"
          rw [addB_new hu] at ha
          exact ⟨X3.one e4 (by simp), _, _, _, rfl, hq4, h4, hoc.put (by omega) (by omega) hu, by rw [← ha]; congr 1; omega⟩
    · rintro σ H2 ⟨X2, oc, s4, s5, rfl, hq2, ho2, hoc, ha⟩
      rw [List.length_map, List.drop_length] at ha
      have ha : addB e.oc p.p p.b = some oc := ha.symm
      rw [ha] at k1 k2
      have k1 : fitL e p oc = none → ∀ (H' : Hp), Ext [q, o] H H' → Q (V.bl false) H' := k1
      have k2 : ∀ e', fitL e p oc = some e' → ∀ (H' : Hp), Ext [q, o] H H' → PtAt A.c_Parts H' q o e' → Q (V.bl true) H' := k2
      walk_at "eo go"
      rw [List.length_map]
      refine g_join (fun σ' H' => σ' = [some (.ref q), some (.int p.p), some (.bl p.m), some (.ref b), s4, s5, some (.int (p.p + p.b.length)), none] ∧ Ext [q, o] H H' ∧ H' q = some (.ins A.c_Parts dx [("since", .int e.since), ("octets", .ref o), ("end", optI (if p.m then e.en else some (p.p + p.b.length)))]) ∧ H' o = some (.dK oc) ∧ ¬ (p.m = false ∧ ¬ (e.en = none ∨ e.en = some (p.p + p.b.length)))) ?_ ?_
      · walk_at "eo go"
        cases hm : p.m with
        | true =>
          walk_at "eo go"
          exact ⟨rfl, X2, hq2, ho2, fun z => by cases z.1⟩
        | false =>
          cases hz : e.en with
          | none =>
            rw [hz] at hq2
            have hq2 : H2 q = some (.ins A.c_Parts dx [("since", .int e.since), ("octets", .ref o), ("end", .non)]) := hq2
            walk_at "eo go"
            rename_i H3 e3 h3
            exact ⟨rfl, X2.one e3 (by simp), h3, e3.keep _ _ ho2 (nin1 noq), fun z => z.2 (.inl rfl)⟩
          | some z =>
            rw [hz] at hq2
            have hq2 : H2 q = some (.ins A.c_Parts dx [("since", .int e.since), ("octets", .ref o), ("end", .int z)]) := hq2
            by_cases c : z = p.p + p.b.length
            · subst c
              walk_at "eo go"
              rename_i H3 e3 h3
              exact ⟨rfl, X2.one e3 (by simp), h3, e3.keep _ _ ho2 (nin1 noq), fun z => z.2 (.inr rfl)⟩
            · have hb := fitL_bad (e := e) (p := p) (oc := oc) ⟨hm, by rw [hz]; rintro (w | w); cases w; exact c (Option.some.inj w)⟩
              walk_at "eo go"
              refine g_iteDT (by rw [dec_int, decide_eq_false c]; rfl) ?_
              walk_at "eo go"
              exact k1 hb H2 X2
      · rintro σ' H3 ⟨rfl, X3, hq3, ho3, hc⟩
        have hn := fitL_none (oc := oc) hc
        have hs := fun z => fitL_some (oc := oc) (z := z) hc
        generalize (if p.m then e.en else some (p.p + p.b.length)) = en at *
        cases en with
        | none =>
          have hq3 : H3 q = some (.ins A.c_Parts dx [("since", .int e.since), ("octets", .ref o), ("end", .non)]) := hq3
          walk_at "eo go"
          exact k2 _ (hn rfl) H3 X3 ⟨⟨dx, hq3⟩, ho3⟩
        | some z =>
          have hq3 : H3 q = some (.ins A.c_Parts dx [("since", .int e.since), ("octets", .ref o), ("end", .int z)]) := hq3
          have hs := hs z rfl
          walk_at "eo go"
          by_cases c : p.p + p.b.length ≤ z
          · refine g_iteDT (decide_eq_true c) ?_
            walk_at "eo go"
            refine g_lockE ho3 fun od H4 e4 h4 => ?_
            have hq4 := e4.keep _ _ hq3 (nin1 noq.symm)
            have hol := hoc.len
            clear hq hq2 ho ho2 ho3 hb hq3
            walk_at "eo go"
            refine ⟨o, od, rfl, .inl ⟨_, h4, ?_⟩⟩
            refine g_lcR walk_keys (fun _ x (v : Bool) => x = .bl v) (fun _ q => q) (oc.map fun x => decide (keyI x.1 < z)) (by rw [List.length_map]) (by omega) (fun H e => e.keep _ _ h4 nin0) ?_ ?_
            · rintro i x H5 H6 v hv e5 ⟨rfl, kk, vv, hi, rfl⟩
              obtain ⟨j, rfl⟩ := hoc.key hi
              rw [List.getElem?_map, hi] at hv
              cases hv
              have hq5 := e5.keep _ _ hq4 nin0
              rw [show kV (Sum.inl j) = V.int j from rfl]
              walk_at "eo go"
              refine ⟨rfl, ?_⟩
              walk_at "eo go"
              exact ⟨Ext.refl _, rfl⟩
            · intro D H5 acc e5 n5 hA hD
              have h5 := e5.keep _ _ h4 nin0
              have nDo : D ≠ o := (ne_of_none h4 n5).symm
              rw [lr_bl hA] at hD
              refine ⟨h5, fun HF e6 h6 => ?_⟩
              have hD := e6.keep _ _ hD (nin1 nDo)
              have XF : Ext [o] H3 HF := (e4.trans e5 (fun _ z => z) (fun _ z => by cases z)).trans e6 (fun _ z => z) (fun _ z _ => z)
              have X := X3.one XF (by simp)
              have hqF := e6.keep _ _ (e5.keep _ _ hq4 nin0) (nin1 noq.symm)
              refine ⟨D, _, rfl, SqL.of hD, ?_⟩
              rw [List.all_map, show (id ∘ fun x : Key × V => decide (keyI x.1 < z)) = fun x => decide (keyI x.1 < z) from rfl]
              cases hall : oc.all fun x => decide (keyI x.1 < z) with
              | true => exact k2 _ (hs.trans (if_pos ⟨c, hall⟩)) HF X ⟨⟨dx, hqF⟩, h6⟩
              | false => exact k1 (hs.trans (if_neg fun h => by rw [hall] at h; cases h.2)) HF X
          · refine g_iteDF (decide_eq_false c) ?_
            exact k1 (hs.trans (if_neg fun h => c h.1)) H3 X3
theorem ok_Joiner_init {A : Adr} (T : Txt K mg A) : FnOk P w K mg base CX0 1 A.f_Joiner_init A.d_Joiner_init ["self", "wait"] (spJInit A.c_Joiner A.c_Parts) := by
  have c1 := T.Joiner.cl
  have c2 := T.Joiner.na
  refine T.Joiner_init.F.ok sc_Joiner_init (fun vs H Q E h => ?_) (fun cdv Ar outer s H vs Q E hr h => ?_)
  · obtain ⟨j, dx, w, rfl, _⟩ := h
    rfl
  · obtain ⟨j, dx, w, rfl, hj, k⟩ := h
    refine ⟨_, (pss_cons (ps_fld (pv 0) (pv 1) rfl)
      (pss_one (ps_fld (pv 0) pe_dnewT rfl))), ?_⟩
    walk_at "eo init"
    walk_at "eo go"
    rename_i H1 e1 h1 P H2 nP e2 h2 H3 e3 h3
    have nPj : P ≠ j := (ne_of_none h1 nP).symm
    exact k P H3 (e1.free nP (nin1 nPj)) (by walk_at "eo ext") ⟨⟨dx, h3⟩, e3.keep _ _ h2 (nin1 nPj), fun r hr => (by cases hr), List.nodup_nil, List.nodup_nil, SOk.nil, fun r hr => (by cases hr)⟩
theorem ok_Joiner_waiting {A : Adr} (T : Txt K mg A) : FnOk P w K mg base CX0 1 A.f_Joiner_waiting A.d_Joiner_waiting ["self"] (spJWait A.c_Joiner A.c_Parts) := by
  have c1 := T.Joiner.cl
  have c2 := T.Joiner.na
  refine T.Joiner_waiting.F.ok sc_Joiner_waiting (fun vs H Q E h => ?_) (fun cdv Ar outer s H vs Q E hr h => ?_)
  · obtain ⟨j, P, w, rs, rfl, _⟩ := h
    rfl
  · obtain ⟨j, P, w, rs, rfl, I, k⟩ := h
    refine ⟨_, (pss_one (ps_ret (pe_callB (id := "len") call_len_dT (by rfl) T.b_len (by decide +kernel) (pa_cons (pe_fld (pv 0) rfl) pa_nil)))), ?_⟩
    obtain ⟨dx, hj⟩ := I.jo
    unfold jF at hj
    have hP := I.dd
    walk_at "eo init"
    walk_at "eo go"
    have hl : (kvR rs).length = rs.length := List.length_map ..
    rw [hl]
    exact k
theorem ok_Joiner_take {A : Adr} (T : Txt K mg A) : FnOk P w K mg base CX0 3 A.f_Joiner_take A.d_Joiner_take ["self", "packet", "now"] (spJTake K A.c_Joiner A.c_Parts) := by
  have c1 := T.Joiner.cl
  have c2 := T.Joiner.na
  have c3 := T.Parts.cl
  have c4 := T.Parts.na
  refine T.Joiner_take.F.ok sc_Joiner_take (fun vs H Q E h => ?_) (fun cdv Ar outer s H vs Q E hr h => ?_)
  · obtain ⟨j, t, P, w, now, rs, p, rfl, _⟩ := h
    rfl
  · obtain ⟨j, t, P, w, now, rs, p, rfl, I, ⟨b, ht, hb⟩, hp, hrl, k⟩ := h
    refine ⟨_, (pss_cons (ps_asg (pv 1) (pg_tup (n := 8) rfl (pgs_cons (pg_name (i := 3) sc_Joiner_take.nd rfl (Or.inl rfl)) (pgs_cons (pg_name (i := 4) sc_Joiner_take.nd rfl (Or.inl rfl)) (pgs_cons (pg_name (i := 5) sc_Joiner_take.nd rfl (Or.inl rfl)) (pgs_cons (pg_name (i := 6) sc_Joiner_take.nd rfl (Or.inl rfl)) (pgs_cons (pg_name (i := 7) sc_Joiner_take.nd rfl (Or.inl rfl)) (pgs_cons (pg_name (i := 8) sc_Joiner_take.nd rfl (Or.inl rfl)) (pgs_cons (pg_name (i := 9) sc_Joiner_take.nd rfl (Or.inl rfl)) (pgs_cons (pg_name (i := 10) sc_Joiner_take.nd rfl (Or.inl rfl)) pgs_nil))))))))))
      (pss_cons (ps_set (i := 11) sc_Joiner_take.nd rfl (Or.inl rfl) (pe_tupX (pa_cons (pv 3) (pa_cons (pv 4) (pa_cons (pv 5) (pa_cons (pv 7) pa_nil))))))
      (pss_join (ps_if (pt_cmp (pc_dnotin (u1 hr.units) (pv 11) (pe_fld (pv 0) rfl))) (pss_one (ps_dput (u1 hr.units) (pe_fld (pv 0) rfl) (pv 11) (pe_makeX T.Parts.make (ok_Parts_init T) (hr.mono (by decide)) (by rfl) T.Parts.mg T.Parts_init.b .nil pass0 (pa_cons (pv 2) pa_nil)) rfl)) pss_nil)
      (pss_cons (ps_set (i := 12) sc_Joiner_take.nd rfl (Or.inl rfl) (pe_dget (u1 hr.units) (pe_fld (pv 0) rfl) (pv 11) (fun _ _ => rfl)))
      (pss_cons (ps_if (pt_not (pt_truth (pe_meth (pv 12) T.Parts.cl T.Parts_take.me (ok_Parts_take T) (hr.mono (by decide)) T.Parts_take.b .nil pass0 (pa_cons (pv 8) (pa_cons (pv 9) (pa_cons (pv 10) pa_nil)))) (by intro _; rfl))) (pss_cons (ps_expr (pe_bm PySem.F.plainAttrs_dict PySem.F.slot_dict_pop PySem.F.type_dict_pop (TD.mt_pop1T (u1 hr.units)) (pe_fld (pv 0) rfl) (pa_cons (pv 11) pa_nil)))
      (pss_one (ps_ret pe_non))) pss_nil)
      (pss_cons (ps_if (pt_not (pt_truth (pe_meth0 (pv 12) T.Parts.cl T.Parts_is_whole.me (ok_Parts_is_whole T) (hr.mono (by decide)) T.Parts_is_whole.b .nil pass0) (by intro _; rfl))) (pss_one (ps_ret pe_non)) pss_nil)
      (pss_cons (ps_expr (pe_bm PySem.F.plainAttrs_dict PySem.F.slot_dict_pop PySem.F.type_dict_pop (TD.mt_pop1T (u1 hr.units)) (pe_fld (pv 0) rfl) (pa_cons (pv 11) pa_nil)))
      (pss_one (ps_ret (pe_tupX (pa_cons (pv 3) (pa_cons (pv 4) (pa_cons (pv 5) (pa_cons (pv 6) (pa_cons (pv 7) (pa_cons pe_int (pa_cons pe_bl (pa_cons (pe_meth0 (pv 12) T.Parts.cl T.Parts_body.me (ok_Parts_body T) (hr.mono (by decide)) T.Parts_body.b .nil pass0) pa_nil)))))))))))))))))), ?_⟩
    obtain ⟨dx, hj⟩ := I.jo
    unfold jF at hj
    unfold pkV at ht
    have hP := I.dd
    walk_at "eo init"
    walk_at "eo go"
    rename_i kb H1 n1 e1 h1
    have hk : H1 kb = some (.tup ((key4 p).map kV)) := h1
    have I := I.ext0 e1
    have hj := e1.keep _ _ hj nin0
    have hP := e1.keep _ _ hP nin0
    have hb := sqT_ext e1 hb
    refine g_join (fun σ' H' => σ' = [some (.ref j), some (.ref t), some (.int now), some (.int p.s), some (.int p.g), some (kS p.k), some (.int p.l), some (.int p.n), some (.int p.p), some (.bl p.m), some (.ref b), some (.ref kb), none] ∧ Ext [P] H1 H' ∧ ∃ rs1 r, PInv A.c_Joiner A.c_Parts H' j w P rs1 ∧ rget rs1 (key4 p) = some r ∧ r.e = (aget (stR rs) (key4 p)).getD ⟨now, [], none⟩ ∧
      (∀ r ∈ rs1, (r.a ∈ rs.map (·.a) ∨ H r.a = none) ∧ (r.o ∈ rs.map (·.o) ∨ H r.o = none)) ∧ stR (rdrop rs1 (key4 p)) = adrop (stR rs) (key4 p) ∧ ∀ e, stR (rset rs1 (key4 p) e) = aput (stR rs) (key4 p) e) ?_ ?_
    · walk_at "eo go"
      refine g_dinT hP hk ?_
      walk_at "eo go"
      cases hv : rget rs (key4 p) with
      | some r =>
        refine g_iteDF (by rw [val_kv, hv]; rfl) ?_
        walk_at "eo go"
        refine ⟨rfl, Ext.refl _, rs, r, I, hv, by rw [rget_st hv]; rfl, fun r hr => ⟨.inl (List.mem_map.mpr ⟨r, hr, rfl⟩), .inl (List.mem_map.mpr ⟨r, hr, rfl⟩)⟩, (drop_st _ _).symm, fun e => set_st e hv⟩
      | none =>
        have hg : aget (stR rs) (key4 p) = none := by rw [aget_st, hv]; rfl
        refine g_iteDT (by rw [val_kv, hv]; rfl) ?_
        walk_at "eo go"
        intro q dq H2 nq e2 h2
        refine ⟨q, dq, now, rfl, h2, fun o H3 no e3 hpt => ⟨rfl, ?_⟩⟩
        have nqH : H q = none := e1.free nq nin0
        have noH : H o = none := e1.free (e2.free no nin0) nin0
        have no1 : H1 o = none := e2.free no nin0
        have nqP : P ≠ q := ne_of_none hP nq
        have X3 : Ext [] H1 H3 := e2.fresh e3 fun x hx => .inr (by rw [List.mem_singleton.mp hx]; exact nq)
        have hP3 := X3.keep _ _ hP nin0
        have hj3 := X3.keep _ _ hj nin0
        have hk3 := X3.keep _ _ hk nin0
        walk_at "eo go"
        refine g_dputT hP3 hk3 (by rw [show (kvR rs).length = rs.length from List.length_map ..]; omega) fun H4 e4 h4 => ?_
        have hnew := I.new (k := key4 p) hv X3 nq no1 hpt e4 h4
        refine ⟨rfl, (X3.mono (by simp)).one e4 (by simp), _, _, hnew, rget_app hv rfl, by rw [hg]; rfl, fun r hr => ?_, ?_, fun e => ?_⟩
        · rcases List.mem_append.mp hr with hr | hr
          · exact ⟨.inl (List.mem_map.mpr ⟨r, hr, rfl⟩), .inl (List.mem_map.mpr ⟨r, hr, rfl⟩)⟩
          · rw [List.mem_singleton.mp hr]
            exact ⟨.inr nqH, .inr noH⟩
        · rw [← drop_st, put_st hv, adrop_put]
        · rw [set_st e (rget_app hv rfl), put_st hv, aput_put hg]
    · rintro σ' H2 ⟨rfl, e2, rs1, r, I2, hv, hre, hfr, hdr, hst⟩
      obtain ⟨rk, rm⟩ := rget_k hv
      have hj2 := e2.keep _ _ hj (nin1 I.jP)
      have hk2 := e2.keep _ _ hk (nin1 (ne_of hk I.dd (by intro z; cases z)))
      have hP2 := I2.dd
      have hb := sqT_ext e2 hb
      have hvv : valV (kvR rs1) (key4 p) = some (.ref r.a) := by rw [val_kv, hv]; rfl
      have hpt := I2.at_ r rm
      have heo : EOk r.e := I2.ok.ok _ (List.mem_map.mpr ⟨r, rm, rfl⟩)
      clear hj hk hP I
      walk_at "eo go"
      refine g_dgetT hP2 hk2 hvv ?_
      obtain ⟨⟨dq, hq⟩, ho⟩ := id hpt
      walk_at "eo go"
      have nkq : kb ∉ [r.a, r.o] := by simp [ne_of hk2 hq (by intro z; cases z), ne_of hk2 ho (by intro z; cases z)]
      have njq : j ∉ [r.a, r.o] := by simp [(I2.ja r rm).symm, I2.jo' rm]
      have nPq : P ∉ [r.a, r.o] := by simp [I2.Pa rm, I2.Po rm]
      have Y : ∀ x ∈ [r.a, r.o], x ∈ ownP P rs ∨ H x = none := fun x hx => by
        rcases List.mem_cons.mp hx with rfl | hx
        · exact (hfr r rm).1.imp own_a id
        · rw [List.mem_singleton.mp hx]
          exact (hfr r rm).2.imp own_o id
      have X2 : Ext (ownP P rs) H H2 := (e1.mono (by simp)).one e2 own_P
      have dfr : ∀ x ∈ rdrop rs1 (key4 p), x.o ∈ rs.map (·.o) ∨ H x.o = none := fun x hx => (hfr x (List.mem_filter.mp hx).1).2
      refine ⟨r.a, r.o, b, r.e, p, rfl, hpt, heo, hb, hp, fun hf H3 e3 => ?_, fun e' hf H3 e3 hpt3 => ?_⟩
      · have hj3 := e3.keep _ _ hj2 njq
        have hk3 := e3.keep _ _ hk2 nkq
        have hP3 := e3.keep _ _ hP2 nPq
        rw [hre] at hf
        have ht := tk_none hf
        clear hq ho hj2 hk2 hP2
        walk_at "eo go"
        refine g_pop1T hP3 hk3 hvv fun H4 e4 h4 => ?_
        walk_at "eo go"
        exact k .non H4 (rdrop rs1 (key4 p)) ((X2.fresh e3 Y).one e4 own_P) (I2.drop hv e3 e4 h4) (by rw [ht, hdr]) dfr (by rw [ht]; rfl)
      · have hj3 := e3.keep _ _ hj2 njq
        have hk3 := e3.keep _ _ hk2 nkq
        have hP3 := e3.keep _ _ hP2 nPq
        have he' := fitE_ok heo hp hf
        rw [hre] at hf
        have htk := tk_some hf
        have I3 := I2.set hv e3 hpt3 he'
        clear hq ho hj2 hk2 hP2
        obtain ⟨⟨dq3, hq3⟩, ho3⟩ := id hpt3
        walk_at "eo go"
        refine ⟨r.a, r.o, e', rfl, hpt3, ?_⟩
        walk_at "eo go"
        cases hw : whole e' with
        | false =>
          rw [hw] at htk
          walk_at "eo go"
          refine k .non H3 (rset rs1 (key4 p) e') (X2.fresh e3 Y) I3 (by rw [htk, hst]; rfl) (fun x hx => ?_) (by rw [htk]; rfl)
          have : x.o ∈ rs1.map (·.o) := by rw [← rset_o (k := key4 p) (e := e')]; exact List.mem_map.mpr ⟨x, hx, rfl⟩
          obtain ⟨y, hy, hyo⟩ := List.mem_map.mp this
          rw [← hyo]
          exact (hfr y hy).2
        | true =>
          rw [hw] at htk
          walk_at "eo go"
          refine g_pop1T hP3 hk3 hvv fun H4 e4 h4 => ?_
          have hpt4 := hpt3.ext e4 (nin1 (I2.Pa rm).symm) (nin1 (I2.Po rm).symm)
          obtain ⟨⟨dq4, hq4⟩, ho4⟩ := id hpt4
          clear hj3 hk3 hP3 hq3 ho3
          walk_at "eo go"
          refine ⟨r.a, r.o, e', rfl, hpt4, he', hw, fun c H5 e5 h5 => ?_⟩
          walk_at "eo go"
          rename_i c6 H6 n6 e6 h6
          refine k (.ref c6) H6 (rdrop rs1 (key4 p)) ((((X2.fresh e3 Y).one e4 own_P).fresh e5 (by simp)).fresh e6 (by simp)) (((I2.drop hv e3 e4 h4).ext0 e5).ext0 e6) (by rw [htk, hdr]; rfl) dfr ?_
          rw [htk]
          exact ⟨c6, rfl, c, SqT.of h6, sqT_ext e6 h5⟩
theorem ok_Joiner_tick {A : Adr} (T : Txt K mg A) : FnOk P w K mg base CX0 1 A.f_Joiner_tick A.d_Joiner_tick ["self", "now"] (spJTick A.c_Joiner A.c_Parts) := by
  have c1 := T.Joiner.cl
  have c2 := T.Joiner.na
  have c3 := T.Parts.cl
  have c4 := T.Parts.na
  refine T.Joiner_tick.F.ok sc_Joiner_tick (fun vs H Q E h => ?_) (fun cdv Ar outer s H vs Q E hr h => ?_)
  · obtain ⟨j, P, w, now, rs, rfl, _⟩ := h
    rfl
  · obtain ⟨j, P, w, now, rs, rfl, I, hrl, k⟩ := h
    refine ⟨_, (pss_one (ps_fld (pv 0) (pe_lock (PE.star (DcT.pe_dcT (hu := u1 hr.units) (own := [("key", 2), ("own", 3)]) rfl sc_Joiner_tick.nd (TD.pi_itemsT (pe_fld (pv 0) rfl)) (blkOk_by (own := [("key", 2), ("own", 3)]) (N := ["self", "now", "key", "own"]) (sc := defScope s_Joiner_tick) (by decide +kernel)) (fun _ _ _ _ _ => PG.star (kkTup (K := K) rfl (pg_tup (n := 2) rfl (pgs_cons (pg_name (i := 2) sc_Joiner_tick.nd rfl (Or.inl rfl) (Or.inr rfl)) (pgs_cons (pg_name (i := 3) sc_Joiner_tick.nd rfl (Or.inl rfl) (Or.inr rfl)) pgs_nil))))) (fun _ _ _ _ _ => PTs.star ((pts_one (pt_cmpR op_lt (pe_op op_sub (pv 1) (kkFld (K := K) rfl (pv 3) rfl)) (kkFld (K := K) rfl (pv 0) rfl) (nomark _))))) (fun _ _ _ _ _ => PE.star (pv 2)) (fun _ _ _ _ _ => PE.star (pv 3))))) rfl)), ?_⟩
    obtain ⟨dx, hj⟩ := I.jo
    unfold jF at hj
    have hP := I.dd
    walk_at "eo init"
    refine g_lockET hP fun od H0 e0 h0 => ?_
    have hj0 := e0.keep _ _ hj (nin1 I.jP)
    walk_at "eo go"
    refine ⟨P, od, _, rfl, h0, ?_⟩
    have hl : (kvR rs).length = rs.length := List.length_map ..
    refine g_dcW walk_itemsT (fun D i H' kvs => Ext [] H0 H' ∧ H0 D = none ∧ kvs = kvR ((rs.take i).filter fun r => decide (now - r.e.since < w))) ?_ ?_ ?_ ?_
    · intro D H' n e h
      exact ⟨e, n, rfl⟩
    · rintro D i H' kvs hi ⟨e, n, rfl⟩
      exact e.keep _ _ h0 nin0
    · rintro D i x H1 H' kvs hi ⟨e, n, rfl⟩ hD ⟨T1, kk, v, qk, hkv, rfl, hq, hT, rfl⟩
      unfold kvR at hkv
      rw [List.getElem?_map] at hkv
      cases hr : rs[i]? with
      | none => rw [hr] at hkv; cases hkv
      | some r =>
        rw [hr] at hkv
        cases hkv
        have rm := List.mem_of_getElem? hr
        have e1 : Ext [] H1 (upd H1 T1 (.tup [.ref qk, .ref r.a])) := Ext.new hT
        have h1 : (upd H1 T1 (.tup [.ref qk, .ref r.a])) T1 = some (.tup [.ref qk, .ref r.a]) := upd_same
        generalize upd H1 T1 (.tup [.ref qk, .ref r.a]) = H2 at *
        have X2 := ext0 e e1
        have hq2 := e1.keep _ _ hq nin0
        have hD2 := e1.keep _ _ hD nin0
        have hj2 := X2.keep _ _ hj0 nin0
        obtain ⟨⟨dz, hp⟩, _⟩ := ((I.at_ r rm).ext e0 (nin1 (I.Pa rm).symm) (nin1 (I.Po rm).symm)).ext X2 nin0 nin0
        have hnk := new_key (f := fun r => decide (now - r.e.since < w)) I.keys hr
        have hfs := filter_step (f := fun r => decide (now - r.e.since < w)) hr
        have hkl : (kvR ((rs.take i).filter fun r => decide (now - r.e.since < w))).length < sizeLine := by
          unfold kvR
          rw [List.length_map, sizeLine_eq]
          have := List.length_filter_le (fun r => decide (now - r.e.since < w)) (rs.take i)
          rw [List.length_take] at this
          omega
        clear hj hP e1 e hj0
        walk_at "eo go"
        refine ⟨rfl, ?_⟩
        walk_at "eo go"
        by_cases c : now - r.e.since < w
        · refine g_iteDT (decide_eq_true c) ?_
          rw [if_pos (decide_eq_true c)] at hfs
          walk_at "eo go"
          refine ⟨r.k, qk, rfl, hq2, hD2, hkl, fun H6 e6 h6 => ⟨X2.fresh e6 (fun x hx => .inr (by rw [List.mem_singleton.mp hx]; exact n)), n, ?_⟩⟩
          rw [hfs, put_kv (o := r.o) (e := r.e) hnk]
        · refine g_iteDF (decide_eq_false c) ?_
          rw [if_neg (by rw [decide_eq_false c]; exact Bool.false_ne_true)] at hfs
          exact ⟨⟨X2, n, by rw [hfs]⟩, hD2⟩
    · rintro D H' kvs ⟨e, n, rfl⟩ hD
      rw [hl, List.take_length] at hD
      have h0' := e.keep _ _ h0 nin0
      refine ⟨h0', fun HF e2 h2 => ?_⟩
      have nDP : D ≠ P := (ne_of_none h0 n).symm
      have nDj : D ≠ j := (ne_of_none hj0 n).symm
      have XF : Ext [] H HF := ((e0.trans e (fun _ z => z) (fun _ z => by cases z)).trans e2 (fun _ z => z) (fun _ z _ => z)).same hP h2
      have nDH : H D = none := e0.free n (nin1 nDP)
      have hDF := e2.keep _ _ hD (nin1 nDP)
      have hjF := XF.keep _ _ hj nin0
      have IF := I.ext0 XF
      clear hj hP hj0 h0 e0 e e2 hD
      walk_at "eo go"
      rename_i H3 e3 h3
      refine k D H3 nDH ((XF.mono (by simp)).one e3 (by simp)) (IF.filter _ ⟨dx, h3⟩ (e3.keep _ _ hDF (nin1 nDj)) fun r hr => ?_)
      have rm := (List.mem_filter.mp hr).1
      exact (IF.at_ r rm).ext e3 (nin1 (IF.ja r rm)) (nin1 (IF.jo' rm).symm)
theorem ok_pieces_of {A : Adr} (T : Txt K mg A) : FnOk P w K mg base CX0 1 A.f_pieces_of A.d_pieces_of ["packet", "most"] (spCut K) := by
  refine T.pieces_of.F.ok sc_pieces_of (fun vs H Q E h => ?_) (fun cdv Ar outer s H vs Q E hr h => ?_)
  · obtain ⟨t, m, p, rfl, _⟩ := h
    rfl
  · obtain ⟨t, m, p, rfl, ⟨b, ht, hb⟩, h1, hm, hl, k⟩ := h
    refine ⟨_, (pss_cons (ps_asg (pv 0) (pg_tup (n := 8) rfl (pgs_cons (pg_name (i := 2) sc_pieces_of.nd rfl (Or.inl rfl)) (pgs_cons (pg_name (i := 3) sc_pieces_of.nd rfl (Or.inl rfl)) (pgs_cons (pg_name (i := 4) sc_pieces_of.nd rfl (Or.inl rfl)) (pgs_cons (pg_name (i := 5) sc_pieces_of.nd rfl (Or.inl rfl)) (pgs_cons (pg_name (i := 6) sc_pieces_of.nd rfl (Or.inl rfl)) (pgs_cons (pg_name (i := 7) sc_pieces_of.nd rfl (Or.inl rfl)) (pgs_cons (pg_name (i := 8) sc_pieces_of.nd rfl (Or.inl rfl)) (pgs_cons (pg_name (i := 9) sc_pieces_of.nd rfl (Or.inl rfl)) pgs_nil))))))))))
      (pss_cons (ps_set (i := 10) sc_pieces_of.nd rfl (Or.inl rfl) (pe_lstX pa_nil))
      (pss_cons (ps_for PassesOwn.never rfl (pi_range3 (by rfl) T.b_range (pa_cons pe_int (pa_cons (pe_callB (id := "max") (o_max rfl) (by rfl) T.b_max (by decide +kernel) (pa_cons (pe_callB (id := "len") o_len (by rfl) T.b_len (by decide +kernel) (pa_cons (pv 9) pa_nil)) (pa_cons pe_int pa_nil))) (pa_cons (pv 1) pa_nil)))) (pg_name (i := 11) sc_pieces_of.nd rfl (Or.inl rfl)) (pss_cons (ps_set (i := 12) sc_pieces_of.nd rfl (Or.inl rfl) (pe_slice o_sl (pv 9) (po_some (pv 11)) (po_some (pe_op o_add (pv 11) (pv 1)))))
      (pss_cons (ps_set (i := 13) sc_pieces_of.nd rfl (Or.inl rfl) (pe_cmpR op_ge (pe_op o_add (pv 11) (pv 1)) (pe_callB (id := "len") o_len (by rfl) T.b_len (by decide +kernel) (pa_cons (pv 9) pa_nil)) (nomark _)))
      (pss_one (ps_expr (pe_bm PySem.F.plainAttrs_list PySem.F.slot_list_append PySem.F.type_list_append mt_append (pv 10) (pa_cons (pe_tupX (pa_cons (pv 2) (pa_cons (pv 3) (pa_cons (pv 4) (pa_cons (pv 5) (pa_cons (pv 6) (pa_cons (pe_op o_add (pv 7) (pv 11)) (pa_cons (pe_ifExp (pt_truth (pv 13) (by intro _; rfl)) (pv 8) pe_bl) (pa_cons (pv 12) pa_nil))))))))) pa_nil)))))))
      (pss_one (ps_ret (pe_callTy (T := "tuple") o_tuple (by rfl) T.b_tuple (by decide +kernel) (pa_cons (pv 10) pa_nil))))))), ?_⟩
    unfold pkV at ht
    have hrg := rgP hl h1 hm
    have hn := nP_le (len := p.b.length) h1
    walk_at "eo init"
    walk_at "eo go"
    rename_i F H1 n1 e1 h1'
    rw [List.length_map]
    refine ⟨_, _, _, _, rfl, hrg, ?_⟩
    refine g_forW walk_rangeC (fun i σ H' => Ext [] H H' ∧ ∃ acc s11 s12 s13, σ = [some (.ref t), some (.int m), some (.int p.s), some (.int p.g), some (kS p.k), some (.int p.l), some (.int p.n), some (.int p.p), some (.bl p.m), some (.ref b), some (.ref F), s11, s12, s13] ∧ H' F = some (.lst acc) ∧ LR (PkR K) H' acc ((cut p m).take i)) ⟨e1, [], none, none, none, rfl, h1', trivial⟩ (fun _ _ _ _ _ => trivial) ?_ ?_
    · rintro i x σ H2 H3 hi ⟨X2, acc, s11, s12, s13, rfl, hF, hA⟩ ⟨rfl, rfl⟩
      have hb2 := sqT_ext X2 hb
      have hal : acc.length ≤ 100 := by
        rw [hA.len, List.length_take]
        omega
      show gName 11 (V.int (0 + (i : Nat) * (m : Int))) _ _ _
      rw [show (0 + (i : Nat) * (m : Int)) = (((i * m : Nat)) : Int) by rw [Int.zero_add]; exact (Int.natCast_mul _ _).symm]
      have nF : H F = none := n1
      clear hb
      walk_at "eo go"
      rename_i c12 H4 e4 hc12
      rw [← List.map_take, ← List.map_drop, List.drop_take, show i * m + m - i * m = m by omega] at hc12
      rw [List.length_map]
      by_cases c : p.b.length ≤ i * m + m
      · refine g_iteDT (decide_eq_true (by omega)) ?_
        walk_at "eo go"
        rename_i t2 H5 n5 e5 h5
        have hF5 := e5.keep _ _ (e4.keep _ _ hF nin0) nin0
        refine g_append hF5 (by rw [sizeLine_eq]; omega) fun H6 e6 h6 => ?_
        have X6 : Ext [] H H6 := (ext0 (ext0 X2 e4) e5).fresh e6 (fun x hx => .inr (by rw [List.mem_singleton.mp hx]; exact nF))
        have hpk : PkR K H6 (.ref t2) (cutP p m i) := ⟨t2, rfl, c12, by
          unfold pkV cutP
          dsimp only
          rw [if_pos c]
          exact sqT_ext e6 (SqT.of h5), sqT_ext e6 (sqT_ext e5 hc12)⟩
        exact ⟨X6, _, _, _, _, rfl, h6, by rw [cut_take hi]; exact LR.snoc (((hA.imp fun _ _ => PkR.ext e4).imp fun _ _ => PkR.ext e5).imp fun _ _ => PkR.ext e6) hpk⟩
      · refine g_iteDF (decide_eq_false (by omega)) ?_
        walk_at "eo go"
        rename_i t2 H5 n5 e5 h5
        have hF5 := e5.keep _ _ (e4.keep _ _ hF nin0) nin0
        refine g_append hF5 (by rw [sizeLine_eq]; omega) fun H6 e6 h6 => ?_
        have X6 : Ext [] H H6 := (ext0 (ext0 X2 e4) e5).fresh e6 (fun x hx => .inr (by rw [List.mem_singleton.mp hx]; exact nF))
        have hpk : PkR K H6 (.ref t2) (cutP p m i) := ⟨t2, rfl, c12, by
          unfold pkV cutP
          dsimp only
          rw [if_neg c]
          exact sqT_ext e6 (SqT.of h5), sqT_ext e6 (sqT_ext e5 hc12)⟩
        exact ⟨X6, _, _, _, _, rfl, h6, by rw [cut_take hi]; exact LR.snoc (((hA.imp fun _ _ => PkR.ext e4).imp fun _ _ => PkR.ext e5).imp fun _ _ => PkR.ext e6) hpk⟩
    · rintro σ H2 ⟨X2, acc, s11, s12, s13, rfl, hF, hA⟩
      rw [List.take_of_length_le (by rw [cut_len]; exact Nat.le_refl _)] at hA
      walk_at "eo go"
      rename_i c H3 n3 e3 h3
      exact k c acc H3 (ext0 X2 e3) (SqT.of h3) (hA.imp fun _ _ => PkR.ext e3)
theorem ok_law_cut {A : Adr} (T : Txt K mg A) : FnOk P w K mg base CX0 1 A.f_law_cut A.d_law_cut ["packet", "most"] (spCut K) := by
  refine T.law_cut.F.ok sc_law_cut (fun vs H Q E h => ?_) (fun cdv Ar outer s H vs Q E hr h => ?_)
  · obtain ⟨t, m, p, rfl, _⟩ := h
    rfl
  · obtain ⟨t, m, p, rfl, ⟨b, ht, hb⟩, h1, hm, hl, k⟩ := h
    refine ⟨_, (pss_cons (ps_asg (pv 0) (pg_tup (n := 8) rfl (pgs_cons (pg_name (i := 2) sc_law_cut.nd rfl (Or.inl rfl)) (pgs_cons (pg_name (i := 3) sc_law_cut.nd rfl (Or.inl rfl)) (pgs_cons (pg_name (i := 4) sc_law_cut.nd rfl (Or.inl rfl)) (pgs_cons (pg_name (i := 5) sc_law_cut.nd rfl (Or.inl rfl)) (pgs_cons (pg_name (i := 6) sc_law_cut.nd rfl (Or.inl rfl)) (pgs_cons (pg_name (i := 7) sc_law_cut.nd rfl (Or.inl rfl)) (pgs_cons (pg_name (i := 8) sc_law_cut.nd rfl (Or.inl rfl)) (pgs_cons (pg_name (i := 9) sc_law_cut.nd rfl (Or.inl rfl)) pgs_nil))))))))))
      (pss_cons (ps_set (i := 10) sc_law_cut.nd rfl (Or.inl rfl) (pe_lstX pa_nil))
      (pss_cons (ps_set (i := 11) sc_law_cut.nd rfl (Or.inl rfl) pe_int)
      (pss_cons (ps_while PassesOwn.never (PW.pt (pw_or (pt_cmpR (o_eq hr.units) (pv 11) pe_int (nomark _)) (pw_or1 (pt_cmpR op_lt (pv 11) (pe_callB (id := "len") o_len (by rfl) T.b_len (by decide +kernel) (pa_cons (pv 9) pa_nil)) (nomark _))))) (pss_cons (ps_set (i := 12) sc_law_cut.nd rfl (Or.inl rfl) (pe_slice o_sl (pv 9) (po_some (pv 11)) (po_some (pe_op o_add (pv 11) (pv 1)))))
      (pss_cons (ps_set (i := 13) sc_law_cut.nd rfl (Or.inl rfl) (pe_op o_add (pv 11) (pe_callB (id := "len") o_len (by rfl) T.b_len (by decide +kernel) (pa_cons (pv 12) pa_nil))))
      (pss_cons (ps_expr (pe_bm PySem.F.plainAttrs_list PySem.F.slot_list_append PySem.F.type_list_append mt_append (pv 10) (pa_cons (pe_tupX (pa_cons (pv 2) (pa_cons (pv 3) (pa_cons (pv 4) (pa_cons (pv 5) (pa_cons (pv 6) (pa_cons (pe_op o_add (pv 7) (pv 11)) (pa_cons (pe_or (pv 8) (pe_one (pe_cmpR op_lt (pv 13) (pe_callB (id := "len") o_len (by rfl) T.b_len (by decide +kernel) (pa_cons (pv 9) pa_nil)) (nomark _)))) (pa_cons (pv 12) pa_nil))))))))) pa_nil)))
      (pss_one (ps_set (i := 11) sc_law_cut.nd rfl (Or.inl rfl) (pe_callB (id := "max") (o_max rfl) (by rfl) T.b_max (by decide +kernel) (pa_cons (pv 13) (pa_cons (pe_op o_add (pv 11) pe_int) pa_nil)))))))))
      (pss_one (ps_ret (pe_callTy (T := "tuple") o_tuple (by rfl) T.b_tuple (by decide +kernel) (pa_cons (pv 10) pa_nil)))))))), ?_⟩
    unfold pkV at ht
    have hn := nP_le (len := p.b.length) h1
    walk_at "eo init"
    walk_at "eo go"
    rename_i F H1 n1 e1 h1'
    refine g_while (fun v σ' H' => ∃ (i : Nat) (acc : List V) (s12 s13 : Option V), v = nP p.b.length m - i ∧ i ≤ nP p.b.length m ∧ Ext [] H H' ∧ σ' = [some (.ref t), some (.int m), some (.int p.s), some (.int p.g), some (kS p.k), some (.int p.l), some (.int p.n), some (.int p.p), some (.bl p.m), some (.ref b), some (.ref F), some (.int (atC p.b.length m i : Nat)), s12, s13] ∧ H' F = some (.lst acc) ∧ LR (PkR K) H' acc ((cut p m).take i)) (nP p.b.length m) ⟨0, [], none, none, rfl, Nat.zero_le _, e1, rfl, h1', trivial⟩ ?_
    rintro v σ' H2 ⟨i, acc, s12, s13, rfl, hi, X2, rfl, hF, hA⟩
    have hgo := atC_go (len := p.b.length) (i := i) h1
    have hb2 := sqT_ext X2 hb
    have hal : acc.length ≤ 100 := by
      rw [hA.len, List.length_take]
      omega
    clear hb
    walk_at "eo go"
    by_cases cg : i < nP p.b.length m
    · rw [atC_at h1 cg] at hgo ⊢
      have hcm := cut_more h1 cg
      have hnx := atC_next h1 cg
      have nF : H F = none := n1
      have hlen : (List.drop (i * m) (List.take (i * m + m) (p.b.map V.int))).length = min m (p.b.length - i * m) := by
        rw [List.length_drop, List.length_take, List.length_map]
        omega
      have hmx : max (((i * m : Nat) : Int) + ((min m (p.b.length - i * m) : Nat) : Int)) (((i * m : Nat) : Int) + 1) = ((atC p.b.length m (i + 1) : Nat) : Int) := by
        rw [← hnx]
        omega
      have hdc : decide (i * m + min m (p.b.length - i * m) < p.b.length) = decide (((i * m : Nat) : Int) + ((min m (p.b.length - i * m) : Nat) : Int) < (p.b.length : Int)) := decide_eq_decide.mpr (by omega)
      by_cases c0 : i * m = 0
      · refine g_iteDT (by rw [dec_int]; exact decide_eq_true (by omega)) ?_
        rw [if_pos rfl]
        refine g_loop ?_
        walk_at "eo go"
        rename_i c12 H4 e4 hc12
        rw [← List.map_take, ← List.map_drop, List.drop_take, show i * m + m - i * m = m by omega] at hc12
        rw [hlen]
        by_cases hpm : p.m = true
        · rw [if_pos hpm]
          walk_at "eo go"
          rename_i t2 H5 n5 e5 h5
          have hF5 := e5.keep _ _ (e4.keep _ _ hF nin0) nin0
          refine g_append hF5 (by rw [sizeLine_eq]; omega) fun H6 e6 h6 => ?_
          have X6 : Ext [] H H6 := (ext0 (ext0 X2 e4) e5).fresh e6 (fun x hx => .inr (by rw [List.mem_singleton.mp hx]; exact nF))
          have hpk : PkR K H6 (.ref t2) (cutP p m i) := ⟨t2, rfl, c12, by
            unfold pkV cutP
            dsimp only
            rw [hcm, hpm, Bool.true_or]
            exact sqT_ext e6 (SqT.of h5), sqT_ext e6 (sqT_ext e5 hc12)⟩
          walk_at "eo go"
          rw [hmx]
          exact ⟨nP p.b.length m - (i + 1), by omega, i + 1, _, _, _, rfl, cg, X6, rfl, h6, by rw [cut_take cg]; exact LR.snoc (((hA.imp fun _ _ => PkR.ext e4).imp fun _ _ => PkR.ext e5).imp fun _ _ => PkR.ext e6) hpk⟩
        · rw [if_neg hpm]
          walk_at "eo go"
          rename_i t2 H5 n5 e5 h5
          rw [List.length_map] at h5
          have hF5 := e5.keep _ _ (e4.keep _ _ hF nin0) nin0
          refine g_append hF5 (by rw [sizeLine_eq]; omega) fun H6 e6 h6 => ?_
          have X6 : Ext [] H H6 := (ext0 (ext0 X2 e4) e5).fresh e6 (fun x hx => .inr (by rw [List.mem_singleton.mp hx]; exact nF))
          have hpk : PkR K H6 (.ref t2) (cutP p m i) := ⟨t2, rfl, c12, by
            unfold pkV cutP
            dsimp only
            rw [hcm, Bool.eq_false_iff.mpr hpm, Bool.false_or, hdc]
            exact sqT_ext e6 (SqT.of h5), sqT_ext e6 (sqT_ext e5 hc12)⟩
          walk_at "eo go"
          rw [hmx]
          exact ⟨nP p.b.length m - (i + 1), by omega, i + 1, _, _, _, rfl, cg, X6, rfl, h6, by rw [cut_take cg]; exact LR.snoc (((hA.imp fun _ _ => PkR.ext e4).imp fun _ _ => PkR.ext e5).imp fun _ _ => PkR.ext e6) hpk⟩
      · refine g_iteDF (by rw [dec_int]; exact decide_eq_false (by omega)) ?_
        walk_at "eo go"
        have hlt : i * m < p.b.length := (hgo.mpr cg).resolve_left c0
        refine g_iteDT (decide_eq_true (by rw [List.length_map]; omega)) ?_
        refine g_loop ?_
        walk_at "eo go"
        rename_i c12 H4 e4 hc12
        rw [← List.map_take, ← List.map_drop, List.drop_take, show i * m + m - i * m = m by omega] at hc12
        rw [hlen]
        by_cases hpm : p.m = true
        · rw [if_pos hpm]
          walk_at "eo go"
          rename_i t2 H5 n5 e5 h5
          have hF5 := e5.keep _ _ (e4.keep _ _ hF nin0) nin0
          refine g_append hF5 (by rw [sizeLine_eq]; omega) fun H6 e6 h6 => ?_
          have X6 : Ext [] H H6 := (ext0 (ext0 X2 e4) e5).fresh e6 (fun x hx => .inr (by rw [List.mem_singleton.mp hx]; exact nF))
          have hpk : PkR K H6 (.ref t2) (cutP p m i) := ⟨t2, rfl, c12, by
            unfold pkV cutP
            dsimp only
            rw [hcm, hpm, Bool.true_or]
            exact sqT_ext e6 (SqT.of h5), sqT_ext e6 (sqT_ext e5 hc12)⟩
          walk_at "eo go"
          rw [hmx]
          exact ⟨nP p.b.length m - (i + 1), by omega, i + 1, _, _, _, rfl, cg, X6, rfl, h6, by rw [cut_take cg]; exact LR.snoc (((hA.imp fun _ _ => PkR.ext e4).imp fun _ _ => PkR.ext e5).imp fun _ _ => PkR.ext e6) hpk⟩
        · rw [if_neg hpm]
          walk_at "eo go"
          rename_i t2 H5 n5 e5 h5
          rw [List.length_map] at h5
          have hF5 := e5.keep _ _ (e4.keep _ _ hF nin0) nin0
          refine g_append hF5 (by rw [sizeLine_eq]; omega) fun H6 e6 h6 => ?_
          have X6 : Ext [] H H6 := (ext0 (ext0 X2 e4) e5).fresh e6 (fun x hx => .inr (by rw [List.mem_singleton.mp hx]; exact nF))
          have hpk : PkR K H6 (.ref t2) (cutP p m i) := ⟨t2, rfl, c12, by
            unfold pkV cutP
            dsimp only
            rw [hcm, Bool.eq_false_iff.mpr hpm, Bool.false_or, hdc]
            exact sqT_ext e6 (SqT.of h5), sqT_ext e6 (sqT_ext e5 hc12)⟩
          walk_at "eo go"
          rw [hmx]
          exact ⟨nP p.b.length m - (i + 1), by omega, i + 1, _, _, _, rfl, cg, X6, rfl, h6, by rw [cut_take cg]; exact LR.snoc (((hA.imp fun _ _ => PkR.ext e4).imp fun _ _ => PkR.ext e5).imp fun _ _ => PkR.ext e6) hpk⟩
    · have hno := fun z => cg (hgo.mp z)
      refine g_iteDF (by rw [dec_int]; exact decide_eq_false (fun z => hno (.inl (by omega)))) ?_
      walk_at "eo go"
      refine g_iteDF (decide_eq_false (by rw [List.length_map]; exact fun z => hno (.inr (by omega)))) ?_
      rw [List.take_of_length_le (by rw [cut_len]; omega)] at hA
      walk_at "eo go"
      rename_i c H3 n3 e3 h3
      exact k c acc H3 (ext0 X2 e3) (SqT.of h3) (hA.imp fun _ _ => PkR.ext e3)
end
section
variable {P : Program} {w : World} {K : PySem.W.Frag} {mg : Str → Option Value} {base : Heap}
theorem ok_law_take_piece {A : Adr} (T : Txt K mg A) : FnOk P w K mg base CX0 1 A.f_law_take_piece A.d_law_take_piece ["known", "piece", "now"] (spLTake K) := by
  refine T.law_take_piece.F.ok sc_law_take_piece (fun vs H Q E h => ?_) (fun cdv Ar outer s H vs Q E hr h => ?_)
  · obtain ⟨kn, t, now, ls, p, rfl, _⟩ := h
    rfl
  · obtain ⟨kn, t, now, ls, p, rfl, I, ⟨b, ht, hb⟩, hp, hll, k⟩ := h
    refine ⟨_, (pss_cons (ps_asg (pv 1) (pg_tup (n := 8) rfl (pgs_cons (pg_name (i := 3) sc_law_take_piece.nd rfl (Or.inl rfl)) (pgs_cons (pg_name (i := 4) sc_law_take_piece.nd rfl (Or.inl rfl)) (pgs_cons (pg_name (i := 5) sc_law_take_piece.nd rfl (Or.inl rfl)) (pgs_cons (pg_name (i := 6) sc_law_take_piece.nd rfl (Or.inl rfl)) (pgs_cons (pg_name (i := 7) sc_law_take_piece.nd rfl (Or.inl rfl)) (pgs_cons (pg_name (i := 8) sc_law_take_piece.nd rfl (Or.inl rfl)) (pgs_cons (pg_name (i := 9) sc_law_take_piece.nd rfl (Or.inl rfl)) (pgs_cons (pg_name (i := 10) sc_law_take_piece.nd rfl (Or.inl rfl)) pgs_nil))))))))))
      (pss_cons (ps_set (i := 11) sc_law_take_piece.nd rfl (Or.inl rfl) (pe_tupX (pa_cons (pv 3) (pa_cons (pv 4) (pa_cons (pv 5) (pa_cons (pv 7) pa_nil))))))
      (pss_join (ps_asg (pe_dget2 (u1 hr.units) (pv 0) (pv 11) (pe_tupX (pa_cons (pv 2) (pa_cons pe_dnewK (pa_cons pe_non pa_nil)))) ⟨rfl, rfl, rfl, rfl⟩) (pg_tup (n := 3) rfl (pgs_cons (pg_name (i := 12) sc_law_take_piece.nd rfl (Or.inl rfl)) (pgs_cons (pg_name (i := 13) sc_law_take_piece.nd rfl (Or.inr rfl)) (pgs_cons (pg_name (i := 14) sc_law_take_piece.nd rfl (Or.inr rfl)) pgs_nil)))))
      (pss_cons (ps_set (i := 13) sc_law_take_piece.nd rfl (Or.inr rfl) (pe_callTy (T := "dict") call_dictD (by rfl) T.b_dict (by decide +kernel) (pa_cons (pv 13) pa_nil)))
      (pss_cons (ps_set (i := 15) sc_law_take_piece.nd rfl (Or.inl rfl) pe_bl)
      (pss_cons (ps_for PassesOwn.never rfl (pi_range1 (by rfl) T.b_range (pa_cons (pe_callB (id := "len") o_len (by rfl) T.b_len (by decide +kernel) (pa_cons (pv 10) pa_nil)) pa_nil)) (pg_name (i := 16) sc_law_take_piece.nd rfl (Or.inl rfl)) (pss_cons (ps_set (i := 15) sc_law_take_piece.nd rfl (Or.inl rfl) (pe_and (pv 15) (pe_one (pe_cmpR (o_eq hr.units) (pe_dget2 (u1 hr.units) (pv 13) (pe_op o_add (pv 8) (pv 16)) (pe_ix ix_seq (pv 10) (pv 16) (fun _ _ => rfl)) ⟨rfl, rfl, rfl, rfl⟩) (pe_ix ix_seq (pv 10) (pv 16) (fun _ _ => rfl)) (nomark _)))))
      (pss_one (ps_dput (u1 hr.units) (pv 13) (pe_op o_add (pv 8) (pv 16)) (pe_ix ix_seq (pv 10) (pv 16) (fun _ _ => rfl)) rfl))))
      (pss_join (ps_if (pt_not (pt_truth (pv 9) (by intro _; rfl))) (pss_cons (ps_set (i := 15) sc_law_take_piece.nd rfl (Or.inl rfl) (pe_and (pv 15) (pe_one (pe_cmpR op_in_seq (pv 14) (pe_tupX (pa_cons pe_non (pa_cons (pe_op o_add (pv 8) (pe_callB (id := "len") o_len (by rfl) T.b_len (by decide +kernel) (pa_cons (pv 10) pa_nil))) pa_nil))) rfl))))
      (pss_one (ps_set (i := 14) sc_law_take_piece.nd rfl (Or.inr rfl) (pe_op o_add (pv 8) (pe_callB (id := "len") o_len (by rfl) T.b_len (by decide +kernel) (pa_cons (pv 10) pa_nil)))))) pss_nil)
      (pss_join (ps_set (i := 15) sc_law_take_piece.nd rfl (Or.inl rfl) (pe_and (pv 15) (pe_one (pe_or (pe_cmpR op_isN (pv 14) pe_non (nomark _)) (pe_one (pe_and (pe_callB (id := "all") (cr_all rfl) (by rfl) T.b_all (by decide +kernel) (pa_cons (pe_lock (PE.star (pe_lc (own := [("at", 17)]) (tt := stT tYes) rfl sc_law_take_piece.nd (pi_keys (pv 13)) (blkOk_by (own := [("at", 17)]) (N := ["known", "piece", "now", "source", "goal", "kind", "life", "number", "place", "more", "body", "key", "since", "octets", "end", "fits", "k", "at"]) (sc := defScope s_law_take_piece) (by decide +kernel)) (fun _ _ _ _ _ => PG.star (pg_name (i := 17) sc_law_take_piece.nd rfl (Or.inl rfl) (Or.inr rfl))) (fun _ _ _ _ _ => PTs.star (pts_nil)) (fun _ _ _ _ _ => PE.star (pe_cmpR op_lt (pv 17) (pv 14) (nomark _)))))) pa_nil)) (pe_one (pe_cmpR op_le (pe_op o_add (pv 8) (pe_callB (id := "len") o_len (by rfl) T.b_len (by decide +kernel) (pa_cons (pv 10) pa_nil))) (pv 14) (nomark _)))))))))
      (pss_cons (ps_dput (u1 hr.units) (pv 0) (pv 11) (pe_tupX (pa_cons (pv 12) (pa_cons (pv 13) (pa_cons (pv 14) pa_nil)))) rfl)
      (pss_cons (ps_if (pt_not (pt_truth (pv 15) (by intro _; rfl))) (pss_cons (ps_expr (pe_bm PySem.F.plainAttrs_dict PySem.F.slot_dict_pop PySem.F.type_dict_pop (TD.mt_pop1T (u1 hr.units)) (pv 0) (pa_cons (pv 11) pa_nil)))
      (pss_one (ps_ret pe_non))) pss_nil)
      (pss_cons (ps_if (PW.pt (pw_or (pt_cmpR op_isN (pv 14) pe_non (nomark _)) (pw_or1 (pt_cmpR op_lt (pe_callB (id := "len") o_len (by rfl) T.b_len (by decide +kernel) (pa_cons (pv 13) pa_nil)) (pv 14) (nomark _))))) (pss_one (ps_ret pe_non)) pss_nil)
      (pss_cons (ps_expr (pe_bm PySem.F.plainAttrs_dict PySem.F.slot_dict_pop PySem.F.type_dict_pop (TD.mt_pop1T (u1 hr.units)) (pv 0) (pa_cons (pv 11) pa_nil)))
      (pss_one (ps_ret (pe_tupX (pa_cons (pv 3) (pa_cons (pv 4) (pa_cons (pv 5) (pa_cons (pv 6) (pa_cons (pv 7) (pa_cons pe_int (pa_cons pe_bl (pa_cons (pe_callTy (T := "tuple") o_tuple (by rfl) T.b_tuple (by decide +kernel) (pa_cons (pe_lc (own := [("at", 17)]) (tt := stT tYes) rfl sc_law_take_piece.nd (pi_range1 (by rfl) T.b_range (pa_cons (pv 14) pa_nil)) (blkOk_by (own := [("at", 17)]) (N := ["known", "piece", "now", "source", "goal", "kind", "life", "number", "place", "more", "body", "key", "since", "octets", "end", "fits", "k", "at"]) (sc := defScope s_law_take_piece) (by decide +kernel)) (fun _ _ _ _ _ => PG.star (pg_name (i := 17) sc_law_take_piece.nd rfl (Or.inl rfl) (Or.inr rfl))) (fun _ _ _ _ _ => PTs.star (pts_nil)) (fun _ _ _ _ _ => PE.star (kkDget rfl (u1 hr.units) (pv 13) (pv 17) (fun _ _ => rfl)))) pa_nil)) pa_nil))))))))))))))))))))))), ?_⟩
    unfold pkV at ht
    walk_at "eo init"
    walk_at "eo go"
    rename_i kb H1 n1 e1 h1
    have hk1 : H1 kb = some (.tup ((key4 p).map kV)) := h1
    have I1 := I.ext0 e1
    have hd1 := I1.dd
    have heo := I.ok.get (key4 p) now
    have htn := fun h => tk_none (st := stR ls) (p := p) (now := now) h
    have hts := fun e h => tk_some (st := stR ls) (p := p) (now := now) (e := e) h
    have hag := aget_st ls (key4 p)
    generalize he : (aget (stR ls) (key4 p)).getD ⟨now, [], none⟩ = e at *
    refine g_join (fun σ' H' => ∃ o0, σ' = [some (.ref kn), some (.ref t), some (.int now), some (.int p.s), some (.int p.g), some (kS p.k), some (.int p.l), some (.int p.n), some (.int p.p), some (.bl p.m), some (.ref b), some (.ref kb), some (.int e.since), some (.ref o0), some (optI e.en), none, none, none] ∧ Ext [] H1 H' ∧ H' o0 = some (.dK e.oc)) ?_ ?_
    · walk_at "eo go"
      rename_i d0 H2 n2 e2 h2 t0 H3 n3 e3 h3
      have X3 := ext0 e2 e3
      have hd3 := X3.keep _ _ hd1 nin0
      have hk3 := X3.keep _ _ hk1 nin0
      refine ⟨_, DGet.t hd3 hk3, ?_⟩
      cases hr : rget ls (key4 p) with
      | none =>
        rw [hag, hr] at he
        rw [val_kv, hr]
        subst he
        show gTup K 3 _ (.ref t0) _ _ _
        walk_at "eo go"
        exact ⟨_, rfl, X3, e3.keep _ _ h2 nin0⟩
      | some r =>
        rw [hag, hr] at he
        rw [val_kv, hr]
        obtain ⟨hra, hro⟩ := (I1.ext0 X3).at_ r (rget_k hr).2
        have he : r.e = e := he
        rw [he] at hra hro
        show gTup K 3 _ (.ref r.a) _ _ _
        walk_at "eo go"
        exact ⟨_, rfl, X3, hro⟩
    · rintro σ' H2 ⟨o0, rfl, e2, ho0⟩
      have hb2 := sqT_ext e2 (sqT_ext e1 hb)
      have I2 := I1.ext0 e2
      have hk2 := e2.keep _ _ hk1 nin0
      have X2 := ext0 e1 e2
      clear hd1 hk1 I1 e1 e2 h1 hag ht hb
      walk_at "eo go"
      refine ⟨o0, _, rfl, .inl ho0, fun D nD => ?_⟩
      have e3 : Ext [] H2 (upd H2 D (.dK e.oc)) := Ext.new nD
      have hD : (upd H2 D (.dK e.oc)) D = some (.dK e.oc) := upd_same
      generalize upd H2 D (.dK e.oc) = H3 at *
      have hb3 := sqT_ext e3 hb2
      have I3 := I2.ext0 e3
      have hk3 := e3.keep _ _ hk2 nin0
      have hDH : H D = none := X2.free nD nin0
      have nkD : kb ≠ D := ne_of_none hk2 nD
      have nnD : kn ≠ D := ne_of_none I2.dd nD
      have noD : ∀ r ∈ ls, r.o ≠ D := fun r hr => ne_of_none (I2.at_ r hr).2 nD
      have step : ∀ {HA HB : Hp}, Ext [D] HA HB → Ext [] H HA → LInv K HA kn ls → HA kb = some (.tup ((key4 p).map kV)) → SqT K HA b (p.b.map V.int) → Ext [] H HB ∧ LInv K HB kn ls ∧ HB kb = some (.tup ((key4 p).map kV)) ∧ SqT K HB b (p.b.map V.int) := fun e x i k z =>
        ⟨x.fresh e (fun y hy => .inr (by rw [List.mem_singleton.mp hy]; exact hDH)), i.ext e (nin1 nnD) (fun r hr => nin1 (noD r hr)), e.keep _ _ k (nin1 nkD), sqT_ext e z⟩
      have X3 := ext0 X2 e3
      have hlb := hp.pl
      have h0b := hp.p0
      clear I2 hb2 hk2 e3 ho0 X2
      walk_at "eo go"
      rw [List.length_map]
      refine ⟨_, rfl, by omega, by omega, ?_⟩
      refine g_forR (fun i σ H' => ∃ (f : Bool) (oc : List (Key × V)) (s16 : Option V), σ = [some (.ref kn), some (.ref t), some (.int now), some (.int p.s), some (.int p.g), some (kS p.k), some (.int p.l), some (.int p.n), some (.int p.p), some (.bl p.m), some (.ref b), some (.ref kb), some (.int e.since), some (.ref D), some (optI e.en), some (.bl f), s16, none] ∧ Ext [] H H' ∧ LInv K H' kn ls ∧ H' kb = some (.tup ((key4 p).map kV)) ∧ SqT K H' b (p.b.map V.int) ∧ H' D = some (.dK oc) ∧ oc.length ≤ 50 + i ∧ (f = true → OcOk oc ∧ addB oc (p.p + i) (p.b.drop i) = addB e.oc p.p p.b) ∧ (f = false → addB e.oc p.p p.b = none)) ⟨true, _, none, rfl, X3, I3, hk3, hb3, hD, by have := heo.oc.len; omega, fun _ => ⟨heo.oc, by simp⟩, fun z => by cases z⟩ ?_ ?_
      · rintro i σ H4 hi ⟨f, oc, s16, rfl, X4, I4, hk4, hb4, hD4, hol, hf1, hf2⟩
        have hil : i < p.b.length := by omega
        obtain ⟨v, hrow⟩ : ∃ v, p.b[i]? = some v := ⟨_, List.getElem?_eq_getElem hil⟩
        have hat : atI (p.b.map V.int) (i : Int) = some (.int v) := atI_nat (by rw [List.getElem?_map, hrow]; rfl)
        rw [drop_at hrow] at hf1
        clear hb3 hk3 I3 X3 hD
        rw [Int.zero_add]
        cases f with
        | true =>
          obtain ⟨hoc, ha⟩ := hf1 rfl
          walk_at "eo go"
          refine ⟨_, DGet.k (k := .inl (p.p + i)) hD4, ?_⟩
          cases hv : valV oc (.inl (p.p + i)) with
          | none =>
            rw [Option.getD_none]
            walk_at "eo go"
            rename_i H5 e5 h5
            obtain ⟨a1, a2, a3, a4⟩ := step e5 X4 I4 hk4 hb4
            rw [addB_new hv] at ha
            have hpl := length_putK oc (.inl (p.p + i)) (.int v)
            exact ⟨true, _, _, rfl, a1, a2, a3, a4, h5, by omega, fun _ => ⟨hoc.put (by omega) (by omega) hv, by rw [← ha]; congr 1; omega⟩, fun z => by cases z⟩
          | some u =>
            obtain ⟨_, u', _, rfl⟩ := hoc.val hv
            rw [Option.getD_some]
            walk_at "eo go"
            rename_i H5 e5 h5
            obtain ⟨a1, a2, a3, a4⟩ := step e5 X4 I4 hk4 hb4
            have hpl := length_putK oc (.inl (p.p + i)) (.int v)
            by_cases c : u' = v
            · subst c
              rw [show decide (V.int u' = V.int u') = true from dec_refl]
              rw [addB_old hv] at ha
              rw [put_same hoc.nd hv] at h5
              exact ⟨true, oc, _, rfl, a1, a2, a3, a4, h5, by omega, fun _ => ⟨hoc, by rw [← ha]; congr 1; omega⟩, fun z => by cases z⟩
            · rw [dec_int, decide_eq_false c]
              rw [addB_bad hv (fun z => c (V.int.inj z))] at ha
              exact ⟨false, _, _, rfl, a1, a2, a3, a4, h5, by omega, (fun z => nomatch z), fun _ => ha.symm⟩
        | false =>
          have hnone := hf2 rfl
          walk_at "eo go"
          rename_i H5 e5 h5
          obtain ⟨a1, a2, a3, a4⟩ := step e5 X4 I4 hk4 hb4
          have hpl := length_putK oc (.inl (p.p + i)) (.int v)
          exact ⟨false, _, _, rfl, a1, a2, a3, a4, h5, by omega, (fun z => nomatch z), fun _ => hnone⟩
      · rintro σ H4 ⟨f, oc, s16, rfl, X4, I4, hk4, hb4, hD4, hol, hf1, hf2⟩
        rw [Int.toNat_natCast, List.drop_length] at hf1
        have hf1 : f = true → OcOk oc ∧ addB e.oc p.p p.b = some oc := fun z => ⟨(hf1 z).1, (hf1 z).2.symm⟩
        clear hb3 hk3 I3 X3 hD
        rw [Int.toNat_natCast] at hol
        refine g_join (fun σ' H' => ∃ f2 : Bool, σ' = [some (.ref kn), some (.ref t), some (.int now), some (.int p.s), some (.int p.g), some (kS p.k), some (.int p.l), some (.int p.n), some (.int p.p), some (.bl p.m), some (.ref b), some (.ref kb), some (.int e.since), some (.ref D), some (optI (if p.m then e.en else some (p.p + p.b.length))), some (.bl f2), s16, none] ∧ Ext [] H4 H' ∧ (f2 = true → OcOk oc ∧ addB e.oc p.p p.b = some oc ∧ ¬ (p.m = false ∧ ¬ (e.en = none ∨ e.en = some (p.p + p.b.length)))) ∧ (f2 = false → fitE e p = none)) ?_ ?_
        · walk_at "eo go"
          have hfn : f = false → fitE e p = none := fun z => by
            unfold fitE
            rw [hf2 z]
            rfl
          cases hm : p.m with
          | true =>
            walk_at "eo go"
            exact ⟨f, rfl, Ext.refl _, fun z => ⟨(hf1 z).1, (hf1 z).2, fun w => by cases w.1⟩, hfn⟩
          | false =>
            walk_at "eo go"
            cases f with
            | false =>
              walk_at "eo go"
              rw [List.length_map]
              exact ⟨false, rfl, Ext.refl _, (fun z => nomatch z), hfn⟩
            | true =>
              obtain ⟨hoc, ha⟩ := hf1 rfl
              walk_at "eo go"
              rename_i tt H5 n5 e5 h5
              rw [List.length_map] at h5
              refine g_inOpt (SqT.of h5) ?_
              have hb5 := sqT_ext e5 hb4
              walk_at "eo go"
              rw [List.length_map]
              by_cases c : e.en = none ∨ e.en = some (p.p + p.b.length)
              · rw [decide_eq_true c]
                exact ⟨true, rfl, e5, fun _ => ⟨hoc, ha, fun z => z.2 c⟩, (fun z => nomatch z)⟩
              · rw [decide_eq_false c]
                refine ⟨false, rfl, e5, (fun z => nomatch z), fun _ => ?_⟩
                unfold fitE
                rw [ha]
                exact fitL_bad ⟨hm, c⟩
        · rintro σ' H5 ⟨f2, rfl, e5, hg1, hg2⟩
          have X5 := ext0 X4 e5
          have I5 := I4.ext0 e5
          have hk5 := e5.keep _ _ hk4 nin0
          have hD5 := e5.keep _ _ hD4 nin0
          have hb5 := sqT_ext e5 hb4
          have hfn := fun hc => fitL_none (e := e) (p := p) (oc := oc) hc
          have hfs := fun z hc => fitL_some (e := e) (p := p) (oc := oc) (z := z) hc
          clear X4 I4 hk4 hD4 hb4 e5 hf1 hf2
          generalize hen : (if p.m then e.en else some (p.p + p.b.length)) = en at *
          refine g_join (fun σ' H' => ∃ f3 : Bool, σ' = [some (.ref kn), some (.ref t), some (.int now), some (.int p.s), some (.int p.g), some (kS p.k), some (.int p.l), some (.int p.n), some (.int p.p), some (.bl p.m), some (.ref b), some (.ref kb), some (.int e.since), some (.ref D), some (optI en), some (.bl f3), s16, none] ∧ Ext [] H H' ∧ LInv K H' kn ls ∧ H' kb = some (.tup ((key4 p).map kV)) ∧ H' D = some (.dK oc) ∧ (f3 = true → OcOk oc ∧ fitE e p = some ⟨e.since, oc, en⟩) ∧ (f3 = false → fitE e p = none)) ?_ ?_
          · cases f2 with
            | false =>
              walk_at "eo go"
              exact ⟨false, rfl, X5, I5, hk5, hD5, (fun z => nomatch z), hg2⟩
            | true =>
              obtain ⟨hoc, ha, hc⟩ := hg1 rfl
              have hfit : fitE e p = fitL e p oc := by unfold fitE; rw [ha]; rfl
              rw [hfit]
              cases en with
              | none =>
                rw [show optI none = V.non from rfl]
                walk_at "eo go"
                exact ⟨true, rfl, X5, I5, hk5, hD5, fun _ => ⟨hoc, hfn hc rfl⟩, (fun z => nomatch z)⟩
              | some z =>
                rw [show optI (some z) = V.int z from rfl]
                have hfs := hfs z hc rfl
                walk_at "eo go"
                refine g_lockE hD5 fun od H6 e6 h6 => ?_
                have hb6 := sqT_ext e6 hb5
                have hol := hoc.len
                walk_at "eo go"
                refine ⟨D, od, rfl, .inl ⟨_, h6, ?_⟩⟩
                refine g_lcR walk_keys (fun _ x (v : Bool) => x = .bl v) (fun _ q => q) (oc.map fun x => decide (keyI x.1 < z)) (by rw [List.length_map]) (by omega) (fun H e => e.keep _ _ h6 nin0) ?_ ?_
                · rintro i x H7 H8 v hv e7 ⟨rfl, kk, vv, hi, rfl⟩
                  obtain ⟨j, rfl⟩ := hoc.key hi
                  rw [List.getElem?_map, hi] at hv
                  cases hv
                  rw [show kV (Sum.inl j) = V.int j from rfl]
                  walk_at "eo go"
                  refine ⟨rfl, ?_⟩
                  walk_at "eo go"
                  exact ⟨Ext.refl _, rfl⟩
                · intro D2 H7 acc e7 n7 hA hD7
                  have h7 := e7.keep _ _ h6 nin0
                  have nDD : D2 ≠ D := (ne_of_none h6 n7).symm
                  rw [lr_bl hA] at hD7
                  refine ⟨h7, fun HF e8 h8 => ?_⟩
                  have hD8 := e8.keep _ _ hD7 (nin1 nDD)
                  have hb8 := sqT_ext e8 (sqT_ext e7 hb6)
                  have XF : Ext [] H5 HF := ((e6.trans e7 (fun _ z => z) (fun _ z => by cases z)).trans e8 (fun _ z => z) (fun _ z _ => z)).same hD5 h8
                  refine ⟨D2, _, rfl, SqL.of hD8, ?_⟩
                  rw [List.all_map, show (id ∘ fun x : Key × V => decide (keyI x.1 < z)) = fun x => decide (keyI x.1 < z) from rfl]
                  have XX := ext0 X5 XF
                  have II := I5.ext0 XF
                  have hk8 := XF.keep _ _ hk5 nin0
                  clear hD5 hb5 h6 hb6 e6 e7 e8 h7 hD8 hD7 X5 I5 hk5 XF
                  cases hall : oc.all fun x => decide (keyI x.1 < z) with
                  | true =>
                    walk_at "eo go"
                    rw [List.length_map]
                    by_cases c : p.p + p.b.length ≤ z
                    · rw [decide_eq_true c]
                      exact ⟨true, rfl, XX, II, hk8, h8, fun _ => ⟨hoc, hfs.trans (if_pos ⟨c, hall⟩)⟩, (fun z => nomatch z)⟩
                    · rw [decide_eq_false c]
                      exact ⟨false, rfl, XX, II, hk8, h8, (fun z => nomatch z), fun _ => hfs.trans (if_neg fun h => c h.1)⟩
                  | false =>
                    walk_at "eo go"
                    exact ⟨false, rfl, XX, II, hk8, h8, (fun z => nomatch z), fun _ => hfs.trans (if_neg fun h => by rw [hall] at h; cases h.2)⟩
          · rintro σ' H6 ⟨f3, rfl, X6, I6, hk6, hD6, hz1, hz2⟩
            clear hb5 hD5 hk5 I5 X5 hg1 hg2 hfn hfs
            walk_at "eo go"
            rename_i T H7 n7 e7 h7
            have I7 := I6.ext0 e7
            have hk7 := e7.keep _ _ hk6 nin0
            refine g_dputT I7.dd hk7 (by rw [show (kvR ls).length = ls.length from List.length_map ..]; omega) fun H8 e8 h8 => ?_
            have nkk : kb ≠ kn := ne_of hk7 I7.dd (by intro z; cases z)
            have hk8 := e8.keep _ _ hk7 (nin1 nkk)
            have hD8 := e8.keep _ _ (e7.keep _ _ hD6 nin0) (nin1 nnD.symm)
            have hT8 : SqT K H8 T [.int e.since, .ref D, optI en] := sqT_ext e8 (SqT.of h7)
            have X8 : Ext [kn] H H8 := ((ext0 X6 e7).mono (by simp)).one e8 (by simp)
            have hv8 : valV (putK (kvR ls) (key4 p) (.ref T)) (key4 p) = some (.ref T) := by rw [valV_put, if_pos rfl]
            have hfr : ∀ {e' : Ent}, ∀ r ∈ lput ls (key4 p) T D e', r.o ∈ ls.map (·.o) ∨ H r.o = none := fun r hr => by
              rcases lput_mem hr with hr | ⟨_, e2, _⟩
              · exact .inl (List.mem_map.mpr ⟨r, hr, rfl⟩)
              · rw [e2]; exact .inr hDH
            have hdr : ∀ r ∈ rdrop ls (key4 p), r.o ∈ ls.map (·.o) ∨ H r.o = none := fun r hr => .inl (List.mem_map.mpr ⟨r, (List.mem_filter.mp hr).1, rfl⟩)
            clear hk6 hD6 I6 h7 X6 n7
            cases f3 with
            | false =>
              have hno := htn (hz2 rfl)
              clear e7
              walk_at "eo go"
              refine g_pop1T h8 hk8 hv8 fun H9 e9 h9 => ?_
              rw [drop_put] at h9
              walk_at "eo go"
              exact k .non H9 (rdrop ls (key4 p)) (X8.one e9 (by simp)) (I7.drop (e8.one e9 (by simp)) h9) (by rw [hno, drop_st]) hdr (by rw [hno]; rfl)
            | true =>
              obtain ⟨hoc, hfit⟩ := hz1 rfl
              have htk := hts _ hfit
              have he' := fitE_ok heo hp hfit
              have hput := I7.put (k := key4 p) (T := T) (D := D) (e := ⟨e.since, oc, en⟩) e8 hT8 hD8 he' h8
              clear e7
              cases en with
              | none =>
                rw [show optI none = V.non from rfl]
                walk_at "eo go"
                exact k .non H8 _ X8 hput (by rw [htk, lput_st]; rfl) hfr (by rw [htk]; rfl)
              | some z =>
                rw [show optI (some z) = V.int z from rfl]
                have hwl := whole_len he' (z := z) rfl
                walk_at "eo go"
                by_cases c : (oc.length : Int) < z
                · refine g_iteDT (decide_eq_true c) ?_
                  have hw : whole ⟨e.since, oc, some z⟩ = false := hwl.trans (decide_eq_false fun h => h c)
                  rw [hw] at htk
                  walk_at "eo go"
                  exact k .non H8 _ X8 hput (by rw [htk, lput_st]; rfl) hfr (by rw [htk]; rfl)
                · refine g_iteDF (decide_eq_false c) ?_
                  have hw : whole ⟨e.since, oc, some z⟩ = true := hwl.trans (decide_eq_true c)
                  rw [hw] at htk
                  walk_at "eo go"
                  refine g_pop1T h8 hk8 hv8 fun H9 e9 h9 => ?_
                  rw [drop_put] at h9
                  have hD9 := e9.keep _ _ hD8 (nin1 nnD.symm)
                  obtain ⟨_, z0, z1⟩ := he'.en z rfl
                  have hat := fun i => whole_at he' rfl hw (i := i)
                  walk_at "eo go"
                  refine g_lcR walk_range (fun _ x (v : Int) => x = .int v) (fun _ q => q) ((List.range z.toNat).map (octAt oc)) (by rw [List.length_map, List.length_range]) (by omega) (fun _ _ => trivial) ?_ ?_
                  · rintro i x H10 H11 v hv e10 ⟨rfl, rfl⟩
                    rw [List.getElem?_map] at hv
                    have hi : i < z.toNat := by
                      refine Classical.byContradiction fun n => ?_
                      rw [List.getElem?_eq_none (by rw [List.length_range]; omega)] at hv
                      cases hv
                    rw [List.getElem?_range hi] at hv
                    cases hv
                    have hv := hat i (by omega)
                    have ho2 := e10.keep _ _ hD9 nin0
                    show stG _ (V.int (0 + (i : Nat))) _ _ _
                    rw [Int.zero_add]
                    walk_at "eo go"
                    refine ⟨rfl, ?_⟩
                    walk_at "eo go"
                    exact ⟨Ext.refl _, rfl⟩
                  · intro D2 H10 acc e10 n10 hA hD10
                    rw [lr_int hA] at hD10
                    walk_at "eo go"
                    rename_i c1 H11 n11 e11 h11 c2 H12 n12 e12 h12
                    refine k (.ref c2) H12 (rdrop ls (key4 p)) ((((X8.one e9 (by simp)).fresh e10 (by simp)).fresh e11 (by simp)).fresh e12 (by simp)) ((((I7.drop (e8.one e9 (by simp)) h9).ext0 e10).ext0 e11).ext0 e12) (by rw [htk, drop_st]; rfl) hdr ?_
                    rw [htk]
                    exact ⟨c2, rfl, c1, SqT.of h12, sqT_ext e12 (SqT.of h11)⟩
theorem ok_law {A : Adr} (T : Txt K mg A) : FnOk P w K mg base CX0 4 A.f_law A.d_law ["script"] (spLaw K) := by
  have c1 := T.Joiner.cl
  have c2 := T.Joiner.na
  refine T.law.F.ok sc_law (fun vs H Q E h => ?_) (fun cdv Ar outer s H vs Q E hr h => ?_)
  · obtain ⟨a, ns, rfl, _⟩ := h
    rfl
  · obtain ⟨a, ns, rfl, hS, hlen, k⟩ := h
    refine ⟨_, (pss_cons (ps_set (i := 1) sc_law.nd rfl (Or.inl rfl) (pe_call (ok_law_begin T) (hr.mono (by decide)) (by rfl) T.law_begin.mg T.law_begin.kp T.law_begin.b .nil pass0 (pa_cons (pv 0) pa_nil)))
      (pss_cons (ps_set (i := 2) sc_law.nd rfl (Or.inl rfl) (pe_lstX pa_nil))
      (pss_cons (ps_for PassesOwn.never rfl (pi_range1 (by rfl) T.b_range (pa_cons pe_int pa_nil)) (pg_name (i := 3) sc_law.nd rfl (Or.inl rfl)) (pss_one (ps_expr (pe_bm PySem.F.plainAttrs_list PySem.F.slot_list_append PySem.F.type_list_append mt_append (pv 2) (pa_cons (pe_tupX (pa_cons (pe_call (ok_law_take T) (hr.mono (by decide)) (by rfl) T.law_take.mg T.law_take.kp T.law_take.b .nil pass0 (pa_cons (pv 1) (pa_cons pe_int pa_nil))) (pa_cons pe_int (pa_cons (pe_call (ok_law_pick T) (hr.mono (by decide)) (by rfl) T.law_pick.mg T.law_pick.kp T.law_pick.b .nil pass0 (pa_cons (pv 1) (pa_cons (pe_lstX (pa_cons pe_str (pa_cons pe_str pa_nil))) pa_nil))) (pa_cons pe_int (pa_cons (pe_call (ok_law_take T) (hr.mono (by decide)) (by rfl) T.law_take.mg T.law_take.kp T.law_take.b .nil pass0 (pa_cons (pv 1) (pa_cons pe_int pa_nil))) (pa_cons pe_int (pa_cons pe_bl (pa_cons (pe_call (ok_law_octets T) (hr.mono (by decide)) (by rfl) T.law_octets.mg T.law_octets.kp T.law_octets.b .nil pass0 (pa_cons (pv 1) (pa_cons pe_int pa_nil))) pa_nil))))))))) pa_nil)))))
      (pss_cons (ps_set (i := 4) sc_law.nd rfl (Or.inl rfl) (pe_lstX pa_nil))
      (pss_cons (ps_for PassesOwn.never rfl (pi_list (pv 2)) (pg_name (i := 5) sc_law.nd rfl (Or.inl rfl)) (pss_cons (ps_set (i := 6) sc_law.nd rfl (Or.inl rfl) (pe_op o_add pe_int (pe_call (ok_law_take T) (hr.mono (by decide)) (by rfl) T.law_take.mg T.law_take.kp T.law_take.b .nil pass0 (pa_cons (pv 1) (pa_cons pe_int pa_nil)))))
      (pss_cons (ps_set (i := 7) sc_law.nd rfl (Or.inl rfl) (pe_call (ok_law_cut T) (hr.mono (by decide)) (by rfl) T.law_cut.mg T.law_cut.kp T.law_cut.b .nil pass0 (pa_cons (pv 5) (pa_cons (pv 6) pa_nil))))
      (pss_cons (ps_if (PW.pt (pw_or (pt_cmpR (o_ne hr.units) (pe_call (ok_pieces_of T) (hr.mono (by decide)) (by rfl) T.pieces_of.mg T.pieces_of.kp T.pieces_of.b .nil pass0 (pa_cons (pv 5) (pa_cons (pv 6) pa_nil))) (pv 7) (nomark _)) (pw_or1 (pt_cmpR (o_ne hr.units) (pe_call (ok_pieces_of T) (hr.mono (by decide)) (by rfl) T.pieces_of.mg T.pieces_of.kp T.pieces_of.b .nil pass0 (pa_cons (pv 5) (pa_cons pe_int pa_nil))) (pe_tupX (pa_cons (pv 5) pa_nil)) (nomark _))))) (pss_one (ps_ret pe_bl)) pss_nil)
      (pss_one (ps_for PassesOwn.never rfl (pi_tup (pv 7)) (pg_name (i := 8) sc_law.nd rfl (Or.inl rfl)) (pss_join (ps_expr (pe_bm PySem.F.plainAttrs_list PySem.F.slot_list_extend PySem.F.type_list_extend TD.mt_extendX (pv 4) (pa_cons (pe_ifExp (pt_cmpR (o_eq hr.units) (pe_call (ok_law_take T) (hr.mono (by decide)) (by rfl) T.law_take.mg T.law_take.kp T.law_take.b .nil pass0 (pa_cons (pv 1) (pa_cons pe_int pa_nil))) pe_int (nomark _)) (pe_call (ok_law_cut T) (hr.mono (by decide)) (by rfl) T.law_cut.mg T.law_cut.kp T.law_cut.b .nil pass0 (pa_cons (pv 8) (pa_cons (pe_op o_add pe_int (pe_call (ok_law_take T) (hr.mono (by decide)) (by rfl) T.law_take.mg T.law_take.kp T.law_take.b .nil pass0 (pa_cons (pv 1) (pa_cons pe_int pa_nil)))) pa_nil))) (pe_lstX (pa_cons (pv 8) pa_nil))) pa_nil)))
      (pss_one (ps_expr (pe_bm PySem.F.plainAttrs_list PySem.F.slot_list_extend PySem.F.type_list_extend TD.mt_extendX (pv 4) (pa_cons (pe_op o_mul (pe_lstX (pa_cons (pv 8) pa_nil)) (pe_callTy (T := "int") o_int (by rfl) T.b_int (by decide +kernel) (pa_cons (pe_cmpR (o_eq hr.units) (pe_call (ok_law_take T) (hr.mono (by decide)) (by rfl) T.law_take.mg T.law_take.kp T.law_take.b .nil pass0 (pa_cons (pv 1) (pa_cons pe_int pa_nil))) pe_int (nomark _)) pa_nil))) pa_nil)))))))))))
      (pss_cons (ps_set (i := 9) sc_law.nd rfl (Or.inl rfl) (pe_lstX pa_nil))
      (pss_cons (ps_while PassesOwn.never (pt_cmpR op_gt (pe_callB (id := "len") o_len (by rfl) T.b_len (by decide +kernel) (pa_cons (pv 4) pa_nil)) pe_int (nomark _)) (pss_cons (ps_set (i := 8) sc_law.nd rfl (Or.inl rfl) (pe_bm PySem.F.plainAttrs_list PySem.F.slot_list_pop PySem.F.type_list_pop mt_popAt (pv 4) (pa_cons (pe_call (ok_law_pick T) (hr.mono (by decide)) (by rfl) T.law_pick.mg T.law_pick.kp T.law_pick.b .nil pass0 (pa_cons (pv 1) (pa_cons (pe_lstX (pa_cons pe_int (pa_cons pe_int (pa_cons (pe_call (ok_law_take T) (hr.mono (by decide)) (by rfl) T.law_take.mg T.law_take.kp T.law_take.b .nil pass0 (pa_cons (pv 1) (pa_cons (pe_callB (id := "len") o_len (by rfl) T.b_len (by decide +kernel) (pa_cons (pv 4) pa_nil)) pa_nil))) pa_nil)))) pa_nil))) pa_nil)))
      (pss_cons (ps_set (i := 10) sc_law.nd rfl (Or.inl rfl) (pe_call (ok_law_take T) (hr.mono (by decide)) (by rfl) T.law_take.mg T.law_take.kp T.law_take.b .nil pass0 (pa_cons (pv 1) (pa_cons pe_int pa_nil))))
      (pss_join (ps_if (PW.pt (pw_and (pt_cmpR (o_eq hr.units) (pv 10) pe_int (nomark _)) (pw_and1 (pt_cmpR op_gt (pe_callB (id := "len") o_len (by rfl) T.b_len (by decide +kernel) (pa_cons (pe_ix ix_seq (pv 8) pe_int (fun _ _ => rfl)) pa_nil)) pe_int (nomark _))))) (pss_one (ps_set (i := 8) sc_law.nd rfl (Or.inl rfl) (pe_op o_add (pe_slice o_sl (pv 8) po_none (po_some pe_int)) (pe_tupX (pa_cons (pe_op o_add (pe_slice o_sl (pe_ix ix_seq (pv 8) pe_int (fun _ _ => rfl)) po_none (po_some (pe_un un_neg pe_int))) (pe_tupX (pa_cons (pe_op op_mod (pe_op o_add (pe_ix ix_seq (pe_ix ix_seq (pv 8) pe_int (fun _ _ => rfl)) (pe_un un_neg pe_int) (fun _ _ => rfl)) pe_int) pe_int) pa_nil))) pa_nil))))) pss_nil)
      (pss_join (ps_if (pt_cmpR (o_eq hr.units) (pv 10) pe_int (nomark _)) (pss_one (ps_set (i := 8) sc_law.nd rfl (Or.inl rfl) (pe_op o_add (pe_op o_add (pe_slice o_sl (pv 8) po_none (po_some pe_int)) (pe_tupX (pa_cons (pe_not (pe_ix ix_seq (pv 8) pe_int (fun _ _ => rfl))) pa_nil))) (pe_slice o_sl (pv 8) (po_some pe_int) po_none)))) pss_nil)
      (pss_one (ps_expr (pe_bm PySem.F.plainAttrs_list PySem.F.slot_list_append PySem.F.type_list_append mt_append (pv 9) (pa_cons (pv 8) pa_nil)))))))))
      (pss_cons (ps_set (i := 11) sc_law.nd rfl (Or.inr rfl) (pe_op o_add pe_int (pe_call (ok_law_take T) (hr.mono (by decide)) (by rfl) T.law_take.mg T.law_take.kp T.law_take.b .nil pass0 (pa_cons (pv 1) (pa_cons pe_int pa_nil)))))
      (pss_cons (ps_set (i := 12) sc_law.nd rfl (Or.inl rfl) (pe_makeX T.Joiner.make (ok_Joiner_init T) (hr.mono (by decide)) (by rfl) T.Joiner.mg T.Joiner_init.b .nil pass0 (pa_cons (pv 11) pa_nil)))
      (pss_cons (ps_set (i := 13) sc_law.nd rfl (Or.inr rfl) pe_dnewT)
      (pss_cons (ps_set (i := 14) sc_law.nd rfl (Or.inr rfl) (pe_call (ok_law_take T) (hr.mono (by decide)) (by rfl) T.law_take.mg T.law_take.kp T.law_take.b .nil pass0 (pa_cons (pv 1) (pa_cons pe_int pa_nil))))
      (pss_cons (ps_for PassesOwn.never rfl (pi_list (pv 9)) (pg_name (i := 8) sc_law.nd rfl (Or.inl rfl)) (pss_cons (ps_if (PW.pt (pw_or (pt_cmpR (o_ne hr.units) (pe_meth (pv 12) T.Joiner.cl T.Joiner_take.me (ok_Joiner_take T) (hr.mono (by decide)) T.Joiner_take.b .nil pass0 (pa_cons (pv 8) (pa_cons (pv 14) pa_nil))) (pe_call (ok_law_take_piece T) (hr.mono (by decide)) (by rfl) T.law_take_piece.mg T.law_take_piece.kp T.law_take_piece.b .nil pass0 (pa_cons (pv 13) (pa_cons (pv 8) (pa_cons (pv 14) pa_nil)))) (nomark _)) (pw_or1 (pt_cmpR (o_ne hr.units) (pe_meth0 (pv 12) T.Joiner.cl T.Joiner_waiting.me (ok_Joiner_waiting T) (hr.mono (by decide)) T.Joiner_waiting.b .nil pass0) (pe_callB (id := "len") call_len_dT (by rfl) T.b_len (by decide +kernel) (pa_cons (pv 13) pa_nil)) (nomark _))))) (pss_one (ps_ret pe_bl)) pss_nil)
      (pss_one (ps_if (pt_cmpR (o_eq hr.units) (pe_call (ok_law_take T) (hr.mono (by decide)) (by rfl) T.law_take.mg T.law_take.kp T.law_take.b .nil pass0 (pa_cons (pv 1) (pa_cons pe_int pa_nil))) pe_int (nomark _)) (pss_cons (ps_set (i := 14) sc_law.nd rfl (Or.inr rfl) (pe_op o_add (pv 14) (pe_call (ok_law_take T) (hr.mono (by decide)) (by rfl) T.law_take.mg T.law_take.kp T.law_take.b .nil pass0 (pa_cons (pv 1) (pa_cons pe_int pa_nil)))))
      (pss_cons (ps_expr (pe_meth (pv 12) T.Joiner.cl T.Joiner_tick.me (ok_Joiner_tick T) (hr.mono (by decide)) T.Joiner_tick.b .nil pass0 (pa_cons (pv 14) pa_nil)))
      (pss_cons (ps_set (i := 13) sc_law.nd rfl (Or.inr rfl) (pe_callTy (T := "dict") (TD.call_dictPT rfl hr.units) (by rfl) T.b_dict (by decide +kernel) (pa_cons (pe_lock (PE.star (pe_lc (own := [("key", 15)]) rfl sc_law.nd (pi_keys (pv 13)) (blkOk_by (own := [("key", 15)]) (N := ["script", "d", "packets", "k", "row", "packet", "most", "pieces", "piece", "mixed", "menu", "wait", "joiner", "known", "now", "key"]) (sc := defScope s_law) (by decide +kernel)) (fun _ _ _ _ _ => PG.star (pg_name (i := 15) sc_law.nd rfl (Or.inl rfl) (Or.inr rfl))) (fun _ _ _ _ _ => PTs.star ((pts_one (pt_cmpR op_lt (pe_op op_sub (pv 14) (pe_ix (kkIxR (r := rIx) (K := K) rfl ix_seq) (kkDget rfl (u1 hr.units) (pv 13) (pv 15) (fun _ _ => rfl)) pe_int (fun _ _ => rfl))) (pv 11) (nomark _))))) (fun _ _ _ _ _ => PE.star (pe_tupX (pa_cons (pv 15) (pa_cons (kkDget rfl (u1 hr.units) (pv 13) (pv 15) (fun _ _ => rfl)) pa_nil))))))) pa_nil)))
      (pss_one (ps_if (pt_cmpR (o_ne hr.units) (pe_meth0 (pv 12) T.Joiner.cl T.Joiner_waiting.me (ok_Joiner_waiting T) (hr.mono (by decide)) T.Joiner_waiting.b .nil pass0) (pe_callB (id := "len") call_len_dT (by rfl) T.b_len (by decide +kernel) (pa_cons (pv 13) pa_nil)) (nomark _)) (pss_one (ps_ret pe_bl)) pss_nil))))) pss_nil))))
      (pss_one (ps_ret pe_bl)))))))))))))), ?_⟩
    walk_at "eo init"
    walk_at "eo go"
    refine ⟨a, ns, rfl, hS, hlen, fun d sc H1 nd nsc e1 hD => ?_⟩
    clear e1 nd nsc hS
    walk_at "eo go"
    rename_i F H2 n2 e2 h2
    have nFd : F ≠ d := (ne_dst1 n2 hD).symm
    have nFs : F ≠ sc := (ne_dst2 n2 hD).symm
    have hD2 := hD.ext e2 nin0 nin0
    clear e2 n2 hD
    refine g_forR (fun i σ H' => DSt H' d sc ∧ ∃ acc L s3, σ = [some (.ref a), some (.ref d), some (.ref F), s3, none, none, none, none, none, none, none, none, none, none, none, none] ∧ H' F = some (.lst acc) ∧ LR (PkR K) H' acc L ∧ L.length = i ∧ AllGP L) ⟨hD2, [], [], none, rfl, h2, trivial, rfl, fun _ h => by cases h⟩ ?_ ?_
    · rintro i σ H3 hi ⟨hD, acc, L, s3, rfl, hF, hL, hLl, hall⟩
      walk_at "eo go"
      rename_i t1 J1 _ _ e1 hD1 p2 J2 m2 e2 f2 v3 J3 hv e3 hD3 t4 J4 _ _ e4 hD4 oc ns5 J5 e5 hD5 hO hO1 hO2 p6 J6 m6 e6 f6
      obtain ⟨kk, rfl⟩ := kind2 hv
      have X : Ext [d] H3 J6 := by walk_at "eo ext"
      have hF6 := X.keep _ _ hF (nin1 nFd)
      have hL6 := hL.imp fun _ _ => PkR.ext X
      have hD6 := hD5.ext e6 nin0 nin0
      have hal : acc.length ≤ 2 := by rw [hL.len]; omega
      have hp : PkR K J6 (.ref p6) ⟨t1, 7, kk, 3, t4, 0, false, ns5⟩ := ⟨p6, rfl, oc, SqT.of f6, sqT_ext e6 hO⟩
      have hg : GP ⟨t1, 7, kk, 3, t4, 0, false, ns5⟩ := ⟨Int.le_refl 0, by show (0 : Int) + (ns5.length : Int) ≤ 50; omega⟩
      refine g_append hF6 (by rw [sizeLine_eq]; omega) fun H7 e7 h7 => ?_
      exact ⟨hD6.ext e7 (nin1 nFd.symm) (nin1 nFs.symm), _, _, _, rfl, h7, LR.snoc (hL6.imp fun _ _ => PkR.ext e7) (PkR.ext e7 hp), by rw [List.length_append, List.length_singleton, hLl], hall.app fun q hq => by rw [List.mem_singleton.mp hq]; exact hg⟩
    · rintro σ H3 ⟨hD, acc, L, s3, rfl, hF, hL, hLl, hall⟩
      clear h2 hD2
      walk_at "eo go"
      rename_i R H4 n4 e4 h4
      have nRd : R ≠ d := (ne_dst1 n4 hD).symm
      have nRs : R ≠ sc := (ne_dst2 n4 hD).symm
      have nRF : R ≠ F := (ne_of_none hF n4).symm
      have hF := e4.keep _ _ hF nin0
      have hL := hL.imp fun _ _ => PkR.ext e4
      have hD := hD.ext e4 nin0 nin0
      clear e4 n4
      refine g_forL acc (SqL.of hF) (fun i σ H' => DSt H' d sc ∧ H' F = some (.lst acc) ∧ LR (PkR K) H' acc L ∧ ∃ rl Lr s5 s6 s7 s8, σ = [some (.ref a), some (.ref d), some (.ref F), s3, some (.ref R), s5, s6, s7, s8, none, none, none, none, none, none, none] ∧ H' R = some (.lst rl) ∧ LR (PkR K) H' rl Lr ∧ AllGP Lr ∧ rl.length ≤ i * 6000) ⟨hD, hF, hL, [], [], none, none, none, none, rfl, h4, trivial, (fun _ h => by cases h), by simp⟩ (fun _ _ _ _ h => SqL.of h.2.1) ?_ ?_
      · clear hD hF hL h4
        rintro i x σ H5 hi ⟨hD, hF, hL, rl, Lr, s5, s6, s7, s8, rfl, hR, hLr, hallr, hrl⟩
        obtain ⟨p, hp0, t, rfl, hp⟩ := hL.get hi
        have hgp := hall p (List.mem_of_getElem? hp0)
        have hpl : p.b.length ≤ 50 := by have := hgp.p0; have := hgp.pl; omega
        have hi2 : i < 2 := by have := (List.getElem?_eq_some_iff.mp hi).1; have := hL.len; omega
        walk_at "eo go"
        rename_i kt J1 k0 k1 e1 hD1
        obtain ⟨mm, emm, mm1, mm2⟩ : ∃ mm : Nat, 1 + kt = (mm : Int) ∧ 1 ≤ mm ∧ mm ≤ 20 := ⟨kt.toNat + 1, by omega, by omega, by omega⟩
        rw [emm]
        have hp1 := PkAt.ext e1 hp
        have hF1 := e1.keep _ _ hF (nin1 nFd)
        have hL1 := hL.imp fun _ _ => PkR.ext e1
        have hR1 := e1.keep _ _ hR (nin1 nRd)
        have hLr1 := hLr.imp fun _ _ => PkR.ext e1
        clear hD hF hL hR hLr hp e1 k0 k1
        refine ⟨t, mm, p, rfl, hp1, mm1, .inl mm2, hpl, fun pc xs J2 e2 hx hX => ?_⟩
        have hp2 := PkAt.ext e2 hp1
        have hD2 := hD1.ext e2 nin0 nin0
        walk_at "eo go"
        refine ⟨t, mm, p, rfl, hp2, mm1, .inl mm2, hpl, fun pc2 xs2 J3 e3 hx2 hX2 => ?_⟩
        have hp3 := PkAt.ext e3 hp2
        have hD3 := hD2.ext e3 nin0 nin0
        have hx3 := sqT_ext e3 hx
        have hX3 := hX.imp fun _ _ => PkR.ext e3
        walk_at "eo go"
        refine g_nePks hx2 hx3 hX2 hX3 ?_
        walk_at "eo go"
        refine ⟨t, 600, p, rfl, hp3, by decide, .inr rfl, hpl, fun pc4 xs4 J4 e4 hx4 hX4 => ?_⟩
        rw [cut_one (by omega) (by decide)] at hX4
        have hp4 := PkAt.ext e4 hp3
        have hD4 := hD3.ext e4 nin0 nin0
        have hx44 := sqT_ext e4 hx3
        have hX44 := hX3.imp fun _ _ => PkR.ext e4
        clear hx hX hx2 hX2 hx3 hX3
        walk_at "eo go"
        rename_i pt J5 n5 e5 h5
        refine g_nePks (sqT_ext e5 hx4) (SqT.of h5) (hX4.imp fun _ _ => PkR.ext e5) (LR.one ⟨t, rfl, PkAt.ext e5 hp4⟩) ?_
        have X5 : Ext [] J1 J5 := ext0 (ext0 (ext0 e2 e3) e4) e5
        have hD5 := hD4.ext e5 nin0 nin0
        have hx5 := sqT_ext e5 hx44
        have hX5 := hX44.imp fun _ _ => PkR.ext e5
        have hF5 := X5.keep _ _ hF1 nin0
        have hL5 := hL1.imp fun _ _ => PkR.ext X5
        have hR5 := X5.keep _ _ hR1 nin0
        have hLr5 := hLr1.imp fun _ _ => PkR.ext X5
        have hcg := cut_gp hgp mm1
        have hcm := cut_many hgp mm1
        have hxl := hX5.len
        generalize cut p mm = C at *
        clear hp1 hF1 hL1 hR1 hLr1 e2 e3 e4 e5 X5 hp2 hp3 hp4 hD1 hD2 hD3 hD4 hx4 hX4 hx44 hX44 h5 n5
        walk_at "eo go"
        refine g_forT xs (fun j σ H' => DSt H' d sc ∧ H' F = some (.lst acc) ∧ LR (PkR K) H' acc L ∧ SqT K H' pc xs ∧ LR (PkR K) H' xs C ∧ ∃ rl Lr s8, σ = [some (.ref a), some (.ref d), some (.ref F), s3, some (.ref R), some (.ref t), some (.int mm), some (.ref pc), s8, none, none, none, none, none, none, none] ∧ H' R = some (.lst rl) ∧ LR (PkR K) H' rl Lr ∧ AllGP Lr ∧ rl.length ≤ i * 6000 + j * 60) ⟨hD5, hF5, hL5, hx5, hX5, rl, Lr, _, rfl, hR5, hLr5, hallr, by omega⟩ (fun _ _ _ _ h => h.2.2.2.1) ?_ ?_
        · clear hD5 hF5 hL5 hx5 hX5 hR5 hLr5 hallr hrl
          rintro j y σ H6 hj ⟨hD, hF, hL, hx, hX, rl, Lr, s8, rfl, hR, hLr, hallr, hrl⟩
          obtain ⟨q, hq0, u, rfl, hq⟩ := hX.get hj
          have hgq := hcg q (List.mem_of_getElem? hq0)
          have hql : q.b.length ≤ 50 := by have := hgq.p0; have := hgq.pl; omega
          have hj2 : j < 51 := by have := (List.getElem?_eq_some_iff.mp hj).1; omega
          walk_at "eo go"
          refine g_join (fun σ' H' => DSt H' d sc ∧ H' F = some (.lst acc) ∧ LR (PkR K) H' acc L ∧ SqT K H' pc xs ∧ LR (PkR K) H' xs C ∧ PkAt K H' u q ∧ ∃ rl2 Lr2, σ' = [some (.ref a), some (.ref d), some (.ref F), s3, some (.ref R), some (.ref t), some (.int mm), some (.ref pc), some (.ref u), none, none, none, none, none, none, none] ∧ H' R = some (.lst rl2) ∧ LR (PkR K) H' rl2 Lr2 ∧ AllGP Lr2 ∧ rl2.length ≤ i * 6000 + j * 60 + 51) ?_ ?_
          · walk_at "eo go"
            rename_i kc J1 k0 k1 e1 hD1
            have hq1 := PkAt.ext e1 hq
            have hF1 := e1.keep _ _ hF (nin1 nFd)
            have hL1 := hL.imp fun _ _ => PkR.ext e1
            have hR1 := e1.keep _ _ hR (nin1 nRd)
            have hLr1 := hLr.imp fun _ _ => PkR.ext e1
            have hx1 := sqT_ext e1 hx
            have hX1 := hX.imp fun _ _ => PkR.ext e1
            clear hD hF hL hR hLr hq hx hX e1
            refine g_ite (fun z => ?_) (fun z => ?_)
            · walk_at "eo go"
              rename_i kt J2 l0 l1 e2 hD2
              obtain ⟨m8, emm8, m81, m82⟩ : ∃ m8 : Nat, 1 + kt = (m8 : Int) ∧ 1 ≤ m8 ∧ m8 ≤ 20 := ⟨kt.toNat + 1, by omega, by omega, by omega⟩
              rw [emm8]
              have hq2 := PkAt.ext e2 hq1
              refine ⟨u, m8, q, rfl, hq2, m81, .inl m82, hql, fun pd ys J3 e3 hy hY => ?_⟩
              have X : Ext [d] J1 J3 := e2.trans e3 (fun _ z => z) (fun _ z => by cases z)
              have hR3 := X.keep _ _ hR1 (nin1 nRd)
              have hyl := hY.len
              have hcm8 := cut_many hgq m81
              walk_at "eo go"
              refine g_extT hR3 hy (by rw [sizeLine_eq]; omega) fun J4 e4 h4 => ?_
              have hD4 := (hD2.ext e3 nin0 nin0).ext e4 (nin1 nRd.symm) (nin1 nRs.symm)
              refine ⟨hD4, e4.keep _ _ (X.keep _ _ hF1 (nin1 nFd)) (nin1 nRF.symm), (hL1.imp fun _ _ => PkR.ext X).imp fun _ _ => PkR.ext e4, sqT_ext e4 (sqT_ext X hx1), (hX1.imp fun _ _ => PkR.ext X).imp fun _ _ => PkR.ext e4, PkAt.ext e4 (PkAt.ext X hq1), _, _, rfl, h4, ((hLr1.imp fun _ _ => PkR.ext X).imp fun _ _ => PkR.ext e4).app (hY.imp fun _ _ => PkR.ext e4), hallr.app (cut_gp hgq m81), by rw [List.length_append]; omega⟩
            · walk_at "eo go"
              rename_i lp J3 m3 e3 f3
              have hR3 := e3.keep _ _ hR1 nin0
              refine g_extL hR3 f3 (by rw [sizeLine_eq, List.length_singleton]; omega) fun J4 e4 h4 => ?_
              have hD4 := (hD1.ext e3 nin0 nin0).ext e4 (nin1 nRd.symm) (nin1 nRs.symm)
              refine ⟨hD4, e4.keep _ _ (e3.keep _ _ hF1 nin0) (nin1 nRF.symm), (hL1.imp fun _ _ => PkR.ext e3).imp fun _ _ => PkR.ext e4, sqT_ext e4 (sqT_ext e3 hx1), (hX1.imp fun _ _ => PkR.ext e3).imp fun _ _ => PkR.ext e4, PkAt.ext e4 (PkAt.ext e3 hq1), _, _, rfl, h4, ((hLr1.imp fun _ _ => PkR.ext e3).imp fun _ _ => PkR.ext e4).app (LR.one ⟨u, rfl, PkAt.ext e4 (PkAt.ext e3 hq1)⟩), hallr.app (fun z hz => by rw [List.mem_singleton.mp hz]; exact hgq), by rw [List.length_append, List.length_singleton]; omega⟩
          · clear hD hF hL hR hLr hq hx hX
            rintro σ' J1 ⟨hD, hF, hL, hx, hX, hq, rl2, Lr2, rfl, hR, hLr, hallr2, hrl2⟩
            walk_at "eo go"
            rename_i lp J3 m3 e3 f3 kc J2 k0 k1 e2 hD2
            have nlpd : lp ≠ d := (ne_dst1 m3 hD).symm
            have f2 := e2.keep _ _ f3 (nin1 nlpd)
            have X : Ext [d] J1 J2 := (e3.mono (by simp)).one e2 (by simp)
            have hF2 := X.keep _ _ hF (nin1 nFd)
            have hL2 := hL.imp fun _ _ => PkR.ext X
            have hx2 := sqT_ext X hx
            have hX2 := hX.imp fun _ _ => PkR.ext X
            have hq2 := PkAt.ext X hq
            have hR2 := X.keep _ _ hR (nin1 nRd)
            have hLr2 := hLr.imp fun _ _ => PkR.ext X
            have hkk : (0 : Int) ≤ (if decide (V.int kc = V.int 0) = true then 1 else 0) ∧ (if decide (V.int kc = V.int 0) = true then (1 : Int) else 0) ≤ 1 := by split <;> decide
            generalize (if decide (V.int kc = V.int 0) = true then (1 : Int) else 0) = kk at *
            clear hD hF hL hx hX hq hR hLr f3 e3 e2 X
            refine g_repL f2 hkk.1 (by omega) (by simp) ?_
            rw [rep1]
            walk_at "eo go"
            rename_i lq J4 m4 e4 f4
            have hR4 := e4.keep _ _ hR2 nin0
            refine g_extL hR4 f4 (by rw [sizeLine_eq, List.length_replicate]; omega) fun J5 e5 h5 => ?_
            have hq5 := PkAt.ext e5 (PkAt.ext e4 hq2)
            exact ⟨(hD2.ext e4 nin0 nin0).ext e5 (nin1 nRd.symm) (nin1 nRs.symm), e5.keep _ _ (e4.keep _ _ hF2 nin0) (nin1 nRF.symm), (hL2.imp fun _ _ => PkR.ext e4).imp fun _ _ => PkR.ext e5, sqT_ext e5 (sqT_ext e4 hx2), (hX2.imp fun _ _ => PkR.ext e4).imp fun _ _ => PkR.ext e5, _, _, _, rfl, h5,
              ((hLr2.imp fun _ _ => PkR.ext e4).imp fun _ _ => PkR.ext e5).app (LR.repl ⟨u, rfl, hq5⟩ _), hallr2.app (fun z hz => by rw [List.eq_of_mem_replicate hz]; exact hgq), by rw [List.length_append, List.length_replicate]; omega⟩
        · rintro σ H6 ⟨hD, hF, hL, hx, hX, rl, Lr, s8, rfl, hR, hLr, hallr, hrl⟩
          exact ⟨hD, hF, hL, rl, Lr, _, _, _, _, rfl, hR, hLr, hallr, by rw [Nat.succ_mul]; omega⟩
      · clear hD hF hL h4
        rintro σ H5 ⟨hD, hF, hL, rl, Lr, s5, s6, s7, s8, rfl, hR, hLr, hallr, hrl⟩
        have hal2 : acc.length ≤ 2 := by rw [hL.len, hLl]; decide
        have hrl : rl.length ≤ 12000 := by omega
        walk_at "eo go"
        rename_i M H6 n6 e6 h6
        have nMd : M ≠ d := (ne_dst1 n6 hD).symm
        have nMs : M ≠ sc := (ne_dst2 n6 hD).symm
        have nMR : M ≠ R := (ne_of_none hR n6).symm
        have hR := e6.keep _ _ hR nin0
        have hLr := hLr.imp fun _ _ => PkR.ext e6
        have hD := hD.ext e6 nin0 nin0
        clear hF hL e6 n6 nFd nFs nRF hall
        refine g_while (fun v σ' H' => DSt H' d sc ∧ ∃ rl Lr ml Lm s8 s10, v = rl.length ∧ σ' = [some (.ref a), some (.ref d), some (.ref F), s3, some (.ref R), s5, s6, s7, s8, some (.ref M), s10, none, none, none, none, none] ∧ H' R = some (.lst rl) ∧ LR (PkR K) H' rl Lr ∧ AllGP Lr ∧ H' M = some (.lst ml) ∧ LR (PkR K) H' ml Lm ∧ AllGP Lm ∧ rl.length + ml.length ≤ 12000) rl.length ⟨hD, rl, Lr, [], [], s8, none, rfl, rfl, hR, hLr, hallr, h6, trivial, (fun _ h => by cases h), by simpa using hrl⟩ ?_
        clear hD hR hLr hallr h6 hrl
        rintro v σ' H7 ⟨hD, rl, Lr, ml, Lm, s8, s10, rfl, rfl, hR, hLr, hallr, hM, hLm, hallm, hlen2⟩
        walk_at "eo go"
        refine g_ite (fun z => ?_) (fun z => ?_)
        · have hpos : 0 < rl.length := by have := dec_t z; omega
          refine g_loop ?_
          walk_at "eo go"
          rename_i kx J1 k0 k1 e1 hD1 lm J2 n2 e2 h2 v J3 hv e3 hD3
          obtain ⟨x, rfl, x0, x1⟩ : ∃ x : Int, v = .int x ∧ 0 ≤ x ∧ x < rl.length := by
            simp only [List.mem_cons, List.not_mem_nil, or_false] at hv
            rcases hv with rfl | rfl | rfl
            · exact ⟨_, rfl, by decide, by omega⟩
            · exact ⟨_, rfl, by decide, by omega⟩
            · exact ⟨_, rfl, k0, k1⟩
          obtain ⟨y, hy⟩ : ∃ y, rl[x.toNat]? = some y := ⟨rl[x.toNat]'(by omega), List.getElem?_eq_getElem (by omega)⟩
          obtain ⟨q, hq0, u, rfl, hq⟩ := hLr.get hy
          have hgq := hallr q (List.mem_of_getElem? hq0)
          have X : Ext [d] H7 J3 := (e1.trans e2 (fun _ z => z) (fun _ z => by cases z)).one e3 (by simp)
          have hR3 := X.keep _ _ hR (nin1 nRd)
          have hM3 := X.keep _ _ hM (nin1 nMd)
          refine g_popAt hR3 x0 x1 hy (by omega) fun J4 e4 h4 => ?_
          have hLr4 := ((hLr.imp fun _ _ => PkR.ext X).imp fun _ _ => PkR.ext e4).erase x.toNat
          have hLm4 := (hLm.imp fun _ _ => PkR.ext X).imp fun _ _ => PkR.ext e4
          have hM4 := e4.keep _ _ hM3 (nin1 nMR)
          have hD4 := hD3.ext e4 (nin1 nRd.symm) (nin1 nRs.symm)
          have hq4 := PkAt.ext e4 (PkAt.ext X hq)
          have hallr4 := hallr.erase (i := x.toNat)
          have hll : (rl.eraseIdx x.toNat).length + 1 = rl.length := by
            rw [List.length_eraseIdx_of_lt (by omega)]
            omega
          clear hR hM hLr hLm hD X e1 e2 e3 e4 hD1 hD3 hR3 hM3 hallr hv h2 n2 hq
          generalize rl.eraseIdx x.toNat = rl4 at *
          generalize Lr.eraseIdx x.toNat = Lr4 at *
          walk_at "eo go"
          rename_i mn J5 j0 j1 e5 hD5
          have hR5 := e5.keep _ _ h4 (nin1 nRd)
          have hM5 := e5.keep _ _ hM4 (nin1 nMd)
          have hLr5 := hLr4.imp fun _ _ => PkR.ext e5
          have hLm5 := hLm4.imp fun _ _ => PkR.ext e5
          have hq5 := PkAt.ext e5 hq4
          clear hD4 h4 hM4 hLr4 hLm4 hq4 e5
          refine g_join (fun σ' H' => ∃ u' q', σ' = [some (.ref a), some (.ref d), some (.ref F), s3, some (.ref R), s5, s6, s7, some (.ref u'), some (.ref M), some (.int mn), none, none, none, none, none] ∧ Ext [] J5 H' ∧ PkAt K H' u' q' ∧ GP q') ?_ ?_
          · obtain ⟨b5, hu5, hb5⟩ := hq5
            unfold pkV at hu5
            walk_at "eo go"
            refine g_ite (fun z => ?_) (fun z => ?_)
            · walk_at "eo go"
              rw [List.length_map]
              by_cases c : 0 < q.b.length
              · refine g_iteDT (decide_eq_true (by omega)) ?_
                obtain ⟨lz, hlz⟩ : ∃ lz, q.b[q.b.length - 1]? = some lz := ⟨q.b[q.b.length - 1]'(by omega), List.getElem?_eq_getElem (by omega)⟩
                have hlast : atI (q.b.map V.int) (-1) = some (.int lz) := atI_last hlz c
                have hqb : q.b.length ≤ 50 := by have := hgq.p0; have := hgq.pl; omega
                walk_at "eo go"
                rename_i c7 K1 e1 g1 cb K2 e2 g2 p3 K3 n3 e3 g3 c9 K4 e4 g4 p5 K5 n5 e5 g5 c6 K6 e6 g6
                have hbb : List.take ((q.b.map V.int).length - 1) (q.b.map V.int) ++ [V.int ((lz + 1) % 256)] = (q.b.take (q.b.length - 1) ++ [(lz + 1) % 256]).map V.int := by rw [List.length_map, ← List.map_take, List.map_append]; rfl
                rw [hbb] at g4
                exact ⟨c6, { q with b := q.b.take (q.b.length - 1) ++ [(lz + 1) % 256] }, rfl, ext0 (ext0 (ext0 (ext0 (ext0 e1 e2) e3) e4) e5) e6, ⟨c9, g6, sqT_ext e6 (sqT_ext e5 g4)⟩, hgq.turned _ (by rw [List.length_append, List.length_take, List.length_singleton]; omega)⟩
              · refine g_iteDF (decide_eq_false (by omega)) ?_
                walk_at "eo go"
                exact ⟨u, q, rfl, Ext.refl _, ⟨b5, hu5, hb5⟩, hgq⟩
            · walk_at "eo go"
              exact ⟨u, q, rfl, Ext.refl _, ⟨b5, hu5, hb5⟩, hgq⟩
          · rintro σ' J6 ⟨u6, q6, rfl, e6, hq6, hg6⟩
            refine g_join (fun σ' H' => ∃ u' q', σ' = [some (.ref a), some (.ref d), some (.ref F), s3, some (.ref R), s5, s6, s7, some (.ref u'), some (.ref M), some (.int mn), none, none, none, none, none] ∧ Ext [] J6 H' ∧ PkAt K H' u' q' ∧ GP q') ?_ ?_
            · obtain ⟨b6, hu6, hb6⟩ := hq6
              unfold pkV at hu6
              walk_at "eo go"
              refine g_ite (fun z => ?_) (fun z => ?_)
              · walk_at "eo go"
                rename_i c3 K1 e1 g1 p2 K2 n2 e2 g2 c4 K3 e3 g3 c5 K4 e4 g4 c6 K5 e5 g5
                have Y : Ext [] J6 K5 := ext0 (ext0 (ext0 (ext0 e1 e2) e3) e4) e5
                exact ⟨c6, { q6 with m := !q6.m }, rfl, Y, ⟨b6, g5, sqT_ext Y hb6⟩, hg6.flip⟩
              · walk_at "eo go"
                exact ⟨u6, q6, rfl, Ext.refl _, ⟨b6, hu6, hb6⟩, hg6⟩
            · rintro σ' J7 ⟨u7, q7, rfl, e7, hq7, hg7⟩
              have X := ext0 e6 e7
              walk_at "eo go"
              refine g_append (X.keep _ _ hM5 nin0) (by rw [sizeLine_eq]; omega) fun J8 e8 h8 => ?_
              exact ⟨rl4.length, by omega, (hD5.ext X nin0 nin0).ext e8 (nin1 nMd.symm) (nin1 nMs.symm), rl4, Lr4, _, _, _, _, rfl, rfl, e8.keep _ _ (X.keep _ _ hR5 nin0) (nin1 nMR.symm), (hLr5.imp fun _ _ => PkR.ext X).imp fun _ _ => PkR.ext e8, hallr4, h8,
                LR.snoc ((hLm5.imp fun _ _ => PkR.ext X).imp fun _ _ => PkR.ext e8) ⟨u7, rfl, PkAt.ext e8 hq7⟩, hallm.app (fun z hz => by rw [List.mem_singleton.mp hz]; exact hg7), by rw [List.length_append, List.length_singleton]; omega⟩
        · clear hR hLr hallr z
          walk_at "eo go"
          rename_i kw J1 w0 w1 e1 hD1
          have hM1 := e1.keep _ _ hM (nin1 nMd)
          have hLm1 := hLm.imp fun _ _ => PkR.ext e1
          clear hM hLm hD e1
          generalize 3 + kw = wt at *
          intro jo dj J2 nj e2 hj
          refine ⟨jo, dj, wt, rfl, hj, fun PP J3 nPP e3 IP => ⟨rfl, ?_⟩⟩
          have X3 : Ext [] J1 J3 := e2.fresh e3 fun x hx => .inr (by rw [List.mem_singleton.mp hx]; exact nj)
          have hM3 := X3.keep _ _ hM1 nin0
          have hLm3 := hLm1.imp fun _ _ => PkR.ext X3
          have hD3 := hD1.ext X3 nin0 nin0
          clear hM1 hLm1 hD1 X3 e2 e3 hj
          walk_at "eo go"
          rename_i kn J4 n4 e4 h4 nw J5 v0 v1 e5 hD5
          have nknd : kn ≠ d := (ne_dst1 n4 hD3).symm
          have hk5 := e5.keep _ _ h4 (nin1 nknd)
          have X5 : Ext [d] J3 J5 := (e4.mono (by simp)).one e5 (by simp)
          have hM5 := X5.keep _ _ hM3 (nin1 nMd)
          have hLm5 := hLm3.imp fun _ _ => PkR.ext X5
          have hPd : PP ≠ d := fun z => by
            obtain ⟨_, _, _, _, _, g1, _⟩ := hD3
            have := IP.dd
            rw [z, g1] at this
            cases this
          have hjd : jo ≠ d := fun z => by
            obtain ⟨_, _, _, _, _, g1, _⟩ := hD3
            obtain ⟨_, this⟩ := IP.jo
            rw [z, g1] at this
            cases this
          have IP5 := IP.ext X5 (nin1 hjd) (nin1 hPd) (fun r hr => by cases hr)
          have IL5 : LInv K J5 kn [] := ⟨hk5, fun r hr => (by cases hr), SOk.nil⟩
          have nPk : kn ≠ PP := (ne_of_none IP.dd n4).symm
          have hsep : Sep PP [] kn [] := ⟨nPk, fun r hr => by cases hr⟩
          have hml : ml.length ≤ 12000 := by omega
          clear hM3 hLm3 hD3 IP n4 e4 h4 e5 X5 hk5 nPP nj
          walk_at "eo go"
          refine g_forL ml (SqL.of hM5) (fun i σ H' => DSt H' d sc ∧ H' M = some (.lst ml) ∧ LR (PkR K) H' ml Lm ∧ ∃ nw PP kn rs ls s8 s15, σ = [some (.ref a), some (.ref d), some (.ref F), s3, some (.ref R), s5, s6, s7, s8, some (.ref M), s10, some (.int wt), some (.ref jo), some (.ref kn), some (.int nw), s15] ∧ PInv A.c_Joiner A.c_Parts H' jo wt PP rs ∧ LInv K H' kn ls ∧ stR ls = stR rs ∧ Sep PP rs kn ls ∧ rs.length ≤ i) ⟨hD5, hM5, hLm5, nw, PP, kn, [], [], _, _, rfl, IP5, IL5, rfl, hsep, Nat.le_refl _⟩ (fun _ _ _ _ h => SqL.of h.2.1) ?_ ?_
          · clear hD5 hM5 hLm5 IP5 IL5 hsep nPk nknd hPd hjd v0 v1
            rintro i y σ J6 hi ⟨hD, hM, hLm, nw, PP, kn, rs, ls, s8, s15, rfl, IP, IL, hst, hsep, hrl⟩
            obtain ⟨q, hq0, u, rfl, hq⟩ := hLm.get hi
            have hgq := hallm q (List.mem_of_getElem? hq0)
            have hi12 : i < 12000 := by have := (List.getElem?_eq_some_iff.mp hi).1; omega
            have hll : ls.length = rs.length := by
              have := congrArg List.length hst
              unfold stR at this
              rw [List.length_map, List.length_map] at this
              exact this
            obtain ⟨dj, hj⟩ := IP.jo
            unfold jF at hj
            walk_at "eo go"
            refine ⟨jo, u, PP, wt, nw, rs, q, rfl, IP, hq, hgq, by omega, fun v1 J7 rs' e7 IP7 hst7 hfr7 hres7 => ?_⟩
            have hD7 := hD.ext e7 (IP.not_lst hD.lst1) (IP.not_lst hD.lst2)
            have hM7 := e7.keep _ _ hM (IP.not_lst ⟨_, hM⟩)
            have hLm7 := hLm.imp fun _ _ => PkR.ext e7
            have hq7 := PkAt.ext e7 hq
            have IL7 := IL.ext e7 (IP.not_kn IL hsep) (fun l hl => IP.not_lo IL hsep hl)
            have hl67 : ∀ l ∈ ls, J6 l.o ≠ none := fun l hl => by rw [(IL.at_ l hl).2]; simp
            clear hD hM hLm hq IL hj
            walk_at "eo go"
            refine ⟨kn, u, nw, ls, q, rfl, IL7, hq7, hgq, by omega, fun v2 J8 ls' e8 IL8 hst8 hfr8 hres8 => ?_⟩
            have hD8 := hD7.ext e8 (nin1 (IL7.ne_lst hD7.lst1)) (nin1 (IL7.ne_lst hD7.lst2))
            have hM8 := e8.keep _ _ hM7 (nin1 (IL7.ne_lst ⟨_, hM7⟩))
            have hLm8 := hLm7.imp fun _ _ => PkR.ext e8
            have IP8 := IP7.ext_kn e8 IL7 hsep
            have hst' : stR ls' = stR rs' := by rw [hst8, hst7, hst]
            have hsep' : Sep PP rs' kn ls' := hsep.next IP7 hl67 hfr7 hfr8
            rw [hst] at hres8
            have hres7 := ResAt.ext e8 hres7
            have hlen' := tk_len (stR rs) q nw
            rw [← hst7] at hlen'
            have hrl' : rs'.length ≤ i + 1 := by
              unfold stR at hlen'
              rw [List.length_map, List.length_map] at hlen'
              omega
            have hll' : ls'.length = rs'.length := by
              have := congrArg List.length hst'
              unfold stR at this
              rw [List.length_map, List.length_map] at this
              exact this
            clear hD7 hM7 hLm7 hq7 IL7 IP7 IP hst8 hst7 hst hfr7 hfr8 hl67 hsep hlen' hll e7 e8
            walk_at "eo go"
            refine g_neRes hres7 hres8 ?_
            clear hres7 hres8
            obtain ⟨dj, hj⟩ := IP8.jo
            unfold jF at hj
            have hkn := IL8.dd
            walk_at "eo go"
            refine ⟨jo, PP, wt, rs', rfl, IP8, ?_⟩
            walk_at "eo go"
            have hkl : (kvR ls').length = rs'.length := by unfold kvR; rw [List.length_map, hll']
            refine g_iteDF (by rw [hkl, dec_refl]; rfl) ?_
            walk_at "eo go"
            rename_i kt J9 t0 t1 e9 hD9
            have hM9 := e9.keep _ _ hM8 (nin1 nMd)
            have hLm9 := hLm8.imp fun _ _ => PkR.ext e9
            have IP9 := IP8.ext_d e9 hD8.lst1
            have IL9 := IL8.ext_d e9 hD8.lst1
            clear hD8 hM8 hLm8 IP8 IL8 hj hkn e9
            refine g_ite (fun z => ?_) (fun z => ?_)
            · walk_at "eo go"
              rename_i kt2 J10 u0 u1 e10 hD10
              have hM10 := e10.keep _ _ hM9 (nin1 nMd)
              have hLm10 := hLm9.imp fun _ _ => PkR.ext e10
              have IP10 := IP9.ext_d e10 hD9.lst1
              have IL10 := IL9.ext_d e10 hD9.lst1
              clear hD9 hM9 hLm9 IP9 IL9 e10
              generalize nw + kt2 = nw2 at *
              obtain ⟨dj2, hj2⟩ := IP10.jo
              unfold jF at hj2
              walk_at "eo go"
              refine ⟨jo, PP, wt, nw2, rs', rfl, IP10, by omega, fun PP2 J11 nPP2 e11 IP11 => ?_⟩
              have IL11 := IL10.ext_j e11 hj2
              have njd : jo ≠ d := by obtain ⟨_, g⟩ := hD10.lst1; exact ne_of hj2 g (by intro z; cases z)
              have njs : jo ≠ sc := by obtain ⟨_, g⟩ := hD10.lst2; exact ne_of hj2 g (by intro z; cases z)
              have njM : jo ≠ M := ne_of hj2 hM10 (by intro z; cases z)
              have hD11 := hD10.ext e11 (nin1 njd.symm) (nin1 njs.symm)
              have hM11 := e11.keep _ _ hM10 (nin1 njM.symm)
              have hLm11 := hLm10.imp fun _ _ => PkR.ext e11
              have hkn := IL11.dd
              clear hD10 hM10 hLm10 IP10 IL10 e11 hj2 nPP2
              walk_at "eo go"
              refine g_lockET hkn fun od J12 e12 h12 => ?_
              have hq12 : ∀ r ∈ ls', SqT K J12 r.a [.int r.e.since, .ref r.o, optI r.e.en] := fun r hr => sqT_ext e12 (IL11.at_ r hr).1
              have hnk := IL11.keys
              walk_at "eo go"
              refine ⟨kn, od, rfl, .inr ⟨_, h12, ?_⟩⟩
              have hll12 : (kvR ls').length = ls'.length := List.length_map ..
              refine g_lcW walk_keysT (fun D i H' acc => Ext [] J12 H' ∧ J12 D = none ∧ ∃ ps kbs, acc = ps.map V.ref ∧ Paired (TD.PrT K H') ps kbs ∧ (kbs.map fun x : List Key × Addr × V => (x.1, x.2.2)) = kvR ((ls'.take i).filter fun r => decide (nw2 - r.e.since < wt)) ∧ acc.length ≤ i) ?_ ?_ ?_ ?_
              · intro D H' n e h
                exact ⟨e, n, [], [], rfl, .nil, rfl, Nat.le_refl _⟩
              · rintro D i H' acc hi ⟨e, _⟩
                exact e.keep _ _ h12 nin0
              · rintro D i x H1' H' acc hi ⟨e, n, ps, kbs, rfl, hps, hkb, hacl⟩ hDl ⟨rfl, kk, v, qk, hkv, rfl, hqk⟩
                unfold kvR at hkv
                rw [List.getElem?_map] at hkv
                cases hr : ls'[i]? with
                | none => rw [hr] at hkv; cases hkv
                | some r =>
                  rw [hr] at hkv
                  cases hkv
                  have rm := List.mem_of_getElem? hr
                  have hfz := e.keep _ _ h12 nin0
                  have hra := sqT_ext e (hq12 r rm)
                  have hvl := val_row hnk rm
                  have hfs := filter_step (f := fun r => decide (nw2 - r.e.since < wt)) hr
                  walk_at "eo go"
                  refine ⟨rfl, ?_⟩
                  walk_at "eo go"
                  refine g_dgetTf hfz hqk hvl ?_
                  walk_at "eo go"
                  by_cases c : nw2 - r.e.since < wt
                  · refine g_iteDT (decide_eq_true c) ?_
                    rw [if_pos (decide_eq_true c)] at hfs
                    walk_at "eo go"
                    refine g_dgetTf hfz hqk hvl ?_
                    walk_at "eo go"
                    rename_i pp H2' n2 e2 h2
                    have hDl2 := e2.keep _ _ hDl nin0
                    have hqk2 := e2.keep _ _ hqk nin0
                    have hps2 := paired_ext e2 hps
                    refine ⟨hDl2, by rw [sizeLine_eq]; omega, fun H3' e3 h3 => ⟨(ext0 e e2).fresh e3 (fun x hx => .inr (by rw [List.mem_singleton.mp hx]; exact n)), n, ps ++ [pp], kbs ++ [(r.k, qk, .ref r.a)], by rw [List.map_append]; rfl, ?_, ?_, by rw [List.length_append, List.length_singleton]; omega⟩⟩
                    · have hqk3 := e3.imm _ _ hqk2 rfl
                      exact paired_snoc (paired_ext1 e3 hps2) ⟨sqT_ext e3 (SqT.of h2), hqk3⟩
                    · rw [hfs, List.map_append, hkb]
                      unfold kvR
                      rw [List.map_append]
                      rfl
                  · refine g_iteDF (decide_eq_false c) ?_
                    rw [if_neg (by rw [decide_eq_false c]; exact Bool.false_ne_true)] at hfs
                    exact ⟨⟨e, n, ps, kbs, rfl, hps, by rw [hfs]; exact hkb, by omega⟩, hDl⟩
              · rintro D H' acc ⟨e, n, ps, kbs, rfl, hps, hkb, hacl⟩ hDl
                rw [hll12, List.take_length] at hkb
                have hfz := e.keep _ _ h12 nin0
                refine ⟨hfz, fun HF e2 h2 => ?_⟩
                have nDk : D ≠ kn := (ne_of_none h12 n).symm
                have hDF := e2.keep _ _ hDl (nin1 nDk)
                have hpsF := paired_ext1 e2 hps
                have XF : Ext [] J11 HF := ((e12.trans e (fun _ z => z) (fun _ z => by cases z)).trans e2 (fun _ z => z) (fun _ z _ => z)).same hkn h2
                have IPF := IP11.ext0 XF
                have ILF := IL11.ext0 XF
                have hDF2 := hD11.ext XF nin0 nin0
                have hMF := XF.keep _ _ hM11 nin0
                have hLmF := hLm11.imp fun _ _ => PkR.ext XF
                have hlocked := ILF.keys
                refine ⟨D, ps, kbs, rfl, SqL.of hDF, hpsF, fun kn2 nk2 => ?_⟩
                have hmg : TD.mergeT [] (kbs.map fun x => (x.1, x.2.2)) = kvR (ls'.filter fun r => decide (nw2 - r.e.since < wt)) := by
                  rw [hkb]
                  have := merge_nd (kvR (ls'.filter fun r => decide (nw2 - r.e.since < wt))) [] (by
                    rw [List.nil_append, kv_keys]
                    exact hlocked.sublist (List.filter_sublist.map _))
                  rw [this, List.nil_append]
                rw [hmg]
                have e3 : Ext [] HF (upd HF kn2 (.dT (kvR (ls'.filter fun r => decide (nw2 - r.e.since < wt))))) := Ext.new nk2
                have h3 : (upd HF kn2 (.dT (kvR (ls'.filter fun r => decide (nw2 - r.e.since < wt))))) kn2 = some (.dT (kvR (ls'.filter fun r => decide (nw2 - r.e.since < wt)))) := upd_same
                generalize upd HF kn2 (.dT (kvR (ls'.filter fun r => decide (nw2 - r.e.since < wt)))) = HG at *
                have IPG := IPF.ext0 e3
                have ILG := (ILF.ext0 e3).other _ h3
                have hDG := hDF2.ext e3 nin0 nin0
                have hMG := e3.keep _ _ hMF nin0
                have hLmG := hLmF.imp fun _ _ => PkR.ext e3
                have nkP : kn2 ≠ PP2 := (ne_of_none IPF.dd nk2).symm
                have hstG : stR (ls'.filter fun r => decide (nw2 - r.e.since < wt)) = stR (rs'.filter fun r => decide (nw2 - r.e.since < wt)) := by rw [tick_st, tick_st, hst']
                have hsepG : Sep PP2 (rs'.filter fun r => decide (nw2 - r.e.since < wt)) kn2 (ls'.filter fun r => decide (nw2 - r.e.since < wt)) := ⟨nkP, fun l hl r hr => hsep'.oo l (List.mem_filter.mp hl).1 r (List.mem_filter.mp hr).1⟩
                have hrlG := List.length_filter_le (fun r : Rw => decide (nw2 - r.e.since < wt)) rs'
                have hklG : (kvR (ls'.filter fun r => decide (nw2 - r.e.since < wt))).length = (rs'.filter fun r => decide (nw2 - r.e.since < wt)).length := by
                  have := congrArg List.length hstG
                  unfold stR at this
                  rw [List.length_map, List.length_map] at this
                  unfold kvR
                  rw [List.length_map, this]
                obtain ⟨djG, hjG⟩ := IPG.jo
                unfold jF at hjG
                clear IP11 IL11 hD11 hM11 hLm11 hkn e12 h12 hq12 e e2 h2 hfz hDl hDF hps hpsF XF IPF ILF hDF2 hMF hLmF e3 nk2 n
                walk_at "eo go"
                refine ⟨jo, PP2, wt, _, rfl, IPG, ?_⟩
                walk_at "eo go"
                refine g_iteDF (by rw [hklG, dec_refl]; rfl) ?_
                walk_at "eo go"
                exact ⟨hDG, hMG, hLmG, nw2, PP2, kn2, _, _, _, _, rfl, IPG, ILG, hstG, hsepG, by omega⟩
            · walk_at "eo go"
              exact ⟨hD9, hM9, hLm9, nw, PP, kn, rs', ls', _, _, rfl, IP9, IL9, hst', hsep', hrl'⟩
          · rintro σ J6 ⟨hD, hM, hLm, nw, PP, kn, rs, ls, s8, s15, rfl, IP, IL, hst, hsep, hrl⟩
            walk_at "eo go"
            exact k _
end
set_option maxHeartbeats 4000000 in
theorem all_mk {l : PySem.W.OpenLaw} {w : World} {K : PySem.W.Frag} {h : Heap} {mg : Str → Option Value} {fa : Addr} (X : K.In h) (G : h.Ns mainGlobals mg) (hfa : mg "law" = some (.ref fa))
    {od_pieces_of an_pieces_of : Option Addr} {sl_pieces_of : Array (Option Value)} {oc_pieces_of kV_pieces_of dc_pieces_of pm_pieces_of cd_pieces_of ct_pieces_of : Value} {f_pieces_of : Addr}
    {od_Parts_init an_Parts_init : Option Addr} {sl_Parts_init : Array (Option Value)} {oc_Parts_init kV_Parts_init dc_Parts_init pm_Parts_init cd_Parts_init ct_Parts_init : Value} {f_Parts_init : Addr}
    {od_Parts_take an_Parts_take : Option Addr} {sl_Parts_take : Array (Option Value)} {oc_Parts_take kV_Parts_take dc_Parts_take pm_Parts_take cd_Parts_take ct_Parts_take : Value} {f_Parts_take : Addr}
    {od_Parts_is_whole an_Parts_is_whole : Option Addr} {sl_Parts_is_whole : Array (Option Value)} {oc_Parts_is_whole kV_Parts_is_whole dc_Parts_is_whole pm_Parts_is_whole cd_Parts_is_whole ct_Parts_is_whole : Value} {f_Parts_is_whole : Addr}
    {od_Parts_body an_Parts_body : Option Addr} {sl_Parts_body : Array (Option Value)} {oc_Parts_body kV_Parts_body dc_Parts_body pm_Parts_body cd_Parts_body ct_Parts_body : Value} {f_Parts_body : Addr}
    {od_Joiner_init an_Joiner_init : Option Addr} {sl_Joiner_init : Array (Option Value)} {oc_Joiner_init kV_Joiner_init dc_Joiner_init pm_Joiner_init cd_Joiner_init ct_Joiner_init : Value} {f_Joiner_init : Addr}
    {od_Joiner_take an_Joiner_take : Option Addr} {sl_Joiner_take : Array (Option Value)} {oc_Joiner_take kV_Joiner_take dc_Joiner_take pm_Joiner_take cd_Joiner_take ct_Joiner_take : Value} {f_Joiner_take : Addr}
    {od_Joiner_tick an_Joiner_tick : Option Addr} {sl_Joiner_tick : Array (Option Value)} {oc_Joiner_tick kV_Joiner_tick dc_Joiner_tick pm_Joiner_tick cd_Joiner_tick ct_Joiner_tick : Value} {f_Joiner_tick : Addr}
    {od_Joiner_waiting an_Joiner_waiting : Option Addr} {sl_Joiner_waiting : Array (Option Value)} {oc_Joiner_waiting kV_Joiner_waiting dc_Joiner_waiting pm_Joiner_waiting cd_Joiner_waiting ct_Joiner_waiting : Value} {f_Joiner_waiting : Addr}
    {od_law_begin an_law_begin : Option Addr} {sl_law_begin : Array (Option Value)} {oc_law_begin kV_law_begin dc_law_begin pm_law_begin cd_law_begin ct_law_begin : Value} {f_law_begin : Addr}
    {od_law_take an_law_take : Option Addr} {sl_law_take : Array (Option Value)} {oc_law_take kV_law_take dc_law_take pm_law_take cd_law_take ct_law_take : Value} {f_law_take : Addr}
    {od_law_pick an_law_pick : Option Addr} {sl_law_pick : Array (Option Value)} {oc_law_pick kV_law_pick dc_law_pick pm_law_pick cd_law_pick ct_law_pick : Value} {f_law_pick : Addr}
    {od_law_octets an_law_octets : Option Addr} {sl_law_octets : Array (Option Value)} {oc_law_octets kV_law_octets dc_law_octets pm_law_octets cd_law_octets ct_law_octets : Value} {f_law_octets : Addr}
    {od_law_cut an_law_cut : Option Addr} {sl_law_cut : Array (Option Value)} {oc_law_cut kV_law_cut dc_law_cut pm_law_cut cd_law_cut ct_law_cut : Value} {f_law_cut : Addr}
    {od_law_take_piece an_law_take_piece : Option Addr} {sl_law_take_piece : Array (Option Value)} {oc_law_take_piece kV_law_take_piece dc_law_take_piece pm_law_take_piece cd_law_take_piece ct_law_take_piece : Value} {f_law_take_piece : Addr}
    {od_law an_law : Option Addr} {sl_law : Array (Option Value)} {oc_law kV_law dc_law pm_law cd_law ct_law : Value} {f_law : Addr}
    {c_Parts : Addr}
    {c_Joiner : Addr}
    (aC_Parts : PySem.W.nsIn K mainGlobals "Parts" = some (some (.ref c_Parts)))
    (aC_Joiner : PySem.W.nsIn K mainGlobals "Joiner" = some (some (.ref c_Joiner)))
    (a_pieces_of : PySem.W.nsIn K mainGlobals "pieces_of" = some (some (.ref f_pieces_of)))
    (l_pieces_of : K.lookup f_pieces_of = some ⟨oc_pieces_of, od_pieces_of, .func (PySem.W.fnOf "pieces_of" "pieces_of" (defArgs s_pieces_of) (defBody s_pieces_of) (defScope s_pieces_of) .none kV_pieces_of dc_pieces_of pm_pieces_of an_pieces_of cd_pieces_of ct_pieces_of), sl_pieces_of⟩)
    (k_pieces_of : PySem.W.codeIn K cd_pieces_of "pieces_of" = true)
    (p_pieces_of : PySem.W.keepIn K (.ref f_pieces_of) = true)
    (a_Parts_init : PySem.W.findIn K (.ref c_Parts) "__init__" = some (some (.ref f_Parts_init)))
    (i_Parts_init : PySem.W.isFn K (.ref f_Parts_init) = true)
    (l_Parts_init : K.lookup f_Parts_init = some ⟨oc_Parts_init, od_Parts_init, .func (PySem.W.fnOf "__init__" "Parts.__init__" (defArgs s_Parts_init) (defBody s_Parts_init) (defScope s_Parts_init) .none kV_Parts_init dc_Parts_init pm_Parts_init an_Parts_init cd_Parts_init ct_Parts_init), sl_Parts_init⟩)
    (k_Parts_init : PySem.W.codeIn K cd_Parts_init "Parts.__init__" = true)
    (p_Parts_init : PySem.W.keepIn K (.ref f_Parts_init) = true)
    (a_Parts_take : PySem.W.findIn K (.ref c_Parts) "take" = some (some (.ref f_Parts_take)))
    (i_Parts_take : PySem.W.isFn K (.ref f_Parts_take) = true)
    (l_Parts_take : K.lookup f_Parts_take = some ⟨oc_Parts_take, od_Parts_take, .func (PySem.W.fnOf "take" "Parts.take" (defArgs s_Parts_take) (defBody s_Parts_take) (defScope s_Parts_take) .none kV_Parts_take dc_Parts_take pm_Parts_take an_Parts_take cd_Parts_take ct_Parts_take), sl_Parts_take⟩)
    (k_Parts_take : PySem.W.codeIn K cd_Parts_take "Parts.take" = true)
    (p_Parts_take : PySem.W.keepIn K (.ref f_Parts_take) = true)
    (a_Parts_is_whole : PySem.W.findIn K (.ref c_Parts) "is_whole" = some (some (.ref f_Parts_is_whole)))
    (i_Parts_is_whole : PySem.W.isFn K (.ref f_Parts_is_whole) = true)
    (l_Parts_is_whole : K.lookup f_Parts_is_whole = some ⟨oc_Parts_is_whole, od_Parts_is_whole, .func (PySem.W.fnOf "is_whole" "Parts.is_whole" (defArgs s_Parts_is_whole) (defBody s_Parts_is_whole) (defScope s_Parts_is_whole) .none kV_Parts_is_whole dc_Parts_is_whole pm_Parts_is_whole an_Parts_is_whole cd_Parts_is_whole ct_Parts_is_whole), sl_Parts_is_whole⟩)
    (k_Parts_is_whole : PySem.W.codeIn K cd_Parts_is_whole "Parts.is_whole" = true)
    (p_Parts_is_whole : PySem.W.keepIn K (.ref f_Parts_is_whole) = true)
    (a_Parts_body : PySem.W.findIn K (.ref c_Parts) "body" = some (some (.ref f_Parts_body)))
    (i_Parts_body : PySem.W.isFn K (.ref f_Parts_body) = true)
    (l_Parts_body : K.lookup f_Parts_body = some ⟨oc_Parts_body, od_Parts_body, .func (PySem.W.fnOf "body" "Parts.body" (defArgs s_Parts_body) (defBody s_Parts_body) (defScope s_Parts_body) .none kV_Parts_body dc_Parts_body pm_Parts_body an_Parts_body cd_Parts_body ct_Parts_body), sl_Parts_body⟩)
    (k_Parts_body : PySem.W.codeIn K cd_Parts_body "Parts.body" = true)
    (p_Parts_body : PySem.W.keepIn K (.ref f_Parts_body) = true)
    (a_Joiner_init : PySem.W.findIn K (.ref c_Joiner) "__init__" = some (some (.ref f_Joiner_init)))
    (i_Joiner_init : PySem.W.isFn K (.ref f_Joiner_init) = true)
    (l_Joiner_init : K.lookup f_Joiner_init = some ⟨oc_Joiner_init, od_Joiner_init, .func (PySem.W.fnOf "__init__" "Joiner.__init__" (defArgs s_Joiner_init) (defBody s_Joiner_init) (defScope s_Joiner_init) .none kV_Joiner_init dc_Joiner_init pm_Joiner_init an_Joiner_init cd_Joiner_init ct_Joiner_init), sl_Joiner_init⟩)
    (k_Joiner_init : PySem.W.codeIn K cd_Joiner_init "Joiner.__init__" = true)
    (p_Joiner_init : PySem.W.keepIn K (.ref f_Joiner_init) = true)
    (a_Joiner_take : PySem.W.findIn K (.ref c_Joiner) "take" = some (some (.ref f_Joiner_take)))
    (i_Joiner_take : PySem.W.isFn K (.ref f_Joiner_take) = true)
    (l_Joiner_take : K.lookup f_Joiner_take = some ⟨oc_Joiner_take, od_Joiner_take, .func (PySem.W.fnOf "take" "Joiner.take" (defArgs s_Joiner_take) (defBody s_Joiner_take) (defScope s_Joiner_take) .none kV_Joiner_take dc_Joiner_take pm_Joiner_take an_Joiner_take cd_Joiner_take ct_Joiner_take), sl_Joiner_take⟩)
    (k_Joiner_take : PySem.W.codeIn K cd_Joiner_take "Joiner.take" = true)
    (p_Joiner_take : PySem.W.keepIn K (.ref f_Joiner_take) = true)
    (a_Joiner_tick : PySem.W.findIn K (.ref c_Joiner) "tick" = some (some (.ref f_Joiner_tick)))
    (i_Joiner_tick : PySem.W.isFn K (.ref f_Joiner_tick) = true)
    (l_Joiner_tick : K.lookup f_Joiner_tick = some ⟨oc_Joiner_tick, od_Joiner_tick, .func (PySem.W.fnOf "tick" "Joiner.tick" (defArgs s_Joiner_tick) (defBody s_Joiner_tick) (defScope s_Joiner_tick) .none kV_Joiner_tick dc_Joiner_tick pm_Joiner_tick an_Joiner_tick cd_Joiner_tick ct_Joiner_tick), sl_Joiner_tick⟩)
    (k_Joiner_tick : PySem.W.codeIn K cd_Joiner_tick "Joiner.tick" = true)
    (p_Joiner_tick : PySem.W.keepIn K (.ref f_Joiner_tick) = true)
    (a_Joiner_waiting : PySem.W.findIn K (.ref c_Joiner) "waiting" = some (some (.ref f_Joiner_waiting)))
    (i_Joiner_waiting : PySem.W.isFn K (.ref f_Joiner_waiting) = true)
    (l_Joiner_waiting : K.lookup f_Joiner_waiting = some ⟨oc_Joiner_waiting, od_Joiner_waiting, .func (PySem.W.fnOf "waiting" "Joiner.waiting" (defArgs s_Joiner_waiting) (defBody s_Joiner_waiting) (defScope s_Joiner_waiting) .none kV_Joiner_waiting dc_Joiner_waiting pm_Joiner_waiting an_Joiner_waiting cd_Joiner_waiting ct_Joiner_waiting), sl_Joiner_waiting⟩)
    (k_Joiner_waiting : PySem.W.codeIn K cd_Joiner_waiting "Joiner.waiting" = true)
    (p_Joiner_waiting : PySem.W.keepIn K (.ref f_Joiner_waiting) = true)
    (a_law_begin : PySem.W.nsIn K mainGlobals "_law_begin" = some (some (.ref f_law_begin)))
    (l_law_begin : K.lookup f_law_begin = some ⟨oc_law_begin, od_law_begin, .func (PySem.W.fnOf "_law_begin" "_law_begin" (defArgs s_law_begin) (defBody s_law_begin) (defScope s_law_begin) .none kV_law_begin dc_law_begin pm_law_begin an_law_begin cd_law_begin ct_law_begin), sl_law_begin⟩)
    (k_law_begin : PySem.W.codeIn K cd_law_begin "_law_begin" = true)
    (p_law_begin : PySem.W.keepIn K (.ref f_law_begin) = true)
    (a_law_take : PySem.W.nsIn K mainGlobals "_law_take" = some (some (.ref f_law_take)))
    (l_law_take : K.lookup f_law_take = some ⟨oc_law_take, od_law_take, .func (PySem.W.fnOf "_law_take" "_law_take" (defArgs s_law_take) (defBody s_law_take) (defScope s_law_take) .none kV_law_take dc_law_take pm_law_take an_law_take cd_law_take ct_law_take), sl_law_take⟩)
    (k_law_take : PySem.W.codeIn K cd_law_take "_law_take" = true)
    (p_law_take : PySem.W.keepIn K (.ref f_law_take) = true)
    (a_law_pick : PySem.W.nsIn K mainGlobals "_law_pick" = some (some (.ref f_law_pick)))
    (l_law_pick : K.lookup f_law_pick = some ⟨oc_law_pick, od_law_pick, .func (PySem.W.fnOf "_law_pick" "_law_pick" (defArgs s_law_pick) (defBody s_law_pick) (defScope s_law_pick) .none kV_law_pick dc_law_pick pm_law_pick an_law_pick cd_law_pick ct_law_pick), sl_law_pick⟩)
    (k_law_pick : PySem.W.codeIn K cd_law_pick "_law_pick" = true)
    (p_law_pick : PySem.W.keepIn K (.ref f_law_pick) = true)
    (a_law_octets : PySem.W.nsIn K mainGlobals "_law_octets" = some (some (.ref f_law_octets)))
    (l_law_octets : K.lookup f_law_octets = some ⟨oc_law_octets, od_law_octets, .func (PySem.W.fnOf "_law_octets" "_law_octets" (defArgs s_law_octets) (defBody s_law_octets) (defScope s_law_octets) .none kV_law_octets dc_law_octets pm_law_octets an_law_octets cd_law_octets ct_law_octets), sl_law_octets⟩)
    (k_law_octets : PySem.W.codeIn K cd_law_octets "_law_octets" = true)
    (p_law_octets : PySem.W.keepIn K (.ref f_law_octets) = true)
    (a_law_cut : PySem.W.nsIn K mainGlobals "_law_cut" = some (some (.ref f_law_cut)))
    (l_law_cut : K.lookup f_law_cut = some ⟨oc_law_cut, od_law_cut, .func (PySem.W.fnOf "_law_cut" "_law_cut" (defArgs s_law_cut) (defBody s_law_cut) (defScope s_law_cut) .none kV_law_cut dc_law_cut pm_law_cut an_law_cut cd_law_cut ct_law_cut), sl_law_cut⟩)
    (k_law_cut : PySem.W.codeIn K cd_law_cut "_law_cut" = true)
    (p_law_cut : PySem.W.keepIn K (.ref f_law_cut) = true)
    (a_law_take_piece : PySem.W.nsIn K mainGlobals "_law_take_piece" = some (some (.ref f_law_take_piece)))
    (l_law_take_piece : K.lookup f_law_take_piece = some ⟨oc_law_take_piece, od_law_take_piece, .func (PySem.W.fnOf "_law_take_piece" "_law_take_piece" (defArgs s_law_take_piece) (defBody s_law_take_piece) (defScope s_law_take_piece) .none kV_law_take_piece dc_law_take_piece pm_law_take_piece an_law_take_piece cd_law_take_piece ct_law_take_piece), sl_law_take_piece⟩)
    (k_law_take_piece : PySem.W.codeIn K cd_law_take_piece "_law_take_piece" = true)
    (p_law_take_piece : PySem.W.keepIn K (.ref f_law_take_piece) = true)
    (a_law : PySem.W.nsIn K mainGlobals "law" = some (some (.ref f_law)))
    (l_law : K.lookup f_law = some ⟨oc_law, od_law, .func (PySem.W.fnOf "law" "law" (defArgs s_law) (defBody s_law) (defScope s_law) .none kV_law dc_law pm_law an_law cd_law ct_law), sl_law⟩)
    (k_law : PySem.W.codeIn K cd_law "law" = true)
    (p_law : PySem.W.keepIn K (.ref f_law) = true)
    (pg_Parts : PySem.W.plainGet K c_Parts Str.empty = true)
    (hd_Parts : PySem.W.hasDictIn K c_Parts = true)
    (po_Parts : PySem.W.plainOver K c_Parts = true)
    (sa_Parts : PySem.W.findIn K (.ref c_Parts) "__setattr__" = some (some (.builtin "object.__setattr__")))
    (mk_Parts : PySem.W.makesIn K c_Parts = true)
    (kp_Parts : PySem.W.keepIn K (.ref c_Parts) = true)
    (n_Parts_since : PySem.W.findIn K (.ref c_Parts) "since" = some none)
    (n_Parts_octets : PySem.W.findIn K (.ref c_Parts) "octets" = some none)
    (n_Parts_end : PySem.W.findIn K (.ref c_Parts) "end" = some none)
    (pg_Joiner : PySem.W.plainGet K c_Joiner Str.empty = true)
    (hd_Joiner : PySem.W.hasDictIn K c_Joiner = true)
    (po_Joiner : PySem.W.plainOver K c_Joiner = true)
    (sa_Joiner : PySem.W.findIn K (.ref c_Joiner) "__setattr__" = some (some (.builtin "object.__setattr__")))
    (mk_Joiner : PySem.W.makesIn K c_Joiner = true)
    (kp_Joiner : PySem.W.keepIn K (.ref c_Joiner) = true)
    (n_Joiner__wait : PySem.W.findIn K (.ref c_Joiner) "_wait" = some none)
    (n_Joiner__parts : PySem.W.findIn K (.ref c_Joiner) "_parts" = some none)
    (z_range : PySem.W.nsIn K mainGlobals "range" = some none)
    (z_max : PySem.W.nsIn K mainGlobals "max" = some none)
    (z_len : PySem.W.nsIn K mainGlobals "len" = some none)
    (z_tuple : PySem.W.nsIn K mainGlobals "tuple" = some none)
    (z_enumerate : PySem.W.nsIn K mainGlobals "enumerate" = some none)
    (z_all : PySem.W.nsIn K mainGlobals "all" = some none)
    (z_int : PySem.W.nsIn K mainGlobals "int" = some none)
    (z_list : PySem.W.nsIn K mainGlobals "list" = some none)
    (z_abs : PySem.W.nsIn K mainGlobals "abs" = some none)
    (z_dict : PySem.W.nsIn K mainGlobals "dict" = some none) :
    ∃ fd : FuncData, (∀ (s : Shared) (v : Value), BindsTo s fd ⟨[v], []⟩ [("script", v)]) ∧ ∀ base : Heap, K.In base → base.Ns mainGlobals mg → FnOk l.prog w K mg base CX0 4 fa fd ["script"] (spLaw K) := by
  have e := hfa.symm.trans (PySem.W.mg_of X G a_law)
  cases e
  have F_pieces_of := fun_mk (st := s_pieces_of) l_pieces_of k_pieces_of p_pieces_of
  have b_pieces_of := F_pieces_of.binds (ps := ["packet", "most"]) fun _ _ _ _ _ _ us hl => match us, hl with | [_, _], _ => rfl
  have F_Parts_init := fun_mk (st := s_Parts_init) l_Parts_init k_Parts_init p_Parts_init
  have b_Parts_init := F_Parts_init.binds (ps := ["self", "now"]) fun _ _ _ _ _ _ us hl => match us, hl with | [_, _], _ => rfl
  have F_Parts_take := fun_mk (st := s_Parts_take) l_Parts_take k_Parts_take p_Parts_take
  have b_Parts_take := F_Parts_take.binds (ps := ["self", "place", "more", "body"]) fun _ _ _ _ _ _ us hl => match us, hl with | [_, _, _, _], _ => rfl
  have F_Parts_is_whole := fun_mk (st := s_Parts_is_whole) l_Parts_is_whole k_Parts_is_whole p_Parts_is_whole
  have b_Parts_is_whole := F_Parts_is_whole.binds (ps := ["self"]) fun _ _ _ _ _ _ us hl => match us, hl with | [_], _ => rfl
  have F_Parts_body := fun_mk (st := s_Parts_body) l_Parts_body k_Parts_body p_Parts_body
  have b_Parts_body := F_Parts_body.binds (ps := ["self"]) fun _ _ _ _ _ _ us hl => match us, hl with | [_], _ => rfl
  have F_Joiner_init := fun_mk (st := s_Joiner_init) l_Joiner_init k_Joiner_init p_Joiner_init
  have b_Joiner_init := F_Joiner_init.binds (ps := ["self", "wait"]) fun _ _ _ _ _ _ us hl => match us, hl with | [_, _], _ => rfl
  have F_Joiner_take := fun_mk (st := s_Joiner_take) l_Joiner_take k_Joiner_take p_Joiner_take
  have b_Joiner_take := F_Joiner_take.binds (ps := ["self", "packet", "now"]) fun _ _ _ _ _ _ us hl => match us, hl with | [_, _, _], _ => rfl
  have F_Joiner_tick := fun_mk (st := s_Joiner_tick) l_Joiner_tick k_Joiner_tick p_Joiner_tick
  have b_Joiner_tick := F_Joiner_tick.binds (ps := ["self", "now"]) fun _ _ _ _ _ _ us hl => match us, hl with | [_, _], _ => rfl
  have F_Joiner_waiting := fun_mk (st := s_Joiner_waiting) l_Joiner_waiting k_Joiner_waiting p_Joiner_waiting
  have b_Joiner_waiting := F_Joiner_waiting.binds (ps := ["self"]) fun _ _ _ _ _ _ us hl => match us, hl with | [_], _ => rfl
  have F_law_begin := fun_mk (st := s_law_begin) l_law_begin k_law_begin p_law_begin
  have b_law_begin := F_law_begin.binds (ps := ["script"]) fun _ _ _ _ _ _ us hl => match us, hl with | [_], _ => rfl
  have F_law_take := fun_mk (st := s_law_take) l_law_take k_law_take p_law_take
  have b_law_take := F_law_take.binds (ps := ["d", "many"]) fun _ _ _ _ _ _ us hl => match us, hl with | [_, _], _ => rfl
  have F_law_pick := fun_mk (st := s_law_pick) l_law_pick k_law_pick p_law_pick
  have b_law_pick := F_law_pick.binds (ps := ["d", "menu"]) fun _ _ _ _ _ _ us hl => match us, hl with | [_, _], _ => rfl
  have F_law_octets := fun_mk (st := s_law_octets) l_law_octets k_law_octets p_law_octets
  have b_law_octets := F_law_octets.binds (ps := ["d", "most"]) fun _ _ _ _ _ _ us hl => match us, hl with | [_, _], _ => rfl
  have F_law_cut := fun_mk (st := s_law_cut) l_law_cut k_law_cut p_law_cut
  have b_law_cut := F_law_cut.binds (ps := ["packet", "most"]) fun _ _ _ _ _ _ us hl => match us, hl with | [_, _], _ => rfl
  have F_law_take_piece := fun_mk (st := s_law_take_piece) l_law_take_piece k_law_take_piece p_law_take_piece
  have b_law_take_piece := F_law_take_piece.binds (ps := ["known", "piece", "now"]) fun _ _ _ _ _ _ us hl => match us, hl with | [_, _, _], _ => rfl
  have F_law := fun_mk (st := s_law) l_law k_law p_law
  have b_law := F_law.binds (ps := ["script"]) fun _ _ _ _ _ _ us hl => match us, hl with | [_], _ => rfl
  have C_Parts : CF K mg "Parts" ["since", "octets", "end"] c_Parts f_Parts_init := ⟨PySem.W.mg_of X G aC_Parts, ⟨pg_Parts, hd_Parts, po_Parts, sa_Parts⟩, ⟨mk_Parts, a_Parts_init, i_Parts_init, kp_Parts⟩, fun x hx => by
      simp only [List.mem_cons, List.not_mem_nil, or_false] at hx
      rcases hx with rfl | rfl | rfl
      · exact n_Parts_since
      · exact n_Parts_octets
      · exact n_Parts_end⟩
  have C_Joiner : CF K mg "Joiner" ["_wait", "_parts"] c_Joiner f_Joiner_init := ⟨PySem.W.mg_of X G aC_Joiner, ⟨pg_Joiner, hd_Joiner, po_Joiner, sa_Joiner⟩, ⟨mk_Joiner, a_Joiner_init, i_Joiner_init, kp_Joiner⟩, fun x hx => by
      simp only [List.mem_cons, List.not_mem_nil, or_false] at hx
      rcases hx with rfl | rfl
      · exact n_Joiner__wait
      · exact n_Joiner__parts⟩
  have T : Txt K mg ⟨f_pieces_of, PySem.W.fnOf "pieces_of" "pieces_of" (defArgs s_pieces_of) (defBody s_pieces_of) (defScope s_pieces_of) .none kV_pieces_of dc_pieces_of pm_pieces_of an_pieces_of cd_pieces_of ct_pieces_of, f_Parts_init, PySem.W.fnOf "__init__" "Parts.__init__" (defArgs s_Parts_init) (defBody s_Parts_init) (defScope s_Parts_init) .none kV_Parts_init dc_Parts_init pm_Parts_init an_Parts_init cd_Parts_init ct_Parts_init, f_Parts_take, PySem.W.fnOf "take" "Parts.take" (defArgs s_Parts_take) (defBody s_Parts_take) (defScope s_Parts_take) .none kV_Parts_take dc_Parts_take pm_Parts_take an_Parts_take cd_Parts_take ct_Parts_take, f_Parts_is_whole, PySem.W.fnOf "is_whole" "Parts.is_whole" (defArgs s_Parts_is_whole) (defBody s_Parts_is_whole) (defScope s_Parts_is_whole) .none kV_Parts_is_whole dc_Parts_is_whole pm_Parts_is_whole an_Parts_is_whole cd_Parts_is_whole ct_Parts_is_whole, f_Parts_body, PySem.W.fnOf "body" "Parts.body" (defArgs s_Parts_body) (defBody s_Parts_body) (defScope s_Parts_body) .none kV_Parts_body dc_Parts_body pm_Parts_body an_Parts_body cd_Parts_body ct_Parts_body, f_Joiner_init, PySem.W.fnOf "__init__" "Joiner.__init__" (defArgs s_Joiner_init) (defBody s_Joiner_init) (defScope s_Joiner_init) .none kV_Joiner_init dc_Joiner_init pm_Joiner_init an_Joiner_init cd_Joiner_init ct_Joiner_init, f_Joiner_take, PySem.W.fnOf "take" "Joiner.take" (defArgs s_Joiner_take) (defBody s_Joiner_take) (defScope s_Joiner_take) .none kV_Joiner_take dc_Joiner_take pm_Joiner_take an_Joiner_take cd_Joiner_take ct_Joiner_take, f_Joiner_tick, PySem.W.fnOf "tick" "Joiner.tick" (defArgs s_Joiner_tick) (defBody s_Joiner_tick) (defScope s_Joiner_tick) .none kV_Joiner_tick dc_Joiner_tick pm_Joiner_tick an_Joiner_tick cd_Joiner_tick ct_Joiner_tick, f_Joiner_waiting, PySem.W.fnOf "waiting" "Joiner.waiting" (defArgs s_Joiner_waiting) (defBody s_Joiner_waiting) (defScope s_Joiner_waiting) .none kV_Joiner_waiting dc_Joiner_waiting pm_Joiner_waiting an_Joiner_waiting cd_Joiner_waiting ct_Joiner_waiting, f_law_begin, PySem.W.fnOf "_law_begin" "_law_begin" (defArgs s_law_begin) (defBody s_law_begin) (defScope s_law_begin) .none kV_law_begin dc_law_begin pm_law_begin an_law_begin cd_law_begin ct_law_begin, f_law_take, PySem.W.fnOf "_law_take" "_law_take" (defArgs s_law_take) (defBody s_law_take) (defScope s_law_take) .none kV_law_take dc_law_take pm_law_take an_law_take cd_law_take ct_law_take, f_law_pick, PySem.W.fnOf "_law_pick" "_law_pick" (defArgs s_law_pick) (defBody s_law_pick) (defScope s_law_pick) .none kV_law_pick dc_law_pick pm_law_pick an_law_pick cd_law_pick ct_law_pick, f_law_octets, PySem.W.fnOf "_law_octets" "_law_octets" (defArgs s_law_octets) (defBody s_law_octets) (defScope s_law_octets) .none kV_law_octets dc_law_octets pm_law_octets an_law_octets cd_law_octets ct_law_octets, f_law_cut, PySem.W.fnOf "_law_cut" "_law_cut" (defArgs s_law_cut) (defBody s_law_cut) (defScope s_law_cut) .none kV_law_cut dc_law_cut pm_law_cut an_law_cut cd_law_cut ct_law_cut, f_law_take_piece, PySem.W.fnOf "_law_take_piece" "_law_take_piece" (defArgs s_law_take_piece) (defBody s_law_take_piece) (defScope s_law_take_piece) .none kV_law_take_piece dc_law_take_piece pm_law_take_piece an_law_take_piece cd_law_take_piece ct_law_take_piece, fa, PySem.W.fnOf "law" "law" (defArgs s_law) (defBody s_law) (defScope s_law) .none kV_law dc_law pm_law an_law cd_law ct_law, c_Parts, c_Joiner⟩ := ⟨⟨F_pieces_of, PySem.W.mg_of X G a_pieces_of, p_pieces_of, b_pieces_of⟩, ⟨F_Parts_init, ⟨a_Parts_init, i_Parts_init, p_Parts_init⟩, b_Parts_init⟩, ⟨F_Parts_take, ⟨a_Parts_take, i_Parts_take, p_Parts_take⟩, b_Parts_take⟩, ⟨F_Parts_is_whole, ⟨a_Parts_is_whole, i_Parts_is_whole, p_Parts_is_whole⟩, b_Parts_is_whole⟩, ⟨F_Parts_body, ⟨a_Parts_body, i_Parts_body, p_Parts_body⟩, b_Parts_body⟩, ⟨F_Joiner_init, ⟨a_Joiner_init, i_Joiner_init, p_Joiner_init⟩, b_Joiner_init⟩, ⟨F_Joiner_take, ⟨a_Joiner_take, i_Joiner_take, p_Joiner_take⟩, b_Joiner_take⟩, ⟨F_Joiner_tick, ⟨a_Joiner_tick, i_Joiner_tick, p_Joiner_tick⟩, b_Joiner_tick⟩, ⟨F_Joiner_waiting, ⟨a_Joiner_waiting, i_Joiner_waiting, p_Joiner_waiting⟩, b_Joiner_waiting⟩, ⟨F_law_begin, PySem.W.mg_of X G a_law_begin, p_law_begin, b_law_begin⟩, ⟨F_law_take, PySem.W.mg_of X G a_law_take, p_law_take, b_law_take⟩, ⟨F_law_pick, PySem.W.mg_of X G a_law_pick, p_law_pick, b_law_pick⟩, ⟨F_law_octets, PySem.W.mg_of X G a_law_octets, p_law_octets, b_law_octets⟩, ⟨F_law_cut, PySem.W.mg_of X G a_law_cut, p_law_cut, b_law_cut⟩, ⟨F_law_take_piece, PySem.W.mg_of X G a_law_take_piece, p_law_take_piece, b_law_take_piece⟩, ⟨F_law, PySem.W.mg_of X G a_law, p_law, b_law⟩, C_Parts, C_Joiner, PySem.W.mg_none_of X G z_range, PySem.W.mg_none_of X G z_max, PySem.W.mg_none_of X G z_len, PySem.W.mg_none_of X G z_tuple, PySem.W.mg_none_of X G z_enumerate, PySem.W.mg_none_of X G z_all, PySem.W.mg_none_of X G z_int, PySem.W.mg_none_of X G z_list, PySem.W.mg_none_of X G z_abs, PySem.W.mg_none_of X G z_dict⟩
  exact ⟨_, fun s v => .of_eq rfl, fun base _ _ => ok_law T⟩
theorem walk {l : PySem.W.OpenLaw} {q : Program} {loose : List Str} {XP : (Str → Option Value) → Heap → Prop} {YP : World → Heap → Prop} {d : DefRec} {K : Params → PySem.W.Frag} (hn : l.most = some 63) (hdf : d.params.defaults = [])
    (hY : ∀ (w : World) (h : Heap), YP w h → (K w.params).In h)
    (F : ∀ (w : World) (mg : Str → Option Value) (fa : Addr) (h : Heap), (K w.params).In h → h.Ns mainGlobals mg → mg d.name = some (.ref fa) →
      ∃ fd : FuncData, (∀ (s : Shared) (u : Value), BindsTo s fd ⟨[u], []⟩ [("script", u)]) ∧ ∀ base : Heap, (K w.params).In base → base.Ns mainGlobals mg → FnOk l.prog w (K w.params) mg base CX0 4 fa fd ["script"] (spLaw (K w.params))) :
    PySem.W.WalkO q loose XP YP l.row.toRowW d [] (fun f vs => PySem.call f vs) :=
  L2.walk_of (n := 63) (k := 4) (x := "script") (CX := fun _ => CX0) (sp := fun w => spLaw (K w.params)) hn (by decide) hdf ⟨rfl, by decide, by decide⟩ hY F (fun _ _ a ns hl _ hS => ⟨a, ns, rfl, hS, hl, fun _ => rfl⟩) fun _ _ _ _ _ z => z
end Eo04
open PySem PySem.W PyProof.Rows
set_option maxRecDepth 100000 in
set_option maxHeartbeats 0 in
theorem PySem.Challenge.cw_everyoctetonce_k04_whole_pieces_holds : PySem.Challenge.rw_everyoctetonce_k04_whole_pieces.Holds := by
  w_on; o_law; k_head; (case hw => w_witness2)
  k_fill
  refine Eo04.walk (l := PySem.Challenge.rw_everyoctetonce_k04_whole_pieces) rfl rfl (fun w h Y => PySem.W.kIn_of Y) ?F
  case F =>
    intro w mg fa h KX G hmg
    refine' Eo04.all_mk KX G hmg ?aC_Parts ?aC_Joiner ?a_pieces_of ?l_pieces_of ?k_pieces_of ?p_pieces_of ?a_Parts_init ?i_Parts_init ?l_Parts_init ?k_Parts_init ?p_Parts_init ?a_Parts_take ?i_Parts_take ?l_Parts_take ?k_Parts_take ?p_Parts_take ?a_Parts_is_whole ?i_Parts_is_whole ?l_Parts_is_whole ?k_Parts_is_whole ?p_Parts_is_whole ?a_Parts_body ?i_Parts_body ?l_Parts_body ?k_Parts_body ?p_Parts_body ?a_Joiner_init ?i_Joiner_init ?l_Joiner_init ?k_Joiner_init ?p_Joiner_init ?a_Joiner_take ?i_Joiner_take ?l_Joiner_take ?k_Joiner_take ?p_Joiner_take ?a_Joiner_tick ?i_Joiner_tick ?l_Joiner_tick ?k_Joiner_tick ?p_Joiner_tick ?a_Joiner_waiting ?i_Joiner_waiting ?l_Joiner_waiting ?k_Joiner_waiting ?p_Joiner_waiting ?a_law_begin ?l_law_begin ?k_law_begin ?p_law_begin ?a_law_take ?l_law_take ?k_law_take ?p_law_take ?a_law_pick ?l_law_pick ?k_law_pick ?p_law_pick ?a_law_octets ?l_law_octets ?k_law_octets ?p_law_octets ?a_law_cut ?l_law_cut ?k_law_cut ?p_law_cut ?a_law_take_piece ?l_law_take_piece ?k_law_take_piece ?p_law_take_piece ?a_law ?l_law ?k_law ?p_law ?pg_Parts ?hd_Parts ?po_Parts ?sa_Parts ?mk_Parts ?kp_Parts ?n_Parts_since ?n_Parts_octets ?n_Parts_end ?pg_Joiner ?hd_Joiner ?po_Joiner ?sa_Joiner ?mk_Joiner ?kp_Joiner ?n_Joiner__wait ?n_Joiner__parts ?z_range ?z_max ?z_len ?z_tuple ?z_enumerate ?z_all ?z_int ?z_list ?z_abs ?z_dict
    (case aC_Parts => k_is)
    (case aC_Joiner => k_is)
    (case a_pieces_of => k_is)
    (case l_pieces_of => k_is)
    (case k_pieces_of => k_is)
    (case p_pieces_of => k_is)
    (case a_Parts_init => k_is)
    (case i_Parts_init => k_is)
    (case l_Parts_init => k_is)
    (case k_Parts_init => k_is)
    (case p_Parts_init => k_is)
    (case a_Parts_take => k_is)
    (case i_Parts_take => k_is)
    (case l_Parts_take => k_is)
    (case k_Parts_take => k_is)
    (case p_Parts_take => k_is)
    (case a_Parts_is_whole => k_is)
    (case i_Parts_is_whole => k_is)
    (case l_Parts_is_whole => k_is)
    (case k_Parts_is_whole => k_is)
    (case p_Parts_is_whole => k_is)
    (case a_Parts_body => k_is)
    (case i_Parts_body => k_is)
    (case l_Parts_body => k_is)
    (case k_Parts_body => k_is)
    (case p_Parts_body => k_is)
    (case a_Joiner_init => k_is)
    (case i_Joiner_init => k_is)
    (case l_Joiner_init => k_is)
    (case k_Joiner_init => k_is)
    (case p_Joiner_init => k_is)
    (case a_Joiner_take => k_is)
    (case i_Joiner_take => k_is)
    (case l_Joiner_take => k_is)
    (case k_Joiner_take => k_is)
    (case p_Joiner_take => k_is)
    (case a_Joiner_tick => k_is)
    (case i_Joiner_tick => k_is)
    (case l_Joiner_tick => k_is)
    (case k_Joiner_tick => k_is)
    (case p_Joiner_tick => k_is)
    (case a_Joiner_waiting => k_is)
    (case i_Joiner_waiting => k_is)
    (case l_Joiner_waiting => k_is)
    (case k_Joiner_waiting => k_is)
    (case p_Joiner_waiting => k_is)
    (case a_law_begin => k_is)
    (case l_law_begin => k_is)
    (case k_law_begin => k_is)
    (case p_law_begin => k_is)
    (case a_law_take => k_is)
    (case l_law_take => k_is)
    (case k_law_take => k_is)
    (case p_law_take => k_is)
    (case a_law_pick => k_is)
    (case l_law_pick => k_is)
    (case k_law_pick => k_is)
    (case p_law_pick => k_is)
    (case a_law_octets => k_is)
    (case l_law_octets => k_is)
    (case k_law_octets => k_is)
    (case p_law_octets => k_is)
    (case a_law_cut => k_is)
    (case l_law_cut => k_is)
    (case k_law_cut => k_is)
    (case p_law_cut => k_is)
    (case a_law_take_piece => k_is)
    (case l_law_take_piece => k_is)
    (case k_law_take_piece => k_is)
    (case p_law_take_piece => k_is)
    (case a_law => k_is)
    (case l_law => k_is)
    (case k_law => k_is)
    (case p_law => k_is)
    (case pg_Parts => k_is)
    (case hd_Parts => k_is)
    (case po_Parts => k_is)
    (case sa_Parts => k_is)
    (case mk_Parts => k_is)
    (case kp_Parts => k_is)
    (case n_Parts_since => k_is)
    (case n_Parts_octets => k_is)
    (case n_Parts_end => k_is)
    (case pg_Joiner => k_is)
    (case hd_Joiner => k_is)
    (case po_Joiner => k_is)
    (case sa_Joiner => k_is)
    (case mk_Joiner => k_is)
    (case kp_Joiner => k_is)
    (case n_Joiner__wait => k_is)
    (case n_Joiner__parts => k_is)
    (case z_range => k_is)
    (case z_max => k_is)
    (case z_len => k_is)
    (case z_tuple => k_is)
    (case z_enumerate => k_is)
    (case z_all => k_is)
    (case z_int => k_is)
    (case z_list => k_is)
    (case z_abs => k_is)
    (case z_dict => k_is)
#print axioms PySem.Challenge.cw_everyoctetonce_k04_whole_pieces_holds

