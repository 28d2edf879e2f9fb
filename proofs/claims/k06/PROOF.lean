import PyProof.Rows.All
import Wide.All
import OpenK.AllK
import Wide.FinOn
import HandS.ForMost
import HandS.TupAny
import HandS.TupLe
import HandS.IsInst
import HandS.OwnEq
import HandS.DictTup
import KE.SortData
import KE.GoesEnum
import HandS.Codes
import PySem.Challenge.RW_roundowned_k06_whole_sales_and_foundings
set_option Elab.async false
set_option linter.all false
set_option maxRecDepth 100000
set_option maxHeartbeats 4000000
/-! K06, part R: rules of the layer that this law wants beside those of HandS. -/
namespace K6
open PySem PySem.Spec PyProof.Rows L2

/-! ### enumerate(t), t a tuple -/
set_option maxHeartbeats 4000000 in
theorem meets_enumerate_new1 {v : Value} {o : Obj} {H : Heap → Prop} (B : Begins v o H) :
    Meets (Builtin.«enumerate.__new__» ⟨[.type "enumerate", v], []⟩) (fun _ R s => H s.heap ∧
      R (.ok (.ret (.ref (s.heap.push o).objs.size))) { s with heap := (s.heap.push o).push { cls := .type "enumerate", data := .fields #[.none, .bool false, .ref s.heap.objs.size, rawInt 0, .none, .none] } }) :=
  .of_wp fun prog w A R s h => by
    obtain ⟨hp, g, d, tk, os⟩ := s; obtain ⟨h1, h⟩ := h
    have hsub := sub_enumerate
    have q1 : ∀ {A' : Around} {E : Value → Shared → Prop} {Q : Value → Shared → Prop}, Q (.ref hp.objs.size) ⟨hp.push o, g, d, tk, os⟩ → wpAny (model prog w) A' (pyIter v) Q E ⟨hp, g, d, tk, os⟩ :=
      fun q => B.iter prog w _ _ ⟨hp, g, d, tk, os⟩ _ h1 q
    wp_walk using q1
    refine wpAny_stack_any fun st => wpAny_pure ?_
    split
    · rename_i c _ _ _ _ _
      cases (c == Value.type "enumerate")
      · wp_walk using q1
        exact ⟨_, rfl, h⟩
      · wp_walk using q1
        exact ⟨_, rfl, h⟩
    · wp_walk using q1
      exact ⟨_, rfl, h⟩
section
variable {prog : Program} {w : World} {A : Around} {E : Value → Shared → Prop} {s : Shared}
theorem enum_begins1 {v : Value} {o : Obj} {H : Heap → Prop} {Q : Value → Shared → Prop} (B : Begins v o H) (h1 : H s.heap)
    (h : ∀ h', IsEnum h' (s.heap.objs.size + 1) s.heap.objs.size 0 .none → h'.get? s.heap.objs.size = some o → h'.objs.size = s.heap.objs.size + 2 →
      (∀ b o, s.heap.get? b = some o → h'.get? b = some o) → Q (.ref (s.heap.objs.size + 1)) { s with heap := h' }) :
    wpAny (model prog w) A (call (.type "enumerate") [v]) Q E s := by
  refine callType_new PySem.F.called_enumerate (by decide) (PySem.F.typeCall_enumerate_1 _) (PySem.F.newCall_enumerate_1 _) (fun obj => PySem.F.args_object_init_2 obj _) PySem.F.entry_enumerate_new
    (meets_enumerate_new1 B) ⟨h1, ?_⟩
  have hz : (s.heap.push o).objs.size = s.heap.objs.size + 1 := Heap.size_push ..
  show _ ∧ _
  rw [hz]
  have he : IsEnum ((s.heap.push o).push { cls := .type "enumerate", data := .fields #[.none, .bool false, .ref s.heap.objs.size, rawInt 0, .none, .none] }) (s.heap.objs.size + 1) s.heap.objs.size 0 .none := by
    have := Heap.get?_push_size (s.heap.push o) (o := { cls := .type "enumerate", data := .fields #[.none, .bool false, .ref s.heap.objs.size, rawInt 0, .none, .none] }) rfl
    rw [hz] at this; exact this
  refine ⟨⟨_, he, rfl⟩, h _ he (Heap.get?_push_of_some _ (Heap.get?_push_size _ B.free)) (by rw [Heap.size_push, hz]) fun b o x => Heap.get?_push_of_some _ (Heap.get?_push_of_some _ x)⟩
end
def IteT (K : PySem.W.Frag) (a : Addr) : It :=
  ⟨fun i H => ∃ (xs : List V) (x : V), SqT K H a xs ∧ xs[i]? = some x, fun i H v H' => ∃ T x, v = .ref T ∧ H T = none ∧ H' = upd H T (.tup [.int (i : Nat), x]) ∧ ∀ xs, SqT K H a xs → xs[i]? = some x, fun i H => ∃ xs : List V, SqT K H a xs ∧ xs.length ≤ i⟩
theorem turn_enumT {P : Program} {w : World} {K : PySem.W.Frag} {elts : List Expr} {kk : Nat} {tpos : Pos} (a e it : Addr) :
    Turn P w K (.Tuple elts kk tpos) (IteT K a) [e, it] e (fun i h => (∃ old, IsEnum h e it ((i : Nat) : Int) old) ∧ h.IsTupleIter it a i ∧ e ≠ it) where
  mem := by simp
  obj := fun i h st b hb => by
    obtain ⟨⟨old, he⟩, ⟨o, ho, hc, hd⟩, _⟩ := st
    have e' : b = e ∨ b = it := by simpa using hb
    rcases e' with z | z
    · rw [z]; exact ⟨_, he, fun v q => nomatch q⟩
    · rw [z]; exact ⟨o, ho, fun v q => by rw [hd] at q; cases q⟩
  keep := fun i h h' st k => let ⟨⟨old, he⟩, hi, hne⟩ := st; ⟨⟨old, k e (by simp) _ he⟩, hi.at fun o q => k it (by simp) o q, hne⟩
  item := by
    intro X hP hw hK hc i pins s σ H E I hf st hg
    subst hP hw hK
    obtain ⟨⟨old, he⟩, hit, hne⟩ := st
    obtain ⟨xs, x, hq, hx⟩ := hg
    obtain ⟨its, rv, p, hz⟩ := I.tuple hq
    obtain ⟨u, hu, ru⟩ := rv.get hx
    have hel : e < s.heap.objs.size := Heap.lt_size he
    have hil : it < s.heap.objs.size := by obtain ⟨_, q, _⟩ := hit; exact Heap.lt_size q
    have hai : a ≠ it := by
      intro z
      obtain ⟨o1, q1, c1, _⟩ := id hit
      obtain ⟨o2, q2, c2, _⟩ := id p
      rw [z, q1] at q2
      cases q2
      rw [c1] at c2
      exact absurd c2 (by decide)
    have hae : e ≠ a := by
      intro z
      obtain ⟨o2, q2, c2, _⟩ := id p
      have he' := he
      unfold IsEnum at he'
      rw [z, q2] at he'
      cases he'
      exact absurd (show Value.type "enumerate" = Value.type "tuple" from c2) (by decide)
    have hlt : i < its.toArray.size := by
      have q := (List.getElem?_eq_some_iff.mp hu).1
      simpa using q
    refine wpAny_pyNext_enum_itemC (i := i) (Draws.tuple (prog := X.prog) (w := X.w) (A := X.A.in1) (I.ok.hd hc) it a hai its.toArray) he ⟨hit, p⟩ hlt hne (by simp [hne, hae]) fun x' h' tk hP' ho hst' hT hsz hk => ?_
    have ex : x' = u := by
      have q : its.toArray[i]? = some x' := hP'
      rw [List.getElem?_toArray, hu] at q
      exact (Option.some.inj q).symm
    subst ex
    refine ⟨_, rfl, wpAny_letOwnedTupleGo_enum (s := { s with heap := h', toks := tk + 1 }) ho fun h'' he' sb => ?_⟩
    have hT2 : h''.get? s.heap.objs.size = some { cls := .type "tuple", data := .seq #[.int i tk, x'] } := (sb.2 _ (Nat.ne_of_gt hel)).trans hT
    have new : ObjOk X.prog X.w (upd H s.heap.objs.size (.tup [.int (i : Nat), x])) h'' s.heap.objs.size (.tup [.int (i : Nat), x]) :=
      ⟨by show 2 ≤ sizeLine; decide, [.int i tk, x'], .cons ⟨_, rfl⟩ (.cons ru .nil), ⟨_, hT2, rfl, _, rfl⟩⟩
    have I1 : Inv X pins σ (upd H s.heap.objs.size (.tup [.int (i : Nat), x])) { s with heap := h'', toks := tk + 1 } :=
      I.turnedNew (ch := [e, it]) (fun b ob hb q => (sb.2 b (fun z => hb (by simp [z]))).trans (hk b ob (fun z => hb (by simp [z])) (fun z => hb (by simp [z])) q)) hf (Nat.le_refl _) new
    refine ⟨.ref s.heap.objs.size, _, I1, rfl, ⟨_, x, rfl, I.hok.fresh (Nat.le_refl _), rfl, fun ys hy => by rw [I.tuple_inj hy hq]; exact hx⟩, ⟨⟨x', ?_⟩, hst'.1.at fun o q => (sb.2 it (Ne.symm hne)).trans q, hne⟩, fun b hb => ?_⟩
    · have e1 : ((i + 1 : Nat) : Int) = (i : Int) + 1 := by omega
      rw [e1]; exact he'
    · have hb' : b < s.heap.objs.size := by
        have e' : b = e ∨ b = it := by simpa using hb
        rcases e' with z | z
        · rw [z]; exact hel
        · rw [z]; exact hil
      rw [upd_ne (Nat.ne_of_lt hb')]
      exact (hf b hb).1
  done := by
    intro X hP hw hK hc i pins s σ H E I hf st hg
    subst hP hw hK
    obtain ⟨⟨old, he⟩, hit, hne⟩ := st
    obtain ⟨xs, hq, hx⟩ := hg
    obtain ⟨its, rv, p, hz⟩ := I.tuple hq
    obtain ⟨f0, f1, f2, f3, f4, f5⟩ := hf it (by simp)
    have hl := rv.length
    have hai : a ≠ it := by
      intro z
      obtain ⟨o1, q1, c1, _⟩ := id hit
      obtain ⟨o2, q2, c2, _⟩ := id p
      rw [z, q1] at q2
      cases q2
      rw [c1] at c2
      exact absurd c2 (by decide)
    have hsd : X.A.in1.handled = none := I.ok.hd hc
    unfold pyNext
    have hT : s.TypeIs (.ref e) "enumerate" := ⟨_, he, rfl⟩
    refine wpAny_bind (wpAny_attempt (wpAny_callSpecial?_slot (name := Str.ofString "__next__") hT PySem.F.slot_enumerate_next
      (wpAny_call_entry PySem.F.slot_enumerate_next hT PySem.F.entry_enumerate_next ?_ (PySem.F.args_enumerate_next_1 _))))
    show wpAny _ _ (field (.ref e) 2 >>= _) _ _ _
    refine wpAny_bind (wpAny_field he rfl (x := .ref it) rfl ?_)
    refine wpAny_bind (wpAny_nextOf_tuple_end hsd hit (show s.heap.IsTuple a its.toArray from p) (by simp; omega) fun h' x he' hx' => ?_)
    obtain ⟨o, ho, hc'⟩ := hx'
    refine wpAny_bind (wpAny_isInstance (T := "StopIteration") (b := true) ⟨o, ho, hc'⟩ isSubtype_stop ?_)
    exact wpAny_pure ⟨rfl, I.turned (t' := s.toks) (fun b o hb q => he' b o hb q) f0 f1 f3 f4 f5⟩
  self := fun A i s Q E st h => let ⟨⟨_, he⟩, _⟩ := st; wpAny_pyIter_enum he h
def iEnumT (K : PySem.W.Frag) (ta : TA) : TI := fun σ H R => ta σ H fun vs H1 => ∃ a xs, vs = [.ref a] ∧ SqT K H1 a xs ∧ R (IteT K a) H1
theorem pi_enumT {X : Cx} {e : Expr} {ta : TA} {p pos tpos : Pos} {elts : List Expr} {kk : Nat} (hg : Gl X "enumerate") (hm : X.mg "enumerate" = none) (ha : PA X [e] ta) (hs : starEach [e] X.env = [(false, eval e X.env)] := by rfl) :
    PI X (.Tuple elts kk tpos) (.Call (.Name "enumerate" p) [e] [] pos) (iEnumT X.K ta) := by
  refine ⟨fun pins s σ H R I h => ?_⟩
  refine Call_ (ld_blt I hg hm boot_enumerate (PyProof.Rows.callWith_type1 (thn (ha.run pos pins s σ H _ I h) fun us s1 ⟨vs, H1, I1, r1, q1⟩ => ?_) hs rfl))
  obtain ⟨a, xs, ex, hq, q⟩ := q1
  subst ex
  cases r1 with
  | cons r rr =>
    cases rr
    cases r
    obtain ⟨its, rv, p', hz⟩ := I1.tuple hq
    refine enum_begins1 (begins_tuple a its.toArray) (show s1.heap.IsTuple a its.toArray from p') fun h' he hit hsz hk => wpAny_pyIter_enum he ?_
    have I2 : Inv X pins σ H1 { s1 with heap := h' } := I1.kept (t' := s1.toks) hk
    refine ⟨s1.heap.objs.size + 1, [s1.heap.objs.size + 1, s1.heap.objs.size], _, _, H1, rfl, I2, turn_enumT a (s1.heap.objs.size + 1) s1.heap.objs.size, ⟨⟨.none, he⟩, ⟨_, hit, rfl, rfl⟩, Nat.succ_ne_self _⟩, fun b hb => ?_, q⟩
    have e' : b = s1.heap.objs.size + 1 ∨ b = s1.heap.objs.size := by simpa using hb
    have hle : s1.heap.objs.size ≤ b := by
      rcases e' with z | z
      · rw [z]; exact Nat.le_add_right _ _
      · rw [z]; exact Nat.le_refl _
    exact I1.fpOk hle (I1.hok.fresh hle)
theorem for_enumT {K : PySem.W.Frag} {a : Addr} {xs : List V} {g : TG} {tb : TS} {D : Ends} {σ : L2.St} {H : Hp} (Pv : Nat → L2.St → Hp → Prop) (h0 : Pv 0 σ H) (hl : ∀ i σ H, i ≤ xs.length → Pv i σ H → SqT K H a xs)
    (hs : ∀ (i : Nat) (x : V) (T : Addr) (σ : L2.St) (H : Hp), xs[i]? = some x → Pv i σ H → H T = none → g (.ref T) σ (upd H T (.tup [.int (i : Nat), x])) fun σ2 H2 => tb { D with nx := Pv (i + 1), ct := Pv (i + 1), bk := D.nx } σ2 H2) (hd : ∀ σ H, Pv xs.length σ H → D.nx σ H) :
    ∃ W : Nat → Nat → L2.St → Hp → Prop, (∃ m, W 0 m σ H) ∧ ∀ i m σ H, W i m σ H →
      ((IteT K a).stop i H ∧ D.nx σ H) ∨ ((IteT K a).go i H ∧ ∃ N : L2.St → Hp → Prop, (∀ σ' H', N σ' H' → ∃ m', m' < m ∧ W (i + 1) m' σ' H') ∧ ∀ v H', (IteT K a).yld i H v H' → g v σ H' fun σ2 H2 => tb { D with nx := N, ct := N, bk := D.nx } σ2 H2) := by
  refine ⟨fun i m σ H => m = xs.length - i ∧ i ≤ xs.length ∧ Pv i σ H, ⟨xs.length, rfl, Nat.zero_le _, h0⟩, ?_⟩
  rintro i m σ H ⟨rfl, hi, p⟩
  have q := hl i σ H hi p
  by_cases hlt : i < xs.length
  · refine .inr ⟨⟨xs, xs[i], q, by simp [hlt]⟩, Pv (i + 1), fun σ' H' p' => ⟨xs.length - (i + 1), by omega, rfl, hlt, p'⟩, fun x H' y => ?_⟩
    obtain ⟨T, x', rfl, hT, rfl, f1⟩ := y
    exact hs i x' T σ H (f1 xs q) p hT
  · have e : i = xs.length := by omega
    subst e
    exact .inl ⟨⟨xs, q, Nat.le_refl _⟩, hd σ H p⟩

/-! ### xs[i] op= e -/
def rGetL (K : PySem.W.Frag) : V → V → Hp → VK → Prop := fun o i H Q => ∃ p xs k v, o = .ref p ∧ i = .int k ∧ SqL K H p xs ∧ 0 ≤ k ∧ xs[k.toNat]? = some v ∧ Q v H
theorem get_list {X : Cx} : PGet X (rGetL X.K) := by
  intro pins s σ H o i ov iv Q I ro ri h
  obtain ⟨p, xs, k, v, rfl, rfl, hq, h0, hv, q⟩ := h
  cases ro
  obtain ⟨t, rfl⟩ := ri
  obtain ⟨its, r, pl, hz⟩ := I.list hq
  obtain ⟨w, ew, rw'⟩ := r.get hv
  have hl := (List.getElem?_eq_some_iff.mp hv).1
  have hn := line63
  exact wpAny_getItem_list pl.isList h0 (by omega) (x := w) (by simpa using ew) ⟨v, H, I, rw', q⟩

/-! ### == and != of instances, by the class's own __eq__ -/
section
variable {X : Cx} {pins : List (Addr × Obj)} {σ : L2.St} {H : Hp} {s : Shared}
/-- a def runs within a builtin -/
theorem run_in1 {E' : Value → Shared → Prop} {k : Nat} {f : Addr} {fd : FuncData} {ps : List Str} {sp : Sp} {Q : VK} {us : List Value} {vs : List V} (F : FnOk X.prog X.w X.K X.mg X.base CX0 k f fd ps sp) (hr : Room (k + 1) X.A) (hb : Binds X.K fd ps [])
    (I : Inv X pins σ H s) (r : Vals vs us) (h : sp vs H Q E0) : wpAny (model X.prog X.w) X.A.in1 (call (.ref f) us) (EP X pins σ Q) E' s := by
  have hl := F.len _ _ _ _ h
  refine wpAny_call (codeAny_mono (F.run X.A.in1 X.stack s H ⟨us, []⟩ us vs Q E0 hr.in1 I.env0.in1 (by
    have := hb s us I.kIn (by rw [List.append_nil, ← r.length]; exact hl)
    simpa using this) r h) fun r s' hq => ?_)
  cases r with
  | error e => exact False.elim hq
  | ok fl =>
    cases fl with
    | ret u => exact I.after hq
    | next => exact False.elim hq
    | brk => exact False.elim hq
    | cont => exact False.elim hq
end
section
variable {prog : Program} {w : World} {A A₀ : Around} {E : Value → Shared → Prop} {s : Shared} {K : PySem.W.Frag} {x C L f : Addr} {h₀ : Heap} {m : Str → Option Value} {ox : Obj} {od : Option Obj} {name : Str} {b tb : Value}
theorem ifBoundB {B id : String} {M : Model} {args : List Value} {Q : Option Value → Shared → Prop} (S : Slot B name id) (X : K.In s.heap) (I : PySem.W.InstAt s.heap x ox C od) (hs : PySem.W.findIn K (.ref C) name = some (some (.builtin id)))
    (h : wpAny M A (call (.builtin id) (.ref x :: args)) (fun v => Q (some v)) E s) : wpAny M A (callSpecialIfBound? (.ref x) name args) Q E s := by
  simp only [callSpecialIfBound?, bindSpecialIfBound?]
  refine wpAny_holding (wpAny_bind (wpAny_bind (wpAny_bind (I.type.here ((PySem.W.looks_findIn X hs).here ?_)))))
  simp only [S.bind]
  refine wpAny_bind (wpAny_askSetting (wpAny_ite ?_))
  have fin : wpAny M A (call (.builtin id) ([.ref x] ++ args) >>= fun v => pure (some v)) Q E s := wpAny_bind (wpAny_mono h (fun v s' h' => wpAny_pure h') fun _ _ h' => h')
  split
  · exact wpAny_bind (wpAny_pure (wpAny_pure fin))
  · exact wpAny_tryCatch (wpAny_bind (wpAny_pure (wpAny_pure fin)))
/-- a rich comparison whose first try answers -/
theorem cmp_one {op : CmpOp} {Q : Value → Shared → Prop} (hu : A.units < cLine) (X : K.In s.heap) (I : PySem.W.InstAt s.heap x ox C od) (hb : PySem.W.Looks (model prog w) s.heap (typeOf b) tb) (hn : PySem.W.notFirst K C tb = true)
    (one : wpAny (model prog w) A (tryCompare (.ref x) (cmpInfo op).2.1 b) (fun r s' => ∃ v, r = some v ∧ Q v s') E s) : wpAny (model prog w) A (richCompare op (.ref x) b) Q E s := by
  unfold richCompare
  simp only [oneThing_ref]
  refine wpAny_holding (wpAny_bind (wpAny_cRoomFor hu ?_))
  refine wpAny_bind (I.type.here (wpAny_bind (hb.here ?_)))
  split
  · rename_i q
    have e : PySem.W.subIn K tb (.ref C) = some false := by
      rcases Bool.or_eq_true_iff.mp hn with e | e
      · rw [beq_iff_eq.mp e] at q; simp at q
      · exact beq_iff_eq.mp e
    refine wpAny_bind ((PySem.W.looks_subIn X e).here ?_)
    simp only [Bool.false_eq_true, if_false]
    refine wpAny_bind (wpAny_mono one (fun r s' z => ?_) fun _ _ e => e)
    obtain ⟨v, rfl, hq⟩ := z
    exact wpAny_pure hq
  · refine wpAny_bind (wpAny_pure ?_)
    simp only [Bool.false_eq_true, if_false]
    refine wpAny_bind (wpAny_mono one (fun r s' z => ?_) fun _ _ e => e)
    obtain ⟨v, rfl, hq⟩ := z
    exact wpAny_pure hq
/-- object.__ne__ where the class has its own __eq__ -/
theorem objNe_own (hu : A.units < cLine) (X : K.In s.heap) (I : PySem.W.InstAt s.heap x ox C od) (hs : PySem.W.findIn K (.ref C) "__eq__" = some (some (.ref f))) (hf : PySem.W.isFn K (.ref f) = true) {Q : PySem.Fin → Shared → Prop}
    (hcall : wpAny (model prog w) A (call (.ref f) [.ref x, b]) (fun v s' => ∃ c, v = .bool c ∧ Q (.done (.ret (.bool (!c)))) s') E s) :
    wpAny (model prog w) A (Builtin.«object.__ne__» ⟨[.ref x, b], []⟩) Q E s := by
  unfold Builtin.«object.__ne__»
  repeat (first
    | with_reducible refine wpAny_cRoomFor hu ?_
    | (refine wpAny_bind (m := callSpecialIfBound? (.ref x) (Str.ofString "__eq__") [b])
        (PySem.W.ifBound_K X I hs hf (wpAny_mono hcall (fun r s' hr => by
          obtain ⟨c, rfl, hq⟩ := hr
          repeat (first | exact hq | exact wpAny_pure hq | exact wpAny_truthy_bool hq | (refine wpAny_bind (m := truthy (.bool _)) (wpAny_truthy_bool ?_)) | wp_step)) fun _ _ e => e)))
    | wp_step)
end
section
variable {X : Cx}
def rEqI (K : PySem.W.Frag) (C : Addr) (sp : Sp) : R2 := fun x y H Q => ∃ a dx fs b C' dy gs, x = .ref a ∧ y = .ref b ∧ H a = some (.ins C dx fs) ∧ H b = some (.ins C' dy gs) ∧ PySem.W.notFirst K C (.ref C') = true ∧ sp [x, y] H (fun v H' => ∃ c, v = .bl c ∧ Q (.bl c) H') E0
def rNeI (K : PySem.W.Frag) (C : Addr) (sp : Sp) : R2 := fun x y H Q => ∃ a dx fs b C' dy gs, x = .ref a ∧ y = .ref b ∧ H a = some (.ins C dx fs) ∧ H b = some (.ins C' dy gs) ∧ PySem.W.notFirst K C (.ref C') = true ∧ sp [x, y] H (fun v H' => ∃ c, v = .bl c ∧ Q (.bl (!c)) H') E0
theorem op_eqI {C g : Addr} {n : Nat} {fd : FuncData} {ps : List Str} {sp : Sp} (hs : PySem.W.findIn X.K (.ref C) "__eq__" = some (some (.ref g))) (hf : PySem.W.isFn X.K (.ref g) = true) (F : FnOk X.prog X.w X.K X.mg X.base CX0 n g fd ps sp) (hb : Binds X.K fd ps []) (hr : Room n X.A) :
    OpR X (compareOp .Eq) (rEqI X.K C sp) := by
  intro pins s σ H x y v u Q I rx ry h
  obtain ⟨a, dx, fs, b, C', dy, gs, rfl, rfl, ha, hb', hn, q⟩ := h
  cases (show v = Value.ref a from rx)
  cases (show u = Value.ref b from ry)
  obtain ⟨mA, J, _⟩ := ins_get I.hok ha
  obtain ⟨mB, J', _⟩ := ins_get I.hok hb'
  obtain ⟨od, J, _⟩ := J.look
  obtain ⟨od', J', _⟩ := J'.look
  obtain ⟨m, hF⟩ := I.fr
  show wpAny (model X.prog X.w) X.A (richCompare .Eq (.ref a) (.ref b)) (EP X pins σ Q) X.xe s
  refine PySem.W.cmp_K (op := .Eq) (tb := .ref C') hr.units0 hF I.ok.mod.kin J J'.type hn hs hf ?_
  have r2 : Vals [V.ref a, V.ref b] [Value.ref a, Value.ref b] := .cons rfl (.cons rfl .nil)
  refine wpAny_mono (run_fn (dvs := []) F hr hb .nil pass0 I r2 (by rw [List.append_nil]; exact q)) (fun r s' z => ?_) fun _ _ x => x
  obtain ⟨z, H', I', rz, c, ez, qz⟩ := z
  subst ez
  cases rz
  exact ⟨.bl c, H', I', rfl, qz⟩
theorem op_neI {C g : Addr} {n : Nat} {fd : FuncData} {ps : List Str} {sp : Sp} (hs : PySem.W.findIn X.K (.ref C) "__eq__" = some (some (.ref g))) (hf : PySem.W.isFn X.K (.ref g) = true) (hne : PySem.W.findIn X.K (.ref C) "__ne__" = some (some (.builtin "object.__ne__")))
    (hob : PySem.W.mroIn X.K C (.type "object") = some true) (F : FnOk X.prog X.w X.K X.mg X.base CX0 n g fd ps sp) (hb : Binds X.K fd ps []) (hr : Room (n + 1) X.A) :
    OpR X (compareOp .NotEq) (rNeI X.K C sp) := by
  intro pins s σ H x y v u Q I rx ry h
  obtain ⟨a, dx, fs, b, C', dy, gs, rfl, rfl, ha, hb', hn, q⟩ := h
  cases (show v = Value.ref a from rx)
  cases (show u = Value.ref b from ry)
  obtain ⟨mA, J, _⟩ := ins_get I.hok ha
  obtain ⟨mB, J', _⟩ := ins_get I.hok hb'
  obtain ⟨od, J, _⟩ := J.look
  obtain ⟨od', J', _⟩ := J'.look
  show wpAny (model X.prog X.w) X.A (richCompare .NotEq (.ref a) (.ref b)) (EP X pins σ Q) X.xe s
  refine cmp_one (op := .NotEq) (tb := .ref C') hr.units0 I.kIn J J'.type hn ?_
  have r2 : Vals [V.ref a, V.ref b] [Value.ref a, Value.ref b] := .cons rfl (.cons rfl .nil)
  have hu1 : X.A.in1.units < cLine := hr.in1.units0
  show wpAny (model X.prog X.w) X.A (tryCompare (.ref a) "__ne__" (.ref b)) _ X.xe s
  unfold tryCompare
  refine wpAny_bind (ifBoundB PySem.F.cmp_object.ne I.kIn J hne (wpAny_call (codeAny_call_builtin PySem.F.cmp_object.ne.plain PySem.F.cmpEntry_ne
    (PySem.W.check_slot PySem.F.cmpKind_ne PySem.F.cmpSplit_ne ?_ (PySem.F.cmpArgs_ne _ _) ?_))))
  · exact (J.type).andThen (PySem.W.looks_mroIn I.kIn hob)
  · refine objNe_own (A := X.A.in1) hu1 I.kIn J hs hf (wpAny_mono (run_in1 F hr hb I r2 q) (fun r s' z => ?_) fun _ _ e => e)
    obtain ⟨z, H', I', rz, c, ez, qz⟩ := z
    subst ez
    cases rz
    first | exact ⟨c, rfl, wpAny_pure ⟨_, rfl, .bl (!c), H', I', rfl, qz⟩⟩ | exact ⟨c, rfl, wpAny_pure (wpAny_pure ⟨_, rfl, .bl (!c), H', I', rfl, qz⟩)⟩ | exact ⟨c, rfl, ⟨_, rfl, .bl (!c), H', I', rfl, qz⟩⟩
end
end K6

set_option Elab.async false
set_option linter.all false
set_option maxRecDepth 100000
set_option maxHeartbeats 1000000
/-! K06, part M: the data (holders, houses, towns), how the heap bears them, the mathematics. -/
namespace K6
open PySem PySem.Spec PyProof.Rows L2

/-! ### rows of pairs -/
section
variable {A B : Type} {F G : A → B → Prop}
theorem pr_get : ∀ {xs : List A} {ys : List B}, Paired F xs ys → ∀ {i : Nat} {x : A}, xs[i]? = some x → ∃ y, ys[i]? = some y ∧ F x y
  | _, _, .nil, i, x, h => by cases h
  | _, _, .cons r t, 0, x, h => by
    have e := Option.some.inj h
    subst e
    exact ⟨_, rfl, r⟩
  | _, _, .cons r t, i + 1, x, h => pr_get t h
theorem pr_getR : ∀ {xs : List A} {ys : List B}, Paired F xs ys → ∀ {i : Nat} {y : B}, ys[i]? = some y → ∃ x, xs[i]? = some x ∧ F x y
  | _, _, .nil, i, x, h => by cases h
  | _, _, .cons r t, 0, x, h => by
    have e := Option.some.inj h
    subst e
    exact ⟨_, rfl, r⟩
  | _, _, .cons r t, i + 1, x, h => pr_getR t h
theorem pr_append : ∀ {xs xs' : List A} {ys ys' : List B}, Paired F xs ys → Paired F xs' ys' → Paired F (xs ++ xs') (ys ++ ys')
  | _, _, _, _, .nil, q => q
  | _, _, _, _, .cons r t, q => .cons r (pr_append t q)
theorem pr_take : ∀ {xs : List A} {ys : List B} (n : Nat), Paired F xs ys → Paired F (xs.take n) (ys.take n)
  | _, _, 0, _ => .nil
  | _, _, _ + 1, .nil => .nil
  | _, _, n + 1, .cons r t => .cons r (pr_take n t)
theorem pr_drop : ∀ {xs : List A} {ys : List B} (n : Nat), Paired F xs ys → Paired F (xs.drop n) (ys.drop n)
  | _, _, 0, r => r
  | _, _, _ + 1, .nil => .nil
  | _, _, n + 1, .cons _ t => pr_drop n t
theorem pr_set {x : A} {y : B} (r : F x y) : ∀ {xs : List A} {ys : List B} (i : Nat), Paired F xs ys → Paired F (xs.set i x) (ys.set i y)
  | _, _, _, .nil => .nil
  | _, _, 0, .cons _ t => .cons r t
  | _, _, i + 1, .cons q t => .cons q (pr_set r i t)
theorem pr_len {xs : List A} {ys : List B} (h : Paired F xs ys) : xs.length = ys.length := Paired.length h
end

/-! ### holders, houses, towns -/
/-- true: a house -/
abbrev Hol := Bool × Int
abbrev Town := List (List Hol)
def sg (b : Bool) : Str := if b then "h" else "f"
theorem sg_ne : ¬ (sg true = sg false) := by decide +kernel
theorem sg_eq : ∀ a b : Bool, (sg a = sg b) = (a = b) := by
  intro a b
  cases a <;> cases b <;> simp [sg] <;> decide +kernel
def leB (g h : Hol) : Bool := if g.1 = h.1 then decide (g.2 ≤ h.2) else h.1
theorem leB_trans (a b c : Hol) (h1 : leB a b = true) (h2 : leB b c = true) : leB a c = true := by
  obtain ⟨a1, a2⟩ := a
  obtain ⟨b1, b2⟩ := b
  obtain ⟨c1, c2⟩ := c
  cases a1 <;> cases b1 <;> cases c1 <;> simp [leB] at * <;> omega
theorem leB_total (a b : Hol) : (leB a b || leB b a) = true := by
  obtain ⟨a1, a2⟩ := a
  obtain ⟨b1, b2⟩ := b
  cases a1 <;> cases b1 <;> simp [leB] <;> omega
theorem leB_anti (a b : Hol) (h1 : leB a b = true) (h2 : leB b a = true) : a = b := by
  obtain ⟨a1, a2⟩ := a
  obtain ⟨b1, b2⟩ := b
  cases a1 <;> cases b1 <;> simp [leB] at * <;> omega
def Srt (hs : List Hol) : Prop := hs.Pairwise (fun a b => leB a b = true)
def sortH (hs : List Hol) : List Hol := hs.mergeSort leB
theorem sortH_srt (hs : List Hol) : Srt (sortH hs) := List.pairwise_mergeSort leB_trans leB_total hs
theorem sortH_perm (hs : List Hol) : (sortH hs).Perm hs := List.mergeSort_perm hs leB
theorem sortH_len (hs : List Hol) : (sortH hs).length = hs.length := (sortH_perm hs).length_eq
theorem sortH_of {hs : List Hol} (h : Srt hs) : sortH hs = hs := List.mergeSort_of_pairwise h
theorem sortH_mem {hs : List Hol} {h : Hol} (m : h ∈ sortH hs) : h ∈ hs := (sortH_perm hs).mem_iff.mp m

/-- one of so many folk and houses -/
def okHol (folk houses : Int) (h : Hol) : Prop := 0 ≤ h.2 ∧ (h.1 = false → h.2 < folk) ∧ (h.1 = true → h.2 < houses)
theorem okHol.mono {folk m n : Int} {h : Hol} (o : okHol folk m h) (l : m ≤ n) : okHol folk n h := ⟨o.1, o.2.1, fun e => Int.lt_of_lt_of_le (o.2.2 e) l⟩
structure okHou (folk houses : Int) (hs : List Hol) : Prop where
  srt : Srt hs
  odd : hs.length % 2 = 1
  most : hs.length ≤ 15
  all : ∀ h ∈ hs, okHol folk houses h
theorem okHou.mono {folk m n : Int} {hs : List Hol} (o : okHou folk m hs) (l : m ≤ n) : okHou folk n hs := ⟨o.srt, o.odd, o.most, fun h m => (o.all h m).mono l⟩
def okTown (folk : Int) (t : Town) : Prop := ∀ hs ∈ t, okHou folk t.length hs

/-! ### the data as the library reads it -/
def encH (h : Hol) : PyData := .tuple [.str (sg h.1), .int h.2]
def encS (hs : List Hol) : PyData := .tuple (hs.map encH)
def encT (t : Town) : PyData := .tuple (t.map encS)
theorem eqvAll_map {A : Type} [DecidableEq A] {f : A → PyData} (h : ∀ a b, PyData.eqv (f a) (f b) = decide (a = b)) : ∀ xs ys : List A, PyData.eqvAll (xs.map f) (ys.map f) = decide (xs = ys)
  | [], [] => by simp [PyData.eqvAll]
  | [], _ :: _ => by simp [PyData.eqvAll]
  | _ :: _, [] => by simp [PyData.eqvAll]
  | x :: xs, y :: ys => by
    rw [List.map_cons, List.map_cons, PyData.eqvAll, h x y, eqvAll_map h xs ys]
    by_cases e1 : x = y <;> by_cases e2 : xs = ys <;> simp [e1, e2]
theorem eqv_H (g h : Hol) : PyData.eqv (encH g) (encH h) = decide (g = h) := by
  obtain ⟨a1, a2⟩ := g
  obtain ⟨b1, b2⟩ := h
  have e1 : (sg a1 == sg b1) = decide (a1 = b1) := by cases a1 <;> cases b1 <;> decide +kernel
  unfold encH
  simp only [PyData.eqv, PyData.eqvAll, e1]
  by_cases e2 : a1 = b1 <;> by_cases e3 : a2 = b2 <;> simp [e2, e3]
theorem eqv_S (g h : List Hol) : PyData.eqv (encS g) (encS h) = decide (g = h) := by
  unfold encS
  rw [PyData.eqv]
  exact eqvAll_map eqv_H g h
theorem eqv_T (g h : Town) : PyData.eqv (encT g) (encT h) = decide (g = h) := by
  unfold encT
  rw [PyData.eqv]
  exact eqvAll_map eqv_S g h
theorem canAll_map {A : Type} {f : A → PyData} (h : ∀ a, (f a).canLay0 = true) : ∀ xs : List A, PyData.canLayAll0 (xs.map f) = true
  | [] => by simp [PyData.canLayAll0]
  | x :: xs => by simp [PyData.canLayAll0, h x, canAll_map h xs]
theorem depthAll_map {A : Type} {f : A → PyData} {n : Nat} (h : ∀ a, (f a).depth ≤ n) : ∀ xs : List A, PyData.depthAll (xs.map f) ≤ n
  | [] => by simp [PyData.depthAll]
  | x :: xs => by
    rw [List.map_cons, PyData.depthAll]
    exact Nat.max_le.mpr ⟨h x, depthAll_map h xs⟩
theorem can_H (h : Hol) : (encH h).canLay0 = true := by
  obtain ⟨a1, a2⟩ := h
  have e : PyData.strOk (sg a1) = true := by cases a1 <;> decide +kernel
  simp [encH, PyData.canLay0, PyData.canLayAll0, e]
theorem can_S (hs : List Hol) : (encS hs).canLay0 = true := by
  unfold encS
  rw [PyData.canLay0]
  exact canAll_map can_H hs
theorem can_T (t : Town) : (encT t).canLay0 = true := by
  unfold encT
  rw [PyData.canLay0]
  exact canAll_map can_S t
theorem dep_H (h : Hol) : (encH h).depth ≤ 1 := by simp [encH, PyData.depth, PyData.depthAll]
theorem dep_S (hs : List Hol) : (encS hs).depth ≤ 2 := by
  unfold encS
  rw [PyData.depth]
  exact Nat.succ_le_succ (depthAll_map dep_H hs)
theorem dep_T (t : Town) : (encT t).depth ≤ 3 := by
  unfold encT
  rw [PyData.depth]
  exact Nat.succ_le_succ (depthAll_map dep_S t)
theorem shaped_H (h : Hol) : SeqAt.shaped (encH h) = true := by
  unfold SeqAt.shaped
  rw [can_H h, decide_eq_true (Nat.le_trans (dep_H h) (by decide))]
  rfl
theorem shaped_T (t : Town) : SeqAt.shaped (encT t) = true := by
  unfold SeqAt.shaped
  rw [can_T t, decide_eq_true (Nat.le_trans (dep_T t) (by decide))]
  rfl

/-! ### the heap bears them -/
def HolV (H : Hp) (v : V) (h : Hol) : Prop := ∃ a, v = .ref a ∧ H a = some (.tup [.str (sg h.1), .int h.2])
def HouV (H : Hp) (v : V) (hs : List Hol) : Prop := ∃ a vs, v = .ref a ∧ H a = some (.tup vs) ∧ Paired (HolV H) vs hs
def TowV (H : Hp) (v : V) (t : Town) : Prop := ∃ a vs, v = .ref a ∧ H a = some (.tup vs) ∧ Paired (HouV H) vs t
/-- what a heap keeps of another: its tuples -/
def TK (H H' : Hp) : Prop := ∀ a xs, H a = some (.tup xs) → H' a = some (.tup xs)
theorem TK.refl (H : Hp) : TK H H := fun _ _ h => h
theorem TK.trans {H H1 H2 : Hp} (a : TK H H1) (b : TK H1 H2) : TK H H2 := fun c xs h => b c xs (a c xs h)
theorem TK.of {H H' : Hp} (s : Same H H') : TK H H' := fun a _ h => s a _ h
theorem TK.put {H : Hp} {p : Addr} {o u : HO} (h : H p = some o) (hn : ∀ xs, o ≠ .tup xs) : TK H (L2.upd H p u) := fun a xs e => by
  rw [upd_ne (ne_of e h (fun z => hn xs z.symm))]
  exact e
theorem TK.new {H : Hp} {p : Addr} {u : HO} (h : H p = none) : TK H (L2.upd H p u) := fun a xs e => by
  rw [upd_ne (ne_of_none e h)]
  exact e
theorem HolV.tk {H H' : Hp} {v : V} {h : Hol} (x : HolV H v h) (k : TK H H') : HolV H' v h := let ⟨a, e, q⟩ := x; ⟨a, e, k _ _ q⟩
theorem HouV.tk {H H' : Hp} {v : V} {h : List Hol} (x : HouV H v h) (k : TK H H') : HouV H' v h := let ⟨a, vs, e, q, r⟩ := x; ⟨a, vs, e, k _ _ q, Paired.mapP r fun _ _ z => z.tk k⟩
theorem TowV.tk {H H' : Hp} {v : V} {h : Town} (x : TowV H v h) (k : TK H H') : TowV H' v h := let ⟨a, vs, e, q, r⟩ := x; ⟨a, vs, e, k _ _ q, Paired.mapP r fun _ _ z => z.tk k⟩
theorem pH.tk {H H' : Hp} {vs : List V} {hs : List Hol} (x : Paired (HolV H) vs hs) (k : TK H H') : Paired (HolV H') vs hs := Paired.mapP x fun _ _ z => z.tk k
theorem pS.tk {H H' : Hp} {vs : List V} {hs : Town} (x : Paired (HouV H) vs hs) (k : TK H H') : Paired (HouV H') vs hs := Paired.mapP x fun _ _ z => z.tk k
theorem HolV.dp {K : PySem.W.Frag} {H : Hp} {v : V} {h : Hol} (x : HolV H v h) : Dp K H v (encH h) := by
  obtain ⟨a, rfl, q⟩ := x
  exact .tup (SqT.of q) (.cons (.str _) (.cons (.int _) .nil))
theorem dpAll {A : Type} {K : PySem.W.Frag} {H : Hp} {R : V → A → Prop} {f : A → PyData} (hR : ∀ v a, R v a → Dp K H v (f a)) : ∀ {vs : List V} {xs : List A}, Paired R vs xs → DpAll K H vs (xs.map f)
  | _, _, .nil => .nil
  | _, _, .cons r t => .cons (hR _ _ r) (dpAll hR t)
theorem HouV.dp {K : PySem.W.Frag} {H : Hp} {v : V} {h : List Hol} (x : HouV H v h) : Dp K H v (encS h) := by
  obtain ⟨a, vs, rfl, q, r⟩ := x
  exact .tup (SqT.of q) (dpAll (fun _ _ z => z.dp) r)
theorem TowV.dp {K : PySem.W.Frag} {H : Hp} {v : V} {h : Town} (x : TowV H v h) : Dp K H v (encT h) := by
  obtain ⟨a, vs, rfl, q, r⟩ := x
  exact .tup (SqT.of q) (dpAll (fun _ _ z => z.dp) r)

/-! ### the law's own mathematics -/
theorem set_take_drop {A : Type} {l : List A} {i : Nat} (a : A) (h : i < l.length) : l.take i ++ [a] ++ l.drop (i + 1) = l.set i a := by
  rw [List.set_eq_take_append_cons_drop, if_pos h, List.append_assoc]
  rfl
theorem map_sort {t : Town} (h : ∀ hs ∈ t, Srt hs) : t.map sortH = t := by
  have e : t.map sortH = t.map id := List.map_congr_left fun hs m => sortH_of (h hs m)
  rw [e, List.map_id]
theorem map_sort_set {t : Town} (h : ∀ hs ∈ t, Srt hs) (i : Nat) (x : List Hol) : (t.set i x).map sortH = t.set i (sortH x) := by
  rw [List.map_set, map_sort h]
theorem count_sold {hs : List Hol} {i : Nat} {o : Hol} (hi : hs[i]? = some o) (h : Hol) :
    (((sortH (hs.set i h)).count h : Nat) : Int) = ((hs.count h : Nat) : Int) + (if (!decide (o = h)) = true then 1 else 0) := by
  obtain ⟨hl, e⟩ := List.getElem?_eq_some_iff.mp hi
  rw [(sortH_perm _).count_eq h, List.count_set hl, e]
  by_cases q : o = h
  · subst q
    have c : 0 < hs.count o := List.count_pos_iff.mpr (List.mem_of_getElem? hi)
    simp
    omega
  · simp [q]
theorem filter_count {hs : List Hol} (h : Hol) : (hs.filter fun o => decide (o = h)).length = hs.count h := by
  rw [List.count_eq_length_filter]
  congr 2
  funext o
  by_cases q : o = h
  · rw [decide_eq_true q]
    exact (beq_iff_eq.mpr q).symm
  · rw [decide_eq_false q]
    exact (beq_eq_false_iff_ne.mpr q).symm
end K6

set_option Elab.async false
set_option linter.all false
set_option maxRecDepth 100000
set_option maxHeartbeats 4000000
/-! K06, part S: the order of holders; sorted of lists and tuples of them, and of a dict's items. -/
namespace K6
open PySem PySem.Spec PyProof.Rows L2

/-! ### g <= h, two holders -/
section
variable {X : Cx}
theorem le_txt (a b : Bool) : (!decide ((sg b).cps.toList < (sg a).cps.toList)) = (!a || b) := by cases a <;> cases b <;> decide +kernel
theorem eq_txt (a b : Bool) : decide (sg a = sg b) = decide (a = b) := by cases a <;> cases b <;> decide +kernel
def rLeH : R2 := fun x y H Q => ∃ g h, HolV H x g ∧ HolV H y h ∧ Q (.bl (leB g h)) H
theorem op_leH (hu : X.A.units + 1 < cLine) : OpR X (compareOp .LtE) rLeH := by
  intro pins s σ H x y v u Q I rx ry h
  obtain ⟨g, h, ⟨a, rfl, ha⟩, ⟨b, rfl, hb⟩, q⟩ := h
  cases rx
  cases ry
  obtain ⟨its, r1, p1, _⟩ := I.tuple (SqT.of (K := X.K) ha)
  obtain ⟨its2, r2, p2, _⟩ := I.tuple (SqT.of (K := X.K) hb)
  obtain ⟨u1, u2, rfl, ⟨t1, rfl⟩, ⟨t2, rfl⟩⟩ := vals2 r1
  obtain ⟨w1, w2, rfl, ⟨t3, rfl⟩, ⟨t4, rfl⟩⟩ := vals2 r2
  have R := Ob.RcOp.tuples_le (A := X.A) (s := s) (e := fun j => if j = 0 then decide (g.1 = h.1) else decide (g.2 = h.2)) (r := fun j => if j = 0 then (!g.1 || h.1) else decide (g.2 ≤ h.2)) p1 p2 (by omega) (fun j h1 h2 => by
    match j, h1, h2 with
    | 0, _, _ =>
      have e := eqAt_V (A := X.A.in1) (s := s) (show RelV (.str (sg g.1)) (Value.str (sg g.1) t1) from ⟨t1, rfl⟩) (show RelV (.str (sg h.1)) (Value.str (sg h.1) t3) from ⟨t3, rfl⟩) rfl rfl
      have e2 : eqV (.str (sg g.1)) (.str (sg h.1)) = decide (g.1 = h.1) := by
        rw [← eq_txt g.1 h.1]
        cases g.1 <;> cases h.1 <;> decide +kernel
      rw [e2] at e
      exact e
    | 1, _, _ =>
      have e := eqAt_V (A := X.A.in1) (s := s) (show RelV (.int g.2) (Value.int g.2 t2) from ⟨t2, rfl⟩) (show RelV (.int h.2) (Value.int h.2 t4) from ⟨t4, rfl⟩) rfl rfl
      have e2 : eqV (.int g.2) (.int h.2) = decide (g.2 = h.2) := by
        unfold eqV
        first | rfl | simp [Bool.beq_eq_decide_eq] | (by_cases q : g.2 = h.2 <;> simp [q])
      rw [e2] at e
      exact e
    | j + 2, h1, _ => exact absurd h1 (by simp)) (fun j h1 h2 _ => by
    match j, h1, h2 with
    | 0, _, _ =>
      intro prog w E Q hQ
      refine PySem.P.le_str (x := sg g.1) (y := sg h.1) ?_
      rw [if_pos rfl, ← le_txt] at hQ
      exact hQ
    | 1, _, _ => exact Ob.RcOp.le_int _ _ _ _
    | j + 2, h1, _ => exact absurd h1 (by simp))
  have hl : Ob.lexAt (fun j => if j = 0 then decide (g.1 = h.1) else decide (g.2 = h.2)) (fun j => if j = 0 then (!g.1 || h.1) else decide (g.2 ≤ h.2)) (decide (2 ≤ 2)) 0 2 = leB g h := by
    obtain ⟨g1, g2⟩ := g
    obtain ⟨h1, h2⟩ := h
    unfold leB
    rw [Ob.lexAt_succ, Ob.lexAt_succ, Ob.lexAt_zero]
    cases g1 <;> cases h1 <;> simp <;> by_cases q : g2 = h2 <;> simp [q] <;> omega
  have z : wpAny (model X.prog X.w) X.A (compareOp .LtE (.ref a) (.ref b)) (EP X pins σ Q) X.xe s := R X.prog X.w X.xe (EP X pins σ Q) ⟨.bl (leB g h), H, I, by
    show Value.bool _ = Value.bool _
    congr 1, q⟩
  exact z
end

/-! ### sorted -/
section
variable {prog : Program} {w : World} {A : Around} {E : Value → Shared → Prop} {s : Shared} {β : Type} {bs : List β} {enc : β → PyData} {R : Value → β → Prop}
theorem collect_tuple {l : Addr} {vs : List Value} {Q : List Value → Shared → Prop} (hl : s.heap.IsTuple l vs.toArray)
    (h : Q vs { s with heap := (s.heap.push (seqObj "list" #[] 0)).update s.heap.objs.size (Obj.mapSeq (· ++ vs.toArray)) }) (hsz : vs.length ≤ sizeLine) :
    wpAny (model prog w) A (collect (.ref l)) Q E s := by
  obtain ⟨o, ho, hc, n, hd⟩ := id hl
  unfold collect
  refine wpAny_bind (wpAny_runValue (codeAny_builtin entry_proto_collect' ?_))
  show wpAny _ _ (do again (.builtin "list.__iadd__" ⟨[← newList [], .ref l], []⟩)) _ _ s
  refine wpAny_bind (wpAny_newList (wpAny_pure ⟨Code.quiet_builtin _ (by decide +kernel), codeAny_builtin entry_list_iadd' ?_⟩))
  show wpAny _ _ (Builtin.List.listExtendWith (.ref s.heap.objs.size) (.ref l) (.ref s.heap.objs.size)) _ _ { s with heap := s.heap.push (seqObj "list" #[] 0) }
  unfold Builtin.List.listExtendWith
  have ho' : (s.heap.push (seqObj "list" #[] 0)).get? l = some o := Heap.get?_push_of_some _ ho
  refine wpAny_bind (wpAny_typeOf (T := "tuple") ⟨o, ho', hc⟩ ?_)
  have ht : (Value.type "tuple" == Value.type "tuple") = true := by rfl
  rw [if_pos (by rw [ht]; simp)]
  refine wpAny_bind (listItems_at ho' hd ?_)
  refine wpAny_bind (listItems_at (xs := #[]) (n := 0) (Heap.get?_push_size _ rfl) rfl ?_)
  rw [if_neg (by simp)]
  refine wpAny_bind (listUpdate_at (xs := #[]) (n := 0) (Heap.get?_push_size _ rfl) rfl ?_ (Nat.zero_le _) (by show (#[] ++ vs.toArray).size ≤ sizeLine + 1; simp only [Array.size_append, List.size_toArray, List.length_nil]; omega))
  refine wpAny_pure ?_
  show wpAny (model prog w) A (do
      let o ← load s.heap.objs.size
      match o.data with
      | .seq xs _ => pure xs.toList
      | _ => unsupported "internal:collect") Q E { s with heap := (s.heap.push (seqObj "list" #[] 0)).update s.heap.objs.size (Obj.mapSeq (· ++ vs.toArray)) }
  refine wpAny_bind (wpAny_load (get?_update_seq (Heap.get?_push_size _ rfl) _) ?_)
  show wpAny _ _ (pure ((#[] : Array Value) ++ vs.toArray).toList) Q E _
  rw [show ((#[] : Array Value) ++ vs.toArray).toList = vs by simp]
  exact wpAny_pure h
/-- sorted(v): v's items are collected, then sorted as data -/
theorem sorted_core {v : Value} {Q : Value → Shared → Prop} (hal : PySem.W.AllAlike (bs.map enc)) (hk : PySem.W.Sortable (bs.map enc)) (hL : bs.length ≤ sizeLine) (hu : ∀ b, b ∈ bs → A.units + 2 + (enc b).depth < cLine)
    (hc : ∀ (R' : List Value → Shared → Prop), (∀ (h1 : Heap) (tk : Nat) (vs : List Value), s.heap.objs.size ≤ h1.objs.size → (∀ b o, s.heap.get? b = some o → h1.get? b = some o) → PySem.W.EachIs R vs bs → PySem.W.EachIs (fun v b => ∃ as, Reads h1 v (enc b) as) vs bs → R' vs { s with heap := h1, toks := tk }) →
      wpAny (model prog w) A.in1 (collect v) R' E s)
    (h : ∀ (h2 : Heap) (tk : Nat) (out : List Value) (l n : Nat), s.heap.objs.size ≤ l → (∀ b o, s.heap.get? b = some o → h2.get? b = some o) → h2.get? l = some (seqObj "list" out.toArray n) → out.length = bs.length →
      PySem.W.EachIs R out (bs.mergeSort (PySem.W.dataLe false enc)) → Q (.ref l) { s with heap := h2, toks := tk }) :
    wpAny (model prog w) A (call (.builtin "sorted") [v]) Q E s := by
  refine Calls.call_function_entry PyProof.Rows.kind_sorted PyProof.Rows.plain_sorted PyProof.Rows.entry_sorted (PyProof.Rows.args_sorted1 _) ?_
  unfold Builtin.«sorted»
  refine wpAny_bind (m := checkCount "sorted" 1 1 _) (wpAny_pure ?_)
  refine wpAny_bind (hc _ fun h1 tk vs hsz hk1 e er => ?_)
  have hvl : vs.length = bs.length := e.length
  refine wpAny_bind (wpAny_newList ?_ (by rw [hvl]; exact hL))
  have hoL : (h1.push (seqObj "list" vs.toArray 0)).get? h1.objs.size = some (seqObj "list" vs.toArray 0) := Heap.get?_push_size _ rfl
  have kb : ∀ b o, h1.get? b = some o → (PySem.W.sortingHeap (h1.push (seqObj "list" vs.toArray 0)) h1.objs.size vs).get? b = some o := fun b o e => PySem.W.sortingHeap_old (Nat.ne_of_lt (Heap.lt_size e)) (Heap.get?_push_of_some _ e)
  have er' : PySem.W.EachIs (fun v b => ∃ as, Reads (PySem.W.sortingHeap (h1.push (seqObj "list" vs.toArray 0)) h1.objs.size vs) v (enc b) as) vs bs := er.mono fun _ _ ⟨as, r⟩ => ⟨as, PyProof.Rows.Reads.keeps kb r⟩
  show wpAny _ _ _ _ _ { s with heap := h1.push (seqObj "list" vs.toArray 0), toks := tk }
  refine wpAny_bind (wpAny_holding (wpAny_call_entry PyProof.Rows.slot_list_sort ⟨_, hoL, rfl⟩ PyProof.Rows.entry_list_sort
    (PySem.W.list_sort_vals (s := { s with heap := h1.push (seqObj "list" vs.toArray 0), toks := tk }) hoL
      (PySem.W.SortsAt.data (A := A.in1.in1) (s := { s with heap := PySem.W.sortingHeap (h1.push (seqObj "list" vs.toArray 0)) h1.objs.size vs, toks := tk }) (PySem.W.each_map (R := fun v d => ∃ as, Reads (PySem.W.sortingHeap (h1.push (seqObj "list" vs.toArray 0)) h1.objs.size vs) v d as) enc er') hal hk (PySem.W.bound_map hu))
      (by rw [hvl]; exact hL) ⟨_, rfl, ?_⟩)
    (PyProof.Rows.args_list_sort _)))
  obtain ⟨n, hn⟩ := PyProof.Rows.sortedHeap_at (vs := vs) (out := (PySem.W.sortVals (PySem.W.dataKind (PySem.W.sortingHeap (h1.push (seqObj "list" vs.toArray 0)) h1.objs.size vs) (bs.map enc)) false vs vs).toArray) hoL
  refine wpAny_pure ⟨_, rfl, h _ tk _ h1.objs.size n hsz (fun b o e => ?_) hn ?_ (PySem.W.sortVals_data false e er' hal)⟩
  · have hb : b < h1.objs.size := Heap.lt_size (hk1 b o e)
    rw [PyProof.Rows.sortedHeap_old (Nat.ne_of_lt hb) (by rw [size_push']; exact Nat.lt_succ_of_lt hb)]
    exact Heap.get?_push_of_some _ (hk1 b o e)
  · rw [PySem.W.sortVals_length false rfl]
    exact hvl
end

/-! ### as rules of the layer -/
theorem dataLe_H : PySem.W.dataLe false encH = leB := by
  rw [PySem.W.dataLe_eq]
  funext a b
  obtain ⟨a1, a2⟩ := a
  obtain ⟨b1, b2⟩ := b
  show (!PySem.W.dataLt (.tuple [.str (sg b1), .int b2]) (.tuple [.str (sg a1), .int a2])) = leB (a1, a2) (b1, b2)
  rw [PySem.W.dataLt_pair (by simp [PySem.W.alike]) (by simp [PySem.W.alike]), PySem.W.dataLt_str, PySem.W.dataLt_int]
  have e1 : PyData.eqv (.str (sg b1)) (.str (sg a1)) = decide (b1 = a1) := by
    rw [PyData.eqv]
    cases a1 <;> cases b1 <;> decide +kernel
  have e2 : decide ((sg b1).cps.toList < (sg a1).cps.toList) = (a1 && !b1) := by cases a1 <;> cases b1 <;> decide +kernel
  have e3 : PyData.eqv (.int b2) (.int a2) = decide (b2 = a2) := by
    rw [PyData.eqv]
    by_cases q : b2 = a2 <;> simp [q]
  have e4 : (!if decide (b2 = a2) = true then false else decide (b2 < a2)) = decide (a2 ≤ b2) := by
    by_cases q : b2 = a2
    · subst q
      simp
    · by_cases q2 : b2 < a2
      · rw [decide_eq_false (show ¬ a2 ≤ b2 by omega)]
        simp [q, q2]
      · rw [decide_eq_true (show a2 ≤ b2 by omega)]
        simp [q, q2]
  rw [e1, e2, e3]
  unfold leB
  cases a1 <;> cases b1
  · exact e4
  · rfl
  · rfl
  · exact e4
theorem alike_HH (a b : Hol) : PySem.W.alike (encH a) (encH b) = true := by simp [encH, PySem.W.alike, PySem.W.alikeAll]
theorem each_of {A : Type} {H : Hp} {G : V → A → Prop} : ∀ {xs : List V} {its : List Value} {hs : List A}, Paired G xs hs → Vals xs its → PySem.W.EachIs (fun v b => ∃ x, RelV x v ∧ G x b) its hs
  | _, _, _, .nil, .nil => .nil
  | _, _, _, .cons r t, .cons r' t' => .cons ⟨_, r', r⟩ (each_of (H := H) t t')
theorem each_back {A : Type} {G : V → A → Prop} : ∀ {its : List Value} {hs : List A}, PySem.W.EachIs (fun v b => ∃ x, RelV x v ∧ G x b) its hs → ∃ ys, Vals ys its ∧ Paired G ys hs
  | _, _, .nil => ⟨[], .nil, .nil⟩
  | _, _, .cons ⟨x, r, g⟩ t => let ⟨ys, a, b⟩ := each_back t; ⟨x :: ys, .cons r a, .cons g b⟩
theorem each_get {A B : Type} {R : A → B → Prop} : ∀ {xs : List A} {ys : List B}, xs.length = ys.length → (∀ (j : Nat) (x : A) (y : B), xs[j]? = some x → ys[j]? = some y → R x y) → PySem.W.EachIs R xs ys
  | [], [], _, _ => .nil
  | [], _ :: _, h, _ => by cases h
  | _ :: _, [], h, _ => by cases h
  | x :: xs, y :: ys, h, k => .cons (k 0 x y rfl rfl) (each_get (Nat.succ.inj h) fun j a b e f => k (j + 1) a b e f)
/-- sorted(xs), xs a list or tuple of holders -/
def rSortH (K : PySem.W.Frag) : List V → Hp → VK → Prop := fun vs H Q => ∃ (a : Addr) (xs : List V) (hs : List Hol), vs = [V.ref a] ∧ (SqL K H a xs ∨ SqT K H a xs) ∧ Paired (HolV H) xs hs ∧
  ∀ (ys : List V) (p : Addr), Paired (HolV H) ys (sortH hs) → H p = none → Q (.ref p) (upd H p (.lst ys))
section
variable {X : Cx}
theorem cr_sortedH (hu : X.A.units + 64 < cLine) : CallR X (.builtin "sorted") (rSortH X.K) := by
  intro pins s σ H vs us Q I r h
  obtain ⟨a, xs, hs, rfl, hq, pr, q⟩ := h
  obtain ⟨u, rfl, ru⟩ := vals1 r
  obtain rfl : u = Value.ref a := ru
  have main : ∀ its : List Value, Vals xs its → xs.length ≤ sizeLine → (∀ R' : List Value → Shared → Prop, R' its { s with heap := (s.heap.push (seqObj "list" #[] 0)).update s.heap.objs.size (Obj.mapSeq (· ++ its.toArray)) } → wpAny (model X.prog X.w) X.A.in1 (collect (.ref a)) R' (fun e s' => X.xe e s') s) →
      wpAny (model X.prog X.w) X.A (call (.builtin "sorted") [.ref a]) (EP X pins σ Q) X.xe s := by
    intro its rv hz hcol
    have e0 := each_of (H := H) pr rv
    have hn : its.length = hs.length := e0.length
    have hxs : xs.length = hs.length := pr_len pr
    refine sorted_core (bs := hs) (enc := encH) (R := fun v b => ∃ x, RelV x v ∧ HolV H x b) (PySem.W.AllAlike.of alike_HH) (PySem.W.Sortable.tuples fun b => ⟨_, _, rfl⟩) (by omega) (fun b _ => by have := dep_H b; omega) (fun R' hR => ?_) fun h2 tk out l n hl hk2 ho hlen e => ?_
    · have kp : ∀ b o, s.heap.get? b = some o → ((s.heap.push (seqObj "list" #[] 0)).update s.heap.objs.size (Obj.mapSeq (· ++ its.toArray))).get? b = some o := fun b o e => by
        rw [Heap.get?_update_ne _ _ _ _ (Nat.ne_of_lt (Heap.lt_size e))]
        exact Heap.get?_push_of_some _ e
      refine wpAny_mono (hcol R' (hR _ s.toks its (by rw [Heap.size_update, size_push']; exact Nat.le_succ _) kp e0 (e0.mono fun v b z => ?_))) (fun _ _ z => z) fun e s' z => ?_
      · obtain ⟨x, rx, hx⟩ := z
        obtain ⟨as, rd⟩ := Dp.reads I (encH b) x v hx.dp rx
        exact ⟨as, PyProof.Rows.Reads.keeps kp rd⟩
      · exact z
    · rw [dataLe_H] at e
      obtain ⟨ys, vy, py⟩ := each_back e
      have hys : ys.length = hs.length := by rw [pr_len py]; exact sortH_len hs
      exact ⟨.ref l, upd H l (.lst ys), I.laid (t' := tk) hk2 hl ⟨by omega, out, n, vy, ho⟩, rfl, q ys l py (I.hok.fresh hl)⟩
  rcases hq with hq | hq
  · obtain ⟨its, rv, pl, hz⟩ := I.list hq
    have hl := rv.length
    exact main its rv hz fun R' hR => collect_list pl.isList hR (by omega)
  · obtain ⟨its, rv, pl, hz⟩ := I.tuple hq
    have hl := rv.length
    exact main its rv hz fun R' hR => collect_tuple (show s.heap.IsTuple a its.toArray from pl) hR (by omega)
/-- d.items(), a new view -/
def rItemsK : V → List V → Hp → VK → Prop := fun x xs H Q => ∃ (a : Addr) (kvs : List (Key × V)), x = .ref a ∧ xs = [] ∧ H a = some (.dK kvs) ∧ ∀ p, H p = none → Q (.ref p) (upd H p (L2.DX.itemsO p a))
theorem mt_itemsK : MtR X "dict.items" rItemsK := by
  intro pins s σ H x xs v us Q I rx rxs h
  obtain ⟨a, kvs, rfl, rfl, ha, q⟩ := h
  cases rx
  cases rxs
  obtain ⟨z, hd, vs, rel, o, es, ep, ho, hx, hdat, _⟩ := dk_of I.hok ha
  refine DT.callItems (es := es) (ep := ep) hd ⟨o, ho, hx, hdat⟩ ?_
  have hf : H s.heap.objs.size = none := I.hok.fresh (Nat.le_refl _)
  exact ⟨.ref s.heap.objs.size, upd H s.heap.objs.size (L2.DX.itemsO s.heap.objs.size a), I.laid (t' := s.toks) (fun b u e => Heap.get?_push_of_some _ e) (Nat.le_refl _) (L2.DX.itemsO_ok (Heap.get?_push_size _ rfl)), rfl, q _ hf⟩
abbrev encP (p : Int × Int) : PyData := .tuple [.int p.1, .int p.2]
/-- sorted(d.items()), keys and values ints: a new list -/
def rSortIt : List V → Hp → VK → Prop := fun vs H Q => ∃ (p a : Addr) (ks : List (Int × Int)), vs = [.ref p] ∧ H p = some (L2.DX.itemsO p a) ∧ H a = some (.dK (ks.map fun k => (Sum.inl k.1, V.int k.2))) ∧
  ∀ (ys : List V) (l : Addr), H l = none → Q (.ref l) (upd H l (.lst ys))
theorem pairs_at {P : Program} {w : World} {ds : List DictEntry} {vs : List (Key × Value)} (hp : Pairs (mixKind P w) ds vs) : ∀ {ks : List (Int × Int)}, KV (ks.map fun k => ((Sum.inl k.1 : Key), V.int k.2)) vs → ∀ {j : Nat} {e : DictEntry} {k : Int × Int}, ds[j]? = some e → ks[j]? = some k →
    (∃ t, e.key = .int k.1 t) ∧ ∃ t, e.val = .int k.2 t := by
  induction hp with
  | nil =>
    intro ks _ j e k he _
    simp at he
  | cons h1 h2 _ ih =>
    intro ks r j e k he hk
    cases ks with
    | nil => simp at hk
    | cons k0 ks =>
      cases r with
      | cons r1 r2 =>
        cases j with
        | zero =>
          have e1 := Option.some.inj he
          have e2 := Option.some.inj hk
          subst e1 e2
          obtain ⟨ek, rv⟩ := r1
          rw [← ek] at h1
          refine ⟨?_, ?_⟩
          · rcases keyIs_shape (show keyIs (Sum.inl k0.1) _ = true from h1) with ⟨i, t, a, b⟩ | ⟨x, t, a, b⟩
            · cases a
              exact ⟨t, b⟩
            · cases a
          · rw [h2]
            exact rv
        | succ j => exact ih r2 (j := j) he hk
theorem cr_sortedIt (hc : X.calm = true) (hu : X.A.units + 64 < cLine) : CallR X (.builtin "sorted") rSortIt := by
  intro pins s σ H xs us Q I r h
  obtain ⟨p, a, ks, rfl, hp, ha, q⟩ := h
  obtain rfl := Vals.ref1 r
  have view : s.heap.IsItemsView p a := (show ObjOk X.prog X.w H s.heap p (L2.DX.itemsO p a) from I.hok p _ hp).1
  obtain ⟨z, hd, vs, rel, o, es, ep, ho, hx, hdat, hko, hes, hn⟩ := dk_of I.hok ha
  have l1 : (ks.map fun k => ((Sum.inl k.1 : Key), V.int k.2)).length = vs.length := Paired.length rel
  rw [List.length_map] at l1 z
  have l2 : es.size = vs.length := by rw [← Array.length_toList]; exact hes.length
  refine sorted_core (bs := ks) (enc := encP) (R := fun v _ => ∃ x, RelV x v) (PySem.W.AllAlike.of fun b b' => by simp [PySem.W.alike, PySem.W.alikeAll]) (PySem.W.Sortable.tuples fun b => ⟨_, _, rfl⟩) z (fun b _ => by simp [PyData.depth, PyData.depthAll]; omega) (fun R' hR => ?_) fun h2 tk out l n hl hk2 hol hlen e => ?_
  · refine DT.collectI (A := X.A.in1) (es := es) (ep := ep) (I.ok.hd hc) view ⟨o, ho, hx, hdat⟩ (by omega) fun h' tk as hk hlt hl hG => ?_
    have lak : (as.map Value.ref).length = ks.length := by rw [List.length_map]; omega
    refine hR h' tk _ (Nat.le_of_lt hlt) hk (each_get lak fun j v k hv _ => by
      rw [List.getElem?_map] at hv
      obtain ⟨b, _, rfl⟩ := Option.map_eq_some_iff.mp hv
      exact ⟨.ref b, rfl⟩) (each_get lak fun j v k hv hk' => ?_)
    rw [List.getElem?_map] at hv
    obtain ⟨b, hb, rfl⟩ := Option.map_eq_some_iff.mp hv
    obtain ⟨en, he, hg⟩ := hG.pairs j b hb
    obtain ⟨⟨t1, e1⟩, ⟨t2, e2⟩⟩ := pairs_at hes rel (j := j) (by rw [Array.getElem?_toList]; exact he) hk'
    rw [e1, e2] at hg
    exact ⟨_, Reads.tuple hg rfl rfl (ReadsAll.cons (Reads.int _ _) (ReadsAll.cons (Reads.int _ _) ReadsAll.nil))⟩
  · have hys : ∃ ys, Vals ys out := by
      have go : ∀ (o : List Value) (bs : List (Int × Int)), PySem.W.EachIs (fun v _ => ∃ x, RelV x v) o bs → ∃ ys, Vals ys o := by
        intro o bs hh
        induction hh with
        | nil => exact ⟨[], .nil⟩
        | cons h1 _ ih =>
          obtain ⟨x, rx⟩ := h1
          obtain ⟨ys, ry⟩ := ih
          exact ⟨x :: ys, .cons rx ry⟩
      exact go out _ e
    obtain ⟨ys, vy⟩ := hys
    have hl2 := vy.length
    exact ⟨.ref l, upd H l (.lst ys), I.laid (t' := tk) hk2 hl ⟨by omega, out, n, vy, hol⟩, rfl, q ys l (I.hok.fresh hl)⟩
end
end K6

set_option Elab.async false
set_option linter.all false
set_option maxRecDepth 100000
set_option maxHeartbeats 4000000
/-! K06, part D1: the text by places, what the top holds, the checks. -/
namespace K6
open PySem PySem.Spec PyProof.Rows L2

/-! ### the text -/
def topS (i : Nat) : Stmt := PySem.Challenge.pw_roundowned_k06_whole_sales_and_foundings.main.body.getD i (.Pass ⟨0, 0, 0, 0⟩)
abbrev sInt : Stmt := topS 8
abbrev sWithin : Stmt := topS 9
abbrev sPair : Stmt := topS 10
abbrev sRising : Stmt := topS 11
abbrev sHolderOf : Stmt := topS 16
abbrev sShares : Stmt := topS 17
abbrev sWInit : Stmt := inClass (topS 18) 0
abbrev sKeep : Stmt := inClass (topS 18) 1
abbrev sEq : Stmt := inClass (topS 18) 2
abbrev sRInit : Stmt := inClass (topS 19) 0
abbrev sRaw : Stmt := topS 20
abbrev sIsHouse : Stmt := topS 21
abbrev sChHouse : Stmt := topS 22
abbrev sIsHolder : Stmt := topS 23
abbrev sChHolder : Stmt := topS 24
abbrev sHeldOf : Stmt := topS 25
abbrev sHeld : Stmt := topS 26
abbrev sSold : Stmt := topS 28
abbrev sChShares : Stmt := topS 29
abbrev sFounded : Stmt := topS 30
abbrev sPool : Stmt := topS 32
abbrev sDraw : Stmt := topS 33
abbrev sHolder : Stmt := topS 34
abbrev sTold : Stmt := topS 35
abbrev sWeb : Stmt := topS 36
abbrev sLaw : Stmt := topS 37

/-! ### what of the top is asked -/
structure Bi (mg : Str → Option Value) : Prop where
  isi : mg "isinstance" = none
  int : mg "int" = none
  bool : mg "bool" = none
  str : mg "str" = none
  tuple : mg "tuple" = none
  list : mg "list" = none
  len : mg "len" = none
  all : mg "all" = none
  range : mg "range" = none
  enum : mg "enumerate" = none
  sorted : mg "sorted" = none
  abs : mg "abs" = none
  sum : mg "sum" = none
  mf : ∃ u, mg "MOST_FOLK" = some u ∧ RelV (.int 6) u
  mh : ∃ u, mg "MOST_HOUSES" = some u ∧ RelV (.int 12) u
  ms : ∃ u, mg "MOST_SHARES" = some u ∧ RelV (.int 15) u
theorem bt_isi : bootBuiltins "isinstance" = some (.builtin "isinstance") := by decide +kernel
theorem bt_int : bootBuiltins "int" = some (.type "int") := by decide +kernel
theorem bt_bool : bootBuiltins "bool" = some (.type "bool") := by decide +kernel
theorem bt_str : bootBuiltins "str" = some (.type "str") := by decide +kernel
theorem bt_tuple : bootBuiltins "tuple" = some (.type "tuple") := by decide +kernel
theorem bt_list : bootBuiltins "list" = some (.type "list") := by decide +kernel
theorem bt_len : bootBuiltins "len" = some (.builtin "len") := by decide +kernel
theorem bt_all : bootBuiltins "all" = some (.builtin "all") := by decide +kernel
theorem bt_sorted : bootBuiltins "sorted" = some (.builtin "sorted") := by decide +kernel
theorem bt_abs : bootBuiltins "abs" = some (.builtin "abs") := by decide +kernel
theorem bt_sum : bootBuiltins "sum" = some (.builtin "sum") := by decide +kernel
theorem same_upd {H : Hp} {p : Addr} {o : HO} (h : H p = none) : Same H (upd H p o) := fun b x e => by
  rw [upd_ne (ne_of_none e h)]
  exact e

section
variable {P : Program} {w : World} {K : PySem.W.Frag} {mg : Str → Option Value} {base : Heap} {f : Addr} {fd : FuncData}

/-! ### is_integer, is_within, is_pair -/
theorem sc_int : FnScope ["thing"] ["thing"] (C8.fnScope sInt) := ⟨rfl, rfl, rfl, by decide +kernel, rfl, by decide +kernel, by decide +kernel⟩
def spInt : Sp := fun vs H Q _ => ∃ i : Int, vs = [.int i] ∧ Q (.bl true) H
theorem cal_int (D : C8.Def K mg "is_integer" sInt f fd) (b : Binds K fd ["thing"] []) (B : Bi mg) : C8.Cal P w K mg base 1 "is_integer" spInt [] := by
  refine C8.cal0 D b .nil sc_int (fun vs H Q E h => ?_) (fun cdv A outer s H vs Q E hr h => ?_)
  · obtain ⟨i, rfl, _⟩ := h
    rfl
  · obtain ⟨i, rfl, q⟩ := h
    refine ⟨_, pss_one (ps_ret (pe_and (pe_callB call_isi (by rfl) B.isi bt_isi (pa_cons (pv 0) (pa_cons (pe_bltn (v := .ty "int") (by rfl) B.int bt_int rfl) pa_nil)))
      (pe_one (pe_not (pe_callB call_isi (by rfl) B.isi bt_isi (pa_cons (pv 0) (pa_cons (pe_bltn (v := .ty "bool") (by rfl) B.bool bt_bool rfl) pa_nil))))))), ?_⟩
    refine ⟨_, rfl, .int i, .ty "int", .type "int", .type "int", true, rfl, .ty "int", .base (.int i), kit_ty (by decide +kernel), true, rfl, iteT ?_⟩
    refine ⟨_, rfl, .int i, .ty "bool", .type "int", .type "bool", false, rfl, .ty "bool", .base (.int i), kit_ty (by decide +kernel), false, rfl, ?_⟩
    exact q
theorem sc_within : FnScope ["thing", "least", "most"] ["thing", "least", "most"] (C8.fnScope sWithin) := ⟨rfl, rfl, rfl, by decide +kernel, rfl, by decide +kernel, by decide +kernel⟩
def spWithin : Sp := fun vs H Q _ => ∃ i a b : Int, vs = [.int i, .int a, .int b] ∧ Q (.bl (decide (a ≤ i) && decide (i ≤ b))) H
theorem cal_within (D : C8.Def K mg "is_within" sWithin f fd) (b : Binds K fd ["thing", "least", "most"] []) (G : C8.Cal P w K mg base 1 "is_integer" spInt []) : C8.Cal P w K mg base 2 "is_within" spWithin [] := by
  refine C8.cal0 D b .nil sc_within (fun vs H Q E h => ?_) (fun cdv A outer s H vs Q E hr h => ?_)
  · obtain ⟨i, a, b, rfl, _⟩ := h
    rfl
  · obtain ⟨i, a, b, rfl, q⟩ := h
    refine ⟨_, pss_one (ps_ret (pe_and (C8.pe_c G hr (by decide) (by rfl) (pa_cons (pv 0) pa_nil)) (pe_one (pe_chain op_le op_le (pv 1) (pv 0) (pv 2))))), ?_⟩
    refine ⟨_, rfl, i, rfl, true, rfl, iteT ?_⟩
    refine ⟨_, rfl, _, rfl, a, i, rfl, rfl, _, rfl, ite2 (fun e => ?_) (fun e => ?_)⟩
    · refine ⟨_, rfl, i, b, rfl, rfl, ?_⟩
      rw [e, Bool.true_and] at q
      exact q
    · have e' : decide (a ≤ i) = false := by simpa using e
      rw [e', Bool.false_and] at q
      exact q
theorem sc_pair : FnScope ["thing"] ["thing"] (C8.fnScope sPair) := ⟨rfl, rfl, rfl, by decide +kernel, rfl, by decide +kernel, by decide +kernel⟩
def spPair : Sp := fun vs H Q _ => ∃ (p : Addr) (x y : V), vs = [.ref p] ∧ H p = some (.tup [x, y]) ∧ Q (.bl true) H
theorem cal_pair (D : C8.Def K mg "is_pair" sPair f fd) (b : Binds K fd ["thing"] []) (B : Bi mg) : C8.Cal P w K mg base 1 "is_pair" spPair [] := by
  refine C8.cal0 D b .nil sc_pair (fun vs H Q E h => ?_) (fun cdv A outer s H vs Q E hr h => ?_)
  · obtain ⟨p, x, y, rfl, _⟩ := h
    rfl
  · obtain ⟨p, x, y, rfl, hp, q⟩ := h
    refine ⟨_, pss_one (ps_ret (pe_and (pe_callB call_isi (by rfl) B.isi bt_isi (pa_cons (pv 0) (pa_cons (pe_bltn (v := .ty "tuple") (by rfl) B.tuple bt_tuple rfl) pa_nil)))
      (pe_one (pe_cmpR op_eq (pe_callB call_len_seq (by rfl) B.len bt_len (pa_cons (pv 0) pa_nil)) pe_int (nomark _))))), ?_⟩
    refine ⟨_, rfl, .ref p, .ty "tuple", .type "tuple", .type "tuple", true, rfl, .ty "tuple", .base (.tup hp), kit_ty (by decide +kernel), true, rfl, iteT ?_⟩
    exact ⟨_, rfl, p, [x, y], rfl, .inr (SqT.of hp), rfl, q⟩

/-! ### is_holder_of, are_rising, are_shares -/
theorem sc_holderOf : FnScope ["thing", "folk", "houses"] ["thing", "folk", "houses"] (C8.fnScope sHolderOf) := ⟨rfl, rfl, rfl, by decide +kernel, rfl, by decide +kernel, by decide +kernel⟩
def spHolderOf : Sp := fun vs H Q _ => ∃ (v : V) (h : Hol) (folk houses : Int), vs = [v, .int folk, .int houses] ∧ HolV H v h ∧ okHol folk houses h ∧ Q (.bl true) H
theorem cal_holderOf (D : C8.Def K mg "is_holder_of" sHolderOf f fd) (b : Binds K fd ["thing", "folk", "houses"] []) (B : Bi mg) (GP : C8.Cal P w K mg base 1 "is_pair" spPair []) (GW : C8.Cal P w K mg base 2 "is_within" spWithin []) :
    C8.Cal P w K mg base 3 "is_holder_of" spHolderOf [] := by
  refine C8.cal0 D b .nil sc_holderOf (fun vs H Q E h => ?_) (fun cdv A outer s H vs Q E hr h => ?_)
  · obtain ⟨v, h, folk, houses, rfl, _⟩ := h
    rfl
  · obtain ⟨v, ⟨b, k⟩, folk, houses, rfl, ⟨p, rfl, hp⟩, ok, q⟩ := h
    refine ⟨_, pss_cons (ps_if (PW.pt (pw_or (pt_not (pt_val (C8.pe_c GP hr (by decide) (by rfl) (pa_cons (pv 0) pa_nil))))
        (pw_or1 (pt_not (pt_val (pe_callB call_isi (by rfl) B.isi bt_isi (pa_cons (pe_ix ix_tup (pv 0) pe_int (fun _ _ => rfl)) (pa_cons (pe_bltn (v := .ty "str") (by rfl) B.str bt_str rfl) pa_nil))))))))
        (pss_one (ps_ret pe_bl)) pss_nil)
      (pss_cons (ps_if (pt_cmpR op_eq (pe_ix ix_tup (pv 0) pe_int (fun _ _ => rfl)) pe_str (nomark _))
        (pss_one (ps_ret (C8.pe_c GW hr (by decide) (by rfl) (pa_cons (pe_ix ix_tup (pv 0) pe_int (fun _ _ => rfl)) (pa_cons pe_int (pa_cons (pe_op op_sub (pv 1) pe_int) pa_nil)))))) pss_nil)
      (pss_one (ps_ret (pe_and (pe_cmpR op_eq (pe_ix ix_tup (pv 0) pe_int (fun _ _ => rfl)) pe_str (nomark _))
        (pe_one (C8.pe_c GW hr (by decide) (by rfl) (pa_cons (pe_ix ix_tup (pv 0) pe_int (fun _ _ => rfl)) (pa_cons pe_int (pa_cons (pe_op op_sub (pv 2) pe_int) pa_nil))))))))), ?_⟩
    have i0 : atI [V.str (sg b), .int k] 0 = some (.str (sg b)) := atI_nat (j := 0) rfl
    have i1 : atI [V.str (sg b), .int k] 1 = some (.int k) := atI_nat (j := 1) rfl
    obtain ⟨k0, kf, kh⟩ := ok
    -- if not is_pair(thing) or not isinstance(thing[0], str)
    refine ⟨_, rfl, p, _, _, rfl, hp, true, rfl, iteF ?_⟩
    refine ⟨_, rfl, p, _, 0, _, rfl, rfl, SqT.of hp, i0, .str (sg b), .ty "str", .type "str", .type "str", true, rfl, .ty "str", .base (.str _), kit_ty (by decide +kernel), true, rfl, iteF ?_⟩
    -- if thing[0] == "f"
    refine ⟨_, rfl, p, _, 0, _, rfl, rfl, SqT.of hp, i0, rfl, _, rfl, ?_⟩
    cases b with
    | false =>
      have e : decide (V.str (sg false) = V.str "f") = true := by decide +kernel
      rw [e]
      refine iteT ?_
      refine ⟨_, rfl, p, _, 1, _, rfl, rfl, SqT.of hp, i1, _, rfl, folk, 1, rfl, rfl, k, 0, folk - 1, rfl, ?_⟩
      have e2 : (decide (0 ≤ k) && decide (k ≤ folk - 1)) = true := by
        have := kf rfl
        simp at k0
        rw [decide_eq_true k0, decide_eq_true (by omega : k ≤ folk - 1)]
        rfl
      rw [e2]
      exact q
    | true =>
      have e : decide (V.str (sg true) = V.str "f") = false := by decide +kernel
      rw [e]
      refine iteF ?_
      refine ⟨_, rfl, p, _, 0, _, rfl, rfl, SqT.of hp, i0, rfl, _, rfl, ?_⟩
      have e3 : decide (V.str (sg true) = V.str "h") = true := by decide +kernel
      rw [e3]
      refine iteT ?_
      refine ⟨_, rfl, p, _, 1, _, rfl, rfl, SqT.of hp, i1, _, rfl, houses, 1, rfl, rfl, k, 0, houses - 1, rfl, ?_⟩
      have e2 : (decide (0 ≤ k) && decide (k ≤ houses - 1)) = true := by
        have := kh rfl
        simp at k0
        rw [decide_eq_true k0, decide_eq_true (by omega : k ≤ houses - 1)]
        rfl
      rw [e2]
      exact q
end
end K6

set_option Elab.async false
set_option linter.all false
set_option maxRecDepth 100000
set_option maxHeartbeats 4000000
/-! K06, part D2: are_rising, are_shares. -/
namespace K6
open PySem PySem.Spec PyProof.Rows L2
section
variable {P : Program} {w : World} {K : PySem.W.Frag} {mg : Str → Option Value} {base : Heap} {f : Addr} {fd : FuncData}
theorem all_true (n : Nat) : (List.replicate n true).all id = true := by simp
theorem snoc_true (n : Nat) : (List.replicate n true).map V.bl ++ [V.bl true] = (List.replicate (n + 1) true).map V.bl := by
  rw [List.replicate_succ', List.map_append]
  rfl
theorem sc_rising : FnScope ["things", "at"] ["things"] (C8.fnScope sRising) := ⟨rfl, rfl, rfl, by decide +kernel, rfl, by decide +kernel, by decide +kernel⟩
def spRising : Sp := fun vs H Q _ => ∃ (v : V) (hs : List Hol), vs = [v] ∧ HouV H v hs ∧ Srt hs ∧ hs.length ≤ 15 ∧ ∀ H', Same H H' → Q (.bl true) H'
theorem cal_rising (D : C8.Def K mg "are_rising" sRising f fd) (b : Binds K fd ["things"] []) (B : Bi mg) : C8.Cal P w K mg base 1 "are_rising" spRising [] := by
  refine C8.cal0 D b .nil sc_rising (fun vs H Q E h => ?_) (fun cdv A outer s H vs Q E hr h => ?_)
  · obtain ⟨v, hs, rfl, _⟩ := h
    rfl
  · obtain ⟨v, hs, rfl, ⟨a, vs, rfl, ha, pr⟩, srt, h15, q⟩ := h
    have hu := hu_of hr
    refine ⟨_, pss_one (ps_ret (pe_callB (cr_all rfl) (by rfl) B.all bt_all (pa_cons (pe_lc (own := [("at", 1)]) (g := gName 1) (tt := tYes) rfl sc_rising.nd
      (pi_range2 (by rfl) B.range (pa_cons pe_int (pa_cons (pe_callB call_len_seq (by rfl) B.len bt_len (pa_cons (pv 0) pa_nil)) pa_nil)))
      (blkOk_by (N := ["things", "at"]) (sc := C8.fnScope sRising) (by decide +kernel)) (fun _ _ _ _ _ => pg_name (i := 1) sc_rising.nd rfl (Or.inl rfl)) (fun _ _ _ _ _ => pts_nil)
      (fun _ _ _ _ _ => pe_cmpR (op_leH hu) (pe_ix (r := rIxT K) ix_tup (pv 0) (pe_op op_sub (pv 1) pe_int) (fun _ _ => rfl)) (pe_ix (r := rIxT K) ix_tup (pv 0) (pv 1) (fun _ _ => rfl)) (nomark _))) pa_nil))), ?_⟩
    have hl := pr_len pr
    refine ⟨_, rfl, a, vs, rfl, .inr (SqT.of ha), 1, _, rfl, ⟨by omega, by omega, by omega, by omega⟩, fun L hL => ?_⟩
    refine lc_range (lo := 1) (n := ((vs.length : Int) - 1).toNat) (fun i H' => Same H H' ∧ H' L = some (.lst ((List.replicate i true).map V.bl))) ⟨same_upd hL, upd_same⟩ (fun i H' hi hp => ?_) (fun H' hp => ?_)
    · obtain ⟨sm, eL⟩ := hp
      have hi1 : i + 1 < vs.length := by omega
      have g0 : vs[i]? = some vs[i] := List.getElem?_eq_getElem (by omega)
      have g1 : vs[i + 1]? = some vs[i + 1] := List.getElem?_eq_getElem hi1
      obtain ⟨h0, e0, x0⟩ := pr_get pr g0
      obtain ⟨h1, e1, x1⟩ := pr_get pr g1
      have le : leB h0 h1 = true := by
        obtain ⟨l0, q0⟩ := List.getElem?_eq_some_iff.mp e0
        obtain ⟨l1, q1⟩ := List.getElem?_eq_some_iff.mp e1
        rw [← q0, ← q1]
        exact List.pairwise_iff_getElem.mp srt i (i + 1) l0 l1 (Nat.lt_succ_self i)
      refine ⟨rfl, ?_⟩
      refine ⟨_, rfl, _, rfl, _, _, rfl, rfl, a, vs, _, vs[i], rfl, rfl, SqT.of (sm _ _ ha), ?_, ?_⟩
      · rw [show (1 + (i : Int) - 1) = ((i : Nat) : Int) by omega]
        exact atI_nat g0
      refine ⟨_, rfl, _, rfl, a, vs, _, vs[i + 1], rfl, rfl, SqT.of (sm _ _ ha), ?_, ?_⟩
      · rw [show (1 + (i : Int)) = ((i + 1 : Nat) : Int) by omega]
        exact atI_nat g1
      refine ⟨h0, h1, x0.tk (TK.of sm), x1.tk (TK.of sm), ?_⟩
      rw [le]
      refine ⟨_, eL, ?_, fun c o e => ?_, ?_⟩
      · rw [List.length_map, List.length_replicate]
        exact small1000 (by omega)
      · have nc : c ≠ L := ne_of_none e hL
        rw [upd_ne nc]
        exact sm _ _ e
      · rw [upd_same, snoc_true]
    · obtain ⟨sm, eL⟩ := hp
      refine ⟨L, _, rfl, SqL.of eL, ?_⟩
      rw [all_true]
      exact q H' sm
theorem sc_shares : FnScope ["thing", "folk", "houses", "holder"] ["thing", "folk", "houses"] (C8.fnScope sShares) := ⟨rfl, rfl, rfl, by decide +kernel, rfl, by decide +kernel, by decide +kernel⟩
def spShares : Sp := fun vs H Q _ => ∃ (v : V) (hs : List Hol) (folk houses : Int), vs = [v, .int folk, .int houses] ∧ HouV H v hs ∧ okHou folk houses hs ∧ ∀ H', Same H H' → Q (.bl true) H'
theorem cal_shares (D : C8.Def K mg "are_shares" sShares f fd) (b : Binds K fd ["thing", "folk", "houses"] []) (B : Bi mg) (GH : C8.Cal P w K mg base 3 "is_holder_of" spHolderOf []) (GR : C8.Cal P w K mg base 1 "are_rising" spRising []) :
    C8.Cal P w K mg base 4 "are_shares" spShares [] := by
  refine C8.cal0 D b .nil sc_shares (fun vs H Q E h => ?_) (fun cdv A outer s H vs Q E hr h => ?_)
  · obtain ⟨v, hs, folk, houses, rfl, _⟩ := h
    rfl
  · obtain ⟨v, hs, folk, houses, rfl, hv, ok, q⟩ := h
    obtain ⟨a, vs, rfl, ha, pr⟩ := id hv
    refine ⟨_, pss_cons (ps_if (PW.pt (pw_or (pt_not (pt_val (pe_callB call_isi (by rfl) B.isi bt_isi (pa_cons (pv 0) (pa_cons (pe_bltn (v := .ty "tuple") (by rfl) B.tuple bt_tuple rfl) pa_nil)))))
        (pw_or (pt_not (pt_chain op_le op_le pe_int (pe_callB call_len_seq (by rfl) B.len bt_len (pa_cons (pv 0) pa_nil)) (C8.pe_gc (by rfl) B.ms)))
        (pw_or1 (pt_cmpR op_eq (pe_op op_mod (pe_callB call_len_seq (by rfl) B.len bt_len (pa_cons (pv 0) pa_nil)) pe_int) pe_int (nomark _))))))
        (pss_one (ps_ret pe_bl)) pss_nil)
      (pss_one (ps_ret (pe_and (pe_callB (cr_all rfl) (by rfl) B.all bt_all (pa_cons (pe_lc (own := [("holder", 3)]) (g := gName 3) (tt := tYes) rfl sc_shares.nd (pi_tup (pv 0))
          (blkOk_by (N := ["thing", "folk", "houses", "holder"]) (sc := C8.fnScope sShares) (by decide +kernel)) (fun _ _ _ _ _ => pg_name (i := 3) sc_shares.nd rfl (Or.inl rfl)) (fun _ _ _ _ _ => pts_nil)
          (fun _ _ _ _ _ => C8.pe_c GH hr (by decide) (by rfl) (pa_cons (pv 3) (pa_cons (pv 1) (pa_cons (pv 2) pa_nil))))) pa_nil))
        (pe_one (C8.pe_c GR hr (by decide) (by rfl) (pa_cons (pv 0) pa_nil)))))), ?_⟩
    have hl := pr_len pr
    have h15 := ok.most
    have hodd := ok.odd
    refine ⟨_, rfl, .ref a, .ty "tuple", .type "tuple", .type "tuple", true, rfl, .ty "tuple", .base (.tup ha), kit_ty (by decide +kernel), true, rfl, iteF ?_⟩
    refine ⟨_, rfl, a, vs, rfl, .inr (SqT.of ha), 1, _, rfl, rfl, _, rfl, ?_⟩
    rw [decide_eq_true (show (1 : Int) ≤ (vs.length : Int) by omega)]
    refine iteT ?_
    refine ⟨_, _, rfl, rfl, _, rfl, ?_⟩
    rw [decide_eq_true (show (vs.length : Int) ≤ 15 by omega)]
    refine iteF ?_
    refine ⟨_, rfl, a, vs, rfl, .inr (SqT.of ha), _, _, rfl, rfl, (by show (0 : Int) < 2; decide), rfl, _, rfl, ?_⟩
    have e1 : decide (V.int ((vs.length : Int) % 2) = V.int 0) = false := by
      refine decide_eq_false fun z => ?_
      have := V.int.inj z
      omega
    rw [e1]
    refine iteF ?_
    -- all([is_holder_of(holder, folk, houses) for holder in thing])
    refine ⟨_, rfl, a, rfl, ⟨_, SqT.of ha⟩, fun L hL => ?_⟩
    refine lc_tup (xs := vs) (fun i H' => Same H H' ∧ H' L = some (.lst ((List.replicate i true).map V.bl))) ⟨same_upd hL, upd_same⟩ (fun i H' _ hp => SqT.of (hp.1 _ _ ha)) (fun i x H' hx hp => ?_) (fun H' hp => ?_)
    · obtain ⟨sm, eL⟩ := hp
      obtain ⟨h0, e0, x0⟩ := pr_get pr hx
      have hi := (List.getElem?_eq_some_iff.mp hx).1
      refine ⟨rfl, ?_⟩
      refine ⟨_, rfl, _, rfl, _, rfl, x, h0, folk, houses, rfl, x0.tk (TK.of sm), ok.all h0 (List.mem_of_getElem? e0), ?_⟩
      refine ⟨_, eL, ?_, fun c o e => ?_, ?_⟩
      · rw [List.length_map, List.length_replicate]
        exact small1000 (by omega)
      · have nc : c ≠ L := ne_of_none e hL
        rw [upd_ne nc]
        exact sm _ _ e
      · rw [upd_same, snoc_true]
    · obtain ⟨sm, eL⟩ := hp
      refine ⟨L, _, rfl, SqL.of eL, true, ?_, iteT ?_⟩
      · rw [all_true]
      · exact ⟨_, rfl, _, hs, rfl, hv.tk (TK.of sm), ok.srt, ok.most, fun H2 s2 => q H2 (sm.trans s2)⟩
end
end K6

set_option Elab.async false
set_option linter.all false
set_option maxRecDepth 100000
set_option maxHeartbeats 4000000
/-! K06, part D3: Web.keep. -/
namespace K6
open PySem PySem.Spec PyProof.Rows L2

/-! ### the class and its instances -/
structure Cl (K : PySem.W.Frag) (CW C : Addr) : Prop where
  cl : Cls K C
  nF : NoAttr K C "folk"
  nH : NoAttr K C "houses"
  n1 : NoAttr K C "kept_folk"
  n2 : NoAttr K C "kept_houses"
  n3 : NoAttr K C "kept_half"
  ha : PySem.W.findIn K (.ref C) "__class__" = some (some (.builtin "object.__class__"))
  hn : PySem.W.specialIn K (.builtin "object.__class__") "__get__" = some (some (.builtin "getset_descriptor.__get__"))
  htk : PySem.W.takesIn K (.builtin "object.__class__") = some true
  hm : PySem.W.mroIn K C (.type "object") = some true
  ki : PySem.W.kitOne K (.ref C) (.ref CW) = some true
  nf : PySem.W.notFirst K C (.ref CW) = true
  ne : PySem.W.findIn K (.ref C) "__ne__" = some (some (.builtin "object.__ne__"))
def WebV (C : Addr) (H : Hp) (v : V) (folk : Int) (t : Town) : Prop := ∃ (p dx : Addr) (fs : List (Str × V)) (hv : V), v = .ref p ∧ H p = some (.ins C dx fs) ∧ fs.lookup ("folk" : Str) = some (.int folk) ∧ fs.lookup ("houses" : Str) = some hv ∧ TowV H hv t
/-- all but lists is kept -/
def NL (H H' : Hp) : Prop := ∀ a o, H a = some o → (∀ xs, o ≠ .lst xs) → H' a = some o
theorem NL.of {H H' : Hp} (s : Same H H') : NL H H' := fun a o e _ => s a o e
theorem NL.tk {H H' : Hp} (s : NL H H') : TK H H' := fun a xs e => s a _ e (fun ys z => nomatch z)
theorem NL.trans {H H1 H2 : Hp} (a : NL H H1) (b : NL H1 H2) : NL H H2 := fun c o e n => b c o (a c o e n) n
theorem WebV.nl {C : Addr} {H H' : Hp} {v : V} {folk : Int} {t : Town} (x : WebV C H v folk t) (s : NL H H') : WebV C H' v folk t := by
  obtain ⟨p, dx, fs, hv, e, hp, h1, h2, h3⟩ := x
  exact ⟨p, dx, fs, hv, e, s _ _ hp (fun ys z => nomatch z), h1, h2, h3.tk s.tk⟩

/-! ### the counts of a house's owners -/
abbrev enK (k : Int × Int) : Key × V := (Sum.inl k.1, V.int k.2)
theorem own_put (ks : List (Int × Int)) (n m : Int) : ∃ ks' : List (Int × Int), putK (ks.map enK) (Sum.inl n : Key) (V.int m) = ks'.map enK ∧ ks'.length ≤ ks.length + 1 := by
  unfold putK
  split
  · refine ⟨ks.map fun k => if k.1 = n then (k.1, m) else k, ?_, by rw [List.length_map]; exact Nat.le_succ _⟩
    rw [List.map_map, List.map_map]
    refine List.map_congr_left fun k _ => ?_
    show (if (Sum.inl k.1 : Key) = Sum.inl n then ((Sum.inl k.1 : Key), V.int m) else enK k) = enK (if k.1 = n then (k.1, m) else k)
    by_cases e : k.1 = n
    · rw [if_pos e, if_pos (congrArg Sum.inl e)]
    · rw [if_neg e, if_neg (fun z => e (Sum.inl.inj z))]
  · exact ⟨ks ++ [(n, m)], by rw [List.map_append]; rfl, by rw [List.length_append]; exact Nat.le_refl _⟩
theorem own_get (ks : List (Int × Int)) (n : Int) : valV (ks.map enK) (Sum.inl n : Key) = none ∨ ∃ m, valV (ks.map enK) (Sum.inl n : Key) = some (V.int m) := by
  unfold valV
  cases e : (ks.map enK).find? fun kv => decide (kv.1 = (Sum.inl n : Key)) with
  | none => exact .inl rfl
  | some kv =>
    obtain ⟨k, _, rfl⟩ := List.mem_map.mp (List.mem_of_find?_eq_some e)
    exact .inr ⟨k.2, rfl⟩

/-! ### keep -/
def fF (folk : Int) : List (Str × V) := putF "folk" (.int folk) []
def fH (folk : Int) (hv : V) : List (Str × V) := putF "houses" hv (fF folk)
def f1 (folk : Int) (hv : V) (a : Addr) : List (Str × V) := putF "kept_folk" (.ref a) (fH folk hv)
def f2 (folk : Int) (hv : V) (a b : Addr) : List (Str × V) := putF "kept_houses" (.ref b) (f1 folk hv a)
def f3 (folk : Int) (hv : V) (a b c : Addr) : List (Str × V) := putF "kept_half" (.ref c) (f2 folk hv a b)
section
variable {folk : Int} {hv : V} {a b c : Addr}
theorem fF_len : (fF folk).length ≤ 1 := length_putF _ _ _
theorem fH_len : (fH folk hv).length ≤ 2 := Nat.le_trans (length_putF _ _ _) (Nat.succ_le_succ fF_len)
theorem f1_len : (f1 folk hv a).length ≤ 3 := Nat.le_trans (length_putF _ _ _) (Nat.succ_le_succ fH_len)
theorem f2_len : (f2 folk hv a b).length ≤ 4 := Nat.le_trans (length_putF _ _ _) (Nat.succ_le_succ f1_len)
theorem f3_folk : (f3 folk hv a b c).lookup ("folk" : Str) = some (.int folk) := by
  unfold f3 f2 f1 fH fF
  rw [lookup_putF, if_neg (by decide +kernel), lookup_putF, if_neg (by decide +kernel), lookup_putF, if_neg (by decide +kernel), lookup_putF, if_neg (by decide +kernel), lookup_putF, if_pos rfl]
theorem f3_houses : (f3 folk hv a b c).lookup ("houses" : Str) = some hv := by
  unfold f3 f2 f1 fH
  rw [lookup_putF, if_neg (by decide +kernel), lookup_putF, if_neg (by decide +kernel), lookup_putF, if_neg (by decide +kernel), lookup_putF, if_pos rfl]
theorem f3_1 : (f3 folk hv a b c).lookup ("kept_folk" : Str) = some (.ref a) := by
  unfold f3 f2 f1
  rw [lookup_putF, if_neg (by decide +kernel), lookup_putF, if_neg (by decide +kernel), lookup_putF, if_pos rfl]
theorem f3_2 : (f3 folk hv a b c).lookup ("kept_houses" : Str) = some (.ref b) := by
  unfold f3 f2
  rw [lookup_putF, if_neg (by decide +kernel), lookup_putF, if_pos rfl]
theorem f3_3 : (f3 folk hv a b c).lookup ("kept_half" : Str) = some (.ref c) := by
  unfold f3
  rw [lookup_putF, if_pos rfl]
end
section
variable {P : Program} {w : World} {K : PySem.W.Frag} {mg : Str → Option Value} {base : Heap} {f CW C : Addr} {fd : FuncData}
abbrev nKeep : List Str := ["self", "folk", "houses", "house", "persons", "owners", "sign", "number", "person"]
theorem sc_keep : FnScope nKeep ["self", "folk", "houses"] (C8.fnScope sKeep) := ⟨rfl, rfl, rfl, by decide +kernel, rfl, by decide +kernel, by decide +kernel⟩
def spKeep (C : Addr) : Sp := fun vs H Q _ => ∃ (p dx : Addr) (folk : Int) (hv : V) (t : Town), vs = [.ref p, .int folk, hv] ∧ H p = some (.ins C dx []) ∧ TowV H hv t ∧ 0 ≤ folk ∧ folk ≤ 1000 ∧ t.length ≤ 1000 ∧
  (∀ hs ∈ t, hs.length ≤ 15 ∧ ∀ h ∈ hs, 0 ≤ h.2 ∧ (h.1 = false → h.2 < folk)) ∧ ∀ H', WebV C H' (.ref p) folk t → (∀ b o, H b = some o → b ≠ p → H' b = some o) → Q .non H'
theorem met_keep (me : Meth K C "keep" f) (F : C8.Fun K "keep" "Web.keep" sKeep f fd) (b : Binds K fd ["self", "folk", "houses"] []) (B : Bi mg) (T : Cl K CW C) : C8.Met P w K mg base 1 C "keep" (spKeep C) [] := by
  refine C8.met0 T.cl me F b sc_keep (fun vs H Q E h => ?_) (fun cdv A outer s H vs Q E hr h => ?_)
  · obtain ⟨p, dx, folk, hv, t, rfl, _⟩ := h
    rfl
  · obtain ⟨p, dx, folk, hv, t, rfl, hp, ⟨a, hss, rfl, ha, pr⟩, fo0, fo1, tl, ok, q⟩ := h
    have hu := hu_of hr
    refine ⟨_, pss_cons (ps_fld (pv 0) (pv 1) rfl) (pss_cons (ps_fld (pv 0) (pv 2) rfl)
      (pss_cons (ps_fld (pv 0) (pe_lst pa_nil) rfl) (pss_cons (ps_fld (pv 0) (pe_lst pa_nil) rfl) (pss_cons (ps_fld (pv 0) (pe_lst pa_nil) rfl)
      (pss_one (ps_for PassesOwn.never rfl (pi_tup (pv 2)) (pg_name (i := 3) sc_keep.nd rfl (Or.inl rfl))
        (pss_cons (ps_setLc (i := 4) (own := [("person", 8)]) (g := gName 8) (tt := tYes) rfl sc_keep.nd rfl rfl (sw_true rfl rfl rfl (by decide +kernel)) (pi_range1 (by rfl) B.range (pa_cons (pv 1) pa_nil))
          (blkOk_by (N := nKeep) (sc := C8.fnScope sKeep) (by decide +kernel)) (fun _ _ _ _ _ => pg_name (i := 8) sc_keep.nd rfl (Or.inl rfl)) (fun _ _ _ _ _ => pts_nil) (fun _ _ _ _ _ => pe_int))
        (pss_cons (ps_set (i := 5) sc_keep.nd rfl (Or.inl rfl) pe_dnewK)
        (pss_cons (ps_for PassesOwn.never rfl (pi_tup (pv 3)) (pg_tup rfl (pgs_cons (pg_name (i := 6) sc_keep.nd rfl (Or.inl rfl)) (pgs_cons (pg_name (i := 7) sc_keep.nd rfl (Or.inl rfl)) pgs_nil)))
          (pss_one (ps_if (pt_cmpR op_eq (pv 6) pe_str (nomark _))
            (pss_one (ps_augS (pv 4) (pv 7) get_list pe_int ip_add set_list))
            (pss_one (ps_dput hu (pv 5) (pv 7) (pe_op op_add (pe_dget2 hu (pv 5) (pv 7) pe_int ⟨rfl, rfl, rfl, rfl⟩) pe_int) rfl)))))
        (pss_cons (ps_expr (pe_bm PySem.F.plainAttrs_list PySem.F.slot_list_append PySem.F.type_list_append mt_append (pe_fld (pv 0) rfl) (pa_cons (pv 4) pa_nil)))
        (pss_cons (ps_expr (pe_bm PySem.F.plainAttrs_list PySem.F.slot_list_append PySem.F.type_list_append mt_append (pe_fld (pv 0) rfl)
          (pa_cons (pe_callB (cr_sortedIt rfl (Room.units hr)) (by rfl) B.sorted bt_sorted (pa_cons (pe_bm0 PySem.F.plainAttrs_dict PySem.F.slot_dict_items PySem.F.type_dict_items mt_itemsK (pv 5)) pa_nil)) pa_nil)))
        (pss_one (ps_expr (pe_bm PySem.F.plainAttrs_list PySem.F.slot_list_append PySem.F.type_list_append mt_append (pe_fld (pv 0) rfl)
          (pa_cons (pe_op op_fdiv (pe_op op_add (pe_callB call_len_seq (by rfl) B.len bt_len (pa_cons (pv 3) pa_nil)) pe_int) pe_int) pa_nil))))))))))))))), ?_⟩
    have ixn : ∀ {n j : Nat}, j < n → ixN n (j : Int) = some j := fun {n j} hj => by
      unfold ixN
      rw [if_pos (by omega), if_pos (by omega)]
      rfl
    -- the five stores
    refine ⟨_, rfl, _, rfl, p, C, dx, [], rfl, hp, T.cl, T.nF, (by show 0 < 1000; decide), ?_⟩
    refine ⟨_, rfl, _, rfl, p, C, dx, fF folk, rfl, upd_same, T.cl, T.nH, Nat.lt_of_le_of_lt fF_len (by decide), ?_⟩
    refine ⟨Nat.zero_le _, fun l1 e1 => ?_⟩
    have n1 : p ≠ l1 := ne_of_none upd_same e1
    have g1 : H l1 = none := by
      have z := e1
      rw [upd_ne n1.symm, upd_ne n1.symm] at z
      exact z
    refine ⟨_, rfl, p, C, dx, fH folk (.ref a), rfl, (by rw [upd_ne n1]; exact upd_same), T.cl, T.n1, Nat.lt_of_le_of_lt fH_len (by decide), ?_⟩
    refine ⟨Nat.zero_le _, fun l2 e2 => ?_⟩
    have n2 : p ≠ l2 := ne_of_none upd_same e2
    have m12 : l1 ≠ l2 := by
      refine ne_of_none (o := .lst []) ?_ e2
      rw [upd_ne n1.symm, upd_same]
    have g2 : H l2 = none := by
      have z := e2
      rw [upd_ne n2.symm, upd_ne m12.symm, upd_ne n2.symm, upd_ne n2.symm] at z
      exact z
    refine ⟨_, rfl, p, C, dx, f1 folk (.ref a) l1, rfl, (by rw [upd_ne n2]; exact upd_same), T.cl, T.n2, Nat.lt_of_le_of_lt f1_len (by decide), ?_⟩
    refine ⟨Nat.zero_le _, fun l3 e3 => ?_⟩
    have n3 : p ≠ l3 := ne_of_none upd_same e3
    have m23 : l2 ≠ l3 := by
      refine ne_of_none (o := .lst []) ?_ e3
      rw [upd_ne n2.symm, upd_same]
    have m13 : l1 ≠ l3 := by
      refine ne_of_none (o := .lst []) ?_ e3
      rw [upd_ne n1.symm, upd_ne m12, upd_ne n1.symm, upd_same]
    have g3 : H l3 = none := by
      have z := e3
      rw [upd_ne n3.symm, upd_ne m23.symm, upd_ne n3.symm, upd_ne m13.symm, upd_ne n3.symm, upd_ne n3.symm] at z
      exact z
    refine ⟨_, rfl, p, C, dx, f2 folk (.ref a) l1 l2, rfl, (by rw [upd_ne n3]; exact upd_same), T.cl, T.n3, Nat.lt_of_le_of_lt f2_len (by decide), ?_⟩
    -- for house in houses
    have old : ∀ b o, H b = some o → b ≠ p → b ≠ l1 ∧ b ≠ l2 ∧ b ≠ l3 := fun b o e _ => ⟨ne_of_none e g1, ne_of_none e g2, ne_of_none e g3⟩
    have nap : a ≠ p := ne_of ha hp (fun z => nomatch z)
    have hlen := pr_len pr
    refine ⟨_, rfl, a, rfl, ⟨hss, SqT.of ?_⟩, for_tup (K := K) (a := a) (xs := hss) (fun i σ H' => ∃ (y3 y4 y5 y6 y7 : Option V) (x1 x2 x3 : List V), σ = [some (.ref p), some (.int folk), some (.ref a), y3, y4, y5, y6, y7, none] ∧
      H' p = some (.ins C dx (f3 folk (.ref a) l1 l2 l3)) ∧ H' l1 = some (.lst x1) ∧ H' l2 = some (.lst x2) ∧ H' l3 = some (.lst x3) ∧ x1.length = i ∧ x2.length = i ∧ x3.length = i ∧ ∀ b o, H b = some o → b ≠ p → H' b = some o) ?_ ?_ ?_ ?_⟩
    · obtain ⟨q1, q2, q3⟩ := old _ _ ha nap
      rw [upd_ne nap, upd_ne q3, upd_ne nap, upd_ne q2, upd_ne nap, upd_ne q1, upd_ne nap, upd_ne nap]
      exact ha
    · refine ⟨none, none, none, none, none, [], [], [], rfl, upd_same, ?_, ?_, ?_, rfl, rfl, rfl, fun b o e nb => ?_⟩
      · rw [upd_ne n1.symm, upd_ne m13, upd_ne n1.symm, upd_ne m12, upd_ne n1.symm, upd_same]
      · rw [upd_ne n2.symm, upd_ne m23, upd_ne n2.symm, upd_same]
      · rw [upd_ne n3.symm, upd_same]
      · obtain ⟨q1, q2, q3⟩ := old _ _ e nb
        rw [upd_ne nb, upd_ne q3, upd_ne nb, upd_ne q2, upd_ne nb, upd_ne q1, upd_ne nb, upd_ne nb]
        exact e
    · rintro i σ H' _ ⟨_, _, _, _, _, _, _, _, _, _, _, _, _, _, _, _, kp⟩
      exact SqT.of (kp _ _ ha nap)
    · rintro i x σ H' hx ⟨y3, y4, y5, y6, y7, x1, x2, x3, rfl, hP, hL1, hL2, hL3, len1, len2, len3, kp⟩
      obtain ⟨hs, ehs, b0, ws, rfl, hb0, prw⟩ := pr_get pr hx
      have nbp : b0 ≠ p := ne_of hb0 hp (fun z => nomatch z)
      obtain ⟨h15, hok⟩ := ok hs (List.mem_of_getElem? ehs)
      have hi := (List.getElem?_eq_some_iff.mp hx).1
      have lw := pr_len prw
      -- persons = [0 for person in range(folk)]
      refine ⟨_, rfl, folk, rfl, by omega, by omega, fun L hL => ?_⟩
      refine lc_range (lo := 0) (n := folk.toNat) (fun j G => Same H' G ∧ G L = some (.lst ((List.replicate j (0 : Int)).map V.int))) ⟨same_upd hL, upd_same⟩ (fun j G hj hq => ?_) (fun G hq => ?_)
      · obtain ⟨sm, eL⟩ := hq
        refine ⟨rfl, ?_⟩
        refine ⟨_, eL, ?_, fun c o e => ?_, ?_⟩
        · rw [List.length_map, List.length_replicate]
          exact small1000 (by omega)
        · have nc : c ≠ L := ne_of_none e hL
          rw [upd_ne nc]
          exact sm _ _ e
        · rw [upd_same, List.replicate_succ', List.map_append]
          rfl
      obtain ⟨sm, eL⟩ := hq
      -- owners = {}
      intro d hd
      have ndL : d ≠ L := (ne_of_none eL hd).symm
      have smd : Same H' (upd G d (.dK [])) := sm.trans (same_upd hd)
      -- for sign, number in house
      refine ⟨_, rfl, b0, rfl, ⟨ws, SqT.of (smd _ _ (kp _ _ hb0 nbp))⟩, for_tup (K := K) (a := b0) (xs := ws) (fun j σ' M => ∃ (z6 z7 : Option V) (cs : List Int) (ks : List (Int × Int)), σ' = [some (.ref p), some (.int folk), some (.ref a), some (.ref b0), some (.ref L), some (.ref d), z6, z7, none] ∧
        M L = some (.lst (cs.map V.int)) ∧ cs.length = folk.toNat ∧ M d = some (.dK (ks.map enK)) ∧ ks.length ≤ j ∧ ∀ b o, H' b = some o → M b = some o) ?_ ?_ ?_ ?_⟩
      · refine ⟨y6, y7, List.replicate folk.toNat 0, [], rfl, ?_, List.length_replicate, upd_same, Nat.le_refl _, smd⟩
        rw [upd_ne ndL.symm]
        exact eL
      · rintro j σ' M _ ⟨_, _, _, _, _, _, _, _, _, kq⟩
        exact SqT.of (kq _ _ (kp _ _ hb0 nbp))
      · rintro j x σ' M hx' ⟨z6, z7, cs, ks, rfl, hML, lcs, hMd, lks, kq⟩
        obtain ⟨⟨sb, sk⟩, eh, c0, rfl, hc0⟩ := pr_get prw hx'
        have ncp : c0 ≠ p := ne_of hc0 hp (fun z => nomatch z)
        have hj := (List.getElem?_eq_some_iff.mp hx').1
        obtain ⟨k0, kf⟩ := hok _ (List.mem_of_getElem? eh)
        simp only at k0 kf
        refine ⟨c0, [.str (sg sb), .int sk], rfl, SqT.of (kq _ _ (kp _ _ hc0 ncp)), rfl, .str (sg sb), [.int sk], rfl, .int sk, [], rfl, rfl, ?_⟩
        refine ⟨_, rfl, rfl, _, rfl, ?_⟩
        have nLd : L ≠ d := ndL.symm
        have fr : ∀ b o, H' b = some o → b ≠ L ∧ b ≠ d := fun b o e => ⟨ne_of_none e hL, ne_of_none (sm _ _ e) hd⟩
        cases sb with
        | false =>
          have e : decide (V.str (sg false) = V.str "f") = true := by decide +kernel
          rw [e]
          refine iteT ?_
          have kl : sk.toNat < cs.length := by
            have := kf rfl
            omega
          have gv : (cs.map V.int)[sk.toNat]? = some (.int cs[sk.toNat]) := by
            rw [List.getElem?_map, List.getElem?_eq_getElem kl]
            rfl
          refine ⟨_, rfl, _, rfl, L, _, sk, _, rfl, rfl, SqL.of hML, k0, gv, ?_⟩
          refine ⟨_, 1, rfl, rfl, L, _, sk, sk.toNat, rfl, rfl, hML, ?_, ?_⟩
          · have := ixn (n := (cs.map V.int).length) (j := sk.toNat) (by rw [List.length_map]; exact kl)
            rw [show ((sk.toNat : Nat) : Int) = sk by omega] at this
            exact this
          · refine ⟨_, _, cs.set sk.toNat (cs[sk.toNat] + 1), ks, rfl, ?_, by rw [List.length_set]; exact lcs, ?_, by omega, fun b o e => ?_⟩
            · rw [upd_same, List.map_set]
            · rw [upd_ne nLd.symm]
              exact hMd
            · rw [upd_ne (fr b o e).1]
              exact kq b o e
        | true =>
          have e : decide (V.str (sg true) = V.str "f") = false := by decide +kernel
          rw [e]
          refine iteF ?_
          refine ⟨_, rfl, d, rfl, .inl ⟨_, .inl hMd⟩, _, rfl, _, DGet.k (k := Sum.inl sk) hMd, ?_⟩
          obtain ⟨m, em⟩ : ∃ m : Int, (valV (ks.map enK) (Sum.inl sk : Key)).getD (.int 0) = .int m := by
            rcases own_get ks sk with e | ⟨m, e⟩
            · exact ⟨0, by rw [e]; rfl⟩
            · exact ⟨m, by rw [e]; rfl⟩
          obtain ⟨ks', ek, lk'⟩ := own_put ks sk (m + 1)
          refine ⟨m, 1, em, rfl, _, rfl, _, rfl, d, _, rfl, DPut.k (k := Sum.inl sk) hMd ?_, ?_⟩
          · rw [List.length_map]
            exact small1000 (by omega)
          · refine ⟨_, _, cs, ks', rfl, ?_, lcs, ?_, by omega, fun b o e => ?_⟩
            · rw [upd_ne nLd]
              exact hML
            · rw [upd_same, ek]
            · rw [upd_ne (fr b o e).2]
              exact kq b o e
      · rintro σ' M ⟨z6, z7, cs, ks, rfl, hML, lcs, hMd, lks, kq⟩
        have hMp := kq _ _ hP
        have hM1 := kq _ _ hL1
        have hM2 := kq _ _ hL2
        have hM3 := kq _ _ hL3
        have d1 : d ≠ l1 := (ne_of_none (sm _ _ hL1) hd).symm
        have d2 : d ≠ l2 := (ne_of_none (sm _ _ hL2) hd).symm
        -- self.kept_folk.append(persons)
        refine ⟨_, rfl, p, C, dx, _, _, rfl, hMp, T.cl, T.n1, f3_1, .inl ⟨rfl, _, SqL.of hM1⟩, _, rfl, l1, _, _, rfl, rfl, hM1, small1000 (by omega), ?_⟩
        have hNp : (upd M l1 (.lst (x1 ++ [V.ref L]))) p = some (.ins C dx (f3 folk (.ref a) l1 l2 l3)) := by
          rw [upd_ne n1]
          exact hMp
        have hN2 : (upd M l1 (.lst (x1 ++ [V.ref L]))) l2 = some (.lst x2) := by
          rw [upd_ne m12.symm]
          exact hM2
        have hN3 : (upd M l1 (.lst (x1 ++ [V.ref L]))) l3 = some (.lst x3) := by
          rw [upd_ne m13.symm]
          exact hM3
        have hNd : (upd M l1 (.lst (x1 ++ [V.ref L]))) d = some (.dK (ks.map enK)) := by
          rw [upd_ne d1]
          exact hMd
        have kN : ∀ b o, H b = some o → b ≠ p → (upd M l1 (.lst (x1 ++ [V.ref L]))) b = some o := fun b o e nb => by
          rw [upd_ne (old b o e nb).1]
          exact kq _ _ (kp b o e nb)
        have hN1 : (upd M l1 (.lst (x1 ++ [V.ref L]))) l1 = some (.lst (x1 ++ [V.ref L])) := upd_same
        generalize upd M l1 (.lst (x1 ++ [V.ref L])) = N at hNp hN2 hN3 hNd kN hN1 ⊢
        -- self.kept_houses.append(sorted(owners.items()))
        refine ⟨_, rfl, p, C, dx, _, _, rfl, hNp, T.cl, T.n2, f3_2, .inl ⟨rfl, _, SqL.of hN2⟩, _, rfl, .inr (.inr (.inl ⟨rfl, .inl ⟨_, hNd⟩⟩)), d, _, rfl, rfl, hNd, fun iv hiv => ?_⟩
        have vd : d ≠ iv := ne_of_none hNd hiv
        refine ⟨iv, d, ks, rfl, upd_same, (by rw [upd_ne vd]; exact hNd), fun ys so hso => ?_⟩
        have hso' : N so = none := by
          have z := hso
          have nz : so ≠ iv := fun z' => by
            rw [z', upd_same] at z
            cases z
          rw [upd_ne nz] at z
          exact z
        have sO : Same N (upd (upd N iv (L2.DX.itemsO iv d)) so (.lst ys)) := (same_upd hiv).trans (same_upd hso)
        generalize upd (upd N iv (L2.DX.itemsO iv d)) so (.lst ys) = O at sO ⊢
        refine ⟨l2, _, _, rfl, rfl, sO _ _ hN2, small1000 (by omega), ?_⟩
        have hOp : (upd O l2 (.lst (x2 ++ [V.ref so]))) p = some (.ins C dx (f3 folk (.ref a) l1 l2 l3)) := by
          rw [upd_ne n2]
          exact sO _ _ hNp
        have hO1 : (upd O l2 (.lst (x2 ++ [V.ref so]))) l1 = some (.lst (x1 ++ [V.ref L])) := by
          rw [upd_ne m12]
          exact sO _ _ hN1
        have hO3 : (upd O l2 (.lst (x2 ++ [V.ref so]))) l3 = some (.lst x3) := by
          rw [upd_ne m23.symm]
          exact sO _ _ hN3
        have hO2 : (upd O l2 (.lst (x2 ++ [V.ref so]))) l2 = some (.lst (x2 ++ [V.ref so])) := upd_same
        have kO : ∀ b o, H b = some o → b ≠ p → (upd O l2 (.lst (x2 ++ [V.ref so]))) b = some o := fun b o e nb => by
          rw [upd_ne (old b o e nb).2.1]
          exact sO _ _ (kN b o e nb)
        generalize upd O l2 (.lst (x2 ++ [V.ref so])) = R at hOp hO1 hO2 hO3 kO ⊢
        -- self.kept_half.append((len(house) + 1) // 2)
        refine ⟨_, rfl, p, C, dx, _, _, rfl, hOp, T.cl, T.n3, f3_3, .inl ⟨rfl, _, SqL.of hO3⟩, _, rfl, b0, ws, rfl, .inr (SqT.of (kO _ _ hb0 nbp)), _, 1, rfl, rfl, _, 2, rfl, rfl, ⟨by decide, by decide⟩, l3, _, _, rfl, rfl, hO3, small1000 (by omega), ?_⟩
        refine ⟨_, _, _, _, _, x1 ++ [V.ref L], x2 ++ [V.ref so], _, rfl, ?_, ?_, ?_, upd_same, ?_, ?_, ?_, fun b o e nb => ?_⟩
        · rw [upd_ne n3]
          exact hOp
        · rw [upd_ne m13]
          exact hO1
        · rw [upd_ne m23]
          exact hO2
        · rw [List.length_append, len1]
          rfl
        · rw [List.length_append, len2]
          rfl
        · rw [List.length_append, len3]
          rfl
        · rw [upd_ne (old b o e nb).2.2]
          exact kO b o e nb
    · rintro σ H' ⟨y3, y4, y5, y6, y7, x1, x2, x3, rfl, hP, hL1, hL2, hL3, len1, len2, len3, kp⟩
      refine q H' ⟨p, dx, _, .ref a, rfl, hP, f3_folk, f3_houses, a, hss, rfl, kp _ _ ha nap, ?_⟩ kp
      refine pS.tk pr fun b xs e => kp b _ e (ne_of e hp (fun z => nomatch z))
end
end K6

set_option Elab.async false
set_option linter.all false
set_option maxRecDepth 100000
set_option maxHeartbeats 4000000
/-! K06, part D4: the two __init__, __eq__, raw_web. -/
namespace K6
open PySem PySem.Spec PyProof.Rows L2

section
variable {P : Program} {w : World} {K : PySem.W.Frag} {mg : Str → Option Value} {base : Heap} {f CW CR C : Addr} {fd : FuncData}
/-! ### RawWeb.__init__ -/
theorem sc_rinit : FnScope ["self", "folk", "houses"] ["self", "folk", "houses"] (C8.fnScope sRInit) := ⟨rfl, rfl, rfl, by decide +kernel, rfl, by decide +kernel, by decide +kernel⟩
theorem mak_raw (M : Mk K CR f) (hm : mg "RawWeb" = some (.ref CR)) (F : C8.Fun K "__init__" "RawWeb.__init__" sRInit f fd) (b : Binds K fd ["self", "folk", "houses"] []) (G : C8.Met P w K mg base 1 CR "keep" (spKeep CR) []) :
    C8.Mak P w K mg base 2 "RawWeb" CR (spKeep CR) [] := by
  refine C8.mak0 M hm F b .nil sc_rinit (fun vs H Q E h => ?_) (fun cdv A outer s H vs Q E hr h => ?_)
  · obtain ⟨p, dx, folk, hv, t, rfl, _⟩ := h
    rfl
  · obtain ⟨p, dx, folk, hv, t, rfl, hp, hT, fo0, fo1, tl, ok, q⟩ := h
    refine ⟨_, pss_one (ps_expr (C8.pe_mt G hr (by decide) (pv 0) (pa_cons (pv 1) (pa_cons (pv 2) pa_nil)))), ?_⟩
    refine ⟨_, rfl, p, dx, [], rfl, hp, rfl, _, rfl, _, rfl, p, dx, folk, hv, t, rfl, hp, hT, fo0, fo1, tl, ok, fun H' wv kp => ?_⟩
    exact q H' wv kp

/-! ### Web.__init__ -/
theorem sc_winit : FnScope ["self", "folk", "houses", "number", "house"] ["self", "folk", "houses"] (C8.fnScope sWInit) := ⟨rfl, rfl, rfl, by decide +kernel, rfl, by decide +kernel, by decide +kernel⟩
def spWInit (C : Addr) : Sp := fun vs H Q _ => ∃ (p dx : Addr) (folk : Int) (hv : V) (t : Town), vs = [.ref p, .int folk, hv] ∧ H p = some (.ins C dx []) ∧ TowV H hv t ∧ 1 ≤ folk ∧ folk ≤ 6 ∧ t.length ≤ 12 ∧ okTown folk t ∧
  ∀ H', WebV C H' (.ref p) folk t → (∀ b o, H b = some o → b ≠ p → H' b = some o) → Q .non H'
theorem mak_web (M : Mk K CW f) (hm : mg "Web" = some (.ref CW)) (F : C8.Fun K "__init__" "Web.__init__" sWInit f fd) (b : Binds K fd ["self", "folk", "houses"] []) (B : Bi mg) (GW : C8.Cal P w K mg base 2 "is_within" spWithin []) (GS : C8.Cal P w K mg base 4 "are_shares" spShares [])
    (G : C8.Met P w K mg base 1 CW "keep" (spKeep CW) []) : C8.Mak P w K mg base 5 "Web" CW (spWInit CW) [] := by
  refine C8.mak0 M hm F b .nil sc_winit (fun vs H Q E h => ?_) (fun cdv A outer s H vs Q E hr h => ?_)
  · obtain ⟨p, dx, folk, hv, t, rfl, _⟩ := h
    rfl
  · obtain ⟨p, dx, folk, hv, t, rfl, hp, hT, fo0, fo1, tl, ok, q⟩ := h
    obtain ⟨a, hss, rfl, ha, pr⟩ := id hT
    refine ⟨_, pss_cons (ps_if (pt_not (pt_val (C8.pe_c GW hr (by decide) (by rfl) (pa_cons (pv 1) (pa_cons pe_int (pa_cons (C8.pe_gc (by rfl) B.mf) pa_nil)))))) (pss_one ps_never) pss_nil)
      (pss_cons (ps_if (PW.pt (pw_or (pt_not (pt_val (pe_callB call_isi (by rfl) B.isi bt_isi (pa_cons (pv 2) (pa_cons (pe_bltn (v := .ty "tuple") (by rfl) B.tuple bt_tuple rfl) pa_nil)))))
        (pw_or1 (pt_cmpR op_gt (pe_callB call_len_seq (by rfl) B.len bt_len (pa_cons (pv 2) pa_nil)) (C8.pe_gc (by rfl) B.mh) (nomark _))))) (pss_one ps_never) pss_nil)
      (pss_cons (ps_for PassesOwn.never rfl (pi_enumT (by rfl) B.enum (pa_cons (pv 2) pa_nil)) (pg_tup rfl (pgs_cons (pg_name (i := 3) sc_winit.nd rfl (Or.inl rfl)) (pgs_cons (pg_name (i := 4) sc_winit.nd rfl (Or.inl rfl)) pgs_nil)))
        (pss_one (ps_if (pt_not (pt_val (C8.pe_c GS hr (by decide) (by rfl) (pa_cons (pv 4) (pa_cons (pv 1) (pa_cons (pe_callB call_len_seq (by rfl) B.len bt_len (pa_cons (pv 2) pa_nil)) pa_nil)))))) (pss_one ps_never) pss_nil)))
      (pss_one (ps_expr (C8.pe_mt G hr (by decide) (pv 0) (pa_cons (pv 1) (pa_cons (pv 2) pa_nil))))))), ?_⟩
    have hlen := pr_len pr
    -- if not is_within(folk, 1, MOST_FOLK)
    refine ⟨_, rfl, folk, 1, 6, rfl, true, ?_, iteF ?_⟩
    · rw [decide_eq_true fo0, decide_eq_true fo1]
      rfl
    -- if not isinstance(houses, tuple) or len(houses) > MOST_HOUSES
    refine ⟨_, rfl, .ref a, .ty "tuple", .type "tuple", .type "tuple", true, rfl, .ty "tuple", .base (.tup ha), kit_ty (by decide +kernel), true, rfl, iteF ?_⟩
    refine ⟨_, rfl, a, hss, rfl, .inr (SqT.of ha), _, _, rfl, rfl, false, ?_, iteF ?_⟩
    · show V.bl (decide ((12 : Int) < (hss.length : Int))) = V.bl false
      rw [decide_eq_false (by omega)]
    -- for number, house in enumerate(houses)
    refine ⟨_, rfl, a, hss, rfl, SqT.of ha, for_enumT (K := K) (a := a) (xs := hss) (fun i σ H' => ∃ y3 y4 : Option V, σ = [some (.ref p), some (.int folk), some (.ref a), y3, y4] ∧ Same H H') ⟨none, none, rfl, Same.refl H⟩ (fun i σ H' _ ⟨_, _, _, sm⟩ => SqT.of (sm _ _ ha)) ?_ ?_⟩
    · rintro i x N σ H' hx ⟨y3, y4, rfl, sm⟩ nT
      obtain ⟨hs, ehs, hh⟩ := pr_get pr hx
      have s2 : Same H (upd H' N (.tup [.int (i : Nat), x])) := sm.trans (same_upd nT)
      refine ⟨N, [.int (i : Nat), x], rfl, SqT.of upd_same, rfl, .int (i : Nat), [x], rfl, x, [], rfl, rfl, ?_⟩
      refine ⟨_, rfl, _, rfl, _, rfl, a, hss, rfl, .inr (SqT.of (s2 _ _ ha)), x, hs, folk, _, rfl, hh.tk (TK.of s2), ?_, fun H2 sm2 => ⟨true, rfl, iteF ?_⟩⟩
      · rw [hlen]
        exact ok hs (List.mem_of_getElem? ehs)
      · exact ⟨_, _, rfl, s2.trans sm2⟩
    · rintro σ H' ⟨y3, y4, rfl, sm⟩
      refine ⟨_, rfl, p, dx, [], rfl, sm _ _ hp, rfl, _, rfl, _, rfl, p, dx, folk, .ref a, t, rfl, sm _ _ hp, hT.tk (TK.of sm), by omega, by omega, by omega, fun hs m => ?_, fun H2 wv kp => ?_⟩
      · have o := ok hs m
        exact ⟨o.most, fun h mh => ⟨(o.all h mh).1, (o.all h mh).2.1⟩⟩
      · exact q H2 wv fun c o e nc => kp c o (sm _ _ e) nc

/-! ### Web.__eq__ -/
theorem sc_eq : FnScope ["self", "other"] ["self", "other"] (C8.fnScope sEq) := ⟨rfl, rfl, rfl, by decide +kernel, rfl, by decide +kernel, by decide +kernel⟩
def spEq (K : PySem.W.Frag) (CW : Addr) : Sp := fun vs H Q _ => ∃ (x y : V) (C1 C2 : Addr) (n1 n2 : Int) (t1 t2 : Town), vs = [x, y] ∧ Cl K CW C1 ∧ Cl K CW C2 ∧ WebV C1 H x n1 t1 ∧ WebV C2 H y n2 t2 ∧ Q (.bl (decide (n1 = n2) && decide (t1 = t2))) H
theorem ok_eq (F : C8.Fun K "__eq__" "Web.__eq__" sEq f fd) (B : Bi mg) (hm : mg "Web" = some (.ref CW)) : FnOk P w K mg base C8.CX0 1 f fd ["self", "other"] (spEq K CW) := by
  refine C8.fn0 F sc_eq (fun vs H Q E h => ?_) (fun cdv A outer s H vs Q E hr h => ?_)
  · obtain ⟨x, y, _, _, _, _, _, _, rfl, _⟩ := h
    rfl
  · obtain ⟨x, y, C1, C2, n1, n2, t1, t2, rfl, T1, T2, ⟨p, dx, fs, hv, rfl, hp, k1, k2, hT⟩, ⟨p', dx', fs', hv', rfl, hp', k1', k2', hT'⟩, q⟩ := h
    refine ⟨_, pss_one (ps_ret (pe_and (pe_callB call_isi (by rfl) B.isi bt_isi (pa_cons (pv 1) (pa_cons (pe_glob (v := .ref CW) (by rfl) hm rfl) pa_nil)))
      (pe_and (pe_cmpR op_eq (pe_fld (pv 0) rfl) (pe_fld (pv 1) rfl) (nomark _)) (pe_one (pe_cmpR (op_eqD (Room.units hr)) (pe_fld (pv 0) rfl) (pe_fld (pv 1) rfl) (nomark _)))))), ?_⟩
    refine ⟨_, rfl, .ref p', .ref CW, .ref C2, .ref CW, true, rfl, .own CW, .base (.ins hp' T2.cl T2.ha T2.hn T2.htk T2.hm), T2.ki, true, rfl, iteT ?_⟩
    refine ⟨_, rfl, p, C1, dx, fs, _, rfl, hp, T1.cl, T1.nF, k1, _, rfl, p', C2, dx', fs', _, rfl, hp', T2.cl, T2.nF, k1', rfl, _, rfl, ?_⟩
    by_cases e : n1 = n2
    · rw [decide_eq_true (congrArg V.int e)]
      rw [decide_eq_true e, Bool.true_and] at q
      refine iteT ?_
      refine ⟨_, rfl, p, C1, dx, fs, _, rfl, hp, T1.cl, T1.nH, k2, _, rfl, p', C2, dx', fs', _, rfl, hp', T2.cl, T2.nH, k2', encT t1, encT t2, hT.dp, hT'.dp, shaped_T t1, shaped_T t2, ?_⟩
      rw [eqv_T]
      exact q
    · rw [decide_eq_false (fun z => e (V.int.inj z))]
      rw [decide_eq_false e, Bool.false_and] at q
      exact iteF q

/-! ### raw_web -/
def rTupOf (K : PySem.W.Frag) : List V → Hp → VK → Prop := fun xs H Q => ∃ p ys, xs = [.ref p] ∧ ((SqL K H p ys ∧ ∀ l, H l = none → Q (.ref l) (upd H l (.tup ys))) ∨ (SqT K H p ys ∧ Q (.ref p) H))
theorem call_tupOf {X : Cx} : CallR X (.type "tuple") (rTupOf X.K) := call_tuple_of
/-- a list or tuple of holders -/
def SeqV (K : PySem.W.Frag) (H : Hp) (v : V) (hs : List Hol) : Prop := ∃ a ys, v = .ref a ∧ (SqL K H a ys ∨ SqT K H a ys) ∧ Paired (HolV H) ys hs
theorem SqT.same {H H' : Hp} {a : Addr} {xs : List V} (h : SqT K H a xs) (e : Same H H') : SqT K H' a xs :=
  h.elim (fun h => .inl (h.elim (fun h => .inl (e _ _ h)) fun ⟨o, h⟩ => .inr ⟨o, e _ _ h⟩)) fun h => .inr h
theorem SeqV.same {H H' : Hp} {v : V} {hs : List Hol} (x : SeqV K H v hs) (s : Same H H') : SeqV K H' v hs := by
  obtain ⟨a, ys, e, q, r⟩ := x
  exact ⟨a, ys, e, q.elim (fun z => .inl (s.seq z)) (fun z => .inr (SqT.same z s)), pH.tk r (TK.of s)⟩
theorem sc_raw : FnScope ["folk", "houses", "house"] ["folk", "houses"] (C8.fnScope sRaw) := ⟨rfl, rfl, rfl, by decide +kernel, rfl, by decide +kernel, by decide +kernel⟩
def spRaw (K : PySem.W.Frag) (CR : Addr) (inL : Bool) : Sp := fun vs H Q _ => ∃ (a : Addr) (xs : List V) (folk : Int) (t : Town), vs = [.int folk, .ref a] ∧ (if inL = true then SqL K H a xs else SqT K H a xs) ∧ Paired (SeqV K H) xs t ∧ 0 ≤ folk ∧ folk ≤ 1000 ∧ t.length ≤ 1000 ∧
  (∀ hs ∈ t, hs.length ≤ 15 ∧ ∀ h ∈ hs, 0 ≤ h.2 ∧ (h.1 = false → h.2 < folk)) ∧ ∀ H' v, WebV CR H' v folk (t.map sortH) → Same H H' → Q v H'
theorem raw_len {vs : List V} {H : Hp} {Q : VK} {E : XK} {b : Bool} (h : spRaw K CR b vs H Q E) : vs.length = 2 := by
  obtain ⟨a, xs, folk, t, rfl, _⟩ := h
  rfl
theorem cal_raw (inL : Bool) (D : C8.Def K mg "raw_web" sRaw f fd) (b : Binds K fd ["folk", "houses"] []) (B : Bi mg) (G : C8.Mak P w K mg base 2 "RawWeb" CR (spKeep CR) []) : C8.Cal P w K mg base 4 "raw_web" (spRaw K CR inL) [] := by
  refine C8.cal0 D b .nil sc_raw (fun vs H Q E h => raw_len h) (fun cdv A outer s H vs Q E hr h => ?_)
  obtain ⟨a, xs, folk, t, rfl, hq, pr, fo0, fo1, tl, ok, q⟩ := h
  have hlen := pr_len pr
  have hu := Room.units hr
  -- one turn
  have turn : ∀ (L : Addr), H L = none → ∀ (i : Nat) (x : V) (H' : Hp) (σ : L2.St) (hσ : σ = [some (.int folk), some (.ref a), some x]) , xs[i]? = some x → (∃ ys : List V, Same H H' ∧ H' L = some (.lst ys) ∧ Paired (HouV H') ys ((t.take i).map sortH)) →
      (tCB (rTupOf K) (tCons (tCB (rSortH K) (tCons (tVar 2) tNil)) tNil)) σ H' fun y H4 => ∃ acc, H4 L = some (.lst acc) ∧ acc.length < sizeLine ∧ ∃ ys : List V, Same H (upd H4 L (.lst (acc ++ [y]))) ∧ (upd H4 L (.lst (acc ++ [y]))) L = some (.lst ys) ∧ Paired (HouV (upd H4 L (.lst (acc ++ [y])))) ys ((t.take (i + 1)).map sortH) := by
    intro L hL i x H' σ hσ hx ⟨ys, sm, eL, py⟩
    subst hσ
    obtain ⟨hs, ehs, hseq⟩ := pr_get pr hx
    obtain ⟨c, zs, rfl, hc, pz⟩ := hseq.same sm
    refine ⟨_, rfl, c, zs, hs, rfl, hc, pz, fun ss S pSo hS => ?_⟩
    have sS : Same H' (upd H' S (.lst ss)) := same_upd hS
    refine ⟨S, ss, rfl, .inl ⟨SqL.of upd_same, fun U hU => ?_⟩⟩
    have sU : Same H' (upd (upd H' S (.lst ss)) U (.tup ss)) := sS.trans (same_upd hU)
    have eLU := sU _ _ eL
    have eU : (upd (upd H' S (.lst ss)) U (.tup ss)) U = some (.tup ss) := upd_same
    generalize upd (upd H' S (.lst ss)) U (.tup ss) = O at sU eLU eU ⊢
    have nUL : U ≠ L := ne_of eU eLU (fun z => nomatch z)
    have kO : TK O (upd O L (.lst (ys ++ [V.ref U]))) := TK.put eLU (fun xs z => nomatch z)
    have lys := pr_len py
    refine ⟨ys, eLU, ?_, _, fun d o e => ?_, upd_same, ?_⟩
    · rw [lys, List.length_map, List.length_take]
      exact small1000 (by omega)
    · have nd : d ≠ L := ne_of_none e hL
      rw [upd_ne nd]
      exact sU _ _ (sm _ _ e)
    · rw [List.take_add_one, ehs, List.map_append]
      refine pr_append (pS.tk py ((TK.of sU).trans kO)) (.cons ⟨U, ss, rfl, kO _ _ eU, pH.tk pSo ((TK.of sU).trans kO)⟩ .nil)
  -- the end
  have fin : ∀ (L : Addr), H L = none → ∀ H' : Hp, (∃ ys : List V, Same H H' ∧ H' L = some (.lst ys) ∧ Paired (HouV H') ys ((t.take xs.length).map sortH)) →
      rTupOf K [V.ref L] H' fun y H2 => ∀ x dx, H2 x = none → H2 dx = none → dx ≠ x → spKeep CR (.ref x :: ([.int folk, y] ++ [])) (upd (upd H2 dx (.own x)) x (.ins CR dx [])) (fun v H3 => v = .non ∧ Q (.ref x) H3) C8.E0 := by
    intro L hL H' ⟨ys, sm, eL, py⟩
    refine ⟨L, ys, rfl, .inl ⟨SqL.of eL, fun U hU => ?_⟩⟩
    intro x dx nx ndx nex
    have sU : Same H' (upd H' U (.tup ys)) := same_upd hU
    have eU : (upd H' U (.tup ys)) U = some (.tup ys) := upd_same
    generalize upd H' U (.tup ys) = O at sU eU nx ndx ⊢
    have s2 : Same O (upd (upd O dx (.own x)) x (.ins CR dx [])) := fun c o e => by
      rw [upd_ne (ne_of_none e nx), upd_ne (ne_of_none e ndx)]
      exact e
    rw [hlen, List.take_length] at py
    refine ⟨x, dx, folk, .ref U, t.map sortH, rfl, upd_same, ⟨U, ys, rfl, s2 _ _ eU, pS.tk py (TK.of (sU.trans s2))⟩, fo0, fo1, by rw [List.length_map]; exact tl, fun hs m => ?_, fun H3 wv kp => ⟨rfl, ?_⟩⟩
    · obtain ⟨hs0, m0, rfl⟩ := List.mem_map.mp m
      obtain ⟨o1, o2⟩ := ok hs0 m0
      exact ⟨by rw [sortH_len]; exact o1, fun h mh => o2 h (sortH_mem mh)⟩
    · refine q H3 _ wv fun c o e => kp c o (s2 _ _ (sU _ _ (sm _ _ e))) ?_
      exact ne_of_none (sU _ _ (sm _ _ e)) nx
  have h0 : ∀ (L : Addr), H L = none → ∃ ys : List V, Same H (upd H L (.lst [])) ∧ (upd H L (.lst [])) L = some (.lst ys) ∧ Paired (HouV (upd H L (.lst []))) ys ((t.take 0).map sortH) := fun L hL => ⟨[], same_upd hL, upd_same, .nil⟩
  cases inL with
  | true =>
    have hq' : SqL K H a xs := hq
    refine ⟨_, pss_one (ps_ret (C8.pe_mk G hr (by decide) (by rfl) (pa_cons (pv 0) (pa_cons (pe_callTy call_tupOf (by rfl) B.tuple bt_tuple (pa_cons (pe_lc (own := [("house", 2)]) (g := gName 2) (tt := tYes) rfl sc_raw.nd (pi_list (pv 1))
      (blkOk_by (N := ["folk", "houses", "house"]) (sc := C8.fnScope sRaw) (by decide +kernel)) (fun _ _ _ _ _ => pg_name (i := 2) sc_raw.nd rfl (Or.inl rfl)) (fun _ _ _ _ _ => pts_nil)
      (fun _ _ _ _ _ => pe_callTy (r := rTupOf K) call_tupOf (by rfl) B.tuple bt_tuple (pa_cons (pe_callB (r := rSortH K) (cr_sortedH hu) (by rfl) B.sorted bt_sorted (pa_cons (pv 2) pa_nil)) pa_nil))) pa_nil)) pa_nil)))), ?_⟩
    refine ⟨_, rfl, _, rfl, a, rfl, ⟨_, hq'⟩, fun L hL => ?_⟩
    refine lc_list (xs := xs) (fun i H' => ∃ ys : List V, Same H H' ∧ H' L = some (.lst ys) ∧ Paired (HouV H') ys ((t.take i).map sortH)) (h0 L hL) (fun i H' _ ⟨ys, sm, _⟩ => sm.seq hq') (fun i x H' hx hp => ?_) (fun H' hp => ?_)
    · exact ⟨rfl, turn L hL i x H' _ rfl hx hp⟩
    · exact fin L hL H' hp
  | false =>
    have hq' : SqT K H a xs := hq
    refine ⟨_, pss_one (ps_ret (C8.pe_mk G hr (by decide) (by rfl) (pa_cons (pv 0) (pa_cons (pe_callTy call_tupOf (by rfl) B.tuple bt_tuple (pa_cons (pe_lc (own := [("house", 2)]) (g := gName 2) (tt := tYes) rfl sc_raw.nd (pi_tup (pv 1))
      (blkOk_by (N := ["folk", "houses", "house"]) (sc := C8.fnScope sRaw) (by decide +kernel)) (fun _ _ _ _ _ => pg_name (i := 2) sc_raw.nd rfl (Or.inl rfl)) (fun _ _ _ _ _ => pts_nil)
      (fun _ _ _ _ _ => pe_callTy (r := rTupOf K) call_tupOf (by rfl) B.tuple bt_tuple (pa_cons (pe_callB (r := rSortH K) (cr_sortedH hu) (by rfl) B.sorted bt_sorted (pa_cons (pv 2) pa_nil)) pa_nil))) pa_nil)) pa_nil)))), ?_⟩
    refine ⟨_, rfl, _, rfl, a, rfl, ⟨_, hq'⟩, fun L hL => ?_⟩
    refine lc_tup (xs := xs) (fun i H' => ∃ ys : List V, Same H H' ∧ H' L = some (.lst ys) ∧ Paired (HouV H') ys ((t.take i).map sortH)) (h0 L hL) (fun i H' _ ⟨ys, sm, _⟩ => SqT.same hq' sm) (fun i x H' hx hp => ?_) (fun H' hp => ?_)
    · exact ⟨rfl, turn L hL i x H' _ rfl hx hp⟩
    · exact fin L hL H' hp
end
end K6

set_option Elab.async false
set_option linter.all false
set_option maxRecDepth 100000
set_option maxHeartbeats 4000000
/-! K06, part D5: is_house .. held. -/
namespace K6
open PySem PySem.Spec PyProof.Rows L2

section
variable {P : Program} {w : World} {K : PySem.W.Frag} {mg : Str → Option Value} {base : Heap} {f CW CR C : Addr} {fd : FuncData}
/-- a web of either class -/
def WebX (K : PySem.W.Frag) (CW : Addr) (H : Hp) (v : V) (folk : Int) (t : Town) : Prop := ∃ C, Cl K CW C ∧ WebV C H v folk t
theorem WebX.nl {H H' : Hp} {v : V} {folk : Int} {t : Town} (x : WebX K CW H v folk t) (s : NL H H') : WebX K CW H' v folk t := let ⟨C, c, q⟩ := x; ⟨C, c, q.nl s⟩
theorem WebX.same {H H' : Hp} {v : V} {folk : Int} {t : Town} (x : WebX K CW H v folk t) (s : Same H H') : WebX K CW H' v folk t := x.nl (NL.of s)

theorem sc_isHouse : FnScope ["web", "thing"] ["web", "thing"] (C8.fnScope sIsHouse) := ⟨rfl, rfl, rfl, by decide +kernel, rfl, by decide +kernel, by decide +kernel⟩
def spIsHouse (K : PySem.W.Frag) (CW : Addr) : Sp := fun vs H Q _ => ∃ (v : V) (i folk : Int) (t : Town), vs = [v, .int i] ∧ WebX K CW H v folk t ∧ 0 ≤ i ∧ i < t.length ∧ Q (.bl true) H
theorem cal_isHouse (D : C8.Def K mg "is_house" sIsHouse f fd) (b : Binds K fd ["web", "thing"] []) (B : Bi mg) (GW : C8.Cal P w K mg base 2 "is_within" spWithin []) : C8.Cal P w K mg base 3 "is_house" (spIsHouse K CW) [] := by
  refine C8.cal0 D b .nil sc_isHouse (fun vs H Q E h => ?_) (fun cdv A outer s H vs Q E hr h => ?_)
  · obtain ⟨v, i, folk, t, rfl, _⟩ := h
    rfl
  · obtain ⟨v, i, folk, t, rfl, ⟨C, T, p, dx, fs, hv, rfl, hp, k1, k2, a, hss, rfl, ha, pr⟩, i0, i1, q⟩ := h
    have hlen := pr_len pr
    refine ⟨_, pss_one (ps_ret (C8.pe_c GW hr (by decide) (by rfl) (pa_cons (pv 1) (pa_cons pe_int (pa_cons (pe_op op_sub (pe_callB call_len_seq (by rfl) B.len bt_len (pa_cons (pe_fld (pv 0) rfl) pa_nil)) pe_int) pa_nil))))), ?_⟩
    refine ⟨_, rfl, _, rfl, p, C, dx, fs, _, rfl, hp, T.cl, T.nH, k2, a, hss, rfl, .inr (SqT.of ha), _, 1, rfl, rfl, i, 0, _, rfl, ?_⟩
    rw [decide_eq_true i0, decide_eq_true (show i ≤ (hss.length : Int) - 1 by omega)]
    exact q
theorem sc_chHouse : FnScope ["web", "thing"] ["web", "thing"] (C8.fnScope sChHouse) := ⟨rfl, rfl, rfl, by decide +kernel, rfl, by decide +kernel, by decide +kernel⟩
def spChHouse (K : PySem.W.Frag) (CW : Addr) : Sp := fun vs H Q _ => ∃ (v : V) (i folk : Int) (t : Town), vs = [v, .int i] ∧ WebX K CW H v folk t ∧ 0 ≤ i ∧ i < t.length ∧ Q .non H
theorem cal_chHouse (D : C8.Def K mg "check_house" sChHouse f fd) (b : Binds K fd ["web", "thing"] []) (G : C8.Cal P w K mg base 3 "is_house" (spIsHouse K CW) []) : C8.Cal P w K mg base 4 "check_house" (spChHouse K CW) [] := by
  refine C8.cal0 D b .nil sc_chHouse (fun vs H Q E h => ?_) (fun cdv A outer s H vs Q E hr h => ?_)
  · obtain ⟨v, i, folk, t, rfl, _⟩ := h
    rfl
  · obtain ⟨v, i, folk, t, rfl, W, i0, i1, q⟩ := h
    refine ⟨_, pss_one (ps_if (pt_not (pt_val (C8.pe_c G hr (by decide) (by rfl) (pa_cons (pv 0) (pa_cons (pv 1) pa_nil))))) (pss_one ps_never) pss_nil), ?_⟩
    refine ⟨_, rfl, _, rfl, v, i, folk, t, rfl, W, i0, i1, true, rfl, iteF ?_⟩
    exact q
theorem sc_isHolder : FnScope ["web", "thing"] ["web", "thing"] (C8.fnScope sIsHolder) := ⟨rfl, rfl, rfl, by decide +kernel, rfl, by decide +kernel, by decide +kernel⟩
def spIsHolder (K : PySem.W.Frag) (CW : Addr) (r : V) : Sp := fun vs H Q _ => ∃ (v x : V) (h : Hol) (folk : Int) (t : Town), vs = [v, x] ∧ WebX K CW H v folk t ∧ HolV H x h ∧ okHol folk t.length h ∧ Q r H
theorem cal_isHolder (D : C8.Def K mg "is_holder" sIsHolder f fd) (b : Binds K fd ["web", "thing"] []) (B : Bi mg) (G : C8.Cal P w K mg base 3 "is_holder_of" spHolderOf []) : C8.Cal P w K mg base 4 "is_holder" (spIsHolder K CW (.bl true)) [] := by
  refine C8.cal0 D b .nil sc_isHolder (fun vs H Q E h => ?_) (fun cdv A outer s H vs Q E hr h => ?_)
  · obtain ⟨v, x, h, folk, t, rfl, _⟩ := h
    rfl
  · obtain ⟨v, x, h, folk, t, rfl, ⟨C, T, p, dx, fs, hv, rfl, hp, k1, k2, a, hss, rfl, ha, pr⟩, hx, ok, q⟩ := h
    have hlen := pr_len pr
    refine ⟨_, pss_one (ps_ret (C8.pe_c G hr (by decide) (by rfl) (pa_cons (pv 1) (pa_cons (pe_fld (pv 0) rfl) (pa_cons (pe_callB call_len_seq (by rfl) B.len bt_len (pa_cons (pe_fld (pv 0) rfl) pa_nil)) pa_nil))))), ?_⟩
    refine ⟨_, rfl, _, rfl, p, C, dx, fs, _, rfl, hp, T.cl, T.nF, k1, _, rfl, p, C, dx, fs, _, rfl, hp, T.cl, T.nH, k2, a, hss, rfl, .inr (SqT.of ha), x, h, folk, _, rfl, hx, ?_, q⟩
    rw [hlen]
    exact ok
theorem sc_chHolder : FnScope ["web", "thing"] ["web", "thing"] (C8.fnScope sChHolder) := ⟨rfl, rfl, rfl, by decide +kernel, rfl, by decide +kernel, by decide +kernel⟩
theorem cal_chHolder (D : C8.Def K mg "check_holder" sChHolder f fd) (b : Binds K fd ["web", "thing"] []) (G : C8.Cal P w K mg base 4 "is_holder" (spIsHolder K CW (.bl true)) []) : C8.Cal P w K mg base 5 "check_holder" (spIsHolder K CW .non) [] := by
  refine C8.cal0 D b .nil sc_chHolder (fun vs H Q E h => ?_) (fun cdv A outer s H vs Q E hr h => ?_)
  · obtain ⟨v, x, h, folk, t, rfl, _⟩ := h
    rfl
  · obtain ⟨v, x, h, folk, t, rfl, W, hx, ok, q⟩ := h
    refine ⟨_, pss_one (ps_if (pt_not (pt_val (C8.pe_c G hr (by decide) (by rfl) (pa_cons (pv 0) (pa_cons (pv 1) pa_nil))))) (pss_one ps_never) pss_nil), ?_⟩
    exact ⟨_, rfl, _, rfl, v, x, h, folk, t, rfl, W, hx, ok, true, rfl, iteF q⟩

/-! ### held_of, held -/
theorem sc_heldOf : FnScope ["web", "house", "holder", "other"] ["web", "house", "holder"] (C8.fnScope sHeldOf) := ⟨rfl, rfl, rfl, by decide +kernel, rfl, by decide +kernel, by decide +kernel⟩
def spHeldOf (K : PySem.W.Frag) (CW : Addr) : Sp := fun vs H Q _ => ∃ (v x : V) (i : Nat) (h : Hol) (folk : Int) (t : Town) (hs : List Hol), vs = [v, .int (i : Nat), x] ∧ WebX K CW H v folk t ∧ HolV H x h ∧ t[i]? = some hs ∧ hs.length ≤ 1000 ∧ okHol folk t.length h ∧
  ∀ H', Same H H' → Q (.int ((hs.count h : Nat) : Int)) H'
theorem cal_heldOf (D : C8.Def K mg "held_of" sHeldOf f fd) (b : Binds K fd ["web", "house", "holder"] []) (B : Bi mg) : C8.Cal P w K mg base 1 "held_of" (spHeldOf K CW) [] := by
  refine C8.cal0 D b .nil sc_heldOf (fun vs H Q E h => ?_) (fun cdv A outer s H vs Q E hr h => ?_)
  · obtain ⟨v, x, i, h, folk, t, hs, rfl, _⟩ := h
    rfl
  · obtain ⟨v, x, i, h, folk, t, hs, rfl, ⟨C, T, p, dx, fs, hv, rfl, hp, k1, k2, a, hss, rfl, ha, pr⟩, hx, et, hl, ok, q⟩ := h
    obtain ⟨y, ey, c, ys, rfl, hc, py⟩ := pr_getR pr et
    have hu := Room.units hr
    refine ⟨_, pss_one (ps_ret (pe_callB call_len_seq (by rfl) B.len bt_len (pa_cons (pe_lc (own := [("other", 3)]) (g := gName 3) (tt := tTest (tOp (rEqD K) (tVar 3) (tVar 2))) rfl sc_heldOf.nd
      (pi_tup (pe_ix ix_tup (pe_fld (pv 0) rfl) (pv 1) (fun _ _ => rfl)))
      (blkOk_by (N := ["web", "house", "holder", "other"]) (sc := C8.fnScope sHeldOf) (by decide +kernel)) (fun _ _ _ _ _ => pg_name (i := 3) sc_heldOf.nd rfl (Or.inl rfl)) (fun _ _ _ _ _ => pts_one (pt_cmpR (r := rEqD K) (op_eqD hu) (pv 3) (pv 2) (nomark _)))
      (fun _ _ _ _ _ => pv 3)) pa_nil))), ?_⟩
    refine ⟨_, rfl, p, C, dx, fs, _, rfl, hp, T.cl, T.nH, k2, _, rfl, a, hss, _, _, rfl, rfl, SqT.of ha, atI_nat ey, c, rfl, ⟨ys, SqT.of hc⟩, fun L hL => ?_⟩
    have ly := pr_len py
    refine lc_tup (xs := ys) (fun j H' => Same H H' ∧ ∃ acc : List V, H' L = some (.lst acc) ∧ acc.length = ((hs.take j).filter fun o => decide (o = h)).length) ⟨same_upd hL, [], upd_same, rfl⟩ (fun j H' _ hq => SqT.of (hq.1 _ _ hc)) (fun j z H' hz hq => ?_) (fun H' hq => ?_)
    · obtain ⟨sm, acc, eL, lac⟩ := hq
      obtain ⟨o, eo, ho⟩ := pr_get py hz
      have hj := (List.getElem?_eq_some_iff.mp hz).1
      refine ⟨rfl, ?_⟩
      refine ⟨_, rfl, _, rfl, encH o, encH h, (ho.tk (TK.of sm)).dp, (hx.tk (TK.of sm)).dp, shaped_H o, shaped_H h, _, rfl, ?_⟩
      rw [eqv_H]
      have et : (hs.take (j + 1)) = hs.take j ++ [o] := by
        rw [List.take_add_one, eo]
        rfl
      have lf : ((hs.take j).filter fun o => decide (o = h)).length ≤ j := Nat.le_trans (List.length_filter_le _ _) (by rw [List.length_take]; exact Nat.min_le_left _ _)
      by_cases e : o = h
      · rw [decide_eq_true e]
        refine iteT ?_
        refine ⟨_, rfl, acc, eL, small1000 (by omega), fun d u ed => ?_, _, upd_same, ?_⟩
        · have nd : d ≠ L := ne_of_none ed hL
          rw [upd_ne nd]
          exact sm _ _ ed
        · rw [et, List.filter_append, List.length_append, List.length_append, lac, List.filter_cons_of_pos (by simp [e])]
          rfl
      · rw [decide_eq_false e]
        refine iteF ⟨sm, acc, eL, ?_⟩
        rw [et, List.filter_append, List.filter_cons_of_neg (by simp [e])]
        rw [lac]
        simp
    · obtain ⟨sm, acc, eL, lac⟩ := hq
      refine ⟨L, acc, rfl, .inl (SqL.of eL), ?_⟩
      rw [ly, List.take_length, filter_count] at lac
      rw [lac]
      exact q H' sm
theorem sc_held : FnScope ["web", "house", "holder"] ["web", "house", "holder"] (C8.fnScope sHeld) := ⟨rfl, rfl, rfl, by decide +kernel, rfl, by decide +kernel, by decide +kernel⟩
theorem cal_held (D : C8.Def K mg "held" sHeld f fd) (b : Binds K fd ["web", "house", "holder"] []) (G1 : C8.Cal P w K mg base 4 "check_house" (spChHouse K CW) []) (G2 : C8.Cal P w K mg base 5 "check_holder" (spIsHolder K CW .non) []) (G3 : C8.Cal P w K mg base 1 "held_of" (spHeldOf K CW) []) :
    C8.Cal P w K mg base 6 "held" (spHeldOf K CW) [] := by
  refine C8.cal0 D b .nil sc_held (fun vs H Q E h => ?_) (fun cdv A outer s H vs Q E hr h => ?_)
  · obtain ⟨v, x, i, h, folk, t, hs, rfl, _⟩ := h
    rfl
  · obtain ⟨v, x, i, h, folk, t, hs, rfl, W, hx, et, hl, ok, q⟩ := h
    refine ⟨_, pss_cons (ps_expr (C8.pe_c G1 hr (by decide) (by rfl) (pa_cons (pv 0) (pa_cons (pv 1) pa_nil)))) (pss_cons (ps_expr (C8.pe_c G2 hr (by decide) (by rfl) (pa_cons (pv 0) (pa_cons (pv 2) pa_nil))))
      (pss_one (ps_ret (C8.pe_c G3 hr (by decide) (by rfl) (pa_cons (pv 0) (pa_cons (pv 1) (pa_cons (pv 2) pa_nil))))))), ?_⟩
    have hi := (List.getElem?_eq_some_iff.mp et).1
    refine ⟨_, rfl, _, rfl, v, _, folk, t, rfl, W, by omega, by omega, ?_⟩
    refine ⟨_, rfl, _, rfl, v, x, h, folk, t, rfl, W, hx, ok, ?_⟩
    exact ⟨_, rfl, _, rfl, _, rfl, v, x, i, h, folk, t, hs, rfl, W, hx, et, hl, ok, q⟩
end
end K6

set_option Elab.async false
set_option linter.all false
set_option maxRecDepth 100000
set_option maxHeartbeats 4000000
/-! K06, part D6: sold, check_shares, founded. -/
namespace K6
open PySem PySem.Spec PyProof.Rows L2

section
variable {P : Program} {w : World} {K : PySem.W.Frag} {mg : Str → Option Value} {base : Heap} {f CW CR C : Addr} {fd : FuncData}
def rListOf (K : PySem.W.Frag) : List V → Hp → VK → Prop := fun xs H Q => ∃ p ys, xs = [.ref p] ∧ (SqL K H p ys ∨ SqT K H p ys) ∧ ∀ l, H l = none → Q (.ref l) (upd H l (.lst ys))
theorem call_listOf {X : Cx} : CallR X (.type "list") (rListOf X.K) := call_list_of
/-- a list of holders of its own -/
def LstV (H : Hp) (v : V) (hs : List Hol) : Prop := ∃ a ys, v = .ref a ∧ H a = some (.lst ys) ∧ Paired (HolV H) ys hs
theorem LstV.seq {H : Hp} {v : V} {hs : List Hol} (x : LstV H v hs) : SeqV K H v hs := let ⟨a, ys, e, q, r⟩ := x; ⟨a, ys, e, .inl (SqL.of q), r⟩
theorem LstV.same {H H' : Hp} {v : V} {hs : List Hol} (x : LstV H v hs) (s : Same H H') : LstV H' v hs := let ⟨a, ys, e, q, r⟩ := x; ⟨a, ys, e, s _ _ q, pH.tk r (TK.of s)⟩
theorem mapP2 {A B : Type} {F G : A → B → Prop} {xs : List A} {ys : List B} (h : Paired F xs ys) (k : ∀ a b, F a b → G a b) : Paired G xs ys := Paired.mapP h k
/-- one of the lists is changed: the others stand -/
theorem lists_set {H : Hp} {l : Addr} {zs : List V} {hs' : List Hol} : ∀ {xs : List V} {t : Town}, Paired (LstV H) xs t → xs.Nodup → ∀ {i : Nat}, xs[i]? = some (.ref l) → (∃ ys, H l = some (.lst ys)) → Paired (HolV H) zs hs' → Paired (LstV (upd H l (.lst zs))) xs (t.set i hs') := by
  intro xs t pr nd i hi hl pz
  obtain ⟨ys0, hl⟩ := hl
  have kt : TK H (upd H l (.lst zs)) := TK.put hl (fun _ z => nomatch z)
  have go : ∀ {xs : List V} {t : Town}, Paired (LstV H) xs t → V.ref l ∉ xs → Paired (LstV (upd H l (.lst zs))) xs t := by
    intro xs t pr
    induction pr with
    | nil => exact fun _ => .nil
    | cons r _ ih =>
      intro hn
      rw [List.mem_cons, not_or] at hn
      obtain ⟨a, ys, rfl, q, r⟩ := r
      refine .cons ⟨a, ys, rfl, ?_, pH.tk r kt⟩ (ih hn.2)
      rw [upd_ne (fun z => hn.1 (by rw [z]))]
      exact q
  induction pr generalizing i with
  | nil => simp at hi
  | cons r pr ih =>
    rw [List.nodup_cons] at nd
    cases i with
    | zero =>
      have e := Option.some.inj hi
      subst e
      exact .cons ⟨l, zs, rfl, upd_same, pH.tk pz kt⟩ (go pr nd.1)
    | succ i =>
      have hm : V.ref l ∈ _ := List.mem_of_getElem? (show (_ : List V)[i]? = some (V.ref l) from hi)
      refine .cons ?_ (ih nd.2 (i := i) hi)
      obtain ⟨a, ys, rfl, q, r⟩ := r
      refine ⟨a, ys, rfl, ?_, pH.tk r kt⟩
      rw [upd_ne (fun z => nd.1 (by rw [z]; exact hm))]
      exact q
abbrev nSold : List Str := ["web", "house", "share", "holder", "houses", "shares"]
theorem sc_sold : FnScope nSold ["web", "house", "share", "holder"] (C8.fnScope sSold) := ⟨rfl, rfl, rfl, by decide +kernel, rfl, by decide +kernel, by decide +kernel⟩
def spSold (K : PySem.W.Frag) (CW CR : Addr) : Sp := fun vs H Q _ => ∃ (v x : V) (i j : Nat) (h : Hol) (folk : Int) (t : Town) (hs : List Hol), vs = [v, .int (i : Nat), .int (j : Nat), x] ∧ WebX K CW H v folk t ∧ HolV H x h ∧ t[i]? = some hs ∧ j < hs.length ∧ okHol folk t.length h ∧
  0 ≤ folk ∧ folk ≤ 1000 ∧ t.length ≤ 1000 ∧ (∀ hs ∈ t, hs.length ≤ 15 ∧ ∀ h ∈ hs, 0 ≤ h.2 ∧ (h.1 = false → h.2 < folk)) ∧ ∀ H' r, WebV CR H' r folk ((t.set i (hs.set j h)).map sortH) → Same H H' → Q r H'
theorem cal_sold (D : C8.Def K mg "sold" sSold f fd) (b : Binds K fd ["web", "house", "share", "holder"] []) (B : Bi mg) (G1 : C8.Cal P w K mg base 4 "check_house" (spChHouse K CW) []) (GW : C8.Cal P w K mg base 2 "is_within" spWithin []) (G2 : C8.Cal P w K mg base 5 "check_holder" (spIsHolder K CW .non) [])
    (G3 : C8.Cal P w K mg base 4 "raw_web" (spRaw K CR true) []) : C8.Cal P w K mg base 6 "sold" (spSold K CW CR) [] := by
  refine C8.cal0 D b .nil sc_sold (fun vs H Q E h => ?_) (fun cdv A outer s H vs Q E hr h => ?_)
  · obtain ⟨v, x, i, j, h, folk, t, hs, rfl, _⟩ := h
    rfl
  · obtain ⟨v, x, i, j, h, folk, t, hs, rfl, W, hx, et, hj, ok, fo0, fo1, tl, okt, q⟩ := h
    obtain ⟨C, T, p, dx, fs, hv, rfl, hp, k1, k2, a, hss, rfl, ha, pr⟩ := id W
    obtain ⟨y, ey, c, ys, rfl, hc, py⟩ := pr_getR pr et
    have hlen := pr_len pr
    have ly := pr_len py
    have hi := (List.getElem?_eq_some_iff.mp et).1
    refine ⟨_, pss_cons (ps_expr (C8.pe_c G1 hr (by decide) (by rfl) (pa_cons (pv 0) (pa_cons (pv 1) pa_nil))))
      (pss_cons (ps_if (pt_not (pt_val (C8.pe_c GW hr (by decide) (by rfl) (pa_cons (pv 2) (pa_cons pe_int (pa_cons (pe_op op_sub (pe_callB call_len_seq (by rfl) B.len bt_len (pa_cons (pe_ix ix_tup (pe_fld (pv 0) rfl) (pv 1) (fun _ _ => rfl)) pa_nil)) pe_int) pa_nil)))))) (pss_one ps_never) pss_nil)
      (pss_cons (ps_expr (C8.pe_c G2 hr (by decide) (by rfl) (pa_cons (pv 0) (pa_cons (pv 3) pa_nil))))
      (pss_cons (ps_setLc (i := 4) (own := [("shares", 5)]) (g := gName 5) (tt := tYes) rfl sc_sold.nd rfl rfl (sw_true rfl rfl rfl (by decide +kernel)) (pi_tup (pe_fld (pv 0) rfl))
        (blkOk_by (N := nSold) (sc := C8.fnScope sSold) (by decide +kernel)) (fun _ _ _ _ _ => pg_name (i := 5) sc_sold.nd rfl (Or.inl rfl)) (fun _ _ _ _ _ => pts_nil)
        (fun _ _ _ _ _ => pe_callTy (r := rListOf K) call_listOf (by rfl) B.list bt_list (pa_cons (pv 5) pa_nil)))
      (pss_cons (ps_asg (pv 3) (pg_sub (pe_ix ix_list (pv 4) (pv 1) (fun _ _ => rfl)) (pv 2) set_list))
      (pss_one (ps_ret (C8.pe_c G3 hr (by decide) (by rfl) (pa_cons (pe_fld (pv 0) rfl) (pa_cons (pv 4) pa_nil))))))))), ?_⟩
    -- check_house(web, house)
    refine ⟨_, rfl, _, rfl, _, _, folk, t, rfl, W, by omega, by omega, ?_⟩
    -- if not is_within(share, 0, len(web.houses[house]) - 1)
    refine ⟨_, rfl, _, rfl, p, C, dx, fs, _, rfl, hp, T.cl, T.nH, k2, _, rfl, a, hss, _, _, rfl, rfl, SqT.of ha, atI_nat ey, c, ys, rfl, .inr (SqT.of hc), _, 1, rfl, rfl, _, 0, _, rfl, true, ?_, iteF ?_⟩
    · rw [decide_eq_true (show (0 : Int) ≤ (j : Int) by omega), decide_eq_true (show (j : Int) ≤ (ys.length : Int) - 1 by omega)]
      rfl
    -- check_holder(web, holder)
    refine ⟨_, rfl, _, rfl, _, x, h, folk, t, rfl, W, hx, ok, ?_⟩
    -- houses = [list(shares) for shares in web.houses]
    refine ⟨_, rfl, p, C, dx, fs, _, rfl, hp, T.cl, T.nH, k2, a, rfl, ⟨hss, SqT.of ha⟩, fun L hL => ?_⟩
    refine lc_tup (xs := hss) (fun n H' => ∃ zs : List V, Same H H' ∧ H' L = some (.lst zs) ∧ zs.Nodup ∧ V.ref L ∉ zs ∧ (∀ l, V.ref l ∈ zs → H l = none) ∧ Paired (LstV H') zs (t.take n)) ⟨[], same_upd hL, upd_same, List.nodup_nil, List.not_mem_nil, (fun _ m => nomatch m), .nil⟩ (fun n H' _ ⟨zs, sm, _⟩ => SqT.of (sm _ _ ha)) (fun n z H' hz hq => ?_) (fun H' hq => ?_)
    · obtain ⟨zs, sm, eL, nd, nL, fz, pz⟩ := hq
      obtain ⟨hs1, e1, d, ws, rfl, hd, pw⟩ := pr_get pr hz
      have hn := (List.getElem?_eq_some_iff.mp hz).1
      have lz := pr_len pz
      refine ⟨rfl, ?_⟩
      refine ⟨_, rfl, d, ws, rfl, .inr (SqT.of (sm _ _ hd)), fun l hl => ?_⟩
      have nlL : l ≠ L := (ne_of_none eL hl).symm
      have sl : Same H' (upd H' l (.lst ws)) := same_upd hl
      have new : V.ref l ∉ zs := fun m => by
        have go : ∀ {xs : List V} {t : Town}, Paired (LstV H') xs t → V.ref l ∈ xs → False := by
          intro xs t pr
          induction pr with
          | nil => exact fun m => nomatch m
          | cons r _ ih =>
            intro m
            rcases List.mem_cons.mp m with e | m
            · obtain ⟨a', ys', e', q', _⟩ := r
              rw [e'] at e
              cases e
              rw [hl] at q'
              cases q'
            · exact ih m
        exact go pz m
      have eLl : (upd H' l (.lst ws)) L = some (.lst zs) := sl _ _ eL
      have el : (upd H' l (.lst ws)) l = some (.lst ws) := upd_same
      generalize upd H' l (.lst ws) = O at sl eLl el ⊢
      refine ⟨zs, eLl, ?_, zs ++ [.ref l], fun b o e => ?_, upd_same, ?_, ?_, fun l' m => ?_, ?_⟩
      · rw [lz, List.length_take]
        exact small1000 (by omega)
      · rw [upd_ne (ne_of_none e hL)]
        exact sl _ _ (sm _ _ e)
      · refine List.nodup_append.mpr ⟨nd, List.nodup_cons.mpr ⟨List.not_mem_nil, List.nodup_nil⟩, fun a ha b hb e => ?_⟩
        rw [List.mem_singleton.mp hb] at e
        exact new (e ▸ ha)
      · intro m
        rcases List.mem_append.mp m with m | m
        · exact nL m
        · exact nlL (V.ref.inj (List.mem_singleton.mp m)).symm
      · rcases List.mem_append.mp m with m | m
        · exact fz l' m
        · rw [V.ref.inj (List.mem_singleton.mp m)]
          exact sm.free hl
      · have kL : TK O (upd O L (.lst (zs ++ [V.ref l]))) := TK.put eLl (fun _ z => nomatch z)
        rw [List.take_add_one, e1]
        refine pr_append ?_ (.cons ⟨l, ws, rfl, ?_, pH.tk pw ((TK.of (sm.trans sl)).trans kL)⟩ .nil)
        · have go : ∀ {xs : List V} {t : Town}, Paired (LstV H') xs t → V.ref L ∉ xs → Paired (LstV (upd O L (.lst (zs ++ [V.ref l])))) xs t := by
            intro xs t pr
            induction pr with
            | nil => exact fun _ => .nil
            | cons r _ ih =>
              intro hn
              rw [List.mem_cons, not_or] at hn
              obtain ⟨a', ys', rfl, q', r'⟩ := r
              refine .cons ⟨a', ys', rfl, ?_, pH.tk r' ((TK.of sl).trans kL)⟩ (ih hn.2)
              rw [upd_ne (fun z => hn.1 (by rw [z]))]
              exact sl _ _ q'
          exact go pz nL
        · rw [upd_ne nlL]
          exact el
    · obtain ⟨zs, sm, eL, nd, nL, fz, pz⟩ := hq
      rw [hlen, List.take_length] at pz
      obtain ⟨z, ez, l, ws, rfl, hl, pw⟩ := pr_getR pz et
      have lw := pr_len pw
      have nlL : l ≠ L := fun z => nL (by rw [← z]; exact List.mem_of_getElem? ez)
      -- houses[house][share] = holder
      refine ⟨_, rfl, _, rfl, _, rfl, L, zs, _, _, rfl, rfl, SqL.of eL, atI_nat ez, _, rfl, l, ws, _, j, rfl, rfl, hl, ?_, ?_⟩
      · unfold ixN
        rw [if_pos (by omega), if_pos (by omega)]
        rfl
      have kt : TK H' (upd H' l (.lst (ws.set j x))) := TK.put hl (fun _ z => nomatch z)
      have pr2 := lists_set pz nd ez ⟨ws, hl⟩ (pr_set (hx.tk (TK.of sm)) j pw)
      have eL2 : (upd H' l (.lst (ws.set j x))) L = some (.lst zs) := by
        rw [upd_ne nlL.symm]
        exact eL
      have s2 : Same H (upd H' l (.lst (ws.set j x))) := fun b o e => by
        have nb : b ≠ l := ne_of_none e (fz l (List.mem_of_getElem? ez))
        rw [upd_ne nb]
        exact sm _ _ e
      generalize upd H' l (.lst (ws.set j x)) = O at pr2 eL2 s2 ⊢
      -- return raw_web(web.folk, houses)
      refine ⟨_, rfl, p, C, dx, fs, _, rfl, s2 _ _ hp, T.cl, T.nF, k1, _, rfl, L, zs, folk, t.set i (hs.set j h), rfl, SqL.of eL2, mapP2 pr2 fun _ _ z => z.seq, fo0, fo1, by rw [List.length_set]; exact tl, fun hs' m => ?_, fun H2 r wv sm2 => ?_⟩
      · rcases List.mem_or_eq_of_mem_set m with m | e
        · exact okt hs' m
        · obtain ⟨o1, o2⟩ := okt hs (List.mem_of_getElem? et)
          rw [e, List.length_set]
          refine ⟨o1, fun g mg => ?_⟩
          rcases List.mem_or_eq_of_mem_set mg with mg | e
          · exact o2 g mg
          · rw [e]
            exact ⟨ok.1, ok.2.1⟩
      · exact q H2 r wv (s2.trans sm2)


/-! ### check_shares, founded -/
theorem sc_chShares : FnScope ["web", "thing"] ["web", "thing"] (C8.fnScope sChShares) := ⟨rfl, rfl, rfl, by decide +kernel, rfl, by decide +kernel, by decide +kernel⟩
def spChShares (K : PySem.W.Frag) (CW : Addr) : Sp := fun vs H Q _ => ∃ (v x : V) (folk : Int) (t : Town) (hs : List Hol), vs = [v, x] ∧ WebX K CW H v folk t ∧ HouV H x hs ∧ okHou folk ((t.length : Int) + 1) hs ∧ ∀ H', Same H H' → Q .non H'
theorem cal_chShares (D : C8.Def K mg "check_shares" sChShares f fd) (b : Binds K fd ["web", "thing"] []) (B : Bi mg) (G : C8.Cal P w K mg base 4 "are_shares" spShares []) : C8.Cal P w K mg base 5 "check_shares" (spChShares K CW) [] := by
  refine C8.cal0 D b .nil sc_chShares (fun vs H Q E h => ?_) (fun cdv A outer s H vs Q E hr h => ?_)
  · obtain ⟨v, x, folk, t, hs, rfl, _⟩ := h
    rfl
  · obtain ⟨v, x, folk, t, hs, rfl, ⟨C, T, p, dx, fs, hv, rfl, hp, k1, k2, a, hss, rfl, ha, pr⟩, hx, ok, q⟩ := h
    have hlen := pr_len pr
    refine ⟨_, pss_one (ps_if (pt_not (pt_val (C8.pe_c G hr (by decide) (by rfl) (pa_cons (pv 1) (pa_cons (pe_fld (pv 0) rfl) (pa_cons (pe_op op_add (pe_callB call_len_seq (by rfl) B.len bt_len (pa_cons (pe_fld (pv 0) rfl) pa_nil)) pe_int) pa_nil)))))) (pss_one ps_never) pss_nil), ?_⟩
    refine ⟨_, rfl, _, rfl, p, C, dx, fs, _, rfl, hp, T.cl, T.nF, k1, _, rfl, p, C, dx, fs, _, rfl, hp, T.cl, T.nH, k2, a, hss, rfl, .inr (SqT.of ha), _, 1, rfl, rfl, x, hs, folk, _, rfl, hx, ?_, fun H2 sm => ⟨true, rfl, iteF ?_⟩⟩
    · rw [hlen]
      exact ok
    · exact q H2 sm
theorem HouV.seq {H : Hp} {v : V} {hs : List Hol} (x : HouV H v hs) : SeqV K H v hs := let ⟨a, ys, e, q, r⟩ := x; ⟨a, ys, e, .inr (SqT.of q), r⟩
theorem sc_founded : FnScope ["web", "shares"] ["web", "shares"] (C8.fnScope sFounded) := ⟨rfl, rfl, rfl, by decide +kernel, rfl, by decide +kernel, by decide +kernel⟩
def spFounded (K : PySem.W.Frag) (CW CR : Addr) : Sp := fun vs H Q _ => ∃ (v x : V) (folk : Int) (t : Town) (hs : List Hol), vs = [v, x] ∧ WebX K CW H v folk t ∧ HouV H x hs ∧ okHou folk ((t.length : Int) + 1) hs ∧
  0 ≤ folk ∧ folk ≤ 1000 ∧ t.length ≤ 900 ∧ (∀ hs ∈ t, hs.length ≤ 15 ∧ ∀ h ∈ hs, 0 ≤ h.2 ∧ (h.1 = false → h.2 < folk)) ∧ ∀ H' r, WebV CR H' r folk ((t ++ [hs]).map sortH) → Same H H' → Q r H'
theorem cal_founded (D : C8.Def K mg "founded" sFounded f fd) (b : Binds K fd ["web", "shares"] []) (G1 : C8.Cal P w K mg base 5 "check_shares" (spChShares K CW) []) (G2 : C8.Cal P w K mg base 4 "raw_web" (spRaw K CR false) []) : C8.Cal P w K mg base 6 "founded" (spFounded K CW CR) [] := by
  refine C8.cal0 D b .nil sc_founded (fun vs H Q E h => ?_) (fun cdv A outer s H vs Q E hr h => ?_)
  · obtain ⟨v, x, folk, t, hs, rfl, _⟩ := h
    rfl
  · obtain ⟨v, x, folk, t, hs, rfl, W, hx, ok, fo0, fo1, tl, okt, q⟩ := h
    obtain ⟨C, T, p, dx, fs, hv, rfl, hp, k1, k2, a, hss, rfl, ha, pr⟩ := id W
    have hlen := pr_len pr
    refine ⟨_, pss_cons (ps_expr (C8.pe_c G1 hr (by decide) (by rfl) (pa_cons (pv 0) (pa_cons (pv 1) pa_nil))))
      (pss_one (ps_ret (C8.pe_c G2 hr (by decide) (by rfl) (pa_cons (pe_fld (pv 0) rfl) (pa_cons (pe_op op_catA (pe_fld (pv 0) rfl) (pe_tup (pa_cons (pv 1) pa_nil))) pa_nil))))), ?_⟩
    refine ⟨_, rfl, _, rfl, _, x, folk, t, hs, rfl, W, hx, ok, fun H1 sm => ?_⟩
    refine ⟨_, rfl, p, C, dx, fs, _, rfl, sm _ _ hp, T.cl, T.nF, k1, _, rfl, p, C, dx, fs, _, rfl, sm _ _ hp, T.cl, T.nH, k2, _, rfl, (by show 1 ≤ sizeLine; decide), fun U hU => ?_⟩
    have sU : Same H (upd H1 U (.tup [x])) := sm.trans (same_upd hU)
    have eU : (upd H1 U (.tup [x])) U = some (.tup [x]) := upd_same
    generalize upd H1 U (.tup [x]) = O at sU eU ⊢
    have okA : ∀ hs' ∈ t ++ [hs], hs'.length ≤ 15 ∧ ∀ h ∈ hs', 0 ≤ h.2 ∧ (h.1 = false → h.2 < folk) := fun hs' m => by
      rcases List.mem_append.mp m with m | m
      · exact okt hs' m
      · rw [List.mem_singleton.mp m]
        exact ⟨ok.most, fun g mg => ⟨(ok.all g mg).1, (ok.all g mg).2.1⟩⟩
    have tlA : (t ++ [hs]).length ≤ 1000 := by
      rw [List.length_append, List.length_singleton]
      omega
    have hxO := hx.tk (TK.of sU)
    refine ⟨a, U, hss, [x], rfl, rfl, SqT.of (sU _ _ ha), SqT.of eU, ?_, fun e => ?_, (fun _ e => nomatch e), fun _ _ N hN => ?_⟩
    · rw [List.length_singleton]
      exact small1000 (by omega)
    · subst e
      cases pr
      exact ⟨U, [x], folk, [hs], rfl, SqT.of eU, .cons hxO.seq .nil, fo0, fo1, tlA, okA, fun H2 r wv sm2 => q H2 r wv (sU.trans sm2)⟩
    · have sN : Same O (upd O N (.tup (hss ++ [x]))) := same_upd hN
      refine ⟨N, hss ++ [x], folk, t ++ [hs], rfl, SqT.of upd_same, ?_, fo0, fo1, tlA, okA, fun H2 r wv sm2 => q H2 r wv ((sU.trans sN).trans sm2)⟩
      exact pr_append (mapP2 (pS.tk pr (TK.of (sU.trans sN))) fun _ _ z => z.seq) (.cons (hxO.tk (TK.of sN)).seq .nil)
end
end K6

set_option Elab.async false
set_option linter.all false
set_option maxRecDepth 100000
set_option maxHeartbeats 4000000
/-! K06, part D7: the law's pool, its draws, its holders. -/
namespace K6
open PySem PySem.Spec PyProof.Rows L2

/-! ### the pool of draws -/
def PoolAt (p c : Addr) (H : Hp) : Prop := ∃ (s n : Int) (cells : List Int), H p = some (.lst [.int s, .int n, .ref c]) ∧ H c = some (.lst (cells.map V.int))
theorem PoolAt.ne {p c : Addr} {H : Hp} (h : PoolAt p c H) : p ≠ c := by
  obtain ⟨s, n, cells, h1, h2⟩ := h
  refine ne_of h1 h2 fun z => ?_
  have e := HO.lst.inj z
  cases cells with
  | nil => cases e
  | cons x r =>
    rw [List.map_cons] at e
    have e2 := (List.cons.inj e).2
    cases r with
    | nil => cases e2
    | cons y r =>
      rw [List.map_cons] at e2
      have e3 := (List.cons.inj e2).2
      cases r with
      | nil => cases e3
      | cons z r =>
        rw [List.map_cons] at e3
        cases (List.cons.inj e3).1
/-- all is kept but the pool's two lists -/
def PC (p c : Addr) (H H' : Hp) : Prop := ∀ b o, H b = some o → b ≠ p → b ≠ c → H' b = some o
theorem PC.refl (p c : Addr) (H : Hp) : PC p c H H := fun _ _ h _ _ => h
theorem PC.of {p c : Addr} {H H' : Hp} (s : Same H H') : PC p c H H' := fun b o e _ _ => s b o e
theorem PC.trans {p c : Addr} {H H1 H2 : Hp} (a : PC p c H H1) (b : PC p c H1 H2) : PC p c H H2 := fun d o e n m => b d o (a d o e n m) n m
theorem PoolAt.same {p c : Addr} {H H' : Hp} (h : PoolAt p c H) (s : Same H H') : PoolAt p c H' := let ⟨a, n, l, h1, h2⟩ := h; ⟨a, n, l, s _ _ h1, s _ _ h2⟩
theorem PC.nl {p c : Addr} {H H' : Hp} (s : PC p c H H') (h : PoolAt p c H) : NL H H' := fun a o e n => by
  obtain ⟨_, _, _, h1, h2⟩ := h
  exact s a o e (ne_of e h1 (n _)) (ne_of e h2 (n _))
theorem PC.free {p c l : Addr} {H H' : Hp} (s : PC p c H H') (h : PoolAt p c H') (e : H' l = none) : H l = none := by
  obtain ⟨_, _, _, h1, h2⟩ := h
  cases q : H l with
  | none => rfl
  | some o =>
    have q' := s l o q (ne_of_none h1 e).symm (ne_of_none h2 e).symm
    rw [e] at q'
    cases q'
/-- a list of one's own is not the pool's -/
theorem PoolAt.off {p c l : Addr} {H : Hp} (h : PoolAt p c H) (e : H l = none) : l ≠ p ∧ l ≠ c := by
  obtain ⟨_, _, _, h1, h2⟩ := h
  exact ⟨(ne_of_none h1 e).symm, (ne_of_none h2 e).symm⟩

section
variable {P : Program} {w : World} {K : PySem.W.Frag} {mg : Str → Option Value} {base : Heap} {f CW CR C : Addr} {fd : FuncData}
/-! ### _law_pool -/
abbrev nPool : List Str := ["_law_script", "_law_seed", "_law_cell"]
theorem sc_pool : FnScope nPool ["_law_script"] (C8.fnScope sPool) := ⟨rfl, rfl, rfl, by decide +kernel, rfl, by decide +kernel, by decide +kernel⟩
def spPool (K : PySem.W.Frag) : Sp := fun vs H Q _ => ∃ (a : Addr) (ns : List Int), vs = [.ref a] ∧ SqL K H a (ns.map V.int) ∧ ns.length ≤ 63 ∧ ∀ H' p c, PoolAt p c H' → Same H H' → Q (.ref p) H'
theorem cut_ints (ns : List Int) (hi : Option Int) : ∃ ms : List Int, cutV (ns.map V.int) none hi = ms.map V.int ∧ ms.length ≤ ns.length := by
  refine ⟨(ns.drop (HT.sIx (ns.map V.int).length 0 none)).take (HT.sIx (ns.map V.int).length (ns.map V.int).length hi - HT.sIx (ns.map V.int).length 0 none), ?_, ?_⟩
  · unfold cutV
    rw [← List.map_drop, ← List.map_take]
  · rw [List.length_take, List.length_drop]
    omega
theorem cal_pool (D : C8.Def K mg "_law_pool" sPool f fd) (b : Binds K fd ["_law_script"] []) (B : Bi mg) : C8.Cal P w K mg base 1 "_law_pool" (spPool K) [] := by
  refine C8.cal0 D b .nil sc_pool (fun vs H Q E h => ?_) (fun cdv A outer s H vs Q E hr h => ?_)
  · obtain ⟨a, ns, rfl, _⟩ := h
    rfl
  · obtain ⟨a, ns, rfl, hS, h63, q⟩ := h
    refine ⟨_, pss_cons (ps_set (i := 1) sc_pool.nd rfl (Or.inl rfl) (pe_op op_add (pe_op op_add (pe_op op_mod (pe_callTy call_int1 (by rfl) B.int bt_int (pa_cons (pe_callB (cr_sum rfl) (by rfl) B.sum bt_sum (pa_cons (pe_slice sl_list (pv 0) po_none (po_some pe_int)) pa_nil)) pa_nil)) pe_int)
        (pe_callB call_len_seq (by rfl) B.len bt_len (pa_cons (pv 0) pa_nil))) pe_int))
      (pss_cons (ps_for PassesOwn.never rfl (pi_list (pe_slice sl_list (pv 0) po_none (po_some pe_int))) (pg_name (i := 2) sc_pool.nd rfl (Or.inl rfl))
        (pss_one (ps_set (i := 1) sc_pool.nd rfl (Or.inl rfl) (pe_op op_mod (pe_callTy call_int1 (by rfl) B.int bt_int (pa_cons (pe_op op_add (pe_op op_add (pe_op op_mul (pv 1) pe_int) (pe_op op_mod (pe_callTy call_int1 (by rfl) B.int bt_int (pa_cons (pv 2) pa_nil)) pe_int)) pe_int) pa_nil)) pe_int))))
      (pss_one (ps_ret (pe_lst (pa_cons (pv 1) (pa_cons pe_int (pa_cons (pe_lc (own := [("_law_cell", 2)]) (g := gName 2) rfl sc_pool.nd (pi_list (pe_slice sl_list (pv 0) po_none (po_some pe_int)))
        (blkOk_by (N := nPool) (sc := C8.fnScope sPool) (by decide +kernel)) (fun _ _ _ _ _ => pg_name (i := 2) sc_pool.nd rfl (Or.inl rfl))
        (fun _ _ _ _ _ => pts_one (pt_cmpR op_ge (pe_callB call_abs (by rfl) B.abs bt_abs (pa_cons (pv 2) pa_nil)) (pe_op op_pow pe_int pe_int) (nomark _)))
        (fun _ _ _ _ _ => pe_callB call_abs (by rfl) B.abs bt_abs (pa_cons (pv 2) pa_nil))) pa_nil))))))), ?_⟩
    obtain ⟨m1, e1, _⟩ := cut_ints ns (some 1)
    obtain ⟨m2, e2, l2⟩ := cut_ints ns (some 63)
    -- _law_seed = ..
    refine ⟨_, rfl, 1, rfl, a, _, rfl, hS, fun c1 h1 => ?_⟩
    have s1 : Same H (upd H c1 (.lst (cutV (ns.map V.int) none (some 1)))) := same_upd h1
    refine ⟨c1, m1, rfl, ?_, .inl ⟨_, rfl, _, _, rfl, rfl, (by show (0 : Int) < 1000003; decide), _, rfl, a, _, rfl, .inl (s1.seq hS), _, _, rfl, rfl, _, 1, rfl, rfl, ?_⟩⟩
    · rw [e1]
      exact SqL.of upd_same
    -- for _law_cell in _law_script[:63]
    refine ⟨_, rfl, 63, rfl, a, _, rfl, s1.seq hS, fun c2 h2 => ?_⟩
    have s2 : Same H (upd (upd H c1 (.lst (cutV (ns.map V.int) none (some 1)))) c2 (.lst (cutV (ns.map V.int) none (some 63)))) := s1.trans (same_upd h2)
    have x2 : (upd (upd H c1 (.lst (cutV (ns.map V.int) none (some 1)))) c2 (.lst (cutV (ns.map V.int) none (some 63)))) c2 = some (.lst (m2.map V.int)) := by
      rw [upd_same, e2]
    generalize upd (upd H c1 (.lst (cutV (ns.map V.int) none (some 1)))) c2 (.lst (cutV (ns.map V.int) none (some 63))) = G at s2 x2 ⊢
    refine ⟨c2, rfl, ⟨_, SqL.of x2⟩, for_list (K := K) (a := c2) (xs := m2.map V.int) (fun i σ H' => ∃ (z : Int) (y : Option V), σ = [some (.ref a), some (.int z), y] ∧ H' = G) ⟨_, none, rfl, rfl⟩ (fun i σ H' _ ⟨_, _, _, e⟩ => by rw [e]; exact SqL.of x2) ?_ ?_⟩
    · rintro i x σ H' hx ⟨z, y, rfl, rfl⟩
      rw [List.getElem?_map] at hx
      obtain ⟨k, _, rfl⟩ := Option.map_eq_some_iff.mp hx
      refine ⟨_, rfl, z, 48271, rfl, rfl, .inr ⟨by decide, by decide⟩, _, rfl, .inl ⟨k, rfl, _, _, rfl, rfl, (by show (0 : Int) < 2147483629; decide), _, _, rfl, rfl, _, 11, rfl, rfl, .inl ⟨_, rfl, _, _, rfl, rfl, (by show (0 : Int) < 2147483647; decide), ?_⟩⟩⟩
      exact ⟨_, _, rfl, rfl⟩
    · rintro σ H' ⟨z, y, rfl, rfl⟩
      -- return [seed, 0, [abs(cell) for cell in script[:63] if abs(cell) >= 10 ** 18]]
      refine ⟨_, rfl, _, rfl, 63, rfl, a, _, rfl, s2.seq hS, fun c3 h3 => ?_⟩
      have s3 : Same H (upd H' c3 (.lst (cutV (ns.map V.int) none (some 63)))) := s2.trans (same_upd h3)
      have x3 : (upd H' c3 (.lst (cutV (ns.map V.int) none (some 63)))) c3 = some (.lst (m2.map V.int)) := by
        rw [upd_same, e2]
      generalize upd H' c3 (.lst (cutV (ns.map V.int) none (some 63))) = O at s3 x3 ⊢
      refine ⟨c3, rfl, ⟨_, SqL.of x3⟩, fun L hL => ?_⟩
      refine lc_list (xs := m2.map V.int) (fun i M => Same O M ∧ ∃ out : List Int, M L = some (.lst (out.map V.int)) ∧ out.length ≤ i) ⟨same_upd hL, [], upd_same, Nat.le_refl _⟩ (fun i M _ hp => SqL.of (hp.1 _ _ x3)) (fun i x M hx hp => ?_) (fun M hp => ?_)
      · obtain ⟨sm, out, eL, lo⟩ := hp
        have hi := (List.getElem?_eq_some_iff.mp hx).1
        rw [List.length_map] at hi
        rw [List.getElem?_map] at hx
        obtain ⟨k, _, rfl⟩ := Option.map_eq_some_iff.mp hx
        refine ⟨rfl, ?_⟩
        refine ⟨_, rfl, k, rfl, 10, 18, rfl, rfl, ⟨by decide, by decide, by decide⟩, _, _, rfl, rfl, _, rfl, ?_⟩
        refine ite2 (fun _ => ?_) (fun _ => ?_)
        · refine ⟨_, rfl, k, rfl, _, eL, ?_, fun b o e => ?_, out ++ [if k < 0 then -k else k], ?_, ?_⟩
          · rw [List.length_map]
            exact small1000 (by omega)
          · rw [upd_ne (ne_of_none e hL)]
            exact sm _ _ e
          · rw [upd_same, List.map_append]
            rfl
          · rw [List.length_append, List.length_singleton]
            omega
        · exact ⟨sm, out, eL, by omega⟩
      · obtain ⟨sm, out, eL, lo⟩ := hp
        refine ⟨(by show 3 ≤ sizeLine; decide), fun p hp => ?_⟩
        have sp : Same M (upd M p (.lst [.int z, .int 0, .ref L])) := same_upd hp
        exact q _ p L ⟨z, 0, out, upd_same, sp _ _ eL⟩ ((s3.trans sm).trans sp)

/-! ### _law_draw -/
abbrev nDraw : List Str := ["_law_pool_here", "_law_many", "_law_cells", "_law_digit", "_law_mixed"]
theorem sc_draw : FnScope nDraw ["_law_pool_here", "_law_many"] (C8.fnScope sDraw) := ⟨rfl, rfl, rfl, by decide +kernel, rfl, by decide +kernel, by decide +kernel⟩
def spDraw : Sp := fun vs H Q _ => ∃ (p c : Addr) (many : Int), vs = [.ref p, .int many] ∧ PoolAt p c H ∧ 0 < many ∧ many < 1000000 ∧ ∀ H' k, PoolAt p c H' → PC p c H H' → 0 ≤ k → k < many → Q (.int k) H'
theorem cal_draw (D : C8.Def K mg "_law_draw" sDraw f fd) (b : Binds K fd ["_law_pool_here", "_law_many"] []) (B : Bi mg) : C8.Cal P w K mg base 1 "_law_draw" spDraw [] := by
  refine C8.cal0 D b .nil sc_draw (fun vs H Q E h => ?_) (fun cdv A outer s H vs Q E hr h => ?_)
  · obtain ⟨p, c, many, rfl, _⟩ := h
    rfl
  · obtain ⟨p, c, many, rfl, hP, m0, m1, q⟩ := h
    have npc := hP.ne
    obtain ⟨z, n, cells, hp, hc⟩ := hP
    refine ⟨_, pss_cons (ps_asg (pe_op op_add (pe_ix ix_list (pv 0) pe_int (fun _ _ => rfl)) pe_int) (pg_sub (pv 0) pe_int set_list))
      (pss_cons (ps_set (i := 2) sc_draw.nd rfl (Or.inl rfl) (pe_ix ix_list (pv 0) pe_int (fun _ _ => rfl)))
      (pss_cons (ps_if (pt_cmpR op_gt (pe_callB call_len_seq (by rfl) B.len bt_len (pa_cons (pv 2) pa_nil)) pe_int (nomark _))
        (pss_cons (ps_set (i := 3) sc_draw.nd rfl (Or.inl rfl) (pe_op op_mod (pe_callTy call_int1 (by rfl) B.int bt_int (pa_cons (pe_ix ix_list (pv 2) pe_int (fun _ _ => rfl)) pa_nil)) (pv 1)))
        (pss_cons (ps_asg (pe_op op_fdiv (pe_callTy call_int1 (by rfl) B.int bt_int (pa_cons (pe_ix ix_list (pv 2) pe_int (fun _ _ => rfl)) pa_nil)) (pv 1)) (pg_sub (pv 2) pe_int set_list))
        (pss_cons (ps_if (pt_cmpR op_eq (pe_ix ix_list (pv 2) pe_int (fun _ _ => rfl)) pe_int (nomark _))
          (pss_one (ps_expr (pe_bm PySem.F.plainAttrs_list PySem.F.slot_list_pop PySem.F.type_list_pop mt_popAt (pv 2) (pa_cons pe_int pa_nil)))) pss_nil)
        (pss_one (ps_ret (pv 3)))))) pss_nil)
      (pss_cons (ps_set (i := 4) sc_draw.nd rfl (Or.inl rfl) (pe_op op_mod (pe_callTy call_int1 (by rfl) B.int bt_int (pa_cons (pe_op op_mul (pe_op op_add (pe_ix ix_list (pv 0) pe_int (fun _ _ => rfl)) (pe_op op_mul pe_int (pe_ix ix_list (pv 0) pe_int (fun _ _ => rfl)))) pe_int) pa_nil)) pe_int))
      (pss_cons (ps_set (i := 4) sc_draw.nd rfl (Or.inl rfl) (pe_op op_mod (pe_callTy call_int1 (by rfl) B.int bt_int (pa_cons (pe_op op_mul (pv 4) (pe_op op_add (pe_op op_fdiv (pv 4) pe_int) pe_int)) pa_nil)) pe_int))
      (pss_cons (ps_set (i := 4) sc_draw.nd rfl (Or.inl rfl) (pe_op op_mod (pe_callTy call_int1 (by rfl) B.int bt_int (pa_cons (pe_op op_mul (pv 4) (pe_op op_add (pe_op op_fdiv (pv 4) pe_int) pe_int)) pa_nil)) pe_int))
      (pss_one (ps_ret (pe_op op_mod (pe_callTy call_int1 (by rfl) B.int bt_int (pa_cons (pe_op op_fdiv (pv 4) pe_int) pa_nil)) (pv 1))))))))), ?_⟩
    -- pool[1] = pool[1] + 1
    refine ⟨_, rfl, p, _, 1, _, rfl, rfl, SqL.of hp, atI_nat (j := 1) rfl, n, 1, rfl, rfl, _, rfl, p, _, 1, 1, rfl, rfl, hp, rfl, ?_⟩
    have hp1 : (upd H p (.lst [.int z, .int (n + 1), .ref c])) p = some (.lst [.int z, .int (n + 1), .ref c]) := upd_same
    have hc1 : (upd H p (.lst [.int z, .int (n + 1), .ref c])) c = some (.lst (cells.map V.int)) := by
      rw [upd_ne npc.symm]
      exact hc
    have k1 : PC p c H (upd H p (.lst [.int z, .int (n + 1), .ref c])) := fun b o e n1 n2 => by
      rw [upd_ne n1]
      exact e
    show tSeq _ _ _ _ (upd H p (.lst [.int z, .int (n + 1), .ref c]))
    generalize upd H p (.lst [.int z, .int (n + 1), .ref c]) = G at hp1 hc1 k1 ⊢
    -- cells = pool[2]; if len(cells) > 0
    refine ⟨_, rfl, p, _, 2, _, rfl, rfl, SqL.of hp1, atI_nat (j := 2) rfl, ?_⟩
    refine ⟨_, rfl, c, _, rfl, .inl (SqL.of hc1), _, 0, rfl, rfl, _, rfl, ?_⟩
    cases cells with
    | cons x cells =>
      rw [decide_eq_true (show (0 : Int) < (((x :: cells).map V.int).length : Int) by rw [List.length_map, List.length_cons]; omega)]
      refine iteT ?_
      have a0 : atI ((x :: cells).map V.int) 0 = some (.int x) := atI_nat (j := 0) rfl
      refine ⟨_, rfl, c, _, 0, _, rfl, rfl, SqL.of hc1, a0, .inl ⟨x, rfl, _, rfl, x, many, rfl, rfl, m0, ?_⟩⟩
      refine ⟨_, rfl, c, _, 0, _, rfl, rfl, SqL.of hc1, a0, .inl ⟨x, rfl, _, rfl, x, many, rfl, rfl, ⟨m0, by omega⟩, _, rfl, c, _, 0, 0, rfl, rfl, hc1, ?_, ?_⟩⟩
      · unfold ixN
        rw [if_pos (by decide), if_pos (by rw [List.length_map, List.length_cons]; omega)]
        rfl
      have hp2 : (upd G c (.lst ((x / many :: cells).map V.int))) p = some (.lst [.int z, .int (n + 1), .ref c]) := by
        rw [upd_ne npc]
        exact hp1
      have hc2 : (upd G c (.lst ((x / many :: cells).map V.int))) c = some (.lst ((x / many :: cells).map V.int)) := upd_same
      have k2 : PC p c H (upd G c (.lst ((x / many :: cells).map V.int))) := fun b o e n1 n2 => by
        rw [upd_ne n2]
        exact k1 b o e n1 n2
      show tSeq _ _ _ _ (upd G c (.lst ((x / many :: cells).map V.int)))
      generalize upd G c (.lst ((x / many :: cells).map V.int)) = M at hp2 hc2 k2 ⊢
      have b0 : atI ((x / many :: cells).map V.int) 0 = some (.int (x / many)) := atI_nat (j := 0) rfl
      have d0 : 0 ≤ x % many := Int.emod_nonneg _ (by omega)
      have d1 : x % many < many := Int.emod_lt_of_pos _ m0
      refine ⟨_, rfl, c, _, 0, _, rfl, rfl, SqL.of hc2, b0, rfl, _, rfl, ite2 (fun _ => ?_) (fun _ => ?_)⟩
      · refine ⟨_, rfl, .inl ⟨rfl, _, SqL.of hc2⟩, c, _, 0, 0, _, rfl, rfl, hc2, by decide, by decide, ?_, rfl, ?_⟩
        · rw [List.length_map, List.length_cons]
          unfold seqIndex?
          simp
        · refine ⟨_, rfl, q _ _ ⟨z, n + 1, cells, ?_, ?_⟩ (fun b o e n1 n2 => ?_) d0 d1⟩
          · rw [upd_ne npc]
            exact hp2
          · rw [upd_same]
            rfl
          · rw [upd_ne n2]
            exact k2 b o e n1 n2
      · exact ⟨_, rfl, q _ _ ⟨z, n + 1, _, hp2, hc2⟩ k2 d0 d1⟩
    | nil =>
      refine iteF ?_
      refine ⟨_, rfl, p, _, 0, _, rfl, rfl, SqL.of hp1, atI_nat (j := 0) rfl, _, rfl, p, _, 1, _, rfl, rfl, SqL.of hp1, atI_nat (j := 1) rfl, 7919, n + 1, rfl, rfl, .inl ⟨by decide, by decide⟩, z, _, rfl, rfl, _, 48271, rfl, rfl, .inr ⟨by decide, by decide⟩, .inl ⟨_, rfl, _, _, rfl, rfl, (by show (0 : Int) < 2147483647; decide), ?_⟩⟩
      have r1 : 0 ≤ ((z + 7919 * (n + 1)) * 48271) % 2147483647 := Int.emod_nonneg _ (by decide)
      have r2 : ((z + 7919 * (n + 1)) * 48271) % 2147483647 < 2147483647 := Int.emod_lt_of_pos _ (by decide)
      show tSeq _ _ _ [some (.ref p), some (.int many), some (.ref c), none, some (.int (((z + 7919 * (n + 1)) * 48271) % 2147483647))] G
      generalize ((z + 7919 * (n + 1)) * 48271) % 2147483647 = a1 at r1 r2 ⊢
      refine ⟨_, rfl, _, rfl, a1, 1009, rfl, rfl, ⟨by decide, by decide⟩, _, 69621, rfl, rfl, a1, _, rfl, rfl, .inl ⟨by omega, by omega⟩, .inl ⟨_, rfl, _, _, rfl, rfl, (by show (0 : Int) < 2147483647; decide), ?_⟩⟩
      have r3 : 0 ≤ (a1 * (a1 / 1009 + 69621)) % 2147483647 := Int.emod_nonneg _ (by decide)
      have r4 : (a1 * (a1 / 1009 + 69621)) % 2147483647 < 2147483647 := Int.emod_lt_of_pos _ (by decide)
      show tSeq _ _ _ [some (.ref p), some (.int many), some (.ref c), none, some (.int ((a1 * (a1 / 1009 + 69621)) % 2147483647))] G
      generalize (a1 * (a1 / 1009 + 69621)) % 2147483647 = a2 at r3 r4 ⊢
      refine ⟨_, rfl, _, rfl, a2, 2003, rfl, rfl, ⟨by decide, by decide⟩, _, 40692, rfl, rfl, a2, _, rfl, rfl, .inl ⟨by omega, by omega⟩, .inl ⟨_, rfl, _, _, rfl, rfl, (by show (0 : Int) < 2147483399; decide), ?_⟩⟩
      refine ⟨_, rfl, _, 16, rfl, rfl, ⟨by decide, by decide⟩, .inl ⟨_, rfl, _, rfl, _, many, rfl, rfl, m0, ?_⟩⟩
      exact q _ _ ⟨z, n + 1, [], hp1, hc1⟩ k1 (Int.emod_nonneg _ (by omega)) (Int.emod_lt_of_pos _ m0)

/-! ### _law_holder -/
abbrev nHolder : List Str := ["_law_pool_here", "_law_folk", "_law_houses", "_law_lean"]
theorem sc_holder : FnScope nHolder nHolder (C8.fnScope sHolder) := ⟨rfl, rfl, rfl, by decide +kernel, rfl, by decide +kernel, by decide +kernel⟩
def spHolder : Sp := fun vs H Q _ => ∃ (p c : Addr) (folk houses lean : Int), vs = [.ref p, .int folk, .int houses, .int lean] ∧ PoolAt p c H ∧ 0 < folk ∧ folk < 1000000 ∧ 0 ≤ houses ∧ houses < 1000000 ∧
  ∀ H' v h, PoolAt p c H' → PC p c H H' → HolV H' v h → okHol folk houses h → Q v H'
theorem cal_holder (D : C8.Def K mg "_law_holder" sHolder f fd) (b : Binds K fd nHolder []) (G : C8.Cal P w K mg base 1 "_law_draw" spDraw []) : C8.Cal P w K mg base 2 "_law_holder" spHolder [] := by
  refine C8.cal0 D b .nil sc_holder (fun vs H Q E h => ?_) (fun cdv A outer s H vs Q E hr h => ?_)
  · obtain ⟨p, c, folk, houses, lean, rfl, _⟩ := h
    rfl
  · obtain ⟨p, c, folk, houses, lean, rfl, hP, f0, f1, h0, h1, q⟩ := h
    refine ⟨_, pss_cons (ps_if (PW.pt (pw_or (pt_cmpR op_eq (pv 2) pe_int (nomark _)) (pw_or1 (pt_cmpR op_lt (C8.pe_c G hr (by decide) (by rfl) (pa_cons (pv 0) (pa_cons pe_int pa_nil))) (pv 3) (nomark _)))))
        (pss_one (ps_ret (pe_tup (pa_cons pe_str (pa_cons (C8.pe_c G hr (by decide) (by rfl) (pa_cons (pv 0) (pa_cons (pv 1) pa_nil))) pa_nil))))) pss_nil)
      (pss_one (ps_ret (pe_tup (pa_cons pe_str (pa_cons (C8.pe_c G hr (by decide) (by rfl) (pa_cons (pv 0) (pa_cons (pv 2) pa_nil))) pa_nil))))), ?_⟩
    have isF : ∀ H1, PoolAt p c H1 → PC p c H H1 → (tRet (tTup (tCons (tC (.str "f")) (tCons (tCall spDraw [] C8.E0 (tCons (tVar 0) (tCons (tVar 1) tNil))) tNil)))) { nx := fun _ H' => Q .non H', rt := Q } [some (.ref p), some (.int folk), some (.int houses), some (.int lean)] H1 := by
      intro H1 hP1 k1
      refine ⟨_, rfl, _, rfl, p, c, folk, rfl, hP1, f0, f1, fun H2 k hP2 k2 g0 g1 => ⟨(by show 2 ≤ sizeLine; decide), fun t ht => ?_⟩⟩
      have st : Same H2 (upd H2 t (.tup [.str "f", .int k])) := same_upd ht
      exact q _ _ (false, k) (hP2.same st) ((k1.trans k2).trans (PC.of st)) ⟨t, rfl, upd_same⟩ ⟨g0, fun _ => g1, fun z => nomatch z⟩
    by_cases e : houses = 0
    · refine ⟨_, rfl, rfl, _, rfl, ?_⟩
      rw [decide_eq_true (congrArg V.int e)]
      refine iteT ?_
      exact isF H hP (PC.refl p c H)
    · refine ⟨_, rfl, rfl, _, rfl, ?_⟩
      rw [decide_eq_false (fun z => e (V.int.inj z))]
      refine iteF ?_
      refine ⟨_, rfl, p, c, 6, rfl, hP, by decide, by decide, fun H1 k hP1 k1 g0 g1 => ?_⟩
      refine ⟨_, rfl, k, lean, rfl, rfl, _, rfl, ite2 (fun _ => ?_) (fun _ => ?_)⟩
      · exact isF H1 hP1 k1
      · refine ⟨_, rfl, _, rfl, p, c, houses, rfl, hP1, by omega, h1, fun H2 k hP2 k2 g0 g1 => ⟨(by show 2 ≤ sizeLine; decide), fun t ht => ?_⟩⟩
        have st : Same H2 (upd H2 t (.tup [.str "h", .int k])) := same_upd ht
        exact q _ _ (true, k) (hP2.same st) ((k1.trans k2).trans (PC.of st)) ⟨t, rfl, upd_same⟩ ⟨g0, (fun z => nomatch z), fun _ => g1⟩
end
end K6

set_option Elab.async false
set_option linter.all false
set_option maxRecDepth 100000
set_option maxHeartbeats 4000000
/-! K06, part D8: the law's towns. -/
namespace K6
open PySem PySem.Spec PyProof.Rows L2

theorem PoolAt.put {p c l : Addr} {H G : Hp} {o : HO} (h : PoolAt p c H) (e : H l = none) (g : PoolAt p c G) : PoolAt p c (upd G l o) := by
  obtain ⟨n1, n2⟩ := h.off e
  obtain ⟨s, n, cells, h1, h2⟩ := g
  refine ⟨s, n, cells, ?_, ?_⟩
  · rw [upd_ne n1.symm]
    exact h1
  · rw [upd_ne n2.symm]
    exact h2
theorem PC.put {p c l : Addr} {H G : Hp} {o : HO} (k : PC p c H G) (e : H l = none) : PC p c H (upd G l o) := fun b x h n1 n2 => by
  rw [upd_ne (ne_of_none h e)]
  exact k b x h n1 n2
/-- what a town is told as: (folk, houses) -/
def ToldV (H : Hp) (v : V) (folk : Int) (t : Town) : Prop := ∃ a hv, v = .ref a ∧ H a = some (.tup [.int folk, hv]) ∧ TowV H hv t
theorem ToldV.tk {H H' : Hp} {v : V} {folk : Int} {t : Town} (x : ToldV H v folk t) (k : TK H H') : ToldV H' v folk t := let ⟨a, hv, e, q, r⟩ := x; ⟨a, hv, e, k _ _ q, r.tk k⟩
theorem LstV.pc {p c : Addr} {H H' : Hp} {v : V} {hs : List Hol} (x : LstV H v hs) (h : PoolAt p c H) (s : PC p c H H') (n : v ≠ .ref p ∧ v ≠ .ref c) : LstV H' v hs := by
  obtain ⟨a, ys, rfl, q, r⟩ := x
  exact ⟨a, ys, rfl, s _ _ q (fun z => n.1 (by rw [z])) (fun z => n.2 (by rw [z])), pH.tk r (s.nl h).tk⟩

/-! ### numbers drawn from a row -/
def rowV (ms : List Nat) : List V := ms.map fun m => V.int (m : Nat)
theorem pick_row (ms : List Nat) (k : Int) (h0 : 0 ≤ k) (h1 : k < (ms.length : Int)) : ∃ m, m ∈ ms ∧ atI (rowV ms) k = some (.int (m : Nat)) := by
  have hl : k.toNat < ms.length := by omega
  refine ⟨ms[k.toNat], List.getElem_mem _, ?_⟩
  have e : (rowV ms)[k.toNat]? = some (V.int ((ms[k.toNat] : Nat) : Int)) := by
    unfold rowV
    rw [List.getElem?_map, List.getElem?_eq_getElem hl]
    rfl
  have z := atI_nat e
  rw [show ((k.toNat : Nat) : Int) = k by omega] at z
  exact z
theorem pr_end {A B : Type} {R : A → B → Prop} {xs : List A} {ys : List B} (pr : Paired R xs ys) (h : 0 < xs.length) : ∃ x y, atI xs (-1) = some x ∧ y ∈ ys ∧ R x y := by
  have hl : xs.length - 1 < xs.length := by omega
  obtain ⟨y, ey, r⟩ := pr_get pr (List.getElem?_eq_getElem hl)
  refine ⟨_, y, ?_, List.mem_of_getElem? ey, r⟩
  have e : ixN xs.length (-1) = some (xs.length - 1) := by
    unfold ixN
    rw [if_neg (by decide), if_pos (by omega)]
    congr 1
    omega
  unfold atI
  rw [e]
  exact List.getElem?_eq_getElem hl

section
variable {P : Program} {w : World} {K : PySem.W.Frag} {mg : Str → Option Value} {base : Heap} {f CW CR C : Addr} {fd : FuncData}
/-! ### _law_told -/
abbrev nTold : List Str := ["_law_pool_here", "_law_most_folk", "_law_most_houses", "_law_folk", "_law_houses", "_law_kind", "_law_lean", "_law_found", "_law_house", "_law_many", "_law_ahead", "_law_shares", "_law_k"]
theorem sc_told : FnScope nTold ["_law_pool_here", "_law_most_folk", "_law_most_houses"] (C8.fnScope sTold) := ⟨rfl, rfl, rfl, by decide +kernel, rfl, by decide +kernel, by decide +kernel⟩
def spTold : Sp := fun vs H Q _ => ∃ (p c : Addr) (mf mh : Int), vs = [.ref p, .int mf, .int mh] ∧ PoolAt p c H ∧ 1 ≤ mf ∧ mf ≤ 6 ∧ 0 ≤ mh ∧ mh ≤ 12 ∧
  ∀ H' v folk t, PoolAt p c H' → PC p c H H' → ToldV H' v folk t → 1 ≤ folk → folk ≤ 6 → t.length ≤ 12 → okTown folk t → Q v H'
theorem cal_told (D : C8.Def K mg "_law_told" sTold f fd) (b : Binds K fd ["_law_pool_here", "_law_most_folk", "_law_most_houses"] []) (B : Bi mg) (G : C8.Cal P w K mg base 1 "_law_draw" spDraw []) (GH : C8.Cal P w K mg base 2 "_law_holder" spHolder []) :
    C8.Cal P w K mg base 3 "_law_told" spTold [] := by
  refine C8.cal0 D b .nil sc_told (fun vs H Q E h => ?_) (fun cdv A outer s H vs Q E hr h => ?_)
  · obtain ⟨p, c, mf, mh, rfl, _⟩ := h
    rfl
  · obtain ⟨p, c, mf, mh, rfl, hP, f0, f1, h0, h1, q⟩ := h
    have hu := Room.units hr
    refine ⟨_, pss_cons (ps_set (i := 3) sc_told.nd rfl (Or.inr rfl) (pe_op op_add pe_int (C8.pe_c G hr (by decide) (by rfl) (pa_cons (pv 0) (pa_cons (pv 1) pa_nil)))))
      (pss_cons (ps_set (i := 4) sc_told.nd rfl (Or.inl rfl) (C8.pe_c G hr (by decide) (by rfl) (pa_cons (pv 0) (pa_cons (pe_op op_add (pv 2) pe_int) pa_nil))))
      (pss_cons (ps_set (i := 5) sc_told.nd rfl (Or.inl rfl) (C8.pe_c G hr (by decide) (by rfl) (pa_cons (pv 0) (pa_cons pe_int pa_nil))))
      (pss_cons (ps_set (i := 6) sc_told.nd rfl (Or.inr rfl) (pe_ix ix_list (pe_lst (pa_cons pe_int (pa_cons pe_int (pa_cons pe_int (pa_cons pe_int (pa_cons pe_int pa_nil)))))) (pv 5) (fun _ _ => rfl)))
      (pss_cons (ps_set (i := 7) sc_told.nd rfl (Or.inl rfl) (pe_lst pa_nil))
      (pss_cons (ps_for PassesOwn.never rfl (pi_range1 (by rfl) B.range (pa_cons (pv 4) pa_nil)) (pg_name (i := 8) sc_told.nd rfl (Or.inl rfl))
        (pss_cons (ps_set (i := 9) sc_told.nd rfl (Or.inl rfl) (pe_ix ix_list (pe_lst (pa_cons pe_int (pa_cons pe_int (pa_cons pe_int (pa_cons pe_int (pa_cons pe_int pa_nil)))))) (C8.pe_c G hr (by decide) (by rfl) (pa_cons (pv 0) (pa_cons pe_int pa_nil))) (fun _ _ => rfl)))
        (C8.pss_cut (ps_if (PW.pt (pw_and (pt_cmpR op_eq (pv 5) pe_int (nomark _)) (pw_and1 (pt_cmpR op_eq (C8.pe_c G hr (by decide) (by rfl) (pa_cons (pv 0) (pa_cons pe_int pa_nil))) pe_int (nomark _)))))
          (pss_one (ps_set (i := 9) sc_told.nd rfl (Or.inl rfl) (pe_ix ix_list (pe_lst (pa_cons pe_int (pa_cons pe_int (pa_cons pe_int pa_nil)))) (C8.pe_c G hr (by decide) (by rfl) (pa_cons (pv 0) (pa_cons pe_int pa_nil))) (fun _ _ => rfl)))) pss_nil)
        (pss_cons (ps_set (i := 10) sc_told.nd rfl (Or.inr rfl) (pv 4))
        (C8.pss_cut (ps_if (pt_cmpR op_eq (pv 5) pe_int (nomark _)) (pss_one (ps_set (i := 10) sc_told.nd rfl (Or.inr rfl) (pv 8))) pss_nil)
        (pss_cons (ps_set (i := 11) sc_told.nd rfl (Or.inr rfl) (pe_lc (own := [("_law_k", 12)]) (g := gName 12) (tt := tYes) rfl sc_told.nd (pi_range1 (by rfl) B.range (pa_cons (pv 9) pa_nil))
          (blkOk_by (N := nTold) (sc := C8.fnScope sTold) (by decide +kernel)) (fun _ _ _ _ _ => pg_name (i := 12) sc_told.nd rfl (Or.inl rfl)) (fun _ _ _ _ _ => pts_nil)
          (fun _ _ _ _ _ => C8.pe_c GH hr (by decide) (by rfl) (pa_cons (pv 0) (pa_cons (pv 3) (pa_cons (pv 10) (pa_cons (pv 6) pa_nil)))))))
        (C8.pss_cut (ps_if (pt_cmpR op_eq (pv 5) pe_int (nomark _)) (pss_one (ps_set (i := 11) sc_told.nd rfl (Or.inr rfl) (pe_op op_cat (pe_lc (own := [("_law_k", 12)]) (g := gName 12) (tt := tYes) rfl sc_told.nd (pi_range1 (by rfl) B.range (pa_cons (pe_op op_sub (pv 9) pe_int) pa_nil))
          (blkOk_by (N := nTold) (sc := C8.fnScope sTold) (by decide +kernel)) (fun _ _ _ _ _ => pg_name (i := 12) sc_told.nd rfl (Or.inl rfl)) (fun _ _ _ _ _ => pts_nil)
          (fun _ _ _ _ _ => pe_ix (r := rIxL K) ix_list (pv 11) (pe_callTy call_int1 (by rfl) B.int bt_int (pa_cons (pe_op op_mod (pv 12) pe_int) pa_nil)) (fun _ _ => rfl)))
          (pe_lst (pa_cons (pe_ix ix_list (pv 11) (pe_un un_neg pe_int) (fun _ _ => rfl)) pa_nil))))) pss_nil)
        (pss_one (ps_expr (pe_bm PySem.F.plainAttrs_list PySem.F.slot_list_append PySem.F.type_list_append mt_append (pv 7)
          (pa_cons (pe_callTy call_tupOf (by rfl) B.tuple bt_tuple (pa_cons (pe_callB (cr_sortedH hu) (by rfl) B.sorted bt_sorted (pa_cons (pv 11) pa_nil)) pa_nil)) pa_nil)))))))))))
      (pss_one (ps_ret (pe_tup (pa_cons (pv 3) (pa_cons (pe_callTy call_tupOf (by rfl) B.tuple bt_tuple (pa_cons (pv 7) pa_nil)) pa_nil)))))))))), ?_⟩
    have e5 : (5 : Int) = ((([3, 3, 1, 4, 3] : List Nat).length : Nat) : Int) := rfl
    -- folk, houses, kind
    refine ⟨_, rfl, _, rfl, p, c, mf, rfl, hP, by omega, by omega, fun H1 k1 hP1 c1 a0 a1 => ⟨1, k1, rfl, rfl, ?_⟩⟩
    refine ⟨_, rfl, _, rfl, mh, 1, rfl, rfl, p, c, mh + 1, rfl, hP1, by omega, by omega, fun H2 n hP2 c2 b0 b1 => ?_⟩
    refine ⟨_, rfl, p, c, 5, rfl, hP2, by decide, by decide, fun H3 kd hP3 c3 d0 d1 => ?_⟩
    -- lean
    refine ⟨(by show 5 ≤ sizeLine; decide), fun l hl => ?_⟩
    obtain ⟨ln, _, hln⟩ := pick_row [3, 3, 1, 4, 3] kd d0 d1
    refine ⟨_, rfl, l, _, kd, _, rfl, rfl, SqL.of upd_same, hln, ?_⟩
    have k4 : PC p c H (upd H3 l (.lst (rowV [3, 3, 1, 4, 3]))) := ((c1.trans c2).trans c3).trans (PC.of (same_upd hl))
    have hP4 : PoolAt p c (upd H3 l (.lst (rowV [3, 3, 1, 4, 3]))) := hP3.same (same_upd hl)
    show tSeq _ _ _ _ (upd H3 l (.lst (rowV [3, 3, 1, 4, 3])))
    generalize upd H3 l (.lst (rowV [3, 3, 1, 4, 3])) = H4 at k4 hP4 ⊢
    -- found = []
    refine ⟨Nat.zero_le _, fun F hF => ?_⟩
    obtain ⟨nFp, nFc⟩ := hP4.off hF
    have n0 : ((n.toNat : Nat) : Int) = n := by omega
    refine ⟨_, rfl, n, rfl, by omega, by omega, for_range (lo := 0) (n := n.toNat) (fun i σ H' => ∃ (y8 y9 y10 y11 : Option V) (ys : List V) (t : Town), σ = [some (.ref p), some (.int mf), some (.int mh), some (.int (1 + k1)), some (.int n), some (.int kd), some (.int (ln : Nat)), some (.ref F), y8, y9, y10, y11, none] ∧
      PoolAt p c H' ∧ PC p c H4 H' ∧ H' F = some (.lst ys) ∧ Paired (HouV H') ys t ∧ t.length = i ∧ ∀ hs ∈ t, okHou (1 + k1) n hs) ?_ ?_ ?_⟩
    · exact ⟨none, none, none, none, [], [], rfl, hP4.put hF hP4, (PC.refl p c H4).put hF, upd_same, .nil, rfl, fun _ m => nomatch m⟩
    · rintro i σ H' hi ⟨y8, y9, y10, y11, ys, t, rfl, gP, gC, gF, py, lt, okt⟩
      -- many
      refine ⟨(by show 5 ≤ sizeLine; decide), fun l hl => ?_⟩
      refine ⟨_, rfl, p, c, 5, rfl, gP.same (same_upd hl), by decide, by decide, fun H5 k5 hP5 c5 a50 a51 => ?_⟩
      obtain ⟨m0, mm0, hm0⟩ := pick_row [1, 3, 3, 3, 5] k5 a50 a51
      have c5' : PC p c H' H5 := (PC.of (same_upd hl)).trans c5
      obtain ⟨nlp, nlc⟩ := gP.off hl
      refine ⟨l, _, k5, _, rfl, rfl, SqL.of (c5 _ _ upd_same nlp nlc), hm0, ?_⟩
      have om0 : m0 % 2 = 1 ∧ m0 ≤ 15 := by
        simp at mm0
        omega
      clear hl hm0 mm0 c5
      -- if kind == 4 and draw(pool, 3) == 0: many = ..
      refine ⟨fun σ' H'' => ∃ m : Nat, σ' = [some (.ref p), some (.int mf), some (.int mh), some (.int (1 + k1)), some (.int n), some (.int kd), some (.int (ln : Nat)), some (.ref F), some (.int (0 + (i : Nat))), some (.int (m : Nat)), y10, y11, none] ∧ PoolAt p c H'' ∧ PC p c H5 H'' ∧ m % 2 = 1 ∧ m ≤ 15, ?_, ?_⟩
      · refine ⟨_, rfl, rfl, _, rfl, ite2 (fun _ => ?_) (fun _ => ?_)⟩
        · refine ⟨_, rfl, p, c, 3, rfl, hP5, by decide, by decide, fun H6 k6 hP6 c6 a60 a61 => ?_⟩
          refine ⟨rfl, _, rfl, ite2 (fun _ => ?_) (fun _ => ?_)⟩
          · refine ⟨(by show 3 ≤ sizeLine; decide), fun l hl => ?_⟩
            refine ⟨_, rfl, p, c, 3, rfl, hP6.same (same_upd hl), by decide, by decide, fun H7 k7 hP7 c7 a70 a71 => ?_⟩
            obtain ⟨m1, mm1, hm1⟩ := pick_row [7, 9, 15] k7 a70 a71
            obtain ⟨nlp, nlc⟩ := hP6.off hl
            refine ⟨l, _, k7, _, rfl, rfl, SqL.of (c7 _ _ upd_same nlp nlc), hm1, ?_⟩
            have om1 : m1 % 2 = 1 ∧ m1 ≤ 15 := by
              simp at mm1
              omega
            exact ⟨m1, rfl, hP7, (c6.trans (PC.of (same_upd hl))).trans c7, om1⟩
          · exact ⟨m0, rfl, hP6, c6, om0⟩
        · exact ⟨m0, rfl, hP5, PC.refl p c H5, om0⟩
      rintro σ' H6 ⟨m, rfl, hP6, c6, om, om15⟩
      -- ahead
      refine ⟨_, rfl, ?_⟩
      refine ⟨fun σ' H'' => ∃ ah : Int, σ' = [some (.ref p), some (.int mf), some (.int mh), some (.int (1 + k1)), some (.int n), some (.int kd), some (.int (ln : Nat)), some (.ref F), some (.int (0 + (i : Nat))), some (.int (m : Nat)), some (.int ah), y11, none] ∧ H6 = H'' ∧ 0 ≤ ah ∧ ah ≤ n, ?_, ?_⟩
      · refine ⟨_, rfl, rfl, _, rfl, ite2 (fun _ => ?_) (fun _ => ?_)⟩
        · exact ⟨_, rfl, _, rfl, rfl, by omega, by omega⟩
        · exact ⟨n, rfl, rfl, b0, Int.le_refl _⟩
      rintro σ' _ ⟨ah, rfl, rfl, ah0, ah1⟩
      -- shares = [..]
      have g6 : PC p c H' H6 := c5'.trans c6
      have gF6 := g6 _ _ gF nFp nFc
      refine ⟨_, rfl, (m : Nat), rfl, by omega, by omega, fun L hL => ?_⟩
      obtain ⟨nLp, nLc⟩ := hP6.off hL
      refine lc_range (lo := 0) (n := m) (fun j G => PoolAt p c G ∧ PC p c H6 G ∧ ∃ (zs : List V) (hs : List Hol), G L = some (.lst zs) ∧ Paired (HolV G) zs hs ∧ hs.length = j ∧ ∀ h ∈ hs, okHol (1 + k1) n h) ⟨hP6.put hL hP6, (PC.refl p c H6).put hL, [], [], upd_same, .nil, rfl, fun _ m => nomatch m⟩ (fun j G hj hq => ?_) (fun G hq => ?_)
      · obtain ⟨jP, jC, zs, hs, eL, pz, lz, okz⟩ := hq
        have l2 := pr_len pz
        refine ⟨rfl, ?_⟩
        refine ⟨_, rfl, _, rfl, _, rfl, _, rfl, p, c, 1 + k1, ah, _, rfl, jP, by omega, by omega, ah0, by omega, fun G2 v h gP2 gC2 hv okv => ?_⟩
        have eL2 := gC2 _ _ eL nLp nLc
        have kL : TK G2 (upd G2 L (.lst (zs ++ [v]))) := TK.put eL2 (fun _ z => nomatch z)
        refine ⟨zs, eL2, small1000 (by omega), hP6.put hL gP2, (jC.trans gC2).put hL, zs ++ [v], hs ++ [h], upd_same, pr_append (pH.tk pz ((gC2.nl jP).tk.trans kL)) (.cons (hv.tk kL) .nil), ?_, fun g mg => ?_⟩
        · rw [List.length_append, lz]
          rfl
        · rcases List.mem_append.mp mg with mg | mg
          · exact okz g mg
          · rw [List.mem_singleton.mp mg]
            exact okv.mono ah1
      obtain ⟨hP7, c7, zs, hs, eL, pz, lz, okz⟩ := hq
      have gF7 := c7 _ _ gF6 nFp nFc
      have l2 := pr_len pz
      have nLF : L ≠ F := (ne_of_none gF6 hL).symm
      -- if kind == 3: shares = ..
      refine ⟨fun σ' H'' => ∃ (S : Addr) (hs' : List Hol), σ' = [some (.ref p), some (.int mf), some (.int mh), some (.int (1 + k1)), some (.int n), some (.int kd), some (.int (ln : Nat)), some (.ref F), some (.int (0 + (i : Nat))), some (.int (m : Nat)), some (.int ah), some (.ref S), none] ∧
        PoolAt p c H'' ∧ PC p c G H'' ∧ LstV H'' (.ref S) hs' ∧ hs'.length = m ∧ (∀ h ∈ hs', okHol (1 + k1) n h), ?_, ?_⟩
      · refine ⟨_, rfl, rfl, _, rfl, ite2 (fun _ => ?_) (fun _ => ?_)⟩
        · refine ⟨_, rfl, (m : Nat), 1, rfl, rfl, (m : Int) - 1, rfl, by omega, by omega, fun M hM => ?_⟩
          obtain ⟨nMp, nMc⟩ := hP7.off hM
          have nML : M ≠ L := (ne_of_none eL hM).symm
          refine lc_range (lo := 0) (n := ((m : Int) - 1).toNat) (fun j O => Same G O ∧ ∃ (ws : List V) (gs : List Hol), O M = some (.lst ws) ∧ Paired (HolV O) ws gs ∧ gs.length = j ∧ ∀ h ∈ gs, okHol (1 + k1) n h) ⟨same_upd hM, [], [], upd_same, .nil, rfl, fun _ m => nomatch m⟩ (fun j O hj hq => ?_) (fun O hq => ?_)
          · obtain ⟨sm, ws, gs, eM, pw, lw, okw⟩ := hq
            have l3 := pr_len pw
            refine ⟨rfl, ?_⟩
            have r0 : 0 ≤ (0 + (j : Int)) % 2 := Int.emod_nonneg _ (by decide)
            have r1 : (0 + (j : Int)) % 2 < 2 := Int.emod_lt_of_pos _ (by decide)
            have hlt : ((0 + (j : Int)) % 2).toNat < zs.length := by omega
            obtain ⟨h, eh, hh⟩ := pr_get pz (List.getElem?_eq_getElem hlt)
            have at1 := atI_nat (List.getElem?_eq_getElem hlt)
            rw [show ((((0 + (j : Int)) % 2).toNat : Nat) : Int) = (0 + (j : Int)) % 2 by omega] at at1
            refine ⟨_, rfl, _, rfl, _, 2, rfl, rfl, (by show (0 : Int) < 2; decide), .inl ⟨_, rfl, L, zs, _, _, rfl, rfl, SqL.of (sm _ _ eL), at1, ?_⟩⟩
            have kM : TK O (upd O M (.lst (ws ++ [zs[((0 + (j : Int)) % 2).toNat]]))) := TK.put eM (fun _ z => nomatch z)
            refine ⟨ws, eM, small1000 (by omega), fun d o e => ?_, _, gs ++ [h], upd_same, pr_append (pH.tk pw kM) (.cons (hh.tk ((TK.of sm).trans kM)) .nil), ?_, fun g mg => ?_⟩
            · rw [upd_ne (ne_of_none e hM)]
              exact sm _ _ e
            · rw [List.length_append, lw]
              rfl
            · rcases List.mem_append.mp mg with mg | mg
              · exact okw g mg
              · rw [List.mem_singleton.mp mg]
                exact okz h (List.mem_of_getElem? eh)
          obtain ⟨sm, ws, gs, eM, pw, lw, okw⟩ := hq
          have l3 := pr_len pw
          obtain ⟨xe, he, ate, me, re⟩ := pr_end pz (by omega)
          refine ⟨_, rfl, 1, rfl, L, zs, -1, xe, rfl, rfl, SqL.of (sm _ _ eL), ate, (by show 1 ≤ sizeLine; decide), fun N hN => ?_⟩
          have nNM : M ≠ N := ne_of_none eM hN
          have sN : Same O (upd O N (.lst [xe])) := same_upd hN
          have eN : (upd O N (.lst [xe])) N = some (.lst [xe]) := upd_same
          generalize upd O N (.lst [xe]) = O2 at sN eN ⊢
          refine ⟨M, N, ws, [xe], rfl, rfl, sN _ _ eM, eN, ?_, fun S hS => ?_⟩
          · rw [List.length_singleton]
            exact small1000 (by omega)
          have sS : Same O2 (upd O2 S (.lst (ws ++ [xe]))) := same_upd hS
          have sA : Same G (upd O2 S (.lst (ws ++ [xe]))) := (sm.trans sN).trans sS
          refine ⟨S, gs ++ [he], rfl, hP7.same sA, PC.of sA, ⟨S, _, rfl, upd_same, pr_append (pH.tk pw (TK.of (sN.trans sS))) (.cons (re.tk (TK.of sA)) .nil)⟩, ?_, fun g mg => ?_⟩
          · rw [List.length_append, List.length_singleton, lw]
            omega
          · rcases List.mem_append.mp mg with mg | mg
            · exact okw g mg
            · rw [List.mem_singleton.mp mg]
              exact okz he me
        · exact ⟨L, hs, rfl, hP7, PC.refl p c G, ⟨L, zs, rfl, eL, pz⟩, lz, okz⟩
      rintro σ' H8 ⟨S, hs', rfl, hP8, c8, hS, ls, oks⟩
      -- found.append(tuple(sorted(shares)))
      have gF8 := c8 _ _ gF7 nFp nFc
      obtain ⟨S', us, eS', hSl, pu⟩ := hS
      cases eS'
      refine ⟨_, rfl, .inl ⟨rfl, _, SqL.of gF8⟩, _, rfl, S, us, hs', rfl, .inl (SqL.of hSl), pu, fun ss T pss hT => ?_⟩
      have sT : Same H8 (upd H8 T (.lst ss)) := same_upd hT
      refine ⟨T, ss, rfl, .inl ⟨SqL.of upd_same, fun U hU => ?_⟩⟩
      have sU : Same H8 (upd (upd H8 T (.lst ss)) U (.tup ss)) := sT.trans (same_upd hU)
      have eU : (upd (upd H8 T (.lst ss)) U (.tup ss)) U = some (.tup ss) := upd_same
      generalize upd (upd H8 T (.lst ss)) U (.tup ss) = O at sU eU ⊢
      have gFO := sU _ _ gF8
      have lys := pr_len py
      have kF : TK O (upd O F (.lst (ys ++ [V.ref U]))) := TK.put gFO (fun _ z => nomatch z)
      have cA : PC p c H' O := ((g6.trans c7).trans c8).trans (PC.of sU)
      refine ⟨F, ys, _, rfl, rfl, gFO, small1000 (by omega), ?_⟩
      refine ⟨_, _, _, _, ys ++ [.ref U], t ++ [sortH hs'], rfl, hP4.put hF (hP8.same sU), (gC.trans cA).put hF, upd_same, ?_, ?_, fun gs mg => ?_⟩
      · refine pr_append (pS.tk py ((cA.nl gP).tk.trans kF)) (.cons ⟨U, ss, rfl, kF _ _ eU, pH.tk pss ((TK.of sU).trans kF)⟩ .nil)
      · rw [List.length_append, lt]
        rfl
      · rcases List.mem_append.mp mg with mg | mg
        · exact okt gs mg
        · rw [List.mem_singleton.mp mg]
          exact ⟨sortH_srt hs', by rw [sortH_len, ls]; exact om, by rw [sortH_len, ls]; exact om15, fun h mh => oks h (sortH_mem mh)⟩
    · rintro σ H' ⟨y8, y9, y10, y11, ys, t, rfl, gP, gC, gF, py, lt, okt⟩
      -- return (folk, tuple(found))
      refine ⟨_, rfl, _, rfl, F, ys, rfl, .inl ⟨SqL.of gF, fun U hU => ?_⟩⟩
      have sU : Same H' (upd H' U (.tup ys)) := same_upd hU
      have eU : (upd H' U (.tup ys)) U = some (.tup ys) := upd_same
      generalize upd H' U (.tup ys) = O at sU eU ⊢
      refine ⟨(by show 2 ≤ sizeLine; decide), fun T hT => ?_⟩
      have sT : Same H' (upd O T (.tup [.int (1 + k1), .ref U])) := sU.trans (same_upd hT)
      refine q _ _ (1 + k1) t (gP.same sT) ((k4.trans gC).trans (PC.of sT)) ⟨T, .ref U, rfl, upd_same, U, ys, rfl, same_upd hT _ _ eU, pS.tk py (TK.of sT)⟩ (by omega) (by omega) (by omega) fun hs m => ?_
      rw [lt, n0]
      exact okt hs m
/-! ### _law_web -/
theorem sc_web : FnScope ["_law_told_here"] ["_law_told_here"] (C8.fnScope sWeb) := ⟨rfl, rfl, rfl, by decide +kernel, rfl, by decide +kernel, by decide +kernel⟩
def spWeb (CW : Addr) : Sp := fun vs H Q _ => ∃ (v : V) (folk : Int) (t : Town), vs = [v] ∧ ToldV H v folk t ∧ 1 ≤ folk ∧ folk ≤ 6 ∧ t.length ≤ 12 ∧ okTown folk t ∧ ∀ H' r, WebV CW H' r folk t → Same H H' → Q r H'
theorem cal_web (D : C8.Def K mg "_law_web" sWeb f fd) (b : Binds K fd ["_law_told_here"] []) (G : C8.Mak P w K mg base 5 "Web" CW (spWInit CW) []) : C8.Cal P w K mg base 7 "_law_web" (spWeb CW) [] := by
  refine C8.cal0 D b .nil sc_web (fun vs H Q E h => ?_) (fun cdv A outer s H vs Q E hr h => ?_)
  · obtain ⟨v, folk, t, rfl, _⟩ := h
    rfl
  · obtain ⟨v, folk, t, rfl, ⟨a, hv, rfl, ha, hT⟩, f0, f1, tl, ok, q⟩ := h
    refine ⟨_, pss_one (ps_ret (C8.pe_mk G hr (by decide) (by rfl) (pa_cons (pe_ix ix_tup (pv 0) pe_int (fun _ _ => rfl)) (pa_cons (pe_ix ix_tup (pv 0) pe_int (fun _ _ => rfl)) pa_nil)))), ?_⟩
    refine ⟨_, rfl, a, _, 0, _, rfl, rfl, SqT.of ha, atI_nat (j := 0) rfl, _, rfl, a, _, 1, _, rfl, rfl, SqT.of ha, atI_nat (j := 1) rfl, ?_⟩
    intro x dx nx ndx nex
    have s2 : Same H (upd (upd H dx (.own x)) x (.ins CW dx [])) := fun c o e => by
      rw [upd_ne (ne_of_none e nx), upd_ne (ne_of_none e ndx)]
      exact e
    refine ⟨x, dx, folk, hv, t, rfl, upd_same, hT.tk (TK.of s2), f0, f1, tl, ok, fun H3 wv kp => ⟨rfl, ?_⟩⟩
    exact q H3 _ wv fun c o e => kp c o (s2 _ _ e) (ne_of_none e nx)
end
end K6

set_option Elab.async false
set_option linter.all false
set_option maxRecDepth 100000
set_option maxHeartbeats 4000000
/-! K06, part D9: the law. -/
namespace K6
open PySem PySem.Spec PyProof.Rows L2

/-! ### cuts and sums of tuples -/
theorem no_part {σ : L2.St} {H : Hp} {Q : Option Int → Hp → Prop} (h : Q none H) : tNoPart σ H Q := h
section
variable {K : PySem.W.Frag} {H : Hp} {a b : Addr} {xs ys : List V} {j : Nat} {Q : VK}
theorem cat_any (ha : H a = some (.tup xs)) (hb : H b = some (.tup ys)) (hz : xs.length + ys.length ≤ 1000) (q : ∀ r H', Same H H' → H' r = some (.tup (xs ++ ys)) → Q (.ref r) H') : rCatA K (.ref a) (.ref b) H Q := by
  refine ⟨a, b, xs, ys, rfl, rfl, SqT.of ha, SqT.of hb, Nat.le_of_lt (small1000 hz), fun e => ?_, fun _ e => ?_, fun _ _ p hp => ?_⟩
  · subst e
    exact q b H (Same.refl H) hb
  · subst e
    exact q a H (Same.refl H) (by rw [List.append_nil]; exact ha)
  · exact q p _ (same_upd hp) upd_same
theorem cut_to (ha : H a = some (.tup xs)) (hj : j < xs.length) (q : ∀ r H', Same H H' → H' r = some (.tup (xs.take j)) → Q (.ref r) H') : rSlT K (.ref a) none (some ((j : Nat) : Int)) H Q := by
  refine ⟨a, xs, rfl, SqT.of ha, fun z => ?_, fun p hp => ?_⟩
  · have z2 := z.2
    rw [HT.sIx_nat] at z2
    omega
  · refine q p _ (same_upd hp) ?_
    rw [upd_same]
    unfold cutV
    rw [HT.sIx_nat, HT.sIx_none, List.drop_zero, Nat.sub_zero, Nat.min_eq_left (by omega)]
theorem cut_from (ha : H a = some (.tup xs)) (hj : j < xs.length) (q : ∀ r H', Same H H' → H' r = some (.tup (xs.drop (j + 1))) → Q (.ref r) H') : rSlT K (.ref a) (some (((j : Nat) : Int) + 1)) none H Q := by
  have e : (((j : Nat) : Int) + 1) = ((j + 1 : Nat) : Int) := by omega
  rw [e]
  refine ⟨a, xs, rfl, SqT.of ha, fun z => ?_, fun p hp => ?_⟩
  · have z1 := z.1
    rw [HT.sIx_nat] at z1
    omega
  · refine q p _ (same_upd hp) ?_
    rw [upd_same]
    unfold cutV
    rw [HT.sIx_nat, HT.sIx_none, Nat.min_eq_left (by omega), List.take_of_length_le (by rw [List.length_drop]; omega)]
theorem pick2 (c : Bool) : ∃ m : Int, 0 ≤ m ∧ m ≤ 12 ∧ atI [V.int 6, V.int 12] (if c = true then 1 else 0) = some (.int m) := by
  cases c
  · exact ⟨6, by decide, by decide, rfl⟩
  · exact ⟨12, by decide, by decide, rfl⟩
end

section
variable {P : Program} {w : World} {K : PySem.W.Frag} {mg : Str → Option Value} {base : Heap} {f CW CR C g : Addr} {fd fdE : FuncData}
/-! ### law -/
def rLenS (K : PySem.W.Frag) : List V → Hp → VK → Prop := fun xs H Q => ∃ p ys, xs = [.ref p] ∧ (SqL K H p ys ∨ SqT K H p ys) ∧ Q (.int ys.length) H
abbrev nLaw : List Str := ["_law_script", "_law_pool_here", "_law_turn", "_law_told_here", "_law_web_here", "_law_house", "_law_share", "_law_holder_here", "_law_due", "_law_other", "_law_shares", "_law_more", "_law_k"]
theorem sc_law : FnScope nLaw ["_law_script"] (C8.fnScope sLaw) := ⟨rfl, rfl, rfl, by decide +kernel, rfl, by decide +kernel, by decide +kernel⟩
def spLaw (K : PySem.W.Frag) : Sp := fun vs H Q _ => ∃ (a : Addr) (ns : List Int), vs = [.ref a] ∧ SqL K H a (ns.map V.int) ∧ ns.length ≤ 63 ∧ ∀ H', Q (.bl true) H'
theorem cal_law (F : C8.Fun K "law" "law" sLaw f fd) (B : Bi mg) (hmW : mg "Web" = some (.ref CW)) (TW : Cl K CW CW) (TR : Cl K CW CR)
    (q1 : PySem.W.findIn K (.ref CW) "__eq__" = some (some (.ref g))) (q2 : PySem.W.findIn K (.ref CR) "__eq__" = some (some (.ref g))) (qf : PySem.W.isFn K (.ref g) = true) (FE : FnOk P w K mg base C8.CX0 1 g fdE ["self", "other"] (spEq K CW)) (bE : Binds K fdE ["self", "other"] [])
    (GP : C8.Cal P w K mg base 1 "_law_pool" (spPool K) []) (GD : C8.Cal P w K mg base 1 "_law_draw" spDraw []) (GH : C8.Cal P w K mg base 2 "_law_holder" spHolder []) (GT : C8.Cal P w K mg base 3 "_law_told" spTold [])
    (GW : C8.Cal P w K mg base 7 "_law_web" (spWeb CW) []) (GS : C8.Cal P w K mg base 6 "sold" (spSold K CW CR) []) (GE : C8.Cal P w K mg base 6 "held" (spHeldOf K CW) []) (GF : C8.Cal P w K mg base 6 "founded" (spFounded K CW CR) []) :
    FnOk P w K mg base C8.CX0 8 f fd ["_law_script"] (spLaw K) := by
  refine C8.fn0 F sc_law (fun vs H Q E h => ?_) (fun cdv A outer s H vs Q E hr h => ?_)
  · obtain ⟨a, ns, rfl, _⟩ := h
    rfl
  · obtain ⟨a, ns, rfl, hS, hl, q⟩ := h
    have hu := Room.units hr
    refine ⟨_, pss_cons (ps_set (i := 1) sc_law.nd rfl (Or.inr rfl) (C8.pe_c GP hr (by decide) (by rfl) (pa_cons (pv 0) pa_nil)))
      (pss_cons (ps_for PassesOwn.never rfl (pi_range1 (by rfl) B.range (pa_cons pe_int pa_nil)) (pg_name (i := 2) sc_law.nd rfl (Or.inl rfl))
        (pss_cons (ps_set (i := 3) sc_law.nd rfl (Or.inr rfl) (C8.pe_c GT hr (by decide) (by rfl) (pa_cons (pv 1) (pa_cons pe_int (pa_cons (pe_ix ix_list (pe_lst (pa_cons pe_int (pa_cons pe_int pa_nil)))
          (pe_callTy call_int1 (by rfl) B.int bt_int (pa_cons (pe_cmpR op_eq (C8.pe_c GD hr (by decide) (by rfl) (pa_cons (pv 1) (pa_cons pe_int pa_nil))) pe_int (nomark _)) pa_nil)) (fun _ _ => rfl)) pa_nil)))))
        (pss_cons (ps_set (i := 4) sc_law.nd rfl (Or.inl rfl) (C8.pe_c GW hr (by decide) (by rfl) (pa_cons (pv 3) pa_nil)))
        (C8.pss_cut (ps_if (pt_cmpR op_gt (pe_callB call_len_seq (by rfl) B.len bt_len (pa_cons (pe_ix ix_tup (pv 3) pe_int (fun _ _ => rfl)) pa_nil)) pe_int (nomark _))
          (pss_cons (ps_set (i := 5) sc_law.nd rfl (Or.inl rfl) (C8.pe_c GD hr (by decide) (by rfl) (pa_cons (pv 1) (pa_cons (pe_callB call_len_seq (by rfl) B.len bt_len (pa_cons (pe_ix ix_tup (pv 3) pe_int (fun _ _ => rfl)) pa_nil)) pa_nil))))
          (pss_cons (ps_set (i := 6) sc_law.nd rfl (Or.inl rfl) (C8.pe_c GD hr (by decide) (by rfl) (pa_cons (pv 1) (pa_cons (pe_callB call_len_seq (by rfl) B.len bt_len (pa_cons (pe_ix ix_tup (pe_ix ix_tup (pv 3) pe_int (fun _ _ => rfl)) (pv 5) (fun _ _ => rfl)) pa_nil)) pa_nil))))
          (pss_cons (ps_set (i := 7) sc_law.nd rfl (Or.inl rfl) (C8.pe_c GH hr (by decide) (by rfl) (pa_cons (pv 1) (pa_cons (pe_ix ix_tup (pv 3) pe_int (fun _ _ => rfl)) (pa_cons (pe_callB call_len_seq (by rfl) B.len bt_len (pa_cons (pe_ix ix_tup (pv 3) pe_int (fun _ _ => rfl)) pa_nil)) (pa_cons pe_int pa_nil))))))
          (pss_cons (ps_set (i := 8) sc_law.nd rfl (Or.inl rfl) (pe_callTy call_tupOf (by rfl) B.tuple bt_tuple (pa_cons (pe_callB (cr_sortedH hu) (by rfl) B.sorted bt_sorted
            (pa_cons (pe_op op_catA (pe_op op_catA (pe_slice sl_tup (pe_ix ix_tup (pe_ix ix_tup (pv 3) pe_int (fun _ _ => rfl)) (pv 5) (fun _ _ => rfl)) po_none (po_some (pv 6))) (pe_tup (pa_cons (pv 7) pa_nil)))
              (pe_slice sl_tup (pe_ix ix_tup (pe_ix ix_tup (pv 3) pe_int (fun _ _ => rfl)) (pv 5) (fun _ _ => rfl)) (po_some (pe_op op_add (pv 6) pe_int)) po_none)) pa_nil)) pa_nil)))
          (pss_cons (ps_set (i := 9) sc_law.nd rfl (Or.inl rfl) (C8.pe_c GS hr (by decide) (by rfl) (pa_cons (pv 4) (pa_cons (pv 5) (pa_cons (pv 6) (pa_cons (pv 7) pa_nil))))))
          (pss_cons (ps_if (PW.pt (pw_or (pt_cmpR op_ne (pe_fld (pv 9) rfl) (pe_ix ix_tup (pv 3) pe_int (fun _ _ => rfl)) (nomark _))
              (pw_or1 (pt_cmpR (op_neD hu) (pe_fld (pv 9) rfl) (pe_op op_catA (pe_op op_catA (pe_slice sl_tup (pe_ix ix_tup (pv 3) pe_int (fun _ _ => rfl)) po_none (po_some (pv 5))) (pe_tup (pa_cons (pv 8) pa_nil)))
                (pe_slice sl_tup (pe_ix ix_tup (pv 3) pe_int (fun _ _ => rfl)) (po_some (pe_op op_add (pv 5) pe_int)) po_none)) (nomark _))))) (pss_one (ps_ret pe_bl)) pss_nil)
          (pss_one (ps_if (pt_cmpR op_ne (C8.pe_c GE hr (by decide) (by rfl) (pa_cons (pv 9) (pa_cons (pv 5) (pa_cons (pv 7) pa_nil)))) (pe_op op_add (C8.pe_c GE hr (by decide) (by rfl) (pa_cons (pv 4) (pa_cons (pv 5) (pa_cons (pv 7) pa_nil))))
              (pe_callTy call_int1 (by rfl) B.int bt_int (pa_cons (pe_cmpR (op_neD hu) (pe_ix ix_tup (pe_ix ix_tup (pe_ix ix_tup (pv 3) pe_int (fun _ _ => rfl)) (pv 5) (fun _ _ => rfl)) (pv 6) (fun _ _ => rfl)) (pv 7) (nomark _)) pa_nil))) (nomark _)) (pss_one (ps_ret pe_bl)) pss_nil)))))))) pss_nil)
        (pss_cons (ps_set (i := 10) sc_law.nd rfl (Or.inl rfl) (pe_callTy call_tupOf (by rfl) B.tuple bt_tuple (pa_cons (pe_callB (cr_sortedH hu) (by rfl) B.sorted bt_sorted (pa_cons (pe_lc (own := [("_law_k", 12)]) (g := gName 12) (tt := tYes) rfl sc_law.nd
            (pi_range1 (by rfl) B.range (pa_cons (pe_ix ix_list (pe_lst (pa_cons pe_int (pa_cons pe_int (pa_cons pe_int (pa_cons pe_int pa_nil))))) (C8.pe_c GD hr (by decide) (by rfl) (pa_cons (pv 1) (pa_cons pe_int pa_nil))) (fun _ _ => rfl)) pa_nil))
            (blkOk_by (N := nLaw) (sc := C8.fnScope sLaw) (by decide +kernel)) (fun _ _ _ _ _ => pg_name (i := 12) sc_law.nd rfl (Or.inl rfl)) (fun _ _ _ _ _ => pts_nil)
            (fun _ _ _ _ _ => C8.pe_c GH hr (by decide) (by rfl) (pa_cons (pv 1) (pa_cons (pe_ix (r := rIxT K) ix_tup (pv 3) pe_int (fun _ _ => rfl)) (pa_cons (pe_op op_add (pe_callB (r := rLenS K) call_len_seq (by rfl) B.len bt_len (pa_cons (pe_ix (r := rIxT K) ix_tup (pv 3) pe_int (fun _ _ => rfl)) pa_nil)) pe_int) (pa_cons pe_int pa_nil)))))) pa_nil)) pa_nil)))
        (pss_cons (ps_set (i := 11) sc_law.nd rfl (Or.inl rfl) (C8.pe_c GF hr (by decide) (by rfl) (pa_cons (pv 4) (pa_cons (pv 10) pa_nil))))
        (pss_cons (ps_if (PW.pt (pw_or (pt_cmpR op_ne (pe_fld (pv 11) rfl) (pe_ix ix_tup (pv 3) pe_int (fun _ _ => rfl)) (nomark _))
            (pw_or (pt_cmpR (op_neD hu) (pe_fld (pv 11) rfl) (pe_op op_catA (pe_ix ix_tup (pv 3) pe_int (fun _ _ => rfl)) (pe_tup (pa_cons (pv 10) pa_nil))) (nomark _))
            (pw_or1 (pt_not (pt_val (pe_callB call_isi (by rfl) B.isi bt_isi (pa_cons (pv 11) (pa_cons (pe_glob (v := .ref CW) (by rfl) hmW rfl) pa_nil))))))))) (pss_one (ps_ret pe_bl)) pss_nil)
        (pss_one (ps_if (PW.pt (pw_or (pt_cmpR (op_neI q1 qf TW.ne TW.hm FE bE (hr.mono (by decide))) (pv 4) (C8.pe_c GW hr (by decide) (by rfl) (pa_cons (pv 3) pa_nil)) (nomark _))
            (pw_or1 (pt_cmpR (op_eqI q2 qf FE bE (hr.mono (by decide))) (pv 11) (pv 4) (nomark _))))) (pss_one (ps_ret pe_bl)) pss_nil)))))))))
      (pss_one (ps_ret pe_bl))), ?_⟩
    -- pool
    refine ⟨_, rfl, a, ns, rfl, hS, hl, fun H0 p c hP0 _ => ?_⟩
    refine ⟨3, rfl, by decide, by decide, for_range (lo := 0) (n := 3) (fun _ σ H' => ∃ y2 y3 y4 y5 y6 y7 y8 y9 y10 y11 : Option V, σ = [some (.ref a), some (.ref p), y2, y3, y4, y5, y6, y7, y8, y9, y10, y11, none] ∧ PoolAt p c H') ⟨_, _, _, _, _, _, _, _, _, _, rfl, hP0⟩ ?_ ?_⟩
    · rintro i σ H1 _ ⟨y2, y3, y4, y5, y6, y7, y8, y9, y10, y11, rfl, hP1⟩
      -- told
      refine ⟨_, rfl, (by show 2 ≤ sizeLine; decide), fun l hl => ?_⟩
      refine ⟨_, rfl, p, c, 8, rfl, hP1.same (same_upd hl), by decide, by decide, fun H2 k hP2 c2 _ _ => ?_⟩
      obtain ⟨nlp, nlc⟩ := hP1.off hl
      obtain ⟨mh, m0, m1, hmh⟩ := pick2 (decide (V.int k = V.int 0))
      refine ⟨rfl, .inr ⟨_, rfl, l, _, _, _, rfl, rfl, SqL.of (c2 _ _ upd_same nlp nlc), hmh, ?_⟩⟩
      refine ⟨p, c, 4, mh, rfl, hP2, by decide, by decide, m0, m1, fun H3 tv folk t hP3 _ hT fo0 fo1 tl okt => ?_⟩
      clear hmh hl nlp nlc c2 hP2
      -- web
      refine ⟨_, rfl, tv, folk, t, rfl, hT, fo0, fo1, tl, okt, fun H4 wv hW sm4 => ?_⟩
      have hP4 := hP3.same sm4
      have hT4 := hT.tk (TK.of sm4)
      clear hT hP3 sm4
      obtain ⟨ta, _, rfl, hta, T, hss, rfl, hhss, prT⟩ := id hT4
      have hlen := pr_len prT
      have okb : ∀ hs ∈ t, hs.length ≤ 15 ∧ ∀ h ∈ hs, 0 ≤ h.2 ∧ (h.1 = false → h.2 < folk) := fun hs m => ⟨(okt hs m).most, fun h mh => ⟨((okt hs m).all h mh).1, ((okt hs m).all h mh).2.1⟩⟩
      have srt : ∀ hs ∈ t, Srt hs := fun hs m => (okt hs m).srt
      -- told[1] is read
      have tow : ∀ {G : Hp}, NL H4 G → TowV G (.ref T) t := fun n => ⟨T, hss, rfl, n.tk _ _ hhss, pS.tk prT n.tk⟩
      refine ⟨fun σ' H'' => ∃ y5 y6 y7 y8 y9 : Option V, σ' = [some (.ref a), some (.ref p), some (.int (0 + (i : Nat))), some (.ref ta), some wv, y5, y6, y7, y8, y9, y10, y11, none] ∧ PoolAt p c H'' ∧ NL H4 H'', ?_, ?_⟩
      · refine ⟨_, rfl, ta, _, 1, _, rfl, rfl, SqT.of hta, atI_nat (j := 1) rfl, T, hss, rfl, .inr (SqT.of hhss), _, 0, rfl, rfl, _, rfl, ite2 (fun e => ?_) (fun _ => ⟨_, _, _, _, _, rfl, hP4, NL.of (Same.refl H4)⟩)⟩
        have pos : 0 < hss.length := by
          have z := of_decide_eq_true e
          omega
        -- house
        refine ⟨_, rfl, _, rfl, ta, _, 1, _, rfl, rfl, SqT.of hta, atI_nat (j := 1) rfl, T, hss, rfl, .inr (SqT.of hhss), p, c, _, rfl, hP4, by omega, by omega, fun H5 hk hP5 c5 g0 g1 => ?_⟩
        obtain ⟨i1, rfl⟩ : ∃ i1 : Nat, hk = (i1 : Int) := ⟨hk.toNat, by omega⟩
        have hi : i1 < hss.length := by omega
        obtain ⟨x, ex⟩ : ∃ x, hss[i1]? = some x := ⟨_, List.getElem?_eq_getElem hi⟩
        obtain ⟨hs, ehs, hH⟩ := pr_get prT ex
        obtain ⟨A1, vs, rfl, hA, prH⟩ := id hH
        have okhs := okt hs (List.mem_of_getElem? ehs)
        have lvs := pr_len prH
        have n5 : NL H4 H5 := c5.nl hP4
        have ho := okhs.odd
        have hm := okhs.most
        -- share
        refine ⟨_, rfl, _, rfl, ta, _, 1, _, rfl, rfl, SqT.of (n5.tk _ _ hta), atI_nat (j := 1) rfl, _, rfl, T, hss, _, _, rfl, rfl, SqT.of (n5.tk _ _ hhss), atI_nat ex, A1, vs, rfl, .inr (SqT.of (n5.tk _ _ hA)), p, c, _, rfl, hP5, by omega, by omega, fun H6 sk hP6 c6 s0 s1 => ?_⟩
        obtain ⟨j, rfl⟩ : ∃ j : Nat, sk = (j : Int) := ⟨sk.toNat, by omega⟩
        have hj : j < vs.length := by omega
        have n6 : NL H4 H6 := n5.trans (c6.nl hP5)
        -- holder
        refine ⟨_, rfl, _, rfl, ta, _, 0, _, rfl, rfl, SqT.of (n6.tk _ _ hta), atI_nat (j := 0) rfl, _, rfl, ta, _, 1, _, rfl, rfl, SqT.of (n6.tk _ _ hta), atI_nat (j := 1) rfl, T, hss, rfl, .inr (SqT.of (n6.tk _ _ hhss)), p, c, folk, _, 3, rfl, hP6, by omega, by omega, by omega, by omega, fun H7 xv h hP7 c7 hx okh => ?_⟩
        have n7 : NL H4 H7 := n6.trans (c7.nl hP6)
        clear n5 n6 c5 c6 c7 hP5 hP6
        rw [hlen] at okh
        -- due
        refine ⟨_, rfl, ta, _, 1, _, rfl, rfl, SqT.of (n7.tk _ _ hta), atI_nat (j := 1) rfl, _, rfl, T, hss, _, _, rfl, rfl, SqT.of (n7.tk _ _ hhss), atI_nat ex, _, rfl, (j : Int), rfl, ?_⟩
        refine cut_to (n7.tk _ _ hA) hj fun R1 G1 u1 e1 => ?_
        refine ⟨_, rfl, (by show 1 ≤ sizeLine; decide), fun R2 hR2 => ?_⟩
        have u2 : Same G1 (upd G1 R2 (.tup [xv])) := same_upd hR2
        have e2 : (upd G1 R2 (.tup [xv])) R2 = some (.tup [xv]) := upd_same
        generalize upd G1 R2 (.tup [xv]) = G2 at u2 e2 ⊢
        refine cat_any (u2 _ _ e1) e2 (by rw [List.length_take, List.length_singleton]; omega) fun R3 G3 u3 e3 => ?_
        have n3 : NL H4 G3 := n7.trans (NL.of ((u1.trans u2).trans u3))
        refine ⟨_, rfl, ta, _, 1, _, rfl, rfl, SqT.of (n3.tk _ _ hta), atI_nat (j := 1) rfl, _, rfl, T, hss, _, _, rfl, rfl, SqT.of (n3.tk _ _ hhss), atI_nat ex, _, rfl, _, 1, rfl, rfl, (j : Int) + 1, rfl, ?_⟩
        refine no_part ?_
        refine cut_from (n3.tk _ _ hA) hj fun R4 G4 u4 e4 => ?_
        refine cat_any (u4 _ _ e3) e4 (by rw [List.length_append, List.length_take, List.length_singleton, List.length_drop]; omega) fun R5 G5 u5 e5 => ?_
        have uA : Same H7 G5 := (((u1.trans u2).trans u3).trans u4).trans u5
        have prD : Paired (HolV G5) (vs.take j ++ [xv] ++ vs.drop (j + 1)) (hs.set j h) := by
          have z := pr_append (pr_append (pr_take j (pH.tk prH n7.tk)) (.cons hx .nil)) (pr_drop (j + 1) (pH.tk prH n7.tk))
          rw [set_take_drop h (show j < hs.length by omega)] at z
          exact pH.tk z (TK.of uA)
        refine ⟨R5, _, hs.set j h, rfl, .inr (SqT.of e5), prD, fun ss S pss hS' => ?_⟩
        have uS : Same G5 (upd G5 S (.lst ss)) := same_upd hS'
        refine ⟨S, ss, rfl, .inl ⟨SqL.of upd_same, fun U hU => ?_⟩⟩
        have uU : Same G5 (upd (upd G5 S (.lst ss)) U (.tup ss)) := uS.trans (same_upd hU)
        have eU : (upd (upd G5 S (.lst ss)) U (.tup ss)) U = some (.tup ss) := upd_same
        generalize upd (upd G5 S (.lst ss)) U (.tup ss) = H8 at uU eU ⊢
        have n8 : NL H4 H8 := n7.trans (NL.of (uA.trans uU))
        have hP8 := hP7.same (uA.trans uU)
        have hx8 := hx.tk (TK.of (uA.trans uU))
        have hdue : HouV H8 (.ref U) (sortH (hs.set j h)) := ⟨U, ss, rfl, eU, pH.tk pss (TK.of uU)⟩
        clear n3 u1 u2 u3 u4 u5 e1 e2 e3 e4 e5 prD pss hS' uS uU uA hP7
        -- sold
        have W8 : WebX K CW H8 wv folk t := ⟨CW, TW, hW.nl n8⟩
        refine ⟨_, rfl, _, rfl, _, rfl, _, rfl, wv, xv, i1, j, h, folk, t, hs, rfl, W8, hx8, ehs, by omega, okh, by omega, by omega, by omega, okb, fun H9 ov hO u9 => ?_⟩
        rw [map_sort_set srt] at hO
        have n9 : NL H4 H9 := n8.trans (NL.of u9)
        have hP9 := hP8.same u9
        have hx9 := hx8.tk (TK.of u9)
        obtain ⟨op, dxo, fso, hvo, rfl, hop, ko1, ko2, hTo⟩ := id hO
        -- other.folk != told[0] or other.houses != ..
        refine ⟨_, rfl, op, CR, dxo, fso, _, rfl, hop, TR.cl, TR.nF, ko1, _, rfl, ta, _, 0, _, rfl, rfl, SqT.of (n9.tk _ _ hta), atI_nat (j := 0) rfl, rfl, _, rfl, ?_⟩
        rw [decide_eq_true rfl]
        refine iteF ?_
        have dT9 := (tow n9).dp (K := K)
        refine ⟨_, rfl, op, CR, dxo, fso, _, rfl, hop, TR.cl, TR.nH, ko2, _, rfl, ta, _, 1, _, rfl, rfl, SqT.of (n9.tk _ _ hta), atI_nat (j := 1) rfl, _, rfl, (i1 : Int), rfl, ?_⟩
        refine cut_to (n9.tk _ _ hhss) hi fun R1 G1 u1 e1 => ?_
        refine ⟨_, rfl, (by show 1 ≤ sizeLine; decide), fun R2 hR2 => ?_⟩
        have u2 : Same G1 (upd G1 R2 (.tup [V.ref U])) := same_upd hR2
        have e2 : (upd G1 R2 (.tup [V.ref U])) R2 = some (.tup [V.ref U]) := upd_same
        generalize upd G1 R2 (.tup [V.ref U]) = G2 at u2 e2 ⊢
        refine cat_any (u2 _ _ e1) e2 (by rw [List.length_take, List.length_singleton]; omega) fun R3 G3 u3 e3 => ?_
        have n3 : NL H4 G3 := n9.trans (NL.of ((u1.trans u2).trans u3))
        refine ⟨_, rfl, ta, _, 1, _, rfl, rfl, SqT.of (n3.tk _ _ hta), atI_nat (j := 1) rfl, _, rfl, _, 1, rfl, rfl, (i1 : Int) + 1, rfl, ?_⟩
        refine no_part ?_
        refine cut_from (n3.tk _ _ hhss) hi fun R4 G4 u4 e4 => ?_
        refine cat_any (u4 _ _ e3) e4 (by rw [List.length_append, List.length_take, List.length_singleton, List.length_drop]; omega) fun R5 G5 u5 e5 => ?_
        have uA : Same H9 G5 := (((u1.trans u2).trans u3).trans u4).trans u5
        have hT5 : TowV G5 (.ref R5) (t.set i1 (sortH (hs.set j h))) := by
          have n5 : NL H4 G5 := n9.trans (NL.of uA)
          have z := pr_append (pr_append (pr_take i1 (pS.tk prT n5.tk)) (.cons (hdue.tk (TK.of (u9.trans uA))) .nil)) (pr_drop (i1 + 1) (pS.tk prT n5.tk))
          rw [set_take_drop (sortH (hs.set j h)) (show i1 < t.length by omega)] at z
          exact ⟨R5, _, rfl, e5, z⟩
        have hTo5 := hTo.tk (TK.of uA)
        have hO5 := hO.nl (NL.of uA)
        have hP10 := hP9.same uA
        have hx10 := hx9.tk (TK.of uA)
        have n10 : NL H4 G5 := n9.trans (NL.of uA)
        refine ⟨encT (t.set i1 (sortH (hs.set j h))), encT (t.set i1 (sortH (hs.set j h))), hTo5.dp, hT5.dp, shaped_T _, shaped_T _, _, rfl, ?_⟩
        rw [eqv_T, decide_eq_true rfl]
        refine iteF ?_
        clear hTo5 hT5 u1 u2 u3 u4 u5 e1 e2 e3 e4 e5 n3 uA hop ko1 ko2 hTo dT9 n9 hx9 hP9
        -- held(other, ..) != held(web, ..) + int(..)
        have hit : i1 < t.length := by omega
        refine ⟨_, rfl, _, rfl, _, rfl, .ref op, xv, i1, h, folk, t.set i1 (sortH (hs.set j h)), sortH (hs.set j h), rfl, ⟨CR, TR, hO5⟩, hx10, ?_, ?_, ?_, fun G6 u6 => ?_⟩
        · rw [List.getElem?_set_self hit]
        · rw [sortH_len, List.length_set]
          omega
        · rw [List.length_set]
          exact okh
        have n6 := n10.trans (NL.of u6)
        refine ⟨_, rfl, _, rfl, _, rfl, wv, xv, i1, h, folk, t, hs, rfl, ⟨CW, TW, hW.nl n6⟩, hx10.tk (TK.of u6), ehs, by omega, okh, fun G7 u7 => ?_⟩
        have n7' := n6.trans (NL.of u7)
        obtain ⟨y, ey⟩ : ∃ y, vs[j]? = some y := ⟨_, List.getElem?_eq_getElem hj⟩
        obtain ⟨o, eo, hy⟩ := pr_get prH ey
        refine ⟨_, rfl, ta, _, 1, _, rfl, rfl, SqT.of (n7'.tk _ _ hta), atI_nat (j := 1) rfl, _, rfl, T, hss, _, _, rfl, rfl, SqT.of (n7'.tk _ _ hhss), atI_nat ex, _, rfl, A1, vs, _, _, rfl, rfl, SqT.of (n7'.tk _ _ hA), atI_nat ey, _, rfl,
          encH o, encH h, (hy.tk n7'.tk).dp, (hx10.tk (TK.of (u6.trans u7))).dp, shaped_H o, shaped_H h, .inr ⟨_, rfl, _, _, rfl, rfl, rfl, false, ?_, iteF ⟨_, _, _, _, _, rfl, hP10.same (u6.trans u7), n7'⟩⟩⟩
        rw [eqv_H, count_sold eo h, decide_eq_true rfl]
        rfl
      rintro σ' H5 ⟨z5, z6, z7, z8, z9, rfl, hP5, n5⟩
      -- shares
      refine ⟨(by show 4 ≤ sizeLine; decide), fun l hl => ?_⟩
      refine ⟨_, rfl, p, c, 4, rfl, hP5.same (same_upd hl), by decide, by decide, fun H6 k6 hP6 c6 a60 a61 => ?_⟩
      obtain ⟨m, mm, hmv⟩ := pick_row [1, 3, 5, 15] k6 a60 a61
      obtain ⟨nlp, nlc⟩ := hP5.off hl
      have c6' : PC p c H5 H6 := (PC.of (same_upd hl)).trans c6
      have om : m % 2 = 1 ∧ m ≤ 15 := by
        simp at mm
        omega
      refine ⟨l, _, k6, _, rfl, rfl, SqL.of (c6 _ _ upd_same nlp nlc), hmv, _, rfl, by omega, by omega, fun L hL => ?_⟩
      have n6 : NL H4 H6 := n5.trans (c6'.nl hP5)
      clear hmv hl nlp nlc c6 c6' hP5 n5
      obtain ⟨nLp, nLc⟩ := hP6.off hL
      refine lc_range (lo := 0) (n := m) (fun j G => PoolAt p c G ∧ PC p c H6 G ∧ ∃ (zs : List V) (hs : List Hol), G L = some (.lst zs) ∧ Paired (HolV G) zs hs ∧ hs.length = j ∧ ∀ h ∈ hs, okHol folk ((t.length : Int) + 1) h) ⟨hP6.put hL hP6, (PC.refl p c H6).put hL, [], [], upd_same, .nil, rfl, fun _ m => nomatch m⟩ (fun j G hj hq => ?_) (fun H7 hq => ?_)
      · obtain ⟨jP, jC, zs, hs, eL, pz, lz, okz⟩ := hq
        have l2 := pr_len pz
        have nG : NL H4 G := n6.trans (jC.nl hP6)
        refine ⟨rfl, ?_⟩
        refine ⟨_, rfl, _, rfl, ta, _, 0, _, rfl, rfl, SqT.of (nG.tk _ _ hta), atI_nat (j := 0) rfl, _, rfl, ta, _, 1, _, rfl, rfl, SqT.of (nG.tk _ _ hta), atI_nat (j := 1) rfl, T, hss, rfl, .inr (SqT.of (nG.tk _ _ hhss)), _, 1, rfl, rfl, p, c, folk, _, 3, rfl, jP, by omega, by omega, by omega, by omega, fun G2 v h gP2 gC2 hv okv => ?_⟩
        have eL2 := gC2 _ _ eL nLp nLc
        have kL : TK G2 (upd G2 L (.lst (zs ++ [v]))) := TK.put eL2 (fun _ z => nomatch z)
        rw [hlen] at okv
        refine ⟨zs, eL2, small1000 (by omega), hP6.put hL gP2, (jC.trans gC2).put hL, zs ++ [v], hs ++ [h], upd_same, pr_append (pH.tk pz ((gC2.nl jP).tk.trans kL)) (.cons (hv.tk kL) .nil), ?_, fun g mg => ?_⟩
        · rw [List.length_append, lz]
          rfl
        · rcases List.mem_append.mp mg with mg | mg
          · exact okz g mg
          · rw [List.mem_singleton.mp mg]
            exact okv
      obtain ⟨hP7, c7, zs, hs, eL, pz, lz, okz⟩ := hq
      have n7 : NL H4 H7 := n6.trans (c7.nl hP6)
      refine ⟨L, zs, hs, rfl, .inl (SqL.of eL), pz, fun ss S pss hS' => ?_⟩
      have uS : Same H7 (upd H7 S (.lst ss)) := same_upd hS'
      refine ⟨S, ss, rfl, .inl ⟨SqL.of upd_same, fun U hU => ?_⟩⟩
      have uU : Same H7 (upd (upd H7 S (.lst ss)) U (.tup ss)) := uS.trans (same_upd hU)
      have eU : (upd (upd H7 S (.lst ss)) U (.tup ss)) U = some (.tup ss) := upd_same
      generalize upd (upd H7 S (.lst ss)) U (.tup ss) = H8 at uU eU ⊢
      have n8 := n7.trans (NL.of uU)
      have hP8 := hP7.same uU
      have hsh : HouV H8 (.ref U) (sortH hs) := ⟨U, ss, rfl, eU, pH.tk pss (TK.of uU)⟩
      have oksh : okHou folk ((t.length : Int) + 1) (sortH hs) := ⟨sortH_srt hs, by rw [sortH_len, lz]; exact om.1, by rw [sortH_len, lz]; exact om.2, fun h mh => okz h (sortH_mem mh)⟩
      clear uS uU hS' pss hP7 c7 n7 n6 hP6 nLp nLc
      -- founded
      refine ⟨_, rfl, _, rfl, wv, .ref U, folk, t, sortH hs, rfl, ⟨CW, TW, hW.nl n8⟩, hsh, oksh, by omega, by omega, by omega, okb, fun H9 mv hM u9 => ?_⟩
      have em : (t ++ [sortH hs]).map sortH = t ++ [sortH hs] := map_sort fun gs mg => by
        rcases List.mem_append.mp mg with mg | mg
        · exact srt gs mg
        · rw [List.mem_singleton.mp mg]
          exact sortH_srt hs
      rw [em] at hM
      have n9 := n8.trans (NL.of u9)
      have hP9 := hP8.same u9
      obtain ⟨op, dxo, fso, hvo, rfl, hop, ko1, ko2, hTo⟩ := id hM
      -- more.folk != told[0] or more.houses != told[1] + (shares,) or not isinstance(more, Web)
      refine ⟨_, rfl, op, CR, dxo, fso, _, rfl, hop, TR.cl, TR.nF, ko1, _, rfl, ta, _, 0, _, rfl, rfl, SqT.of (n9.tk _ _ hta), atI_nat (j := 0) rfl, rfl, _, rfl, ?_⟩
      rw [decide_eq_true rfl]
      refine iteF ?_
      refine ⟨_, rfl, op, CR, dxo, fso, _, rfl, hop, TR.cl, TR.nH, ko2, _, rfl, ta, _, 1, _, rfl, rfl, SqT.of (n9.tk _ _ hta), atI_nat (j := 1) rfl, _, rfl, (by show 1 ≤ sizeLine; decide), fun R2 hR2 => ?_⟩
      have u2 : Same H9 (upd H9 R2 (.tup [V.ref U])) := same_upd hR2
      have e2 : (upd H9 R2 (.tup [V.ref U])) R2 = some (.tup [V.ref U]) := upd_same
      generalize upd H9 R2 (.tup [V.ref U]) = G2 at u2 e2 ⊢
      refine cat_any ((n9.trans (NL.of u2)).tk _ _ hhss) e2 (by rw [List.length_singleton]; omega) fun R3 G3 u3 e3 => ?_
      have u13 : Same H9 G3 := u2.trans u3
      have n3 : NL H4 G3 := n9.trans (NL.of u13)
      have hT3 : TowV G3 (.ref R3) (t ++ [sortH hs]) := ⟨R3, _, rfl, e3, pr_append (pS.tk prT n3.tk) (.cons (hsh.tk (TK.of (u9.trans u13))) .nil)⟩
      refine ⟨encT (t ++ [sortH hs]), encT (t ++ [sortH hs]), (hTo.tk (TK.of u13)).dp, hT3.dp, shaped_T _, shaped_T _, _, rfl, ?_⟩
      rw [eqv_T, decide_eq_true rfl]
      refine iteF ?_
      refine ⟨_, rfl, .ref op, .ref CW, .ref CR, .ref CW, true, rfl, .own CW, .base (.ins (u13 _ _ hop) TR.cl TR.ha TR.hn TR.htk TR.hm), TR.ki, true, rfl, iteF ?_⟩
      -- web != _law_web(told) or more == web
      have hP3 := hP9.same u13
      have hM3 := hM.nl (NL.of u13)
      refine ⟨_, rfl, _, rfl, .ref ta, folk, t, rfl, hT4.tk n3.tk, fo0, fo1, tl, okt, fun G4 w2 hW2 u4 => ?_⟩
      have n4 := n3.trans (NL.of u4)
      have hW4 := hW.nl n4
      have hM4 := hM3.nl (NL.of u4)
      obtain ⟨wa, dxa, fsa, _, rfl, hwa, _⟩ := id hW4
      obtain ⟨wb, dxb, fsb, _, rfl, hwb, _⟩ := id hW2
      obtain ⟨ma, dxm, fsm, _, ema, hma, _⟩ := id hM4
      refine ⟨wa, dxa, fsa, wb, CW, dxb, fsb, rfl, rfl, hwa, hwb, TW.nf, .ref wa, .ref wb, CW, CW, folk, folk, t, t, rfl, TW, TW, hW4, hW2, _, rfl, _, rfl, ?_⟩
      rw [decide_eq_true rfl, decide_eq_true rfl]
      refine iteF ?_
      refine ⟨_, rfl, _, rfl, ma, dxm, fsm, wa, CW, dxa, fsa, ema, rfl, hma, hwa, TR.nf, .ref op, .ref wa, CR, CW, folk, folk, t ++ [sortH hs], t, rfl, TR, TW, hM4, hW4, _, rfl, _, rfl, ?_⟩
      have ne : ¬ (t ++ [sortH hs] = t) := fun z => by
        have z2 := congrArg List.length z
        rw [List.length_append, List.length_singleton] at z2
        omega
      rw [decide_eq_true rfl, decide_eq_false ne]
      refine iteF ?_
      exact ⟨_, _, _, _, _, _, _, _, _, _, rfl, hP3.same u4⟩
    · rintro σ H' ⟨y2, y3, y4, y5, y6, y7, y8, y9, y10, y11, rfl, _⟩
      exact q H'
end
end K6

set_option Elab.async false
set_option linter.all false
set_option maxRecDepth 100000
set_option maxHeartbeats 4000000
/-! K06, the end: what the top has written, the head. Printed by gen_z.py. -/
namespace K6
open PySem PySem.Spec PyProof.Rows L2

/-- a def stands at f -/
abbrev FnF (K : PySem.W.Frag) (x q : Str) (st : Stmt) (f : Addr) : Prop := ∃ (oc : Value) (od : Option Addr) (kV doc pm : Value) (an : Option Addr) (cdv ct : Value) (osl : Array (Option Value)),
  K.lookup f = some ⟨oc, od, .func (PySem.W.fnOf x q (C8.fnArgs st) (C8.fnBody st) (C8.fnScope st) .none kV doc pm an cdv ct), osl⟩ ∧ PySem.W.codeIn K cdv q = true ∧ PySem.W.keepIn K (.ref f) = true
abbrev TopF (K : PySem.W.Frag) (x : Str) (st : Stmt) : Prop := ∃ f : Addr, PySem.W.nsIn K mainGlobals x = some (some (.ref f)) ∧ FnF K x x st f
/-- all its arguments are bound -/
abbrev Bnd (x q : Str) (st : Stmt) (ps : List Str) : Prop := ∀ (kV doc pm : Value) (an : Option Addr) (cdv ct : Value) (us : List Value), us.length = ps.length → bindArgs (PySem.W.fnOf x q (C8.fnArgs st) (C8.fnBody st) (C8.fnScope st) .none kV doc pm an cdv ct) ⟨us, []⟩ = pure (ps.zip us)
section
variable {K : PySem.W.Frag} {x q : Str} {st : Stmt} {f : Addr} {oc : Value} {od : Option Addr} {kV doc pm : Value} {an : Option Addr} {cdv ct : Value} {osl : Array (Option Value)}
theorem FnF.of (b : K.lookup f = some ⟨oc, od, .func (PySem.W.fnOf x q (C8.fnArgs st) (C8.fnBody st) (C8.fnScope st) .none kV doc pm an cdv ct), osl⟩) (c : PySem.W.codeIn K cdv q = true) (e : PySem.W.keepIn K (.ref f) = true) : FnF K x q st f := ⟨oc, od, kV, doc, pm, an, cdv, ct, osl, b, c, e⟩
theorem TopF.of (a : PySem.W.nsIn K mainGlobals x = some (some (.ref f))) (b : K.lookup f = some ⟨oc, od, .func (PySem.W.fnOf x x (C8.fnArgs st) (C8.fnBody st) (C8.fnScope st) .none kV doc pm an cdv ct), osl⟩) (c : PySem.W.codeIn K cdv x = true) (e : PySem.W.keepIn K (.ref f) = true) : TopF K x st := ⟨f, a, .of b c e⟩
end
theorem FnF.get {K : PySem.W.Frag} {x q : Str} {st : Stmt} {f : Addr} {ps : List Str} (t : FnF K x q st f) (hb : Bnd x q st ps) : ∃ fd : FuncData, C8.Fun K x q st f fd ∧ L2.Binds K fd ps [] ∧ PySem.W.keepIn K (.ref f) = true := by
  obtain ⟨oc, od, kV, doc, pm, an, cdv, ct, osl, l, c, k⟩ := t
  have F : C8.Fun K x q st f (PySem.W.fnOf x q (C8.fnArgs st) (C8.fnBody st) (C8.fnScope st) .none kV doc pm an cdv ct) := ⟨oc, od, .none, kV, doc, pm, an, cdv, ct, osl, rfl, l, c⟩
  exact ⟨_, F, F.binds rfl hb, k⟩
theorem TopF.get {K : PySem.W.Frag} {h : Heap} {mg : Str → Option Value} {x : Str} {st : Stmt} {ps : List Str} (t : TopF K x st) (X : K.In h) (G : h.Ns mainGlobals mg) (hb : Bnd x x st ps) : ∃ (f : Addr) (fd : FuncData), C8.Def K mg x st f fd ∧ L2.Binds K fd ps [] := by
  obtain ⟨f, n, t⟩ := t
  obtain ⟨fd, F, b, k⟩ := t.get hb
  exact ⟨f, fd, ⟨F, PySem.W.mg_of X G n, k⟩, b⟩
/-- a class of the two -/
structure ClF (K : PySem.W.Frag) (CW C : Addr) : Prop where
  pg : PySem.W.plainGet K C Str.empty = true
  hd : PySem.W.hasDictIn K C = true
  po : PySem.W.plainOver K C = true
  sa : PySem.W.findIn K (.ref C) "__setattr__" = some (some (.builtin "object.__setattr__"))
  nF : PySem.W.findIn K (.ref C) "folk" = some none
  nH : PySem.W.findIn K (.ref C) "houses" = some none
  n1 : PySem.W.findIn K (.ref C) "kept_folk" = some none
  n2 : PySem.W.findIn K (.ref C) "kept_houses" = some none
  n3 : PySem.W.findIn K (.ref C) "kept_half" = some none
  ha : PySem.W.findIn K (.ref C) "__class__" = some (some (.builtin "object.__class__"))
  hn : PySem.W.specialIn K (.builtin "object.__class__") "__get__" = some (some (.builtin "getset_descriptor.__get__"))
  ht : PySem.W.takesIn K (.builtin "object.__class__") = some true
  hm : PySem.W.mroIn K C (.type "object") = some true
  ic : PySem.W.isClsIn K CW = true
  ty : PySem.W.typeIn K (.ref CW) = some (.type "type")
  su : PySem.W.subIn K (.ref C) (.ref CW) = some true
  nf : PySem.W.notFirst K C (.ref CW) = true
  ne : PySem.W.findIn K (.ref C) "__ne__" = some (some (.builtin "object.__ne__"))
  ms : PySem.W.makesIn K C = true
  kc : PySem.W.keepIn K (.ref C) = true
theorem kit_of {K : PySem.W.Frag} {t : Value} {C : Addr} (h1 : PySem.W.isClsIn K C = true) (h2 : PySem.W.typeIn K (.ref C) = some (.type "type")) (h3 : PySem.W.subIn K t (.ref C) = some true) : PySem.W.kitOne K t (.ref C) = some true := by
  unfold PySem.W.kitOne
  split
  · rfl
  · show (if ((PySem.W.clsIn K C).isSome && PySem.W.typeIn K (.ref C) == some (.type "type")) = true then PySem.W.subIn K t (.ref C) else none) = some true
    have e1 : (PySem.W.clsIn K C).isSome = true := h1
    rw [e1, h2, h3]
    rfl
theorem ClF.cl {K : PySem.W.Frag} {CW C : Addr} (F : ClF K CW C) : Cl K CW C :=
  ⟨⟨F.pg, F.hd, F.po, F.sa⟩, F.nF, F.nH, F.n1, F.n2, F.n3, F.ha, F.hn, F.ht, F.hm, kit_of F.ic F.ty F.su, F.nf, F.ne⟩
theorem all_mk {P : Program} {w : World} {K : PySem.W.Frag} {h : Heap} {mg : Str → Option Value} {fa CW CR fi fr fk fe : Addr} {tf th ts : Tok} (X : K.In h) (G : h.Ns mainGlobals mg) (hfa : mg "law" = some (.ref fa))
    (d0 : TopF K "is_integer" sInt)
    (d1 : TopF K "is_within" sWithin)
    (d2 : TopF K "is_pair" sPair)
    (d3 : TopF K "are_rising" sRising)
    (d4 : TopF K "is_holder_of" sHolderOf)
    (d5 : TopF K "are_shares" sShares)
    (d6 : TopF K "raw_web" sRaw)
    (d7 : TopF K "is_house" sIsHouse)
    (d8 : TopF K "check_house" sChHouse)
    (d9 : TopF K "is_holder" sIsHolder)
    (d10 : TopF K "check_holder" sChHolder)
    (d11 : TopF K "held_of" sHeldOf)
    (d12 : TopF K "held" sHeld)
    (d13 : TopF K "sold" sSold)
    (d14 : TopF K "check_shares" sChShares)
    (d15 : TopF K "founded" sFounded)
    (d16 : TopF K "_law_pool" sPool)
    (d17 : TopF K "_law_draw" sDraw)
    (d18 : TopF K "_law_holder" sHolder)
    (d19 : TopF K "_law_told" sTold)
    (d20 : TopF K "_law_web" sWeb)
    (d21 : TopF K "law" sLaw)
    (aW : PySem.W.nsIn K mainGlobals "Web" = some (some (.ref CW))) (aR : PySem.W.nsIn K mainGlobals "RawWeb" = some (some (.ref CR)))
    (iW : PySem.W.findIn K (.ref CW) "__init__" = some (some (.ref fi))) (iR : PySem.W.findIn K (.ref CR) "__init__" = some (some (.ref fr))) (kW : PySem.W.findIn K (.ref CW) "keep" = some (some (.ref fk))) (kR : PySem.W.findIn K (.ref CR) "keep" = some (some (.ref fk)))
    (eW : PySem.W.findIn K (.ref CW) "__eq__" = some (some (.ref fe))) (eR : PySem.W.findIn K (.ref CR) "__eq__" = some (some (.ref fe)))
    (fi1 : PySem.W.isFn K (.ref fi) = true) (fi2 : FnF K "__init__" "Web.__init__" sWInit fi)
    (fr1 : PySem.W.isFn K (.ref fr) = true) (fr2 : FnF K "__init__" "RawWeb.__init__" sRInit fr)
    (fk1 : PySem.W.isFn K (.ref fk) = true) (fk2 : FnF K "keep" "Web.keep" sKeep fk)
    (fe1 : PySem.W.isFn K (.ref fe) = true) (fe2 : FnF K "__eq__" "Web.__eq__" sEq fe)
    (cW : ClF K CW CW) (cR : ClF K CW CR)
    (z_isi : PySem.W.nsIn K mainGlobals "isinstance" = some none) (z_int : PySem.W.nsIn K mainGlobals "int" = some none) (z_bool : PySem.W.nsIn K mainGlobals "bool" = some none) (z_str : PySem.W.nsIn K mainGlobals "str" = some none) (z_tuple : PySem.W.nsIn K mainGlobals "tuple" = some none) (z_list : PySem.W.nsIn K mainGlobals "list" = some none) (z_len : PySem.W.nsIn K mainGlobals "len" = some none) (z_all : PySem.W.nsIn K mainGlobals "all" = some none) (z_range : PySem.W.nsIn K mainGlobals "range" = some none) (z_enum : PySem.W.nsIn K mainGlobals "enumerate" = some none) (z_sorted : PySem.W.nsIn K mainGlobals "sorted" = some none) (z_abs : PySem.W.nsIn K mainGlobals "abs" = some none) (z_sum : PySem.W.nsIn K mainGlobals "sum" = some none)
    (m_mf : PySem.W.nsIn K mainGlobals "MOST_FOLK" = some (some (.int 6 tf))) (m_mh : PySem.W.nsIn K mainGlobals "MOST_HOUSES" = some (some (.int 12 th))) (m_ms : PySem.W.nsIn K mainGlobals "MOST_SHARES" = some (some (.int 15 ts))) :
    ∃ fd : FuncData, (∀ (s : Shared) (v : Value), BindsTo s fd ⟨[v], []⟩ [("_law_script", v)]) ∧ ∀ base : Heap, K.In base → base.Ns mainGlobals mg → FnOk P w K mg base CX0 8 fa fd ["_law_script"] (spLaw K) := by
  have B : Bi mg := ⟨PySem.W.mg_none_of X G z_isi, PySem.W.mg_none_of X G z_int, PySem.W.mg_none_of X G z_bool, PySem.W.mg_none_of X G z_str, PySem.W.mg_none_of X G z_tuple, PySem.W.mg_none_of X G z_list, PySem.W.mg_none_of X G z_len, PySem.W.mg_none_of X G z_all, PySem.W.mg_none_of X G z_range, PySem.W.mg_none_of X G z_enum, PySem.W.mg_none_of X G z_sorted, PySem.W.mg_none_of X G z_abs, PySem.W.mg_none_of X G z_sum, ⟨_, PySem.W.mg_of X G m_mf, ⟨_, rfl⟩⟩, ⟨_, PySem.W.mg_of X G m_mh, ⟨_, rfl⟩⟩, ⟨_, PySem.W.mg_of X G m_ms, ⟨_, rfl⟩⟩⟩
  have hW := PySem.W.mg_of X G aW
  have hR := PySem.W.mg_of X G aR
  have TW := cW.cl
  have TR := cR.cl
  obtain ⟨_, e0, D0, b0⟩ := d0.get (ps := ["thing"]) X G fun _ _ _ _ _ _ us hl => match us, hl with | [_], _ => rfl
  obtain ⟨_, e1, D1, b1⟩ := d1.get (ps := ["thing", "least", "most"]) X G fun _ _ _ _ _ _ us hl => match us, hl with | [_, _, _], _ => rfl
  obtain ⟨_, e2, D2, b2⟩ := d2.get (ps := ["thing"]) X G fun _ _ _ _ _ _ us hl => match us, hl with | [_], _ => rfl
  obtain ⟨_, e3, D3, b3⟩ := d3.get (ps := ["things"]) X G fun _ _ _ _ _ _ us hl => match us, hl with | [_], _ => rfl
  obtain ⟨_, e4, D4, b4⟩ := d4.get (ps := ["thing", "folk", "houses"]) X G fun _ _ _ _ _ _ us hl => match us, hl with | [_, _, _], _ => rfl
  obtain ⟨_, e5, D5, b5⟩ := d5.get (ps := ["thing", "folk", "houses"]) X G fun _ _ _ _ _ _ us hl => match us, hl with | [_, _, _], _ => rfl
  obtain ⟨_, e6, D6, b6⟩ := d6.get (ps := ["folk", "houses"]) X G fun _ _ _ _ _ _ us hl => match us, hl with | [_, _], _ => rfl
  obtain ⟨_, e7, D7, b7⟩ := d7.get (ps := ["web", "thing"]) X G fun _ _ _ _ _ _ us hl => match us, hl with | [_, _], _ => rfl
  obtain ⟨_, e8, D8, b8⟩ := d8.get (ps := ["web", "thing"]) X G fun _ _ _ _ _ _ us hl => match us, hl with | [_, _], _ => rfl
  obtain ⟨_, e9, D9, b9⟩ := d9.get (ps := ["web", "thing"]) X G fun _ _ _ _ _ _ us hl => match us, hl with | [_, _], _ => rfl
  obtain ⟨_, e10, D10, b10⟩ := d10.get (ps := ["web", "thing"]) X G fun _ _ _ _ _ _ us hl => match us, hl with | [_, _], _ => rfl
  obtain ⟨_, e11, D11, b11⟩ := d11.get (ps := ["web", "house", "holder"]) X G fun _ _ _ _ _ _ us hl => match us, hl with | [_, _, _], _ => rfl
  obtain ⟨_, e12, D12, b12⟩ := d12.get (ps := ["web", "house", "holder"]) X G fun _ _ _ _ _ _ us hl => match us, hl with | [_, _, _], _ => rfl
  obtain ⟨_, e13, D13, b13⟩ := d13.get (ps := ["web", "house", "share", "holder"]) X G fun _ _ _ _ _ _ us hl => match us, hl with | [_, _, _, _], _ => rfl
  obtain ⟨_, e14, D14, b14⟩ := d14.get (ps := ["web", "thing"]) X G fun _ _ _ _ _ _ us hl => match us, hl with | [_, _], _ => rfl
  obtain ⟨_, e15, D15, b15⟩ := d15.get (ps := ["web", "shares"]) X G fun _ _ _ _ _ _ us hl => match us, hl with | [_, _], _ => rfl
  obtain ⟨_, e16, D16, b16⟩ := d16.get (ps := ["_law_script"]) X G fun _ _ _ _ _ _ us hl => match us, hl with | [_], _ => rfl
  obtain ⟨_, e17, D17, b17⟩ := d17.get (ps := ["_law_pool_here", "_law_many"]) X G fun _ _ _ _ _ _ us hl => match us, hl with | [_, _], _ => rfl
  obtain ⟨_, e18, D18, b18⟩ := d18.get (ps := ["_law_pool_here", "_law_folk", "_law_houses", "_law_lean"]) X G fun _ _ _ _ _ _ us hl => match us, hl with | [_, _, _, _], _ => rfl
  obtain ⟨_, e19, D19, b19⟩ := d19.get (ps := ["_law_pool_here", "_law_most_folk", "_law_most_houses"]) X G fun _ _ _ _ _ _ us hl => match us, hl with | [_, _, _], _ => rfl
  obtain ⟨_, e20, D20, b20⟩ := d20.get (ps := ["_law_told_here"]) X G fun _ _ _ _ _ _ us hl => match us, hl with | [_], _ => rfl
  obtain ⟨_, Fi, bi, Ki⟩ := fi2.get (ps := ["self", "folk", "houses"]) fun _ _ _ _ _ _ us hl => match us, hl with | [_, _, _], _ => rfl
  obtain ⟨_, Fr, br, Kr⟩ := fr2.get (ps := ["self", "folk", "houses"]) fun _ _ _ _ _ _ us hl => match us, hl with | [_, _, _], _ => rfl
  obtain ⟨_, Fk, bk, Kk⟩ := fk2.get (ps := ["self", "folk", "houses"]) fun _ _ _ _ _ _ us hl => match us, hl with | [_, _, _], _ => rfl
  obtain ⟨_, Fe, be, Ke⟩ := fe2.get (ps := ["self", "other"]) fun _ _ _ _ _ _ us hl => match us, hl with | [_, _], _ => rfl
  obtain ⟨fl, nl, oc, od, kV, doc, pm, an, cdv, ct, osl, ll, cl, kl⟩ := d21
  have el := hfa.symm.trans (PySem.W.mg_of X G nl)
  cases el
  have FL : C8.Fun K "law" "law" sLaw fa (PySem.W.fnOf "law" "law" (C8.fnArgs sLaw) (C8.fnBody sLaw) (C8.fnScope sLaw) .none kV doc pm an cdv ct) := ⟨oc, od, .none, kV, doc, pm, an, cdv, ct, osl, rfl, ll, cl⟩
  refine ⟨PySem.W.fnOf "law" "law" (C8.fnArgs sLaw) (C8.fnBody sLaw) (C8.fnScope sLaw) .none kV doc pm an cdv ct, fun s v => .of_eq rfl, fun base _ _ => ?_⟩
  have G_int := cal_int (P := P) (w := w) (base := base) D0 b0 B
  have G_within := cal_within D1 b1 G_int
  have G_pair := cal_pair (P := P) (w := w) (base := base) D2 b2 B
  have G_holderOf := cal_holderOf D4 b4 B G_pair G_within
  have G_rising := cal_rising (P := P) (w := w) (base := base) D3 b3 B
  have G_shares := cal_shares D5 b5 B G_holderOf G_rising
  have G_keepW := met_keep (P := P) (w := w) (base := base) ⟨kW, fk1, Kk⟩ Fk bk B TW
  have G_keepR := met_keep (P := P) (w := w) (base := base) ⟨kR, fk1, Kk⟩ Fk bk B TR
  have G_raw := mak_raw ⟨cR.ms, iR, fr1, cR.kc⟩ hR Fr br G_keepR
  have G_web := mak_web ⟨cW.ms, iW, fi1, cW.kc⟩ hW Fi bi B G_within G_shares G_keepW
  have E := ok_eq (P := P) (w := w) (base := base) Fe B hW
  have G_rawL := cal_raw true D6 b6 B G_raw
  have G_rawT := cal_raw false D6 b6 B G_raw
  have G_isHouse := cal_isHouse (CW := CW) D7 b7 B G_within
  have G_chHouse := cal_chHouse D8 b8 G_isHouse
  have G_isHolder := cal_isHolder (CW := CW) D9 b9 B G_holderOf
  have G_chHolder := cal_chHolder D10 b10 G_isHolder
  have G_heldOf := cal_heldOf (P := P) (w := w) (base := base) (CW := CW) D11 b11 B
  have G_held := cal_held D12 b12 G_chHouse G_chHolder G_heldOf
  have G_sold := cal_sold D13 b13 B G_chHouse G_within G_chHolder G_rawL
  have G_chShares := cal_chShares (CW := CW) D14 b14 B G_shares
  have G_founded := cal_founded D15 b15 G_chShares G_rawT
  have G_pool := cal_pool (P := P) (w := w) (base := base) D16 b16 B
  have G_draw := cal_draw (P := P) (w := w) (base := base) D17 b17 B
  have G_holder := cal_holder D18 b18 G_draw
  have G_told := cal_told D19 b19 B G_draw G_holder
  have G_webL := cal_web D20 b20 G_web
  exact cal_law FL B hW TW TR eW eR fe1 E be G_pool G_draw G_holder G_told G_webL G_sold G_held G_founded
end K6

set_option Elab.async false
open PySem PySem.W PyProof.Rows in
set_option maxRecDepth 100000 in
set_option maxHeartbeats 0 in
theorem PySem.Challenge.cw_roundowned_k06_whole_sales_and_foundings_holds : PySem.Challenge.rw_roundowned_k06_whole_sales_and_foundings.Holds := by
  w_on; o_law; k_head; (case hw => w_witness2)
  k_fill
  refine L2.walk_of (l := PySem.Challenge.rw_roundowned_k06_whole_sales_and_foundings) (n := 63) (k := 8) (x := "_law_script") (CX := fun _ => L2.CX0) (sp := fun w => K6.spLaw _) rfl (by decide) rfl ⟨rfl, by decide, by decide⟩ (fun w h Y => PySem.W.kIn_of Y) ?F (fun _ _ a ns hl _ hS => ⟨a, ns, rfl, hS, hl, fun _ => rfl⟩) fun _ _ _ _ _ z => z
  case F =>
    intro w mg fa h KX G hmg
    refine' K6.all_mk KX G hmg ?d0 ?d1 ?d2 ?d3 ?d4 ?d5 ?d6 ?d7 ?d8 ?d9 ?d10 ?d11 ?d12 ?d13 ?d14 ?d15 ?d16 ?d17 ?d18 ?d19 ?d20 ?d21 ?aW ?aR ?iW ?iR ?kW ?kR ?eW ?eR ?fi1 ?fi2 ?fr1 ?fr2 ?fk1 ?fk2 ?fe1 ?fe2 ?cW ?cR ?z_isi ?z_int ?z_bool ?z_str ?z_tuple ?z_list ?z_len ?z_all ?z_range ?z_enum ?z_sorted ?z_abs ?z_sum ?m_mf ?m_mh ?m_ms
    (case d0 => (refine' K6.TopF.of ?a ?b ?c ?e; (case a => k_is); (case b => k_is); (case c => k_is); (case e => k_is)))
    (case d1 => (refine' K6.TopF.of ?a ?b ?c ?e; (case a => k_is); (case b => k_is); (case c => k_is); (case e => k_is)))
    (case d2 => (refine' K6.TopF.of ?a ?b ?c ?e; (case a => k_is); (case b => k_is); (case c => k_is); (case e => k_is)))
    (case d3 => (refine' K6.TopF.of ?a ?b ?c ?e; (case a => k_is); (case b => k_is); (case c => k_is); (case e => k_is)))
    (case d4 => (refine' K6.TopF.of ?a ?b ?c ?e; (case a => k_is); (case b => k_is); (case c => k_is); (case e => k_is)))
    (case d5 => (refine' K6.TopF.of ?a ?b ?c ?e; (case a => k_is); (case b => k_is); (case c => k_is); (case e => k_is)))
    (case d6 => (refine' K6.TopF.of ?a ?b ?c ?e; (case a => k_is); (case b => k_is); (case c => k_is); (case e => k_is)))
    (case d7 => (refine' K6.TopF.of ?a ?b ?c ?e; (case a => k_is); (case b => k_is); (case c => k_is); (case e => k_is)))
    (case d8 => (refine' K6.TopF.of ?a ?b ?c ?e; (case a => k_is); (case b => k_is); (case c => k_is); (case e => k_is)))
    (case d9 => (refine' K6.TopF.of ?a ?b ?c ?e; (case a => k_is); (case b => k_is); (case c => k_is); (case e => k_is)))
    (case d10 => (refine' K6.TopF.of ?a ?b ?c ?e; (case a => k_is); (case b => k_is); (case c => k_is); (case e => k_is)))
    (case d11 => (refine' K6.TopF.of ?a ?b ?c ?e; (case a => k_is); (case b => k_is); (case c => k_is); (case e => k_is)))
    (case d12 => (refine' K6.TopF.of ?a ?b ?c ?e; (case a => k_is); (case b => k_is); (case c => k_is); (case e => k_is)))
    (case d13 => (refine' K6.TopF.of ?a ?b ?c ?e; (case a => k_is); (case b => k_is); (case c => k_is); (case e => k_is)))
    (case d14 => (refine' K6.TopF.of ?a ?b ?c ?e; (case a => k_is); (case b => k_is); (case c => k_is); (case e => k_is)))
    (case d15 => (refine' K6.TopF.of ?a ?b ?c ?e; (case a => k_is); (case b => k_is); (case c => k_is); (case e => k_is)))
    (case d16 => (refine' K6.TopF.of ?a ?b ?c ?e; (case a => k_is); (case b => k_is); (case c => k_is); (case e => k_is)))
    (case d17 => (refine' K6.TopF.of ?a ?b ?c ?e; (case a => k_is); (case b => k_is); (case c => k_is); (case e => k_is)))
    (case d18 => (refine' K6.TopF.of ?a ?b ?c ?e; (case a => k_is); (case b => k_is); (case c => k_is); (case e => k_is)))
    (case d19 => (refine' K6.TopF.of ?a ?b ?c ?e; (case a => k_is); (case b => k_is); (case c => k_is); (case e => k_is)))
    (case d20 => (refine' K6.TopF.of ?a ?b ?c ?e; (case a => k_is); (case b => k_is); (case c => k_is); (case e => k_is)))
    (case d21 => (refine' K6.TopF.of ?a ?b ?c ?e; (case a => k_is); (case b => k_is); (case c => k_is); (case e => k_is)))
    (case aW => k_is)
    (case aR => k_is)
    (case iW => k_is)
    (case iR => k_is)
    (case kW => k_is)
    (case kR => k_is)
    (case eW => k_is)
    (case eR => k_is)
    (case fi1 => k_is)
    (case fi2 => (refine' K6.FnF.of ?b ?c ?e; (case b => k_is); (case c => k_is); (case e => k_is)))
    (case fr1 => k_is)
    (case fr2 => (refine' K6.FnF.of ?b ?c ?e; (case b => k_is); (case c => k_is); (case e => k_is)))
    (case fk1 => k_is)
    (case fk2 => (refine' K6.FnF.of ?b ?c ?e; (case b => k_is); (case c => k_is); (case e => k_is)))
    (case fe1 => k_is)
    (case fe2 => (refine' K6.FnF.of ?b ?c ?e; (case b => k_is); (case c => k_is); (case e => k_is)))
    (case cW => (refine' ⟨?pg, ?hd, ?po, ?sa, ?nF, ?nH, ?n1, ?n2, ?n3, ?ha, ?hn, ?ht, ?hm, ?ic, ?ty, ?su, ?nf, ?ne, ?ms, ?kc⟩; (case pg => k_is); (case hd => k_is); (case po => k_is); (case sa => k_is); (case nF => k_is); (case nH => k_is); (case n1 => k_is); (case n2 => k_is); (case n3 => k_is); (case ha => k_is); (case hn => k_is); (case ht => k_is); (case hm => k_is); (case ic => k_is); (case ty => k_is); (case su => k_is); (case nf => k_is); (case ne => k_is); (case ms => k_is); (case kc => k_is)))
    (case cR => (refine' ⟨?pg, ?hd, ?po, ?sa, ?nF, ?nH, ?n1, ?n2, ?n3, ?ha, ?hn, ?ht, ?hm, ?ic, ?ty, ?su, ?nf, ?ne, ?ms, ?kc⟩; (case pg => k_is); (case hd => k_is); (case po => k_is); (case sa => k_is); (case nF => k_is); (case nH => k_is); (case n1 => k_is); (case n2 => k_is); (case n3 => k_is); (case ha => k_is); (case hn => k_is); (case ht => k_is); (case hm => k_is); (case ic => k_is); (case ty => k_is); (case su => k_is); (case nf => k_is); (case ne => k_is); (case ms => k_is); (case kc => k_is)))
    (case z_isi => k_is)
    (case z_int => k_is)
    (case z_bool => k_is)
    (case z_str => k_is)
    (case z_tuple => k_is)
    (case z_list => k_is)
    (case z_len => k_is)
    (case z_all => k_is)
    (case z_range => k_is)
    (case z_enum => k_is)
    (case z_sorted => k_is)
    (case z_abs => k_is)
    (case z_sum => k_is)
    (case m_mf => k_is)
    (case m_mh => k_is)
    (case m_ms => k_is)
